import PyProof.Rows.All
import Wide.All
import OpenK.AllK
import Wide.FinOn
import KE.BitLaws
import PySem.Challenge.RW_on0109_01
set_option Elab.async false
set_option maxRecDepth 100000
set_option maxHeartbeats 8000000
set_option compiler.extract_closed false
set_option linter.unusedVariables false
namespace Mine
open PySem PySem.W PyProof.Rows PySem.Calls PySem.SeqAt

/- Top1 -/
def topView : Program := { PySem.Challenge.pw_on0109_01 with main := { PySem.Challenge.pw_on0109_01.main with body := PySem.Challenge.pw_on0109_01.main.body.filter fun s => match s with | .Assign .. => false | _ => true } }
local macro_rules | `(tactic| o_head $H) => `(tactic| (
  refine PySem.W.holds_open (q := topView) (loose := []) (Xt := fun s => xlAt topView [] s && recOk (RowW.records (OpenRow.toRowW (OpenLaw.row PySem.Challenge.rw_on0109_01))) s) (XP := XL topView []) (Yf := Hook.obs $H) (Ya := Hook.val $H) (YP := Hook.says $H) (N := 2324) ?hl (Hook.of $H) (Hook.keeps $H) (fun s e => xl_of s (Bool.and_eq_true_iff.mp e).1) XL.keeps (by rfl) (by rfl) (by rfl) (fun s e => recFacts_of (Bool.and_eq_true_iff.mp e).2) (by rfl) (by first | assumption | decide +kernel) (by decide +kernel) ⟨rfl, rfl, rfl, rfl, rfl, by decide +kernel⟩ ?hw ?hc
  (case hl => intro w; kernel_rfl)))
open_top hd for PySem.Challenge.rw_on0109_01

/- MA -/

abbrev Mem := Addr → Option Obj
abbrev Led := List (Addr × (Obj → Prop))
def Sub (B C : Mem) : Prop := ∀ b o, B b = some o → C b = some o
theorem Sub.rfl {B : Mem} : Sub B B := fun _ _ e => e
theorem Sub.trans {B C D : Mem} (x : Sub B C) (y : Sub C D) : Sub B D := fun b o e => y b o (x b o e)
def ext (B : Mem) (a : Addr) (o : Obj) : Mem := fun b => if b = a then some o else B b
theorem ext_self {B : Mem} {a : Addr} {o : Obj} : ext B a o a = some o := if_pos (Eq.refl _)
theorem ext_ne {B : Mem} {a b : Addr} {o : Obj} (h : b ≠ a) : ext B a o b = B b := if_neg h
theorem ext_cases {B : Mem} {a b : Addr} {o o' : Obj} (e : ext B a o b = some o') : (b = a ∧ o = o') ∨ B b = some o' := by
  unfold ext at e
  split at e
  · rename_i q; exact .inl ⟨q, Option.some.inj e⟩
  · exact .inr e

theorem size_none (h : Heap) : h.get? h.objs.size = none := by
  cases q : h.get? h.objs.size with
  | none => rfl
  | some o => exact absurd (Heap.lt_size q) (Nat.lt_irrefl _)
theorem pres_push {h h₀ : Heap} {o : Obj} (p : ∀ b, h.get? b = none → h₀.get? b = none) : ∀ b, (h.push o).get? b = none → h₀.get? b = none := fun b e => by
  refine p b ?_
  cases q : h.get? b with
  | none => rfl
  | some o' => rw [Heap.get?_push_of_some o q] at e; cases e

structure Grow (M : List Addr) (B₀ : Mem) (s₀ : Shared) (B : Mem) (s : Shared) : Prop where
  same : s = { s₀ with heap := s.heap, toks := s.toks }
  live : ∀ b ∈ M, ∃ o, s₀.heap.get? b = some o
  pres : ∀ b, s.heap.get? b = none → s₀.heap.get? b = none
  keep : ∀ b o, b ∉ M → s₀.heap.get? b = some o → s.heap.get? b = some o
  sub0 : Sub B₀ B
  sub : Sub B s.heap.get?
  fresh : ∀ b o, B b = some o → B₀ b = some o ∨ s₀.heap.get? b = none

def InLed (M : List Addr) (B : Mem) (s₀ : Shared) (L : Addr) (h : Heap) (p : Addr × (Obj → Prop)) : Prop :=
  (∃ o, h.get? p.1 = some o ∧ p.2 o) ∧ p.1 ≠ L ∧ B p.1 = none ∧ (p.1 ∈ M ∨ s₀.heap.get? p.1 = none)

structure St (M : List Addr) (B₀ : Mem) (s₀ : Shared) (B : Mem) (L : Addr) (m : Str → Option Value) (X : Led) (s : Shared) : Prop extends Grow M B₀ s₀ B s where
  ns : s.heap.Ns L m
  lo : s₀.heap.get? L = none
  off : B L = none
  news : ∀ p ∈ X, InLed M B s₀ L s.heap p
  nodup : (X.map (·.1)).Nodup

def upd (m : Str → Option Value) (x : Str) (v : Value) : Str → Option Value := fun y => if y = x then some v else m y
theorem upd_self {m : Str → Option Value} {x : Str} {v : Value} : upd m x v x = some v := if_pos rfl
theorem upd_ne {m : Str → Option Value} {x y : Str} {v : Value} {w : Option Value} (h : m y = w) (hn : (y == x) = false) : upd m x v y = w := by
  unfold upd; rw [if_neg (fun e => by subst e; simp at hn)]; exact h

section
variable {M : List Addr} {B₀ B B' : Mem} {s₀ s s' : Shared} {L : Addr} {m m' : Str → Option Value} {X Y : Led}

/-- any step that keeps everything but the tokens -/
theorem St.tok (S : St M B₀ s₀ B L m X s) (t : Nat) : St M B₀ s₀ B L m X { s with toks := t } :=
  ⟨⟨by have := S.same; rw [this], S.live, S.pres, S.keep, S.sub0, S.sub, S.fresh⟩, S.ns, S.lo, S.off, S.news, S.nodup⟩

/-- the ledger shrinks or is reordered -/
theorem St.sub' (S : St M B₀ s₀ B L m X s) (hs : ∀ p ∈ Y, p ∈ X) (hn : (Y.map (·.1)).Nodup) : St M B₀ s₀ B L m Y s :=
  ⟨S.toGrow, S.ns, S.lo, S.off, fun p hp => S.news p (hs p hp), hn⟩
theorem St.tail {p : Addr × (Obj → Prop)} (S : St M B₀ s₀ B L m (p :: X) s) : St M B₀ s₀ B L m X s :=
  S.sub' (fun _ h => .tail _ h) (List.nodup_cons.mp S.nodup).2
theorem St.swap {p q : Addr × (Obj → Prop)} (S : St M B₀ s₀ B L m (p :: q :: X) s) : St M B₀ s₀ B L m (q :: p :: X) s :=
  S.sub' (fun r h => by simp only [List.mem_cons] at h ⊢; rcases h with h | h | h <;> simp [h]) (by
    have := S.nodup
    simp only [List.map_cons, List.nodup_cons, List.mem_cons, not_or] at this ⊢
    exact ⟨⟨fun e => this.1.1 e.symm, this.2.1⟩, this.1.2, this.2.2⟩)
theorem St.perm (S : St M B₀ s₀ B L m X s) (h : X.Perm Y) : St M B₀ s₀ B L m Y s :=
  S.sub' (fun _ hp => h.mem_iff.mpr hp) ((h.map _).nodup_iff.mp S.nodup)
theorem St.get (S : St M B₀ s₀ B L m X s) {a : Addr} {P : Obj → Prop} (h : (a, P) ∈ X) : ∃ o, s.heap.get? a = some o ∧ P o := (S.news _ h).1
theorem St.lt (S : St M B₀ s₀ B L m X s) {p : Addr × (Obj → Prop)} (h : p ∈ X) : p.1 < s.heap.objs.size := let ⟨_, e, _⟩ := (S.news _ h).1; Heap.lt_size e
/-- the predicate of a ledger entry weakened -/
theorem St.weaken {a : Addr} {P P' : Obj → Prop} (S : St M B₀ s₀ B L m ((a, P) :: X) s) (h : ∀ o, P o → P' o) : St M B₀ s₀ B L m ((a, P') :: X) s :=
  ⟨S.toGrow, S.ns, S.lo, S.off, fun p hp => by
    rcases List.mem_cons.mp hp with rfl | hp
    · obtain ⟨⟨o, e, ho⟩, r⟩ := S.news _ (.head _); exact ⟨⟨o, e, h o ho⟩, r⟩
    · exact S.news p (.tail _ hp), S.nodup⟩

/-- the locals change, nothing else -/
theorem St.locals (S : St M B₀ s₀ B L m X s) {h' : Heap} {t : Nat} (hn : h'.Ns L m') (hs : Heap.SameBut L s.heap h') : St M B₀ s₀ B L m' X { s with heap := h', toks := t } := by
  have hM : ∀ b o, s₀.heap.get? b = some o → b ≠ L := fun b o e q => by
    subst q; rw [S.lo] at e; cases e
  refine ⟨⟨by have := S.same; rw [this], S.live, fun b e => ?_, fun b o hb e => (hs.2 b (hM b o e)).trans (S.keep b o hb e), S.sub0, fun b o e => ?_, S.fresh⟩, hn, S.lo, S.off, fun p hp => ?_, S.nodup⟩
  · by_cases q : b = L
    · subst q; exact S.lo
    · exact S.pres b ((hs.2 b q).symm.trans e)
  · refine (hs.2 b fun q => ?_).trans (S.sub b o e)
    rw [q, S.off] at e; cases e
  · obtain ⟨⟨o, e, ho⟩, h1, h2, h3⟩ := S.news p hp
    exact ⟨⟨o, (hs.2 _ h1).trans e, ho⟩, h1, h2, h3⟩

/-- a new object -/
theorem St.push (S : St M B₀ s₀ B L m X s) (o : Obj) {P : Obj → Prop} {t : Nat} (hP : P o) (hf : o.isFreed = false := by rfl) : St M B₀ s₀ B L m ((s.heap.objs.size, P) :: X) { s with heap := s.heap.push o, toks := t } := by
  have hk : ∀ b o', s.heap.get? b = some o' → (s.heap.push o).get? b = some o' := fun b o' e => Heap.get?_push_of_some o e
  refine ⟨⟨by have := S.same; rw [this], S.live, pres_push S.pres, fun b o' hb e => hk _ _ (S.keep b o' hb e), S.sub0, fun b o' e => hk _ _ (S.sub b o' e), S.fresh⟩, S.ns.keeps hk, S.lo, S.off, fun p hp => ?_, ?_⟩
  · rcases List.mem_cons.mp hp with rfl | hp
    · refine ⟨⟨o, Heap.get?_push_size _ hf, hP⟩, fun q => ?_, ?_, .inr (S.pres _ (size_none _))⟩
      · exact absurd S.ns.lt (by rw [← q]; exact Nat.lt_irrefl _)
      · cases q : B s.heap.objs.size with
        | none => rfl
        | some o' => exact absurd (Heap.lt_size (S.sub _ _ q)) (Nat.lt_irrefl _)
    · obtain ⟨⟨o', e, ho⟩, r⟩ := S.news p hp
      exact ⟨⟨o', hk _ _ e, ho⟩, r⟩
  · refine List.nodup_cons.mpr ⟨fun h => ?_, S.nodup⟩
    obtain ⟨p, hp, e⟩ := List.mem_map.mp h
    exact absurd (S.lt hp) (by rw [e]; exact Nat.lt_irrefl _)

/-- a new object that is laid down for good -/
theorem St.pushB (S : St M B₀ s₀ B L m X s) (o : Obj) {t : Nat} (hf : o.isFreed = false := by rfl) :
    St M B₀ s₀ (ext B s.heap.objs.size o) L m X { s with heap := s.heap.push o, toks := t } ∧ Sub B (ext B s.heap.objs.size o) := by
  have hk : ∀ b o', s.heap.get? b = some o' → (s.heap.push o).get? b = some o' := fun b o' e => Heap.get?_push_of_some o e
  have sb : Sub B (ext B s.heap.objs.size o) := fun b o' e => by
    rw [ext_ne (Nat.ne_of_lt (Heap.lt_size (S.sub _ _ e)))]; exact e
  refine ⟨⟨⟨by have := S.same; rw [this], S.live, pres_push S.pres, fun b o' hb e => hk _ _ (S.keep b o' hb e), S.sub0.trans sb, ?_, ?_⟩, S.ns.keeps hk, S.lo, ?_, fun p hp => ?_, S.nodup⟩, sb⟩
  · intro b o' e
    rcases ext_cases e with ⟨q, rfl⟩ | e
    · rw [q]; exact Heap.get?_push_size _ hf
    · exact hk _ _ (S.sub _ _ e)
  · intro b o' e
    rcases ext_cases e with ⟨q, rfl⟩ | e
    · rw [q]; exact .inr (S.pres _ (size_none _))
    · exact S.fresh _ _ e
  · rw [ext_ne (Nat.ne_of_lt S.ns.lt)]; exact S.off
  · obtain ⟨⟨o', e, ho⟩, h1, h2, h3⟩ := S.news p hp
    exact ⟨⟨o', hk _ _ e, ho⟩, h1, by rw [ext_ne (Nat.ne_of_lt (Heap.lt_size e))]; exact h2, h3⟩

/-- an object of the ledger is laid down for good -/
theorem St.freeze {a : Addr} {P : Obj → Prop} (S : St M B₀ s₀ B L m ((a, P) :: X) s) (ha : a ∉ M) :
    ∃ B' o, B' a = some o ∧ P o ∧ Sub B B' ∧ St M B₀ s₀ B' L m X s := by
  obtain ⟨⟨o, e, ho⟩, h1, h2, h3⟩ := S.news _ (.head _)
  have sb : Sub B (ext B a o) := fun b o' e' => by
    have : b ≠ a := fun q => by rw [q, h2] at e'; cases e'
    rw [ext_ne this]; exact e'
  refine ⟨ext B a o, o, ext_self, ho, sb, ⟨⟨S.same, S.live, S.pres, S.keep, S.sub0.trans sb, ?_, ?_⟩, S.ns, S.lo, ?_, fun p hp => ?_, (List.nodup_cons.mp S.nodup).2⟩⟩
  · intro b o' e'
    rcases ext_cases e' with ⟨q, rfl⟩ | e'
    · rw [q]; exact e
    · exact S.sub _ _ e'
  · intro b o' e'
    rcases ext_cases e' with ⟨q, rfl⟩ | e'
    · rw [q]; exact .inr (h3.resolve_left ha)
    · exact S.fresh _ _ e'
  · rw [ext_ne (Ne.symm h1)]; exact S.off
  · obtain ⟨x1, x2, x3, x4⟩ := S.news p (.tail _ hp)
    refine ⟨x1, x2, ?_, x4⟩
    have : p.1 ≠ a := fun q => (List.nodup_cons.mp S.nodup).1 (List.mem_map.mpr ⟨p, hp, q⟩)
    rw [ext_ne this]; exact x3

/-- the head of the ledger changes -/
theorem St.upd {a : Addr} {P P' : Obj → Prop} (S : St M B₀ s₀ B L m ((a, P) :: X) s) {h' : Heap} {t : Nat} {o' : Obj} (hs : Heap.SameBut a s.heap h') (e' : h'.get? a = some o') (hP : P' o') :
    St M B₀ s₀ B L m ((a, P') :: X) { s with heap := h', toks := t } := by
  obtain ⟨⟨o, e, ho⟩, h1, h2, h3⟩ := S.news _ (.head _)
  have hM : ∀ b o, b ∉ M → s₀.heap.get? b = some o → b ≠ a := fun b o hb e q => by
    rcases h3 with h3 | h3
    · exact hb (q ▸ h3)
    · rw [q, h3] at e; cases e
  refine ⟨⟨by have := S.same; rw [this], S.live, fun b eb => ?_, fun b o hb e => (hs.2 b (hM b o hb e)).trans (S.keep b o hb e), S.sub0, fun b o e => ?_, S.fresh⟩, S.ns.sameBut hs (Ne.symm h1), S.lo, S.off, fun p hp => ?_, S.nodup⟩
  · by_cases q : b = a
    · rw [q, e'] at eb; cases eb
    · exact S.pres b ((hs.2 b q).symm.trans eb)
  · refine (hs.2 b fun q => ?_).trans (S.sub b o e)
    rw [q, h2] at e; cases e
  · rcases List.mem_cons.mp hp with rfl | hp
    · exact ⟨⟨o', e', hP⟩, h1, h2, h3⟩
    · obtain ⟨⟨o, e, ho⟩, r⟩ := S.news p (.tail _ hp)
      refine ⟨⟨o, (hs.2 _ fun q => ?_).trans e, ho⟩, r⟩
      exact (List.nodup_cons.mp S.nodup).1 (List.mem_map.mpr ⟨p, hp, q⟩)

/-- the head of the ledger is let go, whatever became of it -/
theorem St.drop {a : Addr} {P : Obj → Prop} (S : St M B₀ s₀ B L m ((a, P) :: X) s) (ha : a ∉ M) {h' : Heap} {t : Nat} (hs : Heap.ExtBut a s.heap h') : St M B₀ s₀ B L m X { s with heap := h', toks := t } := by
  obtain ⟨_, h1, h2, h3⟩ := S.news _ (.head _)
  have s0a := h3.resolve_left ha
  obtain ⟨oL, es, ep, eL, rL⟩ := id S.ns
  refine ⟨⟨by have := S.same; rw [this], S.live, fun b e => ?_, fun b o hb e => hs b o (fun q => by rw [q, s0a] at e; cases e) (S.keep b o hb e), S.sub0, fun b o e => hs b o (fun q => by rw [q, h2] at e; cases e) (S.sub b o e), S.fresh⟩, ⟨oL, es, ep, hs _ _ (Ne.symm h1) eL, rL⟩, S.lo, S.off, fun p hp => ?_, (List.nodup_cons.mp S.nodup).2⟩
  · by_cases q : b = a
    · rw [q]; exact s0a
    · refine S.pres b ?_
      cases q2 : s.heap.get? b with
      | none => rfl
      | some o => rw [hs b o q q2] at e; cases e
  · obtain ⟨⟨o, e, ho⟩, r⟩ := S.news p (.tail _ hp)
    exact ⟨⟨o, hs _ _ (fun q => (List.nodup_cons.mp S.nodup).1 (List.mem_map.mpr ⟨p, hp, q⟩)) e, ho⟩, r⟩
theorem Grow.notM {M' : List Addr} {B₁ B₂ : Mem} (G : Grow M' B₁ s₀ B₂ s) : s.heap.objs.size ∉ M' := fun h => by
  obtain ⟨o, e⟩ := G.live _ h
  rw [G.pres _ (size_none _)] at e; cases e

/-- behind a call: M' are the ledger's head objects Y, now Y' -/
theorem St.callM {M' : List Addr} {Y' : Led} (S : St M B₀ s₀ B L m (Y ++ X) s) (G : Grow M' B s B' s') (hM : ∀ b ∈ M', b ∈ Y.map (·.1)) (hY : Y'.map (·.1) = Y.map (·.1))
    (hn : ∀ p ∈ Y', ∃ o, s'.heap.get? p.1 = some o ∧ p.2 o) : St M B₀ s₀ B' L m (Y' ++ X) s' := by
  have inY : ∀ b ∈ M', ∃ p ∈ Y, p.1 = b := fun b hb => by obtain ⟨p, hp, e⟩ := List.mem_map.mp (hM b hb); exact ⟨p, hp, e⟩
  have nd := S.nodup
  rw [List.map_append, List.nodup_append] at nd
  have B'none : ∀ b o, B b = none → s.heap.get? b = some o → B' b = none := fun b o' hb hs => by
    cases q : B' b with
    | none => rfl
    | some o =>
      rcases G.fresh b o q with h | h
      · rw [hb] at h; cases h
      · rw [hs] at h; cases h
  have LM : L ∉ M' := fun h => by obtain ⟨p, hp, e⟩ := inY L h; exact (S.news p (List.mem_append_left _ hp)).2.1 e
  obtain ⟨oL, es, ep, eL, rL⟩ := id S.ns
  refine ⟨⟨by rw [G.same, S.same], S.live, fun b e => S.pres b (G.pres b e), fun b o hb e => ?_, S.sub0.trans G.sub0, G.sub, fun b o e => ?_⟩, ⟨oL, es, ep, G.keep _ _ LM eL, rL⟩, S.lo, B'none _ _ S.off eL, fun p hp => ?_, ?_⟩
  · refine G.keep b o (fun h => ?_) (S.keep b o hb e)
    obtain ⟨p, hp, q⟩ := inY b h
    rcases (S.news p (List.mem_append_left _ hp)).2.2.2 with h | h
    · exact hb (q ▸ h)
    · rw [q, e] at h; cases h
  · rcases G.fresh b o e with h | h
    · exact S.fresh b o h
    · exact .inr (S.pres b h)
  · rcases List.mem_append.mp hp with hp | hp
    · have : p.1 ∈ Y.map (·.1) := by rw [← hY]; exact List.mem_map_of_mem hp
      obtain ⟨q, hq, e⟩ := List.mem_map.mp this
      obtain ⟨⟨o, e1, _⟩, x2, x3, x4⟩ := S.news q (List.mem_append_left _ hq)
      rw [e] at x2 x3 x4 e1
      exact ⟨hn p hp, x2, B'none _ _ x3 e1, x4⟩
    · obtain ⟨⟨o, e1, ho⟩, x2, x3, x4⟩ := S.news p (List.mem_append_right _ hp)
      refine ⟨⟨o, G.keep _ _ (fun h => ?_) e1, ho⟩, x2, B'none _ _ x3 e1, x4⟩
      exact nd.2.2 p.1 (hM _ h) p.1 (List.mem_map_of_mem hp) rfl
  · rw [List.map_append, hY, ← List.map_append]; exact S.nodup

theorem St.call (S : St M B₀ s₀ B L m X s) (G : Grow [] B s B' s') : St M B₀ s₀ B' L m X s' :=
  S.callM (Y := []) (Y' := []) G (fun _ h => nomatch h) rfl fun _ h => nomatch h

/-- at a function's entry: Y are the objects that it may change -/
theorem St.enter {h₁ : Heap} {t : Nat} (F : Fr s.heap s.heap.objs.size h₁ m) (hB : Sub B s.heap.get?) (hM : ∀ b ∈ M, ∃ o, s.heap.get? b = some o)
    (hY : ∀ p ∈ Y, (∃ o, s.heap.get? p.1 = some o ∧ p.2 o) ∧ B p.1 = none ∧ p.1 ∈ M) (hd : (Y.map (·.1)).Nodup) :
    St M B s B s.heap.objs.size m Y { s with heap := h₁, toks := t } :=
  ⟨⟨rfl, hM, (fun b e => by
    cases q : s.heap.get? b with
    | none => rfl
    | some o => rw [F.keep b o q] at e; cases e), fun b o _ e => F.keep b o e, .rfl, fun b o e => F.keep _ _ (hB _ _ e), fun b o e => .inl e⟩, F.ns, size_none _, (by
    cases q : B s.heap.objs.size with
    | none => rfl
    | some o' => exact absurd (Heap.lt_size (hB _ _ q)) (Nat.lt_irrefl _)), fun p hp => by
    obtain ⟨⟨o, e, ho⟩, h2, h3⟩ := hY p hp
    exact ⟨⟨o, F.keep _ _ e, ho⟩, Nat.ne_of_lt (Heap.lt_size e), h2, .inl h3⟩, hd⟩
end

/- MB -/

abbrev At (g : Mem) (a : Addr) (P : Obj → Prop) : Prop := ∃ o, g a = some o ∧ P o
theorem At.mono {g g' : Mem} {a : Addr} {P : Obj → Prop} (x : At g a P) (h : Sub g g') : At g' a P := let ⟨o, e, p⟩ := x; ⟨o, h _ _ e, p⟩
def IsLs (vs : List Value) : Obj → Prop := fun o => ∃ n, o = { cls := .type "list", dict := none, data := .seq vs.toArray n, slots := #[] }
def IsTp (vs : List Value) : Obj → Prop := fun o => ∃ n, o = { cls := .type "tuple", dict := none, data := .seq vs.toArray n, slots := #[] }
theorem At.isList {h : Heap} {a : Addr} {vs : List Value} (x : At h.get? a (IsLs vs)) : h.IsList a vs.toArray := by
  obtain ⟨o, e, n, rfl⟩ := x; exact ⟨_, e, rfl, n, rfl⟩
theorem At.isL {h : Heap} {a : Addr} {vs : List Value} (x : At h.get? a (IsLs vs)) : ∃ n, IsL h a vs.toArray n := by
  obtain ⟨o, e, n, rfl⟩ := x; exact ⟨n, e⟩
theorem At.isT {h : Heap} {a : Addr} {vs : List Value} (x : At h.get? a (IsTp vs)) : ∃ n, IsT h a vs.toArray n := by
  obtain ⟨o, e, n, rfl⟩ := x; exact ⟨n, e⟩
theorem At.isTup {h : Heap} {a : Addr} {vs : List Value} (x : At h.get? a (IsTp vs)) : h.IsTuple a vs.toArray := by
  obtain ⟨o, e, n, rfl⟩ := x; exact ⟨_, e, rfl, n, rfl⟩

section
variable {M : List Addr} {B₀ B : Mem} {s₀ s : Shared} {L : Addr} {m : Str → Option Value} {X : Led} {prog : Program} {w : World} {A : Around} {E : Value → Shared → Prop} {env : Env}

theorem St.at (S : St M B₀ s₀ B L m X s) {a : Addr} {P : Obj → Prop} (h : (a, P) ∈ X) : At s.heap.get? a P := S.get h
theorem St.atB (S : St M B₀ s₀ B L m X s) {a : Addr} {P : Obj → Prop} (h : At B a P) : At s.heap.get? a P := h.mono S.sub
theorem St.tok1 {v : Tok → Value} {Q : Value → Shared → Prop} (S : St M B₀ s₀ B L m X s) (h : ∀ t s', St M B₀ s₀ B L m X s' → Q (v t) s') : Q (v s.toks) { s with toks := s.toks + 1 } := h _ _ (S.tok _)

-- flows
def Kn (k : Shared → Prop) (Q : Flow → Shared → Prop) (f : Flow) (s : Shared) : Prop := match f with | .next => k s | f => Q f s
theorem Kn_next {k : Shared → Prop} {Q : Flow → Shared → Prop} (h : k s) : Kn k Q .next s := h
theorem Kn_cont {k : Shared → Prop} {Q : Flow → Shared → Prop} (h : Q .cont s) : Kn k Q .cont s := h
theorem Kn_ret {k : Shared → Prop} {Q : Flow → Shared → Prop} {v : Value} (h : Q (.ret v) s) : Kn k Q (.ret v) s := h
theorem xs_cons {M' : Model} {st : Stmt} {rest : List Stmt} {Q : Flow → Shared → Prop} (h : wpAny M' A (exec st env) (Kn (fun s' => wpAny M' A (execs rest env) Q E s') Q) E s) : wpAny M' A (execs (st :: rest) env) Q E s :=
  wpAny_execs_cons (wpAny_mono h (fun f _ h' => by cases f <;> exact h') fun _ _ h' => h')
def Rn (Q : Value → Shared → Prop) (f : Flow) (s : Shared) : Prop := Q (match f with | .ret v => v | _ => .none) s
theorem Rn_ret {Q : Value → Shared → Prop} {v : Value} (h : Q v s) : Rn Q (.ret v) s := h
theorem Rn_next {Q : Value → Shared → Prop} (h : Q .none s) : Rn Q .next s := h
theorem ite_split {c : Bool} {P R : Prop} (h1 : c = true → P) (h2 : c = false → R) : if c = true then P else R := by
  cases c
  · exact h2 rfl
  · exact h1 rfl

-- names
theorem nm_local {M' : Model} {x : Str} {pos : Pos} {v : Value} {Q : Value → Shared → Prop} (S : St M B₀ s₀ B env.locals m X s) (hv : m x = some v) (h : Q v s)
    (hk : env.scope.kind = .function := by rfl) (hl : env.kindOf x = some .local := by rfl) (hd : (x == ("__debug__" : Str)) = false := by decide) :
    wpAny M' A (eval (.Name x pos) env) Q E s := wpAny_Name (wpAny_loadName_local hk hl S.ns hv h) hd
theorem ldn_local {M' : Model} {x : Str} {v : Value} {Q : Value → Shared → Prop} (S : St M B₀ s₀ B env.locals m X s) (hv : m x = some v) (h : Q v s)
    (hk : env.scope.kind = .function := by rfl) (hl : env.kindOf x = some .local := by rfl) :
    wpAny M' A (loadName env x) Q E s := wpAny_loadName_local hk hl S.ns hv h
theorem st_local {M' : Model} {x : Str} {v : Value} {Q : Unit → Shared → Prop} (S : St M B₀ s₀ B env.locals m X s) (h : ∀ s', St M B₀ s₀ B env.locals (upd m x v) X s' → Q () s')
    (hk : env.scope.kind = .function := by rfl) (hl : env.kindOf x = some .local := by rfl) :
    wpAny M' A (storeName env x v) Q E s :=
  wpAny_storeName_local hl S.ns (fun _ hn hs => h _ (S.locals hn hs)) (by rw [hk]; rfl)
theorem nm_cell {M' : Model} {x : Str} {pos : Pos} {c : Addr} {v : Value} {Q : Value → Shared → Prop} (hc : env.cells.lookup x = some c) (hv : At s.heap.get? c (fun o => o.data = .cell (some v))) (h : Q v s)
    (hk : env.scope.kind = .function := by rfl) (hl : env.kindOf x = some .cell := by rfl) (hd : (x == ("__debug__" : Str)) = false := by decide) :
    wpAny M' A (eval (.Name x pos) env) Q E s := wpAny_Name (wpAny_loadName_cell hk hl hc (let ⟨o, e, d⟩ := hv; ⟨o, e, d⟩) h) hd
theorem st_cell {M' : Model} {x : Str} {v : Value} {c : Addr} {P : Obj → Prop} {Q : Unit → Shared → Prop} (S : St M B₀ s₀ B L m ((c, P) :: X) s) (hc : env.cells.lookup x = some c) (hP : ∀ o, P o → ∃ v₀, o.data = .cell v₀)
    (h : ∀ s', St M B₀ s₀ B L m ((c, fun o => o.data = .cell (some v)) :: X) s' → Q () s')
    (hk : env.scope.kind = .function := by rfl) (hl : env.kindOf x = some .cell := by rfl) : wpAny M' A (storeName env x v) Q E s := by
  obtain ⟨o, e, ho⟩ := S.at (.head _)
  obtain ⟨v₀, hd⟩ := hP o ho
  refine wpAny_storeName_cell hk hl hc ⟨o, e, hd⟩ fun h' hv hs => ?_
  obtain ⟨o', e', hd'⟩ := hv
  exact h _ (S.upd hs e' hd')
theorem nm_glob {M' : Model} {T : Heap} {mg : Str → Option Value} {x : Str} {pos : Pos} {v : Value} {Q : Value → Shared → Prop} (hT : Sub T.get? s.heap.get?) (hg : T.Ns mainGlobals mg) (hv : mg x = some v) (h : Q v s)
    (hgl : env.globals = mainGlobals := by rfl) (hk : env.scope.kind = .function := by rfl) (hx : env.kindOf x = some .globalImplicit := by rfl) (hd : (x == ("__debug__" : Str)) = false := by decide) :
    wpAny M' A (eval (.Name x pos) env) Q E s := Name_function_global hk hx (loadGlobal_global (hgl ▸ hg.keeps hT) hv h) hd
theorem nm_builtin {M' : Model} {T : Heap} {mg mb : Str → Option Value} {x : Str} {pos : Pos} {v : Value} {Q : Value → Shared → Prop} (hT : Sub T.get? s.heap.get?) (hg : T.Ns mainGlobals mg) (hm : mg x = none) (hb : T.Ns builtinsNs mb) (hv : mb x = some v) (h : Q v s)
    (hgl : env.globals = mainGlobals := by rfl) (hbl : env.builtins = builtinsNs := by rfl) (hk : env.scope.kind = .function := by rfl) (hx : env.kindOf x = some .globalImplicit := by rfl) (hd : (x == ("__debug__" : Str)) = false := by decide) :
    wpAny M' A (eval (.Name x pos) env) Q E s := Name_function_global hk hx (loadGlobal_builtin (hgl ▸ hg.keeps hT) hm (hbl ▸ hb.keeps hT) hv h) hd

-- constants and ints
theorem c_int {M' : Model} {i : Int} {k pos} {Q : Value → Shared → Prop} (S : St M B₀ s₀ B L m X s) (h : ∀ t s', St M B₀ s₀ B L m X s' → Q (.int i t) s') : wpAny M' A (eval (.Constant (.int i) k pos) env) Q E s :=
  wpAny_Constant_int (S.tok1 h)
variable {a b : Int} {t u : Tok} {Q : Value → Shared → Prop}
theorem i_add (S : St M B₀ s₀ B L m X s) (h : ∀ t s', St M B₀ s₀ B L m X s' → Q (.int (a + b) t) s') : wpAny (model prog w) A (binaryOp .Add (.int a t) (.int b u)) Q E s := add_int (S.tok1 h)
theorem i_sub (S : St M B₀ s₀ B L m X s) (h : ∀ t s', St M B₀ s₀ B L m X s' → Q (.int (a - b) t) s') : wpAny (model prog w) A (binaryOp .Sub (.int a t) (.int b u)) Q E s := sub_int (S.tok1 h)
theorem i_mul (S : St M B₀ s₀ B L m X s) (hm : IntMulOk a b) (h : ∀ t s', St M B₀ s₀ B L m X s' → Q (.int (a * b) t) s') : wpAny (model prog w) A (binaryOp .Mult (.int a t) (.int b u)) Q E s := mul_int (S.tok1 h) hm
theorem i_fdiv (S : St M B₀ s₀ B L m X s) (hb : b ≠ 0) (hp : Builtin.divisionGoesByPylong a b = false) (h : ∀ t s', St M B₀ s₀ B L m X s' → Q (.int (a.fdiv b) t) s') : wpAny (model prog w) A (binaryOp .FloorDiv (.int a t) (.int b u)) Q E s := floordiv_int hb (S.tok1 h) (.inl hp)
theorem i_mod (S : St M B₀ s₀ B L m X s) (hb : b ≠ 0) (h : ∀ t s', St M B₀ s₀ B L m X s' → Q (.int (a.fmod b) t) s') : wpAny (model prog w) A (binaryOp .Mod (.int a t) (.int b u)) Q E s := mod_int' hb (S.tok1 h)
theorem i_shr1 (S : St M B₀ s₀ B L m X s) (hb : 0 ≤ a) (h : ∀ t s', St M B₀ s₀ B L m X s' → Q (.int (a / 2) t) s') : wpAny (model prog w) A (binaryOp .RShift (.int a t) (.int 1 u)) Q E s := wpAny_rshift1_int hb (S.tok1 h)
theorem i_xor (S : St M B₀ s₀ B L m X s) (h : ∀ t s', St M B₀ s₀ B L m X s' → Q (.int (Builtin.bitXor a b) t) s') : wpAny (model prog w) A (binaryOp .BitXor (.int a t) (.int b u)) Q E s := xor_int (S.tok1 h)
theorem i_neg (S : St M B₀ s₀ B L m X s) (h : ∀ t s', St M B₀ s₀ B L m X s' → Q (.int (-a) t) s') : wpAny (model prog w) A (unaryOp .USub (.int a t)) Q E s := neg_int (S.tok1 h)
theorem i_iadd (S : St M B₀ s₀ B L m X s) (h : ∀ t s', St M B₀ s₀ B L m X s' → Q (.int (a + b) t) s') : wpAny (model prog w) A (inplaceOp .Add (.int a t) (.int b u)) Q E s := iadd_int (S.tok1 h)

-- lists, tuples: items
theorem sub_list {value slice : Expr} {l : Addr} {vs : List Value} {k : Int} {v : Value} (hl : At s.heap.get? l (IsLs vs)) (h0 : 0 ≤ k) (hk : k < 2 ^ 63) (hx : vs[k.toNat]? = some v) (h : Q v s)
    (hs : subscripted slice false (.ref l) (.int k u) = operate [.ref l, .int k u] (getItem (.ref l) (.int k u)) := by with_unfolding_all rfl) :
    wpAny (model prog w) A (subscriptTail value slice (.ref l) (.int k u)) Q E s :=
  tail_any hl.isList.typeIs slot_list_getitem.lookup (wpAny_getItem_list hl.isList h0 hk (by simpa using hx) h) hs
theorem get_list {l : Addr} {vs : List Value} {k : Int} {v : Value} (hl : At s.heap.get? l (IsLs vs)) (h0 : 0 ≤ k) (hk : k < 2 ^ 63) (hx : vs[k.toNat]? = some v) (h : Q v s) :
    wpAny (model prog w) A (getItem (.ref l) (.int k u)) Q E s := wpAny_getItem_list hl.isList h0 hk (by simpa using hx) h
theorem sub_list_neg {value slice : Expr} {l : Addr} {vs : List Value} {k : Int} {v : Value} (hl : At s.heap.get? l (IsLs vs)) (h0 : k < 0) (hk : -(vs.length : Int) ≤ k) (hf : -(2 ^ 63) ≤ k) (hx : vs[(k + vs.length).toNat]? = some v) (h : Q v s)
    (hs : subscripted slice false (.ref l) (.int k u) = operate [.ref l, .int k u] (getItem (.ref l) (.int k u)) := by with_unfolding_all rfl) :
    wpAny (model prog w) A (subscriptTail value slice (.ref l) (.int k u)) Q E s :=
  tail_any hl.isList.typeIs slot_list_getitem.lookup (wpAny_getItem_list_neg hl.isList h0 (by simpa using hk) hf (by simpa using hx) h) hs
theorem sub_tuple {value slice : Expr} {l : Addr} {vs : List Value} {k : Int} {v : Value} (hl : At s.heap.get? l (IsTp vs)) (h0 : 0 ≤ k) (hk : k < 2 ^ 63) (hx : vs[k.toNat]? = some v) (h : Q v s)
    (hs : subscripted slice false (.ref l) (.int k u) = operate [.ref l, .int k u] (getItem (.ref l) (.int k u)) := by with_unfolding_all rfl) :
    wpAny (model prog w) A (subscriptTail value slice (.ref l) (.int k u)) Q E s := by
  obtain ⟨n, ht⟩ := hl.isT
  have hlt : k.toNat < vs.length := by
    rcases Nat.lt_or_ge k.toNat vs.length with h' | h'
    · exact h'
    · rw [List.getElem?_eq_none h'] at hx; cases hx
  exact tail_any (T := "tuple") ⟨_, ht, rfl⟩ F.slot_tuple_getitem.lookup (P.getItem_tuple ht (by omega) hk (seqIndex_of h0 (by simp; omega)) (by simpa using hx) h) hs
theorem len_list {l : Addr} {vs : List Value} (S : St M B₀ s₀ B L m X s) (hl : At s.heap.get? l (IsLs vs)) (hf : vs.length < 2 ^ 62) (h : ∀ t s', St M B₀ s₀ B L m X s' → Q (.int (vs.length : Nat) t) s') :
    wpAny (model prog w) A (call (.builtin "len") [.ref l]) Q E s :=
  call_len_list hl.isList (by simp; omega) (by simpa using h _ _ (S.tok _))
theorem len_tuple {l : Addr} {vs : List Value} (S : St M B₀ s₀ B L m X s) (hl : At s.heap.get? l (IsTp vs)) (hf : vs.length < 2 ^ 62) (h : ∀ t s', St M B₀ s₀ B L m X s' → Q (.int (vs.length : Nat) t) s') :
    wpAny (model prog w) A (call (.builtin "len") [.ref l]) Q E s := by
  obtain ⟨n, ht⟩ := hl.isT
  exact P.len_tuple ht (by simp; omega) (by simpa using h _ _ (S.tok _))
-- displays
theorem mk_tuple {vs : List Value} {Q : Value → Shared → Prop} (S : St M B₀ s₀ B L m X s) (hsz : vs.length ≤ sizeLine)
    (h : ∀ a B' s', St M B₀ s₀ B' L m X s' → Sub B B' → At B' a (IsTp vs) → Q (.ref a) s') : wpAny (model prog w) A (newTuple vs) Q E s := by
  have P := S.pushB (t := s.toks) ({ cls := .type "tuple", data := .seq vs.toArray } : Obj)
  exact wpAny_newObj_type (h _ _ _ P.1 P.2 ⟨_, ext_self, 0, rfl⟩) (by show vs.toArray.size ≤ sizeLine; rw [List.size_toArray]; exact hsz)
theorem mk_list {vs : List Value} {Q : Value → Shared → Prop} (S : St M B₀ s₀ B L m X s) (hsz : vs.length ≤ sizeLine)
    (h : ∀ a s', St M B₀ s₀ B L m ((a, IsLs vs) :: X) s' → Q (.ref a) s') : wpAny (model prog w) A (newList vs) Q E s :=
  wpAny_newObj_type (h _ _ (S.push (t := s.toks) ({ cls := .type "list", data := .seq vs.toArray } : Obj) ⟨0, rfl⟩)) (by show vs.toArray.size ≤ sizeLine; rw [List.size_toArray]; exact hsz)
end

/- MC -/

section
variable {M : List Addr} {B₀ B : Mem} {s₀ s : Shared} {L : Addr} {m : Str → Option Value} {X : Led} {prog : Program} {w : World} {A : Around} {E : Value → Shared → Prop} {env : Env}

def allOf (h : Heap) (L : Addr) : List (Addr × Obj) := (List.range h.objs.size).filterMap fun a => if a = L then none else (h.get? a).map fun o => (a, o)
theorem mem_allOf {h : Heap} {L : Addr} {p : Addr × Obj} : p ∈ allOf h L ↔ h.get? p.1 = some p.2 ∧ p.1 ≠ L := by
  unfold allOf
  rw [List.mem_filterMap]
  constructor
  · rintro ⟨a, _, e⟩
    split at e
    · cases e
    · rename_i hn
      cases q : h.get? a with
      | none => rw [q] at e; cases e
      | some o => rw [q] at e; cases e; exact ⟨q, hn⟩
  · rintro ⟨e, hn⟩
    refine ⟨p.1, List.mem_range.mpr (Heap.lt_size e), ?_⟩
    rw [if_neg hn, e]; rfl
def noHeap : Heap := ⟨#[], {}⟩
theorem noHeap_get (a : Addr) : noHeap.get? a = none := by simp [noHeap, Heap.get?]

theorem St.fr (S : St M B₀ s₀ B L m X s) : Fr noHeap L s.heap m := ⟨S.ns, (fun b o e => by rw [noHeap_get] at e; cases e), Nat.zero_le _⟩
theorem St.ne (_S : St M B₀ s₀ B L m X s) : News noHeap L s.heap (allOf s.heap L) := fun p hp => ⟨(mem_allOf.mp hp).1, (mem_allOf.mp hp).2, noHeap_get _⟩
/-- back from a lemma of the library that keeps every object -/
theorem St.back (S : St M B₀ s₀ B L m X s) {h' : Heap} {t : Nat} {m' : Str → Option Value} (F : Fr noHeap L h' m') (N : News noHeap L h' (allOf s.heap L)) : St M B₀ s₀ B L m' X { s with heap := h', toks := t } := by
  have k : ∀ b o, s.heap.get? b = some o → b ≠ L → h'.get? b = some o := fun b o e hn => (N (b, o) (mem_allOf.mpr ⟨e, hn⟩)).1
  refine ⟨⟨by have := S.same; rw [this], S.live, (fun b e => ?_), fun b o hb e => k b o (S.keep b o hb e) (fun q => ?_), S.sub0, fun b o e => k b o (S.sub _ _ e) (fun q => ?_), S.fresh⟩, F.ns, S.lo, S.off, fun p hp => ?_, S.nodup⟩
  · by_cases q : b = L
    · subst q; exact S.lo
    · refine S.pres b ?_
      cases q2 : s.heap.get? b with
      | none => rfl
      | some o => rw [k b o q2 q] at e; cases e
  · subst q; rw [S.lo] at e; cases e
  · rw [q, S.off] at e; cases e
  · obtain ⟨⟨o, e, ho⟩, h1, h2, h3⟩ := S.news p hp
    exact ⟨⟨o, k _ _ e h1, ho⟩, h1, h2, h3⟩
theorem St.backN (S : St M B₀ s₀ B L m X s) {h' : Heap} {t : Nat} {m' : Str → Option Value} {o : Obj} {P : Obj → Prop} (F : Fr noHeap L h' m') (N : News noHeap L h' ((s.heap.objs.size, o) :: allOf s.heap L)) (hP : P o) :
    St M B₀ s₀ B L m' ((s.heap.objs.size, P) :: X) { s with heap := h', toks := t } := by
  have S' := S.back (t := t) F (fun p hp => N p (.tail _ hp))
  have n0 := N _ (.head _)
  refine ⟨S'.toGrow, S'.ns, S'.lo, S'.off, fun p hp => ?_, ?_⟩
  · rcases List.mem_cons.mp hp with rfl | hp
    · refine ⟨⟨o, n0.1, hP⟩, n0.2.1, ?_, .inr (S.pres _ (size_none _))⟩
      cases q : B s.heap.objs.size with
      | none => rfl
      | some o' => exact absurd (Heap.lt_size (S.sub _ _ q)) (Nat.lt_irrefl _)
    · exact S'.news p hp
  · refine List.nodup_cons.mpr ⟨fun h => ?_, S.nodup⟩
    obtain ⟨p, hp, e⟩ := List.mem_map.mp h
    exact absurd (S.lt hp) (by rw [e]; exact Nat.lt_irrefl _)

variable {a b : Int} {t u : Tok} {Q : Value → Shared → Prop}
theorem i_max (S : St M B₀ s₀ B L m X s) (hh : A.handled = none) (h : ∀ t s', St M B₀ s₀ B L m X s' → Q (.int (max a b) t) s') : wpAny (model prog w) A (call (.builtin "max") [.int a t, .int b u]) Q E s :=
  max_two_N hh S.fr S.ne fun h' tk F N => by
    have e : (if b > a then b else a) = max a b := by split <;> omega
    rw [e]; exact h _ _ (S.back F N)
theorem i_min (S : St M B₀ s₀ B L m X s) (hh : A.handled = none) (h : ∀ t s', St M B₀ s₀ B L m X s' → Q (.int (min a b) t) s') : wpAny (model prog w) A (call (.builtin "min") [.int a t, .int b u]) Q E s :=
  min_two_N hh S.fr S.ne fun h' tk F N => by
    have e : (if b < a then b else a) = min a b := by split <;> omega
    rw [e]; exact h _ _ (S.back F N)
theorem foldl_rep (v : Value) (n : Nat) : List.foldl (fun x1 x2 => x1 ++ x2) #[] (List.replicate n #[v]) = (List.replicate n v).toArray := by
  have g : ∀ (n : Nat) (acc : Array Value), List.foldl (fun x1 x2 => x1 ++ x2) acc (List.replicate n #[v]) = acc ++ (List.replicate n v).toArray := by
    intro n
    induction n with
    | zero => intro acc; simp
    | succ n ih => intro acc; rw [List.replicate_succ, List.foldl_cons, ih, List.replicate_succ]; apply Array.toList_inj.mp; simp
  rw [g]; simp
theorem l_mul1 {l : Addr} {v : Value} {n : Int} (S : St M B₀ s₀ B L m X s) (hl : At s.heap.get? l (IsLs [v])) (h0 : 0 ≤ n) (hn : n ≤ 1000)
    (h : ∀ a s', St M B₀ s₀ B L m ((a, IsLs (List.replicate n.toNat v)) :: X) s' → Q (.ref a) s') : wpAny (model prog w) A (binaryOp .Mult (.ref l) (.int n u)) Q E s := by
  obtain ⟨k, e⟩ := hl.isL
  refine mul_list S.fr S.ne e (by omega) (by omega) (by simp; omega) fun h' F N => h _ _ (S.backN F N ⟨0, ?_⟩)
  have e2 : (if ([v].toArray.isEmpty = true) then 0 else n.toNat) = n.toNat := by simp
  rw [e2]
  show _ = _
  rw [show ([v].toArray : Array Value) = #[v] from rfl, foldl_rep]
theorem l_add {l k : Addr} {xs ys : List Value} (S : St M B₀ s₀ B L m X s) (hl : At s.heap.get? l (IsLs xs)) (hk : At s.heap.get? k (IsLs ys)) (hsz : xs.length + ys.length ≤ 1000)
    (h : ∀ a s', St M B₀ s₀ B L m ((a, IsLs (xs ++ ys)) :: X) s' → Q (.ref a) s') : wpAny (model prog w) A (binaryOp .Add (.ref l) (.ref k)) Q E s := by
  obtain ⟨n, e⟩ := hl.isL
  obtain ⟨n', e'⟩ := hk.isL
  refine P.add_list e e' (h _ _ (S.push (t := s.toks) _ ⟨0, ?_⟩)) (by simp [sizeLine_eq]; omega)
  show _ = _
  simp

structure Room (A : Around) (k : Nat) : Prop where
  handled : A.handled = none
  depth : A.depth + k < recursionLimit
  units : A.units + 80 * k < cLine
theorem Room.deeper {k : Nat} (h : Room A (k + 1)) : Room (A.deeper env) k :=
  ⟨h.handled, by have := h.depth; show A.depth + 1 + k < _; omega, by have := h.units; show A.units + 3 + 80 * k < _; omega⟩
theorem Room.in1 {k : Nat} (h : Room A (k + 1)) : Room A.in1 k :=
  ⟨h.handled, by have := h.depth; show A.depth + k < _; omega, by have := h.units; show A.units + 1 + 80 * k < _; omega⟩

-- calls of the text's defs
theorem call_st {M' : List Addr} {Y : Led} {BB : Mem} {name : Str} {params : Arguments} {body : List Stmt} {scope : Scope} {pm cd doc : Value} {f : Addr} {args : List Value} {binds : List (Str × Value)}
    {k : Nat} (hA : Room A (k + 1)) (ho : s.heap.get? f = some { cls := .type "function", data := .func (docDef name params body scope pm cd doc) }) (hlim : s.heap.NoLimit) (hcd : s.heap.CodeRec cd name)
    (hB : Sub BB s.heap.get?) (hY : ∀ p ∈ Y, At s.heap.get? p.1 p.2 ∧ BB p.1 = none ∧ p.1 ∈ M') (hd : (Y.map (·.1)).Nodup) (hM : ∀ b ∈ M', ∃ o, s.heap.get? b = some o)
    (hbind : bindArgs (docDef name params body scope pm cd doc) ⟨args, []⟩ = pure binds)
    (hloc : ∀ x ∈ binds, scope.names.lookup x.1 = some .local)
    (h : ∀ s₁ L A', Room A' k → St M' BB s BB L (fun x => binds.reverse.lookup x) Y s₁ →
      wpAny (model prog w) A' (execs body (envOf name scope L f cd))
        (Rn Q) (fun _ _ => False) s₁)
    (hco : scope.isCoroutine = false := by rfl) (hgen : scope.isGenerator = false := by rfl) (hk : scope.kind = .function := by rfl)
    (hcell : ∀ x ∈ scope.names, x.2 ≠ .cell := by decide) :
    wpAny (model prog w) A (call (.ref f) args) Q E s :=
  wpAny_call (call_plain_ret (by have := hA.depth; omega) ho rfl hlim hcd hbind hloc (fun h₁ F => h _ _ _ hA.deeper (St.enter F hB hM hY hd)) hco hgen hk hcell)

theorem St.cells {Y : Led} {BB : Mem} {M' : List Addr} {c : Addr} {n : Str} {cm : Str → Option Value} (x : InCallC s L m [(n, c)] cm s₀) (hB : Sub BB s.heap.get?) (hM : ∀ b ∈ M', ∃ o, s.heap.get? b = some o)
    (hLn : s.heap.get? L = none)
    (hY : ∀ p ∈ Y, At s.heap.get? p.1 p.2 ∧ BB p.1 = none ∧ p.1 ∈ M') (hd : (Y.map (·.1)).Nodup) :
    St M' BB s BB L m ((c, fun o => o.data = .cell (cm n)) :: Y) s₀ := by
  obtain ⟨h₁, tk, rfl⟩ := x.toInCall.same
  have hk := x.toInCall.keep
  have hLc : L < c := x.above n c (.head _)
  have hcs : s.heap.get? c = none := by
    cases q : s.heap.get? c with
    | none => rfl
    | some o => exact absurd (Nat.lt_of_lt_of_le (Heap.lt_size q) x.toInCall.fresh) (Nat.lt_asymm hLc)
  have bn : ∀ b, s.heap.get? b = none → BB b = none := fun b e => by
    cases q : BB b with
    | none => rfl
    | some o => rw [hB _ _ q] at e; cases e
  refine ⟨⟨rfl, hM, fun b e => ?_, fun b o _ e => hk b o e, .rfl, fun b o e => hk _ _ (hB _ _ e), fun b o e => .inl e⟩, x.toInCall.ns, hLn, bn _ hLn, fun p hp => ?_, ?_⟩
  · cases q : s.heap.get? b with
    | none => rfl
    | some o => rw [hk b o q] at e; cases e
  · rcases List.mem_cons.mp hp with rfl | hp
    · obtain ⟨o, e, d⟩ := x.cell n c (by simp)
      exact ⟨⟨o, e, d⟩, Nat.ne_of_gt hLc, bn _ hcs, .inr hcs⟩
    · obtain ⟨⟨o, e, ho⟩, h2, h3⟩ := hY p hp
      exact ⟨⟨o, hk _ _ e, ho⟩, (fun q => by rw [q, hLn] at e; cases e), h2, .inl h3⟩
  · refine List.nodup_cons.mpr ⟨fun h => ?_, hd⟩
    obtain ⟨p, hp, e⟩ := List.mem_map.mp h
    obtain ⟨⟨o, e2, ho⟩, _⟩ := hY p hp
    dsimp only at e
    rw [e, hcs] at e2; cases e2

theorem call_stC {M' : List Addr} {Y : Led} {BB : Mem} {name : Str} {params : Arguments} {body : List Stmt} {scope : Scope} {pm cd doc : Value} {f : Addr} {args : List Value} {binds : List (Str × Value)} {x : Str}
    {k : Nat} (hA : Room A (k + 1)) (ho : s.heap.get? f = some { cls := .type "function", data := .func (docDef name params body scope pm cd doc) }) (hlim : s.heap.NoLimit) (hcd : s.heap.CodeRec cd name)
    (hB : Sub BB s.heap.get?) (hY : ∀ p ∈ Y, At s.heap.get? p.1 p.2 ∧ BB p.1 = none ∧ p.1 ∈ M') (hd : (Y.map (·.1)).Nodup) (hM : ∀ b ∈ M', ∃ o, s.heap.get? b = some o)
    (hbind : bindArgs (docDef name params body scope pm cd doc) ⟨args, []⟩ = pure binds)
    (hcl : ∀ n, cellsFrom n scope.names [] = [(x, n)])
    (hkind : ∀ n, ∀ y ∈ binds, scope.names.lookup y.1 = some .local ∨ (scope.names.lookup y.1 = some .cell ∧ (([(x, n)] : List (Str × Addr)).lookup y.1).isSome = true))
    (h : ∀ s₁ L c A', Room A' k → St M' BB s BB L (bindL (fun n => scope.names.lookup n) binds fun _ => none) ((c, fun o => o.data = .cell (bindC (fun n => scope.names.lookup n) binds (fun _ => none) x)) :: Y) s₁ →
      wpAny (model prog w) A' (execs body (envX name scope L f cd [(x, c)])) (Rn Q) (fun _ _ => False) s₁)
    (hco : scope.isCoroutine = false := by rfl) (hgen : scope.isGenerator = false := by rfl) (hk : scope.kind = .function := by rfl) :
    wpAny (model prog w) A (call (.ref f) args) Q E s := by
  refine wpAny_call (codeAny_call_function (by have := hA.depth; omega) ho rfl hco hgen rfl hcd ?_)
  rw [hbind]
  refine wpAny_pure (wpAny_newFunctionEnv_cells hk (fun y hy => ?_) fun env' he s' y => ?_)
  · show _ ∨ (_ ∧ ((cellsFrom _ scope.names []).lookup y.1).isSome = true)
    rw [hcl]; exact hkind _ y hy
  · subst he
    have hcl' := hcl (s.heap.objs.size + 1)
    have e : newEnv scope s.heap.objs.size mainGlobals (cellsFrom (s.heap.objs.size + 1) scope.names []) (name ++ ".<locals>.") (some f) cd none builtinsNs = envX name scope s.heap.objs.size f cd [(x, s.heap.objs.size + 1)] := by rw [hcl']; rfl
    have y' : InCallC s s.heap.objs.size (bindL (fun n => scope.names.lookup n) binds fun _ => none) [(x, s.heap.objs.size + 1)] (bindC (fun n => scope.names.lookup n) binds fun _ => none) s' := by
      have := y
      rw [← hcl']
      exact this
    have S := St.cells y' hB hM (size_none _) hY hd
    refine ⟨hlim.keeps y.toInCall.keep, ?_⟩
    show codeAny _ _ (.func body (newEnv scope s.heap.objs.size mainGlobals (cellsFrom (s.heap.objs.size + 1) scope.names []) (name ++ ".<locals>.") (some f) cd none builtinsNs)) _ _
    rw [e]
    refine codeAny_func (wpAny_mono (h _ _ _ _ hA.deeper S) (fun fl s'' hl => hl) fun _ _ x => x.elim)
end

/- MD -/

structure Iter (prog : Program) (w : World) (A : Around) (I : Addr) (n : Nat) (P : Nat → Value → Prop) (Src : Heap → Prop) (It : Nat → Obj → Prop) : Prop where
  item : ∀ i (s : Shared) (Q : Option Value → Shared → Prop) (E : Value → Shared → Prop), i < n → At s.heap.get? I (It i) → Src s.heap →
    (∀ v h' tk, P i v → At h'.get? I (It (i + 1)) → Heap.SameBut I s.heap h' → Q (some v) { s with heap := h', toks := tk }) → wpAny (model prog w) A (pyNext (.ref I)) Q E s
  done : ∀ (s : Shared) (Q : Option Value → Shared → Prop) (E : Value → Shared → Prop), At s.heap.get? I (It n) → Src s.heap →
    (∀ h' tk, Heap.ExtBut I s.heap h' → Q none { s with heap := h', toks := tk }) → wpAny (model prog w) A (pyNext (.ref I)) Q E s
  self : ∀ i (s : Shared) (Q : Value → Shared → Prop) (E : Value → Shared → Prop), At s.heap.get? I (It i) → Q (.ref I) s → wpAny (model prog w) A (pyIter (.ref I)) Q E s

def ItL (l : Addr) (i : Nat) : Obj → Prop := fun o => o.cls = .type "list_iterator" ∧ o.data = .fields #[.ref l, .int i 0]
def ItT (l : Addr) (i : Nat) : Obj → Prop := fun o => o.cls = .type "tuple_iterator" ∧ o.data = .fields #[.ref l, .int i 0]
def ItR (a c : Int) (n i : Nat) : Obj → Prop := fun o => o = { cls := .type "range_iterator", dict := none, data := .fields #[rawInt (a + (i : Nat) * c), rawInt ((n : Int) - (i : Nat)), rawInt c], slots := #[] }

theorem iterL {prog : Program} {w : World} {A : Around} (hh : A.handled = none) (I l : Addr) (vs : List Value) :
    Iter prog w A I vs.length (fun i v => vs[i]? = some v) (fun h => At h.get? l (IsLs vs)) (ItL l) where
  item := fun i s Q E hi hit hs hQ => wpAny_pyNext_list_item hit hs.isList (x := vs[i]) (by simp [hi]) fun h' hit' hs' => hQ _ h' s.toks (by simp [hi]) hit' hs'
  done := fun s Q E hit hs hQ => wpAny_pyNext_list_end hh hit hs.isList (by simp) fun h' he' => hQ h' s.toks he'
  self := fun _ _ _ _ hit hQ => wpAny_pyIter_listiter hit hQ
theorem iterT {prog : Program} {w : World} {A : Around} (hh : A.handled = none) (I l : Addr) (vs : List Value) :
    Iter prog w A I vs.length (fun i v => vs[i]? = some v) (fun h => At h.get? l (IsTp vs)) (ItT l) where
  item := fun i s Q E hi hit hs hQ => wpAny_pyNext_tuple_item hit hs.isTup (x := vs[i]) (by simp [hi]) fun h' hit' hs' => hQ _ h' s.toks (by simp [hi]) hit' hs'
  done := fun s Q E hit hs hQ => wpAny_pyNext_tuple_end hh hit hs.isTup (by simp) fun h' he' => hQ h' s.toks he'
  self := fun _ _ _ _ hit hQ => wpAny_pyIter_tupleiter hit hQ
theorem iterR {prog : Program} {w : World} {A : Around} (hh : A.handled = none) (I : Addr) (a c : Int) (n : Nat) :
    Iter prog w A I n (fun i v => ∃ t, v = .int (a + i * c) t) (fun _ => True) (ItR a c n) where
  item := fun i s Q E hi hit _ hQ => by
    obtain ⟨o, e, rfl⟩ := hit
    refine wpAny_pyNext_range_item e (by omega) fun h' hit' hs' => hQ _ h' _ ⟨_, rfl⟩ ⟨_, hit', ?_⟩ hs'
    have e1 : a + ((i + 1 : Nat) : Int) * c = a + (i : Int) * c + c := by push_cast; rw [Int.add_mul, Int.one_mul, Int.add_assoc]
    have e2 : (n : Int) - ((i + 1 : Nat) : Int) = (n : Int) - (i : Int) - 1 := by push_cast; omega
    show _ = _
    rw [e1, e2]
  done := fun s Q E hit _ hQ => by
    obtain ⟨o, e, rfl⟩ := hit
    exact wpAny_pyNext_range_end hh e (by omega) fun h' he' => hQ h' s.toks he'
  self := fun _ _ _ _ hit hQ => by
    obtain ⟨o, e, rfl⟩ := hit
    exact wpAny_pyIter_rangeiter e hQ

abbrev Inv := Mem → (Str → Option Value) → Led → Prop

section
variable {M : List Addr} {B₀ B : Mem} {s₀ s : Shared} {L : Addr} {m : Str → Option Value} {X : Led} {prog : Program} {w : World} {A : Around} {E : Value → Shared → Prop} {env : Env}

def TurnP (M : List Addr) (B₀ : Mem) (s₀ : Shared) (L : Addr) (p : Addr × (Obj → Prop)) (B' : Mem) (J : Inv) (Q : Flow → Shared → Prop) (f : Flow) (s' : Shared) : Prop :=
  match f with
  | .ret v => Q (.ret v) s'
  | .brk => Q .next s'
  | _ => ∃ B'' m'' X'', Sub B' B'' ∧ J B'' m'' X'' ∧ St M B₀ s₀ B'' L m'' (p :: X'') s'

theorem TurnP.next {p : Addr × (Obj → Prop)} {B' B'' : Mem} {J : Inv} {Q : Flow → Shared → Prop} {m'' : Str → Option Value} {X'' : Led} (hB : Sub B' B'') (hJ : J B'' m'' X'') (S : St M B₀ s₀ B'' L m'' (p :: X'') s) : TurnP M B₀ s₀ L p B' J Q .next s := ⟨B'', m'', X'', hB, hJ, S⟩
theorem TurnP.cont {p : Addr × (Obj → Prop)} {B' B'' : Mem} {J : Inv} {Q : Flow → Shared → Prop} {m'' : Str → Option Value} {X'' : Led} (hB : Sub B' B'') (hJ : J B'' m'' X'') (S : St M B₀ s₀ B'' L m'' (p :: X'') s) : TurnP M B₀ s₀ L p B' J Q .cont s := ⟨B'', m'', X'', hB, hJ, S⟩
theorem TurnP.ret {p : Addr × (Obj → Prop)} {B' : Mem} {J : Inv} {Q : Flow → Shared → Prop} {v : Value} (h : Q (.ret v) s) : TurnP M B₀ s₀ L p B' J Q (.ret v) s := h

theorem for_iter {I : Addr} {n : Nat} {P : Nat → Value → Prop} {Src : Heap → Prop} {It : Nat → Obj → Prop} {x : Str} {px : Pos} {body : List Stmt} {Q : Flow → Shared → Prop}
    (W : Iter prog w A I n P Src It) (hI : I ∉ M) (S : St M B₀ s₀ B env.locals m ((I, It 0) :: X) s) (J : Nat → Inv) (h0 : J 0 B m X)
    (src : ∀ i B' m' X' s', J i B' m' X' → Sub B B' → St M B₀ s₀ B' env.locals m' X' s' → Src s'.heap)
    (turn : ∀ i v B' m' X' s', i < n → P i v → J i B' m' X' → Sub B B' → St M B₀ s₀ B' env.locals (upd m' x v) ((I, It (i + 1)) :: X') s' →
      wpAny (model prog w) A (execs body env) (TurnP M B₀ s₀ env.locals (I, It (i + 1)) B' (J (i + 1)) Q) (fun _ _ => False) s')
    (done : ∀ B' m' X' s', J n B' m' X' → Sub B B' → St M B₀ s₀ B' env.locals m' X' s' → Q .next s')
    (hk : env.scope.kind = .function := by rfl) (hx : env.kindOf x = some .local := by rfl) :
    codeAny (model prog w) A (.forLoop (.Name x px) (.ref I) body [] env) (fun r s' => match r with | .ok f => Q f s' | .error e => cameBackBy (model prog w) A env E e s') s := by
  refine codeAny_forLoop_any (fun k s' => ∃ i B' m' X', i ≤ n ∧ k = n + 1 - i ∧ J i B' m' X' ∧ Sub B B' ∧ St M B₀ s₀ B' env.locals m' ((I, It i) :: X') s') ?_ (n + 1) ⟨0, B, m, X, Nat.zero_le _, rfl, h0, .rfl, S⟩
  rintro k s' ⟨i, B', m', X', hi, rfl, hJ, hB, S'⟩
  have hsrc := src i B' m' X' s' hJ hB S'.tail
  by_cases hlt : i < n
  · refine W.item i _ _ _ hlt (S'.at (.head _)) hsrc fun v h' tk hP hit hs => ?_
    obtain ⟨o, e, ho⟩ := hit
    have S1 := S'.upd (t := tk) hs e ho
    dsimp only
    refine wpAny_pure (wpAny_assign_Name (st_local S1 (fun s'' S2 => ?_) hk hx))
    refine wpAny_mono (turn i v B' m' X' s'' hlt hP hJ hB S2) (fun f s3 h3 => ?_) fun _ _ h => h.elim
    cases f with
    | ret v => exact h3
    | brk => exact h3
    | next => obtain ⟨B3, m3, X3, hB3, hJ3, S3⟩ := h3; exact ⟨n + 1 - (i + 1), by omega, i + 1, B3, m3, X3, hlt, rfl, hJ3, hB.trans hB3, S3⟩
    | cont => obtain ⟨B3, m3, X3, hB3, hJ3, S3⟩ := h3; exact ⟨n + 1 - (i + 1), by omega, i + 1, B3, m3, X3, hlt, rfl, hJ3, hB.trans hB3, S3⟩
  · have hin : i = n := by omega
    subst hin
    refine W.done _ _ _ (S'.at (.head _)) hsrc fun h' tk he => wpAny_execs_nil ?_
    exact done B' m' X' _ hJ hB (S'.drop hI he)

abbrev LoopGoal (prog : Program) (w : World) (A : Around) (E : Value → Shared → Prop) (env : Env) (x : Str) (px : Pos) (body : List Stmt) (Q : Flow → Shared → Prop) (it : Value) (s₂ : Shared) : Prop :=
  codeAny (model prog w) A (.forLoop (.Name x px) it body [] env) (fun r s' => match r with | .ok f => Q f s' | .error e => cameBackBy (model prog w) A env E e s') s₂

theorem for_list {l : Addr} {vs : List Value} {x : Str} {px : Pos} {body : List Stmt} {Q : Flow → Shared → Prop}
    (hh : A.handled = none) (S : St M B₀ s₀ B env.locals m X s) (hl : At s.heap.get? l (IsLs vs)) (J : Nat → Inv) (h0 : J 0 B m X)
    (src : ∀ i B' m' X' s', J i B' m' X' → Sub B B' → St M B₀ s₀ B' env.locals m' X' s' → At s'.heap.get? l (IsLs vs))
    (turn : ∀ I i v B' m' X' s', vs[i]? = some v → J i B' m' X' → Sub B B' → St M B₀ s₀ B' env.locals (upd m' x v) ((I, ItL l (i + 1)) :: X') s' →
      wpAny (model prog w) A (execs body env) (TurnP M B₀ s₀ env.locals (I, ItL l (i + 1)) B' (J (i + 1)) Q) (fun _ _ => False) s')
    (done : ∀ B' m' X' s', J vs.length B' m' X' → Sub B B' → St M B₀ s₀ B' env.locals m' X' s' → Q .next s')
    (hk : env.scope.kind = .function := by rfl) (hx : env.kindOf x = some .local := by rfl) :
    wpAny (model prog w) A (pyIter (.ref l)) (fun it s₂ => LoopGoal prog w A E env x px body Q it s₂) E s :=
  wpAny_pyIter_list hl.isList (for_iter (iterL hh _ l vs) S.notM (S.push (t := s.toks) _ ⟨rfl, rfl⟩) J h0 src (fun i v B' m' X' s' _ hP => turn _ i v B' m' X' s' hP) done hk hx)
theorem for_tuple {l : Addr} {vs : List Value} {x : Str} {px : Pos} {body : List Stmt} {Q : Flow → Shared → Prop}
    (hh : A.handled = none) (S : St M B₀ s₀ B env.locals m X s) (hl : At s.heap.get? l (IsTp vs)) (J : Nat → Inv) (h0 : J 0 B m X)
    (src : ∀ i B' m' X' s', J i B' m' X' → Sub B B' → St M B₀ s₀ B' env.locals m' X' s' → At s'.heap.get? l (IsTp vs))
    (turn : ∀ I i v B' m' X' s', vs[i]? = some v → J i B' m' X' → Sub B B' → St M B₀ s₀ B' env.locals (upd m' x v) ((I, ItT l (i + 1)) :: X') s' →
      wpAny (model prog w) A (execs body env) (TurnP M B₀ s₀ env.locals (I, ItT l (i + 1)) B' (J (i + 1)) Q) (fun _ _ => False) s')
    (done : ∀ B' m' X' s', J vs.length B' m' X' → Sub B B' → St M B₀ s₀ B' env.locals m' X' s' → Q .next s')
    (hk : env.scope.kind = .function := by rfl) (hx : env.kindOf x = some .local := by rfl) :
    wpAny (model prog w) A (pyIter (.ref l)) (fun it s₂ => LoopGoal prog w A E env x px body Q it s₂) E s :=
  wpAny_pyIter_tuple hl.isTup (for_iter (iterT hh _ l vs) S.notM (S.push (t := s.toks) _ ⟨rfl, rfl⟩) J h0 src (fun i v B' m' X' s' _ hP => turn _ i v B' m' X' s' hP) done hk hx)

theorem for_range {r : Addr} {a b c : Int} {t u v : Tok} {n : Nat} {x : Str} {px : Pos} {body : List Stmt} {Q : Flow → Shared → Prop}
    (hh : A.handled = none) (S : St M B₀ s₀ B env.locals m X s) (hr : IsRange s.heap r a b c t u v) (hn : Builtin.Range.rangeSize a b c = n) (hsm : Builtin.Range.small a b c = true) (J : Nat → Inv) (h0 : J 0 B m X)
    (turn : ∀ I i t B' m' X' s', i < n → J i B' m' X' → Sub B B' → St M B₀ s₀ B' env.locals (upd m' x (.int (a + i * c) t)) ((I, ItR a c n (i + 1)) :: X') s' →
      wpAny (model prog w) A (execs body env) (TurnP M B₀ s₀ env.locals (I, ItR a c n (i + 1)) B' (J (i + 1)) Q) (fun _ _ => False) s')
    (done : ∀ B' m' X' s', J n B' m' X' → Sub B B' → St M B₀ s₀ B' env.locals m' X' s' → Q .next s')
    (hk : env.scope.kind = .function := by rfl) (hx : env.kindOf x = some .local := by rfl) :
    wpAny (model prog w) A (pyIter (.ref r)) (fun it s₂ => LoopGoal prog w A E env x px body Q it s₂) E s := by
  refine wpAny_pyIter_range hr hsm ?_
  refine for_iter (iterR hh _ a c n) S.notM (S.push (t := s.toks) _ ?_) J h0 (fun _ _ _ _ _ _ _ _ => trivial) (fun i v B' m' X' s' hi hP => ?_) done hk hx
  · show _ = _
    rw [hn]; simp
  · obtain ⟨t, rfl⟩ := hP
    exact turn _ i t B' m' X' s' hi

theorem rangeSize_up (a b : Int) (h : a ≤ b) : Builtin.Range.rangeSize a b 1 = ((b - a).toNat : Int) := by
  unfold Builtin.Range.rangeSize
  simp only [show (1 : Int) > 0 from by omega, if_true]
  split <;> simp <;> omega
theorem rangeSize_down (a b : Int) (h : b ≤ a) : Builtin.Range.rangeSize a b (-1) = ((a - b).toNat : Int) := by
  unfold Builtin.Range.rangeSize
  rw [if_neg (by omega)]
  split <;> simp <;> omega
theorem small_up (a b : Int) (h : a ≤ b) (h1 : -1000 ≤ a) (h2 : b ≤ 100000) : Builtin.Range.small a b 1 = true := by
  unfold Builtin.Range.small Builtin.Range.rangeFitsLong
  rw [rangeSize_up a b h]
  simp
  omega
theorem small_down (a b : Int) (h : b ≤ a) (h1 : -1000 ≤ b) (h2 : a ≤ 100000) : Builtin.Range.small a b (-1) = true := by
  unfold Builtin.Range.small Builtin.Range.rangeFitsLong
  rw [rangeSize_down a b h]
  simp
  omega

def WhileP (M : List Addr) (B₀ : Mem) (s₀ : Shared) (L : Addr) (n : Nat) (B' : Mem) (J : Nat → Inv) (Q : Flow → Shared → Prop) (f : Flow) (s' : Shared) : Prop :=
  match f with
  | .ret v => Q (.ret v) s'
  | .brk => Q .next s'
  | _ => ∃ k B'' m'' X'', k < n ∧ Sub B' B'' ∧ J k B'' m'' X'' ∧ St M B₀ s₀ B'' L m'' X'' s'
theorem WhileP.next {n k : Nat} {B' B'' : Mem} {J : Nat → Inv} {Q : Flow → Shared → Prop} {m'' : Str → Option Value} {X'' : Led} (hk : k < n) (hB : Sub B' B'') (hJ : J k B'' m'' X'') (S : St M B₀ s₀ B'' L m'' X'' s) : WhileP M B₀ s₀ L n B' J Q .next s := ⟨k, B'', m'', X'', hk, hB, hJ, S⟩
/-- while, by an invariant and a measure -/
theorem while_st {test : Expr} {body : List Stmt} {pos : Pos} {Q : Flow → Shared → Prop} (S : St M B₀ s₀ B env.locals m X s) (J : Nat → Inv) (n : Nat) (h0 : J n B m X)
    (turn : ∀ n B' m' X' s', J n B' m' X' → Sub B B' → St M B₀ s₀ B' env.locals m' X' s' →
      wpAny (model prog w) A (isTrue test env (eval test env)) (fun b s₂ =>
        if b then wpAny (model prog w) A (execs body env) (WhileP M B₀ s₀ env.locals n B' J Q) (fun _ _ => False) s₂
        else Q .next s₂) (fun _ _ => False) s') :
    wpAny (model prog w) A (exec (.While test body [] pos) env) Q E s := by
  refine wpAny_While (codeAny_whileLoop (fun k s' => ∃ B' m' X', J k B' m' X' ∧ Sub B B' ∧ St M B₀ s₀ B' env.locals m' X' s') ?_ n ⟨B, m, X, h0, .rfl, S⟩)
  rintro k s' ⟨B', m', X', hJ, hB, S'⟩
  refine wpAny_mono (turn k B' m' X' s' hJ hB S') (fun b s₂ h₂ => ?_) fun _ _ h => h.elim
  cases b with
  | false => simp only [Bool.false_eq_true, if_false] at h₂ ⊢; exact wpAny_execs_nil h₂
  | true =>
    simp only [if_true] at h₂ ⊢
    refine wpAny_mono h₂ (fun f s3 h3 => ?_) fun _ _ h => h.elim
    cases f with
    | ret v => exact h3
    | brk => exact h3
    | next => obtain ⟨j, B3, m3, X3, hj, hB3, hJ3, S3⟩ := h3; exact ⟨j, hj, B3, m3, X3, hJ3, hB.trans hB3, S3⟩
    | cont => obtain ⟨j, B3, m3, X3, hj, hB3, hJ3, S3⟩ := h3; exact ⟨j, hj, B3, m3, X3, hJ3, hB.trans hB3, S3⟩
end

/- MT -/

structure TF (w : World) (T : Heap) (mg mb : Str → Option Value) : Prop where
  K : (hd.heap_39 w.params).In T
  g : T.Ns mainGlobals mg
  b : T.Ns builtinsNs mb
  lim : T.NoLimit
  bi : ∀ x : Str, x ≠ "__name__" → mb x = bootBuiltins x
  bm : ∃ bm ob, mg "__builtins__" = some (.ref bm) ∧ bm ≠ builtinsNs ∧ T.get? bm = some ob ∧ ob.cls = .type "module" ∧ ob.dict = some builtinsNs ∧ ob.data = .plain
  hid : T.get? 162 = none

section
variable {M : List Addr} {B₀ B : Mem} {s₀ s : Shared} {L : Addr} {m : Str → Option Value} {X : Led} {prog : Program} {w : World} {A : Around} {E : Value → Shared → Prop} {env : Env} {T : Heap} {mg mb : Str → Option Value} {Q : Value → Shared → Prop} {x : Str} {pos : Pos} {v : Value}
theorem St.top (S : St M B₀ s₀ B L m X s) (h : Sub T.get? B₀) : Sub T.get? s.heap.get? := h.trans (S.sub0.trans S.sub)
theorem nm_g {M' : Model} (S : St M B₀ s₀ B L m X s) (hT : Sub T.get? B₀) (tf : TF w T mg mb) (e : nsIn (hd.heap_39 w.params) mainGlobals x = some (some v)) (h : Q v s)
    (hgl : env.globals = mainGlobals := by rfl) (hk : env.scope.kind = .function := by rfl) (hx : env.kindOf x = some .globalImplicit := by rfl) (hd' : (x == ("__debug__" : Str)) = false := by decide) :
    wpAny M' A (eval (.Name x pos) env) Q E s := nm_glob (S.top hT) tf.g (mg_of tf.K tf.g e) h hgl hk hx hd'
theorem nm_b {M' : Model} (S : St M B₀ s₀ B L m X s) (hT : Sub T.get? B₀) (tf : TF w T mg mb) (e : nsIn (hd.heap_39 w.params) mainGlobals x = some none ∧ bootBuiltins x = some v ∧ x ≠ "__name__") (h : Q v s)
    (hgl : env.globals = mainGlobals := by rfl) (hbl : env.builtins = builtinsNs := by rfl) (hk : env.scope.kind = .function := by rfl) (hx : env.kindOf x = some .globalImplicit := by rfl) (hd' : (x == ("__debug__" : Str)) = false := by decide) :
    wpAny M' A (eval (.Name x pos) env) Q E s := nm_builtin (S.top hT) tf.g (mg_none_of tf.K tf.g e.1) tf.b ((tf.bi x e.2.2).trans e.2.1) h hgl hbl hk hx hd'
end

section
variable {P : Params}
theorem g_cut_depth : nsIn (hd.heap_39 P) mainGlobals "cut_depth" = some (some (.ref 26)) := by kernel_rfl
theorem g_cut_flow : nsIn (hd.heap_39 P) mainGlobals "cut_flow" = some (some (.ref 33)) := by kernel_rfl
theorem g_cover_cuts : nsIn (hd.heap_39 P) mainGlobals "cover_cuts" = some (some (.ref 40)) := by kernel_rfl
theorem g_recovered_cuts : nsIn (hd.heap_39 P) mainGlobals "recovered_cuts" = some (some (.ref 47)) := by kernel_rfl
theorem g_Aig : nsIn (hd.heap_39 P) mainGlobals "Aig" = some (some (.ref 142)) := by kernel_rfl
theorem g_merge_cuts : nsIn (hd.heap_39 P) mainGlobals "merge_cuts" = some (some (.ref 153)) := by kernel_rfl
theorem g_within : nsIn (hd.heap_39 P) mainGlobals "within" = some (some (.ref 160)) := by kernel_rfl
theorem g_without_dominated : nsIn (hd.heap_39 P) mainGlobals "without_dominated" = some (some (.ref 167)) := by kernel_rfl
theorem g_node_cuts : nsIn (hd.heap_39 P) mainGlobals "node_cuts" = some (some (.ref 174)) := by kernel_rfl
theorem g_cut_sets : nsIn (hd.heap_39 P) mainGlobals "cut_sets" = some (some (.ref 181)) := by kernel_rfl
theorem g_law_take : nsIn (hd.heap_39 P) mainGlobals "_law_take" = some (some (.ref 188)) := by kernel_rfl
theorem g_law_graph : nsIn (hd.heap_39 P) mainGlobals "_law_graph" = some (some (.ref 193)) := by kernel_rfl
theorem g_law_flow : nsIn (hd.heap_39 P) mainGlobals "_law_flow" = some (some (.ref 198)) := by kernel_rfl
theorem g_law_level : nsIn (hd.heap_39 P) mainGlobals "_law_level" = some (some (.ref 203)) := by kernel_rfl
theorem b_len : nsIn (hd.heap_39 P) mainGlobals "len" = some none ∧ bootBuiltins "len" = some (.builtin "len") ∧ ("len" : Str) ≠ "__name__" := ⟨by kernel_rfl, by kernel_rfl, by decide⟩
theorem b_max : nsIn (hd.heap_39 P) mainGlobals "max" = some none ∧ bootBuiltins "max" = some (.builtin "max") ∧ ("max" : Str) ≠ "__name__" := ⟨by kernel_rfl, by kernel_rfl, by decide⟩
theorem b_min : nsIn (hd.heap_39 P) mainGlobals "min" = some none ∧ bootBuiltins "min" = some (.builtin "min") ∧ ("min" : Str) ≠ "__name__" := ⟨by kernel_rfl, by kernel_rfl, by decide⟩
theorem b_sum : nsIn (hd.heap_39 P) mainGlobals "sum" = some none ∧ bootBuiltins "sum" = some (.builtin "sum") ∧ ("sum" : Str) ≠ "__name__" := ⟨by kernel_rfl, by kernel_rfl, by decide⟩
theorem b_sorted : nsIn (hd.heap_39 P) mainGlobals "sorted" = some none ∧ bootBuiltins "sorted" = some (.builtin "sorted") ∧ ("sorted" : Str) ≠ "__name__" := ⟨by kernel_rfl, by kernel_rfl, by decide⟩
theorem b_range : nsIn (hd.heap_39 P) mainGlobals "range" = some none ∧ bootBuiltins "range" = some (.type "range") ∧ ("range" : Str) ≠ "__name__" := ⟨by kernel_rfl, by kernel_rfl, by decide⟩
theorem b_tuple : nsIn (hd.heap_39 P) mainGlobals "tuple" = some none ∧ bootBuiltins "tuple" = some (.type "tuple") ∧ ("tuple" : Str) ≠ "__name__" := ⟨by kernel_rfl, by kernel_rfl, by decide⟩
theorem b_list : nsIn (hd.heap_39 P) mainGlobals "list" = some none ∧ bootBuiltins "list" = some (.type "list") ∧ ("list" : Str) ≠ "__name__" := ⟨by kernel_rfl, by kernel_rfl, by decide⟩
end

/- F0 -/

def All2 {α β : Type} (F : α → β → Prop) (xs : List α) (ys : List β) : Prop := xs.length = ys.length ∧ ∀ (i : Nat) (x : α) (y : β), xs[i]? = some x → ys[i]? = some y → F x y
namespace All2
variable {α β : Type} {F G : α → β → Prop} {xs xs' : List α} {ys ys' : List β} {x : α} {y : β} {i : Nat}
theorem nil : All2 F [] [] := ⟨rfl, fun i x y h => by simp at h⟩
theorem mono (h : All2 F xs ys) (g : ∀ x y, F x y → G x y) : All2 G xs ys := ⟨h.1, fun i x y a b => g _ _ (h.2 i x y a b)⟩
theorem get (h : All2 F xs ys) (hx : xs[i]? = some x) : ∃ y, ys[i]? = some y ∧ F x y := by
  have hi : i < xs.length := by
    rcases Nat.lt_or_ge i xs.length with q | q
    · exact q
    · rw [List.getElem?_eq_none q] at hx; cases hx
  have hy : i < ys.length := h.1 ▸ hi
  exact ⟨ys[i], List.getElem?_eq_getElem hy, h.2 i _ _ hx (List.getElem?_eq_getElem hy)⟩
theorem get' (h : All2 F xs ys) (hy : ys[i]? = some y) : ∃ x, xs[i]? = some x ∧ F x y := by
  have hi : i < ys.length := by
    rcases Nat.lt_or_ge i ys.length with q | q
    · exact q
    · rw [List.getElem?_eq_none q] at hy; cases hy
  have hx : i < xs.length := h.1 ▸ hi
  exact ⟨xs[i], List.getElem?_eq_getElem hx, h.2 i _ _ (List.getElem?_eq_getElem hx) hy⟩
theorem append (h : All2 F xs ys) (h' : All2 F xs' ys') : All2 F (xs ++ xs') (ys ++ ys') := by
  refine ⟨by rw [List.length_append, List.length_append, h.1, h'.1], fun i x y a b => ?_⟩
  rcases Nat.lt_or_ge i xs.length with q | q
  · rw [List.getElem?_append_left q] at a
    rw [List.getElem?_append_left (h.1 ▸ q)] at b
    exact h.2 i x y a b
  · rw [List.getElem?_append_right q] at a
    rw [List.getElem?_append_right (h.1 ▸ q)] at b
    rw [h.1] at a
    exact h'.2 _ x y a b
theorem one (h : F x y) : All2 F [x] [y] := ⟨rfl, fun i a b ha hb => by
  match i with
  | 0 => simp at ha hb; subst ha hb; exact h
  | i + 1 => simp at ha⟩
theorem snoc (h : All2 F xs ys) (g : F x y) : All2 F (xs ++ [x]) (ys ++ [y]) := h.append (one g)
theorem cons (g : F x y) (h : All2 F xs ys) : All2 F (x :: xs) (y :: ys) := (one g).append h
theorem set (h : All2 F xs ys) (g : F x y) : All2 F (xs.set i x) (ys.set i y) := by
  refine ⟨by simp [h.1], fun j a b ha hb => ?_⟩
  rw [List.getElem?_set] at ha hb
  by_cases q : i = j
  · rw [if_pos q] at ha hb
    split at ha
    · split at hb
      · cases ha; cases hb; exact g
      · cases hb
    · cases ha
  · rw [if_neg q] at ha hb
    exact h.2 j a b ha hb
theorem replicate (n : Nat) (g : F x y) : All2 F (List.replicate n x) (List.replicate n y) := ⟨by simp, fun i a b ha hb => by
  rw [List.getElem?_replicate] at ha hb
  split at ha
  · rename_i q; rw [if_pos q] at hb; cases ha; cases hb; exact g
  · cases ha⟩
theorem tail (h : All2 F (x :: xs) (y :: ys)) : All2 F xs ys := ⟨by simpa using h.1, fun i a b ha hb => h.2 (i + 1) a b (by simpa using ha) (by simpa using hb)⟩
theorem head (h : All2 F (x :: xs) (y :: ys)) : F x y := h.2 0 x y rfl rfl
theorem take (h : All2 F xs ys) (n : Nat) : All2 F (xs.take n) (ys.take n) := ⟨by simp [h.1], fun i a b ha hb => by
  rw [List.getElem?_take] at ha hb
  split at ha
  · rename_i q; rw [if_pos q] at hb; exact h.2 i a b ha hb
  · cases ha⟩
end All2

def IntV (v : Value) (n : Int) : Prop := ∃ t, v = .int n t
abbrev Ints := All2 IntV
theorem Ints.are : ∀ {vs : List Value} {ns : List Int}, Ints vs ns → IntsAre vs ns
  | [], [], _ => .nil
  | [], _ :: _, h => nomatch h.1
  | _ :: _, [], h => nomatch h.1
  | v :: vs, n :: ns, h => by
    obtain ⟨t, rfl⟩ := h.head
    exact .cons _ _ (Ints.are h.tail)
theorem Ints.of {vs : List Value} {ns : List Int} (h : IntsAre vs ns) : Ints vs ns := by
  induction h with
  | nil => exact .nil
  | cons k t _ ih => exact .cons ⟨t, rfl⟩ ih

/-- a cut: a tuple of ints that is laid down -/
def CutAt (g : Mem) (v : Value) (c : List Int) : Prop := ∃ a vs, v = .ref a ∧ At g a (IsTp vs) ∧ Ints vs c
theorem CutAt.mono {g g' : Mem} {v : Value} {c : List Int} (x : CutAt g v c) (h : Sub g g') : CutAt g' v c := let ⟨a, vs, e, p, q⟩ := x; ⟨a, vs, e, p.mono h, q⟩
abbrev CutsAre (g : Mem) := All2 (CutAt g)
theorem CutsAre.mono' {g g' : Mem} {vs : List Value} {cs : List (List Int)} (x : CutsAre g vs cs) (h : Sub g g') : CutsAre g' vs cs := x.mono fun _ _ q => q.mono h
/-- a list of cuts that is laid down -/
def RowAt (g : Mem) (v : Value) (cs : List (List Int)) : Prop := ∃ a vs, v = .ref a ∧ At g a (IsLs vs) ∧ CutsAre g vs cs
theorem RowAt.mono {g g' : Mem} {v : Value} {cs : List (List Int)} (x : RowAt g v cs) (h : Sub g g') : RowAt g' v cs := let ⟨a, vs, e, p, q⟩ := x; ⟨a, vs, e, p.mono h, q.mono' h⟩

theorem allEq_ints : ∀ (c d : List Int), ((List.range (min c.length d.length)).all (fun j => c.getD j 0 == d.getD j 0) && c.length == d.length) = decide (c = d) := by
  intro c d
  by_cases h : c = d
  · subst h; simp
  · rw [decide_eq_false h]
    by_cases hl : c.length = d.length
    · rw [Bool.and_eq_false_iff]
      left
      rw [List.all_eq_false]
      false_or_by_contra
      rename_i hn
      apply h
      apply List.ext_getElem hl
      intro i h1 h2
      false_or_by_contra
      rename_i hne
      apply hn
      refine ⟨i, by simp; omega, ?_⟩
      simp [List.getD, h1, h2, hne]
    · simp [hl]

section
variable {prog : Program} {w : World} {A : Around} {E : Value → Shared → Prop} {s : Shared} {Q : Value → Shared → Prop}
theorem rc_cut {a b : Addr} {vs us : List Value} {c d : List Int} (ha : At s.heap.get? a (IsTp vs)) (hi : Ints vs c) (hb : At s.heap.get? b (IsTp us)) (hj : Ints us d) (hA : A.units < cLine) : RcAt A s (.ref a) (.ref b) (decide (c = d)) := by
  have r := RcAt.tuples (A := A) (e := fun j => c.getD j 0 == d.getD j 0) ha.isTup hb.isTup hA (fun j h1 h2 => by
    have h1' : j < vs.length := by simpa using h1
    have h2' : j < us.length := by simpa using h2
    have h1c : j < c.length := hi.1 ▸ h1'
    have h2d : j < d.length := hj.1 ▸ h2'
    obtain ⟨t, q1⟩ := hi.2 j _ _ (List.getElem?_eq_getElem h1') (List.getElem?_eq_getElem h1c)
    obtain ⟨t', q2⟩ := hj.2 j _ _ (List.getElem?_eq_getElem h2') (List.getElem?_eq_getElem h2d)
    have e1 : vs.toArray[j] = .int c[j] t := by simpa using q1
    have e2 : us.toArray[j] = .int d[j] t' := by simpa using q2
    rw [e1, e2]
    have : (c.getD j 0 == d.getD j 0) = (c[j] == d[j]) := by simp [List.getD, h1c, h2d]
    rw [this]
    exact EqAt.int_int _ _ _ _)
  have e1 : vs.toArray.size = c.length := by simp [hi.1]
  have e2 : us.toArray.size = d.length := by simp [hj.1]
  rw [e1, e2, allEq_ints] at r
  exact r
theorem IsTp.inj {vs us : List Value} {o : Obj} (h : IsTp vs o) (h' : IsTp us o) : vs = us := by
  obtain ⟨n, rfl⟩ := h
  obtain ⟨k, e⟩ := h'
  have e3 : vs.toArray = us.toArray := by injection e with _ _ h3 _; injection h3
  simpa using e3
theorem Ints.inj {vs : List Value} {c d : List Int} (h : Ints vs c) (h' : Ints vs d) : c = d := by
  apply List.ext_getElem (h.1.symm.trans h'.1)
  intro i h1 h2
  have hx : i < vs.length := by rw [h.1]; exact h1
  obtain ⟨t, q1⟩ := h.2 i _ _ (List.getElem?_eq_getElem hx) (List.getElem?_eq_getElem h1)
  obtain ⟨t', q2⟩ := h'.2 i _ _ (List.getElem?_eq_getElem hx) (List.getElem?_eq_getElem h2)
  have q3 := q1.symm.trans q2
  injection q3
theorem eqAt_cut {u v : Value} {c d : List Int} (hu : CutAt s.heap.get? u c) (hv : CutAt s.heap.get? v d) (hA : A.units < cLine) : EqAt A s u v (decide (c = d)) := by
  obtain ⟨a, vs, rfl, ha, hi⟩ := hu
  obtain ⟨b, us, rfl, hb, hj⟩ := hv
  by_cases e : a = b
  · subst e
    obtain ⟨o, e1, q1⟩ := ha
    obtain ⟨o', e2, q2⟩ := hb
    rw [e1] at e2; cases e2
    have := q1.inj q2
    subst this
    rw [decide_eq_true (hi.inj hj)]
    exact EqAt.same _
  · exact EqAt.of_refs e (rc_cut ha hi hb hj hA)
theorem eq_cut {u v : Value} {c d : List Int} (hu : CutAt s.heap.get? u c) (hv : CutAt s.heap.get? v d) (hA : A.units < cLine) (h : Q (.bool (decide (c = d))) s) : wpAny (model prog w) A (compareOp .Eq u v) Q E s := by
  obtain ⟨a, vs, rfl, ha, hi⟩ := hu
  obtain ⟨b, us, rfl, hb, hj⟩ := hv
  exact rc_cut ha hi hb hj hA prog w E Q h
theorem notIn_ints {a : Addr} {vs : List Value} {ns : List Int} {k : Int} {t : Tok} (ha : At s.heap.get? a (IsTp vs)) (hi : Ints vs ns) (h : ∀ b, Q (.bool b) s) : wpAny (model prog w) A (compareOp .NotIn (.int k t) (.ref a)) Q E s := by
  refine notIn_tupleAt (fun y => match y with | .int n _ => n == k | _ => false) ha.isTup (fun y hy => ?_) (h _)
  have hy' : y ∈ vs := by simpa using hy
  obtain ⟨i, hi', e⟩ := List.mem_iff_getElem.mp hy'
  obtain ⟨n, _, t', rfl⟩ := hi.get (List.getElem?_eq_getElem hi' |>.trans (congrArg some e))
  exact EqAt.int_int _ _ _ _
end

/- ME -/

section
variable {M : List Addr} {B₀ B : Mem} {s₀ s : Shared} {L : Addr} {m : Str → Option Value} {X : Led} {prog : Program} {w : World} {A : Around} {E : Value → Shared → Prop} {env : Env} {Q : Value → Shared → Prop}

theorem St.ext (S : St M B₀ s₀ B L m X s) {h' : Heap} {t : Nat} (hk : ∀ b o, s.heap.get? b = some o → h'.get? b = some o) : St M B₀ s₀ B L m X { s with heap := h', toks := t } := by
  refine ⟨⟨by have := S.same; rw [this], S.live, fun b e => S.pres b ?_, fun b o hb e => hk _ _ (S.keep b o hb e), S.sub0, fun b o e => hk _ _ (S.sub b o e), S.fresh⟩, S.ns.keeps hk, S.lo, S.off, fun p hp => ?_, S.nodup⟩
  · cases q : s.heap.get? b with
    | none => rfl
    | some o => rw [hk b o q] at e; cases e
  · obtain ⟨⟨o, e, ho⟩, r⟩ := S.news p hp
    exact ⟨⟨o, hk _ _ e, ho⟩, r⟩
theorem St.extN (S : St M B₀ s₀ B L m X s) {h' : Heap} {t : Nat} {D : Addr} {o : Obj} {P : Obj → Prop} (hk : ∀ b o, s.heap.get? b = some o → h'.get? b = some o) (hD : s.heap.get? D = none) (he : h'.get? D = some o) (hP : P o) :
    St M B₀ s₀ B L m ((D, P) :: X) { s with heap := h', toks := t } := by
  have S' := S.ext (t := t) hk
  refine ⟨S'.toGrow, S'.ns, S'.lo, S'.off, fun p hp => ?_, ?_⟩
  · rcases List.mem_cons.mp hp with rfl | hp
    · refine ⟨⟨o, he, hP⟩, fun q => ?_, ?_, .inr (S.pres _ hD)⟩
      · obtain ⟨oL, _, _, eL, _⟩ := S.ns
        dsimp only at q
        rw [q, eL] at hD; cases hD
      · cases q : B D with
        | none => rfl
        | some o' => rw [S.sub _ _ q] at hD; cases hD
    · exact S'.news p hp
  · refine List.nodup_cons.mpr ⟨fun h => ?_, S.nodup⟩
    obtain ⟨p, hp, e⟩ := List.mem_map.mp h
    obtain ⟨⟨o', e', _⟩, _⟩ := S.news p hp
    dsimp only at e
    rw [e, hD] at e'; cases e'

def IsMaxOf (k : Int) (ns : List Int) : Prop := k ∈ ns ∧ ∀ a, a ∈ ns → a ≤ k
theorem l_max {l : Addr} {vs : List Value} {ns : List Int} (hh : A.handled = none) (S : St M B₀ s₀ B L m X s) (hl : At s.heap.get? l (IsLs vs)) (hi : Ints vs ns) (hne : 0 < ns.length)
    (h : ∀ k t s', IsMaxOf k ns → St M B₀ s₀ B L m X s' → Q (.int k t) s') : wpAny (model prog w) A (call (.builtin "max") [.ref l]) Q E s :=
  max_list_N hh S.fr S.ne hl.isList hi.are hne fun h' k t tk F N h1 h2 => h k t _ ⟨h1, h2⟩ (S.back F N)
theorem l_sum {l : Addr} {vs : List Value} {ns : List Int} (hh : A.handled = none) (S : St M B₀ s₀ B L m X s) (hl : At s.heap.get? l (IsLs vs)) (hi : Ints vs ns)
    (h : ∀ t s', St M B₀ s₀ B L m X s' → Q (.int ns.sum t) s') : wpAny (model prog w) A (call (.builtin "sum") [.ref l]) Q E s := by
  obtain ⟨xs, e⟩ := hi.are.allInts.items
  have hl' := hl.isList
  rw [e] at hl'
  refine sum_intListG hh hl' fun h' tk t' hk => ?_
  have hn : ns = xs.toList.map (·.1) := by rw [← hi.are.numsOf, ← nums_intItems, ← e]
  have := h t' _ (S.ext (t := tk) hk)
  rw [hn] at this
  rw [preSum_eq, List.take_of_length_le (by simp)]; exact this

theorem all2_of_paired {α β : Type} {F : α → β → Prop} {xs : List α} {ys : List β} (h : Paired F xs ys) : All2 F xs ys := by
  induction h with
  | nil => exact .nil
  | cons h _ ih => exact .cons h ih

abbrev CompGoal (prog : Program) (w : World) (A : Around) (env : Env) (scope : Scope) (cl : List (Str × Addr)) (x : Str) (elt : Expr) (F : Value → Value → Prop) (Q : Value → Shared → Prop) (it : Value) (s₂ : Shared) : Prop :=
  ∃ I fp wr n P St, it = .ref I ∧ Walks prog w A I fp wr n P St ∧ n ≤ sizeLine ∧ St 0 s₂.heap ∧ (∀ b ∈ fp, b < s₂.heap.objs.size) ∧
      QuietOnC prog w A env scope cl x [] elt wr P (fun _ => true) F s₂ ∧
      (∀ D h' tk ys (vs : List Value), s₂.heap.get? D = none → h'.IsList D ys → h'.PlainList D ys → vs.length = n → (∀ j v, vs[j]? = some v → P j v) → Paired F (vs.filter fun _ => true) ys.toList →
        (∀ b o, b ∉ wr → s₂.heap.get? b = some o → h'.get? b = some o) → Q (.ref D) { s₂ with heap := h', toks := tk })

def LcGoal (prog : Program) (w : World) (A : Around) (E : Value → Shared → Prop) (env : Env) (scope : Scope) (cl : List (Str × Addr)) (x : Str) (elt : Expr) (F : Value → Value → Prop) (Q : Value → Shared → Prop) (xv : Value) (s₁ : Shared) : Prop :=
  wpAny (model prog w) A (pyIter xv) (fun it s₂ => CompGoal prog w A env scope cl x elt F Q it s₂) E s₁
theorem lc_eval {scope : Scope} {cl : List (Str × Addr)} {x : Str} {px pos : Pos} {elt iter : Expr} (F : Value → Value → Prop)
    (hclos : closureFor scope env = pure cl) (hcell : ∀ y ∈ scope.names, y.2 ≠ .cell) (hkind : scope.kind = .function)
    (hnames : ∀ y ∈ scope.names, y.2 = .local → scope.names.lookup y.1 = some .local) (hx : scope.names.lookup x = some .local)
    (h : wpAny (model prog w) A (eval iter env) (LcGoal prog w A E env scope cl x elt F Q) E s)
    (hs : ∀ x, foldedSetIterable iter env x = pure x := by intro _; rfl) :
    wpAny (model prog w) A (eval (.ListComp elt [⟨.Name x px, iter, [], 0⟩] scope pos) env) Q E s :=
  wpAny_ListComp_free (fun _ => true) F hclos hcell hkind hnames hx (wpAny_mono h (fun _ _ z => z) fun _ _ z => z) hs

theorem lc_common {scope : Scope} {cl : List (Str × Addr)} {x : Str} {elt : Expr} {I : Addr} {fp : List Addr} {vs : List Value} {Sw : Nat → Heap → Prop} {oI : Obj} {F : Value → Value → Prop}
    (S : St M B₀ s₀ B L m X s) (hI : s.heap.get? I = none) (hf : oI.isFreed = false) (hIe : I = s.heap.objs.size)
    (W : Walks prog w A I fp [I] vs.length (fun i v => vs[i]? = some v) Sw) (h0 : Sw 0 (s.heap.push oI)) (hfp : ∀ b ∈ fp, b < s.heap.objs.size + 1) (hn : vs.length ≤ 1000)
    (he : ∀ C v s₃ m₃ E', v ∈ vs → s₃.heap.Ns C m₃ → m₃ x = some v → (∀ b o, s.heap.get? b = some o → s₃.heap.get? b = some o) → wpAny (model prog w) A (eval elt (compEnvC scope cl C env)) (fun y s₄ => F v y ∧ Keeps s₃ s₄) E' s₃)
    (h : ∀ a ys s', St M B₀ s₀ B L m ((a, IsLs ys) :: X) s' → All2 F vs ys → Q (.ref a) s') : CompGoal prog w A env scope cl x elt F Q (.ref I) { s with heap := s.heap.push oI } := by
  have old : ∀ b o, s.heap.get? b = some o → (s.heap.push oI).get? b = some o := fun b o e => Heap.get?_push_of_some _ e
  refine ⟨I, fp, [I], vs.length, _, Sw, rfl, W, by rw [sizeLine_eq]; omega, h0, (fun b hb => by rw [Heap.size_push]; exact hfp b hb), ⟨?_, ?_⟩, ?_⟩
  · intro C i v s₃ m₃ E' _ _ _ _ _ _
    exact wpAny_tests_nil ⟨rfl, s₃.heap, s₃.toks, rfl, fun _ _ e => e⟩
  · intro C i v s₃ m₃ E' _ hv _ hns hx hk _
    refine he C v s₃ m₃ E' (List.mem_of_getElem? hv) hns hx fun b o e => hk b o (fun q => ?_) (old b o e)
    rw [List.mem_singleton.mp q, hI] at e; cases e
  · intro D h' tk ys us hD hl hpl hlen hus hF hk
    have hue : us = vs := by
      apply List.ext_getElem hlen
      intro j h1 h2
      have := hus j us[j] (List.getElem?_eq_getElem h1)
      rw [List.getElem?_eq_getElem h2] at this
      exact (Option.some.inj this).symm
    have hF' : Paired F vs ys.toList := by
      have e : us.filter (fun _ => true) = us := by simp
      rw [e, hue] at hF; exact hF
    obtain ⟨n', e'⟩ := hpl
    refine h D ys.toList _ (S.extN (t := tk) (fun b o e => hk b o (fun q => ?_) (old b o e)) ?_ e' ⟨n', by simp⟩) (all2_of_paired hF')
    · rw [List.mem_singleton.mp q, hI] at e; cases e
    · cases q : s.heap.get? D with
      | none => rfl
      | some o => have := old D o q; dsimp only at hD; rw [hD] at this; cases this

theorem lc_tuple {scope : Scope} {cl : List (Str × Addr)} {x : Str} {elt : Expr} {l : Addr} {vs : List Value} (F : Value → Value → Prop) (hh : A.handled = none)
    (S : St M B₀ s₀ B L m X s) (hl : At s.heap.get? l (IsTp vs)) (hn : vs.length ≤ 1000)
    (he : ∀ C v s₃ m₃ E', v ∈ vs → s₃.heap.Ns C m₃ → m₃ x = some v → (∀ b o, s.heap.get? b = some o → s₃.heap.get? b = some o) → wpAny (model prog w) A (eval elt (compEnvC scope cl C env)) (fun y s₄ => F v y ∧ Keeps s₃ s₄) E' s₃)
    (h : ∀ a ys s', St M B₀ s₀ B L m ((a, IsLs ys) :: X) s' → All2 F vs ys → Q (.ref a) s') :
    LcGoal prog w A E env scope cl x elt F Q (.ref l) s := by
  have hlt : l < s.heap.objs.size := let ⟨o, e, _⟩ := hl; Heap.lt_size e
  refine wpAny_pyIter_tuple hl.isTup ?_
  have W := Walks.tuple (prog := prog) (w := w) hh s.heap.objs.size l (Nat.ne_of_lt hlt) vs.toArray
  have e1 : vs.toArray.size = vs.length := by simp
  have e2 : (fun (i : Nat) v => vs.toArray[i]? = some v) = fun (i : Nat) v => vs[i]? = some v := by funext i v; simp
  rw [e1, e2] at W
  exact lc_common S (size_none _) rfl rfl W ⟨⟨_, Heap.get?_push_size _ rfl, rfl, rfl⟩, hl.isTup.at fun o e => Heap.get?_push_of_some _ e⟩
    (fun b hb => by
      rcases List.mem_cons.mp hb with rfl | hb
      · exact Nat.lt_succ_self _
      · rw [List.mem_singleton.mp hb]; exact Nat.lt_succ_of_lt hlt) hn he h
theorem lc_list {scope : Scope} {cl : List (Str × Addr)} {x : Str} {elt : Expr} {l : Addr} {vs : List Value} (F : Value → Value → Prop) (hh : A.handled = none)
    (S : St M B₀ s₀ B L m X s) (hl : At s.heap.get? l (IsLs vs)) (hn : vs.length ≤ 1000)
    (he : ∀ C v s₃ m₃ E', v ∈ vs → s₃.heap.Ns C m₃ → m₃ x = some v → (∀ b o, s.heap.get? b = some o → s₃.heap.get? b = some o) → wpAny (model prog w) A (eval elt (compEnvC scope cl C env)) (fun y s₄ => F v y ∧ Keeps s₃ s₄) E' s₃)
    (h : ∀ a ys s', St M B₀ s₀ B L m ((a, IsLs ys) :: X) s' → All2 F vs ys → Q (.ref a) s') :
    LcGoal prog w A E env scope cl x elt F Q (.ref l) s := by
  have hlt : l < s.heap.objs.size := let ⟨o, e, _⟩ := hl; Heap.lt_size e
  refine wpAny_pyIter_list hl.isList ?_
  have W := Walks.list (prog := prog) (w := w) hh s.heap.objs.size l (Nat.ne_of_lt hlt) vs.toArray
  have e1 : vs.toArray.size = vs.length := by simp
  have e2 : (fun (i : Nat) v => vs.toArray[i]? = some v) = fun (i : Nat) v => vs[i]? = some v := by funext i v; simp
  rw [e1, e2] at W
  exact lc_common S (size_none _) rfl rfl W ⟨⟨_, Heap.get?_push_size _ rfl, rfl, rfl⟩, hl.isList.at fun o e => Heap.get?_push_of_some _ e⟩
    (fun b hb => by
      rcases List.mem_cons.mp hb with rfl | hb
      · exact Nat.lt_succ_self _
      · rw [List.mem_singleton.mp hb]; exact Nat.lt_succ_of_lt hlt) hn he h
end

/- MF -/

def at' (ns : List Int) (x : Int) : Int := ns.getD x.toNat 0
inductive LUpd (l : Addr) (P P' : Obj → Prop) : Led → Led → Prop
  | head {r : Led} : LUpd l P P' ((l, P) :: r) ((l, P') :: r)
  | tail {p : Addr × (Obj → Prop)} {r r' : Led} : LUpd l P P' r r' → LUpd l P P' (p :: r) (p :: r')
theorem LUpd.split {l : Addr} {P P' : Obj → Prop} {X X' : Led} (U : LUpd l P P' X X') : ∃ X1 X2, X = X1 ++ (l, P) :: X2 ∧ X' = X1 ++ (l, P') :: X2 := by
  induction U with
  | head => exact ⟨[], _, rfl, rfl⟩
  | @tail p r r' _ ih => obtain ⟨a, b, h1, h2⟩ := ih; exact ⟨p :: a, b, by rw [h1]; rfl, by rw [h2]; rfl⟩
theorem LUpd.mem {l : Addr} {P P' : Obj → Prop} {X X' : Led} (U : LUpd l P P' X X') : (l, P) ∈ X := by
  obtain ⟨a, b, rfl, _⟩ := U.split; simp

section
variable {M : List Addr} {B₀ B : Mem} {s₀ s : Shared} {L : Addr} {m : Str → Option Value} {X X' : Led} {prog : Program} {w : World} {A : Around} {E : Value → Shared → Prop} {env : Env} {Q : Value → Shared → Prop}

theorem St.updL {l : Addr} {P P' : Obj → Prop} (U : LUpd l P P' X X') (S : St M B₀ s₀ B L m X s) {h' : Heap} {t : Nat} {o' : Obj} (hs : Heap.SameBut l s.heap h') (e' : h'.get? l = some o') (hP : P' o') : St M B₀ s₀ B L m X' { s with heap := h', toks := t } := by
  obtain ⟨X1, X2, rfl, rfl⟩ := U.split
  exact ((S.perm (List.perm_middle)).upd hs e' hP).perm List.perm_middle.symm

theorem set_listL {l : Addr} {vs : List Value} {k : Int} {t : Tok} {v : Value} {Q : Unit → Shared → Prop} (S : St M B₀ s₀ B L m X s) (U : LUpd l (IsLs vs) (IsLs (vs.set k.toNat v)) X X') (h0 : 0 ≤ k) (hk : k < 2 ^ 63) (hlt : k < vs.length)
    (h : ∀ s', St M B₀ s₀ B L m X' s' → Q () s') : wpAny (model prog w) A (setItem (.ref l) (.int k t) v) Q E s := by
  obtain ⟨o, e, n, rfl⟩ := S.at U.mem
  refine ki_setAt (n := n) e h0 hk (by simpa using hlt) (h _ (S.updL (t := s.toks) U (Heap.SameBut.update ..) (Heap.get?_update_self _ e rfl) ?_))
  refine ⟨if (vs.toArray.setIfInBounds k.toNat v).size == vs.toArray.size then n else n + 1, ?_⟩
  show _ = _
  simp only [Obj.mapSeq, List.setIfInBounds_toArray]

def ApG (l : Addr) (Q : Value → Shared → Prop) (v : Value) (s₁ : Shared) : Prop :=
  ∃ items n, items.size ≤ sizeLine ∧ IsL s₁.heap l items n ∧ Q .none { s₁ with heap := s₁.heap.update l (Obj.mapSeq fun xs => xs.push v) }
theorem ap_method {pos : Pos} {l : Addr} {e : Expr} {vs : List Value} {pl : Sem Bool} (hl : At s.heap.get? l (IsLs vs)) (h : wpAny (model prog w) A (eval e env) (ApG l Q) E s)
    (he : starEach [e] env = [(false, eval e env)] := by rfl) :
    wpAny (model prog w) A (getMethod (.ref l) "append" pl) (fun fx s₂ => wpAny (model prog w) A (callWith pos fx.1 fx.2 (backTo pos (starEach [e] env)) []) Q E s₂) E s := by
  obtain ⟨o, eo, n, rfl⟩ := hl
  refine getMethod_list_append eo rfl rfl ?_
  show wpAny (model prog w) A (callWith pos (.builtin "list.append") [.ref l] (backTo pos (starEach [e] env)) []) Q E s
  rw [he]
  exact P.append_list h
theorem ap_do {l : Addr} {vs : List Value} {v : Value} (S : St M B₀ s₀ B L m X s) (U : LUpd l (IsLs vs) (IsLs (vs ++ [v])) X X') (hsz : vs.length ≤ 10000)
    (h : ∀ s', St M B₀ s₀ B L m X' s' → Q .none s') : ApG l Q v s := by
  obtain ⟨o, e, n, rfl⟩ := S.at U.mem
  refine ⟨_, n, by rw [List.size_toArray, sizeLine_eq]; omega, e, h _ (S.updL (t := s.toks) U (Heap.SameBut.update ..) (Heap.get?_update_self _ e rfl) ?_)⟩
  refine ⟨if (vs.toArray.push v).size == vs.toArray.size then n else n + 1, ?_⟩
  show _ = _
  simp only [Obj.mapSeq, List.push_toArray]

theorem sub_tuple_int {value slice : Expr} {l : Addr} {vs : List Value} {ns : List Int} {k : Int} {u : Tok} (hl : At s.heap.get? l (IsTp vs)) (hi : Ints vs ns) (h0 : 0 ≤ k) (h1 : k < ns.length) (hn : ns.length ≤ 1000000) (h : ∀ t, Q (.int (at' ns k) t) s)
    (hs : subscripted slice false (.ref l) (.int k u) = operate [.ref l, .int k u] (getItem (.ref l) (.int k u)) := by with_unfolding_all rfl) :
    wpAny (model prog w) A (subscriptTail value slice (.ref l) (.int k u)) Q E s := by
  have hx : k.toNat < ns.length := by omega
  obtain ⟨v, e, t, q⟩ := hi.get' (List.getElem?_eq_getElem hx)
  have : at' ns k = ns[k.toNat] := by simp [at', List.getD, hx]
  exact sub_tuple hl h0 (by omega) e (by rw [q, ← this]; exact h t) hs
theorem sub_list_int {value slice : Expr} {l : Addr} {vs : List Value} {ns : List Int} {k : Int} {u : Tok} (hl : At s.heap.get? l (IsLs vs)) (hi : Ints vs ns) (h0 : 0 ≤ k) (h1 : k < ns.length) (hn : ns.length ≤ 1000000) (h : ∀ t, Q (.int (at' ns k) t) s)
    (hs : subscripted slice false (.ref l) (.int k u) = operate [.ref l, .int k u] (getItem (.ref l) (.int k u)) := by with_unfolding_all rfl) :
    wpAny (model prog w) A (subscriptTail value slice (.ref l) (.int k u)) Q E s := by
  have hx : k.toNat < ns.length := by omega
  obtain ⟨v, e, t, q⟩ := hi.get' (List.getElem?_eq_getElem hx)
  have : at' ns k = ns[k.toNat] := by simp [at', List.getD, hx]
  exact sub_list hl h0 (by omega) e (by rw [q, ← this]; exact h t) hs
theorem get_list_int {l : Addr} {vs : List Value} {ns : List Int} {k : Int} {u : Tok} (hl : At s.heap.get? l (IsLs vs)) (hi : Ints vs ns) (h0 : 0 ≤ k) (h1 : k < ns.length) (hn : ns.length ≤ 1000000) (h : ∀ t, Q (.int (at' ns k) t) s) :
    wpAny (model prog w) A (getItem (.ref l) (.int k u)) Q E s := by
  have hx : k.toNat < ns.length := by omega
  obtain ⟨v, e, t, q⟩ := hi.get' (List.getElem?_eq_getElem hx)
  have : at' ns k = ns[k.toNat] := by simp [at', List.getD, hx]
  exact get_list hl h0 (by omega) e (by rw [q, ← this]; exact h t)

/-- what follows a statement, kept under a name; n: how deep it lies -/
structure KTag (n : Nat) (k : Shared → Prop) (Q K : Flow → Shared → Prop) : Prop where
  app : ∀ f s', Kn k Q f s' → K f s'
theorem KTag.use {n : Nat} {k : Shared → Prop} {Q K : Flow → Shared → Prop} {f : Flow} (h : KTag n k Q K) (hp : Kn k Q f s) : K f s := h.app f s hp
section
variable {M' : Model} {st : Stmt} {rest : List Stmt} {Q : Flow → Shared → Prop} {k' : Shared → Prop} {Q' K' : Flow → Shared → Prop}
theorem xs_cons0 (h : ∀ (K0 : Flow → Shared → Prop) (_hK0 : KTag 0 (fun s' => wpAny M' A (execs rest env) Q E s') Q K0), wpAny M' A (exec st env) K0 E s) : wpAny M' A (execs (st :: rest) env) Q E s :=
  xs_cons (h _ ⟨fun _ _ h => h⟩)
theorem xs_cons1 (_t : KTag 0 k' Q' K') (h : ∀ (K1 : Flow → Shared → Prop) (_hK1 : KTag 1 (fun s' => wpAny M' A (execs rest env) Q E s') Q K1), wpAny M' A (exec st env) K1 E s) : wpAny M' A (execs (st :: rest) env) Q E s :=
  xs_cons (h _ ⟨fun _ _ h => h⟩)
theorem xs_cons2 (_t : KTag 1 k' Q' K') (h : ∀ (K2 : Flow → Shared → Prop) (_hK2 : KTag 2 (fun s' => wpAny M' A (execs rest env) Q E s') Q K2), wpAny M' A (exec st env) K2 E s) : wpAny M' A (execs (st :: rest) env) Q E s :=
  xs_cons (h _ ⟨fun _ _ h => h⟩)
theorem xs_cons3 (_t : KTag 2 k' Q' K') (h : ∀ (K3 : Flow → Shared → Prop) (_hK3 : KTag 3 (fun s' => wpAny M' A (execs rest env) Q E s') Q K3), wpAny M' A (exec st env) K3 E s) : wpAny M' A (execs (st :: rest) env) Q E s :=
  xs_cons (h _ ⟨fun _ _ h => h⟩)
end
theorem ite_t {P R : Prop} (h : P) : if true = true then P else R := by rw [if_pos rfl]; exact h
theorem ite_f {P R : Prop} (h : R) : if false = true then P else R := by rw [if_neg (by decide)]; exact h
theorem ite_dec {p P R : Prop} [Decidable p] (h1 : p → P) (h2 : ¬ p → R) : if decide p = true then P else R := by
  by_cases h : p
  · rw [decide_eq_true h, if_pos rfl]; exact h1 h
  · rw [decide_eq_false h, if_neg (by decide)]; exact h2 h
theorem ite_beq {a b : Int} {P R : Prop} (h1 : a = b → P) (h2 : a ≠ b → R) : if (a == b) = true then P else R := by
  by_cases h : a = b
  · rw [if_pos (by simpa using h)]; exact h1 h
  · rw [if_neg (by simpa using h)]; exact h2 h
theorem ite_not {b : Bool} {P R : Prop} (h1 : b = false → P) (h2 : b = true → R) : if (!b) = true then P else R := by
  cases b
  · exact h1 rfl
  · exact h2 rfl

theorem tuple_of {l : Addr} {vs : List Value} (S : St M B₀ s₀ B L m X s) (hl : At s.heap.get? l (IsLs vs)) (hsz : vs.length ≤ 1000)
    (h : ∀ a B' s', St M B₀ s₀ B' L m X s' → Sub B B' → At B' a (IsTp vs) → Q (.ref a) s') : wpAny (model prog w) A (call (.type "tuple") [.ref l]) Q E s := by
  refine call_tuple_list hl.isList (fun h' hk => ?_) (by rw [List.size_toArray, sizeLine_eq]; omega)
  have S1 := S.ext (t := s.toks) hk
  have P := S1.pushB (t := s.toks) ({ cls := .type "tuple", data := .seq vs.toArray } : Obj)
  exact h _ _ _ P.1 P.2 ⟨_, ext_self, 0, rfl⟩
theorem list_of {l : Addr} {vs : List Value} (S : St M B₀ s₀ B L m X s) (hl : At s.heap.get? l (IsLs vs)) (hsz : vs.length ≤ 1000)
    (h : ∀ a s', St M B₀ s₀ B L m ((a, IsLs vs) :: X) s' → Q (.ref a) s') : wpAny (model prog w) A (call (.type "list") [.ref l]) Q E s := by
  obtain ⟨o, e, n, rfl⟩ := hl
  refine call_list_seq l (.inl rfl) e rfl rfl (fun h' c' hk hD => h _ _ (S.extN (t := s.toks) hk (size_none _) hD ⟨c', rfl⟩)) (by rw [List.size_toArray, sizeLine_eq]; omega)

theorem St.kept {a : Addr} {P : Obj → Prop} (S : St M B₀ s₀ B L m X s) (h : At s₀.heap.get? a P) (ha : a ∉ M := by exact List.not_mem_nil) : At s.heap.get? a P :=
  let ⟨o, e, p⟩ := h; ⟨o, S.keep _ _ ha e, p⟩
end

/- F1 -/
local macro_rules | `(tactic| walk_at "om") => `(tactic| first | with_reducible assumption | with_reducible exact Int.natCast_nonneg _ | decide +kernel | omega)
local macro_rules | `(tactic| walk_at "lk") => `(tactic| ((repeat ((with_reducible refine' upd_ne ?lkA ?lkB); (case lkB => decide))); first | with_reducible exact upd_self | assumption | exact rfl))
local macro_rules | `(tactic| walk_at "led") => `(tactic| first | assumption | ((repeat (first | exact List.Mem.head _ | refine List.Mem.tail _ ?_)); done))
local macro_rules | `(tactic| walk_at "lupd") => `(tactic| ((repeat (first | with_reducible exact LUpd.head | with_reducible apply LUpd.tail)); done))
local macro_rules | `(tactic| walk_at "sz") => `(tactic| first | omega | (simp only [List.length_append, List.length_cons, List.length_nil, List.length_set, List.length_replicate]; omega))
local macro_rules | `(tactic| walk_at "at") => `(tactic| first | exact St.atB (by assumption) (by assumption) | exact St.kept (by assumption) (by assumption) | exact St.at (by assumption) (by walk_at "led"))
local macro_rules | `(tactic| walk_at "name") => `(tactic| first
  | ((with_reducible show wpAny _ _ (eval (Expr.Name _ _) _) _ _ _); first
     | (refine' nm_local (by assumption) ?lkV ?lkR; (case lkV => walk_at "lk"))
     | (refine nm_g (by assumption) (by assumption) (by assumption) (by first | with_reducible exact g_cut_depth | with_reducible exact g_cut_flow | with_reducible exact g_cover_cuts | with_reducible exact g_recovered_cuts | with_reducible exact g_Aig | with_reducible exact g_merge_cuts | with_reducible exact g_within | with_reducible exact g_without_dominated | with_reducible exact g_node_cuts | with_reducible exact g_cut_sets | with_reducible exact g_law_take | with_reducible exact g_law_graph | with_reducible exact g_law_flow | with_reducible exact g_law_level) ?_)
     | (refine nm_b (by assumption) (by assumption) (by assumption) (by first | with_reducible exact b_len | with_reducible exact b_max | with_reducible exact b_min | with_reducible exact b_sum | with_reducible exact b_sorted | with_reducible exact b_range | with_reducible exact b_tuple | with_reducible exact b_list) ?_)))
local macro_rules | `(tactic| walk_at "me") => `(tactic| first
  | ((with_reducible show wpAny _ _ (eval (Expr.Name _ _) _) _ _ _); walk_at "name")
  | ((with_reducible show wpAny _ _ (eval (Expr.Constant (Const.int _) _ _) _) _ _ _); (with_reducible refine c_int (by assumption) ?_); intro _ _ _)
  | ((with_reducible show wpAny _ _ (eval (Expr.Constant Const.none _ _) _) _ _ _); (with_reducible refine wpAny_Constant_none ?_))
  | ((with_reducible show wpAny _ _ (eval (Expr.Constant (Const.bool _) _ _) _) _ _ _); (with_reducible refine wpAny_Constant_bool ?_))
  | ((with_reducible show wpAny _ _ (eval (Expr.BinOp _ _ _ _) _) _ _ _); (with_reducible refine wpAny_BinOp ?_))
  | ((with_reducible show wpAny _ _ (eval (Expr.UnaryOp _ _ _) _) _ _ _); (with_reducible refine wpAny_UnaryOp ?_))
  | ((with_reducible show wpAny _ _ (eval (Expr.Compare _ [_] [_] _) _) _ _ _); (refine wpAny_Compare1 ?_))
  | ((with_reducible show wpAny _ _ (eval (Expr.BoolOp BoolOp.And [_, _] _) _) _ _ _); (with_reducible refine wpAny_And2 ?_))
  | ((with_reducible show wpAny _ _ (eval (Expr.BoolOp BoolOp.Or [_, _] _) _) _ _ _); (with_reducible refine wpAny_Or2 ?_))
  | ((with_reducible show wpAny _ _ (eval (Expr.IfExp _ _ _ _) _) _ _ _); (with_reducible refine wpAny_IfExp ?_))
  | ((with_reducible show wpAny _ _ (eval (Expr.Call (Expr.Attribute _ _ _) _ _ _) _) _ _ _); (refine MethodCall_ ?_))
  | ((with_reducible show wpAny _ _ (eval (Expr.Call _ _ _ _) _) _ _ _); (refine Call_ ?_))
  | ((with_reducible show wpAny _ _ (eval (Expr.Attribute _ _ _) _) _ _ _); (refine Attribute_any_ ?_))
  | ((with_reducible show wpAny _ _ (eval (Expr.Subscript _ _ _) _) _ _ _); (with_reducible refine Subscript_ ?_))
  | ((with_reducible show wpAny _ _ (eval (Expr.Tuple _ _ _) _) _ _ _); (with_reducible refine Tuple_ ?_))
  | ((with_reducible show wpAny _ _ (eval (Expr.List _ _) _) _ _ _); (with_reducible refine List_ ?_))
  | fail "no step")
local macro_rules | `(tactic| walk_at "mx") => `(tactic| first
  | ((with_reducible show wpAny _ _ (execs (_ :: _) _) _ _ _); (first | with_reducible refine xs_cons3 (by assumption) ?_ | with_reducible refine xs_cons2 (by assumption) ?_ | with_reducible refine xs_cons1 (by assumption) ?_ | with_reducible refine xs_cons0 ?_); (set_option tactic.hygienic false in intro _ _))
  | ((with_reducible show wpAny _ _ (execs [] _) _ _ _); (with_reducible refine wpAny_execs_nil ?_))
  | ((with_reducible show wpAny _ _ (exec (Stmt.Assign [Expr.Name _ _] _ _) _) _ _ _); (refine wpAny_Assign_Name ?_))
  | ((with_reducible show wpAny _ _ (exec (Stmt.Assign [Expr.Subscript _ _ _] _ _) _) _ _ _); (refine wpAny_Assign_Subscript ?_))
  | ((with_reducible show wpAny _ _ (exec (Stmt.AugAssign (Expr.Name _ _) _ _ _) _) _ _ _); (with_reducible refine wpAny_AugAssign_Name ?_))
  | ((with_reducible show wpAny _ _ (exec (Stmt.AugAssign (Expr.Subscript _ _ _) _ _ _) _) _ _ _); (refine wpAny_AugAssign_SubscriptAny ?_))
  | ((with_reducible show wpAny _ _ (exec (Stmt.If _ _ _ _) _) _ _ _); (with_reducible refine wpAny_If ?_))
  | ((with_reducible show wpAny _ _ (exec (Stmt.For _ _ _ _ _) _) _ _ _); (refine wpAny_For ?_))
  | ((with_reducible show wpAny _ _ (exec (Stmt.Return (some _) _) _) _ _ _); (with_reducible refine wpAny_Return_some ?_))
  | ((with_reducible show wpAny _ _ (exec (Stmt.Return none _) _) _ _ _); (with_reducible refine wpAny_Return_none ?_))
  | ((with_reducible show wpAny _ _ (exec (Stmt.Continue _) _) _ _ _); (with_reducible refine wpAny_Continue ?_))
  | ((with_reducible show wpAny _ _ (exec (Stmt.Expr _ _) _) _ _ _); (refine wpAny_Expr_any ?_))
  | fail "no step")
local macro_rules | `(tactic| walk_at "mw") => `(tactic| first
  | ((with_reducible show wpAny _ _ (call (Value.builtin "len") [Value.ref _]) _ _ _); first | (refine len_list (by assumption) (by walk_at "at") (by walk_at "sz") ?_; intro _ _ _) | (refine len_tuple (by assumption) (by walk_at "at") (by walk_at "sz") ?_; intro _ _ _))
  | ((with_reducible show wpAny _ _ (subscriptTail _ _ (Value.ref _) (Value.int _ _)) _ _ _); first | (refine sub_tuple_int (by walk_at "at") (by assumption) (by walk_at "om") (by walk_at "om") (by walk_at "om") ?_; intro _) | (refine sub_list_int (by walk_at "at") (by assumption) (by walk_at "om") (by walk_at "om") (by walk_at "om") ?_; intro _))
  | ((with_reducible show wpAny _ _ (getItem (Value.ref _) (Value.int _ _)) _ _ _); (refine get_list_int (by walk_at "at") (by assumption) (by walk_at "om") (by walk_at "om") (by walk_at "om") ?_; intro _))
  | ((with_reducible show wpAny _ _ (getMethod (Value.ref _) (Str.ofString "append") _) _ _ _); refine ap_method (by walk_at "at") ?_)
  | ((with_reducible show wpAny _ _ (PySem.isTrue (Expr.Compare _ [_] [_] _) _ _) _ _ _); (refine wpAny_isTrue_Compare1 ?_))
  | ((with_reducible show wpAny _ _ (PySem.isTrue (Expr.BoolOp _ _ _) _ _) _ _ _); (with_reducible refine wpAny_isTrue_BoolOp ?_))
  | ((with_reducible show wpAny _ _ (PySem.isTrue (Expr.UnaryOp UnaryOp.Not _ _) _ _) _ _ _); (with_reducible refine wpAny_isTrue_Not ?_))
  | ((with_reducible show wpAny _ _ (PySem.isTrue _ _ _) _ _ _); (refine isTrue_plain ?_))
  | ((with_reducible show wpAny _ _ (allTrue BoolOp.And [] _) _ _ _); (with_reducible refine wpAny_allTrue_And_nil ?_))
  | ((with_reducible show wpAny _ _ (allTrue BoolOp.Or [] _) _ _ _); (with_reducible refine wpAny_allTrue_Or_nil ?_))
  | ((with_reducible show wpAny _ _ (allTrue BoolOp.And (_ :: _) _) _ _ _); (with_reducible refine wpAny_allTrue_And_cons ?_))
  | ((with_reducible show wpAny _ _ (allTrue BoolOp.Or (_ :: _) _) _ _ _); (with_reducible refine wpAny_allTrue_Or_cons ?_))
  | ((with_reducible show wpAny _ _ (spliced (backTo _ (starEach [] _))) _ _ _); (with_reducible refine PyProof.Rows.args_nil ?_))
  | ((with_reducible show wpAny _ _ (spliced (backTo _ (starEach (_ :: _) _))) _ _ _); (refine PyProof.Rows.args_cons ?_))
  | ((with_reducible show wpAny _ _ (callWith _ (Value.builtin _) [] (backTo _ (starEach (_ :: _) _)) []) _ _ _); (refine PyProof.Rows.callWith_builtin1 ?_))
  | ((with_reducible show wpAny _ _ (callWith _ (Value.type _) [] (backTo _ (starEach (_ :: _) _)) []) _ _ _); (refine PyProof.Rows.callWith_type1 ?_))
  | ((with_reducible show wpAny _ _ (truthy (Value.bool _)) _ _ _); (with_reducible refine wpAny_truthy_bool ?_))
  | ((with_reducible show wpAny _ _ (storeName _ _ _) _ _ _); (refine st_local (by assumption) ?_); intro _ _)
  | ((with_reducible show wpAny _ _ (loadName _ _) _ _ _); (refine' ldn_local (by assumption) ?lkV ?lkR; (case lkV => walk_at "lk")))
  | ((with_reducible show wpAny _ _ (inplaceOp Operator.Add (Value.int _ _) (Value.int _ _)) _ _ _); (with_reducible refine i_iadd (by assumption) ?_); intro _ _ _)
  | ((with_reducible show wpAny _ _ (binaryOp Operator.Add (Value.int _ _) (Value.int _ _)) _ _ _); (with_reducible refine i_add (by assumption) ?_); intro _ _ _)
  | ((with_reducible show wpAny _ _ (binaryOp Operator.Sub (Value.int _ _) (Value.int _ _)) _ _ _); (with_reducible refine i_sub (by assumption) ?_); intro _ _ _)
  | ((with_reducible show wpAny _ _ (unaryOp UnaryOp.USub (Value.int _ _)) _ _ _); (with_reducible refine i_neg (by assumption) ?_); intro _ _ _)
  | ((with_reducible show wpAny _ _ (compareOp CmpOp.Lt (Value.int _ _) (Value.int _ _)) _ _ _); (with_reducible refine lt_int ?_))
  | ((with_reducible show wpAny _ _ (compareOp CmpOp.Gt (Value.int _ _) (Value.int _ _)) _ _ _); (with_reducible refine gt_int ?_))
  | ((with_reducible show wpAny _ _ (compareOp CmpOp.LtE (Value.int _ _) (Value.int _ _)) _ _ _); (with_reducible refine le_int ?_))
  | ((with_reducible show wpAny _ _ (compareOp CmpOp.GtE (Value.int _ _) (Value.int _ _)) _ _ _); (with_reducible refine ge_int ?_))
  | ((with_reducible show wpAny _ _ (compareOp CmpOp.Eq (Value.int _ _) (Value.int _ _)) _ _ _); (with_reducible refine PyProof.Rows.eq_int ?_))
  | ((with_reducible show wpAny _ _ (compareOp CmpOp.NotEq (Value.int _ _) (Value.int _ _)) _ _ _); (with_reducible refine PyProof.Rows.ne_int ?_))
  | ((with_reducible show wpAny _ _ (compareOp CmpOp.Is _ Value.none) _ _ _); (with_reducible refine is_none ?_))
  | ((with_reducible show wpAny _ _ (compareOp CmpOp.IsNot _ Value.none) _ _ _); (with_reducible refine isNot_none ?_))
  | fail "no step")
local macro_rules | `(tactic| walk_at "mo") => `(tactic| first
  | ((with_reducible show Kn _ _ Flow.next _); (with_reducible refine Kn_next ?_))
  | ((with_reducible show Kn _ _ (Flow.ret _) _); (with_reducible refine Kn_ret ?_))
  | ((with_reducible show Kn _ _ Flow.cont _); (with_reducible refine Kn_cont ?_))
  | ((with_reducible show Rn _ (Flow.ret _) _); (with_reducible refine Rn_ret ?_))
  | ((with_reducible show Rn _ Flow.next _); (with_reducible refine Rn_next ?_))
  | ((with_reducible show TurnP _ _ _ _ _ _ _ _ (Flow.ret _) _); (with_reducible refine TurnP.ret ?_))
  | ((with_reducible show ite (true = true) _ _); (with_reducible refine ite_t ?_))
  | ((with_reducible show ite (false = true) _ _); (with_reducible refine ite_f ?_))
  | ((with_reducible show ite (decide _ = true) _ _); (with_reducible refine ite_dec ?_ ?_) <;> intro _ <;> (try (exfalso; omega; done)))
  | ((with_reducible show ite (((_ : Int) == _) = true) _ _); (with_reducible refine ite_beq ?_ ?_) <;> intro _ <;> (try (exfalso; omega; done)))
  | ((with_reducible show ite ((!_) = true) _ _); (with_reducible refine ite_not ?_ ?_) <;> intro _)
  | ((with_reducible show ite (_ = true) (wpAny _ _ _ _ _ _) _); (with_reducible refine ite_split ?_ ?_) <;> intro _)
  | ((with_reducible show ite (_ = true) _ (wpAny _ _ _ _ _ _)); (with_reducible refine ite_split ?_ ?_) <;> intro _)
  | ((with_reducible show ApG _ _ _ _); refine ap_do (by assumption) (by walk_at "lupd") (by walk_at "sz") ?_; intro _ _)
  | ((with_reducible refine KTag.use (by assumption) ?_); (try ((rename KTag _ _ _ _ => hk); clear hk; (rename (Flow → Shared → Prop) => kk); clear kk)))
  | fail "no step")
local macro_rules | `(tactic| walk_at "m1") => `(tactic| first
  | ((with_reducible show wpAny _ _ (eval _ _) _ _ _); walk_at "me")
  | ((with_reducible show wpAny _ _ (exec _ _) _ _ _); walk_at "mx")
  | ((with_reducible show wpAny _ _ (execs _ _) _ _ _); walk_at "mx")
  | ((with_reducible show wpAny _ _ _ _ _ _); walk_at "mw")
  | walk_at "mo"
  | fail "no step")
local macro_rules | `(tactic| walk_at "ms") => `(tactic| repeat' walk_at "m1")

section
variable {B : Mem} {s : Shared} {prog : Program} {w : World} {A : Around} {E : Value → Shared → Prop} {T : Heap} {mg mb : Str → Option Value} {Q : Value → Shared → Prop}

theorem within_call {u v : Value} {c d : List Int} (tf : TF w T mg mb) (hT : Sub T.get? B) (hB : Sub B s.heap.get?) (hA : Room A 2)
    (hu : CutAt B u c) (hv : CutAt B v d)
    (hQ : ∀ r s', Grow [] B s B s' → Q (.bool r) s') : wpAny (model prog w) A (call (.ref 160) [u, v]) Q E s := by
  have ho := tf.K 160 _ rfl
  have hf := hT.trans hB
  obtain ⟨a, vs, rfl, ha, hi⟩ := hu
  obtain ⟨b, us, rfl, hb, hj⟩ := hv
  refine call_st (M' := []) (binds := [("small", .ref a), ("large", .ref b)]) (Y := []) (BB := B) hA (hf _ _ ho) (tf.lim.keeps hf) ((codeRec_of tf.K (by kernel_rfl)).keeps hf) hB (fun _ h => nomatch h) .nil (fun _ h => nomatch h) rfl (locs rfl) ?_
  clear ho
  intro s₁ L A' hA' S
  walk_at "ms"
  refine for_tuple hA'.handled S (ha.mono S.sub) (fun i B' m X => B' = B ∧ m "large" = some (.ref b) ∧ X = []) ⟨rfl, rfl, rfl⟩ (fun i B' m' X' s' hJ hs S' => (ha.mono hs).mono S'.sub) ?_ ?_
  · rintro I i v B' m' X' s' hx ⟨rfl, hl, rfl⟩ hs S'
    obtain ⟨n, _, t, rfl⟩ := hi.get hx
    walk_at "ms"
    refine notIn_ints (hb.mono S'.sub) hj fun r => ?_
    walk_at "ms"
    · exact hQ _ _ S'.toGrow
    · exact TurnP.next .rfl ⟨rfl, by walk_at "lk", rfl⟩ S'
  · rintro B' m' X' s' ⟨rfl, hl, rfl⟩ hs S'
    walk_at "ms"
    exact hQ _ _ S'.toGrow
end

/- F2 -/

def lvl (dp : List Int) : List Int → Int
  | [] => 0
  | x :: r => 1 + r.foldl (fun a y => max a (at' dp y)) (at' dp x)
def flw (fl : List Int) (c : List Int) : Int := 60 + (c.map (at' fl)).sum
theorem foldl_max (f : Int → Int) : ∀ (r : List Int) (z : Int), IsMaxOf (r.foldl (fun a y => max a (f y)) z) (z :: r.map f)
  | [], z => ⟨by simp, fun a h => by simp at h; simp; omega⟩
  | x :: r, z => by
    obtain ⟨h1, h2⟩ := foldl_max f r (max z (f x))
    refine ⟨?_, fun a ha => ?_⟩
    · rw [List.foldl_cons]
      rcases List.mem_cons.mp h1 with e | e
      · rw [e]
        rcases Int.le_total z (f x) with q | q
        · rw [Int.max_eq_right q]; simp
        · rw [Int.max_eq_left q]; simp
      · simp [e]
    · rw [List.foldl_cons]
      have hz : max z (f x) ≤ r.foldl (fun a y => max a (f y)) (max z (f x)) := h2 _ (.head _)
      simp only [List.map_cons, List.mem_cons] at ha
      rcases ha with e | e | e
      · rw [e]; omega
      · rw [e]; omega
      · exact h2 a (.tail _ e)
theorem IsMaxOf.uniq {a b : Int} {ns : List Int} (h : IsMaxOf a ns) (h' : IsMaxOf b ns) : a = b := Int.le_antisymm (h'.2 a h.1) (h.2 b h'.1)
theorem lvl_of {dp : List Int} {c : List Int} {k : Int} (hc : c ≠ []) (h : IsMaxOf k (c.map (at' dp))) : 1 + k = lvl dp c := by
  cases c with
  | nil => exact absurd rfl hc
  | cons x r =>
    unfold lvl
    rw [h.uniq (foldl_max (at' dp) r (at' dp x))]
theorem at_get {vs : List Value} {ns : List Int} (hi : Ints vs ns) {x : Int} (h0 : 0 ≤ x) (h1 : x < ns.length) : ∃ t, vs[x.toNat]? = some (.int (at' ns x) t) := by
  have hx : x.toNat < ns.length := by omega
  obtain ⟨v, e, t, q⟩ := hi.get' (List.getElem?_eq_getElem hx)
  refine ⟨t, ?_⟩
  rw [e, q]
  unfold at'
  simp [List.getD, hx]

theorem sum_next {α : Type} (f : α → Int) {c : List α} {i : Nat} {n : α} (hn : c[i]? = some n) : ((c.take (i + 1)).map f).sum = ((c.take i).map f).sum + f n := by
  rw [List.take_add_one, hn]; simp
section
variable {B : Mem} {s : Shared} {prog : Program} {w : World} {A : Around} {E : Value → Shared → Prop} {T : Heap} {mg mb : Str → Option Value} {Q : Value → Shared → Prop}
theorem cut_flow_call {d : Addr} {vs : List Value} {fl : List Int} {u : Value} {c : List Int} (tf : TF w T mg mb) (hT : Sub T.get? B) (hB : Sub B s.heap.get?) (hA : Room A 2)
    (hd' : At s.heap.get? d (IsLs vs)) (hi : Ints vs fl) (hu : CutAt B u c) (hc : ∀ x ∈ c, 0 ≤ x ∧ x < fl.length) (hl : fl.length ≤ 1000)
    (hQ : ∀ t s', Grow [] B s B s' → Q (.int (flw fl c) t) s') : wpAny (model prog w) A (call (.ref 33) [.ref d, u]) Q E s := by
  have ho := tf.K 33 _ rfl
  have hf := hT.trans hB
  obtain ⟨b, us, rfl, hb, hj⟩ := hu
  refine call_st (M' := []) (binds := [("flow", .ref d), ("cut", .ref b)]) (Y := []) (BB := B) hA (hf _ _ ho) (tf.lim.keeps hf) ((codeRec_of tf.K (by kernel_rfl)).keeps hf) hB (fun _ h => nomatch h) .nil (fun _ h => nomatch h) rfl (locs rfl) ?_
  clear ho
  intro s₁ L A' hA' S
  walk_at "ms"
  rename_i S1
  refine for_tuple hA'.handled S1 (hb.mono S1.sub) (fun i B' m X => B' = B ∧ m "flow" = some (.ref d) ∧ (∃ t, m "total" = some (.int (60 + ((c.take i).map (at' fl)).sum) t)) ∧ X = [])
    ⟨rfl, by walk_at "lk", ⟨_, by simp; walk_at "lk"⟩, rfl⟩ (fun i B' m' X' s' hJ hs S' => (hb.mono hs).mono S'.sub) ?_ ?_
  · rintro I i v B' m' X' s' hx ⟨rfl, hfl, ⟨t, ht⟩, rfl⟩ hs S'
    obtain ⟨n, hn, t', rfl⟩ := hj.get hx
    obtain ⟨h0, h1⟩ := hc n (List.mem_of_getElem? hn)
    walk_at "ms"
    rename_i S''
    exact TurnP.next .rfl ⟨rfl, by walk_at "lk", ⟨_, by rw [sum_next _ hn, ← Int.add_assoc]; walk_at "lk"⟩, rfl⟩ S''
  · rintro B' m' X' s' ⟨rfl, hfl, ⟨t, ht⟩, rfl⟩ hs S'
    walk_at "ms"
    have e : us.length = c.length := hj.1
    rw [e, List.take_length]
    exact hQ _ _ S'.toGrow
end

/- F3 -/

section
variable {B : Mem} {s : Shared} {prog : Program} {w : World} {A : Around} {E : Value → Shared → Prop} {T : Heap} {mg mb : Str → Option Value} {Q : Value → Shared → Prop}

/-- the element `d[x]`, d a cell's name -/
theorem elt_sub {env : Env} {scope : Scope} {cl : List (Str × Addr)} {C : Addr} {x d : Str} {px pd ps : Pos} {a l : Addr} {vs : List Value} {n : Int} {t : Tok} {v : Value} {s₃ : Shared} {m₃ : Str → Option Value} {E' : Value → Shared → Prop} {F : Value → Prop}
    (hns : s₃.heap.Ns C m₃) (hx : m₃ x = some (.int n t)) (hc : At s₃.heap.get? a (fun o => o.data = .cell (some (.ref l)))) (hl : At s₃.heap.get? l (IsLs vs)) (hv : vs[n.toNat]? = some v) (h0 : 0 ≤ n) (h1 : n < 2 ^ 63) (hF : F v)
    (hk : scope.kind = .function := by rfl) (hxl : (compEnvC scope cl C env).kindOf x = some .local := by with_unfolding_all rfl) (hdc : (compEnvC scope cl C env).kindOf d = some .cell := by with_unfolding_all rfl) (hcl : cl.lookup d = some a := by with_unfolding_all rfl)
    (hxd : (x == ("__debug__" : Str)) = false := by decide) (hdd : (d == ("__debug__" : Str)) = false := by decide) :
    wpAny (model prog w) A (eval (.Subscript (.Name d pd) (.Name x px) ps) (compEnvC scope cl C env)) (fun y s₄ => F y ∧ Keeps s₃ s₄) E' s₃ := by
  refine Subscript_ (wpAny_Name (wpAny_loadName_cell (c := a) hk hdc hcl (let ⟨o, e, d⟩ := hc; ⟨o, e, d⟩) ?_) hdd)
  refine wpAny_Name (wpAny_loadName_local hk hxl hns hx ?_) hxd
  exact sub_list hl h0 h1 hv ⟨hF, s₃.heap, s₃.toks, rfl, fun _ _ e => e⟩

theorem lc_items {M : List Addr} {B₀ B : Mem} {s₀ s : Shared} {L : Addr} {m : Str → Option Value} {X : Led} {env : Env} {scope : Scope} {cl : List (Str × Addr)} {x d : Str} {px pd ps : Pos} {b l a : Addr} {us vs : List Value} {c dp : List Int}
    (hh : A.handled = none) (S : St M B₀ s₀ B L m X s) (hb : At s.heap.get? b (IsTp us)) (hj : Ints us c) (hcell : At s.heap.get? a (fun o => o.data = .cell (some (.ref l)))) (hl : At s.heap.get? l (IsLs vs)) (hi : Ints vs dp)
    (hc : ∀ x ∈ c, 0 ≤ x ∧ x < dp.length) (hlen : dp.length ≤ 1000) (hcl : c.length ≤ 1000)
    (hQ : ∀ k ys s', St M B₀ s₀ B L m ((k, IsLs ys) :: X) s' → Ints ys (c.map (at' dp)) → Q (.ref k) s')
    (hk : scope.kind = .function := by rfl) (hxl : ∀ C, (compEnvC scope cl C env).kindOf x = some .local := by intro _; with_unfolding_all rfl) (hdc : ∀ C, (compEnvC scope cl C env).kindOf d = some .cell := by intro _; with_unfolding_all rfl) (hcl' : cl.lookup d = some a := by with_unfolding_all rfl)
    (hxd : (x == ("__debug__" : Str)) = false := by decide) (hdd : (d == ("__debug__" : Str)) = false := by decide) :
    LcGoal prog w A E env scope cl x (.Subscript (.Name d pd) (.Name x px) ps) (fun v y => ∃ n, IntV v n ∧ IntV y (at' dp n)) Q (.ref b) s := by
  have hle : us.length = c.length := hj.1
  refine lc_tuple (fun v y => ∃ n, IntV v n ∧ IntV y (at' dp n)) hh S hb (by walk_at "om") ?_ ?_
  · intro C v s₃ m₃ E' hv hns hx hk'
    obtain ⟨i, hi', e⟩ := List.mem_iff_getElem.mp hv
    obtain ⟨n, hn, t', rfl⟩ := hj.get (List.getElem?_eq_getElem hi' |>.trans (congrArg some e))
    obtain ⟨h0, h1⟩ := hc n (List.mem_of_getElem? hn)
    obtain ⟨tx, hx'⟩ := at_get hi h0 h1
    exact elt_sub hns hx (hcell.mono fun b o e => hk' b o e) (hl.mono fun b o e => hk' b o e) hx' h0 (by walk_at "om") ⟨n, ⟨t', rfl⟩, ⟨tx, rfl⟩⟩ hk (hxl C) (hdc C) hcl' hxd hdd
  · intro k ys s5 S5 hF
    refine hQ k ys s5 S5 ⟨by rw [List.length_map, ← hF.1, hle], fun i y k hy hk => ?_⟩
    rw [List.getElem?_map] at hk
    obtain ⟨v, hv, n, ⟨t1, e1⟩, h2⟩ := hF.get' hy
    obtain ⟨n', hn', t2, e2⟩ := hj.get hv
    rw [e1] at e2; cases e2
    rw [hn'] at hk; cases hk
    exact h2

theorem cut_depth_call {d : Addr} {vs : List Value} {dp : List Int} {u : Value} {c : List Int} (tf : TF w T mg mb) (hT : Sub T.get? B) (hB : Sub B s.heap.get?) (hA : Room A 2)
    (hd' : At s.heap.get? d (IsLs vs)) (hi : Ints vs dp) (hu : CutAt B u c) (hc : ∀ x ∈ c, 0 ≤ x ∧ x < dp.length) (hl : dp.length ≤ 1000) (hcl : c.length ≤ 1000)
    (hQ : ∀ t s', Grow [] B s B s' → Q (.int (lvl dp c) t) s') : wpAny (model prog w) A (call (.ref 26) [.ref d, u]) Q E s := by
  have ho := tf.K 26 _ rfl
  have hf := hT.trans hB
  obtain ⟨b, us, rfl, hb, hj⟩ := hu
  refine call_stC (M' := []) (binds := [("depth", .ref d), ("cut", .ref b)]) (Y := []) (BB := B) (x := "depth") hA (hf _ _ ho) (tf.lim.keeps hf) ((codeRec_of tf.K (by kernel_rfl)).keeps hf) hB (fun _ h => nomatch h) .nil (fun _ h => nomatch h) rfl (fun _ => rfl) ?_ ?_
  · intro n y hy
    simp only [List.mem_cons, List.not_mem_nil, or_false] at hy
    rcases hy with rfl | rfl
    · exact .inr ⟨rfl, rfl⟩
    · exact .inl rfl
  clear ho
  intro s₁ L cc A' hA' S
  have hlen : us.length = c.length := hj.1
  walk_at "ms"
  · rename (_ : Int) = _ => hz
    have hc0 : c = [] := by
      exact List.eq_nil_of_length_eq_zero (by walk_at "om")
    subst hc0
    exact hQ _ _ (St.toGrow (by assumption))
  · rename (_ : Int) ≠ _ => hz
    have hcn : c ≠ [] := by
      rintro rfl
      simp at hlen
      subst hlen
      simp at hz
    refine lc_eval (cl := [("depth", cc)]) (fun v y => ∃ n, IntV v n ∧ IntV y (at' dp n)) (by with_unfolding_all rfl) (by decide) rfl (by decide) rfl ?_
    walk_at "ms"
    rename_i S4
    refine lc_items hA'.handled S4 (hb.mono S4.sub) hj (S4.at (.head _)) (S4.kept hd') hi hc hl hcl ?_
    · intro a ys s5 S5 hy
      walk_at "ms"
      refine l_max hA'.handled S5 (S5.at (.head _)) hy (by rw [List.length_map]; exact List.length_pos_iff.mpr hcn) fun k t s6 hm S6 => ?_
      walk_at "ms"
      rename_i S7
      rw [lvl_of hcn hm]
      exact hQ _ _ S7.toGrow

theorem law_flow_call {d : Addr} {vs : List Value} {dp : List Int} {u : Value} {c : List Int} (tf : TF w T mg mb) (hT : Sub T.get? B) (hB : Sub B s.heap.get?) (hA : Room A 2)
    (hd' : At s.heap.get? d (IsLs vs)) (hi : Ints vs dp) (hu : CutAt B u c) (hc : ∀ x ∈ c, 0 ≤ x ∧ x < dp.length) (hl : dp.length ≤ 1000) (hcl : c.length ≤ 1000)
    (hQ : ∀ t s', Grow [] B s B s' → Q (.int (flw dp c) t) s') : wpAny (model prog w) A (call (.ref 198) [.ref d, u]) Q E s := by
  have ho := tf.K 198 _ rfl
  have hf := hT.trans hB
  obtain ⟨b, us, rfl, hb, hj⟩ := hu
  refine call_stC (M' := []) (binds := [("flow", .ref d), ("cut", .ref b)]) (Y := []) (BB := B) (x := "flow") hA (hf _ _ ho) (tf.lim.keeps hf) ((codeRec_of tf.K (by kernel_rfl)).keeps hf) hB (fun _ h => nomatch h) .nil (fun _ h => nomatch h) rfl (fun _ => rfl) ?_ ?_
  · intro n y hy
    simp only [List.mem_cons, List.not_mem_nil, or_false] at hy
    rcases hy with rfl | rfl
    · exact .inr ⟨rfl, rfl⟩
    · exact .inl rfl
  clear ho
  intro s₁ L cc A' hA' S
  walk_at "ms"
  rename_i S4
  refine lc_eval (cl := [("flow", cc)]) (fun v y => ∃ n, IntV v n ∧ IntV y (at' dp n)) (by with_unfolding_all rfl) (by decide) rfl (by decide) rfl ?_
  walk_at "ms"
  refine lc_items hA'.handled S4 (hb.mono S4.sub) hj (S4.at (.head _)) (S4.kept hd') hi hc hl hcl ?_
  intro a ys s5 S5 hy
  walk_at "ms"
  refine l_sum hA'.handled S5 (S5.at (.head _)) hy fun t s6 S6 => ?_
  walk_at "ms"
  rename_i S7
  exact hQ _ _ S7.toGrow

theorem law_level_call {d : Addr} {vs : List Value} {dp : List Int} {u : Value} {c : List Int} (tf : TF w T mg mb) (hT : Sub T.get? B) (hB : Sub B s.heap.get?) (hA : Room A 2)
    (hd' : At s.heap.get? d (IsLs vs)) (hi : Ints vs dp) (hu : CutAt B u c) (hc : ∀ x ∈ c, 0 ≤ x ∧ x < dp.length) (hl : dp.length ≤ 1000) (hcl : c.length ≤ 1000)
    (hQ : ∀ t s', Grow [] B s B s' → Q (.int (lvl dp c) t) s') : wpAny (model prog w) A (call (.ref 203) [.ref d, u]) Q E s := by
  have ho := tf.K 203 _ rfl
  have hf := hT.trans hB
  obtain ⟨b, us, rfl, hb, hj⟩ := hu
  refine call_stC (M' := []) (binds := [("depth", .ref d), ("cut", .ref b)]) (Y := []) (BB := B) (x := "depth") hA (hf _ _ ho) (tf.lim.keeps hf) ((codeRec_of tf.K (by kernel_rfl)).keeps hf) hB (fun _ h => nomatch h) .nil (fun _ h => nomatch h) rfl (fun _ => rfl) ?_ ?_
  · intro n y hy
    simp only [List.mem_cons, List.not_mem_nil, or_false] at hy
    rcases hy with rfl | rfl
    · exact .inr ⟨rfl, rfl⟩
    · exact .inl rfl
  clear ho
  intro s₁ L cc A' hA' S
  have hlen : us.length = c.length := hj.1
  walk_at "ms"
  · rename (0 : Int) < _ => hz
    have hcn : c ≠ [] := by
      rintro rfl
      simp at hlen
      subst hlen
      simp at hz
    refine lc_eval (cl := [("depth", cc)]) (fun v y => ∃ n, IntV v n ∧ IntV y (at' dp n)) (by with_unfolding_all rfl) (by decide) rfl (by decide) rfl ?_
    walk_at "ms"
    rename_i S4
    refine lc_items hA'.handled S4 (hb.mono S4.sub) hj (S4.at (.head _)) (S4.kept hd') hi hc hl hcl ?_
    intro a ys s5 S5 hy
    walk_at "ms"
    refine l_max hA'.handled S5 (S5.at (.head _)) hy (by rw [List.length_map]; exact List.length_pos_iff.mpr hcn) fun k t s6 hm S6 => ?_
    walk_at "ms"
    rename_i S7
    rw [lvl_of hcn hm]
    exact hQ _ _ S7.toGrow
  · rename ¬ (0 : Int) < _ => hz
    have hc0 : c = [] := by
      exact List.eq_nil_of_length_eq_zero (by walk_at "om")
    subst hc0
    exact hQ _ _ (St.toGrow (by assumption))
end

/- F4 -/

section
variable {B : Mem} {s : Shared} {prog : Program} {w : World} {A : Around} {E : Value → Shared → Prop} {T : Heap} {mg mb : Str → Option Value} {Q : Value → Shared → Prop}

theorem at_mem {ns : List Int} {k : Int} (h0 : 0 ≤ k) (h1 : k < ns.length) : at' ns k ∈ ns := by
  have hx : k.toNat < ns.length := by omega
  have : at' ns k = ns[k.toNat] := by simp [at', List.getD, hx]
  rw [this]; exact List.getElem_mem hx

def MergeJ (B : Mem) (a1 a2 a : Addr) (k : Int) (tk : Tok) (c1 c2 : List Int) (n : Nat) : Inv := fun B' m X => B' = B ∧ m "c1" = some (.ref a1) ∧ m "c2" = some (.ref a2) ∧ m "k" = some (.int k tk) ∧ m "merged" = some (.ref a) ∧ ∃ i j ti tj ms ns, m "i" = some (.int i ti) ∧ m "j" = some (.int j tj) ∧
      0 ≤ i ∧ i ≤ c1.length ∧ 0 ≤ j ∧ j ≤ c2.length ∧ X = [(a, IsLs ms)] ∧ Ints ms ns ∧ (ns.length : Int) ≤ i + j ∧ (∀ x ∈ ns, x ∈ c1 ∨ x ∈ c2) ∧ (n : Int) = c1.length + c2.length - i - j
theorem merge_cuts_call {u v : Value} {c1 c2 : List Int} {k : Int} {tk : Tok} (tf : TF w T mg mb) (hT : Sub T.get? B) (hB : Sub B s.heap.get?) (hA : Room A 2)
    (hu : CutAt B u c1) (hv : CutAt B v c2) (hc1 : c1.length ≤ 100) (hc2 : c2.length ≤ 100)
    (hQ : ∀ r B' s', Grow [] B s B' s' → ((r = .none ∧ k < (c1.length : Int) + c2.length) ∨ ∃ c, CutAt B' r c ∧ (c.length : Int) ≤ k ∧ ∀ x ∈ c, x ∈ c1 ∨ x ∈ c2) → Q r s') :
    wpAny (model prog w) A (call (.ref 153) [u, v, .int k tk]) Q E s := by
  have ho := tf.K 153 _ rfl
  have hf := hT.trans hB
  obtain ⟨a1, v1, rfl, ha1, hi1⟩ := hu
  obtain ⟨a2, v2, rfl, ha2, hi2⟩ := hv
  refine call_st (M' := []) (binds := [("c1", .ref a1), ("c2", .ref a2), ("k", .int k tk)]) (Y := []) (BB := B) hA (hf _ _ ho) (tf.lim.keeps hf) ((codeRec_of tf.K (by kernel_rfl)).keeps hf) hB (fun _ h => nomatch h) .nil (fun _ h => nomatch h) rfl (locs rfl) ?_
  clear ho
  intro s₁ L A' hA' S
  have hl1 : v1.length = c1.length := hi1.1
  have hl2 : v2.length = c2.length := hi2.1
  walk_at "ms"
  refine mk_list S (by simp [sizeLine_eq]) fun a s2 S2 => ?_
  walk_at "ms"
  rename_i S3
  refine while_st S3 (MergeJ B a1 a2 a k tk c1 c2) (c1.length + c2.length)
    ⟨rfl, by walk_at "lk", by walk_at "lk", by walk_at "lk", by walk_at "lk", 0, 0, _, _, [], [], by walk_at "lk", by walk_at "lk", by omega, by omega, by omega, by omega, rfl, .nil, by simp, by simp, by omega⟩ ?_
  rintro n B' m' X' s' ⟨rfl, h1, h2, h3, h4, i, j, ti, tj, ms, ns, h5, h6, hi0, hi1', hj0, hj1, rfl, hms, hns, hin, hn⟩ _ S4
  have hml : ms.length = ns.length := hms.1
  have take1 : ∀ {t t1 : Tok} {s' : Shared} {Q' : Flow → Shared → Prop}, i < c1.length → St [] B' s B' L (upd m' "i" (.int (i + 1) t)) [(a, IsLs (ms ++ [.int (at' c1 i) t1]))] s' → WhileP [] B' s L n B' (MergeJ B' a1 a2 a k tk c1 c2) Q' .next s' := fun h S9 =>
    WhileP.next (k := n - 1) (by omega) .rfl ⟨rfl, by walk_at "lk", by walk_at "lk", by walk_at "lk", by walk_at "lk", i + 1, j, _, _, _, ns ++ [at' c1 i], by walk_at "lk", by walk_at "lk", by omega, by omega, by omega, by omega, rfl, hms.snoc ⟨_, rfl⟩, by simp; omega,
      (fun x hx => by rcases List.mem_append.mp hx with h | h; exact hin x h; rw [List.mem_singleton.mp h]; exact .inl (at_mem hi0 (by omega))), by omega⟩ S9
  have take2 : ∀ {t t1 : Tok} {s' : Shared} {Q' : Flow → Shared → Prop}, j < c2.length → St [] B' s B' L (upd m' "j" (.int (j + 1) t)) [(a, IsLs (ms ++ [.int (at' c2 j) t1]))] s' → WhileP [] B' s L n B' (MergeJ B' a1 a2 a k tk c1 c2) Q' .next s' := fun h S9 =>
    WhileP.next (k := n - 1) (by omega) .rfl ⟨rfl, by walk_at "lk", by walk_at "lk", by walk_at "lk", by walk_at "lk", i, j + 1, _, _, _, ns ++ [at' c2 j], by walk_at "lk", by walk_at "lk", by omega, by omega, by omega, by omega, rfl, hms.snoc ⟨_, rfl⟩, by simp; omega,
      (fun x hx => by rcases List.mem_append.mp hx with h | h; exact hin x h; rw [List.mem_singleton.mp h]; exact .inr (at_mem hj0 (by omega))), by omega⟩ S9
  walk_at "ms"
  · rename_i S9
    exact take1 (by omega) S9
  · rename_i S9
    exact take1 (by omega) S9
  · rename_i S9
    exact take2 (by omega) S9
  · rename_i S9
    exact WhileP.next (k := n - 2) (by omega) .rfl ⟨rfl, by walk_at "lk", by walk_at "lk", by walk_at "lk", by walk_at "lk", i + 1, j + 1, _, _, _, ns ++ [at' c1 i], by walk_at "lk", by walk_at "lk", by omega, by omega, by omega, by omega, rfl, hms.snoc ⟨_, rfl⟩, by simp; omega,
      (fun x hx => by rcases List.mem_append.mp hx with h | h; exact hin x h; rw [List.mem_singleton.mp h]; exact .inl (at_mem hi0 (by omega))), by omega⟩ S9
  · rename_i S9
    exact take2 (by omega) S9
  · exact hQ _ _ _ (St.toGrow (by assumption)) (.inl ⟨rfl, by omega⟩)
  · refine tuple_of (by assumption) (by walk_at "at") (by walk_at "om") fun a' B'' s'' S'' hs ha => ?_
    walk_at "ms"
    exact hQ _ _ _ S''.toGrow (.inr ⟨ns, ⟨a', ms, rfl, ha, hms⟩, by omega, hin⟩)
end

/- ML -/

def LtAt (A : Around) (s : Shared) (x y : Value) (P : Bool → Prop) : Prop :=
  ∀ (prog : Program) (w : World) (E Q : Value → Shared → Prop), (∀ r, P r → Q (.bool r) s) → wpAny (model prog w) A (richCompare .Lt x y) Q E s

def LexOk (e : Nat → Bool) (P : Nat → Bool → Prop) (n : Nat) (r : Bool) : Prop := (∃ j, j < n ∧ (∀ i, i < j → e i = true) ∧ e j = false ∧ P j r) ∨ ∀ i, i < n → e i = true

theorem tuple_ltAt (l b : Addr) (items items2 : Array Value) (n n2 : Nat) (e : Nat → Bool) (P : Nat → Bool → Prop) :
    Meets (Builtin.«tuple.__lt__» ⟨[.ref l, .ref b], []⟩)
      (fun A R s => s.heap.get? l = some { cls := .type "tuple", dict := none, data := .seq items n, slots := #[] } ∧ s.heap.get? b = some { cls := .type "tuple", dict := none, data := .seq items2 n2, slots := #[] } ∧
        (∀ j (h1 : j < items.size) (h2 : j < items2.size), EqAt A.in1 s items[j] items2[j] (e j)) ∧
        (∀ j (h1 : j < items.size) (h2 : j < items2.size), e j = false → LtAt A.in1 s items[j] items2[j] (P j)) ∧
        ∀ r, LexOk e P (min items.size items2.size) r → R (.ok (.ret (.bool r))) s) :=
  .of_wp fun prog w A R s h => by
    obtain ⟨hp, g, d, tk, os⟩ := s; obtain ⟨hl, hb, he, hlt, h⟩ := h
    have f2 := AutoSeq1.sub_tuple_tuple
    have hZ : (items.toList.zip items2.toList).length = min items.size items2.size := by simp
    wp_walk using wpAny_loadPart' hl, wpAny_loadPart' hb, wpAny_forIn_list _ (fun rest b s' => b.1 = none ∧ s' = ⟨hp, g, d, tk, os⟩ ∧ ∃ i, rest = (items.toList.zip items2.toList).drop i ∧ i ≤ min items.size items2.size ∧ ∀ k, k < i → e k = true) _
    case turn =>
      rintro ⟨y, x⟩ rest b s' ⟨hb', rfl, i, hz, hi, hk⟩
      have hlt' : i < (items.toList.zip items2.toList).length := by
        rcases Nat.lt_or_ge i (items.toList.zip items2.toList).length with h' | h'
        · exact h'
        · rw [List.drop_of_length_le h'] at hz; cases hz
      have hm : i < min items.size items2.size := hZ ▸ hlt'
      have h1 : i < items.size := Nat.lt_of_lt_of_le hm (Nat.min_le_left _ _)
      have h2 : i < items2.size := Nat.lt_of_lt_of_le hm (Nat.min_le_right _ _)
      rw [List.drop_eq_getElem_cons hlt'] at hz
      injection hz with hyx hrest
      have hy : y = items[i] := by have := congrArg Prod.fst hyx; simpa using this
      have hx : x = items2[i] := by have := congrArg Prod.snd hyx; simpa using this
      subst hy hx
      refine wpAny_bind (he i h1 h2 prog w _ _ ?_)
      cases hy : e i with
      | true =>
        simp only [Bool.not_true, Bool.false_eq_true, if_false]
        refine wpAny_pure ⟨rfl, rfl, i + 1, hrest, hm, fun k hk' => ?_⟩
        rcases Nat.lt_or_ge k i with q | q
        · exact hk k q
        · have : k = i := by omega
          rw [this]; exact hy
      | false =>
        simp only [Bool.not_false, if_true]
        refine wpAny_bind (wpAny_rule (wpAny_bind (hlt i h1 h2 hy prog w _ _ fun r hr => ?_)))
        refine wpAny_bind (wpAny_pure (wpAny_pure ?_))
        exact wpAny_pure ⟨_, rfl, h r (.inl ⟨i, hm, hk, hy, hr⟩)⟩
    case fin =>
      rintro ⟨b1, b2⟩ s' ⟨hb', rfl, i, hz, hi, hk⟩
      simp only at hb'
      subst hb'
      have hge : min items.size items2.size ≤ i := by
        rcases Nat.lt_or_ge i (items.toList.zip items2.toList).length with h' | h'
        · rw [List.drop_eq_getElem_cons h'] at hz; cases hz
        · exact hZ ▸ h'
      exact wpAny_pure ⟨_, rfl, h _ (.inr fun j hj => hk j (Nat.lt_of_lt_of_le hj hge))⟩
    case h => exact ⟨rfl, rfl, 0, rfl, Nat.zero_le _, fun k hk => absurd hk (Nat.not_lt_zero _)⟩

section
variable {prog : Program} {w : World} {A : Around} {E : Value → Shared → Prop} {s : Shared} {Q : Value → Shared → Prop}
theorem LtAt.tuples {l b : Addr} {vs us : List Value} {e : Nat → Bool} {P : Nat → Bool → Prop} (hl : At s.heap.get? l (IsTp vs)) (hb : At s.heap.get? b (IsTp us)) (hu : A.units < cLine)
    (he : ∀ j (h1 : j < vs.length) (h2 : j < us.length), EqAt A.in1 s vs[j] us[j] (e j))
    (hlt : ∀ j (h1 : j < vs.length) (h2 : j < us.length), e j = false → LtAt A.in1 s vs[j] us[j] (P j)) : LtAt A s (.ref l) (.ref b) (LexOk e P (min vs.length us.length)) := by
  intro prog w E Q h
  obtain ⟨n, hl⟩ := hl.isT
  obtain ⟨n2, hb⟩ := hb.isT
  refine richCompare_meets_room (op := .Lt) ⟨_, hl, rfl⟩ ⟨_, hb, rfl⟩ F.slot_tuple_lt F.entry_tuple_lt (F.args_tuple_lt_2 _ _) (tuple_ltAt l b vs.toArray us.toArray n n2 e P)
    ⟨hl, hb, fun j h1 h2 => ?_, fun j h1 h2 q => ?_, fun r hr => ?_⟩ hu
  · simpa using he j (by simpa using h1) (by simpa using h2)
  · simpa using hlt j (by simpa using h1) (by simpa using h2) q
  · exact show Value.bool r ≠ Value.notImplemented ∧ Q (.bool r) s from ⟨(fun x => nomatch x), h r (by simpa using hr)⟩
theorem LtAt.ints (A : Around) (a b : Int) (t u : Tok) : LtAt A s (.int a t) (.int b u) (fun r => r = decide (a < b)) := by
  intro prog w E Q h
  exact lt_int (h _ rfl)
theorem LtAt.mono {x y : Value} {P P' : Bool → Prop} (h : LtAt A s x y P) (hp : ∀ r, P r → P' r) : LtAt A s x y P' := fun prog w E Q k => h prog w E Q fun r hr => k r (hp r hr)
theorem lt_cut {u v : Value} {c d : List Int} (hu : CutAt s.heap.get? u c) (hv : CutAt s.heap.get? v d) (hA : A.units < cLine) : LtAt A s u v (fun _ => True) := by
  obtain ⟨a, vs, rfl, ha, hi⟩ := hu
  obtain ⟨b, us, rfl, hb, hj⟩ := hv
  refine (LtAt.tuples (e := fun j => at' c j == at' d j) (P := fun _ _ => True) ha hb hA (fun j h1 h2 => ?_) fun j h1 h2 q => ?_).mono fun _ _ => trivial
  · obtain ⟨x, hx, t, q1⟩ := hi.get (List.getElem?_eq_getElem h1)
    obtain ⟨y, hy, t', q2⟩ := hj.get (List.getElem?_eq_getElem h2)
    rw [q1, q2]
    have e1 : at' c j = x := by simp [at', List.getD, hx]
    have e2 : at' d j = y := by simp [at', List.getD, hy]
    show EqAt _ _ _ _ (at' c j == at' d j)
    rw [e1, e2]
    exact EqAt.int_int _ _ _ _
  · obtain ⟨x, hx, t, q1⟩ := hi.get (List.getElem?_eq_getElem h1)
    obtain ⟨y, hy, t', q2⟩ := hj.get (List.getElem?_eq_getElem h2)
    rw [q1, q2]
    exact (LtAt.ints _ _ _ _ _).mono fun _ _ => trivial

def RankAt (g : Mem) (u : Value) (a b : Int) (v : Value) : Prop := ∃ x t1 t2 t3 n c, u = .ref x ∧ At g x (IsTp [.int a t1, .int b t2, .int n t3, v]) ∧ CutAt g v c
theorem RankAt.mono {g g' : Mem} {u v : Value} {a b : Int} (x : RankAt g u a b v) (h : Sub g g') : RankAt g' u a b v := let ⟨x, t1, t2, t3, n, c, e, p, q⟩ := x; ⟨x, t1, t2, t3, n, c, e, p.mono h, q.mono h⟩
theorem lt_rank {u v p q : Value} {a b a' b' : Int} (hu : RankAt s.heap.get? u a b p) (hv : RankAt s.heap.get? v a' b' q) (hA : A.units + 1 < cLine) : LtAt A s u v (fun r => (r = true → a ≤ a') ∧ (r = false → a' ≤ a)) := by
  obtain ⟨x, t1, t2, t3, n, c, rfl, hx, hc⟩ := hu
  obtain ⟨y, t1', t2', t3', n', c', rfl, hy, hc'⟩ := hv
  have hA' : A.in1.units < cLine := hA
  refine (LtAt.tuples (e := fun j => match j with | 0 => a == a' | 1 => b == b' | 2 => n == n' | _ => decide (c = c')) (P := fun j r => match j with | 0 => r = decide (a < a') | _ => True) hx hy (by omega) (fun j h1 h2 => ?_) fun j h1 h2 q => ?_).mono fun r hr => ?_
  · match j, h1, h2 with
    | 0, _, _ => exact EqAt.int_int _ _ _ _
    | 1, _, _ => exact EqAt.int_int _ _ _ _
    | 2, _, _ => exact EqAt.int_int _ _ _ _
    | 3, _, _ => exact eqAt_cut hc hc' hA'
  · match j, h1, h2 with
    | 0, _, _ => exact LtAt.ints _ _ _ _ _
    | 1, _, _ => exact (LtAt.ints _ _ _ _ _).mono fun _ _ => trivial
    | 2, _, _ => exact (LtAt.ints _ _ _ _ _).mono fun _ _ => trivial
    | 3, _, _ => exact lt_cut hc hc' hA'
  · have key : (a == a') = true → (r = true → a ≤ a') ∧ (r = false → a' ≤ a) := fun e => by
      have : a = a' := by simpa using e
      subst this; exact ⟨fun _ => Int.le_refl _, fun _ => Int.le_refl _⟩
    rcases hr with ⟨j, hj, hk, he, hP⟩ | hk
    · match j, hk, he, hP with
      | 0, _, he, hP =>
        have hP' : r = decide (a < a') := hP
        have hne : a ≠ a' := by simpa using he
        subst hP'
        constructor
        · intro h; have := of_decide_eq_true h; omega
        · intro h; have := of_decide_eq_false h; omega
      | j + 1, hk, _, _ => exact key (hk 0 (Nat.succ_pos _))
    · exact key (hk 0 (by simp))
theorem lt_ref {u v : Value} {P : Bool → Prop} (h : LtAt A s u v P) (hQ : ∀ r, P r → Q (.bool r) s) : wpAny (model prog w) A (compareOp .Lt u v) Q E s := h prog w E Q hQ
end

/- MS -/

def Fine (n : Nat) {α : Type} (G : α → Prop) : KasT α → Prop
  | .ret a => G a
  | .ask i j k => i < n ∧ j < n ∧ ∀ b, Fine n G (k b)
theorem Fine.bind {n : Nat} {α β : Type} {G : α → Prop} {H : β → Prop} {f : α → KasT β} : ∀ {t : KasT α}, Fine n G t → (∀ a, G a → Fine n H (f a)) → Fine n H (t.bind f)
  | .ret a, h, hf => hf a h
  | .ask _ _ _, h, hf => ⟨h.1, h.2.1, fun b => (h.2.2 b).bind hf⟩
theorem Fine.wp {n : Nat} {α : Type} {G : α → Prop} {cmp : Nat → Nat → (Bool → Shared → Prop) → Shared → Prop} {s : Shared} {Q : α → Shared → Prop}
    (hc : ∀ i j C, i < n → j < n → (∀ b, C b s) → cmp i j C s) (hQ : ∀ a, G a → Q a s) : ∀ (t : KasT α), Fine n G t → t.kasWp cmp Q s
  | .ret a, h => hQ a h
  | .ask i j k, h => hc i j _ h.1 h.2.1 fun b => Fine.wp hc hQ (k b) (h.2.2 b)

def PermOk (n : Nat) (p : Array Nat) : Prop := p.size = n ∧ ∀ x ∈ p, x < n
theorem PermOk.of {n : Nat} {p q : Array Nat} (h : PermOk n p) (hp : q.Perm p) : PermOk n q := ⟨hp.size_eq.trans h.1, fun x hx => h.2 x (hp.mem_iff.mp hx)⟩
theorem PermOk.get {n : Nat} {p : Array Nat} (h : PermOk n p) (hn : 0 < n) (i : Nat) : p.getD i 0 < n := by
  rw [Array.getD_eq_getD_getElem?]
  cases q : p[i]? with
  | none => exact hn
  | some x => exact h.2 x (Array.mem_of_getElem? q)
theorem PermOk.rev {n : Nat} {p : Array Nat} (h : PermOk n p) (i j : Nat) : PermOk n (kas_rev p i j) := h.of (mirror_perm _ _ _ _)
section
variable {n : Nat} (hn : 0 < n)
include hn
theorem fine_asc {p : Array Nat} (h : PermOk n p) : ∀ (f k : Nat), Fine n (fun _ => True) (kas_asc p f k)
  | 0, _ => trivial
  | f + 1, k => ⟨h.get hn _, h.get hn _, fun b => by
      cases b with
      | true => exact trivial
      | false => exact fine_asc h f (k + 1)⟩
theorem fine_desc : ∀ (f : Nat) {p : Array Nat} (k q : Nat), PermOk n p → Fine n (fun r => PermOk n r.1) (kas_desc f p k q)
  | 0, _, _, _, h => h
  | f + 1, p, k, q, h => ⟨h.get hn _, h.get hn _, fun b => by
      cases b with
      | true =>
        show Fine n _ (if q > 0 then _ else _)
        split
        · exact fine_desc f _ _ (h.rev _ _)
        · exact fine_desc f _ _ h
      | false => exact ⟨h.get hn _, h.get hn _, fun d => by
          cases d with
          | true => exact h
          | false => exact fine_desc f _ _ h⟩⟩
theorem fine_tail3 {p : Array Nat} (h : PermOk n p) (k r : Nat) : Fine n (fun x => PermOk n x.2) (kas_tail3 k r p) :=
  (fine_asc hn (h.rev _ _) _ _).bind fun _ _ => h.rev _ _
theorem fine_descPart {p : Array Nat} (h : PermOk n p) (k r : Nat) : Fine n (fun x => PermOk n x.2) (kas_descPart k r p) :=
  (fine_desc hn _ _ _ h).bind fun a ha => by
    show Fine n _ (if a.2.2 > 0 then _ else _)
    split
    · exact fine_tail3 hn (PermOk.rev ha _ _) _ _
    · exact fine_tail3 hn ha _ _
theorem fine_count {p : Array Nat} (h : PermOk n p) (r : Nat) : Fine n (fun x => PermOk n x.2) (kas_count r p) :=
  (fine_asc hn h _ _).bind fun k _ => by
    show Fine n _ (if (k == r) = true then _ else _)
    split
    · exact h
    · split
      · exact ⟨h.get hn _, h.get hn _, fun c => by
          cases c with
          | true => exact h
          | false => exact fine_descPart hn (h.rev _ _) _ _⟩
      · exact fine_descPart hn h _ _
theorem fine_place {p : Array Nat} (h : PermOk n p) (k : Nat) : ∀ (f l r : Nat), Fine n (fun _ => True) (kas_place p k f l r)
  | 0, _, _ => trivial
  | f + 1, l, r => by
    show Fine n _ (if l ≥ r then _ else _)
    split
    · exact trivial
    · exact ⟨h.get hn _, h.get hn _, fun c => by
        cases c with
        | true => exact fine_place h k f _ _
        | false => exact fine_place h k f _ _⟩
theorem fine_bin : ∀ (f : Nat) {p : Array Nat} (k : Nat), PermOk n p → Fine n (PermOk n) (kas_bin f p k)
  | 0, _, _, h => h
  | f + 1, p, k, h => (fine_place hn h k _ _ _).bind fun _ _ => fine_bin f _ (h.of (bubble_perm _ _ _))
theorem fine_sort : Fine n (PermOk n) (kas_sort n) :=
  (fine_count hn (p := (List.range n).toArray) ⟨by simp, fun x hx => by simpa using hx⟩ n).bind fun r hr => by
    show Fine n _ (if r.1 < n then _ else _)
    split
    · exact fine_bin hn _ _ hr
    · exact hr
end

def KeyAt (g : Mem) (k : Value) : Prop := ∃ a n t u c, k = .ref a ∧ At g a (IsTp [.int n t, u]) ∧ CutAt g u c
theorem KeyAt.mono {g g' : Mem} {k : Value} (x : KeyAt g k) (h : Sub g g') : KeyAt g' k := let ⟨a, n, t, u, c, e, p, q⟩ := x; ⟨a, n, t, u, c, e, p.mono h, q.mono h⟩
def zof (kS D L : Addr) (h : Heap) : Mem := fun b => if b = kS ∨ b = D ∨ b = L then none else h.get? b
def othersOf (kS D L : Addr) (h : Heap) : List (Addr × Obj) := (allOf h L).filter fun p => decide (p.1 ≠ kS ∧ p.1 ≠ D)
theorem mem_others {kS D L : Addr} {h : Heap} {p : Addr × Obj} : p ∈ othersOf kS D L h ↔ zof kS D L h p.1 = some p.2 := by
  unfold othersOf zof
  rw [List.mem_filter, mem_allOf]
  by_cases q : p.1 = kS ∨ p.1 = D ∨ p.1 = L
  · rw [if_pos q]
    constructor
    · rintro ⟨⟨_, h1⟩, h2⟩
      have h2 := of_decide_eq_true h2
      rcases q with q | q | q
      · exact absurd q h2.1
      · exact absurd q h2.2
      · exact absurd q h1
    · intro e; cases e
  · rw [if_neg q]
    have q' := not_or.mp q
    have q2 := not_or.mp q'.2
    constructor
    · rintro ⟨⟨e, _⟩, _⟩; exact e
    · intro e; exact ⟨⟨e, q2.2⟩, decide_eq_true ⟨q'.1, q2.1⟩⟩

structure SI (s : Shared) (L : Addr) (m : Str → Option Value) (kS D : Addr) (e1 : Nat) (xs : Array Value) (e : Nat) (s' : Shared) : Prop where
  same : ∃ h t, s' = { s with heap := h, toks := t }
  fr : Fr noHeap L s'.heap m
  hkS : s'.heap.get? kS = some (seqObj "list" xs e)
  hD : s'.heap.get? D = some (seqObj "list" #[] e1)
  kL : kS ≠ L
  dL : D ≠ L
  ne : kS ≠ D
  kS0 : s.heap.get? kS = none
  D0 : s.heap.get? D = none
  keep : ∀ b o, b ≠ L → s.heap.get? b = some o → s'.heap.get? b = some o

section
variable {s s' : Shared} {L kS D : Addr} {m : Str → Option Value} {e1 e c : Nat} {xs ys : Array Value}
theorem SI.news (I : SI s L m kS D e1 xs e s') : News noHeap L s'.heap ((kS, seqObj "list" xs e) :: (D, seqObj "list" #[] e1) :: othersOf kS D L s'.heap) := fun p hp => by
  rcases List.mem_cons.mp hp with rfl | hp
  · exact ⟨I.hkS, I.kL, noHeap_get _⟩
  · rcases List.mem_cons.mp hp with rfl | hp
    · exact ⟨I.hD, I.dL, noHeap_get _⟩
    · have := mem_others.mp hp
      unfold zof at this
      split at this
      · cases this
      · rename_i q
        exact ⟨this, fun e => q (.inr (.inr e)), noHeap_get _⟩
theorem SI.offS : ∀ p ∈ othersOf kS D L s'.heap, p.1 ≠ kS := fun p hp e => by
  have := mem_others.mp hp
  unfold zof at this
  rw [if_pos (.inl e)] at this; cases this
theorem SI.offD : ∀ p ∈ othersOf kS D L s'.heap, p.1 ≠ D := fun p hp e => by
  have := mem_others.mp hp
  unfold zof at this
  rw [if_pos (.inr (.inl e))] at this; cases this
theorem SI.step (I : SI s L m kS D e1 xs e s') {h' : Heap} (F : Fr noHeap L h' m) (N : News noHeap L h' ((kS, seqObj "list" ys c) :: (D, seqObj "list" #[] e1) :: othersOf kS D L s'.heap)) :
    SI s L m kS D e1 ys c { s' with heap := h' } ∧ Sub (zof kS D L s'.heap) (zof kS D L h') := by
  have z : Sub (zof kS D L s'.heap) (zof kS D L h') := fun b o q => by
    have h1 := (N (b, o) (.tail _ (.tail _ (mem_others.mpr q)))).1
    unfold zof at q ⊢
    split at q
    · cases q
    · rename_i q2; rw [if_neg q2]; exact h1
  refine ⟨⟨?_, F, (N _ (.head _)).1, (N _ (.tail _ (.head _))).1, I.kL, I.dL, I.ne, I.kS0, I.D0, fun b o hb q => ?_⟩, z⟩
  · obtain ⟨h, t, rfl⟩ := I.same; exact ⟨h', t, rfl⟩
  · have h1 := I.keep b o hb q
    refine (N (b, o) (.tail _ (.tail _ (mem_others.mpr ?_)))).1
    unfold zof
    rw [if_neg]
    · exact h1
    · rintro (r | r | r)
      · have r : b = kS := r
        rw [r, I.kS0] at q; cases q
      · have r : b = D := r
        rw [r, I.D0] at q; cases q
      · exact hb r
theorem SI.grow (I : SI s L m kS D e1 xs e s') {s'' : Shared} (K : Keeps s' s'') : SI s L m kS D e1 xs e s'' ∧ Sub (zof kS D L s'.heap) (zof kS D L s''.heap) := by
  obtain ⟨h', tk, rfl, k⟩ := K
  refine ⟨⟨?_, I.fr.keeps k, k _ _ I.hkS, k _ _ I.hD, I.kL, I.dL, I.ne, I.kS0, I.D0, fun b o hb q => k _ _ (I.keep b o hb q)⟩, fun b o q => ?_⟩
  · obtain ⟨h, t, rfl⟩ := I.same; exact ⟨h', tk, rfl⟩
  · unfold zof at q ⊢
    split at q
    · cases q
    · rename_i q2; rw [if_neg q2]; exact k _ _ q
theorem SI.tup (I : SI s L m kS D e1 xs e s') {a : Addr} {us : List Value} (h : At s'.heap.get? a (IsTp us)) : At (zof kS D L s'.heap) a (IsTp us) := by
  obtain ⟨o, q, n, rfl⟩ := h
  refine ⟨_, ?_, n, rfl⟩
  unfold zof
  rw [if_neg]
  · exact q
  · rintro (r | r | r)
    · rw [r, I.hkS] at q
      have := congrArg (fun o => o.map Obj.cls) q
      exact absurd this (by simp)
    · rw [r, I.hD] at q
      have := congrArg (fun o => o.map Obj.cls) q
      exact absurd this (by simp)
    · obtain ⟨oL, es, ep, hL, hd, _⟩ := I.fr.ns
      rw [r, hL] at q; cases q; cases hd
theorem SI.key (I : SI s L m kS D e1 xs e s') {k : Value} (h : KeyAt s'.heap.get? k) : KeyAt (zof kS D L s'.heap) k := by
  obtain ⟨a, n, t, u, c, e, p, b, us, e', q, r⟩ := h
  exact ⟨a, n, t, u, c, e, I.tup p, b, us, e', I.tup q, r⟩
theorem zof_sub (h : Heap) : Sub (zof kS D L h) h.get? := fun b o q => by
  unfold zof at q
  split at q
  · cases q
  · exact q
end

section
variable {M : List Addr} {B₀ B : Mem} {s₀ s : Shared} {L : Addr} {m : Str → Option Value} {X : Led} {prog : Program} {w : World} {A : Around} {E : Value → Shared → Prop} {env : Env} {Q : Value → Shared → Prop}
/-- back with a new list at any free place -/
theorem SI.back {kS D : Addr} {e1 e c n : Nat} {xs : Array Value} {out : List Value} {s' : Shared} (S : St M B₀ s₀ B L m X s) (I : SI s L m kS D e1 xs e s') {h' : Heap}
    (F : Fr noHeap L h' m) (N : News noHeap L h' ((kS, seqObj "list" #[] c) :: (D, seqObj "list" out.toArray n) :: othersOf kS D L s'.heap)) : St M B₀ s₀ B L m ((D, IsLs out) :: X) { s' with heap := h' } := by
  have hk : ∀ b o, b ≠ L → s.heap.get? b = some o → h'.get? b = some o := fun b o hb q => by
    refine (N (b, o) (.tail _ (.tail _ (mem_others.mpr ?_)))).1
    unfold zof
    rw [if_neg]
    · exact I.keep b o hb q
    · rintro (r | r | r)
      · have r : b = kS := r
        rw [r, I.kS0] at q; cases q
      · have r : b = D := r
        rw [r, I.D0] at q; cases q
      · exact hb r
  have hD : h'.get? D = some (seqObj "list" out.toArray n) := (N _ (.tail _ (.head _))).1
  obtain ⟨h0, t, rfl⟩ := I.same
  refine ⟨⟨by have := S.same; rw [this], S.live, fun b q => ?_, fun b o hb q => hk b o (fun r => ?_) (S.keep b o hb q), S.sub0, fun b o q => hk b o (fun r => ?_) (S.sub b o q), S.fresh⟩, F.ns, S.lo, S.off, fun p hp => ?_, ?_⟩
  · by_cases r : b = L
    · rw [r]; exact S.lo
    · refine S.pres b ?_
      cases q2 : s.heap.get? b with
      | none => rfl
      | some o => rw [hk b o r q2] at q; cases q
  · subst r; rw [S.lo] at q; cases q
  · rw [r, S.off] at q; cases q
  · rcases List.mem_cons.mp hp with rfl | hp
    · refine ⟨⟨_, hD, n, rfl⟩, I.dL, ?_, .inr (S.pres _ I.D0)⟩
      cases q : B D with
      | none => rfl
      | some o' => have := S.sub _ _ q; rw [I.D0] at this; cases this
    · obtain ⟨⟨o, e, ho⟩, h1, h2, h3⟩ := S.news p hp
      exact ⟨⟨o, hk _ _ h1 e, ho⟩, h1, h2, h3⟩
  · refine List.nodup_cons.mpr ⟨fun h => ?_, S.nodup⟩
    obtain ⟨p, hp, e⟩ := List.mem_map.mp h
    obtain ⟨⟨o', e', _⟩, _⟩ := S.news p hp
    dsimp only at e
    rw [e, I.D0] at e'; cases e'

def KeyCalls (prog : Program) (w : World) (A : Around) (f : Value) (s : Shared) (L : Addr) (vs : List Value) : Prop :=
  ∀ v ∈ vs, ∀ s' : Shared, (∀ b o, b ≠ L → s.heap.get? b = some o → s'.heap.get? b = some o) → s'.heap.NoLimit → wpAny (model prog w) A.in1.in1 (call f [v]) (fun k s'' => Keeps s' s'' ∧ KeyAt s''.heap.get? k) (fun _ _ => False) s'

theorem keys_go {kS D : Addr} {e1 : Nat} {f : Value} {Fin : List Value → Nat → Shared → Prop} (hlim : ∀ s' : Shared, (∀ b o, b ≠ L → s.heap.get? b = some o → s'.heap.get? b = some o) → s'.heap.NoLimit) (hfin : ∀ ks e s', SI s L m kS D e1 ks.toArray e s' → (∀ k ∈ ks, KeyAt (zof kS D L s'.heap) k) → Fin ks e s') :
    ∀ (r ks : List Value) (e : Nat) (s' : Shared), KeyCalls prog w A f s L r → SI s L m kS D e1 ks.toArray e s' → (∀ k ∈ ks, KeyAt (zof kS D L s'.heap) k) → KatKeys prog w A.in1.in1 noHeap L m kS f Fin r ks e s'
  | [], ks, e, s', _, I, hk => KatKeys.nil (hfin ks e s' I hk)
  | v :: r, ks, e, s', hc, I, hk => by
    refine KatKeys.cons (wpAny_mono (hc v (.head _) s' I.keep (hlim s' I.keep)) (fun k s'' h => ?_) fun _ _ x => x)
    obtain ⟨K, hkey⟩ := h
    obtain ⟨I2, z2⟩ := I.grow K
    refine KatBack.intro I2.fr I2.news (.head (fun p hp => ?_)) fun h' c F' N' => ?_
    · rcases List.mem_cons.mp hp with rfl | hp
      · exact I.ne.symm
      · exact SI.offS p hp
    · obtain ⟨I3, z3⟩ := I2.step F' N'
      refine keys_go hlim hfin r (ks ++ [k]) c _ (fun u hu => hc u (.tail _ hu)) I3 fun x hx => ?_
      rcases List.mem_append.mp hx with q | q
      · exact ((hk x q).mono z2).mono z3
      · rw [List.mem_singleton.mp q]; exact (I2.key hkey).mono z3

theorem key_lt {k1 k2 : Value} {C : Bool → Shared → Prop} (h1 : KeyAt s.heap.get? k1) (h2 : KeyAt s.heap.get? k2) (hA : A.units < cLine) (hC : ∀ b, C b s) : wpAny (model prog w) A (keyLt' (tuples' true) k1 k2) C (fun _ _ => False) s := by
  obtain ⟨a, n, t, u, c, rfl, hx, hu⟩ := h1
  obtain ⟨a', n', t', u', c', rfl, hx', hu'⟩ := h2
  obtain ⟨k, ex⟩ := hx.isT
  obtain ⟨k', ex'⟩ := hx'.isT
  refine kat_lt ex rfl ex' rfl ?_
  refine kat_cons (EqAt.int_int (A := A) n t n' t' prog w _ _ ?_)
  refine kat_go (fun _ => kat_yes (kat_cons (eqAt_cut hu hu' hA prog w _ _ ?_))) fun _ => kat_no (oneLt_int (hC _))
  refine kat_go (fun _ => kat_yes (kat_nil (hC _))) fun _ => kat_no (kat_one u u' ?_)
  exact lt_ref (lt_cut hu hu' hA) fun r _ => hC r

theorem keys_firsts {h : Heap} : ∀ {ks : List Value}, (∀ k ∈ ks, KeyAt h.get? k) → ∃ fs, KatTups h ks fs ∧ fs.length = ks.length ∧ ∀ f ∈ fs, ∃ n t, f = Value.int n t
  | [], _ => ⟨[], trivial, rfl, fun _ h => nomatch h⟩
  | k :: ks, hk => by
    obtain ⟨fs, h1, h2, h3⟩ := keys_firsts fun x hx => hk x (.tail _ hx)
    obtain ⟨a, n, t, u, c, rfl, ⟨o, e, q, rfl⟩, _⟩ := hk k (.head _)
    exact ⟨.int n t :: fs, ⟨⟨a, _, _, q, rfl, e, rfl, rfl, rfl⟩, h1⟩, by simp [h2], fun f hf => by
      rcases List.mem_cons.mp hf with rfl | hf
      · exact ⟨n, t, rfl⟩
      · exact h3 f hf⟩

theorem sortedN {l : Addr} {vs : List Value} {f : Addr} (hA : A.units + 2 < cLine) (S : St M B₀ s₀ B L m X s) (hlim : ∀ s' : Shared, (∀ b o, b ≠ L → s.heap.get? b = some o → s'.heap.get? b = some o) → s'.heap.NoLimit)
    (hl : At s.heap.get? l (IsLs vs)) (h2 : 2 ≤ vs.length) (h64 : vs.length < 64) (hkey : KeyCalls prog w A (.ref f) s L vs)
    (h : ∀ a out s', St M B₀ s₀ B L m ((a, IsLs out) :: X) s' → out.length = vs.length → (∀ v ∈ out, v ∈ vs) → Q (.ref a) s') :
    wpAny (model prog w) A (call (.builtin "sorted") [.ref l] [(Str.ofString "key", .ref f)]) Q E s := by
  refine kat_sortedK (b := false) S.fr S.ne hl.isList h2 h64 (ksk_s1 _ _) (fun x => ksk_l1 _ _) (fun x => ksk_t1 _ _) fun D kS e1 h' F' N' hlt hold => ?_
  have n1 := N' _ (.head _)
  have n2 := N' _ (.tail _ (.head _))
  have gone : ∀ b, D ≤ b → b ≠ L → s.heap.get? b = none := fun b hb hL => by
    cases q : s.heap.get? b with
    | none => rfl
    | some o => exact absurd (Nat.lt_of_lt_of_le (hold (b, o) (mem_allOf.mpr ⟨q, hL⟩)) hb) (Nat.lt_irrefl _)
  have I : SI s L m kS D e1 ([] : List Value).toArray 0 { s with heap := h' } := ⟨⟨h', s.toks, rfl⟩, F', n1.1, n2.1, n1.2.1, n2.2.1, Nat.ne_of_gt hlt, gone _ (Nat.le_of_lt hlt) n1.2.1, gone _ (Nat.le_refl _) n2.2.1,
    fun b o hb q => (N' (b, o) (.tail _ (.tail _ (mem_allOf.mpr ⟨q, hb⟩)))).1⟩
  have hpos : 0 < vs.length := by omega
  -- every list of keys that the calls make is as long as vs
  have len : ∀ {Fin Fin' : List Value → Nat → Shared → Prop}, KatKeys prog w A.in1.in1 noHeap L m kS (.ref f) Fin vs [] 0 { s with heap := h' } → (∀ ks e s', ks.length = vs.length → Fin ks e s' → Fin' ks e s') → KatKeys prog w A.in1.in1 noHeap L m kS (.ref f) Fin' vs [] 0 { s with heap := h' } :=
    fun k hf => kat_keys_mono k fun ks' e' s' hl' q => hf ks' e' s' (by simpa using hl') q
  refine len (keys_go (e1 := e1) hlim (Fin := fun ks e s' => SI s L m kS D e1 ks.toArray e s' ∧ ∀ k ∈ ks, KeyAt (zof kS D L s'.heap) k) (fun ks e s' a b => ⟨a, b⟩) vs [] 0 _ hkey I (fun _ q => nomatch q)) ?_
  rintro ks e s' hkl ⟨I2, hk⟩
  obtain ⟨fs, t1, t2, t3⟩ := keys_firsts fun k hk' => (hk k hk').mono (zof_sub _)
  refine kat_kind t1 (by omega) (T := .type "int") (fun v hv => ?_) (by decide) ?_
  · obtain ⟨n, t, rfl⟩ := t3 v hv
    exact fun A Q E s k q => wpAny_pure q
  · have hκ : tuples' ((Value.type "int") != (Value.type "tuple")) = tuples' true := rfl
    rw [hκ]
    refine Fine.wp (n := vs.length) (G := PermOk vs.length) (fun i j C hi hj hC => ?_) (fun p hp => ?_) _ (fine_sort hpos)
    · have e1 : (katRev false ks) = ks := rfl
      show wpAny _ _ (keyLt' _ ((katRev false ks).getD i Value.none) ((katRev false ks).getD j Value.none)) C _ s'
      rw [e1]
      have gi : ks.getD i Value.none ∈ ks := by rw [List.getD_eq_getElem?_getD, List.getElem?_eq_getElem (by omega)]; exact List.getElem_mem _
      have gj : ks.getD j Value.none ∈ ks := by rw [List.getD_eq_getElem?_getD, List.getElem?_eq_getElem (by omega)]; exact List.getElem_mem _
      exact key_lt ((hk _ gi).mono (zof_sub _)) ((hk _ gj).mono (zof_sub _)) (by show A.units + 1 + 1 < _; omega) hC
    · refine KatFin.intro I2.fr I2.news (.head (fun q hq => ?_)) fun h3 c F3 N3 => ?_
      · rcases List.mem_cons.mp hq with rfl | hq
        · exact I.ne.symm
        · exact SI.offS q hq
      · obtain ⟨I3, _⟩ := I2.step F3 N3
        refine KasFin.intro F3 I3.news (.tail I.ne (.head fun q hq => SI.offD q hq)) fun h4 c' F4 N4 => ?_
        have e2 : (katRev false (p.toList.map fun i => (katRev false vs).getD i Value.none)) = p.toList.map fun i => vs.getD i Value.none := rfl
        rw [e2] at N4
        refine h D (p.toList.map fun i => vs.getD i Value.none) _ (SI.back S I3 F4 N4) (by rw [List.length_map, Array.length_toList]; exact hp.1) fun v hv => ?_
        obtain ⟨i, hi, rfl⟩ := List.mem_map.mp hv
        have := hp.2 i (by simpa using hi)
        rw [List.getD_eq_getElem?_getD, List.getElem?_eq_getElem this]
        exact List.getElem_mem _
end

/- MS1 -/

/-- two lists of our own beside all that was there -/
structure SO (s : Shared) (D kS : Addr) (xs ys : Array Value) (d k : Nat) (s' : Shared) : Prop where
  same : ∃ h t, s' = { s with heap := h, toks := t }
  keep : ∀ b o, s.heap.get? b = some o → s'.heap.get? b = some o
  atD : s'.heap.get? D = some (seqObj "list" xs d)
  atK : s'.heap.get? kS = some (seqObj "list" ys k)
  D0 : s.heap.get? D = none
  K0 : s.heap.get? kS = none
  ne : D ≠ kS

section
variable {s s' : Shared} {D kS : Addr} {xs ys : Array Value} {d k : Nat}
theorem SO.grow (I : SO s D kS xs ys d k s') {s'' : Shared} (K : Keeps s' s'') : SO s D kS xs ys d k s'' := by
  obtain ⟨h', tk, rfl, g⟩ := K
  obtain ⟨h, t, rfl⟩ := I.same
  exact ⟨⟨h', tk, rfl⟩, fun b o e => g _ _ (I.keep b o e), g _ _ I.atD, g _ _ I.atK, I.D0, I.K0, I.ne⟩
theorem SO.updD (I : SO s D kS xs ys d k s') (f : Array Value → Array Value) : ∃ d', SO s D kS (f xs) ys d' k { s' with heap := s'.heap.update D (Obj.mapSeq f) } := by
  obtain ⟨h, t, rfl⟩ := I.same
  refine ⟨_, ⟨_, _, rfl⟩, fun b o e => ?_, get?_update_seq I.atD f, ?_, I.D0, I.K0, I.ne⟩
  · rw [Heap.get?_update_ne _ _ _ _ (fun q => by rw [q, I.D0] at e; cases e)]; exact I.keep b o e
  · rw [Heap.get?_update_ne _ _ _ _ (Ne.symm I.ne)]; exact I.atK
theorem SO.updK (I : SO s D kS xs ys d k s') (f : Array Value → Array Value) : ∃ k', SO s D kS xs (f ys) d k' { s' with heap := s'.heap.update kS (Obj.mapSeq f) } := by
  obtain ⟨h, t, rfl⟩ := I.same
  refine ⟨_, ⟨_, _, rfl⟩, fun b o e => ?_, ?_, get?_update_seq I.atK f, I.D0, I.K0, I.ne⟩
  · rw [Heap.get?_update_ne _ _ _ _ (fun q => by rw [q, I.K0] at e; cases e)]; exact I.keep b o e
  · rw [Heap.get?_update_ne _ _ _ _ I.ne]; exact I.atD
end

section
variable {M : List Addr} {B₀ B : Mem} {s₀ s : Shared} {L : Addr} {m : Str → Option Value} {X : Led} {prog : Program} {w : World} {A : Around} {E : Value → Shared → Prop} {env : Env} {Q : Value → Shared → Prop}

theorem one_rest {f v : Value} {D kS : Addr} {e1 : Nat} {s' : Shared} {P : PySem.Fin → Shared → Prop} (I : SO s D kS #[] #[] e1 0 s')
    (hkey : ∀ s₁, SO s D kS #[] #[] e1 0 s₁ → wpAny (model prog w) A (call f [v]) (fun _ s₂ => Keeps s₁ s₂) (fun _ _ => False) s₁)
    (h : ∀ s₁ d k, SO s D kS #[v] #[] d k s₁ → P (.done (.ret .none)) s₁) : wpAny (model prog w) A (ksk_rest D f false #[v] e1 (.ref kS)) P E s' := by
  unfold ksk_rest
  refine wpAny_bind (wpAny_rule ?_)
  rw [← Array.forIn_toList]
  show wpAny _ _ (forIn [v] _ _ >>= _) _ _ _
  rw [List.forIn_cons]
  refine wpAny_bind (wpAny_bind (wpAny_bind (wpAny_attempt (wpAny_mono (hkey _ I) (fun k s₂ K => ?_) fun _ _ x => x.elim))))
  have I2 := I.grow K
  obtain ⟨c, I3⟩ := I2.updK (·.push k)
  dsimp only
  refine wpAny_bind (listUpdate_at I2.atK rfl ?_ (by decide) (by show (1 : Nat) ≤ _; decide))
  refine wpAny_pure ?_
  dsimp only
  rw [List.forIn_nil]
  refine wpAny_pure ?_
  refine wpAny_bind (listItems_at I3.atK rfl ?_)
  unfold ksk_end
  dsimp only
  rw [if_neg (by decide), if_pos (show ((#[v] : Array Value).size < 2) by show 1 < 2; decide)]
  refine wpAny_bind (wpAny_pure ?_)
  rw [if_pos (show ((#[v] : Array Value).size < 2) by show 1 < 2; decide)]
  refine wpAny_bind (wpAny_pure ?_)
  dsimp only
  have hz : ((((#[] : Array Value).push k).zip #[v]).map (·.2)) = #[v] := by simp
  unfold ksk_tail
  rw [if_neg (by decide)]
  dsimp only
  obtain ⟨c2, I4⟩ := I3.updK (fun _ => #[])
  refine wpAny_bind (listUpdate_at I3.atK rfl ?_ (by show (1 : Nat) ≤ _; decide) (Nat.zero_le _))
  refine wpAny_bind (wpAny_letGo ?_)
  refine wpAny_bind (seqEpoch_at I4.atD rfl ?_)
  obtain ⟨c3, I5⟩ := I4.updD (fun _ => #[v])
  show wpAny _ _ (Builtin.List.listUpdate _ (fun _ => if false = true then (Array.map (·.2) (((#[] : Array Value).push k).zip #[v])).reverse else Array.map (·.2) (((#[] : Array Value).push k).zip #[v])) >>= _) _ _ _
  rw [hz, if_neg (by decide)]
  refine wpAny_bind (listUpdate_at (f := fun _ => #[v]) I4.atD rfl ?_ (Nat.zero_le _) (by show (1 : Nat) ≤ _; decide))
  simp only [bne_self_eq_false, Bool.false_eq_true, if_false]
  exact wpAny_pure (h _ _ _ I5)

theorem one_tree {f v : Value} {D : Addr} {n : Nat} {s' : Shared} {P : PySem.Fin → Shared → Prop} (hs : ∃ h t, s' = { s with heap := h, toks := t }) (hk : ∀ b o, s.heap.get? b = some o → s'.heap.get? b = some o)
    (hD : s'.heap.get? D = some (seqObj "list" #[v] n)) (hD0 : s.heap.get? D = none)
    (hkey : ∀ s₁ : Shared, (∀ b o, s.heap.get? b = some o → s₁.heap.get? b = some o) → wpAny (model prog w) A (call f [v]) (fun _ s₂ => Keeps s₁ s₂) (fun _ _ => False) s₁)
    (h : ∀ s₁ d kS k, SO s D kS #[v] #[] d k s₁ → P (.done (.ret .none)) s₁) : wpAny (model prog w) A (ksk_tree D f false) P E s' := by
  unfold ksk_tree
  refine wpAny_bind (listItems_at hD rfl ?_)
  refine wpAny_bind (listUpdate_at hD rfl ?_ (by show (1 : Nat) ≤ _; decide) (Nat.zero_le _))
  have h1 := get?_update_seq hD fun _ => (#[] : Array Value)
  refine wpAny_bind (seqEpoch_at h1 rfl ?_)
  refine wpAny_bind (wpAny_newTuple ?_ (by show (1 : Nat) ≤ _; decide))
  refine wpAny_bind (wpAny_newList ?_ (Nat.zero_le _))
  refine wpAny_holding ?_
  have g : ∀ b o, (s'.heap.update D (Obj.mapSeq fun _ => #[])).get? b = some o → (((s'.heap.update D (Obj.mapSeq fun _ => #[])).push (seqObj "tuple" #[v] 0)).push (seqObj "list" #[] 0)).get? b = some o :=
    fun b o e => Heap.get?_push_of_some _ (Heap.get?_push_of_some _ e)
  refine one_rest (s := s) (f := f) (v := v) (kS := ((s'.heap.update D (Obj.mapSeq fun _ => (#[] : Array Value))).push (seqObj "tuple" #[v] 0)).objs.size) ⟨?_, fun b o e => g _ _ ?_, g _ _ h1, Heap.get?_push_size _ rfl, hD0, ?_, ?_⟩ (fun s₁ I => hkey s₁ I.keep) fun s₁ d k I => h s₁ d _ k I
  · obtain ⟨h, t, rfl⟩ := hs; exact ⟨_, _, rfl⟩
  · rw [Heap.get?_update_ne _ _ _ _ (fun q => by rw [q, hD0] at e; cases e)]; exact hk b o e
  · cases q : s.heap.get? ((s'.heap.update D (Obj.mapSeq fun _ => (#[] : Array Value))).push (seqObj "tuple" #[v] 0)).objs.size with
    | none => rfl
    | some o =>
      have := Heap.lt_size (hk _ _ q)
      rw [size_push', Heap.size_update] at this
      exact absurd (Nat.lt_trans (Nat.lt_succ_self _) this) (Nat.lt_irrefl _)
  · have := Heap.lt_size hD
    rw [size_push', Heap.size_update]
    exact Nat.ne_of_lt (Nat.lt_succ_of_lt this)

theorem sorted1 {l f : Addr} {v : Value} (S : St M B₀ s₀ B L m X s) (hlim : s.heap.NoLimit)
    (hl : At s.heap.get? l (IsLs [v])) (hkey : KeyCalls prog w A (.ref f) s L [v])
    (h : ∀ a s', St M B₀ s₀ B L m ((a, IsLs [v]) :: X) s' → Q (.ref a) s') :
    wpAny (model prog w) A (call (.builtin "sorted") [.ref l] [(Str.ofString "key", .ref f)]) Q E s := by
  refine call_function_entry_kw kind_sorted plain_sorted entry_sorted (ksk_s1 _ _) ?_
  unfold Builtin.«sorted»
  refine wpAny_bind (m := checkCount "sorted" 1 1 _) (wpAny_pure ?_)
  refine wpAny_bind (collect_list (vs := [v]) hl.isList ?_ (by show (1 : Nat) ≤ _; decide))
  refine wpAny_bind (wpAny_newList ?_ (by show (1 : Nat) ≤ _; decide))
  have hsz : ((s.heap.push (seqObj "list" #[] 0)).update s.heap.objs.size (Obj.mapSeq (· ++ [v].toArray))).objs.size = s.heap.objs.size + 1 := by rw [Heap.size_update, size_push']
  have hk : ∀ b o, s.heap.get? b = some o → (((s.heap.push (seqObj "list" #[] 0)).update s.heap.objs.size (Obj.mapSeq (· ++ [v].toArray))).push (seqObj "list" [v].toArray 0)).get? b = some o := fun b o q => by
    have hlt : b < s.heap.objs.size := Heap.lt_size q
    refine Heap.get?_push_of_some _ ?_
    rw [Heap.get?_update_ne _ _ _ _ (Nat.ne_of_lt hlt)]
    exact Heap.get?_push_of_some _ q
  have hD0 : s.heap.get? ((s.heap.push (seqObj "list" #[] 0)).update s.heap.objs.size (Obj.mapSeq (· ++ [v].toArray))).objs.size = none := by
    cases q : s.heap.get? ((s.heap.push (seqObj "list" #[] 0)).update s.heap.objs.size (Obj.mapSeq (· ++ [v].toArray))).objs.size with
    | none => rfl
    | some o => have := Heap.lt_size q; rw [hsz] at this; exact absurd (Nat.lt_trans (Nat.lt_succ_self _) this) (Nat.lt_irrefl _)
  have hoL : (((s.heap.push (seqObj "list" #[] 0)).update s.heap.objs.size (Obj.mapSeq (· ++ [v].toArray))).push (seqObj "list" [v].toArray 0)).get? ((s.heap.push (seqObj "list" #[] 0)).update s.heap.objs.size (Obj.mapSeq (· ++ [v].toArray))).objs.size = some (seqObj "list" #[v] 0) := Heap.get?_push_size _ rfl
  refine wpAny_bind (wpAny_holding (wpAny_call_entry_kw slot_list_sort ⟨_, hoL, rfl⟩ entry_list_sort ?body (ksk_l1 _ _)))
  case body =>
    rw [ksk_t1]
    refine one_tree (s := s) ⟨_, _, rfl⟩ hk hoL hD0 (fun s₁ k => wpAny_mono (hkey v (.head _) s₁ (fun b o _ e => k b o e) (hlim.keeps k)) (fun _ _ x => x.1) fun _ _ x => x) fun s₁ d kS k I => ⟨_, rfl, ?_⟩
    obtain ⟨h', t, rfl⟩ := I.same
    exact wpAny_pure ⟨_, rfl, h _ _ (S.extN (t := t) I.keep I.D0 I.atD ⟨d, rfl⟩)⟩

theorem sortedA {l f : Addr} {vs : List Value} (hA : A.units + 2 < cLine) (S : St M B₀ s₀ B L m X s) (hlim : ∀ s' : Shared, (∀ b o, b ≠ L → s.heap.get? b = some o → s'.heap.get? b = some o) → s'.heap.NoLimit)
    (hl : At s.heap.get? l (IsLs vs)) (h1 : 1 ≤ vs.length) (h64 : vs.length < 64) (hkey : KeyCalls prog w A (.ref f) s L vs)
    (h : ∀ a out s', St M B₀ s₀ B L m ((a, IsLs out) :: X) s' → out.length = vs.length → (∀ v ∈ out, v ∈ vs) → Q (.ref a) s') :
    wpAny (model prog w) A (call (.builtin "sorted") [.ref l] [(Str.ofString "key", .ref f)]) Q E s := by
  by_cases h2 : 2 ≤ vs.length
  · exact sortedN hA S hlim hl h2 h64 hkey h
  · obtain ⟨v, rfl⟩ : ∃ v, vs = [v] := by
      match vs, h1, h2 with
      | [v], _, _ => exact ⟨v, rfl⟩
      | _ :: _ :: _, _, h2 => exact absurd (by simp) h2
    exact sorted1 S (hlim s fun _ _ _ e => e) hl hkey fun a s' S' => h a [v] s' S' rfl fun _ h => h
end

/- MLam -/

def tabVals (pos : Pos) : Option Addr → Array Value
  | none => #[]
  | some c' => #[rawInt pos.line, rawInt pos.col, .ref c']
def TabI (pos : Pos) (c : Option Addr) : Obj → Prop := fun o => o = tabObj (tabVals pos c)
def CodeB (B : Mem) (qual : Str) (c' : Addr) : Prop := ∃ oc vs t, B c' = some oc ∧ oc.data = .fields vs ∧ vs[1]? = some (.str qual t)
theorem CodeB.mono {B C : Mem} {qual : Str} {c' : Addr} (h : CodeB B qual c') (k : Sub B C) : CodeB C qual c' := let ⟨oc, vs, t, a, b⟩ := h; ⟨oc, vs, t, k _ _ a, b⟩
def TabB (B : Mem) (qual : Str) : Option Addr → Prop
  | none => True
  | some c' => CodeB B qual c'
theorem TabB.mono {B C : Mem} {qual : Str} (k : Sub B C) : ∀ {c : Option Addr}, TabB B qual c → TabB C qual c
  | none, _ => trivial
  | some _, h => CodeB.mono h k

section
variable {M : List Addr} {B₀ B : Mem} {s₀ s : Shared} {L : Addr} {m : Str → Option Value} {X : Led} {prog : Program} {w : World} {A : Around} {E : Value → Shared → Prop} {env : Env} {Q : Value → Shared → Prop} {T : Heap} {mg mb : Str → Option Value}

/-- one object of the ledger changes, all else is kept -/
theorem St.extBut {a : Addr} {P P' : Obj → Prop} (S : St M B₀ s₀ B L m ((a, P) :: X) s) {h' : Heap} {t : Nat} {o' : Obj} (hs : Heap.ExtBut a s.heap h') (e' : h'.get? a = some o') (hP : P' o') :
    St M B₀ s₀ B L m ((a, P') :: X) { s with heap := h', toks := t } := by
  obtain ⟨⟨o, e, ho⟩, h1, h2, h3⟩ := S.news _ (.head _)
  have hM : ∀ b o, b ∉ M → s₀.heap.get? b = some o → b ≠ a := fun b o hb e q => by
    rcases h3 with h3 | h3
    · exact hb (q ▸ h3)
    · rw [q, h3] at e; cases e
  refine ⟨⟨by have := S.same; rw [this], S.live, fun b eb => ?_, fun b o hb e => hs b o (hM b o hb e) (S.keep b o hb e), S.sub0, fun b o e => ?_, S.fresh⟩, S.ns.extBut hs (Ne.symm h1), S.lo, S.off, fun p hp => ?_, S.nodup⟩
  · by_cases q : b = a
    · rw [q, e'] at eb; cases eb
    · refine S.pres b ?_
      cases q2 : s.heap.get? b with
      | none => rfl
      | some o => rw [hs b o q q2] at eb; cases eb
  · refine hs b o (fun q => ?_) (S.sub b o e)
    rw [q, h2] at e; cases e
  · rcases List.mem_cons.mp hp with rfl | hp
    · exact ⟨⟨o', e', hP⟩, h1, h2, h3⟩
    · obtain ⟨⟨o, e, ho⟩, r⟩ := S.news p (.tail _ hp)
      refine ⟨⟨o, hs _ _ (fun q => ?_) e, ho⟩, r⟩
      exact (List.nodup_cons.mp S.nodup).1 (List.mem_map.mpr ⟨p, hp, q⟩)

/-- an object that is there is laid down for good -/
theorem St.takeB (S : St M B₀ s₀ B L m X s) {a : Addr} {o : Obj} (he : s.heap.get? a = some o) (hB : B a = none) (h0 : s₀.heap.get? a = none) (hL : a ≠ L) (hX : ∀ p ∈ X, p.1 ≠ a) :
    St M B₀ s₀ (Mine.ext B a o) L m X s ∧ Sub B (Mine.ext B a o) := by
  have sb : Sub B (Mine.ext B a o) := fun b o' e' => by
    have : b ≠ a := fun q => by rw [q, hB] at e'; cases e'
    rw [ext_ne this]; exact e'
  refine ⟨⟨⟨S.same, S.live, S.pres, S.keep, S.sub0.trans sb, fun b o' e' => ?_, fun b o' e' => ?_⟩, S.ns, S.lo, ?_, fun p hp => ?_, S.nodup⟩, sb⟩
  · rcases ext_cases e' with ⟨q, rfl⟩ | e'
    · rw [q]; exact he
    · exact S.sub _ _ e'
  · rcases ext_cases e' with ⟨q, rfl⟩ | e'
    · rw [q]; exact .inr h0
    · exact S.fresh _ _ e'
  · rw [ext_ne (Ne.symm hL)]; exact S.off
  · obtain ⟨x1, x2, x3, x4⟩ := S.news p hp
    exact ⟨x1, x2, by rw [ext_ne (hX p hp)]; exact x3, x4⟩

theorem St.bmain (S : St M B₀ s₀ B L m X s) (hT : Sub T.get? B₀) (tf : TF w T mg mb) : s.heap.BuiltinsAt mg 162 := by
  obtain ⟨bm, ob, b1, b2, b3, b4, b5, b6⟩ := tf.bm
  refine ⟨bm, ob, b1, b2, fun q => ?_, fun q => ?_, (hT.trans (S.sub0.trans S.sub)) _ _ b3, b4, b5, b6⟩
  · obtain ⟨o, es, ep, e, hd, _⟩ := tf.g
    rw [q, e] at b3; cases b3; rw [hd] at b6; cases b6
  · rw [q, tf.hid] at b3; cases b3

theorem mk_lam {pos : Pos} {c : Option Addr} {params : Arguments} {body : Expr} {scope : Scope} {qual : Str} (tf : TF w T mg mb) (hT : Sub T.get? B₀) (S : St M B₀ s₀ B L m ((162, TabI pos c) :: X) s) (hTab : TabB B qual c) (hC : CodeHd s.heap 166 162)
    (h : ∀ f c' B' s' pm ctv, St M B₀ s₀ B' L m ((162, TabI pos (some c')) :: X) s' → Sub B B' → CodeB B' qual c' → B' f = some (kla_obj "<lambda>" qual params body scope [] pm c' ctv) → Q (.ref f) s')
    (hq : env.qual ++ "<lambda>" = qual := by rfl) (hcode : env.code = .ref 166 := by rfl) (hge : env.globals = mainGlobals := by rfl) (hcl : closureFor scope env = pure [] := by rfl) (hdef : defaultsOf params env = ([], []) := by rfl) :
    wpAny (model prog w) A (eval (.Lambda params body scope pos) env) Q E s := by
  subst hq
  refine kla_eval hdef ?_
  have hg : s.heap.Ns mainGlobals mg := tf.g.keeps (S.top hT)
  have hb := S.bmain hT tf
  obtain ⟨⟨o, e, rfl⟩, h1, h2, h3⟩ := S.news _ (.head _)
  cases c with
  | none =>
    have hgP : mainGlobals ≠ 162 := by decide
    refine kla_makeFunction (ps := #[]) hcl hge hg hcode hC e trivial rfl hgP hb fun c' ctv h' tk hx hge' hlt hrec htb => ?_
    obtain ⟨c₂, oc, vs, t, e2, hoc, hd, hv⟩ := hrec
    cases e2
    have S1 : St M B₀ s₀ B L m ((162, TabI pos (some c')) :: X) { s with heap := h', toks := tk } := S.extBut hx htb rfl
    have hc0 : s.heap.get? c' = none := Heap.get?_none_of_le hge'
    obtain ⟨S2, sb2⟩ := S1.takeB (a := c') hoc (by
      cases q : B c' with
      | none => rfl
      | some o' => rw [S.sub _ _ q] at hc0; cases hc0) (S.pres _ hc0) (fun q => by
        obtain ⟨oL, es, ep, eL, _⟩ := S.ns
        rw [q, eL] at hc0; cases hc0) (fun p hp q => by
        have : ∃ o, s.heap.get? p.1 = some o := by
          rcases List.mem_cons.mp hp with rfl | hp
          · exact ⟨_, e⟩
          · obtain ⟨⟨o', e', _⟩, _⟩ := S.news p (.tail _ hp)
            exact ⟨o', e'⟩
        obtain ⟨o', e'⟩ := this
        rw [q, hc0] at e'; cases e')
    obtain ⟨S3, sb3⟩ := S2.pushB (t := tk) (kla_obj "<lambda>" (env.qual ++ "<lambda>") params body scope [] ((mg "__name__").getD .none) c' ctv)
    exact h _ c' _ _ _ ctv S3 (sb2.trans sb3) ⟨oc, vs, t, sb3 _ _ ext_self, hd, hv⟩ ext_self
  | some c' =>
    have ht : TriplesOk (tabVals pos (some c')).toList := trivial
    refine kla_makeFunctionHit (ps := tabVals pos (some c')) (cv := .ref c') hcl hge hg hcode hC e ht (codeAmong_snoc [] trivial rfl) hb fun ctv h' tk hk hsz => ?_
    have S1 := S.ext (t := tk) hk
    obtain ⟨S3, sb3⟩ := S1.pushB (t := tk) (kla_obj "<lambda>" (env.qual ++ "<lambda>") params body scope [] ((mg "__name__").getD .none) c' ctv)
    exact h _ c' _ _ _ ctv S3 sb3 (CodeB.mono hTab sb3) ext_self

theorem call_lam {f : Addr} {args : List Value} {binds : List (Str × Value)} {params : Arguments} {body : Expr} {scope : Scope} {qual : Str} {pm ctv : Value} {c' : Addr} {k : Nat} (hA : Room A (k + 1))
    (ho : B f = some (kla_obj "<lambda>" qual params body scope [] pm c' ctv)) (hcd : CodeB B qual c') (hlim : s.heap.NoLimit) (hB : Sub B s.heap.get?)
    (hbind : bindArgs (kla_fn "<lambda>" qual params body scope [] pm (.ref c') ctv) ⟨args, []⟩ = pure binds) (hloc : ∀ x ∈ binds, scope.names.lookup x.1 = some .local)
    (h : ∀ s₁ L A', Room A' k → St [] B s B L (fun x => binds.reverse.lookup x) [] s₁ → wpAny (model prog w) A' (eval body (envOf qual scope L f (.ref c'))) Q (fun _ _ => False) s₁)
    (hco : scope.isCoroutine = false := by rfl) (hgen : scope.isGenerator = false := by rfl) (hk : scope.kind = .function := by rfl)
    (hcell : ∀ x ∈ scope.names, x.2 ≠ .cell := by decide) :
    wpAny (model prog w) A (call (.ref f) args) Q E s := by
  obtain ⟨oc, vs, t, hoc, hd, hv⟩ := hcd
  refine wpAny_call (kla_callFunE (by have := hA.depth; omega) (hB _ _ ho) rfl hco hgen rfl ⟨c', oc, vs, t, rfl, hB _ _ hoc, hd, hv⟩ ?_)
  rw [hbind]
  refine wpAny_pure (wpAny_newFunctionEnv hcell hloc (fun h₁ hns hsb => ⟨hlim.fresh _ hsb, ?_⟩) hk)
  have hk₁ : ∀ b o, s.heap.get? b = some o → h₁.get? b = some o := fun b o e => hsb.extBut b o (Nat.ne_of_lt (Heap.lt_size e)) (Heap.get?_push_of_some _ e)
  have F : Fr s.heap s.heap.objs.size h₁ (fun y => binds.reverse.lookup y) := ⟨hns, hk₁, Nat.le_refl _⟩
  show codeAny _ _ (.expr body (envOf qual scope s.heap.objs.size f (.ref c'))) _ _
  refine kla_codeExpr (wpAny_mono (h _ _ _ hA.deeper (St.enter F hB (fun _ h => nomatch h) (fun _ h => nomatch h) .nil)) (fun v s' hq => hq) fun _ _ x => x.elim)
end

/- G1 -/

noncomputable abbrev KK (w : World) : Frag := hd.heap_39 w.params
section
variable {w : World}
theorem kp_cut_depth : keepIn (KK w) (.ref 26) = true := by kernel_rfl
theorem kp_cut_flow : keepIn (KK w) (.ref 33) = true := by kernel_rfl
theorem kp_cover : keepIn (KK w) (.ref 40) = true := by kernel_rfl
theorem kp_recovered : keepIn (KK w) (.ref 47) = true := by kernel_rfl
theorem kp_add_input : keepIn (KK w) (.ref 68) = true := by kernel_rfl
theorem kp_is_and : keepIn (KK w) (.ref 82) = true := by kernel_rfl
theorem kp_land : keepIn (KK w) (.ref 89) = true := by kernel_rfl
theorem kp_uses : keepIn (KK w) (.ref 131) = true := by kernel_rfl
theorem kp_Aig : keepIn (KK w) (.ref 142) = true := by kernel_rfl
theorem kp_merge : keepIn (KK w) (.ref 153) = true := by kernel_rfl
theorem kp_within : keepIn (KK w) (.ref 160) = true := by kernel_rfl
theorem kp_without : keepIn (KK w) (.ref 167) = true := by kernel_rfl
theorem kp_node_cuts : keepIn (KK w) (.ref 174) = true := by kernel_rfl
theorem kp_cut_sets : keepIn (KK w) (.ref 181) = true := by kernel_rfl
theorem kp_take : keepIn (KK w) (.ref 188) = true := by kernel_rfl
theorem kp_graph : keepIn (KK w) (.ref 193) = true := by kernel_rfl
theorem kp_flow : keepIn (KK w) (.ref 198) = true := by kernel_rfl
theorem kp_level : keepIn (KK w) (.ref 203) = true := by kernel_rfl
end

def IsInst (dx : Addr) : Obj → Prop := fun o => o = instObj 142 dx
def IsD (es : List DictEntry) : Obj → Prop := fun o => ∃ n, o = dictOf es n
structure Es (es : List DictEntry) (ln li lo lt : Addr) : Prop where
  nodes : getL "nodes" es = some (some (.ref ln))
  inputs : getL "inputs" es = some (some (.ref li))
  outputs : getL "outputs" es = some (some (.ref lo))
  table : getL "table" es = some (some (.ref lt))
  is_and : getL "is_and" es = some none
  uses : getL "uses" es = some none
  land : getL "land" es = some none
  add_input : getL "add_input" es = some none
def AigHd (B : Mem) (g ln li lo lt : Addr) : Prop := ∃ dx es, At B g (IsInst dx) ∧ At B dx (IsD es) ∧ Es es ln li lo lt
theorem AigHd.mono {B C : Mem} {g ln li lo lt : Addr} (h : AigHd B g ln li lo lt) (k : Sub B C) : AigHd C g ln li lo lt :=
  let ⟨dx, es, a, b, c⟩ := h; ⟨dx, es, a.mono k, b.mono k, c⟩

section
variable {M : List Addr} {B₀ B : Mem} {s₀ s : Shared} {L : Addr} {m : Str → Option Value} {X : Led} {prog : Program} {w : World} {A : Around} {E : Value → Shared → Prop} {env : Env} {T : Heap} {mg mb : Str → Option Value} {Q : Value → Shared → Prop} {g ln li lo lt : Addr}

def CallG (prog : Program) (w : World) (A : Around) (E : Value → Shared → Prop) (Q : Value → Shared → Prop) (f : Value) (first : List Value) (vs : List Value) (s₁ : Shared) : Prop :=
  (KK w).In s₁.heap ∧ wpAny (model prog w) A (call f (first ++ vs)) Q E s₁
theorem cw_K {pos : Pos} {f : Value} {first : List Value} {e : Expr} {rest : List Expr} (tf : TF w T mg mb) (hk : keepIn (KK w) f = true)
    (h : wpAny (model prog w) A (spliced (backTo pos (starEach (e :: rest) env))) (CallG prog w A E Q f first) E s)
    (he : starEach (e :: rest) env = (false, eval e env) :: starEach rest env := by rfl) (hplain : (backTo pos (starEach rest env)).any (·.1) = false := by rfl) :
    wpAny (model prog w) A (callWith pos f first (backTo pos (starEach (e :: rest) env)) []) Q E s := callWith_K tf.K hk h he hplain
theorem St.inK (S : St M B₀ s₀ B L m X s) (hT : Sub T.get? B₀) (tf : TF w T mg mb) : (KK w).In s.heap := tf.K.keeps (S.top hT)
theorem cw_K0 {pos : Pos} {f : Value} {first : List Value} (S : St M B₀ s₀ B L m X s) (hT : Sub T.get? B₀) (tf : TF w T mg mb) (hk : keepIn (KK w) f = true)
    (h : wpAny (model prog w) A (call f (first ++ [])) Q E s) : wpAny (model prog w) A (callWith pos f first (backTo pos (starEach [] env)) []) Q E s := callWith_K0 (S.inK hT tf) hk h
theorem cg_do {f : Value} {first vs : List Value} (S : St M B₀ s₀ B L m X s) (hT : Sub T.get? B₀) (tf : TF w T mg mb) (h : wpAny (model prog w) A (call f (first ++ vs)) Q E s) : CallG prog w A E Q f first vs s := ⟨S.inK hT tf, h⟩

theorem ag_inst (h : AigHd s.heap.get? g ln li lo lt) : ∃ ox es n, InstAt s.heap g ox 142 (some (dictOf es n)) ∧ Es es ln li lo lt := by
  obtain ⟨dx, es, ⟨o, e1, rfl⟩, ⟨o2, e2, n, rfl⟩, h⟩ := h
  exact ⟨_, es, n, ⟨e1, rfl, rfl, e2⟩, h⟩
theorem ag_get {x : Str} {v : Value} {expr : Bool} (S : St M B₀ s₀ B L m X s) (hT : Sub T.get? B₀) (tf : TF w T mg mb) (hg : AigHd B g ln li lo lt) (hx : ∀ es, Es es ln li lo lt → getL x es = some (some v))
    (hp : plainGet (KK w) 142 x = true) (hf : findIn (KK w) (.ref 142) x = some none) (hv : handedIn v = true) (h : ∀ s', St M B₀ s₀ B L m X s' → Q v s') : wpAny (model prog w) A (getAttr (.ref g) x expr) Q E s := by
  obtain ⟨ox, es, n, I, he⟩ := ag_inst (hg.mono S.sub)
  exact get_value (S.inK hT tf) I (plainGet_of hp).1 (findObj_own (show hasDictIn (KK w) 142 = true by kernel_rfl) hf rfl (hx es he)) hv (h _ (S.tok _))
theorem ag_nodes {expr : Bool} (S : St M B₀ s₀ B L m X s) (hT : Sub T.get? B₀) (tf : TF w T mg mb) (hg : AigHd B g ln li lo lt) (h : ∀ s', St M B₀ s₀ B L m X s' → Q (.ref ln) s') : wpAny (model prog w) A (getAttr (.ref g) "nodes" expr) Q E s :=
  ag_get S hT tf hg (fun _ e => e.nodes) (by kernel_rfl) (by kernel_rfl) rfl h
theorem ag_inputs {expr : Bool} (S : St M B₀ s₀ B L m X s) (hT : Sub T.get? B₀) (tf : TF w T mg mb) (hg : AigHd B g ln li lo lt) (h : ∀ s', St M B₀ s₀ B L m X s' → Q (.ref li) s') : wpAny (model prog w) A (getAttr (.ref g) "inputs" expr) Q E s :=
  ag_get S hT tf hg (fun _ e => e.inputs) (by kernel_rfl) (by kernel_rfl) rfl h
theorem ag_outputs {expr : Bool} (S : St M B₀ s₀ B L m X s) (hT : Sub T.get? B₀) (tf : TF w T mg mb) (hg : AigHd B g ln li lo lt) (h : ∀ s', St M B₀ s₀ B L m X s' → Q (.ref lo) s') : wpAny (model prog w) A (getAttr (.ref g) "outputs" expr) Q E s :=
  ag_get S hT tf hg (fun _ e => e.outputs) (by kernel_rfl) (by kernel_rfl) rfl h
theorem ag_table {expr : Bool} (S : St M B₀ s₀ B L m X s) (hT : Sub T.get? B₀) (tf : TF w T mg mb) (hg : AigHd B g ln li lo lt) (h : ∀ s', St M B₀ s₀ B L m X s' → Q (.ref lt) s') : wpAny (model prog w) A (getAttr (.ref g) "table" expr) Q E s :=
  ag_get S hT tf hg (fun _ e => e.table) (by kernel_rfl) (by kernel_rfl) rfl h
theorem ag_meth {x : Str} {f : Addr} {pl : Sem Bool} {Q : Value × List Value → Shared → Prop} (S : St M B₀ s₀ B L m X s) (hT : Sub T.get? B₀) (tf : TF w T mg mb) (hg : AigHd B g ln li lo lt) (hx : ∀ es, Es es ln li lo lt → getL x es = some none)
    (hp : plainGet (KK w) 142 x = true) (hf : findIn (KK w) (.ref 142) x = some (some (.ref f))) (ht : typeIn (KK w) (.ref f) = some (.type "function")) (h : Q (.ref f, [.ref g]) s) : wpAny (model prog w) A (getMethod (.ref g) x pl) Q E s := by
  obtain ⟨ox, es, n, I, he⟩ := ag_inst (hg.mono S.sub)
  exact method_fn (S.inK hT tf) I (plainGet_of hp).1 (plainGet_of hp).2 hf ht (by show (lookIn x (dictOf es n)).map _ = _; rw [lookIn_dict, hx es he]; rfl) h
theorem ag_is_and {pl : Sem Bool} {Q : Value × List Value → Shared → Prop} (S : St M B₀ s₀ B L m X s) (hT : Sub T.get? B₀) (tf : TF w T mg mb) (hg : AigHd B g ln li lo lt) (h : Q (.ref 82, [.ref g]) s) : wpAny (model prog w) A (getMethod (.ref g) "is_and" pl) Q E s :=
  ag_meth S hT tf hg (fun _ e => e.is_and) (by kernel_rfl) (by kernel_rfl) (by kernel_rfl) h
theorem ag_uses {pl : Sem Bool} {Q : Value × List Value → Shared → Prop} (S : St M B₀ s₀ B L m X s) (hT : Sub T.get? B₀) (tf : TF w T mg mb) (hg : AigHd B g ln li lo lt) (h : Q (.ref 131, [.ref g]) s) : wpAny (model prog w) A (getMethod (.ref g) "uses" pl) Q E s :=
  ag_meth S hT tf hg (fun _ e => e.uses) (by kernel_rfl) (by kernel_rfl) (by kernel_rfl) h
theorem ag_land {pl : Sem Bool} {Q : Value × List Value → Shared → Prop} (S : St M B₀ s₀ B L m X s) (hT : Sub T.get? B₀) (tf : TF w T mg mb) (hg : AigHd B g ln li lo lt) (h : Q (.ref 89, [.ref g]) s) : wpAny (model prog w) A (getMethod (.ref g) "land" pl) Q E s :=
  ag_meth S hT tf hg (fun _ e => e.land) (by kernel_rfl) (by kernel_rfl) (by kernel_rfl) h
theorem ag_add_input {pl : Sem Bool} {Q : Value × List Value → Shared → Prop} (S : St M B₀ s₀ B L m X s) (hT : Sub T.get? B₀) (tf : TF w T mg mb) (hg : AigHd B g ln li lo lt) (h : Q (.ref 68, [.ref g]) s) : wpAny (model prog w) A (getMethod (.ref g) "add_input" pl) Q E s :=
  ag_meth S hT tf hg (fun _ e => e.add_input) (by kernel_rfl) (by kernel_rfl) (by kernel_rfl) h
end

section
variable {s : Shared} {prog : Program} {w : World} {A : Around} {E : Value → Shared → Prop} {Q : Value → Shared → Prop}
/-- a call of a class's own def -/
theorem call_stM {M' : List Addr} {Y : Led} {BB : Mem} {name qual : Str} {params : Arguments} {body : List Stmt} {scope : Scope} {pm cd doc : Value} {f : Addr} {args : List Value} {binds : List (Str × Value)}
    {k : Nat} (hA : Room A (k + 1)) (ho : s.heap.get? f = some { cls := .type "function", data := .func (methDef name qual params body scope pm cd doc) }) (hlim : s.heap.NoLimit) (hcd : s.heap.CodeRec cd qual)
    (hB : Sub BB s.heap.get?) (hY : ∀ p ∈ Y, At s.heap.get? p.1 p.2 ∧ BB p.1 = none ∧ p.1 ∈ M') (hd : (Y.map (·.1)).Nodup) (hM : ∀ b ∈ M', ∃ o, s.heap.get? b = some o)
    (hbind : bindArgs (methDef name qual params body scope pm cd doc) ⟨args, []⟩ = pure binds)
    (hloc : ∀ x ∈ binds, scope.names.lookup x.1 = some .local)
    (h : ∀ s₁ L A', Room A' k → St M' BB s BB L (fun x => binds.reverse.lookup x) Y s₁ →
      wpAny (model prog w) A' (execs body (envOf qual scope L f cd)) (Rn Q) (fun _ _ => False) s₁)
    (hco : scope.isCoroutine = false := by rfl) (hgen : scope.isGenerator = false := by rfl) (hk : scope.kind = .function := by rfl)
    (hcell : ∀ x ∈ scope.names, x.2 ≠ .cell := by decide) :
    wpAny (model prog w) A (call (.ref f) args) Q E s := by
  refine wpAny_call (codeAny_call_def (fd := methDef name qual params body scope pm cd doc) (body := body) (binds := binds) (by have := hA.depth; omega) ho rfl hlim hcd rfl (.of_eq hbind) hcell hloc (fun h₁ hns hk₁ => ?_) hco hgen hk)
  have F : Fr s.heap s.heap.objs.size h₁ (fun y => binds.reverse.lookup y) := ⟨hns, hk₁, Nat.le_refl _⟩
  exact wpAny_mono (h _ _ _ hA.deeper (St.enter F hB hM hY hd)) (fun _ _ x => x) fun _ _ x => x.elim
end

section
variable {M : List Addr} {B₀ B : Mem} {s₀ s : Shared} {L : Addr} {m : Str → Option Value} {X : Led} {prog : Program} {w : World} {A : Around} {E : Value → Shared → Prop} {Q : Value → Shared → Prop} {a b c : Int} {ta tb tc : Tok}
theorem St.at0 {a : Addr} {P : Obj → Prop} (S : St M B₀ s₀ B L m X s) (h : At B₀ a P) : At s.heap.get? a P := h.mono (S.sub0.trans S.sub)
theorem unpack_st {t : Addr} {vs : List Value} {n : Nat} {Q : List Value → Shared → Prop} (S : St M B₀ s₀ B L m X s) (hh : A.handled = none) (ht : At s.heap.get? t (IsTp vs)) (hn : n = vs.length)
    (h : ∀ s', St M B₀ s₀ B L m X s' → Q vs s') : wpAny (model prog w) A (unpackItems (.ref t) n none) Q E s := by
  have hn' : n = vs.toArray.size := by rw [List.size_toArray]; exact hn
  subst hn'
  refine unpackItems_tuple hh ht.isTup fun h' he => ?_
  have := h _ (S.ext (t := s.toks) (h' := h') fun b o e => he b o (fun q => by rw [q, size_none] at e; cases e) e)
  simpa using this
theorem Room.mono {j k : Nat} (h : Room A k) (hj : j ≤ k) : Room A j := ⟨h.handled, by have := h.depth; omega, by have := h.units; omega⟩
theorem l_mulH {l : Addr} {v : Value} {n : Int} {u : Tok} (S : St M B₀ s₀ B L m ((l, IsLs [v]) :: X) s) (h0 : 0 ≤ n) (hn : n ≤ 1000)
    (h : ∀ a s', St M B₀ s₀ B L m ((a, IsLs (List.replicate n.toNat v)) :: X) s' → Q (.ref a) s') : wpAny (model prog w) A (binaryOp .Mult (.ref l) (.int n u)) Q E s :=
  l_mul1 S (S.at (.head _)) h0 hn fun a _ S' => h a _ (S'.sub' (fun p hp => by
    rcases List.mem_cons.mp hp with rfl | hp
    · exact .head _
    · exact .tail _ (.tail _ hp)) (by
    have := S'.nodup
    simp only [List.map_cons, List.nodup_cons, List.mem_cons, not_or] at this ⊢
    exact ⟨this.1.2, this.2.2⟩))
theorem range1 (S : St M B₀ s₀ B L m X s) (h : ∀ r s' t u v, IsRange s'.heap r 0 b 1 t u v → St M B₀ s₀ B L m X s' → Q (.ref r) s') : wpAny (model prog w) A (call (.type "range") [.int b tb]) Q E s :=
  call_range_1 (h _ _ _ _ _ (IsRange.new ..) (S.ext fun _ _ e => Heap.get?_push_of_some _ e))
theorem range2 (S : St M B₀ s₀ B L m X s) (h : ∀ r s' t u v, IsRange s'.heap r a b 1 t u v → St M B₀ s₀ B L m X s' → Q (.ref r) s') : wpAny (model prog w) A (call (.type "range") [.int a ta, .int b tb]) Q E s :=
  call_range_2 (h _ _ _ _ _ (IsRange.new ..) (S.ext fun _ _ e => Heap.get?_push_of_some _ e))
theorem range3 (S : St M B₀ s₀ B L m X s) (hc : c = -1) (h : ∀ r s' t u v, IsRange s'.heap r a b c t u v → St M B₀ s₀ B L m X s' → Q (.ref r) s') : wpAny (model prog w) A (call (.type "range") [.int a ta, .int b tb, .int c tc]) Q E s := by
  subst hc
  exact call_range_3 (by decide) (h _ _ _ _ _ (IsRange.new ..) (S.ext fun _ _ e => Heap.get?_push_of_some _ e)) (.inl (by unfold Builtin.divisionGoesByPylong; rfl))
end

/-- a node of the graph: none (constant, input) or the pair of its literals -/
def NodeAt (B : Mem) (v : Value) : Option (Int × Int) → Prop
  | none => v = .none
  | some (l, r) => CutAt B v [l, r]
theorem NodeAt.mono {B C : Mem} {v : Value} (k : Sub B C) : ∀ {n : Option (Int × Int)}, NodeAt B v n → NodeAt C v n
  | none, h => h
  | some (_, _), h => CutAt.mono h k
abbrev Gr := List (Option (Int × Int))
abbrev NodesAre (B : Mem) (ns : List Value) (G : Gr) : Prop := All2 (NodeAt B) ns G
def isAnd (G : Gr) (i : Int) : Bool := ((G[i.toNat]?).join).isSome

/- G2 -/
local macro_rules | `(tactic| walk_at "ag") => `(tactic| first | assumption | exact AigHd.mono (by assumption) (Grow.sub0 (St.toGrow (by assumption))))
local macro_rules | `(tactic| walk_at "mw") => `(tactic| first
  | ((with_reducible show wpAny _ _ (getAttr (Value.ref _) (Str.ofString "nodes") _) _ _ _); refine ag_nodes (by assumption) (by assumption) (by assumption) (by walk_at "ag") ?_; intro _ _)
  | ((with_reducible show wpAny _ _ (getAttr (Value.ref _) (Str.ofString "outputs") _) _ _ _); refine ag_outputs (by assumption) (by assumption) (by assumption) (by walk_at "ag") ?_; intro _ _)
  | ((with_reducible show wpAny _ _ (getAttr (Value.ref _) (Str.ofString "inputs") _) _ _ _); refine ag_inputs (by assumption) (by assumption) (by assumption) (by walk_at "ag") ?_; intro _ _)
  | ((with_reducible show wpAny _ _ (getAttr (Value.ref _) (Str.ofString "table") _) _ _ _); refine ag_table (by assumption) (by assumption) (by assumption) (by walk_at "ag") ?_; intro _ _)
  | ((with_reducible show wpAny _ _ (getMethod (Value.ref _) (Str.ofString "is_and") _) _ _ _); refine ag_is_and (by assumption) (by assumption) (by assumption) (by walk_at "ag") ?_)
  | ((with_reducible show wpAny _ _ (getMethod (Value.ref _) (Str.ofString "uses") _) _ _ _); refine ag_uses (by assumption) (by assumption) (by assumption) (by walk_at "ag") ?_)
  | ((with_reducible show wpAny _ _ (getMethod (Value.ref _) (Str.ofString "land") _) _ _ _); refine ag_land (by assumption) (by assumption) (by assumption) (by walk_at "ag") ?_)
  | ((with_reducible show wpAny _ _ (getMethod (Value.ref _) (Str.ofString "add_input") _) _ _ _); refine ag_add_input (by assumption) (by assumption) (by assumption) (by walk_at "ag") ?_)
  | ((with_reducible show wpAny _ _ (callWith _ (Value.ref _) _ (backTo _ (starEach (_ :: _) _)) []) _ _ _); refine cw_K (by assumption) (by first | with_reducible exact kp_cut_depth | with_reducible exact kp_cut_flow | with_reducible exact kp_cover | with_reducible exact kp_recovered | with_reducible exact kp_add_input | with_reducible exact kp_is_and | with_reducible exact kp_land | with_reducible exact kp_uses | with_reducible exact kp_Aig | with_reducible exact kp_merge | with_reducible exact kp_within | with_reducible exact kp_without | with_reducible exact kp_node_cuts | with_reducible exact kp_cut_sets | with_reducible exact kp_take | with_reducible exact kp_graph | with_reducible exact kp_flow | with_reducible exact kp_level) ?_)
  | ((with_reducible show wpAny _ _ (callWith _ (Value.ref _) _ (backTo _ (starEach [] _)) []) _ _ _); refine cw_K0 (by assumption) (by assumption) (by assumption) (by first | with_reducible exact kp_Aig | with_reducible exact kp_add_input | with_reducible exact kp_uses) ?_)
  | ((with_reducible show wpAny _ _ (newList _) _ _ _); refine mk_list (by assumption) (by simp [sizeLine_eq]) ?_; intro _ _ _)
  | ((with_reducible show wpAny _ _ (newTuple _) _ _ _); refine mk_tuple (by assumption) (by simp [sizeLine_eq]) ?_; intro _ _ _ _ _ _)
  | ((with_reducible show wpAny _ _ (binaryOp Operator.Mult (Value.ref _) (Value.int _ _)) _ _ _); (with_reducible refine l_mulH (by assumption) (by walk_at "om") (by walk_at "om") ?_); intro _ _ _)
  | ((with_reducible show wpAny _ _ (binaryOp Operator.RShift (Value.int _ _) (Value.int 1 _)) _ _ _); (with_reducible refine i_shr1 (by assumption) (by walk_at "om") ?_); intro _ _ _)
  | ((with_reducible show wpAny _ _ (setItem (Value.ref _) (Value.int _ _) _) _ _ _); refine set_listL (by assumption) (by walk_at "lupd") (by walk_at "om") (by walk_at "om") (by walk_at "sz") ?_; intro _ _)
  | fail "no step")
local macro_rules | `(tactic| walk_at "mo") => `(tactic| first
  | ((with_reducible show CallG _ _ _ _ _ _ _ _ _); (with_reducible refine cg_do (by assumption) (by assumption) (by assumption) ?_))
  | fail "no step")
local macro_rules | `(tactic| walk_at "mw") => `(tactic| first
  | ((with_reducible show wpAny _ _ (call (Value.type "range") [Value.int _ _]) _ _ _); (with_reducible refine range1 (by assumption) ?_); intro _ _ _ _ _ _ _)
  | ((with_reducible show wpAny _ _ (call (Value.type "range") [Value.int _ _, Value.int _ _]) _ _ _); (with_reducible refine range2 (by assumption) ?_); intro _ _ _ _ _ _ _)
  | ((with_reducible show wpAny _ _ (call (Value.type "range") [Value.int _ _, Value.int _ _, Value.int _ _]) _ _ _); (with_reducible refine range3 (by assumption) (by walk_at "om") ?_); intro _ _ _ _ _ _ _)
  | fail "no step")
local macro_rules | `(tactic| walk_at "at") => `(tactic| exact St.at0 (by assumption) (by assumption))
local macro_rules | `(tactic| walk_at "mw") => `(tactic| first
  | ((with_reducible show wpAny _ _ (subscriptTail _ _ (Value.ref _) (Value.int _ _)) _ _ _); refine sub_tuple (by walk_at "at") (by walk_at "om") (by walk_at "om") (by rfl) ?_)
  | ((with_reducible show wpAny _ _ (call (Value.builtin "max") [Value.int _ _, Value.int _ _]) _ _ _); (with_reducible refine i_max (by assumption) (Room.handled (by assumption)) ?_); intro _ _ _)
  | ((with_reducible show wpAny _ _ (call (Value.builtin "min") [Value.int _ _, Value.int _ _]) _ _ _); (with_reducible refine i_min (by assumption) (Room.handled (by assumption)) ?_); intro _ _ _)
  | ((with_reducible show wpAny _ _ (binaryOp Operator.FloorDiv (Value.int _ _) (Value.int _ _)) _ _ _); (with_reducible refine i_fdiv (by assumption) (by walk_at "om") (PyProof.noPylong_small (by walk_at "om")) ?_); intro _ _ _)
  | fail "no step")
local macro_rules | `(tactic| walk_at "mx") => `(tactic| first
  | ((with_reducible show wpAny _ _ (exec (Stmt.Assign [Expr.Attribute _ _ _] _ _) _) _ _ _); (refine plainObj_wpAny_Assign_Attribute ?_))
  | ((with_reducible show wpAny _ _ (exec (Stmt.Assign [Expr.Tuple _ _ _] _ _) _) _ _ _); first | (refine PyProof.Rows.Assign_Tuple_swapped ?_) | (refine PyProof.Rows.Assign_Tuple ?_))
  | fail "no step")
local macro_rules | `(tactic| walk_at "mw") => `(tactic| first
  | ((with_reducible show wpAny _ _ (unpackItems (Value.ref _) _ none) _ _ _); refine unpack_st (by assumption) (Room.handled (by assumption)) (by walk_at "at") (by rfl) ?_; intro _ _)
  | ((with_reducible show wpAny _ _ (assignInOrder _ _) _ _ _); first | (refine PyProof.Rows.assignInOrder_nil ?_) | (refine PyProof.Rows.assignInOrder_cons ?_))
  | ((with_reducible show wpAny _ _ (bindName _ _ _) _ _ _); (refine PyProof.Rows.bindName_ ?_))
  | ((with_reducible show wpAny _ _ (binaryOp Operator.BitXor (Value.int _ _) (Value.int _ _)) _ _ _); (with_reducible refine i_xor (by assumption) ?_); intro _ _ _)
  | ((with_reducible show wpAny _ _ (binaryOp Operator.Mult (Value.int _ _) (Value.int _ _)) _ _ _); (first | with_reducible refine i_mul (by assumption) (by first | exact IntMulOk.of_left (intBits_le_64 (by walk_at "om") (by walk_at "om")) | exact IntMulOk.of_right (intBits_le_64 (by walk_at "om") (by walk_at "om"))) ?_ | refine i_mul (by assumption) (by first | exact IntMulOk.of_left (intBits_le_64 (by walk_at "om") (by walk_at "om")) | exact IntMulOk.of_right (intBits_le_64 (by walk_at "om") (by walk_at "om"))) ?_); intro _ _ _)
  | fail "no step")
local macro_rules | `(tactic| walk_at "mw") => `(tactic| first
  | ((with_reducible show wpAny _ _ (subscriptTail _ _ (Value.ref _) (Value.int 0 _)) _ _ _); refine sub_list (by walk_at "at") (by walk_at "om") (by walk_at "om") (by rfl) ?_)
  | ((with_reducible show wpAny _ _ (subscriptTail _ _ (Value.ref _) (Value.int 1 _)) _ _ _); refine sub_list (by walk_at "at") (by walk_at "om") (by walk_at "om") (by rfl) ?_)
  | ((with_reducible show wpAny _ _ (subscriptTail _ _ (Value.ref _) (Value.int 2 _)) _ _ _); refine sub_list (by walk_at "at") (by walk_at "om") (by walk_at "om") (by rfl) ?_)
  | ((with_reducible show wpAny _ _ (binaryOp Operator.Mod (Value.int _ _) (Value.int _ _)) _ _ _); (with_reducible refine i_mod (by assumption) (by walk_at "om") ?_); intro _ _ _)
  | fail "no step")

section
variable {B : Mem} {s : Shared} {prog : Program} {w : World} {A : Around} {E : Value → Shared → Prop} {T : Heap} {mg mb : Str → Option Value} {Q : Value → Shared → Prop} {g ln li lo lt : Addr} {ns : List Value} {G : Gr}

theorem is_and_call {i : Int} {t : Tok} (tf : TF w T mg mb) (hT : Sub T.get? B) (hB : Sub B s.heap.get?) (hA : Room A 2)
    (hg : AigHd B g ln li lo lt) (hl : At B ln (IsLs ns)) (hN : NodesAre B ns G) (h0 : 0 ≤ i) (h1 : i < G.length) (hlen : G.length ≤ 1000)
    (hQ : ∀ s', Grow [] B s B s' → Q (.bool (isAnd G i)) s') : wpAny (model prog w) A (call (.ref 82) [.ref g, .int i t]) Q E s := by
  have ho := tf.K 82 _ rfl
  have hf := hT.trans hB
  refine call_stM (M' := []) (binds := [("self", .ref g), ("node", .int i t)]) (Y := []) (BB := B) hA (hf _ _ ho) (tf.lim.keeps hf) ((codeRec_of tf.K (by kernel_rfl)).keeps hf) hB (fun _ h => nomatch h) .nil (fun _ h => nomatch h) rfl (locs rfl) ?_
  clear ho
  intro s₁ L A' hA' S
  walk_at "ms"
  rename_i S2
  have hi : i.toNat < ns.length := by have := hN.1; omega
  have hv := List.getElem?_eq_getElem hi
  refine sub_list (S2.atB hl) h0 (by walk_at "om") hv ?_
  walk_at "ms"
  have hn := hN.2 _ _ _ hv (List.getElem?_eq_getElem (by omega : i.toNat < G.length))
  cases hG : G[i.toNat]'(by walk_at "om") with
  | none =>
    rw [hG] at hn
    have hn : _ = _ := hn
    rw [hn]
    have e : isAnd G i = false := by unfold isAnd; rw [List.getElem?_eq_getElem (by omega : i.toNat < G.length), hG]; rfl
    rw [e] at hQ
    exact hQ _ S2.toGrow
  | some p =>
    obtain ⟨l, r⟩ := p
    rw [hG] at hn
    obtain ⟨b, us, e1, _, _⟩ : CutAt B _ _ := hn
    rw [e1]
    have e : isAnd G i = true := by unfold isAnd; rw [List.getElem?_eq_getElem (by omega : i.toNat < G.length), hG]; rfl
    rw [e] at hQ
    exact hQ _ S2.toGrow

/-- one more at one place -/
def Within (c : List Int) (lo hi : Int) : Prop := ∀ x ∈ c, lo ≤ x ∧ x ≤ hi
theorem Within.bump {c : List Int} {hi k : Int} (h : Within c 0 hi) (k0 : 0 ≤ k) (k1 : k < c.length) : Within (c.set k.toNat (at' c k + 1)) 0 (hi + 1) := fun x hx => by
  rcases List.mem_or_eq_of_mem_set hx with hx | rfl
  · have := h x hx; omega
  · have hk : k.toNat < c.length := by omega
    have : at' c k = c[k.toNat] := by simp [at', List.getD, hk]
    have := h c[k.toNat] (List.getElem_mem _)
    omega

theorem uses_call {os : List Value} {out : List Int} (tf : TF w T mg mb) (hT : Sub T.get? B) (hB : Sub B s.heap.get?) (hA : Room A 2)
    (hg : AigHd B g ln li lo lt) (hl : At B ln (IsLs ns)) (hN : NodesAre B ns G) (ho' : At B lo (IsLs os)) (hO : Ints os out) (hlen : G.length ≤ 100) (hlenO : out.length ≤ 100)
    (hgood : ∀ l r, some (l, r) ∈ G → 0 ≤ l ∧ l / 2 < G.length ∧ 0 ≤ r ∧ r / 2 < G.length) (hout : ∀ l ∈ out, 0 ≤ l ∧ l / 2 < G.length)
    (hQ : ∀ a cs c B' s', Grow [] B s B' s' → At B' a (IsLs cs) → Ints cs c → c.length = G.length → Within c 0 1000 → Q (.ref a) s') : wpAny (model prog w) A (call (.ref 131) [.ref g]) Q E s := by
  have ho := tf.K 131 _ rfl
  have hf := hT.trans hB
  refine call_stM (M' := []) (binds := [("self", .ref g)]) (Y := []) (BB := B) hA (hf _ _ ho) (tf.lim.keeps hf) ((codeRec_of tf.K (by kernel_rfl)).keeps hf) hB (fun _ h => nomatch h) .nil (fun _ h => nomatch h) rfl (locs rfl) ?_
  clear ho
  intro s₁ L A' hA' S
  have hnl := hN.1
  walk_at "ms"
  rename_i k _ _ _ _ s5 S5
  refine for_list hA'.handled S5 (S5.atB hl) (fun i B' m X => B' = B ∧ m "self" = some (.ref g) ∧ m "counts" = some (.ref k) ∧ ∃ cs c, X = [(k, IsLs cs)] ∧ Ints cs c ∧ c.length = G.length ∧ Within c 0 (2 * i)) ?_ ?_ ?_ ?_
  · refine ⟨rfl, by walk_at "lk", by walk_at "lk", _, List.replicate ns.length 0, by rw [Int.toNat_natCast], .replicate _ ⟨_, rfl⟩, by rw [List.length_replicate, hnl], fun x hx => ?_⟩
    rw [List.eq_of_mem_replicate hx]; omega
  · rintro i B' m' X' s' ⟨rfl, _⟩ hs S'
    exact S'.atB hl
  · rintro I i v B' m' X' s' hx ⟨rfl, hsf, hco, cs, c, rfl, hc, hcl, hw⟩ hs S'
    have hil : i < ns.length := (List.getElem?_eq_some_iff.mp hx).1
    obtain ⟨n, hn, hnd⟩ := hN.get hx
    cases n with
    | none =>
      have hv : v = .none := hnd
      subst hv
      walk_at "ms"
      · contradiction
      · exact TurnP.next .rfl ⟨rfl, by walk_at "lk", by walk_at "lk", cs, c, rfl, hc, hcl, fun x hx => by have := hw x hx; omega⟩ S'
    | some p =>
      obtain ⟨l, r⟩ := p
      obtain ⟨q, us, rfl, hq, hj⟩ : CutAt B' v [l, r] := hnd
      have hgd := hgood l r (List.mem_of_getElem? hn)
      have hul : us.length = 2 := hj.1
      walk_at "ms"
      · refine for_tuple hA'.handled S' (S'.atB hq) (fun j B2 m X => B2 = B' ∧ m "self" = some (.ref g) ∧ m "counts" = some (.ref k) ∧ ∃ cs c, X = [(I, ItL ln (i + 1)), (k, IsLs cs)] ∧ Ints cs c ∧ c.length = G.length ∧ Within c 0 (2 * i + j)) ?_ ?_ ?_ ?_
        · exact ⟨rfl, by walk_at "lk", by walk_at "lk", cs, c, rfl, hc, hcl, fun x hx => by have := hw x hx; omega⟩
        · rintro j B2 m2 X2 s2 ⟨rfl, _⟩ hs2 S2
          exact S2.atB hq
        · rintro I2 j v B2 m2 X2 s2 hv ⟨rfl, hsf, hco, cs, c, rfl, hc, hcl, hw⟩ hs2 S2
          obtain ⟨n, hn, t', rfl⟩ := hj.get hv
          have hnn : 0 ≤ n ∧ n / 2 < G.length := by
            have := List.mem_of_getElem? hn
            simp only [List.mem_cons, List.not_mem_nil, or_false] at this
            rcases this with rfl | rfl
            · exact ⟨hgd.1, hgd.2.1⟩
            · exact hgd.2.2
          have hcs : cs.length = c.length := hc.1
          walk_at "ms"
          rename_i S3
          have hw2 := hw.bump (k := n / 2) (by walk_at "om") (by walk_at "om")
          rw [Int.add_assoc] at hw2
          exact TurnP.next .rfl ⟨rfl, by walk_at "lk", by walk_at "lk", _, c.set (n / 2).toNat (at' c (n / 2) + 1), rfl, hc.set ⟨_, rfl⟩, by rw [List.length_set, hcl], hw2⟩ S3
        · rintro B2 m2 X2 s2 ⟨rfl, hsf, hco, cs, c, rfl, hc, hcl, hw⟩ hs2 S2
          walk_at "ms"
          exact TurnP.next .rfl ⟨rfl, by walk_at "lk", by walk_at "lk", cs, c, rfl, hc, hcl, fun x hx => by have := hw x hx; omega⟩ S2
      · contradiction
  · rintro B' m' X' s' ⟨rfl, hsf, hco, cs, c, rfl, hc, hcl, hw⟩ hs S'
    walk_at "ms"
    rename_i S6
    refine for_list hA'.handled S6 (S6.atB ho') (fun i B2 m X => B2 = B' ∧ m "counts" = some (.ref k) ∧ ∃ cs c, X = [(k, IsLs cs)] ∧ Ints cs c ∧ c.length = G.length ∧ Within c 0 (2 * ns.length + i)) ?_ ?_ ?_ ?_
    · exact ⟨rfl, by walk_at "lk", cs, c, rfl, hc, hcl, fun x hx => by have := hw x hx; omega⟩
    · rintro i B2 m2 X2 s2 ⟨rfl, _⟩ hs2 S2
      exact S2.atB ho'
    · rintro I2 j v B2 m2 X2 s2 hv ⟨rfl, hco, cs, c, rfl, hc, hcl, hw⟩ hs2 S2
      obtain ⟨n, hn, t', rfl⟩ := hO.get hv
      have hnn := hout n (List.mem_of_getElem? hn)
      have hcs : cs.length = c.length := hc.1
      walk_at "ms"
      rename_i S3
      have hw2 := hw.bump (k := n / 2) (by walk_at "om") (by walk_at "om")
      rw [Int.add_assoc] at hw2
      exact TurnP.next .rfl ⟨rfl, by walk_at "lk", _, c.set (n / 2).toNat (at' c (n / 2) + 1), rfl, hc.set ⟨_, rfl⟩, by rw [List.length_set, hcl], hw2⟩ S3
    · rintro B2 m2 X2 s2 ⟨rfl, hco, cs, c, rfl, hc, hcl, hw⟩ hs2 S2
      walk_at "ms"
      obtain ⟨B3, o, e1, e2, e3, S3⟩ := S2.freeze (by exact List.not_mem_nil)
      have hol : os.length = out.length := hO.1
      exact hQ _ _ _ _ _ S3.toGrow ⟨o, e1, e2⟩ hc hcl fun x hx => by have := hw x hx; omega
end

/- G3 -/

abbrev Cuts := List (List (List Int))
/-- what the rows of cuts are to the graph -/
structure GoodC (G : Gr) (R : Cuts) : Prop where
  len : R.length = G.length
  size : G.length ≤ 100
  rows : ∀ (i : Nat) row, R[i]? = some row → row.length ≤ 100 ∧ ∀ c ∈ row, c.length ≤ 100 ∧ ∀ x ∈ c, 0 ≤ x ∧ x < G.length
  below : ∀ (i : Nat) row, R[i]? = some row → ∀ c ∈ row, c ≠ [(i : Int)] → ∀ x ∈ c, x < i
  some' : ∀ (i : Nat) row, R[i]? = some row → isAnd G i = true → ∃ c ∈ row, c ≠ [(i : Int)]
  nodes : ∀ l r, some (l, r) ∈ G → 0 ≤ l ∧ l / 2 < G.length ∧ 0 ≤ r ∧ r / 2 < G.length
abbrev RowsAt (B : Mem) (us : List Value) (R : Cuts) : Prop := All2 (RowAt B) us R
structure CoverOk (G : Gr) (R : Cuts) (dp : List Int) : Prop where
  len : dp.length = G.length
  pos : ∀ x ∈ dp, 0 ≤ x
  fit : ∀ (i : Nat) row, R[i]? = some row → isAnd G i = true → ∃ c ∈ row, c ≠ [(i : Int)] ∧ lvl dp c ≤ at' dp i

theorem at_set_ne {dp : List Int} {i : Nat} {v x : Int} (h0 : 0 ≤ x) (h : x < i) : at' (dp.set i v) x = at' dp x := by
  unfold at'
  rw [List.getD_eq_getElem?_getD, List.getElem?_set_ne (by walk_at "om"), ← List.getD_eq_getElem?_getD]
theorem at_set_self {dp : List Int} {i : Nat} {v : Int} (h : i < dp.length) : at' (dp.set i v) i = v := by
  unfold at'
  rw [List.getD_eq_getElem?_getD, Int.toNat_natCast, List.getElem?_set_self h]; rfl
theorem lvl_congr {dp dp' : List Int} {c : List Int} (h : ∀ x ∈ c, at' dp x = at' dp' x) : lvl dp c = lvl dp' c := by
  cases c with
  | nil => rfl
  | cons x r =>
    have g : ∀ (r : List Int) (z : Int), (∀ x ∈ r, at' dp x = at' dp' x) → r.foldl (fun a y => max a (at' dp y)) z = r.foldl (fun a y => max a (at' dp' y)) z := by
      intro r
      induction r with
      | nil => intro z _; rfl
      | cons y r ih => intro z h; rw [List.foldl_cons, List.foldl_cons, h y (.head _)]; exact ih _ fun x hx => h x (.tail _ hx)
    show 1 + _ = 1 + _
    rw [h x (.head _), g r _ fun x hx => h x (.tail _ hx)]

structure CovI (G : Gr) (R : Cuts) (dp : List Int) (i : Nat) : Prop where
  len : dp.length = G.length
  pos : ∀ x ∈ dp, 0 ≤ x
  fit : ∀ (j : Nat) row, j < i → R[j]? = some row → isAnd G j = true → ∃ c ∈ row, c ≠ [(j : Int)] ∧ lvl dp c ≤ at' dp j
theorem covI_zero (G : Gr) (R : Cuts) : CovI G R (List.replicate G.length 0) 0 := ⟨by simp, fun x hx => by rw [List.eq_of_mem_replicate hx]; omega, fun j row h => absurd h (Nat.not_lt_zero _)⟩
theorem CovI.step {G : Gr} {R : Cuts} {dp : List Int} {i : Nat} (h : CovI G R dp i) (hn : isAnd G i = false) : CovI G R dp (i + 1) :=
  ⟨h.len, h.pos, fun j row hj hr ha => by
    by_cases e : j = i
    · subst e; rw [hn] at ha; cases ha
    · exact h.fit j row (by walk_at "om") hr ha⟩
theorem ints_one {n : Int} {t : Tok} : Ints [.int n t] [n] := ⟨rfl, fun i x y hx hy => by
  match i, hx, hy with
  | 0, hx, hy => cases hx; cases hy; exact ⟨_, rfl⟩⟩
theorem at_nonneg {dp : List Int} (h : ∀ x ∈ dp, 0 ≤ x) (y : Int) : 0 ≤ at' dp y := by
  unfold at'
  rw [List.getD_eq_getElem?_getD]
  cases q : dp[y.toNat]? with
  | none => simp
  | some v => exact h v (List.mem_of_getElem? q)
theorem lvl_nonneg {dp c : List Int} (h : ∀ x ∈ dp, 0 ≤ x) : 0 ≤ lvl dp c := by
  cases c with
  | nil => exact Int.le_refl _
  | cons x r =>
    have := (foldl_max (at' dp) r (at' dp x)).2 (at' dp x) (.head _)
    have h2 := at_nonneg h x
    show 0 ≤ 1 + _
    omega
theorem CovI.put {G : Gr} {R : Cuts} {dp c : List Int} {row : List (List Int)} {i : Nat} (h : CovI G R dp i) (hi : i < G.length) (hC : GoodC G R) (hr : R[i]? = some row) (hm : c ∈ row) (hn : c ≠ [(i : Int)]) :
    CovI G R (dp.set (i : Int).toNat (lvl dp c)) (i + 1) := by
  rw [Int.toNat_natCast]
  refine ⟨by rw [List.length_set, h.len], fun x hx => ?_, fun j row' hj hr' ha => ?_⟩
  · rcases List.mem_or_eq_of_mem_set hx with hx | rfl
    · exact h.pos x hx
    · exact lvl_nonneg h.pos
  · by_cases e : j = i
    · subst e
      rw [hr] at hr'; cases hr'
      refine ⟨c, hm, hn, ?_⟩
      rw [at_set_self (by rw [h.len]; exact hi), lvl_congr (dp' := dp) fun x hx => at_set_ne (((hC.rows j row hr).2 c hm).2 x hx).1 (hC.below j row hr c hm hn x hx)]
      exact Int.le_refl _
    · obtain ⟨c', h1, h2, h3⟩ := h.fit j row' (by walk_at "om") hr' ha
      refine ⟨c', h1, h2, ?_⟩
      rw [at_set_ne (by walk_at "om") (by walk_at "om"), lvl_congr (dp' := dp) fun x hx => at_set_ne (((hC.rows j row' hr').2 c' h1).2 x hx).1 (by have := hC.below j row' hr' c' h1 h2 x hx; omega)]
      exact h3
def CovJ (B : Mem) (G : Gr) (R : Cuts) (g rl ka : Addr) (i : Nat) : Inv := fun B' m X =>
  ∃ kch kd kf, m "aig" = some (.ref g) ∧ m "cuts" = some (.ref rl) ∧ m "counts" = some (.ref ka) ∧ m "chosen" = some (.ref kch) ∧ m "depth" = some (.ref kd) ∧ m "flow" = some (.ref kf) ∧
    ∃ chv dv fv dp fl, X = [(kf, IsLs fv), (kd, IsLs dv), (kch, IsLs chv)] ∧ chv.length = G.length ∧ Ints dv dp ∧ Ints fv fl ∧ fl.length = G.length ∧ CovI G R dp i ∧ Sub B B'

section
variable {B : Mem} {s : Shared} {prog : Program} {w : World} {A : Around} {E : Value → Shared → Prop} {T : Heap} {mg mb : Str → Option Value} {Q : Value → Shared → Prop} {g ln li lo lt : Addr} {ns : List Value} {G : Gr} {R : Cuts}

theorem cover_call {os us : List Value} {out : List Int} {rl : Addr} (tf : TF w T mg mb) (hT : Sub T.get? B) (hB : Sub B s.heap.get?) (hA : Room A 5)
    (hg : AigHd B g ln li lo lt) (hl : At B ln (IsLs ns)) (hN : NodesAre B ns G) (ho' : At B lo (IsLs os)) (hO : Ints os out) (hlenO : out.length ≤ 100) (hout : ∀ l ∈ out, 0 ≤ l ∧ l / 2 < G.length)
    (hr : At B rl (IsLs us)) (hR : RowsAt B us R) (hC : GoodC G R)
    (hQ : ∀ a ch d f dv fv dp fl B' s', Grow [] B s B' s' → At B' a (IsTp [ch, .ref d, .ref f]) → At B' d (IsLs dv) → At B' f (IsLs fv) → Ints dv dp → Ints fv fl → CoverOk G R dp → fl.length = G.length → Q (.ref a) s') :
    wpAny (model prog w) A (call (.ref 40) [.ref g, .ref rl]) Q E s := by
  have ho := tf.K 40 _ rfl
  have hf := hT.trans hB
  refine call_st (M' := []) (binds := [("aig", .ref g), ("cuts", .ref rl)]) (Y := []) (BB := B) hA (hf _ _ ho) (tf.lim.keeps hf) ((codeRec_of tf.K (by kernel_rfl)).keeps hf) hB (fun _ h => nomatch h) .nil (fun _ h => nomatch h) rfl (locs rfl) ?_
  clear ho
  intro s₁ L A' hA' S
  have hnl := hN.1
  have hsz := hC.size
  walk_at "ms"
  refine uses_call tf hT S.sub (hA'.mono (by walk_at "om")) hg hl hN ho' hO (by walk_at "om") hlenO hC.nodes hout fun ka kv kc B2 s2 G2 hk hkv hkl hkw => ?_
  have S2 := S.call G2
  walk_at "ms"
  rename_i r _ _ _ _ hrg S3
  clear S2
  refine for_range hA'.handled S3 hrg (n := G.length) (by rw [rangeSize_up _ _ (by walk_at "om")]; omega) (small_up _ _ (by walk_at "om") (by walk_at "om") (by walk_at "om")) (CovJ B G R g rl ka) ?_ ?_ ?_
  · exact ⟨_, _, _, by walk_at "lk", by walk_at "lk", by walk_at "lk", by walk_at "lk", by walk_at "lk", by walk_at "lk", _, _, _, List.replicate G.length 0, List.replicate G.length 0, rfl,
      by simp [hnl], by rw [← hnl]; exact .replicate _ ⟨_, rfl⟩, by rw [← hnl]; exact .replicate _ ⟨_, rfl⟩, by simp, covI_zero G R, G2.sub0⟩
  · rintro I i ti B' m' X' s' hi ⟨kch, kd, kf, m1, m2, m3, m4, m5, m6, chv, dv, fv, dp, fl, rfl, hch, hdp, hfl, hfn, hI, hB0⟩ hs S'
    rw [show (0 : Int) + (i : Int) * 1 = i by omega] at S'
    walk_at "ms"
    refine is_and_call tf (hT.trans hB0) S'.sub (hA'.mono (by walk_at "om")) (hg.mono hB0) (hl.mono hB0) (hN.mono fun _ _ h => h.mono hB0) (by walk_at "om") (by walk_at "om") (by walk_at "om") fun s4 G4 => ?_
    have S4 := S'.call G4
    walk_at "ms"
    · rename_i hnot
      exact TurnP.cont .rfl ⟨kch, kd, kf, by walk_at "lk", by walk_at "lk", by walk_at "lk", by walk_at "lk", by walk_at "lk", by walk_at "lk", chv, dv, fv, dp, fl, rfl, hch, hdp, hfl, hfn, hI.step hnot, hB0⟩ S4
    · rename_i hand s5 S5
      have hiR : i < R.length := by rw [hC.len]; exact hi
      have hrow := List.getElem?_eq_getElem hiR
      generalize R[i] = row at hrow
      obtain ⟨rv, hrv, ra, cus, rfl, hra, hcs⟩ := hR.get' hrow
      obtain ⟨hrl, hrc⟩ := hC.rows i row hrow
      have hbel := hC.below i row hrow
      have hdl : dv.length = dp.length := hdp.1
      have hfl' : fv.length = fl.length := hfl.1
      have hul : us.length = R.length := hR.1
      have hdpl := hI.len
      refine sub_list (S5.at0 hr) (by walk_at "om") (by walk_at "om") (by rw [Int.toNat_natCast]; exact hrv) ?_
      refine for_list hA'.handled S5 (S5.at0 hra) (fun j B2 m X => m "aig" = some (.ref g) ∧ m "cuts" = some (.ref rl) ∧ m "counts" = some (.ref ka) ∧ m "chosen" = some (.ref kch) ∧ m "depth" = some (.ref kd) ∧ m "flow" = some (.ref kf) ∧ m "node" = some (.int i ti) ∧
        X = [(I, ItR 0 1 G.length (i + 1)), (kf, IsLs fv), (kd, IsLs dv), (kch, IsLs chv)] ∧ Sub B' B2 ∧
        ((m "best" = some .none ∧ ∀ c ∈ row.take j, c = [(i : Int)]) ∨ ∃ u c v, m "best" = some u ∧ (u == .none) = false ∧ RankAt B2 u (lvl dp c) (flw fl c) v ∧ c ∈ row ∧ c ≠ [(i : Int)])) ?_ ?_ ?_ ?_
      · exact ⟨by walk_at "lk", by walk_at "lk", by walk_at "lk", by walk_at "lk", by walk_at "lk", by walk_at "lk", by walk_at "lk", rfl, .rfl, .inl ⟨by walk_at "lk", by simp⟩⟩
      · rintro j B2 m2 X2 s2 _ hs2 S2
        exact S2.at0 hra
      · rintro I2 j v B3 m3 X3 s6 hv ⟨n1, n2, n3, n4, n5, n6, n7, rfl, hB3, hbest⟩ hs3 S6
        obtain ⟨c, hc, hcv⟩ := hcs.get hv
        have hcm := List.mem_of_getElem? hc
        obtain ⟨hcl, hcx⟩ := hrc c hcm
        have hB03 := hB0.trans hB3
        walk_at "ms"
        rename_i a7 B7 s7 S7 hB7 ha7
        have hcv7 : CutAt B7 v c := hcv.mono (hB03.trans hB7)
        refine eq_cut (hcv7.mono S7.sub) (d := [(i : Int)]) ⟨_, _, rfl, S7.atB ha7, ints_one⟩ (by have := hA'.units; omega) ?_
        walk_at "ms"
        · rename_i heq
          refine TurnP.cont hB7 ⟨by walk_at "lk", by walk_at "lk", by walk_at "lk", by walk_at "lk", by walk_at "lk", by walk_at "lk", by walk_at "lk", rfl, hB3.trans hB7, ?_⟩ S7
          rcases hbest with ⟨hb, hall⟩ | ⟨u, c', v', h1, h2, h3, h4⟩
          · exact .inl ⟨by walk_at "lk", fun c' hc' => by
              rw [List.take_add_one, hc] at hc'
              rcases List.mem_append.mp hc' with h | h
              · exact hall _ h
              · simp at h; rw [h]; exact heq⟩
          · exact .inr ⟨u, c', v', by walk_at "lk", h2, h3.mono hB7, h4⟩
        · rename_i hne
          have hcx' : ∀ x ∈ c, 0 ≤ x ∧ x < dp.length := fun x hx => by rw [hI.len]; exact hcx x hx
          have hcx2 : ∀ x ∈ c, 0 ≤ x ∧ x < fl.length := fun x hx => by rw [hfn]; exact hcx x hx
          have hT7 : Sub T.get? B7 := (hT.trans hB03).trans hB7
          refine cut_depth_call tf hT7 S7.sub (hA'.mono (by walk_at "om")) (S7.at (by walk_at "led")) hdp hcv7 hcx' (by walk_at "om") (by walk_at "om") fun t8 s8 G8 => ?_
          have S8 := S7.call G8
          walk_at "ms"
          refine cut_flow_call tf hT7 S8.sub (hA'.mono (by walk_at "om")) (S8.at (by walk_at "led")) hfl hcv7 hcx2 (by walk_at "om") fun t9 s9 G9 => ?_
          have S9 := S8.call G9
          have hcv0 := hcv
          obtain ⟨cb, cbs, rfl, hcb, hcj⟩ := hcv
          have hcbl : cbs.length = c.length := hcj.1
          walk_at "ms"
          rename_i a9 B9 s10 S10 hB9 ha9 s11 S11
          have hrank : RankAt B9 (.ref a9) (lvl dp c) (flw fl c) (.ref cb) := ⟨a9, _, _, _, _, c, rfl, ha9, hcv7.mono hB9⟩
          have hB39 := (hB3.trans hB7).trans hB9
          rcases hbest with ⟨hb, hall⟩ | ⟨u, c', v', h1, h2, h3, h4⟩
          · walk_at "ms"
            · rename_i S12
              refine TurnP.next (hB7.trans hB9) ⟨by walk_at "lk", by walk_at "lk", by walk_at "lk", by walk_at "lk", by walk_at "lk", by walk_at "lk", by walk_at "lk", rfl, hB39, .inr ⟨_, c, _, by walk_at "lk", rfl, hrank, hcm, hne⟩⟩ S12
            · contradiction
          · walk_at "ms"
            · rename_i q _ _
              rw [h2] at q; cases q
            · refine lt_ref (lt_rank (hrank.mono S11.sub) ((h3.mono (hB7.trans hB9)).mono S11.sub) (by have := hA'.units; omega)) fun r _ => ?_
              walk_at "ms"
              · rename_i S12
                refine TurnP.next (hB7.trans hB9) ⟨by walk_at "lk", by walk_at "lk", by walk_at "lk", by walk_at "lk", by walk_at "lk", by walk_at "lk", by walk_at "lk", rfl, hB39, .inr ⟨_, c, _, by walk_at "lk", rfl, hrank, hcm, hne⟩⟩ S12
              · refine TurnP.next (hB7.trans hB9) ⟨by walk_at "lk", by walk_at "lk", by walk_at "lk", by walk_at "lk", by walk_at "lk", by walk_at "lk", by walk_at "lk", rfl, hB39, .inr ⟨u, c', v', by walk_at "lk", h2, h3.mono (hB7.trans hB9), h4⟩⟩ S11
      · rintro B3 m3 X3 s6 ⟨n1, n2, n3, n4, n5, n6, n7, rfl, hB3, hbest⟩ hs3 S6
        have hbest : ∃ u c v, m3 "best" = some u ∧ (u == .none) = false ∧ RankAt B3 u (lvl dp c) (flw fl c) v ∧ c ∈ row ∧ c ≠ [(i : Int)] := by
          rcases hbest with ⟨_, hall⟩ | h
          · obtain ⟨c, h1, h2⟩ := hC.some' i row hrow hand
            rw [hcs.1, List.take_length] at hall
            exact absurd (hall c h1) h2
          · exact h
        obtain ⟨u, c, v, hb, _, ⟨x, t1, t2, t3, nn, cc, rfl, hx, hcc⟩, hcm, hne⟩ := hbest
        have hk3 : At B3 ka (IsLs kv) := hk.mono (hs.trans hB3)
        have hkvl : kv.length = kc.length := hkv.1
        have hw : at' kc i ≤ 1000 := by
          have hik : i < kc.length := by omega
          have : at' kc i = kc[i] := by simp [at', List.getD, hik]
          rw [this]; exact (hkw _ (List.getElem_mem _)).2
        walk_at "ms"
        rename_i S9
        exact TurnP.next hB3 ⟨kch, kd, kf, by walk_at "lk", by walk_at "lk", by walk_at "lk", by walk_at "lk", by walk_at "lk", by walk_at "lk", _, _, _, dp.set (i : Int).toNat (lvl dp c), fl.set (i : Int).toNat _, rfl,
          by rw [List.length_set, hch], hdp.set ⟨_, rfl⟩, hfl.set ⟨_, rfl⟩, by rw [List.length_set, hfn], hI.put hi hC hrow hcm hne, hB0.trans hB3⟩ S9
  · rintro B' m' X' s' ⟨kch, kd, kf, m1, m2, m3, m4, m5, m6, chv, dv, fv, dp, fl, rfl, hch, hdp, hfl, hfn, hI, hB0⟩ hs S'
    walk_at "ms"
    rename_i S8 hB8 ht
    obtain ⟨B9, o9, e1, e2, e3, S9⟩ := S8.freeze (by exact List.not_mem_nil)
    obtain ⟨B10, o10, e4, e5, e6, S10⟩ := S9.freeze (by exact List.not_mem_nil)
    exact hQ _ _ _ _ _ _ _ _ _ _ S10.toGrow (ht.mono (e3.trans e6)) ⟨o10, e4, e5⟩ ⟨o9, e6 _ _ e1, e2⟩ hdp hfl ⟨hI.len, hI.pos, fun j row h1 => hI.fit j row (by have := (List.getElem?_eq_some_iff.mp h1).1; have := hC.len; omega) h1⟩ hfn
end

/- H0 -/

abbrev Ch := List (Option (List Int))
def topOf (dp out : List Int) : Int := out.foldl (fun a l => max a (at' dp (l / 2))) 0
def room0 (n : Nat) (top : Int) (out : List Int) : List Int := out.foldl (fun r l => r.set (l / 2).toNat top) (List.replicate n (-1))
def relax (K : Int) (r : List Int) (x : Int) : List Int := if at' r x < 0 ∨ K < at' r x then r.set x.toNat K else r
def relaxAll (K : Int) (r c : List Int) : List Int := c.foldl (relax K) r
def stepR (ch : Ch) (r : List Int) (i : Nat) : List Int := match (ch[i]?).join with
  | none => r
  | some c => relaxAll (at' r i - 1) r c
def roomAt (ch : Ch) (r0 : List Int) (n : Nat) : Nat → List Int
  | 0 => r0
  | k + 1 => stepR ch (roomAt ch r0 n k) (n - 1 - k)

theorem fold_next {α β : Type} (f : β → α → β) (z : β) {l : List α} {i : Nat} {x : α} (h : l[i]? = some x) : (l.take (i + 1)).foldl f z = f ((l.take i).foldl f z) x := by
  rw [List.take_add_one, h]; simp
theorem relax_len (K : Int) (r : List Int) (x : Int) : (relax K r x).length = r.length := by unfold relax; split <;> simp
theorem relaxAll_len (K : Int) : ∀ (c r : List Int), (relaxAll K r c).length = r.length
  | [], _ => rfl
  | x :: c, r => by show (relaxAll K (relax K r x) c).length = _; rw [relaxAll_len K c, relax_len]
theorem at_set {r : List Int} {y x : Int} {K : Int} (hy : 0 ≤ y) (hl : y < r.length) (hx : 0 ≤ x) : at' (r.set y.toNat K) x = if x = y then K else at' r x := by
  unfold at'
  rw [List.getD_eq_getElem?_getD, List.getElem?_set]
  by_cases e : x = y
  · subst e; rw [if_pos rfl, if_pos rfl, if_pos (by omega)]; rfl
  · rw [if_neg (by omega), if_neg e, ← List.getD_eq_getElem?_getD]
theorem at_relax {K : Int} {r : List Int} {x y : Int} (hx : 0 ≤ x) (hl : x < r.length) (hy : 0 ≤ y) : at' (relax K r x) y = if y = x ∧ (at' r x < 0 ∨ K < at' r x) then K else at' r y := by
  unfold relax
  split
  · rename_i h
    rw [at_set hx hl hy]
    by_cases e : y = x
    · rw [if_pos e, if_pos ⟨e, h⟩]
    · rw [if_neg e, if_neg (fun q => e q.1)]
  · rename_i h
    rw [if_neg (fun q => h q.2)]
theorem at_relaxAll_off {K : Int} {y : Int} (hy : 0 ≤ y) : ∀ (c r : List Int), (∀ x ∈ c, 0 ≤ x ∧ x < r.length ∧ x ≠ y) → at' (relaxAll K r c) y = at' r y
  | [], r, _ => rfl
  | x :: c, r, h => by
    obtain ⟨h1, h2, h3⟩ := h x (.head _)
    show at' (relaxAll K (relax K r x) c) y = _
    rw [at_relaxAll_off hy c _ fun z hz => by rw [relax_len]; exact h z (.tail _ hz), at_relax h1 h2 hy, if_neg (fun q => h3 q.1.symm)]
theorem room0_len (n : Nat) (top : Int) (out : List Int) : (room0 n top out).length = n := by
  have g : ∀ (out : List Int) (r : List Int), (out.foldl (fun r l => r.set (l / 2).toNat top) r).length = r.length := by
    intro out
    induction out with
    | nil => intro r; rfl
    | cons x o ih => intro r; rw [List.foldl_cons, ih]; simp
  unfold room0
  rw [g]; simp
theorem stepR_len (ch : Ch) (r : List Int) (i : Nat) : (stepR ch r i).length = r.length := by
  unfold stepR
  split
  · rfl
  · exact relaxAll_len _ _ _
theorem roomAt_len (ch : Ch) (r0 : List Int) (n : Nat) : ∀ k, (roomAt ch r0 n k).length = r0.length
  | 0 => rfl
  | k + 1 => by show (stepR ch _ _).length = _; rw [stepR_len, roomAt_len ch r0 n k]
theorem roomAt_congr {ch ch' : Ch} {r0 : List Int} {n : Nat} : ∀ {k : Nat}, k ≤ n → (∀ j, n - k ≤ j → ch[j]? = ch'[j]?) → roomAt ch r0 n k = roomAt ch' r0 n k
  | 0, _, _ => rfl
  | k + 1, hk, h => by
    show stepR ch _ _ = stepR ch' _ _
    rw [roomAt_congr (k := k) (by omega) fun j hj => h j (by omega)]
    unfold stepR
    rw [h (n - 1 - k) (by omega)]

/-- a room is as great as the depth -/
def InvR (dp r : List Int) : Prop := ∀ x : Int, 0 ≤ x → x < r.length → at' r x < 0 ∨ at' dp x ≤ at' r x
theorem lvl_leaf {dp c : List Int} {x : Int} (h : x ∈ c) : 1 + at' dp x ≤ lvl dp c := by
  cases c with
  | nil => cases h
  | cons y r =>
    have := (foldl_max (at' dp) r (at' dp y)).2 (at' dp x) (by
      rcases List.mem_cons.mp h with e | e
      · rw [e]; exact .head _
      · exact .tail _ (List.mem_map_of_mem e))
    show 1 + _ ≤ 1 + _
    omega
theorem InvR.relax {dp r : List Int} {K x : Int} (h : InvR dp r) (hx : 0 ≤ x) (hl : x < r.length) (hK : at' dp x ≤ K) : InvR dp (Mine.relax K r x) := fun y hy hyl => by
  rw [relax_len] at hyl
  rw [at_relax hx hl hy]
  split
  · rename_i q; rw [q.1]; exact .inr hK
  · exact h y hy hyl
theorem InvR.relaxAll {dp : List Int} {K : Int} : ∀ {c r : List Int}, InvR dp r → (∀ x ∈ c, 0 ≤ x ∧ x < r.length ∧ at' dp x ≤ K) → InvR dp (relaxAll K r c)
  | [], _, h, _ => h
  | x :: c, r, h, hc => InvR.relaxAll (c := c) (h.relax (hc x (.head _)).1 (hc x (.head _)).2.1 (hc x (.head _)).2.2) fun y hy => by rw [relax_len]; exact hc y (.tail _ hy)
theorem topOf_max (dp out : List Int) : IsMaxOf (topOf dp out) (0 :: out.map fun l => at' dp (l / 2)) := foldl_max _ _ _
theorem room0_cases (n : Nat) (top : Int) (out : List Int) (hout : ∀ l ∈ out, 0 ≤ l ∧ l / 2 < n) {x : Int} (h0 : 0 ≤ x) (h1 : x < n) : at' (room0 n top out) x = if ∃ l ∈ out, l / 2 = x then top else -1 := by
  have g : ∀ (out : List Int) (r : List Int), r.length = n → (∀ l ∈ out, 0 ≤ l ∧ l / 2 < n) → at' (out.foldl (fun r l => r.set (l / 2).toNat top) r) x = if ∃ l ∈ out, l / 2 = x then top else at' r x := by
    intro out
    induction out with
    | nil => intro r _ _; simp
    | cons y o ih =>
      intro r hr ho
      have := ho y (.head _)
      rw [List.foldl_cons, ih _ (by simp [hr]) fun l hl => ho l (.tail _ hl), at_set (by omega) (by omega) h0]
      by_cases e : ∃ l ∈ o, l / 2 = x
      · rw [if_pos e, if_pos (by obtain ⟨l, a, b⟩ := e; exact ⟨l, .tail _ a, b⟩)]
      · rw [if_neg e]
        by_cases e2 : x = y / 2
        · rw [if_pos e2, if_pos ⟨y, .head _, e2.symm⟩]
        · rw [if_neg e2, if_neg]
          rintro ⟨l, hl, q⟩
          rcases List.mem_cons.mp hl with rfl | hl
          · exact e2 q.symm
          · exact e ⟨l, hl, q⟩
  have e := g out (List.replicate n (-1)) (by simp) hout
  unfold room0
  rw [e]
  have : at' (List.replicate n (-1)) x = -1 := by
    unfold at'
    rw [List.getD_eq_getElem?_getD, List.getElem?_replicate, if_pos (by omega)]; rfl
  rw [this]
theorem InvR.room0 {dp out : List Int} {n : Nat} (hout : ∀ l ∈ out, 0 ≤ l ∧ l / 2 < n) : InvR dp (room0 n (topOf dp out) out) := fun x h0 h1 => by
  rw [room0_len] at h1
  rw [room0_cases n _ out hout h0 h1]
  split
  · rename_i h
    obtain ⟨l, hl, e⟩ := h
    exact .inr ((topOf_max dp out).2 _ (.tail _ (List.mem_map.mpr ⟨l, hl, by rw [e]⟩)))
  · exact .inl (by omega)

/-- what the choice at one node is -/
structure Pick (R : Cuts) (dp fl : List Int) (i : Nat) (rm : Int) (c : List Int) (row : List (List Int)) : Prop where
  here : R[i]? = some row
  mem : c ∈ row
  ne : c ≠ [(i : Int)]
  fit : lvl dp c ≤ rm
  least : ∀ c' ∈ row, c' ≠ [(i : Int)] → lvl dp c' ≤ rm → flw fl c ≤ flw fl c'
structure RecOk (G : Gr) (R : Cuts) (dp fl out : List Int) (ch : Ch) (k : Nat) : Prop where
  len : ch.length = G.length
  none' : ∀ t, t < k → (at' (roomAt ch (room0 G.length (topOf dp out) out) G.length t) (G.length - 1 - t : Nat) < 0 ∨ isAnd G (G.length - 1 - t : Nat) = false) → ch[G.length - 1 - t]? = some none
  some' : ∀ t, t < k → 0 ≤ at' (roomAt ch (room0 G.length (topOf dp out) out) G.length t) (G.length - 1 - t : Nat) → isAnd G (G.length - 1 - t : Nat) = true →
    ∃ c row, ch[G.length - 1 - t]? = some (some c) ∧ Pick R dp fl (G.length - 1 - t) (at' (roomAt ch (room0 G.length (topOf dp out) out) G.length t) (G.length - 1 - t : Nat)) c row
  rest : ∀ j, j < G.length - k → ch[j]? = some none
  inv : InvR dp (roomAt ch (room0 G.length (topOf dp out) out) G.length k)

variable {G : Gr} {R : Cuts} {dp fl out : List Int} {ch : Ch} {k : Nat}
theorem RecOk.zero (hout : ∀ l ∈ out, 0 ≤ l ∧ l / 2 < G.length) : RecOk G R dp fl out (List.replicate G.length none) 0 :=
  ⟨by simp, fun t h => absurd h (Nat.not_lt_zero _), fun t h => absurd h (Nat.not_lt_zero _), fun j hj => by rw [List.getElem?_replicate, if_pos (by omega)], InvR.room0 hout⟩
theorem RecOk.skip (h : RecOk G R dp fl out ch k) (hk : k < G.length) (hs : at' (roomAt ch (room0 G.length (topOf dp out) out) G.length k) (G.length - 1 - k : Nat) < 0 ∨ isAnd G (G.length - 1 - k : Nat) = false) :
    RecOk G R dp fl out ch (k + 1) ∧ roomAt ch (room0 G.length (topOf dp out) out) G.length (k + 1) = roomAt ch (room0 G.length (topOf dp out) out) G.length k := by
  have e1 : ch[G.length - 1 - k]? = some none := h.rest _ (by omega)
  have e2 : roomAt ch (room0 G.length (topOf dp out) out) G.length (k + 1) = roomAt ch (room0 G.length (topOf dp out) out) G.length k := by
    show stepR ch _ _ = _
    unfold stepR
    rw [e1]; rfl
  refine ⟨⟨h.len, fun t ht q => ?_, fun t ht q ha => ?_, fun j hj => h.rest j (by omega), by rw [e2]; exact h.inv⟩, e2⟩
  · by_cases e : t = k
    · subst e; exact e1
    · exact h.none' t (by omega) q
  · by_cases e : t = k
    · subst e
      rcases hs with hs | hs
      · omega
      · rw [hs] at ha; cases ha
    · exact h.some' t (by omega) q ha
theorem RecOk.put (h : RecOk G R dp fl out ch k) (hC : GoodC G R) (hk : k < G.length) {c : List Int} {row : List (List Int)} {rm : Int} (hrm : at' (roomAt ch (room0 G.length (topOf dp out) out) G.length k) (G.length - 1 - k : Nat) = rm)
    (h0 : 0 ≤ rm) (ha : isAnd G (G.length - 1 - k : Nat) = true) (hp : Pick R dp fl (G.length - 1 - k) rm c row) :
    RecOk G R dp fl out (ch.set (G.length - 1 - k) (some c)) (k + 1) ∧ roomAt (ch.set (G.length - 1 - k) (some c)) (room0 G.length (topOf dp out) out) G.length (k + 1) = relaxAll (rm - 1) (roomAt ch (room0 G.length (topOf dp out) out) G.length k) c := by
  have hl := h.len
  have e1 : (ch.set (G.length - 1 - k) (some c))[G.length - 1 - k]? = some (some c) := by rw [List.getElem?_set_self (by omega)]
  have ne : ∀ j, j ≠ G.length - 1 - k → (ch.set (G.length - 1 - k) (some c))[j]? = ch[j]? := fun j hj => List.getElem?_set_ne (by omega)
  have ec : ∀ t, t ≤ k → roomAt (ch.set (G.length - 1 - k) (some c)) (room0 G.length (topOf dp out) out) G.length t = roomAt ch (room0 G.length (topOf dp out) out) G.length t := fun t ht =>
    roomAt_congr (by omega) fun j hj => ne j (by omega)
  have e2 : roomAt (ch.set (G.length - 1 - k) (some c)) (room0 G.length (topOf dp out) out) G.length (k + 1) = relaxAll (rm - 1) (roomAt ch (room0 G.length (topOf dp out) out) G.length k) c := by
    show stepR _ _ _ = _
    unfold stepR
    rw [e1, ec k (Nat.le_refl _)]
    show relaxAll (at' _ _ - 1) _ _ = _
    rw [hrm]
  refine ⟨⟨by rw [List.length_set, hl], fun t ht q => ?_, fun t ht q ha' => ?_, fun j hj => by rw [ne j (by omega)]; exact h.rest j (by omega), ?_⟩, e2⟩
  · by_cases e : t = k
    · subst e
      rw [ec _ (Nat.le_refl _), hrm] at q
      rcases q with q | q
      · omega
      · rw [ha] at q; cases q
    · rw [ec t (by omega)] at q
      rw [ne _ (by omega)]
      exact h.none' t (by omega) q
  · by_cases e : t = k
    · subst e
      refine ⟨c, row, e1, ?_⟩
      rw [ec _ (Nat.le_refl _), hrm]
      exact hp
    · rw [ec t (by omega)] at q ⊢
      rw [ne _ (by omega)]
      exact h.some' t (by omega) q ha'
  · rw [e2]
    refine h.inv.relaxAll fun x hx => ?_
    obtain ⟨x0, x1⟩ := ((hC.rows _ _ hp.here).2 c hp.mem).2 x hx
    refine ⟨x0, by rw [roomAt_len, room0_len]; exact x1, ?_⟩
    have := lvl_leaf (dp := dp) hx
    have := hp.fit
    omega
/-- a cut that fits -/
theorem RecOk.fits (h : RecOk G R dp fl out ch k) (hD : CoverOk G R dp) (hk : k < G.length) {row : List (List Int)} {rm : Int} (hrm : at' (roomAt ch (room0 G.length (topOf dp out) out) G.length k) (G.length - 1 - k : Nat) = rm)
    (h0 : 0 ≤ rm) (ha : isAnd G (G.length - 1 - k : Nat) = true) (hr : R[G.length - 1 - k]? = some row) : ∃ c ∈ row, c ≠ [((G.length - 1 - k : Nat) : Int)] ∧ lvl dp c ≤ rm := by
  obtain ⟨c, h1, h2, h3⟩ := hD.fit _ row hr ha
  refine ⟨c, h1, h2, ?_⟩
  have := h.inv (G.length - 1 - k : Nat) (by omega) (by rw [roomAt_len, room0_len]; omega)
  rw [hrm] at this
  omega

/- G4 -/

def ChAt (B : Mem) (v : Value) : Option (List Int) → Prop
  | none => v = .none
  | some c => CutAt B v c
theorem ChAt.mono {B C : Mem} {v : Value} (k : Sub B C) : ∀ {n : Option (List Int)}, ChAt B v n → ChAt C v n
  | none, h => h
  | some _, h => CutAt.mono h k
abbrev ChAre (B : Mem) (vs : List Value) (ch : Ch) : Prop := All2 (ChAt B) vs ch

def RecJ (G : Gr) (R : Cuts) (dp fl out : List Int) (g rl d f kc kr : Addr) (B2 : Mem) (k : Nat) : Inv := fun B3 m X =>
  m "aig" = some (.ref g) ∧ m "cuts" = some (.ref rl) ∧ m "depth" = some (.ref d) ∧ m "flow" = some (.ref f) ∧ m "chosen" = some (.ref kc) ∧ m "room" = some (.ref kr) ∧
    Sub B2 B3 ∧ ∃ rv chv ch, X = [(kr, IsLs rv), (kc, IsLs chv)] ∧ Ints rv (roomAt ch (room0 G.length (topOf dp out) out) G.length k) ∧ ChAre B3 chv ch ∧ RecOk G R dp fl out ch k
def RecK (dp fl : List Int) (g rl d f kc kr : Addr) (i k : Nat) (ti : Tok) (I : Addr) (rv chv : List Value) (nl gl : Nat) (row : List (List Int)) (rm : Int) (B3 : Mem) (j : Nat) : Inv := fun B4 m X =>
  m "aig" = some (.ref g) ∧ m "cuts" = some (.ref rl) ∧ m "depth" = some (.ref d) ∧ m "flow" = some (.ref f) ∧ m "chosen" = some (.ref kc) ∧ m "room" = some (.ref kr) ∧ m "node" = some (.int i ti) ∧
              X = [(I, ItR ((nl : Int) - 1) (-1) gl (k + 1)), (kr, IsLs rv), (kc, IsLs chv)] ∧ Sub B3 B4 ∧
              ((m "best" = some .none ∧ ∀ c ∈ row.take j, c ≠ [(i : Int)] → ¬ lvl dp c ≤ rm) ∨ ∃ u c v, m "best" = some u ∧ (u == .none) = false ∧ RankAt B4 u (flw fl c) (lvl dp c) v ∧ CutAt B4 v c ∧ c ∈ row ∧ c ≠ [(i : Int)] ∧ lvl dp c ≤ rm ∧
                ∀ c' ∈ row.take j, c' ≠ [(i : Int)] → lvl dp c' ≤ rm → flw fl c ≤ flw fl c')
section
variable {B : Mem} {s : Shared} {prog : Program} {w : World} {A : Around} {E : Value → Shared → Prop} {T : Heap} {mg mb : Str → Option Value} {Q : Value → Shared → Prop} {g ln li lo lt : Addr} {ns : List Value} {G : Gr} {R : Cuts}

theorem recovered_call {os us dv fv : List Value} {out dp fl : List Int} {rl d f : Addr} (tf : TF w T mg mb) (hT : Sub T.get? B) (hB : Sub B s.heap.get?) (hA : Room A 5)
    (hg : AigHd B g ln li lo lt) (hl : At B ln (IsLs ns)) (hN : NodesAre B ns G) (ho' : At B lo (IsLs os)) (hO : Ints os out) (hlenO : out.length ≤ 100) (hout : ∀ l ∈ out, 0 ≤ l ∧ l / 2 < G.length)
    (hr : At B rl (IsLs us)) (hR : RowsAt B us R) (hC : GoodC G R) (hd : At B d (IsLs dv)) (hdp : Ints dv dp) (hf' : At B f (IsLs fv)) (hfl : Ints fv fl) (hD : CoverOk G R dp) (hfn : fl.length = G.length)
    (hQ : ∀ a chv ch B' s', Grow [] B s B' s' → At B' a (IsLs chv) → ChAre B' chv ch → RecOk G R dp fl out ch G.length → Q (.ref a) s') :
    wpAny (model prog w) A (call (.ref 47) [.ref g, .ref rl, .ref d, .ref f]) Q E s := by
  have ho := tf.K 47 _ rfl
  have hf := hT.trans hB
  refine call_st (M' := []) (binds := [("aig", .ref g), ("cuts", .ref rl), ("depth", .ref d), ("flow", .ref f)]) (Y := []) (BB := B) hA (hf _ _ ho) (tf.lim.keeps hf) ((codeRec_of tf.K (by kernel_rfl)).keeps hf) hB (fun _ h => nomatch h) .nil (fun _ h => nomatch h) rfl (locs rfl) ?_
  clear ho
  intro s₁ L A' hA' S
  have hnl := hN.1
  have hsz := hC.size
  have hdl : dv.length = dp.length := hdp.1
  have hdn := hD.len
  walk_at "ms"
  rename_i s3 S3
  refine for_list hA'.handled S3 (S3.at0 ho') (fun j B2 m X => ∃ kr kc, m "aig" = some (.ref g) ∧ m "cuts" = some (.ref rl) ∧ m "depth" = some (.ref d) ∧ m "flow" = some (.ref f) ∧ m "chosen" = some (.ref kc) ∧ m "room" = some (.ref kr) ∧
    (∃ t, m "top" = some (.int (topOf dp (out.take j)) t)) ∧ B2 = B ∧ ∃ rv, X = [(kr, IsLs rv), (kc, IsLs (List.replicate G.length .none))] ∧ Ints rv (List.replicate G.length (-1))) ?_ ?_ ?_ ?_
  · exact ⟨_, _, by walk_at "lk", by walk_at "lk", by walk_at "lk", by walk_at "lk", by walk_at "lk", by walk_at "lk", ⟨_, by walk_at "lk"⟩, rfl, _, by rw [← hnl, Int.toNat_natCast], by rw [← hnl]; exact .replicate _ ⟨_, rfl⟩⟩
  · rintro i B' m' X' s' ⟨kr, kc, _, _, _, _, _, _, _, rfl, _⟩ hs S'
    exact S'.at0 ho'
  · rintro I j v B' m' X' s' hv ⟨kr, kc, m1, m2, m3, m4, m5, m6, ⟨t, m7⟩, rfl, rv, rfl, hrv⟩ hs S'
    obtain ⟨n, hn, t', rfl⟩ := hO.get hv
    have hnn := hout n (List.mem_of_getElem? hn)
    walk_at "ms"
    rename_i S4
    refine TurnP.next .rfl ⟨kr, kc, by walk_at "lk", by walk_at "lk", by walk_at "lk", by walk_at "lk", by walk_at "lk", by walk_at "lk", ⟨_, by unfold topOf; rw [fold_next _ _ hn]; walk_at "lk"⟩, rfl, rv, rfl, hrv⟩ S4
  · rintro B' m' X' s' ⟨kr, kc, m1, m2, m3, m4, m5, m6, ⟨t, m7⟩, rfl, rv, rfl, hrv⟩ hs S'
    clear S3
    have hol : os.length = out.length := hO.1
    rw [hol, List.take_length] at m7
    walk_at "ms"
    rename_i s5 S5
    refine for_list hA'.handled S5 (S5.at0 ho') (fun j B2 m X => m "aig" = some (.ref g) ∧ m "cuts" = some (.ref rl) ∧ m "depth" = some (.ref d) ∧ m "flow" = some (.ref f) ∧ m "chosen" = some (.ref kc) ∧ m "room" = some (.ref kr) ∧
      (∃ t, m "top" = some (.int (topOf dp out) t)) ∧ B2 = B' ∧ ∃ rv, X = [(kr, IsLs rv), (kc, IsLs (List.replicate G.length .none))] ∧ Ints rv (room0 G.length (topOf dp out) (out.take j))) ?_ ?_ ?_ ?_
    · exact ⟨by walk_at "lk", by walk_at "lk", by walk_at "lk", by walk_at "lk", by walk_at "lk", by walk_at "lk", ⟨_, by walk_at "lk"⟩, rfl, _, rfl, hrv⟩
    · rintro i B' m' X' s' ⟨_, _, _, _, _, _, _, rfl, _⟩ hs S'
      exact S'.at0 ho'
    · rintro I j v B2 m2 X2 s2 hv ⟨m1, m2, m3, m4, m5, m6, ⟨t, m7⟩, rfl, rv, rfl, hrv⟩ hs S'
      obtain ⟨n, hn, t', rfl⟩ := hO.get hv
      have hnn := hout n (List.mem_of_getElem? hn)
      have hrl : rv.length = G.length := by rw [hrv.1, room0_len]
      walk_at "ms"
      rename_i S6
      refine TurnP.next .rfl ⟨by walk_at "lk", by walk_at "lk", by walk_at "lk", by walk_at "lk", by walk_at "lk", by walk_at "lk", ⟨_, by walk_at "lk"⟩, rfl, _, rfl, by unfold room0; rw [fold_next _ _ hn]; exact hrv.set ⟨_, rfl⟩⟩ S6
    · rintro B2 mm X2 s2 ⟨m1, m2, m3, m4, m5, m6, ⟨t, m7⟩, rfl, rv, rfl, hrv⟩ hs S'
      rw [hol, List.take_length] at hrv
      walk_at "ms"
      rename_i _ _ _ _ _ hrg S7
      clear S5
      refine for_range hA'.handled S7 hrg (n := G.length) (by rw [rangeSize_down _ _ (by walk_at "om")]; omega) (small_down _ _ (by walk_at "om") (by walk_at "om") (by walk_at "om")) (RecJ G R dp fl out g rl d f kc kr B2) ?_ ?_ ?_
      · exact ⟨by walk_at "lk", by walk_at "lk", by walk_at "lk", by walk_at "lk", by walk_at "lk", by walk_at "lk", .rfl, rv, _, List.replicate G.length none, rfl, hrv, .replicate _ rfl, RecOk.zero hout⟩
      · rintro I k ti B3 m3 X3 s3 hk ⟨n1, n2, n3, n4, n5, n6, hB3, rv, chv, ch, rfl, hrv, hch, hrec⟩ hs3 S8
        rw [show ((ns.length : Int) - 1) + (k : Int) * -1 = ((G.length - 1 - k : Nat) : Int) by omega] at S8
        have hrl : rv.length = G.length := by rw [hrv.1, roomAt_len, room0_len]
        have hrl2 : (roomAt ch (room0 G.length (topOf dp out) out) G.length k).length = G.length := by rw [roomAt_len, room0_len]
        have hil : G.length - 1 - k < G.length := by omega
        generalize hi : G.length - 1 - k = i at S8 hil
        generalize hrm : at' (roomAt ch (room0 G.length (topOf dp out) out) G.length k) (i : Int) = rm
        have hskip : ∀ {s4} {QQ : Flow → Shared → Prop}, (rm < 0 ∨ isAnd G i = false) → St [] B2 s B3 L (upd m3 "node" (.int (i : Int) ti)) [(I, ItR ((ns.length : Int) - 1) (-1) G.length (k + 1)), (kr, IsLs rv), (kc, IsLs chv)] s4 →
            TurnP [] B2 s L (I, ItR ((ns.length : Int) - 1) (-1) G.length (k + 1)) B3 (RecJ G R dp fl out g rl d f kc kr B2 (k + 1)) QQ .cont s4 := fun hs S9 => by
          obtain ⟨r1, r2⟩ := hrec.skip hk (by rw [hi, hrm]; exact hs)
          exact TurnP.cont .rfl ⟨by walk_at "lk", by walk_at "lk", by walk_at "lk", by walk_at "lk", by walk_at "lk", by walk_at "lk", hB3, rv, chv, ch, rfl, by rw [r2]; exact hrv, hch, r1⟩ S9
        walk_at "ms"
        · rename_i hneg
          rw [hrm] at hneg
          exact hskip (.inl hneg) ‹_›
        · rename_i S9 hnn
          rw [hrm] at hnn
          have hB03 : Sub B2 B3 := hB3
          refine is_and_call tf (hT.trans hB03) S9.sub (hA'.mono (by walk_at "om")) (hg.mono hB03) (hl.mono hB03) (hN.mono fun _ _ h => h.mono hB03) (by walk_at "om") (by walk_at "om") (by walk_at "om") fun s4 G4 => ?_
          have S10 := S9.call G4
          walk_at "ms"
          · rename_i hnot
            exact hskip (.inr hnot) S10
          · rename_i hand s5 S11
            have hiR : i < R.length := by rw [hC.len]; exact hil
            have hrow := List.getElem?_eq_getElem hiR
            generalize R[i] = row at hrow
            obtain ⟨rv2, hrv2, ra, cus, rfl, hra, hcs⟩ := hR.get' hrow
            obtain ⟨hrl3, hrc⟩ := hC.rows i row hrow
            have hfl' : fv.length = fl.length := hfl.1
            have hul : us.length = R.length := hR.1
            refine sub_list (S11.at0 hr) (by walk_at "om") (by walk_at "om") (by rw [Int.toNat_natCast]; exact hrv2) ?_
            refine for_list hA'.handled S11 (S11.at0 hra) (RecK dp fl g rl d f kc kr i k ti I rv chv ns.length G.length row rm B3) ?_ ?_ ?_ ?_
            · exact ⟨by walk_at "lk", by walk_at "lk", by walk_at "lk", by walk_at "lk", by walk_at "lk", by walk_at "lk", by walk_at "lk", rfl, .rfl, .inl ⟨by walk_at "lk", by simp⟩⟩
            · rintro j B4 m4 X4 s2 _ hs2 S2
              exact S2.at0 hra
            · rintro I2 j v B4 m4 X4 s6 hv ⟨q1, q2, q3, q4, q5, q6, q7, rfl, hB4, hbest⟩ hs4 S12
              obtain ⟨c, hc, hcv⟩ := hcs.get hv
              have hcm := List.mem_of_getElem? hc
              obtain ⟨hcl, hcx⟩ := hrc c hcm
              have hB04 := hB3.trans hB4
              have hcv0 := hcv
              obtain ⟨cb, cbs, rfl, hcb, hcj⟩ := hcv
              have hcbl : cbs.length = c.length := hcj.1
              have hcx' : ∀ x ∈ c, 0 ≤ x ∧ x < dp.length := fun x hx => by rw [hdn]; exact hcx x hx
              have hcx2 : ∀ x ∈ c, 0 ≤ x ∧ x < fl.length := fun x hx => by rw [hfn]; exact hcx x hx
              have tk : row.take (j + 1) = row.take j ++ [c] := by rw [List.take_add_one, hc]; rfl
              have hcv4 := hcv0.mono hB04
              have hskip2 : ∀ {B5 m5 s5} {QQ : Flow → Shared → Prop}, Sub B4 B5 → (c = [(i : Int)] ∨ ¬ lvl dp c ≤ rm) → (∀ (x : Str) v, x ≠ ("cut" : Str) → x ≠ ("level" : Str) → m4 x = some v → m5 x = some v) →
                  St [] B2 s B5 L m5 [(I2, ItL ra (j + 1)), (I, ItR ((ns.length : Int) - 1) (-1) G.length (k + 1)), (kr, IsLs rv), (kc, IsLs chv)] s5 →
                  TurnP [] B2 s L (I2, ItL ra (j + 1)) B4 (RecK dp fl g rl d f kc kr i k ti I rv chv ns.length G.length row rm B3 (j + 1)) QQ .cont s5 := fun hB5 hs hm S9 => by
                refine TurnP.cont hB5 ⟨hm _ _ (by decide) (by decide) q1, hm _ _ (by decide) (by decide) q2, hm _ _ (by decide) (by decide) q3, hm _ _ (by decide) (by decide) q4, hm _ _ (by decide) (by decide) q5, hm _ _ (by decide) (by decide) q6, hm _ _ (by decide) (by decide) q7, rfl, hB4.trans hB5, ?_⟩ S9
                rcases hbest with ⟨hb, hall⟩ | ⟨u, c', v', h1, h2, h3, h4, h5, h6, h7, h8⟩
                · refine .inl ⟨hm _ _ (by decide) (by decide) hb, fun c' hc' hne => ?_⟩
                  rw [tk] at hc'
                  rcases List.mem_append.mp hc' with h | h
                  · exact hall c' h hne
                  · simp at h; subst h; exact hs.resolve_left hne
                · refine .inr ⟨u, c', v', hm _ _ (by decide) (by decide) h1, h2, h3.mono hB5, h4.mono hB5, h5, h6, h7, fun c'' hc' hne hf => ?_⟩
                  rw [tk] at hc'
                  rcases List.mem_append.mp hc' with h | h
                  · exact h8 c'' h hne hf
                  · simp at h; subst h; exact absurd hf (hs.resolve_left hne)
              walk_at "ms"
              refine cut_depth_call tf (hT.trans hB04) S12.sub (hA'.mono (by walk_at "om")) (S12.at0 hd) hdp hcv4 hcx' (by walk_at "om") (by walk_at "om") fun t8 s8 G8 => ?_
              have S13 := S12.call G8
              walk_at "ms"
              rename_i a7 B7 s7 S14 hB7 ha7
              refine eq_cut ((hcv4.mono hB7).mono S14.sub) (d := [(i : Int)]) ⟨_, _, rfl, S14.atB ha7, ints_one⟩ (by have := hA'.units; omega) ?_
              walk_at "ms"
              · rename_i heq
                exact hskip2 hB7 (.inl heq) (fun x v e1 e2 e => by unfold upd; rw [if_neg e2, if_neg e1]; exact e) S14
              · rename_i hgt
                rw [hrm] at hgt
                exact hskip2 hB7 (.inr (by walk_at "om")) (fun x v e1 e2 e => by unfold upd; rw [if_neg e2, if_neg e1]; exact e) S14
              · rename_i hne _ hle
                rw [hrm] at hle
                refine cut_flow_call tf ((hT.trans hB04).trans hB7) S14.sub (hA'.mono (by walk_at "om")) (S14.at0 hf') hfl (hcv4.mono hB7) hcx2 (by walk_at "om") fun t9 s9 G9 => ?_
                have S15 := S14.call G9
                walk_at "ms"
                rename_i a9 B9 s10 S10 hB9 ha9 s11 S16
                have hrank : RankAt B9 (.ref a9) (flw fl c) (lvl dp c) (.ref cb) := ⟨a9, _, _, _, _, c, rfl, ha9, (hcv4.mono hB7).mono hB9⟩
                have hB49 := hB7.trans hB9
                have hle' : lvl dp c ≤ rm := by omega
                rcases hbest with ⟨hb, hall⟩ | ⟨u, c', v', h1, h2, h3, h4, h5, h6, h7, h8⟩
                · walk_at "ms"
                  · rename_i S17
                    refine TurnP.next hB49 ⟨by walk_at "lk", by walk_at "lk", by walk_at "lk", by walk_at "lk", by walk_at "lk", by walk_at "lk", by walk_at "lk", rfl, hB4.trans hB49, .inr ⟨_, c, _, by walk_at "lk", rfl, hrank, hcv4.mono hB49, hcm, hne, hle', fun c' hc' hne' hf' => ?_⟩⟩ S17
                    rw [tk] at hc'
                    rcases List.mem_append.mp hc' with h | h
                    · exact absurd hf' (hall c' h hne')
                    · simp at h; subst h; exact Int.le_refl _
                  · contradiction
                · walk_at "ms"
                  · rename_i q _ _
                    rw [h2] at q; cases q
                  · refine lt_ref (lt_rank (hrank.mono S16.sub) ((h3.mono hB49).mono S16.sub) (by have := hA'.units; omega)) fun r hlt => ?_
                    walk_at "ms"
                    · rename_i hr1 _ S17
                      have hlt := hlt.1 hr1
                      refine TurnP.next hB49 ⟨by walk_at "lk", by walk_at "lk", by walk_at "lk", by walk_at "lk", by walk_at "lk", by walk_at "lk", by walk_at "lk", rfl, hB4.trans hB49, .inr ⟨_, c, _, by walk_at "lk", rfl, hrank, hcv4.mono hB49, hcm, hne, hle', fun c'' hc' hne' hf' => ?_⟩⟩ S17
                      rw [tk] at hc'
                      rcases List.mem_append.mp hc' with h | h
                      · exact Int.le_trans hlt (h8 c'' h hne' hf')
                      · simp at h; subst h; exact Int.le_refl _
                    · rename_i hr1
                      have hlt := hlt.2 hr1
                      refine TurnP.next hB49 ⟨by walk_at "lk", by walk_at "lk", by walk_at "lk", by walk_at "lk", by walk_at "lk", by walk_at "lk", by walk_at "lk", rfl, hB4.trans hB49, .inr ⟨u, c', v', by walk_at "lk", h2, h3.mono hB49, h4.mono hB49, h5, h6, h7, fun c'' hc' hne' hf' => ?_⟩⟩ S16
                      rw [tk] at hc'
                      rcases List.mem_append.mp hc' with h | h
                      · exact h8 c'' h hne' hf'
                      · simp at h; subst h; exact hlt
            · rintro B4 m4 X4 s6 ⟨q1, q2, q3, q4, q5, q6, q7, rfl, hB4, hbest⟩ hs4 S12
              clear hskip
              have hbest : ∃ u c v, m4 "best" = some u ∧ RankAt B4 u (flw fl c) (lvl dp c) v ∧ CutAt B4 v c ∧ Pick R dp fl i rm c row := by
                rcases hbest with ⟨_, hall⟩ | ⟨u, c', v', h1, h2, h3, h4, h5, h6, h7, h8⟩
                · obtain ⟨c, p1, p2, p3⟩ := hrec.fits hD hk (by rw [hi, hrm]) (by walk_at "om") (by rw [hi]; exact hand) (by rw [hi]; exact hrow)
                  rw [hi] at p2
                  rw [hcs.1, List.take_length] at hall
                  exact absurd p3 (hall c p1 p2)
                · rw [hcs.1, List.take_length] at h8
                  exact ⟨u, c', v', h1, h3, h4, hrow, h5, h6, h7, h8⟩
              obtain ⟨u, c, v, hb, ⟨x, t1, t2, t3, nn, cc, rfl, hx, _⟩, hcv, hpick⟩ := hbest
              have hcl : chv.length = ch.length := hch.1
              have hchl := hrec.len
              obtain ⟨hput, hroom⟩ := hrec.put hC hk (by rw [hi, hrm]) (by walk_at "om") (by rw [hi]; exact hand) (by rw [hi]; exact hpick)
              rw [hi] at hput hroom
              obtain ⟨cb, cbs, rfl, hcb, hcj⟩ := hcv
              have hcx : ∀ x ∈ c, 0 ≤ x ∧ x < G.length := ((hrc c hpick.mem).2)
              have hcb' : ∀ x ∈ c, x < i := hC.below i row hrow c hpick.mem hpick.ne
              walk_at "ms"
              rename_i s13 S13
              refine for_tuple hA'.handled S13 (S13.atB hcb) (fun t B5 m X => m "aig" = some (.ref g) ∧ m "cuts" = some (.ref rl) ∧ m "depth" = some (.ref d) ∧ m "flow" = some (.ref f) ∧ m "chosen" = some (.ref kc) ∧ m "room" = some (.ref kr) ∧ m "node" = some (.int i ti) ∧
                B5 = B4 ∧ ∃ rv2, X = [(I, ItR ((ns.length : Int) - 1) (-1) G.length (k + 1)), (kr, IsLs rv2), (kc, IsLs (chv.set i (.ref cb)))] ∧ Ints rv2 (relaxAll (rm - 1) (roomAt ch (room0 G.length (topOf dp out) out) G.length k) (c.take t))) ?_ ?_ ?_ ?_
              · exact ⟨by walk_at "lk", by walk_at "lk", by walk_at "lk", by walk_at "lk", by walk_at "lk", by walk_at "lk", by walk_at "lk", rfl, rv, by rw [Int.toNat_natCast], hrv⟩
              · rintro t B5 m5 X5 s5 ⟨_, _, _, _, _, _, _, rfl, _⟩ hs5 S5
                exact S5.atB hcb
              · rintro I3 t v B5 m5 X5 s14 hv ⟨q1, q2, q3, q4, q5, q6, q7, rfl, rv2, rfl, hrv2⟩ hs5 S14
                obtain ⟨n, hn, t', rfl⟩ := hcj.get hv
                have hnm := List.mem_of_getElem? hn
                obtain ⟨n0, n1'⟩ := hcx n hnm
                have n2' := hcb' n hnm
                have hnext : relaxAll (rm - 1) (roomAt ch (room0 G.length (topOf dp out) out) G.length k) (c.take (t + 1)) = relax (rm - 1) (relaxAll (rm - 1) (roomAt ch (room0 G.length (topOf dp out) out) G.length k) (c.take t)) n := fold_next _ _ hn
                have hri : at' (relaxAll (rm - 1) (roomAt ch (room0 G.length (topOf dp out) out) G.length k) (c.take t)) (i : Int) = rm := by
                  rw [at_relaxAll_off (by walk_at "om") _ _ fun x hx => ?_, hrm]
                  have hxm := List.mem_of_mem_take hx
                  have := hcb' x hxm
                  rw [hrl2]
                  exact ⟨(hcx x hxm).1, (hcx x hxm).2, by omega⟩
                have hrl4 : (relaxAll (rm - 1) (roomAt ch (room0 G.length (topOf dp out) out) G.length k) (c.take t)).length = G.length := by rw [relaxAll_len, hrl2]
                have hrl5 : rv2.length = G.length := by rw [hrv2.1, hrl4]
                generalize relaxAll (rm - 1) (roomAt ch (room0 G.length (topOf dp out) out) G.length k) (c.take t) = r' at hrv2 hnext hri hrl4
                have hset : (at' r' n < 0 ∨ at' r' i - 1 < at' r' n) → relax (rm - 1) r' n = r'.set n.toNat (at' r' i - 1) := fun h => by
                  rw [hri] at h ⊢
                  unfold relax
                  rw [if_pos h]
                have hstay : ¬ at' r' n < 0 → ¬ at' r' i - 1 < at' r' n → relax (rm - 1) r' n = r' := fun h h2 => by
                  rw [hri] at h2
                  unfold relax
                  rw [if_neg (fun q => q.elim h h2)]
                walk_at "ms"
                · rename_i S15
                  exact TurnP.next .rfl ⟨by walk_at "lk", by walk_at "lk", by walk_at "lk", by walk_at "lk", by walk_at "lk", by walk_at "lk", by walk_at "lk", rfl, _, rfl, by rw [hnext, hset (.inl ‹_›)]; exact hrv2.set ⟨_, rfl⟩⟩ S15
                · rename_i S15
                  exact TurnP.next .rfl ⟨by walk_at "lk", by walk_at "lk", by walk_at "lk", by walk_at "lk", by walk_at "lk", by walk_at "lk", by walk_at "lk", rfl, _, rfl, by rw [hnext, hset (.inr ‹_›)]; exact hrv2.set ⟨_, rfl⟩⟩ S15
                · rename_i S15 _
                  exact TurnP.next .rfl ⟨by walk_at "lk", by walk_at "lk", by walk_at "lk", by walk_at "lk", by walk_at "lk", by walk_at "lk", by walk_at "lk", rfl, _, rfl, by rw [hnext, hstay ‹_› ‹_›]; exact hrv2⟩ S15
              · rintro B5 m5 X5 s14 ⟨q1, q2, q3, q4, q5, q6, q7, rfl, rv2, rfl, hrv2⟩ hs5 S14
                have hcbl : cbs.length = c.length := hcj.1
                rw [hcbl, List.take_length, ← hroom] at hrv2
                walk_at "ms"
                exact TurnP.next hB4 ⟨by walk_at "lk", by walk_at "lk", by walk_at "lk", by walk_at "lk", by walk_at "lk", by walk_at "lk", hB3.trans hB4, rv2, _, _, rfl, hrv2, (hch.mono fun _ _ h => h.mono hB4).set (show ChAt _ _ (some c) from ⟨cb, cbs, rfl, hcb, hcj⟩), hput⟩ S14
      · rintro B3 m3 X3 s3 ⟨n1, n2, n3, n4, n5, n6, hB3, rv, chv, ch, rfl, hrv, hch, hrec⟩ hs3 S8
        walk_at "ms"
        obtain ⟨B9, o9, e1, e2, e3, S9⟩ := (S8.tail).freeze (by exact List.not_mem_nil)
        exact hQ _ _ _ _ _ S9.toGrow ⟨o9, e1, e2⟩ (hch.mono fun _ _ h => h.mono e3) hrec
end

/- G5 -/

abbrev lamPos : Pos := ⟨158, 32, 158, 59⟩
abbrev lamQual : Str := "without_dominated.<locals>.<lambda>"
/-- the lambda's table, as it stands before or after the first call -/
structure TabOk (B : Mem) (s : Shared) (c : Option Addr) : Prop where
  tab : At s.heap.get? 162 (TabI lamPos c)
  out : B 162 = none
  code : TabB B lamQual c

theorem CallKw_ {M' : Model} {A : Around} {E : Value → Shared → Prop} {s : Shared} {env : Env} {f : Str} {p pos : Pos} {args : List Expr} {kws : List Keyword} {Q : Value → Shared → Prop}
    (h : wpAny M' A (eval (.Name f p) env) (fun f s₁ => wpAny M' A (callWith pos f [] (backTo pos (starEach args env)) (backToKw pos (keywordEach kws env))) Q E s₁) E s) :
    wpAny M' A (eval (.Call (.Name f p) args kws pos) env) Q E s := wpAny_bind h

section
variable {B : Mem} {s : Shared} {prog : Program} {w : World} {A : Around} {E : Value → Shared → Prop} {T : Heap} {mg mb : Str → Option Value} {Q : Value → Shared → Prop}

theorem without_call {l : Addr} {vs : List Value} {cs : List (List Int)} {c : Option Addr} (tf : TF w T mg mb) (hT : Sub T.get? B) (hB : Sub B s.heap.get?) (hA : Room A 6)
    (hl : At s.heap.get? l (IsLs vs)) (hl2 : l ≠ 162) (hcs : CutsAre B vs cs) (h1 : 1 ≤ vs.length) (h64 : vs.length < 64) (hlen : ∀ c ∈ cs, c.length ≤ 100) (hTab : TabOk B s c)
    (hQ : ∀ a out ks c' B' s', Grow [162] B s B' s' → At B' a (IsLs out) → CutsAre B' out ks → ks ≠ [] → (∀ k ∈ ks, k ∈ cs) → ks.length ≤ cs.length → TabOk B' s' (some c') → Q (.ref a) s') :
    wpAny (model prog w) A (call (.ref 167) [.ref l]) Q E s := by
  have ho := tf.K 167 _ rfl
  have hf := hT.trans hB
  obtain ⟨ht1, ht2, ht3⟩ := hTab
  refine call_st (M' := [162]) (binds := [("cuts", .ref l)]) (Y := [(162, TabI lamPos c)]) (BB := B) hA (hf _ _ ho) (tf.lim.keeps hf) ((codeRec_of tf.K (by kernel_rfl)).keeps hf) hB
    (fun p hp => by simp only [List.mem_singleton] at hp; subst hp; exact ⟨ht1, ht2, .head _⟩) (by simp) (fun b hb => by simp only [List.mem_singleton] at hb; subst hb; exact let ⟨o, e, _⟩ := ht1; ⟨o, e⟩) rfl (locs rfl) ?_
  clear ho
  intro s₁ L A' hA' S
  have hcl : vs.length = cs.length := hcs.1
  walk_at "ms"
  rename_i k _ _ s2 S2
  refine CallKw_ ?_
  walk_at "ms"
  refine callWith_kw ?_
  walk_at "ms"
  refine PyProof.Rows.kws_cons ?_
  refine mk_lam tf hT (St.swap S2) ht3 (codeHd_of_K (S2.inK hT tf) (by kernel_rfl)) fun f c' B3 s3 pm ctv S3 hB3 hcode hfo => ?_
  refine PyProof.Rows.kws_nil ?_
  have hT3 : Sub T.get? B3 := hT.trans hB3
  have offL : ∀ {b o}, B3 b = some o → b ≠ L := fun e q => by
    rw [q] at e
    have := S3.off
    exact absurd (e.symm.trans this) (by simp)
  have hkey : KeyCalls prog w A' (.ref f) s3 L vs := fun v hv s' hk hlim => by
    obtain ⟨i, hi, e⟩ := List.mem_iff_getElem.mp hv
    obtain ⟨cc, hcc, b, us, rfl, hb, hj⟩ := hcs.get (List.getElem?_eq_getElem hi |>.trans (congrArg some e))
    have hsub : Sub B3 s'.heap.get? := fun b o e => hk b o (offL e) (S3.sub _ _ e)
    refine call_lam (B := B3) (binds := [("row", .ref b)]) (k := 2) (hA'.mono (by omega : 5 ≤ 5)).in1.in1 hfo hcode hlim hsub rfl (locs rfl) fun s₄ L4 A4 hA4 S4 => ?_
    have hb3 : At B3 b (IsTp us) := hb.mono hB3
    have hul : us.length = cc.length := hj.1
    have := hlen cc (List.mem_of_getElem? hcc)
    walk_at "ms"
    rename_i a B5 s5 S5 hB5 ha
    refine ⟨⟨s5.heap, s5.toks, S5.same, fun b o e => S5.keep b o List.not_mem_nil e⟩, a, _, _, .ref b, cc, rfl, ha.mono S5.sub, b, us, rfl, (hb3.mono hB5).mono S5.sub, hj⟩
  refine sortedA (by have := hA'.units; omega) S3 (fun s' hk => tf.lim.keeps fun b o e => hk b o (offL (hT3 _ _ e)) (S3.sub _ _ (hT3 _ _ e))) (S3.kept hl (by simpa using hl2)) h1 h64 hkey fun D out s5 S5 ho1 ho2 => ?_
  have hinit : ∀ v ∈ out, ∃ c ∈ cs, CutAt B3 v c := fun v hv => by
    obtain ⟨i, hi, e⟩ := List.mem_iff_getElem.mp (ho2 v hv)
    obtain ⟨cc, hcc, h⟩ := hcs.get (List.getElem?_eq_getElem hi |>.trans (congrArg some e))
    exact ⟨cc, List.mem_of_getElem? hcc, h.mono hB3⟩
  have hk162 : k ≠ 162 := fun q => by
    have := S3.nodup
    rw [q] at this
    simp at this
  refine for_list hA'.handled S5 (S5.at (.head _)) (fun i B4 m X => B4 = B3 ∧ m "kept" = some (.ref k) ∧ ∃ kv ks, X = [(D, IsLs out), (162, TabI lamPos (some c')), (k, IsLs kv)] ∧ CutsAre B3 kv ks ∧ (∀ x ∈ ks, x ∈ cs) ∧ ks.length ≤ i ∧ (0 < i → ks ≠ [])) ?_ ?_ ?_ ?_
  · exact ⟨rfl, by walk_at "lk", [], [], rfl, .nil, by simp, Nat.le_refl _, fun h => absurd h (Nat.lt_irrefl _)⟩
  · rintro i B4 m4 X4 s6 ⟨rfl, _, kv, ks, rfl, _⟩ hs S6
    exact S6.at (.head _)
  · rintro I i v B4 m4 X4 s6 hv ⟨rfl, m1, kv, ks, rfl, hkv, hks, hkl, hk0⟩ hs S6
    obtain ⟨cc, hcc, hcut⟩ := hinit v (List.mem_of_getElem? hv)
    have hil : i < out.length := (List.getElem?_eq_some_iff.mp hv).1
    have hkvl : kv.length = ks.length := hkv.1
    have hcut0 := hcut
    obtain ⟨b, us, rfl, hb, hj⟩ := hcut
    walk_at "ms"
    rename_i s7 S7
    refine for_list hA'.handled S7 (S7.at (by walk_at "led")) (fun j B5 m X => B5 = B4 ∧ m "kept" = some (.ref k) ∧ m "cut" = some (.ref b) ∧ (∃ r, m "free" = some (.bool r) ∧ (kv = [] → r = true)) ∧ X = [(I, ItL D (i + 1)), (D, IsLs out), (162, TabI lamPos (some c')), (k, IsLs kv)]) ?_ ?_ ?_ ?_
    · exact ⟨rfl, by walk_at "lk", by walk_at "lk", ⟨true, by walk_at "lk", fun _ => rfl⟩, rfl⟩
    · rintro j B5 m5 X5 s8 ⟨rfl, _, _, _, rfl⟩ hs5 S8
      exact S8.at (by walk_at "led")
    · rintro I2 j v2 B5 m5 X5 s8 hv2 ⟨rfl, q1, q2, ⟨r, q3, q4⟩, rfl⟩ hs5 S8
      obtain ⟨c2, hc2, hcut2⟩ := hkv.get hv2
      have hne : kv ≠ [] := fun q => by rw [q] at hv2; simp at hv2
      walk_at "ms"
      refine within_call tf hT3 S8.sub (hA'.mono (by walk_at "om")) hcut2 hcut0 fun r2 s9 G9 => ?_
      have S9 := S8.call G9
      walk_at "ms"
      · rename_i S10
        exact TurnP.next .rfl ⟨rfl, by walk_at "lk", by walk_at "lk", ⟨false, by walk_at "lk", fun q => absurd q hne⟩, rfl⟩ S10
      · exact TurnP.next .rfl ⟨rfl, by walk_at "lk", by walk_at "lk", ⟨r, by walk_at "lk", q4⟩, rfl⟩ S9
    · rintro B5 m5 X5 s8 ⟨rfl, q1, q2, ⟨r, q3, q4⟩, rfl⟩ hs5 S8
      walk_at "ms"
      · rename_i S9
        refine TurnP.next .rfl ⟨rfl, by walk_at "lk", _, ks ++ [cc], rfl, hkv.snoc hcut0, fun x hx => ?_, by simp; omega, fun _ => by simp⟩ S9
        rcases List.mem_append.mp hx with h | h
        · exact hks x h
        · rw [List.mem_singleton.mp h]; exact hcc
      · rename_i hr
        refine TurnP.next .rfl ⟨rfl, by walk_at "lk", kv, ks, rfl, hkv, hks, by omega, fun _ q => ?_⟩ S8
        have : kv = [] := List.eq_nil_of_length_eq_zero (by rw [hkvl, q]; rfl)
        rw [q4 this] at hr; cases hr
  · rintro B4 m4 X4 s6 ⟨rfl, m1, kv, ks, rfl, hkv, hks, hkl, hk0⟩ hs S6
    walk_at "ms"
    have S7 := (S6.tail).swap
    obtain ⟨B9, o9, e1, e2, e3, S9⟩ := S7.freeze (by simpa using hk162)
    have := hs
    have hno : B9 162 = none := (S9.news _ (.head _)).2.2.1
    exact hQ _ _ _ c' _ _ S9.toGrow ⟨o9, e1, e2⟩ (hkv.mono fun _ _ h => h.mono e3) (hk0 (by walk_at "om")) hks (by walk_at "om") ⟨S9.at (.head _), hno, hcode.mono e3⟩
end

/- G6 -/

section
variable {M : List Addr} {B₀ B : Mem} {s₀ s : Shared} {L : Addr} {m : Str → Option Value} {X : Led} {prog : Program} {w : World} {A : Around} {E : Value → Shared → Prop} {env : Env} {Q : Value → Shared → Prop}
theorem Slice_to {M' : Model} {e : Expr} {p : Pos} (h : wpAny M' A (eval e env) (fun u s₁ => Q (.ref s₁.heap.objs.size) { s₁ with heap := s₁.heap.push { cls := .type "slice", data := .fields #[.none, u, .none] } }) E s) :
    wpAny M' A (eval (.Slice none (some e) none p) env) Q E s :=
  wpAny_Slice (wpAny_pure (wpAny_mono h (fun _ _ hq => wpAny_pure hq) fun _ _ x => x))
theorem slice_do {value slice : Expr} {l : Addr} {vs : List Value} {k : Int} {u : Tok} (S : St M B₀ s₀ B L m X s) (hl : At s.heap.get? l (IsLs vs)) (h0 : 0 ≤ k) (hsz : vs.length ≤ 1000)
    (h : ∀ a s', St M B₀ s₀ B L m ((a, IsLs (vs.take k.toNat)) :: X) s' → Q (.ref a) s')
    (hs : subscripted slice false (.ref l) (.ref s.heap.objs.size) = operate [.ref s.heap.objs.size, .ref l] (getItem (.ref l) (.ref s.heap.objs.size)) := by with_unfolding_all rfl) :
    wpAny (model prog w) A (subscriptTail value slice (.ref l) (.ref s.heap.objs.size)) Q E { s with heap := s.heap.push { cls := .type "slice", data := .fields #[.none, .int k u, .none] } } := by
  have hil := hl.isList
  have hT := Heap.IsList.typeIs (s := { s with heap := s.heap.push { cls := .type "slice", data := .fields #[.none, .int k u, .none] } }) (hil.push _)
  have S1 := S.ext (t := s.toks) (h' := s.heap.push { cls := .type "slice", data := .fields #[.none, .int k u, .none] }) fun _ _ e => Heap.get?_push_of_some _ e
  have body : wpAny (model prog w) A (getItem (.ref l) (.ref s.heap.objs.size)) (fun r s₃ => wpAny (model prog w) A (letTemporaryGo value (.ref l) r >>= fun _ => pure r) Q E s₃) E { s with heap := s.heap.push { cls := .type "slice", data := .fields #[.none, .int k u, .none] } } := by
    refine wpAny_getItem_list_slice (hil.push _) (Heap.IsSliceOf.new ..) .none (.int _ _) .none (by simp) ?_ (by rw [List.size_toArray, sizeLine_eq]; omega)
    refine wpAny_bind (wpAny_letTemporaryGo (wpAny_pure ?_))
    refine h _ _ (S1.push (t := s.toks) _ ⟨0, ?_⟩)
    have e2 : slicePick vs.toArray none (some k) none = (vs.take k.toNat).toArray := by
      have := slicePick_upto' vs.toArray k.toNat
      rw [Int.toNat_of_nonneg h0] at this
      rw [this]
    rw [e2]
  unfold subscriptTail
  refine wpAny_bind ?_
  rw [getitemInPython_of_ne hT.not_modules]
  refine wpAny_bind (wpAny_specialOf hT list_getitem_lookup ?_)
  have fin : wpAny (model prog w) A (subscripted slice false (.ref l) (.ref s.heap.objs.size)) (fun r s₃ => wpAny (model prog w) A (letTemporaryGo value (.ref l) r >>= fun _ => pure r) Q E s₃) E { s with heap := s.heap.push { cls := .type "slice", data := .fields #[.none, .int k u, .none] } } := by
    rw [hs]
    exact wpAny_operating body
  first
    | exact wpAny_pure (wpAny_bind fin)
    | exact wpAny_bind (wpAny_pure (wpAny_bind fin))
    | exact wpAny_bind fin
end

theorem ints_one' {n : Int} {t : Tok} : Ints [.int n t] [n] := ⟨rfl, fun i x y hx hy => by
  match i, hx, hy with
  | 0, hx, hy => cases hx; cases hy; exact ⟨_, rfl⟩⟩
def NodeP (ls rs ks : List (List Int)) : Prop := ∀ d ∈ ks, d.length ≤ 4 ∧ ∀ x ∈ d, (∃ c1 ∈ ls, x ∈ c1) ∨ ∃ c2 ∈ rs, x ∈ c2
def NodeJ (B : Mem) (node k most : Int) (t1 t2 t3 : Tok) (ra km : Addr) (ls rs : List (List Int)) (c : Option Addr) (i : Nat) : Inv := fun B' m X =>
  m "node" = some (.int node t1) ∧ m "right" = some (.ref ra) ∧ m "k" = some (.int k t2) ∧ m "most" = some (.int most t3) ∧ m "merged" = some (.ref km) ∧ Sub B B' ∧
    ∃ mv mk, X = [(km, IsLs mv), (162, TabI lamPos c)] ∧ CutsAre B' mv mk ∧ NodeP ls rs mk ∧ mk.length ≤ 7 * i ∧ ((∃ d ∈ ls.take i, ∃ e ∈ rs, ((d.length + e.length : Nat) : Int) ≤ k) → mk ≠ [])
theorem CutsAre.snoc' {B : Mem} {vs : List Value} {cs : List (List Int)} {v : Value} {c : List Int} (h : CutsAre B vs cs) (hv : CutAt B v c) : CutsAre B (vs ++ [v]) (cs ++ [c]) := All2.snoc h hv
section
variable {B : Mem} {s : Shared} {prog : Program} {w : World} {A : Around} {E : Value → Shared → Prop} {T : Heap} {mg mb : Str → Option Value} {Q : Value → Shared → Prop}

theorem node_cuts_call {lv rv : Value} {ls rs : List (List Int)} {node k most : Int} {t1 t2 t3 : Tok} {c : Option Addr} (tf : TF w T mg mb) (hT : Sub T.get? B) (hB : Sub B s.heap.get?) (hA : Room A 8)
    (hl : RowAt B lv ls) (hr : RowAt B rv rs) (hl7 : ls.length ≤ 7) (hr7 : rs.length ≤ 7) (hlc : ∀ c ∈ ls, c.length ≤ 4) (hrc : ∀ c ∈ rs, c.length ≤ 4) (hm0 : 1 ≤ most) (hm6 : most ≤ 6) (hk4 : k ≤ 4) (hsmall : ∃ c1 ∈ ls, ∃ c2 ∈ rs, ((c1.length + c2.length : Nat) : Int) ≤ k) (hTab : TabOk B s c)
    (hQ : ∀ v ks c' B' s', Grow [162] B s B' s' → RowAt B' v (ks ++ [[node]]) → ks ≠ [] → ks.length ≤ 6 → (∀ d ∈ ks, d.length ≤ 4 ∧ ∀ x ∈ d, (∃ c1 ∈ ls, x ∈ c1) ∨ ∃ c2 ∈ rs, x ∈ c2) → TabOk B' s' (some c') → Q v s') :
    wpAny (model prog w) A (call (.ref 174) [.int node t1, lv, rv, .int k t2, .int most t3]) Q E s := by
  have ho := tf.K 174 _ rfl
  have hf := hT.trans hB
  obtain ⟨ht1, ht2, ht3⟩ := hTab
  obtain ⟨la, lvs, rfl, hla, hlcs⟩ := hl
  obtain ⟨ra, rvs, rfl, hra, hrcs⟩ := hr
  refine call_st (M' := [162]) (binds := [("node", .int node t1), ("left", .ref la), ("right", .ref ra), ("k", .int k t2), ("most", .int most t3)]) (Y := [(162, TabI lamPos c)]) (BB := B) hA (hf _ _ ho) (tf.lim.keeps hf) ((codeRec_of tf.K (by kernel_rfl)).keeps hf) hB
    (fun p hp => by simp only [List.mem_singleton] at hp; subst hp; exact ⟨ht1, ht2, .head _⟩) (by simp) (fun b hb => by simp only [List.mem_singleton] at hb; subst hb; exact let ⟨o, e, _⟩ := ht1; ⟨o, e⟩) rfl (locs rfl) ?_
  clear ho
  intro s₁ L A' hA' S
  have hll : lvs.length = ls.length := hlcs.1
  have hrl : rvs.length = rs.length := hrcs.1
  walk_at "ms"
  rename_i km _ _ s2 S2
  have hkm : km ≠ 162 := fun q => by
    have := S2.nodup
    rw [q] at this
    simp at this
  refine for_list hA'.handled S2 (S2.at0 hla) (NodeJ B node k most t1 t2 t3 ra km ls rs c) ?_ ?_ ?_ ?_
  · exact ⟨by walk_at "lk", by walk_at "lk", by walk_at "lk", by walk_at "lk", by walk_at "lk", .rfl, [], [], rfl, .nil, fun d hd => by simp at hd, by simp, fun h => by simp at h⟩
  · rintro i B' m' X' s' _ hs S'
    exact S'.at0 hla
  · rintro I i v B3 m3 X3 s3 hv ⟨n1, n2, n3, n4, n5, hB3, mv, mk, rfl, hmv, hmk, hml, hm1⟩ hs S3
    obtain ⟨c1, hc1, hcut1⟩ := hlcs.get hv
    have hc1m := List.mem_of_getElem? hc1
    have tk1 : ls.take (i + 1) = ls.take i ++ [c1] := by rw [List.take_add_one, hc1]; rfl
    walk_at "ms"
    refine for_list hA'.handled S3 (S3.at0 hra) (fun j B4 m X => m "node" = some (.int node t1) ∧ m "right" = some (.ref ra) ∧ m "k" = some (.int k t2) ∧ m "most" = some (.int most t3) ∧ m "merged" = some (.ref km) ∧ m "one" = some v ∧ Sub B3 B4 ∧
      ∃ mv mk, X = [(I, ItL la (i + 1)), (km, IsLs mv), (162, TabI lamPos c)] ∧ CutsAre B4 mv mk ∧ NodeP ls rs mk ∧ mk.length ≤ 7 * i + j ∧ ((∃ d ∈ ls.take i, ∃ e ∈ rs, ((d.length + e.length : Nat) : Int) ≤ k) ∨ (∃ e ∈ rs.take j, ((c1.length + e.length : Nat) : Int) ≤ k) → mk ≠ [])) ?_ ?_ ?_ ?_
    · exact ⟨by walk_at "lk", by walk_at "lk", by walk_at "lk", by walk_at "lk", by walk_at "lk", by walk_at "lk", .rfl, mv, mk, rfl, hmv, hmk, by omega, fun h => h.elim hm1 (fun q => by simp at q)⟩
    · rintro j B4 m4 X4 s4 _ hs4 S4
      exact S4.at0 hra
    · rintro I2 j v2 B4 m4 X4 s4 hv2 ⟨q1, q2, q3, q4, q5, q6, hB4, mv, mk, rfl, hmv, hmk, hml, hm1⟩ hs4 S4
      obtain ⟨c2, hc2, hcut2⟩ := hrcs.get hv2
      have hc2m := List.mem_of_getElem? hc2
      have tk2 : rs.take (j + 1) = rs.take j ++ [c2] := by rw [List.take_add_one, hc2]; rfl
      have hB04 := hB3.trans hB4
      have hmvl : mv.length = mk.length := hmv.1
      have hjl := (List.getElem?_eq_some_iff.mp hc2).1
      have hil := (List.getElem?_eq_some_iff.mp hc1).1
      walk_at "ms"
      refine merge_cuts_call tf (hT.trans hB04) S4.sub (hA'.mono (by walk_at "om")) (hcut1.mono hB04) (hcut2.mono hB04) (by have := hlc c1 hc1m; omega) (by have := hrc c2 hc2m; omega) fun r B5 s5 G5 hres => ?_
      have S5 := S4.call G5
      have hB5 := G5.sub0
      rcases hres with ⟨rfl, hlong⟩ | ⟨cc, hcc, hccl, hccx⟩
      · walk_at "ms"
        · contradiction
        · rename_i S6 _
          refine TurnP.next hB5 ⟨by walk_at "lk", by walk_at "lk", by walk_at "lk", by walk_at "lk", by walk_at "lk", by walk_at "lk", hB4.trans hB5, mv, mk, rfl, hmv.mono fun _ _ h => h.mono hB5, hmk, by omega, fun h => hm1 ?_⟩ S6
          rcases h with h | ⟨e, he, hle⟩
          · exact .inl h
          · rw [tk2] at he
            rcases List.mem_append.mp he with he | he
            · exact .inr ⟨e, he, hle⟩
            · simp at he; subst he; push_cast at hle; omega
      · obtain ⟨b, bs, rfl, hb, hbj⟩ := hcc
        walk_at "ms"
        · rename_i S6
          refine TurnP.next hB5 ⟨by walk_at "lk", by walk_at "lk", by walk_at "lk", by walk_at "lk", by walk_at "lk", by walk_at "lk", hB4.trans hB5, _, mk ++ [cc], rfl, CutsAre.snoc' (hmv.mono fun _ _ h => h.mono hB5) ⟨b, bs, rfl, hb, hbj⟩, fun d hd => ?_, by simp; omega, fun _ => by simp⟩ S6
          rcases List.mem_append.mp hd with hd | hd
          · exact hmk d hd
          · simp at hd; subst hd
            exact ⟨by omega, fun x hx => (hccx x hx).elim (fun h => .inl ⟨c1, hc1m, h⟩) fun h => .inr ⟨c2, hc2m, h⟩⟩
        · contradiction
    · rintro B4 m4 X4 s4 ⟨q1, q2, q3, q4, q5, q6, hB4, mv, mk, rfl, hmv, hmk, hml, hm1⟩ hs4 S4
      walk_at "ms"
      refine TurnP.next hB4 ⟨by walk_at "lk", by walk_at "lk", by walk_at "lk", by walk_at "lk", by walk_at "lk", hB3.trans hB4, mv, mk, rfl, hmv, hmk, by omega, fun h => hm1 ?_⟩ S4
      obtain ⟨d, hd, e, he, hle⟩ := h
      rw [tk1] at hd
      rcases List.mem_append.mp hd with hd | hd
      · exact .inl ⟨d, hd, e, he, hle⟩
      · simp at hd; subst hd
        exact .inr ⟨e, by rw [hrl, List.take_length]; exact he, hle⟩
  · rintro B3 m3 X3 s3 ⟨n1, n2, n3, n4, n5, hB3, mv, mk, rfl, hmv, hmk, hml, hm1⟩ hs S3
    rw [hll, List.take_length] at hm1
    have hne := hm1 hsmall
    have hmvl : mv.length = mk.length := hmv.1
    have hmpos := List.length_pos_iff.mpr hne
    have hP4 : ∀ d ∈ mk, d.length ≤ 100 := fun d hd => by have := (hmk d hd).1; omega
    have htab : TabOk B3 s3 c := ⟨S3.at (.tail _ (.head _)), (S3.news _ (.tail _ (.head _))).2.2.1, ht3.mono hB3⟩
    walk_at "ms"
    refine without_call tf (hT.trans hB3) S3.sub (hA'.mono (by walk_at "om")) (S3.at (.head _)) hkm hmv (by walk_at "om") (by walk_at "om") hP4 htab fun a out ks c' B4 s4 G4 ha hks hks0 hksm hksl htab' => ?_
    obtain ⟨p1, p2, p3⟩ := htab'
    have S4 : St [162] B s B4 L m3 [(162, TabI lamPos (some c')), (km, IsLs mv)] s4 := (St.swap S3).callM (Y := [(162, TabI lamPos c)]) (Y' := [(162, TabI lamPos (some c'))]) G4 (fun b hb => by simpa using hb) rfl (fun p hp => by simp only [List.mem_singleton] at hp; subst hp; exact p1)
    have hB4 := G4.sub0
    have hol : out.length = ks.length := hks.1
    refine Slice_to ?_
    walk_at "ms"
    refine slice_do S4 (S4.atB ha) (by walk_at "om") (by walk_at "om") fun D s5 S5 => ?_
    walk_at "ms"
    rename_i a6 B6 s6 S6 hB6 ha6
    have hlen6 : (out.take most.toNat).length ≤ 6 := by rw [List.length_take]; omega
    refine ap_do S6 .head (by walk_at "om") fun s7 S7 => ?_
    walk_at "ms"
    have hD : D ≠ 162 := fun q => by
      have := S7.nodup
      rw [q] at this
      simp at this
    obtain ⟨B8, o8, e1, e2, e3, S8⟩ := S7.freeze (by simpa using hD)
    have hno : B8 162 = none := (S8.news _ (.head _)).2.2.1
    have hB48 := hB6.trans e3
    refine hQ _ (ks.take most.toNat) c' B8 _ S8.toGrow ⟨D, _, rfl, ⟨o8, e1, e2⟩, CutsAre.snoc' ((hks.take _).mono fun _ _ h => h.mono hB48) ⟨a6, _, rfl, ha6.mono e3, ints_one'⟩⟩ (fun q => ?_) (by rw [List.length_take]; omega) (fun d hd => hmk d (hksm d (List.mem_of_mem_take hd))) ⟨S8.at (.head _), hno, p3.mono hB48⟩
    have := congrArg List.length q
    rw [List.length_take, List.length_nil] at this
    have := List.length_pos_iff.mpr hks0
    omega
end

/- G7 -/

/-- what the built graph is -/
structure GoodG (G : Gr) : Prop where
  pos : 1 ≤ G.length
  size : G.length ≤ 20
  zero : G[0]? = some none
  pairs : ∀ (i : Nat) l r, G[i]? = some (some (l, r)) → 2 ≤ l ∧ l / 2 < i ∧ 2 ≤ r ∧ r / 2 < i
structure RowFine (G : Gr) (i : Nat) (row : List (List Int)) : Prop where
  len : row.length ≤ 7
  cuts : ∀ c ∈ row, c.length ≤ 4 ∧ ∀ x ∈ c, 0 ≤ x ∧ x ≤ i ∧ (c ≠ [(i : Int)] → x < i)
  triv : 1 ≤ i → [(i : Int)] ∈ row
  and' : isAnd G i = true → ∃ c ∈ row, c ≠ [(i : Int)]
theorem GoodG.goodC {G : Gr} {R : Cuts} (h : GoodG G) (hl : R.length = G.length) (hR : ∀ (j : Nat) row, R[j]? = some row → RowFine G j row) : GoodC G R where
  len := hl
  size := by have := h.size; omega
  rows := fun i row hr => by
    have hf := hR i row hr
    have hi := (List.getElem?_eq_some_iff.mp hr).1
    refine ⟨by have := hf.len; omega, fun c hc => ⟨by have := (hf.cuts c hc).1; omega, fun x hx => ?_⟩⟩
    obtain ⟨x0, x1, _⟩ := (hf.cuts c hc).2 x hx
    exact ⟨x0, by omega⟩
  below := fun i row hr c hc hn x hx => ((hR i row hr).cuts c hc).2 x hx |>.2.2 hn
  some' := fun i row hr ha => (hR i row hr).and' ha
  nodes := fun l r hm => by
    obtain ⟨i, hi⟩ := List.mem_iff_getElem?.mp hm
    have hlt := (List.getElem?_eq_some_iff.mp hi).1
    obtain ⟨a, b, c, d⟩ := h.pairs i l r hi
    exact ⟨by omega, by omega, by omega, by omega⟩
theorem RowFine.input {G : Gr} {i : Nat} (h : isAnd G i = false) : RowFine G i [[(i : Int)]] :=
  ⟨by simp, fun c hc => by simp at hc; subst hc; exact ⟨by simp, fun x hx => by simp at hx; subst hx; exact ⟨by omega, by omega, fun q => absurd rfl q⟩⟩, fun _ => by simp, fun q => by rw [h] at q; cases q⟩
theorem RowFine.zero {G : Gr} (h : GoodG G) : RowFine G 0 [[]] :=
  ⟨by simp, fun c hc => by simp at hc; subst hc; exact ⟨by simp, fun x hx => nomatch hx⟩, fun q => absurd q (by walk_at "om"), fun q => by
    unfold isAnd at q
    rw [show ((0 : Nat) : Int).toNat = 0 from rfl, h.zero] at q; cases q⟩
theorem RowFine.node {G : Gr} {i : Nat} {l r : Int} {ls rs ks : List (List Int)} {a b : Nat} (ha : (a : Int) < i) (hb : (b : Int) < i) (h1 : RowFine G a ls) (h2 : RowFine G b rs) (h0 : ks ≠ []) (h6 : ks.length ≤ 6) (hk : NodeP ls rs ks) : RowFine G i (ks ++ [[(i : Int)]]) := by
  have lt : ∀ d ∈ ks, ∀ x ∈ d, 0 ≤ x ∧ x < i := fun d hd x hx => by
    rcases (hk d hd).2 x hx with ⟨c, hc, hx⟩ | ⟨c, hc, hx⟩
    · obtain ⟨p, q, _⟩ := (h1.cuts c hc).2 x hx; exact ⟨p, by omega⟩
    · obtain ⟨p, q, _⟩ := (h2.cuts c hc).2 x hx; exact ⟨p, by omega⟩
  refine ⟨by simp; omega, fun c hc => ?_, fun _ => by simp, fun _ => ?_⟩
  · rcases List.mem_append.mp hc with hc | hc
    · exact ⟨(hk c hc).1, fun x hx => by have := lt c hc x hx; exact ⟨this.1, by omega, fun _ => this.2⟩⟩
    · simp at hc; subst hc
      exact ⟨by simp, fun x hx => by simp at hx; subst hx; exact ⟨by omega, by omega, fun q => absurd rfl q⟩⟩
  · obtain ⟨d, hd⟩ := List.exists_mem_of_ne_nil ks h0
    refine ⟨d, by simp [hd], fun q => ?_⟩
    have := lt d hd i (by rw [q]; simp)
    omega

section
variable {M : List Addr} {B₀ B : Mem} {s₀ s : Shared} {L : Addr} {m : Str → Option Value} {X Y : Led} {p : Addr × (Obj → Prop)}
theorem St.front (S : St M B₀ s₀ B L m (Y ++ p :: X) s) : St M B₀ s₀ B L m (p :: (Y ++ X)) s := S.perm List.perm_middle
theorem St.unfront (S : St M B₀ s₀ B L m (p :: (Y ++ X)) s) : St M B₀ s₀ B L m (Y ++ p :: X) s := S.perm List.perm_middle.symm
end
def SetsJ (B : Mem) (G : Gr) (g : Addr) (k most : Int) (t2 t3 : Tok) (i : Nat) : Inv := fun B' m X =>
  ∃ kr, m "aig" = some (.ref g) ∧ m "k" = some (.int k t2) ∧ m "most" = some (.int most t3) ∧ m "rows" = some (.ref kr) ∧ Sub B B' ∧
    ∃ us R c', X = [(kr, IsLs us), (162, TabI lamPos c')] ∧ RowsAt B' us R ∧ R.length = i + 1 ∧ (∀ (j : Nat) row, R[j]? = some row → RowFine G j row) ∧ TabB B' lamQual c'

section
variable {B : Mem} {s : Shared} {prog : Program} {w : World} {A : Around} {E : Value → Shared → Prop} {T : Heap} {mg mb : Str → Option Value} {Q : Value → Shared → Prop} {g ln li lo lt : Addr} {ns : List Value} {G : Gr}

theorem cut_sets_call {k most : Int} {t2 t3 : Tok} {c : Option Addr} (tf : TF w T mg mb) (hT : Sub T.get? B) (hB : Sub B s.heap.get?) (hA : Room A 10)
    (hg : AigHd B g ln li lo lt) (hl : At B ln (IsLs ns)) (hN : NodesAre B ns G) (hG : GoodG G) (hm0 : 1 ≤ most) (hm6 : most ≤ 6) (hk2 : 2 ≤ k) (hk4 : k ≤ 4) (hTab : TabOk B s c)
    (hQ : ∀ a us R c' B' s', Grow [162] B s B' s' → At B' a (IsLs us) → RowsAt B' us R → GoodC G R → TabOk B' s' c' → Q (.ref a) s') :
    wpAny (model prog w) A (call (.ref 181) [.ref g, .int k t2, .int most t3]) Q E s := by
  have ho := tf.K 181 _ rfl
  have hf := hT.trans hB
  obtain ⟨ht1, ht2, ht3⟩ := hTab
  refine call_st (M' := [162]) (binds := [("aig", .ref g), ("k", .int k t2), ("most", .int most t3)]) (Y := [(162, TabI lamPos c)]) (BB := B) hA (hf _ _ ho) (tf.lim.keeps hf) ((codeRec_of tf.K (by kernel_rfl)).keeps hf) hB
    (fun p hp => by simp only [List.mem_singleton] at hp; subst hp; exact ⟨ht1, ht2, .head _⟩) (by simp) (fun b hb => by simp only [List.mem_singleton] at hb; subst hb; exact let ⟨o, e, _⟩ := ht1; ⟨o, e⟩) rfl (locs rfl) ?_
  clear ho
  intro s₁ L A' hA' S
  have hnl := hN.1
  have hsz := hG.size
  have hgp := hG.pos
  walk_at "ms"
  rename (At _ _ (IsTp [])) => hemp
  rename (Sub B _) => hB1
  rename_i r _ _ _ _ hrg S3
  have nd := S3.nodup
  simp at nd
  obtain ⟨B2, o2, e1, e2, hB2, S4⟩ := (St.swap S3).freeze (by simpa using nd.2)
  refine for_range hA'.handled S4 hrg (n := G.length - 1) (by rw [rangeSize_up _ _ (by walk_at "om")]; omega) (small_up _ _ (by walk_at "om") (by walk_at "om") (by walk_at "om")) (SetsJ B G g k most t2 t3) ?_ ?_ ?_
  · refine ⟨_, by walk_at "lk", by walk_at "lk", by walk_at "lk", by walk_at "lk", hB1.trans hB2, _, [[[]]], c, rfl, All2.one ⟨_, _, rfl, ⟨o2, e1, e2⟩, All2.one ⟨_, _, rfl, hemp.mono hB2, .nil⟩⟩, rfl, fun j row hj => ?_, (ht3.mono hB1).mono hB2⟩
    match j, hj with
    | 0, hj => cases hj; exact RowFine.zero hG
  · rintro I i ti B3 m3 X3 s3 hi ⟨kr, n1, n2, n3, n4, hB3, us, R, c', rfl, hR, hRl, hfine, htab⟩ hs S5
    rw [show (1 : Int) + (i : Int) * 1 = ((i + 1 : Nat) : Int) by omega] at S5
    have hul : us.length = R.length := hR.1
    have hin : i + 1 < ns.length := by omega
    have hv := List.getElem?_eq_getElem hin
    obtain ⟨nd', hnd, hat⟩ := hN.get hv
    generalize ns[i + 1] = v at hv hat
    walk_at "ms"
    rename_i s6 S6
    refine sub_list (S6.at0 hl) (by walk_at "om") (by walk_at "om") (by rw [Int.toNat_natCast]; exact hv) ?_
    cases nd' with
    | none =>
      have hv0 : v = .none := hat
      subst hv0
      walk_at "ms"
      · rename_i a6 B6 _ _ hB6 ht6 a7 _ _ s7 S7
        have nd2 := S7.nodup
        simp at nd2
        obtain ⟨B8, o8, e1, e2, hB8, S8⟩ := S7.freeze (by simpa using nd2.1.2.2)
        have hB68 := hB6.trans hB8
        refine TurnP.next hB68 ⟨kr, by walk_at "lk", by walk_at "lk", by walk_at "lk", by walk_at "lk", hB3.trans hB68, us ++ [.ref a7], R ++ [[[((i + 1 : Nat) : Int)]]], c', rfl, (hR.mono fun _ _ h => h.mono hB68).snoc ⟨_, _, rfl, ⟨o8, e1, e2⟩, All2.one ⟨_, _, rfl, ht6.mono hB8, ints_one'⟩⟩, by simp [hRl], fun j row hj => ?_, htab.mono hB68⟩ S8
        rcases Nat.lt_or_ge j R.length with h | h
        · rw [List.getElem?_append_left h] at hj
          exact hfine j row hj
        · rw [List.getElem?_append_right h] at hj
          have : j = R.length := by have := (List.getElem?_eq_some_iff.mp hj).1; simp at this; omega
          subst this
          simp at hj
          subst hj
          rw [hRl]
          exact RowFine.input (by unfold isAnd; rw [Int.toNat_natCast, hnd]; rfl)
      · contradiction
    | some p =>
      obtain ⟨l, r⟩ := p
      obtain ⟨q, qs, rfl, hq, hj⟩ : CutAt B v [l, r] := hat
      have hpair := hG.pairs (i + 1) l r hnd
      have e0 : at' [l, r] 0 = l := rfl
      have e1' : at' [l, r] 1 = r := rfl
      have e2' : ([l, r] : List Int).length = 2 := rfl
      have row : ∀ y : Int, 2 ≤ y → y / 2 < (i + 1 : Nat) → ∃ v rw', us[(y / 2).toNat]? = some v ∧ R[(y / 2).toNat]? = some rw' ∧ RowAt B3 v rw' ∧ RowFine G (y / 2).toNat rw' := fun y h2 hlt => by
        have hy : (y / 2).toNat < R.length := by omega
        obtain ⟨v, h1, h2⟩ := hR.get' (List.getElem?_eq_getElem hy)
        exact ⟨v, _, h1, List.getElem?_eq_getElem hy, h2, hfine _ _ (List.getElem?_eq_getElem hy)⟩
      obtain ⟨v1, w1, u1, u2, u3, u4⟩ := row l hpair.1 hpair.2.1
      obtain ⟨v2, w2, x1, x2, x3, x4⟩ := row r hpair.2.2.1 hpair.2.2.2
      walk_at "ms"
      · contradiction
      · rename_i s8 S8
        rw [e0]
        refine sub_list (S8.at (by walk_at "led")) (by walk_at "om") (by walk_at "om") u1 ?_
        walk_at "ms"
        rename_i s9 S9
        rw [e1']
        refine sub_list (S9.at (by walk_at "led")) (by walk_at "om") (by walk_at "om") x1 ?_
        walk_at "ms"
        have S10 := S9.front (Y := [_, _])
        have hl1 : ([l / 2] : List Int) ∈ w1 := by
          have := u4.triv (by walk_at "om")
          rwa [Int.toNat_of_nonneg (by walk_at "om")] at this
        have hr1 : ([r / 2] : List Int) ∈ w2 := by
          have := x4.triv (by walk_at "om")
          rwa [Int.toNat_of_nonneg (by walk_at "om")] at this
        refine node_cuts_call tf (hT.trans hB3) S9.sub (hA'.mono (by walk_at "om")) u3 x3 u4.len x4.len (fun c hc => (u4.cuts c hc).1) (fun c hc => (x4.cuts c hc).1) hm0 hm6 hk4 ⟨_, hl1, _, hr1, by simp; omega⟩ ⟨S9.at (by walk_at "led"), (S10.news _ (.head _)).2.2.1, htab⟩ fun v ks c'' B4 s10 G10 hv10 hks0 hks6 hks htab10 => ?_
        obtain ⟨p1, p2, p3⟩ := htab10
        have S11 : St [162] B s B4 L _ [(I, _), (kr, IsLs us), (162, TabI lamPos (some c''))] s10 := (St.callM (Y := [(162, TabI lamPos c')]) (Y' := [(162, TabI lamPos (some c''))]) S10 G10 (fun b hb => by simpa using hb) rfl (fun p hp => by simp only [List.mem_singleton] at hp; subst hp; exact p1)).unfront (Y := [_, _])
        have hB4 := G10.sub0
        walk_at "ms"
        rename_i S12
        refine TurnP.next hB4 ⟨kr, by walk_at "lk", by walk_at "lk", by walk_at "lk", by walk_at "lk", hB3.trans hB4, us ++ [v], R ++ [ks ++ [[((i + 1 : Nat) : Int)]]], some c'', rfl, (hR.mono fun _ _ h => h.mono hB4).snoc hv10, by simp [hRl], fun j row hj => ?_, p3⟩ S12
        rcases Nat.lt_or_ge j R.length with h | h
        · rw [List.getElem?_append_left h] at hj
          exact hfine j row hj
        · rw [List.getElem?_append_right h] at hj
          have : j = R.length := by have := (List.getElem?_eq_some_iff.mp hj).1; simp at this; omega
          subst this
          simp at hj
          subst hj
          rw [hRl]
          exact RowFine.node (l := l) (r := r) (a := (l / 2).toNat) (b := (r / 2).toNat) (by walk_at "om") (by walk_at "om") u4 x4 hks0 hks6 hks
  · rintro B3 m3 X3 s3 ⟨kr, n1, n2, n3, n4, hB3, us, R, c', rfl, hR, hRl, hfine, htab⟩ hs S5
    walk_at "ms"
    have nd2 := S5.nodup
    simp at nd2
    obtain ⟨B8, o8, e1, e2, hB8, S8⟩ := S5.freeze (by simpa using nd2)
    exact hQ _ us R c' _ _ S8.toGrow ⟨o8, e1, e2⟩ (hR.mono fun _ _ h => h.mono hB8) (hG.goodC (by walk_at "om") hfine) ⟨S8.at (.head _), (S8.news _ (.head _)).2.2.1, htab.mono hB8⟩
end

/- G8 -/

section
variable {M : List Addr} {B₀ B : Mem} {s₀ s : Shared} {L : Addr} {m m' : Str → Option Value} {X Y : Led} {prog : Program} {w : World} {A : Around} {E : Value → Shared → Prop} {env : Env} {Q : Value → Shared → Prop} {T : Heap} {mg mb : Str → Option Value}

/-- back from a lemma of the library that changes one object of the ledger -/
theorem St.backU {a : Addr} {P P' : Obj → Prop} {o' : Obj} (S : St M B₀ s₀ B L m ((a, P) :: X) s) {h' : Heap} {t : Nat} (F : Fr noHeap L h' m')
    (k : ∀ b o, b ≠ L → b ≠ a → s.heap.get? b = some o → h'.get? b = some o) (e' : h'.get? a = some o') (hP : P' o') : St M B₀ s₀ B L m' ((a, P') :: X) { s with heap := h', toks := t } := by
  obtain ⟨⟨o, e, ho⟩, h1, h2, h3⟩ := S.news _ (.head _)
  have hM : ∀ b o, b ∉ M → s₀.heap.get? b = some o → b ≠ a := fun b o hb e q => by
    rcases h3 with h3 | h3
    · exact hb (q ▸ h3)
    · rw [q, h3] at e; cases e
  have hL : ∀ b o, s₀.heap.get? b = some o → b ≠ L := fun b o e q => by rw [q, S.lo] at e; cases e
  refine ⟨⟨by have := S.same; rw [this], S.live, fun b eb => ?_, fun b o hb e => k b o (hL b o e) (hM b o hb e) (S.keep b o hb e), S.sub0, fun b o e => k b o (fun q => ?_) (fun q => ?_) (S.sub b o e), S.fresh⟩, F.ns, S.lo, S.off, fun p hp => ?_, S.nodup⟩
  · by_cases q : b = a
    · rw [q, e'] at eb; cases eb
    · by_cases q1 : b = L
      · rw [q1]; exact S.lo
      · refine S.pres b ?_
        cases q2 : s.heap.get? b with
        | none => rfl
        | some o => rw [k b o q1 q q2] at eb; cases eb
  · rw [q, S.off] at e; cases e
  · rw [q, h2] at e; cases e
  · rcases List.mem_cons.mp hp with rfl | hp
    · exact ⟨⟨o', e', hP⟩, h1, h2, h3⟩
    · obtain ⟨⟨o, e, ho⟩, r1, r⟩ := S.news p (.tail _ hp)
      refine ⟨⟨o, k _ _ r1 (fun q => ?_) e, ho⟩, r1, r⟩
      exact (List.nodup_cons.mp S.nodup).1 (List.mem_map.mpr ⟨p, hp, q⟩)

/-- new objects come under the ledger -/
theorem St.adopt {a : Addr} {P : Obj → Prop} (S : St M B₀ s₀ B L m X s) (h : At s.heap.get? a P) (hB : B a = none) (h0 : s₀.heap.get? a = none) (hL : a ≠ L) (hX : ∀ p ∈ X, p.1 ≠ a) : St M B₀ s₀ B L m ((a, P) :: X) s :=
  ⟨S.toGrow, S.ns, S.lo, S.off, fun p hp => by
    rcases List.mem_cons.mp hp with rfl | hp
    · exact ⟨h, hL, hB, .inr h0⟩
    · exact S.news p hp, List.nodup_cons.mpr ⟨fun h => by
      obtain ⟨p, hp, e⟩ := List.mem_map.mp h
      exact hX p hp e, S.nodup⟩⟩

theorem putL_len (name : Str) (hs : Int) (k v : Value) : ∀ es : List DictEntry, (putL name hs k v es).length ≤ es.length + 1
  | [] => by simp [putL]
  | e :: r => by
    have := putL_len name hs k v r
    unfold putL
    split <;> simp <;> omega
theorem set_attr {x dx : Addr} {es : List DictEntry} {es' : Tok → List DictEntry} {name : Str} {v : Value} {Q : Unit → Shared → Prop} (tf : TF w T mg mb) (hT : Sub T.get? B₀) (S : St M B₀ s₀ B L m ((dx, IsD es) :: X) s) (hx : At s.heap.get? x (IsInst dx))
    (hs : findIn (KK w) (.ref 142) "__setattr__" = some (some (.builtin "object.__setattr__"))) (hp : plainOver (KK w) 142 = true) (ht : takerIn (KK w) 142 name = some none) (hl : (getL name es).isSome = true)
    (e : ∀ t, putL name (PyData.keyHash w.params name) (.str name t) v es = es' t) (hz : es.length ≤ 900)
    (h : ∀ t s', St M B₀ s₀ B L m ((dx, IsD (es' t)) :: X) s' → Q () s') : wpAny (model prog w) A (setAttr (.ref x) name v) Q E s := by
  obtain ⟨⟨od, eo, n, rfl⟩, h1, _, _⟩ := S.news _ (.head _)
  obtain ⟨ox, ex, rfl⟩ := hx
  have I : InstAt s.heap x (instObj 142 dx) 142 (some (dictOf es n)) := ⟨ex, rfl, rfl, eo⟩
  have N : News noHeap L s.heap ((dx, dictOf es n) :: (allOf s.heap L).filter fun p => decide (p.1 ≠ dx)) := fun p hp => by
    rcases List.mem_cons.mp hp with rfl | hp
    · exact ⟨eo, h1, noHeap_get _⟩
    · exact S.ne p (List.mem_filter.mp hp).1
  have U : Upd dx (dictOf es n) (dictOf (es' (s.toks + 1)) (putN name es n)) ((dx, dictOf es n) :: (allOf s.heap L).filter fun p => decide (p.1 ≠ dx)) ((dx, dictOf (es' (s.toks + 1)) (putN name es n)) :: (allOf s.heap L).filter fun p => decide (p.1 ≠ dx)) :=
    .head fun p hp => of_decide_eq_true (List.mem_filter.mp hp).2
  obtain ⟨e1, e2⟩ : (putL name (PyData.keyHash w.params name) (.str name (s.toks + 1)) v es, putN name es n).1 = es' (s.toks + 1) ∧ True := ⟨e _, trivial⟩
  refine set_plain (S.inK hT tf) I hs ?_
  refine osa_dict (s := { s with toks := s.toks + 1 }) (pre := []) (post := (allOf s.heap L).filter fun p => decide (p.1 ≠ dx)) (od' := dictOf (es' (s.toks + 1)) (putN name es n)) S.fr N (S.inK hT tf) I rfl hp ht (by kernel_rfl) (by rw [lookIn_dict]; exact hl) (fun _ h => nomatch h) (fun p hp => of_decide_eq_true (List.mem_filter.mp hp).2) (by rw [putName_dict]; exact congrArg (fun l => dictOf l (putN name es n)) (e _)) rfl (by rw [← e (s.toks + 1)]; exact Nat.le_trans (putL_len ..) (by walk_at "om")) fun h' F' N' => ?_
  exact h _ _ (S.backU (t := s.toks + 1 + 1) F' (fun b o hL hb q => (N' (b, o) (.tail _ (List.mem_filter.mpr ⟨mem_allOf.mpr ⟨q, hL⟩, decide_eq_true hb⟩))).1) (N' _ (.head _)).1 ⟨_, rfl⟩)
end

theorem code_stM {s : Shared} {prog : Program} {w : World} {A : Around} {R : Result → Shared → Prop} {M' : List Addr} {Y : Led} {BB : Mem} {name qual : Str} {params : Arguments} {body : List Stmt} {scope : Scope} {pm cd doc : Value} {f : Addr} {args : List Value} {binds : List (Str × Value)}
    {k : Nat} (hA : Room A (k + 1)) (ho : s.heap.get? f = some { cls := .type "function", data := .func (methDef name qual params body scope pm cd doc) }) (hlim : s.heap.NoLimit) (hcd : s.heap.CodeRec cd qual)
    (hB : Sub BB s.heap.get?) (hY : ∀ p ∈ Y, At s.heap.get? p.1 p.2 ∧ BB p.1 = none ∧ p.1 ∈ M') (hd : (Y.map (·.1)).Nodup) (hM : ∀ b ∈ M', ∃ o, s.heap.get? b = some o)
    (hbind : bindArgs (methDef name qual params body scope pm cd doc) ⟨args, []⟩ = pure binds)
    (hloc : ∀ x ∈ binds, scope.names.lookup x.1 = some .local)
    (h : ∀ s₁ L A', Room A' k → St M' BB s BB L (fun x => binds.reverse.lookup x) Y s₁ →
      wpAny (model prog w) A' (execs body (envOf qual scope L f cd)) (Rn fun v s' => R (.ok (.ret v)) s') (fun _ _ => False) s₁)
    (hco : scope.isCoroutine = false := by rfl) (hgen : scope.isGenerator = false := by rfl) (hk : scope.kind = .function := by rfl)
    (hcell : ∀ x ∈ scope.names, x.2 ≠ .cell := by decide) :
    codeAny (model prog w) A (.call (.ref f) ⟨args, []⟩) R s := by
  refine codeAny_call_def (fd := methDef name qual params body scope pm cd doc) (body := body) (binds := binds) (by have := hA.depth; omega) ho rfl hlim hcd rfl (.of_eq hbind) hcell hloc (fun h₁ hns hk₁ => ?_) hco hgen hk
  have F : Fr s.heap s.heap.objs.size h₁ (fun y => binds.reverse.lookup y) := ⟨hns, hk₁, Nat.le_refl _⟩
  exact wpAny_mono (h _ _ _ hA.deeper (St.enter F hB hM hY hd)) (fun _ _ x => x) fun _ _ x => x.elim
def TabOn (prog : Program) (w : World) (xs : List (List Int × Addr × Value)) : Obj → Prop := fun o => o.ExactDict ∧ ∃ es ep, o.data = .dict es ep ∧ es.toList = xs.map (entryOfKey (tupleKind (intKind prog w)))
def NewAt (B : Mem) (s s' : Shared) (a : Addr) (P : Obj → Prop) : Prop := At s'.heap.get? a P ∧ B a = none ∧ s.heap.get? a = none
section
variable {B : Mem} {s : Shared} {prog : Program} {w : World} {A : Around} {E : Value → Shared → Prop} {T : Heap} {mg mb : Str → Option Value} {Q : Value → Shared → Prop}

theorem init_code {R : Result → Shared → Prop} {x dx : Addr} (tf : TF w T mg mb) (hT : Sub T.get? B) (hB : Sub B s.heap.get?) (hA : Room A 2) (hx : At s.heap.get? x (IsInst dx)) (hne : x ≠ dx) (hd : At s.heap.get? dx (IsD [])) (hd0 : B dx = none)
    (hQ : ∀ ln li lo lt es B' s', Grow [dx] B s B' s' → At s'.heap.get? dx (IsD es) → B' dx = none → Es es ln li lo lt → NewAt B' s s' ln (IsLs [.none]) → NewAt B' s s' li (IsLs []) → NewAt B' s s' lo (IsLs []) → NewAt B' s s' lt (TabOn prog w []) →
      [lt, lo, li, ln].Nodup → lt ≠ 1 → R (.ok (.ret .none)) s') :
    codeAny (model prog w) A (.call (.ref 61) ⟨[.ref x], []⟩) R s := by
  have ho := tf.K 61 _ rfl
  have hf := hT.trans hB
  refine code_stM (M' := [dx]) (binds := [("self", .ref x)]) (Y := [(dx, IsD [])]) (BB := B) hA (hf _ _ ho) (tf.lim.keeps hf) ((codeRec_of tf.K (by kernel_rfl)).keeps hf) hB
    (fun p hp => by simp only [List.mem_singleton] at hp; subst hp; exact ⟨hd, hd0, .head _⟩) (by simp) (fun b hb => by simp only [List.mem_singleton] at hb; subst hb; exact let ⟨o, e, _⟩ := hd; ⟨o, e⟩) rfl (locs rfl) ?_
  clear ho
  intro s₁ L A' hA' S
  have hxM : x ∉ [dx] := by simpa using hne
  walk_at "ms"
  rename_i ln s2 S2
  refine set_attr tf hT (St.swap S2) (S2.kept hx hxM) (by kernel_rfl) (by kernel_rfl) (by kernel_rfl) rfl (fun t => rfl) (by simp) fun t1 s3 S3 => ?_
  walk_at "ms"
  rename_i li s4 S4
  refine set_attr tf hT (St.swap S4) (S4.kept hx hxM) (by kernel_rfl) (by kernel_rfl) (by kernel_rfl) rfl (fun t => rfl) (Nat.le_trans (putL_len ..) (by simp)) fun t2 s5 S5 => ?_
  walk_at "ms"
  rename_i lo s6 S6
  refine set_attr tf hT (St.swap S6) (S6.kept hx hxM) (by kernel_rfl) (by kernel_rfl) (by kernel_rfl) rfl (fun t => rfl) (Nat.le_trans (putL_len ..) (Nat.le_trans (Nat.add_le_add_right (putL_len ..) 1) (by simp))) fun t3 s7 S7 => ?_
  walk_at "ms"
  refine wpAny_Dict_empty ?_
  have hsz : (208 : Nat) < s7.heap.objs.size := Heap.lt_size (S7.top hT _ _ (tf.K 208 _ rfl))
  have S8 := S7.push (t := s7.toks) (P := TabOn prog w []) ({ cls := .type "dict", data := .dict #[] } : Obj) ⟨⟨rfl, rfl, rfl⟩, #[], 0, rfl, rfl⟩
  generalize hlt : s7.heap.objs.size = lt at S8 hsz
  walk_at "ms"
  refine set_attr tf hT (St.swap S8) (S8.kept hx hxM) (by kernel_rfl) (by kernel_rfl) (by kernel_rfl) rfl (fun t => rfl) (Nat.le_trans (putL_len ..) (Nat.le_trans (Nat.add_le_add_right (putL_len ..) 1) (Nat.le_trans (Nat.add_le_add_right (Nat.add_le_add_right (putL_len ..) 1) 1) (by simp)))) fun t4 s9 S9 => ?_
  walk_at "ms"
  have new : ∀ {a : Addr} {P : Obj → Prop}, (a, P) ∈ [(lt, TabOn prog w []), (lo, IsLs []), (li, IsLs []), (ln, IsLs [.none])] → a ≠ dx → NewAt B s s9 a P := fun {a P} hp hne => by
    obtain ⟨p1, p2, p3, p4⟩ := S9.news (a, P) (.tail _ hp)
    exact ⟨p1, p3, p4.resolve_left (by simpa using hne)⟩
  have nd := S9.nodup
  simp only [List.map_cons, List.map_nil] at nd
  obtain ⟨nd1, nd2⟩ := List.nodup_cons.mp nd
  simp only [List.mem_cons, List.not_mem_nil, or_false, not_or] at nd1
  refine hQ ln li lo lt _ B s9 S9.toGrow (S9.at (.head _)) (S9.news _ (.head _)).2.2.1 ⟨rfl, rfl, rfl, rfl, rfl, rfl, rfl, rfl⟩ (new (by simp) (Ne.symm nd1.2.2.2)) (new (by simp) (Ne.symm nd1.2.2.1)) (new (by simp) (Ne.symm nd1.2.1)) (new (by simp) (Ne.symm nd1.1)) nd2 (fun q => ?_)
  rw [q] at hsz
  exact absurd hsz (by decide)

theorem Room.make {k : Nat} {C : Addr} (h : Room A (k + 1)) : Room (A.under (.builtin "type.__call__" ⟨[.ref C], []⟩)) k :=
  ⟨h.handled, by have := h.depth; show A.depth + 1 + k < recursionLimit; omega, by have := h.units; show A.units + 1 + 80 * k < cLine; omega⟩
variable {M : List Addr} {B₀ : Mem} {s₀ : Shared} {L : Addr} {m : Str → Option Value} {X : Led}
theorem aig_make (tf : TF w T mg mb) (hT : Sub T.get? B₀) (hA : Room A 4) (S : St M B₀ s₀ B L m X s)
    (hQ : ∀ g ln li lo lt B' s', St M B₀ s₀ B' L m ((ln, IsLs [.none]) :: (li, IsLs []) :: (lo, IsLs []) :: (lt, TabOn prog w []) :: X) s' → Sub B B' → AigHd B' g ln li lo lt → lt ≠ 1 → Q (.ref g) s') :
    wpAny (model prog w) A (call (.ref 142) []) Q E s := by
  refine wpAny_call (make_K (fI := 61) S.fr S.ne (S.inK hT tf) (by kernel_rfl) (by kernel_rfl) (by kernel_rfl) fun x dx h' F' N' hlt hlt2 => ?_)
  have S1 := S.back (t := s.toks) F' (fun p hp => N' p (.tail _ (.tail _ hp)))
  have nx := N' _ (.head _)
  have nd := N' _ (.tail _ (.head _))
  have old : ∀ {b}, dx ≤ b → b ≠ L → s.heap.get? b = none := fun {b} hb hL => by
    cases q : s.heap.get? b with
    | none => rfl
    | some o => exact absurd (Nat.lt_of_lt_of_le (hlt (b, o) (mem_allOf.mpr ⟨q, hL⟩)) hb) (Nat.lt_irrefl _)
  have hdx0 := old (Nat.le_refl _) nd.2.1
  have hx0 := old (Nat.le_of_lt hlt2) nx.2.1
  have bn : ∀ {b}, s.heap.get? b = none → B b = none := fun {b} e => by
    cases q : B b with
    | none => rfl
    | some o => rw [S.sub _ _ q] at e; cases e
  have xn : ∀ {b}, s.heap.get? b = none → ∀ p ∈ X, p.1 ≠ b := fun {b} e p hp q => by
    obtain ⟨⟨o, eo, _⟩, _⟩ := S.news p hp
    rw [q, e] at eo; cases eo
  have S2 := S1.adopt (a := dx) (P := IsD []) ⟨_, nd.1, 0, rfl⟩ (bn hdx0) (S.pres _ hdx0) nd.2.1 (xn hdx0)
  obtain ⟨S3, sb3⟩ := S2.takeB (a := x) nx.1 (bn hx0) (S.pres _ hx0) nx.2.1 (fun p hp => by
    rcases List.mem_cons.mp hp with rfl | hp
    · exact Nat.ne_of_lt hlt2
    · exact xn hx0 p hp)
  have hxB : At (Mine.ext B x (instObj 142 dx)) x (IsInst dx) := ⟨_, ext_self, rfl⟩
  refine init_code tf ((hT.trans S.sub0).trans sb3) S3.sub (hA.mono (by walk_at "om") : Room A 3).make (S3.atB hxB) (Nat.ne_of_gt hlt2) (S3.at (.head _)) (S3.news _ (.head _)).2.2.1 fun ln li lo lt es B4 s4 G4 hd4 hd40 hes nln nli nlo nlt hnod hlt1 => ⟨rfl, ?_⟩
  have S4 := S3.callM (Y := [(dx, IsD [])]) (Y' := [(dx, IsD es)]) G4 (fun b hb => by simpa using hb) rfl (fun p hp => by simp only [List.mem_singleton] at hp; subst hp; exact hd4)
  have hdM : dx ∉ M := fun q => by
    obtain ⟨o, e⟩ := S.live _ q
    rw [S.pres _ hdx0] at e; cases e
  have ad : ∀ {a : Addr} {P : Obj → Prop} {Z : Led}, NewAt B4 { s with heap := h' } s4 a P → St M B₀ s₀ B4 L m (Z ++ (dx, IsD es) :: X) s4 → (∀ p ∈ Z, p.1 ≠ a) → St M B₀ s₀ B4 L m ((a, P) :: (Z ++ (dx, IsD es) :: X)) s4 := fun {a P Z} hn S6 hz => by
    obtain ⟨h1, h2, h3⟩ := hn
    have h3' : h'.get? a = none := h3
    have haL : a ≠ L := fun q => by
      obtain ⟨oL, es, ep, eL, _⟩ := F'.ns
      rw [q, eL] at h3'; cases h3'
    have ha0 : s.heap.get? a = none := by
      cases q : s.heap.get? a with
      | none => rfl
      | some o => have := (N' (a, o) (.tail _ (.tail _ (mem_allOf.mpr ⟨q, haL⟩)))).1; rw [h3'] at this; cases this
    refine S6.adopt h1 h2 (S.pres _ ha0) haL (fun p hp => ?_)
    rcases List.mem_append.mp hp with hp | hp
    · exact hz p hp
    · rcases List.mem_cons.mp hp with rfl | hp
      · intro q
        have q : dx = a := q
        rw [← q, nd.1] at h3'; cases h3'
      · exact xn ha0 p hp
  simp only [List.nodup_cons, List.mem_cons, List.not_mem_nil, or_false, not_or] at hnod
  have S6 := ad (Z := []) nlt S4 (fun _ h => nomatch h)
  have S7 := ad (Z := [_]) nlo S6 (fun p hp => by simp only [List.mem_singleton] at hp; subst hp; exact hnod.1.1)
  have S8 := ad (Z := [_, _]) nli S7 (fun p hp => by
    simp only [List.mem_cons, List.not_mem_nil, or_false] at hp
    rcases hp with rfl | rfl
    · exact hnod.2.1.1
    · exact hnod.1.2.1)
  have S9 := ad (Z := [_, _, _]) nln S8 (fun p hp => by
    simp only [List.mem_cons, List.not_mem_nil, or_false] at hp
    rcases hp with rfl | rfl | rfl
    · exact hnod.2.2.1
    · exact hnod.2.1.2
    · exact hnod.1.2.2)
  obtain ⟨B5, o5, e1, e2, hB5, S10⟩ := St.freeze (St.front (Y := [_, _, _, _]) S9) hdM
  exact hQ x ln li lo lt B5 s4 S10 ((sb3.trans G4.sub0).trans hB5) ⟨dx, es, (hxB.mono G4.sub0).mono hB5, ⟨o5, e1, e2⟩, hes⟩ hlt1
end

/- G9 -/

abbrev Tab := List (List Int × Addr × Value)
theorem ints_two {x y : Int} {t1 t2 : Tok} : Ints [.int x t1, .int y t2] [x, y] := ⟨rfl, fun i a b ha hb => by
  match i, ha, hb with
  | 0, ha, hb => cases ha; cases hb; exact ⟨_, rfl⟩
  | 1, ha, hb => cases ha; cases hb; exact ⟨_, rfl⟩⟩
structure TabFine (B : Mem) (xs : Tab) (n : Nat) : Prop where
  keys : ∀ x ∈ xs, CutAt B (.ref x.2.1) x.1
  nodup : (xs.map (·.1)).Nodup
  vals : ∀ x ∈ xs, ∃ k t, x.2.2 = .int k t ∧ 1 ≤ k ∧ k < n
  len : xs.length ≤ n
theorem TabFine.mono {B C : Mem} {xs : Tab} {n : Nat} (h : TabFine B xs n) (k : Sub B C) : TabFine C xs n := ⟨fun x hx => (h.keys x hx).mono k, h.nodup, h.vals, h.len⟩
theorem ints_items {prog : Program} {w : World} : ∀ {vs : List Value} {ks : List Int}, Ints vs ks → PySem.ItemsAre (intKind prog w) ks vs
  | [], [], _ => .nil
  | [], _ :: _, h => by have := h.1; simp at this
  | _ :: _, [], h => by have := h.1; simp at this
  | v :: vs, k :: ks, h => by
    obtain ⟨t, e⟩ := h.2 0 v k rfl rfl
    refine .cons ?_ (ints_items ⟨by have := h.1; simpa using this, fun i x y hx hy => h.2 (i + 1) x y (by simpa using hx) (by simpa using hy)⟩)
    show Value.isInt k v = true
    rw [e]; show (k == k) = true; simp
theorem cut_key {prog : Program} {w : World} {h : Heap} {a : Addr} {ks : List Int} (hc : CutAt h.get? (.ref a) ks) : IsTupleKey (intKind prog w) h ks a := by
  obtain ⟨b, vs, e, ⟨o, eo, n, rfl⟩, hi⟩ := hc
  cases e
  exact ⟨_, vs.toArray, n, eo, rfl, rfl, by simpa using ints_items hi⟩
theorem tab_dict {prog : Program} {w : World} {h : Heap} {B : Mem} {d : Addr} {xs : Tab} {n : Nat} (hB : Sub B h.get?) (hd : At h.get? d (TabOn prog w xs)) (hf : TabFine B xs n) : h.DictOfH (tupleKind (intKind prog w)) d xs := by
  obtain ⟨o, eo, hx, es, ep, h1, h2⟩ := hd
  exact ⟨o, es, ep, eo, hx, h1, h2, fun x hx => cut_key ((hf.keys x hx).mono hB), hf.nodup⟩

section
variable {M : List Addr} {B₀ B : Mem} {s₀ s : Shared} {L : Addr} {m : Str → Option Value} {X X' : Led} {prog : Program} {w : World} {A : Around} {E : Value → Shared → Prop} {lt a : Addr} {xs : Tab} {n : Nat} {x y : Int} {t1 t2 : Tok} {v : Value}
theorem tab_method {pl : Sem Bool} {Q : Value × List Value → Shared → Prop} (S : St M B₀ s₀ B L m X s) (hd : At s.heap.get? lt (TabOn prog w xs)) (h : Q (.builtin "dict.get", [.ref lt]) s) : wpAny (model prog w) A (getMethod (.ref lt) "get" pl) Q E s := by
  obtain ⟨o, eo, hx, es, ep, h1, h2⟩ := hd
  exact getMethod_builtin ⟨o, eo, hx.1⟩ PySem.F.plainAttrs_dict PySem.F.slot_dict_get PySem.F.type_dict_get (fun b e => by injection e with e; subst e; exact ⟨o, eo, hx.2.1⟩) h
theorem tab_get {dflt : Value} {Q : Value → Shared → Prop} (S : St M B₀ s₀ B L m X s) (hd : At s.heap.get? lt (TabOn prog w xs)) (hf : TabFine B xs n) (hlt1 : lt ≠ 1) (ha : At B a (IsTp [.int x t1, .int y t2])) (hu : A.units + 1 < cLine)
    (h : ∀ v s', St M B₀ s₀ B L m X s' → ((v = dflt ∧ atKey xs [x, y] = none) ∨ ∃ k t, v = .int k t ∧ 1 ≤ k ∧ k < n) → Q v s') : wpAny (model prog w) A (call (.builtin "dict.get") [.ref lt, .ref a, dflt]) Q E s := by
  have hD := tab_dict (prog := prog) (w := w) S.sub hd hf
  have hkey : IsTupleKey (intKind prog w) s.heap [x, y] a := cut_key (CutAt.mono ⟨a, _, rfl, ha, ints_two⟩ S.sub)
  have lo : (lt == sysModules) = false := by
    have : lt ≠ sysModules := hlt1
    simpa using this
  refine call_meetsIn PySem.F.slot_dict_get hD.typeIs PySem.F.entry_dict_get (PySem.F.args_dict_get_3 _ _ _) (meetsH_dict_get_default (tupleKind (intKind prog w)) lt a lo dflt) ⟨tupleKind_room_in1 hu, [x, y], xs, hkey, hD, h _ _ (S.tok _) ?_⟩
  cases q : atKey xs [x, y] with
  | none => exact .inl ⟨rfl, rfl⟩
  | some p =>
    refine .inr ?_
    unfold atKey at q
    obtain ⟨z, hz, e⟩ := Option.map_eq_some_iff.mp q
    obtain ⟨k, t, e1, e2⟩ := hf.vals z (List.mem_of_find?_eq_some hz)
    refine ⟨k, t, ?_, e2⟩
    rw [← e]; exact e1
theorem tab_set {Q : Unit → Shared → Prop} (S : St M B₀ s₀ B L m X s) (U : LUpd lt (TabOn prog w xs) (TabOn prog w (xs ++ [([x, y], a, v)])) X X') (hf : TabFine B xs n) (hn : n ≤ 1000) (ha : At B a (IsTp [.int x t1, .int y t2])) (hu : A.units + 1 < cLine) (hk : atKey xs [x, y] = none)
    (h : ∀ s', St M B₀ s₀ B L m X' s' → Q () s') : wpAny (model prog w) A (setItem (.ref lt) (.ref a) v) Q E s := by
  have hD := tab_dict (prog := prog) (w := w) S.sub (S.at U.mem) hf
  have hkey : IsTupleKey (intKind prog w) s.heap [x, y] a := cut_key (CutAt.mono ⟨a, _, rfl, ha, ints_two⟩ S.sub)
  refine wpAny_setItem_heap (knd := tupleKind (intKind prog w)) (tupleKind_room_in1 hu) hkey hD (fun h' hD' hs => h _ ?_) (by have := hf.len; rw [sizeLine_eq]; omega)
  rw [storedH_new hk] at hD'
  obtain ⟨o, es, ep, e, hx, h1, h2, _, _⟩ := hD'
  exact S.updL U hs e ⟨hx, es, ep, h1, h2⟩
end

section
variable {B : Mem} {s : Shared} {prog : Program} {w : World} {A : Around} {E : Value → Shared → Prop} {T : Heap} {mg mb : Str → Option Value} {Q : Value → Shared → Prop} {g ln li lo lt : Addr} {ns : List Value} {G : Gr}

theorem add_input_call {is : List Value} (tf : TF w T mg mb) (hT : Sub T.get? B) (hB : Sub B s.heap.get?) (hA : Room A 2)
    (hg : AigHd B g ln li lo lt) (hl : At s.heap.get? ln (IsLs ns)) (hi : At s.heap.get? li (IsLs is)) (hl0 : B ln = none) (hi0 : B li = none) (hne : ln ≠ li) (hns : ns.length ≤ 100) (his : is.length ≤ 100)
    (hQ : ∀ t t' s', Grow [ln, li] B s B s' → At s'.heap.get? ln (IsLs (ns ++ [.none])) → At s'.heap.get? li (IsLs (is ++ [.int ns.length t'])) → Q (.int (2 * ns.length) t) s') :
    wpAny (model prog w) A (call (.ref 68) [.ref g]) Q E s := by
  have ho := tf.K 68 _ rfl
  have hf := hT.trans hB
  refine call_stM (M' := [ln, li]) (binds := [("self", .ref g)]) (Y := [(ln, IsLs ns), (li, IsLs is)]) (BB := B) hA (hf _ _ ho) (tf.lim.keeps hf) ((codeRec_of tf.K (by kernel_rfl)).keeps hf) hB
    (fun p hp => by
      simp only [List.mem_cons, List.not_mem_nil, or_false] at hp
      rcases hp with rfl | rfl
      · exact ⟨hl, hl0, .head _⟩
      · exact ⟨hi, hi0, .tail _ (.head _)⟩) (by simpa using hne) (fun b hb => by
      simp only [List.mem_cons, List.not_mem_nil, or_false] at hb
      rcases hb with rfl | rfl
      · exact let ⟨o, e, _⟩ := hl; ⟨o, e⟩
      · exact let ⟨o, e, _⟩ := hi; ⟨o, e⟩) rfl (locs rfl) ?_
  clear ho
  intro s₁ L A' hA' S
  walk_at "ms"
  rename_i S9
  exact hQ _ _ _ S9.toGrow (S9.at (by walk_at "led")) (S9.at (by walk_at "led"))

theorem land_call {xs : Tab} {l r : Int} {tl tr : Tok} (tf : TF w T mg mb) (hT : Sub T.get? B) (hB : Sub B s.heap.get?) (hA : Room A 2)
    (hg : AigHd B g ln li lo lt) (hl : At s.heap.get? ln (IsLs ns)) (hN : NodesAre B ns G) (ht : At s.heap.get? lt (TabOn prog w xs)) (hx : TabFine B xs G.length) (hl0 : B ln = none) (ht0 : B lt = none) (hne : ln ≠ lt) (hlt1 : lt ≠ 1) (hns : G.length ≤ 50) (hpos : 1 ≤ G.length)
    (h1 : 0 ≤ l) (h2 : l / 2 < G.length) (h3 : 0 ≤ r) (h4 : r / 2 < G.length)
    (hQ : ∀ (z : Int) t ns' (G' : Gr) xs' B' s', Grow [ln, lt] B s B' s' → At s'.heap.get? ln (IsLs ns') → NodesAre B' ns' G' → At s'.heap.get? lt (TabOn prog w xs') → TabFine B' xs' G'.length → B' ln = none → B' lt = none → 0 ≤ z → z / 2 < G'.length →
      (G' = G ∨ ∃ a b : Int, G' = G ++ [some (a, b)] ∧ 2 ≤ a ∧ 2 ≤ b ∧ a / 2 < G.length ∧ b / 2 < G.length) → Q (.int z t) s') :
    wpAny (model prog w) A (call (.ref 89) [.ref g, .int l tl, .int r tr]) Q E s := by
  have ho := tf.K 89 _ rfl
  have hf := hT.trans hB
  refine call_stM (M' := [ln, lt]) (binds := [("self", .ref g), ("l", .int l tl), ("r", .int r tr)]) (Y := [(ln, IsLs ns), (lt, TabOn prog w xs)]) (BB := B) hA (hf _ _ ho) (tf.lim.keeps hf) ((codeRec_of tf.K (by kernel_rfl)).keeps hf) hB
    (fun p hp => by
      simp only [List.mem_cons, List.not_mem_nil, or_false] at hp
      rcases hp with rfl | rfl
      · exact ⟨hl, hl0, .head _⟩
      · exact ⟨ht, ht0, .tail _ (.head _)⟩) (by simpa using hne) (fun b hb => by
      simp only [List.mem_cons, List.not_mem_nil, or_false] at hb
      rcases hb with rfl | rfl
      · exact let ⟨o, e, _⟩ := hl; ⟨o, e⟩
      · exact let ⟨o, e, _⟩ := ht; ⟨o, e⟩) rfl (locs rfl) ?_
  clear ho
  intro s₁ L A' hA' S
  have hnl := hN.1
  have same : ∀ {z : Int} {t : Tok} {m : Str → Option Value} {s' : Shared} {B' : Mem}, 0 ≤ z → z / 2 < G.length → St [ln, lt] B s B' L m [(ln, IsLs ns), (lt, TabOn prog w xs)] s' → Q (.int z t) s' := fun z0 z1 S' =>
    hQ _ _ ns G xs _ _ S'.toGrow (S'.at (.head _)) (hN.mono fun _ _ h => h.mono S'.sub0) (S'.at (.tail _ (.head _))) (hx.mono S'.sub0) (S'.news _ (.head _)).2.2.1 (S'.news _ (.tail _ (.head _))).2.2.1 z0 z1 (.inl rfl)
  have more : ∀ {x y : Int} {a8 a9 : Addr} {t1 t2 t3 t4 t5 t6 : Tok} {m : Str → Option Value} {s' : Shared} {B' : Mem}, 2 ≤ x → x / 2 < G.length → 2 ≤ y → y / 2 < G.length → atKey xs [x, y] = none → At B' a8 (IsTp [.int x t1, .int y t2]) → At B' a9 (IsTp [.int x t3, .int y t4]) →
      St [ln, lt] B s B' L m [(ln, IsLs (ns ++ [.ref a8])), (lt, TabOn prog w (xs ++ [([x, y], a9, .int ns.length t5)]))] s' → Q (.int (2 * ns.length) t6) s' := fun {x y a8 a9 t1 t2 t3 t4 t5 t6 m s' B'} x0 x1 y0 y1 hk h8 h9 S' => by
    have hx' := hx.mono S'.sub0
    refine hQ _ _ _ (G ++ [some (x, y)]) _ _ _ S'.toGrow (S'.at (.head _)) (All2.snoc (hN.mono fun _ _ h => h.mono S'.sub0) (show NodeAt B' _ (some (x, y)) from ⟨a8, _, rfl, h8, ints_two⟩)) (S'.at (.tail _ (.head _))) ⟨fun z hz => ?_, ?_, fun z hz => ?_, ?_⟩
      (S'.news _ (.head _)).2.2.1 (S'.news _ (.tail _ (.head _))).2.2.1 (by walk_at "om") (by rw [List.length_append]; simp; omega) (.inr ⟨x, y, rfl, x0, y0, x1, y1⟩)
    · rcases List.mem_append.mp hz with hz | hz
      · exact hx'.keys z hz
      · simp only [List.mem_singleton] at hz; subst hz; exact ⟨a9, _, rfl, h9, ints_two⟩
    · rw [List.map_append, List.nodup_append]
      refine ⟨hx'.nodup, by simp, fun u hu v hv q => ?_⟩
      simp only [List.map_cons, List.map_nil, List.mem_singleton] at hv
      subst hv
      obtain ⟨z, hz, e⟩ := List.mem_map.mp hu
      unfold atKey at hk
      have := List.find?_eq_none.mp (Option.map_eq_none_iff.mp hk) z hz
      exact this (by simp [e, q])
    · rw [List.length_append]
      rcases List.mem_append.mp hz with hz | hz
      · obtain ⟨k, t, e1, e2, e3⟩ := hx'.vals z hz
        exact ⟨k, t, e1, e2, by simp; omega⟩
      · simp only [List.mem_singleton] at hz; subst hz; exact ⟨ns.length, t5, rfl, by omega, by simp; omega⟩
    · have := hx'.len
      simp; omega
  have hu : A'.units + 1 < cLine := by have := hA'.units; omega
  walk_at "ms"
  all_goals first
    | exact same (by walk_at "om") (by walk_at "om") (by assumption)
    | (rename_i S5
       refine tab_method S5 (S5.at (by walk_at "led")) ?_
       refine PyProof.Rows.callWith_method1 ?_
       walk_at "ms"
       rename_i a7 B7 _ _ hB7 ha7 _ _ _ _ s7 S7
       refine tab_get (n := G.length) S7 (S7.at (by walk_at "led")) (hx.mono S7.sub0) hlt1 ha7 hu fun v s8 S8 hv => ?_
       rcases hv with ⟨rfl, hnone⟩ | ⟨k, t, rfl, hk1, hk2⟩
       · walk_at "ms"
         rename_i a8 B8 _ _ hB8 ha8 _ _ _ _ a9 B9 s9 S9 hB9 ha9
         refine tab_set (n := G.length) S9 (by walk_at "lupd") (hx.mono S9.sub0) (by walk_at "om") ha9 hu hnone fun s10 S10 => ?_
         walk_at "ms"
         exact more (by walk_at "om") (by walk_at "om") (by walk_at "om") (by walk_at "om") hnone (ha8.mono hB9) ha9 (by assumption)
       · walk_at "ms"
         exact same (by walk_at "om") (by walk_at "om") (by assumption))
end

/- G10 -/

def IsSrc (ls : Addr) : Obj → Prop := fun o => ∃ a ta b tb, IsLs [.ref ls, .int a ta, .int b tb] o ∧ 0 ≤ a ∧ 0 ≤ b ∧ b < 2147483648
def IsPool : Obj → Prop := fun o => ∃ vs xs, IsLs vs o ∧ Ints vs xs ∧ vs.length ≤ 63

section
variable {M : List Addr} {B₀ B : Mem} {s₀ s : Shared} {L : Addr} {m : Str → Option Value} {X X' : Led} {prog : Program} {w : World} {A : Around} {E : Value → Shared → Prop} {env : Env} {Q : Value → Shared → Prop} {l k : Addr} {vs : List Value}
theorem ne_empty (hl : At s.heap.get? l (IsLs vs)) (hk : At s.heap.get? k (IsLs [])) (hu : A.units < cLine) (h : Q (.bool (!vs.isEmpty)) s) : wpAny (model prog w) A (compareOp .NotEq (.ref l) (.ref k)) Q E s := by
  cases vs with
  | nil =>
    have r := RcNeAt.lists (A := A) (e := fun _ => true) hl.isList hk.isList rfl hu (fun j h1 h2 => by simp at h1)
    exact r prog w E Q h
  | cons v vs =>
    have r := RcNeAt.lists_lengths (A := A) hl.isList hk.isList (by simp) hu
    exact r prog w E Q h

def PopG (l : Addr) (Q : Value → Shared → Prop) (v : Value) (s₁ : Shared) : Prop :=
  ∃ items n i u k y, items.size ≤ sizeLine ∧ v = .int i u ∧ IsL s₁.heap l items n ∧ Builtin.List.listFitsIndex i = true ∧ seqIndex? i items.size = some k ∧ items[k]? = some y ∧ Q y { s₁ with heap := s₁.heap.update l (Obj.mapSeq fun xs => xs.eraseIdxIfInBounds k) }
theorem pop_method {pos : Pos} {e : Expr} {pl : Sem Bool} (hl : At s.heap.get? l (IsLs vs)) (h : wpAny (model prog w) A (eval e env) (PopG l Q) E s)
    (he : starEach [e] env = [(false, eval e env)] := by rfl) :
    wpAny (model prog w) A (getMethod (.ref l) "pop" pl) (fun fx s₂ => wpAny (model prog w) A (callWith pos fx.1 fx.2 (backTo pos (starEach [e] env)) []) Q E s₂) E s := by
  obtain ⟨o, eo, n, rfl⟩ := hl
  refine getMethod_builtin ⟨_, eo, rfl⟩ PySem.F.plainAttrs_list PySem.F.slot_list_pop PySem.F.type_list_pop (fun a e => by cases e; exact ⟨_, eo, rfl⟩) ?_
  show wpAny (model prog w) A (callWith pos (.builtin "list.pop") [.ref l] (backTo pos (starEach [e] env)) []) Q E s
  rw [he]
  exact P.pop_at_list h
theorem pop_do {t : Tok} {v : Value} (S : St M B₀ s₀ B L m X s) (U : LUpd l (IsLs (v :: vs)) (IsLs vs) X X') (hsz : vs.length ≤ 1000)
    (h : ∀ s', St M B₀ s₀ B L m X' s' → Q v s') : PopG l Q (.int 0 t) s := by
  obtain ⟨o, e, n, rfl⟩ := S.at U.mem
  refine ⟨_, n, 0, t, 0, v, by rw [List.size_toArray, sizeLine_eq, List.length_cons]; omega, rfl, e, by decide +kernel, ?_, by simp, h _ (S.updL (t := s.toks) U (Heap.SameBut.update ..) (Heap.get?_update_self _ e rfl) ?_)⟩
  · unfold seqIndex?
    simp
  · refine ⟨if ((v :: vs).toArray.eraseIdxIfInBounds 0).size == (v :: vs).toArray.size then n else n + 1, ?_⟩
    show _ = _
    simp [Obj.mapSeq, Array.eraseIdxIfInBounds]
end
section
variable {B : Mem} {s : Shared} {prog : Program} {w : World} {A : Around} {E : Value → Shared → Prop} {T : Heap} {mg mb : Str → Option Value} {Q : Value → Shared → Prop}

theorem take_call {so ls : Addr} {most : Int} {tm : Tok} (tf : TF w T mg mb) (hT : Sub T.get? B) (hB : Sub B s.heap.get?) (hA : Room A 2)
    (hs : At s.heap.get? so (IsSrc ls)) (hp : At s.heap.get? ls IsPool) (hs0 : B so = none) (hp0 : B ls = none) (hne : so ≠ ls) (hm1 : 1 ≤ most) (hm2 : most ≤ 1000)
    (hQ : ∀ (f : Int) t s', 0 ≤ f → f < most → Grow [so, ls] B s B s' → At s'.heap.get? so (IsSrc ls) → At s'.heap.get? ls IsPool → Q (.int f t) s') :
    wpAny (model prog w) A (call (.ref 188) [.ref so, .int most tm]) Q E s := by
  have ho := tf.K 188 _ rfl
  have hf := hT.trans hB
  obtain ⟨os, eos, a, ta, b, tb, hos, ha, hb, hb2⟩ := hs
  obtain ⟨op, eop, vs, xs, hop, hxs, hvl⟩ := hp
  refine call_st (M' := [so, ls]) (binds := [("source", .ref so), ("most", .int most tm)]) (Y := [(so, IsLs [.ref ls, .int a ta, .int b tb]), (ls, IsLs vs)]) (BB := B) hA (hf _ _ ho) (tf.lim.keeps hf) ((codeRec_of tf.K (by kernel_rfl)).keeps hf) hB
    (fun p hp => by
      simp only [List.mem_cons, List.not_mem_nil, or_false] at hp
      rcases hp with rfl | rfl
      · exact ⟨⟨os, eos, hos⟩, hs0, .head _⟩
      · exact ⟨⟨op, eop, hop⟩, hp0, .tail _ (.head _)⟩) (by simpa using hne) (fun b hb => by
      simp only [List.mem_cons, List.not_mem_nil, or_false] at hb
      rcases hb with rfl | rfl
      · exact ⟨os, eos⟩
      · exact ⟨op, eop⟩) rfl (locs rfl) ?_
  clear ho
  intro s₁ L A' hA' S
  have hu : A'.units < cLine := by have := hA'.units; omega
  have hmod : 0 ≤ (b * 40014).fmod 2147483563 ∧ (b * 40014).fmod 2147483563 < 2147483648 := by
    rw [Int.fmod_eq_emod_of_nonneg _ (by walk_at "om")]
    exact ⟨Int.emod_nonneg _ (by walk_at "om"), by have := Int.emod_lt_of_pos (b * 40014) (show (0 : Int) < 2147483563 by omega); omega⟩
  have fin : ∀ {a' b' : Int} {t t1 t2 : Tok} {s' : Shared} {ws : List Value} {zs : List Int}, 0 ≤ a' → 0 ≤ b' → b' < 2147483648 → Ints ws zs → ws.length ≤ 63 → Grow [so, ls] B s B s' → At s'.heap.get? so (IsLs [.ref ls, .int (a'.fdiv most) t1, .int b' t2]) → At s'.heap.get? ls (IsLs ws) → Q (.int (a'.fmod most) t) s' :=
    fun {a' b' t t1 t2 s' ws zs} h1 h2 h3 h4 h5 G6 ⟨o1, e1, q1⟩ ⟨o2, e2, q2⟩ => by
      refine hQ _ _ _ ?_ ?_ G6 ⟨o1, e1, _, _, _, _, q1, ?_, h2, h3⟩ ⟨o2, e2, ws, zs, q2, h4, h5⟩
      · rw [Int.fmod_eq_emod_of_nonneg _ (by walk_at "om")]; exact Int.emod_nonneg _ (by walk_at "om")
      · rw [Int.fmod_eq_emod_of_nonneg _ (by walk_at "om")]; exact Int.emod_lt_of_pos _ (by walk_at "om")
      · rw [Int.fdiv_eq_ediv_of_nonneg _ (by walk_at "om")]; exact Int.ediv_nonneg h1 (by walk_at "om")
  walk_at "ms"
  · rename_i k _ S5
    refine ne_empty (S5.at (by walk_at "led")) (S5.at (.head _)) hu ?_
    cases vs with
    | nil =>
      walk_at "ms"
      all_goals first
        | (exfalso; contradiction)
        | (rename_i S6; exact fin (by walk_at "om") hmod.1 hmod.2 hxs hvl S6.toGrow (S6.at (by walk_at "led")) (S6.at (by walk_at "led")))

    | cons v vs =>
      obtain ⟨n, hn, t', rfl⟩ := hxs.get (i := 0) rfl
      have hxs' : Ints vs xs.tail := by
        cases xs with
        | nil => simp at hn
        | cons x xs => exact hxs.tail
      walk_at "ms"
      all_goals first
        | (exfalso; contradiction)
        | (rename_i S6
           refine pop_method (S6.at (by walk_at "led")) ?_
           walk_at "ms"
           rename_i S7
           refine pop_do S7 (by walk_at "lupd") (by simp at hvl; omega) fun s8 S8 => ?_
           walk_at "ms"
           all_goals (rename_i S9; exact fin (by walk_at "om") hmod.1 hmod.2 hxs' (by simp at hvl; omega) S9.toGrow (S9.at (by walk_at "led")) (S9.at (by walk_at "led"))))

  · rename_i S6
    exact fin ha hb hb2 hxs hvl S6.toGrow (S6.at (.head _)) (S6.at (.tail _ (.head _)))
end

/- MCmp -/

/-- the object of a frame's locals -/
def NsP (m : Str → Option Value) : Obj → Prop := fun o => ∀ (h : Heap) (L : Addr), h.get? L = some o → h.Ns L m

section
variable {M : List Addr} {B₀ B : Mem} {s₀ s : Shared} {L C : Addr} {m mC : Str → Option Value} {X : Led} {prog : Program} {w : World} {A : Around} {E : Value → Shared → Prop} {env : Env}

/-- into the frame of a comprehension: the outer frame comes under the ledger -/
theorem St.enterC (S : St M B₀ s₀ B L m X s) {h₁ : Heap} {t : Nat} (hC : s.heap.get? C = none) (hn : h₁.Ns C mC) (hk : ∀ b o, s.heap.get? b = some o → h₁.get? b = some o) :
    St M B₀ s₀ B C mC ((L, NsP m) :: X) { s with heap := h₁, toks := t } := by
  obtain ⟨oL, es, ep, eL, rL⟩ := id S.ns
  have bn : ∀ {b}, s.heap.get? b = none → B b = none := fun {b} e => by
    cases q : B b with
    | none => rfl
    | some o => rw [S.sub _ _ q] at e; cases e
  refine ⟨⟨by have := S.same; rw [this], S.live, fun b e => S.pres b ?_, fun b o hb e => hk _ _ (S.keep b o hb e), S.sub0, fun b o e => hk _ _ (S.sub b o e), S.fresh⟩, hn, S.pres _ hC, bn hC, fun p hp => ?_, ?_⟩
  · cases q : s.heap.get? b with
    | none => rfl
    | some o => rw [hk b o q] at e; cases e
  · rcases List.mem_cons.mp hp with rfl | hp
    · exact ⟨⟨oL, hk _ _ eL, fun h L' e => ⟨oL, es, ep, e, rL⟩⟩, (fun q => by dsimp only at q; rw [q, hC] at eL; cases eL), S.off, .inr S.lo⟩
    · obtain ⟨⟨o, e, ho⟩, h1, h2, h3⟩ := S.news p hp
      exact ⟨⟨o, hk _ _ e, ho⟩, (fun q => by rw [q, hC] at e; cases e), h2, h3⟩
  · refine List.nodup_cons.mpr ⟨fun h => ?_, S.nodup⟩
    obtain ⟨p, hp, e⟩ := List.mem_map.mp h
    exact (S.news p hp).2.1 e
/-- and out of it -/
theorem St.leaveC (S : St M B₀ s₀ B C mC ((L, NsP m) :: X) s) {h' : Heap} {t : Nat} (hlo : s₀.heap.get? L = none) (hs : Heap.SameBut C s.heap h') :
    St M B₀ s₀ B L m X { s with heap := h', toks := t } := by
  obtain ⟨⟨oL, eL, hL⟩, h1, h2, _⟩ := S.news _ (.head _)
  have nC : ∀ b o, s₀.heap.get? b = some o → b ≠ C := fun b o e q => by rw [q, S.lo] at e; cases e
  refine ⟨⟨by have := S.same; rw [this], S.live, fun b e => ?_, fun b o hb e => (hs.2 b (nC b o e)).trans (S.keep b o hb e), S.sub0, fun b o e => (hs.2 b (fun q => ?_)).trans (S.sub b o e), S.fresh⟩, hL _ _ ((hs.2 _ h1).trans eL), hlo, h2, fun p hp => ?_, (List.nodup_cons.mp S.nodup).2⟩
  · by_cases q : b = C
    · rw [q]; exact S.lo
    · exact S.pres b ((hs.2 b q).symm.trans e)
  · rw [q, S.off] at e; cases e
  · obtain ⟨⟨o, e, ho⟩, x1, x2, x3⟩ := S.news p (.tail _ hp)
    refine ⟨⟨o, (hs.2 _ x1).trans e, ho⟩, fun q => ?_, x2, x3⟩
    exact (List.nodup_cons.mp S.nodup).1 (List.mem_map.mpr ⟨p, hp, q⟩)

/-- what the parts of a comprehension keep: the values made so far, the frozen memory, the rest of the ledger -/
abbrev CInv := List Value → Mem → Led → Prop
def CTurn (M : List Addr) (B₀ : Mem) (s₀ : Shared) (L C I D : Addr) (m : Str → Option Value) (It : Obj → Prop) (ys : List Value) (B : Mem) (J : CInv) (y : Value) (s : Shared) : Prop :=
  ∃ B' mC X', Sub B B' ∧ J (ys ++ [y]) B' X' ∧ St M B₀ s₀ B' C mC ((I, It) :: (D, IsLs ys) :: (L, NsP m) :: X') s

theorem comp_loop {a c : Int} {n : Nat} {elt iter : Expr} {x : Str} {px : Pos} {scope : Scope} {cl : List (Str × Addr)} {pos : Pos} {RR : Result → Shared → Prop} {I D : Addr}
    (hh : A.handled = none) (hn' : n ≤ 1000) (hI : I ∉ M) (J : Nat → CInv) (h0 : J 0 [] B X) (S : St M B₀ s₀ B C mC ((I, ItR a c n 0) :: (D, IsLs []) :: (env.locals, NsP m) :: X) s)
    (hkind : scope.kind = .function) (hx : scope.names.lookup x = some .local)
    (turn : ∀ i t ys B' mC X' s', i < n → ys.length = i → J i ys B' X' → Sub B B' → St M B₀ s₀ B' C mC ((I, ItR a c n (i + 1)) :: (D, IsLs ys) :: (env.locals, NsP m) :: X') s' → mC x = some (.int (a + i * c) t) →
      wpAny (model prog w) A (eval elt (compEnvC scope cl C env)) (CTurn M B₀ s₀ env.locals C I D m (ItR a c n (i + 1)) ys B' (J (i + 1))) (fun _ _ => False) s')
    (done : ∀ ys B' mC X' s', ys.length = n → J n ys B' X' → Sub B B' → St M B₀ s₀ B' C mC ((D, IsLs ys) :: (env.locals, NsP m) :: X') s' → RR (.ok .next) s') :
    codeAny (model prog w) A (.compLoop (.ListComp elt [⟨.Name x px, iter, [], 0⟩] scope pos) 0 (.ref I) (.ref D) (compEnvC scope cl C env)) RR s := by
  refine codeAny_compLoop_tests (fun k s' => ∃ i ys B' mC X', i ≤ n ∧ k = n + 1 - i ∧ ys.length = i ∧ J i ys B' X' ∧ Sub B B' ∧ St M B₀ s₀ B' C mC ((I, ItR a c n i) :: (D, IsLs ys) :: (env.locals, NsP m) :: X') s') ?_ (n + 1)
    ⟨0, [], B, mC, X, Nat.zero_le _, rfl, rfl, h0, .rfl, S⟩
  rintro k s' ⟨i, ys, B', mC', X', hi, rfl, hl, hJ, hB, S'⟩
  by_cases hlt : i < n
  · refine (iterR hh I a c n).item i _ _ _ hlt (S'.at (.head _)) trivial fun v h' tk hP hit hs => ?_
    obtain ⟨o, e, ho⟩ := hit
    obtain ⟨t, rfl⟩ := hP
    have S1 := S'.upd (t := tk) hs e ho
    dsimp only
    refine wpAny_assign_Name (st_local (env := compEnvC scope cl C env) S1 (fun s'' S2 => ?_) hkind (lookup_relabel_local hx))
    refine wpAny_tests_nil ?_
    rw [if_pos rfl]
    refine wpAny_mono (turn i t ys B' _ X' s'' hlt hl hJ hB S2 upd_self) (fun y s3 h3 => ?_) fun _ _ x => x.elim
    obtain ⟨B3, mC3, X3, hB3, hJ3, S3⟩ := h3
    have S4 := St.swap S3
    obtain ⟨o3, e3, n3, rfl⟩ := S4.at (.head _)
    refine wpAny_list_append_plain (items := ys.toArray) (hsz := by rw [List.size_toArray, sizeLine_eq]; omega) ⟨n3, e3⟩ fun h5 hl5 hs5 => ?_
    obtain ⟨n5, e5⟩ := hl5
    have S5 := (S4.upd (t := s3.toks) (P' := IsLs (ys ++ [y])) hs5 e5 ⟨n5, by simp⟩).swap
    exact ⟨n + 1 - (i + 1), by omega, i + 1, ys ++ [y], B3, mC3, X3, hlt, rfl, by simp [hl], hJ3, hB.trans hB3, S5⟩
  · have hin : i = n := by omega
    subst hin
    refine (iterR hh I a c i).done _ _ _ (S'.at (.head _)) trivial fun h' tk he => ?_
    exact done ys B' mC' X' _ hl hJ hB (S'.drop hI he)

theorem comp_range {r : Addr} {a b c : Int} {t u v : Tok} {n : Nat} {elt iter : Expr} {x : Str} {px : Pos} {scope : Scope} {cl : List (Str × Addr)} {pos : Pos} {RR : Value → Addr → Result → Shared → Prop}
    (hh : A.handled = none) (S : St M B₀ s₀ B env.locals m X s) (hr : IsRange s.heap r a b c t u v) (hn : Builtin.Range.rangeSize a b c = n) (hsm : Builtin.Range.small a b c = true) (hn' : n ≤ 1000) (J : Nat → CInv) (h0 : J 0 [] B X)
    (hcell : ∀ y ∈ scope.names, y.2 ≠ .cell) (hkind : scope.kind = .function) (hx : scope.names.lookup x = some .local)
    (turn : ∀ C I D i t ys B' mC X' s', i < n → ys.length = i → J i ys B' X' → Sub B B' → St M B₀ s₀ B' C mC ((I, ItR a c n (i + 1)) :: (D, IsLs ys) :: (env.locals, NsP m) :: X') s' → mC x = some (.int (a + i * c) t) →
      wpAny (model prog w) A (eval elt (compEnvC scope cl C env)) (CTurn M B₀ s₀ env.locals C I D m (ItR a c n (i + 1)) ys B' (J (i + 1))) (fun _ _ => False) s')
    (done : ∀ C D ys B' mC X' s', ys.length = n → J n ys B' X' → Sub B B' → St M B₀ s₀ B' C mC ((D, IsLs ys) :: (env.locals, NsP m) :: X') s' → RR (.ref D) C (.ok .next) s') :
    wpAny (model prog w) A (pyIter (.ref r)) (fun it s₂ => wpAny (model prog w) A (newList []) (fun acc s₃ => wpAny (model prog w) A (newFunctionEnv scope env.globals cl [] env.qual none .none (some env)) (fun cenv s₄ =>
      codeAny (model prog w) A (.compStart (.ListComp elt [⟨.Name x px, iter, [], 0⟩] scope pos) 0 it acc { cenv with scope := relabel scope env }) (RR acc cenv.locals) s₄) E s₃) E s₂) E s := by
  refine wpAny_pyIter_range hr hsm ?_
  have S1 : St M B₀ s₀ B env.locals m ((s.heap.objs.size, ItR a c n 0) :: X) { s with heap := s.heap.push { cls := .type "range_iterator", dict := none, data := .fields #[rawInt a, rawInt (Builtin.Range.rangeSize a b c), rawInt c] } } := by
    refine S.push (t := s.toks) _ ?_
    show _ = _
    rw [hn]; simp
  refine mk_list S1 (by simp [sizeLine_eq]) fun D s2 S2 => ?_
  refine wpAny_newFunctionEnv hcell (by intro y hy; simp at hy) (fun h₁ hns hsb => ?_) hkind
  have S3 : St M B₀ s₀ B s2.heap.objs.size _ ((env.locals, NsP m) :: (D, IsLs []) :: (s.heap.objs.size, ItR a c n 0) :: X) { s2 with heap := h₁, toks := s2.toks + ([] : List (Str × Value)).length } :=
    S2.enterC (size_none _) hns fun b o e => hsb.extBut b o (Nat.ne_of_lt (Heap.lt_size e)) (Heap.get?_push_of_some _ e)
  have S4 : St M B₀ s₀ B s2.heap.objs.size _ ((s.heap.objs.size, ItR a c n 0) :: (D, IsLs []) :: (env.locals, NsP m) :: X) { s2 with heap := h₁, toks := s2.toks + ([] : List (Str × Value)).length } :=
    S3.perm ((List.Perm.swap _ _ _).trans ((List.Perm.cons _ (List.Perm.swap _ _ _)).trans (List.Perm.swap _ _ _)))
  have lp := comp_loop (env := env) (scope := scope) (cl := cl) (elt := elt) (iter := iter) (px := px) (x := x) (pos := pos) (RR := RR (.ref D) s2.heap.objs.size) hh hn' S.notM J h0 S4 hkind hx (fun i t ys B' mC X' s' => turn _ _ _ i t ys B' mC X' s') (fun ys B' mC X' s' => done _ _ ys B' mC X' s')
  exact codeAny_compStart_list lp ((iterR hh _ a c n).self 0 _ _ _ (S4.at (.head _)) lp)

theorem comp_assign {elt iter : Expr} {x y : Str} {px py pos spos : Pos} {scope : Scope} {cl : List (Str × Addr)} {Q : Flow → Shared → Prop}
    (h : wpAny (model prog w) A (eval iter env) (fun xv s₁ => wpAny (model prog w) A (pyIter xv) (fun it s₂ => wpAny (model prog w) A (newList []) (fun acc s₃ => wpAny (model prog w) A (newFunctionEnv scope env.globals cl [] env.qual none .none (some env)) (fun cenv s₄ =>
      codeAny (model prog w) A (.compStart (.ListComp elt [⟨.Name x px, iter, [], 0⟩] scope pos) 0 it acc { cenv with scope := relabel scope env })
        (compPost (model prog w) A E (some (assign (.Name y py) env)) (fun _ s' => Q .next s') acc cenv.locals) s₄) E s₃) E s₂) E s₁) E s)
    (hsw : swapsWith (.ListComp elt [⟨.Name x px, iter, [], 0⟩] scope pos) (some (.Name y py)) spos.line env = pure true)
    (hclos : closureFor scope env = pure cl) (hkind : scope.kind = .function)
    (hnames : ∀ z ∈ scope.names, z.2 = .local → scope.names.lookup z.1 = some .local)
    (hs : ∀ x, foldedSetIterable iter env x = pure x := by intro _; rfl) :
    wpAny (model prog w) A (exec (.Assign [.Name y py] (.ListComp elt [⟨.Name x px, iter, [], 0⟩] scope pos) spos) env) Q E s := by
  rw [exec_Assign_Name_used _ _ _ _ hsw]
  refine wpAny_bind (wpAny_standAt (wpAny_bind ?_))
  exact wpAny_bind (wpAny_mono (wpAny_comprehension_free (use := some (assign (.Name y py) env)) (Q := fun _ s' => Q .next s') rfl hs hclos hkind hnames h) (fun _ s' hq => wpAny_pure (wpAny_pure hq)) fun _ _ e => e)

theorem comp_end {y : Str} {py : Pos} {D : Addr} {ys : List Value} {X' : Led} {Q : Flow → Shared → Prop} (S : St M B₀ s₀ B C mC ((D, IsLs ys) :: (env.locals, NsP m) :: X') s) (hlo : s₀.heap.get? env.locals = none)
    (hy : env.kindOf y = some .local) (hk : env.scope.kind = .function)
    (h : ∀ s', St M B₀ s₀ B env.locals (upd m y (.ref D)) ((D, IsLs ys) :: X') s' → Q .next s') :
    compPost (model prog w) A E (some (assign (.Name y py) env)) (fun _ s' => Q .next s') (.ref D) C (.ok .next) s := by
  show wpAny _ A (assign (.Name y py) env (.ref D)) _ _ _
  have S1 := St.swap S
  obtain ⟨⟨oL, eL, hL⟩, hLC, _, _⟩ := S1.news _ (.head _)
  refine wpAny_assign_Name (wpAny_storeName_local hy (hL _ _ eL) (fun h₂ hn₂ hs₂ => ?_) (by rw [hk]; rfl))
  obtain ⟨o', es, ep, e', r⟩ := hn₂
  have S2 := S1.upd (t := s.toks + 1) (P' := NsP (upd m y (.ref D))) hs₂ e' (fun h L' e => ⟨o', es, ep, e, r⟩)
  exact ⟨mC, S2.ns, fun h₃ hs₃ => h _ (S2.leaveC (t := s.toks + 1) hlo hs₃)⟩
end

/- H1 -/
theorem xor01 {z b : Int} (h0 : 0 ≤ z) (hb : 0 ≤ b) (hb2 : b < 2) : 0 ≤ Builtin.bitXor z b ∧ Builtin.bitXor z b / 2 = z / 2 := by
  have e := PyProof.Rows.bitXor_and z b
  have ha : Builtin.bitAnd z b = ((z.toNat &&& b.toNat : Nat) : Int) := by
    unfold Builtin.bitAnd
    rw [decide_eq_true h0, decide_eq_true hb]
  rw [ha] at e
  rcases (show b = 0 ∨ b = 1 by omega) with rfl | rfl
  · simp at e
    rw [e]; exact ⟨h0, rfl⟩
  · have : (z.toNat &&& (1 : Int).toNat) = z.toNat % 2 := Nat.and_one_is_mod _
    rw [this] at e
    rw [e]
    omega

/- G11 -/

/-- literals of a graph of n nodes -/
def LitsAre (ys : List Value) (n : Nat) : Prop := ∃ zs, Ints ys zs ∧ ∀ z ∈ zs, 0 ≤ z ∧ z / 2 < n
theorem LitsAre.nil {n : Nat} : LitsAre [] n := ⟨[], .nil, by simp⟩
theorem LitsAre.more {ys : List Value} {n n' : Nat} (h : LitsAre ys n) (hn : n ≤ n') : LitsAre ys n' := let ⟨zs, a, b⟩ := h; ⟨zs, a, fun z hz => ⟨(b z hz).1, by have := (b z hz).2; omega⟩⟩
theorem LitsAre.snoc {ys : List Value} {n : Nat} {z : Int} {t : Tok} (h : LitsAre ys n) (h0 : 0 ≤ z) (h1 : z / 2 < n) : LitsAre (ys ++ [.int z t]) n :=
  let ⟨zs, a, b⟩ := h; ⟨zs ++ [z], All2.snoc a ⟨t, rfl⟩, fun x hx => by
    rcases List.mem_append.mp hx with hx | hx
    · exact b x hx
    · simp at hx; subst hx; exact ⟨h0, h1⟩⟩
theorem nodup_key {X : Led} (h : (X.map (·.1)).Nodup) {a : Addr} {P P' : Obj → Prop} (h1 : (a, P) ∈ X) (h2 : (a, P') ∈ X) : P = P' := by
  induction X with
  | nil => cases h1
  | cons p X ih =>
    obtain ⟨hn, hd⟩ := List.nodup_cons.mp h
    rcases List.mem_cons.mp h1 with e1 | h1
    · rcases List.mem_cons.mp h2 with e2 | h2
      · have := e1.trans e2.symm
        exact (Prod.mk.inj this).2
      · exact absurd (List.mem_map.mpr ⟨_, h2, by rw [← e1]⟩) hn
    · rcases List.mem_cons.mp h2 with e2 | h2
      · exact absurd (List.mem_map.mpr ⟨_, h1, by rw [← e2]⟩) hn
      · exact ih hd h1 h2
section
variable {M : List Addr} {B₀ B B' : Mem} {s₀ s s' : Shared} {L : Addr} {m : Str → Option Value} {X : Led} {prog : Program} {w : World} {A : Around} {E : Value → Shared → Prop} {T : Heap} {mg mb : Str → Option Value} {Q : Value → Shared → Prop}
/-- behind a call that changes objects of the ledger and keeps what is said of them -/
theorem St.callK {M' : List Addr} (S : St M B₀ s₀ B L m X s) (G : Grow M' B s B' s') (hM : ∀ b ∈ M', ∃ P, (b, P) ∈ X) (hn : ∀ b P, b ∈ M' → (b, P) ∈ X → At s'.heap.get? b P) : St M B₀ s₀ B' L m X s' := by
  have B'none : ∀ b o, B b = none → s.heap.get? b = some o → B' b = none := fun b o' hb hs => by
    cases q : B' b with
    | none => rfl
    | some o =>
      rcases G.fresh b o q with h | h
      · rw [hb] at h; cases h
      · rw [hs] at h; cases h
  have LM : L ∉ M' := fun h => by obtain ⟨P, hp⟩ := hM L h; exact (S.news _ hp).2.1 rfl
  obtain ⟨oL, es, ep, eL, rL⟩ := id S.ns
  refine ⟨⟨by rw [G.same, S.same], S.live, fun b e => S.pres b (G.pres b e), fun b o hb e => ?_, S.sub0.trans G.sub0, G.sub, fun b o e => ?_⟩, ⟨oL, es, ep, G.keep _ _ LM eL, rL⟩, S.lo, B'none _ _ S.off eL, fun p hp => ?_, S.nodup⟩
  · refine G.keep b o (fun h => ?_) (S.keep b o hb e)
    obtain ⟨P, hp⟩ := hM b h
    rcases (S.news _ hp).2.2.2 with h | h
    · exact hb h
    · have h : s₀.heap.get? b = none := h
      rw [h] at e; cases e
  · rcases G.fresh b o e with h | h
    · exact S.fresh b o h
    · exact .inr (S.pres b h)
  · obtain ⟨⟨o, e1, h1⟩, x2, x3, x4⟩ := S.news p hp
    by_cases q : p.1 ∈ M'
    · exact ⟨hn p.1 p.2 q hp, x2, B'none _ _ x3 e1, x4⟩
    · exact ⟨⟨o, G.keep _ _ q e1, h1⟩, x2, B'none _ _ x3 e1, x4⟩
theorem LUpd.keys {l : Addr} {P P' : Obj → Prop} {X X' : Led} (U : LUpd l P P' X X') : X'.map (·.1) = X.map (·.1) := by
  obtain ⟨a, b, rfl, rfl⟩ := U.split; simp
theorem LUpd.old {l : Addr} {P P' : Obj → Prop} {X X' : Led} (U : LUpd l P P' X X') (hd : (X.map (·.1)).Nodup) : ∀ p ∈ X', p = (l, P') ∨ (p ∈ X ∧ p.1 ≠ l) := by
  obtain ⟨a, b, rfl, rfl⟩ := U.split
  rw [List.map_append, List.nodup_append] at hd
  obtain ⟨_, h2, h3⟩ := hd
  rw [List.map_cons, List.nodup_cons] at h2
  intro p hp
  rcases List.mem_append.mp hp with hp | hp
  · exact .inr ⟨List.mem_append_left _ hp, h3 _ (List.mem_map_of_mem hp) _ (by simp)⟩
  · rcases List.mem_cons.mp hp with rfl | hp
    · exact .inl rfl
    · exact .inr ⟨List.mem_append_right _ (.tail _ hp), fun q => h2.1 (List.mem_map.mpr ⟨p, hp, q⟩)⟩
/-- behind a call that changes two objects of the ledger -/
theorem St.callU2 {a b : Addr} {P P' R R' : Obj → Prop} {X1 X2 : Led} (S : St M B₀ s₀ B L m X s) (G : Grow [a, b] B s B' s') (U1 : LUpd a P P' X X1) (U2 : LUpd b R R' X1 X2) (hab : a ≠ b) (h1 : At s'.heap.get? a P') (h2 : At s'.heap.get? b R') : St M B₀ s₀ B' L m X2 s' := by
  have k1 := U1.keys
  have k2 := U2.keys
  have nd1 : (X1.map (·.1)).Nodup := by rw [k1]; exact S.nodup
  have S' : St M B₀ s₀ B' L m (X.map fun p => (p.1, if p.1 = a ∨ p.1 = b then (fun _ => True) else p.2)) s' := by
    have S0 : St M B₀ s₀ B L m (X.map fun p => (p.1, if p.1 = a ∨ p.1 = b then (fun _ => True) else p.2)) s := by
      refine ⟨S.toGrow, S.ns, S.lo, S.off, fun p hp => ?_, by rw [List.map_map]; exact S.nodup⟩
      obtain ⟨q, hq, rfl⟩ := List.mem_map.mp hp
      obtain ⟨⟨o, e, ho⟩, r⟩ := S.news q hq
      refine ⟨⟨o, e, ?_⟩, r⟩
      dsimp only
      split
      · trivial
      · exact ho
    have mem : ∀ {c : Addr} {Z : Obj → Prop}, (c, Z) ∈ X → c = a ∨ c = b → (c, fun _ => True) ∈ X.map fun p => (p.1, if p.1 = a ∨ p.1 = b then (fun _ => True) else p.2) := fun {c Z} hc hcc =>
      List.mem_map.mpr ⟨(c, Z), hc, by simp only [if_pos hcc]⟩
    have ma : (a, P) ∈ X := U1.mem
    have mb : ∃ Z, (b, Z) ∈ X := by
      have : b ∈ X.map (·.1) := by rw [← k1]; exact List.mem_map.mpr ⟨_, U2.mem, rfl⟩
      obtain ⟨q, hq, e⟩ := List.mem_map.mp this
      exact ⟨q.2, by rw [← e]; exact hq⟩
    obtain ⟨Z, mb⟩ := mb
    refine S0.callK G (fun c hc => ?_) (fun c Z' hc hz => ?_)
    · simp only [List.mem_cons, List.not_mem_nil, or_false] at hc
      rcases hc with rfl | rfl
      · exact ⟨_, mem ma (.inl rfl)⟩
      · exact ⟨_, mem mb (.inr rfl)⟩
    · simp only [List.mem_cons, List.not_mem_nil, or_false] at hc
      obtain ⟨q, hq, e⟩ := List.mem_map.mp hz
      obtain ⟨rfl, rfl⟩ := Prod.mk.inj e
      rw [if_pos hc]
      rcases hc with hc | hc
      · obtain ⟨o, e, _⟩ := h1; rw [hc]; exact ⟨o, e, trivial⟩
      · obtain ⟨o, e, _⟩ := h2; rw [hc]; exact ⟨o, e, trivial⟩
  refine ⟨S'.toGrow, S'.ns, S'.lo, S'.off, fun p hp => ?_, by rw [k2, k1]; exact S.nodup⟩
  have key : ∀ {c : Addr}, c ∈ X.map (·.1) → c ≠ L ∧ B' c = none ∧ (c ∈ M ∨ s₀.heap.get? c = none) := fun {c} hc => by
    obtain ⟨q, hq, rfl⟩ := List.mem_map.mp hc
    exact (S'.news _ (List.mem_map.mpr ⟨q, hq, rfl⟩)).2
  have kp : p.1 ∈ X.map (·.1) := by rw [← k1, ← k2]; exact List.mem_map_of_mem hp
  refine ⟨?_, key kp⟩
  rcases U2.old nd1 p hp with rfl | ⟨hp1, hb⟩
  · exact h2
  · rcases U1.old S.nodup p hp1 with rfl | ⟨hp0, ha⟩
    · exact h1
    · have := (S'.news _ (List.mem_map.mpr ⟨p, hp0, rfl⟩)).1
      rw [if_neg (fun q => q.elim ha hb)] at this
      exact this
theorem take_st {so ls : Addr} {most : Int} {tm : Tok} (tf : TF w T mg mb) (hT : Sub T.get? B₀) (hA : Room A 2) (S : St M B₀ s₀ B L m X s) (h1 : (so, IsSrc ls) ∈ X) (h2 : (ls, IsPool) ∈ X) (hne : so ≠ ls) (hm1 : 1 ≤ most) (hm2 : most ≤ 1000)
    (hQ : ∀ (f : Int) t s', 0 ≤ f → f < most → St M B₀ s₀ B L m X s' → Q (.int f t) s') : wpAny (model prog w) A (call (.ref 188) [.ref so, .int most tm]) Q E s := by
  refine take_call tf (hT.trans S.sub0) S.sub hA (S.at h1) (S.at h2) (S.news _ h1).2.2.1 (S.news _ h2).2.2.1 hne hm1 hm2 fun f t s' f0 f1 G a b => hQ f t s' f0 f1 (S.callK G (fun b hb => ?_) fun b P hb hp => ?_)
  · simp only [List.mem_cons, List.not_mem_nil, or_false] at hb
    rcases hb with rfl | rfl
    · exact ⟨_, h1⟩
    · exact ⟨_, h2⟩
  · simp only [List.mem_cons, List.not_mem_nil, or_false] at hb
    rcases hb with rfl | rfl
    · rw [nodup_key S.nodup hp h1]; exact a
    · rw [nodup_key S.nodup hp h2]; exact b
end
theorem LitsAre.get {ys : List Value} {n : Nat} {k : Nat} (h : LitsAre ys n) (hk : k < ys.length) : ∃ z t, ys[k]? = some (.int z t) ∧ 0 ≤ z ∧ z / 2 < n := by
  obtain ⟨zs, a, b⟩ := h
  obtain ⟨z, hz, t, e⟩ := a.get (List.getElem?_eq_getElem hk)
  exact ⟨z, t, by rw [List.getElem?_eq_getElem hk, e], b z (List.mem_of_getElem? hz)⟩
theorem GoodG.start {n : Nat} (hn : n ≤ 19) : GoodG (List.replicate (n + 1) none) :=
  ⟨by simp, by simp; omega, by simp, fun i l r h => by rw [List.getElem?_replicate] at h; split at h <;> simp at h⟩
theorem GoodG.snoc {G : Gr} {a b : Int} (h : GoodG G) (hs : G.length ≤ 19) (ha : 2 ≤ a) (hb : 2 ≤ b) (ha2 : a / 2 < G.length) (hb2 : b / 2 < G.length) : GoodG (G ++ [some (a, b)]) := by
  have hp := h.pos
  refine ⟨by simp, by simp; omega, by rw [List.getElem?_append_left (by walk_at "om")]; exact h.zero, fun i l r hi => ?_⟩
  rcases Nat.lt_or_ge i G.length with q | q
  · rw [List.getElem?_append_left q] at hi
    exact h.pairs i l r hi
  · rw [List.getElem?_append_right q] at hi
    have : i - G.length = 0 := by have := (List.getElem?_eq_some_iff.mp hi).1; simp at this; omega
    rw [this] at hi
    simp at hi
    obtain ⟨rfl, rfl⟩ := hi
    omega
theorem TabFine.nil {B : Mem} {n : Nat} : TabFine B [] n := ⟨by simp, by simp, by simp, by simp⟩
def GrX (prog : Program) (w : World) (so ls g cc ln li lo lt D : Addr) (ys ns is os : List Value) (xs : Tab) : Led :=
  [(D, IsLs ys), (cc, fun o => o.data = .cell (some (.ref g))), (ln, IsLs ns), (li, IsLs is), (lo, IsLs os), (lt, TabOn prog w xs), (so, IsSrc ls), (ls, IsPool)]
def GrJ (prog : Program) (w : World) (so ls g cc ln li lo lt D : Addr) (is : List Value) (B1 : Mem) (n0 i : Nat) : Inv := fun B2 m X =>
  m "source" = some (.ref so) ∧ m "literals" = some (.ref D) ∧ Sub B1 B2 ∧ ∃ ns ys G xs, X = GrX prog w so ls g cc ln li lo lt D ys ns is [] xs ∧
    NodesAre B2 ns G ∧ GoodG G ∧ G.length ≤ 5 + i ∧ TabFine B2 xs G.length ∧ LitsAre ys G.length ∧ ys.length = n0 + i
def GrO (prog : Program) (w : World) (so ls g cc ln li lo lt D : Addr) (ys ns is : List Value) (xs : Tab) (n : Nat) (B2 : Mem) (i : Nat) : Inv := fun B3 m X =>
  m "source" = some (.ref so) ∧ m "literals" = some (.ref D) ∧ B3 = B2 ∧ ∃ os, X = GrX prog w so ls g cc ln li lo lt D ys ns is os xs ∧ LitsAre os n ∧ os.length = i
section
variable {B : Mem} {s : Shared} {prog : Program} {w : World} {A : Around} {E : Value → Shared → Prop} {T : Heap} {mg mb : Str → Option Value} {Q : Value → Shared → Prop}

theorem graph_call {so ls : Addr} (tf : TF w T mg mb) (hT : Sub T.get? B) (hB : Sub B s.heap.get?) (hA : Room A 8)
    (hs : At s.heap.get? so (IsSrc ls)) (hp : At s.heap.get? ls IsPool) (hs0 : B so = none) (hp0 : B ls = none) (hne : so ≠ ls)
    (hQ : ∀ g ln li lo lt ns os G out B' s', Grow [so, ls] B s B' s' → AigHd B' g ln li lo lt → At B' ln (IsLs ns) → NodesAre B' ns G → At B' lo (IsLs os) → Ints os out → GoodG G → (∀ l ∈ out, 0 ≤ l ∧ l / 2 < G.length) → out.length ≤ 2 →
      At s'.heap.get? so (IsSrc ls) → At s'.heap.get? ls IsPool → B' so = none → B' ls = none → Q (.ref g) s') :
    wpAny (model prog w) A (call (.ref 193) [.ref so]) Q E s := by
  have ho := tf.K 193 _ rfl
  have hf := hT.trans hB
  refine call_stC (M' := [so, ls]) (binds := [("source", .ref so)]) (Y := [(so, IsSrc ls), (ls, IsPool)]) (BB := B) (x := "graph") hA (hf _ _ ho) (tf.lim.keeps hf) ((codeRec_of tf.K (by kernel_rfl)).keeps hf) hB
    (fun p hp' => by
      simp only [List.mem_cons, List.not_mem_nil, or_false] at hp'
      rcases hp' with rfl | rfl
      · exact ⟨hs, hs0, .head _⟩
      · exact ⟨hp, hp0, .tail _ (.head _)⟩) (by simpa using hne) (fun b hb => by
      simp only [List.mem_cons, List.not_mem_nil, or_false] at hb
      rcases hb with rfl | rfl
      · exact let ⟨o, e, _⟩ := hs; ⟨o, e⟩
      · exact let ⟨o, e, _⟩ := hp; ⟨o, e⟩) rfl (fun _ => rfl) ?_ ?_
  · intro n y hy
    simp only [List.mem_cons, List.not_mem_nil, or_false] at hy
    subst hy
    exact .inl rfl
  clear ho
  intro s₁ L cc A' hA' S
  walk_at "ms"
  refine aig_make tf hT (hA'.mono (by walk_at "om")) S fun g ln li lo lt B1 s2 S2 hB1 hg hlt1 => ?_
  refine st_cell (S2.front (Y := [_, _, _, _])) (c := cc) rfl (fun o h => ⟨_, h⟩) (fun s3 S3 => ?_) rfl rfl
  have S3 : St [so, ls] B s B1 L _ [(cc, fun o => o.data = .cell (some (.ref g))), (ln, IsLs [.none]), (li, IsLs []), (lo, IsLs []), (lt, TabOn prog w []), (so, IsSrc ls), (ls, IsPool)] s3 := S3
  clear S2
  have nd := S3.nodup
  simp only [List.map_cons, List.map_nil, List.nodup_cons, List.mem_cons, List.not_mem_nil, or_false, not_or] at nd
  have hlnli : ln ≠ li := nd.2.1.1
  have hlnlt : ln ≠ lt := nd.2.1.2.2.1
  have hlnso : ln ≠ so := nd.2.1.2.2.2.1
  have hlnls : ln ≠ ls := nd.2.1.2.2.2.2
  have hloso : lo ≠ so := nd.2.2.2.1.2.1
  have hlols : lo ≠ ls := nd.2.2.2.1.2.2
  clear nd
  walk_at "ms"
  refine comp_assign (cl := [("graph", cc)]) ?_ (by with_unfolding_all rfl) (by with_unfolding_all rfl) rfl (by decide)
  walk_at "ms"
  rename_i s4 S4
  refine take_st tf hT (hA'.mono (by walk_at "om")) S4 (by walk_at "led") (by walk_at "led") hne (by walk_at "om") (by walk_at "om") fun f1 t1 s5 f10 f11 S5 => ?_
  walk_at "ms"
  rename_i r s6 _ _ _ hrg S6
  refine comp_range (n := (2 + f1).toNat) hA'.handled S6 hrg (by rw [rangeSize_up _ _ (by walk_at "om")]; omega) (small_up _ _ (by walk_at "om") (by walk_at "om") (by walk_at "om")) (by walk_at "om")
    (fun i ys B' X => B' = B1 ∧ ∃ ns is, X = [(cc, fun o => o.data = .cell (some (.ref g))), (ln, IsLs ns), (li, IsLs is), (lo, IsLs []), (lt, TabOn prog w []), (so, IsSrc ls), (ls, IsPool)] ∧ ns = List.replicate (i + 1) .none ∧ is.length = i ∧ LitsAre ys (i + 1)) ?_ (by decide) rfl rfl ?_ ?_
  · exact ⟨rfl, _, _, rfl, rfl, rfl, LitsAre.nil⟩
  · rintro C I D i t ys B' mC X' s7 hi hl ⟨rfl, ns, is, rfl, rfl, his, hly⟩ hs S7 hx
    walk_at "ms"
    refine nm_cell (c := cc) (by with_unfolding_all rfl) (S7.at (by walk_at "led")) ?_ (by with_unfolding_all rfl) (by with_unfolding_all rfl)
    walk_at "ms"
    have e1 : (List.replicate (i + 1) Value.none).length = i + 1 := List.length_replicate
    refine add_input_call tf (hT.trans S7.sub0) S7.sub (hA'.mono (by walk_at "om")) hg (S7.at (by walk_at "led")) (S7.at (by walk_at "led")) (S7.news (ln, IsLs (List.replicate (i + 1) Value.none)) (by walk_at "led")).2.2.1 (S7.news (li, IsLs is) (by walk_at "led")).2.2.1 hlnli (by rw [e1]; omega) (by walk_at "om") fun t2 t3 s8 G8 h1 h2 => ?_
    have S8 := S7.callU2 G8 (by walk_at "lupd") (by walk_at "lupd") hlnli h1 h2
    rw [e1]
    exact ⟨B', mC, _, .rfl, ⟨rfl, _, _, rfl, by rw [List.replicate_succ' (n := i + 1)], by simp [his], (hly.more (Nat.le_succ _)).snoc (by walk_at "om") (by walk_at "om")⟩, S8⟩
  · rintro C D ys B' mC X' s7 hl ⟨rfl, ns, is, rfl, rfl, his, hly⟩ hs S7
    refine comp_end S7 S3.lo (by with_unfolding_all rfl) rfl fun s8 S8 => ?_
    clear S6 S5 S4 S3
    walk_at "ms"
    rename_i s9 S9
    refine take_st tf hT (hA'.mono (by walk_at "om")) S9 (by walk_at "led") (by walk_at "led") hne (by walk_at "om") (by walk_at "om") fun f2 t2 s10 f20 f21 S10 => ?_
    walk_at "ms"
    rename_i r2 s11 _ _ _ hrg2 S11
    refine for_range hA'.handled S11 hrg2 (n := (1 + f2).toNat) (by rw [rangeSize_up _ _ (by walk_at "om")]; omega) (small_up _ _ (by walk_at "om") (by walk_at "om") (by walk_at "om")) (GrJ prog w so ls g cc ln li lo lt D is B' (2 + f1).toNat) ?_ ?_ ?_
    · exact ⟨by walk_at "lk", by walk_at "lk", .rfl, _, ys, List.replicate ((2 + f1).toNat + 1) none, [], rfl, .replicate _ rfl, GoodG.start (by walk_at "om"), by simp; omega, TabFine.nil, by simpa using hly, hl⟩
    · rintro I i t B2 m2 X2 s12 hi ⟨n1, n2, hB2, ns, ys2, G, xs, rfl, hN, hG, hGl, hx, hly2, hyl⟩ hs2 S12
      unfold GrX at S12
      have hgp := hG.pos
      walk_at "ms"
      rename_i S13
      refine take_st tf hT (hA'.mono (by walk_at "om")) S13 (by walk_at "led") (by walk_at "led") hne (by walk_at "om") (by walk_at "om") fun f3 t3 s14 f30 f31 S14 => ?_
      walk_at "ms"
      rename_i S15
      obtain ⟨z1, tz1, hz1, hz1a, hz1b⟩ := hly2.get (k := ((-1 - f3) + ys2.length).toNat) (by walk_at "om")
      refine sub_list_neg (S15.at (by walk_at "led")) (by walk_at "om") (by walk_at "om") (by walk_at "om") hz1 ?_
      walk_at "ms"
      rename_i S16
      refine take_st tf hT (hA'.mono (by walk_at "om")) S16 (by walk_at "led") (by walk_at "led") hne (by walk_at "om") (by walk_at "om") fun f4 t4 s17 f40 f41 S17 => ?_
      walk_at "ms"
      rename_i S18
      refine take_st tf hT (hA'.mono (by walk_at "om")) S18 (by walk_at "led") (by walk_at "led") hne (by walk_at "om") (by walk_at "om") fun f5 t5 s19 f50 f51 S19 => ?_
      obtain ⟨z2, tz2, hz2, hz2a, hz2b⟩ := hly2.get (k := f5.toNat) (by walk_at "om")
      refine sub_list (S19.at (by walk_at "led")) (by walk_at "om") (by walk_at "om") hz2 ?_
      walk_at "ms"
      rename_i S20
      refine take_st tf hT (hA'.mono (by walk_at "om")) S20 (by walk_at "led") (by walk_at "led") hne (by walk_at "om") (by walk_at "om") fun f6 t6 s21 f60 f61 S21 => ?_
      walk_at "ms"
      have hx1 := xor01 hz1a f40 f41
      have hx2 := xor01 hz2a f60 f61
      rename_i S22
      refine nm_cell (c := cc) (by with_unfolding_all rfl) (S22.at (by walk_at "led")) ?_ (by with_unfolding_all rfl) (by with_unfolding_all rfl)
      have hg2 := hg.mono hB2
      walk_at "ms"
      refine land_call tf (hT.trans S22.sub0) S22.sub (hA'.mono (by walk_at "om")) hg2 (S22.at (by walk_at "led")) hN (S22.at (by walk_at "led")) hx (S22.news (ln, IsLs ns) (by walk_at "led")).2.2.1 (S22.news (lt, TabOn prog w xs) (by walk_at "led")).2.2.1 hlnlt hlt1 (by walk_at "om") hgp hx1.1 (by rw [hx1.2]; exact hz1b) hx2.1 (by rw [hx2.2]; exact hz2b) fun z t ns' G' xs' B3 s23 G23 q1 q2 q3 q4 q5 q6 q7 q8 q9 => ?_
      have S23 := S22.callU2 G23 (by walk_at "lupd") (by walk_at "lupd") hlnlt q1 q3
      walk_at "ms"
      rename_i S24
      have hGG : GoodG G' ∧ G'.length ≤ 5 + (i + 1) ∧ G.length ≤ G'.length := by
        rcases q9 with rfl | ⟨a, b, rfl, a1, b1, a2, b2⟩
        · exact ⟨hG, by omega, Nat.le_refl _⟩
        · exact ⟨hG.snoc (by walk_at "om") a1 b1 a2 b2, by simp; omega, by simp⟩
      exact TurnP.next G23.sub0 ⟨by walk_at "lk", by walk_at "lk", hB2.trans G23.sub0, ns', _, G', xs', rfl, q2, hGG.1, hGG.2.1, q4, (hly2.more hGG.2.2).snoc q7 q8, by simp; omega⟩ S24
    · rintro B2 m2 X2 s12 ⟨n1, n2, hB2, ns, ys2, G, xs, rfl, hN, hG, hGl, hx, hly2, hyl⟩ hs2 S12
      unfold GrX at S12
      have hgp := hG.pos
      clear S11 S10 S9 S8 S7
      walk_at "ms"
      rename_i S13
      refine take_st tf hT (hA'.mono (by walk_at "om")) S13 (by walk_at "led") (by walk_at "led") hne (by walk_at "om") (by walk_at "om") fun f3 t3 s14 f30 f31 S14 => ?_
      walk_at "ms"
      rename_i r3 s15 _ _ _ hrg3 S15
      have hg2 := hg.mono hB2
      refine for_range hA'.handled S15 hrg3 (n := (1 + f3).toNat) (by rw [rangeSize_up _ _ (by walk_at "om")]; omega) (small_up _ _ (by walk_at "om") (by walk_at "om") (by walk_at "om")) (GrO prog w so ls g cc ln li lo lt D ys2 ns is xs G.length B2) ?_ ?_ ?_
      · exact ⟨by walk_at "lk", by walk_at "lk", rfl, [], rfl, LitsAre.nil, rfl⟩
      · rintro I i t B3 m3 X3 s16 hi ⟨k1, k2, rfl, os, rfl, hos, hol⟩ hs3 S16
        unfold GrX at S16
        clear S12 S13 S14 S15
        walk_at "ms"
        refine nm_cell (c := cc) (by with_unfolding_all rfl) (S16.at (by walk_at "led")) ?_ (by with_unfolding_all rfl) (by with_unfolding_all rfl)
        walk_at "ms"
        rename_i S17
        refine take_st tf hT (hA'.mono (by walk_at "om")) S17 (by walk_at "led") (by walk_at "led") hne (by walk_at "om") (by walk_at "om") fun f4 t4 s18 f40 f41 S18 => ?_
        walk_at "ms"
        rename_i S19
        obtain ⟨z1, tz1, hz1, hz1a, hz1b⟩ := hly2.get (k := ((-1 - f4) + ys2.length).toNat) (by walk_at "om")
        refine sub_list_neg (S19.at (by walk_at "led")) (by walk_at "om") (by walk_at "om") (by walk_at "om") hz1 ?_
        walk_at "ms"
        rename_i S20
        refine take_st tf hT (hA'.mono (by walk_at "om")) S20 (by walk_at "led") (by walk_at "led") hne (by walk_at "om") (by walk_at "om") fun f5 t5 s21 f50 f51 S21 => ?_
        have hx1 := xor01 hz1a f50 f51
        walk_at "ms"
        rename_i S22
        exact TurnP.next .rfl ⟨by walk_at "lk", by walk_at "lk", rfl, _, rfl, hos.snoc hx1.1 (by rw [hx1.2]; exact hz1b), by simp [hol]⟩ S22
      · rintro B3 m3 X3 s16 ⟨k1, k2, rfl, os, rfl, hos, hol⟩ hs3 S16
        unfold GrX at S16
        clear S12 S13 S14 S15
        walk_at "ms"
        refine nm_cell (c := cc) (by with_unfolding_all rfl) (S16.at (by walk_at "led")) ?_ (by with_unfolding_all rfl) (by with_unfolding_all rfl)
        walk_at "ms"
        obtain ⟨out, ho1, ho2⟩ := hos
        obtain ⟨B4, o4, e1, e2, e3, S17⟩ := St.freeze (St.front (Y := [_, _]) S16) (by simp [hlnso, hlnls])
        obtain ⟨B5, o5, e4, e5, e6, S18⟩ := St.freeze (St.front (Y := [_, _, _]) S17) (by simp [hloso, hlols])
        refine hQ g ln li lo lt ns os G out B5 s16 S18.toGrow (hg2.mono (e3.trans e6)) ⟨o4, e6 _ _ e1, e2⟩ (hN.mono fun _ _ h => h.mono (e3.trans e6)) ⟨o5, e4, e5⟩ ho1 hG ho2 ?_ (S18.at (by walk_at "led")) (S18.at (by walk_at "led")) (S18.news (so, IsSrc ls) (by walk_at "led")).2.2.1 (S18.news (ls, IsPool) (by walk_at "led")).2.2.1
        have := ho1.1
        omega
end

/- H2 -/

theorem at_relaxAll {K : Int} (hK : 0 ≤ K) {y : Int} (hy : 0 ≤ y) : ∀ (c r : List Int), (∀ x ∈ c, 0 ≤ x ∧ x < r.length) → at' (relaxAll K r c) y = if y ∈ c ∧ (at' r y < 0 ∨ K < at' r y) then K else at' r y
  | [], r, _ => by rw [if_neg (fun q => nomatch q.1)]; rfl
  | x :: c, r, h => by
    obtain ⟨h1, h2⟩ := h x (.head _)
    show at' (relaxAll K (relax K r x) c) y = _
    rw [at_relaxAll hK hy c _ fun z hz => by rw [relax_len]; exact h z (.tail _ hz), at_relax h1 h2 hy]
    by_cases e : y = x
    · subst e
      by_cases q : at' r y < 0 ∨ K < at' r y
      · have e1 : (if y = y ∧ (at' r y < 0 ∨ K < at' r y) then K else at' r y) = K := if_pos ⟨rfl, q⟩
        rw [e1, if_pos (⟨.head _, q⟩ : y ∈ y :: c ∧ (at' r y < 0 ∨ K < at' r y))]
        split <;> rfl
      · have e1 : (if y = y ∧ (at' r y < 0 ∨ K < at' r y) then K else at' r y) = at' r y := if_neg fun z => q z.2
        rw [e1, if_neg (fun z => q z.2), if_neg (fun z => q z.2)]
    · have e1 : (if y = x ∧ (at' r x < 0 ∨ K < at' r x) then K else at' r y) = at' r y := if_neg fun z => e z.1
      rw [e1]
      by_cases q : y ∈ c ∧ (at' r y < 0 ∨ K < at' r y)
      · rw [if_pos q, if_pos (⟨.tail _ q.1, q.2⟩ : y ∈ x :: c ∧ (at' r y < 0 ∨ K < at' r y))]
      · rw [if_neg q, if_neg]
        rintro ⟨a, b⟩
        rcases List.mem_cons.mp a with a | a
        · exact e a
        · exact q ⟨a, b⟩

structure StepOk (ch : Ch) (r0 : List Int) (n : Nat) : Prop where
  len : r0.length = n
  ok : ∀ t, t < n → ∀ c, ch[n - 1 - t]? = some (some c) → 0 ≤ at' (roomAt ch r0 n t) (n - 1 - t : Nat) ∧ (∀ x ∈ c, 0 ≤ x ∧ x < (n - 1 - t : Nat)) ∧ (c ≠ [] → 1 ≤ at' (roomAt ch r0 n t) (n - 1 - t : Nat))

section
variable {ch : Ch} {r0 : List Int} {n : Nat}
theorem StepOk.cases (h : StepOk ch r0 n) {k : Nat} (hk : k < n) : roomAt ch r0 n (k + 1) = roomAt ch r0 n k ∨
    ∃ c, ch[n - 1 - k]? = some (some c) ∧ roomAt ch r0 n (k + 1) = relaxAll (at' (roomAt ch r0 n k) (n - 1 - k : Nat) - 1) (roomAt ch r0 n k) c := by
  show stepR ch _ _ = _ ∨ _
  cases q : (ch[n - 1 - k]?).join with
  | none => left; unfold stepR; rw [q]
  | some c =>
    right
    refine ⟨c, ?_, ?_⟩
    · cases q2 : ch[n - 1 - k]? with
      | none => rw [q2] at q; cases q
      | some o => rw [q2] at q; simp at q; rw [q]
    · show stepR ch _ _ = _
      unfold stepR; rw [q]
theorem StepOk.step (h : StepOk ch r0 n) {k : Nat} (hk : k < n) {y : Int} (hy : 0 ≤ y) :
    (0 ≤ at' (roomAt ch r0 n k) y → 0 ≤ at' (roomAt ch r0 n (k + 1)) y ∧ at' (roomAt ch r0 n (k + 1)) y ≤ at' (roomAt ch r0 n k) y) ∧
    ((n - 1 - k : Nat) ≤ y → at' (roomAt ch r0 n (k + 1)) y = at' (roomAt ch r0 n k) y) ∧
    (∀ c, ch[n - 1 - k]? = some (some c) → y ∈ c → 0 ≤ at' (roomAt ch r0 n (k + 1)) y ∧ at' (roomAt ch r0 n (k + 1)) y ≤ at' (roomAt ch r0 n k) (n - 1 - k : Nat) - 1) := by
  rcases h.cases hk with e | ⟨c, hc, e⟩
  · rw [e]
    refine ⟨fun q => ⟨q, Int.le_refl _⟩, fun _ => rfl, fun c hc hy' => ?_⟩
    obtain ⟨a1, a2, a3⟩ := h.ok k hk c hc
    have hx := a2 y hy'
    have e2 : roomAt ch r0 n (k + 1) = relaxAll (at' (roomAt ch r0 n k) (n - 1 - k : Nat) - 1) (roomAt ch r0 n k) c := by
      show stepR ch _ _ = _
      unfold stepR; rw [hc]; rfl
    rw [e] at e2
    have hl : (roomAt ch r0 n k).length = n := by rw [roomAt_len, h.len]
    have e3 := at_relaxAll (K := at' (roomAt ch r0 n k) (n - 1 - k : Nat) - 1) (by have := a3 (List.ne_nil_of_mem hy'); omega) hy c (roomAt ch r0 n k) fun x hx => ⟨(a2 x hx).1, by have := (a2 x hx).2; omega⟩
    rw [← e2] at e3
    have := a3 (List.ne_nil_of_mem hy')
    split at e3
    · omega
    · rename_i q
      have q1 : ¬ (at' (roomAt ch r0 n k) y < 0) := fun z => q ⟨hy', .inl z⟩
      have q2 : ¬ (at' (roomAt ch r0 n k) (n - 1 - k : Nat) - 1 < at' (roomAt ch r0 n k) y) := fun z => q ⟨hy', .inr z⟩
      omega
  · obtain ⟨a1, a2, a3⟩ := h.ok k hk c hc
    have hl : (roomAt ch r0 n k).length = n := by rw [roomAt_len, h.len]
    rw [e]
    by_cases q0 : c = []
    · subst q0
      refine ⟨fun q => ⟨q, Int.le_refl _⟩, fun _ => rfl, fun c' hc' hy' => ?_⟩
      rw [hc] at hc'; cases hc'; cases hy'
    · have k0 := a3 q0
      have e3 := at_relaxAll (K := at' (roomAt ch r0 n k) (n - 1 - k : Nat) - 1) (by omega) hy c (roomAt ch r0 n k) fun x hx => ⟨(a2 x hx).1, by have := (a2 x hx).2; omega⟩
      rw [e3]
      refine ⟨fun q => ?_, fun q => ?_, fun c' hc' hy' => ?_⟩
      · split
        · rename_i z; rcases z.2 with z | z <;> omega
        · exact ⟨q, Int.le_refl _⟩
      · rw [if_neg]
        rintro ⟨z, _⟩
        have := (a2 y z).2
        omega
      · rw [hc] at hc'; cases hc'
        split
        · omega
        · rename_i z
          have q1 : ¬ (at' (roomAt ch r0 n k) y < 0) := fun z' => z ⟨hy', .inl z'⟩
          have q2 : ¬ (at' (roomAt ch r0 n k) (n - 1 - k : Nat) - 1 < at' (roomAt ch r0 n k) y) := fun z' => z ⟨hy', .inr z'⟩
          omega
theorem StepOk.mono (h : StepOk ch r0 n) {k : Nat} {y : Int} (hy : 0 ≤ y) : ∀ {j : Nat}, k + j ≤ n → 0 ≤ at' (roomAt ch r0 n k) y → 0 ≤ at' (roomAt ch r0 n (k + j)) y ∧ at' (roomAt ch r0 n (k + j)) y ≤ at' (roomAt ch r0 n k) y
  | 0, _, q => ⟨q, Int.le_refl _⟩
  | j + 1, hj, q => by
    obtain ⟨a, b⟩ := h.mono hy (j := j) (by omega) q
    have := (h.step (k := k + j) (by omega) hy).1 a
    rw [← Nat.add_assoc]
    omega
theorem StepOk.off (h : StepOk ch r0 n) {k : Nat} {y : Int} (hy : 0 ≤ y) (hk : (n - 1 - k : Nat) ≤ y) : ∀ {j : Nat}, k + j ≤ n → at' (roomAt ch r0 n (k + j)) y = at' (roomAt ch r0 n k) y
  | 0, _ => rfl
  | j + 1, hj => by
    rw [← Nat.add_assoc, (h.step (k := k + j) (by omega) hy).2.1 (by omega), h.off hy hk (by omega)]
/-- at the end: what a chosen cut asks of the rooms -/
theorem StepOk.fin (h : StepOk ch r0 n) {i : Nat} {c : List Int} (hi : i < n) (hc : ch[i]? = some (some c)) :
    0 ≤ at' (roomAt ch r0 n n) i ∧ ∀ x ∈ c, 0 ≤ x ∧ x < i ∧ 0 ≤ at' (roomAt ch r0 n n) x ∧ at' (roomAt ch r0 n n) x ≤ at' (roomAt ch r0 n n) i - 1 := by
  have e : n - 1 - (n - 1 - i) = i := by omega
  have hk : n - 1 - i < n := by omega
  have hc' : ch[n - 1 - (n - 1 - i)]? = some (some c) := by rw [e]; exact hc
  obtain ⟨a1, a2, a3⟩ := h.ok _ hk c hc'
  have o1 := h.off (k := n - 1 - i) (y := i) (by omega) (by omega) (j := n - (n - 1 - i)) (by omega)
  rw [show n - 1 - i + (n - (n - 1 - i)) = n by omega] at o1
  rw [e] at a1 a2 a3
  refine ⟨by rw [o1]; exact a1, fun x hx => ?_⟩
  obtain ⟨x0, x1⟩ := a2 x hx
  obtain ⟨b1, b2⟩ := (h.step hk x0).2.2 c hc' hx
  have m := h.mono (k := n - 1 - i + 1) (y := x) x0 (j := n - (n - 1 - i + 1)) (by omega) b1
  rw [show n - 1 - i + 1 + (n - (n - 1 - i + 1)) = n by omega] at m
  rw [e] at b2
  refine ⟨x0, x1, m.1, ?_⟩
  omega
end

theorem RecOk.stepOk {G : Gr} {R : Cuts} {dp fl out : List Int} {ch : Ch} (h : RecOk G R dp fl out ch G.length) (hC : GoodC G R) (hD : CoverOk G R dp) : StepOk ch (room0 G.length (topOf dp out) out) G.length := by
  refine ⟨room0_len _ _ _, fun t ht c hc => ?_⟩
  have key : 0 ≤ at' (roomAt ch (room0 G.length (topOf dp out) out) G.length t) (G.length - 1 - t : Nat) ∧ isAnd G (G.length - 1 - t : Nat) = true := by
    false_or_by_contra
    rename_i q
    have := h.none' t ht (by
      by_cases q1 : at' (roomAt ch (room0 G.length (topOf dp out) out) G.length t) (G.length - 1 - t : Nat) < 0
      · exact .inl q1
      · right
        cases q2 : isAnd G (G.length - 1 - t : Nat) with
        | false => rfl
        | true => exact absurd ⟨by omega, q2⟩ q)
    rw [hc] at this; cases this
  obtain ⟨c', row, e, hp⟩ := h.some' t ht key.1 key.2
  rw [hc] at e; cases e
  refine ⟨key.1, fun x hx => ⟨(((hC.rows _ _ hp.here).2 c hp.mem).2 x hx).1, hC.below _ _ hp.here c hp.mem hp.ne x hx⟩, fun hne => ?_⟩
  obtain ⟨x, hx⟩ := List.exists_mem_of_ne_nil c hne
  have h1 := lvl_leaf (dp := dp) hx
  have h2 := at_nonneg hD.pos x
  have h3 := hp.fit
  omega

/-- the levels over the chosen cuts -/
structure LevI (rf lv : List Int) (n : Nat) : Prop where
  len : lv.length = n
  le : ∀ x : Int, 0 ≤ x → x < n → 0 ≤ at' rf x → at' lv x ≤ at' rf x
theorem at_rep {n : Nat} {v x : Int} (h0 : 0 ≤ x) (h1 : x < n) : at' (List.replicate n v) x = v := by
  unfold at'
  rw [List.getD_eq_getElem?_getD, List.getElem?_replicate, if_pos (by omega)]; rfl
theorem LevI.zero {rf : List Int} {n : Nat} : LevI rf (List.replicate n 0) n := ⟨by simp, fun x h0 h1 h => by rw [at_rep h0 h1]; exact h⟩
theorem lvl_le {dp c : List Int} {K : Int} (h0 : 0 ≤ K) (h : ∀ x ∈ c, at' dp x ≤ K - 1) : lvl dp c ≤ K := by
  cases c with
  | nil => exact h0
  | cons x r =>
    obtain ⟨h1, _⟩ := foldl_max (at' dp) r (at' dp x)
    have : r.foldl (fun a y => max a (at' dp y)) (at' dp x) ≤ K - 1 := by
      rcases List.mem_cons.mp h1 with e | e
      · rw [e]; exact h x (.head _)
      · obtain ⟨y, hy, e2⟩ := List.mem_map.mp e
        rw [← e2]; exact h y (.tail _ hy)
    show 1 + _ ≤ K
    omega
theorem LevI.put {ch : Ch} {r0 lv : List Int} {n i : Nat} {c : List Int} (h : LevI (roomAt ch r0 n n) lv n) (hS : StepOk ch r0 n) (hi : i < n) (hc : ch[i]? = some (some c)) :
    lvl lv c ≤ at' (roomAt ch r0 n n) i ∧ LevI (roomAt ch r0 n n) (lv.set i (lvl lv c)) n := by
  obtain ⟨a, b⟩ := hS.fin hi hc
  have hle : lvl lv c ≤ at' (roomAt ch r0 n n) i := lvl_le a fun x hx => by
    obtain ⟨x0, x1, x2, x3⟩ := b x hx
    have := h.le x x0 (by omega) x2
    omega
  refine ⟨hle, by rw [List.length_set, h.len], fun x x0 x1 hx => ?_⟩
  have := at_set (r := lv) (y := i) (x := x) (K := lvl lv c) (by omega) (by rw [h.len]; omega) x0
  rw [Int.toNat_natCast] at this
  rw [this]
  split
  · rename_i e; rw [e]; exact hle
  · exact h.le x x0 x1 hx
theorem LevI.fin {ch : Ch} {dp out lv : List Int} {n : Nat} {k : Int} (h : LevI (roomAt ch (room0 n (topOf dp out) out) n n) lv n) (hS : StepOk ch (room0 n (topOf dp out) out) n) (hout : ∀ l ∈ out, 0 ≤ l ∧ l / 2 < n)
    (hk : IsMaxOf k (0 :: out.map fun l => at' lv (l / 2))) : k ≤ topOf dp out := by
  have h0 : 0 ≤ topOf dp out := (topOf_max dp out).2 0 (.head _)
  rcases List.mem_cons.mp hk.1 with e | e
  · rw [e]; exact h0
  · obtain ⟨l, hl, e⟩ := List.mem_map.mp e
    obtain ⟨l0, l1⟩ := hout l hl
    have r := room0_cases n (topOf dp out) out hout (x := l / 2) (by omega) l1
    rw [if_pos ⟨l, hl, rfl⟩] at r
    have m := hS.mono (k := 0) (y := l / 2) (by omega) (j := n) (by omega) (by show 0 ≤ at' (room0 _ _ _) _; rw [r]; exact h0)
    rw [Nat.zero_add] at m
    have m2 : at' (roomAt ch (room0 n (topOf dp out) out) n n) (l / 2) ≤ topOf dp out := by
      have := m.2
      rw [show at' (roomAt ch (room0 n (topOf dp out) out) n 0) (l / 2) = topOf dp out from r] at this
      exact this
    have := h.le (l / 2) (by omega) l1 m.1
    omega

/-- the dict of rooms -/
def RoomRel (f : Int → Option Value) (r : List Int) (n : Nat) : Prop := ∀ x : Int, 0 ≤ x → x < n → (at' r x < 0 → f x = none) ∧ (0 ≤ at' r x → ∃ t, f x = some (.int (at' r x) t))
theorem RoomRel.zero {n : Nat} : RoomRel (fun _ => none) (List.replicate n (-1)) n := fun x h0 h1 => ⟨fun _ => rfl, fun q => by rw [at_rep h0 h1] at q; omega⟩
theorem RoomRel.set {f : Int → Option Value} {r : List Int} {n : Nat} {k v : Int} {t : Tok} (h : RoomRel f r n) (hl : r.length = n) (h0 : 0 ≤ k) (h1 : k < n) (hv : 0 ≤ v) : RoomRel (fun x => if x = k then some (.int v t) else f x) (r.set k.toNat v) n := fun x x0 x1 => by
  rw [at_set h0 (by omega) x0]
  by_cases e : x = k
  · simp only [e, if_true]
    exact ⟨fun q => by omega, fun _ => ⟨t, rfl⟩⟩
  · simp only [e, if_false]
    exact h x x0 x1
theorem RoomRel.same {f : Int → Option Value} {r : List Int} {n : Nat} {k : Int} {t : Tok} (h : RoomRel f r n) (hv : 0 ≤ at' r k) : RoomRel (fun x => if x = k then some (.int (at' r k) t) else f x) r n := fun x x0 x1 => by
  by_cases e : x = k
  · simp only [e, if_true]
    exact ⟨fun q => by omega, fun _ => ⟨t, rfl⟩⟩
  · simp only [e, if_false]
    exact h x x0 x1
theorem RoomRel.relax {f : Int → Option Value} {r : List Int} {n : Nat} {k K : Int} {t : Tok} (h : RoomRel f r n) (hl : r.length = n) (h0 : 0 ≤ k) (h1 : k < n) (hK : 0 ≤ K) :
    (at' r k < 0 → RoomRel (fun x => if x = k then some (.int (min K K) t) else f x) (Mine.relax K r k) n) ∧
    (0 ≤ at' r k → RoomRel (fun x => if x = k then some (.int (min (at' r k) K) t) else f x) (Mine.relax K r k) n) := by
  unfold Mine.relax
  refine ⟨fun q => ?_, fun q => ?_⟩
  · rw [if_pos (.inl q), Int.min_self]
    exact h.set hl h0 h1 hK
  · by_cases q2 : K < at' r k
    · rw [if_pos (.inr q2), Int.min_eq_right (by omega)]
      exact h.set hl h0 h1 hK
    · rw [if_neg (fun z => by rcases z with z | z <;> omega), Int.min_eq_left (by omega)]
      exact h.same q

/- MDi -/

def IsDi (prog : Program) (w : World) (f : Int → Option Value) (k : Nat) : Obj → Prop := fun o => ∃ kvs : List (Int × Value), (∀ (h : Heap) (a : Addr), h.get? a = some o → h.DictOf (intKind prog w) a kvs) ∧ valueAt kvs = f ∧ kvs.length ≤ k
theorem valueAt_stored (kvs : List (Int × Value)) (k : Int) (v : Value) : valueAt (stored kvs k v) = fun x => if x = k then some v else valueAt kvs x := by
  funext x
  unfold stored
  split
  · rename_i h
    induction kvs with
    | nil => simp at h
    | cons p r ih =>
      obtain ⟨y, u⟩ := p
      simp only [List.map_cons]
      by_cases e : y = k
      · subst e
        simp only [if_true]
        by_cases q : x = y
        · subst q; simp [valueAt]
        · have q' : ¬ y = x := fun z => q z.symm
          simp only [if_neg q, valueAt, List.find?_cons, q', decide_false]
          have g : ∀ r : List (Int × Value), ((r.map fun kv => if kv.1 = y then (kv.1, v) else kv).find? fun kv => decide (kv.1 = x)).map (·.2) = (r.find? fun kv => decide (kv.1 = x)).map (·.2) := by
            intro r
            induction r with
            | nil => rfl
            | cons p r ih2 =>
              simp only [List.map_cons, List.find?_cons]
              by_cases e2 : p.1 = y
              · simp only [e2, if_true, q', decide_false]; exact ih2
              · simp only [e2, if_false]
                by_cases e3 : p.1 = x
                · simp [e3]
                · simp only [e3, decide_false]; exact ih2
          exact g r
      · simp only [e, if_false]
        have hr : (r.any fun kv => decide (kv.1 = k)) = true := by
          simp only [List.any_cons, e, decide_false, Bool.false_or] at h; exact h
        have ih' := ih hr
        by_cases q : y = x
        · subst q
          simp [valueAt, e]
        · simp only [valueAt, List.find?_cons, q, decide_false] at ih' ⊢
          exact ih'
  · rename_i h
    induction kvs with
    | nil =>
      by_cases q : x = k
      · subst q; simp [valueAt]
      · have q' : ¬ k = x := fun z => q z.symm
        simp [valueAt, q, q']
    | cons p r ih =>
      obtain ⟨y, u⟩ := p
      have hy : ¬ y = k := fun z => h (by simp [z])
      have ih' := ih (fun z => h (by simp only [List.any_cons, z, Bool.or_true]))
      simp only [List.cons_append, valueAt, List.find?_cons] at ih' ⊢
      by_cases q : y = x
      · subst q; simp [hy]
      · simp only [q, decide_false]; exact ih'

section
variable {M : List Addr} {B₀ B : Mem} {s₀ s : Shared} {L : Addr} {m : Str → Option Value} {X X' : Led} {prog : Program} {w : World} {A : Around} {E : Value → Shared → Prop} {env : Env} {T : Heap} {mg mb : Str → Option Value} {Q : Value → Shared → Prop} {d : Addr} {f : Int → Option Value} {k : Nat} {x : Int} {t : Tok}
theorem ik {prog : Program} {w : World} {x : Int} {t : Tok} : (intKind prog w).is x (.int x t) = true := by show (x == x) = true; simp
theorem ne_mod {d : Addr} (h : d ≠ 1) : (d == sysModules) = false := by
  have : d ≠ sysModules := h
  simpa using this
theorem di_new {M' : Model} {pos : Pos} (prog : Program) (tf : TF w T mg mb) (hT : Sub T.get? B₀) (S : St M B₀ s₀ B L m X s) (h : ∀ a s', St M B₀ s₀ B L m ((a, IsDi prog w (fun _ => none) 0) :: X) s' → a ≠ 1 → Q (.ref a) s') : wpAny M' A (eval (.Dict [] [] pos) env) Q E s := by
  have hsz : 26 < s.heap.objs.size := Heap.lt_size (S.top hT _ _ (tf.K 26 _ rfl))
  refine wpAny_Dict_empty (h _ _ (S.push (t := s.toks) _ ⟨[], fun h a e => ⟨_, #[], 0, e, ⟨rfl, rfl, rfl⟩, rfl, fun _ he => by simp at he, .nil, .nil⟩, rfl, Nat.le_refl _⟩) fun q => ?_)
  rw [q] at hsz
  exact absurd hsz (by decide)
theorem di_map (hd : At s.heap.get? d (IsDi prog w f k)) : s.heap.MapOf (intKind prog w) d f := by
  obtain ⟨o, e, kvs, h, rfl, _⟩ := hd
  exact (h _ _ e).mapOf
theorem di_in (S : St M B₀ s₀ B L m X s) (hd : At s.heap.get? d (IsDi prog w f k)) (h1 : d ≠ 1) (h : ∀ s', St M B₀ s₀ B L m X s' → Q (.bool (f x).isSome) s') : wpAny (model prog w) A (compareOp .In (.int x t) (.ref d)) Q E s :=
  wpAny_in_of ik (ne_mod h1) (di_map hd) (h _ (S.tok _))
theorem di_item {value slice : Expr} {v : Value} (S : St M B₀ s₀ B L m X s) (hd : At s.heap.get? d (IsDi prog w f k)) (hv : f x = some v) (h : ∀ s', St M B₀ s₀ B L m X s' → Q v s')
    (hs : subscripted slice false (.ref d) (.int x t) = operate [.ref d, .int x t] (getItem (.ref d) (.int x t)) := by with_unfolding_all rfl) :
    wpAny (model prog w) A (subscriptTail value slice (.ref d) (.int x t)) Q E s :=
  tail_any (di_map hd).typeIs slot_dict_getitem.lookup (wpAny_getItem_of ik (di_map hd) hv (h _ (S.tok _))) hs
theorem di_set {v : Value} {Q : Unit → Shared → Prop} (S : St M B₀ s₀ B L m X s) (U : LUpd d (IsDi prog w f k) (IsDi prog w (fun y => if y = x then some v else f y) (k + 1)) X X') (hk : k ≤ 100000) (h : ∀ s', St M B₀ s₀ B L m X' s' → Q () s') :
    wpAny (model prog w) A (setItem (.ref d) (.int x t) v) Q E s := by
  obtain ⟨o, e, kvs, hd, rfl, hl⟩ := S.at U.mem
  refine wpAny_setItem_pairs (knd := intKind prog w) ik (hd _ _ e) (fun h' hd' hs => h _ ?_) (by rw [sizeLine_eq]; omega)
  obtain ⟨o', es, ep, e', r⟩ := hd'
  exact S.updL U hs e' ⟨_, fun h a e => ⟨o', es, ep, e, r⟩, valueAt_stored _ _ _, Nat.le_trans (stored_length_le _ _ _) (Nat.add_le_add_right hl 1)⟩
theorem di_method {pl : Sem Bool} {Q : Value × List Value → Shared → Prop} (hd : At s.heap.get? d (IsDi prog w f k)) (h : Q (.builtin "dict.get", [.ref d]) s) : wpAny (model prog w) A (getMethod (.ref d) "get" pl) Q E s := by
  have m := di_map hd
  exact getMethod_builtin (m.typeIs) PySem.F.plainAttrs_dict PySem.F.slot_dict_get PySem.F.type_dict_get m.noDict h
theorem di_get {dflt : Value} (S : St M B₀ s₀ B L m X s) (hd : At s.heap.get? d (IsDi prog w f k)) (h1 : d ≠ 1) (h : ∀ s', St M B₀ s₀ B L m X s' → Q ((f x).getD dflt) s') : wpAny (model prog w) A (call (.builtin "dict.get") [.ref d, .int x t, dflt]) Q E s :=
  call_meetsIn PySem.F.slot_dict_get (di_map hd).typeIs PySem.F.entry_dict_get (PySem.F.args_dict_get_3 _ _ _) (meets_dict_get_default (intKind prog w) d ik (ne_mod h1) dflt) ⟨f, di_map hd, h _ (S.tok _)⟩
end

/- H3 -/

theorem CutAt.inj {g : Mem} {v : Value} {c d : List Int} (h : CutAt g v c) (h' : CutAt g v d) : c = d := by
  obtain ⟨a, vs, rfl, ⟨o, e1, q1⟩, hi⟩ := h
  obtain ⟨b, us, e, ⟨o', e2, q2⟩, hj⟩ := h'
  cases e
  rw [e1] at e2; cases e2
  have := q1.inj q2
  subst this
  exact hi.inj hj

section
variable {M : List Addr} {B₀ B : Mem} {s₀ s : Shared} {L : Addr} {m : Str → Option Value} {X X' : Led} {prog : Program} {w : World} {A : Around} {E : Value → Shared → Prop} {env : Env} {Q : Value → Shared → Prop}

theorem ne_cut {u v : Value} {c d : List Int} (hu : CutAt s.heap.get? u c) (hv : CutAt s.heap.get? v d) (hA : A.units < cLine) (h : Q (.bool (!decide (c = d))) s) : wpAny (model prog w) A (compareOp .NotEq u v) Q E s := by
  obtain ⟨a, vs, rfl, ha, hi⟩ := hu
  obtain ⟨b, us, rfl, hb, hj⟩ := hv
  have r := RcNeAt.tuples (A := A) (e := fun j => c.getD j 0 == d.getD j 0) ha.isTup hb.isTup hA (fun j h1 h2 => by
    have h1' : j < vs.length := by simpa using h1
    have h2' : j < us.length := by simpa using h2
    have h1c : j < c.length := hi.1 ▸ h1'
    have h2d : j < d.length := hj.1 ▸ h2'
    obtain ⟨t, q1⟩ := hi.2 j _ _ (List.getElem?_eq_getElem h1') (List.getElem?_eq_getElem h1c)
    obtain ⟨t', q2⟩ := hj.2 j _ _ (List.getElem?_eq_getElem h2') (List.getElem?_eq_getElem h2d)
    have e1 : vs.toArray[j] = .int c[j] t := by simpa using q1
    have e2 : us.toArray[j] = .int d[j] t' := by simpa using q2
    rw [e1, e2]
    have : (c.getD j 0 == d.getD j 0) = (c[j] == d[j]) := by simp [List.getD, h1c, h2d]
    rw [this]
    exact EqAt.int_int _ _ _ _)
  have e1 : vs.toArray.size = c.length := by simp [hi.1]
  have e2 : us.toArray.size = d.length := by simp [hj.1]
  rw [e1, e2, allEq_ints] at r
  exact r prog w E Q h

theorem notIn_cuts {a : Addr} {vs : List Value} {cs : List (List Int)} {v : Value} {c : List Int} (ha : At s.heap.get? a (IsLs vs)) (hcs : CutsAre s.heap.get? vs cs) (hv : CutAt s.heap.get? v c) (hm : c ∈ cs) (hA : A.units + 1 < cLine)
    (h : Q (.bool false) s) : wpAny (model prog w) A (compareOp .NotIn v (.ref a)) Q E s := by
  classical
  refine notIn_listAt (fun y => decide (CutAt s.heap.get? y c)) ha.isList (fun y hy => ?_) ?_
  · have hy' : y ∈ vs := by simpa using hy
    obtain ⟨i, hi, e⟩ := List.mem_iff_getElem.mp hy'
    obtain ⟨c', _, hc'⟩ := hcs.get (List.getElem?_eq_getElem hi |>.trans (congrArg some e))
    have r := eqAt_cut (A := A.in1) hc' hv hA
    have e : decide (CutAt s.heap.get? y c) = decide (c' = c) := by
      by_cases q : c' = c
      · subst q; simp [hc']
      · simp [q]; exact fun z => q (hc'.inj z)
    rw [e]; exact r
  · obtain ⟨i, hi⟩ := List.mem_iff_getElem?.mp hm
    obtain ⟨y, hy, hc'⟩ := hcs.get' hi
    have : vs.toArray.any (fun y => decide (CutAt s.heap.get? y c)) = true := by
      rw [List.any_toArray, List.any_eq_true]
      exact ⟨y, List.mem_of_getElem? hy, by simpa using hc'⟩
    rw [this]; exact h

theorem st_cellU {M' : Model} {x : Str} {v : Value} {c : Addr} {P : Obj → Prop} {Q : Unit → Shared → Prop} (S : St M B₀ s₀ B L m X s) (hc : env.cells.lookup x = some c) (U : LUpd c P (fun o => o.data = .cell (some v)) X X') (hP : ∀ o, P o → ∃ v₀, o.data = .cell v₀)
    (h : ∀ s', St M B₀ s₀ B L m X' s' → Q () s')
    (hk : env.scope.kind = .function := by rfl) (hl : env.kindOf x = some .cell := by rfl) : wpAny M' A (storeName env x v) Q E s := by
  obtain ⟨o, e, ho⟩ := S.at U.mem
  obtain ⟨v₀, hd⟩ := hP o ho
  refine wpAny_storeName_cell hk hl hc ⟨o, e, hd⟩ fun h' hv hs => ?_
  obtain ⟨o', e', hd'⟩ := hv
  exact h _ (S.updL U hs e' hd')

/-- the element `d[x // 2]`, d a cell's name -/
theorem elt_div {scope : Scope} {cl : List (Str × Addr)} {C : Addr} {x d : Str} {px pd ps pb pc} {kk} {a l : Addr} {vs : List Value} {n : Int} {t : Tok} {v : Value} {s₃ : Shared} {m₃ : Str → Option Value} {E' : Value → Shared → Prop} {F : Value → Prop}
    (hns : s₃.heap.Ns C m₃) (hx : m₃ x = some (.int n t)) (hc : At s₃.heap.get? a (fun o => o.data = .cell (some (.ref l)))) (hl : At s₃.heap.get? l (IsLs vs)) (hv : vs[(n / 2).toNat]? = some v) (h0 : 0 ≤ n) (h1 : n < 2 ^ 60) (hF : F v)
    (hk : scope.kind = .function := by rfl) (hxl : (compEnvC scope cl C env).kindOf x = some .local := by with_unfolding_all rfl) (hdc : (compEnvC scope cl C env).kindOf d = some .cell := by with_unfolding_all rfl) (hcl : cl.lookup d = some a := by with_unfolding_all rfl)
    (hxd : (x == ("__debug__" : Str)) = false := by decide) (hdd : (d == ("__debug__" : Str)) = false := by decide) :
    wpAny (model prog w) A (eval (.Subscript (.Name d pd) (.BinOp (.Name x px) .FloorDiv (.Constant (.int 2) kk pc) pb) ps) (compEnvC scope cl C env)) (fun y s₄ => F y ∧ Keeps s₃ s₄) E' s₃ := by
  refine Subscript_ (wpAny_Name (wpAny_loadName_cell (c := a) hk hdc hcl (let ⟨o, e, d⟩ := hc; ⟨o, e, d⟩) ?_) hdd)
  refine wpAny_BinOp (wpAny_Name (wpAny_loadName_local hk hxl hns hx ?_) hxd)
  refine wpAny_Constant_int ?_
  refine floordiv_int (by omega) ?_ (.inl (PyProof.noPylong_small (by omega)))
  rw [Int.fdiv_eq_ediv_of_nonneg _ (by omega)]
  exact sub_list hl (by omega) (by omega) hv ⟨hF, s₃.heap, _, rfl, fun _ _ e => e⟩

theorem lc_divs {scope : Scope} {cl : List (Str × Addr)} {x d : Str} {px pd ps pb pc : Pos} {kk} {b l a : Addr} {us vs : List Value} {c dp : List Int}
    (hh : A.handled = none) (S : St M B₀ s₀ B L m X s) (hb : At s.heap.get? b (IsLs us)) (hj : Ints us c) (hcell : At s.heap.get? a (fun o => o.data = .cell (some (.ref l)))) (hl : At s.heap.get? l (IsLs vs)) (hi : Ints vs dp)
    (hc : ∀ x ∈ c, 0 ≤ x ∧ x / 2 < dp.length) (hlen : dp.length ≤ 1000) (hcl : c.length ≤ 1000)
    (hQ : ∀ k ys s', St M B₀ s₀ B L m ((k, IsLs ys) :: X) s' → Ints ys (c.map fun l => at' dp (l / 2)) → Q (.ref k) s')
    (hk : scope.kind = .function := by rfl) (hxl : ∀ C, (compEnvC scope cl C env).kindOf x = some .local := by intro _; with_unfolding_all rfl) (hdc : ∀ C, (compEnvC scope cl C env).kindOf d = some .cell := by intro _; with_unfolding_all rfl) (hcl' : cl.lookup d = some a := by with_unfolding_all rfl)
    (hxd : (x == ("__debug__" : Str)) = false := by decide) (hdd : (d == ("__debug__" : Str)) = false := by decide) :
    LcGoal prog w A E env scope cl x (.Subscript (.Name d pd) (.BinOp (.Name x px) .FloorDiv (.Constant (.int 2) kk pc) pb) ps) (fun v y => ∃ n, IntV v n ∧ IntV y (at' dp (n / 2))) Q (.ref b) s := by
  have hle : us.length = c.length := hj.1
  refine lc_list (fun v y => ∃ n, IntV v n ∧ IntV y (at' dp (n / 2))) hh S hb (by omega) ?_ ?_
  · intro C v s₃ m₃ E' hv hns hx hk'
    obtain ⟨i, hi', e⟩ := List.mem_iff_getElem.mp hv
    obtain ⟨n, hn, t', rfl⟩ := hj.get (List.getElem?_eq_getElem hi' |>.trans (congrArg some e))
    obtain ⟨h0, h1⟩ := hc n (List.mem_of_getElem? hn)
    obtain ⟨tx, hx'⟩ := at_get hi (x := n / 2) (by omega) h1
    exact elt_div hns hx (hcell.mono fun b o e => hk' b o e) (hl.mono fun b o e => hk' b o e) hx' h0 (by omega) ⟨n, ⟨t', rfl⟩, ⟨tx, rfl⟩⟩ hk (hxl C) (hdc C) hcl' hxd hdd
  · intro k ys s5 S5 hF
    refine hQ k ys s5 S5 ⟨by rw [List.length_map, ← hF.1, hle], fun i y k hy hk => ?_⟩
    rw [List.getElem?_map] at hk
    obtain ⟨v, hv, n, ⟨t1, e1⟩, h2⟩ := hF.get' hy
    obtain ⟨n', hn', t2, e2⟩ := hj.get hv
    rw [e1] at e2; cases e2
    rw [hn'] at hk; cases hk
    exact h2

theorem slice_doI {value slice : Expr} {l : Addr} {vs : List Value} {k : Int} {u : Tok} (S : St M B₀ s₀ B L m X s) (hil : s.heap.IsList l vs.toArray) (h0 : 0 ≤ k) (hsz : vs.length ≤ 1000)
    (h : ∀ a s', St M B₀ s₀ B L m ((a, IsLs (vs.take k.toNat)) :: X) s' → Q (.ref a) s')
    (hs : subscripted slice false (.ref l) (.ref s.heap.objs.size) = operate [.ref s.heap.objs.size, .ref l] (getItem (.ref l) (.ref s.heap.objs.size)) := by with_unfolding_all rfl) :
    wpAny (model prog w) A (subscriptTail value slice (.ref l) (.ref s.heap.objs.size)) Q E { s with heap := s.heap.push { cls := .type "slice", data := .fields #[.none, .int k u, .none] } } := by
  have hT := Heap.IsList.typeIs (s := { s with heap := s.heap.push { cls := .type "slice", data := .fields #[.none, .int k u, .none] } }) (hil.push _)
  have S1 := S.ext (t := s.toks) (h' := s.heap.push { cls := .type "slice", data := .fields #[.none, .int k u, .none] }) fun _ _ e => Heap.get?_push_of_some _ e
  have body : wpAny (model prog w) A (getItem (.ref l) (.ref s.heap.objs.size)) (fun r s₃ => wpAny (model prog w) A (letTemporaryGo value (.ref l) r >>= fun _ => pure r) Q E s₃) E { s with heap := s.heap.push { cls := .type "slice", data := .fields #[.none, .int k u, .none] } } := by
    refine wpAny_getItem_list_slice (hil.push _) (Heap.IsSliceOf.new ..) .none (.int _ _) .none (by simp) ?_ (by rw [List.size_toArray, sizeLine_eq]; omega)
    refine wpAny_bind (wpAny_letTemporaryGo (wpAny_pure ?_))
    refine h _ _ (S1.push (t := s.toks) _ ⟨0, ?_⟩)
    have e2 : slicePick vs.toArray none (some k) none = (vs.take k.toNat).toArray := by
      have := slicePick_upto' vs.toArray k.toNat
      rw [Int.toNat_of_nonneg h0] at this
      rw [this]
    rw [e2]
  unfold subscriptTail
  refine wpAny_bind ?_
  rw [getitemInPython_of_ne hT.not_modules]
  refine wpAny_bind (wpAny_specialOf hT list_getitem_lookup ?_)
  have fin : wpAny (model prog w) A (subscripted slice false (.ref l) (.ref s.heap.objs.size)) (fun r s₃ => wpAny (model prog w) A (letTemporaryGo value (.ref l) r >>= fun _ => pure r) Q E s₃) E { s with heap := s.heap.push { cls := .type "slice", data := .fields #[.none, .int k u, .none] } } := by
    rw [hs]
    exact wpAny_operating body
  first
    | exact wpAny_pure (wpAny_bind fin)
    | exact wpAny_bind (wpAny_pure (wpAny_bind fin))
    | exact wpAny_bind fin
end

theorem Ints.take {vs : List Value} {ns : List Int} (h : Ints vs ns) (n : Nat) : Ints (vs.take n) (ns.take n) := All2.take h n
theorem room0_next {n : Nat} {top : Int} {out : List Int} {i : Nat} {l : Int} (h : out[i]? = some l) : room0 n top (out.take (i + 1)) = (room0 n top (out.take i)).set (l / 2).toNat top := fold_next _ _ h

/- H4 -/

def CellP : Obj → Prop := fun o => ∃ v, o.data = .cell v
abbrev CellV (v : Value) : Obj → Prop := fun o => o.data = .cell (some v)
theorem law_start {s₁ : Shared} {T h₁ : Heap} {L c1 c2 : Addr} {tk : Nat} {m : Str → Option Value} {o1 o2 : Obj} (hTs : T.objs.size = L) (F : Fr T L h₁ m)
    (h1 : h₁.get? c1 = some o1 ∧ c1 ≠ L ∧ T.get? c1 = none) (h2 : h₁.get? c2 = some o2 ∧ c2 ≠ L ∧ T.get? c2 = none) (h3 : h₁.get? 162 = some (tabObj #[]) ∧ 162 ≠ L ∧ T.get? 162 = none)
    (d1 : CellP o1) (d2 : CellP o2) (n1 : c1 ≠ c2) (n2 : c1 ≠ 162) (n3 : c2 ≠ 162) :
    St [] T.get? { s₁ with heap := T } T.get? L m [(c1, CellP), (c2, CellP), (162, TabI lamPos none)] { s₁ with heap := h₁, toks := tk } := by
  have hL : T.get? L = none := by rw [← hTs]; exact size_none T
  refine ⟨⟨rfl, (fun _ h => nomatch h), fun b e => ?_, fun b o _ e => F.keep b o e, .rfl, fun b o e => F.keep b o e, fun b o e => .inl e⟩, F.ns, hL, hL, fun p hp => ?_, by simp [n1, n2, n3]⟩
  · cases q : T.get? b with
    | none => rfl
    | some o => have e : h₁.get? b = none := e; rw [F.keep b o q] at e; cases e
  · simp only [List.mem_cons, List.not_mem_nil, or_false] at hp
    rcases hp with rfl | rfl | rfl
    · exact ⟨⟨o1, h1.1, d1⟩, h1.2.1, h1.2.2, .inr h1.2.2⟩
    · exact ⟨⟨o2, h2.1, d2⟩, h2.2.1, h2.2.2, .inr h2.2.2⟩
    · exact ⟨⟨_, h3.1, rfl⟩, h3.2.1, h3.2.2, .inr h3.2.2⟩
theorem law_end {c : ClaimW} {cl : Str → Option Addr} {mean : ExcName → Option Value} {args : List WData} {s₀ s : Shared} {B₀ B : Mem} {L : Addr} {m : Str → Option Value} {X : Led} {t : Option Addr} (S : St [] B₀ s₀ B L m X s) (ht : (162, TabI lamPos t) ∈ X)
    (hsz : s₀.heap.objs.size ≤ L) (hg : s₀.gens = #[]) (hn : ∀ cls, c.raises args cls = false) (hp : c.post args (.bool true) args = true) :
    GoodW c cl mean args s₀ (.ok (.ret (.bool true))) s ∧ GrownAll [(166, 162)] s.heap := by
  have F : Fr s₀.heap L s.heap m := ⟨S.ns, fun b o e => S.keep b o List.not_mem_nil e, hsz⟩
  have e := S.same
  refine ⟨goodW_bool F (by rw [e]; exact hg) hn hp (by rw [e]), ?_, trivial⟩
  obtain ⟨o, eo, rfl⟩ := S.at ht
  exact ⟨_, eo⟩
def LawQ (B₀ : Mem) (s₀ : Shared) (L : Addr) : Flow → Shared → Prop := fun f s => f = .ret (.bool true) ∧ ∃ B m X t, (162, TabI lamPos t) ∈ X ∧ St [] B₀ s₀ B L m X s
theorem LawQ.mk {B₀ B : Mem} {s₀ s : Shared} {L : Addr} {m : Str → Option Value} {X : Led} {t : Option Addr} (S : St [] B₀ s₀ B L m X s) (ht : (162, TabI lamPos t) ∈ X) : LawQ B₀ s₀ L (.ret (.bool true)) s := ⟨rfl, B, m, X, t, ht, S⟩
theorem law_gen {M' : Model} {A : Around} {k : Nat} {α : Type} {m : Sem α} {Q : α → Shared → Prop} {E : Value → Shared → Prop} {s : Shared} (h : Room A k) (hk : ∀ A', Room A' k → wpAny M' A' m Q E s) : wpAny M' A m Q E s := hk A h
section
variable {M : List Addr} {B₀ B B' : Mem} {s₀ s s' : Shared} {L : Addr} {m : Str → Option Value} {X X1 Y : Led}
theorem St.sublist (S : St M B₀ s₀ B L m X s) (h : Y.Sublist X) : St M B₀ s₀ B L m Y s := S.sub' (fun _ hp => h.subset hp) ((h.map _).nodup S.nodup)
/-- behind a call that changes one object of the ledger -/
theorem St.callU1 {a : Addr} {P P' : Obj → Prop} (S : St M B₀ s₀ B L m X s) (G : Grow [a] B s B' s') (U : LUpd a P P' X X1) (h1 : At s'.heap.get? a P') : St M B₀ s₀ B' L m X1 s' := by
  obtain ⟨Y1, Y2, rfl, rfl⟩ := U.split
  have S1 : St M B₀ s₀ B' L m ((a, P') :: (Y1 ++ Y2)) s' := (S.perm List.perm_middle).callM (Y := [(a, P)]) (Y' := [(a, P')]) G (fun b hb => by simpa using hb) rfl (fun p hp => by simp only [List.mem_singleton] at hp; subst hp; exact h1)
  exact S1.perm List.perm_middle.symm
theorem St.weakU {a : Addr} {P P' : Obj → Prop} (S : St M B₀ s₀ B L m X s) (U : LUpd a P P' X X1) (h : ∀ o, P o → P' o) : St M B₀ s₀ B L m X1 s := by
  obtain ⟨Y1, Y2, rfl, rfl⟩ := U.split
  exact ((S.perm List.perm_middle).weaken h).perm List.perm_middle.symm
/-- behind a call that keeps what is said of two objects -/
theorem St.callK2 {a b : Addr} {P R : Obj → Prop} (S : St M B₀ s₀ B L m X s) (G : Grow [a, b] B s B' s') (h1 : (a, P) ∈ X) (h2 : (b, R) ∈ X) (e1 : At s'.heap.get? a P) (e2 : At s'.heap.get? b R) : St M B₀ s₀ B' L m X s' := by
  refine S.callK G (fun c hc => ?_) fun c Z hc hp => ?_
  · simp only [List.mem_cons, List.not_mem_nil, or_false] at hc
    rcases hc with rfl | rfl
    · exact ⟨_, h1⟩
    · exact ⟨_, h2⟩
  · simp only [List.mem_cons, List.not_mem_nil, or_false] at hc
    rcases hc with rfl | rfl
    · rw [nodup_key S.nodup hp h1]; exact e1
    · rw [nodup_key S.nodup hp h2]; exact e2
end
theorem as_tuple {M : List Addr} {B₀ B : Mem} {s₀ s : Shared} {L : Addr} {m : Str → Option Value} {X : Led} {prog : Program} {w : World} {A : Around} {E : Value → Shared → Prop} {env : Env} {elts : List Expr} {x1} {pos : Pos} {t : Addr} {vs : List Value} {Q : Unit → Shared → Prop}
    (hh : A.handled = none) (S : St M B₀ s₀ B L m X s) (ht : At s.heap.get? t (IsTp vs))
    (h : ∀ s', St M B₀ s₀ B L m X s' → wpAny (model prog w) A (assignInOrder ((assignEach elts env).map (·.2)) vs) Q E s')
    (hn : (assignEach elts env).length = vs.length := by rfl) (hstar : (assignEach elts env).findIdx? (·.1) = none := by rfl) :
    wpAny (model prog w) A (assign (.Tuple elts x1 pos) env (.ref t)) Q E s :=
  wpAny_assign_Tuple hh ht.isTup (by simpa using hn) hstar fun h' he => h _ (S.ext (t := s.toks) (h' := h') fun b o e => he b o (fun q => by rw [q, size_none] at e; cases e) e)
/-- the names that the law's loops leave as they are -/
structure LawN (g rl f ka rm : Addr) (n : Nat) (top : Int) (m : Str → Option Value) : Prop where
  graph : m "graph" = some (.ref g)
  cuts : m "cuts" = some (.ref rl)
  flow : m "flow" = some (.ref f)
  chosen : m "chosen" = some (.ref ka)
  room : m "room" = some (.ref rm)
  count : ∃ t, m "count" = some (.int n t)
  top : ∃ t, m "top" = some (.int top t)
theorem LawN.upd {g rl f ka rm : Addr} {n : Nat} {top : Int} {m : Str → Option Value} (h : LawN g rl f ka rm n top m) {x : Str} {v : Value} (hx : (["graph", "cuts", "flow", "chosen", "room", "count", "top"] : List Str).contains x = false) : LawN g rl f ka rm n top (upd m x v) := by
  have e : ∀ y : Str, (["graph", "cuts", "flow", "chosen", "room", "count", "top"] : List Str).contains y = true → Mine.upd m x v y = m y := fun y hy => by
    unfold Mine.upd
    rw [if_neg (fun q => by rw [q, hx] at hy; cases hy)]
  exact ⟨(e _ (by decide)).trans h.graph, (e _ (by decide)).trans h.cuts, (e _ (by decide)).trans h.flow, (e _ (by decide)).trans h.chosen, (e _ (by decide)).trans h.room, let ⟨t, q⟩ := h.count; ⟨t, (e _ (by decide)).trans q⟩, let ⟨t, q⟩ := h.top; ⟨t, (e _ (by decide)).trans q⟩⟩
def LawX (prog : Program) (w : World) (d c1 c2 rm : Addr) (c' : Option Addr) (F : Int → Option Value) (k : Nat) : Led := [(rm, IsDi prog w F k), (c1, CellP), (c2, CellV (.ref d)), (162, TabI lamPos c')]
def LawJ1 (prog : Program) (w : World) (g rl f ka rm d c1 c2 : Addr) (c' : Option Addr) (n : Nat) (dp out : List Int) (N : Nat) (B : Mem) (j : Nat) : Inv := fun B2 m X =>
  LawN g rl f ka rm N (topOf dp out) m ∧ B2 = B ∧ ∃ F k, X = LawX prog w d c1 c2 rm c' F k ∧ RoomRel F (room0 n (topOf dp out) (out.take j)) n ∧ k ≤ j
def LawJ2 (prog : Program) (w : World) (g rl f ka rm d c1 c2 : Addr) (c' : Option Addr) (n : Nat) (dp out : List Int) (ch : Ch) (N : Nat) (B : Mem) (k : Nat) : Inv := fun B2 m X =>
  LawN g rl f ka rm N (topOf dp out) m ∧ Sub B B2 ∧ ∃ F kk, X = LawX prog w d c1 c2 rm c' F kk ∧ RoomRel F (roomAt ch (room0 n (topOf dp out) out) n k) n ∧ kk ≤ 2 + 200 * k
def LawJ3 (prog : Program) (w : World) (g rl f ka rm d c1 c2 : Addr) (c' : Option Addr) (N : Nat) (top : Int) (i : Int) (ti : Tok) (It : Addr × (Obj → Prop)) (F : Int → Option Value) (kk : Nat) (B3 : Mem) (_ : Nat) : Inv := fun B4 m X =>
  LawN g rl f ka rm N top m ∧ m "node" = some (.int i ti) ∧ Sub B3 B4 ∧ X = It :: LawX prog w d c1 c2 rm c' F kk
def LawJ4 (prog : Program) (w : World) (g rl f ka rm d c1 c2 : Addr) (c' : Option Addr) (N : Nat) (top : Int) (i : Int) (ti : Tok) (It : Addr × (Obj → Prop)) (n : Nat) (r c : List Int) (K : Int) (kk : Nat) (B4 : Mem) (j : Nat) : Inv := fun B5 m X =>
  LawN g rl f ka rm N top m ∧ m "node" = some (.int i ti) ∧ B5 = B4 ∧ ∃ F k5, X = It :: LawX prog w d c1 c2 rm c' F k5 ∧ RoomRel F (relaxAll K r (c.take j)) n ∧ k5 ≤ kk + j
def LawX5 (prog : Program) (w : World) (d c1 c2 rm kl : Addr) (c' : Option Addr) (F : Int → Option Value) (k : Nat) (lvv : List Value) : Led := [(kl, IsLs lvv), (rm, IsDi prog w F k), (c1, CellV (.ref kl)), (c2, CellV (.ref d)), (162, TabI lamPos c')]
def LawJ5 (prog : Program) (w : World) (g rl f ka rm d c1 c2 kl : Addr) (c' : Option Addr) (n : Nat) (rf : List Int) (N : Nat) (top : Int) (F : Int → Option Value) (kk : Nat) (B : Mem) (_ : Nat) : Inv := fun B2 m X =>
  LawN g rl f ka rm N top m ∧ B2 = B ∧ ∃ lvv lv, X = LawX5 prog w d c1 c2 rm kl c' F kk lvv ∧ Ints lvv lv ∧ LevI rf lv n
theorem RecOk.key {G : Gr} {R : Cuts} {dp fl out : List Int} {ch : Ch} (h : RecOk G R dp fl out ch G.length) {k i : Nat} (hk : k < G.length) (hi : G.length - 1 - k = i) {rm : Int} (hrm : at' (roomAt ch (room0 G.length (topOf dp out) out) G.length k) i = rm) :
    (ch[i]? = some none ∧ (rm < 0 ∨ isAnd G i = false)) ∨ ∃ c row, ch[i]? = some (some c) ∧ Pick R dp fl i rm c row ∧ 0 ≤ rm ∧ isAnd G i = true := by
  subst hi hrm
  by_cases q : at' (roomAt ch (room0 G.length (topOf dp out) out) G.length k) (G.length - 1 - k : Nat) < 0 ∨ isAnd G (G.length - 1 - k : Nat) = false
  · exact .inl ⟨h.none' k hk q, q⟩
  · have q1 : 0 ≤ at' (roomAt ch (room0 G.length (topOf dp out) out) G.length k) (G.length - 1 - k : Nat) := Int.not_lt.mp fun z => q (.inl z)
    have q2 : isAnd G (G.length - 1 - k : Nat) = true := by
      cases z : isAnd G (G.length - 1 - k : Nat) with
      | true => rfl
      | false => exact absurd (.inr z) q
    obtain ⟨c, row, a, b⟩ := h.some' k hk q1 q2
    exact .inr ⟨c, row, a, b, q1, q2⟩
theorem roomAt_some {ch : Ch} {r0 : List Int} {n k i : Nat} {c : List Int} {rm : Int} (hi : n - 1 - k = i) (h : ch[i]? = some (some c)) (hrm : at' (roomAt ch r0 n k) i = rm) : roomAt ch r0 n (k + 1) = relaxAll (rm - 1) (roomAt ch r0 n k) c := by
  subst hi hrm
  show stepR ch _ _ = _
  unfold stepR
  rw [h]; rfl
theorem roomAt_none {ch : Ch} {r0 : List Int} {n k i : Nat} (hi : n - 1 - k = i) (h : ch[i]? = some none) : roomAt ch r0 n (k + 1) = roomAt ch r0 n k := by
  subst hi
  show stepR ch _ _ = _
  unfold stepR
  rw [h]; rfl
theorem node_made {B : Mem} {v : Value} {G : Gr} {i : Nat} {p : Option (Int × Int)} (hi : G[i]? = some p) (h : NodeAt B v p) : (!(v == Value.none)) = isAnd G i := by
  cases p with
  | none =>
    have h : v = .none := h
    rw [h]
    unfold isAnd
    rw [Int.toNat_natCast, hi]; rfl
  | some q =>
    obtain ⟨l, r⟩ := q
    obtain ⟨b, us, e, _, _⟩ : CutAt B v _ := h
    rw [e]
    unfold isAnd
    rw [Int.toNat_natCast, hi]; rfl
section
variable {M : List Addr} {B₀ B : Mem} {s₀ s : Shared} {L : Addr} {m : Str → Option Value} {X : Led} {prog : Program} {w : World} {A : Around} {E : Value → Shared → Prop} {Q : Value → Shared → Prop} {d : Addr} {f : Int → Option Value} {k : Nat} {x : Int} {t : Tok}
theorem di_inB {b : Bool} (S : St M B₀ s₀ B L m X s) (hd : At s.heap.get? d (IsDi prog w f k)) (h1 : d ≠ 1) (hb : (f x).isSome = b) (h : ∀ s', St M B₀ s₀ B L m X s' → Q (.bool b) s') : wpAny (model prog w) A (compareOp .In (.int x t) (.ref d)) Q E s :=
  di_in S hd h1 fun s' S' => by rw [hb]; exact h s' S'
theorem ne_boolB {a c b : Bool} (hb : (a != c) = b) (h : Q (.bool b) s) : wpAny (model prog w) A (compareOp .NotEq (.bool a) (.bool c)) Q E s := ne_bool (by rw [hb]; exact h)
theorem di_getB {dflt v : Value} (S : St M B₀ s₀ B L m X s) (hd : At s.heap.get? d (IsDi prog w f k)) (h1 : d ≠ 1) (hv : (f x).getD dflt = v) (h : ∀ s', St M B₀ s₀ B L m X s' → Q v s') : wpAny (model prog w) A (call (.builtin "dict.get") [.ref d, .int x t, dflt]) Q E s :=
  di_get S hd h1 fun s' S' => by rw [hv]; exact h s' S'
end
theorem ints_zero {t : Tok} {ys : List Value} {ns : List Int} (h : Ints ys ns) : Ints ([Value.int 0 t] ++ ys) (0 :: ns) := All2.cons ⟨t, rfl⟩ h
theorem src_start {ls : Addr} {k : Int} {t u : Tok} (o : Obj) (h : IsLs [.ref ls, .int 0 t, .int (1 + k.fmod 9973) u] o) : IsSrc ls o := by
  have e := Int.fmod_eq_emod_of_nonneg k (show (0 : Int) ≤ 9973 by omega)
  have h1 := Int.emod_nonneg k (show (9973 : Int) ≠ 0 by omega)
  have h2 := Int.emod_lt_of_pos k (show (0 : Int) < 9973 by omega)
  exact ⟨0, t, _, u, h, by omega, by omega, by omega⟩
theorem pool_start {vs : List Value} {ns : List Int} (hi : Ints vs ns) (hl : vs.length ≤ 63) (n : Nat) (o : Obj) (h : IsLs (vs.take n) o) : IsPool o := ⟨_, _, h, hi.take n, by rw [List.length_take]; omega⟩
theorem room_law (env : Env) : Room (callerA.deeper env) 12 := ⟨rfl, by show 1 + claimMargin + 1 + 12 < recursionLimit; decide, by show 4 + 3 + 80 * 12 < cLine; decide⟩

/- LW -/

theorem law_holds : PySem.Challenge.rw_on0109_01.Holds := by
  refine Mine.hd ?_
  k_go0
  rename_i w s₀ s₁ mg mb G Y fa o pm cd doc ho hcd hg X0 V0 T0 B0 TE TW ns hs hlay0 hL1 hr1 hl2 w6 w5 la vs w2 hL ra w1 r0 hI hr hcond1 hcond2 hD h₁ tk₁ o1 o2 left right CA X' T' K' F' N' l0
  have hid : (ghostOf s₁.heap [(166, 162)]).get? 162 = none := hideAll_none _ (.head _)
  have hsz : (ghostOf s₁.heap [(166, 162)]).objs.size = s₁.heap.objs.size := hideAll_size _ _
  have tf : TF w (ghostOf s₁.heap [(166, 162)]) mg mb := ⟨X', T'.g, T'.b, T'.nolimit, T'.builtins, T'.bmain, hid⟩
  obtain ⟨c1, e1⟩ : ∃ c : Addr, c = s₁.heap.objs.size + 2 := ⟨_, rfl⟩
  obtain ⟨c2, e2⟩ : ∃ c : Addr, c = s₁.heap.objs.size + 1 := ⟨_, rfl⟩
  have S := law_start (s₁ := s₁) (c1 := c1) (c2 := c2) (tk := tk₁) hsz F' (by rw [e1]; exact N' _ (.head _)) (by rw [e2]; exact N' _ (.tail _ (.head _))) (N' (162, tabObj #[]) (by simp)) ⟨_, left⟩ ⟨_, right⟩
    (by rw [e1, e2]; exact Nat.ne_of_gt (Nat.lt_succ_self _)) (by rw [e1]; exact Nat.ne_of_gt (Nat.lt_of_lt_of_le l0 (Nat.le_add_right _ 2))) (by rw [e2]; exact Nat.ne_of_gt (Nat.lt_of_lt_of_le l0 (Nat.le_add_right _ 1)))
  have hlen : ns.length ≤ 63 := by omega
  clear G Y ho hcd X0 V0 T0 B0 TE TW hlay0 hL1 hr1 hl2 ra w1 r0 hr hcond1 hD CA X' T' K' F' N' hs hT8 hT9 hcond2 hL codeHd left right
  generalize hTT : ghostOf s₁.heap [(166, 162)] = T at *
  refine wpAny_mono (Q := LawQ T.get? { s₁ with heap := T } s₁.heap.objs.size) (E := fun _ _ => False) ?_ (fun f s' h => ?_) (fun _ _ h => h.elim)
  rotate_left
  · obtain ⟨rfl, B', m', X', t, ht, S'⟩ := h
    refine law_end S' ht (Nat.le_of_eq hsz) hg (fun _ => rfl) ?_
    refine' postW_of ?hs1 ?hv1 ?he1
    (case hs1 => o_shape)
    (case hv1 => wtm_val)
    (case he1 => w_fin)
  dsimp only
  refine law_gen (room_law _) fun A' hA' => ?_
  generalize ({ s₁ with heap := T } : Shared) = s00 at S ⊢
  generalize s₁.heap.objs.size = L at *
  generalize PySem.Challenge.rw_on0109_01.row.prog = prog
  have hT : Sub T.get? T.get? := .rfl
  have hIv := Ints.of hI
  have hvl : vs.length = ns.length := hIv.1
  walk_at "ms"
  refine Slice_to ?_
  walk_at "ms"
  rename_i S1
  refine slice_doI S1 (lifted.at fun o e => S1.top hT _ _ e) (by walk_at "om") (by walk_at "om") fun a2 s2 S2 => ?_
  walk_at "ms"
  refine list_of S2 (S2.at (.head _)) (by rw [List.length_take]; omega) fun a3 s3 S3 => ?_
  walk_at "ms"
  refine Slice_to ?_
  walk_at "ms"
  rename_i S4
  refine slice_doI S4 (lifted.at fun o e => S4.top hT _ _ e) (by walk_at "om") (by walk_at "om") fun a5 s5 S5 => ?_
  walk_at "ms"
  refine l_sum hA'.handled S5 (S5.at (.head _)) (hIv.take _) fun t6 s6 S6 => ?_
  walk_at "ms"
  rename_i so _ _ _ S8
  replace S8 := (S8.weakU (P' := IsSrc a3) .head src_start)
  replace S8 := S8.sublist (.cons_cons _ (.cons _ (.cons_cons _ (.cons _ (List.Sublist.refl _)))))
  replace S8 := S8.weakU (P' := IsPool) (.tail .head) (pool_start hIv (by walk_at "om") _)
  clear S S1 S2 S3 S4 S5 S6
  have hso : so ≠ a3 := by
    have := S8.nodup
    simp only [List.map_cons, List.nodup_cons, List.mem_cons, not_or] at this
    exact this.1.1
  refine graph_call tf (hT.trans S8.sub0) S8.sub (hA'.mono (by walk_at "om")) (S8.at (.head _)) (S8.at (.tail _ (.head _))) (S8.news _ (.head _)).2.2.1 (S8.news _ (.tail _ (.head _))).2.2.1 hso fun g ln li lo lt nv ov G out B9 s9 G9 hg' hln hN hlo hO hG hout hol p1 p2 _ _ => ?_
  have S9 := S8.callK2 G9 (by walk_at "led") (by walk_at "led") p1 p2
  walk_at "ms"
  rename_i S10
  refine take_st tf hT (hA'.mono (by walk_at "om")) S10 (by walk_at "led") (by walk_at "led") hso (by walk_at "om") (by walk_at "om") fun f1 t11 s11 f10 f11 S11 => ?_
  walk_at "ms"
  rename_i S12
  refine take_st tf hT (hA'.mono (by walk_at "om")) S12 (by walk_at "led") (by walk_at "led") hso (by walk_at "om") (by walk_at "om") fun f2 t13 s13 f20 f21 S13 => ?_
  walk_at "ms"
  rename_i S14
  refine cut_sets_call (c := none) tf (hT.trans S14.sub0) S14.sub (hA'.mono (by walk_at "om")) hg' hln hN hG (by walk_at "om") (by walk_at "om") (by walk_at "om") (by walk_at "om") ⟨S14.at (by walk_at "led"), (S14.news (162, TabI lamPos none) (by walk_at "led")).2.2.1, trivial⟩ fun rl us R c' B15 s15 G15 hrl hR hC hTab => ?_
  have S15 := S14.callU1 G15 (P' := TabI lamPos c') (by walk_at "lupd") hTab.tab
  clear S8 S9 S10 S11 S12 S13 S14
  walk_at "ms"
  rename_i S16
  have hB9 := G15.sub0
  have hsz' := hC.size
  refine cover_call tf (hT.trans S16.sub0) S16.sub (hA'.mono (by walk_at "om")) (hg'.mono hB9) (hln.mono hB9) (hN.mono fun _ _ h => h.mono hB9) (hlo.mono hB9) hO (by walk_at "om") hout hrl hR hC fun a17 ch d f dv fv dp fl B17 s17 G17 ha17 hd17 hf17 hdp hfl hD hfn => ?_
  have S17 := S16.call G17
  have hB17 := G17.sub0
  refine as_tuple hA'.handled S17 (S17.atB ha17) fun s18 S18 => ?_
  refine PyProof.Rows.assignInOrder_cons (wpAny_assign_Name (st_local S18 (fun s19 S19 => ?_) rfl rfl))
  refine PyProof.Rows.assignInOrder_cons (wpAny_assign_Name (st_cellU (P := CellP) (c := c2) S19 (by rw [e2]; with_unfolding_all rfl) (by walk_at "lupd") (fun _ h => h) (fun s20 S20 => ?_) rfl rfl))
  refine PyProof.Rows.assignInOrder_cons (wpAny_assign_Name (st_local S20 (fun s21 S21 => ?_) rfl rfl))
  refine PyProof.Rows.assignInOrder_nil ?_
  walk_at "ms"
  refine nm_cell (c := c2) (by rw [e2]; with_unfolding_all rfl) (S21.at (by walk_at "led")) ?_ rfl rfl
  walk_at "ms"
  have hB17' := hB9.trans hB17
  refine recovered_call tf (hT.trans S21.sub0) S21.sub (hA'.mono (by walk_at "om")) (hg'.mono hB17') (hln.mono hB17') (hN.mono fun _ _ h => h.mono hB17') (hlo.mono hB17') hO (by walk_at "om") hout (hrl.mono hB17) (hR.mono fun _ _ h => h.mono hB17) hC hd17 hdp hf17 hfl hD hfn fun ka chv ch B s22 G22 hka hch hrec => ?_
  have S22 := S21.call G22
  have hB22 := G22.sub0
  replace hg' := (hg'.mono hB17').mono hB22
  replace hln := (hln.mono hB17').mono hB22
  replace hN : NodesAre B nv G := hN.mono fun _ _ h => (h.mono hB17').mono hB22
  replace hlo := (hlo.mono hB17').mono hB22
  replace hrl := (hrl.mono hB17).mono hB22
  replace hR : RowsAt B us R := hR.mono fun _ _ h => (h.mono hB17).mono hB22
  replace hd17 := hd17.mono hB22
  replace hf17 := hf17.mono hB22
  have hnl : nv.length = G.length := hN.1
  have hol' : ov.length = out.length := hO.1
  have hdn := hD.len
  have hGs := hG.size
  clear S15 S16 S17 S18 S19 S20 S21 G9 G15 G17 G22 ha17 hB9 hB17 hB17' hB22 hTab p1 p2
  walk_at "ms"
  refine lc_eval (cl := [("depth", c2)]) (fun v y => ∃ n, IntV v n ∧ IntV y (at' dp (n / 2))) (by rw [e2]; with_unfolding_all rfl) (by decide) rfl (by decide) rfl ?_
  walk_at "ms"
  rename_i z23 _ _ s24 S24
  refine lc_divs hA'.handled S24 (S24.atB hlo) hO (S24.at (by walk_at "led")) (S24.atB hd17) hdp (fun x hx => by rw [hdn]; exact hout x hx) (by walk_at "om") (by walk_at "om") fun k25 ys s25 S25 hys => ?_
  have hyl : ys.length = out.length := by rw [hys.1, List.length_map]
  walk_at "ms"
  refine l_add S25 (S25.at (by walk_at "led")) (S25.at (by walk_at "led")) (by simp; omega) fun k26 s26 S26 => ?_
  walk_at "ms"
  refine l_max hA'.handled S26 (S26.at (.head _)) (ints_zero hys) (by simp) fun top t27 s27 hm S27 => ?_
  obtain rfl : top = topOf dp out := hm.uniq (topOf_max dp out)
  walk_at "ms"
  rename_i s28 S28
  refine di_new prog tf hT S28 fun rm s29 S29 hrm1 => ?_
  replace S29 := S29.sublist (Y := LawX prog w d c1 c2 rm c' (fun _ => none) 0) (.cons_cons _ (.cons _ (.cons _ (.cons _ (.cons _ (.cons _ (.cons_cons _ (.cons_cons _ (.cons_cons _ (List.Sublist.refl _))))))))))
  clear S22 S24 S25 S26 S27 S28
  walk_at "ms"
  rename_i s30 S30
  refine for_list hA'.handled S30 (S30.atB hlo) (LawJ1 prog w g rl f ka rm d c1 c2 c' G.length dp out nv.length B) ?_ ?_ ?_ ?_
  · exact ⟨⟨by walk_at "lk", by walk_at "lk", by walk_at "lk", by walk_at "lk", by walk_at "lk", ⟨_, by walk_at "lk"⟩, ⟨_, by walk_at "lk"⟩⟩, rfl, _, 0, rfl, RoomRel.zero, Nat.le_refl _⟩
  · rintro i B2 m2 X2 s2 ⟨_, rfl, _⟩ hs2 S2
    exact S2.atB hlo
  · rintro I j v B2 m2 X2 s2 hv ⟨hLN, rfl, F, k, rfl, hF, hk⟩ hs2 S2
    have hLN2 := hLN
    obtain ⟨n1, n2, n3, n4, n5, ⟨t6, n6⟩, ⟨t7, n7⟩⟩ := hLN2
    obtain ⟨l, hl, tl, rfl⟩ := hO.get hv
    have hll := hout l (List.mem_of_getElem? hl)
    have hjl := (List.getElem?_eq_some_iff.mp hl).1
    unfold LawX at S2
    walk_at "ms"
    rename_i S3
    refine di_set S3 (by walk_at "lupd") (by walk_at "om") fun s4 S4 => ?_
    walk_at "ms"
    rw [Int.fdiv_eq_ediv_of_nonneg _ (by walk_at "om")] at S4
    refine TurnP.next .rfl ⟨(hLN.upd (by decide)), rfl, _, k + 1, rfl, ?_, by omega⟩ S4
    rw [room0_next hl]
    exact hF.set (room0_len _ _ _) (by walk_at "om") hll.2 ((topOf_max dp out).2 0 (.head _))
  · rintro B2 m2 X2 s2 ⟨hLN, rfl, F, k, rfl, hF, hk⟩ hs2 S2
    have hLN2 := hLN
    obtain ⟨n1, n2, n3, n4, n5, ⟨t6, n6⟩, ⟨t7, n7⟩⟩ := hLN2
    rw [hol', List.take_length] at hF
    clear S30 S29
    walk_at "ms"
    rename_i _ _ _ _ _ hrg S31
    clear S2
    refine for_range hA'.handled S31 hrg (n := G.length) (by rw [rangeSize_down _ _ (by walk_at "om")]; omega) (small_down _ _ (by walk_at "om") (by walk_at "om") (by walk_at "om")) (LawJ2 prog w g rl f ka rm d c1 c2 c' G.length dp out ch nv.length B2) ?_ ?_ ?_
    · exact ⟨hLN, .rfl, F, k, rfl, hF, by have := hO.1; omega⟩
    · rintro I k ti B3 m3 X3 s3 hk ⟨hLN, hB3, F, kk, rfl, hF, hkk⟩ hs3 S8
      have hLN2 := hLN
      obtain ⟨n1, n2, n3, n4, n5, ⟨t6, n6⟩, ⟨t7, n7⟩⟩ := hLN2
      rw [show ((nv.length : Int) - 1) + (k : Int) * -1 = ((G.length - 1 - k : Nat) : Int) by omega] at S8
      have hil : G.length - 1 - k < G.length := by omega
      generalize hi : G.length - 1 - k = i at S8 hil
      generalize hrm : at' (roomAt ch (room0 G.length (topOf dp out) out) G.length k) (i : Int) = rmi
      have hg3 := hg'.mono hB3
      have hln3 := hln.mono hB3
      obtain ⟨vn, hvn, hnode⟩ := hN.get' (List.getElem?_eq_getElem hil)
      have hmade := node_made (List.getElem?_eq_getElem hil) hnode
      unfold LawX at S8
      walk_at "ms"
      rename_i S9
      refine sub_list (S9.atB hln3) (by walk_at "om") (by walk_at "om") (by rw [Int.toNat_natCast]; exact hvn) ?_
      walk_at "ms"
      rename_i S10
      rw [hmade] at S10
      have hcl : chv.length = ch.length := hch.1
      have hchl := hrec.len
      rcases hrec.key hk hi hrm with ⟨hc, hskip⟩ | ⟨c, row, hc, hpick, hrm0, hand⟩
      · obtain ⟨vc, hvc, hcv⟩ := hch.get' hc
        obtain rfl : vc = .none := hcv
        refine sub_list (S10.atB (hka.mono hB3)) (by walk_at "om") (by walk_at "om") (by rw [Int.toNat_natCast]; exact hvc) ?_
        walk_at "ms"
        have hkeep : ∀ {s5 : Shared} {QQ : Flow → Shared → Prop}, St [] T.get? s00 B3 L (upd (upd m3 "node" (.int (i : Int) ti)) "is_made" (.bool (isAnd G i))) ((I, ItR ((nv.length : Int) - 1) (-1) G.length (k + 1)) :: LawX prog w d c1 c2 rm c' F kk) s5 →
            TurnP [] T.get? s00 L (I, ItR ((nv.length : Int) - 1) (-1) G.length (k + 1)) B3 (LawJ2 prog w g rl f ka rm d c1 c2 c' G.length dp out ch nv.length B2 (k + 1)) QQ .cont s5 := fun S11 =>
          TurnP.cont .rfl ⟨((hLN.upd (by decide)).upd (by decide)), hB3, F, kk, rfl, by rw [roomAt_none hi hc]; exact hF, by omega⟩ S11
        cases hFi : F i with
        | none =>
          refine di_inB (b := false) S10 (S10.at (by walk_at "led")) hrm1 (by rw [hFi]; rfl) fun s11 S11 => ?_
          walk_at "ms"
          refine ne_boolB (b := false) rfl ?_
          walk_at "ms"
          refine sub_list (S11.atB (hka.mono hB3)) (by walk_at "om") (by walk_at "om") (by rw [Int.toNat_natCast]; exact hvc) ?_
          walk_at "ms"
          · exact hkeep S11
          · contradiction
        | some u =>
          have hna : isAnd G i = false := hskip.resolve_left fun q => by
            rw [(hF i (by walk_at "om") (by walk_at "om")).1 (by rw [hrm]; exact q)] at hFi; cases hFi
          refine di_inB (b := true) S10 (S10.at (by walk_at "led")) hrm1 (by rw [hFi]; rfl) fun s11 S11 => ?_
          walk_at "ms"
          refine ne_boolB (b := false) (by rw [hna]; rfl) ?_
          walk_at "ms"
          refine sub_list (S11.atB (hka.mono hB3)) (by walk_at "om") (by walk_at "om") (by rw [Int.toNat_natCast]; exact hvc) ?_
          walk_at "ms"
          · exact hkeep S11
          · contradiction
      · obtain ⟨vc, hvc, hcv⟩ := hch.get' hc
        obtain ⟨cb, cbs, rfl, hcb, hcj⟩ : CutAt B2 vc c := hcv
        have hcv : CutAt B2 (.ref cb) c := ⟨cb, cbs, rfl, hcb, hcj⟩
        have hka3 := hka.mono hB3
        obtain ⟨tr, hFi⟩ := (hF i (by walk_at "om") (by walk_at "om")).2 (by rw [hrm]; exact hrm0)
        rw [hrm] at hFi
        refine sub_list (S10.atB hka3) (by walk_at "om") (by walk_at "om") (by rw [Int.toNat_natCast]; exact hvc) ?_
        walk_at "ms"
        refine di_inB (b := true) S10 (S10.at (by walk_at "led")) hrm1 (by rw [hFi]; rfl) fun s11 S11 => ?_
        walk_at "ms"
        refine ne_boolB (b := false) (by rw [hand]; rfl) ?_
        walk_at "ms"
        refine sub_list (S11.atB hka3) (by walk_at "om") (by walk_at "om") (by rw [Int.toNat_natCast]; exact hvc) ?_
        walk_at "ms"
        · rename_i q
          exact absurd q Bool.false_ne_true
        · obtain ⟨rv, hrv, ra, cus, rfl, hra, hcs⟩ := hR.get' hpick.here
          have hiR := (List.getElem?_eq_some_iff.mp hpick.here).1
          have hul : us.length = R.length := hR.1
          obtain ⟨hrl3, hrc⟩ := hC.rows i row hpick.here
          have hcx := hrc c hpick.mem
          have hrl3' := hrl.mono hB3
          refine sub_list (S11.atB hka3) (by walk_at "om") (by walk_at "om") (by rw [Int.toNat_natCast]; exact hvc) ?_
          walk_at "ms"
          refine sub_list (S11.atB hrl3') (by walk_at "om") (by walk_at "om") (by rw [Int.toNat_natCast]; exact hrv) ?_
          refine notIn_cuts (S11.atB (hra.mono hB3)) ((hcs.mono' hB3).mono' S11.sub) ((hcv.mono hB3).mono S11.sub) hpick.mem (by have := hA'.units; omega) ?_
          walk_at "ms"
          refine sub_list (S11.atB hka3) (by walk_at "om") (by walk_at "om") (by rw [Int.toNat_natCast]; exact hvc) ?_
          walk_at "ms"
          rename_i a12 B4 s12 S12 hB34 ha12
          have hB4 := hB3.trans hB34
          refine eq_cut ((hcv.mono hB4).mono S12.sub) (d := [(i : Int)]) ⟨_, _, rfl, S12.atB ha12, ints_one⟩ (by have := hA'.units; omega) ?_
          walk_at "ms"
          · rename_i q
            exact absurd q hpick.ne
          · have hcus := hcs.1
            refine sub_list (S12.atB (hrl.mono hB4)) (by walk_at "om") (by walk_at "om") (by rw [Int.toNat_natCast]; exact hrv) ?_
            clear S8 S9 S10 S11
            refine for_list hA'.handled S12 (S12.atB (hra.mono hB4)) (LawJ3 prog w g rl f ka rm d c1 c2 c' nv.length (topOf dp out) i ti (I, ItR ((nv.length : Int) - 1) (-1) G.length (k + 1)) F kk B4) ?_ ?_ ?_ ?_
            · exact ⟨((hLN.upd (by decide)).upd (by decide)), by walk_at "lk", .rfl, rfl⟩
            · rintro j B5 m5 X5 s5 ⟨_, _, hB5, _⟩ hs5 S5
              exact S5.atB ((hra.mono hB4).mono hB5)
            · rintro I2 j v B5 m5 X5 s13 hv ⟨hLN, q8, hB5, rfl⟩ hs5 S13
              have hLN2 := hLN
              obtain ⟨q1, q2, q3, q4, q5, ⟨u6, q6⟩, ⟨u7, q7⟩⟩ := hLN2
              obtain ⟨c3, hc3, hcv3⟩ := hcs.get hv
              have hcm3 := List.mem_of_getElem? hc3
              obtain ⟨hcl3, hcx3⟩ := hrc c3 hcm3
              have hB25 := hB4.trans hB5
              have hnext : ∀ {B7 : Mem} {s7 : Shared} {QQ : Flow → Shared → Prop}, Sub B5 B7 → St [] T.get? s00 B7 L (upd m5 "cut" v) ((I2, ItL ra (j + 1)) :: (I, ItR ((nv.length : Int) - 1) (-1) G.length (k + 1)) :: LawX prog w d c1 c2 rm c' F kk) s7 →
                  TurnP [] T.get? s00 L (I2, ItL ra (j + 1)) B5 (LawJ3 prog w g rl f ka rm d c1 c2 c' nv.length (topOf dp out) i ti (I, ItR ((nv.length : Int) - 1) (-1) G.length (k + 1)) F kk B4 (j + 1)) QQ .next s7 := fun hB7 S7 =>
                TurnP.next hB7 ⟨(hLN.upd (by decide)), by walk_at "lk", hB5.trans hB7, rfl⟩ S7
              unfold LawX at S13
              walk_at "ms"
              rename_i a14 B6 s14 S14 hB6 ha14
              have hB26 := hB25.trans hB6
              have hcv6 := hcv3.mono hB26
              refine ne_cut (hcv6.mono S14.sub) (d := [(i : Int)]) ⟨_, _, rfl, S14.atB ha14, ints_one⟩ (by have := hA'.units; omega) ?_
              walk_at "ms"
              · rename_i hne3
                have hne3 : c3 ≠ [(i : Int)] := of_decide_eq_false hne3
                refine nm_cell (c := c2) (by rw [e2]; with_unfolding_all rfl) (S14.at (by walk_at "led")) ?_ rfl rfl
                walk_at "ms"
                refine law_level_call tf (hT.trans S14.sub0) S14.sub (hA'.mono (by walk_at "om")) (S14.atB (hd17.mono hB26)) hdp hcv6 (fun x hx => by rw [hdn]; exact hcx3 x hx) (by walk_at "om") (by walk_at "om") fun t15 s15 G15 => ?_
                have S15 := S14.call G15
                walk_at "ms"
                refine di_item S15 (S15.at (by walk_at "led")) hFi fun s16 S16 => ?_
                walk_at "ms"
                · rename_i hle
                  refine law_flow_call tf (hT.trans S16.sub0) S16.sub (hA'.mono (by walk_at "om")) (S16.atB (hf17.mono hB26)) hfl hcv6 (fun x hx => by rw [hfn]; exact hcx3 x hx) (by walk_at "om") (by walk_at "om") fun t17 s17 G17 => ?_
                  have S17 := S16.call G17
                  walk_at "ms"
                  refine sub_list (S17.atB (hka.mono hB26)) (by walk_at "om") (by walk_at "om") (by rw [Int.toNat_natCast]; exact hvc) ?_
                  walk_at "ms"
                  refine law_flow_call tf (hT.trans S17.sub0) S17.sub (hA'.mono (by walk_at "om")) (S17.atB (hf17.mono hB26)) hfl (hcv.mono hB26) (fun x hx => by rw [hfn]; exact hcx.2 x hx) (by walk_at "om") (by walk_at "om") fun t18 s18 G18 => ?_
                  have S18 := S17.call G18
                  have hleast := hpick.least c3 hcm3 hne3 hle
                  walk_at "ms"
                  exact hnext hB6 S18
                · exact hnext hB6 S16
              · exact hnext hB6 S14
            · rintro B5 m5 X5 s13 ⟨hLN, q8, hB5, rfl⟩ hs5 S13
              have hLN2 := hLN
              obtain ⟨q1, q2, q3, q4, q5, ⟨u6, q6⟩, ⟨u7, q7⟩⟩ := hLN2
              have hB25 := hB4.trans hB5
              clear S12
              unfold LawX at S13
              walk_at "ms"
              refine sub_list (S13.atB (hka.mono hB25)) (by walk_at "om") (by walk_at "om") (by rw [Int.toNat_natCast]; exact hvc) ?_
              have hcb5 := hcb.mono hB25
              have hrl2 : (roomAt ch (room0 G.length (topOf dp out) out) G.length k).length = G.length := by rw [roomAt_len, room0_len]
              have hcbl : cbs.length = c.length := hcj.1
              have hbel := hC.below i row hpick.here c hpick.mem hpick.ne
              refine for_tuple hA'.handled S13 (S13.atB hcb5) (LawJ4 prog w g rl f ka rm d c1 c2 c' nv.length (topOf dp out) i ti (I, ItR ((nv.length : Int) - 1) (-1) G.length (k + 1)) G.length (roomAt ch (room0 G.length (topOf dp out) out) G.length k) c (rmi - 1) kk B5) ?_ ?_ ?_ ?_
              · exact ⟨hLN, q8, rfl, F, kk, rfl, hF, Nat.le_refl _⟩
              · rintro j B6 m6 X6 s6 ⟨_, _, rfl, _⟩ hs6 S6
                exact S6.atB hcb5
              · rintro I3 j v B6 m6 X6 s14 hv ⟨hLN, r8, rfl, F6, k6, rfl, hF6, hk6⟩ hs6 S14
                have hLN2 := hLN
                obtain ⟨r1, r2, r3, r4, r5, ⟨w6, r6⟩, ⟨w7, r7⟩⟩ := hLN2
                obtain ⟨x, hx, tx, rfl⟩ := hcj.get hv
                have hxm := List.mem_of_getElem? hx
                have hxx := hcx.2 x hxm
                have hxi := hbel x hxm
                have hjl := (List.getElem?_eq_some_iff.mp hx).1
                have hK : 0 ≤ rmi - 1 := by
                  have h1 := lvl_leaf (dp := dp) hxm
                  have h2 := at_nonneg hD.pos x
                  have h3 := hpick.fit
                  omega
                have hnext : relaxAll (rmi - 1) (roomAt ch (room0 G.length (topOf dp out) out) G.length k) (c.take (j + 1)) = relax (rmi - 1) (relaxAll (rmi - 1) (roomAt ch (room0 G.length (topOf dp out) out) G.length k) (c.take j)) x := fold_next _ _ hx
                have hrl4 : (relaxAll (rmi - 1) (roomAt ch (room0 G.length (topOf dp out) out) G.length k) (c.take j)).length = G.length := by rw [relaxAll_len, hrl2]
                have hri : at' (relaxAll (rmi - 1) (roomAt ch (room0 G.length (topOf dp out) out) G.length k) (c.take j)) (i : Int) = rmi := by
                  rw [at_relaxAll_off (by walk_at "om") _ _ fun z hz => ?_, hrm]
                  have hzm := List.mem_of_mem_take hz
                  have := hbel z hzm
                  rw [hrl2]
                  exact ⟨(hcx.2 z hzm).1, (hcx.2 z hzm).2, by omega⟩
                generalize relaxAll (rmi - 1) (roomAt ch (room0 G.length (topOf dp out) out) G.length k) (c.take j) = r' at hF6 hnext hri hrl4
                obtain ⟨tr6, hFi6⟩ := (hF6 i (by walk_at "om") (by walk_at "om")).2 (by rw [hri]; exact hrm0)
                rw [hri] at hFi6
                have hget : ∀ t0 : Tok, ∃ y ty, (F6 x).getD (.int (rmi - 1) t0) = .int y ty ∧ ∀ t, RoomRel (fun z => if z = x then some (.int (min y (rmi - 1)) t) else F6 z) (relax (rmi - 1) r' x) G.length := fun t0 => by
                  rcases Int.lt_or_le (at' r' x) 0 with q | q
                  · exact ⟨rmi - 1, t0, by rw [(hF6 x hxx.1 hxx.2).1 q]; rfl, fun t => (hF6.relax hrl4 hxx.1 hxx.2 hK).1 q⟩
                  · obtain ⟨ty, e⟩ := (hF6 x hxx.1 hxx.2).2 q
                    exact ⟨at' r' x, ty, by rw [e]; rfl, fun t => (hF6.relax hrl4 hxx.1 hxx.2 hK).2 q⟩
                unfold LawX at S14
                walk_at "ms"
                refine di_method (S14.at (by walk_at "led")) ?_
                refine PyProof.Rows.callWith_method1 ?_
                walk_at "ms"
                refine di_item S14 (S14.at (by walk_at "led")) hFi6 fun s15 S15 => ?_
                walk_at "ms"
                rename_i t16 s16 S16
                obtain ⟨y, ty, hy, hrel⟩ := hget t16
                refine di_getB S16 (S16.at (by walk_at "led")) hrm1 hy fun s17 S17 => ?_
                walk_at "ms"
                refine di_item S17 (S17.at (by walk_at "led")) hFi6 fun s18 S18 => ?_
                walk_at "ms"
                rename_i t19 s19 S19
                refine di_set S19 (by walk_at "lupd") (by walk_at "om") fun s20 S20 => ?_
                walk_at "ms"
                exact TurnP.next .rfl ⟨(hLN.upd (by decide)), by walk_at "lk", rfl, _, k6 + 1, rfl, by rw [hnext]; exact hrel _, by omega⟩ S20
              · rintro B6 m6 X6 s14 ⟨hLN, r8, rfl, F6, k6, rfl, hF6, hk6⟩ hs6 S14
                have hLN2 := hLN
                obtain ⟨r1, r2, r3, r4, r5, ⟨w6, r6⟩, ⟨w7, r7⟩⟩ := hLN2
                rw [hcbl, List.take_length] at hF6
                walk_at "ms"
                exact TurnP.next (hB34.trans hB5) ⟨hLN, hB25, F6, k6, rfl, by rw [roomAt_some hi hc hrm]; exact hF6, by omega⟩ S14
    · rintro B3 m3 X3 s3 ⟨hLN, hB3, F, kk, rfl, hF, hkk⟩ hs3 S8
      have hLN2 := hLN
      obtain ⟨n1, n2, n3, n4, n5, ⟨t6, n6⟩, ⟨t7, n7⟩⟩ := hLN2
      have hS := hrec.stepOk hC hD
      clear S31
      unfold LawX at S8
      walk_at "ms"
      rename_i kl s9 S9
      refine st_cellU (P := CellP) (c := c1) S9 (by rw [e1]; with_unfolding_all rfl) (by walk_at "lupd") (fun _ h => h) (fun s10 S10 => ?_) rfl rfl
      walk_at "ms"
      rename_i _ _ _ _ _ hrg5 S11
      refine for_range hA'.handled S11 hrg5 (n := G.length) (by rw [rangeSize_up _ _ (by walk_at "om")]; omega) (small_up _ _ (by walk_at "om") (by walk_at "om") (by walk_at "om")) (LawJ5 prog w g rl f ka rm d c1 c2 kl c' G.length (roomAt ch (room0 G.length (topOf dp out) out) G.length G.length) nv.length (topOf dp out) F kk B3) ?_ ?_ ?_
      · exact ⟨hLN, rfl, _, List.replicate G.length 0, rfl, by rw [Int.toNat_natCast, hnl]; exact .replicate _ ⟨_, rfl⟩, LevI.zero⟩
      · rintro I i ti B4 m4 X4 s12 hi ⟨hLN, rfl, lvv, lv, rfl, hlv, hL⟩ hs4 S12
        have hLN2 := hLN
        obtain ⟨q1, q2, q3, q4, q5, ⟨u6, q6⟩, ⟨u7, q7⟩⟩ := hLN2
        rw [show (0 : Int) + (i : Int) * 1 = i by omega] at S12
        have hll : lvv.length = lv.length := hlv.1
        have hln' := hL.len
        have hcl : chv.length = ch.length := hch.1
        have hchl := hrec.len
        have hich : i < ch.length := by omega
        have hci := List.getElem?_eq_getElem hich
        generalize ch[i] = co at hci
        obtain ⟨vc, hvc, hcv⟩ := hch.get' hci
        have hka4 := hka.mono hB3
        unfold LawX5 at S12
        clear S8 S9 S10 S11
        walk_at "ms"
        refine sub_list (S12.atB hka4) (by walk_at "om") (by walk_at "om") (by rw [Int.toNat_natCast]; exact hvc) ?_
        cases co with
        | none =>
          obtain rfl : vc = .none := hcv
          walk_at "ms"
          · contradiction
          · exact TurnP.next .rfl ⟨(hLN.upd (by decide)), rfl, lvv, lv, rfl, hlv, hL⟩ S12
        | some c =>
          obtain ⟨cb, cbs, rfl, hcb, hcj⟩ : CutAt B2 vc c := hcv
          have hcv : CutAt B2 (.ref cb) c := ⟨cb, cbs, rfl, hcb, hcj⟩
          obtain ⟨hput1, hput2⟩ := hL.put hS hi hci
          obtain ⟨hrf0, hcx⟩ := hS.fin hi hci
          obtain ⟨tr, hFi⟩ := (hF i (by walk_at "om") (by walk_at "om")).2 hrf0
          have hcl100 : c.length ≤ 100 := by
            rcases hrec.key (k := G.length - 1 - i) (by walk_at "om") (show G.length - 1 - (G.length - 1 - i) = i by omega) rfl with ⟨h, _⟩ | ⟨c', row, h, hp, _, _⟩
            · rw [hci] at h; cases h
            · rw [hci] at h; cases h
              exact ((hC.rows i row hp.here).2 c hp.mem).1
          walk_at "ms"
          · refine nm_cell (c := c1) (by rw [e1]; with_unfolding_all rfl) (S12.at (by walk_at "led")) ?_ rfl rfl
            walk_at "ms"
            refine sub_list (S12.atB hka4) (by walk_at "om") (by walk_at "om") (by rw [Int.toNat_natCast]; exact hvc) ?_
            walk_at "ms"
            refine law_level_call tf (hT.trans S12.sub0) S12.sub (hA'.mono (by walk_at "om")) (S12.at (by walk_at "led")) hlv (hcv.mono hB3) (fun x hx => ⟨(hcx x hx).1, by have := (hcx x hx).2.1; omega⟩) (by walk_at "om") (by walk_at "om") fun t13 s13 G13 => ?_
            have S13 := S12.call G13
            walk_at "ms"
            refine nm_cell (c := c1) (by rw [e1]; with_unfolding_all rfl) (S13.at (by walk_at "led")) ?_ rfl rfl
            walk_at "ms"
            rename_i s14 S14
            rw [Int.toNat_natCast] at S14
            refine nm_cell (c := c1) (by rw [e1]; with_unfolding_all rfl) (S14.at (by walk_at "led")) ?_ rfl rfl
            walk_at "ms"
            refine sub_list (S14.at (by walk_at "led")) (by walk_at "om") (by walk_at "om") (by rw [Int.toNat_natCast, List.getElem?_set_self (by walk_at "om")]) ?_
            walk_at "ms"
            refine di_item S14 (S14.at (by walk_at "led")) hFi fun s15 S15 => ?_
            walk_at "ms"
            exact TurnP.next .rfl ⟨(hLN.upd (by decide)), rfl, _, _, rfl, hlv.set ⟨_, rfl⟩, hput2⟩ S15
          · rename_i q
            exact absurd q Bool.false_ne_true
      · rintro B4 m4 X4 s12 ⟨hLN, rfl, lvv, lv, rfl, hlv, hL⟩ hs4 S12
        have hLN2 := hLN
        obtain ⟨q1, q2, q3, q4, q5, ⟨u6, q6⟩, ⟨u7, q7⟩⟩ := hLN2
        have hln' := hL.len
        unfold LawX5 at S12
        have hg4 := hg'.mono hB3
        clear S8 S9 S10 S11
        walk_at "ms"
        refine lc_eval (cl := [("levels", c1)]) (fun v y => ∃ n, IntV v n ∧ IntV y (at' lv (n / 2))) (by rw [e1]; with_unfolding_all rfl) (by decide) rfl (by decide) rfl ?_
        walk_at "ms"
        rename_i z13 _ _ s14 S14
        refine lc_divs hA'.handled S14 (S14.atB (hlo.mono hB3)) hO (S14.at (by walk_at "led")) (S14.at (by walk_at "led")) hlv (fun x hx => by rw [hln']; exact hout x hx) (by walk_at "om") (by walk_at "om") fun k15 ys s15 S15 hys => ?_
        have hyl : ys.length = out.length := by rw [hys.1, List.length_map]
        walk_at "ms"
        refine l_add S15 (S15.at (by walk_at "led")) (S15.at (by walk_at "led")) (by simp; omega) fun k16 s16 S16 => ?_
        walk_at "ms"
        refine l_max hA'.handled S16 (S16.at (.head _)) (ints_zero hys) (by simp) fun top t17 s17 hm S17 => ?_
        have hfin : top ≤ topOf dp out := hL.fin hS hout hm
        walk_at "ms"
        rw [decide_eq_true hfin]
        exact LawQ.mk S17 (by walk_at "led")

end Mine

theorem PySem.Challenge.cw_on0109_01_holds : PySem.Challenge.rw_on0109_01.Holds :=
  Mine.law_holds
