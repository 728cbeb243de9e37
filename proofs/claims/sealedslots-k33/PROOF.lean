import PyProof.Rows.All
import Wide.All
import OpenK.AllK
import Wide.FinOn
import HandS.GenList
import HandS.Words
import HandS.Defaults
import HandS.ForMost
import HandS.IsInst
import HandS.Evl
import HandS.Walk
import HandS.DictComp
import HandS.SortInts
import HandS.SetKeys
import HandS.Strs
import HandS.Style
import HandS.NoneIn
import HandS.Zip
import HandS.Set
import HandS.ClsMeth
import HandS.Property
import HandS.MakeKwOnly
import HandS.Conv
import HandS.More
import HandS.Wide
import HandS.WideBits
import HandS.Flow
import PySem.Challenge.RW_sealedslots_k33_whole_wide_and_least_unw
import HandS.SetFor
import HandS.ListItems
import HandS.SortOrd
import KE.GoesEnum
import KE.KDictIter
import KE.KDictKeyed
import KE.KeyNested
import HandS.TupLen
import HandS.Small
import KE.KDictList
import KE.DataEq
import HandS.Deep
import PyProof.ReprRoads
import HandS.MakeKw
import HandS.Ends
import HandS.HeadEnd
import KE.KStateDown
import HandS.Head0
import HandS.Head1
import HandS.Head2
import HandS.HeadHook1
import HandS.HeadHook2
/-! text Kg1 -/
set_option Elab.async false
set_option linter.all false
set_option maxRecDepth 100000
set_option maxHeartbeats 4000000
/-! ## sleeping generators that nobody wakes: a run from a state in which none of them can be woken is a run from the true state -/
namespace K33G
open PySem
open PyProof.Rows (AllBare)
open Sem (wp)
def isSusp : GenState → Bool
  | .suspended .. => true
  | _ => false
/-- the same sleeper, but whoever wakes it is stuck -/
def dm : GenState → GenState
  | .suspended _ l c p fs cl => .suspended (fun _ => .unsupported "asleep") l c p fs cl
  | x => x
theorem dm_seen (x : GenState) : (dm x).seen = x.seen := by cases x <;> rfl
theorem dm_bare (x : GenState) : (dm x).bare = x.bare := by cases x <;> rfl
theorem dm_of_not {x : GenState} (h : isSusp x = false) : dm x = x := by
  cases x with
  | suspended => cases h
  | _ => rfl
theorem dm_susp {x : GenState} (h : isSusp x = true) : ∃ k l c p fs cl, x = .suspended k l c p fs cl ∧ dm x = .suspended (fun _ => .unsupported "asleep") l c p fs cl := by
  cases x with
  | suspended k l c p fs cl => exact ⟨k, l, c, p, fs, cl, rfl, rfl⟩
  | _ => cases h
def ngS : GenState → Prop
  | .suspended _ _ _ _ fs _ => splitAtGen fs = none
  | _ => True
def ngE : End → Prop
  | .susp _ _ _ _ _ _ fs => splitAtGen fs = none
  | .ret _ => True
theorem ngS_end {e : End} (h : ngE e) : ngS e.genState := by
  cases e with
  | ret r => exact True.intro
  | susp v g l k c p fs => exact h
theorem no_run0 {M : Model} {Γ : Ctx} {p : Pos} {m : String} {s s' : Shared} {e : End} (h : Runs M Γ p (.unsupported m) [] s e s') : False := by cases h
theorem no_run {M : Model} {Γ : Ctx} {p : Pos} {m : String} {fs : List Frame} {s s' : Shared} {e : End} (h : Runs M Γ p (.unsupported m) fs s e s') : False := by
  cases fs with
  | nil => exact no_run0 h
  | cons F fs =>
    cases h with
    | segRet h1 _ => exact no_run0 h1
    | segGen h1 _ => exact no_run0 h1
    | segSuspOut _ h1 => exact no_run0 h1
    | segSuspGen _ h1 _ _ => exact no_run0 h1
/-- what a look-up gives in the two arrays: G0 the true one at the start, a as the stuck run has it, b the true one -/
def At (o0 oa ob : Option GenState) : Prop :=
  (∃ x, o0 = some x ∧ isSusp x = true ∧ ob = some x ∧ oa = some (dm x)) ∨ ((∀ y, o0 = some y → isSusp y = false) ∧ ob = oa ∧ ∀ x, ob = some x → ngS x)
structure Rel (G0 : Array GenState) (a b : Shared) : Prop where
  eq : b = { a with gens := b.gens }
  at_ : ∀ i : Nat, At G0[i]? a.gens[i]? b.gens[i]?
  sz : b.gens.size = a.gens.size
  ge : G0.size ≤ a.gens.size
section
variable {G0 : Array GenState} {a b : Shared}
theorem Rel.start (s : Shared) : Rel s.gens { s with gens := s.gens.map dm } s where
  eq := rfl
  at_ := fun i => by
    show At s.gens[i]? (s.gens.map dm)[i]? s.gens[i]?
    rw [Array.getElem?_map]
    cases h : s.gens[i]? with
    | none => exact .inr ⟨fun y q => (by cases q), rfl, fun x q => (by cases q)⟩
    | some x =>
      cases hs : isSusp x with
      | true => exact .inl ⟨x, rfl, hs, rfl, rfl⟩
      | false =>
        refine .inr ⟨fun y q => (by cases q; exact hs), by rw [Option.map_some, dm_of_not hs], fun y q => ?_⟩
        cases q
        cases x with
        | suspended => cases hs
        | _ => exact True.intro
  sz := by simp
  ge := by simp
theorem Rel.ex (r : Rel G0 a b) : ∃ G, b = { a with gens := G } := ⟨_, r.eq⟩
theorem Rel.heap (r : Rel G0 a b) : b.heap = a.heap := by rw [r.eq]
theorem Rel.toks (r : Rel G0 a b) : b.toks = a.toks := by rw [r.eq]
theorem Rel.drawn (r : Rel G0 a b) : b.drawn = a.drawn := by rw [r.eq]
theorem Rel.os (r : Rel G0 a b) : b.os = a.os := by rw [r.eq]
theorem Rel.with_ (r : Rel G0 a b) (h : Heap) (d : Drawn) (t : Nat) (o : OsState) : Rel G0 { a with heap := h, drawn := d, toks := t, os := o } { b with heap := h, drawn := d, toks := t, os := o } where
  eq := rfl
  at_ := r.at_
  sz := r.sz
  ge := r.ge
theorem Rel.setGen (r : Rel G0 a b) {g : Nat} {x y : GenState} (h0 : ∀ z, G0[g]? = some z → isSusp z = false) (hx : ngS x) : Rel G0 (a.setGen g x) (b.setGen g x) where
  eq := by
    show ({ b with gens := _ } : Shared) = { ({ a with gens := _ } : Shared) with gens := b.gens.setIfInBounds g x }
    rw [r.eq]
  at_ := fun i => by
    show At G0[i]? (a.gens.setIfInBounds g x)[i]? (b.gens.setIfInBounds g x)[i]?
    by_cases e : g = i
    · subst e
      rw [Array.getElem?_setIfInBounds_self, Array.getElem?_setIfInBounds_self, r.sz]
      refine .inr ⟨h0, rfl, fun z q => ?_⟩
      split at q
      · cases q; exact hx
      · cases q
    · rw [Array.getElem?_setIfInBounds_ne e, Array.getElem?_setIfInBounds_ne e]
      exact r.at_ i
  sz := by
    show (b.gens.setIfInBounds g x).size = (a.gens.setIfInBounds g x).size
    rw [Array.size_setIfInBounds, Array.size_setIfInBounds]
    exact r.sz
  ge := by
    show _ ≤ (a.gens.setIfInBounds g x).size
    rw [Array.size_setIfInBounds]
    exact r.ge
theorem Rel.push (r : Rel G0 a b) (c : Code) : Rel G0 { a with gens := a.gens.push (.fresh c) } { b with gens := b.gens.push (.fresh c) } where
  eq := by
    rw [r.eq]
  at_ := fun i => by
    show At G0[i]? (a.gens.push (.fresh c))[i]? (b.gens.push (.fresh c))[i]?
    rw [Array.getElem?_push, Array.getElem?_push, r.sz]
    by_cases e : i = a.gens.size
    · rw [if_pos e, if_pos e]
      refine .inr ⟨fun y q => ?_, rfl, fun z q => (by cases q; exact True.intro)⟩
      have h1 := (Array.getElem?_eq_some_iff.mp q).1
      have h2 := r.ge
      omega
    · rw [if_neg e, if_neg e]
      exact r.at_ i
  sz := by
    show (b.gens.push _).size = (a.gens.push _).size
    rw [Array.size_push, Array.size_push, r.sz]
  ge := by
    show _ ≤ (a.gens.push _).size
    rw [Array.size_push]
    exact Nat.le_succ_of_le r.ge
/-- an index at which the stuck run does something -/
theorem Rel.live (r : Rel G0 a b) {g : Nat} {x : GenState} (h : a.gens[g]? = some x) (nd : ∀ k l c p fs cl, x = .suspended k l c p fs cl → ¬ k = fun _ => Sem.unsupported "asleep") : b.gens[g]? = some x ∧ ngS x ∧ ∀ z, G0[g]? = some z → isSusp z = false := by
  rcases r.at_ g with ⟨y, e0, hs, eb, ea⟩ | ⟨h0, h1, h2⟩
  · rw [h] at ea
    obtain ⟨k, l, c, p, fs, cl, _, e2⟩ := dm_susp hs
    have e3 := Option.some.inj ea
    rw [e2] at e3
    exact absurd rfl (nd _ _ _ _ _ _ e3)
  · rw [h] at h1
    exact ⟨h1, h2 x h1, h0⟩
theorem Rel.seen (r : Rel G0 a b) {g : Nat} {x : GenState} (h : a.gens[g]? = some x) : ∃ y, b.gens[g]? = some y ∧ y.seen = x.seen := by
  rcases r.at_ g with ⟨y, e0, hs, eb, ea⟩ | ⟨h0, h1, _⟩
  · rw [h] at ea
    exact ⟨y, eb, by rw [Option.some.inj ea, dm_seen]⟩
  · rw [h] at h1
    exact ⟨x, h1, rfl⟩
/-- a sleeper of the start sleeps on -/
theorem Rel.asleep (r : Rel G0 a b) {g : Nat} {x : GenState} (h : G0[g]? = some x) (hs : isSusp x = true) : b.gens[g]? = some x := by
  rcases r.at_ g with ⟨y, e0, _, eb, _⟩ | ⟨h0, _⟩
  · rw [h] at e0
    rw [Option.some.inj e0]
    exact eb
  · have q := h0 x h
    rw [hs] at q
    cases q
end
theorem ng_append {a b : List Frame} (ha : splitAtGen a = none) (hb : splitAtGen b = none) : splitAtGen (a ++ b) = none := by
  rw [splitAtGen_append_none b ha, hb]
  rfl
theorem ng_ret {k h g l c p kp} {fs : List Frame} (hf : splitAtGen fs = none) : splitAtGen (Frame.ret k h g l c p kp :: fs) = none := by
  rw [splitAtGen_ret, hf]
  rfl
theorem ng_tail {k h g l c p kp} {fs : List Frame} (hf : splitAtGen (Frame.ret k h g l c p kp :: fs) = none) : splitAtGen fs = none := by
  rw [splitAtGen_ret] at hf
  cases e : splitAtGen fs with
  | none => rfl
  | some x => rw [e] at hf; cases hf
theorem swap {M : Model} {G0 : Array GenState} {Γ : Ctx} {p : Pos} {t : Sem PySem.Fin} {fs : List Frame} {s s' : Shared} {e : End} (h : Runs M Γ p t fs s e s') :
    splitAtGen fs = none → ∀ b, Rel G0 s b → ∃ b', Runs M Γ p t fs b e b' ∧ Rel G0 s' b' ∧ ngE e := by
  induction h with
  | done => exact fun _ b r => ⟨b, .done, r, True.intro⟩
  | raise => exact fun _ b r => ⟨b, .raise, r, True.intro⟩
  | again q _ ih => exact fun hf b r => let ⟨b', h1, h2, h3⟩ := ih rfl b r; ⟨b', .again q h1, h2, h3⟩
  | rule _ ih => exact fun hf b r => let ⟨b', h1, h2, h3⟩ := ih rfl b r; ⟨b', .rule h1, h2, h3⟩
  | «at» _ ih => exact fun hf b r => let ⟨b', h1, h2, h3⟩ := ih rfl b r; ⟨b', .at h1, h2, h3⟩
  | load q _ ih => exact fun hf b r => let ⟨b', h1, h2, h3⟩ := ih rfl b r; ⟨b', .load (by rw [r.heap]; exact q) h1, h2, h3⟩
  | update q _ ih =>
    intro hf b r
    obtain ⟨G, hG⟩ := r.ex
    subst hG
    obtain ⟨b', h1, h2, h3⟩ := ih rfl _ (r.with_ _ _ _ _)
    exact ⟨b', .update q h1, h2, h3⟩
  | loadIfAlive _ ih =>
    intro hf b r
    obtain ⟨G, hG⟩ := r.ex
    subst hG
    obtain ⟨b', h1, h2, h3⟩ := ih rfl _ r
    exact ⟨b', .loadIfAlive h1, h2, h3⟩
  | point _ ih => exact fun hf b r => let ⟨b', h1, h2, h3⟩ := ih rfl b r; ⟨b', .point h1, h2, h3⟩
  | alloc _ ih =>
    intro hf b r
    obtain ⟨G, hG⟩ := r.ex
    subst hG
    obtain ⟨b', h1, h2, h3⟩ := ih rfl _ (r.with_ _ _ _ _)
    exact ⟨b', .alloc h1, h2, h3⟩
  | fresh _ ih =>
    intro hf b r
    obtain ⟨G, hG⟩ := r.ex
    subst hG
    obtain ⟨b', h1, h2, h3⟩ := ih rfl _ (r.with_ _ _ _ _)
    exact ⟨b', .fresh h1, h2, h3⟩
  | ask _ ih => exact fun hf b r => let ⟨b', h1, h2, h3⟩ := ih rfl b r; ⟨b', .ask h1, h2, h3⟩
  | choose q _ ih =>
    intro hf b r
    obtain ⟨G, hG⟩ := r.ex
    subst hG
    obtain ⟨b', h1, h2, h3⟩ := ih rfl _ (r.with_ _ _ _ _)
    exact ⟨b', .choose q h1, h2, h3⟩
  | os _ ih =>
    intro hf b r
    obtain ⟨G, hG⟩ := r.ex
    subst hG
    obtain ⟨b', h1, h2, h3⟩ := ih rfl _ (r.with_ _ _ _ _)
    exact ⟨b', .os h1, h2, h3⟩
  | handled _ ih => exact fun hf b r => let ⟨b', h1, h2, h3⟩ := ih rfl b r; ⟨b', .handled h1, h2, h3⟩
  | genState q _ ih =>
    intro hf b r
    obtain ⟨y, e1, e2⟩ := r.seen q
    obtain ⟨b', h1, h2, h3⟩ := ih rfl b r
    exact ⟨b', .genState e1 (by rw [e2]; exact h1), h2, h3⟩
  | stack _ ih => exact fun hf b r => let ⟨b', h1, h2, h3⟩ := ih rfl b r; ⟨b', .stack h1, h2, h3⟩
  | thread _ ih => exact fun hf b r => let ⟨b', h1, h2, h3⟩ := ih rfl b r; ⟨b', .thread h1, h2, h3⟩
  | newGen _ ih =>
    intro hf b r
    obtain ⟨b', h1, h2, h3⟩ := ih rfl _ (r.push _)
    exact ⟨b', .newGen (by rw [r.sz]; exact h1), h2, h3⟩
  | call _ _ ih1 ih2 =>
    intro hf b r
    obtain ⟨b1, h1, h2, _⟩ := ih1 rfl b r
    obtain ⟨b', k1, k2, k3⟩ := ih2 rfl b1 h2
    exact ⟨b', .call h1 k1, k2, k3⟩
  | callSusp _ ih1 =>
    intro hf b r
    obtain ⟨b1, h1, h2, h3⟩ := ih1 rfl b r
    exact ⟨b1, .callSusp h1, h2, ng_append h3 (ng_ret rfl)⟩
  | yield => exact fun _ b r => ⟨b, .yield, r, rfl⟩
  | resumeFresh q _ qq _ ih1 ih2 =>
    intro hf b r
    obtain ⟨e1, e2, e3⟩ := r.live q (fun k l c p fs cl z => by cases z)
    obtain ⟨b1, h1, h2, h3⟩ := ih1 rfl _ (r.setGen (y := .running) e3 True.intro)
    obtain ⟨b', k1, k2, k3⟩ := ih2 rfl _ (h2.setGen (y := .running) e3 (ngS_end h3))
    exact ⟨b', .resumeFresh e1 h1 qq k1, k2, k3⟩
  | resumeSuspended q hr qq _ ih1 ih2 =>
    intro hf b r
    obtain ⟨e1, e2, e3⟩ := r.live q (fun k l c p fs cl z w => by
      injection z with z1
      subst w
      subst z1
      exact no_run hr)
    obtain ⟨b1, h1, h2, h3⟩ := ih1 e2 _ (r.setGen (y := .running) e3 True.intro)
    obtain ⟨b', k1, k2, k3⟩ := ih2 rfl _ (h2.setGen (y := .running) e3 (ngS_end h3))
    exact ⟨b', .resumeSuspended e1 h1 qq k1, k2, k3⟩
  | resumeJustStarted q n _ ih =>
    intro hf b r
    obtain ⟨e1, e2, e3⟩ := r.live q (fun k l c p fs cl z => by cases z)
    obtain ⟨b', k1, k2, k3⟩ := ih rfl _ r
    exact ⟨b', .resumeJustStarted e1 n k1, k2, k3⟩
  | resumeThrowFresh q _ ih =>
    intro hf b r
    obtain ⟨e1, e2, e3⟩ := r.live q (fun k l c p fs cl z => by cases z)
    obtain ⟨b', k1, k2, k3⟩ := ih rfl _ (r.setGen (y := .running) e3 True.intro)
    exact ⟨b', .resumeThrowFresh e1 k1, k2, k3⟩
  | resumeRunning q _ ih =>
    intro hf b r
    obtain ⟨e1, e2, e3⟩ := r.live q (fun k l c p fs cl z => by cases z)
    obtain ⟨b', k1, k2, k3⟩ := ih rfl _ r
    exact ⟨b', .resumeRunning e1 k1, k2, k3⟩
  | resumeFinished q _ ih =>
    intro hf b r
    obtain ⟨e1, e2, e3⟩ := r.live q (fun k l c p fs cl z => by cases z)
    obtain ⟨b', k1, k2, k3⟩ := ih rfl _ r
    exact ⟨b', .resumeFinished e1 k1, k2, k3⟩
  | segRet _ _ ih1 ih2 =>
    intro hf b r
    obtain ⟨b1, h1, h2, _⟩ := ih1 rfl b r
    obtain ⟨b', k1, k2, k3⟩ := ih2 (ng_tail hf) b1 h2
    exact ⟨b', .segRet h1 k1, k2, k3⟩
  | segGen _ _ ih1 ih2 =>
    intro hf b r
    rw [splitAtGen_gen] at hf
    cases hf
  | segSuspOut q _ ih1 =>
    intro hf b r
    obtain ⟨b1, h1, h2, h3⟩ := ih1 rfl b r
    exact ⟨b1, .segSuspOut q h1, h2, ng_append h3 q⟩
  | segSuspGen q _ _ _ ih1 ih2 =>
    intro hf b r
    rw [q] at hf
    cases hf
/-- the same of a tree's wish -/
theorem swap_wp {M : Model} {G0 : Array GenState} {Γ : Ctx} {α : Type} (t : Sem α) : ∀ (Q : α → Pos → Shared → Prop) (E : Value → Pos → Shared → Prop) (p : Pos) (s b : Shared), Rel G0 s b → wp M Γ t Q E p s →
    wp M Γ t (fun x p' b' => ∃ s', Rel G0 s' b' ∧ Q x p' s') (fun x p' b' => ∃ s', Rel G0 s' b' ∧ E x p' s') p b := by
  induction t with
  | pure x => exact fun Q E p s b r h => ⟨s, r, h⟩
  | raise x => exact fun Q E p s b r h => ⟨s, r, h⟩
  | unsupported _ => exact fun Q E p s b r h => h
  | finish _ => exact fun Q E p s b r h => h
  | rule _ k ih => exact fun Q E p s b r h => ih () Q E p s b r h
  | «at» p' k ih => exact fun Q E p s b r h => ih () Q E p' s b r h
  | load a _ k ih =>
    intro Q E p s b r h
    obtain ⟨o, ho, h⟩ := h
    exact ⟨o, by rw [r.heap]; exact ho, ih o Q E p s b r h⟩
  | update a _ f k ih =>
    intro Q E p s b r h
    obtain ⟨G, rfl⟩ : ∃ G, b = { s with gens := G } := ⟨_, r.eq⟩
    exact ⟨h.1, ih () Q E p _ _ (r.with_ _ _ _ _) h.2⟩
  | loadIfAlive a k ih =>
    intro Q E p s b r h
    obtain ⟨G, rfl⟩ : ∃ G, b = { s with gens := G } := ⟨_, r.eq⟩
    exact ih _ Q E p s _ r h
  | point _ k ih => exact fun Q E p s b r h => ih () Q E p s b r h
  | register _ _ => exact fun Q E p s b r h => h
  | alloc o k ih =>
    intro Q E p s b r h
    obtain ⟨G, rfl⟩ : ∃ G, b = { s with gens := G } := ⟨_, r.eq⟩
    exact ih _ Q E p _ _ (r.with_ _ _ _ _) h
  | fresh k ih =>
    intro Q E p s b r h
    obtain ⟨G, rfl⟩ : ∃ G, b = { s with gens := G } := ⟨_, r.eq⟩
    exact ih _ Q E p _ _ (r.with_ _ _ _ _) h
  | ask k ih => exact fun Q E p s b r h => ih _ Q E p s b r h
  | choose src m k ih =>
    intro Q E p s b r h
    obtain ⟨G, rfl⟩ : ∃ G, b = { s with gens := G } := ⟨_, r.eq⟩
    exact ⟨h.1, ih _ Q E p _ _ (r.with_ _ _ _ _) h.2⟩
  | os q _ k ih =>
    intro Q E p s b r h
    obtain ⟨G, rfl⟩ : ∃ G, b = { s with gens := G } := ⟨_, r.eq⟩
    exact ih _ Q E p _ _ (r.with_ _ _ _ _) h
  | call c hd _ _ k ih =>
    intro Q E p s b r h
    obtain ⟨x, s1, hr, h⟩ := h
    obtain ⟨b1, h1, h2, _⟩ := swap hr rfl b r
    exact ⟨x, b1, h1, ih x Q E p s1 b1 h2 h⟩
  | handled own k ih => exact fun Q E p s b r h => ih _ Q E p s b r h
  | genState g k ih =>
    intro Q E p s b r h
    obtain ⟨st, hs, h⟩ := h
    obtain ⟨y, e1, e2⟩ := r.seen hs
    exact ⟨y, e1, by rw [e2]; exact ih _ Q E p s b r h⟩
  | newGen c k ih =>
    intro Q E p s b r h
    have q := ih _ Q E p _ _ (r.push c) h
    show wp M Γ (k b.gens.size) _ _ p _
    rw [r.sz]
    exact q
  | resume g x _ k ih =>
    intro Q E p s b r h
    obtain ⟨res, s1, hw, h⟩ := h
    suffices z : ∃ b1, Wakes M Γ p g x b res b1 ∧ Rel G0 s1 b1 by
      obtain ⟨b1, z1, z2⟩ := z
      exact ⟨res, b1, z1, ih res Q E p s1 b1 z2 h⟩
    unfold Wakes at hw ⊢
    cases hg : s.gens[g]? with
    | none => rw [hg] at hw; exact hw.elim
    | some st =>
      rw [hg] at hw
      cases st with
      | fresh c =>
        obtain ⟨e1, e2, e3⟩ := r.live hg (fun k l c p fs cl z => by cases z)
        rw [e1]
        cases x with
        | send v =>
          cases v with
          | none =>
            obtain ⟨e₁, s₁, h1, h2, h3, h4⟩ := hw
            obtain ⟨b1, k1, k2, k3⟩ := swap h1 rfl _ (r.setGen (y := .running) e3 True.intro)
            exact ⟨_, ⟨e₁, b1, k1, h2, h3, rfl⟩, by rw [h4]; exact k2.setGen (y := .running) e3 (ngS_end k3)⟩
          | _ => exact ⟨b, ⟨hw.1, rfl⟩, by rw [hw.2]; exact r⟩
        | throw y => exact ⟨_, ⟨hw.1, rfl⟩, by rw [hw.2]; exact r.setGen (y := .running) e3 True.intro⟩
      | suspended k₀ l₀ c₀ p₀ fs cl =>
        obtain ⟨e₁, s₁, h1, h2, h3, h4⟩ := hw
        obtain ⟨e1, e2, e3⟩ := r.live hg (fun k l c p fs cl z w => by
          injection z with z1
          subst w
          subst z1
          exact no_run h1)
        rw [e1]
        obtain ⟨b1, k1, k2, k3⟩ := swap h1 e2 _ (r.setGen (y := .running) e3 True.intro)
        exact ⟨_, ⟨e₁, b1, k1, h2, h3, rfl⟩, by rw [h4]; exact k2.setGen (y := .running) e3 (ngS_end k3)⟩
      | running =>
        obtain ⟨e1, e2, e3⟩ := r.live hg (fun k l c p fs cl z => by cases z)
        rw [e1]
        exact ⟨b, ⟨hw.1, rfl⟩, by rw [hw.2]; exact r⟩
      | finished =>
        obtain ⟨e1, e2, e3⟩ := r.live hg (fun k l c p fs cl z => by cases z)
        rw [e1]
        exact ⟨b, ⟨hw.1, rfl⟩, by rw [hw.2]; exact r⟩
  | yield _ _ _ _ => exact fun Q E p s b r h => h
  | stack k ih => exact fun Q E p s b r h => ih _ Q E p s b r h
  | fork _ _ => exact fun Q E p s b r h => h
  | thread k ih => exact fun Q E p s b r h => ih _ Q E p s b r h
  | await _ _ _ _ _ => exact fun Q E p s b r h => h
/-- a run in which the sleepers of the start can't be woken, over the true state: they sleep on -/
theorem swap_any {M : Model} {A : Around} {α : Type} {t : Sem α} {Q : α → Shared → Prop} {E : Value → Shared → Prop} {s : Shared} (h : wpAny M A t Q E { s with gens := s.gens.map dm }) :
    wpAny M A t (fun x b => ∃ a, Rel s.gens a b ∧ Q x a) (fun x b => ∃ a, Rel s.gens a b ∧ E x a) s :=
  fun Γ p hΓ => swap_wp t (fun a _ s' => Q a s') (fun e _ s' => E e s') p _ s (Rel.start s) (h Γ p hΓ)
theorem bare_map {G : Array GenState} (h : AllBare G) : AllBare (G.map dm) := fun y hy => by
  obtain ⟨x, hx, e⟩ := Array.mem_map.mp hy
  rw [← e, dm_bare]
  exact h x hx
theorem Rel.bare {G0 : Array GenState} {a b : Shared} (r : Rel G0 a b) (h0 : AllBare G0) (h : AllBare a.gens) : AllBare b.gens := fun y hy => by
  obtain ⟨i, hi, e⟩ := Array.mem_iff_getElem.mp hy
  have q : b.gens[i]? = some y := by rw [Array.getElem?_eq_getElem hi, e]
  rcases r.at_ i with ⟨x, e0, hs, eb, ea⟩ | ⟨_, h1, _⟩
  · rw [q] at eb
    rw [Option.some.inj eb]
    exact h0 x (Array.mem_of_getElem? e0)
  · rw [q] at h1
    exact h y (Array.mem_of_getElem? h1.symm)
end K33G
/-! text Kg2 -/
set_option Elab.async false
set_option linter.all false
set_option maxRecDepth 100000
set_option maxHeartbeats 4000000
/-! ## a generator's run in segments, a ghost handed in at every waking -/
namespace K33G
open PySem
open Sem (wp)
section
variable {ι : Type}
/-- how a segment ends: it is over, or it hands out v and sleeps -/
def EndG (R : ι → Result → Shared → Prop) (Y : ι → Value → Shared → (ι → Shared → Prop) → Prop) (g0 : ι) (go : ι → Code → Sem PySem.Fin → List Frame → Shared → Prop) (e : End) (s' : Shared) : Prop :=
  match e with
  | .ret r => R g0 r s'
  | .susp v g l k c p fs => (End.susp v g l k c p fs).quiet = true ∧ Y g0 v s' fun g1 s2 => go g1 c (k (.send .none)) fs s2
def SegG (M : Model) (A : Around) (R : ι → Result → Shared → Prop) (Y : ι → Value → Shared → (ι → Shared → Prop) → Prop) : Nat → ι → Code → Sem PySem.Fin → List Frame → Shared → Prop
  | 0, g0, c, t, fs, s => ∀ Γ p, Γ.code = c → Γ.Woken A → ∃ e s', Runs M Γ p t fs s e s' ∧ EndG R Y g0 (fun _ _ _ _ _ => False) e s'
  | n + 1, g0, c, t, fs, s => ∀ Γ p, Γ.code = c → Γ.Woken A → ∃ e s', Runs M Γ p t fs s e s' ∧ EndG R Y g0 (SegG M A R Y n) e s'
def nextG (M : Model) (A : Around) (R : ι → Result → Shared → Prop) (Y : ι → Value → Shared → (ι → Shared → Prop) → Prop) : Nat → ι → Code → Sem PySem.Fin → List Frame → Shared → Prop
  | 0 => fun _ _ _ _ _ => False
  | n + 1 => SegG M A R Y n
variable {M : Model} {A : Around} {R : ι → Result → Shared → Prop} {Y : ι → Value → Shared → (ι → Shared → Prop) → Prop} {n : Nat} {g0 : ι} {c : Code} {fs : List Frame} {s : Shared}
theorem segG_iff {t : Sem PySem.Fin} : SegG M A R Y n g0 c t fs s ↔ ∀ Γ p, Γ.code = c → Γ.Woken A → ∃ e s', Runs M Γ p t fs s e s' ∧ EndG R Y g0 (nextG M A R Y n) e s' := by
  cases n <;> exact Iff.rfl
theorem sg_wrapX {α : Type} {m : Sem α} {K : α → Sem PySem.Fin} {J : Value → Sem PySem.Fin} {gd lv}
    (h : wpAny M (A.over c fs) m (fun a s' => SegG M A R Y n g0 c (K a) fs s') (fun x s' => SegG M A R Y n g0 c (J x) fs s') s) : SegG M A R Y n g0 c (m.wrap K J gd lv) fs s := by
  rw [segG_iff]
  rintro Γ p rfl hΓ
  exact runs_wrap_of_wp K J gd lv m (h (Γ.over fs) p (hΓ.over fs)) (fun a p' s' q => segG_iff.mp q Γ p' rfl hΓ) fun x p' s' q => segG_iff.mp q Γ p' rfl hΓ
theorem sg_wrap {α : Type} {m : Sem α} {K : α → Sem PySem.Fin} {J : Value → Sem PySem.Fin} {gd lv}
    (h : wpAny M (A.over c fs) m (fun a s' => SegG M A R Y n g0 c (K a) fs s') (fun _ _ => False) s) : SegG M A R Y n g0 c (m.wrap K J gd lv) fs s :=
  sg_wrapX (wpAny_mono h (fun _ _ q => q) fun _ _ q => q.elim)
theorem sg_bind {α β : Type} {m : Sem α} {F : α → Sem β} {K : β → Sem PySem.Fin} {J : Value → Sem PySem.Fin} {gd lv}
    (h : wpAny M (A.over c fs) m (fun a s' => SegG M A R Y n g0 c ((F a).wrap K J gd lv) fs s') (fun _ _ => False) s) : SegG M A R Y n g0 c ((m >>= F).wrap K J gd lv) fs s := by
  rw [Sem.bind_eq_wrap', Sem.wrap_wrap]
  exact sg_wrap h
theorem sg_at {p' : Pos} {k : Unit → Sem PySem.Fin} (h : SegG M A R Y n g0 c (k ()) fs s) : SegG M A R Y n g0 c (.at p' k) fs s :=
  sg_wrap (m := standAt p') (K := k) (J := .raise) (gd := id) (lv := id) (wpAny_standAt h)
theorem sg_point {l : List Value} {k : Unit → Sem PySem.Fin} (h : SegG M A R Y n g0 c (k ()) fs s) : SegG M A R Y n g0 c (.point l k) fs s :=
  sg_wrap (m := point) (K := k) (J := .raise) (gd := id) (lv := fun _ => l) (wpAny_point h)
theorem sg_call {c' : Code} {h g l} {k : Result → Sem PySem.Fin} (hc : ∀ p, SegG M A R Y n g0 c' (M.den c') (.ret k h g l c p [] :: fs) s) : SegG M A R Y n g0 c (.call c' h g l k) fs s := by
  rw [segG_iff]
  rintro Γ p rfl hΓ
  obtain ⟨e, s', hr, he⟩ := segG_iff.mp (hc p) (Γ.goto c') p rfl (hΓ.goto c')
  exact ⟨e, s', runs_call_seg hr, he⟩
theorem sg_leaf {k h g l c₁ p₁ kp} (r : Result) (hk : SegG M A R Y n g0 c₁ (k r) fs s) : SegG M A R Y n g0 c (leafOf r) (.ret k h g l c₁ p₁ kp :: fs) s := by
  rw [segG_iff]
  rintro Γ p rfl hΓ
  obtain ⟨e, s', hr, he⟩ := segG_iff.mp hk (Γ.goto c₁) p₁ rfl (hΓ.goto c₁)
  exact ⟨e, s', Runs.pop r hr, he⟩
theorem sg_again {c' : Code} (hq : c'.quiet = true) (hc : SegG M A R Y n g0 c' (M.den c') fs s) : SegG M A R Y n g0 c (.pure (.again c')) fs s := by
  rw [segG_iff]
  rintro Γ p rfl hΓ
  obtain ⟨e, s', hr, he⟩ := segG_iff.mp hc (Γ.goto c') p rfl (hΓ.goto c')
  exact ⟨e, s', Runs.head (c₁ := c') (fun _ _ x => .again hq x) hr, he⟩
theorem sg_end (r : Result) (h : R g0 r s) : SegG M A R Y n g0 c (leafOf r) [] s := by
  rw [segG_iff]
  rintro Γ p rfl _
  exact ⟨.ret r, s, Runs.leaf r, h⟩
theorem sg_yield {v g l} {k : Resume → Sem PySem.Fin} (hfs : splitAtGen fs = none) (hg : g = false) (hfg : fs.any Frame.guarded = false)
    (h : Y g0 v s fun g1 s2 => SegG M A R Y n g1 c (k (.send .none)) fs s2) : SegG M A R Y (n + 1) g0 c (.yield v g l k) fs s := by
  rintro Γ p rfl _
  exact ⟨_, s, Runs.yield' fs hfs, And.intro (by simp [End.quiet, hg, hfg]) h⟩
section
variable {env : Env} {K : Flow → Sem PySem.Fin} {J : Value → Sem PySem.Fin} {gd : Bool → Bool} {lv : List Value → List Value}
theorem sg_cons {st : Stmt} {rest : List Stmt}
    (h : SegG M A R Y n g0 c ((exec st env).wrap (fun f => match f with | .next => (execs rest env).wrap K J gd lv | f => K f) J gd lv) fs s) :
    SegG M A R Y n g0 c ((execs (st :: rest) env).wrap K J gd lv) fs s := by
  rw [execs_cons_wrap]
  exact h
theorem sg_If {test : Expr} {b1 b2 : List Stmt} {pos : Pos}
    (h : wpAny M (A.over c fs) (isTrue test env (eval test env)) (fun b s' => if b = true then SegG M A R Y n g0 c ((execs b1 env).wrap K J gd lv) fs s' else SegG M A R Y n g0 c ((execs b2 env).wrap K J gd lv) fs s') (fun _ _ => False) s) :
    SegG M A R Y n g0 c ((exec (.If test b1 b2 pos) env).wrap K J gd lv) fs s := by
  refine sg_at ?_
  show SegG M A R Y n g0 c ((isTrue test env (eval test env) >>= fun b => if b = true then execs b1 env else execs b2 env).wrap K J gd lv) fs s
  refine sg_bind (wpAny_mono h (fun b s' q => ?_) fun _ _ q => q)
  cases b with
  | true => exact q
  | false => exact q
theorem sg_ExprYield {e : Expr} {ypos pos : Pos} (hfs : splitAtGen fs = none) (hgd : gd false = false) (hfg : fs.any Frame.guarded = false)
    (h : wpAny M (A.over c fs) (eval e env) (fun v s' => Y g0 v s' fun g1 s2 => SegG M A R Y n g1 c (K .next) fs s2) (fun _ _ => False) s)
    (hco : env.scope.isCoroutine = false := by rfl) (hi : interactive env = false := by rfl) :
    SegG M A R Y (n + 1) g0 c ((exec (.Expr (.Yield (some e) ypos) pos) env).wrap K J gd lv) fs s := by
  rw [exec_Expr env _ pos hi rfl]
  have hy : ∀ v, yieldOut env v = yieldValue v := fun v => by simp only [yieldOut, hco, Bool.false_eq_true, if_false]
  show SegG M A R Y (n + 1) g0 c (.at pos fun _ => ((eval e env >>= fun v => (standAt ypos >>= fun _ => yieldOut env v)) >>= fun x => dropValue (.Yield (some e) ypos) pos x).wrap K J gd lv) fs s
  simp only [hy]
  refine sg_at ?_
  rw [Sem.bind_eq_wrap', Sem.bind_eq_wrap', Sem.wrap_wrap, Sem.wrap_wrap]
  refine sg_wrap (wpAny_mono h (fun v s' q => ?_) fun _ _ q => q)
  exact sg_at (sg_yield hfs hgd hfg q)
theorem sg_While {test : Expr} {body orelse : List Stmt} {pos : Pos}
    (h : ∀ p, SegG M A R Y n g0 (.whileLoop test body orelse env) (M.den (.whileLoop test body orelse env))
      (.ret (fun r => ((match r with | .ok f => (.pure f : Sem Flow) | .error e => .raise e).onRaise fun (x : Value) => do
        if (← field x 1) == Value.none then unsupported "frame.own-activation:exception-without-traceback"
        setFlight x env.frame).wrap K J gd lv) none (gd false) (lv []) c p [] :: fs) s) :
    SegG M A R Y n g0 c ((exec (.While test body orelse pos) env).wrap K J gd lv) fs s := sg_at (sg_call h)
end
section
variable {prog : Program} {w : World} {env : Env}
theorem sg_loop {test : Expr} {body : List Stmt} {J1 : Value → Sem PySem.Fin} {fs : List Frame} {s : Shared}
    (h : wpAny (model prog w) (A.over (.whileLoop test body [] env) fs) (isTrue test env (eval test env)) (fun b s' =>
        if b = true then
          ∀ J, SegG (model prog w) A R Y n g0 (.whileLoop test body [] env) ((execs body env).wrap (fun f => match f with
            | .next | .cont => .pure (.again (.whileLoop test body [] env))
            | .brk => .pure (.done .next)
            | .ret v => .pure (.done (.ret v))) J id id) fs s'
        else SegG (model prog w) A R Y n g0 (.whileLoop test body [] env) (.pure (.done .next)) fs s')
      (fun _ _ => False) s) :
    SegG (model prog w) A R Y n g0 (.whileLoop test body [] env) ((model prog w).den (.whileLoop test body [] env)) fs s := by
  show SegG _ A R Y n g0 _ ((whileTurn test body [] env).onRaise (fun x => do noteFrame x env; theTreesLotGoes x)) fs s
  unfold whileTurn
  rw [Sem.onRaise_eq_wrap, Sem.bind_eq_wrap', Sem.wrap_wrap]
  refine sg_wrap (wpAny_mono h (fun b s' hb => ?_) fun x s' hx => hx)
  cases b with
  | true =>
    rw [if_pos rfl] at hb
    show SegG _ A R Y n g0 _ (Sem.wrap _ _ _ _ (if true = true then _ else _)) fs s'
    rw [if_pos rfl, Sem.bind_eq_wrap', Sem.wrap_wrap]
    have z := hb (fun e => (Sem.wrap (fun _ => Sem.raise e) Sem.raise id id (do noteFrame e env; theTreesLotGoes e : Sem Unit)))
    rw [Sem.wrap_congr (execs body env) _ _ (K' := fun f => match f with
          | .next | .cont => .pure (.again (.whileLoop test body [] env))
          | .brk => .pure (.done .next)
          | .ret v => .pure (.done (.ret v))) (H' := (fun e => (Sem.wrap (fun _ => Sem.raise e) Sem.raise id id (do noteFrame e env; theTreesLotGoes e : Sem Unit))))
      (fun f => by cases f <;> rfl)
      (fun e => by first | exact Sem.bind_eq_wrap _ _ | (show (do noteFrame e env; theTreesLotGoes e : Sem Unit).bind (fun _ => .raise e) = _; rw [Sem.bind_eq_wrap]))]
    exact z
  | false =>
    rw [if_neg Bool.false_ne_true] at hb
    exact hb
theorem sg_func {body : List Stmt}
    (h : ∀ J, SegG (model prog w) A R Y n g0 (.func body env) ((execs body env).wrap (fun f => .pure (.done (.ret (match f with | .ret v => v | _ => .none)))) J id id) fs s) :
    SegG (model prog w) A R Y n g0 (.func body env) ((model prog w).den (.func body env)) fs s := by
  show SegG _ A R Y n g0 _ (.point [] fun _ => ((execs body env).onRaise (leaving env)) >>= _) fs s
  refine sg_point ?_
  rw [Sem.onRaise_eq_wrap, Sem.bind_eq_wrap', Sem.wrap_wrap]
  rw [Sem.wrap_congr (execs body env) _ _ (K' := fun f => .pure (.done (.ret (match f with | .ret v => v | _ => .none))))
    (H' := fun e => (leaving env e).wrap (fun _ => .raise e) .raise id id) (fun f => by cases f <;> rfl)
    (fun e => by rw [Sem.bind_eq_wrap, Sem.wrap_wrap]; rfl)]
  exact h _
end
end
end K33G
/-! text Kg3 -/
set_option Elab.async false
set_option linter.all false
set_option maxRecDepth 100000
set_option maxHeartbeats 4000000
/-! ## a generator's context, anchored anew at every waking -/
namespace K33G
open PySem PySem.Spec PyProof.Rows L2 GenW
def tr (n : Nat) (s : Shared) : Shared := { s with heap := ⟨s.heap.objs.extract 0 n, s.heap.life⟩ }
theorem tr_get (n : Nat) (s : Shared) (b : Nat) : (tr n s).heap.get? b = if b < n then s.heap.get? b else none := by
  show (Heap.mk (s.heap.objs.extract 0 n) s.heap.life).get? b = _
  unfold Heap.get?
  show (match (s.heap.objs.extract 0 n)[b]? with
    | some ⟨_, _, .freed, _⟩ => none
    | o => o) = _
  rw [Array.getElem?_extract]
  by_cases h : b < n
  · rw [if_pos h]
    by_cases h2 : b < s.heap.objs.size
    · rw [if_pos (by omega), Nat.zero_add]
      rfl
    · have e1 : ¬ b < min n s.heap.objs.size - 0 := by omega
      have e2 : s.heap.objs[b]? = none := Array.getElem?_eq_none (Nat.le_of_not_lt h2)
      rw [if_neg e1, e2]
  · have e3 : ¬ b < min n s.heap.objs.size - 0 := by omega
    rw [if_neg h, if_neg e3]
theorem tr_lt {n : Nat} {s : Shared} {b : Addr} {o : Obj} (h : (tr n s).heap.get? b = some o) : b < n ∧ s.heap.get? b = some o := by
  rw [tr_get] at h
  by_cases q : b < n
  · rw [if_pos q] at h
    exact ⟨q, h⟩
  · rw [if_neg q] at h
    cases h
theorem tr_of {n : Nat} {s : Shared} {b : Addr} {o : Obj} (q : b < n) (h : s.heap.get? b = some o) : (tr n s).heap.get? b = some o := by
  rw [tr_get, if_pos q]
  exact h
theorem tr_size {n : Nat} {s : Shared} (h : n ≤ s.heap.objs.size) : (tr n s).heap.objs.size = n := by
  show (s.heap.objs.extract 0 n).size = n
  rw [Array.size_extract]
  omega
/-- the generator's body: its context; X: the consumer's -/
def gcx (X : Cx) (N : List Str) (qual : Str) (scope : Scope) (f : Addr) (cd : Value) (L : Addr) (go : Addr × Obj) (s0 : Shared) (H0 : Hp) : Cx where
  prog := X.prog
  w := X.w
  K := X.K
  mg := X.mg
  base := X.base
  A := X.A.in1.deeper (envOfC qual scope L f cd)
  N := N
  s_0 := tr L s0
  H_0 := H0
  env := envOfC qual scope L f cd
  outer := X.stack
  stack := envOfC qual scope L f cd :: X.stack
  ex := []
  fn := fun _ => true
  calm := true
  pn := [go]
  xe := fun _ _ => False
/-- where the generator's things stand, told of the consumer -/
structure Young (X : Cx) (pins : List (Addr × Obj)) (L ga : Addr) (go : Obj) (g : Nat) : Prop where
  fr : ∀ b ∈ frs X.stack, b < L
  s0 : X.s_0.heap.objs.size ≤ L
  lo : X.env.locals < L
  ce : ∀ x c, X.env.cells.lookup x = some c → c < L
  pi : ∀ p ∈ X.pn ++ pins, p.1 < L
  ga_ : L < ga
  da : ∀ v, go.data ≠ .cell v
  isg : ∀ h : Heap, h.get? ga = some go → h.IsGen ga g
/-- no names of the scope are cells -/
def plainNames (scope : Scope) : Bool := scope.names.all fun y => match y.2 with
  | .cell => false
  | .free => false
  | _ => true
theorem plain_lookup {scope : Scope} (h : plainNames scope = true) (x : Str) : scope.names.lookup x ≠ some .cell ∧ scope.names.lookup x ≠ some .free := by
  have q := List.all_eq_true.mp h
  constructor
  · intro e
    have z := q _ (PySem.mem_of_lookup e)
    cases z
  · intro e
    have z := q _ (PySem.mem_of_lookup e)
    cases z
theorem cells_nil : ∀ {names : List (Str × NameKind)} {n : Nat}, (names.all fun y => match y.2 with | .cell => false | .free => false | _ => true) = true → ∀ {x : Str} {c : Addr}, (x, c) ∈ cellsFrom n names [] → False := by
  intro names n h x c hm
  have key : ∀ (names : List (Str × NameKind)) (n : Nat), (names.all fun y => match y.2 with | .cell => false | .free => false | _ => true) = true → cellsFrom n names [] = [] := by
    intro names
    induction names with
    | nil => intro n _; rfl
    | cons y r ih =>
      intro n hq
      obtain ⟨nm, k⟩ := y
      rw [List.all_cons, Bool.and_eq_true] at hq
      cases k <;> first
        | (have z := hq.1; cases z; done)
        | (have z := ih n hq.2
           first
             | exact z
             | (unfold cellsFrom; exact z)
             | simpa [cellsFrom] using z)
  rw [key names n h] at hm
  cases hm
section
variable {X : Cx} {pins : List (Addr × Obj)} {σc σ : L2.St} {H H' : Hp} {s s1 : Shared} {N : List Str} {qual : Str} {scope : Scope} {f L ga : Addr} {cd : Value} {go oL : Obj} {g : Nat}
theorem inv_gens {G : Array GenState} (I : Inv X pins σ H s) (h : AllBare G) : Inv X pins σ H { s with gens := G } :=
  ⟨I.ok, I.os, h, I.base, I.loc, I.cell, I.free, I.freeC, I.pin, I.hok, I.len⟩
/-- what sleeps: the frame's object and its names -/
def Naps (N : List Str) (scope : Scope) (L : Addr) (σ : L2.St) (h : Heap) : Prop :=
  ∃ m, h.Ns L m ∧ ∀ (i : Nat) (x : Str) (v : V), N[i]? = some x → σ[i]? = some (some v) → Vis scope x → ∃ u, RelV v u ∧ scope.names.lookup x = some .local ∧ m x = some u
theorem Naps.at {h h' : Heap} (n : Naps N scope L σ h) (e : h'.get? L = h.get? L) : Naps N scope L σ h' := by
  obtain ⟨m, hn, q⟩ := n
  exact ⟨m, hn.at' fun o z => by rw [e]; exact z, q⟩
theorem naps_of {s0 : Shared} {H0 : Hp} (hp : plainNames scope = true) (J : Inv (gcx X N qual scope f cd L (ga, go) s0 H0) [] σ H s) : Naps N scope L σ s.heap := by
  obtain ⟨m, hn, q⟩ := J.loc
  refine ⟨m, hn, fun i x v e1 e2 e3 => ?_⟩
  obtain ⟨u, r, l⟩ := q i x v e1 e2 e3
  refine ⟨u, r, ?_⟩
  rcases l with ⟨k, e⟩ | ⟨k, _⟩
  · exact ⟨k, e⟩
  · rcases k with k | k
    · exact absurd k (plain_lookup hp x).1
    · exact absurd k (plain_lookup hp x).2
theorem fun_frames {h : Heap} {base : Heap} {n : Nat} {s : Shared} : ∀ {l : List Env}, (∀ b ∈ frs l, b < n) → s.heap.FunFrames base l → (tr n s).heap.FunFrames base l
  | [], _, _ => True.intro
  | env :: r, hl, ⟨hk, ⟨L, o, hf, hn, ho, hd⟩, hr⟩ => by
    have hL : L < n := hl L (by unfold frs; rw [List.filterMap_cons, hf]; exact List.mem_cons_self)
    refine ⟨hk, ⟨L, o, hf, hn, tr_of hL ho, hd⟩, fun_frames (h := h) (fun b hb => hl b ?_) hr⟩
    unfold frs
    rw [List.filterMap_cons, hf]
    exact List.mem_cons_of_mem _ hb
/-- the generator is woken: its context stands over the consumer's state -/
theorem wake_inv (hkd : scope.kind = .function) (hp : plainNames scope = true) (hh : X.A.in1.handled = none) (Yg : Young X pins L ga go g) (I : Inv X pins σc H s) (naps : Naps N scope L σ s.heap) (hLn : H L = none) (hga : s.heap.get? ga = some go) (hgn : H ga = none) (hlen : σ.length = N.length) :
    Inv (gcx X N qual scope f cd L (ga, go) s H) [] σ H s := by
  have nc : ∀ x c, (envOfC qual scope L f cd).cells.lookup x = some c → False := fun x c e => cells_nil hp (PySem.mem_of_lookup e)
  have hLs : L < s.heap.objs.size := let ⟨m, hn, _⟩ := naps; hn.lt
  refine ⟨⟨I.ok.mod, hkd, rfl, rfl, ?_, fun x y c e _ => (nc x c e).elim, fun x e => ?_, fun x c _ e => (nc x c e).elim, fun _ => hh, Around.frames_deeper (A := X.A.in1) I.ok.frames, .inr ⟨rfl, rfl⟩, fun b z => absurd (show b ∈ ([] : List Addr) from z) (by simp), fun b o e => ?_, ?_, fun b o e z => absurd (show b ∈ ([] : List Addr) from z) (by simp), fun b z => absurd (show b ∈ ([] : List Addr) from z) (by simp), fun_frames (h := s.heap) Yg.fr I.stack, I.stkFree⟩,
    rfl, I.bare, ⟨fun b o e n _ _ => (tr_lt e).2, fun b o e n _ _ => ⟨o.slots, (tr_lt e).2⟩, fun b o e n _ => n, fun b o e _ => ⟨o, (tr_lt e).2⟩, fun _ _ q => q, fun _ _ _ q => q, fun b ps q => ⟨#[], by rw [show H b = some (.tbl ps) from q]; simp⟩⟩, ?_, fun x c e => (nc x c e).elim, hLn, fun x c e => (nc x c e).elim, fun p hp => ?_, I.hok, hlen⟩
  · show (tr L s).heap.objs.size ≤ L
    rw [tr_size (Nat.le_of_lt hLs)]
    exact Nat.le_refl _
  · rcases e with e | e
    · exact absurd e (plain_lookup hp x).1
    · exact absurd e (plain_lookup hp x).2
  · have hb : b < L := Nat.lt_of_lt_of_le (Heap.lt_size e) (Nat.le_trans I.ok.bsz Yg.s0)
    exact ⟨tr_of hb (I.bs b o e).1, (I.bs b o e).2⟩
  · show X.base.objs.size ≤ (tr L s).heap.objs.size
    rw [tr_size (Nat.le_of_lt hLs)]
    exact Nat.le_trans I.ok.bsz Yg.s0
  · obtain ⟨m, hn, q⟩ := naps
    refine ⟨m, hn, fun i x v e1 e2 e3 => ?_⟩
    obtain ⟨u, r, k, e⟩ := q i x v e1 e2 e3
    exact ⟨u, r, .inl ⟨k, e⟩⟩
  · have hp' : p = (ga, go) := by simpa [gcx] using hp
    subst hp'
    exact ⟨hga, hgn, Nat.ne_of_gt Yg.ga_, fun z => absurd (Yg.fr ga z) (Nat.not_lt_of_le (Nat.le_of_lt Yg.ga_)), Yg.da⟩
/-- the generator sleeps again: the consumer's context stands -/
theorem back_inv (Yg : Young X pins L ga go g) (I : Inv X pins σc H s) (J : Inv (gcx X N qual scope f cd L (ga, go) s H) [] σ H' s1) : Inv X pins σc H' s1 := by
  have old : ∀ b o, b < L → s.heap.get? b = some o → (gcx X N qual scope f cd L (ga, go) s H).s_0.heap.get? b = some o := fun b o q e => tr_of q e
  have hout : ∀ b, b ∈ (gcx X N qual scope f cd L (ga, go) s H).ex → False := fun b z => absurd (show b ∈ ([] : List Addr) from z) (by simp)
  have lt : ∀ b, b ∉ (List.range s.heap.objs.size).filter (fun b => decide (L ≤ b)) → ∀ o, s.heap.get? b = some o → b < L := fun b hb o e => by
    have h1 := Heap.lt_size e
    by_cases q : L ≤ b
    · exact absurd (List.mem_filter.mpr ⟨List.mem_range.mpr h1, by simpa using q⟩) hb
    · exact Nat.lt_of_not_le q
  refine I.call' (ch := (List.range s.heap.objs.size).filter fun b => decide (L ≤ b)) ?_ ⟨fun b o e n hb hx => ?_, fun b o e n hb hx => ?_, fun b o e n hx => ?_, fun b o e hx => ?_, J.base.tups, J.base.frzs, J.base.tbls⟩ J.hok J.bare (fun b hb => ?_)
  · exact J.os
  · exact J.base.keep b o (old b o (lt b hx o e) e) n hb (hout b)
  · exact J.base.slot b o (old b o (lt b hx o e) e) n hb (hout b)
  · exact J.base.free b o (old b o (lt b hx o e) e) n (hout b)
  · exact J.base.there b o (old b o (lt b hx o e) e) (hout b)
  · have hL : L ≤ b := by simpa using (List.mem_filter.mp hb).2
    exact ⟨.inr (Nat.le_trans Yg.s0 hL), Nat.ne_of_gt (Nat.lt_of_lt_of_le Yg.lo hL), fun x c e => Nat.ne_of_lt (Nat.lt_of_lt_of_le (Yg.ce x c e) hL), fun p hp => Nat.ne_of_lt (Nat.lt_of_lt_of_le (Yg.pi p hp) hL)⟩
end
end K33G
/-! text Kg4 -/
set_option Elab.async false
set_option linter.all false
set_option maxRecDepth 100000
set_option maxHeartbeats 4000000
/-! ## a generator's body, statement by statement; the for that drives it -/
namespace K33G
open PySem PySem.Spec PyProof.Rows L2 GenW
abbrev Gh := Nat × Hp × Shared
/-- what is wanted behind a statement of a generator: i hand-outs so far, Hw the heap at the last waking -/
structure CoEnds where
  nx : Nat → Hp → L2.St → Hp → Prop
  rt : Nat → Hp → V → Hp → Prop
  bk : Nat → Hp → L2.St → Hp → Prop := fun _ _ _ _ => False
  ct : Nat → Hp → L2.St → Hp → Prop := fun _ _ _ _ => False
  yl : Nat → V → Hp → Prop
abbrev TCo := CoEnds → Nat → Hp → L2.St → Hp → Prop
def CoEnds.at (D : CoEnds) (i : Nat) (Hw : Hp) : Ends := { nx := D.nx i Hw, rt := D.rt i Hw, bk := D.bk i Hw, ct := D.ct i Hw }
def YC (C : Shared → Hp → Cx) (yl : Nat → V → Hp → Prop) : Gh → Value → Shared → (Gh → Shared → Prop) → Prop := fun q v s kap =>
  q.1 < sizeLine ∧ ∃ x σ H, Inv (C q.2.2 q.2.1) [] σ H s ∧ RelV x v ∧ yl q.1 x H ∧ ∀ s' H', Same H H' → Inv (C s' H') [] σ H' s' → kap (q.1 + 1, H', s') s'
def RC (C : Shared → Hp → Cx) (en : Nat → Hp → Prop) : Gh → Result → Shared → Prop := fun q r s => match r with
  | .ok (.ret u) => u = .none ∧ ∃ σ H, Inv (C q.2.2 q.2.1) [] σ H s ∧ en q.1 H
  | _ => False
def CoSP (C : Shared → Hp → Cx) (D : CoEnds) (i : Nat) (Hw : Hp) (sw : Shared) (fl : Flow) (s : Shared) : Prop := match fl with
  | .next => ∃ σ H, Inv (C sw Hw) [] σ H s ∧ D.nx i Hw σ H
  | .brk => ∃ σ H, Inv (C sw Hw) [] σ H s ∧ D.bk i Hw σ H
  | .cont => ∃ σ H, Inv (C sw Hw) [] σ H s ∧ D.ct i Hw σ H
  | .ret u => ∃ v σ H, Inv (C sw Hw) [] σ H s ∧ RelV v u ∧ D.rt i Hw v H
/-- where the generator's code stands -/
structure CoC (B : Around) (A : Around) (c : Code) (fs : List Frame) (gd : Bool → Bool) : Prop where
  over : A.over c fs = B
  split : splitAtGen fs = none
  guard : fs.any Frame.guarded = false
  gd : gd false = false
section
variable (X : Cx) (N : List Str) (qual : Str) (scope : Scope) (f : Addr) (cd : Value) (L : Addr) (go : Addr × Obj)
structure CoK (A : Around) (R : Gh → Result → Shared → Prop) (c : Code) (fs : List Frame) (K : Flow → Sem PySem.Fin) (D : CoEnds) : Prop where
  ok : ∀ (n i : Nat) (Hw : Hp) (sw s : Shared) (fl : Flow), n + i = sizeLine → CoSP (gcx X N qual scope f cd L go) D i Hw sw fl s → SegG (model X.prog X.w) A R (YC (gcx X N qual scope f cd L go) D.yl) n (i, Hw, sw) c (K fl) fs s
structure CoS (st : Stmt) (t : TCo) : Prop where
  run : ∀ (A : Around) (R : Gh → Result → Shared → Prop) (n i : Nat) (Hw : Hp) (sw : Shared) (c : Code) (fs : List Frame) (K : Flow → Sem PySem.Fin) (J : Value → Sem PySem.Fin) (gd : Bool → Bool) (lv : List Value → List Value) (s : Shared) (σ : L2.St) (H : Hp) (D : CoEnds),
    CoC (X.A.in1.deeper (envOfC qual scope L f cd)) A c fs gd → n + i = sizeLine → CoK X N qual scope f cd L go A R c fs K D → Inv (gcx X N qual scope f cd L go sw Hw) [] σ H s → t D i Hw σ H →
    SegG (model X.prog X.w) A R (YC (gcx X N qual scope f cd L go) D.yl) n (i, Hw, sw) c ((exec st (envOfC qual scope L f cd)).wrap K J gd lv) fs s
structure CoSs (sts : List Stmt) (t : TCo) : Prop where
  run : ∀ (A : Around) (R : Gh → Result → Shared → Prop) (n i : Nat) (Hw : Hp) (sw : Shared) (c : Code) (fs : List Frame) (K : Flow → Sem PySem.Fin) (J : Value → Sem PySem.Fin) (gd : Bool → Bool) (lv : List Value → List Value) (s : Shared) (σ : L2.St) (H : Hp) (D : CoEnds),
    CoC (X.A.in1.deeper (envOfC qual scope L f cd)) A c fs gd → n + i = sizeLine → CoK X N qual scope f cd L go A R c fs K D → Inv (gcx X N qual scope f cd L go sw Hw) [] σ H s → t D i Hw σ H →
    SegG (model X.prog X.w) A R (YC (gcx X N qual scope f cd L go) D.yl) n (i, Hw, sw) c ((execs sts (envOfC qual scope L f cd)).wrap K J gd lv) fs s
end
section
variable {X : Cx} {N : List Str} {qual : Str} {scope : Scope} {f : Addr} {cd : Value} {L : Addr} {go : Addr × Obj} {st : Stmt} {rest : List Stmt}
def coP (t : TS) : TCo := fun D i Hw σ H => t (D.at i Hw) σ H
theorem co_sp {D : CoEnds} {i : Nat} {Hw : Hp} {sw s : Shared} {fl : Flow} (h : SP (gcx X N qual scope f cd L go sw Hw) [] (D.at i Hw) fl s) : CoSP (gcx X N qual scope f cd L go) D i Hw sw fl s := by
  cases fl <;> exact h
/-- a statement that hands out nothing -/
theorem co_ps {t : TS} (h : ∀ s0 H0, PS (gcx X N qual scope f cd L go s0 H0) st t) : CoS X N qual scope f cd L go st (coP t) := by
  refine ⟨fun A R n i Hw sw c fs K J gd lv s σ H D g hn k I ht => sg_wrap ?_⟩
  rw [g.over]
  exact wpAny_mono ((h sw Hw).run [] s σ H (D.at i Hw) I ht) (fun fl s' q => k.ok n i Hw sw s' fl hn (co_sp q)) fun _ _ q => q
theorem co_pss {t : TS} (h : ∀ s0 H0, PSs (gcx X N qual scope f cd L go s0 H0) rest t) : CoSs X N qual scope f cd L go rest (coP t) := by
  refine ⟨fun A R n i Hw sw c fs K J gd lv s σ H D g hn k I ht => sg_wrap ?_⟩
  rw [g.over]
  exact wpAny_mono ((h sw Hw).run [] s σ H (D.at i Hw) I ht) (fun fl s' q => k.ok n i Hw sw s' fl hn (co_sp q)) fun _ _ q => q
def coNil : TCo := fun D i Hw σ H => D.nx i Hw σ H
theorem co_nil : CoSs X N qual scope f cd L go [] coNil :=
  ⟨fun A R n i Hw sw c fs K J gd lv s σ H D g hn k I ht => k.ok n i Hw sw s .next hn ⟨σ, H, I, ht⟩⟩
def coThen (t u : TCo) : TCo := fun D i Hw σ H => t { D with nx := fun i' Hw' σ' H' => u D i' Hw' σ' H' } i Hw σ H
theorem co_cons {t u : TCo} (a : CoS X N qual scope f cd L go st t) (b : CoSs X N qual scope f cd L go rest u) : CoSs X N qual scope f cd L go (st :: rest) (coThen t u) := by
  refine ⟨fun A R n i Hw sw c fs K J gd lv s σ H D g hn k I ht => sg_cons ?_⟩
  refine a.run A R n i Hw sw c fs _ J gd lv s σ H { D with nx := fun i' Hw' σ' H' => u D i' Hw' σ' H' } g hn ⟨fun n' i' Hw' sw' s' fl hn' q => ?_⟩ I ht
  cases fl with
  | next =>
    obtain ⟨σ', H', I', q⟩ := q
    exact b.run A R n' i' Hw' sw' c fs K J gd lv s' σ' H' D g hn' k I' q
  | brk => exact k.ok n' i' Hw' sw' s' .brk hn' q
  | cont => exact k.ok n' i' Hw' sw' s' .cont hn' q
  | ret u => exact k.ok n' i' Hw' sw' s' (.ret u) hn' q
theorem co_one {t : TCo} (a : CoS X N qual scope f cd L go st t) : CoSs X N qual scope f cd L go [st] (coThen t coNil) := co_cons a co_nil
def coIf (c : TT) (t u : TCo) : TCo := fun D i Hw σ H => c σ H fun b H1 => if b = true then t D i Hw σ H1 else u D i Hw σ H1
theorem co_if {test : Expr} {b1 b2 : List Stmt} {pos : Pos} {tc : TT} {t u : TCo} (hc : ∀ s0 H0, PT (gcx X N qual scope f cd L go s0 H0) test tc) (a : CoSs X N qual scope f cd L go b1 t) (b : CoSs X N qual scope f cd L go b2 u) :
    CoS X N qual scope f cd L go (.If test b1 b2 pos) (coIf tc t u) := by
  refine ⟨fun A R n i Hw sw c fs K J gd lv s σ H D g hn k I ht => sg_If ?_⟩
  rw [g.over]
  refine wpAny_mono ((hc sw Hw).run [] s σ H _ I ht) (fun d s' ⟨H1, I1, q⟩ => ?_) fun _ _ q => q
  cases d with
  | true => exact a.run A R n i Hw sw c fs K J gd lv s' σ H1 D g hn k I1 q
  | false => exact b.run A R n i Hw sw c fs K J gd lv s' σ H1 D g hn k I1 q
def coYield (te : TE) : TCo := fun D i Hw σ H => i < sizeLine ∧ te σ H fun x H1 => D.yl i x H1 ∧ ∀ H2, Same H1 H2 → D.nx (i + 1) H2 σ H2
theorem co_yield {e : Expr} {yp pos : Pos} {te : TE} (he : ∀ s0 H0, PE (gcx X N qual scope f cd L go s0 H0) e te) (hco : scope.isCoroutine = false := by rfl) (hi : interactive (envOfC qual scope L f cd) = false := by rfl) :
    CoS X N qual scope f cd L go (.Expr (.Yield (some e) yp) pos) (coYield te) := by
  refine ⟨fun A R n i Hw sw c fs K J gd lv s σ H D g hn k I ht => ?_⟩
  obtain ⟨hlt, ht⟩ := ht
  obtain ⟨n, rfl⟩ : ∃ m, n = m + 1 := ⟨n - 1, by omega⟩
  refine sg_ExprYield g.split g.gd g.guard ?_ hco hi
  rw [g.over]
  refine wpAny_mono ((he sw Hw).run [] s σ H _ I ht) (fun v s' ⟨x, H1, I1, rv, q2, q3⟩ => ?_) fun _ _ q => q
  refine ⟨hlt, x, σ, H1, I1, rv, q2, fun s2 H2 sm I2 => ?_⟩
  exact k.ok n (i + 1) H2 s2 s2 .next (by omega) ⟨σ, H2, I2, q3 H2 sm⟩
def coWhile (c : TT) (tb : TCo) : TCo := fun D i Hw σ H => ∃ W : Nat → Nat → Hp → L2.St → Hp → Prop, (∃ m, W m i Hw σ H) ∧ ∀ m i Hw σ H, W m i Hw σ H →
  c σ H fun b H1 => if b = true then ∃ Nx : Nat → Hp → L2.St → Hp → Prop, (∀ i' Hw' σ' H', Nx i' Hw' σ' H' → ∃ m', m' < m ∧ W m' i' Hw' σ' H') ∧ tb { D with nx := Nx, ct := Nx, bk := D.nx } i Hw σ H1 else D.nx i Hw σ H1
theorem coc_loop {B A : Around} {c c' : Code} {fs : List Frame} {gd : Bool → Bool} {k : Result → Sem PySem.Fin} {l kp : List Value} {p : Pos} (g : CoC B A c fs gd) (hw : c'.weight = 0) (hu : c'.cUnits = 0) :
    CoC B A c' (.ret k none (gd false) l c p kp :: fs) id where
  over := (over_loop hw hu).trans g.over
  split := ng_ret g.split
  guard := by
    show (gd false || fs.any Frame.guarded) = false
    rw [g.gd, g.guard]
    rfl
  gd := rfl
theorem co_while {test : Expr} {body : List Stmt} {pos : Pos} {tc : TT} {tb : TCo} (hc : ∀ s0 H0, PT (gcx X N qual scope f cd L go s0 H0) test tc) (hb : CoSs X N qual scope f cd L go body tb) : CoS X N qual scope f cd L go (.While test body [] pos) (coWhile tc tb) := by
  refine ⟨fun A R n i Hw sw c fs K J gd lv s σ H D g hn k I ht => ?_⟩
  obtain ⟨W, ⟨m0, w0⟩, turn⟩ := ht
  refine sg_While fun p => ?_
  have gl := fun (kk : Result → Sem PySem.Fin) => coc_loop (k := kk) (c' := .whileLoop test body [] (envOfC qual scope L f cd)) (l := lv []) (kp := []) (p := p) g rfl rfl
  have loop : ∀ (m n i : Nat) (Hw : Hp) (sw s : Shared) (σ : L2.St) (H : Hp), n + i = sizeLine → W m i Hw σ H → Inv (gcx X N qual scope f cd L go sw Hw) [] σ H s →
      SegG (model X.prog X.w) A R (YC (gcx X N qual scope f cd L go) D.yl) n (i, Hw, sw) (.whileLoop test body [] (envOfC qual scope L f cd)) ((model X.prog X.w).den (.whileLoop test body [] (envOfC qual scope L f cd)))
        (.ret (fun r => ((match r with | .ok f => (.pure f : Sem Flow) | .error e => .raise e).onRaise fun (x : Value) => do
          if (← field x 1) == Value.none then unsupported "frame.own-activation:exception-without-traceback"
          setFlight x (envOfC qual scope L f cd).frame).wrap K J gd lv) none (gd false) (lv []) c p [] :: fs) s := by
    intro m
    induction m using Nat.strongRecOn with
    | ind m ih =>
      intro n i Hw sw s σ H hn w I
      refine sg_loop (J1 := .raise) ?_
      rw [(gl _).over]
      refine wpAny_mono ((hc sw Hw).run [] s σ H _ I (turn m i Hw σ H w)) (fun b s' ⟨H2, I2, q2⟩ => ?_) fun _ _ q => q
      cases b with
      | true =>
        rw [if_pos rfl] at q2
        obtain ⟨Nx, hN, q2⟩ := q2
        rw [if_pos rfl]
        intro J1
        refine hb.run A R n i Hw sw _ _ _ J1 id id s' σ H2 { D with nx := Nx, ct := Nx, bk := D.nx } (gl _) hn ⟨fun n' i' Hw' sw' s3 fl hn' q => ?_⟩ I2 q2
        cases fl with
        | next =>
          obtain ⟨σ3, H3, I3, n3⟩ := q
          obtain ⟨m', hm, w3⟩ := hN i' Hw' σ3 H3 n3
          exact sg_again rfl (ih m' hm n' i' Hw' sw' s3 σ3 H3 hn' w3 I3)
        | cont =>
          obtain ⟨σ3, H3, I3, n3⟩ := q
          obtain ⟨m', hm, w3⟩ := hN i' Hw' σ3 H3 n3
          exact sg_again rfl (ih m' hm n' i' Hw' sw' s3 σ3 H3 hn' w3 I3)
        | brk => exact sg_leaf (.ok .next) (k.ok n' i' Hw' sw' s3 .next hn' q)
        | ret v => exact sg_leaf (.ok (.ret v)) (k.ok n' i' Hw' sw' s3 (.ret v) hn' q)
      | false =>
        rw [if_neg Bool.false_ne_true] at q2
        rw [if_neg Bool.false_ne_true]
        exact sg_leaf (.ok .next) (k.ok n i Hw sw s' .next hn ⟨σ, H2, I2, q2⟩)
  exact loop m0 n i Hw sw s σ H hn w0 I
/-- the whole body: en tells of its end -/
theorem co_run {body : List Stmt} {t : TCo} {A : Around} {n i : Nat} {Hw : Hp} {sw s : Shared} {σ : L2.St} {H : Hp} {yl : Nat → V → Hp → Prop} {en : Nat → Hp → Prop} (h : CoSs X N qual scope f cd L go body t) (hA : A = X.A.in1) (hn : n + i = sizeLine) (I : Inv (gcx X N qual scope f cd L go sw Hw) [] σ H s)
    (ht : t { nx := fun i Hw _ H' => en i H', rt := fun i Hw v H' => v = .non ∧ en i H', yl := yl } i Hw σ H) :
    SegG (model X.prog X.w) A (RC (gcx X N qual scope f cd L go) en) (YC (gcx X N qual scope f cd L go) yl) n (i, Hw, sw) (.func body (envOfC qual scope L f cd)) ((model X.prog X.w).den (.func body (envOfC qual scope L f cd))) [] s := by
  subst hA
  refine sg_func fun J => ?_
  refine h.run X.A.in1 _ n i Hw sw _ [] _ J id id s σ H { nx := fun i Hw _ H' => en i H', rt := fun i Hw v H' => v = .non ∧ en i H', yl := yl } ⟨over_func, rfl, rfl, rfl⟩ hn ⟨fun n' i' Hw' sw' s' fl hn' q => ?_⟩ I ht
  cases fl with
  | next =>
    obtain ⟨σ', H', I', q2⟩ := q
    exact sg_end (.ok (.ret .none)) ⟨rfl, σ', H', I', q2⟩
  | brk => obtain ⟨_, _, _, q⟩ := q; exact q.elim
  | cont => obtain ⟨_, _, _, q⟩ := q; exact q.elim
  | ret u =>
    obtain ⟨v, σ', H', I', rv, ev, q2⟩ := q
    subst ev
    have eu : u = Value.none := rv
    subst eu
    exact sg_end (.ok (.ret .none)) ⟨rfl, σ', H', I', q2⟩
end
end K33G
/-! text Kg5 -/
set_option Elab.async false
set_option linter.all false
set_option maxRecDepth 100000
set_option maxHeartbeats 4000000
namespace K33G
open PySem PySem.Spec PyProof.Rows L2 GenW
/-! ### one waking -/
def GenGo {ι : Type} (M : Model) (A : Around) (R : ι → Result → Shared → Prop) (Y : ι → Value → Shared → (ι → Shared → Prop) → Prop) (n : Nat) (q : ι) (gs : GenState) (s : Shared) : Prop :=
  match gs with
  | .fresh c => SegG M A R Y n q c (M.den c) [] s
  | .suspended k _ c _ fs _ => SegG M A R Y n q c (k (.send .none)) fs s
  | _ => False
def GenNx {ι : Type} (M : Model) (A : Around) (R : ι → Result → Shared → Prop) (Y : ι → Value → Shared → (ι → Shared → Prop) → Prop) (n : Nat) (gs : GenState) (q : ι) (s : Shared) : Prop :=
  match n with
  | 0 => False
  | m + 1 => GenGo M A R Y m q gs s
section
variable {ι : Type} {M : Model} {A : Around} {R : ι → Result → Shared → Prop} {Y : ι → Value → Shared → (ι → Shared → Prop) → Prop} {n : Nat} {q : ι} {s : Shared}
theorem wake_up {E : Value → Shared → Prop} {g : Nat} {gs : GenState} {l : List Value} {α : Type} {k : GenResult → Sem α} {Q : α → Shared → Prop} (hg : s.gens[g]? = some gs) (hgo : GenGo M A R Y n q gs (s.setGen g .running))
    (hR : ∀ x s₁, R q x s₁ → wpAny M A (k (End.ret x).result) Q E (s₁.setGen g .finished))
    (hY : ∀ v s₁ gs', gs'.bare = true → isSusp gs' = true → Y q v s₁ (GenNx M A R Y n gs') → wpAny M A (k (.yielded v)) Q E (s₁.setGen g gs')) :
    wpAny M A (.resume g (.send .none) l k) Q E s := by
  intro Γ p hΓ
  rw [Sem.wp_resume]
  have fin : ∀ e₁ s₁, EndG R Y q (nextG M A R Y n) e₁ s₁ → Sem.wp M Γ (k e₁.result) (fun a _ s' => Q a s') (fun e _ s' => E e s') p (s₁.setGen g e₁.genState) ∧ e₁.quiet = true := by
    intro e₁ s₁ he
    cases e₁ with
    | ret x => exact ⟨hR x s₁ he Γ p hΓ, rfl⟩
    | susp v g₀ l₀ k₀ c₀ p₀ fs₀ =>
      obtain ⟨h1, h2⟩ := he
      refine ⟨hY v s₁ _ (End.bare_of_quiet h1) rfl ?_ Γ p hΓ, h1⟩
      cases n with
      | zero => exact h2
      | succ m => exact h2
  cases gs with
  | fresh c =>
    obtain ⟨e₁, s₁, hr, he⟩ := segG_iff.mp hgo (Γ.wake c p) p rfl (hΓ.wake c p)
    exact ⟨_, _, by unfold Wakes; rw [hg]; exact ⟨e₁, s₁, hr, (fin e₁ s₁ he).2, rfl, rfl⟩, (fin e₁ s₁ he).1⟩
  | suspended k₀ l₀ c₀ p₀ fs₀ cl =>
    obtain ⟨e₁, s₁, hr, he⟩ := segG_iff.mp hgo (Γ.wake c₀ p) p₀ rfl (hΓ.wake c₀ p)
    exact ⟨_, _, by unfold Wakes; rw [hg]; exact ⟨e₁, s₁, hr, (fin e₁ s₁ he).2, rfl, rfl⟩, (fin e₁ s₁ he).1⟩
  | running => exact hgo.elim
  | finished => exact hgo.elim
end
theorem next_co {P : Program} {w : World} {ι : Type} {A : Around} {E : Value → Shared → Prop} {R : ι → Result → Shared → Prop} {Y : ι → Value → Shared → (ι → Shared → Prop) → Prop} {n : Nat} {q : ι} {s : Shared} {a : Addr} {g : Nat} {gs : GenState} {Q : Option Value → Shared → Prop}
    (hh : A.handled = none) (hl : s.heap.NoLimit) (hroom : A.depth < recursionLimit) (hg : s.heap.IsGen a g) (hgs : s.gens[g]? = some gs) (hgo : GenGo (model P w) A.in1 R Y n q gs (s.setGen g .running))
    (hY : ∀ v s₁ gs', gs'.bare = true → isSusp gs' = true → Y q v s₁ (GenNx (model P w) A.in1 R Y n gs') → Q (some v) (s₁.setGen g gs'))
    (hR : ∀ r s₁, R q r s₁ → r = .ok (.ret .none) ∧ ∀ h', (∀ b o, s₁.heap.get? b = some o → h'.get? b = some o) → Q none { s₁.setGen g .finished with heap := h' }) :
    wpAny (model P w) A (pyNext (.ref a)) Q E s := by
  unfold pyNext
  refine wpAny_bind (wpAny_attempt (wpAny_callSpecial?_slot (name := Str.ofString "__next__") hg.typeIs slot_gen_next (wpAny_call_entry slot_gen_next hg.typeIs entry_gen_next ?_ (args_gen_next _))))
  show wpAny _ A.in1 (Builtin.Generator.genWake (.ref a) (.send .none)) _ _ s
  unfold Builtin.Generator.genWake
  refine wpAny_bind (wpAny_holding (wpAny_genNumber hg (wpAny_bind (wpAny_genState hgs ?_))))
  cases gs with
  | running => exact hgo.elim
  | finished => exact hgo.elim
  | _ =>
    refine wpAny_bind (wpAny_roomToWake hl hroom ?_)
    show wpAny _ A.in1 (.resume g (.send .none) [] _) _ _ s
    refine wake_up hgs hgo (fun x s₁ hx => ?_) (fun v s₁ gs' hb hsu hv => ?_)
    · obtain ⟨rfl, hp⟩ := hR x s₁ hx
      show wpAny _ A.in1 (newExc (.type "StopIteration") [] >>= _) _ _ _
      refine wpAny_bind ?_
      simp only [newExc, newTuple]
      refine wpAny_bind (wpAny_newObj_type ?_ (by size_fits))
      refine wpAny_bind (m := firstArgMember _ _) (wpAny_of_eq (a := Value.none) (by first | rfl | (simp only [firstArgMember]; rfl)) ?_)
      refine wpAny_newObj_type ?_ (by size_fits)
      simp only [raiseNew]
      refine wpAny_bind (wpAny_bind (wpAny_handled ?_))
      first | rw [show A.in1.handled = none from hh] | rw [hh]
      refine wpAny_throw ?_
      refine wpAny_bind (wpAny_isInstance (T := "StopIteration") (b := true) ⟨_, Heap.get?_push_size _ rfl, rfl⟩ isSubtype_stop ?_)
      exact wpAny_pure (hp _ fun b o hb => Heap.get?_push_of_some _ (Heap.get?_push_of_some _ hb))
    · exact wpAny_pure ⟨v, rfl, wpAny_pure (hY v s₁ gs' hb hsu hv)⟩
/-! ### a generator def's promise -/
/-- arguments, heap, what it hands out by turn, its end -/
abbrev SpC := List V → Hp → (Nat → V → Hp → Prop) → (Nat → Hp → Prop) → Prop
structure CoOk (P : Program) (w : World) (K : PySem.W.Frag) (mg : Str → Option Value) (base : Heap) (k : Nat) (x : Str) (ps N : List Str) (st : Stmt) (sp : SpC) : Prop where
  def_ : ∃ f fd, FunD K x x (defArgs st) (defBody st) (defScope st) [] [] f fd ∧ mg x = some (.ref f) ∧ Binds K fd ps []
  scope : GScope N ps (defScope st)
  plain : plainNames (defScope st) = true
  len : ∀ vs H yl en, sp vs H yl en → vs.length = ps.length
  body : ∀ (X : Cx) (f : Addr) (cd : Value) (L : Addr) (go : Addr × Obj) (vs : List V) (H : Hp) (yl : Nat → V → Hp → Prop) (en : Nat → Hp → Prop), X.prog = P → X.w = w → X.K = K → X.mg = mg → X.base = base → Room k (X.A.in1.deeper (envOfC x (defScope st) L f cd)) → sp vs H yl en →
    ∃ t, CoSs X N x (defScope st) f cd L go (defBody st) t ∧ ∀ Hw, Same H Hw → t { nx := fun i Hw _ H' => en i H', rt := fun i Hw v H' => v = .non ∧ en i H', yl := yl } 0 Hw (start N vs) Hw
/-! ### the for over it -/
/-- W: the consumer's word by the turn; yl: what is handed out; en: the end -/
def tForCo (sp : SpC) (ta : TA) (g : TG) (tb : TS) : TS := fun D σ H => ta σ H fun vs H1 => ∃ (yl : Nat → V → Hp → Prop) (en : Nat → Hp → Prop) (W : Nat → L2.St → Hp → Prop), sp vs H1 yl en ∧ W 0 σ H1 ∧ ∀ i σ H, W i σ H →
  (∀ x H', yl i x H' → g x σ H' fun σ2 H2 => tb { D with nx := fun σ' H3 => Same H' H3 ∧ W (i + 1) σ' H3, ct := fun σ' H3 => Same H' H3 ∧ W (i + 1) σ' H3, bk := D.nx } σ2 H2) ∧ (∀ H', en i H' → D.nx σ H')
theorem swap2 {M : Model} {A : Around} {α β : Type} {t : Sem α} {u : α → Sem β} {Q : β → Shared → Prop} {E : Value → Shared → Prop} {s : Shared} (h : wpAny M A t (fun x s1 => wpAny M A (u x) Q E s1) E { s with gens := s.gens.map dm }) :
    wpAny M A t (fun x b1 => wpAny M A (u x) (fun y b => ∃ a, Rel s.gens a b ∧ Q y a) (fun y b => ∃ a, Rel s.gens a b ∧ E y a) b1) (fun y b => ∃ a, Rel s.gens a b ∧ E y a) s :=
  wpAny_mono (swap_any h) (fun x b ⟨a, r, q⟩ Γ p hΓ => swap_wp (u x) (fun a _ s' => Q a s') (fun e _ s' => E e s') p a b r (q Γ p hΓ)) fun _ _ q => q
theorem setGen_heap (s : Shared) (g : Nat) (x : GenState) : (s.setGen g x).heap = s.heap := rfl
section
variable {X : Cx} {k : Nat} {x : Str} {ps N : List Str} {st : Stmt} {sp : SpC} {tg e : Expr} {es : List Expr} {body : List Stmt} {p pos pos' : Pos} {ta : TA} {g : TG} {tb : TS}
/-- the consumer's state ahead of a waking -/
structure Head (X : Cx) (pins : List (Addr × Obj)) (N : List Str) (x : Str) (st : Stmt) (f : Addr) (cd : Value) (L ga : Addr) (go : Obj) (gn : Nat) (yl : Nat → V → Hp → Prop) (en : Nat → Hp → Prop) (W : Nat → L2.St → Hp → Prop) (m : Nat) (s : Shared) : Prop where
  ex : ∃ (i : Nat) (σ σg : L2.St) (H Hy : Hp) (gs : GenState), m + i = sizeLine ∧ Inv X pins σ H s ∧ W i σ H ∧ H L = none ∧ s.heap.get? ga = some go ∧ H ga = none ∧ Naps N (defScope st) L σg s.heap ∧ σg.length = N.length ∧ Same Hy H ∧ s.gens[gn]? = some gs ∧
    ∀ (s2 : Shared) (H2 : Hp), Same Hy H2 → Inv (gcx X N x (defScope st) f cd L (ga, go) s2 H2) [] σg H2 s2 →
      GenGo (model X.prog X.w) X.A.in1 (RC (gcx X N x (defScope st) f cd L (ga, go)) en) (YC (gcx X N x (defScope st) f cd L (ga, go)) yl) m (i, H2, s2) gs s2
theorem naps_obj {N : List Str} {scope : Scope} {L : Addr} {σ : L2.St} {h : Heap} (n : Naps N scope L σ h) : ∃ o, h.get? L = some o ∧ ∀ v, o.data ≠ .cell v := by
  obtain ⟨m, ⟨o, es, ep, ho, hd, _⟩, _⟩ := n
  exact ⟨o, ho, fun v z => by rw [hd] at z; cases z⟩
end
end K33G
/-! text Kg6 -/
set_option Elab.async false
set_option linter.all false
set_option maxRecDepth 100000
set_option maxHeartbeats 4000000
namespace K33G
open PySem PySem.Spec PyProof.Rows L2 GenW
section
variable {X : Cx} {k : Nat} {x : Str} {ps N : List Str} {st : Stmt} {sp : SpC} {tg e : Expr} {es : List Expr} {body : List Stmt} {p pos pos' : Pos} {ta : TA} {g : TG} {tb : TS}
theorem loop_co {pins : List (Addr × Obj)} {D : Ends} {f L ga : Addr} {cd : Value} {go : Obj} {gn : Nat} {yl : Nat → V → Hp → Prop} {en : Nat → Hp → Prop} {W : Nat → L2.St → Hp → Prop} {m : Nat} {s : Shared}
    {R : Result → Shared → Prop} (hR : ∀ fl s', SP X pins D fl s' → R (.ok fl) s') (hx : ∀ e s, ¬ X.xe e s) (hc : X.calm = true) (hroom : X.A.depth < recursionLimit) (hgT : PG X tg g) (hb : PSs X body tb)
    (hkd : (defScope st).kind = .function) (hpl : plainNames (defScope st) = true) (Yg : Young X pins L ga go gn) (hgc : go.cls = .type "generator") (hgd : ∃ vs, go.data = .fields vs) (hnl : L ∉ frs X.stack ∧ L ≠ X.env.locals)
    (turn : ∀ i σ H, W i σ H → (∀ x H', yl i x H' → g x σ H' fun σ2 H2 => tb { D with nx := fun σ' H3 => Same H' H3 ∧ W (i + 1) σ' H3, ct := fun σ' H3 => Same H' H3 ∧ W (i + 1) σ' H3, bk := D.nx } σ2 H2) ∧ (∀ H', en i H' → D.nx σ H'))
    (h : Head X pins N x st f cd L ga go gn yl en W m s) :
    codeAny (model X.prog X.w) X.A (.forLoop tg (.ref ga) body [] X.env) R s := by
  refine codeAny_forLoop_any (fun m s' => Head X pins N x st f cd L ga go gn yl en W m s') ?_ m h
  rintro m s ⟨i, σ, σg, H, Hy, gs, hm, I, w, hL, hga, hgn, naps, hlen, smy, hgs, hgo⟩
  obtain ⟨t1, t2⟩ := turn i σ H w
  have hh : X.A.handled = none := I.ok.hd hc
  have hgz : gn < s.gens.size := (Array.getElem?_eq_some_iff.mp hgs).1
  have Ir : Inv X pins σ H (s.setGen gn .running) := inv_gens I (allBare_setGen I.bare rfl)
  have Jr := wake_inv (f := f) (qual := x) (cd := cd) hkd hpl (show X.A.in1.handled = none from hh) Yg Ir naps hL hga hgn hlen
  refine (wpAny_gsz (n := gn + 1) hgz (next_co hh I.nolimit hroom (Yg.isg _ hga) hgs (hgo (s.setGen gn .running) H smy Jr) (fun v s₁ gs' hbare hsus hy => ?_) fun r s₁ hr => ?_))
  · intro hsz
    obtain ⟨hi, y, σg', H', J, rv, hyl, hk⟩ := hy
    obtain ⟨m, rfl⟩ : ∃ q, m = q + 1 := ⟨m - 1, by
      have : i < sizeLine := hi
      omega⟩
    have naps' := naps_of hpl J
    have IB : Inv X pins σ H' (s₁.setGen gn gs') := inv_gens (back_inv Yg Ir J) (allBare_setGen J.bare hbare)
    have hga' : s₁.heap.get? ga = some go ∧ H' ga = none := by
      have q := J.pin (ga, go) (List.mem_append_left _ (List.mem_singleton.mpr rfl))
      exact ⟨q.1, q.2.1⟩
    have hL' : H' L = none := J.free
    obtain ⟨oL, hoL, hoc⟩ := naps_obj naps'
    have hgz' : gn < s₁.gens.size := by
      have q : (s₁.setGen gn gs').gens.size = s₁.gens.size := setGen_size _ _ _
      have q2 : gn + 1 ≤ (s₁.setGen gn gs').gens.size := hsz
      omega
    have hgs' : (s₁.setGen gn gs').gens[gn]? = some gs' := setGen_at hgz'
    -- what the consumer's code leaves alone
    have IP : Inv X (pins ++ [(L, oL), (ga, go)]) σ H' { s₁.setGen gn gs' with gens := (s₁.setGen gn gs').gens.map dm } := by
      refine inv_gens (IB.pins_of fun q hq => ?_) (bare_map IB.bare)
      rcases List.mem_append.mp hq with z | z
      · exact IB.pin q (List.mem_append_right _ z)
      · rcases List.mem_cons.mp z with z | z
        · rw [z]
          exact ⟨hoL, hL', hnl.2, fun q => hnl.1 (by
            rcases IB.ok.stk with e | ⟨e, _⟩
            · rw [e]; exact q
            · rw [e]
              show L ∈ frs (X.env :: X.outer)
              unfold frs
              rw [List.filterMap_cons]
              split
              · exact q
              · exact List.mem_cons_of_mem _ q), hoc⟩
        · rw [List.mem_singleton.mp z]
          exact ⟨hga'.1, hga'.2, Nat.ne_of_gt (Nat.lt_trans Yg.lo Yg.ga_), fun q => by
            have q2 : ga ∈ frs X.stack := by
              rcases IB.ok.stk with e | ⟨e, _⟩
              · rw [e]; exact q
              · rw [e]
                show ga ∈ frs (X.env :: X.outer)
                unfold frs
                rw [List.filterMap_cons]
                split
                · exact q
                · exact List.mem_cons_of_mem _ q
            exact absurd (Yg.fr ga q2) (Nat.not_lt_of_le (Nat.le_of_lt Yg.ga_)), Yg.da⟩
    obtain ⟨vs, hvs⟩ := hgd
    show wpAny _ _ (letOwnedTupleGo tg (.ref ga) v) _ _ _
    refine go_of (s := s₁.setGen gn gs') (n := "generator") hga'.1 hgc hvs (by decide) ?_
    have z : wpAny (model X.prog X.w) X.A (assign tg X.env v) (fun _ s2 => wpAny (model X.prog X.w) X.A (execs body X.env) (SP X (pins ++ [(L, oL), (ga, go)]) { D with nx := fun σ' H3 => Same H' H3 ∧ W (i + 1) σ' H3, ct := fun σ' H3 => Same H' H3 ∧ W (i + 1) σ' H3, bk := D.nx }) X.xe s2) X.xe { s₁.setGen gn gs' with gens := (s₁.setGen gn gs').gens.map dm } :=
      thn (hgT.run _ _ σ H' y v _ IP rv (t1 y H' hyl)) fun _ s2 ⟨σ2, H2, I2, q2⟩ => hb.run _ s2 σ2 H2 _ I2 q2
    have again : ∀ {a b : Shared} {σ3 : L2.St} {H3 : Hp}, Rel (s₁.setGen gn gs').gens a b → Inv X (pins ++ [(L, oL), (ga, go)]) σ3 H3 a → Same H' H3 → W (i + 1) σ3 H3 → Head X pins N x st f cd L ga go gn yl en W m b := fun {a b σ3 H3} r I3 sm3 w3 => by
      have Ib : Inv X (pins ++ [(L, oL), (ga, go)]) σ3 H3 b := by
        obtain ⟨G, rfl⟩ := r.ex
        exact inv_gens I3 (r.bare IB.bare I3.bare)
      have pL := Ib.pin (L, oL) (List.mem_append_right _ (List.mem_append_right _ List.mem_cons_self))
      have pg := Ib.pin (ga, go) (List.mem_append_right _ (List.mem_append_right _ (List.mem_cons_of_mem _ List.mem_cons_self)))
      exact ⟨i + 1, σ3, σg', H3, H', gs', by omega, Ib.unpinned, w3, pL.2.1, pg.1, pg.2.1, naps'.at (by rw [pL.1, hoL]), J.len, sm3, r.asleep hgs' hsus, fun s2 H2 sm2 J2 => hk s2 H2 sm2 J2⟩
    have fin : ∀ {a b : Shared} {fl : Flow}, Rel (s₁.setGen gn gs').gens a b → SP X (pins ++ [(L, oL), (ga, go)]) { D with nx := fun σ' H3 => Same H' H3 ∧ W (i + 1) σ' H3, ct := fun σ' H3 => Same H' H3 ∧ W (i + 1) σ' H3, bk := D.nx } fl a →
        match fl with
        | .next | .cont => ∃ m', m' < m + 1 ∧ Head X pins N x st f cd L ga go gn yl en W m' b
        | .brk => R (.ok .next) b
        | .ret u => R (.ok (.ret u)) b := fun {a b fl} r q => by
      have up : ∀ {σ3 H3}, Inv X (pins ++ [(L, oL), (ga, go)]) σ3 H3 a → Inv X pins σ3 H3 b := fun {σ3 H3} I3 => by
        obtain ⟨G, rfl⟩ := r.ex
        exact (inv_gens I3 (r.bare IB.bare I3.bare)).unpinned
      cases fl with
      | next =>
        obtain ⟨σ3, H3, I3, sm3, w3⟩ := q
        exact ⟨m, Nat.lt_succ_self m, again r I3 sm3 w3⟩
      | cont =>
        obtain ⟨σ3, H3, I3, sm3, w3⟩ := q
        exact ⟨m, Nat.lt_succ_self m, again r I3 sm3 w3⟩
      | brk =>
        obtain ⟨σ3, H3, I3, q⟩ := q
        exact hR .next b ⟨σ3, H3, up I3, q⟩
      | ret u =>
        obtain ⟨v3, σ3, H3, I3, r3, q⟩ := q
        exact hR (.ret u) b ⟨v3, σ3, H3, up I3, r3, q⟩
    refine wpAny_mono (swap2 (s := s₁.setGen gn gs') (u := fun _ => execs body X.env) z) (fun _ b1 h1 => wpAny_mono h1 (fun fl b ⟨a, r, q⟩ => ?_) fun e b ⟨a, r, q⟩ => absurd q (hx _ _)) fun e b ⟨a, r, q⟩ => absurd q (hx _ _)
    have q2 := fin r q
    cases fl <;> exact q2
  · cases r with
    | error e => exact hr.elim
    | ok fl =>
      cases fl with
      | next => exact hr.elim
      | brk => exact hr.elim
      | cont => exact hr.elim
      | ret u =>
        obtain ⟨rfl, σg', H', J, hen⟩ := hr
        refine ⟨rfl, fun h' hk _ => ?_⟩
        have IB : Inv X pins σ H' s₁ := back_inv Yg Ir J
        have I2 : Inv X pins σ H' { s₁.setGen gn .finished with heap := h' } := (inv_gens IB (allBare_setGen (x := GenState.finished) IB.bare rfl)).kept (t' := s₁.toks) hk
        exact wpAny_execs_nil (hR .next _ ⟨σ, H', I2, t2 H' hen⟩)
/-- THE RULE: for target in f(e, ..): body, f a generator def -/
theorem ps_forCo (hx : ∀ e s, ¬ X.xe e s) (hc : X.calm = true) (hst : X.stack = X.env :: X.outer ∧ X.env.frame = some X.env.locals) (F : CoOk X.prog X.w X.K X.mg X.base k x ps N st sp) (hr : Room (k + 2) X.A) (ha : PA X (e :: es) ta) (hgT : PG X tg g) (hb : PSs X body tb)
    (hg : Gl X x := by rfl) (hdb : (x == ("__debug__" : Str)) = false := by decide) (he : starEach (e :: es) X.env = (false, eval e X.env) :: starEach es X.env := by rfl) (hpl : (backTo pos' (starEach es X.env)).any (·.1) = false := by rfl)
    (hs : ∀ v, foldedSetIterable (.Call (.Name x p) (e :: es) [] pos') X.env v = pure v := by intro _; rfl) :
    PS X (.For tg (.Call (.Name x p) (e :: es) [] pos') body [] pos) (tForCo sp ta g tb) := by
  refine ⟨fun pins s σ H D I h => ?_⟩
  obtain ⟨f, fd, FD, gm, bd⟩ := F.def_
  obtain ⟨oc, od, dV, kV, doc, pm, an, cdv, ct, osl, rfl, lk, hcd, _, _⟩ := FD.ex
  refine wpAny_For ?_ hs
  refine wpAny_Call_Name_kw (ld_glob I hg gm ?_ hdb)
  refine PySem.W.callWith_K (h₀ := X.base) I.ok.mod.kin FD.kp (thn (ha.run pos' pins s σ H _ I h) fun us s1 ⟨vs, H1, I1, r, yl, en, W, hsp, w0, turn⟩ => ⟨I1.kIn, ?_⟩) he hpl
  have e0 := I1.env0
  have hlv := F.len _ _ _ _ hsp
  have hlu : us.length = ps.length := by rw [← r.length]; exact hlv
  have bt : BindsTo s1 (PySem.W.fnOf x x (defArgs st) (defBody st) (defScope st) dV kV doc pm an cdv ct) ⟨us, []⟩ (ps.zip us) := by
    have q := bd s1 us I1.kIn (by rw [List.append_nil]; exact hlu)
    rw [List.append_nil] at q
    exact q
  have lim : s1.heap.NoLimit := I1.nolimit
  have hkind : ∀ y ∈ ps.zip us, (defScope st).names.lookup y.1 = some .local ∨ ((defScope st).names.lookup y.1 = some .cell ∧ ((cellsFrom (s1.heap.objs.size + 1) (defScope st).names []).lookup y.1).isSome = true) := fun ⟨n, v⟩ hy => by
    rcases F.scope.par n (List.of_mem_zip hy).1 with q | q
    · exact .inl q
    · exact .inr ⟨q, PySem.W.cellsFrom_some _ _ _ (.inl q)⟩
  refine wpAny_call (codeAny_call_generator (by have := hr.dp; show X.A.depth < _; omega) (I1.kIn _ _ lk) rfl F.scope.co F.scope.gen rfl (PySem.W.codeRec_of I1.kIn hcd) (bt _ _ _ _ ?_))
  refine wpAny_newFunctionEnv_cells F.scope.kind hkind fun env he2 s2 xx => ?_
  subst he2
  refine ⟨lim.keeps xx.toInCall.keep, ?_⟩
  have J0 := inv_startG (qual := x) (cd := cdv) (f := f) (E := fun _ _ _ => False) F.scope (show X.A.handled = none from I1.ok.hd hc) e0 hlv r xx
  obtain ⟨h2, tk, es2, hk2⟩ := xx.done
  have naps0 : Naps N (defScope st) s1.heap.objs.size (start N vs) s2.heap := by
    obtain ⟨m, hn, q⟩ := J0.loc
    refine ⟨m, hn, fun i y v e1 e2 e3 => ?_⟩
    obtain ⟨u, ru, l⟩ := q i y v e1 e2 e3
    refine ⟨u, ru, ?_⟩
    rcases l with ⟨k, e⟩ | ⟨k, _⟩
    · exact ⟨k, e⟩
    · rcases k with k | k
      · exact absurd k (plain_lookup F.plain y).1
      · exact absurd k (plain_lookup F.plain y).2
  have lt2 : s1.heap.objs.size < s2.heap.objs.size := xx.toInCall.ns.lt
  have gen2 : s2.gens = s1.gens := by rw [es2]
  have main : ∀ (go : Obj) (tk2 : Nat), go.cls = .type "generator" → (∃ nm qn, go.data = .fields #[.int s2.gens.size 0, nm, qn]) → go.slots = #[] → (∀ h : Heap, (h.push go).get? h.objs.size = some go) →
      wpAny (model X.prog X.w) X.A (pyIter (.ref s2.heap.objs.size)) (fun it s₂ => codeAny (model X.prog X.w) X.A (.forLoop tg it body [] X.env) (fun r s' => match r with | .ok f => SP X pins D f s' | .error e => cameBackBy (model X.prog X.w) X.A X.env X.xe e s') s₂) X.xe
        { s2 with gens := s2.gens.push (.fresh (.func (defBody st) (envOfC x (defScope st) s1.heap.objs.size f cdv))), toks := tk2, heap := s2.heap.push go } := by
    intro go tk2 hgc hgd hgs hgp
    have hpush := hgp s2.heap
    have isg : ∀ h : Heap, h.get? s2.heap.objs.size = some go → h.IsGen s2.heap.objs.size s2.gens.size := fun h e => by
      obtain ⟨nm, qn, hd⟩ := hgd
      exact ⟨go, nm, qn, e, hgc, hd, hgs⟩
    refine wpAny_pyIter_gen (g := s2.gens.size) (isg _ hpush) ?_
    have kp : ∀ b o, s1.heap.get? b = some o → (s2.heap.push go).get? b = some o := fun b o e => Heap.get?_push_of_some _ (xx.toInCall.keep b o e)
    have I3 : Inv X pins σ H1 { s2 with gens := s2.gens.push (.fresh (.func (defBody st) (envOfC x (defScope st) s1.heap.objs.size f cdv))), toks := tk2, heap := s2.heap.push go } := by
      subst es2
      exact inv_gens (I1.kept (h' := h2.push go) (t' := tk2) kp) (AllBare.push I1.bare rfl)
    have frl : ∀ b ∈ frs X.stack, b < s1.heap.objs.size := fun b hb => by
      obtain ⟨_, o, ho, _⟩ := I1.stack.mem hb
      exact Heap.lt_size ho
    have cel : ∀ y c, X.env.cells.lookup y = some c → c < s1.heap.objs.size := fun y c e => by
      obtain ⟨v, q⟩ := I1.cell y c e
      exact q.lt
    have Yg : Young X pins s1.heap.objs.size s2.heap.objs.size go s2.gens.size := ⟨frl, I1.sz, I1.lt, cel, fun q hq => Heap.lt_size (I1.pin q hq).1, lt2, fun v z => (by
      obtain ⟨nm, qn, hd⟩ := hgd
      rw [hd] at z
      cases z), isg⟩
    have hga3 : (s2.heap.push go).get? s2.heap.objs.size = some go := hpush
    refine loop_co (R := fun r s' => match r with | .ok f => SP X pins D f s' | .error e => cameBackBy (model X.prog X.w) X.A X.env X.xe e s') (x := x) (st := st) (N := N) (f := f) (cd := cdv) (yl := yl) (en := en) (W := W) (m := sizeLine) (fun fl s' q => q) hx hc (by have := hr.dp; show X.A.depth < _; omega) hgT hb F.scope.kind F.plain Yg hgc (by
      obtain ⟨nm, qn, hd⟩ := hgd
      exact ⟨_, hd⟩) ⟨fun z => absurd (frl _ z) (Nat.lt_irrefl _), Nat.ne_of_gt I1.lt⟩ turn ?_
    refine ⟨0, σ, start N vs, H1, H1, .fresh (.func (defBody st) (envOfC x (defScope st) s1.heap.objs.size f cdv)), Nat.add_zero _, I3, w0, I1.hok.fresh (Nat.le_refl _), hga3, I1.hok.fresh (Nat.le_of_lt lt2), ?_, J0.len, Same.refl _, ?_, fun s4 H4 sm J4 => ?_⟩
    · refine naps0.at ?_
      obtain ⟨o, ho, _⟩ := naps_obj naps0
      show (s2.heap.push go).get? _ = _
      rw [ho]
      exact Heap.get?_push_of_some _ ho
    · show (s2.gens.push _)[s2.gens.size]? = _
      exact Array.getElem?_push_size ..
    · have hrB : Room k (X.A.in1.deeper (envOfC x (defScope st) s1.heap.objs.size f cdv)) := (hr.in1).deeper _
      obtain ⟨t, ht, q⟩ := F.body X f cdv s1.heap.objs.size (s2.heap.objs.size, go) vs H1 yl en rfl rfl rfl rfl rfl hrB hsp
      exact co_run ht rfl (Nat.add_zero _) J4 (q H4 sm)
  exact main _ _ rfl ⟨_, _, rfl⟩ rfl fun h => Heap.get?_push_size _ rfl
end
end K33G
/-! text Ka -/
set_option Elab.async false
set_option linter.all false
set_option maxRecDepth 100000
set_option maxHeartbeats 4000000
namespace K33
open PySem PySem.Spec PyProof.Rows L2
def top (i : Nat) : Stmt := PySem.Challenge.pw_sealedslots_k33_whole_wide_and_least_unw.main.body.getD i (.Pass ⟨0, 0, 0, 0⟩)
/-- a def of the module, as it stands behind the top -/
def DefAt (K : PySem.W.Frag) (mg : Str → Option Value) (x : Str) (st : Stmt) : Prop :=
  ∃ f fd, FunD K x x (defArgs st) (defBody st) (defScope st) [] [] f fd ∧ mg x = some (.ref f)
/-- a def that keeps its promise, as callers want it -/
def Ok (P : Program) (w : World) (K : PySem.W.Frag) (mg : Str → Option Value) (base : Heap) (k : Nat) (x : Str) (ps : List Str) (sp : Sp) : Prop :=
  ∃ f fd, FnOk P w K mg base CX0 k f fd ps sp ∧ mg x = some (.ref f) ∧ PySem.W.keepIn K (.ref f) = true ∧ Binds K fd ps []
section
variable {P : Program} {w : World} {K : PySem.W.Frag} {mg : Str → Option Value} {base : Heap}
/-- a def or method that keeps its promise -/
def OkF (P : Program) (w : World) (K : PySem.W.Frag) (mg : Str → Option Value) (base : Heap) (k : Nat) (f : Addr) (ps : List Str) (sp : Sp) : Prop := ∃ fd, FnOk P w K mg base CX0 k f fd ps sp ∧ Binds K fd ps []
theorem okF_of {x qual : Str} {st : Stmt} {f : Addr} {fd : FuncData} {N ps : List Str} {k : Nat} {sp : Sp} (F : FunD K x qual (defArgs st) (defBody st) (defScope st) [] [] f fd) (S : FnScope N ps (defScope st)) (len : ∀ vs H Q E, sp vs H Q E → vs.length = ps.length)
    (hb : ∀ (kV doc pm : Value) (an : Option Addr) (cdv ct : Value) (us : List Value), us.length = ps.length → bindArgs (PySem.W.fnOf x qual (defArgs st) (defBody st) (defScope st) .none kV doc pm an cdv ct) ⟨us, []⟩ = pure (ps.zip us))
    (hbody : ∀ (cdv : Value) (A : Around) (outer : List Env) (s : Shared) (H : Hp) (vs : List V) (Q : VK) (E : XK), Room k (A.deeper (envOfC qual (defScope st) s.heap.objs.size f cdv)) → sp vs H Q E →
      ∃ t, PSs (cxOf CX0 P w K mg base N qual (defScope st) f cdv A outer s H E).nox (defBody st) t ∧ t { nx := fun _ H' => Q .non H', rt := Q } (start N vs) H) :
    OkF P w K mg base (k + 1) f ps sp := by
  refine ⟨fd, F.ok S len fun cdv A outer s H vs Q E hr hs => ?_, F.bindsN hb⟩
  obtain ⟨t, h, q⟩ := hbody cdv A outer s H vs Q E hr hs
  exact ⟨t, h.nox, q⟩
theorem ok_of {x : Str} {st : Stmt} {N ps : List Str} {k : Nat} {sp : Sp} (D : DefAt K mg x st) (S : FnScope N ps (defScope st)) (len : ∀ vs H Q E, sp vs H Q E → vs.length = ps.length)
    (hb : ∀ (kV doc pm : Value) (an : Option Addr) (cdv ct : Value) (us : List Value), us.length = ps.length → bindArgs (PySem.W.fnOf x x (defArgs st) (defBody st) (defScope st) .none kV doc pm an cdv ct) ⟨us, []⟩ = pure (ps.zip us))
    (hbody : ∀ (f : Addr) (cdv : Value) (A : Around) (outer : List Env) (s : Shared) (H : Hp) (vs : List V) (Q : VK) (E : XK), Room k (A.deeper (envOfC x (defScope st) s.heap.objs.size f cdv)) → sp vs H Q E →
      ∃ t, PSs (cxOf CX0 P w K mg base N x (defScope st) f cdv A outer s H E).nox (defBody st) t ∧ t { nx := fun _ H' => Q .non H', rt := Q } (start N vs) H) :
    Ok P w K mg base (k + 1) x ps sp := by
  obtain ⟨f, fd, F, g⟩ := D
  refine ⟨f, fd, F.ok S len fun cdv A outer s H vs Q E hr hs => ?_, g, F.kp, F.bindsN hb⟩
  obtain ⟨t, h, q⟩ := hbody f cdv A outer s H vs Q E hr hs
  exact ⟨t, h.nox, q⟩
end
section
variable {X : Cx} {k : Nat} {ps : List Str} {sp : Sp} {x : Str} {p pos : Pos} {e : Expr} {es : List Expr} {t : TA}
theorem pe_f (F : Ok X.prog X.w X.K X.mg X.base k x ps sp) (hr : Room k X.A) (ha : PA X (e :: es) t) (hg : Gl X x := by rfl) (hdb : (x == ("__debug__" : Str)) = false := by decide)
    (he : starEach (e :: es) X.env = (false, eval e X.env) :: starEach es X.env := by rfl) (hpl : (backTo pos (starEach es X.env)).any (·.1) = false := by rfl) :
    PE X (.Call (.Name x p) (e :: es) [] pos) (tCall sp [] E0 t) := by
  obtain ⟨f, fd, F, g, kp, b⟩ := F
  exact pe_call F hr hg g kp b .nil pass0 ha hdb he hpl
end
def clsOf (mg : Str → Option Value) (x : Str) : Addr := match mg x with
  | some (.ref C) => C
  | _ => 0
/-- a class of the module and its instances' own names -/
structure ClassF (K : PySem.W.Frag) (mg : Str → Option Value) (x : Str) (flds : List Str) : Prop where
  glo : mg x = some (.ref (clsOf mg x))
  cls : Cls K (clsOf mg x)
  no : ∀ f ∈ flds, NoAttr K (clsOf mg x) f
/-- a def in a class -/
abbrev FunM (K : PySem.W.Frag) (x qual : Str) (st : Stmt) (dvs : List V) (kws : List (Str × V)) (f : Addr) (fd : FuncData) : Prop := FunD K x qual (defArgs st) (defBody st) (defScope st) dvs kws f fd
structure Txt (K : PySem.W.Frag) (mg : Str → Option Value) : Prop where
  LETTERS : ∃ t, mg "LETTERS" = some (.str "abcdefghijklmnopqrstuvwxyz" t)
  is_word : DefAt K mg "is_word" (top 15)
  is_sign : DefAt K mg "is_sign" (top 16)
  is_mark : DefAt K mg "is_mark" (top 17)
  is_name : DefAt K mg "is_name" (top 18)
  is_below : DefAt K mg "is_below" (top 19)
  are_different : DefAt K mg "are_different" (top 20)
  is_move : DefAt K mg "is_move" (top 21)
  is_state_dict : DefAt K mg "is_state_dict" (top 22)
  told_in : DefAt K mg "told_in" (top 23)
  signs_in : DefAt K mg "signs_in" (top 24)
  reader_problem : DefAt K mg "reader_problem" (top 25)
  require_state : DefAt K mg "require_state" (top 27)
  require_states : DefAt K mg "require_states" (top 28)
  require_word : DefAt K mg "require_word" (top 29)
  silent_of : DefAt K mg "silent_of" (top 31)
  step_of : DefAt K mg "step_of" (top 32)
  last_of : DefAt K mg "last_of" (top 33)
  meets : DefAt K mg "meets" (top 34)
  is_writable : DefAt K mg "is_writable" (top 36)
  are_signs : DefAt K mg "are_signs" (top 41)
  is_number_below : DefAt K mg "is_number_below" (top 42)
  is_state_row : DefAt K mg "is_state_row" (top 43)
  are_states : DefAt K mg "are_states" (top 44)
  check_machine : DefAt K mg "check_machine" (top 45)
  reached : DefAt K mg "reached" (top 46)
  refined : DefAt K mg "refined" (top 47)
  least_kinds : DefAt K mg "least_kinds" (top 48)
  least_machine : DefAt K mg "least_machine" (top 49)
  live_states : DefAt K mg "live_states" (top 50)
  lacking : DefAt K mg "lacking" (top 56)
  find_unwritable : DefAt K mg "find_unwritable" (top 57)
  is_wide : DefAt K mg "is_wide" (top 58)
  law_rng : DefAt K mg "_law_rng" (top 60)
  law_draw : DefAt K mg "_law_draw" (top 61)
  law_choice : DefAt K mg "_law_choice" (top 62)
  law_letters : DefAt K mg "_law_letters" (top 63)
  law_marks : DefAt K mg "_law_marks" (top 64)
  law_any_format : DefAt K mg "_law_any_format" (top 65)
  law_family : DefAt K mg "_law_family" (top 66)
  law_bent : DefAt K mg "_law_bent" (top 67)
  law_format : DefAt K mg "_law_format" (top 68)
  law_silent : DefAt K mg "_law_silent" (top 69)
  law_step : DefAt K mg "_law_step" (top 70)
  law_class : DefAt K mg "_law_class" (top 71)
  law_belongs : DefAt K mg "_law_belongs" (top 72)
  law_live : DefAt K mg "_law_live" (top 73)
  law_texts : DefAt K mg "_law_texts" (top 74)
  law_lacking : DefAt K mg "_law_lacking" (top 75)
  law_less : DefAt K mg "_law_less" (top 76)
  law_gate_right : DefAt K mg "_law_gate_right" (top 77)
  law_right : DefAt K mg "_law_right" (top 78)
  law_long_right : DefAt K mg "_law_long_right" (top 79)
  LONGEST_NAME : ∃ t, mg "LONGEST_NAME" = some (.int 8 t)
  MOST_PAGE_SIGNS : ∃ t, mg "MOST_PAGE_SIGNS" = some (.int 6 t)
  MOST_TEXT_SIGNS : ∃ t, mg "MOST_TEXT_SIGNS" = some (.int 4 t)
  MOST_MARKS : ∃ t, mg "MOST_MARKS" = some (.int 6 t)
  MOST_SIGNS : ∃ t, mg "MOST_SIGNS" = some (.int 4 t)
  MOST_GIVEN_STATES : ∃ t, mg "MOST_GIVEN_STATES" = some (.int 40 t)
  MOST_STATES : ∃ t, mg "MOST_STATES" = some (.int 6 t)
  isinstance : mg "isinstance" = none
  all : mg "all" = none
  any : mg "any" = none
  len : mg "len" = none
  str : mg "str" = none
  int : mg "int" = none
  bool : mg "bool" = none
  list : mg "list" = none
  tuple : mg "tuple" = none
  dict : mg "dict" = none
  set : mg "set" = none
  sorted : mg "sorted" = none
  range : mg "range" = none
  enumerate : mg "enumerate" = none
  repr : mg "repr" = none
  max : mg "max" = none
  min : mg "min" = none
  abs : mg "abs" = none
  divmod : mg "divmod" = none
  Reader : ClassF K mg "Reader" ["rows", "end_list", "own_start"]
  Reader_max : ∃ mc u, ClX.CRead K (clsOf mg "Reader") mc ∧ ClX.CVal K (clsOf mg "Reader") mc "MAX_STATES" (.int 12) u
  Reader_init : ∃ (f : Addr) (fd : FuncData) (T0 : Addr), Mk K (clsOf mg "Reader") f ∧ FunM K "__init__" "Reader.__init__" (inClass (top 26) 1) [.ref T0] [("start", .int 0)] f fd ∧ ∀ H, SqT K H T0 []
  Reader_contains : ∃ (f : Addr) (fd : FuncData), Meth K (clsOf mg "Reader") "__contains__" f ∧ FunM K "__contains__" "Reader.__contains__" (inClass (top 26) 11) [] [] f fd
  Reader_len : ∃ (f : Addr) (fd : FuncData), Meth K (clsOf mg "Reader") "__len__" f ∧ FunM K "__len__" "Reader.__len__" (inClass (top 26) 10) [] [] f fd
  Door : ClassF K mg "Door" ["own_reader", "own_state", "own_behind", "own_language"]
  Door_init : ∃ (f : Addr) (fd : FuncData), Mk K (clsOf mg "Door") f ∧ FunM K "__init__" "Door.__init__" (inClass (top 35) 0) [] [] f fd
  Door_state : ∃ (p g : Addr) (fd : FuncData), PropOf K (clsOf mg "Door") "state" p g ∧ FunM K "state" "Door.state" (inClass (top 35) 2) [] [] g fd
  Language : ClassF K mg "Language" ["own_signs", "goals", "member_list", "live_list"]
  Language_init : ∃ (f : Addr) (fd : FuncData), Mk K (clsOf mg "Language") f ∧ FunM K "__init__" "Language.__init__" (inClass (top 52) 1) [] [] f fd
section
variable {X : Cx} {pos : Pos}
theorem pe_LETTERS (T : Txt X.K X.mg) (hg : Gl X "LETTERS" := by rfl) : PE X (.Name "LETTERS" pos) (tC (.str "abcdefghijklmnopqrstuvwxyz")) := by
  obtain ⟨t, g⟩ := T.LETTERS
  exact pe_glob (v := .str "abcdefghijklmnopqrstuvwxyz") hg g ⟨_, rfl⟩
theorem pe_LONGEST_NAME (T : Txt X.K X.mg) (hg : Gl X "LONGEST_NAME" := by rfl) : PE X (.Name "LONGEST_NAME" pos) (tC (.int 8)) := by
  obtain ⟨t, g⟩ := T.LONGEST_NAME
  exact pe_glob (v := .int 8) hg g ⟨_, rfl⟩
theorem pe_MOST_PAGE_SIGNS (T : Txt X.K X.mg) (hg : Gl X "MOST_PAGE_SIGNS" := by rfl) : PE X (.Name "MOST_PAGE_SIGNS" pos) (tC (.int 6)) := by
  obtain ⟨t, g⟩ := T.MOST_PAGE_SIGNS
  exact pe_glob (v := .int 6) hg g ⟨_, rfl⟩
theorem pe_MOST_TEXT_SIGNS (T : Txt X.K X.mg) (hg : Gl X "MOST_TEXT_SIGNS" := by rfl) : PE X (.Name "MOST_TEXT_SIGNS" pos) (tC (.int 4)) := by
  obtain ⟨t, g⟩ := T.MOST_TEXT_SIGNS
  exact pe_glob (v := .int 4) hg g ⟨_, rfl⟩
theorem pe_MOST_MARKS (T : Txt X.K X.mg) (hg : Gl X "MOST_MARKS" := by rfl) : PE X (.Name "MOST_MARKS" pos) (tC (.int 6)) := by
  obtain ⟨t, g⟩ := T.MOST_MARKS
  exact pe_glob (v := .int 6) hg g ⟨_, rfl⟩
theorem pe_MOST_SIGNS (T : Txt X.K X.mg) (hg : Gl X "MOST_SIGNS" := by rfl) : PE X (.Name "MOST_SIGNS" pos) (tC (.int 4)) := by
  obtain ⟨t, g⟩ := T.MOST_SIGNS
  exact pe_glob (v := .int 4) hg g ⟨_, rfl⟩
theorem pe_MOST_GIVEN_STATES (T : Txt X.K X.mg) (hg : Gl X "MOST_GIVEN_STATES" := by rfl) : PE X (.Name "MOST_GIVEN_STATES" pos) (tC (.int 40)) := by
  obtain ⟨t, g⟩ := T.MOST_GIVEN_STATES
  exact pe_glob (v := .int 40) hg g ⟨_, rfl⟩
theorem pe_MOST_STATES (T : Txt X.K X.mg) (hg : Gl X "MOST_STATES" := by rfl) : PE X (.Name "MOST_STATES" pos) (tC (.int 6)) := by
  obtain ⟨t, g⟩ := T.MOST_STATES
  exact pe_glob (v := .int 6) hg g ⟨_, rfl⟩
theorem pe_ty_str (h : X.mg "str" = none) (hg : Gl X "str" := by rfl) : PE X (.Name "str" pos) (tC (.ty "str")) := pe_bltn (v := .ty "str") (u := .type "str") hg h (by decide +kernel) rfl
theorem pe_ty_int (h : X.mg "int" = none) (hg : Gl X "int" := by rfl) : PE X (.Name "int" pos) (tC (.ty "int")) := pe_bltn (v := .ty "int") (u := .type "int") hg h (by decide +kernel) rfl
theorem pe_ty_bool (h : X.mg "bool" = none) (hg : Gl X "bool" := by rfl) : PE X (.Name "bool" pos) (tC (.ty "bool")) := pe_bltn (v := .ty "bool") (u := .type "bool") hg h (by decide +kernel) rfl
theorem pe_ty_list (h : X.mg "list" = none) (hg : Gl X "list" := by rfl) : PE X (.Name "list" pos) (tC (.ty "list")) := pe_bltn (v := .ty "list") (u := .type "list") hg h (by decide +kernel) rfl
theorem pe_ty_tuple (h : X.mg "tuple" = none) (hg : Gl X "tuple" := by rfl) : PE X (.Name "tuple" pos) (tC (.ty "tuple")) := pe_bltn (v := .ty "tuple") (u := .type "tuple") hg h (by decide +kernel) rfl
theorem pe_ty_dict (h : X.mg "dict" = none) (hg : Gl X "dict" := by rfl) : PE X (.Name "dict" pos) (tC (.ty "dict")) := pe_bltn (v := .ty "dict") (u := .type "dict") hg h (by decide +kernel) rfl
end
end K33
/-! text Ke -/
set_option Elab.async false
set_option linter.all false
set_option maxRecDepth 100000
set_option maxHeartbeats 4000000
namespace K33
open PySem PySem.Spec PyProof.Rows L2 Evl
/-- what is evaluated is told by P, nothing that stood is changed -/
def EvP (te : TE) (σ : L2.St) (H : Hp) (P : V → Hp → Prop) : Prop := ∀ H1, Ex H H1 → ∀ Q : VK, (∀ v H2, Ex H1 H2 → P v H2 → Q v H2) → te σ H1 Q
def EvAP (ta : TA) (σ : L2.St) (H : Hp) (P : List V → Hp → Prop) : Prop := ∀ H1, Ex H H1 → ∀ Q : List V → Hp → Prop, (∀ v H2, Ex H1 H2 → P v H2 → Q v H2) → ta σ H1 Q
/-- the promise of a call -/
def SpP (sp : Sp) (vs : List V) (H : Hp) (P : V → Hp → Prop) : Prop := ∀ H1, Ex H H1 → ∀ Q : VK, (∀ v H2, Ex H1 H2 → P v H2 → Q v H2) → ∀ E : XK, sp vs H1 Q E
/-- the answer is told by P -/
abbrev RetP (P : V → Hp → Prop) (H : Hp) (Q : VK) : Prop := ∀ v H', Ex H H' → P v H' → Q v H'
/-- what a for walks, and that it may be walked as long as what is known stands -/
def IvW (wi : TI) (σ : L2.St) (H : Hp) (n : Nat) (Y : Nat → Hp → V → Hp → Prop) : Prop := ∀ H1, Ex H H1 → ∀ R : It → Hp → Prop, (∀ J H2 G G0, Ex H1 H2 → Ex H G0 → Ex G0 H2 → (∀ b o, H1 b = some o → H b = none → G0 b = none) → Walk J n G Y → (∀ H3, Ex G0 H3 → G H3) → R J H2) → wi σ H1 R
/-- a dict that is read only -/
def FD (H : Hp) (d : Addr) (kvs : List (Key × V)) : Prop := ∃ o, H d = some (.frz o (.dK kvs))
section
variable {K : PySem.W.Frag} {σ : L2.St} {H H' H1 H2 : Hp} {ta tb tc te tx : TE} {t u : TT} {x y z v : V} {r r' : R2} {P : V → Hp → Prop}
theorem FD.mono {d : Addr} {kvs : List (Key × V)} (h : FD H d kvs) (e : Ex H H') : FD H' d kvs := by
  obtain ⟨o, h⟩ := h
  exact ⟨o, e _ _ h⟩
theorem EvP.mono (h : EvP te σ H P) (e : Ex H H') : EvP te σ H' P := fun H1 a Q q => h H1 (e.trans a) Q q
theorem EvP.imp {P' : V → Hp → Prop} (h : EvP te σ H P) (i : ∀ v H', Ex H H' → P v H' → P' v H') : EvP te σ H P' := fun H1 a Q q => h H1 a Q fun v H2 e p => q v H2 e (i v H2 (a.trans e) p)
theorem evp_of (h : Ev te σ H v) : EvP te σ H (fun x _ => x = v) := fun H1 a Q q => h H1 a Q fun H2 e => q v H2 e rfl
theorem ev_of (h : EvP te σ H (fun x _ => x = v)) : Ev te σ H v := fun H1 a Q q => h H1 a Q fun x H2 e p => by
  subst p
  exact q H2 e
theorem evp_L {xs : List V} (h : EvL te σ H xs) : EvP te σ H (fun x H' => ∃ p, x = .ref p ∧ H p = none ∧ H' p = some (.lst xs)) := fun H1 a Q q => h H1 a Q fun p H2 hp e h2 => q _ H2 e ⟨p, rfl, fresh_back a hp, h2⟩
theorem evp_U {xs : List V} (h : EvU te σ H xs) : EvP te σ H (fun x H' => ∃ p, x = .ref p ∧ H p = none ∧ H' p = some (.tup xs)) := fun H1 a Q q => h H1 a Q fun p H2 hp e h2 => q _ H2 e ⟨p, rfl, fresh_back a hp, h2⟩
theorem ea_nilP : EvAP tNil σ H (fun vs _ => vs = []) := fun H1 _ _ q => q [] H1 (Ex.refl H1) rfl
theorem ea_of {ta : TA} {vs : List V} (h : EvA ta σ H vs) : EvAP ta σ H (fun us _ => us = vs) := fun H1 a Q q => h H1 a Q fun H2 e => q vs H2 e rfl
/-- the first is told by P, then the others -/
theorem ea_consP {tr : TA} {Pr : List V → Hp → Prop} (h : EvP ta σ H P) (hr : ∀ x H1, Ex H H1 → P x H1 → EvAP tr σ H1 (fun vs H2 => Pr (x :: vs) H2)) : EvAP (tCons ta tr) σ H Pr := fun H1 e Q q =>
  h H1 e _ fun x H2 e2 p => hr x H2 (e.trans e2) p H2 (Ex.refl H2) _ fun vs H3 e3 pr => q _ H3 (e2.trans e3) pr
theorem ea_one {Pr : List V → Hp → Prop} (h : EvP ta σ H P) (hr : ∀ x H1, Ex H H1 → P x H1 → Pr [x] H1) : EvAP (tCons ta tNil) σ H Pr := fun H1 e Q q =>
  h H1 e _ fun x H2 e2 p => q _ H2 e2 (hr x H2 (e.trans e2) p)
/-- a call of a def -/
theorem evp_call {sp : Sp} {E : XK} {ta : TA} {Pa : List V → Hp → Prop} (h : EvAP ta σ H Pa) (hs : ∀ vs H1, Ex H H1 → Pa vs H1 → SpP sp vs H1 P) : EvP (tCall sp [] E ta) σ H P := fun H1 e Q q =>
  h H1 e _ fun vs H2 e2 p => by
    have k := hs vs H2 (e.trans e2) p H2 (Ex.refl H2) Q (fun v H3 e3 pv => q v H3 (e2.trans e3) pv) E
    rw [List.append_nil]
    exact k
theorem ev_callV {sp : Sp} {E : XK} {ta : TA} {vs : List V} (h : EvA ta σ H vs) (hs : SpV sp vs H z) : Ev (tCall sp [] E ta) σ H z := by
  refine ev_call h ?_
  rw [List.append_nil]
  exact hs
/-- a call of a built-in -/
theorem evp_cb {r : List V → Hp → VK → Prop} {ta : TA} {Pa : List V → Hp → Prop} (h : EvAP ta σ H Pa) (hr : ∀ vs H1, Ex H H1 → Pa vs H1 → ∀ Q : VK, (∀ v H2, Ex H1 H2 → P v H2 → Q v H2) → r vs H1 Q) : EvP (tCB r ta) σ H P := fun H1 e Q q =>
  h H1 e _ fun vs H2 e2 p => hr vs H2 (e.trans e2) p Q fun v H3 e3 pv => q v H3 (e2.trans e3) pv
theorem ev_cbV {r : List V → Hp → VK → Prop} {ta : TA} {vs : List V} (h : EvA ta σ H vs) (hr : ∀ H1, Ex H H1 → ∀ Q : VK, Q z H1 → r vs H1 Q) : Ev (tCB r ta) σ H z := ev_cb h fun H1 e Q q => hr H1 e Q (q H1 (Ex.refl H1))
/-! ### isinstance -/
theorem ev_isi {a b : String} {k : Bool} (ha : Ev ta σ H x) (ty : ∀ H1, Ex H H1 → TyX K H1 x (.type a)) (h : kitB a b = some k) : Ev (tCB (rIsi K) (tCons ta (tCons (tC (.ty b)) tNil))) σ H (.bl k) :=
  ev_cbV (ea_cons ha (ea_cons ev_c ea_nil)) fun H1 e Q q => ⟨x, .ty b, _, _, k, rfl, .ty b, ty H1 e, kit_ty h, q⟩
theorem ev_isiT {a b c : String} {k : Bool} (ha : Ev ta σ H x) (ty : ∀ H1, Ex H H1 → TyX K H1 x (.type a)) (h : PySem.W.kitAny K (.type a) [.type b, .type c] = some k) : Ev (tCB (rIsiT K) (tCons ta (tCons (tTup (tCons (tC (.ty b)) (tCons (tC (.ty c)) tNil))) tNil))) σ H (.bl k) := fun H1 e Q q =>
  ha H1 e _ fun H2 e2 => ⟨by show 2 ≤ sizeLine; decide, fun p hp => ⟨x, p, [.ty b, .ty c], _, _, k, rfl, upd_same, .cons (.ty b) (.cons (.ty c) .nil), ty _ ((e.trans e2).trans (Ex.new hp)), h, q _ (e2.trans (Ex.new hp))⟩⟩
theorem ev_isiTT {b c : String} {k : Bool} (ha : Ev ta σ H x) (ty : ∀ H1, Ex H H1 → ∃ a, TyX K H1 x (.type a) ∧ PySem.W.kitAny K (.type a) [.type b, .type c] = some k) : Ev (tCB (rIsiT K) (tCons ta (tCons (tTup (tCons (tC (.ty b)) (tCons (tC (.ty c)) tNil))) tNil))) σ H (.bl k) := fun H1 e Q q =>
  ha H1 e _ fun H2 e2 => ⟨by show 2 ≤ sizeLine; decide, fun p hp => by
    obtain ⟨a, t, h⟩ := ty _ ((e.trans e2).trans (Ex.new (o := .tup [.ty b, .ty c]) hp))
    exact ⟨x, p, [.ty b, .ty c], _, _, k, rfl, upd_same, .cons (.ty b) (.cons (.ty c) .nil), t, h, q _ (e2.trans (Ex.new hp))⟩⟩
theorem kit_lt {K : PySem.W.Frag} {a : String} {k : Bool} (h : (kitB a "list").bind (fun x => if x = true then some true else (kitB a "tuple").bind fun y => some y) = some k) : PySem.W.kitAny K (.type a) [.type "list", .type "tuple"] = some k := by
  cases h1 : kitB a "list" with
  | none => rw [h1] at h; cases h
  | some b1 =>
    rw [h1] at h
    cases b1 with
    | true =>
      have e : some true = some k := h
      cases e
      exact kitAny_cons (kit_ty h1) (fun z => nomatch z) (fun _ => rfl)
    | false =>
      have e : (kitB a "tuple").bind (fun y => some y) = some k := h
      cases h2 : kitB a "tuple" with
      | none => rw [h2] at e; cases e
      | some b2 =>
        rw [h2] at e
        have e2 : some b2 = some k := e
        cases e2
        refine kitAny_cons (kit_ty h1) (fun _ => ?_) (fun z => nomatch z)
        cases k with
        | true => exact kitAny_cons (kit_ty h2) (fun z => nomatch z) (fun _ => rfl)
        | false => exact kitAny_cons (kit_ty h2) (fun _ => kitAny_nil) (fun z => nomatch z)
/-! ### chains, all, any, len -/
theorem ev_chain {b c : Bool} (ha : Ev ta σ H x) (hb : Ev tb σ H y) (hr : RV r x y H (.bl b)) (hc : b = true → Ev tc σ H z) (hr' : b = true → RV r' y z H (.bl c)) : Ev (tChain r r' ta tb tc) σ H (.bl (b && c)) := fun H1 e Q q =>
  ha H1 e _ fun H2 e2 => hb H2 (e.trans e2) _ fun H3 e3 => hr H3 ((e.trans e2).trans e3) _ fun H4 e4 => ⟨b, rfl, by
    cases b with
    | true =>
      refine iteT ?_
      refine hc rfl H4 (((e.trans e2).trans e3).trans e4) _ fun H5 e5 => ?_
      exact hr' rfl H5 ((((e.trans e2).trans e3).trans e4).trans e5) Q fun H6 e6 => q H6 ((((e2.trans e3).trans e4).trans e5).trans e6)
    | false => exact iteF (q H4 ((e2.trans e3).trans e4))⟩
theorem et_chain {b c : Bool} (ha : Ev ta σ H x) (hb : Ev tb σ H y) (hr : RV r x y H (.bl b)) (hc : b = true → Ev tc σ H z) (hr' : b = true → RV r' y z H (.bl c)) : EvT (tTest (tChain r r' ta tb tc)) σ H (b && c) := et_test (ev_chain ha hb hr hc hr')
theorem et_yes : EvT tYes σ H true := fun H1 _ _ q => q H1 (Ex.refl H1)
theorem ev_all {bs : List Bool} (h : EvL te σ H (bs.map V.bl)) : Ev (tCB (rAll K) (tCons te tNil)) σ H (.bl (bs.all id)) := fun H1 e Q q =>
  h H1 e _ fun p H2 _ e2 h2 => ⟨p, bs, rfl, sq_of h2, q H2 e2⟩
theorem ev_any {bs : List Bool} (h : EvL te σ H (bs.map V.bl)) : Ev (tCB (rAny K) (tCons te tNil)) σ H (.bl (bs.any id)) := fun H1 e Q q =>
  h H1 e _ fun p H2 _ e2 h2 => ⟨p, bs, rfl, sq_of h2, q H2 e2⟩
theorem ev_allM {α : Type} (l : List α) (p : α → Bool) (h : EvL te σ H (l.map fun a => .bl (p a))) : Ev (tCB (rAll K) (tCons te tNil)) σ H (.bl (l.all p)) := by
  have q := ev_all (K := K) (te := te) (σ := σ) (H := H) (bs := l.map p) (by rw [List.map_map]; exact h)
  rw [List.all_map] at q
  exact q
theorem ev_anyM {α : Type} (l : List α) (p : α → Bool) (h : EvL te σ H (l.map fun a => .bl (p a))) : Ev (tCB (rAny K) (tCons te tNil)) σ H (.bl (l.any p)) := by
  have q := ev_any (K := K) (te := te) (σ := σ) (H := H) (bs := l.map p) (by rw [List.map_map]; exact h)
  rw [List.any_map] at q
  exact q
theorem given_bl {n : Nat} {f : Nat → Bool} {p : Nat → Bool} : given n f (fun i => .bl (p i)) = (((List.range n).filter f).map p).map V.bl := by
  unfold given
  rw [List.map_map]
  rfl
/-- len(x): a text, list, tuple -/
theorem ev_lenV {n : Nat} (ha : Ev ta σ H x) (h : ∀ H1, Ex H H1 → LenV K x H1 n) : Ev (tCB (fun xs H Q => ∃ x n, xs = [x] ∧ LenV K x H n ∧ Q (.int n) H) (tCons ta tNil)) σ H (.int n) :=
  ev_cbV (ea_cons ha ea_nil) fun H1 e Q q => ⟨x, n, rfl, h H1 e, q⟩
theorem lenV_str {s : Str} (h : s.length ≤ 100000) : LenV K (.str s) H s.length := ⟨sz_of h, rfl⟩
theorem lenV_l {p : Addr} {xs : List V} (h : SqL K H p xs) (e : Ex H H1) : LenV K (.ref p) H1 xs.length := .inl ⟨xs, ex_l e h, rfl⟩
theorem lenV_t {p : Addr} {xs : List V} (h : SqT K H p xs) (e : Ex H H1) : LenV K (.ref p) H1 xs.length := .inr ⟨xs, ex_t e h, rfl⟩
theorem rv_lt {i j : Int} : RV (rI0 fun i j => .bl (decide (i < j))) (.int i) (.int j) H (.bl (decide (i < j))) := rv_I0
theorem rv_le {i j : Int} : RV (rI0 fun i j => .bl (decide (i ≤ j))) (.int i) (.int j) H (.bl (decide (i ≤ j))) := rv_I0
/-! ### what a for walks -/
theorem iw_str {s : Str} (h : Ev te σ H (.str s)) : IvW (iStr te) σ H s.cps.size (fun i H v H' => H' = H ∧ ∃ c, s.cps[i]? = some c ∧ v = .str ⟨#[c]⟩) := fun H1 e R k =>
  h H1 e _ fun H2 e2 => ⟨s, rfl, k _ H2 _ H e2 (Ex.refl _) (e.trans e2) (fun _ _ _ h => h) walk_str fun _ _ => trivial⟩
theorem iw_list {p : Addr} {xs : List V} (h : Ev te σ H (.ref p)) (hx : SqL K H p xs) : IvW (iList K te) σ H xs.length (YAt xs) := fun H1 e R k =>
  h H1 e _ fun H2 e2 => ⟨p, rfl, ⟨xs, ex_l (e.trans e2) hx⟩, k _ H2 _ H e2 (Ex.refl _) (e.trans e2) (fun _ _ _ h => h) walk_list fun H3 e3 => ex_l e3 hx⟩
theorem iw_listN {xs : List V} (h : EvL te σ H xs) : IvW (iList K te) σ H xs.length (YAt xs) := fun H1 e R k =>
  h H1 e _ fun p H2 hp e2 h2 => ⟨p, rfl, ⟨xs, sq_of h2⟩, k _ H2 _ (upd H p (.lst xs)) e2 (Ex.new (fresh_back e hp)) (fun b o q => by
    by_cases hb : b = p
    · subst hb
      rw [upd_same] at q
      cases q
      exact h2
    · rw [upd_ne hb] at q
      exact e2 b o (e b o q)) (fun b o q n => by
    rw [upd_ne (fun hb => by rw [hb, hp] at q; cases q)]
    exact n) walk_list fun H3 e3 => sq_of (e3 _ _ upd_same)⟩
theorem iw_tup {p : Addr} {xs : List V} (h : Ev te σ H (.ref p)) (hx : SqT K H p xs) : IvW (iTup K te) σ H xs.length (YAt xs) := fun H1 e R k =>
  h H1 e _ fun H2 e2 => ⟨p, rfl, ⟨xs, ex_t (e.trans e2) hx⟩, k _ H2 _ H e2 (Ex.refl _) (e.trans e2) (fun _ _ _ h => h) walk_tup fun H3 e3 => ex_t e3 hx⟩
theorem iw_keys {d : Addr} {kvs : List (Key × V)} (h : Ev te σ H (.ref d)) (hd : FD H d kvs) : IvW (iKeys te) σ H kvs.length (fun i H x H' => H' = H ∧ ∃ k v, kvs[i]? = some (k, v) ∧ x = kV k) := fun H1 e R k => by
  obtain ⟨o, hd⟩ := hd
  exact h H1 e _ fun H2 e2 => ⟨d, o, rfl, .inl ⟨kvs, e2 _ _ (e _ _ hd), k _ H2 _ H e2 (Ex.refl _) (e.trans e2) (fun _ _ _ h => h) walk_keys fun H3 e3 => e3 _ _ hd⟩⟩
theorem iw_vals {d : Addr} {kvs : List (Key × V)} (h : Ev te σ H (.ref d)) (hd : FD H d kvs) : IvW (iVals te) σ H kvs.length (fun i H x H' => H' = H ∧ ∃ k, kvs[i]? = some (k, x)) := fun H1 e R k => by
  obtain ⟨o, hd⟩ := hd
  exact h H1 e _ fun H2 e2 => ⟨d, o, kvs, rfl, e2 _ _ (e _ _ hd), k _ H2 _ H e2 (Ex.refl _) (e.trans e2) (fun _ _ _ h => h) walk_values fun H3 e3 => e3 _ _ hd⟩
theorem iw_items {d : Addr} {kvs : List (Key × V)} (h : Ev te σ H (.ref d)) (hd : FD H d kvs) : IvW (iItems te) σ H kvs.length (YPair (fun i => kvs[i]?.map fun kv => kV kv.1) (fun i => kvs[i]?.map Prod.snd)) := fun H1 e R k => by
  obtain ⟨o, hd⟩ := hd
  exact h H1 e _ fun H2 e2 => ⟨d, o, kvs, rfl, e2 _ _ (e _ _ hd), k _ H2 _ H e2 (Ex.refl _) (e.trans e2) (fun _ _ _ h => h) walk_items fun H3 e3 => e3 _ _ hd⟩
theorem iw_range1 {ta : TA} {n : Nat} (h : EvA ta σ H [.int n]) (hn : n ≤ 100000) : IvW (iRng1 ta) σ H n (YFn fun i => .int (i : Nat)) := fun H1 e R k =>
  h H1 e _ fun H2 e2 => ⟨n, rfl, by omega, by omega, by
    rw [Int.toNat_natCast]
    exact k _ H2 _ H e2 (Ex.refl _) (e.trans e2) (fun _ _ _ h => h) (walk_range.mono (fun _ h => h) fun i H x H' _ _ y => ⟨y.1, y.2.trans (by show V.int (0 + (i : Int)) = V.int (i : Int); rw [Int.zero_add])⟩) fun _ _ => trivial⟩
theorem iw_enum {ta : TA} {p : Addr} {xs : List V} (h : EvA ta σ H [.ref p]) (hx : SqL K H p xs) : IvW (iEnum K ta) σ H xs.length (YPair (fun i => some (.int (i : Nat))) (fun i => xs[i]?)) := fun H1 e R k =>
  h H1 e _ fun H2 e2 => ⟨p, xs, rfl, ex_l (e.trans e2) hx, k _ H2 _ H e2 (Ex.refl _) (e.trans e2) (fun _ _ _ h => h) walk_enum fun H3 e3 => ex_l e3 hx⟩
/-- targets: a name; a pair -/
theorem tg_name {j : Nat} {k : L2.St → Hp → Prop} (h : k (σ.set j (some v)) H) : gName j v σ H k := h
theorem tg_pair {T : Addr} {i j : Nat} {k : L2.St → Hp → Prop} (hT : SqT K H T [x, y]) (h : k ((σ.set i (some x)).set j (some y)) H) : gTup K 2 (gCons (gName i) (gCons (gName j) gNil)) (.ref T) σ H k :=
  ⟨T, [x, y], rfl, hT, rfl, x, [y], rfl, y, [], rfl, rfl, h⟩
/-! ### comprehensions -/
/-- one turn: the target set, whether it's kept, its value -/
theorem el_lc {wi : TI} {g : TG} {vs : List Nat} {n : Nat} {Y : Nat → Hp → V → Hp → Prop} (f : Nat → Bool) (w : Nat → V) (hw : IvW wi σ H n Y) (hn : n ≤ 50000)
    (turn : ∀ i x H1 H1', i < n → Ex H H1 → Y i H1 x H1' → ∀ k : L2.St → Hp → Prop, (∀ σ2 H2, Ex H1 H2 → wipe σ2 vs = wipe σ vs → EvT t σ2 H2 (f i) → (f i = true → Ev te σ2 H2 (w i)) → k σ2 H2) → g x (wipe σ vs) H1' k) :
    EvL (tLc wi g t te vs) σ H (given n f w) := fun H0 e Q q => hw H0 e _ fun J H1 G G0 e1 eg1 eg2 _ W hG D hD =>
  lc_it W (Cw H1 f w D) ⟨hD, Ex.new hD, upd_same⟩ (fun i H' _ p => hG H' (eg2.trans p.2.1)) (fun i x Ha Hb hi p y => by
    obtain ⟨p1, p2, p3⟩ := p
    refine turn i x Ha Hb hi ((e.trans e1).trans p2) y _ fun σ2 H2 e2 wp ht he => ⟨wp, ?_⟩
    refine ht H2 (Ex.refl H2) _ fun H3 e3 => ?_
    cases hf : f i with
    | true =>
      refine iteT ?_
      refine he hf H3 e3 _ fun H4 e4 => ⟨given i f w, e4 D _ (e3 D _ (e2 D _ p3)), sz_lt (by have := given_len i f w; omega), p1, Ex.mut (((p2.trans e2).trans e3).trans e4) p1, ?_⟩
      rw [given_yes hf]
      exact upd_same
    | false =>
      refine iteF ⟨p1, (p2.trans e2).trans e3, ?_⟩
      rw [given_no hf]
      exact e3 D _ (e2 D _ p3)) (fun H' p => q D H' (fresh_back e1 p.1) (e1.trans p.2.1) p.2.2)
theorem given_all {n : Nat} {w : Nat → V} : given n (fun _ => true) w = (List.range n).map w := by
  unfold given
  rw [List.filter_eq_self.mpr fun _ _ => rfl]
theorem given_of {α : Type} {l : List α} {n : Nat} (hn : n = l.length) (w : Nat → V) (u : α → V) (h : ∀ i a, l[i]? = some a → w i = u a) : given n (fun _ => true) w = l.map u := by
  subst hn
  rw [given_all]
  apply List.ext_getElem?
  intro i
  rw [List.getElem?_map, List.getElem?_map]
  by_cases hi : i < l.length
  · rw [List.getElem?_range hi, List.getElem?_eq_getElem hi]
    exact congrArg some (h i _ (List.getElem?_eq_getElem hi))
  · rw [List.getElem?_eq_none (by simp; omega), List.getElem?_eq_none (by omega)] <;> rfl
theorem given_ofF {α : Type} {l : List α} {n : Nat} (hn : n = l.length) (p : α → Bool) (u : α → V) (f : Nat → Bool) (w : Nat → V) (h : ∀ i a, l[i]? = some a → f i = p a ∧ w i = u a) : given n f w = (l.filter p).map u := by
  subst hn
  have key : ∀ m, m ≤ l.length → given m f w = ((l.take m).filter p).map u := by
    intro m
    induction m with
    | zero => intro _; rfl
    | succ m ih =>
      intro hm
      obtain ⟨a, ha⟩ : ∃ a, l[m]? = some a := ⟨l[m], List.getElem?_eq_getElem hm⟩
      obtain ⟨h1, h2⟩ := h m a ha
      have et : l.take (m + 1) = l.take m ++ [a] := by
        rw [List.take_succ, ha] <;> rfl
      rw [et, List.filter_append, List.map_append, ← ih (by omega)]
      cases hp : p a with
      | true =>
        rw [given_yes (h1.trans hp), h2]
        simp [hp]
      | false =>
        rw [given_no (h1.trans hp)]
        simp [hp]
  rw [key l.length (Nat.le_refl _), List.take_length]
theorem all_id {α : Type} {l : List α} {p : α → Bool} : (l.map p).all id = l.all p := by
  rw [List.all_map]
  rfl
/-- a list of the items' values: no if -/
theorem el_map {α : Type} (l : List α) (u : α → V) {wi : TI} {g : TG} {vs : List Nat} {n : Nat} {Y : Nat → Hp → V → Hp → Prop} (hw : IvW wi σ H n Y) (hn : n = l.length) (hz : l.length ≤ 50000)
    (turn : ∀ i a x Ha Hb, l[i]? = some a → Ex H Ha → Y i Ha x Hb → ∀ k : L2.St → Hp → Prop, (∀ σ2 H2, Ex Ha H2 → wipe σ2 vs = wipe σ vs → EvT t σ2 H2 true → Ev te σ2 H2 (u a) → k σ2 H2) → g x (wipe σ vs) Hb k) :
    EvL (tLc wi g t te vs) σ H (l.map u) := by
  rw [← given_of hn (fun i => (l[i]?.map u).getD .non) u fun i a e => by rw [e]; rfl]
  subst hn
  refine el_lc (fun _ => true) _ hw hz fun i x Ha Hb hi ea y k hk => ?_
  have e := List.getElem?_eq_getElem hi
  refine turn i _ x Ha Hb e ea y k fun σ2 H2 e2 wp ht he => hk σ2 H2 e2 wp ht fun _ => ?_
  rw [e]
  exact he
theorem el_filter {α : Type} (l : List α) (p : α → Bool) (u : α → V) {wi : TI} {g : TG} {vs : List Nat} {n : Nat} {Y : Nat → Hp → V → Hp → Prop} (hw : IvW wi σ H n Y) (hn : n = l.length) (hz : l.length ≤ 50000)
    (turn : ∀ i a x Ha Hb, l[i]? = some a → Ex H Ha → Y i Ha x Hb → ∀ k : L2.St → Hp → Prop, (∀ σ2 H2, Ex Ha H2 → wipe σ2 vs = wipe σ vs → EvT t σ2 H2 (p a) → (p a = true → Ev te σ2 H2 (u a)) → k σ2 H2) → g x (wipe σ vs) Hb k) :
    EvL (tLc wi g t te vs) σ H ((l.filter p).map u) := by
  rw [← given_ofF hn p u (fun i => (l[i]?.map p).getD false) (fun i => (l[i]?.map u).getD .non) fun i a e => by rw [e]; exact ⟨rfl, rfl⟩]
  subst hn
  refine el_lc _ _ hw hz fun i x Ha Hb hi ea y k hk => ?_
  have e := List.getElem?_eq_getElem hi
  refine turn i _ x Ha Hb e ea y k fun σ2 H2 e2 wp ht he => hk σ2 H2 e2 wp ?_ ?_
  · rw [e]
    exact ht
  · rw [e]
    exact he
/-- the heap without what stands at p -/
def del (p : Addr) (H : Hp) : Hp := fun b => if b = p then none else H b
theorem del_same {p : Addr} : del p H p = none := if_pos rfl
theorem del_ne {p b : Addr} (h : b ≠ p) : del p H b = H b := if_neg h
theorem del_le {p : Addr} : Ex (del p H) H := fun b o e => by
  by_cases h : b = p
  · rw [h, del_same] at e
    cases e
  · rw [del_ne h] at e
    exact e
theorem del_ex {p : Addr} (e : Ex H H1) : Ex (del p H) (del p H1) := fun b o q => by
  by_cases h : b = p
  · rw [h, del_same] at q
    cases q
  · rw [del_ne h] at q ⊢
    exact e b o q
theorem ex_del {p : Addr} (e : Ex H H1) (h : H p = none) : Ex H (del p H1) := fun b o q => by
  rw [del_ne (ne_of_none q h)]
  exact e b o q
theorem del_upd {p : Addr} {o : HO} : del p (upd H p o) = del p H := funext fun b => by
  by_cases h : b = p
  · rw [h, del_same, del_same]
  · rw [del_ne h, del_ne h, upd_ne h]
theorem del_new {p q : Addr} {o : HO} (h : H1 p = some o) (n : H p = none) (m : H q ≠ none) : del q H1 p = some o := by
  rw [del_ne (fun e => m (by rw [← e]; exact n))]
  exact h
/-- one turn, new objects as values: the items so far are told by Pv (of the heap without the new list) -/
theorem el_lcP {wi : TI} {g : TG} {vs : List Nat} {n : Nat} {Y : Nat → Hp → V → Hp → Prop} (Pv : Nat → List V → Hp → Prop) (hw : IvW wi σ H n Y) (h0 : ∀ H1, Ex H H1 → Pv 0 [] H1) (hm : ∀ i acc H1 H2, Ex H1 H2 → Pv i acc H1 → Pv i acc H2) (hz : ∀ i acc H1, i < n → Pv i acc H1 → acc.length < 100000)
    (turn : ∀ D i x acc Ha Hb, i < n → H D = none → Ex H (del D Ha) → Ha D = some (.lst acc) → Pv i acc (del D Ha) → Y i Ha x Hb → ∀ k : L2.St → Hp → Prop,
      (∀ σ2 H2 b, Ex Ha H2 → wipe σ2 vs = wipe σ vs → EvT t σ2 H2 b → (b = true → EvP te σ2 H2 fun v H4 => Pv (i + 1) (acc ++ [v]) (del D H4)) → (b = false → Pv (i + 1) acc (del D H2)) → k σ2 H2) → g x (wipe σ vs) Hb k) :
    EvP (tLc wi g t te vs) σ H (fun v H' => ∃ p acc, v = .ref p ∧ H p = none ∧ H' p = some (.lst acc) ∧ Pv n acc (del p H')) := fun H0 e Q q => hw H0 e _ fun J H1 G G0 e1 eg1 eg2 _ W hG D hD =>
  lc_it W (fun i Hi => ∃ acc, Hi D = some (.lst acc) ∧ Ex H1 Hi ∧ Pv i acc (del D Hi)) ⟨[], upd_same, Ex.new hD, by rw [del_upd]; exact h0 _ ((e.trans e1).trans (ex_del (Ex.refl _) hD))⟩ (fun i H' _ p => by
      obtain ⟨acc, g1, g2, g3⟩ := p
      exact hG _ (eg2.trans g2)) (fun i x Ha Hb hi p y => by
    obtain ⟨acc, g1, g2, g3⟩ := p
    have hD0 := fresh_back (e.trans e1) hD
    refine turn D i x acc Ha Hb hi hD0 (ex_del ((e.trans e1).trans g2) hD0) g1 g3 y _ fun σ2 H2 b e2 wp ht he hn => ⟨wp, ?_⟩
    refine ht H2 (Ex.refl H2) _ fun H3 e3 => ?_
    cases b with
    | true =>
      refine iteT ?_
      refine he rfl H3 e3 _ fun v H4 e4 p4 => ⟨acc, e4 D _ (e3 D _ (e2 D _ g1)), sz_lt (hz i acc _ hi g3), acc ++ [v], upd_same, Ex.mut (((g2.trans e2).trans e3).trans e4) hD, ?_⟩
      rw [del_upd]
      exact p4
    | false => exact iteF ⟨acc, e3 D _ (e2 D _ g1), (g2.trans e2).trans e3, hm _ _ _ _ (del_ex e3) (hn rfl)⟩) (fun H' p => by
      obtain ⟨acc, g1, g2, g3⟩ := p
      exact q (.ref D) _ (e1.trans g2) ⟨D, acc, rfl, fresh_back (e.trans e1) hD, g1, g3⟩)
/-! ### statements -/
variable {D : Ends} {tz : TS}
theorem s_retP (h : EvP te σ H P) (k : ∀ v H1, Ex H H1 → P v H1 → D.rt v H1) : tRet te D σ H := h H (Ex.refl H) _ k
theorem s_asgP {i : Nat} (h : EvP te σ H P) (k : ∀ v H1, Ex H H1 → P v H1 → D.nx (σ.set i (some v)) H1) : tAsg te (gName i) D σ H := h H (Ex.refl H) _ k
theorem q_asgP {i : Nat} (h : EvP te σ H P) (k : ∀ v H1, Ex H H1 → P v H1 → tz D (σ.set i (some v)) H1) : tSeq (tAsg te (gName i)) tz D σ H := h H (Ex.refl H) _ k
theorem s_forW {wi : TI} {g : TG} {tu : TS} {n : Nat} {Y : Nat → Hp → V → Hp → Prop} (hw : IvW wi σ H n Y) (Pv : Hp → Nat → L2.St → Hp → Prop) (h0 : ∀ G0 H1, Ex H G0 → Ex G0 H1 → Pv G0 0 σ H1) (hG : ∀ G0 i σ' H', i ≤ n → Pv G0 i σ' H' → Ex G0 H')
    (hs : ∀ G0 i x σ' Ha Hb, Ex H G0 → i < n → Pv G0 i σ' Ha → Y i Ha x Hb → g x σ' Hb fun σ2 H2 => tu { D with nx := Pv G0 (i + 1), ct := Pv G0 (i + 1), bk := D.nx } σ2 H2) (hd : ∀ G0 σ' H', Ex H G0 → Pv G0 n σ' H' → D.nx σ' H') : tFor wi g tu D σ H :=
  hw H (Ex.refl H) _ fun J H1 G G0 e1 f1 f2 _ W hg => for_it W (Pv G0) (h0 G0 H1 f1 f2) (fun i σ' H' hi p => hg H' (hG G0 i σ' H' hi p)) (fun i x σ' Ha Hb hi p y => hs G0 i x σ' Ha Hb f1 hi p y) fun σ' H' p => hd G0 σ' H' f1 p
theorem q_forW {wi : TI} {g : TG} {tu : TS} {n : Nat} {Y : Nat → Hp → V → Hp → Prop} (hw : IvW wi σ H n Y) (Pv : Hp → Nat → L2.St → Hp → Prop) (h0 : ∀ G0 H1, Ex H G0 → Ex G0 H1 → Pv G0 0 σ H1) (hG : ∀ G0 i σ' H', i ≤ n → Pv G0 i σ' H' → Ex G0 H')
    (hs : ∀ G0 i x σ' Ha Hb, Ex H G0 → i < n → Pv G0 i σ' Ha → Y i Ha x Hb → g x σ' Hb fun σ2 H2 => tu { D with nx := Pv G0 (i + 1), ct := Pv G0 (i + 1), bk := tz D } σ2 H2) (hd : ∀ G0 σ' H', Ex H G0 → Pv G0 n σ' H' → tz D σ' H') : tSeq (tFor wi g tu) tz D σ H :=
  s_forW (D := { D with nx := tz D }) hw Pv h0 hG hs hd
/-- len of what is told by P -/
theorem ev_lenP {n : Nat} (ha : EvP ta σ H P) (h : ∀ x H1, Ex H H1 → P x H1 → LenV K x H1 n) : Ev (tCB (fun xs H Q => ∃ x n, xs = [x] ∧ LenV K x H n ∧ Q (.int n) H) (tCons ta tNil)) σ H (.int n) := fun H1 e Q q =>
  ha H1 e _ fun x H2 e2 p => ⟨x, n, rfl, h x H2 (e.trans e2) p, q H2 e2⟩
/-- len(..) > m, which it is not -/
theorem et_lenGt {m : Int} (ha : EvP ta σ H fun x H' => ∃ n : Nat, LenV K x H' n ∧ (n : Int) ≤ m) : EvT (tTest (tOp (rI0 fun i j => .bl (decide (j < i))) (tCB (fun xs H Q => ∃ x n, xs = [x] ∧ LenV K x H n ∧ Q (.int n) H) (tCons ta tNil)) (tC (.int m)))) σ H false := fun H1 e Q q =>
  ha H1 e _ fun x H2 e2 ⟨n, h, hm⟩ => ⟨x, n, rfl, h, n, m, rfl, rfl, false, (by show V.bl (decide (m < (n : Int))) = _; rw [decide_eq_false (by omega)]), q H2 e2⟩
end
end K33
/-! text Ks -/
set_option Elab.async false
set_option linter.all false
set_option maxRecDepth 100000
set_option maxHeartbeats 4000000
namespace K33
open PySem PySem.Spec PyProof.Rows L2 Evl
/-! ### len(set(xs)) of whole numbers -/
theorem met_nodup (f : Nat → Int) : ∀ n, (firstMet f n).Nodup
  | 0 => List.nodup_nil
  | n + 1 => by
    rw [firstMet_succ]
    unfold step_dedup
    by_cases h : (firstMet f n).any (· == f n) = true
    · rw [if_pos h]
      exact met_nodup f n
    · rw [if_neg h, List.nodup_append]
      refine ⟨met_nodup f n, by simp, fun a ha b hb e => h ?_⟩
      have hb2 : b = f n := by simpa using hb
      exact List.any_eq_true.mpr ⟨a, ha, by rw [e, hb2]; simp⟩
theorem met_mem (ns : List Int) (k : Int) : k ∈ firstMet (fun i => ns.getD i 0) ns.length ↔ k ∈ ns := by
  have h := firstMet_any (fun i => ns.getD i 0) ns.length k
  have e : (List.range ns.length).map (fun i => ns.getD i 0) = ns := by
    apply List.ext_getElem (by simp)
    intro i h1 h2
    simp [h2]
  rw [e] at h
  constructor
  · intro m
    have q : (firstMet (fun i => ns.getD i 0) ns.length).any (· == k) = true := List.any_eq_true.mpr ⟨k, m, by simp⟩
    rw [h] at q
    obtain ⟨a, ha, hk⟩ := List.any_eq_true.mp q
    rw [← beq_iff_eq.mp hk]
    exact ha
  · intro m
    have q : ns.any (· == k) = true := List.any_eq_true.mpr ⟨k, m, by simp⟩
    rw [← h] at q
    obtain ⟨a, ha, hk⟩ := List.any_eq_true.mp q
    rw [← beq_iff_eq.mp hk]
    exact ha
theorem len_of_mem {α : Type} [DecidableEq α] {l m : List α} (h1 : l.Nodup) (h2 : m.Nodup) (h : ∀ k, k ∈ l ↔ k ∈ m) : l.length = m.length := (List.perm_ext_iff_of_nodup h1 h2 |>.mpr h).length_eq
def tLenSetA (K : PySem.W.Frag) (ta : TE) : TE := fun σ H Q => ta σ H fun x H1 => ∃ (l : Addr) (ns L : List Int), x = .ref l ∧ (SqL K H1 l (ns.map V.int) ∨ SqT K H1 l (ns.map V.int)) ∧ ns.length ≤ 1000 ∧ L.Nodup ∧ (∀ k, k ∈ L ↔ k ∈ ns) ∧ Q (.int (L.length : Nat)) H1
section
variable {X : Cx}
theorem pe_lenSetA {a : Expr} {ta : TE} {p p2 q pos : Pos} (gL : Gl X "len") (mL : X.mg "len" = none) (gS : Gl X "set") (mS : X.mg "set" = none) (ha : PE X a ta) (cm : X.calm = true := by rfl)
    (na : starEach [a] X.env = (false, eval a X.env) :: starEach [] X.env := by rfl) : PE X (.Call (.Name "len" p) [.Call (.Name "set" p2) [a] [] q] [] pos) (tLenSetA X.K ta) := by
  refine ⟨fun pins s σ H Q I h => Call_ (ld_blt I gL mL boot_len ?_)⟩
  refine PyProof.Rows.callWith_builtin1 (PyProof.Rows.args_cons (Call_ (ld_blt I gS mS boot_set ?_)) rfl) rfl rfl
  refine PyProof.Rows.callWith_type1 (PyProof.Rows.args_cons (thn (ha.run pins s σ H _ I h) fun v s1 ⟨x, H1, I1, rx, ans⟩ => PyProof.Rows.args_nil ?_) na) na rfl
  obtain ⟨l, ns, L, rfl, hq, hl, hL, hm, qq⟩ := ans
  cases rx
  rcases hq with hq | hq
  · obtain ⟨its, rv, pl, _⟩ := I1.list hq
    have sz : its.toArray.size = ns.length := by rw [List.size_toArray, ← rv.length, List.length_map]
    refine call_set_list (I1.ok.hd cm) pl.isList (by simpa using RZ.intsAre_vals rv) (by rw [sz]; unfold scanBound; omega) fun h' tk hS hk => PyProof.Rows.args_nil ?_
    rw [sz] at hS
    obtain ⟨o, es, ep, t, ho, hex, hd, _, _, _, hf, hn⟩ := hS
    have eL : es.size = L.length := hn.trans (len_of_mem (met_nodup _ _) hL fun k => (met_mem ns k).trans (hm k).symm)
    have I2 : Inv X pins σ H1 { s1 with heap := h', toks := tk } := I1.kept fun b o e => hk b o (Heap.lt_size e) e
    exact call_len_set ho hex hd hf (by rw [hn]; have := firstMet_length_le (fun i => ns.getD i 0) ns.length; omega) ⟨.int (L.length : Nat), H1, I2.tok _, ⟨_, by rw [eL]⟩, qq⟩
  · obtain ⟨its, rv, pt, _⟩ := I1.tuple hq
    refine call_set_tupI ns (I1.ok.hd cm) (show s1.heap.IsTuple l its.toArray from pt) (by simpa using RZ.intsAre_vals rv) (by unfold scanBound; omega) fun h' tk c R hc k => PyProof.Rows.args_nil ?_
    obtain ⟨o, es, ep, t, ho, hex, hd, _, nd, hmm, _, hf, hn, _, _⟩ := R
    have eL : es.size = L.length := by
      rw [← Array.length_toList, ← List.length_map (f := keyOf)]
      exact len_of_mem nd hL fun j => by rw [← hmm j, decide_eq_true_eq, hm j]
    have I2 : Inv X pins σ H1 { s1 with heap := h', toks := tk } := I1.kept k
    exact call_len_set ho hex hd hf (by rw [hn]; omega) ⟨.int (L.length : Nat), H1, I2.tok _, ⟨_, by rw [eL]⟩, qq⟩
end
theorem ev_lenSet {K : PySem.W.Frag} {σ : L2.St} {H : Hp} {ta : TE} {l : Addr} (ns L : List Int) (ha : Ev ta σ H (.ref l)) (hs : SqL K H l (ns.map V.int) ∨ SqT K H l (ns.map V.int)) (hz : ns.length ≤ 1000) (hL : L.Nodup) (hm : ∀ k, k ∈ L ↔ k ∈ ns) :
    Ev (tLenSetA K ta) σ H (.int (L.length : Nat)) := fun H1 e Q q => ha H1 e _ fun H2 e2 => ⟨l, ns, L, rfl, hs.imp (ex_l (e.trans e2)) (ex_t (e.trans e2)), hz, hL, hm, q H2 e2⟩
/-! ### a for over a list or a tuple -/
def iLT (K : PySem.W.Frag) (tl : TE) : TI := fun σ H R => tl σ H fun x H1 => ∃ a, x = .ref a ∧ (((∃ xs, SqL K H1 a xs) ∧ R (Itl K a) H1) ∨ (∃ xs, SqT K H1 a xs) ∧ R (Itt K a) H1)
theorem pi_lt {X : Cx} {tg l : Expr} {tl : TE} (hl : PE X l tl) : PI X tg l (iLT X.K tl) := by
  refine ⟨fun pins s σ H R I h => thn (hl.run pins s σ H _ I h) fun v s1 ⟨x, Hb, Ib, rx, a, ex, q1⟩ => ?_⟩
  subst ex
  cases rx
  have own : ∀ b ∈ [s1.heap.objs.size], FpOk X pins Hb b := fun b hb => by
    obtain rfl : b = s1.heap.objs.size := by simpa using hb
    exact Ib.fpOk (Nat.le_refl _) (Ib.hok.fresh (Nat.le_refl _))
  rcases q1 with ⟨⟨xs, hq⟩, q⟩ | ⟨⟨xs, hq⟩, q⟩
  · obtain ⟨its, _, pl, _⟩ := Ib.list hq
    exact wpAny_pyIter_list pl.isList ⟨_, [s1.heap.objs.size], _, _, Hb, rfl, Ib.kept (t' := s1.toks) fun b o e => Heap.get?_push_of_some _ e, turn_list a _, ⟨_, Heap.get?_push_size _ rfl, rfl, rfl⟩, own, q⟩
  · obtain ⟨its, _, pt, _⟩ := Ib.tuple hq
    exact wpAny_pyIter_tuple (show s1.heap.IsTuple a its.toArray from pt) ⟨_, [s1.heap.objs.size], _, _, Hb, rfl, Ib.kept (t' := s1.toks) fun b o e => Heap.get?_push_of_some _ e, turn_tuple a _, ⟨_, Heap.get?_push_size _ rfl, rfl, rfl⟩, own, q⟩
theorem iw_lt {K : PySem.W.Frag} {σ : L2.St} {H : Hp} {te : TE} {p : Addr} {xs : List V} (h : Ev te σ H (.ref p)) (hx : SqL K H p xs ∨ SqT K H p xs) : IvW (iLT K te) σ H xs.length (YAt xs) := fun H1 e R k =>
  h H1 e _ fun H2 e2 => ⟨p, rfl, hx.imp (fun hx => ⟨⟨xs, ex_l (e.trans e2) hx⟩, k _ H2 _ H e2 (Ex.refl _) (e.trans e2) (fun _ _ _ h => h) walk_list fun H3 e3 => ex_l e3 hx⟩) (fun hx => ⟨⟨xs, ex_t (e.trans e2) hx⟩, k _ H2 _ H e2 (Ex.refl _) (e.trans e2) (fun _ _ _ h => h) walk_tup fun H3 e3 => ex_t e3 hx⟩)⟩
/-- its type -/
theorem tyx_l {K : PySem.W.Frag} {H : Hp} {p : Addr} {xs : List V} (h : SqL K H p xs) : TyX K H (.ref p) (.type "list") := by
  rcases h with (h | ⟨o, h⟩) | ⟨o, _, _, h, c, _⟩
  · exact .base (.lst h)
  · exact .base (.frz h)
  · exact .kList h c
theorem tyx_t {K : PySem.W.Frag} {H : Hp} {p : Addr} {xs : List V} (h : SqT K H p xs) : TyX K H (.ref p) (.type "tuple") := by
  rcases h with (h | ⟨o, h⟩) | ⟨o, _, _, h, c, _⟩
  · exact .base (.tup h)
  · exact .fTuple h
  · exact .kTuple h c
theorem tyx_d {K : PySem.W.Frag} {H : Hp} {d : Addr} {kvs : List (Key × V)} (h : FD H d kvs) : TyX K H (.ref d) (.type "dict") := by
  obtain ⟨o, h⟩ := h
  exact .fDict h
end K33
/-! text Kr -/
set_option Elab.async false
set_option linter.all false
set_option maxRecDepth 100000
set_option maxHeartbeats 4000000
namespace K33
open PySem PySem.Spec PyProof.Rows L2 Evl
/-! ### readers' rows as data -/
/-- a text of one sign -/
def sg (c : Nat) : Str := ⟨#[c]⟩
/-- sign, goal, what is told -/
abbrev Mv := Nat × Nat × Option Str
abbrev Row := List Mv
def tv : Option Str → V
  | none => .non
  | some z => .str z
/-- the row r at d -/
def RowAt (K : PySem.W.Frag) (H : Hp) (d : Addr) (r : Row) : Prop := ∃ kvs : List (Key × V), FD H d kvs ∧ kvs.length = r.length ∧ ∀ (i : Nat) (e : Mv), r[i]? = some e → ∃ t, kvs[i]? = some (.inr (sg e.1), .ref t) ∧ SqT K H t [.int e.2.1, tv e.2.2]
def RowsA (K : PySem.W.Frag) (H : Hp) (ds : List Addr) (rows : List Row) : Prop := ds.length = rows.length ∧ ∀ (i : Nat) (r : Row), rows[i]? = some r → ∃ d, ds[i]? = some d ∧ RowAt K H d r
def RowsL (K : PySem.W.Frag) (H : Hp) (p : Addr) (rows : List Row) : Prop := ∃ ds : List Addr, SqL K H p (ds.map V.ref) ∧ RowsA K H ds rows
def RowsT (K : PySem.W.Frag) (H : Hp) (p : Addr) (rows : List Row) : Prop := ∃ ds : List Addr, SqT K H p (ds.map V.ref) ∧ RowsA K H ds rows
section
variable {K : PySem.W.Frag} {σ : L2.St} {H H' H1 H2 : Hp} {ta tb tc te tx td ty : TE} {t u : TT} {x y z v : V} {d p : Addr} {r : Row} {rows : List Row}
theorem RowAt.mono (h : RowAt K H d r) (e : Ex H H') : RowAt K H' d r := by
  obtain ⟨kvs, f, l, q⟩ := h
  refine ⟨kvs, f.mono e, l, fun i a ha => ?_⟩
  obtain ⟨t, h1, h2⟩ := q i a ha
  exact ⟨t, h1, ex_t e h2⟩
theorem RowsA.mono {ds : List Addr} (h : RowsA K H ds rows) (e : Ex H H') : RowsA K H' ds rows := ⟨h.1, fun i r hr => by
  obtain ⟨d, h1, h2⟩ := h.2 i r hr
  exact ⟨d, h1, h2.mono e⟩⟩
theorem RowsL.mono (h : RowsL K H p rows) (e : Ex H H') : RowsL K H' p rows := by
  obtain ⟨ds, h1, h2⟩ := h
  exact ⟨ds, ex_l e h1, h2.mono e⟩
theorem RowsT.mono (h : RowsT K H p rows) (e : Ex H H') : RowsT K H' p rows := by
  obtain ⟨ds, h1, h2⟩ := h
  exact ⟨ds, ex_t e h1, h2.mono e⟩
/-! ### more values -/
theorem ev_isN (ha : Ev ta σ H x) : Ev (tIsN ta) σ H (.bl (decide (x = .non))) := fun H1 e Q q => ha H1 e _ fun H2 e2 => q H2 e2
theorem ev_notN (ha : Ev ta σ H x) : Ev (tNotN ta) σ H (.bl (!decide (x = .non))) := fun H1 e Q q => ha H1 e _ fun H2 e2 => q H2 e2
theorem tv_non (o : Option Str) : decide (tv o = .non) = o.isNone := by
  cases o <;> rfl
/-- what a read-only dict answers -/
theorem FD.get {kvs : List (Key × V)} (h : FD H d kvs) (k : Key) : DGet H d (kV k) (valV kvs k) := by
  obtain ⟨o, h⟩ := h
  exact .inl ⟨kvs, k, .inr ⟨o, h⟩, rfl, rfl⟩
theorem ev_din {kvs : List (Key × V)} {k : Key} (ha : Ev ty σ H (kV k)) (hd : Ev td σ H (.ref d)) (h : FD H d kvs) : Ev (tDIn ty td) σ H (.bl (valV kvs k).isSome) := fun H1 e Q q =>
  ha H1 e _ fun H2 e2 => hd H2 (e.trans e2) _ fun H3 e3 => ⟨d, _, rfl, (h.mono ((e.trans e2).trans e3)).get k, q H3 (e2.trans e3)⟩
theorem ev_dnin {kvs : List (Key × V)} {k : Key} (ha : Ev ty σ H (kV k)) (hd : Ev td σ H (.ref d)) (h : FD H d kvs) : Ev (tDNotIn ty td) σ H (.bl (!(valV kvs k).isSome)) := fun H1 e Q q =>
  ha H1 e _ fun H2 e2 => hd H2 (e.trans e2) _ fun H3 e3 => ⟨d, _, rfl, (h.mono ((e.trans e2).trans e3)).get k, q H3 (e2.trans e3)⟩
theorem atI_nat {xs : List V} {i : Nat} {v : V} (h : xs[i]? = some v) : atI xs (i : Int) = some v := by
  have hi := (List.getElem?_eq_some_iff.mp h).1
  unfold atI
  rw [ixN_nat hi]
  exact h
/-- the turn's pair -/
theorem pair_at {xs ys : Nat → Option V} {i : Nat} {Ha Hb : Hp} {a b : V} (y : YPair xs ys i Ha x Hb) (ha : xs i = some a) (hb : ys i = some b) : ∃ T, x = .ref T ∧ Ha T = none ∧ Hb = upd Ha T (.tup [a, b]) := by
  obtain ⟨T, a', b', h1, h2, h3, h4, h5⟩ := y
  rw [ha] at h4
  rw [hb] at h5
  cases h4
  cases h5
  exact ⟨T, h1, h2, h3⟩
/-- turns of a walk, the body read for any next word -/
theorem turns {J : It} {n : Nat} {G : Hp → Prop} {Y : Nat → Hp → V → Hp → Prop} (w : Walk J n G Y) {H0 : Hp} {Stp : Hp → Prop} {body : (Hp → Prop) → V → Hp → Prop} (Pv : Nat → Hp → Prop) (h0 : Pv 0 H0) (hG : ∀ i H, i ≤ n → Pv i H → G H)
    (hs : ∀ i x H H', i < n → Pv i H → Y i H x H' → body (Pv (i + 1)) x H') (hd : ∀ H, Pv n H → Stp H) :
    ∃ W : Nat → Nat → Hp → Prop, (∃ m, W 0 m H0) ∧ ∀ i m H, W i m H → (J.stop i H ∧ Stp H) ∨ (J.go i H ∧ ∃ Nx : Hp → Prop, (∀ H', Nx H' → ∃ m', m' < m ∧ W (i + 1) m' H') ∧ ∀ x H', J.yld i H x H' → body Nx x H') := by
  refine ⟨fun i m H => m = n - i ∧ i ≤ n ∧ Pv i H, ⟨n, rfl, Nat.zero_le _, h0⟩, ?_⟩
  rintro i m H ⟨rfl, hi, p⟩
  have q := hG i H hi p
  by_cases lt : i < n
  · exact .inr ⟨w.goes i H lt q, Pv (i + 1), fun H' p' => ⟨n - (i + 1), by omega, rfl, lt, p'⟩, fun x H' y => hs i x H H' lt p (w.yields i H x H' lt q y)⟩
  · have e : i = n := by omega
    subst e
    exact .inl ⟨w.stops H q, hd H p⟩
/-- [u b for a in l for b in f a if p b] -/
theorem el_flat {α β : Type} (l : List α) (f : α → List β) (p : β → Bool) (u : β → V) {wi wi1 : TI} {g g1 : TG} {t1 : TT} {vs vs1 : List Nat} {n : Nat} {Y : Nat → Hp → V → Hp → Prop} (hw : IvW wi σ H n Y) (hn : n = l.length) (hz : (l.flatMap f).length ≤ 50000)
    (turn : ∀ (i : Nat) (a : α) (x : V) (Ha Hb : Hp), l[i]? = some a → Ex H Ha → Y i Ha x Hb → ∀ k : L2.St → Hp → Prop, (∀ σ2 H2 n1 Y1, Ex Ha H2 → wipe σ2 vs = wipe σ vs → (∀ D, H D = none → IvW wi1 σ2 (del D H2) n1 Y1) → n1 = (f a).length →
      (∀ (D : Addr) (j : Nat) (b : β) (x1 : V) (Hc Hd : Hp), (f a)[j]? = some b → H D = none → Ex (del D H2) Hc → Y1 j Hc x1 Hd → ∀ k1 : L2.St → Hp → Prop, (∀ σ3 H5, Ex Hc H5 → wipe σ3 vs1 = wipe σ2 vs1 → EvT t1 σ3 H5 (p b) → (p b = true → Ev te σ3 H5 (u b)) → k1 σ3 H5) → g1 x1 (wipe σ2 vs1) Hd k1) → k σ2 H2) → g x (wipe σ vs) Hb k) :
    EvL (tLc2 wi g tYes wi1 g1 t1 te vs vs1) σ H (((l.flatMap f).filter p).map u) := fun H0 e Q q => hw H0 e _ fun J H1 G G0 e1 eg1 eg2 _ W hG D hD => by
  subst hn
  have bd : ∀ m : List β, m.length ≤ (l.flatMap f).length → ((m.filter p).map u).length < sizeLine := fun m hm => by
    rw [List.length_map]
    exact sz_lt (by have := List.length_filter_le p m; omega)
  have pre : ∀ i, ((l.take i).flatMap f).length ≤ (l.flatMap f).length := fun i => by
    have h : l.flatMap f = (l.take i).flatMap f ++ (l.drop i).flatMap f := by rw [← List.flatMap_append, List.take_append_drop]
    rw [h, List.length_append]
    omega
  refine turns W (fun i H' => H' D = some (.lst ((((l.take i).flatMap f).filter p).map u)) ∧ Ex H1 H') ⟨by rw [List.take_zero]; exact upd_same, Ex.new hD⟩ (fun i H' _ h => hG H' (eg2.trans h.2)) (fun i x Ha Hb hi h y => ?_) fun H' h => ?_
  · obtain ⟨a, ha⟩ : ∃ a, l[i]? = some a := ⟨l[i], List.getElem?_eq_getElem hi⟩
    have et : (l.take (i + 1)).flatMap f = (l.take i).flatMap f ++ f a := by
      rw [List.take_succ, ha, List.flatMap_append]
      simp
    refine turn i a x Ha Hb ha ((e.trans e1).trans h.2) y _ fun σ2 H2 n1 Y1 e2 wp hw1 hn1 turn1 => ⟨wp, et_yes H2 (Ex.refl _) _ fun H2' e2' => iteT ?_⟩
    subst hn1
    refine hw1 D (fresh_back (e.trans e1) hD) H2' (del_le.trans e2') _ fun J1 H3 G1 G2 e3 f1 f2 f3 W1 hG1 => ?_
    have hD2 := e2' D _ (e2 D _ h.1)
    have nD : G2 D = none := f3 D _ hD2 del_same
    have up : ∀ {H' : Hp} {o : HO}, Ex G2 H' → Ex G2 (upd H' D o) := fun e => Ex.mut e nD
    refine turns W1 (fun j H' => H' D = some (.lst ((((l.take i).flatMap f ++ (f a).take j).filter p).map u)) ∧ Ex H1 H' ∧ Ex G2 H') ⟨by rw [List.take_zero, List.append_nil]; exact e3 D _ hD2, ((h.2.trans e2).trans e2').trans e3, f2⟩ (fun j H' _ h' => hG1 H' h'.2.2) (fun j x1 Hc Hd hj h' y1 => ?_) fun H' h' => ?_
    · obtain ⟨b, hb⟩ : ∃ b, (f a)[j]? = some b := ⟨(f a)[j], List.getElem?_eq_getElem hj⟩
      have et1 : (f a).take (j + 1) = (f a).take j ++ [b] := by rw [List.take_succ, hb]; rfl
      refine turn1 D j b x1 Hc Hd hb (fresh_back (e.trans e1) hD) (f1.trans h'.2.2) y1 _ fun σ3 H5 e5 wp1 ht he => ⟨wp1, ?_⟩
      refine ht H5 (Ex.refl _) _ fun H6 e6 => ?_
      cases hp : p b with
      | true =>
        refine iteT (he hp H6 e6 _ fun H7 e7 => ⟨_, e7 D _ (e6 D _ (e5 D _ h'.1)), bd _ ?_, ?_, ?_, ?_⟩)
        · have q1 := pre (i + 1)
          rw [et, List.length_append] at q1
          have q2 : ((f a).take j).length ≤ (f a).length := by rw [List.length_take]; omega
          rw [List.length_append]
          omega
        · rw [upd_same, et1]
          simp [hp]
        · exact Ex.mut (((h'.2.1.trans e5).trans e6).trans e7) hD
        · exact up (((h'.2.2.trans e5).trans e6).trans e7)
      | false =>
        refine iteF ⟨?_, (h'.2.1.trans e5).trans e6, (h'.2.2.trans e5).trans e6⟩
        have q1 := e6 D _ (e5 D _ h'.1)
        rw [q1, et1]
        simp [hp]
    · refine ⟨?_, h'.2.1⟩
      have q1 := h'.1
      rw [List.take_length, ← et] at q1
      exact q1
  · refine q D H' (fresh_back e1 hD) (e1.trans h.2) ?_
    have h1 := h.1
    rw [List.take_length] at h1
    exact h1
/-! ### for over a dict that is read only, the walk kept by the loop's own word -/
variable {D : Ends} {tu tz : TS} {g : TG}
theorem s_forVals {kvs : List (Key × V)} (hd : Ev td σ H (.ref d)) (h : FD H d kvs) (Pv : Nat → L2.St → Hp → Prop) (h0 : ∀ H1, Ex H H1 → Pv 0 σ H1) (hG : ∀ i σ' H', i ≤ kvs.length → Pv i σ' H' → ∀ o, H d = some o → H' d = some o)
    (hs : ∀ i k x σ' H', kvs[i]? = some (k, x) → Pv i σ' H' → g x σ' H' fun σ2 H2 => tu { D with nx := Pv (i + 1), ct := Pv (i + 1), bk := D.nx } σ2 H2) (hn : ∀ σ' H', Pv kvs.length σ' H' → D.nx σ' H') : tFor (iVals td) g tu D σ H := by
  obtain ⟨o, h⟩ := h
  exact hd H (Ex.refl _) _ fun H1 e1 => ⟨d, o, kvs, rfl, e1 _ _ h, for_it walk_values Pv (h0 H1 e1) (fun i σ' H' hi p => hG i σ' H' hi p _ h) (fun i x σ' Ha Hb hi p y => by
    obtain ⟨rfl, k, hk⟩ := y
    exact hs i k x σ' _ hk p) hn⟩
theorem q_forVals {kvs : List (Key × V)} (hd : Ev td σ H (.ref d)) (h : FD H d kvs) (Pv : Nat → L2.St → Hp → Prop) (h0 : ∀ H1, Ex H H1 → Pv 0 σ H1) (hG : ∀ i σ' H', i ≤ kvs.length → Pv i σ' H' → ∀ o, H d = some o → H' d = some o)
    (hs : ∀ i k x σ' H', kvs[i]? = some (k, x) → Pv i σ' H' → g x σ' H' fun σ2 H2 => tu { D with nx := Pv (i + 1), ct := Pv (i + 1), bk := tz D } σ2 H2) (hn : ∀ σ' H', Pv kvs.length σ' H' → tz D σ' H') : tSeq (tFor (iVals td) g tu) tz D σ H :=
  s_forVals (D := { D with nx := tz D }) hd h Pv h0 hG hs hn
theorem s_forItems {kvs : List (Key × V)} (hd : Ev td σ H (.ref d)) (h : FD H d kvs) (Pv : Nat → L2.St → Hp → Prop) (h0 : ∀ H1, Ex H H1 → Pv 0 σ H1) (hG : ∀ i σ' H', i ≤ kvs.length → Pv i σ' H' → ∀ o, H d = some o → H' d = some o)
    (hs : ∀ i k x σ' H' t, kvs[i]? = some (k, x) → Pv i σ' H' → H' t = none → g (.ref t) σ' (upd H' t (.tup [kV k, x])) fun σ2 H2 => tu { D with nx := Pv (i + 1), ct := Pv (i + 1), bk := D.nx } σ2 H2) (hn : ∀ σ' H', Pv kvs.length σ' H' → D.nx σ' H') : tFor (iItems td) g tu D σ H := by
  obtain ⟨o, h⟩ := h
  exact hd H (Ex.refl _) _ fun H1 e1 => ⟨d, o, kvs, rfl, e1 _ _ h, for_it walk_items Pv (h0 H1 e1) (fun i σ' H' hi p => hG i σ' H' hi p _ h) (fun i x σ' Ha Hb hi p y => by
    obtain ⟨T, a, b, rfl, hT, rfl, ha, hb⟩ := y
    have ha : kvs[i]?.map (fun kv => kV kv.1) = some a := ha
    have hb : kvs[i]?.map Prod.snd = some b := hb
    cases hk : kvs[i]? with
    | none => rw [hk] at ha; cases ha
    | some q =>
      rw [hk] at ha hb
      cases ha
      cases hb
      exact hs i q.1 q.2 σ' _ T hk p hT) hn⟩
end
end K33
/-! text Ko -/
set_option Elab.async false
set_option linter.all false
set_option maxRecDepth 100000
set_option maxHeartbeats 4000000
/-! own objects: x in o, len(o), o.f, C.f -/
namespace K33
open PySem PySem.Spec PyProof.Rows L2 Evl
/-- x in o, x not in o by an own __contains__ -/
def rOwnIn (C : Addr) (sp : Sp) (neg : Bool) : R2 := fun x y H Q => ∃ (a dx : Addr) (fs : List (Str × V)), y = .ref a ∧ H a = some (.ins C dx fs) ∧ sp [.ref a, x] H (fun v H' => ∃ b, v = .bl b ∧ Q (.bl (if neg then !b else b)) H') E0
/-- len(o) by an own __len__ -/
def tOwnLen (C : Addr) (sp : Sp) (ta : TE) : TE := fun σ H Q => ta σ H fun x H1 => ∃ (a dx : Addr) (fs : List (Str × V)), x = .ref a ∧ H1 a = some (.ins C dx fs) ∧ sp [.ref a] H1 (fun v H' => ∃ n : Nat, n < 2 ^ 62 ∧ v = .int n ∧ Q (.int n) H') E0
section
variable {X : Cx} {k : Nat} {C f : Addr} {ps : List Str} {sp : Sp}
theorem own_contains {pins : List (Addr × Obj)} {σ : L2.St} {H : Hp} {s : Shared} {a dx : Addr} {fs : List (Str × V)} {v : Value} {x : V} {Q : Bool → Hp → Prop} {R : Bool → Shared → Prop} (F : OkF X.prog X.w X.K X.mg X.base k f ps sp) (hr : Room k X.A) (m : Meth X.K C "__contains__" f) (I : Inv X pins σ H s)
    (ha : H a = some (.ins C dx fs)) (rx : RelV x v) (h : sp [.ref a, x] H (fun v H' => ∃ b, v = .bl b ∧ Q b H') E0) (fin : ∀ b H' s', Inv X pins σ H' s' → Q b H' → R b s') : wpAny (model X.prog X.w) X.A (contains (.ref a) v) R X.xe s := by
  obtain ⟨fd, F, hb⟩ := F
  obtain ⟨mA, O, _, _, _, _⟩ := ins_get I.hok ha
  obtain ⟨od, J, _⟩ := O.look
  unfold contains
  refine wpAny_holding (wpAny_bind (wpAny_bind (J.type.here ((PySem.W.looks_findIn I.kIn m.at_).here ?_))))
  rw [if_neg (by simp)]
  refine wpAny_bind (PySem.W.unlessNone_K I.kIn J m.at_ m.fn ?_)
  refine wpAny_mono (run_fn (dvs := []) (ds := []) F hr hb .nil pass0 I (vs := [.ref a, x]) (us := [.ref a, v]) (Q := fun v H' => ∃ b, v = .bl b ∧ Q b H') (.cons rfl (.cons rx .nil)) h) (fun r s' ⟨z, H', I', rz, b, ez, q⟩ => ?_) fun _ _ y => y
  subst ez
  cases rz
  exact wpAny_pure (fin b H' s' I' q)
theorem op_ownNotIn (F : OkF X.prog X.w X.K X.mg X.base k f ps sp) (hr : Room k X.A) (m : Meth X.K C "__contains__" f) : OpR X (compareOp .NotIn) (rOwnIn C sp true) := by
  intro pins s σ H x y v u Q I rx ry h
  obtain ⟨a, dx, fs, rfl, ha, h⟩ := h
  cases ry
  exact wpAny_bind (own_contains F hr m I ha rx h fun b H' s' I' q => wpAny_pure ⟨.bl (!b), H', I', rfl, q⟩)
theorem pe_ownLen {a : Expr} {ta : TE} {p pos : Pos} (F : OkF X.prog X.w X.K X.mg X.base k f ps sp) (hr : Room (k + 1) X.A) (m : Meth X.K C "__len__" f) (gL : Gl X "len") (mL : X.mg "len" = none) (ha : PE X a ta)
    (na : starEach [a] X.env = (false, eval a X.env) :: starEach [] X.env := by rfl) : PE X (.Call (.Name "len" p) [a] [] pos) (tOwnLen C sp ta) := by
  obtain ⟨fd, F, hb⟩ := F
  refine ⟨fun pins s σ H Q I h => Call_ (ld_blt I gL mL boot_len ?_)⟩
  refine PyProof.Rows.callWith_builtin1 (PyProof.Rows.args_cons (thn (ha.run pins s σ H _ I h) fun v s1 ⟨x, H1, I1, rx, o, dx, fs, ex, ho, q⟩ => PyProof.Rows.args_nil ?_) na) na rfl
  subst ex
  cases rx
  obtain ⟨mA, O, _, _, _, _⟩ := ins_get I1.hok ho
  obtain ⟨od, J, _⟩ := O.look
  refine Calls.call_function_entry kind_len plain_len entry_len (args_len1 _) ?_; unfold Builtin.«len»
  refine wpAny_bind (m := oneArg "len" _) (wpAny_pure ?_)
  refine wpAny_bind (m := callSpecial? (.ref o) (Str.ofString "__len__")) (PySem.W.special_fn I1.kIn J m.at_ (beq_iff_eq.mp m.fn) (wpAny_call (codeAny_mono (F.run X.A.in1 X.stack s1 H1 ⟨[.ref o], []⟩ [.ref o] [.ref o] _ E0 hr.in1 I1.env0.in1 (hb _ [.ref o] I1.kIn (by rw [← F.len _ _ _ _ q] <;> rfl)) (.cons rfl .nil) q) fun r s' hq => ?_)))
  cases r with
  | error e => exact False.elim hq
  | ok fl =>
    cases fl with
    | ret u =>
      obtain ⟨z, H', I2, rz, n, hn, ez, q3⟩ := I1.after hq
      subst ez
      obtain ⟨t, rfl⟩ := rz
      refine wpAny_bind (wpAny_holding (wpAny_pure (wpAny_bind (wpAny_letGo ?_))))
      show wpAny _ _ (if (n : Int) < 0 then _ else _) _ _ _
      rw [if_neg (by omega)]
      show wpAny _ _ (if (n : Int) ≥ 2 ^ 63 then _ else _) _ _ _
      rw [if_neg (by omega)]
      exact wpAny_bind (wpAny_mkInt (wpAny_pure ⟨_, rfl, .int n, H', I2.tok _, ⟨_, rfl⟩, q3⟩))
    | next => exact False.elim hq
    | brk => exact False.elim hq
    | cont => exact False.elim hq
end
section
variable {K : PySem.W.Frag} {mg : Str → Option Value} {σ : L2.St} {H : Hp} {ta : TE} {a dx : Addr} {fs : List (Str × V)} {v x : V} {c f : Str} {flds : List Str}
theorem ev_fld (cf : ClassF K mg c flds) (hf : f ∈ flds) (ha : Ev ta σ H (.ref a)) (h : H a = some (.ins (clsOf mg c) dx fs)) (hl : fs.lookup f = some v) : Ev (tFld K ta f) σ H v := fun H1 e Q q =>
  ha H1 e _ fun H2 e2 => ⟨a, _, dx, fs, v, rfl, e2 _ _ (e _ _ h), cf.cls, cf.no f hf, hl, q H2 e2⟩
theorem ev_cval (T : Txt K mg) (hc : c = "Reader") (ha : Ev ta σ H (.ref (clsOf mg c))) : Ev (ClX.tCVal K ta "MAX_STATES") σ H (.int 12) := fun H1 e Q q => by
  subst hc
  obtain ⟨mc, u, h1, h2⟩ := T.Reader_max
  exact ha H1 e _ fun H2 e2 => ⟨_, mc, _, u, rfl, h1, h2, q H2 e2⟩
end
end K33
/-! text Kv -/
set_option Elab.async false
set_option linter.all false
set_option maxRecDepth 100000
set_option maxHeartbeats 4000000
/-! sorted(d.items()) of a dict with text keys -/
namespace K33
open PySem PySem.Spec PyProof.Rows L2 Evl
/-- the key of a pair that starts by a text -/
def kTx (h : Heap) (v : Value) : Str := match v with
  | .ref a => match h.get? a with
    | some o => match o.data with
      | .seq xs _ => match xs.toList with
        | Value.str k _ :: _ => k
        | _ => Str.empty
      | _ => Str.empty
    | none => Str.empty
  | _ => Str.empty
def IsTP (h : Heap) (v : Value) (k : Str) : Prop := ∃ a t x, v = Value.ref a ∧ h.get? a = some { cls := .type "tuple", data := .seq #[.str k t, x] }
theorem IsTP.tx {h : Heap} {v : Value} {k : Str} (p : IsTP h v k) : kTx h v = k := by
  obtain ⟨a, t, x, rfl, e⟩ := p
  unfold kTx
  simp [e]
theorem IsTP.keeps {h h' : Heap} {v : Value} {k : Str} (p : IsTP h v k) (kp : ∀ b o, h.get? b = some o → o.cls = .type "tuple" → h'.get? b = some o) : IsTP h' v k := by
  obtain ⟨a, t, x, rfl, e⟩ := p
  exact ⟨a, t, x, rfl, kp _ _ e rfl⟩
def ltTx (f : Value → Str) (v u : Value) : Bool := decide ((f v).cps.toList < (f u).cps.toList)
theorem swo_tx (f : Value → Str) : SrtO.Swo (ltTx f) := by
  unfold ltTx
  refine ⟨fun x y h => ?_, fun x y z h1 h2 => ?_⟩
  · have a := of_decide_eq_true h
    exact decide_eq_false fun b => List.lt_irrefl _ (List.lt_trans a b)
  · have a := of_decide_eq_false h1
    have b := of_decide_eq_false h2
    refine decide_eq_false fun c => ?_
    have a' := List.not_lt.mp a
    have b' := List.not_lt.mp b
    exact absurd c (List.not_lt.mpr (List.le_trans a' b'))
section
variable {prog : Program} {w : World} {A : Around} {s : Shared}
theorem tp_cmp {f : Value → Str} {vs : List Value} (hp : ∀ v ∈ vs, IsTP s.heap v (f v)) (inj : ∀ v ∈ vs, ∀ u ∈ vs, f v = f u → v = u) : SrtO.Cmp prog w A s (tuples' true) (fun p => p.1 ∈ vs) (SrtO.lt2 (ltTx f)) := by
  intro p q hm hm'
  obtain ⟨a, t, x, e, ho⟩ := hp _ hm
  obtain ⟨a', t', x', e', ho'⟩ := hp _ hm'
  have one := inj _ hm _ hm'
  show wpAny (model prog w) A (keyLt' (tuples' true) p.1 q.1) (fun r s' => s' = s ∧ r = ltTx f p.1 q.1) (fun _ _ => False) s
  unfold ltTx
  generalize f p.1 = k at ho one ⊢
  generalize f q.1 = k' at ho' one ⊢
  rw [e, e'] at *
  refine PySem.W.kat_lt ho rfl ho' rfl ?_
  show PySem.W.KatLex prog w A true (decide (2 < 2)) _ [(.str k t, .str k' t'), (x, x')] 0 s
  refine PySem.W.kat_cons (SeqAt.EqAt.str_str k t k' t' prog w _ _ (PySem.W.kat_go (fun e1 => ?_) (fun e1 => ?_)))
  · obtain rfl : k = k' := by simpa using e1
    obtain rfl : a = a' := Value.ref.inj (one rfl)
    rw [ho] at ho'
    have ex : x = x' := by
      injection ho' with h1
      injection h1 with h2 h3 h4 h5
      injection h4 with h6
      injection h6 with h7
      injection h7 with h8 h9
      injection h9 with h10
    subst ex
    refine PySem.W.kat_yes (PySem.W.kat_cons (SeqAt.EqAt.same x prog w _ _ (PySem.W.kat_go (fun _ => PySem.W.kat_yes (PySem.W.kat_nil ⟨rfl, ?_⟩)) fun z => by cases z)))
    exact (decide_eq_false (List.lt_irrefl _)).symm
  · exact PySem.W.kat_no (oneLt_str ⟨rfl, rfl⟩)
theorem tp_firsts {h : Heap} : ∀ {vs : List Value}, (∀ v ∈ vs, ∃ k, IsTP h v k) → ∃ fs : List Value, PySem.W.KatTups h vs fs ∧ fs.length = vs.length ∧ ∀ f ∈ fs, ∃ x t, f = Value.str x t
  | [], _ => ⟨[], PySem.W.KatTups.nil, rfl, fun _ hm => by simp at hm⟩
  | v :: vs, hp => by
    obtain ⟨fs, g1, g2, g3⟩ := tp_firsts (vs := vs) fun u hu => hp u (List.mem_cons_of_mem _ hu)
    obtain ⟨k, a, t, x, rfl, e⟩ := hp v List.mem_cons_self
    exact ⟨.str k t :: fs, PySem.W.KatTups.cons e rfl rfl rfl g1, congrArg Nat.succ g2, fun f hf => (List.mem_cons.mp hf).elim (fun z => ⟨k, t, z⟩) (g3 f)⟩
theorem tp_sortable {a : Addr} {f : Value → Str} {vs : List Value} (h0 : 0 < vs.length) (hp : ∀ v ∈ vs, IsTP s.heap v (f v)) (inj : ∀ v ∈ vs, ∀ u ∈ vs, f v = f u → v = u) (ha : ∀ o, s.heap.get? a = some o → o.cls ≠ .type "tuple") : SrtO.SortableO prog w A s a vs (ltTx f) := by
  intro h' kp
  have hp2 : ∀ v ∈ vs, IsTP h' v (f v) := fun v hm => (hp v hm).keeps fun b o e c => kp b o (fun z => by subst z; exact ha o e c) e
  obtain ⟨fs, g1, g2, g3⟩ := tp_firsts fun v hm => ⟨_, hp2 v hm⟩
  refine ⟨tuples' true, fun Q E hq => PySem.W.kat_kind (T := .type "str") g1 (by omega) (fun z hm => ?_) (by rfl) ?_, tp_cmp hp2 inj⟩
  · obtain ⟨x, t, rfl⟩ := g3 z hm
    exact PySem.W.Looks.now
  · rw [show (Value.type "str" != Value.type "tuple") = true by decide +kernel]
    exact hq
end
/-- sorted(e.items()): new pairs in some order -/
def tSortedItems (te : TE) : TE := fun σ H Q => te σ H fun x H1 => ∃ (d : Addr) (kvs : List (Key × V)), x = .ref d ∧ Rd H1 d (.dK kvs) ∧ (∀ p ∈ kvs, ∃ z : Str, p.1 = .inr z) ∧
  ∀ (H' : Hp) (p : Addr) (ts : List Addr) (kvs' : List (Key × V)), kvs'.Perm kvs → Ex H1 H' → H1 p = none → H' p = some (.lst (ts.map V.ref)) → Paired (fun (t : Addr) (q : Key × V) => H' t = some (.tup [kV q.1, q.2])) ts kvs' → Q (.ref p) H'
/-- pairs laid, as the dict's items are walked -/
theorem pairs_laid {X : Cx} {pins : List (Addr × Obj)} {σ : L2.St} {H : Hp} {s : Shared} {h' : Heap} {tk : Nat} {lo : Addr} {kvs : List (Key × V)} {vs : List (Key × Value)} {as : List Addr} (I : Inv X pins σ H s) (kv : KV kvs vs) (le : s.heap.objs.size ≤ lo)
    (hk : ∀ b o, s.heap.get? b = some o → h'.get? b = some o) (hl : as.length = vs.length) (hG : PySem.W.KdxG (mixKind X.prog X.w) vs lo h' as) :
    ∃ H' : Hp, Ex H H' ∧ Paired (fun (t : Addr) (q : Key × V) => H' t = some (.tup [kV q.1, q.2])) as kvs ∧ Inv X pins σ H' { s with heap := h', toks := tk } := by
  have lk : kvs.length = vs.length := Paired.length kv
  have nd : as.Nodup := List.Pairwise.imp (fun {a b} (h : a < b) => Nat.ne_of_lt h) hG.rise
  have new : ∀ t ∈ as, H t = none := fun t ht => I.hok.fresh (Nat.le_trans le (Nat.le_of_lt (hG.above t ht)))
  have atP := LiI.putT_at as kvs H (by omega) nd
  have off : ∀ b, b ∉ as → LiI.putT H as kvs b = H b := fun b h1 => LiI.putT_off as kvs _ h1
  have kp : ∀ b u, H b = some u → LiI.putT H as kvs b = some u := fun b u e => by
    rw [off b (fun z => by rw [new b z] at e; cases e)]
    exact e
  refine ⟨LiI.putT H as kvs, kp, atP, ?_⟩
  refine I.call' (ch := []) rfl ⟨fun b o q _ _ _ => hk b o q, fun b o q _ _ _ => ⟨o.slots, hk b o q⟩, fun b o q n _ => ?_, fun b o q _ => ⟨o, hk b o q⟩, fun b xs q => kp b _ q, fun b o u q => kp b _ q, fun b ps q => ⟨#[], by rw [kp b _ q]; simp⟩⟩ (fun b u q => ?_) I.bare fun b z => by simp at z
  · rw [off b (fun z => absurd (Heap.lt_size q) (Nat.not_lt.mpr (Nat.le_trans le (Nat.le_of_lt (hG.above b z)))))]
    exact n
  · by_cases hb : b ∈ as
    · obtain ⟨j, pk, e1, e2, e3⟩ := LiI.paired_ix atP hb
      rw [e3] at q
      cases q
      obtain ⟨key, k, x, f1, f2, f3⟩ := hG.pairs j b e1
      obtain ⟨qv, g1, g2, g3⟩ := LiI.paired_get kv e2
      rw [f1] at g1
      cases g1
      have rk : RelV (kV pk.1) key := by
        rw [g2]
        exact relV_key (show keyIs k key = true from f2)
      exact ⟨by show 2 ≤ sizeLine; decide, [key, x], .cons rk (.cons g3 .nil), ⟨_, f3, rfl, _, rfl⟩⟩
    · rw [off b hb] at q
      exact (I.hok b u q).stay (fun d v _ y => hk d v y) (fun d y => kp d _ y) fun d xs y => kp d _ y
theorem paired_map {α β : Type} {F : α → β → Prop} (g : α → β) : ∀ {ts : List α}, (∀ t ∈ ts, F t (g t)) → Paired F ts (ts.map g)
  | [], _ => .nil
  | t :: ts, h => .cons (h t List.mem_cons_self) (paired_map g fun u hu => h u (List.mem_cons_of_mem _ hu))
theorem refs_of_perm {as : List Addr} : ∀ {out : List Value}, (∀ v ∈ out, ∃ a, v = Value.ref a) → ∃ ts : List Addr, out = ts.map Value.ref
  | [], _ => ⟨[], rfl⟩
  | v :: out, h => by
    obtain ⟨a, rfl⟩ := h v List.mem_cons_self
    obtain ⟨ts, rfl⟩ := refs_of_perm (as := as) (out := out) fun u hu => h u (List.mem_cons_of_mem _ hu)
    exact ⟨a :: ts, rfl⟩
section
variable {X : Cx} {e : Expr} {te : TE} {p apos cpos pos : Pos}
theorem pe_sortedItems (he : PE X e te) (gL : Gl X "sorted") (mL : X.mg "sorted" = none) (hc : X.calm = true := by rfl) (base : attributeBase e "items" X.env (eval e X.env) = eval e X.env := by rfl) (line : (apos.endLine == cpos.line) = true := by rfl)
    (na : starEach [.Call (.Attribute e "items" apos) [] [] cpos] X.env = (false, eval (.Call (.Attribute e "items" apos) [] [] cpos) X.env) :: starEach [] X.env := by rfl) :
    PE X (.Call (.Name "sorted" p) [.Call (.Attribute e "items" apos) [] [] cpos] [] pos) (tSortedItems te) := by
  refine ⟨fun pins s σ H Q I hq => Call_ (ld_blt I gL mL boot_sorted ?_)⟩
  refine PyProof.Rows.callWith_builtin1 (PyProof.Rows.args_cons ?_ na) na rfl
  refine wpAny_Call_method (T := "dict") (id := "dict.items") base rfl line F.plainAttrs_dict F.slot_dict_items F.type_dict_items (thn (he.run pins s σ H _ I hq) fun u s1 ⟨x, H1, I1, rx, d, kvs, ex, hd, txt, q⟩ => ?_)
  subst ex
  obtain rfl : u = Value.ref d := rx
  obtain ⟨hz, hs0, vs, kv, hdo⟩ := dk_rd I1.hok hd
  obtain ⟨ep, hat⟩ := hdo.dictAt
  have lk : kvs.length = vs.length := Paired.length kv
  have I2 : Inv X pins σ H1 { s1 with heap := s1.heap.push { cls := .type "dict_items", data := .fields #[.ref d] } } := I1.kept (t' := s1.toks) fun b ob q => Heap.get?_push_of_some _ q
  refine ⟨hdo.typeIs, hdo.mapOf.noDict, ?_⟩
  refine method_meetsIn F.slot_dict_items F.entry_dict_items rfl (PySem.evalArgs_none ⟨rfl, hdo.typeIs, F.args_dict_items_1 _, _, meets_dict_items (mixKind X.prog X.w) d hs0, ⟨vs, hdo⟩, PyProof.Rows.args_nil ?_⟩)
  refine Calls.call_function_entry kind_sorted plain_sorted entry_sorted (args_sorted1 _) ?_; unfold Builtin.«sorted»
  refine wpAny_bind (m := checkCount "sorted" 1 1 _) (wpAny_pure (wpAny_bind (PySem.W.kdx_collect (A := X.A.in1) (knd := mixKind X.prog X.w) (kvs := vs) (ep := ep) (I1.ok.hd hc) ⟨_, Heap.get?_push_size _ rfl, rfl, rfl⟩ (hat.push _) (by omega) fun h' tk as hk hl hG => ?_)))
  have le1 : s1.heap.objs.size ≤ (s1.heap.push { cls := .type "dict_items", data := .fields #[.ref d] }).objs.size := by rw [Heap.size_push]; exact Nat.le_succ _
  obtain ⟨H2, e2, at2, J⟩ := pairs_laid (tk := tk) I2 kv (Nat.le_refl _) hk hl hG
  refine wpAny_bind (wpAny_newList ?_ (by rw [List.length_map]; omega))
  have hoL : (h'.push (seqObj "list" (as.map Value.ref).toArray 0)).get? h'.objs.size = some (seqObj "list" (as.map Value.ref).toArray 0) := Heap.get?_push_size _ rfl
  have nd : as.Nodup := List.Pairwise.imp (fun {a b} (h : a < b) => Nat.ne_of_lt h) hG.rise
  have nk : (vs.map (·.1)).Nodup := by
    obtain ⟨o, es, ho, h2⟩ := hat
    exact keysNodup_of_isDictOf ⟨es, ep, h2⟩
  have isP : ∀ t ∈ as, ∃ (j : Nat) (z : Str) (x : Value), as[j]? = some t ∧ vs[j]? = some (.inr z, x) ∧ IsTP h' (.ref t) z := fun t ht => by
    obtain ⟨j, hj⟩ := List.mem_iff_getElem?.mp ht
    obtain ⟨key, k, x, f1, f2, f3⟩ := hG.pairs j t hj
    obtain ⟨v, g1, _⟩ := KV.at' kv f1
    obtain ⟨z, ez⟩ := txt _ (List.mem_of_getElem? g1)
    have ez2 : k = .inr z := ez
    subst ez2
    obtain ⟨tk2, rfl⟩ := Value.isStrOf_shape (show Value.isStrOf z key = true from f2)
    exact ⟨j, z, x, hj, f1, t, tk2, x, rfl, f3⟩
  have hp : ∀ v ∈ as.map Value.ref, IsTP (h'.push (seqObj "list" (as.map Value.ref).toArray 0)) v (kTx h' v) := fun v hv => by
    obtain ⟨t, ht, rfl⟩ := List.mem_map.mp hv
    obtain ⟨j, z, x, _, _, pz⟩ := isP t ht
    rw [pz.tx]
    exact pz.keeps fun b o e _ => Heap.get?_push_of_some _ e
  have inj : ∀ v ∈ as.map Value.ref, ∀ u ∈ as.map Value.ref, kTx h' v = kTx h' u → v = u := fun v hv u hu e => by
    obtain ⟨t, ht, rfl⟩ := List.mem_map.mp hv
    obtain ⟨t', ht', rfl⟩ := List.mem_map.mp hu
    obtain ⟨j, z, x, e1, e2, pz⟩ := isP t ht
    obtain ⟨j', z', x', e1', e2', pz'⟩ := isP t' ht'
    rw [pz.tx, pz'.tx] at e
    subst e
    have h1 : (vs.map (·.1))[j]? = some (.inr z) := by rw [List.getElem?_map, e2]; rfl
    have h2 : (vs.map (·.1))[j']? = some (.inr z) := by rw [List.getElem?_map, e2']; rfl
    have hj := (List.getElem?_eq_some_iff.mp h1).1
    have ej : j = j' := (List.getElem?_inj hj nk).mp (h1.trans h2.symm)
    subst ej
    rw [e1] at e1'
    cases e1'
    rfl
  refine wpAny_bind (wpAny_holding (wpAny_call_entry slot_list_sort ⟨_, hoL, rfl⟩ entry_list_sort (SrtO.list_sort_ord (swo_tx (kTx h')) hoL (by rw [List.length_map]; omega) (fun h2 => tp_sortable (by omega) hp inj fun o e c => ?_) fun out _ hb => ⟨_, rfl, ?_⟩) (args_list_sort _)))
  · have e2 := hoL.symm.trans e
    cases e2
    exact absurd (Value.type.inj c) (by decide)
  obtain ⟨ts, rfl⟩ := refs_of_perm (as := as) (out := out) fun v hv => by
    obtain ⟨t, _, rfl⟩ := List.mem_map.mp (hb.perm.mem_iff.mp hv)
    exact ⟨t, rfl⟩
  have pt : ts.Perm as := by
    have q1 := hb.perm.map (fun v => match v with | Value.ref a => a | _ => 0)
    rw [List.map_map, List.map_map] at q1
    simpa [Function.comp_def] using q1
  obtain ⟨c, hc2⟩ := sortedHeap_at (vs := as.map Value.ref) (out := (ts.map Value.ref).toArray) hoL
  have kept : ∀ b o, h'.get? b = some o → (sortedHeap (h'.push (seqObj "list" (as.map Value.ref).toArray 0)) h'.objs.size (as.map Value.ref) (ts.map Value.ref).toArray).get? b = some o := fun b o e => by
    have lt := Heap.lt_size e
    rw [sortedHeap_old (Nat.ne_of_lt lt) (by rw [size_push']; exact Nat.lt_succ_of_lt lt)]
    exact Heap.get?_push_of_some _ e
  have hn : H2 h'.objs.size = none := J.hok.fresh (Nat.le_refl _)
  have few : ts.length ≤ sizeLine := by rw [pt.length_eq]; omega
  have new : ObjOk X.prog X.w (upd H2 h'.objs.size (.lst (ts.map V.ref))) (sortedHeap (h'.push (seqObj "list" (as.map Value.ref).toArray 0)) h'.objs.size (as.map Value.ref) (ts.map Value.ref).toArray) h'.objs.size (.lst (ts.map V.ref)) :=
    ⟨by rw [List.length_map]; exact few, ts.map Value.ref, c, LiI.vals_refs ts, hc2⟩
  have I3 := J.laid (t' := tk) kept (Nat.le_refl _) new
  let g : Addr → Key × V := fun t => (kvs[as.idxOf t]?).getD (.inl 0, .non)
  have gat : ∀ (j : Nat) (t : Addr), as[j]? = some t → kvs[j]? = some (g t) := fun j t hj => by
    have hlt := (List.getElem?_eq_some_iff.mp hj).1
    have ei : as.idxOf t = j := by
      rw [← (List.getElem?_eq_some_iff.mp hj).2]
      exact nd.idxOf_getElem j hlt
    show kvs[j]? = some ((kvs[as.idxOf t]?).getD (.inl 0, .non))
    rw [ei, List.getElem?_eq_getElem (show j < kvs.length by omega)]
    rfl
  have gm : as.map g = kvs := by
    apply List.ext_getElem?
    intro j
    by_cases hj : j < as.length
    · rw [gat j as[j] (List.getElem?_eq_getElem hj), List.getElem?_map, List.getElem?_eq_getElem hj]
      rfl
    · rw [List.getElem?_eq_none (by rw [List.length_map]; omega), List.getElem?_eq_none (by omega)]
  refine wpAny_pure ⟨_, rfl, .ref h'.objs.size, upd H2 h'.objs.size (.lst (ts.map V.ref)), I3, rfl, q _ _ ts (ts.map g) (by rw [← gm]; exact pt.map g) (e2.trans (Ex.new hn)) (fresh_back e2 hn) upd_same (paired_map g fun t ht => ?_)⟩
  obtain ⟨j, hj⟩ := List.mem_iff_getElem?.mp (pt.mem_iff.mp ht)
  obtain ⟨y, y1, y2⟩ := LiI.paired_get at2 hj
  rw [gat j t hj] at y1
  cases y1
  rw [upd_ne (ne_of_none y2 hn)]
  exact y2
end
end K33
/-! text Kw -/
set_option Elab.async false
set_option linter.all false
set_option maxRecDepth 100000
set_option maxHeartbeats 4000000
/-! sorted of a list or tuple of ints; things frozen -/
namespace K33
open PySem PySem.Spec PyProof.Rows L2 Evl
def rSortedLT (K : PySem.W.Frag) : List V → Hp → VK → Prop := fun vs H Q => ∃ (a : Addr) (ns : List Int), vs = [V.ref a] ∧ (SqL K H a (ns.map V.int) ∨ SqT K H a (ns.map V.int)) ∧
  ∀ (ms : List Int) (p : Addr), ms.Perm ns → ms.Pairwise (· ≤ ·) → H p = none → Q (.ref p) (upd H p (.lst (ms.map V.int)))
section
variable {X : Cx}
theorem cr_sortedLT (cm : X.calm = true) : CallR X (.builtin "sorted") (rSortedLT X.K) := by
  intro pins s σ H xs us Q I r h
  obtain ⟨a, ns, rfl, hs, q⟩ := h
  rw [Vals.ref1 r]
  obtain ⟨its, T, o, n, hT, rv, ho, hc, hd, hz⟩ : ∃ (its : List Value) (T : String) (o : Obj) (n : Nat), (T = "list" ∨ T = "tuple") ∧ Vals (ns.map V.int) its ∧ s.heap.get? a = some o ∧ o.cls = .type T ∧ o.data = .seq its.toArray n ∧ (ns.map V.int).length ≤ sizeLine := by
    rcases hs with hs | hs
    · obtain ⟨its, rv, pl, hz⟩ := I.list hs
      obtain ⟨o, ho, hc, n, hd⟩ := pl.isList
      exact ⟨its, "list", o, n, .inl rfl, rv, ho, hc, hd, hz⟩
    · obtain ⟨its, rv, ⟨o, ho, hc, n, hd⟩, hz⟩ := I.tuple hs
      exact ⟨its, "tuple", o, n, .inr rfl, rv, ho, hc, hd, hz⟩
  have hi := rv.ints
  have lz : its.length ≤ sizeLine := by rw [← rv.length]; exact hz
  refine Calls.call_function_entry kind_sorted plain_sorted entry_sorted (args_sorted1 _) ?_; unfold Builtin.«sorted»
  refine wpAny_bind (m := checkCount "sorted" 1 1 _) (wpAny_pure (wpAny_bind (wpAny_collect_seq a hT ho hc hd (fun h' hk => ?_) (by rw [List.size_toArray]; exact lz))))
  rw [List.toList_toArray]
  refine wpAny_bind (wpAny_newList ?_ lz)
  have hoL : (h'.push (seqObj "list" its.toArray 0)).get? h'.objs.size = some (seqObj "list" its.toArray 0) := Heap.get?_push_size _ rfl
  refine wpAny_bind (wpAny_holding (wpAny_call_entry slot_list_sort ⟨_, hoL, rfl⟩ entry_list_sort (SrtO.list_sort_ord SrtO.swo_int hoL lz (fun h2 => SrtO.ints_sortable hi h2) fun out h1 h2 => ⟨_, rfl, ?_⟩) (args_list_sort _)))
  obtain ⟨k1, k2, k3⟩ := SrtO.ints_out hi h1 h2
  obtain ⟨c, hc2⟩ := sortedHeap_at (vs := its) (out := out.toArray) hoL
  have I1 : Inv X pins σ H { s with heap := h', toks := s.toks } := I.kept hk
  have hn : H h'.objs.size = none := I1.hok.fresh (Nat.le_refl _)
  have kept : ∀ b u, h'.get? b = some u → (sortedHeap (h'.push (seqObj "list" its.toArray 0)) h'.objs.size its out.toArray).get? b = some u := fun b u e => by
    have lt := Heap.lt_size e
    rw [sortedHeap_old (Nat.ne_of_lt lt) (by rw [size_push']; exact Nat.lt_succ_of_lt lt)]
    exact Heap.get?_push_of_some _ e
  have few : ((out.map SrtO.iv).map V.int).length ≤ sizeLine := by
    rw [List.length_map, k2.length_eq]
    rw [List.length_map] at hz
    exact hz
  exact wpAny_pure ⟨_, rfl, .ref h'.objs.size, upd H h'.objs.size (.lst ((out.map SrtO.iv).map V.int)), I1.laid (t' := s.toks) kept (Nat.le_refl _) ⟨few, out, c, vals_of_ints k1, hc2⟩, rfl, q _ _ k2 k3 hn⟩
end
theorem evp_sortedLT {K : PySem.W.Frag} {σ : L2.St} {H : Hp} {te : TE} {ns : List Int} {a : Addr} (he : Ev te σ H (.ref a)) (hs : SqL K H a (ns.map V.int) ∨ SqT K H a (ns.map V.int)) :
    EvP (tCB (rSortedLT K) (tCons te tNil)) σ H (fun v H' => ∃ (p : Addr) (ms : List Int), v = .ref p ∧ H p = none ∧ ms.Perm ns ∧ ms.Pairwise (· ≤ ·) ∧ H' p = some (.lst (ms.map V.int))) := fun H1 e Q q =>
  he H1 e _ fun H2 e2 => ⟨a, ns, rfl, hs.imp (ex_l (e.trans e2)) (ex_t (e.trans e2)), fun ms p h1 h2 hp => q _ _ (e2.trans (Ex.new hp)) ⟨p, ms, rfl, fresh_back (e.trans e2) hp, h1, h2, upd_same⟩⟩
/-- tuple(..) of a new list or tuple -/
def rTupOf (K : PySem.W.Frag) : List V → Hp → VK → Prop := fun xs H Q => ∃ p ys, xs = [.ref p] ∧ ((SqL K H p ys ∧ ∀ l, H l = none → Q (.ref l) (upd H l (.tup ys))) ∨ (SqT K H p ys ∧ Q (.ref p) H))
theorem call_tupOf {X : Cx} : CallR X (.type "tuple") (rTupOf X.K) := call_tuple_of
theorem evp_tupOf {K : PySem.W.Frag} {σ : L2.St} {H : Hp} {te : TE} {P : List V → Hp → Prop} (he : EvP te σ H fun v H' => ∃ p ys, v = .ref p ∧ H' p = some (.lst ys) ∧ P ys H') (hm : ∀ ys H1 H2, Ex H1 H2 → P ys H1 → P ys H2) :
    EvP (tCB (rTupOf K) (tCons te tNil)) σ H (fun v H' => ∃ p ys, v = .ref p ∧ H p = none ∧ H' p = some (.tup ys) ∧ P ys H') := fun H1 e Q q =>
  he H1 e _ fun v H2 e2 ⟨p, ys, hv, hp, h⟩ => ⟨p, ys, by rw [hv], .inl ⟨sq_of hp, fun l hl => q _ _ (e2.trans (Ex.new hl)) ⟨l, ys, rfl, fresh_back (e.trans e2) hl, upd_same, hm _ _ _ (Ex.new hl) h⟩⟩⟩
/-! ### frozen: from here on the thing is read only -/
def tFz (te : TE) : TE := fun σ H Q => te σ H fun v H1 => ∃ d u, v = .ref d ∧ H1 d = some u ∧ Mut (some u) ∧ ∀ od, Q v (upd H1 d (.frz od u))
theorem pe_fz {X : Cx} {e : Expr} {t : TE} (h : PE X e t) : PE X e (tFz t) := by
  refine ⟨fun pins s σ H Q I hw => thn (h.run pins s σ H _ I hw) fun v s1 ⟨x, H1, I1, r, d, u, ex, hd, mu, q⟩ => ?_⟩
  obtain ⟨od, I2⟩ := I1.lock hd mu
  exact ⟨x, _, I2, r, q od⟩
/-- a new dict, frozen -/
theorem evp_fz {σ : L2.St} {H : Hp} {te : TE} {P : List (Key × V) → Hp → Prop} (he : ∀ G, Ex H G → EvP te σ G fun v H' => ∃ d kvs, v = .ref d ∧ G d = none ∧ H' d = some (.dK kvs) ∧ P kvs (del d H')) :
    EvP (tFz te) σ H (fun v H' => ∃ d kvs, v = .ref d ∧ H d = none ∧ FD H' d kvs ∧ P kvs (del d H')) := fun H1 e Q q => he H1 e H1 (Ex.refl _) _ fun v H2 e2 ⟨d, kvs, hv, hn, hd, h⟩ => ⟨d, _, hv, hd, trivial, fun od => by
    subst hv
    exact q _ _ (Ex.mut e2 hn) ⟨d, kvs, rfl, fresh_back e hn, ⟨od, upd_same⟩, by rw [del_upd]; exact h⟩⟩
/-! ### calls of types by name -/
def rDictP (K : PySem.W.Frag) : List V → Hp → VK → Prop := fun xs H Q => ∃ (a : Addr) (ps : List Addr) (kvs : List (Key × V)), xs = [.ref a] ∧ SqL K H a (ps.map V.ref) ∧ Paired (fun p kv => SqT K H p [kV kv.1, kv.2]) ps kvs ∧ ∀ p, H p = none → Q (.ref p) (upd H p (.dK (mergeK [] kvs)))
def rDictD : List V → Hp → VK → Prop := fun xs H Q => ∃ (a : Addr) (kvs : List (Key × V)), xs = [.ref a] ∧ Rd H a (.dK kvs) ∧ ∀ p, H p = none → Q (.ref p) (upd H p (.dK kvs))
def rListOf (K : PySem.W.Frag) : List V → Hp → VK → Prop := fun xs H Q => ∃ p ys, xs = [.ref p] ∧ (SqL K H p ys ∨ SqT K H p ys) ∧ ∀ l, H l = none → Q (.ref l) (upd H l (.lst ys))
section
variable {X : Cx} {a : Expr} {t : TA} {p pos : Pos}
theorem pe_dictP {K : PySem.W.Frag} (h : X.mg "dict" = none) (ha : PA X [a] t) (hg : Gl X "dict" := by rfl) (cm : X.calm = true := by rfl) (he : starEach [a] X.env = (false, eval a X.env) :: starEach [] X.env := by rfl) (hpl : (backTo pos (starEach [] X.env)).any (·.1) = false := by rfl) (hK : X.K = K := by rfl) :
    PE X (.Call (.Name "dict" p) [a] [] pos) (tCB (rDictP K) t) := by
  subst hK
  exact pe_callTy (call_dictP cm) hg h (by decide +kernel) ha (he := he) (hpl := hpl)
theorem pe_dictD (h : X.mg "dict" = none) (ha : PA X [a] t) (hg : Gl X "dict" := by rfl) (he : starEach [a] X.env = (false, eval a X.env) :: starEach [] X.env := by rfl) (hpl : (backTo pos (starEach [] X.env)).any (·.1) = false := by rfl) :
    PE X (.Call (.Name "dict" p) [a] [] pos) (tCB rDictD t) := pe_callTy call_dictD hg h (by decide +kernel) ha (he := he) (hpl := hpl)
theorem pe_listOf {K : PySem.W.Frag} (h : X.mg "list" = none) (ha : PA X [a] t) (hg : Gl X "list" := by rfl) (he : starEach [a] X.env = (false, eval a X.env) :: starEach [] X.env := by rfl) (hpl : (backTo pos (starEach [] X.env)).any (·.1) = false := by rfl) (hK : X.K = K := by rfl) :
    PE X (.Call (.Name "list" p) [a] [] pos) (tCB (rListOf K) t) := by
  subst hK
  exact pe_callTy call_list_of hg h (by decide +kernel) ha (he := he) (hpl := hpl)
theorem pe_tupOf {K : PySem.W.Frag} (h : X.mg "tuple" = none) (ha : PA X [a] t) (hg : Gl X "tuple" := by rfl) (he : starEach [a] X.env = (false, eval a X.env) :: starEach [] X.env := by rfl) (hpl : (backTo pos (starEach [] X.env)).any (·.1) = false := by rfl) (hK : X.K = K := by rfl) :
    PE X (.Call (.Name "tuple" p) [a] [] pos) (tCB (rTupOf K) t) := by
  subst hK
  exact pe_callTy call_tupOf hg h (by decide +kernel) ha (he := he) (hpl := hpl)
theorem pe_fldK {K : PySem.W.Frag} {e : Expr} {ta : TE} {f : Str} (he : PE X e ta) (hb : attributeBase e f X.env (eval e X.env) = eval e X.env := by rfl) (hK : X.K = K := by rfl) : PE X (.Attribute e f pos) (tFld K ta f) := by
  subst hK
  exact pe_fld he hb
theorem pi_listK {K : PySem.W.Frag} {tg l : Expr} {tl : TE} (hl : PE X l tl) (hK : X.K = K := by rfl) : PI X tg l (iList K tl) := by
  subst hK
  exact pi_list hl
theorem pi_tupK {K : PySem.W.Frag} {tg l : Expr} {tl : TE} (hl : PE X l tl) (hK : X.K = K := by rfl) : PI X tg l (iTup K tl) := by
  subst hK
  exact pi_tup hl
end
theorem evp_listOf {K : PySem.W.Frag} {σ : L2.St} {H : Hp} {te : TE} {xs : List V} {a : Addr} (he : Ev te σ H (.ref a)) (hs : SqL K H a xs ∨ SqT K H a xs) :
    EvP (tCB (rListOf K) (tCons te tNil)) σ H (fun v H' => ∃ l, v = .ref l ∧ H l = none ∧ H' l = some (.lst xs)) := fun H1 e Q q =>
  he H1 e _ fun H2 e2 => ⟨a, xs, rfl, hs.imp (ex_l (e.trans e2)) (ex_t (e.trans e2)), fun l hl => q _ _ (e2.trans (Ex.new hl)) ⟨l, rfl, fresh_back (e.trans e2) hl, upd_same⟩⟩
end K33
/-! text Kt -/
set_option Elab.async false
set_option linter.all false
set_option maxRecDepth 100000
set_option maxHeartbeats 4000000
/-! sets of texts: set(list), set(text), sorted(set(..)) -/
namespace K33
open PySem PySem.Spec PyProof.Rows L2
def txOf (e : Int × Value) : Str := match e.2 with | .str k _ => k | _ => Str.empty
def IsTx (w : World) (e : Int × Value) : Prop := ∃ k u, e.2 = Value.str k u ∧ e.1 = hashStr w k
/-- a set of texts whose table can be walked -/
def TxSet (w : World) (h : Heap) (a : Addr) (L : List Str) : Prop :=
  ∃ o es ep t, h.get? a = some o ∧ o.ExactSet ∧ o.data = .set es ep t ∧ (∀ e ∈ es.toList, IsTx w e) ∧ (es.toList.map txOf).Nodup ∧ (∀ k, k ∈ L ↔ k ∈ es.toList.map txOf) ∧
    es.size < scanBound ∧ t.fits es.size = true ∧ es.size ≤ L.length ∧ Ris t.place.toList ∧ (w.params.followText "set-order" = true ∨ t.led = true)
section
variable {P : Program} {w : World} {A : Around} {E : Value → Shared → Prop} {s : Shared} {a : Addr} {L : List Str}
theorem TxSet.at {h h' : Heap} (R : TxSet w h a L) (k : ∀ o, h.get? a = some o → h'.get? a = some o) : TxSet w h' a L := by
  obtain ⟨o, es, ep, t, ho, r⟩ := R
  exact ⟨o, es, ep, t, k o ho, r⟩
theorem tx_is {e : Int × Value} (g : IsTx w e) (k : Str) : (strKind P w).is k e.2 = true ↔ txOf e = k := by
  obtain ⟨q, u, e1, _⟩ := g
  unfold txOf
  rw [e1]
  show ((q == k) = true) ↔ q = k
  exact beq_iff_eq
theorem tx_mem {l : List (Int × Value)} (g : ∀ e ∈ l, IsTx w e) (k : Str) : k ∈ l.map txOf ↔ ∃ e ∈ l, (strKind P w).is k e.2 = true := by
  rw [List.mem_map]
  exact ⟨fun ⟨e, he, q⟩ => ⟨e, he, (tx_is (g e he) k).2 q⟩, fun ⟨e, he, q⟩ => ⟨e, he, (tx_is (g e he) k).1 q⟩⟩
theorem tx_elems {l : List (Int × Value)} (g : ∀ e ∈ l, IsTx w e) : ElemsOf (strKind P w) l := fun e he => by
  obtain ⟨k, u, e1, e2⟩ := g e he
  exact ⟨⟨k, by rw [e1]; exact strKind_is P w k u, e2⟩, by rw [e1]; rfl⟩
theorem tx_store {h : Heap} {o : Obj} {es es' : Array (Int × Value)} {ep : Nat} {t t' : SetTable} (ho : h.get? a = some o) (hd : o.data = .set es ep t) : (h.update a (Obj.putSet es' t')).get? a = some { o with data := .set es' (ep + 1) t' } := L2.store_at ho hd
/-- the end of an add: the table stored, perhaps laid anew -/
theorem tx_tail {g : Bool → Sem Unit} (hg : ∀ (b : Bool) (s₁ : Shared) (Q' : Unit → Shared → Prop), Q' () s₁ → wpAny (model P w) A (g b) Q' E s₁) {o : Obj} {es es1 : Array (Int × Value)} {ep : Nat} {t t2 : SetTable}
    (ho : s.heap.get? a = some o) (hex : o.ExactSet) (hd : o.data = .set es ep t) (g1 : ∀ e ∈ es1.toList, IsTx w e) (nd1 : (es1.toList.map txOf).Nodup) (m1 : ∀ k, k ∈ L ↔ k ∈ es1.toList.map txOf)
    (hb1 : es1.size < scanBound) (hf2 : t2.fits es1.size = true) (hn1 : es1.size ≤ L.length) (hr : Ris t2.place.toList) (hl : w.params.followText "set-order" = true ∨ t2.led = true) {wd : Bool} {R : Option Bool → Shared → Prop}
    (hR : ∀ h', Heap.SameBut a s.heap h' → TxSet w h' a L → R (some true) { s with heap := h' }) :
    wpAny (model P w) A (do
        storeSet a es1 t2
        if (!wd && t2.tooFull) = true then do
            g (relayAll t2 es1 (SetTable.grown es1.size)).2.2
            storeSet a (relayAll t2 es1 (SetTable.grown es1.size)).1 (relayAll t2 es1 (SetTable.grown es1.size)).2.1
            pure (some true)
          else pure (some true)) R E s := by
  refine wpAny_bind (wpAny_storeSet_of ho hd ?_ (fits_of_scanBound hb1))
  have ho1 := tx_store (es' := es1) (t' := t2) ho hd
  have sb1 := Heap.SameBut.update s.heap a (Obj.putSet es1 t2)
  split
  · have pm := relayAll_perm t2 es1 (SetTable.grown es1.size)
    have q1 := relayAll_fits t2 es1 (SetTable.grown es1.size)
    have q2 := relayAll_ris t2 es1 (SetTable.grown es1.size)
    have q3 := relayAll_led t2 es1 (SetTable.grown es1.size)
    generalize relayAll t2 es1 (SetTable.grown es1.size) = Z at pm q1 q2 q3 ⊢
    obtain ⟨es2, t3, gv⟩ := Z
    dsimp only at pm q1 q2 q3 ⊢
    have sz : es2.size = es1.size := by rw [← Array.length_toList, pm.length_eq, Array.length_toList]
    have b2 : es2.size < scanBound := sz ▸ hb1
    refine wpAny_bind (hg _ _ _ (wpAny_bind (wpAny_storeSet_of ho1 rfl ?_ (fits_of_scanBound b2))))
    have ho2 := tx_store (es' := es2) (t' := t3) ho1 rfl
    exact wpAny_pure (hR _ (sb1.trans (Heap.SameBut.update _ a _)) ⟨_, es2, _, t3, ho2, hex, rfl, fun e he => g1 e (pm.mem_iff.mp he), (pm.map txOf).nodup_iff.mpr nd1, fun k => (m1 k).trans (pm.map txOf).mem_iff.symm, b2, q1, by omega, q2, hl.imp id fun z => q3 ▸ z⟩)
  · exact wpAny_pure (hR _ sb1 ⟨_, es1, _, t2, ho1, hex, rfl, g1, nd1, m1, hb1, hf2, hn1, hr, hl⟩)
theorem tx_add {k : Str} {u : Tok} {Q : Bool → Shared → Prop} (R : TxSet w s.heap a L) (room : L.length + 1 < scanBound) (hQ : ∀ b h', Heap.SameBut a s.heap h' → TxSet w h' a (L ++ [k]) → Q b { s with heap := h' }) :
    wpAny (model P w) A (setAddHashed a (.str k u) ((strKind P w).hash k)) Q E s := by
  obtain ⟨o, es, ep, t, ho, hex, hd, g, nd, hm, hb, hf, hn, hr, hl⟩ := R
  have hkey : (strKind P w).is k (.str k u) = true := strKind_is P w k u
  have sc : (Value.str k u).scannable = true := rfl
  have hel : ElemsOf (strKind P w) es.toList := tx_elems g
  unfold setAddHashed; unfold setAddHashedIn
  refine wpAny_holding (wpAny_bind (wpAny_setState_of ho hd hf ?_)); dsimp only
  rw [byScan_of sc hb hel]; simp only [↓reduceIte]
  unfold setAddByScan
  refine wpAny_bind (wpAny_bind (wpAny_rule (wpAny_bind (wpAny_setScan_of hkey ho hd hf hel ?_))))
  cases hfi : List.findIdx? (fun e => (strKind P w).is k e.2) es.toList with
  | some j =>
    dsimp only
    obtain ⟨hj, pj, _⟩ := List.findIdx?_eq_some_iff_getElem.mp hfi
    have kin : k ∈ es.toList.map txOf := (tx_mem (P := P) (w := w) g k).2 ⟨es.toList[j], List.getElem_mem hj, pj⟩
    refine wpAny_pure (wpAny_pure (hQ _ s.heap (Heap.SameBut.refl a s.heap) ⟨o, es, ep, t, ho, hex, hd, g, nd, fun i => ?_, hb, hf, by rw [List.length_append]; omega, hr, hl⟩))
    rw [List.mem_append, List.mem_singleton, hm i]
    exact ⟨fun z => z.elim id fun e => e ▸ kin, .inl⟩
  | none =>
    dsimp only
    have nk : k ∉ es.toList.map txOf := fun z => by
      obtain ⟨e, he, q⟩ := (tx_mem (P := P) (w := w) g k).1 z
      have c := List.findIdx?_eq_none_iff.mp hfi e he
      rw [q] at c
      cases c
    have gw : ∀ (b : Bool) {s₁ : Shared} {Q' : Unit → Shared → Prop}, Q' () s₁ → wpAny (model P w) A (match b with | true => rule "set.scan.the-table-gave-way" | false => pure ()) Q' E s₁ := fun b s₁ Q' q => by
      cases b <;> first | exact wpAny_pure q | exact wpAny_rule q
    have pm := layNew_perm t es ((strKind P w).hash k) (.str k u)
    have q1 := layNew_fits t es ((strKind P w).hash k) (.str k u)
    have q2 := layNew_ris t es ((strKind P w).hash k) (.str k u) hr
    have q3 := layNew_led t es ((strKind P w).hash k) (.str k u)
    generalize layNew t es ((strKind P w).hash k) (.str k u) = Z at pm q1 q2 q3 ⊢
    obtain ⟨es1, t1, wd, gv⟩ := Z
    dsimp only at pm q1 q2 q3 ⊢
    rw [Array.toList_push] at pm
    have pc : es1.toList.Perm (((strKind P w).hash k, Value.str k u) :: es.toList) := pm.trans (List.perm_append_singleton _ _)
    have pk : (es1.toList.map txOf).Perm (k :: es.toList.map txOf) := pc.map txOf
    have g1 : ∀ e ∈ es1.toList, IsTx w e := fun e he => (List.mem_cons.mp (pc.mem_iff.mp he)).elim (fun z => z ▸ ⟨k, u, rfl, rfl⟩) (g e)
    have nd1 : (es1.toList.map txOf).Nodup := pk.nodup_iff.mpr (List.nodup_cons.mpr ⟨nk, nd⟩)
    have m1 : ∀ i, i ∈ L ++ [k] ↔ i ∈ es1.toList.map txOf := fun i => by
      rw [List.mem_append, List.mem_singleton, hm i, pk.mem_iff, List.mem_cons]
      exact Or.comm
    have sz : es1.size = es.size + 1 := by rw [← Array.length_toList, pc.length_eq, List.length_cons, Array.length_toList]
    have b1 : es1.size < scanBound := by omega
    have n1 : es1.size ≤ (L ++ [k]).length := by rw [List.length_append, List.length_singleton]; omega
    have led : w.params.followText "set-order" = true ∨ t1.led = true := hl.imp id fun z => by rw [q3]; exact z
    refine wpAny_bind (gw _ ?_)
    split
    · refine wpAny_bind ?_
      rw [hashByValue_scannable 8 sc]
      refine wpAny_pure (tx_tail (L := L ++ [k]) ?_ ho hex hd g1 nd1 m1 b1 ?_ n1 ?_ ?_ ?_)
      · intro b s₁ Q' q
        cases b <;> first | exact wpAny_pure q | exact wpAny_rule q
      · first | (split <;> first | exact q1 | exact SetTable.fits_plain_off q1) | exact q1
      · first | (split <;> exact q2) | exact q2
      · first | (split <;> exact led) | exact led
      · intro h' sb r; dsimp only; exact wpAny_pure (hQ _ h' sb r)
    · refine wpAny_bind (wpAny_pure ?_)
      simp only [↓reduceIte]
      refine tx_tail (L := L ++ [k]) ?_ ho hex hd g1 nd1 m1 b1 q1 n1 q2 led ?_
      · intro b s₁ Q' q
        cases b <;> first | exact wpAny_pure q | exact wpAny_rule q
      · intro h' sb r; dsimp only; exact wpAny_pure (hQ _ h' sb r)
/-- the loop that puts the items in -/
theorem tx_loop {I : Addr} {fp wr : List Addr} {G : Array GenState → Array GenState → Prop} {n : Nat} {Pv : Nat → Value → Prop} {St : Nat → Shared → Prop} {R : Result → Shared → Prop}
    (W : WalksS P w A.in1 I fp wr G n Pv St) (S : Addr) (apart : S ∉ fp) (xs : List Str) (len : n = xs.length) (few : xs.length + 1 < scanBound) (val : ∀ i v, Pv i v → ∃ k u, xs[i]? = some k ∧ v = .str k u) :
    ∀ (k i : Nat) (s : Shared), n - i = k → i ≤ n → St i s → TxSet w s.heap S (xs.take i) → (∀ s', Moved (S :: wr) G s s' → TxSet w s'.heap S xs → R (.ok (.ret .none)) s') →
      codeAny (model P w) A (.builtin "set.update.loop" ⟨[.ref S, .ref I], []⟩) R s := by
  have notW : S ∉ wr := fun h => apart (W.sub _ h)
  have more : ∀ b ∈ wr, b ∈ S :: wr := fun b hb => List.mem_cons_of_mem _ hb
  intro k
  induction k with
  | zero =>
    intro i s hk hi hst hS hR
    obtain rfl : i = n := by omega
    refine codeAny_builtin F.entry_set_update_loop ?_; rw [Around.under_plainId F.plain_set_update_loop _]
    refine wpAny_bind (m := pyNext (.ref I)) (W.done s _ _ hst fun s' mv => ?_)
    rw [List.take_of_length_le (by omega)] at hS
    exact wpAny_pure (hR s' (mv.mono more) (hS.at fun o e => mv.heap S o notW e))
  | succ k ih =>
    intro i s hk hi hst hS hR
    have lt : i < n := by omega
    refine codeAny_builtin F.entry_set_update_loop ?_; rw [Around.under_plainId F.plain_set_update_loop _]
    refine wpAny_bind (m := pyNext (.ref I)) (W.item i s _ _ lt hst fun v s' hP st2 mv => ?_)
    obtain ⟨z, u, hz, rfl⟩ := val i v hP
    refine wpAny_bind (m := holding [Value.str z u] (setAdd S (.str z u))) (wpAny_holding ?_)
    unfold setAdd
    refine wpAny_holding (wpAny_bind ((strKind P w).pyHash (k := z) (strKind_is _ _ _ _) ?_))
    refine tx_add (s := { s' with toks := s'.toks + 1 }) (hS.at fun o e => mv.heap S o notW e) (by rw [List.length_take]; omega) fun b h' sb S2 => ?_
    have S3 : TxSet w h' S (xs.take (i + 1)) := by
      rw [List.take_add_one, hz]
      exact S2
    refine wpAny_pure ⟨plainId_quiet F.plain_set_update_loop _, ih (i + 1) _ (by omega) lt (W.frame _ s' _ _ st2 (Nat.le_succ _) fun b hb o e => ?_) S3 fun s2 mv2 S4 => ?_⟩
    · rw [sb.2 b (fun h : b = S => apart (h ▸ hb))]
      exact e
    · refine hR s2 (Moved.trans W.gtrans ((mv.mono more).then_heap (Nat.le_succ _) fun b o hb e => ?_) mv2) S4
      rw [sb.2 b (fun h : b = S => hb (h ▸ List.mem_cons_self))]
      exact e
end
end K33
/-! text Kt2 -/
set_option Elab.async false
set_option linter.all false
set_option maxRecDepth 100000
set_option maxHeartbeats 4000000
/-! set(x) of a list of texts or a text; sorted of it -/
namespace K33
open PySem PySem.Spec PyProof.Rows L2
section
variable {P : Program} {w : World} {A : Around} {E : Value → Shared → Prop} {s : Shared}
abbrev setObj0 (w : World) : Obj := { cls := .type "set", dict := none, data := .set #[] 0 (.fresh 0 0 (!w.params.followText "set-order")) }
theorem tx_fresh {h : Heap} {a : Addr} (ho : h.get? a = some (setObj0 w)) : TxSet w h a [] :=
  ⟨_, #[], 0, _, ho, ⟨rfl, rfl, rfl⟩, rfl, fun e he => absurd he (by simp), List.nodup_nil, fun k => Iff.rfl, by decide, by rfl, Nat.le_refl _, List.Pairwise.nil, by
    show _ ∨ (!w.params.followText "set-order") = true
    cases w.params.followText "set-order" <;> simp⟩
/-- iterating x gives the texts xs -/
def TxGives (P : Program) (w : World) (x : Value) (xs : List Str) (h0 : Heap) : Prop := ∀ (s : Shared) (A : Around) (Q E : Value → Shared → Prop), (∀ b o, h0.get? b = some o → s.heap.get? b = some o) → h0.objs.size < s.heap.objs.size → A.handled = none →
  (∀ (o : Obj) (fp wr : List Addr) (n : Nat) (Pv : Nat → Value → Prop) (St : Nat → Heap → Prop), (∀ A' : Around, A'.handled = none → Walks P w A' s.heap.objs.size fp wr n Pv St) → St 0 (s.heap.push o) → n = xs.length → (∀ i v, Pv i v → ∃ k u, xs[i]? = some k ∧ v = .str k u) →
    (∀ b ∈ fp, b = s.heap.objs.size ∨ b < h0.objs.size) → (∀ b ∈ wr, b = s.heap.objs.size) → Q (.ref s.heap.objs.size) { s with heap := s.heap.push o }) → wpAny (model P w) A (pyIter x) Q E s
set_option maxRecDepth 100000 in
set_option maxHeartbeats 3200000 in
theorem set_of_texts {x : Value} {T : String} {xs : List Str} {Q : Value → Shared → Prop} (hh : A.handled = none) (tx : ∀ s' : Shared, (∀ b o, s.heap.get? b = some o → s'.heap.get? b = some o) → s'.TypeIs x T) (n1 : isSubtype (.type T) (.type "set") = pure false)
    (n2 : isSubtype (.type T) (.type "frozenset") = pure false) (n3 : (Value.type T == Value.type "dict") = false) (gx : TxGives P w x xs s.heap) (few : xs.length + 1 < scanBound)
    (fin : ∀ (h' : Heap) (tk : Nat), TxSet w h' s.heap.objs.size xs → (∀ b o, s.heap.get? b = some o → h'.get? b = some o) → Q (.ref s.heap.objs.size) { s with heap := h', toks := tk }) :
    wpAny (model P w) A (call (.type "set") [x]) Q E s := by
  obtain ⟨c, tl, mro⟩ := F.called_set.mro
  have made := F.called_set.made
  have sub := F.called_set.sub
  refine wpAny_call (codeAny_of_tree (show wpAny _ _ (callAny (.type "set") _) _ _ _ from ?_))
  refine wpAny_pure ⟨Code.quiet_builtin _ (by decide +kernel), codeAny_builtin F.entry_type_call ?_⟩; rw [Around.under_plain (weight_type_call_type "set" [x] []) rfl]
  have c1 := F.called_set.notType
  have c2 := F.called_set.canCreate
  have c3 := F.typeCall_set_1 x
  repeat (any_goals (first | assumption | wp_step))
  refine codeAny_mono (code_set_led1 x (E := E) (Q₁ := fun obj s₁ => obj = .ref s.heap.objs.size ∧ s₁ = { s with heap := s.heap.push (setObj0 w) }) ⟨rfl, rfl⟩) fun r s₁ hr => ?_
  cases r with
  | error e => exact hr
  | ok fl =>
    cases fl with
    | ret obj =>
      obtain ⟨rfl, rfl⟩ := hr
      have hS : (s.heap.push (setObj0 w)).get? s.heap.objs.size = some (setObj0 w) := Heap.get?_push_size _ rfl
      have hT : Shared.TypeIs { s with heap := s.heap.push (setObj0 w) } (.ref s.heap.objs.size) "set" := ⟨_, hS, rfl⟩
      have i1 := F.called_set.init.lookup
      have i2 := F.called_set.init.bind (.ref s.heap.objs.size)
      repeat (any_goals (first | assumption | wp_step))
      refine codeAny_mono (codeAny_call_builtin (R := wants (fun r s₂ => r = .none ∧ ∃ h' tk, s₂ = { s with heap := h', toks := tk } ∧ TxSet w h' s.heap.objs.size xs ∧ ∀ b o, s.heap.get? b = some o → h'.get? b = some o) E) F.called_set.init.plain F.entry_set_init (check_set_init_1 hT ?_)) fun r₂ s₂ hr₂ => ?_
      · have kept : ∀ b o, s.heap.get? b = some o → (s.heap.push (setObj0 w)).get? b = some o := fun b o e => Heap.get?_push_of_some _ e
        have sz : (s.heap.push (setObj0 w)).objs.size = s.heap.objs.size + 1 := Heap.size_push ..
        have tX := tx { s with heap := s.heap.push (setObj0 w) } kept
        unfold Builtin.«set.__init__»; unfold noKeywords Builtin.Frozenset.updateFrom
        generalize hPI : pyIter = PI
        wp_walk
        subst hPI
        refine gx { s with heap := s.heap.push (setObj0 w) } _ _ _ kept (by show _ < (s.heap.push (setObj0 w)).objs.size; omega) hh fun o fp wr n Pv St W st0 len val inF inW => ?_
        refine wpAny_bind (wpAny_runValue ?_)
        have apart : s.heap.objs.size ∉ fp := fun z => by
          rcases inF _ z with e | e
          · have e2 : s.heap.objs.size = (s.heap.push (setObj0 w)).objs.size := e
            omega
          · exact Nat.lt_irrefl _ e
        refine tx_loop ((W _ (by simp [hh])).toS) s.heap.objs.size apart xs len few val (n - 0) 0 _ rfl (Nat.zero_le _) st0 (tx_fresh (Heap.get?_push_of_some _ hS)) fun s' mv R => ?_
        obtain ⟨h', g', d', tk', os'⟩ := s'
        have eg : g' = s.gens := mv.gens
        have ed : d' = s.drawn := mv.drawn
        have eo : os' = s.os := mv.os
        subst eg ed eo
        refine wpAny_pure (wpAny_pure ⟨rfl, h', tk', rfl, R, fun b o' e => ?_⟩)
        have lt := Heap.lt_size e
        refine mv.heap b o' (fun z => ?_) (Heap.get?_push_of_some _ (kept b o' e))
        rcases List.mem_cons.mp z with z | z
        · exact Nat.ne_of_lt lt z
        · have z2 : b = (s.heap.push (setObj0 w)).objs.size := inW b z
          exact Nat.ne_of_lt (Nat.lt_succ_of_lt lt) (z2.trans sz)
      · cases r₂ with
        | error e => exact hr₂
        | ok fl₂ =>
          cases fl₂ with
          | ret r =>
            obtain ⟨rfl, h', tk, rfl, a1, a2⟩ := hr₂
            repeat (any_goals (first | assumption | wp_step))
            exact fin _ _ a1 a2
          | _ => exact hr₂.elim
    | _ => exact hr.elim
/-- a list of texts, a text -/
theorem gives_list {l : Addr} {its : Array Value} {xs : List Str} {h : Heap} (hl : h.IsList l its) (hS : StrsAre its.toList xs) : TxGives P w (.ref l) xs h := fun s1 A Q E kept lt hh fin => by
  obtain ⟨o, ho, hc, n, hd⟩ := hl
  have hl1 : s1.heap.IsList l its := ⟨o, kept _ _ ho, hc, n, hd⟩
  have ll : l < h.objs.size := Heap.lt_size ho
  refine wpAny_pyIter_list hl1 (fin _ [s1.heap.objs.size, l] [s1.heap.objs.size] _ _ _ (fun A' hA => Walks.list hA _ l (Nat.ne_of_lt (Nat.lt_trans ll lt)) its) ⟨⟨_, Heap.get?_push_size _ rfl, rfl, rfl⟩, hl1.push _⟩ ?_ (fun i v hv => ?_) (fun b hb => ?_) fun b hb => by simpa using hb)
  · rw [← Array.length_toList]
    exact hS.length
  · have hv2 : its.toList[i]? = some v := by rw [Array.getElem?_toList]; exact hv
    obtain ⟨t, e⟩ := SS.strs_at hS i v hv2
    have hi : i < xs.length := by rw [← hS.length]; exact (List.getElem?_eq_some_iff.mp hv2).1
    exact ⟨xs[i], t, List.getElem?_eq_getElem hi, by rw [e, List.getD_eq_getElem?_getD, List.getElem?_eq_getElem hi]; rfl⟩
  · rcases List.mem_cons.mp hb with e | e
    · exact .inl e
    · exact .inr (by rw [List.mem_singleton.mp e]; exact ll)
def signsOf (z : Str) : List Str := z.cps.toList.map fun c => ⟨#[c]⟩
theorem gives_str {z : Str} {t : Tok} {h : Heap} : TxGives P w (.str z t) (signsOf z) h := fun s1 A Q E kept lt hh fin =>
  wpAny_pyIter_str fun o St W st0 => fin o [s1.heap.objs.size] [s1.heap.objs.size] _ _ St W st0 (by unfold signsOf; simp) (fun i v ⟨c, u, hc, hv⟩ => ⟨⟨#[c]⟩, u, by
    unfold signsOf
    rw [List.getElem?_map, Array.getElem?_toList, hc]
    rfl, hv⟩) (fun b hb => .inl (by simpa using hb)) fun b hb => by simpa using hb
theorem strs_of : ∀ (l : List Value), (∀ v ∈ l, ∃ k u, v = Value.str k u) → StrsAre l (l.map fun v => match v with | .str k _ => k | _ => Str.empty)
  | [], _ => .nil
  | v :: l, h => by
    obtain ⟨k, u, rfl⟩ := h v List.mem_cons_self
    exact .cons k u (strs_of l fun v hv => h v (List.mem_cons_of_mem _ hv))
/-- sorted of such a set -/
theorem sorted_texts {a : Addr} {L : List Str} {Q : Value → Shared → Prop} (R : TxSet w s.heap a L) (hh : A.handled = none) (few : L.length < 64)
    (fin : ∀ s' p (out : List Value) (c : Nat) (ys : List Str), (∀ b o, s.heap.get? b = some o → s'.heap.get? b = some o) → s'.gens = s.gens → s'.os = s.os → s.heap.objs.size ≤ p → s'.heap.get? p = some (seqObj "list" out.toArray c) → StrsAre out ys → ys.Nodup →
      (∀ k, k ∈ ys ↔ k ∈ L) → sortedS ys = true → Q (.ref p) s') : wpAny (model P w) A (call (.builtin "sorted") [.ref a]) Q E s := by
  obtain ⟨o, es, ep, t, ho, hex, hd, g, nd, hm, hb, hf, hn, hr, hl⟩ := R
  refine Calls.call_function_entry kind_sorted plain_sorted entry_sorted (args_sorted1 _) ?_; unfold Builtin.«sorted»
  refine wpAny_bind (m := checkCount "sorted" 1 1 _) (wpAny_pure (wpAny_bind (collect_set (A := A.in1) hh ⟨o, ho, hex.1, hd⟩ hf hb hr hl fun s1 vs k1 z1 g1 o1 pm => ?_)))
  have vl : vs.length = es.size := by rw [pm.length_eq, List.length_map, Array.length_toList]
  have isS : ∀ v ∈ vs, ∃ k u, v = Value.str k u := fun v hv => by
    obtain ⟨e, he, q⟩ := List.mem_map.mp (pm.mem_iff.mp hv)
    obtain ⟨k, u, e1, _⟩ := g e he
    exact ⟨k, u, by rw [← q]; exact e1⟩
  have hS := strs_of vs isS
  have pk : (vs.map fun v => match v with | .str k _ => k | _ => Str.empty).Perm (es.toList.map txOf) := by
    have q := pm.map (fun v => match v with | .str k _ => k | _ => Str.empty)
    rw [List.map_map] at q
    refine q.trans (List.Perm.of_eq (List.map_congr_left fun e he => ?_))
    obtain ⟨k, u, e1, _⟩ := g e he
    show (match e.2 with | .str k _ => k | _ => Str.empty) = txOf e
    unfold txOf
    rw [e1]
  refine wpAny_bind (wpAny_newList ?_ (by rw [vl, sizeLine_eq]; omega))
  have hoL : (s1.heap.push (seqObj "list" vs.toArray 0)).get? s1.heap.objs.size = some (seqObj "list" vs.toArray 0) := Heap.get?_push_size _ rfl
  refine wpAny_bind (wpAny_holding (wpAny_call_entry slot_list_sort ⟨_, hoL, rfl⟩ entry_list_sort (list_sort_treeK strKind_oneLt hoL hS.keysOf (fun v₁ v₂ rest e => keyKind_strs (by rw [← e]; exact hS)) (by omega) fun st' a1 a2 => ⟨_, rfl, ?_⟩) (args_list_sort _)))
  obtain ⟨ys, b1, b2, b3⟩ := sorted_out_str hS a1 a2
  obtain ⟨c, hc⟩ := sortedHeap_at (vs := vs) (out := (arrOf st').map (·.2)) hoL
  have pn : ys.Perm (es.toList.map txOf) := b2.trans pk
  refine wpAny_pure ⟨_, rfl, fin _ s1.heap.objs.size ((arrOf st').map (·.2)).toList c ys (fun b u e => ?_) g1 o1 z1 (by rw [Array.toArray_toList]; exact hc) b1 (pn.nodup_iff.mpr nd) (fun k => by rw [pn.mem_iff, ← hm k]) b3⟩
  have lt := Heap.lt_size (k1 b u e)
  show (sortedHeap (s1.heap.push (seqObj "list" vs.toArray 0)) s1.heap.objs.size vs _).get? b = some u
  rw [sortedHeap_old (Nat.ne_of_lt lt) (by rw [size_push']; exact Nat.lt_succ_of_lt lt)]
  exact Heap.get?_push_of_some _ (k1 b u e)
end
end K33
/-! text Kt3 -/
set_option Elab.async false
set_option linter.all false
set_option maxRecDepth 100000
set_option maxHeartbeats 4000000
namespace K33
open PySem PySem.Spec PyProof.Rows L2 Evl
theorem nd_len {α : Type} [DecidableEq α] : ∀ {l m : List α}, l.Nodup → (∀ k ∈ l, k ∈ m) → l.length ≤ m.length
  | [], _, _, _ => Nat.zero_le _
  | x :: l, m, nd, sub => by
    obtain ⟨n1, n2⟩ := List.nodup_cons.mp nd
    have hx := sub x List.mem_cons_self
    have h := nd_len (m := m.erase x) n2 fun k hk => (List.mem_erase_of_ne (fun (e : k = x) => n1 (by rw [← e]; exact hk))).mpr (sub k (List.mem_cons_of_mem _ hk))
    rw [List.length_erase_of_mem hx] at h
    have : 0 < m.length := List.length_pos_of_mem hx
    show l.length + 1 ≤ _
    omega
def tSortedSet (K : PySem.W.Frag) (te : TE) : TE := fun σ H Q => te σ H fun x H1 => ∃ xs : List Str, xs.length < 64 ∧ ((∃ l, x = .ref l ∧ SqL K H1 l (xs.map V.str)) ∨ ∃ z, x = .str z ∧ xs = signsOf z) ∧
  ∀ (ys : List Str) (p : Addr), ys.Nodup → (∀ k, k ∈ ys ↔ k ∈ xs) → sortedS ys = true → H1 p = none → Q (.ref p) (upd H1 p (.lst (ys.map V.str)))
section
variable {X : Cx}
theorem pe_sortedSet {a : Expr} {ta : TE} {p p2 q pos : Pos} (gL : Gl X "sorted") (mL : X.mg "sorted" = none) (gS : Gl X "set") (mS : X.mg "set" = none) (ha : PE X a ta) (cm : X.calm = true := by rfl)
    (na : starEach [a] X.env = (false, eval a X.env) :: starEach [] X.env := by rfl) : PE X (.Call (.Name "sorted" p) [.Call (.Name "set" p2) [a] [] q] [] pos) (tSortedSet X.K ta) := by
  refine ⟨fun pins s σ H Q I h => Call_ (ld_blt I gL mL boot_sorted ?_)⟩
  refine PyProof.Rows.callWith_builtin1 (PyProof.Rows.args_cons (Call_ (ld_blt I gS mS boot_set ?_)) rfl) rfl rfl
  refine PyProof.Rows.callWith_type1 (PyProof.Rows.args_cons (thn (ha.run pins s σ H _ I h) fun v s1 ⟨x, H1, I1, rx, ans⟩ => PyProof.Rows.args_nil ?_) na) na rfl
  obtain ⟨xs, few, hx, qq⟩ := ans
  have next : ∀ (h' : Heap) (tk : Nat), TxSet X.w h' s1.heap.objs.size xs → (∀ b o, s1.heap.get? b = some o → h'.get? b = some o) →
      wpAny (model X.prog X.w) X.A (call (.builtin "sorted") [.ref s1.heap.objs.size]) (EP X pins σ Q) X.xe { s1 with heap := h', toks := tk } := fun h' tk R kept => by
    have lt : s1.heap.objs.size ≤ h'.objs.size := by
      obtain ⟨o, _, _, _, ho, _⟩ := R
      exact Nat.le_of_lt (Heap.lt_size ho)
    refine sorted_texts (s := { s1 with heap := h', toks := tk }) R (I1.ok.hd cm) few fun s' r out c ys k2 g2 o2 z2 hr hS nd mem so => ?_
    have kall : ∀ b u, s1.heap.get? b = some u → s'.heap.get? b = some u := fun b u e => k2 b u (kept b u e)
    have hp : s1.heap.objs.size ≤ r := Nat.le_trans lt z2
    have hn := I1.hok.fresh hp
    have few2 : ys.length ≤ xs.length := nd_len nd fun k hk => (mem k).mp hk
    have new : ObjOk X.prog X.w (upd H1 r (.lst (ys.map V.str))) s'.heap r (.lst (ys.map V.str)) := ⟨by rw [List.length_map, sizeLine_eq]; omega, out, c, vals_of_strs hS, hr⟩
    exact ⟨.ref r, upd H1 r (.lst (ys.map V.str)), I1.call' (ch := []) o2 (Un.laid kall hp hn) (I1.hok.laid kall hp new) (by rw [g2]; exact I1.bare) (fun _ z => nomatch z), rfl, qq ys r nd mem so hn⟩
  have fit : xs.length + 1 < scanBound := by unfold scanBound; omega
  rcases hx with ⟨l, rfl, hq⟩ | ⟨z, rfl, rfl⟩
  · cases rx
    obtain ⟨its, rv, pl, _⟩ := I1.list hq
    have hl := pl.isList
    refine set_of_texts (T := "list") (I1.ok.hd cm) (fun s' k => ?_) F.sub_list_set F.sub_list_frozenset (by decide) (gives_list hl rv.strs) fit fun h' tk R k => PyProof.Rows.args_nil (next h' tk R k)
    obtain ⟨o, ho, hc, _⟩ := hl
    exact ⟨o, k _ _ ho, hc⟩
  · obtain ⟨t, rfl⟩ := rx
    exact set_of_texts (T := "str") (I1.ok.hd cm) (fun s' k => rfl) (by rw [isSubtype_type]; kernel_rfl) (by rw [isSubtype_type]; kernel_rfl) (by decide) gives_str fit fun h' tk R k => PyProof.Rows.args_nil (next h' tk R k)
end
theorem evp_sortedSet {K : PySem.W.Frag} {σ : L2.St} {H : Hp} {te : TE} {xs : List Str} (he : EvP te σ H fun x H1 => (∃ l, x = .ref l ∧ SqL K H1 l (xs.map V.str)) ∨ ∃ z, x = .str z ∧ xs = signsOf z) (few : xs.length < 64) :
    EvP (tSortedSet K te) σ H (fun v H' => ∃ (p : Addr) (ys : List Str), v = .ref p ∧ H p = none ∧ ys.Nodup ∧ (∀ k, k ∈ ys ↔ k ∈ xs) ∧ sortedS ys = true ∧ H' p = some (.lst (ys.map V.str))) := fun H1 e Q q =>
  he H1 e _ fun x H2 e2 hx => ⟨xs, few, hx, fun ys p nd mem so hp => q _ _ (e2.trans (Ex.new hp)) ⟨p, ys, rfl, fresh_back (e.trans e2) hp, nd, mem, so, upd_same⟩⟩
end K33
/-! text Kb -/
set_option Elab.async false
set_option linter.all false
set_option maxRecDepth 100000
set_option maxHeartbeats 4000000
namespace K33
open PySem PySem.Spec PyProof.Rows L2 Evl
section
variable {P : Program} {w : World} {K : PySem.W.Frag} {mg : Str → Option Value} {base : Heap}
def lets : List Nat := ("abcdefghijklmnopqrstuvwxyz" : Str).cps.toList
def abc (z : Str) : Bool := z.cps.toList.all fun c => decide (c ∈ lets)
theorem rv_inS {H : Hp} {c : Nat} {z : Str} : RV (fun x y H Q => ∃ (c : Nat) (z : Str), x = .str ⟨#[c]⟩ ∧ y = .str z ∧ Q (.bl (decide (c ∈ z.cps.toList))) H) (.str ⟨#[c]⟩) (.str z) H (.bl (decide (c ∈ z.cps.toList))) := rv_val fun H1 _ Q q => ⟨c, z, rfl, rfl, q⟩
def spIsWord : Sp := fun vs H Q _ => ∃ z : Str, vs = [.str z] ∧ z.length ≤ 1000 ∧ RetV (.bl (abc z)) H Q
abbrev N_is_word : List Str := ["value", "letter"]
theorem sc_is_word : FnScope N_is_word ["value"] (defScope (top 15)) := ⟨rfl, rfl, rfl, by decide +kernel, rfl, by decide +kernel, by decide +kernel⟩
theorem ok_is_word (T : Txt K mg) : Ok P w K mg base 1 "is_word" ["value"] spIsWord := by
  refine ok_of T.is_word sc_is_word (fun vs H Q E h => ?_) (fun _ _ _ _ _ _ us hl => match us, hl with | [_], _ => rfl) (fun f cdv A outer s H vs Q E hr h => ?_)
  · obtain ⟨z, rfl, _⟩ := h
    rfl
  · obtain ⟨z, rfl, hz, k⟩ := h
    refine ⟨_, (pss_one (ps_ret (pe_and (pe_callB (r := rIsi K) call_isi (by rfl) T.isinstance (by decide +kernel) (pa_cons (pv 0) (pa_cons (pe_ty_str T.str) pa_nil))) (pe_one (pe_callB (r := rAll K) (cr_all rfl) (by rfl) T.all (by decide +kernel) (pa_cons (pe_lc (own := [("letter", 1)]) (g := gName 1) (by rfl) sc_is_word.nd (pi_str (pv 0)) (blkOk_by (own := [("letter", 1)]) (N := N_is_word) (sc := defScope (top 15)) (by decide +kernel)) (fun _ _ _ _ _ => (pg_name (i := 1) sc_is_word.nd rfl (Or.inl rfl))) (fun _ _ _ _ _ => by exact pts_nil) (fun _ _ _ _ _ => by exact (pe_cmpR op_in_sign (pv 1) (pe_LETTERS T) (by rfl)))) pa_nil)))))), ?_⟩
    refine s_ret (v := .bl (abc z)) ?_ k
    refine ev_is (ev_andV (ev_isi (ev_var rfl) (fun _ _ => .base (.str _)) (k := true) (by decide +kernel)) fun _ => ev_allM z.cps.toList (fun c => decide (c ∈ lets)) ?_) rfl
    refine el_map z.cps.toList _ (iw_str (s := z) (ev_var rfl)) (by simp) (by simp [Str.length] at hz; simp; omega) fun i c x Ha Hb hc ea y k hk => ?_
    obtain ⟨rfl, c', hc', rfl⟩ := y
    obtain rfl : c' = c := by
      rw [← Array.getElem?_toList] at hc'
      rw [hc'] at hc
      exact Option.some.inj hc
    exact hk _ _ (Ex.refl _) rfl et_yes (ev_op (ev_var rfl) ev_c rv_inS)
end
end K33
/-! text Kc -/
set_option Elab.async false
set_option linter.all false
set_option maxRecDepth 100000
set_option maxHeartbeats 4000000
namespace K33
open PySem PySem.Spec PyProof.Rows L2 Evl
section
variable {P : Program} {w : World} {K : PySem.W.Frag} {mg : Str → Option Value} {base : Heap}
def isSign (z : Str) : Bool := abc z && decide (z.length = 1)
def spIsSign : Sp := fun vs H Q _ => ∃ z : Str, vs = [.str z] ∧ z.length ≤ 1000 ∧ RetV (.bl (isSign z)) H Q
abbrev N_is_sign : List Str := ["value"]
theorem sc_is_sign : FnScope N_is_sign ["value"] (defScope (top 16)) := ⟨rfl, rfl, rfl, by decide +kernel, rfl, by decide +kernel, by decide +kernel⟩
theorem ok_is_sign (T : Txt K mg) : Ok P w K mg base 2 "is_sign" ["value"] spIsSign := by
  refine ok_of T.is_sign sc_is_sign (fun vs H Q E h => ?_) (fun _ _ _ _ _ _ us hl => match us, hl with | [_], _ => rfl) (fun f cdv A outer s H vs Q E hr h => ?_)
  · obtain ⟨_, rfl, _⟩ := h
    rfl
  · obtain ⟨z, rfl, hz, k⟩ := h
    refine ⟨_, (pss_one (ps_ret (pe_and (pe_f (ok_is_word T) (hr.mono (by decide)) (pa_cons (pv 0) pa_nil)) (pe_one (pe_cmpR op_eq (pe_callB call_len (by rfl) T.len (by decide +kernel) (pa_cons (pv 0) pa_nil)) pe_int (nomark _)))))), ?_⟩
    refine s_ret (v := .bl (isSign z)) ?_ k
    refine ev_andV (ev_callV (ea_cons (ev_var rfl) ea_nil) ?_) fun _ => ev_is (ev_op (ev_lenV (ev_var rfl) fun _ _ => lenV_str (by omega)) ev_c (rv_eq rfl)) ?_
    · exact fun H1 e Q q E => ⟨z, rfl, hz, q⟩
    · simp; omega
def isMark (z : Str) : Bool := abc z && (decide (1 < z.length) && decide (z.length ≤ 8))
def spIsMark : Sp := fun vs H Q _ => ∃ z : Str, vs = [.str z] ∧ z.length ≤ 1000 ∧ RetV (.bl (isMark z)) H Q
abbrev N_is_mark : List Str := ["value"]
theorem sc_is_mark : FnScope N_is_mark ["value"] (defScope (top 17)) := ⟨rfl, rfl, rfl, by decide +kernel, rfl, by decide +kernel, by decide +kernel⟩
theorem ok_is_mark (T : Txt K mg) : Ok P w K mg base 2 "is_mark" ["value"] spIsMark := by
  refine ok_of T.is_mark sc_is_mark (fun vs H Q E h => ?_) (fun _ _ _ _ _ _ us hl => match us, hl with | [_], _ => rfl) (fun f cdv A outer s H vs Q E hr h => ?_)
  · obtain ⟨_, rfl, _⟩ := h
    rfl
  · obtain ⟨z, rfl, hz, k⟩ := h
    refine ⟨_, (pss_one (ps_ret (pe_and (pe_f (ok_is_word T) (hr.mono (by decide)) (pa_cons (pv 0) pa_nil)) (pe_one (pe_chain op_lt op_le pe_int (pe_callB call_len (by rfl) T.len (by decide +kernel) (pa_cons (pv 0) pa_nil)) (pe_LONGEST_NAME T)))))), ?_⟩
    refine s_ret (v := .bl (isMark z)) ?_ k
    refine ev_andV (ev_callV (ea_cons (ev_var rfl) ea_nil) ?_) fun _ => ev_is (ev_chain ev_c (ev_lenV (ev_var rfl) fun _ _ => lenV_str (by omega)) rv_lt (fun _ => ev_c) (fun _ => rv_le)) ?_
    · exact fun H1 e Q q E => ⟨z, rfl, hz, q⟩
    · rw [show decide ((1 : Int) < (z.length : Int)) = decide (1 < z.length) by rw [decide_eq_decide]; omega, show decide ((z.length : Int) ≤ 8) = decide (z.length ≤ 8) by rw [decide_eq_decide]; omega]
def isName (z : Str) : Bool := isSign z || isMark z
def spIsName : Sp := fun vs H Q _ => ∃ z : Str, vs = [.str z] ∧ z.length ≤ 1000 ∧ RetV (.bl (isName z)) H Q
abbrev N_is_name : List Str := ["value"]
theorem sc_is_name : FnScope N_is_name ["value"] (defScope (top 18)) := ⟨rfl, rfl, rfl, by decide +kernel, rfl, by decide +kernel, by decide +kernel⟩
theorem ok_is_name (T : Txt K mg) : Ok P w K mg base 3 "is_name" ["value"] spIsName := by
  refine ok_of T.is_name sc_is_name (fun vs H Q E h => ?_) (fun _ _ _ _ _ _ us hl => match us, hl with | [_], _ => rfl) (fun f cdv A outer s H vs Q E hr h => ?_)
  · obtain ⟨_, rfl, _⟩ := h
    rfl
  · obtain ⟨z, rfl, hz, k⟩ := h
    refine ⟨_, (pss_one (ps_ret (pe_or (pe_f (ok_is_sign T) (hr.mono (by decide)) (pa_cons (pv 0) pa_nil)) (pe_one (pe_f (ok_is_mark T) (hr.mono (by decide)) (pa_cons (pv 0) pa_nil)))))), ?_⟩
    refine s_ret (v := .bl (isName z)) ?_ k
    refine ev_orV (ev_callV (ea_cons (ev_var rfl) ea_nil) ?_) fun _ => ev_callV (ea_cons (ev_var rfl) ea_nil) ?_
    · exact fun H1 e Q q E => ⟨z, rfl, hz, q⟩
    · exact fun H1 e Q q E => ⟨z, rfl, hz, q⟩
def below (i n : Int) : Bool := decide (0 ≤ i) && decide (i < n)
def spIsBelow : Sp := fun vs H Q _ => ∃ i n : Int, vs = [.int i, .int n] ∧ RetV (.bl (below i n)) H Q
abbrev N_is_below : List Str := ["value", "limit"]
theorem sc_is_below : FnScope N_is_below ["value", "limit"] (defScope (top 19)) := ⟨rfl, rfl, rfl, by decide +kernel, rfl, by decide +kernel, by decide +kernel⟩
theorem ok_is_below (T : Txt K mg) : Ok P w K mg base 1 "is_below" ["value", "limit"] spIsBelow := by
  refine ok_of T.is_below sc_is_below (fun vs H Q E h => ?_) (fun _ _ _ _ _ _ us hl => match us, hl with | [_, _], _ => rfl) (fun f cdv A outer s H vs Q E hr h => ?_)
  · obtain ⟨_, _, rfl, _⟩ := h
    rfl
  · obtain ⟨i, n, rfl, k⟩ := h
    refine ⟨_, (pss_one (ps_ret (pe_and (pe_callB (r := rIsi K) call_isi (by rfl) T.isinstance (by decide +kernel) (pa_cons (pv 0) (pa_cons (pe_ty_int T.int) pa_nil))) (pe_and (pe_not (pe_callB (r := rIsi K) call_isi (by rfl) T.isinstance (by decide +kernel) (pa_cons (pv 0) (pa_cons (pe_ty_bool T.bool) pa_nil)))) (pe_one (pe_chain op_le op_lt pe_int (pv 0) (pv 1))))))), ?_⟩
    refine s_ret (v := .bl (below i n)) ?_ k
    refine ev_is (ev_andV (ev_isi (ev_var rfl) (fun _ _ => .base (.int _)) (k := true) (by decide +kernel)) fun _ => ev_andV (ev_notV (ev_isi (ev_var rfl) (fun _ _ => .base (.int _)) (k := false) (by decide +kernel))) fun _ => ev_chain ev_c (ev_var rfl) rv_le (fun _ => ev_var rfl) (fun _ => rv_lt)) ?_
    rfl
abbrev N_is_number_below : List Str := ["value", "limit"]
theorem sc_is_number_below : FnScope N_is_number_below ["value", "limit"] (defScope (top 42)) := ⟨rfl, rfl, rfl, by decide +kernel, rfl, by decide +kernel, by decide +kernel⟩
theorem ok_is_number_below (T : Txt K mg) : Ok P w K mg base 1 "is_number_below" ["value", "limit"] spIsBelow := by
  refine ok_of T.is_number_below sc_is_number_below (fun vs H Q E h => ?_) (fun _ _ _ _ _ _ us hl => match us, hl with | [_, _], _ => rfl) (fun f cdv A outer s H vs Q E hr h => ?_)
  · obtain ⟨_, _, rfl, _⟩ := h
    rfl
  · obtain ⟨i, n, rfl, k⟩ := h
    refine ⟨_, (pss_one (ps_ret (pe_and (pe_callB (r := rIsi K) call_isi (by rfl) T.isinstance (by decide +kernel) (pa_cons (pv 0) (pa_cons (pe_ty_int T.int) pa_nil))) (pe_and (pe_not (pe_callB (r := rIsi K) call_isi (by rfl) T.isinstance (by decide +kernel) (pa_cons (pv 0) (pa_cons (pe_ty_bool T.bool) pa_nil)))) (pe_one (pe_chain op_le op_lt pe_int (pv 0) (pv 1))))))), ?_⟩
    refine s_ret (v := .bl (below i n)) ?_ k
    refine ev_is (ev_andV (ev_isi (ev_var rfl) (fun _ _ => .base (.int _)) (k := true) (by decide +kernel)) fun _ => ev_andV (ev_notV (ev_isi (ev_var rfl) (fun _ _ => .base (.int _)) (k := false) (by decide +kernel))) fun _ => ev_chain ev_c (ev_var rfl) rv_le (fun _ => ev_var rfl) (fun _ => rv_lt)) ?_
    rfl
end
end K33
/-! text Kd -/
set_option Elab.async false
set_option linter.all false
set_option maxRecDepth 100000
set_option maxHeartbeats 4000000
namespace K33
open PySem PySem.Spec PyProof.Rows L2 Evl
section
variable {P : Program} {w : World} {K : PySem.W.Frag} {mg : Str → Option Value} {base : Heap}
def spDiff (K : PySem.W.Frag) : Sp := fun vs H Q _ => ∃ (p : Addr) (n : Int) (ns : List Int), vs = [.ref p, .int n] ∧ (SqL K H p (ns.map V.int) ∨ SqT K H p (ns.map V.int)) ∧ ns.length ≤ 1000 ∧ ns.Nodup ∧ (∀ k ∈ ns, below k n = true) ∧ RetV (.bl true) H Q
abbrev N_are_different : List Str := ["value", "limit", "one"]
theorem sc_are_different : FnScope N_are_different ["value", "limit"] (defScope (top 20)) := ⟨rfl, rfl, rfl, by decide +kernel, rfl, by decide +kernel, by decide +kernel⟩
theorem ok_are_different (T : Txt K mg) : Ok P w K mg base 2 "are_different" ["value", "limit"] (spDiff K) := by
  refine ok_of T.are_different sc_are_different (fun vs H Q E h => ?_) (fun _ _ _ _ _ _ us hl => match us, hl with | [_, _], _ => rfl) (fun f cdv A outer s H vs Q E hr h => ?_)
  · obtain ⟨_, _, _, rfl, _⟩ := h
    rfl
  · obtain ⟨p, n, ns, rfl, hs, hz, nd, hb, k⟩ := h
    refine ⟨_, (pss_cons (ps_if (PW.pt (pw_or (pt_not (pt_val (pe_callB (r := rIsiT K) call_isiT (by rfl) T.isinstance (by decide +kernel) (pa_cons (pv 0) (pa_cons (pe_tup (pa_cons (pe_ty_list T.list) (pa_cons (pe_ty_tuple T.tuple) pa_nil))) pa_nil))))) (pw_or1 (pt_not (pt_val (pe_callB (r := rAll K) (cr_all rfl) (by rfl) T.all (by decide +kernel) (pa_cons (pe_lc (own := [("one", 2)]) (g := gName 2) (by rfl) sc_are_different.nd (pi_lt (pv 0)) (blkOk_by (own := [("one", 2)]) (N := N_are_different) (sc := defScope (top 20)) (by decide +kernel)) (fun _ _ _ _ _ => (pg_name (i := 2) sc_are_different.nd rfl (Or.inl rfl))) (fun _ _ _ _ _ => by exact pts_nil) (fun _ _ _ _ _ => by exact (pe_f (ok_is_below T) (hr.mono (by decide)) (pa_cons (pv 2) (pa_cons (pv 1) pa_nil))))) pa_nil)))))))
 (pss_one (ps_ret pe_bl))
 pss_nil)
 (pss_one (ps_ret (pe_cmpR op_eq (pe_lenSetA (by rfl) T.len (by rfl) T.set (pv 0)) (pe_callB call_len (by rfl) T.len (by decide +kernel) (pa_cons (pv 0) pa_nil)) (nomark _))))), ?_⟩
    have tyS : ∀ H1, Ex H H1 → ∃ a, TyX K H1 (.ref p) (.type a) ∧ PySem.W.kitAny K (.type a) [.type "list", .type "tuple"] = some true := fun H1 e => hs.elim (fun q => ⟨_, tyx_l (ex_l e q), kit_lt (by decide +kernel)⟩) fun q => ⟨_, tyx_t (ex_t e q), kit_lt (by decide +kernel)⟩
    refine q_when (b := false) ?_ (fun z => nomatch z) fun _ H1 e1 => ?_
    · refine et_is (et_or (et_not (et_B (ev_isiTT (ev_var rfl) tyS))) fun _ => et_not (et_B (ev_allM ns (fun k => below k n) ?_))) ?_
      · refine el_map ns _ (iw_lt (p := p) (ev_var rfl) hs) (by simp) (by omega) fun i c x Ha Hb hc ea y k hk => ?_
        obtain ⟨rfl, hx⟩ := y
        obtain rfl : V.int c = x := by
          rw [List.getElem?_map, hc] at hx
          exact Option.some.inj hx
        exact hk _ _ (Ex.refl _) rfl et_yes (ev_callV (ea_cons (ev_var rfl) (ea_cons (ev_var rfl) ea_nil)) fun H1 e Q q E => ⟨c, n, rfl, q⟩)
      · rw [List.all_eq_true.mpr hb]
        rfl
    · have hs1 := hs.imp (ex_l e1) (ex_t e1)
      refine s_ret (v := .bl true) (ev_is (ev_op (ev_lenSet (l := p) ns ns (ev_var rfl) hs1 hz nd fun _ => Iff.rfl) (ev_lenV (n := ns.length) (ev_var rfl) fun H2 e2 => ?_) (rv_eq rfl)) (by simp)) fun H2 e2 => k H2 (e1.trans e2)
      exact (hs1.imp (ex_l e2) (ex_t e2)).imp (fun q => ⟨_, q, by simp⟩) fun q => ⟨_, q, by simp⟩
end
end K33
/-! text Kd2 -/
set_option Elab.async false
set_option linter.all false
set_option maxRecDepth 100000
set_option maxHeartbeats 4000000
namespace K33
open PySem PySem.Spec PyProof.Rows L2 Evl
section
variable {P : Program} {w : World} {K : PySem.W.Frag} {mg : Str → Option Value} {base : Heap}
def TOk (t : Option Str) : Prop := ∀ z, t = some z → isName z = true ∧ z.length ≤ 8
def spMove (K : PySem.W.Frag) : Sp := fun vs H Q _ => ∃ (t : Addr) (g n : Int) (o : Option Str), vs = [.ref t, .int n] ∧ SqT K H t [.int g, tv o] ∧ below g n = true ∧ TOk o ∧ RetV (.bl true) H Q
abbrev N_is_move : List Str := ["value", "many"]
theorem sc_is_move : FnScope N_is_move ["value", "many"] (defScope (top 21)) := ⟨rfl, rfl, rfl, by decide +kernel, rfl, by decide +kernel, by decide +kernel⟩
theorem ok_is_move (T : Txt K mg) : Ok P w K mg base 4 "is_move" ["value", "many"] (spMove K) := by
  refine ok_of T.is_move sc_is_move (fun vs H Q E h => ?_) (fun _ _ _ _ _ _ us hl => match us, hl with | [_, _], _ => rfl) (fun f cdv A outer s H vs Q E hr h => ?_)
  · obtain ⟨_, _, _, _, rfl, _⟩ := h
    rfl
  · obtain ⟨t, g, n, o, rfl, ht, hg, ho, k⟩ := h
    refine ⟨_, (pss_cons (ps_if (PW.pt (pw_or (pt_not (pt_val (pe_callB (r := rIsi K) call_isi (by rfl) T.isinstance (by decide +kernel) (pa_cons (pv 0) (pa_cons (pe_ty_tuple T.tuple) pa_nil))))) (pw_or (pt_cmpR op_ne (pe_callB call_len (by rfl) T.len (by decide +kernel) (pa_cons (pv 0) pa_nil)) pe_int (nomark _)) (pw_or1 (pt_not (pt_val (pe_f (ok_is_below T) (hr.mono (by decide)) (pa_cons (pe_ix (r := rIxT K) ix_tup (pv 0) pe_int (fun _ _ => rfl)) (pa_cons (pv 1) pa_nil)))))))))
 (pss_one (ps_ret pe_bl))
 pss_nil)
 (pss_one (ps_ret (pe_or (pe_cmp (pc_isN (pe_ix (r := rIxT K) ix_tup (pv 0) pe_int (fun _ _ => rfl))) rfl) (pe_one (pe_f (ok_is_name T) (hr.mono (by decide)) (pa_cons (pe_ix (r := rIxT K) ix_tup (pv 0) pe_int (fun _ _ => rfl)) pa_nil))))))), ?_⟩
    refine q_when (b := false) ?_ (fun z => nomatch z) fun _ H1 e1 => ?_
    · refine et_is (et_or (et_not (et_B (ev_isi (ev_var rfl) (fun _ e => tyx_t (ex_t e ht)) (k := true) (by decide +kernel)))) fun _ => et_or (et_test (ev_op (ev_lenV (n := 2) (ev_var rfl) fun _ e => lenV_t ht e) ev_c (rv_ne rfl))) fun _ => et_not (et_B (ev_callV (ea_cons (ev_op (ev_var rfl) ev_c (rv_ixT (i := 0) ht rfl)) (ea_cons (ev_var rfl) ea_nil)) fun H1 e Q q E => ⟨g, n, rfl, q⟩))) ?_
      rw [hg]
      rfl
    · have ht1 := ex_t e1 ht
      refine s_ret (v := .bl true) (ev_is (ev_orV (ev_isN (ev_op (ev_var rfl) ev_c (rv_ixT (i := 1) ht1 rfl))) (b := true) fun hn => ?_) (by simp)) fun H2 e2 => k H2 (e1.trans e2)
      rw [tv_non] at hn
      cases o with
      | none => cases hn
      | some z =>
        obtain ⟨h1, h2⟩ := ho z rfl
        refine ev_is (ev_callV (z := .bl (isName z)) (ea_cons (ev_op (ev_var rfl) ev_c (rv_ixT (i := 1) ht1 rfl)) ea_nil) fun H1 e Q q E => ⟨z, rfl, by omega, q⟩) (by rw [h1])
def spRow (K : PySem.W.Frag) : Sp := fun vs H Q _ => ∃ (d : Addr) (n : Int) (r : Row), vs = [.ref d, .int n] ∧ RowAt K H d r ∧ r.length ≤ 1000 ∧ (∀ e ∈ r, isSign (sg e.1) = true ∧ below e.2.1 n = true ∧ TOk e.2.2) ∧ RetV (.bl true) H Q
abbrev N_is_state_dict : List Str := ["value", "many", "sign", "move"]
theorem sc_is_state_dict : FnScope N_is_state_dict ["value", "many"] (defScope (top 22)) := ⟨rfl, rfl, rfl, by decide +kernel, rfl, by decide +kernel, by decide +kernel⟩
theorem ok_is_state_dict (T : Txt K mg) : Ok P w K mg base 5 "is_state_dict" ["value", "many"] (spRow K) := by
  refine ok_of T.is_state_dict sc_is_state_dict (fun vs H Q E h => ?_) (fun _ _ _ _ _ _ us hl => match us, hl with | [_, _], _ => rfl) (fun f cdv A outer s H vs Q E hr h => ?_)
  · obtain ⟨_, _, _, rfl, _⟩ := h
    rfl
  · obtain ⟨d, n, r, rfl, hr2, hz, hok, k⟩ := h
    refine ⟨_, (pss_one (ps_ret (pe_and (pe_callB (r := rIsi K) call_isi (by rfl) T.isinstance (by decide +kernel) (pa_cons (pv 0) (pa_cons (pe_ty_dict T.dict) pa_nil))) (pe_one (pe_callB (r := rAll K) (cr_all rfl) (by rfl) T.all (by decide +kernel) (pa_cons (pe_lc (own := [("sign", 2), ("move", 3)]) (g := gTup K 2 (gCons (gName 2) (gCons (gName 3) gNil))) (by rfl) sc_is_state_dict.nd (pi_items (pv 0)) (blkOk_by (own := [("sign", 2), ("move", 3)]) (N := N_is_state_dict) (sc := defScope (top 22)) (by decide +kernel)) (fun _ _ _ _ _ => (pg_tup rfl (pgs_cons (pg_name (i := 2) sc_is_state_dict.nd rfl (Or.inl rfl)) (pgs_cons (pg_name (i := 3) sc_is_state_dict.nd rfl (Or.inl rfl)) pgs_nil)))) (fun _ _ _ _ _ => by exact pts_nil) (fun _ _ _ _ _ => by exact (pe_and (pe_f (ok_is_sign T) (hr.mono (by decide)) (pa_cons (pv 2) pa_nil)) (pe_one (pe_f (ok_is_move T) (hr.mono (by decide)) (pa_cons (pv 3) (pa_cons (pv 1) pa_nil))))))) pa_nil)))))), ?_⟩
    obtain ⟨kvs, fd, hl, hkv⟩ := hr2
    refine s_ret (v := .bl true) (ev_is (ev_andV (ev_isi (ev_var rfl) (fun _ e => tyx_d (fd.mono e)) (k := true) (by decide +kernel)) fun _ => ev_allM r (fun _ => true) ?_) (by simp)) k
    refine el_map r _ (iw_items (ev_var rfl) fd) hl (by omega) fun i e x Ha Hb hi ea y k hk => ?_
    obtain ⟨t, h1, h2⟩ := hkv i e hi
    obtain ⟨T, rfl, hT, rfl⟩ := pair_at y (by rw [h1]; rfl) (by rw [h1]; rfl)
    have eb : Ex Ha (upd Ha T (.tup [kV (.inr (sg e.1)), .ref t])) := Ex.new hT
    obtain ⟨o1, o2, o3⟩ := hok e (List.mem_of_getElem? hi)
    refine tg_pair (st_of upd_same) (hk _ _ eb rfl et_yes ?_)
    refine ev_is (ev_andV (ev_callV (z := .bl (isSign (sg e.1))) (ea_cons (ev_var rfl) ea_nil) fun H1 e1 Q q E => ⟨sg e.1, rfl, (show 1 ≤ 1000 by omega), q⟩) fun _ => ev_callV (z := .bl true) (ea_cons (ev_var rfl) (ea_cons (ev_var rfl) ea_nil)) fun H1 e1 Q q E => ⟨t, e.2.1, n, e.2.2, rfl, ex_t ((ea.trans eb).trans e1) h2, o2, o3, q⟩) ?_
    rw [o1]
    rfl
end
end K33
/-! text Kf -/
set_option Elab.async false
set_option linter.all false
set_option maxRecDepth 100000
set_option maxHeartbeats 4000000
namespace K33
open PySem PySem.Spec PyProof.Rows L2 Evl
theorem told_map (l : List Mv) : (l.filter fun e => e.2.2.isSome).map (fun e => tv e.2.2) = (l.filterMap fun e => e.2.2).map V.str := by
  induction l with
  | nil => rfl
  | cons e l ih =>
    obtain ⟨c, g, t⟩ := e
    cases t with
    | none => simpa using ih
    | some z =>
      simp only [List.filter_cons, Option.isSome_some, if_true, List.map_cons, List.filterMap_cons]
      rw [ih]
      rfl
section
variable {P : Program} {w : World} {K : PySem.W.Frag} {mg : Str → Option Value} {base : Heap}
/-- a row of a list of rows -/
theorem RowsL.at {H : Hp} {p : Addr} {rows : List Row} (h : RowsL K H p rows) : ∃ xs : List V, SqL K H p xs ∧ xs.length = rows.length ∧ ∀ (i : Nat) (r : Row), rows[i]? = some r → ∃ d, xs[i]? = some (.ref d) ∧ RowAt K H d r := by
  obtain ⟨ds, h1, h2, h3⟩ := h
  refine ⟨_, h1, by rw [List.length_map, h2], fun i r hr => ?_⟩
  obtain ⟨d, q1, q2⟩ := h3 i r hr
  exact ⟨d, by rw [List.getElem?_map, q1]; rfl, q2⟩
theorem RowsT.at {H : Hp} {p : Addr} {rows : List Row} (h : RowsT K H p rows) : ∃ xs : List V, SqT K H p xs ∧ xs.length = rows.length ∧ ∀ (i : Nat) (r : Row), rows[i]? = some r → ∃ d, xs[i]? = some (.ref d) ∧ RowAt K H d r := by
  obtain ⟨ds, h1, h2, h3⟩ := h
  refine ⟨_, h1, by rw [List.length_map, h2], fun i r hr => ?_⟩
  obtain ⟨d, q1, q2⟩ := h3 i r hr
  exact ⟨d, by rw [List.getElem?_map, q1]; rfl, q2⟩
def spTold (K : PySem.W.Frag) : Sp := fun vs H Q _ => ∃ (p : Addr) (rows : List Row), vs = [.ref p] ∧ RowsL K H p rows ∧ rows.flatten.length < 64 ∧
  ∀ (ys : List Str) (q : Addr) (H' : Hp), Ex H H' → H q = none → ys.Nodup → (∀ z, z ∈ ys ↔ ∃ r ∈ rows, ∃ e ∈ r, e.2.2 = some z) → H' q = some (.lst (ys.map V.str)) → Q (.ref q) H'
abbrev N_told_in : List Str := ["rows", "row", "goal", "told"]
theorem sc_told_in : FnScope N_told_in ["rows"] (defScope (top 23)) := ⟨rfl, rfl, rfl, by decide +kernel, rfl, by decide +kernel, by decide +kernel⟩
theorem ok_told_in (T : Txt K mg) : Ok P w K mg base 1 "told_in" ["rows"] (spTold K) := by
  refine ok_of T.told_in sc_told_in (fun vs H Q E h => ?_) (fun _ _ _ _ _ _ us hl => match us, hl with | [_], _ => rfl) (fun f cdv A outer s H vs Q E hr h => ?_)
  · obtain ⟨_, _, rfl, _⟩ := h
    rfl
  · obtain ⟨p, rows, rfl, hrows, few, k⟩ := h
    refine ⟨_, (pss_one (ps_ret (pe_sortedSet (by rfl) T.sorted (by rfl) T.set (pe_lc2 (own := [("row", 1), ("goal", 2), ("told", 3)]) (vs1 := [2, 3]) (g := gName 1) (g1 := gTup K 2 (gCons (gName 2) (gCons (gName 3) gNil))) (by rfl) sc_told_in.nd (pi_listK (K := K) (pv 0)) (blkOk_by (own := [("row", 1), ("goal", 2), ("told", 3)]) (N := N_told_in) (sc := defScope (top 23)) (by decide +kernel)) (by decide) (fun _ _ _ _ _ => (pg_name (i := 1) sc_told_in.nd rfl (Or.inl rfl))) (fun _ _ _ _ _ => pts_nil) (fun _ _ _ _ _ => (pi_values (pv 1))) (fun _ _ _ _ _ => (pg_tup rfl (pgs_cons (pg_name (i := 2) sc_told_in.nd rfl (Or.inl rfl)) (pgs_cons (pg_name (i := 3) sc_told_in.nd rfl (Or.inl rfl)) pgs_nil)))) (fun _ _ _ _ _ => (pts_one (pt_cmp (pc_notN (pv 3)) rfl))) (fun _ _ _ _ _ => (pv 3)))))), ?_⟩
    obtain ⟨xs, hx, hl, hat⟩ := hrows.at
    refine s_retP (evp_sortedSet (xs := rows.flatten.filterMap fun e => e.2.2) ((evp_L (xs := (rows.flatten.filterMap fun e => e.2.2).map V.str) ?_).imp fun v H' e ⟨l, h1, _, h2⟩ => .inl ⟨l, h1, sq_of h2⟩) ?_) fun v H1 e1 ⟨q, ys, hv, hq, nd, mem, _, hys⟩ => ?_
    · rw [← told_map, ← List.flatMap_id]
      refine el_flat rows id _ _ (iw_list (p := p) (ev_var rfl) hx) hl (by rw [List.flatMap_id]; omega) fun i r x Ha Hb hr ea y k hk => ?_
      obtain ⟨rfl, y2⟩ := y
      obtain ⟨d, h1, kvs, fd, hl2, hkv⟩ := hat i r hr
      rw [h1] at y2
      cases y2
      refine hk _ _ _ _ (Ex.refl _) rfl (fun D hD => iw_vals (d := d) (ev_var rfl) (fd.mono (ex_del ea hD))) hl2 fun D j e x1 Hc Hd he hD ec y1 k1 hk1 => ?_
      obtain ⟨rfl, kk, y3⟩ := y1
      obtain ⟨t, g1, g2⟩ := hkv j e he
      rw [g1] at y3
      cases y3
      refine tg_pair (ex_t ((ex_del ea hD).trans ec) g2) (hk1 _ _ (Ex.refl _) rfl (et_is (et_B (ev_notN (ev_var rfl))) ?_) fun _ => ev_var rfl)
      rw [tv_non]
      cases e.2.2 <;> rfl
    · exact Nat.lt_of_le_of_lt (List.length_filterMap_le _ _) few
    · subst hv
      refine k ys q H1 e1 hq nd (fun z => (mem z).trans ?_) hys
      rw [List.mem_filterMap]
      simp only [List.mem_flatten]
      constructor
      · rintro ⟨e, ⟨r, hr, he⟩, hz⟩
        exact ⟨r, hr, e, he, hz⟩
      · rintro ⟨r, hr, e, he, hz⟩
        exact ⟨e, ⟨r, hr, he⟩, hz⟩
def spSigns (K : PySem.W.Frag) : Sp := fun vs H Q _ => ∃ (p : Addr) (rows : List Row), vs = [.ref p] ∧ RowsL K H p rows ∧ rows.flatten.length < 64 ∧
  ∀ (ys : List Str) (q : Addr) (H' : Hp), Ex H H' → H q = none → ys.Nodup → (∀ z, z ∈ ys ↔ ∃ r ∈ rows, ∃ e ∈ r, sg e.1 = z) → H' q = some (.lst (ys.map V.str)) → Q (.ref q) H'
abbrev N_signs_in : List Str := ["rows", "row", "sign"]
theorem sc_signs_in : FnScope N_signs_in ["rows"] (defScope (top 24)) := ⟨rfl, rfl, rfl, by decide +kernel, rfl, by decide +kernel, by decide +kernel⟩
theorem ok_signs_in (T : Txt K mg) : Ok P w K mg base 1 "signs_in" ["rows"] (spSigns K) := by
  refine ok_of T.signs_in sc_signs_in (fun vs H Q E h => ?_) (fun _ _ _ _ _ _ us hl => match us, hl with | [_], _ => rfl) (fun f cdv A outer s H vs Q E hr h => ?_)
  · obtain ⟨_, _, rfl, _⟩ := h
    rfl
  · obtain ⟨p, rows, rfl, hrows, few, k⟩ := h
    refine ⟨_, (pss_one (ps_ret (pe_sortedSet (by rfl) T.sorted (by rfl) T.set (pe_lc2 (own := [("row", 1), ("sign", 2)]) (vs1 := [2]) (g := gName 1) (g1 := gName 2) (by rfl) sc_signs_in.nd (pi_listK (K := K) (pv 0)) (blkOk_by (own := [("row", 1), ("sign", 2)]) (N := N_signs_in) (sc := defScope (top 24)) (by decide +kernel)) (by decide) (fun _ _ _ _ _ => (pg_name (i := 1) sc_signs_in.nd rfl (Or.inl rfl))) (fun _ _ _ _ _ => pts_nil) (fun _ _ _ _ _ => (pi_keys (pv 1))) (fun _ _ _ _ _ => (pg_name (i := 2) sc_signs_in.nd rfl (Or.inl rfl))) (fun _ _ _ _ _ => pts_nil) (fun _ _ _ _ _ => (pv 2)))))), ?_⟩
    obtain ⟨xs, hx, hl, hat⟩ := hrows.at
    refine s_retP (evp_sortedSet (xs := rows.flatten.map fun e => sg e.1) ((evp_L (xs := (rows.flatten.map fun e => sg e.1).map V.str) ?_).imp fun v H' e ⟨l, h1, _, h2⟩ => .inl ⟨l, h1, sq_of h2⟩) (by rw [List.length_map]; exact few)) fun v H1 e1 ⟨q, ys, hv, hq, nd, mem, _, hys⟩ => ?_
    · have e0 : (rows.flatten.map fun e => sg e.1).map V.str = ((rows.flatMap id).filter fun _ => true).map (fun e => V.str (sg e.1)) := by
        rw [List.filter_eq_self.mpr (fun _ _ => rfl), List.map_map, List.flatMap_id]
        rfl
      rw [e0]
      refine el_flat rows id _ _ (iw_list (p := p) (ev_var rfl) hx) hl (by rw [List.flatMap_id]; omega) fun i r x Ha Hb hr ea y k hk => ?_
      obtain ⟨rfl, y2⟩ := y
      obtain ⟨d, h1, kvs, fd, hl2, hkv⟩ := hat i r hr
      rw [h1] at y2
      cases y2
      refine hk _ _ _ _ (Ex.refl _) rfl (fun D hD => iw_keys (d := d) (ev_var rfl) (fd.mono (ex_del ea hD))) hl2 fun D j e x1 Hc Hd he hD ec y1 k1 hk1 => ?_
      obtain ⟨rfl, kk, vv, y3, rfl⟩ := y1
      obtain ⟨t, g1, g2⟩ := hkv j e he
      rw [g1] at y3
      cases y3
      exact hk1 _ _ (Ex.refl _) rfl et_yes fun _ => ev_var rfl
    · subst hv
      refine k ys q H1 e1 hq nd (fun z => (mem z).trans ?_) hys
      rw [List.mem_map]
      simp only [List.mem_flatten]
      constructor
      · rintro ⟨e, ⟨r, hr, he⟩, hz⟩
        exact ⟨r, hr, e, he, hz⟩
      · rintro ⟨r, hr, e, he, hz⟩
        exact ⟨e, ⟨r, hr, he⟩, hz⟩
end
end K33
/-! text Kh -/
set_option Elab.async false
set_option linter.all false
set_option maxRecDepth 100000
set_option maxHeartbeats 4000000
namespace K33
open PySem PySem.Spec PyProof.Rows L2 Evl
section
variable {P : Program} {w : World} {K : PySem.W.Frag} {mg : Str → Option Value} {base : Heap}
/-- what Reader asks of its arguments -/
structure RdOk (rows : List Row) (ends : List Int) (start : Int) : Prop where
  pos : 1 ≤ rows.length
  few : rows.length ≤ 12
  ent : rows.flatten.length < 64
  ok : ∀ r ∈ rows, ∀ e ∈ r, isSign (sg e.1) = true ∧ e.2.1 < rows.length ∧ TOk e.2.2
  nds : ∀ r ∈ rows, (r.map (·.1)).Nodup
  nd : ends.Nodup
  en : ∀ k ∈ ends, below k rows.length = true
  st : below start rows.length = true
  page : ∃ L : List Str, L.length ≤ 6 ∧ ∀ r ∈ rows, ∀ e ∈ r, sg e.1 ∈ L
  texts : ∃ L : List Str, L.length ≤ 4 ∧ ∀ r ∈ rows, ∀ e ∈ r, ∀ z, e.2.2 = some z → isSign z = true → z ∈ L
  marks : ∃ L : List Str, L.length ≤ 6 ∧ ∀ r ∈ rows, ∀ e ∈ r, ∀ z, e.2.2 = some z → isMark z = true → z ∈ L
theorem RdOk.ends_len {rows : List Row} {ends : List Int} {start : Int} (ok : RdOk rows ends start) : ends.length ≤ 1000 := by
  have h : ends.length ≤ ((List.range rows.length).map fun (i : Nat) => (i : Int)).length := nd_len ok.nd fun k hk => by
    have h1 := ok.en k hk
    unfold below at h1
    rw [Bool.and_eq_true, decide_eq_true_eq, decide_eq_true_eq] at h1
    rw [List.mem_map]
    exact ⟨k.toNat, by rw [List.mem_range]; omega, by omega⟩
  have h2 := ok.few
  rw [List.length_map, List.length_range] at h
  omega
def spProblem (K : PySem.W.Frag) : Sp := fun vs H Q _ => ∃ (p q : Addr) (start : Int) (rows : List Row) (ends : List Int), vs = [.ref p, .ref q, .int start] ∧ RowsL K H p rows ∧ (SqL K H q (ends.map V.int) ∨ SqT K H q (ends.map V.int)) ∧ RdOk rows ends start ∧ RetV .non H Q
abbrev N_reader_problem : List Str := ["states", "ends", "start", "index", "row", "things", "thing"]
theorem sc_reader_problem : FnScope N_reader_problem ["states", "ends", "start"] (defScope (top 25)) := ⟨rfl, rfl, rfl, by decide +kernel, rfl, by decide +kernel, by decide +kernel⟩
theorem ok_reader_problem (T : Txt K mg) : Ok P w K mg base 6 "reader_problem" ["states", "ends", "start"] (spProblem K) := by
  refine ok_of T.reader_problem sc_reader_problem (fun vs H Q E h => ?_) (fun _ _ _ _ _ _ us hl => match us, hl with | [_, _, _], _ => rfl) (fun f cdv A outer s H vs Q E hr h => ?_)
  · obtain ⟨_, _, _, _, _, rfl, _⟩ := h
    rfl
  · obtain ⟨p, q, start, rows, ends, rfl, hr1, hq, ok, k⟩ := h
    refine ⟨_, (pss_cons (ps_if (PW.pt (pw_or (pt_not (pt_val (pe_callB (r := rIsiT K) call_isiT (by rfl) T.isinstance (by decide +kernel) (pa_cons (pv 0) (pa_cons (pe_tup (pa_cons (pe_ty_list T.list) (pa_cons (pe_ty_tuple T.tuple) pa_nil))) pa_nil))))) (pw_or1 (pt_not (pt_chain op_le op_le pe_int (pe_callB call_len (by rfl) T.len (by decide +kernel) (pa_cons (pv 0) pa_nil)) (ClX.pe_cval (pe_glob (v := .ref (clsOf mg "Reader")) (by rfl) T.Reader.glo rfl)))))))
 (pss_one (ps_ret (pe_tup (pa_cons pe_str (pa_cons pe_non pa_nil)))))
 pss_nil)
 (pss_cons (ps_for PassesOwn.never rfl (pi_enum (by rfl) T.enumerate (pa_cons (pv 0) pa_nil)) (pg_tup rfl (pgs_cons (pg_name (i := 3) sc_reader_problem.nd rfl (Or.inl rfl)) (pgs_cons (pg_name (i := 4) sc_reader_problem.nd rfl (Or.inl rfl)) pgs_nil)))
 (pss_one (ps_if (pt_not (pt_val (pe_f (ok_is_state_dict T) (hr.mono (by decide)) (pa_cons (pv 4) (pa_cons (pe_callB call_len (by rfl) T.len (by decide +kernel) (pa_cons (pv 0) pa_nil)) pa_nil)))))
 (pss_one (ps_ret (pe_tup (pa_cons pe_str (pa_cons (pv 3) pa_nil)))))
 pss_nil)))
 (pss_cons (ps_if (pt_not (pt_val (pe_f (ok_are_different T) (hr.mono (by decide)) (pa_cons (pv 1) (pa_cons (pe_callB call_len (by rfl) T.len (by decide +kernel) (pa_cons (pv 0) pa_nil)) pa_nil)))))
 (pss_one (ps_ret (pe_tup (pa_cons pe_str (pa_cons pe_non pa_nil)))))
 pss_nil)
 (pss_cons (ps_if (pt_not (pt_val (pe_f (ok_is_below T) (hr.mono (by decide)) (pa_cons (pv 2) (pa_cons (pe_callB call_len (by rfl) T.len (by decide +kernel) (pa_cons (pv 0) pa_nil)) pa_nil)))))
 (pss_one (ps_ret (pe_tup (pa_cons pe_str (pa_cons pe_non pa_nil)))))
 pss_nil)
 (pss_cons (ps_if (pt_cmpR op_gt (pe_callB call_len (by rfl) T.len (by decide +kernel) (pa_cons (pe_f (ok_signs_in T) (hr.mono (by decide)) (pa_cons (pv 0) pa_nil)) pa_nil)) (pe_MOST_PAGE_SIGNS T) (nomark _))
 (pss_one (ps_ret (pe_tup (pa_cons pe_str (pa_cons pe_non pa_nil)))))
 pss_nil)
 (pss_cons (ps_set (i := 5) sc_reader_problem.nd rfl (Or.inl rfl) (pe_f (ok_told_in T) (hr.mono (by decide)) (pa_cons (pv 0) pa_nil)))
 (pss_cons (ps_if (pt_cmpR op_gt (pe_callB call_len (by rfl) T.len (by decide +kernel) (pa_cons (pe_lc (own := [("thing", 6)]) (g := gName 6) (by rfl) sc_reader_problem.nd (pi_listK (K := K) (pv 5)) (blkOk_by (own := [("thing", 6)]) (N := N_reader_problem) (sc := defScope (top 25)) (by decide +kernel)) (fun _ _ _ _ _ => (pg_name (i := 6) sc_reader_problem.nd rfl (Or.inl rfl))) (fun _ _ _ _ _ => by exact (pts_one (pt_val (pe_f (ok_is_sign T) (hr.mono (by decide)) (pa_cons (pv 6) pa_nil))))) (fun _ _ _ _ _ => by exact (pv 6))) pa_nil)) (pe_MOST_TEXT_SIGNS T) (nomark _))
 (pss_one (ps_ret (pe_tup (pa_cons pe_str (pa_cons pe_non pa_nil)))))
 pss_nil)
 (pss_one (ps_ret (pe_ifExp (pt_cmpR op_gt (pe_callB call_len (by rfl) T.len (by decide +kernel) (pa_cons (pe_lc (own := [("thing", 6)]) (g := gName 6) (by rfl) sc_reader_problem.nd (pi_listK (K := K) (pv 5)) (blkOk_by (own := [("thing", 6)]) (N := N_reader_problem) (sc := defScope (top 25)) (by decide +kernel)) (fun _ _ _ _ _ => (pg_name (i := 6) sc_reader_problem.nd rfl (Or.inl rfl))) (fun _ _ _ _ _ => by exact (pts_one (pt_val (pe_f (ok_is_mark T) (hr.mono (by decide)) (pa_cons (pv 6) pa_nil))))) (fun _ _ _ _ _ => by exact (pv 6))) pa_nil)) (pe_MOST_MARKS T) (nomark _)) (pe_tup (pa_cons pe_str (pa_cons pe_non pa_nil))) pe_non)))))))))), ?_⟩
    obtain ⟨xs, hx, hxl, hat⟩ := hr1.at
    have len : ∀ H1, Ex H H1 → LenV K (.ref p) H1 rows.length := fun H1 e => .inl ⟨xs, ex_l e hx, hxl.symm⟩
    refine q_when (b := false) ?_ (fun z => nomatch z) fun _ H1 e1 => ?_
    · refine et_is (et_or (et_not (et_B (ev_isiTT (ev_var rfl) fun H1 e => ⟨_, tyx_l (ex_l e hx), kit_lt (k := true) (by decide +kernel)⟩))) fun _ => et_not (et_chain ev_c (ev_lenV (ev_var rfl) len) rv_le (fun _ => ev_cval T (by rfl) (ev_c)) fun _ => rv_le)) ?_
      have h1 := ok.pos
      have h2 := ok.few
      simp only [decide_eq_true (show (1 : Int) ≤ (rows.length : Int) by omega), decide_eq_true (show (rows.length : Int) ≤ 12 by omega)]
      rfl
    refine q_forW (iw_enum (ea_cons (ev_var rfl) ea_nil) (ex_l e1 hx)) (fun G0 i σ' H' => Ex H H' ∧ Ex G0 H' ∧ ∃ u v, σ' = [some (.ref p), some (.ref q), some (.int start), u, v, none, none]) (fun G0 H2 f1 f2 => ⟨(e1.trans f1).trans f2, f2, none, none, rfl⟩) (fun _ _ _ _ _ h => h.2.1) (fun G0 i x σ' Ha Hb f1 hi h y => ?_) fun G0 σ' H2 f1 h => ?_
    · obtain ⟨h1, h2, u, v, rfl⟩ := h
      obtain ⟨r, hr⟩ : ∃ r, rows[i]? = some r := ⟨rows[i]'(by omega), List.getElem?_eq_getElem (by omega)⟩
      obtain ⟨d, hd, hrow⟩ := hat i r hr
      obtain ⟨Tp, rfl, hT, rfl⟩ := pair_at y rfl hd
      have eb : Ex Ha (upd Ha Tp (.tup [.int (i : Nat), .ref d])) := Ex.new hT
      refine tg_pair (st_of upd_same) ?_
      refine s_when (b := false) ?_ (fun z => nomatch z) fun _ H3 e3 => ⟨(h1.trans eb).trans e3, (h2.trans eb).trans e3, _, _, rfl⟩
      refine et_is (et_not (et_B (ev_callV (z := .bl true) (ea_cons (ev_var rfl) (ea_cons (ev_lenV (ev_var rfl) fun H1 e => len H1 ((h1.trans eb).trans e)) ea_nil)) fun H3 e3 Q q E => ⟨d, rows.length, r, rfl, hrow.mono ((h1.trans eb).trans e3), ?_, fun e he => ?_, q⟩))) rfl
      · have m : r ∈ rows := List.mem_of_getElem? hr
        have q1 := List.length_flatten (L := rows)
        have q2 := ok.ent
        have q3 : r.length ≤ rows.flatten.length := by
          obtain ⟨a, b, hab⟩ := List.append_of_mem m
          rw [hab]
          simp
          omega
        omega
      · obtain ⟨g1, g2, g3⟩ := ok.ok r (List.mem_of_getElem? hr) e he
        exact ⟨g1, by unfold below; simp; omega, g3⟩
    · obtain ⟨h1, h2, u, v, rfl⟩ := h
      have len2 : ∀ H1, Ex H2 H1 → LenV K (.ref p) H1 rows.length := fun H3 e => len H3 (h1.trans e)
      refine q_when (b := false) ?_ (fun z => nomatch z) fun _ H3 e3 => ?_
      · exact et_is (et_not (et_B (ev_callV (z := .bl true) (ea_cons (ev_var rfl) (ea_cons (ev_lenV (ev_var rfl) len2) ea_nil)) fun H3 e3 Q qq E => ⟨q, rows.length, ends, rfl, (hq.imp (ex_l (h1.trans e3)) (ex_t (h1.trans e3))), ok.ends_len, ok.nd, ok.en, qq⟩))) rfl
      have h3 := h1.trans e3
      refine q_when (b := false) ?_ (fun z => nomatch z) fun _ H4 e4 => ?_
      · refine et_is (et_not (et_B (ev_callV (z := .bl (below start rows.length)) (ea_cons (ev_var rfl) (ea_cons (ev_lenV (ev_var rfl) fun H1 e => len H1 (h3.trans e)) ea_nil)) fun H3 e3 Q qq E => ⟨start, rows.length, rfl, qq⟩))) (by rw [ok.st]; rfl)
      have h4 := h3.trans e4
      refine q_when (b := false) ?_ (fun z => nomatch z) fun _ H5 e5 => ?_
      · refine et_lenGt (evp_call (ea_of (ea_cons (ev_var rfl) ea_nil)) fun vs H6 e6 hv => ?_)
        subst hv
        refine fun H7 e7 Q qq E => ⟨p, rows, rfl, hr1.mono ((h4.trans e6).trans e7), ok.ent, fun ys r H8 e8 hr8 nd mem hys => qq _ H8 e8 ⟨ys.length, .inl ⟨_, sq_of hys, by simp⟩, ?_⟩⟩
        obtain ⟨L, l1, l2⟩ := ok.page
        have := nd_len (m := L) nd fun z hz => by
          obtain ⟨r, hr, e, he, rfl⟩ := (mem z).mp hz
          exact l2 r hr e he
        omega
      have h5 := h4.trans e5
      refine q_asgP (evp_call (P := fun v H1 => ∃ (ys : List Str) (t : Addr), v = .ref t ∧ ys.Nodup ∧ (∀ z, z ∈ ys ↔ ∃ r ∈ rows, ∃ e ∈ r, e.2.2 = some z) ∧ H1 t = some (.lst (ys.map V.str))) (ea_of (ea_cons (ev_var rfl) ea_nil)) fun vs H6 e6 hv => ?_) fun v H6 e6 hv => ?_
      · subst hv
        exact fun H7 e7 Q qq E => ⟨p, rows, rfl, hr1.mono ((h5.trans e6).trans e7), ok.ent, fun ys r H8 e8 hr8 nd mem hys => qq _ H8 e8 ⟨ys, r, rfl, nd, mem, hys⟩⟩
      obtain ⟨ys, t, rfl, nd, mem, ht⟩ := hv
      have small : ∀ z ∈ ys, z.length ≤ 1000 := fun z hz => by
        obtain ⟨r, hr, e, he, ez⟩ := (mem z).mp hz
        have := ((ok.ok r hr e he).2.2 z ez).2
        omega
      have few : ys.length ≤ 50000 := by
        have := nd_len (m := rows.flatten.filterMap fun e => e.2.2) nd fun z hz => by
          obtain ⟨r, hr, e, he, ez⟩ := (mem z).mp hz
          exact List.mem_filterMap.mpr ⟨e, List.mem_flatten.mpr ⟨r, hr, he⟩, ez⟩
        have q := List.length_filterMap_le (fun e : Mv => e.2.2) rows.flatten
        have := ok.ent
        omega
      have cnt : ∀ (f : Str → Bool) (m : Nat), (∃ L : List Str, L.length ≤ m ∧ ∀ r ∈ rows, ∀ e ∈ r, ∀ z, e.2.2 = some z → f z = true → z ∈ L) → ((ys.filter f).map V.str).length ≤ m := fun f m ⟨L, l1, l2⟩ => by
        have := nd_len (m := L) (nd.filter f) fun z hz => by
          obtain ⟨h1, h2⟩ := List.mem_filter.mp hz
          obtain ⟨r, hr, e, he, ez⟩ := (mem z).mp h1
          exact l2 r hr e he z ez h2
        rw [List.length_map]
        omega
      refine q_when (b := false) ?_ (fun z => nomatch z) fun _ H7 e7 => ?_
      · refine et_lenGt ((evp_L (el_filter ys isSign V.str (iw_list (p := t) (ev_var rfl) (sq_of ht)) (by simp) few fun i z x Ha Hb hz ea y k hk => ?_)).imp fun v H' e ⟨r, hv, _, h⟩ => ⟨((ys.filter isSign).map V.str).length, (by rw [hv]; exact Or.inl ⟨_, sq_of h, rfl⟩), ?_⟩)
        · obtain ⟨rfl, y2⟩ := y
          rw [List.getElem?_map, hz] at y2
          cases y2
          exact hk _ _ (Ex.refl _) rfl (et_B (ev_callV (ea_cons (ev_var rfl) ea_nil) fun H1 e1 Q q E => ⟨z, rfl, small z (List.mem_of_getElem? hz), q⟩)) fun _ => ev_var rfl
        · have := cnt isSign 4 ok.texts
          omega
      refine s_ret (v := .non) (ev_if (b := false) ?_ (fun z => nomatch z) fun _ => ev_c) fun H8 e8 => k H8 (((h5.trans e6).trans e7).trans e8)
      refine et_lenGt ((evp_L (el_filter ys isMark V.str (iw_list (p := t) (ev_var rfl) (sq_of (e7 _ _ ht))) (by simp) few fun i z x Ha Hb hz ea y k hk => ?_)).imp fun v H' e ⟨r, hv, _, h⟩ => ⟨((ys.filter isMark).map V.str).length, (by rw [hv]; exact Or.inl ⟨_, sq_of h, rfl⟩), ?_⟩)
      · obtain ⟨rfl, y2⟩ := y
        rw [List.getElem?_map, hz] at y2
        cases y2
        exact hk _ _ (Ex.refl _) rfl (et_B (ev_callV (ea_cons (ev_var rfl) ea_nil) fun H1 e1 Q q E => ⟨z, rfl, small z (List.mem_of_getElem? hz), q⟩)) fun _ => ev_var rfl
      · have := cnt isMark 6 ok.marks
        omega
end
end K33
/-! text Ki -/
set_option Elab.async false
set_option linter.all false
set_option maxRecDepth 100000
set_option maxHeartbeats 4000000
namespace K33
open PySem PySem.Spec PyProof.Rows L2 Evl
/-- a reader object with these rows -/
def ReaderAt (K : PySem.W.Frag) (mg : Str → Option Value) (H : Hp) (a : Addr) (rows : List Row) : Prop := ∃ (dx q : Addr) (fs : List (Str × V)), H a = some (.ins (clsOf mg "Reader") dx fs) ∧ fs.lookup ("rows" : Str) = some (.ref q) ∧ RowsT K H q rows
theorem ReaderAt.mono {K : PySem.W.Frag} {mg : Str → Option Value} {H H' : Hp} {a : Addr} {rows : List Row} (h : ReaderAt K mg H a rows) (e : Ex H H') : ReaderAt K mg H' a rows := by
  obtain ⟨dx, q, fs, h1, h2, h3⟩ := h
  exact ⟨dx, q, fs, e _ _ h1, h2, h3.mono e⟩
section
variable {P : Program} {w : World} {K : PySem.W.Frag} {mg : Str → Option Value} {base : Heap}
def spRLen (K : PySem.W.Frag) (mg : Str → Option Value) : Sp := fun vs H Q _ => ∃ (a : Addr) (rows : List Row), vs = [.ref a] ∧ ReaderAt K mg H a rows ∧ RetV (.int (rows.length : Nat)) H Q
abbrev N_Reader___len__ : List Str := ["self"]
theorem sc_Reader___len__ : FnScope N_Reader___len__ ["self"] (defScope (inClass (top 26) 10)) := ⟨rfl, rfl, rfl, by decide +kernel, rfl, by decide +kernel, by decide +kernel⟩
theorem ok_Reader_len (T : Txt K mg) : ∃ f, Meth K (clsOf mg "Reader") "__len__" f ∧ OkF P w K mg base 1 f ["self"] (spRLen K mg) := by
  obtain ⟨f, fd, m, F⟩ := T.Reader_len
  refine ⟨f, m, okF_of F sc_Reader___len__ (fun vs H Q E h => ?_) (fun _ _ _ _ _ _ us hl => match us, hl with | [_], _ => rfl) (fun cdv A outer s H vs Q E hr h => ?_)⟩
  · obtain ⟨_, _, rfl, _⟩ := h
    rfl
  · obtain ⟨a, rows, rfl, ⟨dx, q, fs, h1, h2, h3⟩, k⟩ := h
    refine ⟨_, (pss_one (ps_ret (pe_callB call_len (by rfl) T.len (by decide +kernel) (pa_cons (pe_fldK (K := K) (pv 0)) pa_nil)))), ?_⟩
    obtain ⟨xs, x1, x2, _⟩ := h3.at
    refine s_ret (v := .int (rows.length : Nat)) ?_ k
    exact ev_lenV (ev_fld T.Reader (by simp) (ev_var rfl) h1 h2) fun H1 e => .inr ⟨xs, ex_t e x1, x2.symm⟩
def spRIn (K : PySem.W.Frag) (mg : Str → Option Value) : Sp := fun vs H Q _ => ∃ (a : Addr) (rows : List Row) (i : Int), vs = [.ref a, .int i] ∧ ReaderAt K mg H a rows ∧ RetV (.bl (below i rows.length)) H Q
abbrev N_Reader___contains__ : List Str := ["self", "value"]
theorem sc_Reader___contains__ : FnScope N_Reader___contains__ ["self", "value"] (defScope (inClass (top 26) 11)) := ⟨rfl, rfl, rfl, by decide +kernel, rfl, by decide +kernel, by decide +kernel⟩
theorem ok_Reader_contains (T : Txt K mg) : ∃ f, Meth K (clsOf mg "Reader") "__contains__" f ∧ OkF P w K mg base 2 f ["self", "value"] (spRIn K mg) := by
  obtain ⟨f, fd, m, F⟩ := T.Reader_contains
  refine ⟨f, m, okF_of F sc_Reader___contains__ (fun vs H Q E h => ?_) (fun _ _ _ _ _ _ us hl => match us, hl with | [_, _], _ => rfl) (fun cdv A outer s H vs Q E hr h => ?_)⟩
  · obtain ⟨_, _, _, rfl, _⟩ := h
    rfl
  · obtain ⟨a, rows, i, rfl, ⟨dx, q, fs, h1, h2, h3⟩, k⟩ := h
    refine ⟨_, (pss_one (ps_ret (pe_f (ok_is_below T) (hr.mono (by decide)) (pa_cons (pv 1) (pa_cons (pe_callB call_len (by rfl) T.len (by decide +kernel) (pa_cons (pe_fldK (K := K) (pv 0)) pa_nil)) pa_nil))))), ?_⟩
    obtain ⟨xs, x1, x2, _⟩ := h3.at
    refine s_ret (v := .bl (below i rows.length)) ?_ k
    exact ev_callV (ea_cons (ev_var rfl) (ea_cons (ev_lenV (n := rows.length) (ev_fld T.Reader (by simp) (ev_var rfl) h1 h2) fun H1 e => .inr ⟨xs, ex_t e x1, x2.symm⟩) ea_nil)) fun H1 e Q q E => ⟨i, rows.length, rfl, q⟩
end
section
variable {X : Cx}
theorem op_notIn_Reader (T : Txt X.K X.mg) (hr : Room 2 X.A) : OpR X (compareOp .NotIn) (rOwnIn (clsOf X.mg "Reader") (spRIn X.K X.mg) true) := by
  obtain ⟨f, m, F⟩ := ok_Reader_contains (P := X.prog) (w := X.w) (base := X.base) T
  exact op_ownNotIn F hr m
theorem pe_len_Reader {a : Expr} {ta : TE} {p pos : Pos} (T : Txt X.K X.mg) (hr : Room 2 X.A) (ha : PE X a ta) (gL : Gl X "len" := by rfl) (na : starEach [a] X.env = (false, eval a X.env) :: starEach [] X.env := by rfl) : PE X (.Call (.Name "len" p) [a] [] pos) (tOwnLen (clsOf X.mg "Reader") (spRLen X.K X.mg) ta) := by
  obtain ⟨f, m, F⟩ := ok_Reader_len (P := X.prog) (w := X.w) (base := X.base) T
  exact pe_ownLen F hr m gL T.len ha na
end
section
variable {P : Program} {w : World} {K : PySem.W.Frag} {mg : Str → Option Value} {base : Heap}
def spReqState (K : PySem.W.Frag) (mg : Str → Option Value) : Sp := fun vs H Q _ => ∃ (a : Addr) (rows : List Row) (i : Int), vs = [.ref a, .int i] ∧ ReaderAt K mg H a rows ∧ below i rows.length = true ∧ RetV .non H Q
abbrev N_require_state : List Str := ["reader", "value"]
theorem sc_require_state : FnScope N_require_state ["reader", "value"] (defScope (top 27)) := ⟨rfl, rfl, rfl, by decide +kernel, rfl, by decide +kernel, by decide +kernel⟩
theorem ok_require_state (T : Txt K mg) : Ok P w K mg base 3 "require_state" ["reader", "value"] (spReqState K mg) := by
  refine ok_of T.require_state sc_require_state (fun vs H Q E h => ?_) (fun _ _ _ _ _ _ us hl => match us, hl with | [_, _], _ => rfl) (fun f cdv A outer s H vs Q E hr h => ?_)
  · obtain ⟨_, _, _, rfl, _⟩ := h
    rfl
  · obtain ⟨a, rows, i, rfl, hr1, hb, k⟩ := h
    refine ⟨_, (pss_one (ps_if (pt_cmpR (op_notIn_Reader T (hr.mono (by decide))) (pv 1) (pv 0) (by rfl))
 (pss_one ps_never)
 pss_nil)), ?_⟩
    refine s_when (b := false) ?_ (fun z => nomatch z) fun _ H1 e1 => k H1 e1
    refine et_test fun H1 e Q q => ⟨_, rfl, _, rfl, ?_⟩
    obtain ⟨dx, qq, fs, h1, h2, h3⟩ := hr1.mono e
    exact ⟨a, dx, fs, rfl, h1, a, rows, i, rfl, hr1.mono e, fun H2 e2 => ⟨_, rfl, by rw [hb]; exact q H2 e2⟩⟩
def spReqStates (K : PySem.W.Frag) (mg : Str → Option Value) : Sp := fun vs H Q _ => ∃ (a p : Addr) (rows : List Row) (ns : List Int), vs = [.ref a, .ref p] ∧ ReaderAt K mg H a rows ∧ rows.length ≤ 1000 ∧ SqL K H p (ns.map V.int) ∧ ns.Nodup ∧ (∀ k ∈ ns, below k rows.length = true) ∧ RetV .non H Q
abbrev N_require_states : List Str := ["reader", "value"]
theorem sc_require_states : FnScope N_require_states ["reader", "value"] (defScope (top 28)) := ⟨rfl, rfl, rfl, by decide +kernel, rfl, by decide +kernel, by decide +kernel⟩
theorem ok_require_states (T : Txt K mg) : Ok P w K mg base 3 "require_states" ["reader", "value"] (spReqStates K mg) := by
  refine ok_of T.require_states sc_require_states (fun vs H Q E h => ?_) (fun _ _ _ _ _ _ us hl => match us, hl with | [_, _], _ => rfl) (fun f cdv A outer s H vs Q E hr h => ?_)
  · obtain ⟨_, _, _, _, rfl, _⟩ := h
    rfl
  · obtain ⟨a, p, rows, ns, rfl, hr1, hz, hs, nd, hb, k⟩ := h
    refine ⟨_, (pss_one (ps_if (pt_not (pt_val (pe_f (ok_are_different T) (hr.mono (by decide)) (pa_cons (pv 1) (pa_cons (pe_len_Reader T (hr.mono (by decide)) (pv 0)) pa_nil)))))
 (pss_one ps_never)
 pss_nil)), ?_⟩
    refine s_when (b := false) ?_ (fun z => nomatch z) fun _ H1 e1 => k H1 e1
    have few : ns.length ≤ 1000 := by
      have h : ns.length ≤ ((List.range rows.length).map fun (i : Nat) => (i : Int)).length := nd_len nd fun k hk => by
        have h1 := hb k hk
        unfold below at h1
        rw [Bool.and_eq_true, decide_eq_true_eq, decide_eq_true_eq] at h1
        exact List.mem_map.mpr ⟨k.toNat, by rw [List.mem_range]; omega, by omega⟩
      rw [List.length_map, List.length_range] at h
      omega
    refine et_is (et_not (et_B (ev_callV (z := .bl true) (vs := [.ref p, .int (rows.length : Nat)]) (ea_cons (ev_var rfl) (ea_cons ?_ ea_nil)) fun H1 e Q q E => ⟨p, rows.length, ns, rfl, .inl (ex_l e hs), few, nd, hb, q⟩))) rfl
    refine fun H1 e Q q => ⟨_, rfl, ?_⟩
    obtain ⟨dx, qq, fs, h1, h2, h3⟩ := hr1.mono e
    exact ⟨a, dx, fs, rfl, h1, a, rows, rfl, hr1.mono e, fun H2 e2 => ⟨rows.length, by omega, rfl, q H2 e2⟩⟩
def spReqWord : Sp := fun vs H Q _ => ∃ z : Str, vs = [.str z] ∧ z.length ≤ 1000 ∧ abc z = true ∧ RetV .non H Q
abbrev N_require_word : List Str := ["value"]
theorem sc_require_word : FnScope N_require_word ["value"] (defScope (top 29)) := ⟨rfl, rfl, rfl, by decide +kernel, rfl, by decide +kernel, by decide +kernel⟩
theorem ok_require_word (T : Txt K mg) : Ok P w K mg base 2 "require_word" ["value"] spReqWord := by
  refine ok_of T.require_word sc_require_word (fun vs H Q E h => ?_) (fun _ _ _ _ _ _ us hl => match us, hl with | [_], _ => rfl) (fun f cdv A outer s H vs Q E hr h => ?_)
  · obtain ⟨_, rfl, _⟩ := h
    rfl
  · obtain ⟨z, rfl, hz, ha, k⟩ := h
    refine ⟨_, (pss_one (ps_if (pt_not (pt_val (pe_f (ok_is_word T) (hr.mono (by decide)) (pa_cons (pv 0) pa_nil))))
 (pss_one ps_never)
 pss_nil)), ?_⟩
    refine s_when (b := false) ?_ (fun z => nomatch z) fun _ H1 e1 => k H1 e1
    exact et_is (et_not (et_B (ev_callV (z := .bl (abc z)) (ea_cons (ev_var rfl) ea_nil) fun H1 e Q q E => ⟨z, rfl, hz, q⟩))) (by rw [ha]; rfl)
end
end K33
/-! text Kj -/
set_option Elab.async false
set_option linter.all false
set_option maxRecDepth 100000
set_option maxHeartbeats 4000000
namespace K33
open PySem PySem.Spec PyProof.Rows L2 Evl
theorem perm_zip {α β : Type} {ks ks' : List α} (p : ks'.Perm ks) : ∀ rs : List β, rs.length = ks.length → ∃ rs' : List β, rs'.Perm rs ∧ rs'.length = ks'.length ∧ (ks'.zip rs').Perm (ks.zip rs) := by
  induction p with
  | nil =>
    intro rs h
    cases rs with
    | nil => exact ⟨[], List.Perm.nil, rfl, List.Perm.nil⟩
    | cons _ _ => cases h
  | cons x _ ih =>
    intro rs h
    cases rs with
    | nil => cases h
    | cons y rs =>
      obtain ⟨rs', h1, h2, h3⟩ := ih rs (Nat.succ.inj h)
      exact ⟨y :: rs', h1.cons y, congrArg Nat.succ h2, h3.cons (x, y)⟩
  | swap x y l =>
    intro rs h
    match rs, h with
    | a :: b :: rs, h => exact ⟨b :: a :: rs, List.Perm.swap a b rs, h, List.Perm.swap (x, a) (y, b) _⟩
  | trans _ _ ih1 ih2 =>
    intro rs h
    obtain ⟨rs1, a1, a2, a3⟩ := ih2 rs h
    obtain ⟨rs2, b1, b2, b3⟩ := ih1 rs1 a2
    exact ⟨rs2, b1.trans a1, b2, b3.trans a3⟩
theorem paired_imp {α β : Type} {F G : α → β → Prop} (i : ∀ a b, F a b → G a b) : ∀ {l : List α} {m : List β}, Paired F l m → Paired G l m
  | _, _, .nil => .nil
  | _, _, .cons h t => .cons (i _ _ h) (paired_imp i t)
theorem putK_new {κ : Type} [DecidableEq κ] {kvs : List (κ × V)} {k : κ} {v : V} (h : k ∉ kvs.map (·.1)) : putK kvs k v = kvs ++ [(k, v)] := by
  unfold putK
  rw [if_neg (by
    simp only [List.any_eq_true, decide_eq_true_eq, not_exists, not_and]
    intro p hp e
    exact h (List.mem_map.mpr ⟨p, hp, e⟩))]
theorem merge_app : ∀ {more acc : List (Key × V)}, ((acc ++ more).map (·.1)).Nodup → mergeK acc more = acc ++ more
  | [], acc, _ => (List.append_nil acc).symm
  | (k, v) :: more, acc, h => by
    have h1 : ((acc ++ [(k, v)] ++ more).map (·.1)).Nodup := by simpa using h
    have nk : k ∉ acc.map (·.1) := fun m => by
      rw [List.map_append, List.nodup_append] at h
      exact h.2.2 k m k (by simp) rfl
    show mergeK (putK acc k v) more = _
    rw [putK_new nk, merge_app h1]
    simp
theorem merge_nil {kvs : List (Key × V)} (h : (kvs.map (·.1)).Nodup) : mergeK [] kvs = kvs := merge_app (acc := []) h
section
variable {P : Program} {w : World} {K : PySem.W.Frag} {mg : Str → Option Value} {base : Heap}
/-- dict(sorted(row.items())), from now on read only -/
theorem evp_dsi {σ : L2.St} {G H : Hp} {te : TE} {d : Addr} {r : Row} (eG : Ex G H) (he : Ev te σ H (.ref d)) (hr : RowAt K G d r) (nd : (r.map (·.1)).Nodup) :
    EvP (tFz (tCB (rDictP K) (tCons (tSortedItems te) tNil))) σ H
      (fun v H' => ∃ (p : Addr) (r' : Row), v = .ref p ∧ H p = none ∧ r'.Perm r ∧ ∃ kvs : List (Key × V), FD H' p kvs ∧ kvs.length = r'.length ∧ ∀ (i : Nat) (e : Mv), r'[i]? = some e → ∃ t, kvs[i]? = some (.inr (sg e.1), .ref t) ∧ SqT K G t [.int e.2.1, tv e.2.2]) := by
  obtain ⟨kvs, ⟨o, fd⟩, hl, hkv⟩ := hr
  have txt : ∀ p ∈ kvs, ∃ z : Str, p.1 = .inr z := fun p hp => by
    obtain ⟨i, hi⟩ := List.mem_iff_getElem?.mp hp
    have hlt := (List.getElem?_eq_some_iff.mp hi).1
    obtain ⟨t, h1, _⟩ := hkv i (r[i]'(by omega)) (List.getElem?_eq_getElem (by omega))
    rw [hi] at h1
    cases h1
    exact ⟨_, rfl⟩
  have keys : kvs.map (·.1) = r.map fun e => .inr (sg e.1) := by
    apply List.ext_getElem?
    intro i
    rw [List.getElem?_map, List.getElem?_map]
    by_cases hi : i < r.length
    · obtain ⟨t, h1, _⟩ := hkv i r[i] (List.getElem?_eq_getElem hi)
      rw [h1, List.getElem?_eq_getElem hi]
      rfl
    · rw [List.getElem?_eq_none (by omega), List.getElem?_eq_none (by omega)] <;> rfl
  have ndk : (kvs.map (·.1)).Nodup := by
    have h2 : (r.map (·.1)).map (fun c => (Sum.inr (sg c) : Key)) = kvs.map (·.1) := by rw [keys, List.map_map]; rfl
    rw [← h2]
    exact nd.map _ fun a b e hab => e (by
      have h3 := Sum.inr.inj hab
      unfold sg at h3
      simpa using h3)
  refine (evp_fz (P := fun kvs' _ => kvs'.Perm kvs) fun G' e H1 e1 Q q => ?_).imp fun v H' e ⟨p, kvs', hv, hp, f, pm⟩ => ?_
  · refine he H1 (e.trans e1) _ fun H2 e2 => ⟨d, kvs, rfl, .inr ⟨o, e2 _ _ (e1 _ _ (e _ _ (eG _ _ fd)))⟩, txt, fun H3 p ts kvs' pm e3 hp hl3 pr => ⟨p, ts, kvs', rfl, sq_of hl3, ?_, fun p2 hp2 => ?_⟩⟩
    · exact paired_imp (fun _ _ h => st_of h) pr
    · rw [merge_nil ((pm.map (·.1)).nodup_iff.mpr ndk)]
      exact q _ _ ((e2.trans e3).trans (Ex.new hp2)) ⟨p2, kvs', rfl, fresh_back e1 (fresh_back (e2.trans e3) hp2), upd_same, pm⟩
  · obtain ⟨r', h1, h2, h3⟩ := perm_zip pm r hl.symm
    refine ⟨p, r', hv, hp, h1, kvs', f, h2.symm, fun i e' he' => ?_⟩
    have hlt := (List.getElem?_eq_some_iff.mp he').1
    have hz : (kvs'.zip r')[i]? = some (kvs'[i]'(by omega), e') := by
      rw [List.getElem?_zip_eq_some]
      exact ⟨List.getElem?_eq_getElem (by omega), he'⟩
    obtain ⟨j, hj⟩ := List.mem_iff_getElem?.mp (h3.mem_iff.mp (List.mem_of_getElem? hz))
    rw [List.getElem?_zip_eq_some] at hj
    obtain ⟨t, g1, g2⟩ := hkv j e' hj.2
    refine ⟨t, ?_, g2⟩
    rw [List.getElem?_eq_getElem (show i < kvs'.length by omega), ← g1, hj.1]
end
end K33
/-! text Kk -/
set_option Elab.async false
set_option linter.all false
set_option maxRecDepth 100000
set_option maxHeartbeats 4000000
namespace K33
open PySem PySem.Spec PyProof.Rows L2 Evl
/-- the same rows, each in some order -/
def PermR (rows rows' : List Row) : Prop := rows'.length = rows.length ∧ ∀ (i : Nat) (r : Row), rows[i]? = some r → ∃ r' : Row, rows'[i]? = some r' ∧ r'.Perm r
section
variable {P : Program} {w : World} {K : PySem.W.Frag} {mg : Str → Option Value} {base : Heap}
theorem s_fld {cn f : Str} {flds : List Str} {tv : TE} {D : Ends} {σ : L2.St} {H : Hp} {a dx : Addr} {fs : List (Str × V)} {j : Nat} {P : V → Hp → Prop} (cf : ClassF K mg cn flds) (hf : f ∈ flds) (hv : EvP tv σ H P) (hσ : σ[j]? = some (some (.ref a))) (ho : H a = some (.ins (clsOf mg cn) dx fs)) (hl : fs.length < 1000)
    (k : ∀ y H1, Ex H H1 → P y H1 → D.nx σ (upd H1 a (.ins (clsOf mg cn) dx (putF f y fs)))) : sFld K (tVar j) tv f D σ H :=
  hv H (Ex.refl _) _ fun y H1 e1 p => ⟨.ref a, hσ, a, _, dx, fs, rfl, e1 _ _ ho, cf.cls, cf.no f hf, hl, k y H1 e1 p⟩
theorem q_fld {cn f : Str} {flds : List Str} {tv : TE} {D : Ends} {tz : TS} {σ : L2.St} {H : Hp} {a dx : Addr} {fs : List (Str × V)} {j : Nat} {P : V → Hp → Prop} (cf : ClassF K mg cn flds) (hf : f ∈ flds) (hv : EvP tv σ H P) (hσ : σ[j]? = some (some (.ref a))) (ho : H a = some (.ins (clsOf mg cn) dx fs)) (hl : fs.length < 1000)
    (k : ∀ y H1, Ex H H1 → P y H1 → tz D σ (upd H1 a (.ins (clsOf mg cn) dx (putF f y fs)))) : tSeq (sFld K (tVar j) tv f) tz D σ H :=
  s_fld (D := { D with nx := tz D }) cf hf hv hσ ho hl k
def spReaderInit (K : PySem.W.Frag) (mg : Str → Option Value) : Sp := fun vs H Q _ => ∃ (a dx p q : Addr) (start : Int) (rows : List Row) (ends : List Int), vs = [.ref a, .ref p, .ref q, .int start] ∧ H a = some (.ins (clsOf mg "Reader") dx []) ∧ RowsL K (del a H) p rows ∧ (SqL K (del a H) q (ends.map V.int) ∨ SqT K (del a H) q (ends.map V.int)) ∧ RdOk rows ends start ∧
  ∀ (H' : Hp) (rows' : List Row), Ex (del a H) H' → PermR rows rows' → ReaderAt K mg H' a rows' → Q .non H'
abbrev N_Reader___init__ : List Str := ["self", "states", "ends", "start", "problem", "row"]
theorem sc_Reader___init__ : FnScope N_Reader___init__ ["self", "states", "ends", "start"] (defScope (inClass (top 26) 1)) := ⟨rfl, rfl, rfl, by decide +kernel, rfl, by decide +kernel, by decide +kernel⟩
theorem ok_Reader_init (T : Txt K mg) : ∃ (f : Addr) (fd : FuncData) (T0 : Addr), Mk K (clsOf mg "Reader") f ∧ FunM K "__init__" "Reader.__init__" (inClass (top 26) 1) [.ref T0] [("start", .int 0)] f fd ∧ (∀ H, SqT K H T0 []) ∧ FnOk P w K mg base CX0 7 f fd ["self", "states", "ends", "start"] (spReaderInit K mg) := by
  obtain ⟨f, fd, T0, m, F, hT0⟩ := T.Reader_init
  refine ⟨f, fd, T0, m, F, hT0, F.ok sc_Reader___init__ (fun vs H Q E h => ?_) (fun cdv A outer s H vs Q E hr h => ?_)⟩
  · obtain ⟨_, _, _, _, _, _, _, rfl, _⟩ := h
    rfl
  · obtain ⟨a, dx, p, q, start, rows, ends, rfl, ha, hr1, hq, ok, k⟩ := h
    refine ⟨_, PSs.nox (pss_cons (ps_set (i := 4) sc_Reader___init__.nd rfl (Or.inl rfl) (pe_f (ok_reader_problem T) (hr.mono (by decide)) (pa_cons (pv 1) (pa_cons (pv 2) (pa_cons (pv 3) pa_nil)))))
 (pss_cons (ps_if (pt_cmp (pc_notN (pv 4)) rfl)
 (pss_one ps_never)
 pss_nil)
 (pss_cons (ps_fld (pv 0) (pe_tupOf (K := K) T.tuple (pa_cons (pe_lc (own := [("row", 5)]) (g := gName 5) (by rfl) sc_Reader___init__.nd (pi_listK (K := K) (pv 1)) (blkOk_by (own := [("row", 5)]) (N := N_Reader___init__) (sc := defScope (inClass (top 26) 1)) (by decide +kernel)) (fun _ _ _ _ _ => (pg_name (i := 5) sc_Reader___init__.nd rfl (Or.inl rfl))) (fun _ _ _ _ _ => by exact pts_nil) (fun _ _ _ _ _ => by exact (pe_fz (pe_dictP (K := K) T.dict (pa_cons (pe_sortedItems (pv 5) (by rfl) T.sorted) pa_nil))))) pa_nil)) rfl)
 (pss_cons (ps_fld (pv 0) (pe_tupOf (K := K) T.tuple (pa_cons (pe_callB (r := rSortedLT K) (cr_sortedLT (by rfl)) (by rfl) T.sorted (by decide +kernel) (pa_cons (pv 2) pa_nil)) pa_nil)) rfl)
 (pss_one (ps_fld (pv 0) (pv 3) rfl)))))), ?_⟩
    have hr0 := hr1.mono (del_le (p := a))
    have hq0 := hq.imp (ex_l (del_le (p := a))) (ex_t (del_le (p := a)))
    refine q_asg (v := .non) (ev_callV (ea_cons (ev_var rfl) (ea_cons (ev_var rfl) (ea_cons (ev_var rfl) ea_nil))) fun H1 e Q q' E => ⟨p, q, start, rows, ends, rfl, hr0.mono e, hq0.imp (ex_l e) (ex_t e), ok, q'⟩) fun H1 e1 => ?_
    refine q_when (b := false) (et_is (et_B (ev_notN (ev_var rfl))) rfl) (fun z => nomatch z) fun _ H2 e2 => ?_
    have e02 := e1.trans e2
    obtain ⟨xs, hx, hxl, hat⟩ := (hr1.mono (del_ex e02)).at
    have aH2 := e02 _ _ ha
    refine q_fld T.Reader (by simp) (P := fun v H' => ∃ (t : Addr) (rows' : List Row), v = .ref t ∧ t ≠ a ∧ PermR rows rows' ∧ RowsT K (del a H') t rows') ?_ rfl aH2 (by decide) fun y H3 e3 hy => ?_
    · have e02a := del_ex (p := a) e02
      refine (evp_tupOf (P := fun ys G => ∃ (ds : List Addr) (rows' : List Row), ys = ds.map V.ref ∧ RowsA K (del a G) ds rows' ∧ PermR rows rows') ((el_lcP (fun i acc G => ∃ (ds : List Addr) (rows' : List Row), acc = ds.map V.ref ∧ RowsA K (del a G) ds rows' ∧ rows'.length = i ∧ ∀ (j : Nat) (r : Row), j < i → rows[j]? = some r → ∃ r' : Row, rows'[j]? = some r' ∧ r'.Perm r) (iw_list (p := p) (ev_var rfl) (ex_l del_le hx)) ?_ ?_ ?_ ?_).imp ?_) ?_).imp ?_
      · exact fun H1 e => ⟨[], [], rfl, ⟨rfl, fun i r hi => by simp at hi⟩, rfl, fun j r hj => absurd hj (Nat.not_lt_zero j)⟩
      · exact fun i acc H1 H2 e ⟨ds, rows', h1, h2, h3⟩ => ⟨ds, rows', h1, h2.mono (del_ex e), h3⟩
      · rintro i acc H1 hi ⟨ds, rows', rfl, h2, h3, _⟩
        have h4 := h2.1
        have := ok.few
        rw [List.length_map]
        omega
      · rintro D i x acc Ha Hb hi hD eD hA ⟨ds, rows', rfl, h2, h3, h4⟩ y k
        intro hk
        obtain ⟨rfl, y2⟩ := y
        obtain ⟨r, hri⟩ : ∃ r, rows[i]? = some r := ⟨rows[i]'(by omega), List.getElem?_eq_getElem (by omega)⟩
        obtain ⟨d, hd, hrow⟩ := hat i r hri
        rw [hd] at y2
        cases y2
        have aD : a ≠ D := fun z => by rw [z, hD] at aH2; cases aH2
        have g1 : Ex (del a H2) (del a (del D Hb)) := del_ex eD
        refine hk _ _ true (Ex.refl _) rfl et_yes (fun _ => ?_) fun z => nomatch z
        refine (evp_dsi (G := del a (del D Hb)) (del_le.trans del_le) (ev_var rfl) (hrow.mono g1) (ok.nds r (List.mem_of_getElem? hri))).imp ?_
        rintro v H4 e4 ⟨p', r', rfl, hp', pm, kvs, ⟨o, f⟩, f2, f3⟩
        have hpD : p' ≠ D := fun z => by rw [z, hA] at hp'; cases hp'
        have hpa : p' ≠ a := fun z => by rw [z, del_le a _ (eD a _ aH2)] at hp'; cases hp'
        have g2 : Ex (del a (del D Hb)) (del a (del D H4)) := del_ex (del_ex e4)
        refine ⟨ds ++ [p'], rows' ++ [r'], by simp, ⟨by simp [h2.1], fun j r2 hj => ?_⟩, by simp [h3], fun j r2 hj hr2 => ?_⟩
        · by_cases hlt : j < rows'.length
          · rw [List.getElem?_append_left hlt] at hj
            obtain ⟨d2, q1, q2⟩ := h2.2 j r2 hj
            exact ⟨d2, by rw [List.getElem?_append_left (by rw [h2.1]; exact hlt)]; exact q1, q2.mono g2⟩
          · have ej : j = rows'.length := by
              have := (List.getElem?_eq_some_iff.mp hj).1
              simp at this
              omega
            subst ej
            have e2 : r' = r2 := by simpa using hj
            subst e2
            refine ⟨p', by rw [← h2.1]; simp, kvs, ⟨o, by rw [del_ne hpa, del_ne hpD]; exact f⟩, f2, fun j e he => ?_⟩
            obtain ⟨t, q1, q2⟩ := f3 j e he
            exact ⟨t, q1, ex_t g2 q2⟩
        · by_cases hlt : j < i
          · obtain ⟨r3, q1, q2⟩ := h4 j r2 hlt hr2
            exact ⟨r3, by rw [List.getElem?_append_left (by omega)]; exact q1, q2⟩
          · have ej : j = i := by omega
            subst ej
            rw [hri] at hr2
            cases hr2
            exact ⟨r', by rw [← h3]; simp, pm⟩
      · rintro v H' e ⟨p', acc, rfl, hp', hacc, ds, rows', rfl, h2, h3, h4⟩
        exact ⟨p', _, rfl, hacc, ds, rows', rfl, h2.mono (del_ex del_le), by omega, fun j r hj => h4 j r (by have := (List.getElem?_eq_some_iff.mp hj).1; omega) hj⟩
      · exact fun ys G1 G2 e ⟨ds, rows', h1, h2, h3⟩ => ⟨ds, rows', h1, h2.mono (del_ex e), h3⟩
      · rintro v H' e ⟨t, ys, rfl, ht, hys, ds, rows', rfl, h2, h3⟩
        have hta : t ≠ a := fun z => by rw [z, aH2] at ht; cases ht
        exact ⟨t, rows', rfl, hta, h3, ds, st_of (by rw [del_ne hta]; exact hys), h2⟩
    · obtain ⟨t, rows', rfl, ht, pm, hR⟩ := hy
      have c3 : Ex (del a H) (upd H3 a (.ins (clsOf mg "Reader") dx (putF "rows" (.ref t) []))) := (del_ex (e02.trans e3)).trans (by rw [← del_upd]; exact del_le)
      refine q_fld T.Reader (by simp) (evp_tupOf (P := fun _ _ => True) ((evp_sortedLT (a := q) (ns := ends) (ev_var rfl) ?_).imp fun v H' e ⟨r, ms, h1, _, _, _, h2⟩ => ⟨r, _, h1, h2, trivial⟩) fun _ _ _ _ h => h) rfl upd_same (by show 1 < 1000; omega) fun y H4 e4 hy => ?_
      · exact hq.imp (ex_l c3) (ex_t c3)
      obtain ⟨r, ys, rfl, hr4, hr5, _⟩ := hy
      refine s_fld T.Reader (by simp) (evp_of (ev_var rfl)) rfl upd_same (by show 2 < 1000; omega) fun y H5 e5 hy => ?_
      subst hy
      have c4 : ∀ o, Ex (del a H3) (upd H5 a o) := fun o => by
        have q1 := del_ex (p := a) e4
        have q2 := del_ex (p := a) e5
        rw [del_upd] at q1 q2
        refine (q1.trans q2).trans ?_
        rw [← del_upd (o := o)]
        exact del_le
      exact k _ rows' ((del_ex (e02.trans e3)).trans (c4 _)) pm ⟨dx, t, _, upd_same, rfl, hR.mono (c4 _)⟩
end
end K33
/-! text M1 -/
set_option Elab.async false
set_option linter.all false
/-! the mathematics of readers: closures -/
namespace K33
open PySem
open Classical
/-- from s one comes to g telling t -/
def goes (rows : List Row) (s g : Nat) (t : Option Str) : Prop := ∃ r : Row, rows[s]? = some r ∧ ∃ c, (c, g, t) ∈ r
abbrev Rel3 := Nat → Nat → Option Str → Prop
theorem goes_perm {rows rows' : List Row} (hl : rows'.length = rows.length) (h : ∀ (i : Nat) (r : Row), rows[i]? = some r → ∃ r' : Row, rows'[i]? = some r' ∧ r'.Perm r) : goes rows' = goes rows := by
  funext s g t
  apply propext
  constructor
  · rintro ⟨r', h1, c, hc⟩
    have hlt := (List.getElem?_eq_some_iff.mp h1).1
    obtain ⟨r2, q1, q2⟩ := h s (rows[s]'(by omega)) (List.getElem?_eq_getElem (by omega))
    rw [h1] at q1
    cases q1
    exact ⟨_, List.getElem?_eq_getElem (by omega), c, q2.mem_iff.mp hc⟩
  · rintro ⟨r, h1, c, hc⟩
    obtain ⟨r2, q1, q2⟩ := h s r h1
    exact ⟨r2, q1, c, q2.mem_iff.mpr hc⟩
/-- reached from xs without telling -/
inductive Sil (M : Rel3) (xs : List Nat) : Nat → Prop
  | base {x : Nat} : x ∈ xs → Sil M xs x
  | step {s g : Nat} : Sil M xs s → M s g none → Sil M xs g
noncomputable def silentL (M : Rel3) (n : Nat) (xs : List Nat) : List Nat := (List.range n).filter fun s => decide (Sil M xs s)
noncomputable def goalsL (M : Rel3) (n : Nat) (xs : List Nat) (z : Str) : List Nat := (List.range n).filter fun g => decide (∃ s ∈ xs, M s g (some z))
noncomputable def stepL (M : Rel3) (n : Nat) (xs : List Nat) (z : Str) : List Nat := silentL M n (goalsL M n xs z)
noncomputable def lastL (M : Rel3) (n : Nat) (s : Nat) (w : List Nat) : List Nat := w.foldl (fun S c => stepL M n S (sg c)) (silentL M n [s])
/-- goals are states -/
def Inside (M : Rel3) (n : Nat) : Prop := ∀ s g t, M s g t → g < n
section
variable {M : Rel3} {n : Nat} {xs ys : List Nat} {z : Str}
theorem Sil.mono (h : ∀ x ∈ xs, x ∈ ys) {s : Nat} (r : Sil M xs s) : Sil M ys s := by
  induction r with
  | base m => exact .base (h _ m)
  | step _ m ih => exact .step ih m
theorem silentL_congr (h : ∀ x, x ∈ xs ↔ x ∈ ys) : silentL M n xs = silentL M n ys := by
  unfold silentL
  congr 1
  funext s
  rw [decide_eq_decide]
  exact ⟨fun r => r.mono fun x => (h x).mp, fun r => r.mono fun x => (h x).mpr⟩
theorem goalsL_congr (h : ∀ x, x ∈ xs ↔ x ∈ ys) : goalsL M n xs z = goalsL M n ys z := by
  unfold goalsL
  congr 1
  funext s
  rw [decide_eq_decide]
  exact ⟨fun ⟨s, a, b⟩ => ⟨s, (h s).mp a, b⟩, fun ⟨s, a, b⟩ => ⟨s, (h s).mpr a, b⟩⟩
theorem mem_silentL {s : Nat} : s ∈ silentL M n xs ↔ s < n ∧ Sil M xs s := by
  unfold silentL
  rw [List.mem_filter, List.mem_range, decide_eq_true_eq]
theorem mem_goalsL (hM : Inside M n) {g : Nat} : g ∈ goalsL M n xs z ↔ ∃ s ∈ xs, M s g (some z) := by
  unfold goalsL
  rw [List.mem_filter, List.mem_range, decide_eq_true_eq]
  exact ⟨fun h => h.2, fun h => ⟨let ⟨s, _, m⟩ := h; hM _ _ _ m, h⟩⟩
theorem silentL_inside {s : Nat} (h : s ∈ silentL M n xs) : s < n := (mem_silentL.mp h).1
theorem silentL_nodup : (silentL M n xs).Nodup := List.nodup_range.filter _
theorem goalsL_nodup : (goalsL M n xs z).Nodup := List.nodup_range.filter _
theorem goalsL_inside {g : Nat} (h : g ∈ goalsL M n xs z) : g < n := List.mem_range.mp (List.mem_filter.mp h).1
theorem silentL_len : (silentL M n xs).length ≤ n := by
  have h := List.length_filter_le (fun s => decide (Sil M xs s)) (List.range n)
  rw [List.length_range] at h
  exact h
theorem stepL_inside {s : Nat} (h : s ∈ stepL M n xs z) : s < n := silentL_inside h
theorem lastL_snoc {s : Nat} {w : List Nat} {c : Nat} : lastL M n s (w ++ [c]) = stepL M n (lastL M n s w) (sg c) := by
  unfold lastL
  rw [List.foldl_append]
  rfl
theorem lastL_is (M : Rel3) (n s : Nat) (w : List Nat) : ∃ xs, lastL M n s w = silentL M n xs := by
  rcases List.eq_nil_or_concat w with e | ⟨w', c, e⟩
  · exact ⟨[s], by rw [e]; rfl⟩
  · exact ⟨_, by rw [e, List.concat_eq_append, lastL_snoc]; rfl⟩
theorem lastL_inside {s x : Nat} {w : List Nat} (h : x ∈ lastL M n s w) : x < n := by
  obtain ⟨xs, e⟩ := lastL_is M n s w
  rw [e] at h
  exact silentL_inside h
theorem lastL_len {s : Nat} {w : List Nat} : (lastL M n s w).length ≤ n := by
  obtain ⟨xs, e⟩ := lastL_is M n s w
  rw [e]
  exact silentL_len
/-- a closed list of such is all of them -/
theorem silent_closed {fs : List Nat} (h1 : ∀ x ∈ xs, x ∈ fs) (h2 : ∀ x ∈ fs, Sil M xs x) (h3 : ∀ x ∈ fs, ∀ g, M x g none → g ∈ fs) (s : Nat) : s ∈ fs ↔ Sil M xs s := by
  refine ⟨h2 s, fun r => ?_⟩
  induction r with
  | base m => exact h1 _ m
  | step _ m ih => exact h3 _ ih _ m
end
/-! ### sorted lists -/
theorem inc_eq : ∀ {a b : List Int}, a.Pairwise (· < ·) → b.Pairwise (· < ·) → (∀ k, k ∈ a ↔ k ∈ b) → a = b
  | [], [], _, _, _ => rfl
  | [], y :: b, _, _, h => absurd ((h y).mpr List.mem_cons_self) (by simp)
  | x :: a, [], _, _, h => absurd ((h x).mp List.mem_cons_self) (by simp)
  | x :: a, y :: b, ha, hb, h => by
    obtain ⟨a1, a2⟩ := List.pairwise_cons.mp ha
    obtain ⟨b1, b2⟩ := List.pairwise_cons.mp hb
    have e : x = y := by
      rcases List.mem_cons.mp ((h x).mp List.mem_cons_self) with e | m
      · exact e
      · rcases List.mem_cons.mp ((h y).mpr List.mem_cons_self) with e | m'
        · exact e.symm
        · have := b1 x m
          have := a1 y m'
          omega
    subst e
    rw [inc_eq a2 b2 fun k => ?_]
    constructor
    · intro m
      rcases List.mem_cons.mp ((h k).mp (List.mem_cons_of_mem _ m)) with e | m'
      · have := a1 k m
        omega
      · exact m'
    · intro m
      rcases List.mem_cons.mp ((h k).mpr (List.mem_cons_of_mem _ m)) with e | m'
      · have := b1 k m
        omega
      · exact m'
theorem lt_of_le_nd : ∀ {l : List Int}, l.Pairwise (· ≤ ·) → l.Nodup → l.Pairwise (· < ·)
  | [], _, _ => List.Pairwise.nil
  | x :: l, h, d => by
    obtain ⟨h1, h2⟩ := List.pairwise_cons.mp h
    obtain ⟨d1, d2⟩ := List.nodup_cons.mp d
    refine List.pairwise_cons.mpr ⟨fun y hy => ?_, lt_of_le_nd h2 d2⟩
    have := h1 y hy
    have : x ≠ y := fun z => d1 (z ▸ hy)
    omega
theorem range_inc (n : Nat) (p : Nat → Bool) : (((List.range n).filter p).map fun (i : Nat) => (i : Int)).Pairwise (· < ·) := by
  rw [List.pairwise_map]
  refine (List.pairwise_lt_range.filter _).imp fun {a b} h => ?_
  omega
/-- what sorted gives of a list of numbers -/
theorem sorted_is {ms : List Int} {fs : List Nat} {n : Nat} {p : Nat → Bool} (pm : ms.Perm (fs.map fun (i : Nat) => (i : Int))) (le : ms.Pairwise (· ≤ ·)) (nd : fs.Nodup) (mem : ∀ s, s ∈ fs ↔ s < n ∧ p s = true) : ms = ((List.range n).filter p).map fun (i : Nat) => (i : Int) := by
  refine inc_eq (lt_of_le_nd le (pm.nodup_iff.mpr (nd.map _ fun a b e h => e (by omega)))) (range_inc n p) fun k => ?_
  rw [pm.mem_iff, List.mem_map, List.mem_map]
  constructor
  · rintro ⟨s, hs, rfl⟩
    obtain ⟨h1, h2⟩ := (mem s).mp hs
    exact ⟨s, List.mem_filter.mpr ⟨List.mem_range.mpr h1, h2⟩, rfl⟩
  · rintro ⟨s, hs, rfl⟩
    obtain ⟨h1, h2⟩ := List.mem_filter.mp hs
    exact ⟨s, (mem s).mpr ⟨List.mem_range.mp h1, h2⟩, rfl⟩
theorem sorted_silent {ms : List Int} {fs xs : List Nat} {n : Nat} {M : Rel3} (pm : ms.Perm (fs.map fun (i : Nat) => (i : Int))) (le : ms.Pairwise (· ≤ ·)) (nd : fs.Nodup) (mem : ∀ s, s ∈ fs ↔ s < n ∧ Sil M xs s) : ms = (silentL M n xs).map fun (i : Nat) => (i : Int) :=
  sorted_is pm le nd fun s => (mem s).trans (by rw [decide_eq_true_eq])
end K33
/-! text Kl -/
set_option Elab.async false
set_option linter.all false
set_option maxRecDepth 100000
set_option maxHeartbeats 4000000
namespace K33
open PySem PySem.Spec PyProof.Rows L2 Evl
abbrev nv (n : Nat) : V := .int (n : Int)
theorem nv_map (l : List Nat) : l.map nv = (l.map fun (i : Nat) => (i : Int)).map V.int := by
  rw [List.map_map]
  rfl
theorem inV_nv (x : Nat) (l : List Nat) : inV (nv x) (l.map nv) = decide (x ∈ l) := by
  unfold inV
  rw [List.any_map, Bool.eq_iff_iff, List.any_eq_true, decide_eq_true_eq]
  constructor
  · rintro ⟨y, hy, e⟩
    have e2 : ((y : Int) == (x : Int)) = true := e
    have : y = x := by have := beq_iff_eq.mp e2; omega
    exact this ▸ hy
  · intro h
    exact ⟨x, h, by show ((x : Int) == (x : Int)) = true; simp⟩
theorem flat_nv (l : List Nat) : (l.map nv).all flatV = true := by
  rw [List.all_map, List.all_eq_true]
  exact fun _ _ => rfl
/-- rows of a reader whose goals are states -/
structure GoodR (rows : List Row) : Prop where
  few : rows.length ≤ 12
  ent : rows.flatten.length < 64
  ins : ∀ r ∈ rows, ∀ e ∈ r, e.2.1 < rows.length
theorem GoodR.inside {rows : List Row} (g : GoodR rows) : Inside (goes rows) rows.length := fun s g' t ⟨r, hr, c, hc⟩ => g.ins r (List.mem_of_getElem? hr) _ hc
section
variable {P : Program} {w : World} {K : PySem.W.Frag} {mg : Str → Option Value} {base : Heap}
def spSilent (K : PySem.W.Frag) (mg : Str → Option Value) : Sp := fun vs H Q _ => ∃ (a p : Addr) (rows : List Row) (xs : List Nat), vs = [.ref a, .ref p] ∧ ReaderAt K mg H a rows ∧ GoodR rows ∧ (SqL K H p (xs.map nv) ∨ SqT K H p (xs.map nv)) ∧ xs.Nodup ∧ (∀ x ∈ xs, x < rows.length) ∧
  ∀ (q : Addr) (H' : Hp), Ex H H' → H q = none → H' q = some (.tup ((silentL (goes rows) rows.length xs).map nv)) → Q (.ref q) H'
abbrev N_silent_of : List Str := ["reader", "states", "found", "at", "goal", "told"]
theorem sc_silent_of : FnScope N_silent_of ["reader", "states"] (defScope (top 31)) := ⟨rfl, rfl, rfl, by decide +kernel, rfl, by decide +kernel, by decide +kernel⟩
theorem ok_silent_of (T : Txt K mg) : Ok P w K mg base 1 "silent_of" ["reader", "states"] (spSilent K mg) := by
  refine ok_of T.silent_of sc_silent_of (fun vs H Q E h => ?_) (fun _ _ _ _ _ _ us hl => match us, hl with | [_, _], _ => rfl) (fun f cdv A outer s H vs Q E hr h => ?_)
  · obtain ⟨_, _, _, _, rfl, _⟩ := h
    rfl
  · obtain ⟨a, p, rows, xs, rfl, hR, gd, hs, nd, ins, fin⟩ := h
    refine ⟨_, (pss_cons (ps_set (i := 2) sc_silent_of.nd rfl (Or.inl rfl) (pe_listOf (K := K) T.list (pa_cons (pv 1) pa_nil)))
 (pss_cons (ps_set (i := 3) sc_silent_of.nd rfl (Or.inl rfl) pe_int)
 (pss_cons (ps_while PassesOwn.never (pt_cmpR op_lt (pv 3) (pe_callB call_len (by rfl) T.len (by decide +kernel) (pa_cons (pv 2) pa_nil)) (nomark _))
 (pss_cons (ps_for PassesOwn.never rfl (pi_values (pe_ix (r := rIxT K) ix_tup (pe_fldK (K := K) (pv 0)) (pe_ix (r := rIxL K) ix_list (pv 2) (pv 3) (fun _ _ => rfl)) (fun _ _ => rfl))) (pg_tup rfl (pgs_cons (pg_name (i := 4) sc_silent_of.nd rfl (Or.inl rfl)) (pgs_cons (pg_name (i := 5) sc_silent_of.nd rfl (Or.inl rfl)) pgs_nil)))
 (pss_one (ps_if (PW.pt (pw_and (pt_cmp (pc_isN (pv 5)) rfl) (pw_and1 (pt_cmpR (r := rIn K true) op_notIn_seq (pv 4) (pv 2) (by rfl)))))
 (pss_one (ps_expr (pe_bm PySem.F.plainAttrs_list PySem.F.slot_list_append PySem.F.type_list_append mt_append (pv 2) (pa_cons (pv 4) pa_nil))))
 pss_nil)))
 (pss_one (ps_aug (i := 3) sc_silent_of.nd rfl (Or.inl rfl) pe_int ip_add))))
 (pss_one (ps_ret (pe_tupOf (K := K) T.tuple (pa_cons (pe_callB (r := rSortedLT K) (cr_sortedLT (by rfl)) (by rfl) T.sorted (by decide +kernel) (pa_cons (pv 2) pa_nil)) pa_nil))))))), ?_⟩
    obtain ⟨dx, q0, ffs, hA, hL, hRows⟩ := hR
    obtain ⟨rs, hrs, hrl, hat⟩ := hRows.at
    let n := rows.length
    let M := goes rows
    refine q_asgP (evp_listOf (a := p) (xs := xs.map nv) (ev_var rfl) hs) fun v H1 e1 hv => ?_
    obtain ⟨l, rfl, hl0, hl1⟩ := hv
    refine q_asg ev_c fun H2 e2 => ?_
    have lenN : ∀ fs : List Nat, fs.Nodup → (∀ x ∈ fs, x < n) → fs.length ≤ n := fun fs h1 h2 => by
      have := nd_len (m := List.range n) h1 fun x hx => List.mem_range.mpr (h2 x hx)
      rw [List.length_range] at this
      exact this
    let Good : List Nat → Nat → Prop := fun fs k => fs.Nodup ∧ (∀ x ∈ fs, x < n) ∧ (∀ x ∈ xs, x ∈ fs) ∧ (∀ x ∈ fs, Sil M xs x) ∧ ∀ i < k, ∀ x, fs[i]? = some x → ∀ g, M x g none → g ∈ fs
    refine q_while (fun m σ' H' => ∃ (k : Nat) (fs : List Nat) (u v : Option V), σ' = [some (.ref a), some (.ref p), some (.ref l), some (.int (k : Nat)), u, v] ∧ m = n - k ∧ k ≤ fs.length ∧ Good fs k ∧ Ex H H' ∧ H' l = some (.lst (fs.map nv))) n ⟨0, xs, none, none, rfl, rfl, Nat.zero_le _, ⟨nd, ins, fun x hx => hx, fun x hx => .base hx, fun i hi => absurd hi (Nat.not_lt_zero i)⟩, e1.trans e2, e2 _ _ hl1⟩ fun m σ' H' hw => ?_
    obtain ⟨k, fs, u, v, rfl, rfl, hk, gf, eH, hl⟩ := hw
    have few := gd.few
    have fl := lenN fs gf.1 gf.2.1
    refine ⟨_, et_test (ev_op (ev_var rfl) (ev_lenV (n := fs.length) (ev_var rfl) fun H3 e3 => .inl ⟨_, sq_of (e3 _ _ hl), by simp⟩) rv_lt), fun hb H3 e3 => ?_, fun hb H3 e3 => ?_⟩
    · have hlt : k < fs.length := by have := of_decide_eq_true hb; omega
      obtain ⟨x, hx⟩ : ∃ x, fs[k]? = some x := ⟨fs[k], List.getElem?_eq_getElem hlt⟩
      have xn := gf.2.1 x (List.mem_of_getElem? hx)
      obtain ⟨r, hr⟩ : ∃ r, rows[x]? = some r := ⟨rows[x], List.getElem?_eq_getElem xn⟩
      obtain ⟨d, hd, kvs, fd, kl, hkv⟩ := hat x r hr
      have e03 := eH.trans e3
      refine ⟨fun σ2 H4 => ∃ (fs' : List Nat) (u v : Option V), σ2 = [some (.ref a), some (.ref p), some (.ref l), some (.int ((k + 1 : Nat) : Int)), u, v] ∧ k + 1 ≤ fs'.length ∧ Good fs' (k + 1) ∧ Ex H H4 ∧ H4 l = some (.lst (fs'.map nv)), fun σ2 H4 ⟨fs', u, v, h1, h2, h3, h4⟩ => ⟨n - (k + 1), by have := lenN fs' h3.1 h3.2.1; omega, k + 1, fs', u, v, h1, rfl, h2, h3, h4⟩, ?_⟩
      refine q_forVals (d := d) (kvs := kvs) (ev_op (ev_fld T.Reader (by simp) (ev_var rfl) (e03 _ _ hA) hL) (ev_op (ev_var rfl) (ev_var rfl) (rv_ixL (sq_of (e3 _ _ hl)) (atI_nat (v := nv x) (by rw [List.getElem?_map, hx]; rfl)))) (rv_ixT (ex_t e03 hrs) (atI_nat hd))) (fd.mono e03)
        (fun i σ' H' => ∃ (fs' : List Nat) (u v : Option V), σ' = [some (.ref a), some (.ref p), some (.ref l), some (.int (k : Nat)), u, v] ∧ fs <+: fs' ∧ Good fs' k ∧ (∀ j < i, ∀ e, r[j]? = some e → e.2.2 = none → e.2.1 ∈ fs') ∧ Ex H H' ∧ H' l = some (.lst (fs'.map nv)))
        (fun H4 e4 => ⟨fs, u, v, rfl, List.prefix_refl _, gf, fun j hj => absurd hj (Nat.not_lt_zero j), e03.trans e4, e4 _ _ (e3 _ _ hl)⟩) (fun i σ' H' _ ⟨_, _, _, _, _, _, _, h, _⟩ o ho => ?_) (fun i kk y σ' H' hi hP => ?_) fun σ' H' hP => ?_
      · obtain ⟨o', fd⟩ := fd
        rw [e03 _ _ fd] at ho
        cases ho
        exact h _ _ fd
      · obtain ⟨fs', u', v', rfl, pre, gf', done, eH', hl'⟩ := hP
        have hir : i < r.length := by rw [← kl]; exact (List.getElem?_eq_some_iff.mp hi).1
        obtain ⟨e, he⟩ : ∃ e, r[i]? = some e := ⟨r[i], List.getElem?_eq_getElem hir⟩
        obtain ⟨t, q1, q2⟩ := hkv i e he
        rw [q1] at hi
        cases hi
        have fl' := lenN fs' gf'.1 gf'.2.1
        refine tg_pair (ex_t eH' q2) ?_
        refine s_when (b := decide (tv e.2.2 = .non) && !inV (nv e.2.1) (fs'.map nv)) (et_and (et_B (ev_isN (ev_var rfl))) fun _ => et_test (ev_op (ev_var rfl) (ev_var rfl) (rv_niL (sq_of hl') rfl (flat_nv _)))) (fun hb2 H4 e4 => ?_) fun hb2 H4 e4 => ?_
        · rw [inV_nv, tv_non, Bool.and_eq_true, Bool.not_eq_true', decide_eq_false_iff_not] at hb2
          have eN : e.2.2 = none := Option.isNone_iff_eq_none.mp hb2.1
          have mv : M x e.2.1 none := ⟨r, hr, e.1, by rw [← eN]; exact List.mem_of_getElem? he⟩
          refine s_app (xs := fs'.map nv) (e4 _ _ hl') (ev_var rfl) (ev_var rfl) (by rw [List.length_map]; omega) fun H5 e5 => ⟨fs' ++ [e.2.1], _, _, rfl, pre.trans (List.prefix_append _ _), ?_, fun j hj e' he' hn' => ?_, Ex.mut ((eH'.trans e4).trans e5) hl0, by rw [upd_same, List.map_append]; rfl⟩
          · refine ⟨?_, fun y hy => ?_, fun y hy => List.mem_append_left _ (gf'.2.2.1 y hy), fun y hy => ?_, fun j hj y hy g hg => List.mem_append_left _ (gf'.2.2.2.2 j hj y ?_ g hg)⟩
            · rw [List.nodup_append]
              exact ⟨gf'.1, by simp, fun y hy z hz => by
                rw [List.mem_singleton.mp hz]
                exact fun z => hb2.2 (z ▸ hy)⟩
            · rcases List.mem_append.mp hy with h | h
              · exact gf'.2.1 y h
              · rw [List.mem_singleton.mp h]
                exact gd.inside _ _ _ mv
            · rcases List.mem_append.mp hy with h | h
              · exact gf'.2.2.2.1 y h
              · rw [List.mem_singleton.mp h]
                exact .step (gf.2.2.2.1 x (List.mem_of_getElem? hx)) mv
            · rw [List.getElem?_append_left (by have := pre.length_le; omega)] at hy
              exact hy
          · rcases Nat.lt_succ_iff_lt_or_eq.mp hj with h | h
            · exact List.mem_append_left _ (done j h e' he' hn')
            · subst h
              rw [he] at he'
              cases he'
              simp
        · refine ⟨fs', _, _, rfl, pre, gf', fun j hj e' he' hn' => ?_, eH'.trans e4, e4 _ _ hl'⟩
          rcases Nat.lt_succ_iff_lt_or_eq.mp hj with h | h
          · exact done j h e' he' hn'
          · subst h
            rw [he] at he'
            cases he'
            rw [inV_nv, hn'] at hb2
            simpa [tv] using hb2
      · obtain ⟨fs', u', v', rfl, pre, gf', done, eH', hl'⟩ := hP
        refine s_aug (a := (k : Int)) (b := 1) rfl ev_c fun H4 e4 => ⟨fs', _, _, rfl, by have := pre.length_le; omega, ⟨gf'.1, gf'.2.1, gf'.2.2.1, gf'.2.2.2.1, fun i hi y hy g hg => ?_⟩, eH'.trans e4, e4 _ _ hl'⟩
        rcases Nat.lt_succ_iff_lt_or_eq.mp hi with h | h
        · exact gf'.2.2.2.2 i h y hy g hg
        · subst h
          obtain ⟨s, hs2⟩ := pre
          rw [← hs2, List.getElem?_append_left hlt, hx] at hy
          cases hy
          obtain ⟨r2, hr2, c, hc⟩ := hg
          rw [hr] at hr2
          cases hr2
          obtain ⟨j, hj⟩ := List.mem_iff_getElem?.mp hc
          exact done j (by rw [kl]; exact (List.getElem?_eq_some_iff.mp hj).1) _ hj rfl
    · have hge : ¬ k < fs.length := by have := of_decide_eq_false hb; omega
      refine s_retP (evp_tupOf (P := fun ys _ => ys = (silentL M n xs).map nv) ((evp_sortedLT (a := l) (ns := fs.map fun (i : Nat) => (i : Int)) (ev_var rfl) (.inl (by rw [← nv_map]; exact sq_of (e3 _ _ hl)))).imp fun v H' e ⟨r, ms, h1, _, pm, le, h2⟩ => ⟨r, _, h1, h2, ?_⟩) fun _ _ _ _ h => h) fun v H4 e4 ⟨q, ys, hv, hq, hq2, hy⟩ => ?_
      · have cl : ∀ x ∈ fs, ∀ g, M x g none → g ∈ fs := fun x hx g hg => by
          obtain ⟨i, hi⟩ := List.mem_iff_getElem?.mp hx
          exact gf.2.2.2.2 i (by have := (List.getElem?_eq_some_iff.mp hi).1; omega) x hi g hg
        rw [sorted_silent pm le gf.1 fun s => ⟨fun h => ⟨gf.2.1 s h, gf.2.2.2.1 s h⟩, fun h => (silent_closed gf.2.2.1 gf.2.2.2.1 cl s).mpr h.2⟩, ← nv_map]
      · subst hv hy
        exact fin q H4 ((eH.trans e3).trans e4) (fresh_back (eH.trans e3) hq) hq2
end
end K33
/-! text Km -/
set_option Elab.async false
set_option linter.all false
set_option maxRecDepth 100000
set_option maxHeartbeats 4000000
namespace K33
open PySem PySem.Spec PyProof.Rows L2 Evl
section
variable {P : Program} {w : World} {K : PySem.W.Frag} {mg : Str → Option Value} {base : Heap}
theorem tv_eq (o : Option Str) (z : Str) : (tv o = V.str z) ↔ o = some z := by
  cases o with
  | none => exact ⟨fun h => (by cases h), fun h => (by cases h)⟩
  | some y => exact ⟨fun h => (by cases h; rfl), fun h => (by cases h; rfl)⟩
theorem scal_tv (o : Option Str) (z : Str) : scal (tv o) (.str z) = true := by
  cases o <;> rfl
theorem lenN {n : Nat} {fs : List Nat} (h1 : fs.Nodup) (h2 : ∀ x ∈ fs, x < n) : fs.length ≤ n := by
  have := nd_len (m := List.range n) h1 fun x hx => List.mem_range.mpr (h2 x hx)
  rw [List.length_range] at this
  exact this
def spStep (K : PySem.W.Frag) (mg : Str → Option Value) : Sp := fun vs H Q _ => ∃ (a p : Addr) (rows : List Row) (xs : List Nat) (z : Str), vs = [.ref a, .ref p, .str z] ∧ ReaderAt K mg H a rows ∧ GoodR rows ∧ SqT K H p (xs.map nv) ∧ (∀ x ∈ xs, x < rows.length) ∧
  ∀ (q : Addr) (H' : Hp), Ex H H' → H q = none → H' q = some (.tup ((stepL (goes rows) rows.length xs z).map nv)) → Q (.ref q) H'
abbrev N_step_of : List Str := ["reader", "states", "thing", "goals", "state", "goal", "told"]
theorem sc_step_of : FnScope N_step_of ["reader", "states", "thing"] (defScope (top 32)) := ⟨rfl, rfl, rfl, by decide +kernel, rfl, by decide +kernel, by decide +kernel⟩
theorem ok_step_of (T : Txt K mg) : Ok P w K mg base 2 "step_of" ["reader", "states", "thing"] (spStep K mg) := by
  refine ok_of T.step_of sc_step_of (fun vs H Q E h => ?_) (fun _ _ _ _ _ _ us hl => match us, hl with | [_, _, _], _ => rfl) (fun f cdv A outer s H vs Q E hr h => ?_)
  · obtain ⟨_, _, _, _, _, rfl, _⟩ := h
    rfl
  · obtain ⟨a, p, rows, xs, z, rfl, hR, gd, hs, ins, fin⟩ := h
    refine ⟨_, (pss_cons (ps_set (i := 3) sc_step_of.nd rfl (Or.inl rfl) (pe_lst pa_nil))
 (pss_cons (ps_for PassesOwn.never rfl (pi_tupK (K := K) (pv 1)) (pg_name (i := 4) sc_step_of.nd rfl (Or.inl rfl))
 (pss_one (ps_for PassesOwn.never rfl (pi_values (pe_ix (r := rIxT K) ix_tup (pe_fldK (K := K) (pv 0)) (pv 4) (fun _ _ => rfl))) (pg_tup rfl (pgs_cons (pg_name (i := 5) sc_step_of.nd rfl (Or.inl rfl)) (pgs_cons (pg_name (i := 6) sc_step_of.nd rfl (Or.inl rfl)) pgs_nil)))
 (pss_one (ps_if (PW.pt (pw_and (pt_cmpR op_eq (pv 6) (pv 2) (nomark _)) (pw_and1 (pt_cmpR (r := rIn K true) op_notIn_seq (pv 5) (pv 3) (by rfl)))))
 (pss_one (ps_expr (pe_bm PySem.F.plainAttrs_list PySem.F.slot_list_append PySem.F.type_list_append mt_append (pv 3) (pa_cons (pv 5) pa_nil))))
 pss_nil)))))
 (pss_one (ps_ret (pe_f (ok_silent_of T) (hr.mono (by decide)) (pa_cons (pv 0) (pa_cons (pv 3) pa_nil))))))), ?_⟩
    have hR0 := hR
    obtain ⟨dx, q0, ffs, hA, hL, hRows⟩ := hR
    obtain ⟨rs, hrs, hrl, hat⟩ := hRows.at
    let n := rows.length
    let M := goes rows
    have few := gd.few
    refine q_asgP (evp_L (el_lst ea_nil (by simp))) fun v H1 e1 hv => ?_
    obtain ⟨l, rfl, hl0, hl1⟩ := hv
    refine q_forT (a := p) (xs := xs.map nv) (ev_var rfl) (ex_t e1 hs) (fun i σ' H' => ∃ (gs : List Nat) (u v x : Option V), σ' = [some (.ref a), some (.ref p), some (.str z), some (.ref l), u, v, x] ∧ gs.Nodup ∧ (∀ g ∈ gs, g < n) ∧ (∀ g, g ∈ gs ↔ ∃ s ∈ xs.take i, M s g (some z)) ∧ Ex H H' ∧ H' l = some (.lst (gs.map nv)))
      (fun H2 e2 => ⟨[], none, none, none, rfl, List.nodup_nil, fun g hg => (by cases hg), fun g => (by simp), e1.trans e2, e2 _ _ hl1⟩) (fun i σ' H' _ ⟨_, _, _, _, _, _, _, _, h, _⟩ => ex_t h hs) (fun i y σ' H' hy hP => ?_) fun σ' H' hP => ?_
    · obtain ⟨gs, u, v, x0, rfl, nd, ing, mem, eH, hl⟩ := hP
      obtain ⟨x, hx, rfl⟩ : ∃ x, xs[i]? = some x ∧ nv x = y := by
        rw [List.getElem?_map] at hy
        cases hx : xs[i]? with
        | none => rw [hx] at hy; cases hy
        | some x => rw [hx] at hy; exact ⟨x, rfl, Option.some.inj hy⟩
      have xn := ins x (List.mem_of_getElem? hx)
      obtain ⟨r, hr⟩ : ∃ r, rows[x]? = some r := ⟨rows[x], List.getElem?_eq_getElem xn⟩
      obtain ⟨d, hd, kvs, fd, kl, hkv⟩ := hat x r hr
      show tFor _ _ _ _ _ _
      refine s_forVals (d := d) (kvs := kvs) (ev_op (ev_fld T.Reader (by simp) (ev_var rfl) (eH _ _ hA) hL) (ev_var rfl) (rv_ixT (ex_t eH hrs) (atI_nat hd))) (fd.mono eH)
        (fun j σ' H' => ∃ (gs' : List Nat) (u v : Option V), σ' = [some (.ref a), some (.ref p), some (.str z), some (.ref l), some (nv x), u, v] ∧ gs'.Nodup ∧ (∀ g ∈ gs', g < n) ∧ (∀ g, g ∈ gs' ↔ (∃ s ∈ xs.take i, M s g (some z)) ∨ ∃ j' < j, ∃ e, r[j']? = some e ∧ e.2 = (g, some z)) ∧ Ex H H' ∧ H' l = some (.lst (gs'.map nv)))
        (fun H4 e4 => ⟨gs, _, _, rfl, nd, ing, fun g => (mem g).trans ⟨.inl, fun h => h.elim id fun ⟨j, hj, _⟩ => absurd hj (Nat.not_lt_zero j)⟩, eH.trans e4, e4 _ _ hl⟩) (fun j σ' H' _ ⟨_, _, _, _, _, _, _, h, _⟩ o ho => ?_) (fun j kk y σ' H' hi hP => ?_) fun σ' H' hP => ?_
      · obtain ⟨o', fd⟩ := fd
        rw [eH _ _ fd] at ho
        cases ho
        exact h _ _ fd
      · obtain ⟨gs', u', v', rfl, nd', ing', mem', eH', hl'⟩ := hP
        have hir : j < r.length := by rw [← kl]; exact (List.getElem?_eq_some_iff.mp hi).1
        obtain ⟨e, he⟩ : ∃ e, r[j]? = some e := ⟨r[j], List.getElem?_eq_getElem hir⟩
        obtain ⟨t, q1, q2⟩ := hkv j e he
        rw [q1] at hi
        cases hi
        have fl' := lenN nd' ing'
        refine tg_pair (ex_t eH' q2) ?_
        refine s_when (b := decide (tv e.2.2 = .str z) && !inV (nv e.2.1) (gs'.map nv)) (et_and (et_test (ev_op (ev_var rfl) (ev_var rfl) (rv_eq (scal_tv _ _)))) fun _ => et_test (ev_op (ev_var rfl) (ev_var rfl) (rv_niL (sq_of hl') rfl (flat_nv _)))) (fun hb2 H4 e4 => ?_) fun hb2 H4 e4 => ?_
        · rw [inV_nv, Bool.and_eq_true, Bool.not_eq_true', decide_eq_false_iff_not, decide_eq_true_eq, tv_eq] at hb2
          have mv : M x e.2.1 (some z) := ⟨r, hr, e.1, by rw [← hb2.1]; exact List.mem_of_getElem? he⟩
          refine s_app (xs := gs'.map nv) (e4 _ _ hl') (ev_var rfl) (ev_var rfl) (by rw [List.length_map]; omega) fun H5 e5 => ⟨gs' ++ [e.2.1], _, _, rfl, ?_, fun y hy => ?_, fun g => ?_, Ex.mut ((eH'.trans e4).trans e5) hl0, by rw [upd_same, List.map_append]; rfl⟩
          · rw [List.nodup_append]
            exact ⟨nd', by simp, fun y hy z hz => by
              rw [List.mem_singleton.mp hz]
              exact fun z => hb2.2 (z ▸ hy)⟩
          · rcases List.mem_append.mp hy with h | h
            · exact ing' y h
            · rw [List.mem_singleton.mp h]
              exact gd.inside _ _ _ mv
          · rw [List.mem_append, mem' g, List.mem_singleton]
            constructor
            · rintro ((h | ⟨j', h1, e', h2⟩) | h)
              · exact .inl h
              · exact .inr ⟨j', by omega, e', h2⟩
              · exact .inr ⟨j, by omega, e, he, by rw [h, ← hb2.1]⟩
            · rintro (h | ⟨j', h1, e', h2, h3⟩)
              · exact .inl (.inl h)
              · rcases Nat.lt_succ_iff_lt_or_eq.mp h1 with h | h
                · exact .inl (.inr ⟨j', h, e', h2, h3⟩)
                · subst h
                  rw [he] at h2
                  cases h2
                  exact .inr (by rw [h3])
        · refine ⟨gs', _, _, rfl, nd', ing', fun g => (mem' g).trans ⟨fun h => h.elim .inl fun ⟨j', h1, h2⟩ => .inr ⟨j', by omega, h2⟩, ?_⟩, eH'.trans e4, e4 _ _ hl'⟩
          rintro (h | ⟨j', h1, e', h2, h3⟩)
          · exact .inl h
          · rcases Nat.lt_succ_iff_lt_or_eq.mp h1 with h | h
            · exact .inr ⟨j', h, e', h2, h3⟩
            · subst h
              rw [he] at h2
              cases h2
              rw [inV_nv, Bool.and_eq_false_iff, decide_eq_false_iff_not, tv_eq, h3] at hb2
              have g1 : g ∈ gs' := by simpa using hb2
              exact (mem' g).mp g1
      · obtain ⟨gs', u', v', rfl, nd', ing', mem', eH', hl'⟩ := hP
        refine ⟨gs', _, _, _, rfl, nd', ing', fun g => (mem' g).trans ?_, eH', hl'⟩
        have et : xs.take (i + 1) = xs.take i ++ [x] := by rw [List.take_succ, hx]; rfl
        rw [et]
        simp only [List.mem_append, List.mem_singleton]
        constructor
        · rintro (⟨s, h1, h2⟩ | ⟨j', h1, e, h2, h3⟩)
          · exact ⟨s, .inl h1, h2⟩
          · exact ⟨x, .inr rfl, r, hr, e.1, by rw [← h3]; exact List.mem_of_getElem? h2⟩
        · rintro ⟨s, h1 | rfl, h2⟩
          · exact .inl ⟨s, h1, h2⟩
          · obtain ⟨r2, hr2, c, hc⟩ := h2
            rw [hr] at hr2
            cases hr2
            obtain ⟨j', hj⟩ := List.mem_iff_getElem?.mp hc
            exact .inr ⟨j', by rw [kl]; exact (List.getElem?_eq_some_iff.mp hj).1, _, hj, rfl⟩
    · obtain ⟨gs, u, v, x0, rfl, nd, ing, mem, eH, hl⟩ := hP
      rw [List.length_map, List.take_length] at mem
      refine s_retP (evp_call (ea_of (ea_cons (ev_var rfl) (ea_cons (ev_var rfl) ea_nil))) fun vs H2 e2 hv => ?_) fun v H2 e2 hv => hv
      subst hv
      refine fun H3 e3 Q' q' E => ⟨a, l, rows, gs, rfl, hR0.mono ((eH.trans e2).trans e3), gd, .inl (sq_of (e3 _ _ (e2 _ _ hl))), nd, ing, fun r H4 e4 hr0 hr1 => ?_⟩
      refine q' _ H4 e4 (fin r H4 (((eH.trans e2).trans e3).trans e4) (fresh_back ((eH.trans e2).trans e3) hr0) ?_)
      rw [hr1]
      unfold stepL
      rw [silentL_congr (ys := goalsL M n xs z) fun g => (mem g).trans (mem_goalsL gd.inside).symm]
end
end K33
/-! text Kn -/
set_option Elab.async false
set_option linter.all false
set_option maxRecDepth 100000
set_option maxHeartbeats 4000000
namespace K33
open PySem PySem.Spec PyProof.Rows L2 Evl
/-- a text of these signs -/
def txt (w : List Nat) : Str := ⟨w.toArray⟩
theorem txt_len (w : List Nat) : (txt w).length = w.length := by
  show w.toArray.size = w.length
  simp
theorem abc_txt (w : List Nat) : abc (txt w) = w.all fun c => decide (c ∈ lets) := by
  unfold abc txt
  simp
/-- the first list meets the second -/
def meet (xs ys : List Nat) : Bool := xs.any fun x => decide (x ∈ ys)
section
variable {P : Program} {w : World} {K : PySem.W.Frag} {mg : Str → Option Value} {base : Heap}
def spLast (K : PySem.W.Frag) (mg : Str → Option Value) : Sp := fun vs H Q _ => ∃ (a : Addr) (s : Nat) (ws : List Nat) (rows : List Row), vs = [.ref a, .int (s : Int), .str (txt ws)] ∧ ReaderAt K mg H a rows ∧ GoodR rows ∧ s < rows.length ∧ ws.length ≤ 1000 ∧
  ∀ (q : Addr) (H' : Hp), Ex H H' → H q = none → H' q = some (.tup ((lastL (goes rows) rows.length s ws).map nv)) → Q (.ref q) H'
abbrev N_last_of : List Str := ["reader", "state", "row", "found", "thing"]
theorem sc_last_of : FnScope N_last_of ["reader", "state", "row"] (defScope (top 33)) := ⟨rfl, rfl, rfl, by decide +kernel, rfl, by decide +kernel, by decide +kernel⟩
theorem ok_last_of (T : Txt K mg) : Ok P w K mg base 3 "last_of" ["reader", "state", "row"] (spLast K mg) := by
  refine ok_of T.last_of sc_last_of (fun vs H Q E h => ?_) (fun _ _ _ _ _ _ us hl => match us, hl with | [_, _, _], _ => rfl) (fun f cdv A outer s H vs Q E hr h => ?_)
  · obtain ⟨_, _, _, _, rfl, _⟩ := h
    rfl
  · obtain ⟨a, s0, ws, rows, rfl, hR, gd, hs, hw, fin⟩ := h
    refine ⟨_, (pss_cons (ps_set (i := 3) sc_last_of.nd rfl (Or.inl rfl) (pe_f (ok_silent_of T) (hr.mono (by decide)) (pa_cons (pv 0) (pa_cons (pe_tup (pa_cons (pv 1) pa_nil)) pa_nil))))
 (pss_cons (ps_for PassesOwn.never rfl (pi_str (pv 2)) (pg_name (i := 4) sc_last_of.nd rfl (Or.inl rfl))
 (pss_one (ps_set (i := 3) sc_last_of.nd rfl (Or.inl rfl) (pe_f (ok_step_of T) (hr.mono (by decide)) (pa_cons (pv 0) (pa_cons (pv 3) (pa_cons (pv 4) pa_nil)))))))
 (pss_one (ps_ret (pv 3))))), ?_⟩
    let n := rows.length
    let M := goes rows
    refine q_asgP (P := fun v H1 => ∃ q, v = .ref q ∧ H q = none ∧ H1 q = some (.tup ((lastL M n s0 []).map nv))) (evp_call (Pa := fun vs H1 => ∃ q, vs = [.ref a, .ref q] ∧ H1 q = some (.tup [nv s0])) (ea_consP (evp_of (ev_var rfl)) fun x H1 e1 hx => ea_one (evp_U (eu_tup (ea_cons (ev_var rfl) ea_nil) (by simp))) fun y H2 e2 ⟨q, hy, _, hq⟩ => ⟨q, by rw [hx, hy], hq⟩) fun vs H1 e1 ⟨q, hv, hq⟩ => ?_) fun v H1 e1 hv => ?_
    · subst hv
      refine fun H2 e2 Q' q' E => ⟨a, q, rows, [s0], rfl, hR.mono (e1.trans e2), gd, .inr (st_of (e2 _ _ hq)), by simp, by simpa using hs, fun r H3 e3 h1 h2 => q' _ H3 e3 ⟨r, rfl, fresh_back (e1.trans e2) h1, h2⟩⟩
    · obtain ⟨q, rfl, hq0, hq1⟩ := hv
      refine q_forW (iw_str (s := txt ws) (ev_var rfl)) (fun G0 i σ' H' => ∃ (q : Addr) (u : Option V), σ' = [some (.ref a), some (.int (s0 : Int)), some (.str (txt ws)), some (.ref q), u] ∧ H q = none ∧ H' q = some (.tup ((lastL M n s0 (ws.take i)).map nv)) ∧ Ex H H' ∧ Ex G0 H')
        (fun G0 H2 f1 f2 => ⟨q, none, rfl, hq0, f2 _ _ (f1 _ _ hq1), (e1.trans f1).trans f2, f2⟩) (fun _ _ _ _ _ ⟨_, _, _, _, _, _, h⟩ => h) (fun G0 i x σ' Ha Hb f1 hi hP y => ?_) fun G0 σ' H2 f1 hP => ?_
      · obtain ⟨q, u, rfl, hq0, hq1, eH, eG⟩ := hP
        obtain ⟨rfl, c, hc, rfl⟩ := y
        have hc2 : ws[i]? = some c := by
          have : (txt ws).cps = ws.toArray := rfl
          rw [this] at hc
          simpa using hc
        have inS : ∀ x ∈ lastL M n s0 (ws.take i), x < n := fun x hx => lastL_inside hx
        refine tg_name (s_asgP (evp_call (P := fun v H1 => ∃ q, v = .ref q ∧ H q = none ∧ H1 q = some (.tup ((lastL M n s0 (ws.take (i + 1))).map nv))) (ea_of (ea_cons (ev_var rfl) (ea_cons (ev_var rfl) (ea_cons (ev_var rfl) ea_nil)))) fun vs H2 e2 hv => ?_) fun v H2 e2 hv => (by
          obtain ⟨q2, rfl, g1, g2⟩ := hv
          exact ⟨q2, _, rfl, g1, g2, eH.trans e2, eG.trans e2⟩))
        subst hv
        refine fun H3 e3 Q' q' E => ⟨a, q, rows, _, sg c, rfl, hR.mono ((eH.trans e2).trans e3), gd, st_of (e3 _ _ (e2 _ _ hq1)), inS, fun r H4 e4 h1 h2 => q' _ H4 e4 ⟨r, rfl, fresh_back ((eH.trans e2).trans e3) h1, ?_⟩⟩
        rw [h2, show ws.take (i + 1) = ws.take i ++ [c] by rw [List.take_succ, hc2]; rfl, lastL_snoc]
      · obtain ⟨q, u, rfl, hq0, hq1, eH, eG⟩ := hP
        refine s_ret (ev_var rfl) fun H3 e3 => fin q H3 (eH.trans e3) hq0 ?_
        have : (txt ws).cps.size = ws.length := txt_len ws
        rw [this, List.take_length] at hq1
        exact e3 _ _ hq1
def spMeets (K : PySem.W.Frag) : Sp := fun vs H Q _ => ∃ (p q : Addr) (xs ys : List Nat), vs = [.ref p, .ref q] ∧ SqT K H p (xs.map nv) ∧ SqT K H q (ys.map nv) ∧ xs.length ≤ 1000 ∧ RetV (.bl (meet xs ys)) H Q
abbrev N_meets : List Str := ["states", "others", "state"]
theorem sc_meets : FnScope N_meets ["states", "others"] (defScope (top 34)) := ⟨rfl, rfl, rfl, by decide +kernel, rfl, by decide +kernel, by decide +kernel⟩
theorem ok_meets (T : Txt K mg) : Ok P w K mg base 1 "meets" ["states", "others"] (spMeets K) := by
  refine ok_of T.meets sc_meets (fun vs H Q E h => ?_) (fun _ _ _ _ _ _ us hl => match us, hl with | [_, _], _ => rfl) (fun f cdv A outer s H vs Q E hr h => ?_)
  · obtain ⟨_, _, _, _, rfl, _⟩ := h
    rfl
  · obtain ⟨p, q, xs, ys, rfl, hx, hy, hz, k⟩ := h
    refine ⟨_, (pss_one (ps_ret (pe_callB (r := rAny K) (cr_any rfl) (by rfl) T.any (by decide +kernel) (pa_cons (pe_lc (own := [("state", 2)]) (g := gName 2) (by rfl) sc_meets.nd (pi_tupK (K := K) (pv 0)) (blkOk_by (own := [("state", 2)]) (N := N_meets) (sc := defScope (top 34)) (by decide +kernel)) (fun _ _ _ _ _ => (pg_name (i := 2) sc_meets.nd rfl (Or.inl rfl))) (fun _ _ _ _ _ => by exact pts_nil) (fun _ _ _ _ _ => by exact (pe_cmpR (r := rIn K false) op_in_seq (pv 2) (pv 1) (by rfl)))) pa_nil)))), ?_⟩
    refine s_ret (v := .bl (meet xs ys)) (ev_anyM xs (fun x => decide (x ∈ ys)) ?_) k
    refine el_map xs _ (iw_tup (p := p) (ev_var rfl) hx) (by simp) (by omega) fun i c x Ha Hb hc ea y k hk => ?_
    obtain ⟨rfl, y2⟩ := y
    rw [List.getElem?_map, hc] at y2
    cases y2
    refine hk _ _ (Ex.refl _) rfl et_yes (ev_is (ev_op (ev_var rfl) (ev_var rfl) (rv_isT (ex_t ea hy) rfl (flat_nv _))) ?_)
    rw [inV_nv]
/-- a door -/
def DoorAt (K : PySem.W.Frag) (mg : Str → Option Value) (H : Hp) (d a : Addr) (s : Nat) (bs : List Nat) (L : Addr) : Prop := ∃ (dx q : Addr) (fs : List (Str × V)) (bs' : List Nat), H d = some (.ins (clsOf mg "Door") dx fs) ∧ fs.lookup ("own_reader" : Str) = some (.ref a) ∧ fs.lookup ("own_state" : Str) = some (nv s) ∧
  fs.lookup ("own_behind" : Str) = some (.ref q) ∧ fs.lookup ("own_language" : Str) = some (.ref L) ∧ SqT K H q (bs'.map nv) ∧ ∀ x, x ∈ bs' ↔ x ∈ bs
theorem DoorAt.mono {H H' : Hp} {d a : Addr} {s : Nat} {bs : List Nat} {L : Addr} (h : DoorAt K mg H d a s bs L) (e : Ex H H') : DoorAt K mg H' d a s bs L := by
  obtain ⟨dx, q, fs, bs', h1, h2, h3, h4, h5, h6, h7⟩ := h
  exact ⟨dx, q, fs, bs', e _ _ h1, h2, h3, h4, h5, ex_t e h6, h7⟩
theorem meet_congr {xs ys ys' : List Nat} (h : ∀ x, x ∈ ys ↔ x ∈ ys') : meet xs ys = meet xs ys' := by
  unfold meet
  congr 1
  funext x
  rw [decide_eq_decide]
  exact h x
def spDoorInit (K : PySem.W.Frag) (mg : Str → Option Value) : Sp := fun vs H Q _ => ∃ (d dx a p L : Addr) (s : Nat) (rows : List Row) (bs : List Nat), vs = [.ref d, .ref a, .int (s : Int), .ref p, .ref L] ∧ H d = some (.ins (clsOf mg "Door") dx []) ∧ ReaderAt K mg (del d H) a rows ∧ rows.length ≤ 12 ∧ s < rows.length ∧
  SqL K (del d H) p (bs.map nv) ∧ bs.Nodup ∧ (∀ x ∈ bs, x < rows.length) ∧ ∀ H', Ex (del d H) H' → DoorAt K mg H' d a s bs L → Q .non H'
abbrev N_Door___init__ : List Str := ["self", "reader", "state", "behind", "language"]
theorem sc_Door___init__ : FnScope N_Door___init__ ["self", "reader", "state", "behind", "language"] (defScope (inClass (top 35) 0)) := ⟨rfl, rfl, rfl, by decide +kernel, rfl, by decide +kernel, by decide +kernel⟩
theorem ok_Door_init (T : Txt K mg) : ∃ (f : Addr) (fd : FuncData), Mk K (clsOf mg "Door") f ∧ FnOk P w K mg base CX0 4 f fd ["self", "reader", "state", "behind", "language"] (spDoorInit K mg) ∧ Binds K fd ["self", "reader", "state", "behind", "language"] [] := by
  obtain ⟨f, fd, m, F⟩ := T.Door_init
  refine ⟨f, fd, m, F.ok sc_Door___init__ (fun vs H Q E h => ?_) (fun cdv A outer s H vs Q E hr h => ?_), F.bindsN (fun _ _ _ _ _ _ us hl => match us, hl with | [_, _, _, _, _], _ => rfl)⟩
  · obtain ⟨_, _, _, _, _, _, _, _, rfl, _⟩ := h
    rfl
  · obtain ⟨d, dx, a, p, L, s0, rows, bs, rfl, hd, hR, few, hs, hp, nd, ins, fin⟩ := h
    refine ⟨_, PSs.nox (pss_cons (ps_expr (pe_f (ok_require_state T) (hr.mono (by decide)) (pa_cons (pv 1) (pa_cons (pv 2) pa_nil))))
 (pss_cons (ps_expr (pe_f (ok_require_states T) (hr.mono (by decide)) (pa_cons (pv 1) (pa_cons (pv 3) pa_nil))))
 (pss_cons (ps_fld (pv 0) (pv 1) rfl)
 (pss_cons (ps_fld (pv 0) (pv 2) rfl)
 (pss_cons (ps_fld (pv 0) (pe_tupOf (K := K) T.tuple (pa_cons (pe_callB (r := rSortedLT K) (cr_sortedLT (by rfl)) (by rfl) T.sorted (by decide +kernel) (pa_cons (pv 3) pa_nil)) pa_nil)) rfl)
 (pss_one (ps_fld (pv 0) (pv 4) rfl))))))), ?_⟩
    have hR0 := hR.mono (del_le (p := d))
    have hp0 := ex_l (del_le (p := d)) hp
    have bel : ∀ x : Nat, x < rows.length → below x rows.length = true := fun x hx => by unfold below; simp; omega
    refine q_drop (v := .non) (ev_callV (ea_cons (ev_var rfl) (ea_cons (ev_var rfl) ea_nil)) fun H1 e Q q E => ⟨a, rows, s0, rfl, hR0.mono e, bel s0 hs, q⟩) fun H1 e1 => ?_
    refine q_drop (v := .non) (ev_callV (ea_cons (ev_var rfl) (ea_cons (ev_var rfl) ea_nil)) fun H2 e Q q E => ⟨a, p, rows, bs.map fun (i : Nat) => (i : Int), rfl, hR0.mono (e1.trans e), by omega, by rw [← nv_map]; exact ex_l (e1.trans e) hp0, nd.map _ fun a b e h => e (by omega), fun k hk => by
      obtain ⟨x, hx, rfl⟩ := List.mem_map.mp hk
      exact bel x (ins x hx), q⟩) fun H2 e2 => ?_
    have e02 := e1.trans e2
    refine q_fld T.Door (by simp) (evp_of (ev_var rfl)) rfl (e02 _ _ hd) (by decide) fun y H3 e3 hy => ?_
    subst hy
    refine q_fld T.Door (by simp) (evp_of (ev_var rfl)) rfl upd_same (by show 1 < 1000; omega) fun y H4 e4 hy => ?_
    subst hy
    have c3 : Ex (del d H) (del d H4) := by
      have q1 := del_ex (p := d) e4
      rw [del_upd] at q1
      exact (del_ex (e02.trans e3)).trans q1
    refine q_fld T.Door (by simp) (evp_tupOf (P := fun ys _ => ∃ bs' : List Nat, ys = bs'.map nv ∧ ∀ x, x ∈ bs' ↔ x ∈ bs) ((evp_sortedLT (a := p) (ns := bs.map fun (i : Nat) => (i : Int)) (ev_var rfl) (.inl ?_)).imp fun v H' e ⟨r, ms, h1, _, pm, _, h2⟩ => ⟨r, _, h1, h2, ms.map Int.toNat, ?_, fun x => ?_⟩) fun _ _ _ _ h => h) rfl upd_same (by show 2 < 1000; omega) fun y H5 e5 hy => ?_
    · rw [← nv_map]
      exact ex_l (c3.trans (by rw [← del_upd]; exact del_le)) hp
    · rw [List.map_map]
      apply List.map_congr_left
      intro k hk
      obtain ⟨x, _, rfl⟩ := List.mem_map.mp (pm.mem_iff.mp hk)
      rfl
    · rw [List.mem_map]
      constructor
      · rintro ⟨k, hk, rfl⟩
        obtain ⟨x, hx, rfl⟩ := List.mem_map.mp (pm.mem_iff.mp hk)
        simpa using hx
      · intro hx
        exact ⟨(x : Int), pm.mem_iff.mpr (List.mem_map.mpr ⟨x, hx, rfl⟩), by simp⟩
    · obtain ⟨q, ys, rfl, hq, hq2, bs', rfl, mem⟩ := hy
      have hqd : q ≠ d := fun z => by rw [z, upd_same] at hq; cases hq
      refine s_fld T.Door (by simp) (evp_of (ev_var rfl)) rfl upd_same (by show 3 < 1000; omega) fun y H6 e6 hy => ?_
      subst hy
      have q1 := del_ex (p := d) e5
      have q2 := del_ex (p := d) e6
      rw [del_upd] at q1 q2
      have c6 : ∀ o, Ex (del d H6) (upd H6 d o) := fun o => by rw [← del_upd (o := o)]; exact del_le
      refine fin _ (((c3.trans q1).trans q2).trans (c6 _)) ⟨dx, q, _, bs', upd_same, rfl, rfl, rfl, rfl, st_of (c6 _ _ _ (q2 _ _ (by rw [del_ne hqd]; exact hq2))), mem⟩
def spDoorState (K : PySem.W.Frag) (mg : Str → Option Value) : Sp := fun vs H Q _ => ∃ (d a L : Addr) (s : Nat) (bs : List Nat), vs = [.ref d] ∧ DoorAt K mg H d a s bs L ∧ RetV (nv s) H Q
abbrev N_Door_state : List Str := ["self"]
theorem sc_Door_state : FnScope N_Door_state ["self"] (defScope (inClass (top 35) 2)) := ⟨rfl, rfl, rfl, by decide +kernel, rfl, by decide +kernel, by decide +kernel⟩
theorem ok_Door_state (T : Txt K mg) : ∃ (p g : Addr), PropOf K (clsOf mg "Door") "state" p g ∧ OkF P w K mg base 1 g ["self"] (spDoorState K mg) := by
  obtain ⟨p, g, fd, m, F⟩ := T.Door_state
  refine ⟨p, g, m, okF_of F sc_Door_state (fun vs H Q E h => ?_) (fun _ _ _ _ _ _ us hl => match us, hl with | [_], _ => rfl) (fun cdv A outer s H vs Q E hr h => ?_)⟩
  · obtain ⟨_, _, _, _, _, rfl, _⟩ := h
    rfl
  · obtain ⟨d, a, L, s0, bs, rfl, ⟨dx, q, fs, bs', h1, h2, h3, _⟩, k⟩ := h
    refine ⟨_, (pss_one (ps_ret (pe_fldK (K := K) (pv 0)))), ?_⟩
    exact s_ret (v := nv s0) (ev_fld T.Door (by simp) (ev_var rfl) h1 h3) k
def spWritable (K : PySem.W.Frag) (mg : Str → Option Value) : Sp := fun vs H Q _ => ∃ (d a L : Addr) (s : Nat) (bs ws : List Nat) (rows : List Row), vs = [.ref d, .str (txt ws)] ∧ DoorAt K mg H d a s bs L ∧ ReaderAt K mg H a rows ∧ GoodR rows ∧ s < rows.length ∧ ws.length ≤ 1000 ∧ (∀ c ∈ ws, c ∈ lets) ∧
  RetV (.bl (meet (lastL (goes rows) rows.length s ws) bs)) H Q
abbrev N_is_writable : List Str := ["door", "text"]
theorem sc_is_writable : FnScope N_is_writable ["door", "text"] (defScope (top 36)) := ⟨rfl, rfl, rfl, by decide +kernel, rfl, by decide +kernel, by decide +kernel⟩
theorem ok_is_writable (T : Txt K mg) : Ok P w K mg base 4 "is_writable" ["door", "text"] (spWritable K mg) := by
  refine ok_of T.is_writable sc_is_writable (fun vs H Q E h => ?_) (fun _ _ _ _ _ _ us hl => match us, hl with | [_, _], _ => rfl) (fun f cdv A outer s H vs Q E hr h => ?_)
  · obtain ⟨_, _, _, _, _, _, _, rfl, _⟩ := h
    rfl
  · obtain ⟨d, a, L, s0, bs, ws, rows, rfl, hD, hR, gd, hs, hw, hl, k⟩ := h
    refine ⟨_, (pss_cons (ps_expr (pe_f (ok_require_word T) (hr.mono (by decide)) (pa_cons (pv 1) pa_nil)))
 (pss_one (ps_ret (pe_f (ok_meets T) (hr.mono (by decide)) (pa_cons (pe_f (ok_last_of T) (hr.mono (by decide)) (pa_cons (pe_fldK (K := K) (pv 0)) (pa_cons (pe_fldK (K := K) (pv 0)) (pa_cons (pv 1) pa_nil)))) (pa_cons (pe_fldK (K := K) (pv 0)) pa_nil)))))), ?_⟩
    have hD0 := hD
    refine q_drop (v := .non) (ev_callV (ea_cons (ev_var rfl) ea_nil) fun H1 e Q q E => ⟨txt ws, rfl, by rw [txt_len]; exact hw, ?_, q⟩) fun H1 e1 => ?_
    · rw [abc_txt, List.all_eq_true]
      exact fun c hc => decide_eq_true (hl c hc)
    obtain ⟨dx, q, fs, bs', h1, h2, h3, h4, h5, h6, h7⟩ := hD.mono e1
    refine s_ret (v := .bl (meet (lastL (goes rows) rows.length s0 ws) bs)) (ev_of (evp_call (Pa := fun vs H2 => ∃ r, vs = [.ref r, .ref q] ∧ H2 r = some (.tup ((lastL (goes rows) rows.length s0 ws).map nv))) (ea_consP (P := fun v H2 => ∃ r, v = .ref r ∧ H2 r = some (.tup ((lastL (goes rows) rows.length s0 ws).map nv))) (evp_call (ea_of (ea_cons (ev_fld T.Door (by simp) (ev_var rfl) h1 h2) (ea_cons (ev_fld T.Door (by simp) (ev_var rfl) h1 h3) (ea_cons (ev_var rfl) ea_nil)))) fun vs H2 e2 hv => ?_) fun x H2 e2 ⟨r, hx, hr⟩ => ea_one (evp_of (ev_fld T.Door (by simp) (ev_var rfl) (e2 _ _ h1) h4)) fun y H3 e3 hy => ⟨r, by rw [hx, hy], e3 _ _ hr⟩) fun vs H2 e2 ⟨r, hv, hr⟩ => ?_)) fun H2 e2 => k H2 (e1.trans e2)
    · subst hv
      exact fun H3 e3 Q q E => ⟨a, s0, ws, rows, rfl, hR.mono ((e1.trans e2).trans e3), gd, hs, hw, fun r H4 e4 _ h => q _ H4 e4 ⟨r, rfl, h⟩⟩
    · subst hv
      have := gd.few
      have hz : (lastL (goes rows) rows.length s0 ws).length ≤ rows.length := lastL_len
      exact fun H3 e3 Q qq E => ⟨r, q, _, bs', rfl, st_of (e3 _ _ hr), ex_t (e2.trans e3) h6, by omega, fun H4 e4 => qq _ H4 e4 (by rw [meet_congr h7])⟩
end
end K33
/-! text Ku -/
set_option Elab.async false
set_option linter.all false
set_option maxRecDepth 100000
set_option maxHeartbeats 4000000
/-! list(text); sorted lists of signs; more that is walked -/
namespace K33
open PySem PySem.Spec PyProof.Rows L2 Evl
def rListStr : List V → Hp → VK → Prop := fun xs H Q => ∃ z : Str, xs = [.str z] ∧ z.length ≤ 1000 ∧ ∀ p, H p = none → Q (.ref p) (upd H p (.lst ((signsOf z).map V.str)))
theorem call_listStr {X : Cx} (cm : X.calm = true) : CallR X (.type "list") rListStr := by
  intro pins s σ H xs us Q I r h
  obtain ⟨z, rfl, hz, q⟩ := h
  obtain ⟨u, rfl, t, rfl⟩ := vals1 r
  have sz : z.cps.size ≤ sizeLine := Nat.le_trans (show z.length ≤ 1000 from hz) (by decide)
  refine call_list_str (I.ok.hd cm) z t (hn := sz) fun h' tk acc c kept hS items => ?_
  have hv : Vals ((signsOf z).map V.str) acc.toList := by
    have len : acc.toList.length = ((signsOf z).map V.str).length := by
      unfold signsOf
      simp [items.1]
    have key : ∀ (l : List V) (m : List Value), m.length = l.length → (∀ (j : Nat) (a : V) (b : Value), l[j]? = some a → m[j]? = some b → RelV a b) → Vals l m := by
      intro l
      induction l with
      | nil => intro m hm _; cases m with
        | nil => exact .nil
        | cons _ _ => cases hm
      | cons a l ih =>
        intro m hm hr
        cases m with
        | nil => cases hm
        | cons b m => exact .cons (hr 0 a b rfl rfl) (ih m (Nat.succ.inj hm) fun j x y hx hy => hr (j + 1) x y hx hy)
    refine key _ _ len fun j a b ha hb => ?_
    rw [Array.getElem?_toList] at hb
    obtain ⟨cc, u, hc, rfl⟩ := items.2 j b hb
    unfold signsOf at ha
    rw [List.getElem?_map, List.getElem?_map, Array.getElem?_toList, hc] at ha
    cases ha
    exact ⟨u, rfl⟩
  exact ⟨.ref s.heap.objs.size, upd H s.heap.objs.size (.lst ((signsOf z).map V.str)), I.laid (t' := tk) kept (Nat.le_refl _) (show ObjOk X.prog X.w _ _ _ (.lst ((signsOf z).map V.str)) from ⟨by unfold signsOf; simp; exact sz, acc.toList, c, hv, by rw [Array.toArray_toList]; exact hS⟩), rfl, q _ (I.hok.fresh (Nat.le_refl _))⟩
theorem pe_listStr {X : Cx} {a : Expr} {te : TE} {p pos : Pos} (h : X.mg "list" = none) (ha : PE X a te) (hg : Gl X "list" := by rfl) (cm : X.calm = true := by rfl) (he : starEach [a] X.env = (false, eval a X.env) :: starEach [] X.env := by rfl) (hpl : (backTo pos (starEach [] X.env)).any (·.1) = false := by rfl) :
    PE X (.Call (.Name "list" p) [a] [] pos) (tCB rListStr (tCons te tNil)) := pe_callTy (call_listStr cm) hg h (by decide +kernel) (pa_cons ha pa_nil (hs := he)) (he := he) (hpl := hpl)
theorem el_listStr {σ : L2.St} {H : Hp} {te : TE} {z : Str} (h : Ev te σ H (.str z)) (hz : z.length ≤ 1000) : EvL (tCB rListStr (tCons te tNil)) σ H ((signsOf z).map V.str) := fun H1 e Q q => h H1 e _ fun H2 e2 => ⟨z, rfl, hz, fun p hp => q p _ (fresh_back e2 hp) (e2.trans (Ex.new hp)) upd_same⟩
/-! ### sorted texts of one sign -/
theorem ltCps_one (a b : Nat) : ltCps [a] [b] = decide (a < b) := by
  show (decide (a < b) || (a == b && false)) = decide (a < b)
  rw [Bool.and_false, Bool.or_false]
theorem rising_sg : ∀ (p : Nat) (cs : List Nat), risingS (sg p) (cs.map sg) = true → (p :: cs).Pairwise (· ≤ ·)
  | p, [], _ => List.pairwise_singleton _ _
  | p, c :: cs, h => by
    have h2 : (!ltCps [c] [p] && risingS (sg c) (cs.map sg)) = true := h
    rw [Bool.and_eq_true, ltCps_one, Bool.not_eq_true', decide_eq_false_iff_not] at h2
    have ih := rising_sg c cs h2.2
    refine List.pairwise_cons.mpr ⟨fun y hy => ?_, ih⟩
    rcases List.mem_cons.mp hy with rfl | m
    · omega
    · have := (List.pairwise_cons.mp ih).1 y m
      omega
theorem sorted_sg {cs : List Nat} (h : sortedS (cs.map sg) = true) : cs.Pairwise (· ≤ ·) := by
  cases cs with
  | nil => exact List.Pairwise.nil
  | cons c cs => exact rising_sg c cs h
theorem sg_inj {a b : Nat} (h : sg a = sg b) : a = b := by
  unfold sg at h
  simpa using h
/-- a sorted list of the signs of a rising list is that list -/
theorem signs_back {ys : List Str} {abc' : List Nat} (nd : ys.Nodup) (mem : ∀ k, k ∈ ys ↔ k ∈ abc'.map sg) (so : sortedS ys = true) (up : abc'.Pairwise (· < ·)) : ys = abc'.map sg := by
  have hy : ∃ cs : List Nat, ys = cs.map sg := by
    have key : ∀ l : List Str, (∀ y ∈ l, ∃ c, y = sg c) → ∃ cs : List Nat, l = cs.map sg := by
      intro l
      induction l with
      | nil => exact fun _ => ⟨[], rfl⟩
      | cons y l ih =>
        intro h
        obtain ⟨c, rfl⟩ := h y List.mem_cons_self
        obtain ⟨cs, rfl⟩ := ih fun z hz => h z (List.mem_cons_of_mem _ hz)
        exact ⟨c :: cs, rfl⟩
    exact key ys fun y hy => by
      obtain ⟨c, _, e⟩ := List.mem_map.mp ((mem y).mp hy)
      exact ⟨c, e.symm⟩
  obtain ⟨cs, rfl⟩ := hy
  have nd2 : cs.Nodup := List.Pairwise.of_map sg (fun a b h e => h (congrArg sg e)) nd
  have le := sorted_sg so
  have m2 : ∀ c, c ∈ cs ↔ c ∈ abc' := fun c => by
    have h := mem (sg c)
    rw [List.mem_map, List.mem_map] at h
    exact ⟨fun hc => by obtain ⟨d, hd, e⟩ := h.mp ⟨c, hc, rfl⟩; exact sg_inj e ▸ hd, fun hc => by obtain ⟨d, hd, e⟩ := h.mpr ⟨c, hc, rfl⟩; exact sg_inj e ▸ hd⟩
  have e := inc_eq (a := cs.map fun (i : Nat) => (i : Int)) (b := abc'.map fun (i : Nat) => (i : Int)) (lt_of_le_nd (by rw [List.pairwise_map]; exact le.imp fun h => by omega) (nd2.map _ fun a b e h => e (by omega))) (by rw [List.pairwise_map]; exact up.imp fun h => by omega) fun k => by
    rw [List.mem_map, List.mem_map]
    exact ⟨fun ⟨c, hc, h⟩ => ⟨c, (m2 c).mp hc, h⟩, fun ⟨c, hc, h⟩ => ⟨c, (m2 c).mpr hc, h⟩⟩
  have inj : ∀ l m : List Nat, l.map (fun (i : Nat) => (i : Int)) = m.map (fun (i : Nat) => (i : Int)) → l = m := by
    intro l
    induction l with
    | nil => intro m h; cases m with
      | nil => rfl
      | cons _ _ => cases h
    | cons a l ih =>
      intro m h
      cases m with
      | nil => cases h
      | cons b m =>
        injection h with h1 h2
        rw [ih m h2, Int.ofNat.inj h1]
  rw [inj _ _ e]
end K33
/-! text Kx -/
set_option Elab.async false
set_option linter.all false
set_option maxRecDepth 100000
set_option maxHeartbeats 4000000
/-! enumerate over a tuple, over a dict -/
namespace K33
open PySem PySem.Spec PyProof.Rows L2 Evl PySem.W
section
variable {prog : Program} {w : World} {A : Around} {E : Value → Shared → Prop} {s : Shared} {K : Type} [DecidableEq K] {knd : PySem.KeyKind prog w K}
theorem key_stop {it d : Addr} {i ep : Nat} {kvs : List (K × Value)} {Q : Value → Shared → Prop} (hh : A.handled = none) (hit : s.heap.IsKeyIter it d i kvs.length ep) (hm : s.heap.DictAt knd d kvs ep) (hx : kvs[i]? = none)
    (hE : ∀ h' e, Heap.ExtBut it s.heap h' → (∃ o, h'.get? e = some o ∧ o.cls = .type "StopIteration") → E (.ref e) { s with heap := h' }) : wpAny (model prog w) A (Builtin.SmallTypes.nextOf (.ref it)) Q E s := by
  obtain ⟨o, ho, hc, hd⟩ := id hit
  obtain ⟨od, es, hod, hcd, hdd, hk, hp, hn⟩ := id hm
  unfold Builtin.SmallTypes.nextOf
  refine wpAny_bind (wpAny_callSpecial?_slot (name := Str.ofString "__next__") hit.typeIs PySem.F.slot_dict_keyiterator_next (wpAny_call_entry PySem.F.slot_dict_keyiterator_next hit.typeIs PySem.F.entry_dict_keyiterator_next ?_ (PySem.F.args_dict_keyiterator_next_1 _)))
  refine wpAny_bind (wpAny_pure (wpAny_bind (wpAny_bind ?_)))
  first | refine wpAny_bind (wpAny_typeNameOfWhole_keyiter hit.typeIs (wpAny_pure (wpAny_bind (wpAny_fieldsOf ho hd ?_)))) | refine wpAny_bind (wpAny_typeNameOf_keyiter hit.typeIs (wpAny_pure (wpAny_bind (wpAny_fieldsOf ho hd ?_))))
  have own0 : Builtin.Dict_items.ownsTuple "dict_keyiterator" = false := by decide
  simp only [own0, Bool.false_eq_true, if_false]
  show wpAny _ _ (if (Value.ref d == Value.none) = true then _ else _) _ _ _
  rw [if_neg (show ¬ ((Value.ref d == Value.none) = true) from fun z => by cases z)]
  refine wpAny_bind (wpAny_pure (wpAny_bind (wpAny_dictEntries hod hdd ?_)))
  have sz : es.size = kvs.length := by rw [← hp.length]; simp
  rw [if_neg (by rw [sz]; simp)]
  refine wpAny_bind (wpAny_pure (wpAny_bind (wpAny_dictEpoch hod hdd ?_)))
  rw [if_neg (by simp)]
  have ge : es.size ≤ i := by rw [sz]; simpa using hx
  refine wpAny_pure ?_
  simp only [show ¬ ((i : Int) < 0) from by omega, if_false, Int.toNat_natCast, Array.getElem?_eq_none ge]
  refine wpAny_bind ?_
  first | refine wpAny_bind (wpAny_typeNameOfWhole_keyiter hit.typeIs (wpAny_pure (wpAny_bind (m := setField (.ref it) 0 .none) (wpAny_setField ho hd (by simp) ?_)))) | refine wpAny_bind (wpAny_typeNameOf_keyiter hit.typeIs (wpAny_pure (wpAny_bind (m := setField (.ref it) 0 .none) (wpAny_setField ho hd (by simp) ?_))))
  refine wpAny_bind (m := newExc (.type "StopIteration") []) ?_
  simp only [newExc, newTuple]
  refine wpAny_bind (wpAny_newObj_type (wpAny_bind (m := firstArgMember _ _) (wpAny_of_eq (a := Value.none) (by first | rfl | (simp only [firstArgMember]; rfl)) (wpAny_newObj_type ?_ (by size_fits)))) (by size_fits))
  simp only [raiseNew]
  refine wpAny_bind (wpAny_handled ?_)
  first | rw [show A.in1.handled = none from hh] | rw [hh]
  exact wpAny_bind (wpAny_pure (wpAny_throw (hE _ _ (((Heap.SameBut.update ..).extBut.push _).push _) ⟨_, Heap.get?_push_size _ rfl, rfl⟩)))
theorem draws_keys (hh : A.handled = none) (it d : Addr) (hne : d ≠ it) (kvs : List (K × Value)) (ep : Nat) : Draws prog w A it [it, d] kvs.length (fun i v => ∃ k x, kvs[i]? = some (k, x) ∧ knd.is k v = true) (fun i h => h.IsKeyIter it d i kvs.length ep ∧ h.DictAt knd d kvs ep) where
  live := fun _ _ st => let ⟨o, ho, _⟩ := st.1; ⟨o, ho⟩
  frame := fun _ _ _ st hk => ⟨st.1.at fun o e => hk it (by simp) o e, st.2.at' fun o e => hk d (by simp) o e⟩
  item := fun i s Q E hi st hQ => by
    have hx := List.getElem?_eq_getElem hi
    unfold Builtin.SmallTypes.nextOf
    refine wpAny_bind (kdk_special st.1 st.2 hx fun key h' hkey hit' hs => wpAny_pure (hQ key h' s.toks ⟨_, _, hx, hkey⟩ ⟨hit', st.2.at' fun o e => ?_⟩ hs))
    exact (hs.2 d hne).trans e
  done := fun s Q E st hE => key_stop hh st.1 st.2 (by simp) hE
end
section
variable {prog : Program} {w : World} {A : Around} {E : Value → Shared → Prop} {s : Shared}
/-- what iter(v) makes, where H stands -/
def Starts (prog : Program) (w : World) (v : Value) (o : Obj) (H : Heap → Prop) : Prop := ∀ (A : Around) (E : Value → Shared → Prop) (s : Shared) (Q : Value → Shared → Prop), H s.heap → Q (.ref s.heap.objs.size) { s with heap := s.heap.push o } → wpAny (model prog w) A (pyIter v) Q E s
set_option maxHeartbeats 1000000 in
theorem enum_meets {v : Value} {o : Obj} {H : Heap → Prop} (B : Starts prog w v o H) : MeetsIn prog w (Builtin.«enumerate.__new__» ⟨[.type "enumerate", v], []⟩) (fun _ R s => H s.heap ∧
      R (.ok (.ret (.ref (s.heap.push o).objs.size))) { s with heap := (s.heap.push o).push { cls := .type "enumerate", data := .fields #[.none, .bool false, .ref s.heap.objs.size, rawInt 0, .none, .none] } }) :=
  .of_wp fun A R s h => by
    obtain ⟨hp, g, d, tk, os⟩ := s; obtain ⟨st, h⟩ := h
    have sub0 := sub_enumerate
    have go : ∀ {A' : Around} {E : Value → Shared → Prop} {Q : Value → Shared → Prop}, Q (.ref hp.objs.size) ⟨hp.push o, g, d, tk, os⟩ → wpAny (model prog w) A' (pyIter v) Q E ⟨hp, g, d, tk, os⟩ := fun q => B _ _ ⟨hp, g, d, tk, os⟩ _ st q
    wp_walk using go
    refine wpAny_stack_any fun st => wpAny_pure ?_; split
    · rename_i c _ _ _ _ _
      cases (c == Value.type "enumerate") <;> (wp_walk using go; exact ⟨_, rfl, h⟩)
    · wp_walk using go; exact ⟨_, rfl, h⟩
theorem enum_call {v : Value} {o : Obj} {H : Heap → Prop} {Q : Value → Shared → Prop} (B : Starts prog w v o H) (st : H s.heap) (fr : o.isFreed = false)
    (h : ∀ h', IsEnum h' (s.heap.objs.size + 1) s.heap.objs.size 0 .none → h'.get? s.heap.objs.size = some o → (∀ b ob, s.heap.get? b = some ob → h'.get? b = some ob) → Q (.ref (s.heap.objs.size + 1)) { s with heap := h' }) :
    wpAny (model prog w) A (call (.type "enumerate") [v]) Q E s := by
  refine callType_newIn F.called_enumerate (by decide) (F.typeCall_enumerate_1 _) (F.newCall_enumerate_1 _) (fun obj => F.args_object_init_2 obj _) F.entry_enumerate_new (enum_meets B) ⟨st, ?_⟩
  have hz : (s.heap.push o).objs.size = s.heap.objs.size + 1 := Heap.size_push ..
  show _ ∧ _
  rw [hz]
  have he : IsEnum ((s.heap.push o).push { cls := .type "enumerate", data := .fields #[.none, .bool false, .ref s.heap.objs.size, rawInt 0, .none, .none] }) (s.heap.objs.size + 1) s.heap.objs.size 0 .none := by
    have q := Heap.get?_push_size (s.heap.push o) (o := { cls := .type "enumerate", data := .fields #[.none, .bool false, .ref s.heap.objs.size, rawInt 0, .none, .none] }) rfl
    rw [hz] at q
    exact q
  exact ⟨⟨_, he, rfl⟩, h _ he (Heap.get?_push_of_some _ (Heap.get?_push_size _ fr)) fun b ob x => Heap.get?_push_of_some _ (Heap.get?_push_of_some _ x)⟩
end
/-- the turns of enumerate over what is drawn: while G holds the i-th drawn is y i -/
def Itg (n : Nat) (G : Hp → Prop) (y : Nat → Option V) : It := ⟨fun i H => i < n ∧ G H, fun i H v H' => ∃ T x, v = .ref T ∧ H T = none ∧ H' = upd H T (.tup [.int (i : Nat), x]) ∧ y i = some x, fun i H => i = n ∧ G H⟩
theorem turn_enumG {P : Program} {w : World} {K : PySem.W.Frag} {elts : List Expr} {kk : Nat} {tpos : Pos} {e it : Addr} {fp : List Addr} {n : Nat} {G : Hp → Prop} {y : Nat → Option V} {Pv : Nat → Value → Prop} {St : Nat → Heap → Prop} {Src : Heap → Prop} (hei : e ≠ it) (hef : e ∉ fp) (hif : it ∈ fp)
    (D : ∀ A : Around, A.handled = none → Draws P w A it fp n Pv fun i h => St i h ∧ Src h) (srcH : ∀ (X : Cx) (pins : List (Addr × Obj)) (σ : L2.St) (H : Hp) (s : Shared), X.prog = P → X.w = w → X.K = K → Inv X pins σ H s → G H → Src s.heap) (itd : ∀ i h, St i h → ∃ o, h.get? it = some o ∧ ∀ v, o.data ≠ .cell v)
    (src : ∀ (X : Cx) (pins : List (Addr × Obj)) (σ : L2.St) (H : Hp) (s : Shared) (i : Nat), X.prog = P → X.w = w → X.K = K → Inv X pins σ H s → G H → i < n → ∀ u, Pv i u → ∃ x, y i = some x ∧ RelV x u)
    (keepS : ∀ i h h', St i h → (∀ o, h.get? it = some o → h'.get? it = some o) → St i h') : Turn P w K (.Tuple elts kk tpos) (Itg n G y) [e, it] e (fun i h => (∃ old, IsEnum h e it ((i : Nat) : Int) old) ∧ St i h) where
  mem := by simp
  obj := fun i h st b hb => by
    obtain ⟨⟨old, he⟩, hs⟩ := st
    rcases (show b = e ∨ b = it by simpa using hb) with z | z
    · rw [z]; exact ⟨_, he, fun v q => nomatch q⟩
    · rw [z]; exact itd i h hs
  keep := fun i h h' st k => let ⟨⟨old, he⟩, hs⟩ := st; ⟨⟨old, k e (by simp) _ he⟩, keepS _ _ _ hs fun o q => k it (by simp) o q⟩
  item := by
    intro X hP hw hK hc i pins s σ H E I hf st hg
    obtain ⟨⟨old, he⟩, hs⟩ := st
    subst hP hw
    obtain ⟨hin, hG⟩ := hg
    have hsrc := srcH X pins σ H s rfl rfl hK I hG
    have D1 := D X.A.in1 (show X.A.in1.handled = none from I.ok.hd hc)
    have el : e < s.heap.objs.size := Heap.lt_size he
    have il : it < s.heap.objs.size := by obtain ⟨_, q⟩ := D1.live _ _ ⟨hs, hsrc⟩; exact Heap.lt_size q
    refine wpAny_pyNext_enum_itemC D1 he ⟨hs, hsrc⟩ hin hei hef fun u h' tk hPv ho hs' hT hsz hk => ?_
    obtain ⟨x, hx, ru⟩ := src X pins σ H s i rfl rfl hK I hG hin u hPv
    refine ⟨_, rfl, wpAny_letOwnedTupleGo_enum (s := { s with heap := h', toks := tk + 1 }) ho fun h2 he2 sb => ?_⟩
    have hT2 : h2.get? s.heap.objs.size = some { cls := .type "tuple", data := .seq #[.int i tk, u] } := (sb.2 _ (Nat.ne_of_gt el)).trans hT
    have new : ObjOk X.prog X.w (upd H s.heap.objs.size (.tup [.int (i : Nat), x])) h2 s.heap.objs.size (.tup [.int (i : Nat), x]) := ⟨by show 2 ≤ sizeLine; decide, [.int i tk, u], .cons ⟨_, rfl⟩ (.cons ru .nil), ⟨_, hT2, rfl, _, rfl⟩⟩
    have I1 : Inv X pins σ (upd H s.heap.objs.size (.tup [.int (i : Nat), x])) { s with heap := h2, toks := tk + 1 } :=
      I.turnedNew (ch := [e, it]) (fun b ob hb q => (sb.2 b fun z => hb (by simp [z])).trans (hk b ob (fun z => hb (by simp [z])) (fun z => hb (by simp [z])) q)) hf (Nat.le_refl _) new
    refine ⟨.ref s.heap.objs.size, _, I1, rfl, ⟨_, x, rfl, I.hok.fresh (Nat.le_refl _), rfl, hx⟩, ⟨⟨u, ?_⟩, keepS _ _ _ hs'.1 fun o q => (sb.2 it (Ne.symm hei)).trans q⟩, fun b hb => ?_⟩
    · rw [show ((i + 1 : Nat) : Int) = (i : Int) + 1 by omega]
      exact he2
    · have lt : b < s.heap.objs.size := by
        rcases (show b = e ∨ b = it by simpa using hb) with z | z
        · rw [z]; exact el
        · rw [z]; exact il
      rw [upd_ne (Nat.ne_of_lt lt)]
      exact (hf b hb).1
  done := by
    intro X hP hw hK hc i pins s σ H E I hf st hg
    obtain ⟨⟨old, he⟩, hs⟩ := st
    subst hP hw
    obtain ⟨rfl, hG⟩ := hg
    obtain ⟨f0, f1, f2, f3, f4, f5⟩ := hf it (by simp)
    have hsrc := srcH X pins σ H s rfl rfl hK I hG
    have D1 := D X.A.in1 (show X.A.in1.handled = none from I.ok.hd hc)
    exact wpAny_pyNext_enum_endD D1 he ⟨hs, hsrc⟩ fun h' eb => ⟨rfl, I.turned (t' := s.toks) (fun b o hb q => eb b o hb q) f0 f1 f3 f4 f5⟩
  self := fun A i s Q E st h => let ⟨⟨_, he⟩, _⟩ := st; wpAny_pyIter_enum he h
/-! ### the rules -/
theorem draws_tup {P : Program} {w : World} {A : Around} (hh : A.handled = none) (it t : Addr) (hne : t ≠ it) (xs : List V) :
    Draws P w A it [it, t] xs.length (fun i u => ∃ x, xs[i]? = some x ∧ RelV x u) (fun i h => h.IsTupleIter it t i ∧ ∃ its : List Value, Vals xs its ∧ h.IsTuple t its.toArray) where
  live := fun _ _ st => let ⟨o, ho, _⟩ := st.1; ⟨o, ho⟩
  frame := fun _ _ _ st hk => ⟨st.1.at fun o e => hk it (by simp) o e, let ⟨its, rv, q⟩ := st.2; ⟨its, rv, q.at fun o e => hk t (by simp) o e⟩⟩
  item := fun i s Q E hi st hQ => by
    obtain ⟨st, its, rv, pt⟩ := st
    obtain ⟨u, hu, ru⟩ := rv.get (List.getElem?_eq_getElem hi)
    exact wpAny_nextOf_tuple_item st pt (x := u) (by simpa using hu) fun h' st' hs' => hQ _ h' s.toks ⟨_, List.getElem?_eq_getElem hi, ru⟩ ⟨st', its, rv, pt.extBut hs'.extBut hne⟩ hs'
  done := fun s Q E st hE => by
    obtain ⟨st, its, rv, pt⟩ := st
    exact wpAny_nextOf_tuple_end hh st pt (by simp [rv.length]) hE
def iEnumT (K : PySem.W.Frag) (ta : TA) : TI := fun σ H R => ta σ H fun vs H1 => ∃ a xs, vs = [.ref a] ∧ SqT K H1 a xs ∧ R (Itg xs.length (fun H => SqT K H a xs) fun i => xs[i]?) H1
theorem pi_enumT {X : Cx} {e : Expr} {ta : TA} {p pos tpos : Pos} {elts : List Expr} {kk : Nat} (gE : Gl X "enumerate") (mE : X.mg "enumerate" = none) (ha : PA X [e] ta) (hs : starEach [e] X.env = [(false, eval e X.env)] := by rfl) :
    PI X (.Tuple elts kk tpos) (.Call (.Name "enumerate" p) [e] [] pos) (iEnumT X.K ta) := by
  refine ⟨fun pins s σ H R I h => Call_ (ld_blt I gE mE boot_enumerate (PyProof.Rows.callWith_type1 (thn (ha.run pos pins s σ H _ I h) fun us s1 ⟨vs, H1, I1, r1, a, xs, ex, hq, q⟩ => ?_) hs rfl))⟩
  subst ex
  rw [Vals.ref1 r1]
  obtain ⟨its, rv, pt, hz⟩ := I1.tuple hq
  have pt2 : s1.heap.IsTuple a its.toArray := pt
  have alt : a < s1.heap.objs.size := by obtain ⟨o, ho, _⟩ := pt2; exact Heap.lt_size ho
  refine enum_call (H := fun h => h.IsTuple a its.toArray) (fun A E s Q st q => wpAny_pyIter_tuple st q) pt2 rfl fun h' he hit hk => wpAny_pyIter_enum he ?_
  have I2 : Inv X pins σ H1 { s1 with heap := h' } := I1.kept (t' := s1.toks) hk
  refine ⟨s1.heap.objs.size + 1, [s1.heap.objs.size + 1, s1.heap.objs.size], _, _, H1, rfl, I2, turn_enumG (fp := [s1.heap.objs.size, a]) (n := xs.length) (St := fun i h => h.IsTupleIter s1.heap.objs.size a i) (Src := fun h => ∃ its : List Value, Vals xs its ∧ h.IsTuple a its.toArray) (Nat.succ_ne_self _) (fun z => ?_) (by simp) (fun A hA => draws_tup hA _ a (Nat.ne_of_lt alt) xs)
    (fun X' pins' σ' H' s' hP hw hK I' hG => ?_) (fun i h st => ?_) (fun X' pins' σ' H' s' i hP hw hK I' hG hi u hu => hu) (fun i h h2 st k => st.at fun o e => k o e), ⟨⟨.none, he⟩, ⟨_, hit, rfl, rfl⟩⟩, fun b hb => ?_, q⟩
  · rcases List.mem_cons.mp z with z | z
    · exact absurd z (Nat.succ_ne_self _)
    · exact absurd alt (by rw [← List.mem_singleton.mp z]; exact Nat.not_lt.mpr (Nat.le_succ _))
  · rw [← hK] at hG
    obtain ⟨its', rv', pt', _⟩ := I'.tuple hG
    exact ⟨its', rv', pt'⟩
  · obtain ⟨o, ho, _, hd⟩ := st
    exact ⟨o, ho, fun v z => by rw [hd] at z; cases z⟩
  · have ge : s1.heap.objs.size ≤ b := by
      rcases List.mem_cons.mp hb with z | z
      · rw [z]; exact Nat.le_succ _
      · rw [List.mem_singleton.mp z]; exact Nat.le_refl _
    exact I1.fpOk ge (I1.hok.fresh ge)
def iEnumD (ta : TA) : TI := fun σ H R => ta σ H fun vs H1 => ∃ d o kvs, vs = [.ref d] ∧ H1 d = some (.frz o (.dK kvs)) ∧ R (Itg kvs.length (fun H => H d = some (.frz o (.dK kvs))) fun i => kvs[i]?.map fun kv => kV kv.1) H1
theorem pi_enumD {X : Cx} {e : Expr} {ta : TA} {p pos tpos : Pos} {elts : List Expr} {kk : Nat} (gE : Gl X "enumerate") (mE : X.mg "enumerate" = none) (ha : PA X [e] ta) (hs : starEach [e] X.env = [(false, eval e X.env)] := by rfl) :
    PI X (.Tuple elts kk tpos) (.Call (.Name "enumerate" p) [e] [] pos) (iEnumD ta) := by
  refine ⟨fun pins s σ H R I h => Call_ (ld_blt I gE mE boot_enumerate (PyProof.Rows.callWith_type1 (thn (ha.run pos pins s σ H _ I h) fun us s1 ⟨vs, H1, I1, r1, d, od, kvs, ex, hq, q⟩ => ?_) hs rfl))⟩
  subst ex
  rw [Vals.ref1 r1]
  obtain ⟨hz, hs0, vs, kv, hdo⟩ := dk_rd I1.hok (.inr ⟨od, hq⟩)
  have god : s1.heap.get? d = some od := (I1.hok d _ hq).1
  obtain ⟨ep, o2, es, ho2, hat2⟩ := hdo.dictAt
  rw [god] at ho2
  cases ho2
  have at2 : ∀ h : Heap, h.get? d = some od → h.DictAt (mixKind X.prog X.w) d vs ep := fun h e => ⟨od, es, e, hat2⟩
  have lk : kvs.length = vs.length := Paired.length kv
  have alt : d < s1.heap.objs.size := Heap.lt_size god
  refine enum_call (H := fun h => h.get? d = some od) (o := { cls := .type "dict_keyiterator", data := .fields #[.ref d, .int 0 0, .int vs.length 0, .int ep 0] }) (fun A E s Q st q => wpAny_pyIter_dict hs0 (at2 _ st) q) god rfl fun h' he hit hk => wpAny_pyIter_enum he ?_
  have I2 : Inv X pins σ H1 { s1 with heap := h' } := I1.kept (t' := s1.toks) hk
  refine ⟨s1.heap.objs.size + 1, [s1.heap.objs.size + 1, s1.heap.objs.size], _, _, H1, rfl, I2, turn_enumG (fp := [s1.heap.objs.size, d]) (n := kvs.length) (St := fun i h => h.IsKeyIter s1.heap.objs.size d i vs.length ep) (Src := fun h => h.DictAt (mixKind X.prog X.w) d vs ep) (Nat.succ_ne_self _) (fun z => ?_) (by simp) (fun A hA => by rw [lk]; exact draws_keys hA _ d (Nat.ne_of_lt alt) vs ep)
    (fun X' pins' σ' H' s' hP hw hK I' hG => ?_) (fun i h st => ?_) (fun X' pins' σ' H' s' i hP hw hK I' hG hi u hu => ?_) (fun i h h2 st k => st.at fun o e => k o e), ⟨⟨.none, he⟩, ⟨_, hit, rfl, rfl⟩⟩, fun b hb => ?_, q⟩
  · rcases List.mem_cons.mp z with z | z
    · exact absurd z (Nat.succ_ne_self _)
    · exact absurd alt (by rw [← List.mem_singleton.mp z]; exact Nat.not_lt.mpr (Nat.le_succ _))
  · exact at2 _ (I'.hok d _ (show H' d = some (.frz od (.dK kvs)) from hG)).1
  · obtain ⟨o, ho, _, hd⟩ := st
    exact ⟨o, ho, fun v z => by rw [hd] at z; cases z⟩
  · obtain ⟨k, x, e1, e2⟩ := hu
    obtain ⟨x', e3, _⟩ := KV.at' kv e1
    exact ⟨kV k, by rw [e3]; rfl, relV_key (show keyIs k u = true from e2)⟩
  · have ge : s1.heap.objs.size ≤ b := by
      rcases List.mem_cons.mp hb with z | z
      · rw [z]; exact Nat.le_succ _
      · rw [List.mem_singleton.mp z]; exact Nat.le_refl _
    exact I1.fpOk ge (I1.hok.fresh ge)
theorem walk_g {n : Nat} {G : Hp → Prop} {y : Nat → Option V} : Walk (Itg n G y) n G (YPair (fun i => some (.int (i : Nat))) y) :=
  ⟨fun _ _ hi q => ⟨hi, q⟩, fun _ q => ⟨rfl, q⟩, fun i H v H' _ _ ⟨T, x, h1, h2, h3, h4⟩ => ⟨T, _, x, h1, h2, h3, rfl, h4⟩⟩
theorem iw_enumT {K : PySem.W.Frag} {σ : L2.St} {H : Hp} {ta : TA} {p : Addr} {xs : List V} (h : EvA ta σ H [.ref p]) (hx : SqT K H p xs) : IvW (iEnumT K ta) σ H xs.length (YPair (fun i => some (.int (i : Nat))) (fun i => xs[i]?)) := fun H1 e R k =>
  h H1 e _ fun H2 e2 => ⟨p, xs, rfl, ex_t (e.trans e2) hx, k _ H2 _ H e2 (Ex.refl _) (e.trans e2) (fun _ _ _ h => h) walk_g fun H3 e3 => ex_t e3 hx⟩
theorem iw_enumD {σ : L2.St} {H : Hp} {ta : TA} {d : Addr} {kvs : List (Key × V)} (h : EvA ta σ H [.ref d]) (hd : FD H d kvs) : IvW (iEnumD ta) σ H kvs.length (YPair (fun i => some (.int (i : Nat))) (fun i => kvs[i]?.map fun kv => kV kv.1)) := fun H1 e R k => by
  obtain ⟨o, hd⟩ := hd
  exact h H1 e _ fun H2 e2 => ⟨d, o, kvs, rfl, e2 _ _ (e _ _ hd), k _ H2 _ H e2 (Ex.refl _) (e.trans e2) (fun _ _ _ h => h) walk_g fun H3 e3 => e3 _ _ hd⟩
end K33
/-! text Kz -/
set_option Elab.async false
set_option linter.all false
set_option maxRecDepth 100000
set_option maxHeartbeats 4000000
/-! dicts whose keys are (int, (int, ..)) -/
namespace K33
open PySem PySem.Spec PyProof.Rows L2 Evl
abbrev NKey := Int × List Int
def keyN (k : NKey) : NestedKey := .tup [.num k.1, .tup (k.2.map .num)]
theorem keyN_inj {a b : NKey} (h : keyN a = keyN b) : a = b := by
  obtain ⟨i, l⟩ := a
  obtain ⟨j, m⟩ := b
  unfold keyN at h
  injection h with h
  injection h with h1 h2
  injection h1 with h1
  injection h2 with h2 _
  injection h2 with h2
  have inj : ∀ l m : List Int, l.map NestedKey.num = m.map NestedKey.num → l = m := by
    intro l
    induction l with
    | nil => intro m h; cases m with
      | nil => rfl
      | cons _ _ => cases h
    | cons a l ih =>
      intro m h
      cases m with
      | nil => cases h
      | cons b m =>
        injection h with h1 h2
        injection h1 with h1
        rw [h1, ih m h2]
  rw [show i = j from h1, show l = m from inj l m h2]
theorem depth_nums : ∀ l : List Int, NestedKey.depthAll (l.map .num) = 0
  | [] => rfl
  | _ :: l => by
    show max 0 (NestedKey.depthAll (l.map .num)) = 0
    rw [depth_nums l]
    rfl
theorem keyN_depth (k : NKey) : (keyN k).depth ≤ 8 := by
  show max 0 (max (NestedKey.depthAll (k.2.map .num) + 1) 0) + 1 ≤ 8
  rw [depth_nums]
  decide
/-- the tuple at t is the key k -/
def KeyAt (K : PySem.W.Frag) (H : Hp) (t : Addr) (k : NKey) : Prop := ∃ t2, SqT K H t [.int k.1, .ref t2] ∧ SqT K H t2 (k.2.map V.int)
theorem KeyAt.mono {K : PySem.W.Frag} {H H' : Hp} {t : Addr} {k : NKey} (h : KeyAt K H t k) (e : Ex H H') : KeyAt K H' t k := by
  obtain ⟨t2, h1, h2⟩ := h
  exact ⟨t2, ex_t e h1, ex_t e h2⟩
abbrev NEnt := NKey × Addr × V
/-- the dict's own object -/
def NObj (P : Program) (w : World) (d : Addr) (es : List NEnt) (h : Heap) : Prop := (d == sysModules) = false ∧ es.length ≤ sizeLine ∧ ∃ xs : List (NestedKey × Addr × Value), Paired (fun (e : NEnt) x => x.1 = keyN e.1 ∧ x.2.1 = e.2.1 ∧ RelV e.2.2 x.2.2) es xs ∧
  ∃ o ds ep, h.get? d = some o ∧ o.ExactDict ∧ o.data = .dict ds ep ∧ ds.toList = xs.map (entryOfKey (nestedKind P w)) ∧ (xs.map (·.1)).Nodup
def ND (P : Program) (w : World) (d : Addr) (es : List NEnt) : HO := .ext (NObj P w d es)
theorem nd_new {P : Program} {w : World} {H : Hp} {h : Heap} {d : Addr} {es : List NEnt} (x : NObj P w d es h) : ObjOk P w H h d (ND P w d es) := by
  refine ⟨x, ?_, fun h1 h2 p k => ?_⟩
  · obtain ⟨_, _, _, _, o, _, _, ho, _⟩ := x
    exact ⟨o, ho⟩
  · obtain ⟨a, b, xs, c, o, ds, ep, ho, r⟩ := p
    exact ⟨a, b, xs, c, o, ds, ep, k o ho, r⟩
section
variable {X : Cx} {pins : List (Addr × Obj)} {σ : L2.St} {H : Hp} {s : Shared} {d t : Addr} {k : NKey} {es : List NEnt}
theorem nums_all {h : Heap} : ∀ {ns : List Int} {us : List Value}, Vals (ns.map V.int) us → NestedAll h (ns.map .num) us
  | [], _, .nil => .nil
  | _ :: _, _, .cons r rs => by
    obtain ⟨t, rfl⟩ := r
    exact .cons (.int _ _) (nums_all rs)
theorem KeyAt.is (I : Inv X pins σ H s) (h : KeyAt X.K H t k) : (nestedKind X.prog X.w).is s.heap (keyN k) t := by
  obtain ⟨t2, h1, h2⟩ := h
  obtain ⟨its, rv, ⟨o, ho, hc, n, hd⟩, _⟩ := I.tuple h1
  obtain ⟨its2, rv2, ⟨o2, ho2, hc2, n2, hd2⟩, _⟩ := I.tuple h2
  obtain ⟨u1, u2, rfl, ⟨tk, rfl⟩, r2⟩ := vals2 rv
  cases r2
  exact ⟨.tup ho hc hd (.cons (.int _ _) (.cons (.tup ho2 hc2 hd2 (by simpa using nums_all rv2)) .nil)), keyN_depth k⟩
theorem nd_keyed (I : Inv X pins σ H s) (hd : H d = some (ND X.prog X.w d es)) (keys : ∀ e ∈ es, KeyAt X.K H e.2.1 e.1) : (d == sysModules) = false ∧ es.length ≤ sizeLine ∧ ∃ xs : List (NestedKey × Addr × Value), Paired (fun (e : NEnt) x => x.1 = keyN e.1 ∧ x.2.1 = e.2.1 ∧ RelV e.2.2 x.2.2) es xs ∧ s.heap.DictOfH (nestedKind X.prog X.w) d xs := by
  obtain ⟨a, b, xs, c, o, ds, ep, ho, h1, h2, h3, h4⟩ := (show ObjOk X.prog X.w H s.heap d (ND X.prog X.w d es) from I.hok d _ hd).1
  refine ⟨a, b, xs, c, o, ds, ep, ho, h1, h2, h3, fun x hx => ?_, h4⟩
  have key : ∀ {es : List NEnt} {xs : List (NestedKey × Addr × Value)}, Paired (fun (e : NEnt) x => x.1 = keyN e.1 ∧ x.2.1 = e.2.1 ∧ RelV e.2.2 x.2.2) es xs → ∀ x ∈ xs, ∃ e ∈ es, x.1 = keyN e.1 ∧ x.2.1 = e.2.1 := by
    intro es xs p
    induction p with
    | nil => intro x hx; cases hx
    | cons h _ ih =>
      intro x hx
      rcases List.mem_cons.mp hx with rfl | m
      · exact ⟨_, List.mem_cons_self, h.1, h.2.1⟩
      · obtain ⟨e, he, q⟩ := ih x m
        exact ⟨e, List.mem_cons_of_mem _ he, q⟩
  obtain ⟨e, he, q1, q2⟩ := key c x hx
  rw [q1, q2]
  exact (keys e he).is I
theorem at_nkey {es : List NEnt} {xs : List (NestedKey × Addr × Value)} (p : Paired (fun (e : NEnt) x => x.1 = keyN e.1 ∧ x.2.1 = e.2.1 ∧ RelV e.2.2 x.2.2) es xs) (k : NKey) :
    (∃ e ∈ es, e.1 = k ∧ ∃ q, atKey xs (keyN k) = some q ∧ RelV e.2.2 q.2) ∨ ((∀ e ∈ es, e.1 ≠ k) ∧ atKey xs (keyN k) = none) := by
  induction p with
  | nil => exact .inr ⟨fun e he => (by cases he), rfl⟩
  | @cons e x es xs h _ ih =>
    by_cases hk : e.1 = k
    · refine .inl ⟨e, List.mem_cons_self, hk, x.2, ?_, h.2.2⟩
      unfold atKey
      rw [List.find?_cons_of_pos (by rw [h.1, hk]; simp)]
      rfl
    · have ne : ¬ x.1 = keyN k := fun z => hk (keyN_inj (h.1.symm.trans z))
      have step : atKey (x :: xs) (keyN k) = atKey xs (keyN k) := by
        unfold atKey
        rw [List.find?_cons_of_neg (by simpa using ne)]
      rw [step]
      rcases ih with ⟨e', he', q⟩ | ⟨q1, q2⟩
      · exact .inl ⟨e', List.mem_cons_of_mem _ he', q⟩
      · exact .inr ⟨fun e' he' => (List.mem_cons.mp he').elim (fun z => z ▸ hk) (q1 e'), q2⟩
end
/-! ### rules -/
theorem paired_snoc {α β : Type} {F : α → β → Prop} {a : α} {b : β} (h : F a b) : ∀ {l : List α} {m : List β}, Paired F l m → Paired F (l ++ [a]) (m ++ [b])
  | _, _, .nil => .cons h .nil
  | _, _, .cons q t => .cons q (paired_snoc h t)
/-- the dict at d stands in H, its keys are known -/
def NAt (P : Program) (w : World) (K : PySem.W.Frag) (H : Hp) (d : Addr) (es : List NEnt) : Prop := H d = some (ND P w d es) ∧ ∀ e ∈ es, KeyAt K H e.2.1 e.1
def rNNotIn (P : Program) (w : World) (K : PySem.W.Frag) : R2 := fun x y H Q => ∃ (d t : Addr) (k : NKey) (es : List NEnt), y = .ref d ∧ x = .ref t ∧ NAt P w K H d es ∧ KeyAt K H t k ∧ Q (.bl (!decide (k ∈ es.map (·.1)))) H
section
variable {X : Cx} {pins : List (Addr × Obj)} {σ : L2.St} {H : Hp} {s : Shared} {d t : Addr} {k : NKey} {es : List NEnt}
theorem nk_room {A : Around} (hu : A.units + 64 < cLine) {P : Program} {w : World} : (nestedKind P w).room A.in1 := by
  show A.units + 1 + 8 < cLine
  omega
theorem op_nNotIn (hu : X.A.units + 64 < cLine) : OpR X (compareOp .NotIn) (rNNotIn X.prog X.w X.K) := by
  intro pins s σ H x y v u Q I rx ry h
  obtain ⟨d, t, k, es, rfl, rfl, hN, hk, q⟩ := h
  cases rx
  cases ry
  obtain ⟨hs, hz, xs, pr, hm⟩ := nd_keyed I hN.1 hN.2
  refine wpAny_notIn_heap (nk_room hu) (hk.is I) hs hm ⟨.bl (!decide (k ∈ es.map (·.1))), H, I.tok _, ?_, q⟩
  rcases at_nkey pr k with ⟨e, he, ek, p, hp, _⟩ | ⟨hne, hp⟩
  · rw [hp, decide_eq_true (List.mem_map.mpr ⟨e, he, ek⟩)]
    rfl
  · rw [hp, decide_eq_false fun z => by obtain ⟨e, he, ek⟩ := List.mem_map.mp z; exact hne e he ek]
    rfl
/-- the dict behind a store of a new key -/
theorem nd_stored {P : Program} {w : World} {h' : Heap} {xs : List (NestedKey × Addr × Value)} {v : V} {u : Value} (hs : (d == sysModules) = false) (hz : es.length < sizeLine) (pr : Paired (fun (e : NEnt) x => x.1 = keyN e.1 ∧ x.2.1 = e.2.1 ∧ RelV e.2.2 x.2.2) es xs) (ru : RelV v u) (hn : atKey xs (keyN k) = none)
    (hm : h'.DictOfH (nestedKind P w) d (storedH xs (keyN k) t u)) : NObj P w d (es ++ [(k, t, v)]) h' := by
  rw [storedH_new hn] at hm
  obtain ⟨o, ds, ep, ho, h1, h2, h3, _, h5⟩ := hm
  exact ⟨hs, by rw [List.length_append]; exact hz, _, paired_snoc ⟨rfl, rfl, ru⟩ pr, o, ds, ep, ho, h1, h2, h3, h5⟩
def rSetN (P : Program) (w : World) (K : PySem.W.Frag) : TSet := fun o i v H Q => ∃ (d t : Addr) (k : NKey) (es : List NEnt), o = .ref d ∧ i = .ref t ∧ NAt P w K H d es ∧ KeyAt K H t k ∧ k ∉ es.map (·.1) ∧ es.length < sizeLine ∧ Q (upd H d (ND P w d (es ++ [(k, t, v)])))
theorem set_nd (hu : X.A.units + 64 < cLine) : PSet X (rSetN X.prog X.w X.K) := by
  intro pins s σ H o i v ov iv u Q I ro ri rv h
  obtain ⟨d, t, k, es, rfl, rfl, hN, hk, nk, hz, q⟩ := h
  cases ro
  cases ri
  obtain ⟨hs, hz2, xs, pr, hm⟩ := nd_keyed I hN.1 hN.2
  rcases at_nkey pr k with ⟨e, he, ek, _⟩ | ⟨_, hp⟩
  · exact absurd (List.mem_map.mpr ⟨e, he, ek⟩) nk
  · refine wpAny_setItem_heap (hsz := by rw [← Paired.length pr]; exact hz2) (nk_room hu) (hk.is I) hm fun h' hm' sb => ⟨_, d_write I (by rw [hN.1]; exact True.intro) sb ?_ (nd_new (nd_stored hs hz pr rv hp hm')), q⟩
    obtain ⟨ob, _, _, ho, _⟩ := hm'
    exact ⟨ob, ho⟩
def tNSetd (P : Program) (w : World) (K : PySem.W.Frag) (td ty tx : TE) : TE := fun σ H Q => td σ H fun x H1 => ∃ (d : Addr) (es : List NEnt), x = .ref d ∧ NAt P w K H1 d es ∧ ty σ H1 fun y H2 => tx σ H2 fun z H3 => ∃ (t : Addr) (k : NKey), NAt P w K H3 d es ∧ y = .ref t ∧ KeyAt K H3 t k ∧ es.length < sizeLine ∧
  (∀ e ∈ es, e.1 = k → Q e.2.2 H3) ∧ (k ∉ es.map (·.1) → Q z (upd H3 d (ND P w d (es ++ [(k, t, z)]))))
theorem pe_nsetd {o e f : Expr} {td ty tx : TE} {apos cpos : Pos} (hu : X.A.units + 64 < cLine) (ho : PE X o td) (he : PE X e ty) (hf : PE X f tx) (m : M2 X o "setdefault" apos e f cpos) : PE X (.Call (.Attribute o "setdefault" apos) [e, f] [] cpos) (tNSetd X.prog X.w X.K td ty tx) := by
  refine ⟨fun pins s σ H Q I h => ?_⟩
  refine wpAny_Call_method m.base m.few m.line PySem.F.plainAttrs_dict PySem.F.slot_dict_setdefault PySem.F.type_dict_setdefault (thn (ho.run pins s σ H _ I h) fun u s1 ⟨x, H1, I1, rx, d, es, ex, hN, q1⟩ => ?_)
  subst ex
  cases rx
  obtain ⟨hs, hz, xs, pr, hm⟩ := nd_keyed I1 hN.1 hN.2
  have noD : ∃ ob, s1.heap.get? d = some ob ∧ ob.cls = .type "dict" ∧ ob.dict = none := by
    obtain ⟨ob, _, _, hob, hex, _⟩ := hm
    exact ⟨ob, hob, hex.1, hex.2.1⟩
  refine ⟨hm.typeIs, ?_, ?_⟩
  · intro a ha
    cases ha
    obtain ⟨ob, hob, _, hd⟩ := noD
    exact ⟨ob, hob, hd⟩
  · rw [m.trees]
    refine Calls.callWith_builtin rfl (Calls.evalArgs_plain (Calls.spliced_cons (thn (he.run pins s1 σ H1 _ I1 q1) fun iv s2 ⟨y, H2, I2, ry, q2⟩ => Calls.spliced_cons (thn (hf.run pins s2 σ H2 _ I2 q2) fun fv s3 ⟨z, H3, I3, rz, t, k, hN3, ey, hk, hl, q3, q4⟩ => Calls.spliced_nil ?_))))
    subst ey
    cases ry
    obtain ⟨hs3, hz3, xs3, pr3, hm3⟩ := nd_keyed I3 hN3.1 hN3.2
    refine call_setdefault_heap (hsz := by rw [← Paired.length pr3]; exact hz3) (nk_room hu) (hk.is I3) hs3 hm3 (fun p hp => ?_) fun hn h' hm' sb => ?_
    · rcases at_nkey pr3 k with ⟨e, he', ek, p', hp', re⟩ | ⟨_, hp'⟩
      · rw [hp] at hp'
        cases hp'
        exact ⟨e.2.2, H3, I3.tok _, re, q3 e he' ek⟩
      · rw [hp] at hp'
        cases hp'
    · rcases at_nkey pr3 k with ⟨e, he', ek, p', hp', re⟩ | ⟨hne, _⟩
      · rw [hn] at hp'
        cases hp'
      · have he2 : ∃ q, h'.get? d = some q := by
          obtain ⟨ob, _, _, ho, _⟩ := hm'
          exact ⟨ob, ho⟩
        exact ⟨z, _, d_write I3 (by rw [hN3.1]; exact True.intro) sb he2 (nd_new (nd_stored hs3 hl pr3 rz hn hm')), rz, q4 fun z => by obtain ⟨e, he, ek⟩ := List.mem_map.mp z; exact hne e he ek⟩
def tDNewN (P : Program) (w : World) : TE := fun _ H Q => ∀ p, H p = none → Q (.ref p) (upd H p (ND P w p []))
theorem pe_dnewN {pos : Pos} : PE X (.Dict [] [] pos) (tDNewN X.prog X.w) := ⟨fun pins s σ H Q I h =>
  wpAny_Dict_empty ⟨.ref s.heap.objs.size, _, I.laid (a := s.heap.objs.size) (o := ND X.prog X.w s.heap.objs.size []) (t' := s.toks) (fun _ _ q => Heap.get?_push_of_some _ q) (Nat.le_refl _)
    (nd_new ⟨beq_eq_false_iff_ne.mpr (Ne.symm (Nat.ne_of_lt I.big)), Nat.zero_le _, [], .nil, _, #[], 0, Heap.get?_push_size _ rfl, ⟨rfl, rfl, rfl⟩, rfl, rfl, List.nodup_nil⟩), rfl, h _ (I.hok.fresh (Nat.le_refl _))⟩⟩
def rLenN (P : Program) (w : World) (K : PySem.W.Frag) : List V → Hp → VK → Prop := fun xs H Q => ∃ (d : Addr) (es : List NEnt), xs = [.ref d] ∧ NAt P w K H d es ∧ Q (.int (es.length : Nat)) H
theorem call_lenN : CallR X (.builtin "len") (rLenN X.prog X.w X.K) := by
  intro pins s σ H xs us Q I r h
  obtain ⟨d, es, rfl, hN, q⟩ := h
  rw [Vals.ref1 r]
  obtain ⟨hs, hz, xs, pr, hm⟩ := nd_keyed I hN.1 hN.2
  have hl : es.length = xs.length := Paired.length pr
  refine call_len_dictH hs hm (by rw [← hl]; rw [sizeLine_eq] at hz; omega) ?_
  rw [← hl]
  exact ⟨.int (es.length : Nat), H, I.tok _, ⟨_, rfl⟩, q⟩
end
end K33
/-! text Lx -/
set_option Elab.async false
set_option linter.all false
set_option maxRecDepth 100000
set_option maxHeartbeats 4000000
/-! len(dict), list(dict.values()), list(range(..)) -/
namespace K33
open PySem PySem.Spec PyProof.Rows L2 Evl
def rLenD : List V → Hp → VK → Prop := fun xs H Q => ∃ (d : Addr) (kvs : List (Key × V)), xs = [.ref d] ∧ Rd H d (.dK kvs) ∧ Q (.int (kvs.length : Nat)) H
section
variable {X : Cx}
theorem call_lenD : CallR X (.builtin "len") rLenD := by
  intro pins s σ H xs us Q I r h
  obtain ⟨d, kvs, rfl, hd, q⟩ := h
  rw [Vals.ref1 r]
  exact d_len I hd fun t s' I' => ⟨.int (kvs.length : Nat), H, I', ⟨t, rfl⟩, q⟩
theorem ev_lenD {σ : L2.St} {H : Hp} {te : TE} {d : Addr} {kvs : List (Key × V)} (he : Ev te σ H (.ref d)) (hd : FD H d kvs) : Ev (tCB rLenD (tCons te tNil)) σ H (.int (kvs.length : Nat)) :=
  ev_cbV (ea_cons he ea_nil) fun H1 e Q q => by
    obtain ⟨o, h⟩ := hd.mono e
    exact ⟨d, kvs, rfl, .inr ⟨o, h⟩, q⟩
def tListVals (te : TE) : TE := fun σ H Q => te σ H fun x H1 => ∃ (d : Addr) (kvs : List (Key × V)), x = .ref d ∧ Rd H1 d (.dK kvs) ∧ ∀ p, H1 p = none → Q (.ref p) (upd H1 p (.lst (kvs.map Prod.snd)))
theorem vals_snd {kvs : List (Key × V)} {vs : List (Key × Value)} (kv : KV kvs vs) : ∀ {l : List Value}, l.length = vs.length → (∀ (i : Nat) (v : Value), l[i]? = some v → ∃ k, vs[i]? = some (k, v)) → Vals (kvs.map Prod.snd) l := by
  have key : ∀ {kvs : List (Key × V)} {vs : List (Key × Value)}, KV kvs vs → Vals (kvs.map Prod.snd) (vs.map Prod.snd) := by
    intro kvs vs kv
    induction kv with
    | nil => exact .nil
    | cons h _ ih => exact .cons h.2 ih
  intro l hl hv
  have e : l = vs.map Prod.snd := by
    refine List.ext_getElem? fun i => ?_
    rw [List.getElem?_map]
    cases hi : l[i]? with
    | none =>
      have : vs[i]? = none := by
        rw [List.getElem?_eq_none_iff] at hi ⊢
        omega
      rw [this]
      rfl
    | some v =>
      obtain ⟨k, hk⟩ := hv i v hi
      rw [hk]
      rfl
  rw [e]
  exact key kv
theorem pe_listVals {e : Expr} {te : TE} {apos cpos p pos : Pos} (he : PE X e te) (hm : X.mg "list" = none) (hg : Gl X "list" := by rfl) (hc : X.calm = true := by rfl) (hbase : attributeBase e "values" X.env (eval e X.env) = eval e X.env := by rfl) (hline : (apos.endLine == cpos.line) = true := by rfl)
    (hs : starEach [.Call (.Attribute e "values" apos) [] [] cpos] X.env = (false, eval (.Call (.Attribute e "values" apos) [] [] cpos) X.env) :: starEach [] X.env := by rfl) :
    PE X (.Call (.Name "list" p) [.Call (.Attribute e "values" apos) [] [] cpos] [] pos) (tListVals te) := by
  refine ⟨fun pins s σ H Q I hq => ?_⟩
  refine wpAny_Call_Name_kw (ld_blt I hg hm boot_list (PyProof.Rows.callWith_type1 ?_ hs rfl))
  rw [hs]
  show wpAny _ _ (spliced ((false, eval (.Call (.Attribute e "values" apos) [] [] cpos) X.env) :: backTo pos (starEach [] X.env))) _ _ s
  refine Calls.spliced_cons (wpAny_Call_method (T := "dict") (id := "dict.values") hbase rfl hline F.plainAttrs_dict F.slot_dict_values F.type_dict_values (thn (he.run pins s σ H _ I hq) fun u s1 ⟨x, H1, I1, rx, d, kvs, ex, hd, q⟩ => ?_))
  subst ex
  obtain rfl : u = Value.ref d := rx
  obtain ⟨hz, hs0, vs, kv, hdo⟩ := dk_rd I1.hok hd
  obtain ⟨ep, hat⟩ := hdo.dictAt
  have lk : kvs.length = vs.length := Paired.length kv
  have I2 : Inv X pins σ H1 { s1 with heap := s1.heap.push { cls := .type "dict_values", data := .fields #[.ref d] } } := I1.kept (t' := s1.toks) fun b ob q => Heap.get?_push_of_some _ q
  refine ⟨hdo.typeIs, hdo.mapOf.noDict, ?_⟩
  show wpAny _ _ (callWith cpos (.builtin "dict.values") [.ref d] [] []) _ X.xe s1
  refine method_meetsIn F.slot_dict_values F.entry_dict_values rfl (PySem.evalArgs_none ⟨rfl, hdo.typeIs, F.args_dict_values_1 _, _, meets_dict_values (mixKind X.prog X.w) d hs0, ⟨vs, hdo⟩, ?_⟩)
  refine Calls.spliced_nil ?_
  refine PySem.W.kdl_call (PySem.W.kdl_values (knd := mixKind X.prog X.w) (kvs := vs) (ep := ep)) (I1.ok.hd hc) ⟨⟨_, Heap.get?_push_size _ rfl, rfl, rfl⟩, hat.push _⟩ (by omega) fun h' tk acc c hk hS hacc => ?_
  refine ⟨.ref _, _, I2.laid (t' := tk) hk (Nat.le_refl _) (show ObjOk X.prog X.w _ _ _ (.lst (kvs.map Prod.snd)) from ⟨by rw [List.length_map]; exact hz, acc.toList, c, vals_snd kv (by rw [Array.length_toList]; exact hacc.1) (fun i v h => hacc.2 i v (by rw [← Array.getElem?_toList]; exact h)), ?_⟩), rfl, q _ (I2.hok.fresh (Nat.le_refl _))⟩
  rw [Array.toArray_toList]
  exact hS
theorem el_listVals {σ : L2.St} {H : Hp} {te : TE} {d : Addr} {kvs : List (Key × V)} (he : Ev te σ H (.ref d)) (hd : FD H d kvs) : EvL (tListVals te) σ H (kvs.map Prod.snd) := fun H1 e Q q => he H1 e _ fun H2 e2 => by
  obtain ⟨o, h⟩ := hd.mono (e.trans e2)
  exact ⟨d, kvs, rfl, .inr ⟨o, h⟩, fun p hp => q p _ (fresh_back e2 hp) (e2.trans (Ex.new hp)) upd_same⟩
theorem el_listRg1 {σ : L2.St} {H : Hp} {ta : TE} {n : Nat} (ha : Ev ta σ H (.int n)) (hn : n ≤ 100000) : EvL (tLstRg (tRg1 ta)) σ H ((List.range n).map fun (i : Nat) => V.int (i : Int)) := fun H1 e Q q => ha H1 e _ fun H2 e2 => ⟨n, rfl, RgOk.of_le (by omega) (by omega) (by omega) (by omega), fun p hp => q p _ (fresh_back e2 hp) (e2.trans (Ex.new hp)) (by rw [upd_same]; unfold rgV; simp)⟩
end
end K33
/-! text Ly -/
set_option Elab.async false
set_option linter.all false
set_option maxRecDepth 100000
set_option maxHeartbeats 4000000
/-! machines as data; new dicts from comprehensions -/
namespace K33
open PySem PySem.Spec PyProof.Rows L2 Evl
/-- a map's row over the letters l -/
def mrow (l : List Nat) (f : Nat → Nat) : List (Key × V) := l.map fun c => (.inr (sg c), nv (f c))
/-- a map's row over the numbers l -/
def nrow (l : List Nat) (f : Nat → V) : List (Key × V) := l.map fun (c : Nat) => (.inl (c : Int), f c)
theorem val_map {α : Type} {l : List α} {k : α → Key} {u : α → V} (inj : ∀ a ∈ l, ∀ b ∈ l, k a = k b → a = b) {a : α} (h : a ∈ l) : valV (l.map fun a => (k a, u a)) (k a) = some (u a) := by
  induction l with
  | nil => cases h
  | cons b l ih =>
    by_cases e : k b = k a
    · rw [List.map_cons, valV_pos e, inj b List.mem_cons_self a h e]
    · rw [List.map_cons, valV_neg e]
      rcases List.mem_cons.mp h with rfl | h
      · exact absurd rfl e
      · exact ih (fun x hx y hy => inj x (List.mem_cons_of_mem _ hx) y (List.mem_cons_of_mem _ hy)) h
theorem val_map_none {α : Type} {l : List α} {k : α → Key} {u : α → V} {x : Key} (h : ∀ a ∈ l, k a ≠ x) : valV (l.map fun a => (k a, u a)) x = none := by
  induction l with
  | nil => rfl
  | cons b l ih =>
    rw [List.map_cons, valV_neg (h b List.mem_cons_self)]
    exact ih fun a ha => h a (List.mem_cons_of_mem _ ha)
theorem val_mrow {l : List Nat} {f : Nat → Nat} {c : Nat} (h : c ∈ l) : valV (mrow l f) (.inr (sg c)) = some (nv (f c)) :=
  val_map (k := fun c => (.inr (sg c) : Key)) (fun a _ b _ e => sg_inj (by injection e)) h
theorem inl_inj {a b : Nat} (e : (.inl (a : Int) : Key) = .inl (b : Int)) : a = b := by
  injection e with e
  omega
theorem val_nrow {l : List Nat} {f : Nat → V} {c : Nat} (h : c ∈ l) : valV (nrow l f) (.inl (c : Int)) = some (f c) :=
  val_map (k := fun (c : Nat) => (.inl (c : Int) : Key)) (fun a _ b _ e => inl_inj e) h
theorem val_nrow_none {l : List Nat} {f : Nat → V} {c : Nat} (h : c ∉ l) : valV (nrow l f) (.inl (c : Int)) = none :=
  val_map_none fun a ha e => h (inl_inj e ▸ ha)
theorem val_nrowB {l : List Nat} {f : Nat → V} {c : Nat} : (valV (nrow l f) (.inl (c : Int))).isSome = decide (c ∈ l) := by
  by_cases h : c ∈ l
  · rw [val_nrow h, decide_eq_true h]
    rfl
  · rw [val_nrow_none h, decide_eq_false h]
    rfl
theorem put_new {kvs : List (Key × V)} {k : Key} {v : V} (h : ∀ p ∈ kvs, p.1 ≠ k) : putK kvs k v = kvs ++ [(k, v)] := by
  unfold putK
  rw [if_neg]
  rw [List.any_eq_true]
  rintro ⟨p, hp, e⟩
  exact h p hp (of_decide_eq_true e)
/-- a new dict with these entries -/
def EvK (te : TE) (σ : L2.St) (H : Hp) (kvs : List (Key × V)) : Prop := ∀ H1, Ex H H1 → ∀ Q : VK, (∀ d H2, H1 d = none → Ex H1 H2 → H2 d = some (.dK kvs) → Q (.ref d) H2) → te σ H1 Q
section
variable {K : PySem.W.Frag} {σ : L2.St} {H H1 : Hp} {td ty te tk tv : TE} {t : TT} {d : Addr} {kvs : List (Key × V)} {v : V} {k : Key}
theorem ev_dget (hd : Ev td σ H (.ref d)) (hk : Ev ty σ H (kV k)) (h : FD H d kvs) (hv : valV kvs k = some v) : Ev (tDGet td ty) σ H v := fun H1 e Q q =>
  hd H1 e _ fun H2 e2 => hk H2 (e.trans e2) _ fun H3 e3 => ⟨d, v, rfl, by rw [← hv]; exact (h.mono ((e.trans e2).trans e3)).get k, q H3 (e2.trans e3)⟩
theorem EvK.mono (h : EvK te σ H kvs) (e : Ex H H1) : EvK te σ H1 kvs := fun H2 a Q q => h H2 (e.trans a) Q q
theorem evp_fzK (h : EvK te σ H kvs) : EvP (tFz te) σ H (fun v H' => ∃ d, v = .ref d ∧ H d = none ∧ FD H' d kvs) := fun H1 e Q q => h H1 e _ fun d H2 hn e2 hd => ⟨d, _, rfl, hd, trivial, fun od =>
  q _ _ (Ex.mut e2 hn) ⟨d, rfl, fresh_back e hn, ⟨od, upd_same⟩⟩⟩
theorem evp_K (h : EvK te σ H kvs) : EvP te σ H (fun v H' => ∃ d, v = .ref d ∧ H d = none ∧ H' d = some (.dK kvs)) := fun H1 e Q q => h H1 e _ fun d H2 hn e2 hd => q _ H2 e2 ⟨d, rfl, fresh_back e hn, hd⟩
/-- {k a: u a for a in l} -/
theorem ed_map {α : Type} (l : List α) (k : α → Key) (u : α → V) (nd : (l.map k).Nodup) {wi : TI} {g : TG} {vs : List Nat} {n : Nat} {Y : Nat → Hp → V → Hp → Prop} (hw : IvW wi σ H n Y) (hn : n = l.length) (hz : l.length ≤ 50000)
    (turn : ∀ (i : Nat) (a : α) (x : V) (Ha Hb : Hp), l[i]? = some a → Ex H Ha → Y i Ha x Hb → ∀ kk : L2.St → Hp → Prop, (∀ σ2 H2, Ex Ha H2 → wipe σ2 vs = wipe σ vs → EvT t σ2 H2 true → Ev tk σ2 H2 (kV (k a)) → Ev tv σ2 H2 (u a) → kk σ2 H2) → g x (wipe σ vs) Hb kk) :
    EvK (tDc wi g t tk tv vs) σ H (l.map fun a => (k a, u a)) := fun H0 e Q q => hw H0 e _ fun J H1 G G0 e1 eg1 eg2 _ W hG D hD => by
  subst hn
  refine turns W (fun i H' => H' D = some (.dK ((l.take i).map fun a => (k a, u a))) ∧ Ex H1 H') ⟨upd_same, Ex.new hD⟩ (fun i H' _ h => hG H' (eg2.trans h.2)) (fun i x Ha Hb hi h y => ?_) fun H' h => ?_
  · obtain ⟨a, ha⟩ : ∃ a, l[i]? = some a := ⟨l[i], List.getElem?_eq_getElem hi⟩
    have et : l.take (i + 1) = l.take i ++ [a] := by rw [List.take_succ, ha]; rfl
    refine turn i a x Ha Hb ha ((e.trans e1).trans h.2) y _ fun σ2 H2 e2 wp ht hk hv => ⟨wp, ?_⟩
    refine ht H2 (Ex.refl H2) _ fun H3 e3 => iteT (hk H3 e3 _ fun H4 e4 => hv H4 (e3.trans e4) _ fun H5 e5 => ?_)
    refine ⟨_, k a, rfl, e5 D _ (e4 D _ (e3 D _ (e2 D _ h.1))), ?_, ?_, Ex.mut ((((h.2.trans e2).trans e3).trans e4).trans e5) hD⟩
    · rw [List.length_map, List.length_take, sizeLine_eq]
      omega
    · rw [upd_same, put_new, et, List.map_append]
      · rfl
      · intro p hp e'
        obtain ⟨b, hb, rfl⟩ := List.mem_map.mp hp
        rw [← List.take_append_drop (i + 1) l, et, List.map_append, List.map_append] at nd
        have := (List.nodup_append.mp (List.nodup_append.mp nd).1).2.2 (k b) (List.mem_map.mpr ⟨b, hb, rfl⟩) (k a) (by simp)
        exact this e'
  · have h1 := h.1
    rw [List.take_length] at h1
    exact q D H' (fresh_back e1 hD) (e1.trans h.2) h1
end
end K33
/-! text Qa -/
set_option Elab.async false
set_option linter.all false
set_option maxRecDepth 100000
set_option maxHeartbeats 4000000
/-! languages: what a machine must be -/
namespace K33
open PySem PySem.Spec PyProof.Rows L2 Evl
/-- the rows of a machine over the letters l -/
def MRows (H : Hp) (ds : List Addr) (l : List Nat) (n : Nat) (go : Nat → Nat → Nat) : Prop := ds.length = n ∧ ∀ i < n, ∃ d, ds[i]? = some d ∧ FD H d (mrow l (go i))
theorem MRows.mono {H H' : Hp} {ds : List Addr} {l : List Nat} {n : Nat} {go : Nat → Nat → Nat} (h : MRows H ds l n go) (e : Ex H H') : MRows H' ds l n go := ⟨h.1, fun i hi => by
  obtain ⟨d, h1, h2⟩ := h.2 i hi
  exact ⟨d, h1, h2.mono e⟩⟩
/-- letters of a language -/
structure LOk (l : List Nat) : Prop where
  one : 1 ≤ l.length
  four : l.length ≤ 4
  up : l.Pairwise (· < ·)
  ins : ∀ c ∈ l, c ∈ lets
/-- a machine -/
structure MOk (l : List Nat) (n : Nat) (go : Nat → Nat → Nat) (mem : List Nat) : Prop where
  lok : LOk l
  one : 1 ≤ n
  six : n ≤ 6
  ins : ∀ s < n, ∀ c ∈ l, go s c < n
  nd : mem.Nodup
  mem : ∀ x ∈ mem, x < n
theorem LOk.nd {l : List Nat} (h : LOk l) : l.Nodup := h.up.imp fun h => Nat.ne_of_lt h
theorem strOk_lets : ∀ c ∈ lets, PyData.strOk (sg c) = true := by decide +kernel
theorem signsOf_txt (l : List Nat) : signsOf (txt l) = l.map sg := by
  unfold signsOf txt
  rfl
section
variable {P : Program} {w : World} {K : PySem.W.Frag} {mg : Str → Option Value} {base : Heap}
/-- signs of a list, all kept -/
theorem el_letters {σ : L2.St} {H : Hp} {te ts : TE} {l : List Nat} {u : Nat → V} {vs : List Nat} {g : TG} {t : TT} (hs : Ev ts σ H (.str (txt l))) (hz : l.length ≤ 1000)
    (turn : ∀ (c : Nat) (Ha : Hp), c ∈ l → Ex H Ha → ∀ k : L2.St → Hp → Prop, (∀ σ2 H2, Ex Ha H2 → wipe σ2 vs = wipe σ vs → EvT t σ2 H2 true → Ev te σ2 H2 (u c) → k σ2 H2) → g (.str (sg c)) (wipe σ vs) Ha k) : EvL (tLc (iStr ts) g t te vs) σ H (l.map u) := by
  refine el_map l u (iw_str (s := txt l) hs) (by simp [txt]) (by omega) fun i c x Ha Hb hc ea y k hk => ?_
  obtain ⟨rfl, c', hc', rfl⟩ := y
  have e : (txt l).cps = l.toArray := rfl
  rw [e] at hc'
  obtain rfl : c = c' := by simpa [hc] using hc'
  exact turn c _ (List.mem_of_getElem? hc) ea k hk
theorem dp_strs {H : Hp} {p : Addr} {zs : List Str} (h : SqL K H p (zs.map V.str)) : Dp K H (.ref p) (.list (zs.map PyData.str)) := by
  refine .lst h ?_
  have key : ∀ zs : List Str, DpAll K H (zs.map V.str) (zs.map PyData.str) := by
    intro zs
    induction zs with
    | nil => exact .nil
    | cons z zs ih => exact .cons (.str z) ih
  exact key zs
theorem shaped_strs {zs : List Str} (ok : ∀ z ∈ zs, PyData.strOk z = true) : SeqAt.shaped (.list (zs.map PyData.str)) = true := by
  have hc : PyData.canLayAll0 (zs.map PyData.str) = true := by
    induction zs with
    | nil => rfl
    | cons z zs ih => simpa [PyData.canLayAll0, PyData.canLay0, ok z List.mem_cons_self] using ih fun y hy => ok y (List.mem_cons_of_mem _ hy)
  have hd : PyData.depthAll (zs.map PyData.str) ≤ 1 := by
    clear hc ok
    induction zs with
    | nil => exact Nat.zero_le _
    | cons z zs ih => simpa [PyData.depthAll, PyData.depth] using ih
  unfold SeqAt.shaped
  rw [Bool.and_eq_true]
  exact ⟨by simpa [PyData.canLay0] using hc, decide_eq_true (by simp only [PyData.depth]; omega)⟩
/-- two lists of the same texts are equal -/
theorem ev_eqStrs {σ : L2.St} {H : Hp} {ta tb : TE} {zs : List Str} (ok : ∀ z ∈ zs, PyData.strOk z = true) (ha : EvP ta σ H fun v H' => ∃ p, v = .ref p ∧ H' p = some (.lst (zs.map V.str))) (hb : ∀ H1, Ex H H1 → EvP tb σ H1 fun v H' => ∃ p, v = .ref p ∧ H' p = some (.lst (zs.map V.str))) : Ev (tOp (rEqD K) ta tb) σ H (.bl true) := fun H1 e Q q =>
  ha H1 e _ fun v H2 e2 ⟨p, hv, hp⟩ => hb H2 (e.trans e2) H2 (Ex.refl H2) _ fun u H3 e3 ⟨p', hu, hp'⟩ => by
    subst hv hu
    refine ⟨_, _, dp_strs (sq_of (e3 _ _ hp)), dp_strs (sq_of hp'), shaped_strs ok, shaped_strs ok, ?_⟩
    have := SeqAt.eqv_refl_plain (.list (zs.map PyData.str)) (PyData.plain_of_canLay0 _ (SeqAt.canLay_of_shaped (shaped_strs ok)))
    rw [this]
    exact q H3 (e2.trans e3)
def spAreSigns : Sp := fun vs H Q _ => ∃ l : List Nat, vs = [.str (txt l)] ∧ LOk l ∧ RetV (.bl true) H Q
abbrev N_are_signs : List Str := ["value"]
theorem sc_are_signs : FnScope N_are_signs ["value"] (defScope (top 41)) := ⟨rfl, rfl, rfl, by decide +kernel, rfl, by decide +kernel, by decide +kernel⟩
theorem ok_are_signs (T : Txt K mg) : Ok P w K mg base 2 "are_signs" ["value"] spAreSigns := by
  refine ok_of T.are_signs sc_are_signs (fun vs H Q E h => ?_) (fun _ _ _ _ _ _ us hl => match us, hl with | [_], _ => rfl) (fun f cdv A outer s H vs Q E hr h => ?_)
  · obtain ⟨_, rfl, _⟩ := h
    rfl
  · obtain ⟨l, rfl, ok, k⟩ := h
    refine ⟨_, (pss_one (ps_ret (pe_and (pe_f (ok_is_word T) (hr.mono (by decide)) (pa_cons (pv 0) pa_nil)) (pe_and (pe_chain op_le op_le pe_int (pe_callB call_len (by rfl) T.len (by decide +kernel) (pa_cons (pv 0) pa_nil)) (pe_MOST_SIGNS T)) (pe_one (pe_cmpR (op_eqD hr.units) (pe_listStr T.list (pv 0)) (pe_sortedSet (by rfl) T.sorted (by rfl) T.set (pv 0)) (nomark _))))))), ?_⟩
    have l4 := ok.four
    refine s_ret (v := .bl true) (ev_is (ev_andV (ev_callV (z := .bl true) (ea_cons (ev_var rfl) ea_nil) ?_) fun _ => ev_andV (ev_chain ev_c (ev_lenV (n := l.length) (ev_var rfl) fun _ _ => by rw [← txt_len]; exact lenV_str (by rw [txt_len]; omega)) rv_le (fun _ => ev_c) (fun _ => rv_le)) fun _ => show Ev _ _ _ (.bl true) from ?_) ?_) k
    · refine fun H1 e Q q E => ⟨txt l, rfl, by rw [txt_len]; omega, ?_⟩
      rw [abc_txt, List.all_eq_true.mpr fun c hc => decide_eq_true (ok.ins c hc)]
      exact q
    · refine ev_eqStrs (zs := l.map sg) (fun z hz => by obtain ⟨c, hc, rfl⟩ := List.mem_map.mp hz; exact strOk_lets c (ok.ins c hc)) ((evp_L (el_listStr (z := txt l) (ev_var rfl) (by rw [txt_len]; omega))).imp fun v H' e ⟨p, h1, _, h2⟩ => ⟨p, h1, by rw [← signsOf_txt]; exact h2⟩) fun H1 e1 => ?_
      refine (evp_sortedSet (xs := l.map sg) ((evp_of (ev_var rfl)).imp fun v H' e h => .inr ⟨txt l, h, (signsOf_txt l).symm⟩) (by rw [List.length_map]; omega)).imp fun v H' e ⟨p, ys, h1, _, nd, mem, so, h2⟩ => ⟨p, h1, ?_⟩
      rw [h2, signs_back nd mem so ok.up]
    · have := ok.one
      simp
      omega
def spStRow : Sp := fun vs H Q _ => ∃ (d : Addr) (l : List Nat) (n : Nat) (f : Nat → Nat), vs = [.ref d, .str (txt l), .int (n : Int)] ∧ FD H d (mrow l f) ∧ LOk l ∧ (∀ c ∈ l, f c < n) ∧ RetV (.bl true) H Q
abbrev N_is_state_row : List Str := ["value", "signs", "many", "sign"]
theorem sc_is_state_row : FnScope N_is_state_row ["value", "signs", "many"] (defScope (top 43)) := ⟨rfl, rfl, rfl, by decide +kernel, rfl, by decide +kernel, by decide +kernel⟩
theorem ok_is_state_row (T : Txt K mg) : Ok P w K mg base 2 "is_state_row" ["value", "signs", "many"] spStRow := by
  refine ok_of T.is_state_row sc_is_state_row (fun vs H Q E h => ?_) (fun _ _ _ _ _ _ us hl => match us, hl with | [_, _, _], _ => rfl) (fun f cdv A outer s H vs Q E hr h => ?_)
  · obtain ⟨_, _, _, _, rfl, _⟩ := h
    rfl
  · obtain ⟨d, l, n, f, rfl, fd, ok, hf, k⟩ := h
    refine ⟨_, (pss_cons (ps_if (PW.pt (pw_or (pt_not (pt_val (pe_callB (r := rIsi K) call_isi (by rfl) T.isinstance (by decide +kernel) (pa_cons (pv 0) (pa_cons (pe_ty_dict T.dict) pa_nil))))) (pw_or1 (pt_cmpR op_ne (pe_callB call_lenD (by rfl) T.len (by decide +kernel) (pa_cons (pv 0) pa_nil)) (pe_callB call_len (by rfl) T.len (by decide +kernel) (pa_cons (pv 1) pa_nil)) (nomark _)))))
 (pss_one (ps_ret pe_bl))
 pss_nil)
 (pss_one (ps_ret (pe_callB (r := rAll K) (cr_all rfl) (by rfl) T.all (by decide +kernel) (pa_cons (pe_lc (own := [("sign", 3)]) (g := gName 3) (by rfl) sc_is_state_row.nd (pi_str (pv 1)) (blkOk_by (own := [("sign", 3)]) (N := N_is_state_row) (sc := defScope (top 43)) (by decide +kernel)) (fun _ _ _ _ _ => (pg_name (i := 3) sc_is_state_row.nd rfl (Or.inl rfl))) (fun _ _ _ _ _ => by exact pts_nil) (fun _ _ _ _ _ => by exact (pe_and (pe_cmp (pc_din (hu_of hr) (pv 3) (pv 0)) rfl) (pe_one (pe_f (ok_is_number_below T) (hr.mono (by decide)) (pa_cons (pe_dget (hu_of hr) (pv 0) (pv 3) (fun _ _ => rfl)) (pa_cons (pv 2) pa_nil))))))) pa_nil))))), ?_⟩
    have l4 := ok.four
    refine q_when (b := false) (et_is (et_or (et_not (et_B (ev_isi (ev_var rfl) (fun _ e => tyx_d (fd.mono e)) (k := true) (by decide +kernel)))) fun _ => et_test (ev_op (ev_lenD (ev_var rfl) fd) (ev_lenV (n := l.length) (ev_var rfl) fun _ _ => by rw [← txt_len]; exact lenV_str (by rw [txt_len]; omega)) (rv_ne rfl))) (by simp [mrow])) (fun z => nomatch z) fun _ H1 e1 => ?_
    refine s_ret (v := .bl true) (ev_is (ev_allM l (fun _ => true) ?_) (by simp)) fun H2 e2 => k H2 (e1.trans e2)
    refine el_letters (ev_var rfl) (by omega) fun c Ha hc ea k hk => hk _ _ (Ex.refl _) rfl et_yes (ev_is (ev_andV (ev_din (k := .inr (sg c)) (ev_var rfl) (ev_var rfl) (fd.mono (e1.trans ea))) fun _ => ev_callV (z := .bl (below (f c) n)) (ea_cons (ev_dget (k := .inr (sg c)) (ev_var rfl) (ev_var rfl) (fd.mono (e1.trans ea)) (val_mrow hc)) (ea_cons (ev_var rfl) ea_nil)) fun H1 e Q q E => ⟨_, _, rfl, q⟩) ?_)
    rw [val_mrow hc]
    have := hf c hc
    simp [below]
    omega
end
end K33
/-! text Lw -/
set_option Elab.async false
set_option linter.all false
set_option maxRecDepth 100000
set_option maxHeartbeats 4000000
/-! a dict frozen behind a statement; fields as targets -/
namespace K33
open PySem PySem.Spec PyProof.Rows L2 Evl
/-- the statement, and behind it the dict in slot j is frozen -/
def tFzs (j : Nat) (t : TS) : TS := fun D σ H => t { D with nx := fun σ' H' => ∃ d u, σ'[j]? = some (some (.ref d)) ∧ H' d = some u ∧ Mut (some u) ∧ ∀ od, D.nx σ' (upd H' d (.frz od u)) } σ H
theorem ps_fzs {X : Cx} {st : Stmt} {t : TS} {j : Nat} (h : PS X st t) : PS X st (tFzs j t) := by
  refine ⟨fun pins s σ H D I hw => thn (h.run pins s σ H _ I hw) fun f s1 q => ?_⟩
  cases f with
  | next =>
    obtain ⟨σ', H', I1, d, u, _, hd, mu, k⟩ := q
    obtain ⟨od, I2⟩ := I1.lock hd mu
    exact ⟨σ', _, I2, k od⟩
  | brk => exact q
  | cont => exact q
  | ret v => exact q
/-- o.f = .. as a target -/
def gFld (K : PySem.W.Frag) (ta : TE) (f : Str) : TG := fun y σ H Q => ta σ H fun x H2 => ∃ a C dx fs, x = .ref a ∧ H2 a = some (.ins C dx fs) ∧ Cls K C ∧ NoAttr K C f ∧ fs.length < 1000 ∧ Q σ (upd H2 a (.ins C dx (putF f y fs)))
theorem pg_fld {X : Cx} {K : PySem.W.Frag} {o : Expr} {f : Str} {pos : Pos} {ta : TE} (ho : PE X o ta) (hK : X.K = K := by rfl) : PG X (.Attribute o f pos) (gFld K ta f) := by
  subst hK
  refine ⟨fun pins s σ H v u Q I r h => ?_⟩
  rw [arm_assign_Attribute]
  refine wpAny_bind (wpAny_holding (thn (ho.run pins s σ H _ I h) fun ov s1 ⟨x, H1, I1, r1, a, C, dx, fs, ex, ea, c, n, l, q⟩ => ?_))
  subst ex
  obtain rfl : ov = Value.ref a := r1
  exact wpAny_bind (wpAny_standAt (wpAny_bind (wpAny_holding (setattr_ok I1 ea c n l r fun s3 I3 => wpAny_release ⟨σ, _, I3, q⟩))))
end K33
/-! text Lv -/
set_option Elab.async false
set_option linter.all false
set_option maxRecDepth 100000
set_option maxHeartbeats 4000000
/-! more readings: for over texts, pairs of names, dicts changed -/
namespace K33
open PySem PySem.Spec PyProof.Rows L2 Evl
/-- the pairs of a display -/
def EvPs : List (TE × TE) → L2.St → Hp → List (Key × V) → Prop
  | [], _, _, [] => True
  | (tk, tv) :: r, σ, H, (k, v) :: kvs => Ev tk σ H (kV k) ∧ Ev tv σ H v ∧ EvPs r σ H kvs
  | _, _, _, _ => False
section
variable {K : PySem.W.Frag} {σ : L2.St} {H H1 : Hp} {ta td ty te tk tv tx : TE} {t : TT} {tu tz : TS} {g : TG} {D : Ends} {d : Addr} {kvs : List (Key × V)} {v : V} {k : Key} {l : List Nat}
theorem s_forTxt (h : Ev te σ H (.str (txt l))) (Pv : Nat → L2.St → Hp → Prop) (h0 : ∀ H1, Ex H H1 → Pv 0 σ H1)
    (hs : ∀ i c σ' H', l[i]? = some c → Pv i σ' H' → g (.str (sg c)) σ' H' fun σ2 H2 => tu { D with nx := Pv (i + 1), ct := Pv (i + 1), bk := D.nx } σ2 H2) (hn : ∀ σ' H', Pv l.length σ' H' → D.nx σ' H') : tFor (iStr te) g tu D σ H :=
  h H (Ex.refl H) _ fun H1 e1 => ⟨txt l, rfl, by
    have hz : (txt l).cps.size = l.length := by simp [txt]
    refine for_it walk_str Pv (h0 H1 e1) (fun _ _ _ _ _ => trivial) (fun i x σ' Ha Hb hi p y => ?_) (by rw [hz]; exact hn)
    obtain ⟨rfl, c, hc, rfl⟩ := y
    exact hs i c σ' _ (by simpa [txt] using hc) p⟩
theorem q_forTxt (h : Ev te σ H (.str (txt l))) (Pv : Nat → L2.St → Hp → Prop) (h0 : ∀ H1, Ex H H1 → Pv 0 σ H1)
    (hs : ∀ i c σ' H', l[i]? = some c → Pv i σ' H' → g (.str (sg c)) σ' H' fun σ2 H2 => tu { D with nx := Pv (i + 1), ct := Pv (i + 1), bk := tz D } σ2 H2) (hn : ∀ σ' H', Pv l.length σ' H' → tz D σ' H') : tSeq (tFor (iStr te) g tu) tz D σ H :=
  s_forTxt (D := { D with nx := tz D }) h Pv h0 hs hn
theorem q_par {i j : Nat} {tw : TA} {P : List V → Hp → Prop} (h : EvAP tw σ H P) (k : ∀ vs H1, Ex H H1 → P vs H1 → ∃ v w, vs = [v, w] ∧ tz D ((σ.set i (some v)).set j (some w)) H1) : tSeq (tPar i j tw) tz D σ H := h H (Ex.refl H) _ k
theorem s_par {i j : Nat} {tw : TA} {P : List V → Hp → Prop} (h : EvAP tw σ H P) (k : ∀ vs H1, Ex H H1 → P vs H1 → ∃ v w, vs = [v, w] ∧ D.nx ((σ.set i (some v)).set j (some w)) H1) : tPar i j tw D σ H := h H (Ex.refl H) _ k
theorem EvPs.mono : ∀ {trs : List (TE × TE)} {kvs : List (Key × V)}, EvPs trs σ H kvs → Ex H H1 → EvPs trs σ H1 kvs
  | [], [], _, _ => trivial
  | (_, _) :: _, (_, _) :: _, ⟨h1, h2, h3⟩, e => ⟨h1.mono e, h2.mono e, EvPs.mono h3 e⟩
theorem pairs_run : ∀ {trs : List (TE × TE)} {kvs : List (Key × V)} {G : Hp}, EvPs trs σ G kvs → ∀ Q : List (V × V) → Hp → Prop, (∀ H2, Ex G H2 → Q (kvs.map fun kv => (kV kv.1, kv.2)) H2) → tPairs trs σ G Q
  | [], [], G, _, Q, q => q G (Ex.refl G)
  | (_, _) :: _, (_, _) :: _, G, ⟨h1, h2, h3⟩, Q, q => h1 G (Ex.refl G) _ fun H2 e2 => h2 H2 e2 _ fun H3 e3 => pairs_run (h3.mono (e2.trans e3)) _ fun H4 e4 => q H4 ((e2.trans e3).trans e4)
theorem ek_disp {trs : List (TE × TE)} (h : EvPs trs σ H kvs) (hz : kvs.length ≤ 15) : EvK (tDisp trs) σ H (mergeK [] kvs) := fun H1 e Q q p hp =>
  pairs_run (h.mono (e.trans (Ex.new hp))) _ fun H2 e2 => ⟨e2 p _ upd_same, kvs, rfl, hz, q p _ hp (Ex.mut ((Ex.new hp).trans e2) hp) upd_same⟩
theorem merge_one {kv : Key × V} : mergeK [] [kv] = [kv] := rfl
theorem s_dput (hd : Ev td σ H (.ref d)) (hk : Ev ty σ H (kV k)) (hv : Ev tv σ H v) (h : H d = some (.dK kvs)) (hz : kvs.length ≤ 100000) (kk : ∀ H1, Ex H H1 → D.nx σ (upd H1 d (.dK (putK kvs k v)))) : sDPut td ty tv D σ H :=
  hv H (Ex.refl H) _ fun H1 e1 => hd H1 e1 _ fun H2 e2 => hk H2 (e1.trans e2) _ fun H3 e3 => ⟨d, _, rfl, .inl ⟨kvs, k, e3 _ _ (e2 _ _ (e1 _ _ h)), rfl, by rw [sizeLine_eq]; omega, rfl⟩, kk H3 ((e1.trans e2).trans e3)⟩
theorem q_dput (hd : Ev td σ H (.ref d)) (hk : Ev ty σ H (kV k)) (hv : Ev tv σ H v) (h : H d = some (.dK kvs)) (hz : kvs.length ≤ 100000) (kk : ∀ H1, Ex H H1 → tz D σ (upd H1 d (.dK (putK kvs k v)))) : tSeq (sDPut td ty tv) tz D σ H :=
  s_dput (D := { D with nx := tz D }) hd hk hv h hz kk
/-- what a dict that may change answers -/
theorem ev_dninM (hk : Ev ty σ H (kV k)) (hd : Ev td σ H (.ref d)) (h : H d = some (.dK kvs)) : Ev (tDNotIn ty td) σ H (.bl (!(valV kvs k).isSome)) := fun H1 e Q q =>
  hk H1 e _ fun H2 e2 => hd H2 (e.trans e2) _ fun H3 e3 => ⟨d, _, rfl, DGet.k (e3 _ _ (e2 _ _ (e _ _ h))), q H3 (e2.trans e3)⟩
theorem ev_dinM (hk : Ev ty σ H (kV k)) (hd : Ev td σ H (.ref d)) (h : H d = some (.dK kvs)) : Ev (tDIn ty td) σ H (.bl (valV kvs k).isSome) := fun H1 e Q q =>
  hk H1 e _ fun H2 e2 => hd H2 (e.trans e2) _ fun H3 e3 => ⟨d, _, rfl, DGet.k (e3 _ _ (e2 _ _ (e _ _ h))), q H3 (e2.trans e3)⟩
theorem nrow_snoc {f : Nat → V} {x : Nat} (h : x ∉ l) : putK (nrow l f) (.inl (x : Int)) (f x) = nrow (l ++ [x]) f := by
  rw [put_new]
  · unfold nrow
    rw [List.map_append]
    rfl
  · intro p hp e
    obtain ⟨c, hc, rfl⟩ := List.mem_map.mp hp
    exact h (inl_inj e ▸ hc)
end
end K33
/-! text Qb -/
set_option Elab.async false
set_option linter.all false
set_option maxRecDepth 100000
set_option maxHeartbeats 4000000
namespace K33
open PySem PySem.Spec PyProof.Rows L2 Evl
section
variable {P : Program} {w : World} {K : PySem.W.Frag} {mg : Str → Option Value} {base : Heap}
abbrev N_are_states : List Str := ["value", "many", "state"]
theorem sc_are_states : FnScope N_are_states ["value", "many"] (defScope (top 44)) := ⟨rfl, rfl, rfl, by decide +kernel, rfl, by decide +kernel, by decide +kernel⟩
theorem ok_are_states (T : Txt K mg) : Ok P w K mg base 2 "are_states" ["value", "many"] (spDiff K) := by
  refine ok_of T.are_states sc_are_states (fun vs H Q E h => ?_) (fun _ _ _ _ _ _ us hl => match us, hl with | [_, _], _ => rfl) (fun f cdv A outer s H vs Q E hr h => ?_)
  · obtain ⟨_, _, _, rfl, _⟩ := h
    rfl
  · obtain ⟨p, n, ns, rfl, hs, hz, nd, hb, k⟩ := h
    refine ⟨_, (pss_cons (ps_if (PW.pt (pw_or (pt_not (pt_val (pe_callB (r := rIsiT K) call_isiT (by rfl) T.isinstance (by decide +kernel) (pa_cons (pv 0) (pa_cons (pe_tup (pa_cons (pe_ty_list T.list) (pa_cons (pe_ty_tuple T.tuple) pa_nil))) pa_nil))))) (pw_or1 (pt_not (pt_val (pe_callB (r := rAll K) (cr_all rfl) (by rfl) T.all (by decide +kernel) (pa_cons (pe_lc (own := [("state", 2)]) (g := gName 2) (by rfl) sc_are_states.nd (pi_lt (pv 0)) (blkOk_by (own := [("state", 2)]) (N := N_are_states) (sc := defScope (top 44)) (by decide +kernel)) (fun _ _ _ _ _ => (pg_name (i := 2) sc_are_states.nd rfl (Or.inl rfl))) (fun _ _ _ _ _ => by exact pts_nil) (fun _ _ _ _ _ => by exact (pe_f (ok_is_number_below T) (hr.mono (by decide)) (pa_cons (pv 2) (pa_cons (pv 1) pa_nil))))) pa_nil)))))))
 (pss_one (ps_ret pe_bl))
 pss_nil)
 (pss_one (ps_ret (pe_cmpR op_eq (pe_lenSetA (by rfl) T.len (by rfl) T.set (pv 0)) (pe_callB call_len (by rfl) T.len (by decide +kernel) (pa_cons (pv 0) pa_nil)) (nomark _))))), ?_⟩
    have tyS : ∀ H1, Ex H H1 → ∃ a, TyX K H1 (.ref p) (.type a) ∧ PySem.W.kitAny K (.type a) [.type "list", .type "tuple"] = some true := fun H1 e => hs.elim (fun q => ⟨_, tyx_l (ex_l e q), kit_lt (by decide +kernel)⟩) fun q => ⟨_, tyx_t (ex_t e q), kit_lt (by decide +kernel)⟩
    refine q_when (b := false) ?_ (fun z => nomatch z) fun _ H1 e1 => ?_
    · refine et_is (et_or (et_not (et_B (ev_isiTT (ev_var rfl) tyS))) fun _ => et_not (et_B (ev_allM ns (fun k => below k n) ?_))) ?_
      · refine el_map ns _ (iw_lt (p := p) (ev_var rfl) hs) (by simp) (by omega) fun i c x Ha Hb hc ea y k hk => ?_
        obtain ⟨rfl, hx⟩ := y
        obtain rfl : V.int c = x := by
          rw [List.getElem?_map, hc] at hx
          exact Option.some.inj hx
        exact hk _ _ (Ex.refl _) rfl et_yes (ev_callV (ea_cons (ev_var rfl) (ea_cons (ev_var rfl) ea_nil)) fun H1 e Q q E => ⟨c, n, rfl, q⟩)
      · rw [List.all_eq_true.mpr hb]
        rfl
    · have hs1 := hs.imp (ex_l e1) (ex_t e1)
      refine s_ret (v := .bl true) (ev_is (ev_op (ev_lenSet (l := p) ns ns (ev_var rfl) hs1 hz nd fun _ => Iff.rfl) (ev_lenV (n := ns.length) (ev_var rfl) fun H2 e2 => ?_) (rv_eq rfl)) (by simp)) fun H2 e2 => k H2 (e1.trans e2)
      exact (hs1.imp (ex_l e2) (ex_t e2)).imp (fun q => ⟨_, q, by simp⟩) fun q => ⟨_, q, by simp⟩
/-- a machine given as a list of rows and a list of states -/
def McAt (K : PySem.W.Frag) (H : Hp) (p q : Addr) (l : List Nat) (n : Nat) (go : Nat → Nat → Nat) (mem : List Nat) : Prop := ∃ ds : List Addr, SqL K H p (ds.map V.ref) ∧ MRows H ds l n go ∧ SqL K H q (mem.map nv)
theorem McAt.mono {H H' : Hp} {p q : Addr} {l : List Nat} {n : Nat} {go : Nat → Nat → Nat} {mem : List Nat} (h : McAt K H p q l n go mem) (e : Ex H H') : McAt K H' p q l n go mem := by
  obtain ⟨ds, h1, h2, h3⟩ := h
  exact ⟨ds, ex_l e h1, h2.mono e, ex_l e h3⟩
def spCheck (K : PySem.W.Frag) : Sp := fun vs H Q _ => ∃ (p q : Addr) (l : List Nat) (n : Nat) (go : Nat → Nat → Nat) (mem : List Nat), vs = [.str (txt l), .ref p, .ref q] ∧ McAt K H p q l n go mem ∧ MOk l n go mem ∧ RetV .non H Q
abbrev N_check_machine : List Str := ["signs", "states", "member_states", "index", "row"]
theorem sc_check_machine : FnScope N_check_machine ["signs", "states", "member_states"] (defScope (top 45)) := ⟨rfl, rfl, rfl, by decide +kernel, rfl, by decide +kernel, by decide +kernel⟩
theorem ok_check_machine (T : Txt K mg) : Ok P w K mg base 3 "check_machine" ["signs", "states", "member_states"] (spCheck K) := by
  refine ok_of T.check_machine sc_check_machine (fun vs H Q E h => ?_) (fun _ _ _ _ _ _ us hl => match us, hl with | [_, _, _], _ => rfl) (fun f cdv A outer s H vs Q E hr h => ?_)
  · obtain ⟨_, _, _, _, _, _, rfl, _⟩ := h
    rfl
  · obtain ⟨p, q, l, n, go, mem, rfl, ⟨ds, hp, hr2, hq⟩, ok, k⟩ := h
    refine ⟨_, (pss_cons (ps_if (pt_not (pt_val (pe_f (ok_are_signs T) (hr.mono (by decide)) (pa_cons (pv 0) pa_nil))))
 (pss_one ps_never)
 pss_nil)
 (pss_cons (ps_if (PW.pt (pw_or (pt_not (pt_val (pe_callB (r := rIsiT K) call_isiT (by rfl) T.isinstance (by decide +kernel) (pa_cons (pv 1) (pa_cons (pe_tup (pa_cons (pe_ty_list T.list) (pa_cons (pe_ty_tuple T.tuple) pa_nil))) pa_nil))))) (pw_or1 (pt_not (pt_chain op_le op_le pe_int (pe_callB call_len (by rfl) T.len (by decide +kernel) (pa_cons (pv 1) pa_nil)) (pe_MOST_GIVEN_STATES T))))))
 (pss_one ps_never)
 pss_nil)
 (pss_cons (ps_for PassesOwn.never rfl (pi_enum (by rfl) T.enumerate (pa_cons (pv 1) pa_nil)) (pg_tup rfl (pgs_cons (pg_name (i := 3) sc_check_machine.nd rfl (Or.inl rfl)) (pgs_cons (pg_name (i := 4) sc_check_machine.nd rfl (Or.inl rfl)) pgs_nil)))
 (pss_one (ps_if (pt_not (pt_val (pe_f (ok_is_state_row T) (hr.mono (by decide)) (pa_cons (pv 4) (pa_cons (pv 0) (pa_cons (pe_callB call_len (by rfl) T.len (by decide +kernel) (pa_cons (pv 1) pa_nil)) pa_nil))))))
 (pss_one ps_never)
 pss_nil)))
 (pss_one (ps_if (pt_not (pt_val (pe_f (ok_are_states T) (hr.mono (by decide)) (pa_cons (pv 2) (pa_cons (pe_callB call_len (by rfl) T.len (by decide +kernel) (pa_cons (pv 1) pa_nil)) pa_nil)))))
 (pss_one ps_never)
 pss_nil))))), ?_⟩
    have n6 := ok.six
    have n1 := ok.one
    have dl : (ds.map V.ref).length = n := by rw [List.length_map, hr2.1]
    refine q_when (b := false) (et_is (et_not (et_B (ev_callV (z := .bl true) (ea_cons (ev_var rfl) ea_nil) fun H1 e Q q E => ⟨l, rfl, ok.lok, q⟩))) rfl) (fun z => nomatch z) fun _ H1 e1 => ?_
    refine q_when (b := false) (et_is (et_or (et_not (et_B (ev_isiTT (ev_var rfl) fun H2 e2 => ⟨_, tyx_l (ex_l (e1.trans e2) hp), kit_lt (k := true) (by decide +kernel)⟩))) fun _ => et_not (et_B (ev_chain ev_c (ev_lenV (n := n) (ev_var rfl) fun H2 e2 => .inl ⟨_, ex_l (e1.trans e2) hp, dl.symm⟩) rv_le (fun _ => ev_c) fun _ => rv_le))) (by simp; omega)) (fun z => nomatch z) fun _ H2 e2 => ?_
    have e02 := e1.trans e2
    refine q_forW (iw_enum (p := p) (ea_cons (ev_var rfl) ea_nil) (ex_l e02 hp)) (fun G0 i σ' H' => ∃ u v, σ' = [some (.str (txt l)), some (.ref p), some (.ref q), u, v] ∧ Ex H H' ∧ Ex G0 H')
      (fun G0 H2 f1 f2 => ⟨none, none, rfl, (e02.trans f1).trans f2, f2⟩) (fun _ _ _ _ _ ⟨_, _, _, _, h⟩ => h) (fun G0 i x σ' Ha Hb f1 hi hP y => ?_) fun G0 σ' H3 f1 hP => ?_
    · obtain ⟨u, v, rfl, eH, eG⟩ := hP
      have hin : i < n := by omega
      obtain ⟨d, hd, fd⟩ := hr2.2 i hin
      obtain ⟨T, rfl, hT, rfl⟩ := pair_at y rfl (by rw [List.getElem?_map, hd]; rfl)
      have eb : Ex Ha (upd Ha T (.tup [.int (i : Nat), .ref d])) := Ex.new hT
      refine tg_pair (st_of upd_same) ?_
      refine s_when (b := false) (et_is (et_not (et_B (ev_callV (z := .bl true) (ea_cons (ev_var rfl) (ea_cons (ev_var rfl) (ea_cons (ev_lenV (n := n) (ev_var rfl) fun H4 e4 => .inl ⟨_, ex_l ((eH.trans eb).trans e4) hp, dl.symm⟩) ea_nil))) fun H4 e4 Q q E => ⟨d, l, n, go i, rfl, fd.mono ((eH.trans eb).trans e4), ok.lok, fun c hc => ok.ins i hin c hc, q⟩))) rfl) (fun z => nomatch z) fun _ H4 e4 => ?_
      exact ⟨_, _, rfl, (eH.trans eb).trans e4, (eG.trans eb).trans e4⟩
    · obtain ⟨u, v, rfl, eH, _⟩ := hP
      refine s_when (b := false) (et_is (et_not (et_B (ev_callV (z := .bl true) (ea_cons (ev_var rfl) (ea_cons (ev_lenV (n := n) (ev_var rfl) fun H4 e4 => .inl ⟨_, ex_l (eH.trans e4) hp, dl.symm⟩) ea_nil)) fun H4 e4 Q q' E => ⟨q, n, mem.map fun (i : Nat) => (i : Int), rfl, .inl (by rw [← nv_map]; exact ex_l (eH.trans e4) hq), ?_, ok.nd.map _ fun a b e h => e (by omega), ?_, q'⟩))) rfl) (fun z => nomatch z) fun _ H4 e4 => k H4 (eH.trans e4)
      · rw [List.length_map]
        have := lenN ok.nd ok.mem
        omega
      · intro k hk
        obtain ⟨x, hx, rfl⟩ := List.mem_map.mp hk
        have := ok.mem x hx
        simp [below]
        omega
/-- states in the order of a search: the first is 0, closed -/
structure OrdOk (l : List Nat) (n : Nat) (go : Nat → Nat → Nat) (o : List Nat) : Prop where
  nd : o.Nodup
  ins : ∀ x ∈ o, x < n
  zero : o[0]? = some 0
  cl : ∀ x ∈ o, ∀ c ∈ l, go x c ∈ o
def spReached (K : PySem.W.Frag) : Sp := fun vs H Q _ => ∃ (p : Addr) (ds : List Addr) (l : List Nat) (n : Nat) (go : Nat → Nat → Nat) (mem : List Nat), vs = [.str (txt l), .ref p] ∧ SqL K H p (ds.map V.ref) ∧ MRows H ds l n go ∧ MOk l n go mem ∧
  ∀ (o : List Nat) (q : Addr) (H' : Hp), OrdOk l n go o → Ex H H' → H q = none → H' q = some (.lst (o.map nv)) → Q (.ref q) H'
abbrev N_reached : List Str := ["signs", "rows", "found", "known", "at", "sign", "goal"]
theorem sc_reached : FnScope N_reached ["signs", "rows"] (defScope (top 46)) := ⟨rfl, rfl, rfl, by decide +kernel, rfl, by decide +kernel, by decide +kernel⟩
theorem ok_reached (T : Txt K mg) : Ok P w K mg base 1 "reached" ["signs", "rows"] (spReached K) := by
  refine ok_of T.reached sc_reached (fun vs H Q E h => ?_) (fun _ _ _ _ _ _ us hl => match us, hl with | [_, _], _ => rfl) (fun f cdv A outer s H vs Q E hr h => ?_)
  · obtain ⟨_, _, _, _, _, _, rfl, _⟩ := h
    rfl
  · obtain ⟨p, ds, l, n, go, mem, rfl, hp, hr2, ok, k⟩ := h
    refine ⟨_, (pss_cons (ps_par (i := 2) (j := 3) (by rfl) sc_reached.nd rfl rfl (by decide) rfl rfl (pa_cons (pe_lst (pa_cons pe_int pa_nil)) (pa_cons (pe_disp (pps_cons pe_int pe_bl pps_nil) (by rfl) (by rfl) (fun z => by cases z) (by decide)) pa_nil)) (by rfl))
 (pss_cons (ps_set (i := 4) sc_reached.nd rfl (Or.inl rfl) pe_int)
 (pss_cons (ps_while PassesOwn.never (pt_cmpR op_lt (pv 4) (pe_callB call_len (by rfl) T.len (by decide +kernel) (pa_cons (pv 2) pa_nil)) (nomark _))
 (pss_cons (ps_for PassesOwn.never rfl (pi_str (pv 0)) (pg_name (i := 5) sc_reached.nd rfl (Or.inl rfl))
 (pss_cons (ps_set (i := 6) sc_reached.nd rfl (Or.inl rfl) (pe_dget (hu_of hr) (pe_ix (r := rIxL K) ix_list (pv 1) (pe_ix (r := rIxL K) ix_list (pv 2) (pv 4) (fun _ _ => rfl)) (fun _ _ => rfl)) (pv 5) (fun _ _ => rfl)))
 (pss_one (ps_if (pt_cmp (pc_dnotin (hu_of hr) (pv 6) (pv 3)) rfl)
 (pss_cons (ps_dput (hu_of hr) (pv 3) (pv 6) pe_bl rfl)
 (pss_one (ps_expr (pe_bm PySem.F.plainAttrs_list PySem.F.slot_list_append PySem.F.type_list_append mt_append (pv 2) (pa_cons (pv 6) pa_nil)))))
 pss_nil))))
 (pss_one (ps_aug (i := 4) sc_reached.nd rfl (Or.inl rfl) pe_int ip_add))))
 (pss_one (ps_ret (pv 2)))))), ?_⟩
    have n6 := ok.six
    refine q_par (P := fun vs H' => ∃ (q d : Addr), vs = [.ref q, .ref d] ∧ H q = none ∧ H d = none ∧ q ≠ d ∧ H' q = some (.lst ([0].map nv)) ∧ H' d = some (.dK (nrow [0] fun _ => .bl true))) ?_ fun vs H1 e1 hv => ?_
    · refine ea_consP (evp_L (el_lst (ea_cons ev_c ea_nil) (by simp))) fun x H1 e1 ⟨q, hx, hq, hl⟩ => ea_one (evp_K (ek_disp (kvs := [(.inl 0, .bl true)]) ⟨ev_c, ev_c, trivial⟩ (by simp))) fun y H2 e2 ⟨d, hy, hd, hk⟩ => ⟨q, d, by rw [hx, hy], hq, fresh_back e1 hd, fun z => ?_, e2 _ _ hl, hk⟩
      rw [z, hd] at hl
      cases hl
    · obtain ⟨q, d, rfl, hq0, hd0, ne, hq1, hd1⟩ := hv
      refine ⟨_, _, rfl, ?_⟩
      refine q_asg ev_c fun H2 e2 => ?_
      let Good : List Nat → Nat → Prop := fun fs k => fs.Nodup ∧ (∀ x ∈ fs, x < n) ∧ fs[0]? = some 0 ∧ ∀ i < k, ∀ x, fs[i]? = some x → ∀ c ∈ l, go x c ∈ fs
      refine q_while (fun m σ' H' => ∃ (j : Nat) (fs : List Nat) (u v : Option V), σ' = [some (.str (txt l)), some (.ref p), some (.ref q), some (.ref d), some (.int (j : Nat)), u, v] ∧ m = n - j ∧ j ≤ fs.length ∧ Good fs j ∧ Ex H H' ∧ H' q = some (.lst (fs.map nv)) ∧ H' d = some (.dK (nrow fs fun _ => .bl true))) n
        ⟨0, [0], none, none, rfl, rfl, Nat.zero_le _, ⟨by simp, fun x hx => by rw [List.mem_singleton.mp hx]; exact ok.one, rfl, fun i hi => absurd hi (Nat.not_lt_zero i)⟩, e1.trans e2, e2 _ _ hq1, e2 _ _ hd1⟩ fun m σ' H' hw => ?_
      obtain ⟨j, fs, u, v, rfl, rfl, hj, gf, eH, hl, hd⟩ := hw
      have fl := lenN gf.1 gf.2.1
      refine ⟨_, et_test (ev_op (ev_var rfl) (ev_lenV (n := fs.length) (ev_var rfl) fun H3 e3 => .inl ⟨_, sq_of (e3 _ _ hl), by simp⟩) rv_lt), fun hb H3 e3 => ?_, fun hb H3 e3 => ?_⟩
      · have hlt : j < fs.length := by have := of_decide_eq_true hb; omega
        obtain ⟨x, hx⟩ : ∃ x, fs[j]? = some x := ⟨fs[j], List.getElem?_eq_getElem hlt⟩
        have xn := gf.2.1 x (List.mem_of_getElem? hx)
        obtain ⟨dx, hdx, fdx⟩ := hr2.2 x xn
        refine ⟨fun σ2 H4 => ∃ (fs' : List Nat) (u v : Option V), σ2 = [some (.str (txt l)), some (.ref p), some (.ref q), some (.ref d), some (.int ((j + 1 : Nat) : Int)), u, v] ∧ j + 1 ≤ fs'.length ∧ Good fs' (j + 1) ∧ Ex H H4 ∧ H4 q = some (.lst (fs'.map nv)) ∧ H4 d = some (.dK (nrow fs' fun _ => .bl true)),
          fun σ2 H4 ⟨fs', u, v, h1, h2, h3, h4⟩ => ⟨n - (j + 1), by have := lenN h3.1 h3.2.1; omega, j + 1, fs', u, v, h1, rfl, h2, h3, h4⟩, ?_⟩
        refine q_forTxt (l := l) (ev_var rfl) (fun i σ' H' => ∃ (fs' : List Nat) (u v : Option V), σ' = [some (.str (txt l)), some (.ref p), some (.ref q), some (.ref d), some (.int (j : Nat)), u, v] ∧ fs <+: fs' ∧ Good fs' j ∧ (∀ c ∈ l.take i, go x c ∈ fs') ∧ Ex H H' ∧ H' q = some (.lst (fs'.map nv)) ∧ H' d = some (.dK (nrow fs' fun _ => .bl true)))
          (fun H4 e4 => ⟨fs, u, v, rfl, List.prefix_refl _, gf, fun c hc => (by simp at hc), (eH.trans e3).trans e4, e4 _ _ (e3 _ _ hl), e4 _ _ (e3 _ _ hd)⟩) (fun i c σ' H' hc hP => ?_) fun σ' H' hP => ?_
        · obtain ⟨fs', u', v', rfl, pre, gf', done, eH', hl', hd'⟩ := hP
          have hcl := List.mem_of_getElem? hc
          have fl' := lenN gf'.1 gf'.2.1
          have hxj : fs'[j]? = some x := by
            obtain ⟨s, hs⟩ := pre
            rw [← hs, List.getElem?_append_left hlt]
            exact hx
          have gn := ok.ins x xn c hcl
          refine q_asg (v := nv (go x c)) (ev_dget (k := .inr (sg c)) (ev_op (ev_var rfl) (ev_op (ev_var rfl) (ev_var rfl) (rv_ixL (sq_of hl') (atI_nat (v := nv x) (by rw [List.getElem?_map, hxj]; rfl)))) (rv_ixL (ex_l eH' hp) (atI_nat (v := .ref dx) (by rw [List.getElem?_map, hdx]; rfl)))) (ev_var rfl) (fdx.mono eH') (val_mrow hcl)) fun H4 e4 => ?_
          refine s_when (b := !decide (go x c ∈ fs')) (et_is (et_B (ev_dninM (k := .inl (go x c : Nat)) (ev_var rfl) (ev_var rfl) (e4 _ _ hd'))) (by rw [val_nrowB])) (fun hb2 H5 e5 => ?_) fun hb2 H5 e5 => ?_
          · rw [Bool.not_eq_true', decide_eq_false_iff_not] at hb2
            refine q_dput (v := .bl true) (ev_var rfl) (k := .inl (go x c : Nat)) (ev_var rfl) ev_c (e5 _ _ (e4 _ _ hd')) (by rw [nrow, List.length_map]; omega) fun H6 e6 => ?_
            refine s_app (xs := fs'.map nv) (by rw [upd_ne ne]; exact e6 _ _ (e5 _ _ (e4 _ _ hl'))) (ev_var rfl) (ev_var rfl) (by rw [List.length_map]; omega) fun H7 e7 => ⟨fs' ++ [go x c], _, _, rfl, pre.trans (List.prefix_append _ _), ?_, fun c' hc' => ?_, Ex.mut ((Ex.mut (((eH'.trans e4).trans e5).trans e6) hd0).trans e7) hq0, by rw [upd_same, List.map_append]; rfl, ?_⟩
            · refine ⟨?_, fun y hy => ?_, ?_, fun i hi y hy c' hc' => List.mem_append_left _ (gf'.2.2.2 i hi y ?_ c' hc')⟩
              · rw [List.nodup_append]
                exact ⟨gf'.1, by simp, fun y hy z hz => by
                  rw [List.mem_singleton.mp hz]
                  exact fun z => hb2 (z ▸ hy)⟩
              · rcases List.mem_append.mp hy with h | h
                · exact gf'.2.1 y h
                · rw [List.mem_singleton.mp h]
                  exact gn
              · rw [List.getElem?_append_left (by have := pre.length_le; omega)]
                exact gf'.2.2.1
              · rw [List.getElem?_append_left (by have := pre.length_le; omega)] at hy
                exact hy
            · rw [List.take_succ, hc] at hc'
              rcases List.mem_append.mp hc' with h | h
              · exact List.mem_append_left _ (done c' h)
              · obtain rfl : c' = c := by simpa using h
                simp
            · rw [upd_ne (Ne.symm ne), e7 _ _ upd_same, ← nrow_snoc hb2]
          · rw [Bool.not_eq_false', decide_eq_true_eq] at hb2
            refine ⟨fs', _, _, rfl, pre, gf', fun c' hc' => ?_, (eH'.trans e4).trans e5, e5 _ _ (e4 _ _ hl'), e5 _ _ (e4 _ _ hd')⟩
            rw [List.take_succ, hc] at hc'
            rcases List.mem_append.mp hc' with h | h
            · exact done c' h
            · obtain rfl : c' = c := by simpa using h
              exact hb2
        · obtain ⟨fs', u', v', rfl, pre, gf', done, eH', hl', hd'⟩ := hP
          refine s_aug (a := (j : Int)) (b := 1) rfl ev_c fun H4 e4 => ⟨fs', _, _, rfl, by have := pre.length_le; omega, ⟨gf'.1, gf'.2.1, gf'.2.2.1, fun i hi y hy c hc => ?_⟩, eH'.trans e4, e4 _ _ hl', e4 _ _ hd'⟩
          rcases Nat.lt_succ_iff_lt_or_eq.mp hi with h | h
          · exact gf'.2.2.2 i h y hy c hc
          · subst h
            obtain ⟨s, hs⟩ := pre
            rw [← hs, List.getElem?_append_left hlt, hx] at hy
            cases hy
            exact done c (by rw [List.take_length]; exact hc)
      · have hge : ¬ j < fs.length := by have := of_decide_eq_false hb; omega
        refine s_ret (ev_var rfl) fun H4 e4 => k fs q H4 ⟨gf.1, gf.2.1, gf.2.2.1, fun x hx c hc => ?_⟩ ((eH.trans e3).trans e4) hq0 (e4 _ _ (e3 _ _ hl))
        obtain ⟨i, hi⟩ := List.mem_iff_getElem?.mp hx
        exact gf.2.2.2 i (by have := (List.getElem?_eq_some_iff.mp hi).1; omega) x hi c hc
end
end K33
/-! text Qc -/
set_option Elab.async false
set_option linter.all false
set_option maxRecDepth 100000
set_option maxHeartbeats 4000000
namespace K33
open PySem PySem.Spec PyProof.Rows L2 Evl
section
variable {P : Program} {w : World} {K : PySem.W.Frag} {mg : Str → Option Value} {base : Heap}
theorem q_forItems {σ : L2.St} {H : Hp} {td : TE} {tu tz : TS} {g : TG} {D : Ends} {d : Addr} {kvs : List (Key × V)} (hd : Ev td σ H (.ref d)) (h : FD H d kvs) (Pv : Nat → L2.St → Hp → Prop) (h0 : ∀ H1, Ex H H1 → Pv 0 σ H1) (hG : ∀ i σ' H', i ≤ kvs.length → Pv i σ' H' → ∀ o, H d = some o → H' d = some o)
    (hs : ∀ i k x σ' H' t, kvs[i]? = some (k, x) → Pv i σ' H' → H' t = none → g (.ref t) σ' (upd H' t (.tup [kV k, x])) fun σ2 H2 => tu { D with nx := Pv (i + 1), ct := Pv (i + 1), bk := tz D } σ2 H2) (hn : ∀ σ' H', Pv kvs.length σ' H' → tz D σ' H') : tSeq (tFor (iItems td) g tu) tz D σ H :=
  s_forItems (D := { D with nx := tz D }) hd h Pv h0 hG hs hn
theorem evp_tupA {σ : L2.St} {H : Hp} {ta : TA} {Pa : List V → Hp → Prop} (h : EvAP ta σ H Pa) (hm : ∀ vs H1 H2, Ex H1 H2 → Pa vs H1 → Pa vs H2) (hz : ∀ vs H1, Pa vs H1 → vs.length ≤ 1000) : EvP (tTup ta) σ H (fun v H' => ∃ p vs, v = .ref p ∧ H p = none ∧ H' p = some (.tup vs) ∧ Pa vs H') := fun H1 e Q q =>
  h H1 e _ fun vs H2 e2 hp => ⟨sz_of (by have := hz vs H2 hp; omega), fun p hn => q _ _ (e2.trans (Ex.new hn)) ⟨p, vs, rfl, fresh_back (e.trans e2) hn, upd_same, hm _ _ _ (Ex.new hn) hp⟩⟩
theorem ev_run {te : TE} {σ : L2.St} {H : Hp} {v : V} {Q : VK} (h : Ev te σ H v) (q : ∀ H2, Ex H H2 → Q v H2) : te σ H Q := h H (Ex.refl H) Q q
theorem NAt.mono {P : Program} {w : World} {H H' : Hp} {d : Addr} {es : List NEnt} (h : NAt P w K H d es) (e : Ex H H') : NAt P w K H' d es := ⟨e _ _ h.1, fun x hx => (h.2 x hx).mono e⟩
theorem ev_lenN {P : Program} {w : World} {σ : L2.St} {H : Hp} {te : TE} {d : Addr} {es : List NEnt} (he : Ev te σ H (.ref d)) (h : NAt P w K H d es) : Ev (tCB (rLenN P w K) (tCons te tNil)) σ H (.int (es.length : Nat)) :=
  ev_cbV (ea_cons he ea_nil) fun H1 e Q q => ⟨d, es, rfl, h.mono e, q⟩
theorem dput_tail {σ : L2.St} {G : Hp} {td ty : TE} {d : Addr} {k : Key} {kvs : List (Key × V)} {v : V} {N : Hp → Prop} (hd : Ev td σ G (.ref d)) (hk : Ev ty σ G (kV k)) (h : G d = some (.dK kvs)) (hz : kvs.length ≤ 100000) (kk : ∀ H1, Ex G H1 → N (upd H1 d (.dK (putK kvs k v)))) :
    td σ G fun x H2 => ty σ H2 fun y H3 => ∃ a H4, x = .ref a ∧ DPut H3 a y v H4 ∧ N H4 :=
  hd G (Ex.refl G) _ fun H2 e2 => hk H2 e2 _ fun H3 e3 => ⟨d, _, rfl, .inl ⟨kvs, k, e3 _ _ (e2 _ _ h), rfl, by rw [sizeLine_eq]; omega, rfl⟩, kk H3 (e2.trans e3)⟩
theorem del_comm {p q : Addr} {H : Hp} : del p (del q H) = del q (del p H) := funext fun b => by
  unfold del
  by_cases h1 : b = p <;> by_cases h2 : b = q <;> simp [h1, h2]
/-- where a key stands -/
def ixk (es : List NEnt) (k : NKey) : Nat := (es.map fun e => e.1).idxOf k
theorem ixk_old {es : List NEnt} {e : NEnt} {k : NKey} (h : k ∈ es.map fun e => e.1) : ixk (es ++ [e]) k = ixk es k := by
  unfold ixk
  rw [List.map_append, List.idxOf_append, if_pos h]
theorem ixk_new {es : List NEnt} {e : NEnt} {k : NKey} (h : ¬ k ∈ es.map fun e => e.1) (hk : e.1 = k) : ixk (es ++ [e]) k = es.length := by
  unfold ixk
  rw [List.map_append, List.idxOf_append, if_neg h, ← hk]
  simp
/-- one refining of kinds over the states o -/
def Ref (l : List Nat) (go : Nat → Nat → Nat) (o : List Nat) (k k' : Nat → Nat) : Prop := ∀ x ∈ o, ∀ y ∈ o, k' x = k' y ↔ (k x = k y ∧ ∀ c ∈ l, k (go x c) = k (go y c))
def kkey (l : List Nat) (go : Nat → Nat → Nat) (k : Nat → Nat) (s : Nat) : NKey := ((k s : Int), l.map fun c => (k (go s c) : Int))
theorem idx_inj {α : Type} [BEq α] [LawfulBEq α] {l : List α} {x y : α} (hx : x ∈ l) (hy : y ∈ l) (e : l.idxOf x = l.idxOf y) : x = y := by
  have h1 := List.idxOf_lt_length_of_mem hx
  have h2 := List.idxOf_lt_length_of_mem hy
  have q1 : l[l.idxOf x]? = some x := by rw [List.getElem?_eq_getElem h1, List.getElem_idxOf h1]
  have q2 : l[l.idxOf y]? = some y := by rw [List.getElem?_eq_getElem h2, List.getElem_idxOf h2]
  rw [e, q2] at q1
  exact (Option.some.inj q1).symm
theorem kkey_eq {l : List Nat} {go : Nat → Nat → Nat} {k : Nat → Nat} {x y : Nat} : kkey l go k x = kkey l go k y ↔ (k x = k y ∧ ∀ c ∈ l, k (go x c) = k (go y c)) := by
  unfold kkey
  rw [Prod.mk.injEq, List.map_inj_left]
  constructor
  · rintro ⟨h1, h2⟩
    exact ⟨by omega, fun c hc => by have := h2 c hc; omega⟩
  · rintro ⟨h1, h2⟩
    exact ⟨by omega, fun c hc => by have := h2 c hc; omega⟩
def spRefined (K : PySem.W.Frag) : Sp := fun vs H Q _ => ∃ (p d : Addr) (ds : List Addr) (l : List Nat) (n : Nat) (go : Nat → Nat → Nat) (mem o : List Nat) (k : Nat → Nat), vs = [.str (txt l), .ref p, .ref d] ∧ SqL K H p (ds.map V.ref) ∧ MRows H ds l n go ∧ MOk l n go mem ∧ OrdOk l n go o ∧ FD H d (nrow o fun s => nv (k s)) ∧
  ∀ (k' : Nat → Nat) (q : Addr) (H' : Hp), Ref l go o k k' → Ex H H' → H q = none → H' q = some (.dK (nrow o fun s => nv (k' s))) → Q (.ref q) H'
abbrev N_refined : List Str := ["signs", "rows", "kinds", "numbers", "found", "state", "kind", "key", "sign"]
theorem sc_refined : FnScope N_refined ["signs", "rows", "kinds"] (defScope (top 47)) := ⟨rfl, rfl, rfl, by decide +kernel, rfl, by decide +kernel, by decide +kernel⟩
theorem ok_refined (T : Txt K mg) : Ok P w K mg base 2 "refined" ["signs", "rows", "kinds"] (spRefined K) := by
  refine ok_of T.refined sc_refined (fun vs H Q E h => ?_) (fun _ _ _ _ _ _ us hl => match us, hl with | [_, _, _], _ => rfl) (fun f cdv A outer s H vs Q E hr h => ?_)
  · obtain ⟨_, _, _, _, _, _, _, _, _, rfl, _⟩ := h
    rfl
  · obtain ⟨p, d, ds, l, n, go, mem, o, k, rfl, hp, hr2, ok, oo, fd, fin⟩ := h
    refine ⟨_, (pss_cons (ps_par (i := 3) (j := 4) (by rfl) sc_refined.nd rfl rfl (by decide) rfl rfl (pa_cons pe_dnewN (pa_cons pe_dnewK pa_nil)) (by rfl))
 (pss_cons (ps_for PassesOwn.never rfl (pi_items (pv 2)) (pg_tup rfl (pgs_cons (pg_name (i := 5) sc_refined.nd rfl (Or.inr rfl)) (pgs_cons (pg_name (i := 6) sc_refined.nd rfl (Or.inl rfl)) pgs_nil)))
 (pss_cons (ps_set (i := 7) sc_refined.nd rfl (Or.inl rfl) (pe_tup (pa_cons (pv 6) (pa_cons (pe_tupOf (K := K) T.tuple (pa_cons (pe_lc (own := [("sign", 8)]) (g := gName 8) (by rfl) sc_refined.nd (pi_str (pv 0)) (blkOk_by (own := [("sign", 8)]) (N := N_refined) (sc := defScope (top 47)) (by decide +kernel)) (fun _ _ _ _ _ => (pg_name (i := 8) sc_refined.nd rfl (Or.inl rfl))) (fun _ _ _ _ _ => by exact pts_nil) (fun _ _ _ _ _ => by exact (pe_dget (hu_of hr) (pv 2) (pe_dget (hu_of hr) (pe_ix (r := rIxL K) ix_list (pv 1) (pv 5) (fun _ _ => rfl)) (pv 8) (fun _ _ => rfl)) (fun _ _ => rfl)))) pa_nil)) pa_nil))))
 (pss_one (ps_dput (hu_of hr) (pv 4) (pv 5) (pe_nsetd hr.units (pv 3) (pv 7) (pe_callB call_lenN (by rfl) T.len (by decide +kernel) (pa_cons (pv 3) pa_nil)) ⟨by rfl, by rfl, by rfl, by rfl⟩) rfl))))
 (pss_one (ps_ret (pv 4))))), ?_⟩
    have n6 := ok.six
    have l4 := ok.lok.four
    have ol := lenN oo.nd oo.ins
    let key := kkey l go k
    refine q_par (P := fun vs H' => ∃ (a b : Addr), vs = [.ref a, .ref b] ∧ H a = none ∧ H b = none ∧ a ≠ b ∧ H' a = some (ND P w a []) ∧ H' b = some (.dK [])) ?_ fun vs H1 e1 hv => ?_
    · refine ea_consP (P := fun v H' => ∃ a, v = .ref a ∧ H a = none ∧ H' a = some (ND P w a [])) (fun H1 e1 Q q a ha => q _ _ (Ex.new ha) ⟨a, rfl, fresh_back e1 ha, upd_same⟩) fun x H1 e1 ⟨a, hx, ha, hA⟩ => ea_one (P := fun v H' => ∃ b, v = .ref b ∧ H1 b = none ∧ H' a = some (ND P w a []) ∧ H' b = some (.dK [])) (fun H2 e2 Q q b hb => q _ _ (Ex.new hb) ⟨b, rfl, fresh_back e2 hb, Ex.new hb _ _ (e2 _ _ hA), upd_same⟩) fun y H2 e2 ⟨b, hy, hb, hA2, hB⟩ => ⟨a, b, by rw [hx, hy], ha, fresh_back e1 hb, fun z => ?_, hA2, hB⟩
      rw [z, hb] at hA
      cases hA
    · obtain ⟨pn, pf, rfl, hn0, hf0, ne, hn1, hf1⟩ := hv
      refine ⟨_, _, rfl, ?_⟩
      let D2 : Hp → Hp := fun G => del pn (del pf G)
      have d2 : ∀ {G G' : Hp}, Ex G G' → Ex (D2 G) (D2 G') := fun e => del_ex (del_ex e)
      have d2le : ∀ {G : Hp}, Ex (D2 G) G := del_le.trans del_le
      have d2ne : ∀ {G : Hp} {t : Addr} {x : HO}, G t = some x → t ≠ pn → t ≠ pf → D2 G t = some x := fun {G t x} h h1 h2 => by
        show del pn (del pf G) t = some x
        rw [del_ne h1, del_ne h2]
        exact h
      refine q_forItems (d := d) (kvs := nrow o fun s => nv (k s)) (ev_var rfl) (fd.mono e1) (fun i σ' H' => ∃ (es : List NEnt) (u v z : Option V), σ' = [some (.str (txt l)), some (.ref p), some (.ref d), some (.ref pn), some (.ref pf), u, v, z, none] ∧ Ex H H' ∧ H' pn = some (ND P w pn es) ∧ (∀ e ∈ es, KeyAt K (D2 H') e.2.1 e.1) ∧ es.length ≤ i ∧
          (∀ e ∈ es, e.2.2 = nv (ixk es e.1)) ∧ (∀ s ∈ o.take i, key s ∈ es.map (·.1)) ∧ H' pf = some (.dK (nrow (o.take i) fun s => nv (ixk es (key s)))))
        (fun H2 e2 => ⟨[], none, none, none, rfl, e1.trans e2, e2 _ _ hn1, fun e he => (by cases he), Nat.le_refl _, fun e he => (by cases he), fun s hs => (by simp at hs), by rw [List.take_zero]; exact e2 _ _ hf1⟩) (fun i σ' H' _ ⟨_, _, _, _, _, eH, _⟩ o' ho => ?_) (fun i kk x σ' H' t hi hP ht => ?_) fun σ' H' hP => ?_
      · obtain ⟨o2, f2⟩ := fd
        rw [e1 _ _ f2] at ho
        cases ho
        exact eH _ _ f2
      · obtain ⟨es, u, v, z, rfl, eH, hn, keys, el, vals, mem2, hf⟩ := hP
        obtain ⟨st, hst, e0⟩ : ∃ st, o[i]? = some st ∧ ((.inl (st : Int) : Key), nv (k st)) = (kk, x) := by
          unfold nrow at hi
          rw [List.getElem?_map] at hi
          cases ho : o[i]? with
          | none => rw [ho] at hi; cases hi
          | some st => rw [ho] at hi; exact ⟨st, rfl, Option.some.inj hi⟩
        cases e0
        have sto := List.mem_of_getElem? hst
        have stn := oo.ins st sto
        have hio : i < o.length := (List.getElem?_eq_some_iff.mp hst).1
        have et : Ex H' (upd H' t (.tup [kV (.inl (st : Int)), nv (k st)])) := Ex.new ht
        obtain ⟨dx, hdx, fdx⟩ := hr2.2 st stn
        refine tg_pair (st_of upd_same) ?_
        generalize hHa : upd H' t (.tup [kV (.inl (st : Int)), nv (k st)]) = Ha at et ⊢
        have hnA := et _ _ hn
        have hfA := et _ _ hf
        refine q_asgP (P := fun v H1 => ∃ t, v = .ref t ∧ KeyAt K (D2 H1) t (key st)) ?_ fun v H2 e2 ⟨tk, hv, hk⟩ => ?_
        · refine (evp_tupA (Pa := fun vs H1 => ∃ t2, vs = [nv (k st), .ref t2] ∧ Ha t2 = none ∧ H1 t2 = some (.tup ((key st).2.map V.int))) (ea_consP (evp_of (ev_var rfl)) fun x H1 e1 hx => ea_one (evp_tupOf (P := fun ys _ => ys = (key st).2.map V.int) ((evp_L (xs := (key st).2.map V.int) ?_).imp fun v H' e ⟨q, h1, _, h2⟩ => ⟨q, _, h1, h2, rfl⟩) fun _ _ _ _ h => h) fun y H2 e2 ⟨t2, ys, hy, h1, h2, h3⟩ => ⟨t2, by rw [hx, hy], fresh_back e1 h1, by rw [h2, h3]⟩) (fun vs G1 G2 e ⟨t2, h1, h2, h3⟩ => ⟨t2, h1, h2, e _ _ h3⟩) (fun vs G1 ⟨t2, h1, _⟩ => by rw [h1]; simp)).imp ?_
          · rw [show (key st).2.map V.int = l.map fun c => nv (k (go st c)) from by show (l.map _).map _ = _; rw [List.map_map]; rfl]
            refine el_letters (ev_var rfl) (by omega) fun c Hc hc ec k' hk => hk _ _ (Ex.refl _) rfl et_yes ?_
            have eC := (eH.trans et).trans (e1.trans ec)
            exact ev_dget (k := .inl (go st c : Nat)) (ev_var rfl) (ev_dget (k := .inr (sg c)) (ev_op (ev_var rfl) (ev_var rfl) (rv_ixL (ex_l eC hp) (atI_nat (v := .ref dx) (by rw [List.getElem?_map, hdx]; rfl)))) (ev_var rfl) (fdx.mono eC) (val_mrow hc)) (fd.mono eC) (val_nrow (oo.cl st sto c hc))
          · rintro v G e ⟨q, vs, rfl, hq, hq2, t2, rfl, h2, h3⟩
            have a1 : ∀ {t : Addr}, Ha t = none → t ≠ pn := fun h z => by rw [z, hnA] at h; cases h
            have a2 : ∀ {t : Addr}, Ha t = none → t ≠ pf := fun h z => by rw [z, hfA] at h; cases h
            exact ⟨q, rfl, t2, st_of (d2ne hq2 (a1 hq) (a2 hq)), st_of (d2ne h3 (a1 h2) (a2 h2))⟩
        · subst hv
          have e02 := et.trans e2
          have hn2 := e02 _ _ hn
          have hf2 := e02 _ _ hf
          have keys2 : ∀ e ∈ es, KeyAt K (D2 H2) e.2.1 e.1 := fun e he => (keys e he).mono (d2 e02)
          have at2 : NAt P w K H2 pn es := ⟨hn2, fun e he => (keys2 e he).mono d2le⟩
          have tks : o.take (i + 1) = o.take i ++ [st] := by rw [List.take_succ, hst]; rfl
          have stnew : st ∉ o.take i := fun h => by
            obtain ⟨j, hj⟩ := List.mem_iff_getElem?.mp h
            have hji : j < i := by have := (List.getElem?_eq_some_iff.mp hj).1; rw [List.length_take] at this; omega
            rw [List.getElem?_take, if_pos hji] at hj
            have := (List.getElem?_inj (by omega : j < o.length) oo.nd).mp (hj.trans hst.symm)
            omega
          have ei := (eH.trans e02)
          have tail : ∀ (es' : List NEnt) (G : Hp), Ex (D2 H2) (D2 G) → Ex H G → G pn = some (ND P w pn es') → (∀ e ∈ es', KeyAt K (D2 G) e.2.1 e.1) → es'.length ≤ i + 1 → (∀ e ∈ es', e.2.2 = nv (ixk es' e.1)) → (∀ s ∈ o.take (i + 1), key s ∈ es'.map (·.1)) → (∀ s ∈ o.take i, ixk es' (key s) = ixk es (key s)) → G pf = some (.dK (nrow (o.take i) fun s => nv (ixk es (key s)))) →
              ∀ v, v = nv (ixk es' (key st)) → ∀ H1, Ex G H1 → ∃ (es : List NEnt) (u v2 z : Option V), [some (.str (txt l)), some (.ref p), some (.ref d), some (.ref pn), some (.ref pf), some (nv st), some (nv (k st)), some (.ref tk), none] = [some (.str (txt l)), some (.ref p), some (.ref d), some (.ref pn), some (.ref pf), u, v2, z, none] ∧ Ex H (upd H1 pf (.dK (putK (nrow (o.take i) fun s => nv (ixk es' (key s))) (.inl (st : Int)) v))) ∧ upd H1 pf (.dK (putK (nrow (o.take i) fun s => nv (ixk es' (key s))) (.inl (st : Int)) v)) pn = some (ND P w pn es) ∧ (∀ e ∈ es, KeyAt K (D2 (upd H1 pf (.dK (putK (nrow (o.take i) fun s => nv (ixk es' (key s))) (.inl (st : Int)) v)))) e.2.1 e.1) ∧ es.length ≤ i + 1 ∧
                (∀ e ∈ es, e.2.2 = nv (ixk es e.1)) ∧ (∀ s ∈ o.take (i + 1), key s ∈ es.map (·.1)) ∧ upd H1 pf (.dK (putK (nrow (o.take i) fun s => nv (ixk es' (key s))) (.inl (st : Int)) v)) pf = some (.dK (nrow (o.take (i + 1)) fun s => nv (ixk es (key s)))) := by
            intro es' G c1 c2 c3 c4 c5 c6 c7 c8 c9 v hv H1 e1
            subst hv
            refine ⟨es', _, _, _, rfl, Ex.mut (c2.trans e1) hf0, by rw [upd_ne ne]; exact e1 _ _ c3, fun e he => (c4 e he).mono ?_, c5, c6, c7, ?_⟩
            · have q := d2 e1
              show Ex (D2 G) (del pn (del pf _))
              rw [del_upd]
              exact q
            · rw [upd_same, nrow_snoc stnew (f := fun s => nv (ixk es' (key s))), tks]
          have fix : ∀ es' : List NEnt, (∀ s ∈ o.take i, ixk es' (key s) = ixk es (key s)) → (nrow (o.take i) fun s => nv (ixk es (key s))) = nrow (o.take i) fun s => nv (ixk es' (key s)) := fun es' h => by
            unfold nrow
            exact List.map_congr_left fun s hs => by simp only [h s hs]
          show tNSetd P w K (tVar 3) (tVar 7) (tCB (rLenN P w K) (tCons (tVar 3) tNil)) [some (.str (txt l)), some (.ref p), some (.ref d), some (.ref pn), some (.ref pf), some (nv st), some (nv (k st)), some (.ref tk), none] H2 _
          unfold tNSetd
          refine ev_run (te := tVar 3) (ev_var rfl) fun H3 e3 => ⟨pn, es, rfl, at2.mono e3, ev_run (te := tVar 7) (ev_var rfl) fun H4 e4 => ev_run (ev_lenN (te := tVar 3) (ev_var rfl) (at2.mono (e3.trans e4))) fun H5 e5 => ⟨tk, key st, at2.mono ((e3.trans e4).trans e5), rfl, (hk.mono d2le).mono ((e3.trans e4).trans e5), by rw [sizeLine_eq]; omega, fun e he hek => ?_, fun hnew => ?_⟩⟩
          · have e25 := (e3.trans e4).trans e5
            refine dput_tail (td := tVar 4) (ty := tVar 5) (k := .inl (st : Int)) (kvs := nrow (o.take i) fun s => nv (ixk es (key s))) (ev_var rfl) (ev_var rfl) (e25 _ _ hf2) (by unfold nrow; rw [List.length_map, List.length_take]; omega) fun H6 e6 => tail es H5 (d2 e25) (ei.trans e25) (e25 _ _ hn2) (fun e he => (keys2 e he).mono (d2 e25)) (by omega) vals (fun s hs => ?_) (fun _ _ => rfl) (e25 _ _ hf2) _ ?_ H6 e6
            · rw [tks] at hs
              rcases List.mem_append.mp hs with h | h
              · exact mem2 s h
              · rw [List.mem_singleton.mp h]
                exact List.mem_map.mpr ⟨e, he, hek⟩
            · rw [vals e he, hek]
          · have e25 := (e3.trans e4).trans e5
            have kk : (es ++ [(key st, tk, nv es.length)]).map (·.1) = es.map (·.1) ++ [key st] := by rw [List.map_append]; rfl
            have old : ∀ s ∈ o.take i, ixk (es ++ [(key st, tk, nv es.length)]) (key s) = ixk es (key s) := fun s hs => by
              exact ixk_old (mem2 s hs)
            refine dput_tail (td := tVar 4) (ty := tVar 5) (k := .inl (st : Int)) (kvs := nrow (o.take i) fun s => nv (ixk (es ++ [(key st, tk, nv es.length)]) (key s))) (ev_var rfl) (ev_var rfl) (by rw [upd_ne (Ne.symm ne), e25 _ _ hf2, fix _ old]) (by unfold nrow; rw [List.length_map, List.length_take]; omega) fun H6 e6 => tail (es ++ [(key st, tk, nv es.length)]) _ ?_ (Ex.mut (ei.trans e25) hn0) upd_same ?_ (by rw [List.length_append]; simp; omega) ?_ ?_ old (by rw [upd_ne (Ne.symm ne)]; exact e25 _ _ hf2) _ ?_ H6 e6
            · have q := d2 e25
              show Ex (D2 H2) (del pn (del pf _))
              rw [del_comm, del_upd, del_comm]
              exact q
            · intro e he
              have q := d2 e25
              show KeyAt K (del pn (del pf _)) e.2.1 e.1
              rw [del_comm, del_upd, del_comm]
              rcases List.mem_append.mp he with h | h
              · exact (keys2 e h).mono q
              · rw [List.mem_singleton.mp h]
                exact hk.mono q
            · intro e he
              rcases List.mem_append.mp he with h | h
              · rw [ixk_old (List.mem_map.mpr ⟨e, h, rfl⟩)]
                exact vals e h
              · rw [List.mem_singleton.mp h, ixk_new hnew rfl]
            · intro s hs
              rw [kk]
              rw [tks] at hs
              rcases List.mem_append.mp hs with h | h
              · exact List.mem_append_left _ (mem2 s h)
              · rw [List.mem_singleton.mp h]
                simp
            · rw [ixk_new hnew rfl]
      · obtain ⟨es, u, v, z, rfl, eH, hn, keys, el, vals, mem2, hf⟩ := hP
        have hl : (nrow o fun s => nv (k s)).length = o.length := by unfold nrow; rw [List.length_map]
        rw [hl, List.take_length] at mem2 hf
        refine s_ret (ev_var rfl) fun H3 e3 => fin _ pf H3 (fun x hx y hy => ?_) (eH.trans e3) hf0 (e3 _ _ hf)
        rw [← kkey_eq]
        exact ⟨fun e => idx_inj (mem2 x hx) (mem2 y hy) e, fun e => by show ixk es (kkey l go k x) = ixk es (kkey l go k y); rw [e]⟩
end
end K33
/-! text Qd -/
set_option Elab.async false
set_option linter.all false
set_option maxRecDepth 100000
set_option maxHeartbeats 4000000
namespace K33
open PySem PySem.Spec PyProof.Rows L2 Evl
theorem nd_ex {α : Type} [DecidableEq α] : ∀ l : List α, ∃ m : List α, m.Nodup ∧ ∀ x, x ∈ m ↔ x ∈ l
  | [] => ⟨[], List.nodup_nil, fun _ => Iff.rfl⟩
  | a :: l => by
    obtain ⟨m, h1, h2⟩ := nd_ex l
    by_cases h : a ∈ m
    · exact ⟨m, h1, fun x => by rw [h2 x, List.mem_cons]; exact ⟨.inr, fun q => q.elim (fun e => e ▸ (h2 a).mp h) id⟩⟩
    · exact ⟨a :: m, List.nodup_cons.mpr ⟨h, h1⟩, fun x => by rw [List.mem_cons, List.mem_cons, h2 x]⟩
/-- the kinds in use -/
noncomputable def kset (o : List Nat) (k : Nat → Nat) : List Nat := Classical.choose (nd_ex (o.map k))
theorem kset_nd (o : List Nat) (k : Nat → Nat) : (kset o k).Nodup := (Classical.choose_spec (nd_ex (o.map k))).1
theorem kset_mem (o : List Nat) (k : Nat → Nat) (x : Nat) : x ∈ kset o k ↔ ∃ s ∈ o, k s = x := by
  rw [← List.mem_map]
  exact (Classical.choose_spec (nd_ex (o.map k))).2 x
theorem kset_len (o : List Nat) (k : Nat → Nat) : (kset o k).length ≤ o.length := by
  have := nd_len (m := o.map k) (kset_nd o k) fun x hx => List.mem_map.mpr ((kset_mem o k x).mp hx)
  rw [List.length_map] at this
  exact this
open Classical in
/-- a finer map with no more values is the same map up to names -/
theorem same_kinds {o : List Nat} {f g : Nat → Nat} (finer : ∀ x ∈ o, ∀ y ∈ o, f x = f y → g x = g y) (le : (kset o f).length ≤ (kset o g).length) {x y : Nat} (hx : x ∈ o) (hy : y ∈ o) (e : g x = g y) : f x = f y := by
  refine Decidable.byContradiction fun ne => ?_
  let F := (kset o f).erase (f x)
  let rep : Nat → Nat := fun v => if h : ∃ z ∈ o, f z = v then g (Classical.choose h) else 0
  have hrep : ∀ z ∈ o, rep (f z) = g z := fun z hz => by
    have h : ∃ z' ∈ o, f z' = f z := ⟨z, hz, rfl⟩
    show (if h : ∃ z' ∈ o, f z' = f z then g (Classical.choose h) else 0) = g z
    rw [dif_pos h]
    exact finer _ (Classical.choose_spec h).1 _ hz (Classical.choose_spec h).2
  have sub : ∀ v ∈ kset o g, v ∈ F.map rep := fun v hv => by
    obtain ⟨z, hz, rfl⟩ := (kset_mem o g v).mp hv
    rw [List.mem_map]
    by_cases h : f z = f x
    · refine ⟨f y, ?_, ?_⟩
      · exact (List.mem_erase_of_ne (Ne.symm ne)).mpr ((kset_mem o f _).mpr ⟨y, hy, rfl⟩)
      · rw [hrep y hy, ← e]
        exact finer x hx z hz h.symm
    · exact ⟨f z, (List.mem_erase_of_ne h).mpr ((kset_mem o f _).mpr ⟨z, hz, rfl⟩), hrep z hz⟩
  have h1 := nd_len (kset_nd o g) sub
  have h2 : F.length = (kset o f).length - 1 := List.length_erase_of_mem ((kset_mem o f _).mpr ⟨x, hx, rfl⟩)
  have h3 : 0 < (kset o f).length := List.length_pos_of_mem ((kset_mem o f _).mpr ⟨x, hx, rfl⟩)
  rw [List.length_map] at h1
  omega
section
variable {P : Program} {w : World} {K : PySem.W.Frag} {mg : Str → Option Value} {base : Heap}
theorem ev_lenSetN {σ : L2.St} {H : Hp} {te : TE} (ns L : List Int) (h : EvL te σ H (ns.map V.int)) (hz : ns.length ≤ 1000) (hL : L.Nodup) (hm : ∀ k, k ∈ L ↔ k ∈ ns) : Ev (tLenSetA K te) σ H (.int (L.length : Nat)) := fun H1 e Q q =>
  h H1 e _ fun p H2 hp e2 hp2 => ⟨p, ns, L, rfl, .inl (sq_of hp2), hz, hL, hm, q H2 e2⟩
/-- how many kinds are in use -/
theorem ev_kinds {σ : L2.St} {H : Hp} {te : TE} {d : Addr} {o : List Nat} {k : Nat → Nat} (hd : Ev te σ H (.ref d)) (fd : FD H d (nrow o fun s => nv (k s))) (hz : o.length ≤ 1000) : Ev (tLenSetA K (tListVals te)) σ H (.int ((kset o k).length : Nat)) := by
  have h := ev_lenSetN (K := K) (o.map fun s => (k s : Int)) ((kset o k).map fun (i : Nat) => (i : Int)) (te := tListVals te) (σ := σ) (H := H) (by
    have e : (nrow o fun s => nv (k s)).map Prod.snd = (o.map fun s => (k s : Int)).map V.int := by
      unfold nrow
      rw [List.map_map, List.map_map]
      rfl
    rw [← e]
    exact el_listVals hd fd) (by rw [List.length_map]; exact hz) ((kset_nd o k).map _ fun a b e h => e (by omega)) fun x => by
      rw [List.mem_map, List.mem_map]
      constructor
      · rintro ⟨a, ha, rfl⟩
        obtain ⟨s, hs, rfl⟩ := (kset_mem o k a).mp ha
        exact ⟨s, hs, rfl⟩
      · rintro ⟨s, hs, rfl⟩
        exact ⟨k s, (kset_mem o k _).mpr ⟨s, hs, rfl⟩, rfl⟩
  rw [List.length_map] at h
  exact h
/-- goals of states of one kind are of one kind -/
def Stable (l : List Nat) (go : Nat → Nat → Nat) (o : List Nat) (k : Nat → Nat) : Prop := ∀ x ∈ o, ∀ y ∈ o, k x = k y → ∀ c ∈ l, k (go x c) = k (go y c)
def Finer (o : List Nat) (k k0 : Nat → Nat) : Prop := ∀ x ∈ o, ∀ y ∈ o, k x = k y → k0 x = k0 y
def spKinds (K : PySem.W.Frag) : Sp := fun vs H Q _ => ∃ (p d : Addr) (ds : List Addr) (l : List Nat) (n : Nat) (go : Nat → Nat → Nat) (mem o : List Nat) (k0 : Nat → Nat), vs = [.str (txt l), .ref p, .ref d] ∧ SqL K H p (ds.map V.ref) ∧ MRows H ds l n go ∧ MOk l n go mem ∧ OrdOk l n go o ∧ FD H d (nrow o fun s => nv (k0 s)) ∧
  ∀ (k : Nat → Nat) (q : Addr) (H' : Hp), Finer o k k0 → Stable l go o k → Ex H H' → FD H' q (nrow o fun s => nv (k s)) → Q (.ref q) H'
abbrev N_least_kinds : List Str := ["signs", "rows", "kinds", "count"]
theorem sc_least_kinds : FnScope N_least_kinds ["signs", "rows", "kinds"] (defScope (top 48)) := ⟨rfl, rfl, rfl, by decide +kernel, rfl, by decide +kernel, by decide +kernel⟩
theorem ok_least_kinds (T : Txt K mg) : Ok P w K mg base 3 "least_kinds" ["signs", "rows", "kinds"] (spKinds K) := by
  refine ok_of T.least_kinds sc_least_kinds (fun vs H Q E h => ?_) (fun _ _ _ _ _ _ us hl => match us, hl with | [_, _, _], _ => rfl) (fun f cdv A outer s H vs Q E hr h => ?_)
  · obtain ⟨_, _, _, _, _, _, _, _, _, rfl, _⟩ := h
    rfl
  · obtain ⟨p, d, ds, l, n, go, mem, o, k0, rfl, hp, hr2, ok, oo, fd, fin⟩ := h
    refine ⟨_, (pss_cons (ps_set (i := 3) sc_least_kinds.nd rfl (Or.inl rfl) pe_int)
 (pss_cons (ps_while PassesOwn.never (pt_cmpR op_lt (pv 3) (pe_lenSetA (by rfl) T.len (by rfl) T.set (pe_listVals (pv 2) T.list)) (nomark _))
 (pss_cons (ps_set (i := 3) sc_least_kinds.nd rfl (Or.inl rfl) (pe_lenSetA (by rfl) T.len (by rfl) T.set (pe_listVals (pv 2) T.list)))
 (pss_cons (ps_if (pt_cmpR op_gt (pv 3) (pe_MOST_STATES T) (nomark _))
 (pss_one ps_never)
 pss_nil)
 (pss_one (ps_set (i := 2) sc_least_kinds.nd rfl (Or.inl rfl) (pe_fz (pe_f (ok_refined T) (hr.mono (by decide)) (pa_cons (pv 0) (pa_cons (pv 1) (pa_cons (pv 2) pa_nil))))))))))
 (pss_one (ps_ret (pv 2))))), ?_⟩
    have n6 := ok.six
    have ol := lenN oo.nd oo.ins
    refine q_asg ev_c fun H1 e1 => ?_
    refine q_while (fun m σ' H' => ∃ (k : Nat → Nat) (c : Nat) (d : Addr), σ' = [some (.str (txt l)), some (.ref p), some (.ref d), some (nv c)] ∧ m = 7 - c ∧ Ex H H' ∧ FD H' d (nrow o fun s => nv (k s)) ∧ Finer o k k0 ∧ (c = 0 ∨ ∃ kp, Ref l go o kp k ∧ c = (kset o kp).length)) 7
      ⟨k0, 0, d, rfl, rfl, e1, fd.mono e1, fun _ _ _ _ e => e, .inl rfl⟩ fun m σ' H' hw => ?_
    obtain ⟨k, c, d, rfl, rfl, eH, fd, fi, hc⟩ := hw
    have kl := kset_len o k
    refine ⟨_, et_test (ev_op (ev_var rfl) (ev_kinds (ev_var rfl) fd (by omega)) rv_lt), fun hb H2 e2 => ?_, fun hb H2 e2 => ?_⟩
    · have hlt : c < (kset o k).length := by have := of_decide_eq_true hb; omega
      refine ⟨fun σ2 H3 => ∃ (k' : Nat → Nat) (d' : Addr), σ2 = [some (.str (txt l)), some (.ref p), some (.ref d'), some (nv (kset o k).length)] ∧ Ex H H3 ∧ FD H3 d' (nrow o fun s => nv (k' s)) ∧ Ref l go o k k', fun σ2 H3 ⟨k', d', h1, h2, h3, h4⟩ => ⟨7 - (kset o k).length, by omega, k', _, d', h1, rfl, h2, h3, fun x hx y hy e => fi x hx y hy ((h4 x hx y hy).mp e).1, .inr ⟨k, h4, rfl⟩⟩, ?_⟩
      refine q_asg (ev_kinds (ev_var rfl) (fd.mono e2) (by omega)) fun H3 e3 => ?_
      refine q_when (b := false) (et_is (et_test (ev_op (ev_var rfl) ev_c rv_I0)) (by simp; omega)) (fun z => nomatch z) fun _ H4 e4 => ?_
      have e24 := (eH.trans e2).trans (e3.trans e4)
      refine s_asgP (P := fun v H5 => ∃ (k' : Nat → Nat) (q : Addr), v = .ref q ∧ FD H5 q (nrow o fun s => nv (k' s)) ∧ Ref l go o k k') ?_ fun v H5 e5 ⟨k', q, hv, h1, h2⟩ => ⟨k', q, by rw [hv]; rfl, e24.trans e5, h1, h2⟩
      refine (evp_fz (P := fun kvs _ => ∃ k', Ref l go o k k' ∧ kvs = nrow o fun s => nv (k' s)) fun G eG => evp_call (ea_of (ea_cons (ev_var rfl) (ea_cons (ev_var rfl) (ea_cons (ev_var rfl) ea_nil)))) fun vs H6 e6 hvs => ?_).imp ?_
      · subst hvs
        refine fun H7 e7 Q' q' E => ?_
        have e := (e24.trans eG).trans (e6.trans e7)
        exact ⟨p, d, ds, l, n, go, mem, o, k, rfl, ex_l e hp, hr2.mono e, ok, oo, (fd.mono (e2.trans (e3.trans e4))).mono (eG.trans (e6.trans e7)), fun k' q H8 r e8 hq hq2 => q' _ H8 e8 ⟨q, _, rfl, fresh_back (e6.trans e7) hq, hq2, k', r, rfl⟩⟩
      · rintro v H' e ⟨q, kvs, rfl, _, h1, k', r, rfl⟩
        exact ⟨k', q, rfl, h1, r⟩
    · have hge : ¬ c < (kset o k).length := by have := of_decide_eq_false hb; omega
      refine s_ret (ev_var rfl) fun H3 e3 => fin k d H3 fi ?_ ((eH.trans e2).trans e3) ((fd.mono e2).mono e3)
      have z0 : 0 < (kset o k).length := List.length_pos_of_mem ((kset_mem o k (k 0)).mpr ⟨0, List.mem_of_getElem? oo.zero, rfl⟩)
      rcases hc with h | ⟨kp, r, h⟩
      · omega
      · intro x hx y hy e c hcl
        exact same_kinds (fun u hu v hv e => ((r u hu v hv).mp e).1) (by omega) (oo.cl x hx c hcl) (oo.cl y hy c hcl) (((r x hx y hy).mp e).2 c hcl)
end
end K33
/-! text Qe -/
set_option Elab.async false
set_option linter.all false
set_option maxRecDepth 100000
set_option maxHeartbeats 4000000
namespace K33
open PySem PySem.Spec PyProof.Rows L2 Evl
/-- where a word leads -/
def run (go : Nat → Nat → Nat) (s : Nat) (ws : List Nat) : Nat := ws.foldl go s
/-- the small machine for the language of the given one -/
structure Least (l : List Nat) (n : Nat) (go : Nat → Nat → Nat) (mem : List Nat) (m : Nat) (dl : Nat → Nat → Nat) (ml : List Nat) : Prop where
  one : 1 ≤ m
  le : m ≤ n
  ins : ∀ j < m, ∀ c ∈ l, dl j c < m
  nd : ml.Nodup
  mls : ∀ x ∈ ml, x < m
  same : ∀ ws : List Nat, (∀ c ∈ ws, c ∈ l) → (run dl 0 ws ∈ ml ↔ run go 0 ws ∈ mem)
/-- kinds in order of their first states, one state for each -/
structure Firsts (o : List Nat) (k : Nat → Nat) (ks : List Nat) (rep : Nat → Nat) : Prop where
  nd : ks.Nodup
  mem : ∀ x, x ∈ ks ↔ ∃ s ∈ o, k s = x
  rep : ∀ x ∈ ks, rep x ∈ o ∧ k (rep x) = x
  zero : ∀ s, o[0]? = some s → ks[0]? = some (k s)
theorem Firsts.len {o : List Nat} {k : Nat → Nat} {ks : List Nat} {rep : Nat → Nat} (h : Firsts o k ks rep) : ks.length ≤ o.length := by
  have := nd_len (m := o.map k) h.nd fun x hx => List.mem_map.mpr ((h.mem x).mp hx)
  rw [List.length_map] at this
  exact this
def dlt (go : Nat → Nat → Nat) (k : Nat → Nat) (ks : List Nat) (rep : Nat → Nat) (j c : Nat) : Nat := ks.idxOf (k (go (rep (ks.getD j 0)) c))
theorem idx_at {ks : List Nat} (nd : ks.Nodup) {i x : Nat} (h : ks[i]? = some x) : ks.idxOf x = i := by
  have hx := List.mem_of_getElem? h
  have h1 := List.idxOf_lt_length_of_mem hx
  have q1 : ks[ks.idxOf x]? = some x := by rw [List.getElem?_eq_getElem h1, List.getElem_idxOf h1]
  exact (List.getElem?_inj h1 nd).mp (q1.trans h.symm)
theorem least_of {l : List Nat} {n : Nat} {go : Nat → Nat → Nat} {mem o : List Nat} {k : Nat → Nat} {ks : List Nat} {rep : Nat → Nat} (ok : MOk l n go mem) (oo : OrdOk l n go o) (st : Stable l go o k) (fi : Finer o k fun s => if s ∈ mem then 1 else 0) (f : Firsts o k ks rep) :
    Least l n go mem ks.length (dlt go k ks rep) ((ks.filter fun x => decide (rep x ∈ mem)).map fun x => ks.idxOf x) := by
  have fl := f.len
  have ol := lenN oo.nd oo.ins
  have k0 := f.zero 0 oo.zero
  have inK : ∀ s ∈ o, k s ∈ ks := fun s hs => (f.mem _).mpr ⟨s, hs, rfl⟩
  have hom : ∀ s ∈ o, ∀ c ∈ l, dlt go k ks rep (ks.idxOf (k s)) c = ks.idxOf (k (go s c)) := fun s hs c hc => by
    have h1 := List.idxOf_lt_length_of_mem (inK s hs)
    have e : ks.getD (ks.idxOf (k s)) 0 = k s := by
      rw [List.getD_eq_getElem?_getD, List.getElem?_eq_getElem h1, List.getElem_idxOf h1]
      rfl
    unfold dlt
    rw [e]
    obtain ⟨r1, r2⟩ := f.rep _ (inK s hs)
    rw [st _ r1 _ hs r2 c hc]
  have memb : ∀ s ∈ o, ks.idxOf (k s) ∈ ((ks.filter fun x => decide (rep x ∈ mem)).map fun x => ks.idxOf x) ↔ s ∈ mem := fun s hs => by
    obtain ⟨r1, r2⟩ := f.rep _ (inK s hs)
    have q : (if rep (k s) ∈ mem then 1 else 0) = (if s ∈ mem then 1 else 0) := fi _ r1 _ hs r2
    rw [List.mem_map]
    constructor
    · rintro ⟨x, hx, e⟩
      obtain ⟨hx1, hx2⟩ := List.mem_filter.mp hx
      have := idx_inj hx1 (inK s hs) e
      subst this
      have h : rep (k s) ∈ mem := of_decide_eq_true hx2
      rw [if_pos h] at q
      by_cases hm : s ∈ mem
      · exact hm
      · rw [if_neg hm] at q
        cases q
    · intro hm
      rw [if_pos hm] at q
      refine ⟨k s, List.mem_filter.mpr ⟨inK s hs, decide_eq_true ?_⟩, rfl⟩
      by_cases h : rep (k s) ∈ mem
      · exact h
      · rw [if_neg h] at q
        cases q
  have walk : ∀ (ws : List Nat) (s : Nat), s ∈ o → (∀ c ∈ ws, c ∈ l) → run (dlt go k ks rep) (ks.idxOf (k s)) ws = ks.idxOf (k (run go s ws)) ∧ run go s ws ∈ o := by
    intro ws
    induction ws with
    | nil => exact fun s hs _ => ⟨rfl, hs⟩
    | cons c ws ih =>
      intro s hs hc
      have h1 := hom s hs c (hc c List.mem_cons_self)
      have h2 := ih (go s c) (oo.cl s hs c (hc c List.mem_cons_self)) fun d hd => hc d (List.mem_cons_of_mem _ hd)
      unfold run at h2 ⊢
      rw [List.foldl_cons, List.foldl_cons, h1]
      exact h2
  have o0 := List.mem_of_getElem? oo.zero
  refine ⟨?_, by omega, fun j hj c hc => ?_, ?_, fun x hx => ?_, fun ws hw => ?_⟩
  · exact List.length_pos_of_mem (inK 0 o0)
  · have e : ks.getD j 0 = ks[j] := by rw [List.getD_eq_getElem?_getD, List.getElem?_eq_getElem hj]; rfl
    obtain ⟨r1, _⟩ := f.rep _ (List.getElem_mem hj)
    unfold dlt
    rw [e]
    exact List.idxOf_lt_length_of_mem (inK _ (oo.cl _ r1 c hc))
  · refine List.Pairwise.map (R := fun x y => x ∈ ks ∧ y ∈ ks ∧ x ≠ y) _ (fun a b h e => h.2.2 (idx_inj h.1 h.2.1 e)) ?_
    have nd2 := f.nd.filter fun x => decide (rep x ∈ mem)
    refine List.Pairwise.imp_of_mem (fun {a b} ha hb h => ⟨(List.mem_filter.mp ha).1, (List.mem_filter.mp hb).1, h⟩) nd2
  · obtain ⟨y, hy, rfl⟩ := List.mem_map.mp hx
    exact List.idxOf_lt_length_of_mem (List.mem_filter.mp hy).1
  · obtain ⟨w1, w2⟩ := walk ws 0 o0 hw
    rw [idx_at f.nd k0] at w1
    rw [w1]
    exact memb _ w2
end K33
/-! text Qf -/
set_option Elab.async false
set_option linter.all false
set_option maxRecDepth 100000
set_option maxHeartbeats 4000000
namespace K33
open PySem PySem.Spec PyProof.Rows L2 Evl
section
variable {P : Program} {w : World} {K : PySem.W.Frag} {mg : Str → Option Value} {base : Heap}
theorem s_setd {td ty tx : TE} {D : Ends} {σ : L2.St} {H : Hp} {d : Addr} {k : Key} {v : V} {kvs : List (Key × V)} (hd : Ev td σ H (.ref d)) (hk : Ev ty σ H (kV k)) (hv : Ev tx σ H v) (h : H d = some (.dK kvs)) (hz : kvs.length ≤ 100000) (old : ∀ x, valV kvs k = some x → ∀ H1, Ex H H1 → D.nx σ H1)
    (new : valV kvs k = none → ∀ H1, Ex H H1 → D.nx σ (upd H1 d (.dK (putK kvs k v)))) : tDrop (tDSetd td ty tx) D σ H :=
  ev_run (Q := fun x H1 => ∃ a, x = .ref a ∧ IsD H1 a ∧ _) hd fun H1 e1 => ⟨d, rfl, .inl ⟨kvs, .inl (e1 _ _ h)⟩, hk H1 e1 _ fun H2 e2 => hv H2 (e1.trans e2) _ fun H3 e3 => ⟨kvs, k, e3 _ _ (e2 _ _ (e1 _ _ h)), rfl, by rw [sizeLine_eq]; omega, fun x hx => old x hx H3 ((e1.trans e2).trans e3), fun hn => new hn H3 ((e1.trans e2).trans e3)⟩⟩
theorem ev_intB {σ : L2.St} {H : Hp} {ta : TE} {b : Bool} (ha : Ev ta σ H (.bl b)) : Ev (tCB (fun xs H Q => (∃ i, xs = [.int i] ∧ Q (.int i) H) ∨ ∃ k, xs = [.bl k] ∧ Q (.int (if k then 1 else 0)) H) (tCons ta tNil)) σ H (.int (if b then 1 else 0)) :=
  ev_cbV (ea_cons ha ea_nil) fun H1 e Q q => .inr ⟨b, rfl, q⟩
def scLM : Scope := { kind := .function, names := [(".0", .local), ("state", .cell), ("kinds", .cell), ("numbers", .cell), ("rows", .cell), ("signs", .cell)], isGenerator := false, isCoroutine := false }
def spLeast (K : PySem.W.Frag) : Sp := fun vs H Q _ => ∃ (p q : Addr) (l : List Nat) (n : Nat) (go : Nat → Nat → Nat) (mem : List Nat), vs = [.str (txt l), .ref p, .ref q] ∧ McAt K H p q l n go mem ∧ MOk l n go mem ∧
  ∀ (m : Nat) (dl : Nat → Nat → Nat) (ml : List Nat) (ds : List Addr) (t q1 q2 : Addr) (H' : Hp), Least l n go mem m dl ml → Ex H H' → H t = none → H' t = some (.tup [.ref q1, .ref q2]) → H' q1 = some (.tup (ds.map V.ref)) → MRows H' ds l m dl → H' q2 = some (.tup (ml.map nv)) → Q (.ref t) H'
abbrev N_least_machine : List Str := ["signs", "rows", "member_states", "belongs", "order", "kinds", "firsts", "state", "numbers", "table", "number", "kind", "sign"]
theorem sc_least_machine : FnScope N_least_machine ["signs", "rows", "member_states"] (defScope (top 49)) := ⟨rfl, rfl, rfl, by decide +kernel, rfl, by decide +kernel, by decide +kernel⟩
theorem ok_least_machine (T : Txt K mg) : Ok P w K mg base 4 "least_machine" ["signs", "rows", "member_states"] (spLeast K) := by
  refine ok_of T.least_machine sc_least_machine (fun vs H Q E h => ?_) (fun _ _ _ _ _ _ us hl => match us, hl with | [_, _, _], _ => rfl) (fun f cdv A outer s H vs Q E hr h => ?_)
  · obtain ⟨_, _, _, _, _, _, rfl, _⟩ := h
    rfl
  · obtain ⟨p, q, l, n, go, mem, rfl, ⟨ds, hp, hr2, hq⟩, ok, fin⟩ := h
    refine ⟨_, (pss_cons (ps_set (i := 3) sc_least_machine.nd rfl (Or.inr rfl) (pe_fz (pe_dc (own := [("state", 7)]) (g := gName 7) (by rfl) sc_least_machine.nd (pi_listK (K := K) (pv 2)) (blkOk_by (own := [("state", 7)]) (N := N_least_machine) (sc := defScope (top 49)) (by decide +kernel)) (fun _ _ _ _ _ => (pg_name (i := 7) sc_least_machine.nd rfl (Or.inl rfl))) (fun _ _ _ _ _ => by exact pts_nil) (fun _ _ _ _ _ => by exact (pv 7)) (fun _ _ _ _ _ => by exact pe_bl))))
 (pss_cons (ps_set (i := 4) sc_least_machine.nd rfl (Or.inl rfl) (pe_f (ok_reached T) (hr.mono (by decide)) (pa_cons (pv 0) (pa_cons (pv 1) pa_nil))))
 (pss_cons (ps_set (i := 5) sc_least_machine.nd rfl (Or.inr rfl) (pe_f (ok_least_kinds T) (hr.mono (by decide)) (pa_cons (pv 0) (pa_cons (pv 1) (pa_cons (pe_fz (pe_dc (own := [("state", 7)]) (g := gName 7) (by rfl) sc_least_machine.nd (pi_listK (K := K) (pv 4)) (blkOk_by (own := [("state", 7)]) (N := N_least_machine) (sc := defScope (top 49)) (by decide +kernel)) (fun _ _ _ _ _ => (pg_name (i := 7) sc_least_machine.nd rfl (Or.inl rfl))) (fun _ _ _ _ _ => by exact pts_nil) (fun _ _ _ _ _ => by exact (pv 7)) (fun _ _ _ _ _ => by exact (pe_callTy call_int1 (by rfl) T.int (by decide +kernel) (pa_cons (pe_cmp (pc_din (hu_of hr) (pv 7) (pv 3)) rfl) pa_nil))))) pa_nil)))))
 (pss_cons (ps_set (i := 6) sc_least_machine.nd rfl (Or.inl rfl) pe_dnewK)
 (pss_cons (ps_fzs (j := 6) (ps_for PassesOwn.never rfl (pi_listK (K := K) (pv 4)) (pg_name (i := 7) sc_least_machine.nd rfl (Or.inl rfl))
 (pss_one (ps_expr (pe_dsetd (pv 6) (pe_dget (hu_of hr) (pv 5) (pv 7) (fun _ _ => rfl)) (pv 7) ⟨by rfl, by rfl, by rfl, by rfl⟩)))))
 (pss_cons (ps_set (i := 8) sc_least_machine.nd rfl (Or.inr rfl) (pe_fz (pe_dc (own := [("number", 10), ("kind", 11)]) (g := gTup K 2 (gCons (gName 10) (gCons (gName 11) gNil))) (by rfl) sc_least_machine.nd (pi_enumD (by rfl) T.enumerate (pa_cons (pv 6) pa_nil)) (blkOk_by (own := [("number", 10), ("kind", 11)]) (N := N_least_machine) (sc := defScope (top 49)) (by decide +kernel)) (fun _ _ _ _ _ => (pg_tup rfl (pgs_cons (pg_name (i := 10) sc_least_machine.nd rfl (Or.inl rfl)) (pgs_cons (pg_name (i := 11) sc_least_machine.nd rfl (Or.inl rfl)) pgs_nil)))) (fun _ _ _ _ _ => by exact pts_nil) (fun _ _ _ _ _ => by exact (pv 11)) (fun _ _ _ _ _ => by exact (pv 10)))))
 (pss_cons (ps_set (i := 9) sc_least_machine.nd rfl (Or.inl rfl) (pe_tupOf (K := K) T.tuple (pa_cons (pe_lc (own := [("state", 7)]) (g := gName 7) (by rfl) sc_least_machine.nd (pi_values (pv 6)) (blkOk_by (own := [("state", 7)]) (N := N_least_machine) (sc := defScope (top 49)) (by decide +kernel)) (fun _ _ _ _ _ => (pg_name (i := 7) sc_least_machine.nd rfl (Or.inr rfl))) (fun _ _ _ _ _ => by exact pts_nil) (fun _ _ _ _ _ => by exact (pe_fz (pe_dc (own := [("sign", 12)]) (g := gName 12) (by rfl) sc_least_machine.nd (pi_str (pv 0)) (blkOk_by (own := [("sign", 12)]) (N := N_least_machine) (sc := scLM) (by decide +kernel)) (fun _ _ _ _ _ => (pg_name (i := 12) sc_least_machine.nd rfl (Or.inl rfl))) (fun _ _ _ _ _ => by exact pts_nil) (fun _ _ _ _ _ => by exact (pv 12)) (fun _ _ _ _ _ => by exact (pe_dget (hu_of hr) (pv 8) (pe_dget (hu_of hr) (pv 5) (pe_dget (hu_of hr) (pe_ix (r := rIxL K) ix_list (pv 1) (pv 7) (fun _ _ => rfl)) (pv 12) (fun _ _ => rfl)) (fun _ _ => rfl)) (fun _ _ => rfl))))))) pa_nil)))
 (pss_one (ps_ret (pe_tup (pa_cons (pv 9) (pa_cons (pe_tupOf (K := K) T.tuple (pa_cons (pe_lc (own := [("kind", 11), ("state", 7)]) (g := gTup K 2 (gCons (gName 11) (gCons (gName 7) gNil))) (by rfl) sc_least_machine.nd (pi_items (pv 6)) (blkOk_by (own := [("kind", 11), ("state", 7)]) (N := N_least_machine) (sc := defScope (top 49)) (by decide +kernel)) (fun _ _ _ _ _ => (pg_tup rfl (pgs_cons (pg_name (i := 11) sc_least_machine.nd rfl (Or.inl rfl)) (pgs_cons (pg_name (i := 7) sc_least_machine.nd rfl (Or.inl rfl)) pgs_nil)))) (fun _ _ _ _ _ => by exact (pts_one (pt_cmp (pc_din (hu_of hr) (pv 7) (pv 3)) rfl))) (fun _ _ _ _ _ => by exact (pe_dget (hu_of hr) (pv 8) (pv 11) (fun _ _ => rfl)))) pa_nil)) pa_nil)))))))))))), ?_⟩
    have n6 := ok.six
    have l4 := ok.lok.four
    have ml := lenN ok.nd ok.mem
    -- belongs
    refine q_asgP (evp_fzK (ed_map mem (fun (s : Nat) => (.inl (s : Int) : Key)) (fun _ => .bl true) (ok.nd.map _ fun a b h e => h (inl_inj e)) (iw_list (p := q) (ev_var rfl) hq) (by simp) (by omega) fun i s x Ha Hb hs ea y k hk => ?_)) fun v H1 e1 ⟨b, hv, _, fb⟩ => ?_
    · obtain ⟨rfl, hx⟩ := y
      obtain rfl : nv s = x := by
        rw [List.getElem?_map, hs] at hx
        exact Option.some.inj hx
      exact hk _ _ (Ex.refl _) rfl et_yes (ev_var rfl) ev_c
    subst hv
    have fb : FD H1 b (nrow mem fun _ => .bl true) := fb
    -- order
    refine q_asgP (P := fun v H2 => ∃ (o : List Nat) (r : Addr), v = .ref r ∧ OrdOk l n go o ∧ H2 r = some (.lst (o.map nv))) (evp_call (ea_of (ea_cons (ev_var rfl) (ea_cons (ev_var rfl) ea_nil))) fun vs H2 e2 hvs => ?_) fun v H2 e2 ⟨o, r, hv, oo, hr3⟩ => ?_
    · subst hvs
      exact fun H3 e3 Q' q' E => ⟨p, ds, l, n, go, mem, rfl, ex_l (e1.trans (e2.trans e3)) hp, hr2.mono (e1.trans (e2.trans e3)), ok, fun o r H4 oo e4 _ h4 => q' _ H4 e4 ⟨o, r, rfl, oo, h4⟩⟩
    subst hv
    have ol := lenN oo.nd oo.ins
    have e02 := e1.trans e2
    let k0 : Nat → Nat := fun s => if s ∈ mem then 1 else 0
    -- kinds
    refine q_asgP (P := fun v H3 => ∃ (k : Nat → Nat) (d : Addr), v = .ref d ∧ Finer o k k0 ∧ Stable l go o k ∧ FD H3 d (nrow o fun s => nv (k s))) (evp_call (Pa := fun vs H3 => ∃ d, vs = [.str (txt l), .ref p, .ref d] ∧ FD H3 d (nrow o fun s => nv (k0 s))) (ea_consP (evp_of (ev_var rfl)) fun x H3 e3 hx => ea_consP (evp_of (ev_var rfl)) fun y H4 e4 hy => ea_one (evp_fzK (ed_map o (fun (s : Nat) => (.inl (s : Int) : Key)) (fun s => nv (k0 s)) (oo.nd.map _ fun a b h e => h (inl_inj e)) (iw_list (p := r) (ev_var rfl) (sq_of (e4 _ _ (e3 _ _ hr3)))) (by simp) (by omega) fun i s x Ha Hb hs ea y k hk => ?_)) fun z H5 e5 ⟨d, hz, _, h5⟩ => ⟨d, by rw [hx, hy, hz], h5⟩) fun vs H3 e3 ⟨d, hvs, fd⟩ => ?_) fun v H3 e3 ⟨k, d, hv, fi, st, fd⟩ => ?_
    · obtain ⟨rfl, hx⟩ := y
      obtain rfl : nv s = x := by
        rw [List.getElem?_map, hs] at hx
        exact Option.some.inj hx
      refine hk _ _ (Ex.refl _) rfl et_yes (ev_var rfl) (ev_is (ev_intB (ev_din (k := .inl (s : Int)) (ev_var rfl) (ev_var rfl) ((fb.mono e2).mono ((e3.trans e4).trans ea)))) ?_)
      rw [val_nrowB]
      by_cases h : s ∈ mem <;> simp [k0, h]
    · subst hvs
      exact fun H4 e4 Q' q' E => ⟨p, d, ds, l, n, go, mem, o, k0, rfl, ex_l (e02.trans (e3.trans e4)) hp, hr2.mono (e02.trans (e3.trans e4)), ok, oo, fd.mono e4, fun k d2 H5 h1 h2 e5 h3 => q' _ H5 e5 ⟨k, d2, rfl, h1, h2, h3⟩⟩
    subst hv
    have e03 := e02.trans e3
    have ho3 := e3 _ _ hr3
    -- firsts
    refine q_asgP (P := fun v H4 => ∃ f, v = .ref f ∧ H3 f = none ∧ H4 f = some (.dK [])) (fun G e Q q f hf => q _ _ (Ex.new hf) ⟨f, rfl, fresh_back e hf, upd_same⟩) fun v H4 e4 ⟨f, hv, hf0, hf1⟩ => ?_
    subst hv
    show tFor _ _ _ _ _ _
    refine s_forLn (a := r) (xs := o.map nv) (ev_var rfl) (sq_of (e4 _ _ ho3)) (fun i σ' H' => ∃ (ks : List Nat) (rep : Nat → Nat) (u : Option V), σ' = [some (.str (txt l)), some (.ref p), some (.ref q), some (.ref b), some (.ref r), some (.ref d), some (.ref f), u, none, none, none, none, none] ∧ Ex H3 H' ∧ Firsts (o.take i) k ks rep ∧ H' f = some (.dK (nrow ks fun x => nv (rep x))))
      (fun H5 e5 => ⟨[], fun _ => 0, none, rfl, e4.trans e5, ⟨List.nodup_nil, fun x => (by simp), fun x hx => (by cases hx), fun s hs => (by simp at hs)⟩, e5 _ _ hf1⟩) (fun i σ' H' _ ⟨_, _, _, _, h, _⟩ => sq_of (h _ _ ho3)) (fun i x σ' H' hx hP => ?_) fun σ' H' hP => ?_
    · obtain ⟨ks, rep, u, rfl, eH, ff, hf⟩ := hP
      obtain ⟨s, hs, rfl⟩ : ∃ s, o[i]? = some s ∧ nv s = x := by
        rw [List.getElem?_map] at hx
        cases h : o[i]? with
        | none => rw [h] at hx; cases hx
        | some s => rw [h] at hx; exact ⟨s, rfl, Option.some.inj hx⟩
      have so := List.mem_of_getElem? hs
      have tks : o.take (i + 1) = o.take i ++ [s] := by rw [List.take_succ, hs]; rfl
      have kl := ff.len
      rw [List.length_take] at kl
      refine s_setd (d := f) (k := .inl (k s : Nat)) (kvs := nrow ks fun x => nv (rep x)) (ev_var rfl) (ev_dget (k := .inl (s : Nat)) (ev_var rfl) (ev_var rfl) (fd.mono eH) (val_nrow so)) (ev_var rfl) hf (by unfold nrow; rw [List.length_map]; omega) (fun x hx H5 e5 => ?_) fun hn H5 e5 => ?_
      · have hin : k s ∈ ks := by
          by_cases h : k s ∈ ks
          · exact h
          · rw [val_nrow_none h] at hx
            cases hx
        refine ⟨ks, rep, _, rfl, eH.trans e5, ⟨ff.nd, fun x => ?_, fun x hx => ?_, fun s0 h0 => ?_⟩, e5 _ _ hf⟩
        · rw [ff.mem x, tks]
          constructor
          · rintro ⟨y, hy, e⟩
            exact ⟨y, List.mem_append_left _ hy, e⟩
          · rintro ⟨y, hy, e⟩
            rcases List.mem_append.mp hy with h | h
            · exact ⟨y, h, e⟩
            · rw [List.mem_singleton.mp h] at e
              rw [← e]
              exact (ff.mem _).mp hin
        · rw [tks]
          exact ⟨List.mem_append_left _ (ff.rep x hx).1, (ff.rep x hx).2⟩
        · rw [tks] at h0
          cases i with
          | zero =>
            rw [(ff.mem _)] at hin
            obtain ⟨y, hy, _⟩ := hin
            simp at hy
          | succ i =>
            refine ff.zero s0 ?_
            rw [List.getElem?_append_left (by rw [List.length_take]; have := (List.getElem?_eq_some_iff.mp hs).1; omega)] at h0
            exact h0
      · have hni : k s ∉ ks := fun h => by rw [val_nrow h] at hn; cases hn
        refine ⟨ks ++ [k s], fun x => if x = k s then s else rep x, _, rfl, Ex.mut (eH.trans e5) hf0, ⟨?_, fun x => ?_, fun x hx => ?_, fun s0 h0 => ?_⟩, ?_⟩
        · rw [List.nodup_append]
          exact ⟨ff.nd, by simp, fun y hy z hz => by
            rw [List.mem_singleton.mp hz]
            exact fun z => hni (z ▸ hy)⟩
        · rw [tks, List.mem_append, ff.mem x, List.mem_singleton]
          constructor
          · rintro (⟨y, hy, e⟩ | h)
            · exact ⟨y, List.mem_append_left _ hy, e⟩
            · exact ⟨s, by simp, h.symm⟩
          · rintro ⟨y, hy, e⟩
            rcases List.mem_append.mp hy with h | h
            · exact .inl ⟨y, h, e⟩
            · rw [List.mem_singleton.mp h] at e
              exact .inr e.symm
        · rw [tks]
          by_cases h : x = k s
          · rw [if_pos h]
            exact ⟨by simp, h.symm⟩
          · rw [if_neg h]
            rcases List.mem_append.mp hx with h2 | h2
            · exact ⟨List.mem_append_left _ (ff.rep x h2).1, (ff.rep x h2).2⟩
            · exact absurd (List.mem_singleton.mp h2) h
        · rw [tks] at h0
          cases i with
          | zero =>
            have hz : ks = [] := by
              cases hk : ks with
              | nil => rfl
              | cons y ys =>
                obtain ⟨z, hz, _⟩ := (ff.mem y).mp (by rw [hk]; simp)
                simp at hz
            rw [hz]
            simp at h0
            rw [h0]
            rfl
          | succ i =>
            rw [List.getElem?_append_left (by rw [List.length_take]; have := (List.getElem?_eq_some_iff.mp hs).1; omega)] at h0
            have := ff.zero s0 h0
            rw [List.getElem?_append_left (List.getElem?_eq_some_iff.mp this).1]
            exact this
        · rw [upd_same]
          have e1 : (nrow ks fun x => nv (rep x)) = nrow ks fun x => nv (if x = k s then s else rep x) := by
            unfold nrow
            exact List.map_congr_left fun x hx => by simp only [if_neg (show x ≠ k s from fun e => hni (e ▸ hx))]
          rw [e1]
          have e2 := nrow_snoc (f := fun x => nv (if x = k s then s else rep x)) hni
          simp only [if_true] at e2
          rw [← e2]
    · obtain ⟨ks, rep, u, rfl, eH, ff, hf⟩ := hP
      rw [List.length_map, List.take_length] at ff
      refine ⟨f, _, rfl, hf, trivial, fun od => ?_⟩
      have kl := ff.len
      have eF : Ex H3 (upd H' f (.frz od (.dK (nrow ks fun x => nv (rep x))))) := Ex.mut eH hf0
      have fF : FD (upd H' f (.frz od (.dK (nrow ks fun x => nv (rep x))))) f (nrow ks fun x => nv (rep x)) := ⟨od, upd_same⟩
      generalize upd H' f (.frz od (.dK (nrow ks fun x => nv (rep x)))) = G at eF fF
      have kL : (nrow ks fun x => nv (rep x)).length = ks.length := by unfold nrow; rw [List.length_map]
      -- numbers
      refine q_asgP (evp_fzK (ed_map ks (fun (x : Nat) => (.inl (x : Int) : Key)) (fun x => nv (ks.idxOf x)) (ff.nd.map _ fun a b h e => h (inl_inj e)) (iw_enumD (d := f) (ea_cons (ev_var rfl) ea_nil) fF) kL (by omega) fun i x y Ha Hb hx ea yy kk hk => ?_)) fun v H5 e5 ⟨nb, hv, _, fn⟩ => ?_
      · have ex : (nrow ks fun x => nv (rep x))[i]? = some (.inl (x : Int), nv (rep x)) := by unfold nrow; rw [List.getElem?_map, hx]; rfl
        obtain ⟨T, rfl, hT, rfl⟩ := pair_at yy rfl (by rw [ex]; rfl)
        refine tg_pair (st_of upd_same) (hk _ _ (Ex.new hT) rfl et_yes (ev_var rfl) (ev_is (ev_var rfl) ?_))
        rw [idx_at ff.nd hx]
      subst hv
      have fn : FD H5 nb (nrow ks fun x => nv (ks.idxOf x)) := fn
      have fF5 := fF.mono e5
      have e35 := eF.trans e5
      have inK : ∀ s ∈ o, k s ∈ ks := fun s hs => (ff.mem _).mpr ⟨s, hs, rfl⟩
      have LM := least_of ok oo st fi ff
      -- table
      refine q_asgP (P := fun v H6 => ∃ (t : Addr) (ds' : List Addr), v = .ref t ∧ H6 t = some (.tup (ds'.map V.ref)) ∧ MRows H6 ds' l ks.length (dlt go k ks rep)) ((evp_tupOf (P := fun ys G => ∃ ds' : List Addr, ys = ds'.map V.ref ∧ MRows G ds' l ks.length (dlt go k ks rep)) ((el_lcP (fun i acc G => ∃ ds' : List Addr, acc = ds'.map V.ref ∧ MRows G ds' l i (dlt go k ks rep)) (iw_vals (d := f) (ev_var rfl) fF5) ?_ ?_ ?_ ?_).imp ?_) ?_).imp ?_) fun v H6 e6 ⟨t, ds', hv, ht, hM⟩ => ?_
      · exact fun H1 e => ⟨[], rfl, rfl, fun i hi => absurd hi (Nat.not_lt_zero i)⟩
      · exact fun i acc H1 H2 e ⟨ds', h1, h2⟩ => ⟨ds', h1, h2.mono e⟩
      · rintro i acc H1 hi ⟨ds', rfl, h2, _⟩
        rw [List.length_map]
        omega
      · rintro D i x acc Ha Hb hi hD eD hA ⟨ds', rfl, h2, h3⟩ y kk hk
        obtain ⟨rfl, k2, y2⟩ := y
        rw [kL] at hi
        obtain ⟨j, hj⟩ : ∃ j, ks[i]? = some j := ⟨ks[i], List.getElem?_eq_getElem hi⟩
        have ex : (nrow ks fun x => nv (rep x))[i]? = some (.inl (j : Int), nv (rep j)) := by unfold nrow; rw [List.getElem?_map, hj]; rfl
        rw [ex] at y2
        cases y2
        have jk := List.mem_of_getElem? hj
        obtain ⟨r1, r2⟩ := ff.rep j jk
        obtain ⟨dx, hdx, fdx⟩ := hr2.2 (rep j) (oo.ins _ r1)
        refine hk _ _ true (Ex.refl _) rfl et_yes (fun _ => ?_) fun z => nomatch z
        refine (evp_fzK (ed_map l (fun c => (.inr (sg c) : Key)) (fun c => nv (ks.idxOf (k (go (rep j) c)))) (ok.lok.nd.map _ fun a b h e => h (sg_inj (by injection e))) (iw_str (s := txt l) (ev_var rfl)) (by simp [txt]) (by omega) fun i2 c x Hc Hd hc ec y kk hk => ?_)).imp ?_
        · obtain ⟨rfl, c', hc', rfl⟩ := y
          have et : (txt l).cps = l.toArray := rfl
          rw [et] at hc'
          obtain rfl : c = c' := by simpa [hc] using hc'
          have hcl := List.mem_of_getElem? hc
          have eG : Ex H5 Hd := (eD.trans del_le).trans ec
          refine hk _ _ (Ex.refl _) rfl et_yes (ev_var rfl) ?_
          exact ev_dget (k := .inl (k (go (rep j) c) : Nat)) (ev_var rfl) (ev_dget (k := .inl (go (rep j) c : Nat)) (ev_var rfl) (ev_dget (k := .inr (sg c)) (ev_op (ev_var rfl) (ev_var rfl) (rv_ixL (ex_l ((e03.trans e35).trans eG) hp) (atI_nat (v := .ref dx) (by rw [List.getElem?_map, hdx]; rfl)))) (ev_var rfl) (fdx.mono ((e03.trans e35).trans eG)) (val_mrow hcl)) (fd.mono (e35.trans eG)) (val_nrow (oo.cl _ r1 c hcl))) (fn.mono eG) (val_nrow (inK _ (oo.cl _ r1 c hcl)))
        · rintro v H4 e4 ⟨nd, rfl, hn, fnd⟩
          have hnD : nd ≠ D := fun z => by rw [z, hA] at hn; cases hn
          refine ⟨ds' ++ [nd], by simp, by simp [h2], fun j2 hj2 => ?_⟩
          by_cases hlt : j2 < i
          · obtain ⟨d2, q1, q2⟩ := h3 j2 hlt
            exact ⟨d2, by rw [List.getElem?_append_left (by omega)]; exact q1, q2.mono (del_ex e4)⟩
          · obtain rfl : j2 = i := by omega
            refine ⟨nd, by rw [List.getElem?_append_right (by omega), h2]; simp, ?_⟩
            obtain ⟨o', fnd⟩ := fnd
            refine ⟨o', ?_⟩
            rw [del_ne hnD, fnd]
            have : ks.getD j2 0 = j := by rw [List.getD_eq_getElem?_getD, hj]; rfl
            show some (HO.frz o' (.dK (mrow l fun c => ks.idxOf (k (go (rep j) c))))) = some (HO.frz o' (.dK (mrow l (dlt go k ks rep j2))))
            have e : dlt go k ks rep j2 = fun c => ks.idxOf (k (go (rep j) c)) := by
              funext c
              unfold dlt
              rw [this]
            rw [e]
      · rintro v H' e ⟨p', acc, rfl, hp', hacc, ds', rfl, h2⟩
        rw [kL] at h2
        exact ⟨p', _, rfl, hacc, ds', rfl, h2.mono del_le⟩
      · exact fun ys G1 G2 e ⟨ds', h1, h2⟩ => ⟨ds', h1, h2.mono e⟩
      · rintro v H' e ⟨t, ys, rfl, _, hys, ds', rfl, h2⟩
        exact ⟨t, ds', rfl, hys, h2⟩
      subst hv
      have e36 := e35.trans e6
      refine s_retP (evp_tupA (Pa := fun vs G => ∃ q2, vs = [.ref t, .ref q2] ∧ G q2 = some (.tup (((ks.filter fun x => decide (rep x ∈ mem)).map fun x => ks.idxOf x).map nv))) (ea_consP (evp_of (ev_var rfl)) fun x H7 e7 hx => ea_one (evp_tupOf (P := fun ys _ => ys = ((ks.filter fun x => decide (rep x ∈ mem)).map fun x => ks.idxOf x).map nv) ((evp_L (xs := (ks.filter fun x => decide (rep x ∈ mem)).map fun x => nv (ks.idxOf x)) ?_).imp fun v H' e ⟨q, h1, _, h2⟩ => ⟨q, _, h1, h2, by rw [List.map_map]; rfl⟩) fun _ _ _ _ h => h) fun y H8 e8 ⟨q2, ys, hy, _, h2, h3⟩ => ⟨q2, by rw [hx, hy], by rw [h2, h3]⟩) (fun vs G1 G2 e ⟨q2, h1, h2⟩ => ⟨q2, h1, e _ _ h2⟩) (fun vs G1 ⟨q2, h1, _⟩ => by rw [h1]; simp)) fun v H7 e7 ⟨tt, vs, hv, htt, ht2, q2, hvs, hq2⟩ => ?_
      · refine el_filter ks (fun x => decide (rep x ∈ mem)) (fun x => nv (ks.idxOf x)) (iw_items (d := f) (ev_var rfl) ((fF5.mono e6).mono e7)) kL (by omega) fun i x y Ha Hb hx ea yy kk hk => ?_
        have ex : (nrow ks fun x => nv (rep x))[i]? = some (.inl (x : Int), nv (rep x)) := by unfold nrow; rw [List.getElem?_map, hx]; rfl
        obtain ⟨T, rfl, hT, rfl⟩ := pair_at yy (by rw [ex]; rfl) (by rw [ex]; rfl)
        have eN : Ex Ha (upd Ha T (.tup [kV (.inl (x : Int)), nv (rep x)])) := Ex.new hT
        have eA := (e7.trans ea).trans eN
        refine tg_pair (st_of upd_same) (hk _ _ eN rfl (et_is (et_B (ev_din (k := .inl (rep x : Nat)) (ev_var rfl) (ev_var rfl) ((fb.mono e2).mono ((e3.trans e36).trans eA)))) (by rw [val_nrowB])) fun _ => ?_)
        exact ev_dget (k := .inl (x : Int)) (ev_var rfl) (ev_var rfl) ((fn.mono e6).mono eA) (val_nrow (List.mem_of_getElem? hx))
      · subst hv hvs
        exact fin ks.length _ _ ds' tt t q2 H7 LM ((e03.trans e36).trans e7) (fresh_back (e03.trans e36) htt) ht2 (e7 _ _ ht) (hM.mono e7) hq2
end
end K33
/-! text Qg -/
set_option Elab.async false
set_option linter.all false
set_option maxRecDepth 100000
set_option maxHeartbeats 4000000
namespace K33
open PySem PySem.Spec PyProof.Rows L2 Evl
/-- from g one comes to s in one step; g < m -/
def liveR (l : List Nat) (m : Nat) (go : Nat → Nat → Nat) : Rel3 := fun s g o => o = none ∧ g < m ∧ ∃ c ∈ l, go g c = s
theorem full_list {fs : List Nat} {m : Nat} (nd : fs.Nodup) (ins : ∀ x ∈ fs, x < m) (le : m ≤ fs.length) (g : Nat) (hg : g < m) : g ∈ fs := by
  refine Decidable.byContradiction fun h => ?_
  have := lenN (n := m) (fs := g :: fs) (List.nodup_cons.mpr ⟨h, nd⟩) fun x hx => (List.mem_cons.mp hx).elim (fun e => e ▸ hg) (ins x)
  rw [List.length_cons] at this
  omega
/-- closed under steps back -/
def Closed (l : List Nat) (m : Nat) (go : Nat → Nat → Nat) (fs : List Nat) : Prop := ∀ s < m, (∃ c ∈ l, go s c ∈ fs) → s ∈ fs
section
variable {P : Program} {w : World} {K : PySem.W.Frag} {mg : Str → Option Value} {base : Heap}
theorem s_forEnumT {ta : TA} {g : TG} {tu : TS} {D : Ends} {σ : L2.St} {H : Hp} {a : Addr} {xs : List V} (h : EvA ta σ H [.ref a]) (hx : SqT K H a xs) (Pv : Nat → L2.St → Hp → Prop) (h0 : ∀ H1, Ex H H1 → Pv 0 σ H1) (hl : ∀ i σ' H', i ≤ xs.length → Pv i σ' H' → SqT K H' a xs)
    (hs : ∀ i x σ' H' T, xs[i]? = some x → Pv i σ' H' → H' T = none → g (.ref T) σ' (upd H' T (.tup [nv i, x])) fun σ2 H2 => tu { D with nx := Pv (i + 1), ct := Pv (i + 1), bk := D.nx } σ2 H2) (hn : ∀ σ' H', Pv xs.length σ' H' → D.nx σ' H') : tFor (iEnumT K ta) g tu D σ H :=
  h H (Ex.refl H) _ fun H1 e1 => ⟨a, xs, rfl, ex_t e1 hx, for_it walk_g Pv (h0 H1 e1) hl (fun i x σ' Ha Hb hi p y => by
    obtain ⟨b, hb⟩ : ∃ b, xs[i]? = some b := ⟨xs[i], List.getElem?_eq_getElem hi⟩
    obtain ⟨T, rfl, hT, rfl⟩ := pair_at y rfl hb
    exact hs i b σ' Ha T hb p hT) hn⟩
def spLive (K : PySem.W.Frag) : Sp := fun vs H Q _ => ∃ (t q : Addr) (ds : List Addr) (l : List Nat) (m : Nat) (go : Nat → Nat → Nat) (ml : List Nat), vs = [.ref t, .ref q] ∧ SqT K H t (ds.map V.ref) ∧ MRows H ds l m go ∧ SqT K H q (ml.map nv) ∧ l.length ≤ 4 ∧ m ≤ 6 ∧ ml.Nodup ∧ (∀ x ∈ ml, x < m) ∧
  ∀ (r : Addr) (H' : Hp), Ex H H' → H r = none → H' r = some (.tup ((silentL (liveR l m go) m ml).map nv)) → Q (.ref r) H'
abbrev N_live_states : List Str := ["table", "member_list", "found", "turn", "state", "row", "goal"]
theorem sc_live_states : FnScope N_live_states ["table", "member_list"] (defScope (top 50)) := ⟨rfl, rfl, rfl, by decide +kernel, rfl, by decide +kernel, by decide +kernel⟩
theorem ok_live_states (T : Txt K mg) : Ok P w K mg base 1 "live_states" ["table", "member_list"] (spLive K) := by
  refine ok_of T.live_states sc_live_states (fun vs H Q E h => ?_) (fun _ _ _ _ _ _ us hl => match us, hl with | [_, _], _ => rfl) (fun f cdv A outer s H vs Q E hr h => ?_)
  · obtain ⟨_, _, _, _, _, _, _, rfl, _⟩ := h
    rfl
  · obtain ⟨t, q, ds, l, m, go, ml, rfl, ht, hM, hq, l4, m6, nd, ins, fin⟩ := h
    refine ⟨_, (pss_cons (ps_set (i := 2) sc_live_states.nd rfl (Or.inr rfl) (pe_listOf (K := K) T.list (pa_cons (pv 1) pa_nil)))
 (pss_cons (ps_for PassesOwn.never rfl (pi_range1 rfl T.range (pa_cons (pe_callB call_len (by rfl) T.len (by decide +kernel) (pa_cons (pv 0) pa_nil)) pa_nil)) (pg_name (i := 3) sc_live_states.nd rfl (Or.inl rfl))
 (pss_one (ps_for PassesOwn.never rfl (pi_enumT (by rfl) T.enumerate (pa_cons (pv 0) pa_nil)) (pg_tup rfl (pgs_cons (pg_name (i := 4) sc_live_states.nd rfl (Or.inl rfl)) (pgs_cons (pg_name (i := 5) sc_live_states.nd rfl (Or.inl rfl)) pgs_nil)))
 (pss_one (ps_if (PW.pt (pw_and (pt_cmpR (r := rIn K true) op_notIn_seq (pv 4) (pv 2) (by rfl)) (pw_and1 (pt_val (pe_callB (r := rAny K) (cr_any rfl) (by rfl) T.any (by decide +kernel) (pa_cons (pe_lc (own := [("goal", 6)]) (g := gName 6) (by rfl) sc_live_states.nd (pi_values (pv 5)) (blkOk_by (own := [("goal", 6)]) (N := N_live_states) (sc := defScope (top 50)) (by decide +kernel)) (fun _ _ _ _ _ => (pg_name (i := 6) sc_live_states.nd rfl (Or.inl rfl))) (fun _ _ _ _ _ => by exact pts_nil) (fun _ _ _ _ _ => by exact (pe_cmpR (r := rIn K false) op_in_seq (pv 6) (pv 2) (by rfl)))) pa_nil))))))
 (pss_one (ps_expr (pe_bm PySem.F.plainAttrs_list PySem.F.slot_list_append PySem.F.type_list_append mt_append (pv 2) (pa_cons (pv 4) pa_nil))))
 pss_nil)))))
 (pss_one (ps_ret (pe_tupOf (K := K) T.tuple (pa_cons (pe_callB (r := rSortedLT K) (cr_sortedLT (by rfl)) (by rfl) T.sorted (by decide +kernel) (pa_cons (pv 2) pa_nil)) pa_nil)))))), ?_⟩
    refine q_asgP (evp_listOf (a := q) (xs := ml.map nv) (ev_var rfl) (.inr hq)) fun v H1 e1 ⟨f, hv, hf0, hf1⟩ => ?_
    subst hv
    let Good : List Nat → Prop := fun fs => fs.Nodup ∧ (∀ x ∈ fs, x < m) ∧ (∀ x ∈ ml, x ∈ fs) ∧ ∀ x ∈ fs, Sil (liveR l m go) ml x
    refine q_forR1 (n := (m : Int)) (ea_cons (ev_lenV (n := m) (ev_var rfl) fun H2 e2 => .inr ⟨_, ex_t (e1.trans e2) ht, by rw [List.length_map, hM.1]⟩) ea_nil) (by omega) (fun i σ' H' => ∃ (fs : List Nat) (a b c d : Option V), σ' = [some (.ref t), some (.ref q), some (.ref f), a, b, c, d] ∧ Good fs ∧ (Closed l m go fs ∨ i ≤ fs.length) ∧ Ex H H' ∧ H' f = some (.lst (fs.map nv)))
      (fun H2 e2 => ⟨ml, none, none, none, none, rfl, ⟨nd, ins, fun x hx => hx, fun x hx => .base hx⟩, .inr (Nat.zero_le _), e1.trans e2, e2 _ _ hf1⟩) (fun i σ' H' hi hP => ?_) fun σ' H' hP => ?_
    · obtain ⟨fs0, a, b, c, d, rfl, gf0, prog, eH, hl⟩ := hP
      show tFor _ _ _ _ _ _
      refine s_forEnumT (a := t) (xs := ds.map V.ref) (ea_cons (ev_var rfl) ea_nil) (ex_t eH ht) (fun j σ' H' => ∃ (fs : List Nat) (b c d : Option V), σ' = [some (.ref t), some (.ref q), some (.ref f), some (.int (i : Int)), b, c, d] ∧ fs0 <+: fs ∧ Good fs ∧ (fs = fs0 → ∀ s < j, (∃ c ∈ l, go s c ∈ fs0) → s ∈ fs0) ∧ (Closed l m go fs0 → fs = fs0) ∧ Ex H H' ∧ H' f = some (.lst (fs.map nv)))
        (fun H2 e2 => ⟨fs0, b, c, d, rfl, List.prefix_refl _, gf0, fun _ s hs => absurd hs (Nat.not_lt_zero s), fun _ => rfl, eH.trans e2, e2 _ _ hl⟩) (fun _ _ _ _ ⟨_, _, _, _, _, _, _, _, _, h, _⟩ => ex_t h ht) (fun j x σ' H' T hx hP hT => ?_) fun σ' H' hP => ?_
      · obtain ⟨fs, b, c, d, rfl, pre, gf, fix, same, eH, hl⟩ := hP
        have hj : j < m := by
          have := (List.getElem?_eq_some_iff.mp hx).1
          rw [List.length_map, hM.1] at this
          exact this
        obtain ⟨dx, hdx, fdx⟩ := hM.2 j hj
        obtain rfl : V.ref dx = x := by
          rw [List.getElem?_map, hdx] at hx
          exact Option.some.inj hx
        have eT : Ex H' (upd H' T (.tup [nv j, .ref dx])) := Ex.new hT
        refine tg_pair (st_of upd_same) ?_
        generalize upd H' T (.tup [nv j, .ref dx]) = Ha at eT
        have eHa := eH.trans eT
        have hla := eT _ _ hl
        have fl := lenN gf.1 gf.2.1
        refine s_when (b := !decide (j ∈ fs) && l.any fun c => decide (go j c ∈ fs)) (et_and (et_is (et_test (ev_op (ev_var rfl) (ev_var rfl) (rv_niL (sq_of hla) rfl (flat_nv _)))) (by rw [inV_nv])) fun _ => et_B (ev_anyM l (fun c => decide (go j c ∈ fs)) ?_)) (fun hb H2 e2 => ?_) fun hb H2 e2 => ?_
        · refine el_map l _ (iw_vals (d := dx) (ev_var rfl) (fdx.mono eHa)) (by simp [mrow]) (by omega) fun i2 c x Hc Hd hc ec y kk hk => ?_
          obtain ⟨rfl, k2, y2⟩ := y
          unfold mrow at y2
          rw [List.getElem?_map, hc] at y2
          cases y2
          exact hk _ _ (Ex.refl _) rfl et_yes (ev_is (ev_op (ev_var rfl) (ev_var rfl) (rv_isL (sq_of (ec _ _ hla)) rfl (flat_nv _))) (by rw [inV_nv]))
        · rw [Bool.and_eq_true, Bool.not_eq_true', decide_eq_false_iff_not, List.any_eq_true] at hb
          obtain ⟨hb1, c, hcl, hc⟩ := hb
          have hc : go j c ∈ fs := of_decide_eq_true hc
          refine s_app (xs := fs.map nv) (e2 _ _ hla) (ev_var rfl) (ev_var rfl) (by rw [List.length_map]; omega) fun H5 e5 => ⟨fs ++ [j], _, _, _, rfl, pre.trans (List.prefix_append _ _), ⟨?_, fun y hy => ?_, fun y hy => List.mem_append_left _ (gf.2.2.1 y hy), fun y hy => ?_⟩, fun h => ?_, fun h => ?_, Ex.mut ((eHa.trans e2).trans e5) hf0, by rw [upd_same, List.map_append]; rfl⟩
          · rw [List.nodup_append]
            exact ⟨gf.1, by simp, fun y hy z hz => by
              rw [List.mem_singleton.mp hz]
              exact fun z => hb1 (z ▸ hy)⟩
          · rcases List.mem_append.mp hy with h | h
            · exact gf.2.1 y h
            · rw [List.mem_singleton.mp h]
              exact hj
          · rcases List.mem_append.mp hy with h | h
            · exact gf.2.2.2 y h
            · rw [List.mem_singleton.mp h]
              exact .step (gf.2.2.2 _ hc) ⟨rfl, hj, c, hcl, rfl⟩
          · have := congrArg List.length h
            have := pre.length_le
            simp at *
            omega
          · rw [same h] at hb1 hc
            exact absurd (h j hj ⟨c, hcl, hc⟩) hb1
        · refine ⟨fs, _, _, _, rfl, pre, gf, fun h s hs hx => ?_, same, eHa.trans e2, e2 _ _ hla⟩
          rcases Nat.lt_succ_iff_lt_or_eq.mp hs with h2 | h2
          · exact fix h s h2 hx
          · subst h2
            subst h
            obtain ⟨c, hc1, hc2⟩ := hx
            refine Decidable.byContradiction fun hn => ?_
            rw [decide_eq_false hn, Bool.not_false, Bool.true_and] at hb
            have := List.any_eq_false.mp hb c hc1
            exact this (decide_eq_true hc2)
      · obtain ⟨fs, b, c, d, rfl, pre, gf, fix, same, eH, hl⟩ := hP
        rw [List.length_map, hM.1] at fix
        refine ⟨fs, _, b, c, d, rfl, gf, ?_, eH, hl⟩
        by_cases h : fs = fs0
        · exact .inl (by rw [h]; exact fun s hs hx => fix h s hs hx)
        · rcases prog with p | p
          · exact absurd (same p) h
          · refine .inr ?_
            obtain ⟨s, hs⟩ := pre
            cases s with
            | nil => exact absurd (by rw [← hs]; simp) h
            | cons y s =>
              rw [← hs]
              simp
              omega
    · obtain ⟨fs, a, b, c, d, rfl, gf, prog, eH, hl⟩ := hP
      have cl : ∀ x ∈ fs, ∀ g, liveR l m go x g none → g ∈ fs := fun x hx g ⟨_, hg, c, hc, e⟩ => by
        rcases prog with p | p
        · exact p g hg ⟨c, hc, by rw [e]; exact hx⟩
        · exact full_list gf.1 gf.2.1 (by simpa using p) g hg
      refine s_retP (evp_tupOf (P := fun ys _ => ys = (silentL (liveR l m go) m ml).map nv) ((evp_sortedLT (a := f) (ns := fs.map fun (i : Nat) => (i : Int)) (ev_var rfl) (.inl (by rw [← nv_map]; exact sq_of hl))).imp fun v H' e ⟨r, ms, h1, _, pm, le, h2⟩ => ⟨r, _, h1, h2, ?_⟩) fun _ _ _ _ h => h) fun v H4 e4 ⟨r, ys, hv, hr, hr2, hy⟩ => ?_
      · rw [sorted_silent pm le gf.1 fun s => ⟨fun h => ⟨gf.2.1 s h, gf.2.2.2 s h⟩, fun h => (silent_closed gf.2.2.1 gf.2.2.2 cl s).mpr h.2⟩, ← nv_map]
      · subst hv hy
        exact fin r H4 (eH.trans e4) (fresh_back eH hr) hr2
end
end K33
/-! text Qh -/
set_option Elab.async false
set_option linter.all false
set_option maxRecDepth 100000
set_option maxHeartbeats 4000000
namespace K33
open PySem PySem.Spec PyProof.Rows L2 Evl
section
variable {P : Program} {w : World} {K : PySem.W.Frag} {mg : Str → Option Value} {base : Heap}
/-- a language: letters l, m states, steps go, members ml -/
def LangAt (K : PySem.W.Frag) (mg : Str → Option Value) (H : Hp) (a : Addr) (l : List Nat) (m : Nat) (go : Nat → Nat → Nat) (ml : List Nat) : Prop := ∃ (dx q1 q2 q3 : Addr) (fs : List (Str × V)) (ds : List Addr), H a = some (.ins (clsOf mg "Language") dx fs) ∧ fs.lookup ("own_signs" : Str) = some (.str (txt l)) ∧ fs.lookup ("goals" : Str) = some (.ref q1) ∧
  fs.lookup ("member_list" : Str) = some (.ref q2) ∧ fs.lookup ("live_list" : Str) = some (.ref q3) ∧ SqT K H q1 (ds.map V.ref) ∧ MRows H ds l m go ∧ SqT K H q2 (ml.map nv) ∧ SqT K H q3 ((silentL (liveR l m go) m ml).map nv)
theorem LangAt.mono {H H' : Hp} {a : Addr} {l : List Nat} {m : Nat} {go : Nat → Nat → Nat} {ml : List Nat} (h : LangAt K mg H a l m go ml) (e : Ex H H') : LangAt K mg H' a l m go ml := by
  obtain ⟨dx, q1, q2, q3, fs, ds, h1, h2, h3, h4, h5, h6, h7, h8, h9⟩ := h
  exact ⟨dx, q1, q2, q3, fs, ds, e _ _ h1, h2, h3, h4, h5, ex_t e h6, h7.mono e, ex_t e h8, ex_t e h9⟩
theorem not_ins {H : Hp} {p a C dx : Addr} {x : HO} {fs : List (Str × V)} (h : H p = some x) (ha : H a = some (.ins C dx fs)) (n : ∀ C dx fs, x ≠ .ins C dx fs) : p ≠ a := fun z => by
  rw [z, ha] at h
  exact n _ _ _ (Option.some.inj h).symm
theorem MRows.del {H : Hp} {ds : List Addr} {l : List Nat} {n : Nat} {go : Nat → Nat → Nat} {a C dx : Addr} {fs : List (Str × V)} (h : MRows H ds l n go) (ha : H a = some (.ins C dx fs)) : MRows (del a H) ds l n go := ⟨h.1, fun i hi => by
  obtain ⟨d, h1, o, h2⟩ := h.2 i hi
  exact ⟨d, h1, o, by rw [del_ne (not_ins h2 ha fun _ _ _ z => by cases z)]; exact h2⟩⟩
theorem tg_flds {cn f1 f2 : Str} {flds : List Str} {σ : L2.St} {H : Hp} {T a dx : Addr} {x y : V} {fs : List (Str × V)} {j : Nat} {k : L2.St → Hp → Prop} (cf : ClassF K mg cn flds) (h1 : f1 ∈ flds) (h2 : f2 ∈ flds) (hT : H T = some (.tup [x, y])) (hσ : σ[j]? = some (some (.ref a))) (ho : H a = some (.ins (clsOf mg cn) dx fs)) (hl : fs.length < 100)
    (hk : k σ (upd (upd H a (.ins (clsOf mg cn) dx (putF f1 x fs))) a (.ins (clsOf mg cn) dx (putF f2 y (putF f1 x fs))))) (hz : (putF f1 x fs).length < 1000) : gTup K 2 (gCons (gFld K (tVar j) f1) (gCons (gFld K (tVar j) f2) gNil)) (.ref T) σ H k :=
  ⟨T, [x, y], rfl, st_of hT, rfl, x, [y], rfl, ⟨.ref a, hσ, a, _, dx, fs, rfl, ho, cf.cls, cf.no f1 h1, by omega, y, [], rfl, ⟨.ref a, hσ, a, _, dx, _, rfl, upd_same, cf.cls, cf.no f2 h2, hz, rfl, hk⟩⟩⟩
theorem q_run {te : TE} {g : TG} {tz : TS} {D : Ends} {σ : L2.St} {H : Hp} {P : V → Hp → Prop} (h : EvP te σ H P) (k : ∀ v H1, Ex H H1 → P v H1 → g v σ H1 (tz D)) : tSeq (tAsg te g) tz D σ H := h H (Ex.refl H) _ k
def spLangInit (K : PySem.W.Frag) (mg : Str → Option Value) : Sp := fun vs H Q _ => ∃ (a dx p q : Addr) (l : List Nat) (n : Nat) (go : Nat → Nat → Nat) (mem : List Nat), vs = [.ref a, .str (txt l), .ref p, .ref q] ∧ H a = some (.ins (clsOf mg "Language") dx []) ∧ McAt K (del a H) p q l n go mem ∧ MOk l n go mem ∧
  ∀ (H' : Hp) (m : Nat) (dl : Nat → Nat → Nat) (ml : List Nat), Ex (del a H) H' → Least l n go mem m dl ml → LangAt K mg H' a l m dl ml → Q .non H'
abbrev N_Language___init__ : List Str := ["self", "signs", "states", "member_states"]
theorem sc_Language___init__ : FnScope N_Language___init__ ["self", "signs", "states", "member_states"] (defScope (inClass (top 52) 1)) := ⟨rfl, rfl, rfl, by decide +kernel, rfl, by decide +kernel, by decide +kernel⟩
theorem ok_Language_init (T : Txt K mg) : ∃ (f : Addr) (fd : FuncData), Mk K (clsOf mg "Language") f ∧ FnOk P w K mg base CX0 5 f fd ["self", "signs", "states", "member_states"] (spLangInit K mg) ∧ Binds K fd ["self", "signs", "states", "member_states"] [] := by
  obtain ⟨f, fd, m, F⟩ := T.Language_init
  refine ⟨f, fd, m, F.ok sc_Language___init__ (fun vs H Q E h => ?_) (fun cdv A outer s H vs Q E hr h => ?_), F.bindsN (fun _ _ _ _ _ _ us hl => match us, hl with | [_, _, _, _], _ => rfl)⟩
  · obtain ⟨_, _, _, _, _, _, _, _, rfl, _⟩ := h
    rfl
  · obtain ⟨a, dx, p, q, l, n, go, mem, rfl, ha, hM, ok, fin⟩ := h
    refine ⟨_, PSs.nox (pss_cons (ps_expr (pe_f (ok_check_machine T) (hr.mono (by decide)) (pa_cons (pv 1) (pa_cons (pv 2) (pa_cons (pv 3) pa_nil)))))
 (pss_cons (ps_fld (pv 0) (pv 1) rfl)
 (pss_cons (ps_asg (pe_f (ok_least_machine T) (hr.mono (by decide)) (pa_cons (pv 1) (pa_cons (pv 2) (pa_cons (pv 3) pa_nil)))) (pg_tup rfl (pgs_cons (pg_fld (K := K) (pv 0)) (pgs_cons (pg_fld (K := K) (pv 0)) pgs_nil))))
 (pss_one (ps_fld (pv 0) (pe_f (ok_live_states T) (hr.mono (by decide)) (pa_cons (pe_fldK (K := K) (pv 0)) (pa_cons (pe_fldK (K := K) (pv 0)) pa_nil))) rfl))))), ?_⟩
    have hM0 := hM.mono (del_le (p := a))
    refine q_drop (v := .non) (ev_callV (ea_cons (ev_var rfl) (ea_cons (ev_var rfl) (ea_cons (ev_var rfl) ea_nil))) fun H1 e Q q' E => ⟨p, q, l, n, go, mem, rfl, hM0.mono e, ok, q'⟩) fun H1 e1 => ?_
    refine q_fld T.Language (by simp) (evp_of (ev_var rfl)) rfl (e1 _ _ ha) (by decide) fun y H2 e2 hy => ?_
    subst hy
    generalize hG : upd H2 a (.ins (clsOf mg "Language") dx (putF "own_signs" (.str (txt l)) [])) = G
    have aG : G a = some (.ins (clsOf mg "Language") dx (putF "own_signs" (.str (txt l)) [])) := by rw [← hG, upd_same]
    have eG : Ex (del a H) (del a G) := by
      rw [← hG, del_upd]
      exact del_ex (e1.trans e2)
    have hMG := (hM.mono eG).mono (del_le (p := a))
    refine q_run (P := fun v H3 => ∃ (m : Nat) (dl : Nat → Nat → Nat) (ml : List Nat) (ds : List Addr) (t q1 q2 : Addr), v = .ref t ∧ Least l n go mem m dl ml ∧ H3 t = some (.tup [.ref q1, .ref q2]) ∧ H3 q1 = some (.tup (ds.map V.ref)) ∧ MRows H3 ds l m dl ∧ H3 q2 = some (.tup (ml.map nv))) (evp_call (ea_of (ea_cons (ev_var rfl) (ea_cons (ev_var rfl) (ea_cons (ev_var rfl) ea_nil)))) fun vs H2 e2 hv => ?_) fun v H3 e3 ⟨m, dl, ml, ds, t, q1, q2, hv, LM, ht, hq1, hds, hq2⟩ => ?_
    · subst hv
      exact fun H3 e3 Q' q' E => ⟨p, q, l, n, go, mem, rfl, hMG.mono (e2.trans e3), ok, fun m dl ml ds t q1 q2 H4 LM e4 _ h1 h2 h3 h4 => q' _ H4 e4 ⟨m, dl, ml, ds, t, q1, q2, rfl, LM, h1, h2, h3, h4⟩⟩
    · subst hv
      have a3 := e3 _ _ aG
      have n1 := not_ins hq1 a3 fun _ _ _ z => by cases z
      have n2 := not_ins hq2 a3 fun _ _ _ z => by cases z
      have hd3 := hds.del a3
      have hq13 : del a H3 q1 = some (.tup (ds.map V.ref)) := by rw [del_ne n1]; exact hq1
      have hq23 : del a H3 q2 = some (.tup (ml.map nv)) := by rw [del_ne n2]; exact hq2
      refine tg_flds T.Language (by simp) (by simp) ht rfl a3 (by show 1 < 100; omega) ?_ (by show 2 < 1000; omega)
      generalize hG2 : upd (upd H3 a _) a _ = G2
      have aG2 : G2 a = some (.ins (clsOf mg "Language") dx (putF "member_list" (.ref q2) (putF "goals" (.ref q1) (putF "own_signs" (.str (txt l)) [])))) := by rw [← hG2, upd_same]
      have dG2 : del a G2 = del a H3 := by rw [← hG2, del_upd, del_upd]
      have le2 : Ex (del a H3) G2 := by rw [← dG2]; exact del_le
      have m6 : m ≤ 6 := Nat.le_trans LM.le ok.six
      refine s_fld T.Language (by simp) (P := fun v H4 => ∃ q3, v = .ref q3 ∧ H4 q3 = some (.tup ((silentL (liveR l m dl) m ml).map nv))) (evp_call (ea_of (ea_cons (ev_fld T.Language (by simp) (ev_var rfl) aG2 (v := .ref q1) rfl) (ea_cons (ev_fld T.Language (by simp) (ev_var rfl) aG2 (v := .ref q2) rfl) ea_nil))) fun vs H4 e4 hv => ?_) rfl aG2 (by show 3 < 1000; omega) fun y H4 e4 ⟨q3, hy, hq3⟩ => ?_
      · subst hv
        exact fun H5 e5 Q' q' E => ⟨q1, q2, ds, l, m, dl, ml, rfl, ex_t ((le2.trans e4).trans e5) (st_of hq13), hd3.mono ((le2.trans e4).trans e5), ex_t ((le2.trans e4).trans e5) (st_of hq23), ok.lok.four, m6, LM.nd, LM.mls, fun r H6 e6 _ h => q' _ H6 e6 ⟨r, rfl, h⟩⟩
      · subst hy
        have n3 := not_ins hq3 (e4 _ _ aG2) fun _ _ _ z => by cases z
        generalize hG3 : upd H4 a _ = G3
        have le3 : Ex (del a H4) G3 := by
          rw [← hG3, ← del_upd]
          exact del_le
        have le4 : Ex (del a H3) G3 := by
          have := del_ex (p := a) e4
          rw [dG2] at this
          exact this.trans le3
        refine fin G3 m dl ml ((eG.trans (del_ex e3)).trans le4) LM ⟨dx, q1, q2, q3, _, ds, by rw [← hG3]; exact upd_same, rfl, rfl, rfl, rfl, ex_t le4 (st_of hq13), hd3.mono le4, ex_t le4 (st_of hq23), ex_t le3 (st_of (by rw [del_ne n3]; exact hq3))⟩
end
end K33
/-! text M2 -/
set_option Elab.async false
set_option linter.all false
set_option maxRecDepth 100000
set_option maxHeartbeats 4000000
/-! the mathematics of the two searches -/
namespace K33
open PySem
/-- words of one length, by letters -/
def lx : List Nat → List Nat → Prop
  | a :: v, b :: w => a < b ∨ (a = b ∧ lx v w)
  | _, _ => False
/-- shorter first, then by letters -/
def sl (v w : List Nat) : Prop := v.length < w.length ∨ (v.length = w.length ∧ lx v w)
theorem lx_irrefl : ∀ v : List Nat, ¬ lx v v
  | [], h => h
  | a :: v, h => by
    rcases h with h | ⟨_, h⟩
    · exact Nat.lt_irrefl a h
    · exact lx_irrefl v h
theorem lx_trans : ∀ {u v w : List Nat}, lx u v → lx v w → lx u w
  | a :: u, b :: v, c :: w, h1, h2 => by
    rcases h1 with h1 | ⟨h1, q1⟩ <;> rcases h2 with h2 | ⟨h2, q2⟩
    · exact .inl (Nat.lt_trans h1 h2)
    · exact .inl (h2 ▸ h1)
    · exact .inl (h1 ▸ h2)
    · exact .inr ⟨h1.trans h2, lx_trans q1 q2⟩
  | [], _, _, h1, _ => h1.elim
  | _ :: _, [], _, h1, _ => h1.elim
  | _ :: _, _ :: _, [], _, h2 => h2.elim
theorem lx_total : ∀ {v w : List Nat}, v.length = w.length → v = w ∨ lx v w ∨ lx w v
  | [], [], _ => .inl rfl
  | a :: v, b :: w, h => by
    rcases Nat.lt_trichotomy a b with q | q | q
    · exact .inr (.inl (.inl q))
    · rcases lx_total (Nat.succ.inj h) with e | e | e
      · exact .inl (by rw [q, e])
      · exact .inr (.inl (.inr ⟨q, e⟩))
      · exact .inr (.inr (.inr ⟨q.symm, e⟩))
    · exact .inr (.inr (.inl q))
  | [], _ :: _, h => by cases h
  | _ :: _, [], h => by cases h
theorem lx_snoc : ∀ {v w : List Nat} {c d : Nat}, v.length = w.length → (lx (v ++ [c]) (w ++ [d]) ↔ lx v w ∨ (v = w ∧ c < d))
  | [], [], c, d, _ => by
    show (c < d ∨ (c = d ∧ False)) ↔ (False ∨ (([] : List Nat) = [] ∧ c < d))
    simp
  | a :: v, b :: w, c, d, h => by
    have ih := lx_snoc (c := c) (d := d) (Nat.succ.inj h)
    show (a < b ∨ (a = b ∧ lx (v ++ [c]) (w ++ [d]))) ↔ ((a < b ∨ (a = b ∧ lx v w)) ∨ (a :: v = b :: w ∧ c < d))
    rw [ih]
    constructor
    · rintro (q | ⟨q, q2 | ⟨q2, q3⟩⟩)
      · exact .inl (.inl q)
      · exact .inl (.inr ⟨q, q2⟩)
      · exact .inr ⟨by rw [q, q2], q3⟩
    · rintro ((q | ⟨q, q2⟩) | ⟨q, q2⟩)
      · exact .inl q
      · exact .inr ⟨q, .inl q2⟩
      · injection q with e1 e2
        exact .inr ⟨e1, .inr ⟨e2, q2⟩⟩
  | [], _ :: _, _, _, h => by cases h
  | _ :: _, [], _, _, h => by cases h
theorem sl_irrefl (v : List Nat) : ¬ sl v v := fun h => by
  rcases h with h | ⟨_, h⟩
  · exact Nat.lt_irrefl _ h
  · exact lx_irrefl v h
theorem sl_trans {u v w : List Nat} (h1 : sl u v) (h2 : sl v w) : sl u w := by
  unfold sl at *
  rcases h1 with h1 | ⟨h1, q1⟩ <;> rcases h2 with h2 | ⟨h2, q2⟩
  · exact .inl (by omega)
  · exact .inl (by omega)
  · exact .inl (by omega)
  · exact .inr ⟨by omega, lx_trans q1 q2⟩
theorem sl_total (v w : List Nat) : v = w ∨ sl v w ∨ sl w v := by
  unfold sl
  rcases Nat.lt_trichotomy v.length w.length with h | h | h
  · exact .inr (.inl (.inl h))
  · rcases lx_total h with e | e | e
    · exact .inl e
    · exact .inr (.inl (.inr ⟨h, e⟩))
    · exact .inr (.inr (.inr ⟨h.symm, e⟩))
  · exact .inr (.inr (.inl h))
def sle (v w : List Nat) : Prop := v = w ∨ sl v w
theorem sle_trans_sl {u v w : List Nat} (h1 : sle u v) (h2 : sl v w) : sl u w := h1.elim (fun e => e ▸ h2) fun h => sl_trans h h2
theorem sle_trans {u v w : List Nat} (h1 : sle u v) (h2 : sle v w) : sle u w := h2.elim (fun e => e ▸ h1) fun h => .inr (sle_trans_sl h1 h)
theorem sl_step {u v : List Nat} (h : sl u v) (c d : Nat) : sl (u ++ [c]) (v ++ [d]) := by
  unfold sl at *
  rw [List.length_append, List.length_append]
  rcases h with h | ⟨h, q⟩
  · exact .inl (by simp; omega)
  · exact .inr ⟨by simp; omega, (lx_snoc h).mpr (.inl q)⟩
theorem sle_step {u v : List Nat} (h : sle u v) (c : Nat) : sle (u ++ [c]) (v ++ [c]) := h.elim (fun e => .inl (by rw [e])) fun h => .inr (sl_step h c c)
theorem sl_same (u : List Nat) {c d : Nat} (h : c < d) : sl (u ++ [c]) (u ++ [d]) := .inr ⟨by simp, (lx_snoc rfl).mpr (.inr ⟨rfl, h⟩)⟩
theorem sl_pre (u : List Nat) (c : Nat) : sl u (u ++ [c]) := .inl (by simp)
theorem sl_nil (u : List Nat) (c : Nat) : sl [] (u ++ [c]) := .inl (by simp)
/-! ### a search over words: letters l, first state s0, steps that are open -/
section
variable {S : Type} (l : List Nat) (s0 : S) (opn : S → Nat → Bool) (nx : S → Nat → S)
def pst (w : List Nat) : S := w.foldl nx s0
/-- words all of whose steps are open -/
inductive Val : List Nat → Prop
  | nil : Val []
  | snoc {u : List Nat} {c : Nat} : Val u → c ∈ l → opn (pst s0 nx u) c = true → Val (u ++ [c])
variable {l s0 opn nx}
theorem pst_snoc (u : List Nat) (c : Nat) : pst s0 nx (u ++ [c]) = nx (pst s0 nx u) c := by
  unfold pst
  rw [List.foldl_append]
  rfl
theorem Val.last {u : List Nat} {c : Nat} (h : Val l s0 opn nx (u ++ [c])) : Val l s0 opn nx u ∧ c ∈ l ∧ opn (pst s0 nx u) c = true := by
  generalize e : u ++ [c] = w at h
  cases h with
  | nil => simp at e
  | @snoc u' c' h1 h2 h3 =>
    obtain ⟨e1, e2⟩ := List.append_inj' e rfl
    subst e1
    cases e2
    exact ⟨h1, h2, h3⟩
/-- no smaller word of the same state -/
def Leastw (w : List Nat) : Prop := Val l s0 opn nx w ∧ ∀ v, Val l s0 opn nx v → pst s0 nx v = pst s0 nx w → ¬ sl v w
/-- covered: a word of Y of the same state, not greater -/
def Cov (Y : List (List Nat)) (v : List Nat) : Prop := ∃ y ∈ Y, pst s0 nx y = pst s0 nx v ∧ sle y v
/-- all words below w are covered when every step from Y below w is -/
theorem cover {Y : List (List Nat)} {B : List Nat → Prop} (down : ∀ u v, sl u v → B v → B u) (nil : B [] → Cov (s0 := s0) (nx := nx) Y []) (val : ∀ y ∈ Y, Val l s0 opn nx y)
    (step : ∀ y ∈ Y, ∀ c ∈ l, opn (pst s0 nx y) c = true → B (y ++ [c]) → Cov (s0 := s0) (nx := nx) Y (y ++ [c])) {v : List Nat} (h : Val l s0 opn nx v) (b : B v) : Cov (s0 := s0) (nx := nx) Y v := by
  induction h with
  | nil => exact nil b
  | @snoc u c hu hc ho ih =>
    obtain ⟨y, hy, e, le⟩ := ih (down _ _ (sl_pre u c) b)
    have le2 := sle_step le c
    have b2 : B (y ++ [c]) := le2.elim (fun z => z ▸ b) fun z => down _ _ z b
    obtain ⟨y2, hy2, e2, le3⟩ := step y hy c hc (by rw [e]; exact ho) b2
    exact ⟨y2, hy2, by rw [e2, pst_snoc, pst_snoc, e], sle_trans le3 le2⟩
end
end K33
/-! text M3 -/
set_option Elab.async false
set_option linter.all false
set_option maxRecDepth 100000
set_option maxHeartbeats 4000000
namespace K33
open PySem
section
variable {S : Type} (l : List Nat) (s0 : S) (opn : S → Nat → Bool) (nx : S → Nat → S)
/-- w is the i-th of the least words -/
def Yword (i : Nat) (w : List Nat) : Prop := Leastw (l := l) (s0 := s0) (opn := opn) (nx := nx) w ∧ ∃ Y : List (List Nat), Y.length = i ∧ Y.Nodup ∧ ∀ v, v ∈ Y ↔ Leastw (l := l) (s0 := s0) (opn := opn) (nx := nx) v ∧ sl v w
/-- a search that drops known states as it takes them up -/
structure QInv (Wt Y : List (List Nat)) (a : Nat) : Prop where
  hat : a ≤ Wt.length
  val : ∀ w ∈ Wt, Val l s0 opn nx w
  inc : Wt.Pairwise sl
  proc : ∀ w ∈ Wt.take a, Cov (s0 := s0) (nx := nx) Y w
  sub : ∀ y ∈ Y, y ∈ Wt.take a
  nd : (Y.map (pst s0 nx)).Nodup
  has : Wt[0]? = some []
  kids : ∀ y ∈ Y, ∀ c ∈ l, opn (pst s0 nx y) c = true → y ++ [c] ∈ Wt
  last : ∀ w ∈ Wt, w = [] ∨ ∃ y ∈ Y, ∃ c, w = y ++ [c]
  yw : ∀ j y, Y[j]? = some y → Yword l s0 opn nx j y
def kidsOf (w : List Nat) : List (List Nat) := (l.filter fun c => opn (pst s0 nx w) c).map fun c => w ++ [c]
variable {l s0 opn nx}
theorem yword_uniq {i : Nat} {w w' : List Nat} (h : Yword l s0 opn nx i w) (h' : Yword l s0 opn nx i w') : w = w' := by
  have key : ∀ {w w' : List Nat}, Yword l s0 opn nx i w → Yword l s0 opn nx i w' → ¬ sl w w' := by
    rintro w w' ⟨lw, Y, y1, y2, y3⟩ ⟨lw', Y', z1, z2, z3⟩ h
    have := nd_len (l := w :: Y) (m := Y') (List.nodup_cons.mpr ⟨fun hm => sl_irrefl w ((y3 w).mp hm).2, y2⟩) fun v hv => by
      rcases List.mem_cons.mp hv with e | hv
      · exact (z3 v).mpr ⟨e ▸ lw, e ▸ h⟩
      · exact (z3 v).mpr ⟨((y3 v).mp hv).1, sl_trans ((y3 v).mp hv).2 h⟩
    rw [List.length_cons] at this
    omega
  rcases sl_total w w' with e | e | e
  · exact e
  · exact absurd e (key h h')
  · exact absurd e (key h' h)
theorem q_start : QInv l s0 opn nx [[]] [] 0 := ⟨Nat.zero_le _, fun w hw => by rw [List.mem_singleton.mp hw]; exact .nil, by simp, fun w hw => (by simp at hw), fun y hy => (by cases hy), List.nodup_nil, rfl, fun y hy => (by cases hy), fun w hw => .inl (List.mem_singleton.mp hw), fun j y hy => (by simp at hy)⟩
theorem take_mem {α : Type} {l : List α} {a i : Nat} {x : α} (h : l[i]? = some x) (hi : i < a) : x ∈ l.take a :=
  List.mem_of_getElem? (i := i) (by rw [List.getElem?_take, if_pos hi]; exact h)
theorem inc_take {Wt : List (List Nat)} (inc : Wt.Pairwise sl) {a : Nat} {w v : List Nat} (hw : Wt[a]? = some w) (hv : v ∈ Wt) (h : sl v w) : v ∈ Wt.take a := by
  obtain ⟨i, hi⟩ := List.mem_iff_getElem?.mp hv
  by_cases q : i < a
  · exact take_mem hi q
  · have hil := (List.getElem?_eq_some_iff.mp hi)
    have hwl := (List.getElem?_eq_some_iff.mp hw)
    obtain ⟨h1, e1⟩ := hil
    obtain ⟨h2, e2⟩ := hwl
    rcases Nat.lt_or_ge a i with q2 | q2
    · have := List.pairwise_iff_getElem.mp inc a i h2 h1 q2
      rw [e1, e2] at this
      exact absurd (sl_trans h this) (sl_irrefl v)
    · have : i = a := by omega
      subst this
      rw [hi] at hw
      cases hw
      exact absurd h (sl_irrefl _)
theorem take_inc {Wt : List (List Nat)} (inc : Wt.Pairwise sl) {a : Nat} {w v : List Nat} (hw : Wt[a]? = some w) (hv : v ∈ Wt.take a) : sl v w := by
  obtain ⟨i, hi⟩ := List.mem_iff_getElem?.mp hv
  have hia : i < a := by have := (List.getElem?_eq_some_iff.mp hi).1; rw [List.length_take] at this; omega
  rw [List.getElem?_take, if_pos hia] at hi
  obtain ⟨h1, e1⟩ := List.getElem?_eq_some_iff.mp hi
  obtain ⟨h2, e2⟩ := List.getElem?_eq_some_iff.mp hw
  have := List.pairwise_iff_getElem.mp inc i a h1 h2 hia
  rw [e1, e2] at this
  exact this
theorem QInv.below {Wt Y : List (List Nat)} {a : Nat} (q : QInv l s0 opn nx Wt Y a) {w : List Nat} (hw : Wt[a]? = some w) {v : List Nat} (hv : Val l s0 opn nx v) (h : sl v w) : Cov (s0 := s0) (nx := nx) Y v := by
  refine cover (l := l) (opn := opn) (B := fun v => sl v w) (fun _ _ a b => sl_trans a b) (fun b => q.proc _ (inc_take q.inc hw (List.mem_of_getElem? q.has) b)) (fun y hy => q.val y (List.mem_of_mem_take (q.sub y hy))) (fun y hy c hc ho b => q.proc _ (inc_take q.inc hw (q.kids y hy c hc ho) b)) hv h
theorem QInv.all {Wt Y : List (List Nat)} {a : Nat} (q : QInv l s0 opn nx Wt Y a) (ha : ¬ a < Wt.length) {v : List Nat} (hv : Val l s0 opn nx v) : Cov (s0 := s0) (nx := nx) Y v := by
  have e : Wt.take a = Wt := List.take_of_length_le (by omega)
  have pr : ∀ w ∈ Wt, Cov (s0 := s0) (nx := nx) Y w := fun w hw => q.proc w (by rw [e]; exact hw)
  exact cover (l := l) (opn := opn) (B := fun _ => True) (fun _ _ _ _ => trivial) (fun _ => pr _ (List.mem_of_getElem? q.has)) (fun y hy => q.val y (List.mem_of_mem_take (q.sub y hy))) (fun y hy c hc ho _ => pr _ (q.kids y hy c hc ho)) hv trivial
theorem take_succ' {α : Type} {l : List α} {a : Nat} {x : α} (h : l[a]? = some x) : l.take (a + 1) = l.take a ++ [x] := by
  rw [List.take_succ, h]
  rfl
theorem QInv.old {Wt Y : List (List Nat)} {a : Nat} (q : QInv l s0 opn nx Wt Y a) {w : List Nat} (hw : Wt[a]? = some w) (h : pst s0 nx w ∈ Y.map (pst s0 nx)) : QInv l s0 opn nx Wt Y (a + 1) := by
  have ha := (List.getElem?_eq_some_iff.mp hw).1
  refine ⟨ha, q.val, q.inc, fun v hv => ?_, fun y hy => ?_, q.nd, q.has, q.kids, q.last, q.yw⟩
  · rw [take_succ' hw] at hv
    rcases List.mem_append.mp hv with hv | hv
    · exact q.proc v hv
    · rw [List.mem_singleton.mp hv]
      obtain ⟨y, hy, e⟩ := List.mem_map.mp h
      exact ⟨y, hy, e, .inr (take_inc q.inc hw (q.sub y hy))⟩
  · rw [take_succ' hw]
    exact List.mem_append_left _ (q.sub y hy)
theorem QInv.least {Wt Y : List (List Nat)} {a : Nat} (q : QInv l s0 opn nx Wt Y a) {w : List Nat} (hw : Wt[a]? = some w) (h : pst s0 nx w ∉ Y.map (pst s0 nx)) : Yword l s0 opn nx Y.length w := by
  have lw : Leastw (l := l) (s0 := s0) (opn := opn) (nx := nx) w := ⟨q.val w (List.mem_of_getElem? hw), fun v hv e hs => by
    obtain ⟨y, hy, e2, _⟩ := q.below hw hv hs
    exact h (List.mem_map.mpr ⟨y, hy, e2.trans e⟩)⟩
  refine ⟨lw, Y, rfl, List.Pairwise.of_map (pst s0 nx) (fun a b h e => h (congrArg _ e)) q.nd, fun v => ⟨fun hv => ?_, fun ⟨hv, hs⟩ => ?_⟩⟩
  · obtain ⟨j, hj⟩ := List.mem_iff_getElem?.mp hv
    exact ⟨(q.yw j v hj).1, take_inc q.inc hw (q.sub v hv)⟩
  · obtain ⟨y, hy, e, le⟩ := q.below hw hv.1 hs
    rcases le with le | le
    · exact le ▸ hy
    · exact absurd le (hv.2 y (q.val y (List.mem_of_mem_take (q.sub y hy))) e)
theorem QInv.new {Wt Y : List (List Nat)} {a : Nat} (up : l.Pairwise (· < ·)) (q : QInv l s0 opn nx Wt Y a) {w : List Nat} (hw : Wt[a]? = some w) (h : pst s0 nx w ∉ Y.map (pst s0 nx)) : QInv l s0 opn nx (Wt ++ kidsOf l s0 opn nx w) (Y ++ [w]) (a + 1) := by
  have ha := (List.getElem?_eq_some_iff.mp hw).1
  have tk : (Wt ++ kidsOf l s0 opn nx w).take (a + 1) = Wt.take a ++ [w] := by
    rw [List.take_append_of_le_length ha, take_succ' hw]
  have vw := q.val w (List.mem_of_getElem? hw)
  refine ⟨by rw [List.length_append]; omega, fun v hv => ?_, ?_, fun v hv => ?_, fun y hy => ?_, ?_, ?_, fun y hy c hc ho => ?_, fun v hv => ?_, fun j y hj => ?_⟩
  · rcases List.mem_append.mp hv with hv | hv
    · exact q.val v hv
    · obtain ⟨c, hc, rfl⟩ := List.mem_map.mp hv
      obtain ⟨h1, h2⟩ := List.mem_filter.mp hc
      exact .snoc vw h1 h2
  · rw [List.pairwise_append]
    refine ⟨q.inc, ?_, fun v hv u hu => ?_⟩
    · unfold kidsOf
      rw [List.pairwise_map]
      exact (up.filter _).imp fun h => sl_same w h
    · obtain ⟨c, hc, rfl⟩ := List.mem_map.mp hu
      rcases q.last v hv with e | ⟨y, hy, d, e⟩
      · rw [e]
        exact sl_nil w c
      · rw [e]
        exact sl_step (take_inc q.inc hw (q.sub y hy)) d c
  · rw [tk] at hv
    rcases List.mem_append.mp hv with hv | hv
    · obtain ⟨y, hy, e⟩ := q.proc v hv
      exact ⟨y, List.mem_append_left _ hy, e⟩
    · rw [List.mem_singleton.mp hv]
      exact ⟨w, by simp, rfl, .inl rfl⟩
  · rw [tk]
    rcases List.mem_append.mp hy with hy | hy
    · exact List.mem_append_left _ (q.sub y hy)
    · exact List.mem_append_right _ hy
  · rw [List.map_append, List.nodup_append]
    refine ⟨q.nd, by simp, fun x hx z hz => ?_⟩
    rw [List.map_cons, List.map_nil, List.mem_singleton] at hz
    rw [hz]
    exact fun e => h (e ▸ hx)
  · rw [List.getElem?_append_left (by omega)]
    exact q.has
  · rcases List.mem_append.mp hy with hy | hy
    · exact List.mem_append_left _ (q.kids y hy c hc ho)
    · rw [List.mem_singleton.mp hy] at ho ⊢
      exact List.mem_append_right _ (List.mem_map.mpr ⟨c, List.mem_filter.mpr ⟨hc, ho⟩, rfl⟩)
  · rcases List.mem_append.mp hv with hv | hv
    · rcases q.last v hv with e | ⟨y, hy, d, e⟩
      · exact .inl e
      · exact .inr ⟨y, List.mem_append_left _ hy, d, e⟩
    · obtain ⟨c, hc, rfl⟩ := List.mem_map.mp hv
      exact .inr ⟨w, by simp, c, rfl⟩
  · by_cases hlt : j < Y.length
    · rw [List.getElem?_append_left hlt] at hj
      exact q.yw j y hj
    · have : j = Y.length := by
        have := (List.getElem?_eq_some_iff.mp hj).1
        simp at this
        omega
      subst this
      obtain rfl : w = y := by simpa using hj
      exact q.least hw h
/-! ### what is found -/
variable (l s0 opn nx) in
/-- the least word that is bad, if any is -/
def Found (bad : S → Prop) : Option (List Nat) → Prop
  | some w => Val l s0 opn nx w ∧ bad (pst s0 nx w) ∧ ∀ v, Val l s0 opn nx v → bad (pst s0 nx v) → ¬ sl v w
  | none => ∀ v, Val l s0 opn nx v → ¬ bad (pst s0 nx v)
/-! ### a search that drops known states as it puts them down -/
variable (l s0 opn nx) in
structure FInv (F : List (List Nat)) (a i : Nat) (w : List Nat) : Prop where
  val : ∀ w ∈ F, Val l s0 opn nx w
  inc : F.Pairwise sl
  nd : (F.map (pst s0 nx)).Nodup
  has : F[0]? = some []
  kids : ∀ y ∈ F.take a, ∀ c ∈ l, opn (pst s0 nx y) c = true → Cov (s0 := s0) (nx := nx) F (y ++ [c])
  now : ∀ c ∈ l.take i, opn (pst s0 nx w) c = true → Cov (s0 := s0) (nx := nx) F (w ++ [c])
  last : ∀ v ∈ F, v = [] ∨ (∃ y ∈ F.take a, ∃ c, v = y ++ [c]) ∨ ∃ c ∈ l.take i, v = w ++ [c]
theorem Cov.more {F G : List (List Nat)} {v : List Nat} (h : Cov (s0 := s0) (nx := nx) F v) (sub : ∀ x ∈ F, x ∈ G) : Cov (s0 := s0) (nx := nx) G v := by
  obtain ⟨y, hy, e⟩ := h
  exact ⟨y, sub y hy, e⟩
theorem f_start : FInv l s0 opn nx [[]] 0 0 [] := ⟨fun w hw => by rw [List.mem_singleton.mp hw]; exact .nil, by simp, by simp, rfl, fun y hy => (by simp at hy), fun c hc => (by simp at hc), fun v hv => .inl (List.mem_singleton.mp hv)⟩
/-- all that stands is below the next child -/
theorem FInv.lt {F : List (List Nat)} {a i : Nat} {w : List Nat} {c : Nat} (up : l.Pairwise (· < ·)) (q : FInv l s0 opn nx F a i w) (hw : F[a]? = some w) (hc : l[i]? = some c) {v : List Nat} (hv : v ∈ F) : sl v (w ++ [c]) := by
  rcases q.last v hv with e | ⟨y, hy, d, e⟩ | ⟨d, hd, e⟩
  · rw [e]
    exact sl_nil w c
  · rw [e]
    exact sl_step (take_inc q.inc hw hy) d c
  · rw [e]
    refine sl_same w ?_
    obtain ⟨j, hj⟩ := List.mem_iff_getElem?.mp hd
    have hji : j < i := by have := (List.getElem?_eq_some_iff.mp hj).1; rw [List.length_take] at this; omega
    rw [List.getElem?_take, if_pos hji] at hj
    obtain ⟨h1, e1⟩ := List.getElem?_eq_some_iff.mp hj
    obtain ⟨h2, e2⟩ := List.getElem?_eq_some_iff.mp hc
    have := List.pairwise_iff_getElem.mp up j i h1 h2 hji
    rw [e1, e2] at this
    exact this
theorem FInv.keep {F : List (List Nat)} {a i : Nat} {w : List Nat} {c : Nat} (up : l.Pairwise (· < ·)) (q : FInv l s0 opn nx F a i w) (hw : F[a]? = some w) (hc : l[i]? = some c) (h : opn (pst s0 nx w) c = true → nx (pst s0 nx w) c ∈ F.map (pst s0 nx)) : FInv l s0 opn nx F a (i + 1) w := by
  refine ⟨q.val, q.inc, q.nd, q.has, q.kids, fun d hd ho => ?_, fun v hv => ?_⟩
  · rw [take_succ' hc] at hd
    rcases List.mem_append.mp hd with hd | hd
    · exact q.now d hd ho
    · rw [List.mem_singleton.mp hd] at ho ⊢
      obtain ⟨f, hf, e⟩ := List.mem_map.mp (h ho)
      exact ⟨f, hf, by rw [e, pst_snoc], .inr (q.lt up hw hc hf)⟩
  · rw [take_succ' hc]
    rcases q.last v hv with e | e | ⟨d, hd, e⟩
    · exact .inl e
    · exact .inr (.inl e)
    · exact .inr (.inr ⟨d, List.mem_append_left _ hd, e⟩)
theorem FInv.add {F : List (List Nat)} {a i : Nat} {w : List Nat} {c : Nat} (up : l.Pairwise (· < ·)) (q : FInv l s0 opn nx F a i w) (hw : F[a]? = some w) (hc : l[i]? = some c) (ho : opn (pst s0 nx w) c = true) (h : nx (pst s0 nx w) c ∉ F.map (pst s0 nx)) : FInv l s0 opn nx (F ++ [w ++ [c]]) a (i + 1) w := by
  have ha := (List.getElem?_eq_some_iff.mp hw).1
  have tk : (F ++ [w ++ [c]]).take a = F.take a := List.take_append_of_le_length (Nat.le_of_lt ha)
  refine ⟨fun v hv => ?_, ?_, ?_, ?_, fun y hy d hd ho => ?_, fun d hd ho2 => ?_, fun v hv => ?_⟩
  · rcases List.mem_append.mp hv with hv | hv
    · exact q.val v hv
    · rw [List.mem_singleton.mp hv]
      exact .snoc (q.val w (List.mem_of_getElem? hw)) (List.mem_of_getElem? hc) ho
  · rw [List.pairwise_append]
    exact ⟨q.inc, by simp, fun v hv u hu => by rw [List.mem_singleton.mp hu]; exact q.lt up hw hc hv⟩
  · rw [List.map_append, List.nodup_append]
    refine ⟨q.nd, by simp, fun x hx z hz => ?_⟩
    rw [List.map_cons, List.map_nil, List.mem_singleton, pst_snoc] at hz
    rw [hz]
    exact fun e => h (e ▸ hx)
  · rw [List.getElem?_append_left (by omega)]
    exact q.has
  · rw [tk] at hy
    exact (q.kids y hy d hd ho).more fun x hx => List.mem_append_left _ hx
  · rw [take_succ' hc] at hd
    rcases List.mem_append.mp hd with hd | hd
    · exact (q.now d hd ho2).more fun x hx => List.mem_append_left _ hx
    · rw [List.mem_singleton.mp hd]
      exact ⟨w ++ [c], by simp, rfl, .inl rfl⟩
  · rw [tk, take_succ' hc]
    rcases List.mem_append.mp hv with hv | hv
    · rcases q.last v hv with e | e | ⟨d, hd, e⟩
      · exact .inl e
      · exact .inr (.inl e)
      · exact .inr (.inr ⟨d, List.mem_append_left _ hd, e⟩)
    · rw [List.mem_singleton.mp hv]
      exact .inr (.inr ⟨c, by simp, rfl⟩)
/-- the next word is taken up -/
theorem FInv.next {F : List (List Nat)} {a : Nat} {w w' : List Nat} (q : FInv l s0 opn nx F a l.length w) (hw : F[a]? = some w) : FInv l s0 opn nx F (a + 1) 0 w' := by
  refine ⟨q.val, q.inc, q.nd, q.has, fun y hy c hc ho => ?_, fun c hc => (by simp at hc), fun v hv => ?_⟩
  · rw [take_succ' hw] at hy
    rcases List.mem_append.mp hy with hy | hy
    · exact q.kids y hy c hc ho
    · rw [List.mem_singleton.mp hy] at ho ⊢
      exact q.now c (by rw [List.take_length]; exact hc) ho
  · rw [take_succ' hw]
    rcases q.last v hv with e | ⟨y, hy, e⟩ | ⟨d, hd, e⟩
    · exact .inl e
    · exact .inr (.inl ⟨y, List.mem_append_left _ hy, e⟩)
    · exact .inr (.inl ⟨w, by simp, d, e⟩)
theorem FInv.found {F : List (List Nat)} {a : Nat} {w w' : List Nat} {bad : S → Prop} (q : FInv l s0 opn nx F a 0 w') (hw : F[a]? = some w) (no : ∀ y ∈ F.take a, ¬ bad (pst s0 nx y)) (hb : bad (pst s0 nx w)) : Found l s0 opn nx bad (some w) := by
  refine ⟨q.val w (List.mem_of_getElem? hw), hb, fun v hv hbv h => ?_⟩
  have tv : ∀ y ∈ F.take a, Val l s0 opn nx y := fun y hy => q.val y (List.mem_of_mem_take hy)
  have cv : Cov (s0 := s0) (nx := nx) (F.take a) v := by
    refine cover (l := l) (opn := opn) (B := fun v => sl v w) (fun _ _ a b => sl_trans a b) (fun b => ⟨[], inc_take q.inc hw (List.mem_of_getElem? q.has) b, rfl, .inl rfl⟩) tv (fun y hy c hc ho b => ?_) hv h
    obtain ⟨f, hf, e, le⟩ := q.kids y hy c hc ho
    exact ⟨f, inc_take q.inc hw hf (sle_trans_sl le b), e, le⟩
  obtain ⟨y, hy, e, _⟩ := cv
  exact no y hy (by rw [e]; exact hbv)
theorem FInv.none {F : List (List Nat)} {a : Nat} {w' : List Nat} {bad : S → Prop} (q : FInv l s0 opn nx F a 0 w') (ha : F.length ≤ a) (no : ∀ y ∈ F, ¬ bad (pst s0 nx y)) : Found l s0 opn nx bad none := by
  intro v hv hb
  have e : F.take a = F := List.take_of_length_le ha
  have cv : Cov (s0 := s0) (nx := nx) F v :=
    cover (l := l) (opn := opn) (B := fun _ => True) (fun _ _ _ _ => trivial) (fun _ => ⟨[], List.mem_of_getElem? q.has, rfl, .inl rfl⟩) q.val (fun y hy c hc ho _ => q.kids y (by rw [e]; exact hy) c hc ho) hv trivial
  obtain ⟨y, hy, e, _⟩ := cv
  exact no y hy (by rw [e]; exact hb)
end
end K33
/-! text M4 -/
set_option Elab.async false
set_option linter.all false
set_option maxRecDepth 100000
set_option maxHeartbeats 4000000
namespace K33
open PySem
section
variable {S : Type} {l : List Nat} {s0 : S} {opn : S → Nat → Bool} {nx : S → Nat → S}
variable (l s0 opn nx) in
/-- what one is told of the i-th word -/
def Turn (i : Nat) (w : List Nat) : Prop := Yword l s0 opn nx i w ∧ ∀ v, Val l s0 opn nx v → sl v w → ∃ y j, j < i ∧ Yword l s0 opn nx j y ∧ pst s0 nx y = pst s0 nx v
variable (l s0 opn nx) in
def Last (i : Nat) : Prop := ∀ v, Val l s0 opn nx v → ∃ y j, j < i ∧ Yword l s0 opn nx j y ∧ pst s0 nx y = pst s0 nx v
theorem QInv.turn {Wt Y : List (List Nat)} {a : Nat} (q : QInv l s0 opn nx Wt Y a) {w : List Nat} (hw : Wt[a]? = some w) (h : pst s0 nx w ∉ Y.map (pst s0 nx)) : Turn l s0 opn nx Y.length w := ⟨q.least hw h, fun v hv hs => by
  obtain ⟨y, hy, e, _⟩ := q.below hw hv hs
  obtain ⟨j, hj⟩ := List.mem_iff_getElem?.mp hy
  exact ⟨y, j, (List.getElem?_eq_some_iff.mp hj).1, q.yw j y hj, e⟩⟩
theorem QInv.end_ {Wt Y : List (List Nat)} {a : Nat} (q : QInv l s0 opn nx Wt Y a) (ha : ¬ a < Wt.length) : Last l s0 opn nx Y.length := fun v hv => by
  obtain ⟨y, hy, e, _⟩ := q.all ha hv
  obtain ⟨j, hj⟩ := List.mem_iff_getElem?.mp hy
  exact ⟨y, j, (List.getElem?_eq_some_iff.mp hj).1, q.yw j y hj, e⟩
theorem found_turn {bad : S → Prop} {i : Nat} {w : List Nat} (t : Turn l s0 opn nx i w) (no : ∀ j < i, ∀ y, Yword l s0 opn nx j y → ¬ bad (pst s0 nx y)) (hb : bad (pst s0 nx w)) : Found l s0 opn nx bad (some w) := ⟨t.1.1.1, hb, fun v hv hbv hs => by
  obtain ⟨y, j, hj, hy, e⟩ := t.2 v hv hs
  exact no j hj y hy (by rw [e]; exact hbv)⟩
theorem found_last {bad : S → Prop} {i : Nat} (t : Last l s0 opn nx i) (no : ∀ j < i, ∀ y, Yword l s0 opn nx j y → ¬ bad (pst s0 nx y)) : Found l s0 opn nx bad none := fun v hv hb => by
  obtain ⟨y, j, hj, hy, e⟩ := t v hv
  exact no j hj y hy (by rw [e]; exact hb)
theorem no_more {bad : S → Prop} {i : Nat} {w : List Nat} (t : Turn l s0 opn nx i w) (no : ∀ j < i, ∀ y, Yword l s0 opn nx j y → ¬ bad (pst s0 nx y)) (hb : ¬ bad (pst s0 nx w)) : ∀ j < i + 1, ∀ y, Yword l s0 opn nx j y → ¬ bad (pst s0 nx y) := fun j hj y hy => by
  rcases Nat.lt_succ_iff_lt_or_eq.mp hj with h | h
  · exact no j h y hy
  · subst h
    rw [yword_uniq hy t.1]
    exact hb
open Classical in
theorem QInv.few {Wt Y : List (List Nat)} {a : Nat} (q : QInv l s0 opn nx Wt Y a) {U : List S} (hU : ∀ w, Val l s0 opn nx w → pst s0 nx w ∈ U) : Y.length ≤ U.length := by
  have := nd_len q.nd (m := U) fun x hx => by
    obtain ⟨y, hy, rfl⟩ := List.mem_map.mp hx
    exact hU y (q.val y (List.mem_of_mem_take (q.sub y hy)))
  rw [List.length_map] at this
  exact this
open Classical in
theorem FInv.few {F : List (List Nat)} {a i : Nat} {w : List Nat} (q : FInv l s0 opn nx F a i w) {U : List S} (hU : ∀ w, Val l s0 opn nx w → pst s0 nx w ∈ U) : F.length ≤ U.length := by
  have := nd_len q.nd (m := U) fun x hx => by
    obtain ⟨y, hy, rfl⟩ := List.mem_map.mp hx
    exact hU y (q.val y hy)
  rw [List.length_map] at this
  exact this
end
/-! ### readers and machines -/
abbrev Pst := Nat × List Nat
section
variable (M : Rel3) (n s : Nat) (l : List Nat) (go : Nat → Nat → Nat) (lv : List Nat)
noncomputable def pS0 : Pst := (0, silentL M n [s])
def pOpn (p : Pst) (c : Nat) : Bool := decide (go p.1 c ∈ lv)
noncomputable def pNx (p : Pst) (c : Nat) : Pst := (go p.1 c, stepL M n p.2 (sg c))
variable {M n s l go lv}
theorem pst_pair (w : List Nat) : pst (pS0 M n s) (pNx M n go) w = (run go 0 w, lastL M n s w) := by
  have key : ∀ (w : List Nat) (k : Nat) (xs : List Nat), w.foldl (pNx M n go) (k, xs) = (run go k w, w.foldl (fun S c => stepL M n S (sg c)) xs) := by
    intro w
    induction w with
    | nil => exact fun _ _ => rfl
    | cons c w ih =>
      intro k xs
      rw [List.foldl_cons, List.foldl_cons]
      exact ih _ _
  exact key w 0 _
/-- from k the members can be reached -/
def LiveP (l : List Nat) (go : Nat → Nat → Nat) (ml : List Nat) (k : Nat) : Prop := ∃ z : List Nat, (∀ c ∈ z, c ∈ l) ∧ run go k z ∈ ml
theorem live_iff {m : Nat} {ml : List Nat} (ins : ∀ j < m, ∀ c ∈ l, go j c < m) {k : Nat} (hk : k < m) : Sil (liveR l m go) ml k ↔ LiveP l go ml k := by
  constructor
  · intro h
    clear hk
    induction h with
    | base h => exact ⟨[], fun c hc => (by cases hc), h⟩
    | step _ h ih =>
      obtain ⟨_, _, c, hc, e⟩ := h
      obtain ⟨z, h1, h2⟩ := ih
      refine ⟨c :: z, fun d hd => ?_, ?_⟩
      · rcases List.mem_cons.mp hd with e | hd
        · exact e ▸ hc
        · exact h1 d hd
      · unfold run at *
        rw [List.foldl_cons, e]
        exact h2
  · rintro ⟨z, h1, h2⟩
    revert k
    induction z with
    | nil => exact fun _ h2 => .base h2
    | cons c z ih =>
      intro k hk h2
      have hc := h1 c List.mem_cons_self
      exact .step (ih (fun d hd => h1 d (List.mem_cons_of_mem _ hd)) (ins k hk c hc) h2) ⟨rfl, hk, c, hc, rfl⟩
theorem run_snoc (k : Nat) (w : List Nat) (c : Nat) : run go k (w ++ [c]) = go (run go k w) c := by
  unfold run
  rw [List.foldl_append]
  rfl
theorem run_app (k : Nat) (w z : List Nat) : run go k (w ++ z) = run go (run go k w) z := List.foldl_append
theorem run_in {m : Nat} (ins : ∀ j < m, ∀ c ∈ l, go j c < m) {k : Nat} (hk : k < m) {w : List Nat} (hw : ∀ c ∈ w, c ∈ l) : run go k w < m := by
  induction w generalizing k with
  | nil => exact hk
  | cons c w ih => exact ih (ins k hk c (hw c List.mem_cons_self)) fun d hd => hw d (List.mem_cons_of_mem _ hd)
/-- the answer, by the language alone -/
def Ans (l : List Nat) (lang good : List Nat → Prop) : Option (List Nat) → Prop
  | some w => (∀ c ∈ w, c ∈ l) ∧ lang w ∧ ¬ good w ∧ ∀ v : List Nat, (∀ c ∈ v, c ∈ l) → lang v → ¬ good v → ¬ sl v w
  | none => ∀ v : List Nat, (∀ c ∈ v, c ∈ l) → lang v → good v
theorem Ans.uniq {lang good : List Nat → Prop} {r r' : Option (List Nat)} (h : Ans l lang good r) (h' : Ans l lang good r') : r = r' := by
  cases r with
  | none => cases r' with
    | none => rfl
    | some w => exact absurd (h w h'.1 h'.2.1) h'.2.2.1
  | some v => cases r' with
    | none => exact absurd (h' v h.1 h.2.1) h.2.2.1
    | some w =>
      rcases sl_total v w with e | e | e
      · rw [e]
      · exact absurd e (h'.2.2.2 v h.1 h.2.1 h.2.2.1)
      · exact absurd e (h.2.2.2 w h'.1 h'.2.1 h'.2.2.1)
theorem Ans.congr {lang good lang' good' : List Nat → Prop} {r : Option (List Nat)} (h : Ans l lang good r) (e1 : ∀ w, (∀ c ∈ w, c ∈ l) → (lang w ↔ lang' w)) (e2 : ∀ w, (∀ c ∈ w, c ∈ l) → (good w ↔ good' w)) : Ans l lang' good' r := by
  cases r with
  | none => exact fun v h1 h2 => (e2 v h1).mp (h v h1 ((e1 v h1).mpr h2))
  | some w => exact ⟨h.1, (e1 w h.1).mp h.2.1, fun g => h.2.2.1 ((e2 w h.1).mpr g), fun v h1 h2 h3 => h.2.2.2 v h1 ((e1 v h1).mpr h2) fun g => h3 ((e2 v h1).mp g)⟩
theorem val_iff {m : Nat} {ml : List Nat} (ins : ∀ j < m, ∀ c ∈ l, go j c < m) (hm : 0 < m) (hlv : ∀ k, k < m → (k ∈ lv ↔ LiveP l go ml k)) (h0 : 0 ∈ lv) (w : List Nat) : Val l (pS0 M n s) (pOpn go lv) (pNx M n go) w ↔ (∀ c ∈ w, c ∈ l) ∧ LiveP l go ml (run go 0 w) := by
  constructor
  · intro h
    induction h with
    | nil => exact ⟨fun c hc => (by cases hc), (hlv 0 hm).mp h0⟩
    | @snoc u c hu hc ho ih =>
      have ov : ∀ d ∈ u ++ [c], d ∈ l := fun d hd => by
        rcases List.mem_append.mp hd with hd | hd
        · exact ih.1 d hd
        · rw [List.mem_singleton.mp hd]
          exact hc
      refine ⟨ov, ?_⟩
      rw [pst_pair] at ho
      have q : go (run go 0 u) c ∈ lv := of_decide_eq_true ho
      rw [run_snoc]
      exact (hlv _ (by rw [← run_snoc (go := go)]; exact run_in ins hm ov)).mp q
  · rintro ⟨ov, lp⟩
    have key : ∀ (k : Nat) (w : List Nat), w.length = k → (∀ c ∈ w, c ∈ l) → LiveP l go ml (run go 0 w) → Val l (pS0 M n s) (pOpn go lv) (pNx M n go) w := by
      intro k
      induction k with
      | zero =>
        intro w hw _ _
        rw [List.eq_nil_of_length_eq_zero hw]
        exact .nil
      | succ k ih =>
        intro w hw ov lp
        rcases List.eq_nil_or_concat w with e | ⟨u, c, e⟩
        · rw [e] at hw
          cases hw
        · rw [List.concat_eq_append] at e
          subst e
          have ovu : ∀ d ∈ u, d ∈ l := fun d hd => ov d (List.mem_append_left _ hd)
          have hc : c ∈ l := ov c (by simp)
          obtain ⟨z, h1, h2⟩ := lp
          rw [run_snoc] at h2
          refine .snoc (ih u (by simpa using hw) ovu ⟨c :: z, fun d hd => (List.mem_cons.mp hd).elim (fun e => e ▸ hc) (h1 d), h2⟩) hc ?_
          rw [pst_pair]
          exact decide_eq_true ((hlv _ (by rw [← run_snoc (go := go)]; exact run_in ins hm ov)).mpr ⟨z, h1, h2⟩)
    exact key w.length w rfl ov lp
theorem ans_of {m : Nat} {ml bs : List Nat} (ins : ∀ j < m, ∀ c ∈ l, go j c < m) (hm : 0 < m) (hlv : ∀ k, k < m → (k ∈ lv ↔ LiveP l go ml k)) (h0 : 0 ∈ lv) {good : List Nat → Prop} {bad : Pst → Prop} (hb : ∀ w, bad (run go 0 w, lastL M n s w) ↔ run go 0 w ∈ ml ∧ ¬ good w) {r : Option (List Nat)} (h : Found l (pS0 M n s) (pOpn go lv) (pNx M n go) bad r) : Ans l (fun w => run go 0 w ∈ ml) good r := by
  have vi := val_iff (M := M) (n := n) (s := s) ins hm hlv h0
  have self : ∀ v : List Nat, run go 0 v ∈ ml → LiveP l go ml (run go 0 v) := fun v h => ⟨[], fun c hc => (by cases hc), h⟩
  cases r with
  | none =>
    intro v ov lg
    refine Classical.byContradiction fun g => ?_
    refine h v ((vi v).mpr ⟨ov, self v lg⟩) ?_
    rw [pst_pair]
    exact (hb v).mpr ⟨lg, g⟩
  | some w =>
    obtain ⟨h1, h2, h3⟩ := h
    rw [pst_pair] at h2
    obtain ⟨b1, b2⟩ := (hb w).mp h2
    refine ⟨((vi w).mp h1).1, b1, b2, fun v ov lg g => h3 v ((vi v).mpr ⟨ov, self v lg⟩) ?_⟩
    rw [pst_pair]
    exact (hb v).mpr ⟨lg, g⟩
theorem ans_dead {m : Nat} {ml : List Nat} (hm : 0 < m) (hlv : ∀ k, k < m → (k ∈ lv ↔ LiveP l go ml k)) (h0 : 0 ∉ lv) {good : List Nat → Prop} : Ans l (fun w => run go 0 w ∈ ml) good none := fun v ov lg => absurd ((hlv 0 hm).mpr ⟨v, ov, lg⟩) h0
end
end K33
/-! text Rk -/
set_option Elab.async false
set_option linter.all false
set_option maxRecDepth 100000
set_option maxHeartbeats 4000000
/-! rules told by a K of their own (for blocks whose context changes by the turn) -/
namespace K33
open PySem PySem.Spec PyProof.Rows L2 Evl K33G
section
variable {X : Cx} {K : PySem.W.Frag} {mg : Str → Option Value} {P : Program} {w : World}
theorem pe_bmK {T name id : String} {r : V → List V → Hp → VK → Prop} {o e : Expr} {es : List Expr} {apos cpos : Pos} {to : TE} {t : TA} (pa : PlainAttrs T) (slot : Slot T name id) (hty : typeOf (.builtin id) = pure (.type "method_descriptor")) (hm : MtR X id r) (ho : PE X o to) (ha : PA X (e :: es) t) (hK : X.K = K := by rfl)
    (hbase : attributeBase o name X.env (eval o X.env) = eval o X.env := by rfl)
    (hfew : ((backTo cpos (starEach (e :: es) X.env)).all (fun x => !x.1) && (backToKw cpos (keywordEach [] X.env)).all (fun x => x.1.isSome)
      && decide ((e :: es).length + ([] : List Keyword).length + (if ([] : List Keyword).isEmpty then 0 else 1) < 30)) = true := by rfl)
    (hline : (apos.endLine == cpos.line) = true := by rfl) (hs : starEach (e :: es) X.env = (false, eval e X.env) :: starEach es X.env := by rfl) (hplain : (backTo cpos (starEach es X.env)).any (·.1) = false := by rfl) :
    PE X (.Call (.Attribute o name apos) (e :: es) [] cpos) (tBM K T r to t) := by
  subst hK
  exact pe_bm pa slot hty hm ho ha hbase hfew hline hs hplain
theorem op_nNotInK (hu : X.A.units + 64 < cLine) (hP : X.prog = P := by rfl) (hw : X.w = w := by rfl) (hK : X.K = K := by rfl) : OpR X (compareOp .NotIn) (rNNotIn P w K) := by
  subst hP hw hK
  exact op_nNotIn hu
theorem set_ndK (hu : X.A.units + 64 < cLine) (hP : X.prog = P := by rfl) (hw : X.w = w := by rfl) (hK : X.K = K := by rfl) : PSet X (rSetN P w K) := by
  subst hP hw hK
  exact set_nd hu
theorem pe_dnewNK {pos : Pos} (hP : X.prog = P := by rfl) (hw : X.w = w := by rfl) : PE X (.Dict [] [] pos) (tDNewN P w) := by
  subst hP hw
  exact pe_dnewN
end
end K33
/-! text Ra -/
set_option Elab.async false
set_option linter.all false
set_option maxRecDepth 100000
set_option maxHeartbeats 4000000
namespace K33
open PySem PySem.Spec PyProof.Rows L2 Evl K33G
/-- what more is wanted of the top -/
structure TxtG (K : PySem.W.Frag) (mg : Str → Option Value) : Prop where
  met : DefAt K mg "met" (top 55)
  Language_signs : ∃ (p g : Addr) (fd : FuncData), PropOf K (clsOf mg "Language") "signs" p g ∧ FunM K "signs" "Language.signs" (inClass (top 52) 4) [] [] g fd
section
variable {P : Program} {w : World} {K : PySem.W.Frag} {mg : Str → Option Value} {base : Heap}
def spLangSigns (K : PySem.W.Frag) (mg : Str → Option Value) : Sp := fun vs H Q _ => ∃ (a : Addr) (l : List Nat) (m : Nat) (go : Nat → Nat → Nat) (ml : List Nat), vs = [.ref a] ∧ LangAt K mg H a l m go ml ∧ RetV (.str (txt l)) H Q
abbrev N_Language_signs : List Str := ["self"]
theorem sc_Language_signs : FnScope N_Language_signs ["self"] (defScope (inClass (top 52) 4)) := ⟨rfl, rfl, rfl, by decide +kernel, rfl, by decide +kernel, by decide +kernel⟩
theorem ok_Language_signs (T : Txt K mg) (G : TxtG K mg) : ∃ (p g : Addr), PropOf K (clsOf mg "Language") "signs" p g ∧ OkF P w K mg base 1 g ["self"] (spLangSigns K mg) := by
  obtain ⟨p, g, fd, m, F⟩ := G.Language_signs
  refine ⟨p, g, m, okF_of F sc_Language_signs (fun vs H Q E h => ?_) (fun _ _ _ _ _ _ us hl => match us, hl with | [_], _ => rfl) (fun cdv A outer s H vs Q E hr h => ?_)⟩
  · obtain ⟨_, _, _, _, _, rfl, _⟩ := h
    rfl
  · obtain ⟨a, l, m, go, ml, rfl, ⟨dx, q1, q2, q3, fs, ds, h1, h2, _⟩, k⟩ := h
    refine ⟨_, (pss_one (ps_ret (pe_fldK (K := K) (pv 0)))), ?_⟩
    exact s_ret (v := .str (txt l)) (ev_fld T.Language (by simp) (ev_var rfl) h1 h2) k
end
section
variable {X : Cx}
theorem pe_signs {e : Expr} {ta : TE} {pos : Pos} (T : Txt X.K X.mg) (G : TxtG X.K X.mg) (hr : Room 2 X.A) (he : PE X e ta) (hab : attributeBase e "signs" X.env (eval e X.env) = eval e X.env := by rfl) : PE X (.Attribute e "signs" pos) (tProp (clsOf X.mg "Language") (spLangSigns X.K X.mg) [] E0 ta) := by
  obtain ⟨p, g, m, fd, F, b⟩ := ok_Language_signs (P := X.prog) (w := X.w) (base := X.base) T G
  exact pe_prop he T.Language.cls m F hr b .nil pass0 hab
theorem pe_state {e : Expr} {ta : TE} {pos : Pos} (T : Txt X.K X.mg) (hr : Room 2 X.A) (he : PE X e ta) (hab : attributeBase e "state" X.env (eval e X.env) = eval e X.env := by rfl) : PE X (.Attribute e "state" pos) (tProp (clsOf X.mg "Door") (spDoorState X.K X.mg) [] E0 ta) := by
  obtain ⟨p, g, m, fd, F, b⟩ := ok_Door_state (P := X.prog) (w := X.w) (base := X.base) T
  exact pe_prop he T.Door.cls m F hr b .nil pass0 hab
theorem pe_signsK {K : PySem.W.Frag} {mg : Str → Option Value} {e : Expr} {ta : TE} {pos : Pos} (T : Txt K mg) (G : TxtG K mg) (hr : Room 2 X.A) (he : PE X e ta) (hab : attributeBase e "signs" X.env (eval e X.env) = eval e X.env := by rfl) (hK : X.K = K := by rfl) (hm : X.mg = mg := by rfl) : PE X (.Attribute e "signs" pos) (tProp (clsOf mg "Language") (spLangSigns K mg) [] E0 ta) := by
  subst hK hm
  exact pe_signs T G hr he hab
theorem ev_signs {K : PySem.W.Frag} {mg : Str → Option Value} {σ : L2.St} {H : Hp} {ta : TE} {a : Addr} {l : List Nat} {m : Nat} {go : Nat → Nat → Nat} {ml : List Nat} (ha : Ev ta σ H (.ref a)) (h : LangAt K mg H a l m go ml) : Ev (tProp (clsOf mg "Language") (spLangSigns K mg) [] E0 ta) σ H (.str (txt l)) := fun H1 e Q q => ha H1 e _ fun H2 e2 => by
  have h2 := h.mono (e.trans e2)
  obtain ⟨dx, q1, q2, q3, fs, ds, h1, _⟩ := h2
  exact ⟨a, dx, fs, rfl, h1, a, l, m, go, ml, rfl, h.mono (e.trans e2), fun H3 e3 => q H3 (e2.trans e3)⟩
theorem ev_state {K : PySem.W.Frag} {mg : Str → Option Value} {σ : L2.St} {H : Hp} {ta : TE} {d a L : Addr} {s : Nat} {bs : List Nat} (ha : Ev ta σ H (.ref d)) (h : DoorAt K mg H d a s bs L) : Ev (tProp (clsOf mg "Door") (spDoorState K mg) [] E0 ta) σ H (nv s) := fun H1 e Q q => ha H1 e _ fun H2 e2 => by
  have h2 := h.mono (e.trans e2)
  obtain ⟨dx, _, fs, _, h1, _⟩ := h2
  exact ⟨d, dx, fs, rfl, h1, d, a, L, s, bs, rfl, h.mono (e.trans e2), fun H3 e3 => q H3 (e2.trans e3)⟩
end
abbrev N_met : List Str := ["reader", "state", "language", "waiting", "known", "at", "text", "pair", "sign", "goal"]
theorem sc_met : GScope N_met ["reader", "state", "language"] (defScope (top 55)) := ⟨rfl, rfl, rfl, by decide +kernel, rfl, by decide +kernel, by decide +kernel⟩
section
variable {P : Program} {w : World} {K : PySem.W.Frag} {mg : Str → Option Value} {base : Heap}
/-- a language whose machine is in order -/
structure LgOk (l : List Nat) (m : Nat) (go : Nat → Nat → Nat) (ml : List Nat) : Prop where
  lok : LOk l
  one : 0 < m
  six : m ≤ 6
  ins : ∀ j < m, ∀ c ∈ l, go j c < m
  mls : ∀ x ∈ ml, x < m
noncomputable def lvOf (l : List Nat) (m : Nat) (go : Nat → Nat → Nat) (ml : List Nat) : List Nat := silentL (liveR l m go) m ml
/-- a pair, as met hands it out -/
def PairAt (K : PySem.W.Frag) (H : Hp) (p : Addr) (k : Nat) (xs : List Nat) : Prop := ∃ q, SqT K H p [nv k, .ref q] ∧ SqT K H q (xs.map nv)
theorem PairAt.mono {H H' : Hp} {p : Addr} {k : Nat} {xs : List Nat} (h : PairAt K H p k xs) (e : Ex H H') : PairAt K H' p k xs := by
  obtain ⟨q, h1, h2⟩ := h
  exact ⟨q, ex_t e h1, ex_t e h2⟩
def spMet (K : PySem.W.Frag) (mg : Str → Option Value) : SpC := fun vs H yl en => ∃ (a L : Addr) (s : Nat) (rows : List Row) (l : List Nat) (m : Nat) (go : Nat → Nat → Nat) (ml : List Nat) (U : List Pst), vs = [.ref a, nv s, .ref L] ∧ ReaderAt K mg H a rows ∧ GoodR rows ∧ s < rows.length ∧ LangAt K mg H L l m go ml ∧ LgOk l m go ml ∧ U.length ≤ 2000 ∧
  (∀ w, Val l (pS0 (goes rows) rows.length s) (pOpn go (lvOf l m go ml)) (pNx (goes rows) rows.length go) w → pst (pS0 (goes rows) rows.length s) (pNx (goes rows) rows.length go) w ∈ U) ∧
  (∀ i w t p H', Ex H H' → 0 ∈ lvOf l m go ml → Turn l (pS0 (goes rows) rows.length s) (pOpn go (lvOf l m go ml)) (pNx (goes rows) rows.length go) i w → SqT K H' t [.str (txt w), .ref p] → PairAt K H' p (run go 0 w) (lastL (goes rows) rows.length s w) → yl i (.ref t) H') ∧
  ∀ i H', Ex H H' → (0 ∉ lvOf l m go ml ∨ Last l (pS0 (goes rows) rows.length s) (pOpn go (lvOf l m go ml)) (pNx (goes rows) rows.length go) i) → en i H'
/-- a statement of a generator that hands out nothing, its end told by M -/
theorem co_join {t : TS} {rest : TCo} {D : CoEnds} {i : Nat} {Hw H : Hp} {σ : L2.St} (M : L2.St → Hp → Prop) (h : ∀ D' : Ends, (∀ σ' H', M σ' H' → D'.nx σ' H') → t D' σ H) (k : ∀ σ' H', M σ' H' → rest D i Hw σ' H') : coThen (coP t) rest D i Hw σ H := h _ k
/-- a pair as a key -/
def pkey (p : Pst) : NKey := ((p.1 : Int), p.2.map fun (i : Nat) => (i : Int))
theorem pkey_inj {p q : Pst} (h : pkey p = pkey q) : p = q := by
  obtain ⟨k, xs⟩ := p
  obtain ⟨j, ys⟩ := q
  unfold pkey at h
  injection h with h1 h2
  have inj : ∀ l m : List Nat, l.map (fun (i : Nat) => (i : Int)) = m.map (fun (i : Nat) => (i : Int)) → l = m := fun l m h => List.map_inj_right (fun a b e => Int.ofNat.inj e) |>.mp h
  rw [show k = j from Int.ofNat.inj h1, inj xs ys h2]
theorem et_run {c : TT} {σ : L2.St} {H : Hp} {b : Bool} {Q : Bool → Hp → Prop} (h : EvT c σ H b) (q : ∀ H2, Ex H H2 → Q b H2) : c σ H Q := h H (Ex.refl H) Q q
theorem ev_nNotIn {P : Program} {w : World} {σ : L2.St} {H : Hp} {tx td : TE} {t d : Addr} {k : NKey} {es : List NEnt} (hx : Ev tx σ H (.ref t)) (hd : Ev td σ H (.ref d)) (hk : KeyAt K H t k) (hN : NAt P w K H d es) : Ev (tOp (rNNotIn P w K) tx td) σ H (.bl (!decide (k ∈ es.map (·.1)))) :=
  ev_op hx hd fun H1 e Q q => ⟨d, t, k, es, rfl, rfl, hN.mono e, hk.mono e, q H1 (Ex.refl H1)⟩
theorem del_none {p q : Addr} {H : Hp} (h : H q = none) : del p H q = none := by
  unfold del
  split
  · rfl
  · exact h
theorem txt_add (w : List Nat) (c : Nat) : txt w ++ sg c = txt (w ++ [c]) := by
  show (⟨w.toArray ++ #[c]⟩ : Str) = ⟨(w ++ [c]).toArray⟩
  simp
theorem val_in {l : List Nat} {s0 : Pst} {opn : Pst → Nat → Bool} {nx : Pst → Nat → Pst} {w : List Nat} (h : Val l s0 opn nx w) : ∀ c ∈ w, c ∈ l := by
  induction h with
  | nil => exact fun c hc => (by cases hc)
  | snoc _ hc _ ih =>
    intro b hb
    rcases List.mem_append.mp hb with hb | hb
    · exact ih b hb
    · rw [List.mem_singleton.mp hb]
      exact hc
/-- o[i] = e -/
theorem s_asgSub {te to ti : TE} {t : TSet} {D : Ends} {σ : L2.St} {H : Hp} {x o i : V} (hx : Ev te σ H x) (ho : Ev to σ H o) (hi : Ev ti σ H i) (k : ∀ H1, Ex H H1 → t o i x H1 fun H2 => D.nx σ H2) : tAsg te (gSub to ti t) D σ H :=
  hx H (Ex.refl H) _ fun H1 e1 => ho H1 e1 _ fun H2 e2 => hi H2 (e1.trans e2) _ fun H3 e3 => k H3 ((e1.trans e2).trans e3)
theorem s_appP {ta te : TE} {D : Ends} {σ : L2.St} {H : Hp} {l : Addr} {xs : List V} {P : V → Hp → Prop} (hl : H l = some (.lst xs)) (ha : Ev ta σ H (.ref l)) (h : EvP te σ H P) (hz : xs.length < 100000) (k : ∀ v H1, Ex H H1 → P v H1 → D.nx σ (upd H1 l (.lst (xs ++ [v])))) : tDrop (tBM K "list" rAppend ta (tCons te tNil)) D σ H := ha H (Ex.refl H) _ fun H1 e1 =>
  ⟨Or.inl ⟨rfl, xs, sq_of (e1 l _ hl)⟩, h H1 e1 _ fun v H2 e2 hp => ⟨l, xs, v, rfl, rfl, e2 l _ (e1 l _ hl), sz_lt hz, k v H2 (e1.trans e2) hp⟩⟩
/-- (text, (kind, states)), made anew -/
theorem evp_entry {t1 t2 t3 : TE} {σ : L2.St} {H : Hp} {z : Str} {k : Nat} {xs : List Nat} (h1 : Ev t1 σ H (.str z)) (h2 : Ev t2 σ H (nv k)) (h3 : EvP t3 σ H fun v H' => ∃ q, v = .ref q ∧ H q = none ∧ H' q = some (.tup (xs.map nv))) :
    EvP (tTup (tCons t1 (tCons (tTup (tCons t2 (tCons t3 tNil))) tNil))) σ H (fun v H' => ∃ t p q, v = .ref t ∧ H t = none ∧ H p = none ∧ H q = none ∧ H' t = some (.tup [.str z, .ref p]) ∧ H' p = some (.tup [nv k, .ref q]) ∧ H' q = some (.tup (xs.map nv))) := by
  refine (evp_tupA (Pa := fun vs G => ∃ p q, vs = [.str z, .ref p] ∧ H p = none ∧ H q = none ∧ G p = some (.tup [nv k, .ref q]) ∧ G q = some (.tup (xs.map nv))) (ea_consP (evp_of h1) fun x H1 e1 hx => ea_one (evp_tupA (Pa := fun vs G => ∃ q, vs = [nv k, .ref q] ∧ H q = none ∧ G q = some (.tup (xs.map nv))) (ea_consP (evp_of (h2.mono e1)) fun y H2 e2 hy => ea_one (h3.mono (e1.trans e2)) fun u H3 e3 ⟨q, hu, hq, hq2⟩ => ⟨q, by rw [hy, hu], hq, hq2⟩) (fun vs G1 G2 e ⟨q, a, b, c⟩ => ⟨q, a, b, e _ _ c⟩) fun vs G ⟨q, a, _⟩ => by rw [a]; simp) fun y H2 e2 ⟨p, vs, hy, hp, hp2, q, hvs, hq, hq2⟩ => ⟨p, q, by rw [hx, hy], fresh_back e1 hp, hq, by rw [hp2, hvs], hq2⟩) (fun vs G1 G2 e ⟨p, q, a, b, c, d, f⟩ => ⟨p, q, a, b, c, e _ _ d, e _ _ f⟩) fun vs G ⟨p, q, a, _⟩ => by rw [a]; simp).imp ?_
  rintro v H' e ⟨t, vs, rfl, ht, ht2, p, q, rfl, a, b, c, d⟩
  exact ⟨t, p, q, rfl, ht, a, b, ht2, c, d⟩
/-- the list of what waits -/
def WtAt (K : PySem.W.Frag) (H : Hp) (items : List V) (M : Rel3) (n s : Nat) (go : Nat → Nat → Nat) (Wt : List (List Nat)) : Prop := items.length = Wt.length ∧ ∀ (i : Nat) (w : List Nat), Wt[i]? = some w → ∃ t p, items[i]? = some (.ref t) ∧ SqT K H t [.str (txt w), .ref p] ∧ PairAt K H p (run go 0 w) (lastL M n s w)
theorem WtAt.mono {H H' : Hp} {items : List V} {M : Rel3} {n s : Nat} {go : Nat → Nat → Nat} {Wt : List (List Nat)} (h : WtAt K H items M n s go Wt) (e : Ex H H') : WtAt K H' items M n s go Wt := ⟨h.1, fun i w hw => by
  obtain ⟨t, p, h1, h2, h3⟩ := h.2 i w hw
  exact ⟨t, p, h1, ex_t e h2, h3.mono e⟩⟩
theorem WtAt.add {H : Hp} {items : List V} {M : Rel3} {n s : Nat} {go : Nat → Nat → Nat} {Wt : List (List Nat)} {t p : Addr} {w : List Nat} (h : WtAt K H items M n s go Wt) (h1 : SqT K H t [.str (txt w), .ref p]) (h2 : PairAt K H p (run go 0 w) (lastL M n s w)) : WtAt K H (items ++ [.ref t]) M n s go (Wt ++ [w]) := by
  refine ⟨by simp [h.1], fun i v hv => ?_⟩
  by_cases hlt : i < Wt.length
  · rw [List.getElem?_append_left hlt] at hv
    rw [List.getElem?_append_left (by rw [h.1]; exact hlt)]
    exact h.2 i v hv
  · obtain rfl : i = Wt.length := by
      have := (List.getElem?_eq_some_iff.mp hv).1
      simp at this
      omega
    obtain rfl : w = v := by simpa using hv
    exact ⟨t, p, by rw [← h.1]; simp, h1, h2⟩
theorem co_met (T : Txt K mg) (G : TxtG K mg) : CoOk P w K mg base 3 "met" ["reader", "state", "language"] N_met (top 55) (spMet K mg) := by
  refine ⟨?_, sc_met, by decide +kernel, ?_, ?_⟩
  · obtain ⟨f, fd, F, g⟩ := G.met
    exact ⟨f, fd, F, g, F.bindsN (fun _ _ _ _ _ _ us hl => match us, hl with | [_, _, _], _ => rfl)⟩
  · rintro vs H yl en ⟨_, _, _, _, _, _, _, _, _, rfl, _⟩
    rfl
  · intro X f cd L0 gob vs H yl en e1 e2 e3 e4 e5 hr h
    obtain ⟨Pp, ww, KK, gg, bb, AA, NN, ss, HH, ee, oo, kk, xx, ff, cc, pp, zz⟩ := X
    obtain rfl : P = Pp := e1.symm
    obtain rfl : w = ww := e2.symm
    obtain rfl : K = KK := e3.symm
    obtain rfl : mg = gg := e4.symm
    obtain rfl : base = bb := e5.symm
    refine ⟨_, (co_cons (co_ps fun _ _ => by exact (ps_set (i := 3) sc_met.nd rfl (Or.inl rfl) (pe_lst pa_nil)))
 (co_cons (co_ps fun _ _ => by exact (ps_if (pt_cmpR (r := rIn K false) op_in_seq pe_int (pe_fldK (K := K) (pv 2)) (by rfl))
 (pss_one (ps_expr (pe_bmK (K := K) PySem.F.plainAttrs_list PySem.F.slot_list_append PySem.F.type_list_append mt_append (pv 3) (pa_cons (pe_tup (pa_cons pe_str (pa_cons (pe_tup (pa_cons pe_int (pa_cons (pe_f (ok_silent_of T) (hr.mono (by decide)) (pa_cons (pv 0) (pa_cons (pe_tup (pa_cons (pv 1) pa_nil)) pa_nil))) pa_nil))) pa_nil))) pa_nil))))
 pss_nil))
 (co_cons (co_ps fun _ _ => by exact (ps_set (i := 4) sc_met.nd rfl (Or.inl rfl) (pe_dnewNK (P := P) (w := w))))
 (co_cons (co_ps fun _ _ => by exact (ps_set (i := 5) sc_met.nd rfl (Or.inl rfl) pe_int))
 (co_one (co_while (fun _ _ => by exact (pt_cmpR op_lt (pv 5) (pe_callB (r := fun xs H Q => ∃ x n, xs = [x] ∧ LenV K x H n ∧ Q (.int n) H) call_len (by rfl) T.len (by decide +kernel) (pa_cons (pv 3) pa_nil)) (nomark _)))
 (co_cons (co_ps fun _ _ => by exact (ps_asg (g := gTup K 2 (gCons (gName 6) (gCons (gName 7) gNil))) (pe_ix (r := rIxL K) ix_list (pv 3) (pv 5) (fun _ _ => rfl)) (pg_tup rfl (pgs_cons (pg_name (i := 6) sc_met.nd rfl (Or.inl rfl)) (pgs_cons (pg_name (i := 7) sc_met.nd rfl (Or.inl rfl)) pgs_nil)))))
 (co_cons (co_ps fun _ _ => by exact (ps_aug (i := 5) sc_met.nd rfl (Or.inl rfl) pe_int ip_add))
 (co_one (co_if (fun _ _ => by exact (pt_cmpR (op_nNotInK (P := P) (w := w) (K := K) hr.units) (pv 7) (pv 4) (by rfl)))
 (co_cons (co_ps fun _ _ => by exact (ps_asg pe_bl (pg_sub (pv 4) (pv 7) (set_ndK (P := P) (w := w) (K := K) hr.units))))
 (co_cons (co_yield fun _ _ => by exact (pe_tup (pa_cons (pv 6) (pa_cons (pv 7) pa_nil))))
 (co_one (co_ps fun _ _ => by exact (ps_for PassesOwn.never rfl (pi_str (pe_signsK (K := K) (mg := mg) T G (hr.mono (by decide)) (pv 2))) (pg_name (i := 8) sc_met.nd rfl (Or.inl rfl))
 (pss_cons (ps_set (i := 9) sc_met.nd rfl (Or.inl rfl) (pe_dget (hu_of hr) (pe_ix (r := rIxT K) ix_tup (pe_fldK (K := K) (pv 2)) (pe_ix (r := rIxT K) ix_tup (pv 7) pe_int (fun _ _ => rfl)) (fun _ _ => rfl)) (pv 8) (fun _ _ => rfl)))
 (pss_one (ps_if (pt_cmpR (r := rIn K false) op_in_seq (pv 9) (pe_fldK (K := K) (pv 2)) (by rfl))
 (pss_one (ps_expr (pe_bmK (K := K) PySem.F.plainAttrs_list PySem.F.slot_list_append PySem.F.type_list_append mt_append (pv 3) (pa_cons (pe_tup (pa_cons (pe_op op_add_str (pv 6) (pv 8)) (pa_cons (pe_tup (pa_cons (pv 9) (pa_cons (pe_f (ok_step_of T) (hr.mono (by decide)) (pa_cons (pv 0) (pa_cons (pe_ix (r := rIxT K) ix_tup (pv 7) pe_int (fun _ _ => rfl)) (pa_cons (pv 8) pa_nil)))) pa_nil))) pa_nil))) pa_nil))))
 pss_nil))))))))
 co_nil)))))))))), ?_⟩
    obtain ⟨a, L, s, rows, l, m, go, ml, U, rfl, hR, gd, hs, hL, lg, hU, inU, hyl, hen⟩ := h
    intro Hw sm
    have eH : Ex H Hw := sm
    have hL0 := hL
    obtain ⟨dx, q1, q2, q3, fs, ds, g1, g2, g3, g4, g5, g6, g7, g8, g9⟩ := hL
    -- waiting
    refine s_asgP (evp_L (el_lst ea_nil (by simp))) fun v H1 e1 ⟨wl, hv, hw0, hw1⟩ => ?_
    subst hv
    have e01 := eH.trans e1
    let lv := lvOf l m go ml
    let R := goes rows
    let n := rows.length
    dsimp only [CoEnds.at]
    refine co_join (fun σ' H' => ∃ items, σ' = [some (.ref a), some (nv s), some (.ref L), some (.ref wl), none, none, none, none, none, none] ∧ Ex H H' ∧ H' wl = some (.lst items) ∧ ((0 ∈ lv ∧ WtAt K (del wl H') items R n s go [[]]) ∨ (0 ∉ lv ∧ items = []))) (fun D' hD => ?_) fun σ' H' hM => ?_
    · refine s_when (b := decide (0 ∈ lv)) (et_is (et_test (ev_op ev_c (ev_fld T.Language (by simp) (ev_var rfl) (e01 _ _ g1) g5) (rv_isT (ex_t e01 g9) rfl (flat_nv _)))) (inV_nv 0 _)) (fun hb H2 e2 => ?_) fun hb H2 e2 => ?_
      · have e02 := e01.trans e2
        refine s_appP (xs := []) (e2 _ _ hw1) (ev_var rfl) (evp_entry (k := 0) (z := txt []) (xs := silentL R n [s]) ev_c ev_c (evp_call (Pa := fun vs G => ∃ r, vs = [.ref a, .ref r] ∧ G r = some (.tup ([s].map nv))) (ea_consP (evp_of (ev_var rfl)) fun x H3 e3 hx => ea_one (evp_U (eu_tup (ea_cons (ev_var rfl) ea_nil) (by simp))) fun y H4 e4 ⟨r, hy, _, hr2⟩ => ⟨r, by rw [hx, hy], hr2⟩) fun vs H3 e3 ⟨r, hv, hr2⟩ => ?_)) (by simp) fun v H3 e3 ⟨t, p, q, hv, ht, hp, hq, ht2, hp2, hq2⟩ => ?_
        · subst hv
          exact fun H4 e4 Q' q' E => ⟨a, r, rows, [s], rfl, hR.mono (e02.trans (e3.trans e4)), gd, .inr (st_of (e4 _ _ hr2)), by simp, by simpa using hs, fun q H5 e5 h1 h2 => q' _ H5 e5 ⟨q, rfl, fresh_back (e3.trans e4) h1, h2⟩⟩
        · subst hv
          have nw : ∀ {x : Addr}, H2 x = none → x ≠ wl := fun h z => by rw [z, e2 _ _ hw1] at h; cases h
          refine hD _ _ ⟨[.ref t], rfl, Ex.mut (e02.trans e3) (fresh_back eH hw0), upd_same, .inl ⟨of_decide_eq_true hb, rfl, fun i w hw => ?_⟩⟩
          obtain ⟨rfl, rfl⟩ : i = 0 ∧ w = [] := by
            cases i with
            | zero => simpa using hw.symm
            | succ i => simp at hw
          rw [del_upd]
          exact ⟨t, p, rfl, st_of (by rw [del_ne (nw ht)]; exact ht2), q, st_of (by rw [del_ne (nw hp)]; exact hp2), st_of (by rw [del_ne (nw hq)]; exact hq2)⟩
      · exact hD _ _ ⟨[], rfl, e01.trans e2, e2 _ _ hw1, .inr ⟨of_decide_eq_false hb, rfl⟩⟩
    · obtain ⟨items, rfl, e2, hw2, hcase⟩ := hM
      refine s_asgP (P := fun v G => ∃ kd, v = .ref kd ∧ H' kd = none ∧ G kd = some (ND P w kd [])) (fun G e Q q b hb => q _ _ (Ex.new hb) ⟨b, rfl, fresh_back e hb, upd_same⟩) fun v H3 e3 ⟨kd, hv, hk0, hk1⟩ => ?_
      subst hv
      dsimp only [CoEnds.at]
      refine s_asgP (evp_of ev_c) fun v H4 e4 hv => ?_
      subst hv
      dsimp only [CoEnds.at]
      have nwk : wl ≠ kd := fun z => by rw [z, hk0] at hw2; cases hw2
      have wl0 := fresh_back eH hw0
      have kd0 := fresh_back e2 hk0
      let D2 : Hp → Hp := fun G => del kd (del wl G)
      have d2 : ∀ {G G' : Hp}, Ex G G' → Ex (D2 G) (D2 G') := fun e => del_ex (del_ex e)
      have d2le : ∀ {G : Hp}, Ex (D2 G) G := del_le.trans del_le
      let A0 := pS0 R n s
      let A1 := pOpn go lv
      let A2 := pNx R n go
      let W : Nat → Nat → Hp → L2.St → Hp → Prop := fun mm i Hw σ G => ∃ (Wt Y : List (List Nat)) (items : List V) (es : List NEnt) (at' : Nat) (u v x y : Option V), σ = [some (.ref a), some (nv s), some (.ref L), some (.ref wl), some (.ref kd), some (nv at'), u, v, x, y] ∧ Ex H G ∧ G wl = some (.lst items) ∧ WtAt K (D2 G) items R n s go Wt ∧ G kd = some (ND P w kd es) ∧ (∀ e ∈ es, KeyAt K (D2 G) e.2.1 e.1) ∧ (es.map fun e => e.1) = Y.map (fun w => pkey (pst A0 A2 w)) ∧ i = Y.length ∧
        ((0 ∈ lv ∧ QInv l A0 A1 A2 Wt Y at' ∧ Wt.length ≤ Y.length * l.length + 1 ∧ ∀ w ∈ Wt, w.length ≤ Y.length) ∨ (0 ∉ lv ∧ Wt = [] ∧ Y = [] ∧ at' = 0)) ∧ mm = (U.length - Y.length) * (l.length + 1) + (Wt.length - at')
      refine ⟨W, ?_, ?_⟩
      · rcases hcase with ⟨h0, hWt⟩ | ⟨h0, rfl⟩
        · refine ⟨_, [[]], [], items, [], 0, none, none, none, none, rfl, (e2.trans e3).trans e4, e4 _ _ (e3 _ _ hw2), hWt.mono ?_, e4 _ _ hk1, fun e he => (by cases he), rfl, rfl, .inl ⟨h0, q_start, by simp, fun w hw => by rw [List.mem_singleton.mp hw]; exact Nat.le_refl _⟩, rfl⟩
          exact ex_del (del_ex (e3.trans e4)) (del_none hk0)
        · exact ⟨_, [], [], [], [], 0, none, none, none, none, rfl, (e2.trans e3).trans e4, e4 _ _ (e3 _ _ hw2), ⟨rfl, fun i w hw => (by simp at hw)⟩, e4 _ _ hk1, fun e he => (by cases he), rfl, rfl, .inr ⟨h0, rfl, rfl, rfl⟩, rfl⟩
      · rintro mm i Hw σ G ⟨Wt, Y, items, es, at', u, v, x, y, rfl, eG, hwl, hWt, hkd, hkeys, hes, rfl, hq, rfl⟩
        refine et_run (b := decide (((at' : Nat) : Int) < (items.length : Int))) (et_test (ev_op (ev_var rfl) (ev_lenV (n := items.length) (ev_var rfl) fun H5 e5 => .inl ⟨_, sq_of (e5 _ _ hwl), rfl⟩) rv_lt)) fun G1 f1 => ?_
        by_cases hlt : at' < Wt.length
        · have hb : decide (((at' : Nat) : Int) < (items.length : Int)) = true := decide_eq_true (by rw [hWt.1]; omega)
          rw [if_pos hb]
          refine ⟨fun i' Hw' σ' H' => ∃ m', m' < (U.length - Y.length) * (l.length + 1) + (Wt.length - at') ∧ W m' i' Hw' σ' H', fun _ _ _ _ h => h, ?_⟩
          obtain ⟨h0, q, hwn, hlen⟩ : 0 ∈ lv ∧ QInv l A0 A1 A2 Wt Y at' ∧ Wt.length ≤ Y.length * l.length + 1 ∧ ∀ w ∈ Wt, w.length ≤ Y.length := by
            rcases hq with h | ⟨_, h, _⟩
            · exact h
            · rw [h] at hlt
              exact absurd hlt (Nat.not_lt_zero _)
          obtain ⟨z, hz⟩ : ∃ z, Wt[at']? = some z := ⟨Wt[at'], List.getElem?_eq_getElem hlt⟩
          obtain ⟨t, p, ht, ht2, hp⟩ := hWt.2 at' z hz
          refine ev_run (te := tOp (rIxL K) (tVar 3) (tVar 5)) (v := .ref t) (ev_op (ev_var rfl) (ev_var rfl) (rv_ixL (sq_of (f1 _ _ hwl)) (atI_nat ht))) fun G2 f2 => ?_
          refine tg_pair (ex_t (d2le.trans (f1.trans f2)) ht2) ?_
          dsimp only [CoEnds.at]
          refine s_aug (a := (at' : Int)) (b := 1) rfl ev_c fun G3 f3 => ?_
          dsimp only [CoEnds.at]
          have f13 := (f1.trans f2).trans f3
          have vz := q.val z (List.mem_of_getElem? hz)
          have pz : pst A0 A2 z = (run go 0 z, lastL R n s z) := pst_pair z
          have hkz0 : KeyAt K (D2 G) p (pkey (pst A0 A2 z)) := by
            rw [pz]
            obtain ⟨q', b1, b2⟩ := hp
            refine ⟨q', b1, ?_⟩
            rw [show (pkey (run go 0 z, lastL R n s z)).2.map V.int = (lastL R n s z).map nv from (nv_map _).symm]
            exact b2
          have hkz : KeyAt K (D2 G3) p (pkey (pst A0 A2 z)) := hkz0.mono (d2 f13)
          have hN3 : NAt P w K G3 kd es := ⟨f13 _ _ hkd, fun e he => ((hkeys e he).mono (d2 f13)).mono d2le⟩
          refine et_run (b := !decide (pkey (pst A0 A2 z) ∈ es.map (·.1))) (et_test (ev_nNotIn (ev_var rfl) (ev_var rfl) (hkz.mono d2le) hN3)) fun G4 f4 => ?_
          by_cases hin : pkey (pst A0 A2 z) ∈ es.map (·.1)
          · rw [decide_eq_true hin, if_neg (by simp)]
            have f14 := f13.trans f4
            have kin : pst A0 A2 z ∈ Y.map (pst A0 A2) := by
              rw [hes] at hin
              obtain ⟨y', hy', e⟩ := List.mem_map.mp hin
              exact List.mem_map.mpr ⟨y', hy', pkey_inj e⟩
            refine ⟨(U.length - Y.length) * (l.length + 1) + (Wt.length - (at' + 1)), by omega, Wt, Y, items, es, at' + 1, _, _, _, _, rfl, eG.trans f14, f14 _ _ hwl, hWt.mono (d2 f14), f14 _ _ hkd, fun e he => (hkeys e he).mono (d2 f14), hes, rfl, .inl ⟨h0, q.old hz kin, hwn, hlen⟩, rfl⟩
          · rw [decide_eq_false hin, if_pos (by simp)]
            have f14 := f13.trans f4
            have kni : pst A0 A2 z ∉ Y.map (pst A0 A2) := fun h => by
              obtain ⟨y', hy', e⟩ := List.mem_map.mp h
              refine hin ?_
              rw [hes]
              exact List.mem_map.mpr ⟨y', hy', by rw [e]⟩
            have qn := q.new lg.lok.up hz kni
            have yU := qn.few inU
            rw [List.length_append, List.length_singleton] at yU
            have esl : es.length = Y.length := by
              have := congrArg List.length hes
              rw [List.length_map, List.length_map] at this
              exact this
            refine s_asgSub (x := .bl true) (o := .ref kd) (i := .ref p) ev_c (ev_var rfl) (ev_var rfl) fun G7 f7 => ?_
            have f37 := f4.trans f7
            have f17 := f13.trans f37
            refine ⟨kd, p, pkey (pst A0 A2 z), es, rfl, rfl, hN3.mono f37, (hkz.mono d2le).mono f37, hin, by rw [sizeLine_eq]; omega, ?_⟩
            dsimp only [CoEnds.at]
            generalize hG8 : upd G7 kd (ND P w kd (es ++ [(pkey (pst A0 A2 z), p, .bl true)])) = G8
            have d78 : Ex (D2 G7) (D2 G8) := by
              rw [← hG8]
              show Ex (del kd (del wl G7)) (del kd (del wl (upd G7 kd _)))
              rw [del_comm, del_comm (H := upd G7 kd _), del_upd]
              exact Ex.refl _
            have e08 : Ex H G8 := by
              rw [← hG8]
              exact Ex.mut (eG.trans f17) kd0
            have kd8 : G8 kd = some (ND P w kd (es ++ [(pkey (pst A0 A2 z), p, .bl true)])) := by rw [← hG8, upd_same]
            have wl8 : G8 wl = some (.lst items) := by
              rw [← hG8, upd_ne nwk]
              exact f17 _ _ hwl
            have d08 := (d2 f17).trans d78
            refine ⟨by rw [sizeLine_eq]; omega, ?_⟩
            refine (evp_U (eu_tup (ea_cons (ev_var rfl) (ea_cons (ev_var rfl) ea_nil)) (by simp))) G8 (Ex.refl G8) _ fun vv G9 f9 hvv => ?_
            obtain ⟨t', rfl, _, ht'⟩ := hvv
            refine ⟨hyl Y.length z t' p G9 (e08.trans f9) h0 (q.turn hz kni) (st_of ht') (hp.mono (d08.trans (d2le.trans f9))), fun H9 s9 => ?_⟩
            have f99 : Ex G9 H9 := s9
            have f89 := f9.trans f99
            have zin : ∀ c ∈ z, c ∈ l := val_in vz
            have klt : run go 0 z < m := run_in lg.ins lg.one zin
            obtain ⟨dd, hdd, fdd⟩ := g7.2 _ klt
            dsimp only
            refine co_join (fun σ' H' => ∃ (items' : List V) (u v : Option V), σ' = [some (.ref a), some (nv s), some (.ref L), some (.ref wl), some (.ref kd), some (nv (at' + 1)), some (.str (txt z)), some (.ref p), u, v] ∧ Ex H H' ∧ Ex (D2 G8) (D2 H') ∧ H' wl = some (.lst items') ∧ WtAt K (D2 H') items' R n s go (Wt ++ kidsOf l A0 A1 A2 z) ∧ H' kd = some (ND P w kd (es ++ [(pkey (pst A0 A2 z), p, .bl true)]))) (fun D' hD => ?_) fun σ' H' hM => ?_
            · refine s_forTxt (l := l) (ev_signs (ev_var rfl) (hL0.mono (e08.trans f89))) (fun i σ' H' => ∃ (items' : List V) (u v : Option V), σ' = [some (.ref a), some (nv s), some (.ref L), some (.ref wl), some (.ref kd), some (nv (at' + 1)), some (.str (txt z)), some (.ref p), u, v] ∧ Ex H H' ∧ Ex (D2 G8) (D2 H') ∧ H' wl = some (.lst items') ∧ WtAt K (D2 H') items' R n s go (Wt ++ ((l.take i).filter fun c => A1 (pst A0 A2 z) c).map fun c => z ++ [c]) ∧ H' kd = some (ND P w kd (es ++ [(pkey (pst A0 A2 z), p, .bl true)]))) (fun H1 e1 => ?_) (fun i c σ' H' hc hP => ?_) fun σ' H' hP => ?_
              · refine ⟨items, x, y, rfl, (e08.trans f89).trans e1, d2 (f89.trans e1), e1 _ _ (f89 _ _ wl8), ?_, e1 _ _ (f89 _ _ kd8)⟩
                simp only [List.take_zero, List.filter_nil, List.map_nil, List.append_nil]
                exact hWt.mono (d08.trans (d2 (f89.trans e1)))
              · obtain ⟨items', u, v, rfl, eH', eD', hw', hW', hk'⟩ := hP
                have hcl := List.mem_of_getElem? hc
                obtain ⟨pq, hpq1, hpq2⟩ := hp
                have hpq1' : SqT K H' p [nv (run go 0 z), .ref pq] := ex_t ((d08.trans eD').trans d2le) hpq1
                have hpq2' : SqT K H' pq ((lastL R n s z).map nv) := ex_t ((d08.trans eD').trans d2le) hpq2
                refine q_asg (v := nv (go (run go 0 z) c)) (ev_dget (k := .inr (sg c)) (ev_op (ev_fld T.Language (by simp) (ev_var rfl) (eH' _ _ g1) g3) (ev_op (ev_var rfl) ev_c (rv_ixT (i := 0) hpq1' rfl)) (rv_ixT (ex_t eH' g6) (atI_nat (v := .ref dd) (by rw [List.getElem?_map, hdd]; rfl)))) (ev_var rfl) (fdd.mono eH') (val_mrow hcl)) fun G10 e10 => ?_
                have e10H := eH'.trans e10
                have hA : ∀ b : Bool, decide (go (run go 0 z) c ∈ lv) = b → A1 (pst A0 A2 z) c = b := fun b hb => by
                  rw [pz]
                  exact hb
                have hbd : items'.length < 100000 := by
                  rw [hW'.1, List.length_append, List.length_map]
                  have f1 := List.length_filter_le (fun c => A1 (pst A0 A2 z) c) (l.take i)
                  have f2 : (l.take i).length ≤ l.length := List.length_take_le' _ _
                  have f3 := lg.lok.four
                  have f4 : Y.length * l.length ≤ 2000 * 4 := Nat.mul_le_mul (by omega) f3
                  omega
                refine s_when (b := decide (go (run go 0 z) c ∈ lv)) (et_is (et_test (ev_op (ev_var rfl) (ev_fld T.Language (by simp) (ev_var rfl) (e10H _ _ g1) g5) (rv_isT (ex_t e10H g9) rfl (flat_nv _)))) (inV_nv _ _)) (fun hb G11 e11 => ?_) fun hb G11 e11 => ?_
                · have e011 := e10.trans e11
                  have zl := hlen z (List.mem_of_getElem? hz)
                  have hop : Ev (tOp (fun x y H Q => ∃ i j, x = .str i ∧ y = .str j ∧ i.length + j.length ≤ sizeLine ∧ Q (.str (i ++ j)) H) (tVar 6) (tVar 8)) [some (.ref a), some (nv s), some (.ref L), some (.ref wl), some (.ref kd), some (nv (at' + 1)), some (.str (txt z)), some (.ref p), some (.str (sg c)), some (nv (go (run go 0 z) c))] G11 (.str (txt (z ++ [c]))) := by
                    refine ev_op (ev_var rfl) (ev_var rfl) fun H1 e Q q => ⟨txt z, sg c, rfl, rfl, ?_, ?_⟩
                    · rw [txt_len, show (sg c).length = 1 from rfl, sizeLine_eq]
                      omega
                    · rw [txt_add]
                      exact q H1 (Ex.refl H1)
                  refine s_appP (e011 _ _ hw') (ev_var rfl) (evp_entry (k := go (run go 0 z) c) (z := txt (z ++ [c])) (xs := stepL R n (lastL R n s z) (sg c)) hop (ev_var rfl) (evp_call (ea_of (vs := [.ref a, .ref pq, .str (sg c)]) (ea_cons (ev_var rfl) (ea_cons (ev_op (ev_var rfl) ev_c (rv_ixT (i := 1) (ex_t e011 hpq1') rfl)) (ea_cons (ev_var rfl) ea_nil)))) fun vs H3 e3 hv => ?_)) hbd fun v' G12 e12 ⟨tt, pp, qq, hv, ht0, hp0, hq0, ht2, hp2, hq2⟩ => ?_
                  · subst hv
                    exact fun H4 e4 Q' q' E => ⟨a, pq, rows, lastL R n s z, sg c, rfl, hR.mono (eH'.trans (e011.trans (e3.trans e4))), gd, ex_t (e011.trans (e3.trans e4)) hpq2', fun x hx => lastL_inside hx, fun q H5 e5 h1 h2 => q' _ H5 e5 ⟨q, rfl, fresh_back (e3.trans e4) h1, h2⟩⟩
                  · subst hv
                    have nw : ∀ {x : Addr}, G11 x = none → x ≠ wl := fun h z => by rw [z, e011 _ _ hw'] at h; cases h
                    have nk : ∀ {x : Addr}, G11 x = none → x ≠ kd := fun h z => by rw [z, e011 _ _ hk'] at h; cases h
                    have e012 := e011.trans e12
                    have hd2 : D2 (upd G12 wl (.lst (items' ++ [.ref tt]))) = D2 G12 := by
                      show del kd (del wl (upd G12 wl _)) = del kd (del wl G12)
                      rw [del_upd]
                    have hg : ∀ {x : Addr}, G11 x = none → D2 G12 x = G12 x := fun {x} h => by
                      show del kd (del wl G12) x = G12 x
                      rw [del_ne (nk h), del_ne (nw h)]
                    refine ⟨items' ++ [.ref tt], _, _, rfl, Ex.mut (eH'.trans e012) wl0, by rw [hd2]; exact eD'.trans (d2 e012), upd_same, ?_, by rw [upd_ne nwk.symm]; exact e012 _ _ hk'⟩
                    have tk : ((l.take (i + 1)).filter fun c => A1 (pst A0 A2 z) c).map (fun c => z ++ [c]) = ((l.take i).filter fun c => A1 (pst A0 A2 z) c).map (fun c => z ++ [c]) ++ [z ++ [c]] := by
                      rw [List.take_succ, hc, Option.toList_some, List.filter_append, List.map_append, List.filter_cons_of_pos (hA true hb)]
                      rfl
                    rw [hd2, tk, ← List.append_assoc]
                    refine (hW'.mono (d2 e012)).add (st_of (by rw [hg ht0]; exact ht2)) ⟨qq, ?_, ?_⟩
                    · rw [run_snoc]
                      exact st_of (by rw [hg hp0]; exact hp2)
                    · rw [lastL_snoc]
                      exact st_of (by rw [hg hq0]; exact hq2)
                · have e011 := e10.trans e11
                  refine ⟨items', _, _, rfl, eH'.trans e011, eD'.trans (d2 e011), e011 _ _ hw', ?_, e011 _ _ hk'⟩
                  have tk : ((l.take (i + 1)).filter fun c => A1 (pst A0 A2 z) c).map (fun c => z ++ [c]) = ((l.take i).filter fun c => A1 (pst A0 A2 z) c).map (fun c => z ++ [c]) := by
                    rw [List.take_succ, hc, Option.toList_some, List.filter_append, List.filter_cons_of_neg (by rw [hA false hb]; exact Bool.false_ne_true)]
                    simp
                  rw [tk]
                  exact hW'.mono (d2 e011)
              · obtain ⟨items', u, v, rfl, eH', eD', hw', hW', hk'⟩ := hP
                rw [List.take_length] at hW'
                exact hD _ _ ⟨items', u, v, rfl, eH', eD', hw', hW', hk'⟩
            · obtain ⟨items', u, v, rfl, eH', eD', hw', hW', hk'⟩ := hM
              have kl : (kidsOf l A0 A1 A2 z).length ≤ l.length := by
                unfold kidsOf
                rw [List.length_map]
                exact List.length_filter_le _ _
              refine ⟨(U.length - (Y.length + 1)) * (l.length + 1) + ((Wt ++ kidsOf l A0 A1 A2 z).length - (at' + 1)), ?_, Wt ++ kidsOf l A0 A1 A2 z, Y ++ [z], items', es ++ [(pkey (pst A0 A2 z), p, .bl true)], at' + 1, _, _, _, _, rfl, eH', hw', hW', hk', fun e he => ?_, ?_, ?_, .inl ⟨h0, qn, ?_, fun v hv => ?_⟩, ?_⟩
              · rw [List.length_append]
                obtain ⟨x, hx⟩ : ∃ x, U.length - Y.length = x + 1 := ⟨U.length - Y.length - 1, by omega⟩
                rw [hx, show U.length - (Y.length + 1) = x by omega, Nat.add_mul]
                omega
              · rcases List.mem_append.mp he with he | he
                · exact (hkeys e he).mono (d08.trans eD')
                · rw [List.mem_singleton.mp he]
                  exact hkz0.mono (d08.trans eD')
              · rw [List.map_append, List.map_append, hes]
                rfl
              · simp
              · rw [List.length_append, List.length_append, List.length_singleton, Nat.add_mul]
                omega
              · rw [List.length_append, List.length_singleton]
                rcases List.mem_append.mp hv with hv | hv
                · have := hlen v hv
                  omega
                · obtain ⟨c, hc, rfl⟩ := List.mem_map.mp hv
                  rw [List.length_append, List.length_singleton]
                  have := hlen z (List.mem_of_getElem? hz)
                  omega
              · simp
        · have hb : ¬ decide (((at' : Nat) : Int) < (items.length : Int)) = true := fun h => hlt (by have := of_decide_eq_true h; rw [hWt.1] at this; omega)
          rw [if_neg hb]
          refine hen _ _ (eG.trans f1) ?_
          rcases hq with ⟨h0, q, _⟩ | ⟨h0, _⟩
          · exact .inr (q.end_ hlt)
          · exact .inl h0
end
end K33
/-! text Rb -/
set_option Elab.async false
set_option linter.all false
set_option maxRecDepth 100000
set_option maxHeartbeats 4000000
namespace K33
open PySem PySem.Spec PyProof.Rows L2 Evl K33G
/-- all lists of such numbers, in order -/
def subs : Nat → List (List Nat)
  | 0 => [[]]
  | n + 1 => subs n ++ (subs n).map (· ++ [n])
theorem subs_len (n : Nat) : (subs n).length = 2 ^ n := by
  induction n with
  | zero => rfl
  | succ n ih =>
    show (subs n ++ (subs n).map (· ++ [n])).length = _
    rw [List.length_append, List.length_map, ih]
    omega
theorem mem_subs (n : Nat) (p : Nat → Bool) : (List.range n).filter p ∈ subs n := by
  induction n with
  | zero => exact List.mem_singleton.mpr rfl
  | succ n ih =>
    show _ ∈ subs n ++ (subs n).map (· ++ [n])
    rw [List.range_succ, List.filter_append]
    cases h : p n with
    | true =>
      rw [List.filter_cons_of_pos h]
      exact List.mem_append_right _ (List.mem_map.mpr ⟨_, ih, rfl⟩)
    | false =>
      rw [List.filter_cons_of_neg (by rw [h]; exact Bool.false_ne_true), List.filter_nil, List.append_nil]
      exact List.mem_append_left _ ih
theorem lastL_subs (M : Rel3) (n s : Nat) (w : List Nat) : lastL M n s w ∈ subs n := by
  obtain ⟨xs, e⟩ := lastL_is M n s w
  rw [e]
  exact mem_subs _ _
/-- all pairs that there can be -/
def allPairs (m n : Nat) : List Pst := (List.range m).flatMap fun k => (subs n).map fun xs => (k, xs)
theorem allPairs_len (m n : Nat) : (allPairs m n).length = m * 2 ^ n := by
  unfold allPairs
  rw [List.length_flatMap]
  simp only [List.length_map, subs_len]
  induction m with
  | zero => simp
  | succ m ih => rw [List.range_succ, List.map_append, List.sum_append, ih, Nat.add_mul]; simp
theorem val_all {M : Rel3} {n s m : Nat} {l lv : List Nat} {go : Nat → Nat → Nat} (ins : ∀ j < m, ∀ c ∈ l, go j c < m) (hm : 0 < m) : ∀ w, Val l (pS0 M n s) (pOpn go lv) (pNx M n go) w → pst (pS0 M n s) (pNx M n go) w ∈ allPairs m n := fun w hw => by
  rw [pst_pair]
  exact List.mem_flatMap.mpr ⟨_, List.mem_range.mpr (run_in ins hm (val_in hw)), List.mem_map.mpr ⟨_, lastL_subs M n s w, rfl⟩⟩
theorem LgOk.live {l : List Nat} {m : Nat} {go : Nat → Nat → Nat} {ml : List Nat} (lg : LgOk l m go ml) (k : Nat) (hk : k < m) : k ∈ lvOf l m go ml ↔ LiveP l go ml k := by
  unfold lvOf
  rw [mem_silentL, live_iff lg.ins hk]
  exact ⟨fun h => h.2, fun h => ⟨hk, h⟩⟩
section
variable {sp : Sp} {spc : SpC} {ta : TA} {te : TE} {g : TG} {tb : TS} {tz : TS} {D : Ends} {σ : L2.St} {H : Hp} {vs : List V} {P : V → Hp → Prop}
theorem q_forCo (h : EvA ta σ H vs) (k : ∀ H1, Ex H H1 → ∃ (yl : Nat → V → Hp → Prop) (en : Nat → Hp → Prop) (W : Nat → L2.St → Hp → Prop), spc vs H1 yl en ∧ W 0 σ H1 ∧ ∀ i σ H, W i σ H →
  (∀ x H', yl i x H' → g x σ H' fun σ2 H2 => tb { D with nx := fun σ' H3 => Ex H' H3 ∧ W (i + 1) σ' H3, ct := fun σ' H3 => Ex H' H3 ∧ W (i + 1) σ' H3, bk := tz D } σ2 H2) ∧ (∀ H', en i H' → tz D σ H')) : tSeq (tForCo spc ta g tb) tz D σ H := h H (Ex.refl H) _ k
theorem s_retC {E : XK} (h : EvA ta σ H vs) (k : ∀ H1, Ex H H1 → sp vs H1 (fun v H2 => D.rt v H2) E) : tRet (tCall sp [] E ta) D σ H := h H (Ex.refl H) _ fun H1 e1 => by
  rw [List.append_nil]
  exact k H1 e1
theorem evp_isN (h : EvP te σ H P) : EvP (tIsN te) σ H (fun z H' => ∃ x, P x H' ∧ z = .bl (decide (x = .non))) := fun H1 e Q q => h H1 e _ fun v H2 e2 hp => q _ H2 e2 ⟨v, hp, rfl⟩
end
/-- the answer as a value -/
def ansV : Option (List Nat) → V
  | some w => .str (txt w)
  | none => .non
section
variable {P : Program} {w : World} {K : PySem.W.Frag} {mg : Str → Option Value} {base : Heap}
/-- a def of one parameter that may be given by its name, too -/
def OkW (P : Program) (w : World) (K : PySem.W.Frag) (mg : Str → Option Value) (base : Heap) (k : Nat) (x q : Str) (sp : Sp) : Prop :=
  ∃ f fd, FnOk P w K mg base CX0 k f fd [q] sp ∧ mg x = some (.ref f) ∧ PySem.W.keepIn K (.ref f) = true ∧ Binds K fd [q] [] ∧ ∀ (s : Shared) (u : Value), BindsTo s fd ⟨[], [(q, u)]⟩ [(q, u)]
theorem OkW.ok {P : Program} {w : World} {K : PySem.W.Frag} {mg : Str → Option Value} {base : Heap} {k : Nat} {x q : Str} {sp : Sp} (h : OkW P w K mg base k x q sp) : Ok P w K mg base k x [q] sp := let ⟨f, fd, h1, h2, h3, h4, _⟩ := h; ⟨f, fd, h1, h2, h3, h4⟩
theorem okW_of {P : Program} {w : World} {K : PySem.W.Frag} {mg : Str → Option Value} {base : Heap} {x q : Str} {st : Stmt} {N : List Str} {k : Nat} {sp : Sp} (D : DefAt K mg x st) (S : FnScope N [q] (defScope st)) (len : ∀ vs H Q E, sp vs H Q E → vs.length = [q].length)
    (hb : ∀ (kV doc pm : Value) (an : Option Addr) (cdv ct : Value) (us : List Value), us.length = [q].length → bindArgs (PySem.W.fnOf x x (defArgs st) (defBody st) (defScope st) .none kV doc pm an cdv ct) ⟨us, []⟩ = pure ([q].zip us))
    (hw : ∀ (kV doc pm : Value) (an : Option Addr) (cdv ct : Value) (u : Value), bindArgs (PySem.W.fnOf x x (defArgs st) (defBody st) (defScope st) .none kV doc pm an cdv ct) ⟨[], [(q, u)]⟩ = pure [(q, u)])
    (hbody : ∀ (f : Addr) (cdv : Value) (A : Around) (outer : List Env) (s : Shared) (H : Hp) (vs : List V) (Q : VK) (E : XK), Room k (A.deeper (envOfC x (defScope st) s.heap.objs.size f cdv)) → sp vs H Q E →
      ∃ t, PSs (cxOf CX0 P w K mg base N x (defScope st) f cdv A outer s H E).nox (defBody st) t ∧ t { nx := fun _ H' => Q .non H', rt := Q } (start N vs) H) :
    OkW P w K mg base (k + 1) x q sp := by
  obtain ⟨f, fd, F, g⟩ := D
  refine ⟨f, fd, F.ok S len fun cdv A outer s H vs Q E hr hs => let ⟨t, h, q⟩ := hbody f cdv A outer s H vs Q E hr hs; ⟨t, h.nox, q⟩, g, F.kp, F.bindsN hb, fun s u => ?_⟩
  obtain ⟨oc, od, dV, kV, doc, pm, an, cdv, ct, osl, rfl, lk, hcd, hD, hK⟩ := F.ex
  rcases hD with ⟨_, rfl⟩ | ⟨h, _⟩
  · exact .of_eq (hw kV doc pm an cdv ct u)
  · exact absurd rfl h
/-- words of the language -/
def langP (go : Nat → Nat → Nat) (ml : List Nat) (w : List Nat) : Prop := run go 0 w ∈ ml
/-- texts that can be written -/
def goodP (rows : List Row) (s : Nat) (bs : List Nat) (w : List Nat) : Prop := meet (lastL (goes rows) rows.length s w) bs = true
def spLacking (K : PySem.W.Frag) (mg : Str → Option Value) : Sp := fun vs H Q _ => ∃ (a L b : Addr) (s : Nat) (rows : List Row) (l : List Nat) (m : Nat) (go : Nat → Nat → Nat) (ml bs : List Nat), vs = [.ref a, nv s, .ref b, .ref L] ∧ ReaderAt K mg H a rows ∧ GoodR rows ∧ rows.length ≤ 8 ∧ s < rows.length ∧ LangAt K mg H L l m go ml ∧ LgOk l m go ml ∧ SqT K H b (bs.map nv) ∧
  ∀ r, Ans l (langP go ml) (goodP rows s bs) r → RetV (ansV r) H Q
abbrev N_lacking : List Str := ["reader", "state", "behind", "language", "text", "kind", "states"]
theorem sc_lacking : FnScope N_lacking ["reader", "state", "behind", "language"] (defScope (top 56)) := ⟨rfl, rfl, rfl, by decide +kernel, rfl, by decide +kernel, by decide +kernel⟩
theorem ok_lacking (T : Txt K mg) (G : TxtG K mg) : Ok P w K mg base 6 "lacking" ["reader", "state", "behind", "language"] (spLacking K mg) := by
  refine ok_of T.lacking sc_lacking (fun vs H Q E h => ?_) (fun _ _ _ _ _ _ us hl => match us, hl with | [_, _, _, _], _ => rfl) (fun f cdv A outer s H vs Q E hr h => ?_)
  · obtain ⟨_, _, _, _, _, _, _, _, _, _, rfl, _⟩ := h
    rfl
  · obtain ⟨a, L, b, s, rows, l, m, go, ml, bs, rfl, hR, gd, n8, hs, hL, lg, hb, k⟩ := h
    refine ⟨_, (pss_cons (ps_forCo (fun _ _ h => h) rfl ⟨rfl, rfl⟩ (co_met T G) (hr.mono (by decide)) (pa_cons (pv 0) (pa_cons (pv 1) (pa_cons (pv 3) pa_nil))) (pg_tup rfl (pgs_cons (pg_name (i := 4) sc_lacking.nd rfl (Or.inl rfl)) (pgs_cons (pg_tup rfl (pgs_cons (pg_name (i := 5) sc_lacking.nd rfl (Or.inl rfl)) (pgs_cons (pg_name (i := 6) sc_lacking.nd rfl (Or.inl rfl)) pgs_nil))) pgs_nil)))
 (pss_one (ps_if (PW.pt (pw_and (pt_cmpR (r := rIn K false) op_in_seq (pv 5) (pe_fldK (K := K) (pv 3)) (by rfl)) (pw_and1 (pt_not (pt_val (pe_f (ok_meets T) (hr.mono (by decide)) (pa_cons (pv 6) (pa_cons (pv 2) pa_nil))))))))
 (pss_one (ps_ret (pv 4)))
 pss_nil)))
 (pss_one (ps_ret pe_non))), ?_⟩
    let lv := lvOf l m go ml
    let R := goes rows
    let n := rows.length
    let A0 := pS0 R n s
    let A1 := pOpn go lv
    let A2 := pNx R n go
    let bad : Pst → Prop := fun p => p.1 ∈ ml ∧ ¬ meet p.2 bs = true
    have hbad : ∀ w, bad (run go 0 w, lastL R n s w) ↔ run go 0 w ∈ ml ∧ ¬ goodP rows s bs w := fun w => Iff.rfl
    have eL := hL
    obtain ⟨dx, q1, q2, q3, fs, ds, g1, g2, g3, g4, g5, g6, g7, g8, g9⟩ := eL
    refine q_forCo (ea_cons (ev_var rfl) (ea_cons (ev_var rfl) (ea_cons (ev_var rfl) ea_nil))) fun H1 e1 => ?_
    refine ⟨fun i x H' => Ex H1 H' ∧ 0 ∈ lv ∧ ∃ w t p, x = .ref t ∧ Turn l A0 A1 A2 i w ∧ SqT K H' t [.str (txt w), .ref p] ∧ PairAt K H' p (run go 0 w) (lastL R n s w), fun i H' => Ex H1 H' ∧ (0 ∉ lv ∨ Last l A0 A1 A2 i),
      fun i σ H' => ∃ u v w : Option V, σ = [some (.ref a), some (nv s), some (.ref b), some (.ref L), u, v, w] ∧ Ex H H' ∧ ∀ j < i, ∀ y, Yword l A0 A1 A2 j y → ¬ bad (pst A0 A2 y), ?_, ⟨_, _, _, rfl, e1, fun j hj => absurd hj (Nat.not_lt_zero j)⟩, ?_⟩
    · refine ⟨a, L, s, rows, l, m, go, ml, allPairs m n, rfl, hR.mono e1, gd, hs, hL.mono e1, lg, ?_, val_all lg.ins lg.one, fun i w t p H' e h0 tn h1 h2 => ⟨e, h0, w, t, p, rfl, tn, h1, h2⟩, fun i H' e h => ⟨e, h⟩⟩
      rw [allPairs_len]
      have h1 : 2 ^ n ≤ 2 ^ 8 := Nat.pow_le_pow_right (by omega) n8
      have h2 := Nat.mul_le_mul lg.six h1
      omega
    · rintro i σ H2 ⟨u, v, w', rfl, e2, no⟩
      refine ⟨fun x H3 ⟨e3, h0, w, t, p, hx, tn, ht, hp⟩ => ?_, fun H3 ⟨e3, hl⟩ => ?_⟩
      · subst hx
        obtain ⟨q, hp1, hp2⟩ := hp
        have e03 := e1.trans e3
        refine ⟨t, _, rfl, ht, rfl, _, _, rfl, _, _, rfl, tg_pair hp1 ⟨rfl, ?_⟩⟩
        have hz : (lastL R n s w).length ≤ n := lastL_len
        refine s_when (b := decide (run go 0 w ∈ ml) && !meet (lastL R n s w) bs) (et_and (et_is (et_test (ev_op (ev_var rfl) (ev_fld T.Language (by simp) (ev_var rfl) (e03 _ _ g1) g4) (rv_isT (ex_t e03 g8) rfl (flat_nv _)))) (inV_nv _ _)) fun _ => et_not (et_test (ev_callV (z := .bl (meet (lastL R n s w) bs)) (ea_cons (ev_var rfl) (ea_cons (ev_var rfl) ea_nil)) fun H4 e4 Q' q' E => ⟨q, b, lastL R n s w, bs, rfl, ex_t e4 hp2, ex_t (e03.trans e4) hb, by omega, q'⟩))) (fun hb H4 e4 => ?_) fun hb H4 e4 => ?_
        · rw [Bool.and_eq_true, decide_eq_true_eq, Bool.not_eq_true'] at hb
          refine s_ret (v := .str (txt w)) (ev_var rfl) fun H5 e5 => k (some w) (ans_of (bs := bs) lg.ins lg.one lg.live h0 hbad (found_turn tn no ?_)) H5 (e03.trans (e4.trans e5))
          rw [pst_pair]
          exact ⟨hb.1, by rw [hb.2]; exact Bool.false_ne_true⟩
        · refine ⟨e4, _, _, _, rfl, e03.trans e4, no_more tn no ?_⟩
          rw [pst_pair]
          rintro ⟨h1, h2⟩
          rw [decide_eq_true h1, Bool.true_and, Bool.not_eq_false'] at hb
          exact h2 hb
      · refine s_ret (v := .non) ev_c fun H5 e5 => ?_
        refine k none ?_ H5 ((e1.trans e3).trans e5)
        rcases hl with h0 | hl
        · exact ans_dead lg.one lg.live h0
        · by_cases h0 : 0 ∈ lv
          · exact ans_of (bs := bs) lg.ins lg.one lg.live h0 hbad (found_last hl no)
          · exact ans_dead lg.one lg.live h0
/-- a door that is in order -/
structure GateAt (K : PySem.W.Frag) (mg : Str → Option Value) (H : Hp) (d : Addr) (rows : List Row) (s : Nat) (bs l : List Nat) (m : Nat) (go : Nat → Nat → Nat) (ml : List Nat) : Prop where
  at_ : ∃ a L, DoorAt K mg H d a s bs L ∧ ReaderAt K mg H a rows ∧ LangAt K mg H L l m go ml
  gd : GoodR rows
  n8 : rows.length ≤ 8
  hs : s < rows.length
  lg : LgOk l m go ml
theorem GateAt.mono {H H' : Hp} {d : Addr} {rows : List Row} {s : Nat} {bs l : List Nat} {m : Nat} {go : Nat → Nat → Nat} {ml : List Nat} (h : GateAt K mg H d rows s bs l m go ml) (e : Ex H H') : GateAt K mg H' d rows s bs l m go ml :=
  ⟨let ⟨a, L, h1, h2, h3⟩ := h.at_; ⟨a, L, h1.mono e, h2.mono e, h3.mono e⟩, h.gd, h.n8, h.hs, h.lg⟩
def spFind (K : PySem.W.Frag) (mg : Str → Option Value) : Sp := fun vs H Q _ => ∃ (d : Addr) (rows : List Row) (s : Nat) (bs l : List Nat) (m : Nat) (go : Nat → Nat → Nat) (ml : List Nat), vs = [.ref d] ∧ GateAt K mg H d rows s bs l m go ml ∧
  ∀ r, Ans l (langP go ml) (goodP rows s bs) r → RetV (ansV r) H Q
abbrev N_find_unwritable : List Str := ["door"]
theorem sc_find_unwritable : FnScope N_find_unwritable ["door"] (defScope (top 57)) := ⟨rfl, rfl, rfl, by decide +kernel, rfl, by decide +kernel, by decide +kernel⟩
theorem okw_find_unwritable (T : Txt K mg) (G : TxtG K mg) : OkW P w K mg base 7 "find_unwritable" "door" (spFind K mg) := by
  refine okW_of T.find_unwritable sc_find_unwritable (fun vs H Q E h => ?_) (fun _ _ _ _ _ _ us hl => match us, hl with | [_], _ => rfl) (fun _ _ _ _ _ _ _ => rfl) (fun f cdv A outer s H vs Q E hr h => ?_)
  · obtain ⟨_, _, _, _, _, _, _, _, rfl, _⟩ := h
    rfl
  · obtain ⟨d, rows, s, bs, l, m, go, ml, rfl, hG, k⟩ := h
    refine ⟨_, (pss_one (ps_ret (pe_f (ok_lacking T G) (hr.mono (by decide)) (pa_cons (pe_fldK (K := K) (pv 0)) (pa_cons (pe_fldK (K := K) (pv 0)) (pa_cons (pe_fldK (K := K) (pv 0)) (pa_cons (pe_fldK (K := K) (pv 0)) pa_nil))))))), ?_⟩
    obtain ⟨⟨a, L, ⟨dx, q, fs, bs', h1, h2, h3, h4, h5, h6, h7⟩, hR, hL⟩, gd, n8, hs, lg⟩ := hG
    refine s_retC (ea_cons (ev_fld T.Door (by simp) (ev_var rfl) h1 h2) (ea_cons (ev_fld T.Door (by simp) (ev_var rfl) h1 h3) (ea_cons (ev_fld T.Door (by simp) (ev_var rfl) h1 h4) (ea_cons (ev_fld T.Door (by simp) (ev_var rfl) h1 h5) ea_nil)))) fun H1 e1 => ?_
    refine ⟨a, L, q, s, rows, l, m, go, ml, bs', rfl, hR.mono e1, gd, n8, hs, hL.mono e1, lg, ex_t e1 h6, fun r hr H2 e2 => k r (hr.congr (fun _ _ => Iff.rfl) fun w _ => ?_) H2 (e1.trans e2)⟩
    unfold goodP
    rw [meet_congr h7]
theorem ok_find_unwritable (T : Txt K mg) (G : TxtG K mg) : Ok P w K mg base 7 "find_unwritable" ["door"] (spFind K mg) := (okw_find_unwritable T G).ok
def spWide (K : PySem.W.Frag) (mg : Str → Option Value) : Sp := fun vs H Q _ => ∃ (d : Addr) (rows : List Row) (s : Nat) (bs l : List Nat) (m : Nat) (go : Nat → Nat → Nat) (ml : List Nat), vs = [.ref d] ∧ GateAt K mg H d rows s bs l m go ml ∧
  ∀ r, Ans l (langP go ml) (goodP rows s bs) r → RetV (.bl r.isNone) H Q
abbrev N_is_wide : List Str := ["door"]
theorem sc_is_wide : FnScope N_is_wide ["door"] (defScope (top 58)) := ⟨rfl, rfl, rfl, by decide +kernel, rfl, by decide +kernel, by decide +kernel⟩
theorem okw_is_wide (T : Txt K mg) (G : TxtG K mg) : OkW P w K mg base 8 "is_wide" "door" (spWide K mg) := by
  refine okW_of T.is_wide sc_is_wide (fun vs H Q E h => ?_) (fun _ _ _ _ _ _ us hl => match us, hl with | [_], _ => rfl) (fun _ _ _ _ _ _ _ => rfl) (fun f cdv A outer s H vs Q E hr h => ?_)
  · obtain ⟨_, _, _, _, _, _, _, _, rfl, _⟩ := h
    rfl
  · obtain ⟨d, rows, s, bs, l, m, go, ml, rfl, hG, k⟩ := h
    refine ⟨_, (pss_one (ps_ret (pe_cmp (pc_isN (pe_f (ok_find_unwritable T G) (hr.mono (by decide)) (pa_cons (pv 0) pa_nil))) rfl))), ?_⟩
    refine s_retP (evp_isN (P := fun v _ => ∃ r, v = ansV r ∧ Ans l (langP go ml) (goodP rows s bs) r) (evp_call (ea_of (ea_cons (ev_var rfl) ea_nil)) fun vs H1 e1 hv => ?_)) fun v H1 e1 ⟨x, ⟨r, hx, hr⟩, hv⟩ => ?_
    · subst hv
      exact fun H2 e2 Q' q' E => ⟨d, rows, s, bs, l, m, go, ml, rfl, hG.mono (e1.trans e2), fun r hr H3 e3 => q' _ H3 e3 ⟨r, rfl, hr⟩⟩
    · have := k r hr H1 e1
      subst hx hv
      cases r <;> exact this
theorem ok_is_wide (T : Txt K mg) (G : TxtG K mg) : Ok P w K mg base 8 "is_wide" ["door"] (spWide K mg) := (okw_is_wide T G).ok
end
end K33
/-! text Sa -/
set_option Elab.async false
set_option linter.all false
set_option maxRecDepth 100000
set_option maxHeartbeats 4000000
namespace K33
open PySem PySem.Spec PyProof.Rows L2 Evl K33G
section
variable {K : PySem.W.Frag} {te : TE} {g : TG} {tu tz : TS} {D : Ends} {σ : L2.St} {H : Hp}
theorem s_forPL {xs : List V} (h : EvP te σ H (fun v H' => ∃ l, v = .ref l ∧ H l = none ∧ H' l = some (.lst xs))) (Pv : Addr → Nat → L2.St → Hp → Prop) (h0 : ∀ p H1, H p = none → Ex H H1 → H1 p = some (.lst xs) → Pv p 0 σ H1) (hl : ∀ p i σ' H', i ≤ xs.length → Pv p i σ' H' → SqL K H' p xs)
    (hs : ∀ p i x σ' H', xs[i]? = some x → Pv p i σ' H' → g x σ' H' fun σ2 H2 => tu { D with nx := Pv p (i + 1), ct := Pv p (i + 1), bk := D.nx } σ2 H2) (hd : ∀ p σ' H', Pv p xs.length σ' H' → D.nx σ' H') : tFor (iList K te) g tu D σ H :=
  h H (Ex.refl H) _ fun v H1 e ⟨p, hv, hp, h1⟩ => ⟨p, hv, ⟨xs, sq_of h1⟩, for_list (Pv p) (h0 p H1 hp e h1) (hl p) (hs p) (hd p)⟩
theorem tg_kpair {T t : Addr} {x y z : V} {i j k : Nat} {kk : L2.St → Hp → Prop} (hT : SqT K H T [x, .ref t]) (ht : SqT K H t [y, z]) (h : kk (((σ.set i (some x)).set j (some y)).set k (some z)) H) :
    gTup K 2 (gCons (gName i) (gCons (gTup K 2 (gCons (gName j) (gCons (gName k) gNil))) gNil)) (.ref T) σ H kk := ⟨T, _, rfl, hT, rfl, _, _, rfl, _, _, rfl, tg_pair ht ⟨rfl, h⟩⟩
end
theorem perm_nat {ms : List Int} {xs : List Nat} (h : ms.Perm (xs.map fun (i : Nat) => (i : Int))) : ∃ fs : List Nat, fs.Perm xs ∧ ms = fs.map fun (i : Nat) => (i : Int) := by
  refine ⟨ms.map Int.toNat, ?_, ?_⟩
  · have := h.map Int.toNat
    rw [List.map_map] at this
    have e : xs.map (Int.toNat ∘ fun (i : Nat) => (i : Int)) = xs := by
      conv => rhs; rw [← List.map_id xs]
      exact List.map_congr_left fun a _ => by simp
    rw [e] at this
    exact this
  · rw [List.map_map]
    conv => lhs; rw [← List.map_id ms]
    refine List.map_congr_left fun k hk => ?_
    obtain ⟨x, _, rfl⟩ := List.mem_map.mp (h.mem_iff.mp hk)
    simp
section
variable {P : Program} {w : World} {K : PySem.W.Frag} {mg : Str → Option Value} {base : Heap}
def spLSilent (K : PySem.W.Frag) : Sp := fun vs H Q _ => ∃ (p q : Addr) (rows : List Row) (xs : List Nat), vs = [.ref p, .ref q] ∧ RowsL K H p rows ∧ GoodR rows ∧ SqL K H q (xs.map nv) ∧ xs.Nodup ∧ (∀ x ∈ xs, x < rows.length) ∧
  ∀ (r : Addr) (H' : Hp), Ex H H' → H r = none → H' r = some (.lst ((silentL (goes rows) rows.length xs).map nv)) → Q (.ref r) H'
abbrev N_law_silent : List Str := ["_law_rows", "_law_some", "_law_found", "_law_turn", "_law_spot", "_law_letter", "_law_goal", "_law_told"]
theorem sc_law_silent : FnScope N_law_silent ["_law_rows", "_law_some"] (defScope (top 69)) := ⟨rfl, rfl, rfl, by decide +kernel, rfl, by decide +kernel, by decide +kernel⟩
theorem ok_law_silent (T : Txt K mg) : Ok P w K mg base 1 "_law_silent" ["_law_rows", "_law_some"] (spLSilent K) := by
  refine ok_of T.law_silent sc_law_silent (fun vs H Q E h => ?_) (fun _ _ _ _ _ _ us hl => match us, hl with | [_, _], _ => rfl) (fun f cdv A outer s H vs Q E hr h => ?_)
  · obtain ⟨_, _, _, _, rfl, _⟩ := h
    rfl
  · obtain ⟨p, q, rows, xs, rfl, hRL, gd, hq, nd, ins, fin⟩ := h
    refine ⟨_, (pss_cons (ps_set (i := 2) sc_law_silent.nd rfl (Or.inl rfl) (pe_callB (r := rSortedLT K) (cr_sortedLT (by rfl)) (by rfl) T.sorted (by decide +kernel) (pa_cons (pv 1) pa_nil)))
 (pss_cons (ps_for PassesOwn.never rfl (pi_range1 rfl T.range (pa_cons (pe_callB call_len (by rfl) T.len (by decide +kernel) (pa_cons (pv 0) pa_nil)) pa_nil)) (pg_name (i := 3) sc_law_silent.nd rfl (Or.inl rfl))
 (pss_one (ps_for PassesOwn.never rfl (pi_listK (K := K) (pe_listOf (K := K) T.list (pa_cons (pv 2) pa_nil))) (pg_name (i := 4) sc_law_silent.nd rfl (Or.inl rfl))
 (pss_one (ps_for PassesOwn.never rfl (pi_items (pe_ix (r := rIxL K) ix_list (pv 0) (pv 4) (fun _ _ => rfl))) (pg_tup rfl (pgs_cons (pg_name (i := 5) sc_law_silent.nd rfl (Or.inl rfl)) (pgs_cons (pg_tup rfl (pgs_cons (pg_name (i := 6) sc_law_silent.nd rfl (Or.inl rfl)) (pgs_cons (pg_name (i := 7) sc_law_silent.nd rfl (Or.inl rfl)) pgs_nil))) pgs_nil)))
 (pss_one (ps_if (PW.pt (pw_and (pt_cmp (pc_isN (pv 7)) rfl) (pw_and1 (pt_cmpR (r := rIn K true) op_notIn_seq (pv 6) (pv 2) (by rfl)))))
 (pss_one (ps_expr (pe_bm PySem.F.plainAttrs_list PySem.F.slot_list_append PySem.F.type_list_append mt_append (pv 2) (pa_cons (pv 6) pa_nil))))
 pss_nil)))))))
 (pss_one (ps_ret (pe_callB (r := rSortedLT K) (cr_sortedLT (by rfl)) (by rfl) T.sorted (by decide +kernel) (pa_cons (pv 2) pa_nil)))))), ?_⟩
    obtain ⟨rs, hrs, hrl, hat⟩ := hRL.at
    let n := rows.length
    let M := goes rows
    have few := gd.few
    let Good : List Nat → Prop := fun fs => fs.Nodup ∧ (∀ x ∈ fs, x < n) ∧ (∀ x ∈ xs, x ∈ fs) ∧ ∀ x ∈ fs, Sil M xs x
    let Cl : List Nat → Prop := fun fs => ∀ x ∈ fs, ∀ g, M x g none → g ∈ fs
    refine q_asgP (P := fun v H1 => ∃ f fs, v = .ref f ∧ H f = none ∧ Good fs ∧ H1 f = some (.lst (fs.map nv))) ((evp_sortedLT (a := q) (ns := xs.map fun (i : Nat) => (i : Int)) (ev_var rfl) (.inl (by rw [← nv_map]; exact hq))).imp fun v H' e ⟨r, ms, h1, h0, pm, le, h2⟩ => ?_) fun v H1 e1 ⟨f, fs1, hv, hf0, gf1, hf1⟩ => ?_
    · obtain ⟨fs, pf, rfl⟩ := perm_nat pm
      refine ⟨r, fs, h1, h0, ⟨pf.nodup_iff.mpr nd, fun x hx => ins x (pf.mem_iff.mp hx), fun x hx => pf.mem_iff.mpr hx, fun x hx => .base (pf.mem_iff.mp hx)⟩, ?_⟩
      rw [nv_map]
      exact h2
    · subst hv
      refine q_forR1 (n := (n : Int)) (ea_cons (ev_lenV (n := n) (ev_var rfl) fun H2 e2 => .inl ⟨_, ex_l (e1.trans e2) hrs, hrl.symm⟩) ea_nil) (by omega) (fun i σ' H' => ∃ (fs : List Nat) (a b c d e : Option V), σ' = [some (.ref p), some (.ref q), some (.ref f), a, b, c, d, e] ∧ Good fs ∧ (Cl fs ∨ i ≤ fs.length) ∧ Ex H H' ∧ H' f = some (.lst (fs.map nv)))
        (fun H2 e2 => ⟨fs1, none, none, none, none, none, rfl, gf1, .inr (Nat.zero_le _), e1.trans e2, e2 _ _ hf1⟩) (fun i σ' H' hi hP => ?_) fun σ' H' hP => ?_
      · obtain ⟨fs0, a, b, c, d, e, rfl, gf0, prog, eH, hl⟩ := hP
        show tFor _ _ _ _ _ _
        refine s_forPL (evp_listOf (a := f) (xs := fs0.map nv) (ev_var rfl) (.inl (sq_of hl))) (fun cp j σ' H' => ∃ (fs : List Nat) (b c d e : Option V), σ' = [some (.ref p), some (.ref q), some (.ref f), some (.int (i : Int)), b, c, d, e] ∧ fs0 <+: fs ∧ Good fs ∧ (∀ j' < j, ∀ x, fs0[j']? = some x → ∀ g, M x g none → g ∈ fs) ∧ (Cl fs0 → fs = fs0) ∧ cp ≠ f ∧ H' cp = some (.lst (fs0.map nv)) ∧ Ex H H' ∧ H' f = some (.lst (fs.map nv)))
          (fun cp H2 hc e2 h2 => ⟨fs0, b, c, d, e, rfl, List.prefix_refl _, gf0, fun j hj => absurd hj (Nat.not_lt_zero j), fun _ => rfl, (fun z => by rw [z, hl] at hc; cases hc), h2, eH.trans e2, e2 _ _ hl⟩) (fun _ _ _ _ _ ⟨_, _, _, _, _, _, _, _, _, _, _, h, _⟩ => sq_of h) (fun cp j y σ' H' hy hP => ?_) fun cp σ' H' hP => ?_
        · obtain ⟨fs, b, c, d, e, rfl, pre, gf, done, same, ncp, hcp, eH, hl⟩ := hP
          obtain ⟨x, hx, rfl⟩ : ∃ x, fs0[j]? = some x ∧ nv x = y := by
            rw [List.getElem?_map] at hy
            cases hx : fs0[j]? with
            | none => rw [hx] at hy; cases hy
            | some x => rw [hx] at hy; exact ⟨x, rfl, Option.some.inj hy⟩
          have x0 := List.mem_of_getElem? hx
          have xn := gf0.2.1 x x0
          obtain ⟨r, hr⟩ : ∃ r, rows[x]? = some r := ⟨rows[x], List.getElem?_eq_getElem xn⟩
          obtain ⟨dd, hd, kvs, fd, kl, hkv⟩ := hat x r hr
          show tFor _ _ _ _ _ _
          refine s_forItems (d := dd) (kvs := kvs) (ev_op (ev_var rfl) (ev_var rfl) (rv_ixL (ex_l eH hrs) (atI_nat hd))) (fd.mono eH)
            (fun k σ' H' => ∃ (fs' : List Nat) (c d e : Option V), σ' = [some (.ref p), some (.ref q), some (.ref f), some (.int (i : Int)), some (nv x), c, d, e] ∧ fs <+: fs' ∧ Good fs' ∧ (∀ j < k, ∀ e, r[j]? = some e → e.2.2 = none → e.2.1 ∈ fs') ∧ (Cl fs0 → fs' = fs0) ∧ H' cp = some (.lst (fs0.map nv)) ∧ Ex H H' ∧ H' f = some (.lst (fs'.map nv)))
            (fun H4 e4 => ⟨fs, c, d, e, rfl, List.prefix_refl _, gf, fun j hj => absurd hj (Nat.not_lt_zero j), same, e4 _ _ hcp, eH.trans e4, e4 _ _ hl⟩) (fun k σ' H' _ ⟨_, _, _, _, _, _, _, _, _, _, h, _⟩ o ho => ?_) (fun k kk y σ' H' t hi hP hT => ?_) fun σ' H' hP => ?_
          · obtain ⟨o', fd⟩ := fd
            rw [eH _ _ fd] at ho
            cases ho
            exact h _ _ fd
          · obtain ⟨fs', c', d', e', rfl, pre', gf', done', same', hcp', eH', hl'⟩ := hP
            have hir : k < r.length := by rw [← kl]; exact (List.getElem?_eq_some_iff.mp hi).1
            obtain ⟨en, he⟩ : ∃ e, r[k]? = some e := ⟨r[k], List.getElem?_eq_getElem hir⟩
            obtain ⟨tt, q1, q2⟩ := hkv k en he
            rw [q1] at hi
            cases hi
            have eT : Ex H' (upd H' t (.tup [kV (.inr (sg en.1)), .ref tt])) := Ex.new hT
            refine tg_kpair (st_of upd_same) (ex_t (eH'.trans eT) q2) ?_
            generalize upd H' t (.tup [kV (.inr (sg en.1)), .ref tt]) = Ha at eT
            have eHa := eH'.trans eT
            have hla := eT _ _ hl'
            have fl' := lenN gf'.1 gf'.2.1
            refine s_when (b := decide (tv en.2.2 = .non) && !inV (nv en.2.1) (fs'.map nv)) (et_and (et_B (ev_isN (ev_var rfl))) fun _ => et_test (ev_op (ev_var rfl) (ev_var rfl) (rv_niL (sq_of hla) rfl (flat_nv _)))) (fun hb2 H4 e4 => ?_) fun hb2 H4 e4 => ?_
            · rw [inV_nv, tv_non, Bool.and_eq_true, Bool.not_eq_true', decide_eq_false_iff_not] at hb2
              have eN : en.2.2 = none := Option.isNone_iff_eq_none.mp hb2.1
              have mv : M x en.2.1 none := ⟨r, hr, en.1, by rw [← eN]; exact List.mem_of_getElem? he⟩
              refine s_app (xs := fs'.map nv) (e4 _ _ hla) (ev_var rfl) (ev_var rfl) (by rw [List.length_map]; omega) fun H5 e5 => ⟨fs' ++ [en.2.1], _, _, _, rfl, pre'.trans (List.prefix_append _ _), ?_, fun j hj e' he' hn' => ?_, fun h => ?_, by rw [upd_ne ncp]; exact e5 _ _ (e4 _ _ (eT _ _ hcp')), Ex.mut ((eHa.trans e4).trans e5) hf0, by rw [upd_same, List.map_append]; rfl⟩
              · refine ⟨?_, fun y hy => ?_, fun y hy => List.mem_append_left _ (gf'.2.2.1 y hy), fun y hy => ?_⟩
                · rw [List.nodup_append]
                  exact ⟨gf'.1, by simp, fun y hy z hz => by
                    rw [List.mem_singleton.mp hz]
                    exact fun z => hb2.2 (z ▸ hy)⟩
                · rcases List.mem_append.mp hy with h | h
                  · exact gf'.2.1 y h
                  · rw [List.mem_singleton.mp h]
                    exact gd.inside _ _ _ mv
                · rcases List.mem_append.mp hy with h | h
                  · exact gf'.2.2.2 y h
                  · rw [List.mem_singleton.mp h]
                    exact .step (gf0.2.2.2 x x0) mv
              · rcases Nat.lt_succ_iff_lt_or_eq.mp hj with h | h
                · exact List.mem_append_left _ (done' j h e' he' hn')
                · subst h
                  rw [he] at he'
                  cases he'
                  simp
              · rw [same' h] at hb2
                exact absurd (h x x0 _ mv) hb2.2
            · refine ⟨fs', _, _, _, rfl, pre', gf', fun j hj e' he' hn' => ?_, same', e4 _ _ (eT _ _ hcp'), eHa.trans e4, e4 _ _ hla⟩
              rcases Nat.lt_succ_iff_lt_or_eq.mp hj with h | h
              · exact done' j h e' he' hn'
              · subst h
                rw [he] at he'
                cases he'
                rw [inV_nv, hn'] at hb2
                simpa [tv] using hb2
          · obtain ⟨fs', c', d', e', rfl, pre', gf', done', same', hcp', eH', hl'⟩ := hP
            refine ⟨fs', _, _, _, _, rfl, pre.trans pre', gf', fun j' hj' y2 hy2 g hg => ?_, same', ncp, hcp', eH', hl'⟩
            rcases Nat.lt_succ_iff_lt_or_eq.mp hj' with h | h
            · exact pre'.subset (done j' h y2 hy2 g hg)
            · subst h
              rw [hx] at hy2
              cases hy2
              obtain ⟨r2, hr2, c2, hc⟩ := hg
              rw [hr] at hr2
              cases hr2
              obtain ⟨j2, hj2⟩ := List.mem_iff_getElem?.mp hc
              exact done' j2 (by rw [kl]; exact (List.getElem?_eq_some_iff.mp hj2).1) _ hj2 rfl
        · obtain ⟨fs, b, c, d, e, rfl, pre, gf, done, same, ncp, hcp, eH, hl⟩ := hP
          rw [List.length_map] at done
          refine ⟨fs, _, b, c, d, e, rfl, gf, ?_, eH, hl⟩
          by_cases h : fs = fs0
          · refine .inl fun x hx g hg => ?_
            rw [h] at hx
            obtain ⟨j, hj⟩ := List.mem_iff_getElem?.mp hx
            exact done j (List.getElem?_eq_some_iff.mp hj).1 x hj g hg
          · rcases prog with p | p
            · exact absurd (same p) h
            · refine .inr ?_
              obtain ⟨s, hs⟩ := pre
              cases s with
              | nil => exact absurd (by rw [← hs]; simp) h
              | cons y s =>
                rw [← hs]
                simp
                omega
      · obtain ⟨fs, a, b, c, d, e, rfl, gf, prog, eH, hl⟩ := hP
        have cl : ∀ x ∈ fs, ∀ g, M x g none → g ∈ fs := fun x hx g hg => by
          rcases prog with p | p
          · exact p x hx g hg
          · exact full_list gf.1 gf.2.1 (by simpa using p) g (gd.inside _ _ _ hg)
        refine s_retP (evp_sortedLT (a := f) (ns := fs.map fun (i : Nat) => (i : Int)) (ev_var rfl) (.inl (by rw [← nv_map]; exact sq_of hl))) fun v H4 e4 ⟨r, ms, hv, hr, pm, le, h2⟩ => ?_
        subst hv
        refine fin r H4 (eH.trans e4) (fresh_back eH hr) ?_
        rw [h2, sorted_silent pm le gf.1 fun s => ⟨fun h => ⟨gf.2.1 s h, gf.2.2.2 s h⟩, fun h => (silent_closed gf.2.2.1 gf.2.2.2 cl s).mpr h.2⟩, ← nv_map]
def spLStep (K : PySem.W.Frag) : Sp := fun vs H Q _ => ∃ (p q : Addr) (rows : List Row) (xs : List Nat) (z : Str), vs = [.ref p, .ref q, .str z] ∧ RowsL K H p rows ∧ GoodR rows ∧ SqT K H q (xs.map nv) ∧ (∀ x ∈ xs, x < rows.length) ∧
  ∀ (r : Addr) (H' : Hp), Ex H H' → H r = none → H' r = some (.lst ((stepL (goes rows) rows.length xs z).map nv)) → Q (.ref r) H'
abbrev N_law_step : List Str := ["_law_rows", "_law_some", "_law_thing", "_law_goals", "_law_spot", "_law_letter", "_law_goal", "_law_told"]
theorem sc_law_step : FnScope N_law_step ["_law_rows", "_law_some", "_law_thing"] (defScope (top 70)) := ⟨rfl, rfl, rfl, by decide +kernel, rfl, by decide +kernel, by decide +kernel⟩
theorem ok_law_step (T : Txt K mg) : Ok P w K mg base 2 "_law_step" ["_law_rows", "_law_some", "_law_thing"] (spLStep K) := by
  refine ok_of T.law_step sc_law_step (fun vs H Q E h => ?_) (fun _ _ _ _ _ _ us hl => match us, hl with | [_, _, _], _ => rfl) (fun f cdv A outer s H vs Q E hr h => ?_)
  · obtain ⟨_, _, _, _, _, rfl, _⟩ := h
    rfl
  · obtain ⟨p, q, rows, xs, z, rfl, hRL, gd, hq, ins, fin⟩ := h
    refine ⟨_, (pss_cons (ps_set (i := 3) sc_law_step.nd rfl (Or.inl rfl) (pe_lst pa_nil))
 (pss_cons (ps_for PassesOwn.never rfl (pi_tupK (K := K) (pv 1)) (pg_name (i := 4) sc_law_step.nd rfl (Or.inl rfl))
 (pss_one (ps_for PassesOwn.never rfl (pi_items (pe_ix (r := rIxL K) ix_list (pv 0) (pv 4) (fun _ _ => rfl))) (pg_tup rfl (pgs_cons (pg_name (i := 5) sc_law_step.nd rfl (Or.inl rfl)) (pgs_cons (pg_tup rfl (pgs_cons (pg_name (i := 6) sc_law_step.nd rfl (Or.inl rfl)) (pgs_cons (pg_name (i := 7) sc_law_step.nd rfl (Or.inl rfl)) pgs_nil))) pgs_nil)))
 (pss_one (ps_if (PW.pt (pw_and (pt_cmpR op_eq (pv 7) (pv 2) (nomark _)) (pw_and1 (pt_cmpR (r := rIn K true) op_notIn_seq (pv 6) (pv 3) (by rfl)))))
 (pss_one (ps_expr (pe_bm PySem.F.plainAttrs_list PySem.F.slot_list_append PySem.F.type_list_append mt_append (pv 3) (pa_cons (pv 6) pa_nil))))
 pss_nil)))))
 (pss_one (ps_ret (pe_f (ok_law_silent T) (hr.mono (by decide)) (pa_cons (pv 0) (pa_cons (pv 3) pa_nil))))))), ?_⟩
    obtain ⟨rs, hrs, hrl, hat⟩ := hRL.at
    let n := rows.length
    let M := goes rows
    have few := gd.few
    refine q_asgP (evp_L (el_lst ea_nil (by simp))) fun v H1 e1 ⟨l, hv, hl0, hl1⟩ => ?_
    subst hv
    refine q_forT (a := q) (xs := xs.map nv) (ev_var rfl) (ex_t e1 hq) (fun i σ' H' => ∃ (gs : List Nat) (u v x y : Option V), σ' = [some (.ref p), some (.ref q), some (.str z), some (.ref l), u, v, x, y] ∧ gs.Nodup ∧ (∀ g ∈ gs, g < n) ∧ (∀ g, g ∈ gs ↔ ∃ s ∈ xs.take i, M s g (some z)) ∧ Ex H H' ∧ H' l = some (.lst (gs.map nv)))
      (fun H2 e2 => ⟨[], none, none, none, none, rfl, List.nodup_nil, fun g hg => (by cases hg), fun g => (by simp), e1.trans e2, e2 _ _ hl1⟩) (fun i σ' H' _ ⟨_, _, _, _, _, _, _, _, _, h, _⟩ => ex_t h hq) (fun i y σ' H' hy hP => ?_) fun σ' H' hP => ?_
    · obtain ⟨gs, u, v, x0, y0, rfl, nd, ing, mem, eH, hl⟩ := hP
      obtain ⟨x, hx, rfl⟩ : ∃ x, xs[i]? = some x ∧ nv x = y := by
        rw [List.getElem?_map] at hy
        cases hx : xs[i]? with
        | none => rw [hx] at hy; cases hy
        | some x => rw [hx] at hy; exact ⟨x, rfl, Option.some.inj hy⟩
      have xn := ins x (List.mem_of_getElem? hx)
      obtain ⟨r, hr⟩ : ∃ r, rows[x]? = some r := ⟨rows[x], List.getElem?_eq_getElem xn⟩
      obtain ⟨d, hd, kvs, fd, kl, hkv⟩ := hat x r hr
      show tFor _ _ _ _ _ _
      refine s_forItems (d := d) (kvs := kvs) (ev_op (ev_var rfl) (ev_var rfl) (rv_ixL (ex_l eH hrs) (atI_nat hd))) (fd.mono eH)
        (fun j σ' H' => ∃ (gs' : List Nat) (u v y : Option V), σ' = [some (.ref p), some (.ref q), some (.str z), some (.ref l), some (nv x), u, v, y] ∧ gs'.Nodup ∧ (∀ g ∈ gs', g < n) ∧ (∀ g, g ∈ gs' ↔ (∃ s ∈ xs.take i, M s g (some z)) ∨ ∃ j' < j, ∃ e, r[j']? = some e ∧ e.2 = (g, some z)) ∧ Ex H H' ∧ H' l = some (.lst (gs'.map nv)))
        (fun H4 e4 => ⟨gs, _, _, _, rfl, nd, ing, fun g => (mem g).trans ⟨.inl, fun h => h.elim id fun ⟨j, hj, _⟩ => absurd hj (Nat.not_lt_zero j)⟩, eH.trans e4, e4 _ _ hl⟩) (fun j σ' H' _ ⟨_, _, _, _, _, _, _, _, h, _⟩ o ho => ?_) (fun j kk y σ' H' t0 hi hP hT => ?_) fun σ' H' hP => ?_
      · obtain ⟨o', fd⟩ := fd
        rw [eH _ _ fd] at ho
        cases ho
        exact h _ _ fd
      · obtain ⟨gs', u', v', y', rfl, nd', ing', mem', eH0, hl0'⟩ := hP
        have hir : j < r.length := by rw [← kl]; exact (List.getElem?_eq_some_iff.mp hi).1
        obtain ⟨e, he⟩ : ∃ e, r[j]? = some e := ⟨r[j], List.getElem?_eq_getElem hir⟩
        obtain ⟨t, q1, q2⟩ := hkv j e he
        rw [q1] at hi
        cases hi
        have fl' := lenN nd' ing'
        have eT : Ex H' (upd H' t0 (.tup [kV (.inr (sg e.1)), .ref t])) := Ex.new hT
        refine tg_kpair (st_of upd_same) (ex_t (eH0.trans eT) q2) ?_
        generalize upd H' t0 (.tup [kV (.inr (sg e.1)), .ref t]) = Ha at eT
        have eH' := eH0.trans eT
        have hl' := eT _ _ hl0'
        refine s_when (b := decide (tv e.2.2 = .str z) && !inV (nv e.2.1) (gs'.map nv)) (et_and (et_test (ev_op (ev_var rfl) (ev_var rfl) (rv_eq (scal_tv _ _)))) fun _ => et_test (ev_op (ev_var rfl) (ev_var rfl) (rv_niL (sq_of hl') rfl (flat_nv _)))) (fun hb2 H4 e4 => ?_) fun hb2 H4 e4 => ?_
        · rw [inV_nv, Bool.and_eq_true, Bool.not_eq_true', decide_eq_false_iff_not, decide_eq_true_eq, tv_eq] at hb2
          have mv : M x e.2.1 (some z) := ⟨r, hr, e.1, by rw [← hb2.1]; exact List.mem_of_getElem? he⟩
          refine s_app (xs := gs'.map nv) (e4 _ _ hl') (ev_var rfl) (ev_var rfl) (by rw [List.length_map]; omega) fun H5 e5 => ⟨gs' ++ [e.2.1], _, _, _, rfl, ?_, fun y hy => ?_, fun g => ?_, Ex.mut ((eH'.trans e4).trans e5) hl0, by rw [upd_same, List.map_append]; rfl⟩
          · rw [List.nodup_append]
            exact ⟨nd', by simp, fun y hy z hz => by
              rw [List.mem_singleton.mp hz]
              exact fun z => hb2.2 (z ▸ hy)⟩
          · rcases List.mem_append.mp hy with h | h
            · exact ing' y h
            · rw [List.mem_singleton.mp h]
              exact gd.inside _ _ _ mv
          · rw [List.mem_append, mem' g, List.mem_singleton]
            constructor
            · rintro ((h | ⟨j', h1, e', h2⟩) | h)
              · exact .inl h
              · exact .inr ⟨j', by omega, e', h2⟩
              · exact .inr ⟨j, by omega, e, he, by rw [h, ← hb2.1]⟩
            · rintro (h | ⟨j', h1, e', h2, h3⟩)
              · exact .inl (.inl h)
              · rcases Nat.lt_succ_iff_lt_or_eq.mp h1 with h | h
                · exact .inl (.inr ⟨j', h, e', h2, h3⟩)
                · subst h
                  rw [he] at h2
                  cases h2
                  exact .inr (by rw [h3])
        · refine ⟨gs', _, _, _, rfl, nd', ing', fun g => (mem' g).trans ⟨fun h => h.elim .inl fun ⟨j', h1, h2⟩ => .inr ⟨j', by omega, h2⟩, ?_⟩, eH'.trans e4, e4 _ _ hl'⟩
          rintro (h | ⟨j', h1, e', h2, h3⟩)
          · exact .inl h
          · rcases Nat.lt_succ_iff_lt_or_eq.mp h1 with h | h
            · exact .inr ⟨j', h, e', h2, h3⟩
            · subst h
              rw [he] at h2
              cases h2
              rw [inV_nv, Bool.and_eq_false_iff, decide_eq_false_iff_not, tv_eq, h3] at hb2
              have g1 : g ∈ gs' := by simpa using hb2
              exact (mem' g).mp g1
      · obtain ⟨gs', u', v', y', rfl, nd', ing', mem', eH', hl'⟩ := hP
        refine ⟨gs', _, _, _, _, rfl, nd', ing', fun g => (mem' g).trans ?_, eH', hl'⟩
        have et : xs.take (i + 1) = xs.take i ++ [x] := by rw [List.take_succ, hx]; rfl
        rw [et]
        constructor
        · rintro (⟨s, h1, h2⟩ | ⟨j', h1, e', h2, h3⟩)
          · exact ⟨s, List.mem_append_left _ h1, h2⟩
          · exact ⟨x, by simp, r, hr, e'.1, by rw [← h3]; exact List.mem_of_getElem? h2⟩
        · rintro ⟨s, h1, h2⟩
          rcases List.mem_append.mp h1 with h1 | h1
          · exact .inl ⟨s, h1, h2⟩
          · rw [List.mem_singleton.mp h1] at h2
            obtain ⟨r2, hr2, c, hc⟩ := h2
            rw [hr] at hr2
            cases hr2
            obtain ⟨j', hj'⟩ := List.mem_iff_getElem?.mp hc
            exact .inr ⟨j', by rw [kl]; exact (List.getElem?_eq_some_iff.mp hj').1, _, hj', rfl⟩
    · obtain ⟨gs, u, v, x0, y0, rfl, nd, ing, mem, eH, hl⟩ := hP
      rw [List.length_map, List.take_length] at mem
      refine s_retC (ea_cons (ev_var rfl) (ea_cons (ev_var rfl) ea_nil)) fun H4 e4 => ⟨p, l, rows, gs, rfl, hRL.mono (eH.trans e4), gd, sq_of (e4 _ _ hl), nd, ing, fun r H5 e5 h1 h2 => fin r H5 ((eH.trans e4).trans e5) (fresh_back (eH.trans e4) h1) ?_⟩
      rw [h2]
      unfold stepL
      rw [silentL_congr fun x => (mem x).trans (mem_goalsL gd.inside).symm]
end
end K33
/-! text Lz -/
set_option Elab.async false
set_option linter.all false
set_option maxRecDepth 100000
set_option maxHeartbeats 4000000
/-! (number, text) < (number, text) -/
namespace K33
open PySem PySem.Spec PyProof.Rows L2 Evl K33G
section
open PySem.SeqAt
open PySem.AutoSeq1 (wpAny_loadPart')
open PySem.MeetsSeq PySem.MeetsSeq2 PySem.MeetsSeq3
def ltIS (i j : Int) (x y : Str) : Bool := if i = j then decide (x.cps.toList < y.cps.toList) else decide (i < j)
theorem rcLtS (A : Around) (s : Shared) (a : Str) (t : Tok) (c : Str) (u : Tok) (prog : Program) (w : World) (E : Value → Shared → Prop) (Q : Value → Shared → Prop) (h : Q (.bool (decide (a.cps.toList < c.cps.toList))) s) :
    wpAny (model prog w) A (richCompare .Lt (.str a t) (.str c u)) Q E s := (PyProof.Rows.lt_str h : wpAny (model prog w) A (compareOp .Lt (.str a t) (.str c u)) Q E s)
theorem tuple_lt_is (l b : Addr) (n n2 : Nat) (dd dd2 : Option Addr) (sl sl2 : Array (Option Value)) (i j : Int) (ti tj : Tok) (x y : Str) (t u : Tok) :
    Meets (Builtin.«tuple.__lt__» ⟨[.ref l, .ref b], []⟩)
      (fun _ R s => s.heap.get? l = some { cls := .type "tuple", dict := dd, data := .seq #[.int i ti, .str x t] n, slots := sl } ∧ s.heap.get? b = some { cls := .type "tuple", dict := dd2, data := .seq #[.int j tj, .str y u] n2, slots := sl2 } ∧
        R (.ok (.ret (.bool (ltIS i j x y)))) s) :=
  .of_wp fun prog w A R s h => by
    obtain ⟨hp, g, d, tk, os⟩ := s; obtain ⟨hl, hb, h⟩ := h
    have f2 := AutoSeq1.sub_tuple_tuple
    wp_walk using wpAny_loadPart' hl, wpAny_loadPart' hb, wpAny_forIn_list _ (fun rest b s' => b.1 = none ∧ s' = ⟨hp, g, d, tk, os⟩ ∧ (rest = [(Value.int i ti, Value.int j tj), (Value.str x t, Value.str y u)] ∨ (rest = [(Value.str x t, Value.str y u)] ∧ i = j) ∨ (rest = [] ∧ i = j ∧ x = y))) _
    case turn =>
      rintro ⟨p, q⟩ rest b s' ⟨hb', rfl, hz⟩
      rcases hz with hz | ⟨hz, e1⟩ | ⟨hz, _⟩
      · injection hz with h1 h2
        injection h1 with h3 h4
        subst h3 h4 h2
        obtain ⟨e, he, hiff⟩ := HT.eqAt_int A.in1 ⟨hp, g, d, tk, os⟩ i ti j tj
        refine wpAny_bind (he prog w _ _ ?_)
        cases e with
        | true =>
          wp_walk
          exact ⟨rfl, rfl, .inr (.inl ⟨rfl, hiff.mp rfl⟩)⟩
        | false =>
          have ne : ¬ i = j := fun q => absurd (hiff.mpr q) Bool.false_ne_true
          unfold ltIS at h
          rw [if_neg ne] at h
          have hri := HT.rcLt_int A.in1 ⟨hp, g, d, tk, os⟩ i ti j tj prog w
          wp_walk using hri
          exact ⟨_, rfl, by simpa using h⟩
      · injection hz with h1 h2
        injection h1 with h3 h4
        subst h3 h4 h2
        have he := SeqAt.EqAt.str_str (A := A.in1) (s := ⟨hp, g, d, tk, os⟩) x t y u
        refine wpAny_bind (he prog w _ _ ?_)
        by_cases exy : x = y
        · have e2 : (x == y) = true := by rw [exy]; exact beq_self_eq_true y
          rw [e2]
          wp_walk
          exact ⟨rfl, rfl, .inr (.inr ⟨rfl, e1, exy⟩)⟩
        · have e2 : (x == y) = false := beq_eq_false_iff_ne.mpr exy
          rw [e2]
          unfold ltIS at h
          rw [if_pos e1] at h
          have hri := rcLtS A.in1 ⟨hp, g, d, tk, os⟩ x t y u prog w
          wp_walk using hri
          exact ⟨_, rfl, by simpa using h⟩
      · cases hz
    case fin =>
      rintro ⟨b1, b2⟩ s' ⟨hb', rfl, hz⟩
      simp only at hb'
      subst hb'
      rcases hz with hz | ⟨hz, e1⟩ | ⟨_, e1, e2⟩
      · cases hz
      · cases hz
      · have hv : ltIS i j x y = false := by
          unfold ltIS
          rw [if_pos e1, e2]
          exact decide_eq_false (List.lt_irrefl _)
        rw [hv] at h
        wp_walk
        exact ⟨_, rfl, by simpa [Builtin.Tuple.tupleCompareSizes] using h⟩
    case h =>
      exact ⟨rfl, rfl, .inl rfl⟩
end
section
variable {prog : Program} {w : World} {A : Around} {E : Value → Shared → Prop} {s : Shared}
theorem lt_tupIS {l b : Addr} {i j : Int} {ti tj : Tok} {x y : Str} {t u : Tok} {Q : Value → Shared → Prop} (hl : IsTup s.heap l #[.int i ti, .str x t]) (hb : IsTup s.heap b #[.int j tj, .str y u]) (hu : A.units < cLine)
    (h : Q (.bool (ltIS i j x y)) s) : wpAny (model prog w) A (compareOp .Lt (.ref l) (.ref b)) Q E s := by
  obtain ⟨⟨cls, dd, data, sl⟩, ho, hc, n, hd⟩ := id hl
  obtain ⟨⟨cls2, dd2, data2, sl2⟩, ho2, hc2, n2, hd2⟩ := id hb
  simp only at hc hd hc2 hd2
  subst hc hd hc2 hd2
  exact richCompare_meets_room (op := .Lt) ⟨_, ho, rfl⟩ ⟨_, ho2, rfl⟩ PySem.F.slot_tuple_lt PySem.F.entry_tuple_lt (PySem.F.args_tuple_lt_2 _ _) (tuple_lt_is l b n n2 dd dd2 sl sl2 i j ti tj x y t u)
    ⟨ho, ho2, show Value.bool (ltIS i j x y) ≠ Value.notImplemented ∧ Q (.bool (ltIS i j x y)) s from ⟨(fun z => nomatch z), h⟩⟩ hu
end
section
variable {X : Cx}
def rLtIS (K : PySem.W.Frag) : R2 := fun x y H Q => ∃ a b i j z u, x = .ref a ∧ y = .ref b ∧ SqT K H a [.int i, .str z] ∧ SqT K H b [.int j, .str u] ∧ Q (.bl (ltIS i j z u)) H
theorem op_ltIS (hu : X.A.units + 64 < cLine) : OpR X (compareOp .Lt) (rLtIS X.K) := by
  intro pins s σ H x y v u Q I rx ry h
  obtain ⟨a, b, i, j, z, z2, rfl, rfl, ha, hb, q⟩ := h
  cases rx
  cases ry
  obtain ⟨its, r1, p1, _⟩ := I.tuple ha
  obtain ⟨its2, r2, p2, _⟩ := I.tuple hb
  obtain ⟨u1, u2, rfl, ⟨t, rfl⟩, ⟨t', rfl⟩⟩ := vals2 r1
  obtain ⟨u1, u2, rfl, ⟨t, rfl⟩, ⟨t', rfl⟩⟩ := vals2 r2
  exact lt_tupIS p1 p2 (by omega) ⟨.bl (ltIS i j z z2), H, I, rfl, q⟩
theorem ev_ltIS {K : PySem.W.Frag} {ta tb : TE} {σ : L2.St} {H : Hp} {i j : Int} {z u : Str} (ha : EvU ta σ H [.int i, .str z]) (hb : EvU tb σ H [.int j, .str u]) : Ev (tOp (rLtIS K) ta tb) σ H (.bl (ltIS i j z u)) :=
  ev_opUU ha hb fun p q H1 h1 h2 e => fun H2 e2 Q k => ⟨p, q, i, j, z, u, rfl, rfl, st_of (e2 _ _ h1), st_of (e2 _ _ h2), k H2 (Ex.refl H2)⟩
/-- l.extend(..) by a new list -/
theorem s_ext {K : PySem.W.Frag} {ta te : TE} {D : Ends} {σ : L2.St} {H : Hp} {l : Addr} {xs ys : List V} (hl : H l = some (.lst xs)) (ha : Ev ta σ H (.ref l)) (h : EvL te σ H ys) (hz : xs.length + ys.length ≤ 100000) (k : ∀ H1, Ex H H1 → D.nx σ (upd H1 l (.lst (xs ++ ys)))) : tDrop (tBM K "list" rExtend ta (tCons te tNil)) D σ H := ha H (Ex.refl H) _ fun H1 e1 =>
  ⟨Or.inl ⟨rfl, xs, sq_of (e1 l _ hl)⟩, h H1 e1 _ fun p H2 hp e2 h2 => ⟨l, p, xs, ys, rfl, rfl, e2 l _ (e1 l _ hl), h2, sz_of hz, k H2 (e1.trans e2)⟩⟩
theorem el_cat {ta tb : TE} {σ : L2.St} {H : Hp} {p q : Addr} {xs ys : List V} (hp : H p = some (.lst xs)) (hq : H q = some (.lst ys)) (ha : Ev ta σ H (.ref p)) (hb : Ev tb σ H (.ref q)) (hz : xs.length + ys.length ≤ 100000) : EvL (tOp rCat ta tb) σ H (xs ++ ys) := fun H1 e Q k =>
  ha H1 e _ fun H2 e2 => hb H2 (e.trans e2) _ fun H3 e3 => ⟨p, q, xs, ys, rfl, rfl, e3 _ _ (e2 _ _ (e _ _ hp)), e3 _ _ (e2 _ _ (e _ _ hq)), sz_of hz, fun r hr => k r _ (fresh_back (e2.trans e3) hr) ((e2.trans e3).trans (Ex.new hr)) upd_same⟩
theorem el_catL {ta tb : TE} {σ : L2.St} {H : Hp} {xs ys : List V} (ha : EvL ta σ H xs) (hb : EvL tb σ H ys) (hz : xs.length + ys.length ≤ 100000) : EvL (tOp rCat ta tb) σ H (xs ++ ys) := fun H1 e Q k =>
  ha H1 e _ fun p H2 hp e2 h2 => hb H2 (e.trans e2) _ fun q H3 hq e3 h3 => ⟨p, q, xs, ys, rfl, rfl, e3 _ _ h2, h3, sz_of hz, fun r hr => k r _ (fresh_back (e2.trans e3) hr) ((e2.trans e3).trans (Ex.new hr)) upd_same⟩
theorem el_catR {ta tb : TE} {σ : L2.St} {H : Hp} {q : Addr} {xs ys : List V} (ha : EvL ta σ H xs) (hq : H q = some (.lst ys)) (hb : Ev tb σ H (.ref q)) (hz : xs.length + ys.length ≤ 100000) : EvL (tOp rCat ta tb) σ H (xs ++ ys) := fun H1 e Q k =>
  ha H1 e _ fun p H2 hp e2 h2 => hb H2 (e.trans e2) _ fun H3 e3 => ⟨p, q, xs, ys, rfl, rfl, e3 _ _ h2, e3 _ _ (e2 _ _ (e _ _ hq)), sz_of hz, fun r hr => k r _ (fresh_back (e2.trans e3) hr) ((e2.trans e3).trans (Ex.new hr)) upd_same⟩
theorem el_catQ {ta tb : TE} {σ : L2.St} {H : Hp} {p : Addr} {xs ys : List V} (hp : H p = some (.lst xs)) (ha : Ev ta σ H (.ref p)) (hb : EvL tb σ H ys) (hz : xs.length + ys.length ≤ 100000) : EvL (tOp rCat ta tb) σ H (xs ++ ys) := fun H1 e Q k =>
  ha H1 e _ fun H2 e2 => hb H2 (e.trans e2) _ fun q H3 hq e3 h3 => ⟨p, q, xs, ys, rfl, rfl, e3 _ _ (e2 _ _ (e _ _ hp)), h3, sz_of hz, fun r hr => k r _ (fresh_back (e2.trans e3) hr) ((e2.trans e3).trans (Ex.new hr)) upd_same⟩
end
end K33
/-! text Sb -/
set_option Elab.async false
set_option linter.all false
set_option maxRecDepth 100000
set_option maxHeartbeats 4000000
namespace K33
open PySem PySem.Spec PyProof.Rows L2 Evl K33G
section
variable {P : Program} {w : World} {K : PySem.W.Frag} {mg : Str → Option Value} {base : Heap}
/-- a machine of the law's own -/
def MchAt (K : PySem.W.Frag) (H : Hp) (t : Addr) (l : List Nat) (n : Nat) (go : Nat → Nat → Nat) (mem : List Nat) : Prop := ∃ p q, SqT K H t [.str (txt l), .ref p, .ref q] ∧ McAt K H p q l n go mem
theorem MchAt.mono {H H' : Hp} {t : Addr} {l : List Nat} {n : Nat} {go : Nat → Nat → Nat} {mem : List Nat} (h : MchAt K H t l n go mem) (e : Ex H H') : MchAt K H' t l n go mem := by
  obtain ⟨p, q, h1, h2⟩ := h
  exact ⟨p, q, ex_t e h1, h2.mono e⟩
def spLBelongs (K : PySem.W.Frag) : Sp := fun vs H Q _ => ∃ (t : Addr) (w l : List Nat) (n : Nat) (go : Nat → Nat → Nat) (mem : List Nat), vs = [.ref t, .str (txt w)] ∧ MchAt K H t l n go mem ∧ MOk l n go mem ∧ (∀ c ∈ w, c ∈ l) ∧ RetV (.bl (decide (run go 0 w ∈ mem))) H Q
abbrev N_law_belongs : List Str := ["_law_machine", "_law_note", "_law_spot", "_law_letter"]
theorem sc_law_belongs : FnScope N_law_belongs ["_law_machine", "_law_note"] (defScope (top 72)) := ⟨rfl, rfl, rfl, by decide +kernel, rfl, by decide +kernel, by decide +kernel⟩
theorem ok_law_belongs (T : Txt K mg) : Ok P w K mg base 1 "_law_belongs" ["_law_machine", "_law_note"] (spLBelongs K) := by
  refine ok_of T.law_belongs sc_law_belongs (fun vs H Q E h => ?_) (fun _ _ _ _ _ _ us hl => match us, hl with | [_, _], _ => rfl) (fun f cdv A outer s H vs Q E hr h => ?_)
  · obtain ⟨_, _, _, _, _, _, rfl, _⟩ := h
    rfl
  · obtain ⟨t, w, l, n, go, mem, rfl, hM, ok, hw, k⟩ := h
    refine ⟨_, (pss_cons (ps_set (i := 2) sc_law_belongs.nd rfl (Or.inl rfl) pe_int)
 (pss_cons (ps_for PassesOwn.never rfl (pi_str (pv 1)) (pg_name (i := 3) sc_law_belongs.nd rfl (Or.inl rfl))
 (pss_one (ps_set (i := 2) sc_law_belongs.nd rfl (Or.inl rfl) (pe_dget (hu_of hr) (pe_ix (r := rIxL K) ix_list (pe_ix (r := rIxT K) ix_tup (pv 0) pe_int (fun _ _ => rfl)) (pv 2) (fun _ _ => rfl)) (pv 3) (fun _ _ => rfl)))))
 (pss_one (ps_ret (pe_cmpR (r := rIn K false) op_in_seq (pv 2) (pe_ix (r := rIxT K) ix_tup (pv 0) pe_int (fun _ _ => rfl)) (by rfl)))))), ?_⟩
    obtain ⟨p, q, ht, ds, hp, hm, hq⟩ := hM
    refine q_asg ev_c fun H1 e1 => ?_
    refine q_forTxt (l := w) (ev_var rfl) (fun i σ' H' => ∃ u : Option V, σ' = [some (.ref t), some (.str (txt w)), some (nv (run go 0 (w.take i))), u] ∧ Ex H H') (fun H2 e2 => ⟨none, rfl, e1.trans e2⟩) (fun i c σ' H' hc hP => ?_) fun σ' H' hP => ?_
    · obtain ⟨u, rfl, eH⟩ := hP
      have lt : run go 0 (w.take i) < n := run_in ok.ins ok.one fun c hc => hw c (List.mem_of_mem_take hc)
      obtain ⟨d, hd, fd⟩ := hm.2 _ lt
      refine s_asg (v := nv (run go 0 (w.take (i + 1)))) (ev_is (ev_dget (k := .inr (sg c)) (ev_op (ev_op (ev_var rfl) ev_c (rv_ixT (i := 1) (ex_t eH ht) rfl)) (ev_var rfl) (rv_ixL (ex_l eH hp) (atI_nat (v := .ref d) (by rw [List.getElem?_map, hd]; rfl)))) (ev_var rfl) (fd.mono eH) (val_mrow (hw c (List.mem_of_getElem? hc)))) ?_) fun H2 e2 => ⟨_, rfl, eH.trans e2⟩
      rw [List.take_succ, hc, Option.toList_some, run_snoc]
    · obtain ⟨u, rfl, eH⟩ := hP
      rw [List.take_length]
      exact s_ret (v := .bl (decide (run go 0 w ∈ mem))) (ev_is (ev_op (ev_var rfl) (ev_op (ev_var rfl) ev_c (rv_ixT (i := 2) (ex_t eH ht) rfl)) (rv_isL (ex_l eH hq) rfl (flat_nv _))) (by rw [inV_nv])) fun H2 e2 => k H2 (eH.trans e2)
def spLLess : Sp := fun vs H Q _ => ∃ (v w : List Nat), vs = [.str (txt v), .str (txt w)] ∧ v.length ≤ 1000 ∧ w.length ≤ 1000 ∧ RetV (.bl (decide (v.length < w.length ∨ (v.length = w.length ∧ v < w)))) H Q
abbrev N_law_less : List Str := ["_law_one", "_law_other"]
theorem sc_law_less : FnScope N_law_less ["_law_one", "_law_other"] (defScope (top 76)) := ⟨rfl, rfl, rfl, by decide +kernel, rfl, by decide +kernel, by decide +kernel⟩
theorem ok_law_less (T : Txt K mg) : Ok P w K mg base 1 "_law_less" ["_law_one", "_law_other"] (spLLess) := by
  refine ok_of T.law_less sc_law_less (fun vs H Q E h => ?_) (fun _ _ _ _ _ _ us hl => match us, hl with | [_, _], _ => rfl) (fun f cdv A outer s H vs Q E hr h => ?_)
  · obtain ⟨_, _, rfl, _⟩ := h
    rfl
  · obtain ⟨v, w', rfl, hv, hw, k⟩ := h
    refine ⟨_, (pss_one (ps_ret (pe_cmpR (op_ltIS hr.units) (pe_tup (pa_cons (pe_callB call_len (by rfl) T.len (by decide +kernel) (pa_cons (pv 0) pa_nil)) (pa_cons (pv 0) pa_nil))) (pe_tup (pa_cons (pe_callB call_len (by rfl) T.len (by decide +kernel) (pa_cons (pv 1) pa_nil)) (pa_cons (pv 1) pa_nil))) (nomark _)))), ?_⟩
    refine s_ret (v := .bl (decide (v.length < w'.length ∨ (v.length = w'.length ∧ v < w')))) (ev_is (ev_ltIS (K := K) (eu_tup (ea_cons (ev_lenV (ev_var rfl) fun _ _ => lenV_str (by rw [txt_len]; omega)) (ea_cons (ev_var rfl) ea_nil)) (by simp)) (eu_tup (ea_cons (ev_lenV (ev_var rfl) fun _ _ => lenV_str (by rw [txt_len]; omega)) (ea_cons (ev_var rfl) ea_nil)) (by simp))) ?_) k
    rw [txt_len, txt_len]
    unfold ltIS
    have e1 : (txt v).cps.toList = v := rfl
    have e2 : (txt w').cps.toList = w' := rfl
    rw [e1, e2]
    congr 1
    by_cases h : v.length = w'.length
    · rw [if_pos (by rw [h]), decide_eq_decide]
      exact ⟨fun g => .inr ⟨h, g⟩, fun g => g.elim (fun g => absurd g (by omega)) fun g => g.2⟩
    · rw [if_neg (by omega), decide_eq_decide]
      exact ⟨fun g => .inl (by omega), fun g => g.elim (fun g => by omega) fun g => absurd g.1 h⟩
def spLTexts (K : PySem.W.Frag) : Sp := fun vs H Q _ => ∃ (l : List Nat) (cap : Nat), vs = [.str (txt l), nv cap] ∧ l.length ≤ 4 ∧ cap ≤ 5 ∧
  ∀ (r : Addr) (H' : Hp) (ws : List (List Nat)), Ex H H' → H r = none → H' r = some (.lst (ws.map fun w => V.str (txt w))) → ws.length ≤ 10000 → (∀ w ∈ ws, (∀ c ∈ w, c ∈ l) ∧ w.length ≤ cap) → Q (.ref r) H'
abbrev N_law_texts : List Str := ["_law_abc", "_law_cap", "_law_found", "_law_latest", "_law_turn", "_law_longer", "_law_note", "_law_letter"]
theorem sc_law_texts : FnScope N_law_texts ["_law_abc", "_law_cap"] (defScope (top 74)) := ⟨rfl, rfl, rfl, by decide +kernel, rfl, by decide +kernel, by decide +kernel⟩
theorem ok_law_texts (T : Txt K mg) : Ok P w K mg base 1 "_law_texts" ["_law_abc", "_law_cap"] (spLTexts K) := by
  refine ok_of T.law_texts sc_law_texts (fun vs H Q E h => ?_) (fun _ _ _ _ _ _ us hl => match us, hl with | [_, _], _ => rfl) (fun f cdv A outer s H vs Q E hr h => ?_)
  · obtain ⟨_, _, rfl, _⟩ := h
    rfl
  · obtain ⟨l, cap, rfl, l4, c5, fin⟩ := h
    refine ⟨_, (pss_cons (ps_par (i := 2) (j := 3) (by rfl) sc_law_texts.nd rfl rfl (by decide) rfl rfl (pa_cons (pe_lst (pa_cons pe_str pa_nil)) (pa_cons (pe_lst (pa_cons pe_str pa_nil)) pa_nil)) (by rfl))
 (pss_cons (ps_for PassesOwn.never rfl (pi_range1 rfl T.range (pa_cons (pv 1) pa_nil)) (pg_name (i := 4) sc_law_texts.nd rfl (Or.inl rfl))
 (pss_cons (ps_set (i := 5) sc_law_texts.nd rfl (Or.inl rfl) (pe_lst pa_nil))
 (pss_cons (ps_for PassesOwn.never rfl (pi_listK (K := K) (pv 3)) (pg_name (i := 6) sc_law_texts.nd rfl (Or.inr rfl))
 (pss_one (ps_expr (pe_bm PySem.F.plainAttrs_list PySem.F.slot_list_extend PySem.F.type_list_extend mt_extend (pv 5) (pa_cons (pe_lc (own := [("_law_letter", 7)]) (g := gName 7) (by rfl) sc_law_texts.nd (pi_str (pv 0)) (blkOk_by (own := [("_law_letter", 7)]) (N := N_law_texts) (sc := defScope (top 74)) (by decide +kernel)) (fun _ _ _ _ _ => (pg_name (i := 7) sc_law_texts.nd rfl (Or.inl rfl))) (fun _ _ _ _ _ => by exact pts_nil) (fun _ _ _ _ _ => by exact (pe_op op_add_str (pv 6) (pv 7)))) pa_nil)))))
 (pss_one (ps_par (i := 2) (j := 3) (by rfl) sc_law_texts.nd rfl rfl (by decide) rfl rfl (pa_cons (pe_op op_cat (pv 2) (pv 5)) (pa_cons (pv 5) pa_nil)) (by rfl))))))
 (pss_one (ps_ret (pv 2))))), ?_⟩
    let Wd : List (List Nat) → Nat → Prop := fun ws i => ∀ w ∈ ws, (∀ c ∈ w, c ∈ l) ∧ w.length ≤ i
    let T' : List (List Nat) → List V := fun ws => ws.map fun w => V.str (txt w)
    have w0 : Wd [[]] 0 := fun w hw => by
      rw [List.mem_singleton.mp hw]
      exact ⟨fun c hc => (by cases hc), Nat.le_refl _⟩
    refine q_par (P := fun vs H1 => ∃ p q, vs = [.ref p, .ref q] ∧ H p = none ∧ H q = none ∧ H1 p = some (.lst (T' [[]])) ∧ H1 q = some (.lst (T' [[]]))) (ea_consP (evp_L (el_lst (vs := T' [[]]) (ea_cons ev_c ea_nil) (by simp [T']))) fun x H1 e1 ⟨p, hx, hp, hp1⟩ => ea_one (evp_L (el_lst (vs := T' [[]]) (ea_cons ev_c ea_nil) (by simp [T']))) fun y H2 e2 ⟨q, hy, hq, hq1⟩ => ⟨p, q, by rw [hx, hy], hp, fresh_back e1 hq, e2 _ _ hp1, hq1⟩) fun vs H1 e1 ⟨p, q, hv, hp, hq, hp1, hq1⟩ => ⟨_, _, hv, ?_⟩
    refine q_forR1 (n := (cap : Int)) (ea_cons (ev_var rfl) ea_nil) (by omega) (fun i σ' H' => ∃ (p q : Addr) (ws vs : List (List Nat)) (a b c d : Option V), σ' = [some (.str (txt l)), some (nv cap), some (.ref p), some (.ref q), a, b, c, d] ∧ H p = none ∧ H' p = some (.lst (T' ws)) ∧ H' q = some (.lst (T' vs)) ∧ Wd ws i ∧ Wd vs i ∧ ws.length ≤ 4 ^ (i + 1) ∧ vs.length ≤ 4 ^ i ∧ Ex H H')
      (fun H2 e2 => ⟨p, q, [[]], [[]], none, none, none, none, rfl, hp, e2 _ _ hp1, e2 _ _ hq1, w0, w0, by simp, by simp, e1.trans e2⟩) (fun i σ' H' hi hP => ?_) fun σ' H' hP => ?_
    · obtain ⟨p, q, ws, vs, a, b, c, d, rfl, hp, hp1, hq1, ww, wv, lw, lv, eH⟩ := hP
      have hi : i < cap := by omega
      have p4 : 4 ^ (i + 1) ≤ 4 ^ 5 := Nat.pow_le_pow_right (by omega) (by omega)
      refine q_asgP (evp_L (el_lst ea_nil (by simp))) fun v H1 e1 ⟨o, hv, ho, ho1⟩ => ?_
      subst hv
      refine q_forL (a := q) (xs := T' vs) (ev_var rfl) (sq_of (e1 _ _ hq1)) (fun j σ' H' => ∃ (us : List (List Nat)) (b c : Option V), σ' = [some (.str (txt l)), some (nv cap), some (.ref p), some (.ref q), some (.int (i : Int)), some (.ref o), b, c] ∧ H' p = some (.lst (T' ws)) ∧ H' q = some (.lst (T' vs)) ∧ H' o = some (.lst (T' us)) ∧ Wd us (i + 1) ∧ us.length ≤ 4 * j ∧ Ex H H')
        (fun H2 e2 => ⟨[], c, d, rfl, e2 _ _ (e1 _ _ hp1), e2 _ _ (e1 _ _ hq1), e2 _ _ ho1, fun w hw => (by cases hw), Nat.zero_le _, (eH.trans e1).trans e2⟩) (fun _ _ _ _ ⟨_, _, _, _, _, h, _⟩ => sq_of h) (fun j y σ' H2 hy hP => ?_) fun σ' H2 hP => ?_
      · obtain ⟨us, b, c, rfl, g1, g2, g3, wu, lu, eH2⟩ := hP
        obtain ⟨z, hz, rfl⟩ : ∃ z, vs[j]? = some z ∧ V.str (txt z) = y := by
          have hy' : (vs.map fun w => V.str (txt w))[j]? = some y := hy
          rw [List.getElem?_map] at hy'
          cases hz : vs[j]? with
          | none => rw [hz] at hy'; cases hy'
          | some z => rw [hz] at hy'; exact ⟨z, rfl, Option.some.inj hy'⟩
        have jl := (List.getElem?_eq_some_iff.mp hz).1
        obtain ⟨z1, z2⟩ := wv z (List.mem_of_getElem? hz)
        have no : ∀ {x : Addr}, H' x ≠ none → x ≠ o := fun h z => h (z ▸ ho)
        have npo : p ≠ o := no (by rw [hp1]; exact Option.some_ne_none _)
        have nqo : q ≠ o := no (by rw [hq1]; exact Option.some_ne_none _)
        have ho' := fresh_back eH ho
        have lus : us.length ≤ 4 * 1024 := by
          have : 4 ^ i ≤ 4 ^ 5 := Nat.pow_le_pow_right (by omega) (by omega)
          omega
        refine s_ext (xs := T' us) (ys := l.map fun c => V.str (txt (z ++ [c]))) g3 (ev_var rfl) (el_map l _ (iw_str (s := txt l) (ev_var rfl)) (txt_len l) (by omega) fun i2 c2 x Ha Hb hc ea yy kk hk => ?_) (by simp only [T', List.length_map]; omega) fun H3 e3 => ⟨us ++ l.map fun c => z ++ [c], _, _, rfl, by rw [upd_ne npo]; exact e3 _ _ g1, by rw [upd_ne nqo]; exact e3 _ _ g2, by rw [upd_same]; simp [T', Function.comp_def], fun w hw => ?_, ?_, Ex.mut (eH2.trans e3) ho'⟩
        · obtain ⟨rfl, c, hc2, rfl⟩ := yy
          have hc3 : l[i2]? = some c := by
            have : (txt l).cps = l.toArray := rfl
            rw [this] at hc2
            simpa using hc2
          rw [hc] at hc3
          cases hc3
          refine hk _ _ (Ex.refl _) rfl et_yes (ev_op (ev_var rfl) (ev_var rfl) fun H5 e5 Q q => ⟨txt z, sg c2, rfl, rfl, ?_, ?_⟩)
          · rw [txt_len, show (sg c2).length = 1 from rfl, sizeLine_eq]
            omega
          · rw [txt_add]
            exact q H5 (Ex.refl H5)
        · rcases List.mem_append.mp hw with h | h
          · exact wu w h
          · obtain ⟨c, hc, rfl⟩ := List.mem_map.mp h
            refine ⟨fun d hd => ?_, by rw [List.length_append, List.length_singleton]; omega⟩
            rcases List.mem_append.mp hd with h | h
            · exact z1 d h
            · rw [List.mem_singleton.mp h]
              exact hc
        · rw [List.length_append, List.length_map]
          omega
      · obtain ⟨us, b, c, rfl, g1, g2, g3, wu, lu, eH2⟩ := hP
        have lvs : (T' vs).length = vs.length := List.length_map _
        rw [lvs] at lu
        have p2 : 4 ^ i ≤ 4 ^ 4 := Nat.pow_le_pow_right (by omega) (by omega)
        have ho' := fresh_back eH ho
        refine s_par (P := fun vs' H3 => ∃ r, vs' = [.ref r, .ref o] ∧ H2 r = none ∧ H3 r = some (.lst (T' (ws ++ us)))) (ea_consP (evp_L (el_cat g1 g3 (ev_var rfl) (ev_var rfl) ?_)) fun x H3 e3 ⟨r, hx, hr, hr1⟩ => ea_one (evp_of (ev_var rfl)) fun y H4 e4 hy => ⟨r, by rw [hx, hy], hr, e4 _ _ (by rw [hr1]; simp [T'])⟩) fun vs' H3 e3 ⟨r, hv, hr, hr1⟩ => ⟨_, _, hv, r, o, ws ++ us, us, _, _, _, _, rfl, fresh_back eH2 hr, hr1, e3 _ _ g3, fun w hw => ?_, wu, ?_, ?_, eH2.trans e3⟩
        · simp only [T', List.length_map]
          omega
        · rcases List.mem_append.mp hw with h | h
          · exact ⟨(ww w h).1, by have := (ww w h).2; omega⟩
          · exact wu w h
        · rw [List.length_append, Nat.pow_succ 4 (i + 1)]
          have : 4 * 4 ^ i = 4 ^ (i + 1) := by rw [Nat.pow_succ]; omega
          omega
        · rw [Nat.pow_succ]
          omega
    · obtain ⟨p, q, ws, vs, a, b, c, d, rfl, hp, hp1, hq1, ww, wv, lw, lv, eH⟩ := hP
      have p4 : 4 ^ (cap + 1) ≤ 4 ^ 6 := Nat.pow_le_pow_right (by omega) (by omega)
      refine s_ret (ev_var rfl) fun H4 e4 => fin p H4 ws (eH.trans e4) hp (e4 _ _ hp1) ?_ ?_
      · simp only [Int.toNat_natCast] at lw
        omega
      · exact ww
end
end K33
/-! text Sc -/
set_option Elab.async false
set_option linter.all false
set_option maxRecDepth 100000
set_option maxHeartbeats 4000000
namespace K33
open PySem PySem.Spec PyProof.Rows L2 Evl K33G
def scLL : Scope := { kind := .function, names := [(".0", .local), ("_law_at", .local), ("_law_line", .local), ("any", .globalImplicit), ("_law_found", .cell)], isGenerator := false, isCoroutine := false }
section
variable {P : Program} {w : World} {K : PySem.W.Frag} {mg : Str → Option Value} {base : Heap}
def spLLive (K : PySem.W.Frag) : Sp := fun vs H Q _ => ∃ (t : Addr) (l : List Nat) (n : Nat) (go : Nat → Nat → Nat) (mem : List Nat), vs = [.ref t] ∧ MchAt K H t l n go mem ∧ MOk l n go mem ∧
  ∀ (r : Addr) (H' : Hp) (fs : List Nat), Ex H H' → H r = none → H' r = some (.lst (fs.map nv)) → (∀ x, x ∈ fs ↔ x ∈ lvOf l n go mem) → fs.length ≤ 1000 → Q (.ref r) H'
abbrev N_law_live : List Str := ["_law_machine", "_law_found", "_law_turn", "_law_at", "_law_line", "_law_goal"]
theorem sc_law_live : FnScope N_law_live ["_law_machine"] (defScope (top 73)) := ⟨rfl, rfl, rfl, by decide +kernel, rfl, by decide +kernel, by decide +kernel⟩
theorem ok_law_live (T : Txt K mg) : Ok P w K mg base 1 "_law_live" ["_law_machine"] (spLLive K) := by
  refine ok_of T.law_live sc_law_live (fun vs H Q E h => ?_) (fun _ _ _ _ _ _ us hl => match us, hl with | [_], _ => rfl) (fun f cdv A outer s H vs Q E hr h => ?_)
  · obtain ⟨_, _, _, _, _, rfl, _⟩ := h
    rfl
  · obtain ⟨t, l, n, go, mem, rfl, hM, ok, fin⟩ := h
    refine ⟨_, (pss_cons (ps_set (i := 1) sc_law_live.nd rfl (Or.inr rfl) (pe_listOf (K := K) T.list (pa_cons (pe_ix (r := rIxT K) ix_tup (pv 0) pe_int (fun _ _ => rfl)) pa_nil)))
 (pss_cons (ps_for PassesOwn.never rfl (pi_range1 rfl T.range (pa_cons (pe_callB call_len (by rfl) T.len (by decide +kernel) (pa_cons (pe_ix (r := rIxT K) ix_tup (pv 0) pe_int (fun _ _ => rfl)) pa_nil)) pa_nil)) (pg_name (i := 2) sc_law_live.nd rfl (Or.inl rfl))
 (pss_one (ps_set (i := 1) sc_law_live.nd rfl (Or.inr rfl) (pe_op op_cat (pv 1) (pe_lc (own := [("_law_at", 3), ("_law_line", 4)]) (g := gTup K 2 (gCons (gName 3) (gCons (gName 4) gNil))) (by rfl) sc_law_live.nd (pi_enum (by rfl) T.enumerate (pa_cons (pe_ix (r := rIxT K) ix_tup (pv 0) pe_int (fun _ _ => rfl)) pa_nil)) (blkOk_by (own := [("_law_at", 3), ("_law_line", 4)]) (N := N_law_live) (sc := defScope (top 73)) (by decide +kernel)) (fun _ _ _ _ _ => (pg_tup rfl (pgs_cons (pg_name (i := 3) sc_law_live.nd rfl (Or.inl rfl)) (pgs_cons (pg_name (i := 4) sc_law_live.nd rfl (Or.inl rfl)) pgs_nil)))) (fun _ _ _ _ _ => by exact (pts_one (PW.pt (pw_and (pt_cmpR (r := rIn K true) op_notIn_seq (pv 3) (pv 1) (by rfl)) (pw_and1 (pt_val (pe_callB (r := rAny K) (cr_any rfl) (by rfl) T.any (by decide +kernel) (pa_cons (pe_lc (own := [("_law_goal", 5)]) (g := gName 5) (by rfl) sc_law_live.nd (pi_values (pv 4)) (blkOk_by (own := [("_law_goal", 5)]) (N := N_law_live) (sc := scLL) (by decide +kernel)) (fun _ _ _ _ _ => (pg_name (i := 5) sc_law_live.nd rfl (Or.inl rfl))) (fun _ _ _ _ _ => by exact pts_nil) (fun _ _ _ _ _ => by exact (pe_cmpR (r := rIn K false) op_in_seq (pv 5) (pv 1) (by rfl)))) pa_nil)))))))) (fun _ _ _ _ _ => by exact (pv 3)))))))
 (pss_one (ps_ret (pv 1))))), ?_⟩
    obtain ⟨p, q, ht, ds, hp, hm, hq⟩ := hM
    have l4 := ok.lok.four
    have n6 := ok.six
    let Good : List Nat → Prop := fun fs => fs.Nodup ∧ (∀ x ∈ fs, x < n) ∧ (∀ x ∈ mem, x ∈ fs) ∧ ∀ x ∈ fs, Sil (liveR l n go) mem x
    refine q_asgP (evp_listOf (a := q) (xs := mem.map nv) (ev_op (ev_var rfl) ev_c (rv_ixT (i := 2) ht rfl)) (.inl hq)) fun v H1 e1 ⟨f, hv, hf0, hf1⟩ => ?_
    subst hv
    refine q_forR1 (n := (n : Int)) (ea_cons (ev_lenV (n := n) (ev_op (ev_var rfl) ev_c (rv_ixT (i := 1) (ex_t e1 ht) rfl)) fun H2 e2 => .inl ⟨_, ex_l (e1.trans e2) hp, by rw [List.length_map, hm.1]⟩) ea_nil) (by omega) (fun i σ' H' => ∃ (f : Addr) (fs : List Nat) (a b c d : Option V), σ' = [some (.ref t), some (.ref f), a, b, c, d] ∧ H f = none ∧ Good fs ∧ (Closed l n go fs ∨ i ≤ fs.length) ∧ Ex H H' ∧ H' f = some (.lst (fs.map nv)))
      (fun H2 e2 => ⟨f, mem, none, none, none, none, rfl, hf0, ⟨ok.nd, ok.mem, fun x hx => hx, fun x hx => .base hx⟩, .inr (Nat.zero_le _), e1.trans e2, e2 _ _ hf1⟩) (fun i σ' H' hi hP => ?_) fun σ' H' hP => ?_
    · obtain ⟨f, fs, a, b, c, d, rfl, hf0, gf, prog, eH, hl⟩ := hP
      have fl := lenN gf.1 gf.2.1
      let pp : Nat → Bool := fun j => !decide (j ∈ fs) && l.any fun c => decide (go j c ∈ fs)
      have hfl : ((List.range n).filter pp).length ≤ n := by
        have := List.length_filter_le pp (List.range n)
        rw [List.length_range] at this
        exact this
      refine s_asgL (xs := fs.map nv ++ ((List.range n).filter pp).map nv) (el_catQ hl (ev_var rfl) (el_filter (List.range n) pp nv (iw_enum (p := p) (xs := ds.map V.ref) (ea_cons (ev_op (ev_var rfl) ev_c (rv_ixT (i := 1) (ex_t eH ht) rfl)) ea_nil) (ex_l eH hp)) (by rw [List.length_map, hm.1, List.length_range]) (by rw [List.length_range]; omega) fun j j2 x Ha Hb hj ea yy kk hk => ?_) (by rw [List.length_map, List.length_map]; omega)) fun r H2 hr e2 hr1 => ?_
      · obtain ⟨rfl, hjn⟩ : j2 = j ∧ j < n := by
          have := List.getElem?_eq_some_iff.mp hj
          obtain ⟨h1, h2⟩ := this
          rw [List.length_range] at h1
          exact ⟨by rw [← h2]; simp, h1⟩
        obtain ⟨dx, hdx, fdx⟩ := hm.2 j2 hjn
        obtain ⟨T1, rfl, hT1, rfl⟩ := pair_at yy rfl (b := .ref dx) (by rw [List.getElem?_map, hdx]; rfl)
        have eT : Ex Ha (upd Ha T1 (.tup [nv j2, .ref dx])) := Ex.new hT1
        refine tg_pair (st_of upd_same) ?_
        refine hk _ _ eT rfl ?_ fun _ => ev_var rfl
        generalize upd Ha T1 (.tup [nv j2, .ref dx]) = Hc at eT
        have eHa := (eH.trans ea).trans eT
        have hla := eT _ _ (ea _ _ hl)
        refine et_and (et_is (et_test (ev_op (ev_var rfl) (ev_var rfl) (rv_niL (sq_of hla) rfl (flat_nv _)))) (by rw [inV_nv])) fun _ => et_B (ev_anyM l (fun c => decide (go j2 c ∈ fs)) ?_)
        refine el_map l _ (iw_vals (d := dx) (ev_var rfl) (fdx.mono eHa)) (by simp [mrow]) (by omega) fun i2 c x Hc Hd hc ec y kk hk => ?_
        obtain ⟨rfl, k2, y2⟩ := y
        unfold mrow at y2
        rw [List.getElem?_map, hc] at y2
        cases y2
        exact hk _ _ (Ex.refl _) rfl et_yes (ev_is (ev_op (ev_var rfl) (ev_var rfl) (rv_isL (sq_of (ec _ _ hla)) rfl (flat_nv _))) (by rw [inV_nv]))
      · have hnew : ∀ {x}, x ∈ (List.range n).filter pp ↔ x < n ∧ x ∉ fs ∧ ∃ c ∈ l, go x c ∈ fs := fun {x} => by
          rw [List.mem_filter, List.mem_range]
          simp [pp]
        refine ⟨r, fs ++ (List.range n).filter pp, _, _, _, _, rfl, fresh_back eH hr, ⟨?_, fun x hx => ?_, fun x hx => List.mem_append_left _ (gf.2.2.1 x hx), fun x hx => ?_⟩, ?_, eH.trans e2, by rw [hr1, List.map_append]⟩
        · rw [List.nodup_append]
          exact ⟨gf.1, List.nodup_range.filter _, fun x hx y hy z => (hnew.mp hy).2.1 (z ▸ hx)⟩
        · rcases List.mem_append.mp hx with h | h
          · exact gf.2.1 x h
          · exact (hnew.mp h).1
        · rcases List.mem_append.mp hx with h | h
          · exact gf.2.2.2 x h
          · obtain ⟨h1, _, c, hc, h2⟩ := hnew.mp h
            exact .step (gf.2.2.2 _ h2) ⟨rfl, h1, c, hc, rfl⟩
        · cases hE : (List.range n).filter pp with
          | nil =>
            rw [List.append_nil]
            refine .inl fun s hs hx => Decidable.byContradiction fun hn => ?_
            have : s ∈ (List.range n).filter pp := hnew.mpr ⟨hs, hn, hx⟩
            rw [hE] at this
            cases this
          | cons y ys =>
            rcases prog with pr | pr
            · have hy : y ∈ (List.range n).filter pp := by rw [hE]; exact List.mem_cons_self
              obtain ⟨h1, h2, h3⟩ := hnew.mp hy
              exact absurd (pr y h1 h3) h2
            · refine .inr ?_
              rw [List.length_append, List.length_cons]
              omega
    · obtain ⟨f, fs, a, b, c, d, rfl, hf0, gf, prog, eH, hl⟩ := hP
      have cl : ∀ x ∈ fs, ∀ g, liveR l n go x g none → g ∈ fs := fun x hx g ⟨_, hg, c, hc, e⟩ => by
        rcases prog with p | p
        · exact p g hg ⟨c, hc, by rw [e]; exact hx⟩
        · exact full_list gf.1 gf.2.1 (by simpa using p) g hg
      have fl := lenN gf.1 gf.2.1
      refine s_ret (ev_var rfl) fun H4 e4 => fin f H4 fs (eH.trans e4) hf0 (e4 _ _ hl) (fun x => ?_) (by omega)
      unfold lvOf
      rw [mem_silentL]
      exact ⟨fun h => ⟨gf.2.1 x h, gf.2.2.2 x h⟩, fun h => (silent_closed gf.2.2.1 gf.2.2.2 cl x).mpr h.2⟩
end
end K33
/-! text Sd -/
set_option Elab.async false
set_option linter.all false
set_option maxRecDepth 100000
set_option maxHeartbeats 4000000
namespace K33
open PySem PySem.Spec PyProof.Rows L2 Evl K33G
section
variable {X : Cx} {k : Nat}
theorem op_notInD2 (hr : Room k X.A) : OpR X (compareOp .NotIn) (rNotInD X.K) := op_notInD (by have := hr.un; omega)
end
/-! ### pairs as data -/
def pdP (p : Pst) : PyData := .tuple [.int p.1, .tuple (p.2.map fun (i : Nat) => PyData.int i)]
theorem eqv_ints (xs ys : List Nat) : PyData.eqvAll (xs.map fun (i : Nat) => PyData.int i) (ys.map fun (i : Nat) => PyData.int i) = decide (xs = ys) := by
  induction xs generalizing ys with
  | nil => cases ys <;> simp [PyData.eqvAll]
  | cons x xs ih =>
    cases ys with
    | nil => simp [PyData.eqvAll]
    | cons y ys =>
      simp only [List.map_cons, PyData.eqvAll, ih, PyData.eqv]
      by_cases h : x = y
      · subst h
        simp
      · have h2 : ((x : Int) == (y : Int)) = false := beq_eq_false_iff_ne.mpr (by omega)
        rw [h2, Bool.false_and]
        exact (decide_eq_false (fun e => h (by injection e))).symm
theorem eqv_pdP (p q : Pst) : PyData.eqv (pdP p) (pdP q) = decide (p = q) := by
  obtain ⟨k, xs⟩ := p
  obtain ⟨j, ys⟩ := q
  unfold pdP
  simp only [PyData.eqv, PyData.eqvAll, eqv_ints]
  by_cases h : k = j
  · subst h
    by_cases h2 : xs = ys <;> simp [h2]
  · have h2 : ((k : Int) == (j : Int)) = false := beq_eq_false_iff_ne.mpr (by omega)
    rw [h2, Bool.false_and]
    exact (decide_eq_false (fun e => h (by injection e))).symm
theorem lay_ints (xs : List Nat) : PyData.canLayAll0 (xs.map fun (i : Nat) => PyData.int i) = true ∧ PyData.depthAll (xs.map fun (i : Nat) => PyData.int i) = 0 := by
  induction xs with
  | nil => exact ⟨rfl, rfl⟩
  | cons x xs ih => simpa [PyData.canLayAll0, PyData.canLay0, PyData.depthAll, PyData.depth] using ih
theorem lay_pdP (p : Pst) : PyData.canLay0 (pdP p) = true ∧ PyData.depth (pdP p) ≤ 2 := by
  obtain ⟨h1, h2⟩ := lay_ints p.2
  unfold pdP
  simp [PyData.canLay0, PyData.canLayAll0, PyData.depth, PyData.depthAll, h1, h2]
theorem shaped_pdP (p : Pst) : SeqAt.shaped (pdP p) = true := by
  obtain ⟨h1, h2⟩ := lay_pdP p
  unfold SeqAt.shaped
  rw [h1, Bool.true_and]
  exact decide_eq_true (by omega)
theorem shaped_pdPs (ps : List Pst) : SeqAt.shaped (.list (ps.map pdP)) = true := by
  have key : PyData.canLayAll0 (ps.map pdP) = true ∧ PyData.depthAll (ps.map pdP) ≤ 2 := by
    induction ps with
    | nil => exact ⟨rfl, Nat.zero_le _⟩
    | cons p ps ih =>
      obtain ⟨h1, h2⟩ := lay_pdP p
      simp only [List.map_cons, PyData.canLayAll0, PyData.depthAll, h1, ih.1]
      exact ⟨rfl, by have := ih.2; omega⟩
  unfold SeqAt.shaped
  rw [Bool.and_eq_true]
  exact ⟨by simpa [PyData.canLay0] using key.1, decide_eq_true (by simp only [PyData.depth]; omega)⟩
theorem any_pdP (ps : List Pst) (p : Pst) : (ps.map pdP).any (fun z => PyData.eqv z (pdP p)) = decide (p ∈ ps) := by
  rw [List.any_map, Bool.eq_iff_iff, List.any_eq_true, decide_eq_true_eq]
  constructor
  · rintro ⟨q, hq, e⟩
    have e2 : PyData.eqv (pdP q) (pdP p) = true := e
    rw [eqv_pdP] at e2
    exact of_decide_eq_true e2 ▸ hq
  · exact fun h => ⟨p, h, by show PyData.eqv (pdP p) (pdP p) = true; rw [eqv_pdP]; exact decide_eq_true rfl⟩
section
variable {P : Program} {w : World} {K : PySem.W.Frag} {mg : Str → Option Value} {base : Heap}
theorem dp_ints (H : Hp) (xs : List Nat) : DpAll K H (xs.map nv) (xs.map fun (i : Nat) => PyData.int i) := by
  induction xs with
  | nil => exact .nil
  | cons x xs ih => exact .cons (.int _) ih
theorem dp_pair {H : Hp} {p : Addr} {k : Nat} {xs : List Nat} (h : PairAt K H p k xs) : Dp K H (.ref p) (pdP (k, xs)) := by
  obtain ⟨q, h1, h2⟩ := h
  exact .tup h1 (.cons (.int _) (.cons (.tup h2 (dp_ints H xs)) .nil))
/-- the list of what is found -/
def FdAt (K : PySem.W.Frag) (H : Hp) (items : List V) (M : Rel3) (n s : Nat) (go : Nat → Nat → Nat) (F : List (List Nat)) : Prop := items.length = F.length ∧ ∀ (i : Nat) (w : List Nat), F[i]? = some w → ∃ t, items[i]? = some (.ref t) ∧ PairAt K H t (run go 0 w) (lastL M n s w)
theorem FdAt.mono {H H' : Hp} {items : List V} {M : Rel3} {n s : Nat} {go : Nat → Nat → Nat} {F : List (List Nat)} (h : FdAt K H items M n s go F) (e : Ex H H') : FdAt K H' items M n s go F := ⟨h.1, fun i w hw => by
  obtain ⟨t, h1, h2⟩ := h.2 i w hw
  exact ⟨t, h1, h2.mono e⟩⟩
theorem FdAt.add {H : Hp} {items : List V} {M : Rel3} {n s : Nat} {go : Nat → Nat → Nat} {F : List (List Nat)} {t : Addr} {w : List Nat} (h : FdAt K H items M n s go F) (h2 : PairAt K H t (run go 0 w) (lastL M n s w)) : FdAt K H (items ++ [.ref t]) M n s go (F ++ [w]) := by
  refine ⟨by simp [h.1], fun i v hv => ?_⟩
  by_cases hlt : i < F.length
  · rw [List.getElem?_append_left hlt] at hv
    rw [List.getElem?_append_left (by rw [h.1]; exact hlt)]
    exact h.2 i v hv
  · obtain rfl : i = F.length := by
      have := (List.getElem?_eq_some_iff.mp hv).1
      simp at this
      omega
    obtain rfl : w = v := by simpa using hv
    exact ⟨t, by rw [← h.1]; simp, h2⟩
theorem dp_found {H : Hp} {f : Addr} {items : List V} {M : Rel3} {n s : Nat} {go : Nat → Nat → Nat} {F : List (List Nat)} (hf : SqL K H f items) (h : FdAt K H items M n s go F) : Dp K H (.ref f) (.list ((F.map (pst (pS0 M n s) (pNx M n go))).map pdP)) := by
  refine .lst hf ?_
  clear hf
  obtain ⟨h1, h2⟩ := h
  induction F generalizing items with
  | nil =>
    rw [List.eq_nil_of_length_eq_zero h1]
    exact .nil
  | cons w F ih =>
    cases items with
    | nil => cases h1
    | cons x items =>
      obtain ⟨t, e, hp⟩ := h2 0 w rfl
      cases e
      rw [List.map_cons, List.map_cons, pst_pair]
      exact .cons (dp_pair hp) (ih (by simpa using h1) fun i v hv => h2 (i + 1) v hv)
theorem ev_notInD {σ : L2.St} {H : Hp} {tx ty : TE} {a f : Addr} {p : Pst} {ps : List Pst} (hx : Ev tx σ H (.ref a)) (hy : Ev ty σ H (.ref f)) (hp : PairAt K H a p.1 p.2) (hps : ∀ H1, Ex H H1 → Dp K H1 (.ref f) (.list (ps.map pdP))) : Ev (tOp (rNotInD K) tx ty) σ H (.bl (!decide (p ∈ ps))) :=
  ev_op hx hy fun H1 e Q q => ⟨pdP p, ps.map pdP, dp_pair (hp.mono e), hps H1 e, shaped_pdP p, shaped_pdPs ps, by rw [any_pdP]; exact q H1 (Ex.refl H1)⟩
theorem evp_kpair {t2 t3 : TE} {σ : L2.St} {H : Hp} {k : Nat} {xs : List Nat} (h2 : Ev t2 σ H (nv k)) (h3 : EvP t3 σ H fun v H' => ∃ q ys, v = .ref q ∧ H q = none ∧ H' q = some (.tup ys) ∧ ys = xs.map nv) :
    EvP (tTup (tCons t2 (tCons t3 tNil))) σ H (fun v H' => ∃ p q, v = .ref p ∧ H p = none ∧ H q = none ∧ H' p = some (.tup [nv k, .ref q]) ∧ H' q = some (.tup (xs.map nv))) := by
  refine (evp_tupA (Pa := fun vs G => ∃ q, vs = [nv k, .ref q] ∧ H q = none ∧ G q = some (.tup (xs.map nv))) (ea_consP (evp_of h2) fun y H2 e2 hy => ea_one (h3.mono e2) fun u H3 e3 ⟨q, ys, hu, hq, hq2, hys⟩ => ⟨q, by rw [hy, hu], hq, by rw [hq2, hys]⟩) (fun vs G1 G2 e ⟨q, a, b, c⟩ => ⟨q, a, b, e _ _ c⟩) fun vs G ⟨q, a, _⟩ => by rw [a]; simp).imp ?_
  rintro v H' e ⟨p, vs, rfl, hp, hp2, q, rfl, a, b⟩
  exact ⟨p, q, rfl, hp, a, hp2, b⟩
theorem q_asgG {te : TE} {g : TG} {tz : TS} {D : Ends} {σ : L2.St} {H : Hp} {v : V} (h : Ev te σ H v) (k : ∀ H1, Ex H H1 → g v σ H1 fun σ2 H2 => tz D σ2 H2) : tSeq (tAsg te g) tz D σ H := h H (Ex.refl H) _ k
theorem MOk.lg {l : List Nat} {n : Nat} {go : Nat → Nat → Nat} {mem : List Nat} (ok : MOk l n go mem) : LgOk l n go mem := ⟨ok.lok, ok.one, ok.six, ok.ins, ok.mem⟩
theorem FInv.any {S : Type} {l : List Nat} {s0 : S} {opn : S → Nat → Bool} {nx : S → Nat → S} {F : List (List Nat)} {a : Nat} {w w' : List Nat} (q : FInv l s0 opn nx F a 0 w) : FInv l s0 opn nx F a 0 w' :=
  ⟨q.val, q.inc, q.nd, q.has, q.kids, fun c hc => (by simp at hc), fun v hv => (q.last v hv).imp_right fun h => h.imp_right fun ⟨c, hc, _⟩ => by simp at hc⟩
def spLLacking (K : PySem.W.Frag) : Sp := fun vs H Q _ => ∃ (p b t : Addr) (s : Nat) (rows : List Row) (l : List Nat) (n : Nat) (go : Nat → Nat → Nat) (mem bs : List Nat) (U : List Pst), vs = [.ref p, nv s, .ref b, .ref t] ∧ RowsL K H p rows ∧ GoodR rows ∧ s < rows.length ∧ SqL K H b (bs.map nv) ∧ MchAt K H t l n go mem ∧ MOk l n go mem ∧ U.length ≤ 499 ∧
  (∀ w, Val l (pS0 (goes rows) rows.length s) (pOpn go (lvOf l n go mem)) (pNx (goes rows) rows.length go) w → pst (pS0 (goes rows) rows.length s) (pNx (goes rows) rows.length go) w ∈ U) ∧ ∀ r, Ans l (langP go mem) (goodP rows s bs) r → (∀ w, r = some w → w.length ≤ 500) → RetV (ansV r) H Q
abbrev N_law_lacking : List Str := ["_law_rows", "_law_spot", "_law_after", "_law_machine", "_law_live_here", "_law_begin", "_law_found", "_law_notes", "_law_at", "_law_kind", "_law_some", "_law_letter", "_law_goal", "_law_pair", "_law_one"]
theorem sc_law_lacking : FnScope N_law_lacking ["_law_rows", "_law_spot", "_law_after", "_law_machine"] (defScope (top 75)) := ⟨rfl, rfl, rfl, by decide +kernel, rfl, by decide +kernel, by decide +kernel⟩
theorem ok_law_lacking (T : Txt K mg) : Ok P w K mg base 3 "_law_lacking" ["_law_rows", "_law_spot", "_law_after", "_law_machine"] (spLLacking K) := by
  refine ok_of T.law_lacking sc_law_lacking (fun vs H Q E h => ?_) (fun _ _ _ _ _ _ us hl => match us, hl with | [_, _, _, _], _ => rfl) (fun f cdv A outer s H vs Q E hr h => ?_)
  · obtain ⟨_, _, _, _, _, _, _, _, _, _, _, rfl, _⟩ := h
    rfl
  · obtain ⟨p, b, t, s, rows, l, m, go, mem, bs, U, rfl, hRL, gd, hs, hb, hM, ok, hU, inU, k⟩ := h
    refine ⟨_, (pss_cons (ps_set (i := 4) sc_law_lacking.nd rfl (Or.inl rfl) (pe_f (ok_law_live T) (hr.mono (by decide)) (pa_cons (pv 3) pa_nil)))
 (pss_cons (ps_set (i := 5) sc_law_lacking.nd rfl (Or.inl rfl) (pe_tup (pa_cons pe_int (pa_cons (pe_tupOf (K := K) T.tuple (pa_cons (pe_f (ok_law_silent T) (hr.mono (by decide)) (pa_cons (pv 0) (pa_cons (pe_lst (pa_cons (pv 1) pa_nil)) pa_nil))) pa_nil)) pa_nil))))
 (pss_cons (ps_par (i := 6) (j := 7) (by rfl) sc_law_lacking.nd rfl rfl (by decide) rfl rfl (pa_cons (pe_lst (pa_cons (pv 5) pa_nil)) (pa_cons (pe_lst (pa_cons pe_str pa_nil)) pa_nil)) (by rfl))
 (pss_cons (ps_for PassesOwn.never rfl (pi_range1 rfl T.range (pa_cons (pe_op op_mul pe_int (pe_callTy call_int1 (by rfl) T.int (by decide +kernel) (pa_cons (pe_cmpR (r := rIn K false) op_in_seq pe_int (pv 4) (by rfl)) pa_nil))) pa_nil)) (pg_name (i := 8) sc_law_lacking.nd rfl (Or.inl rfl))
 (pss_cons (ps_if (pt_cmpR op_ge (pv 8) (pe_callB call_len (by rfl) T.len (by decide +kernel) (pa_cons (pv 6) pa_nil)) (nomark _))
 (pss_one (ps_ret pe_non))
 pss_nil)
 (pss_cons (ps_asg (pe_ix (r := rIxL K) ix_list (pv 6) (pv 8) (fun _ _ => rfl)) (pg_tup rfl (pgs_cons (pg_name (i := 9) sc_law_lacking.nd rfl (Or.inl rfl)) (pgs_cons (pg_name (i := 10) sc_law_lacking.nd rfl (Or.inl rfl)) pgs_nil))))
 (pss_cons (ps_if (PW.pt (pw_and (pt_cmpR (r := rIn K false) op_in_seq (pv 9) (pe_ix (r := rIxT K) ix_tup (pv 3) pe_int (fun _ _ => rfl)) (by rfl)) (pw_and1 (pt_not (pt_val (pe_callB (r := rAny K) (cr_any rfl) (by rfl) T.any (by decide +kernel) (pa_cons (pe_lc (own := [("_law_one", 14)]) (g := gName 14) (by rfl) sc_law_lacking.nd (pi_tupK (K := K) (pv 10)) (blkOk_by (own := [("_law_one", 14)]) (N := N_law_lacking) (sc := defScope (top 75)) (by decide +kernel)) (fun _ _ _ _ _ => (pg_name (i := 14) sc_law_lacking.nd rfl (Or.inl rfl))) (fun _ _ _ _ _ => by exact pts_nil) (fun _ _ _ _ _ => by exact (pe_cmpR (r := rIn K false) op_in_seq (pv 14) (pv 2) (by rfl)))) pa_nil)))))))
 (pss_one (ps_ret (pe_ix (r := rIxL K) ix_list (pv 7) (pv 8) (fun _ _ => rfl))))
 pss_nil)
 (pss_one (ps_for PassesOwn.never rfl (pi_str (pe_ix (r := rIxT K) ix_tup (pv 3) pe_int (fun _ _ => rfl))) (pg_name (i := 11) sc_law_lacking.nd rfl (Or.inl rfl))
 (pss_cons (ps_set (i := 12) sc_law_lacking.nd rfl (Or.inl rfl) (pe_dget (hu_of hr) (pe_ix (r := rIxL K) ix_list (pe_ix (r := rIxT K) ix_tup (pv 3) pe_int (fun _ _ => rfl)) (pv 9) (fun _ _ => rfl)) (pv 11) (fun _ _ => rfl)))
 (pss_cons (ps_set (i := 13) sc_law_lacking.nd rfl (Or.inl rfl) (pe_tup (pa_cons (pv 12) (pa_cons (pe_tupOf (K := K) T.tuple (pa_cons (pe_f (ok_law_step T) (hr.mono (by decide)) (pa_cons (pv 0) (pa_cons (pv 10) (pa_cons (pv 11) pa_nil)))) pa_nil)) pa_nil))))
 (pss_one (ps_if (PW.pt (pw_and (pt_cmpR (r := rIn K false) op_in_seq (pv 12) (pv 4) (by rfl)) (pw_and1 (pt_cmpR (r := rNotInD K) (op_notInD2 hr) (pv 13) (pv 6) (by rfl)))))
 (pss_cons (ps_expr (pe_bm PySem.F.plainAttrs_list PySem.F.slot_list_append PySem.F.type_list_append mt_append (pv 6) (pa_cons (pv 13) pa_nil)))
 (pss_one (ps_expr (pe_bm PySem.F.plainAttrs_list PySem.F.slot_list_append PySem.F.type_list_append mt_append (pv 7) (pa_cons (pe_op op_add_str (pe_ix (r := rIxL K) ix_list (pv 7) (pv 8) (fun _ _ => rfl)) (pv 11)) pa_nil)))))
 pss_nil))))))))))
 (pss_one (ps_ret pe_non)))))), ?_⟩
    have lg := ok.lg
    let lv := lvOf l m go mem
    let R := goes rows
    let n := rows.length
    let A0 := pS0 R n s
    let A1 := pOpn go lv
    let A2 := pNx R n go
    let bad : Pst → Prop := fun p => p.1 ∈ mem ∧ ¬ meet p.2 bs = true
    have hbad : ∀ w, bad (run go 0 w, lastL R n s w) ↔ run go 0 w ∈ mem ∧ ¬ goodP rows s bs w := fun w => Iff.rfl
    have hM0 := hM
    obtain ⟨mp, mq, ht, ds, hmp, hmr, hmq⟩ := hM
    have few := gd.few
    refine q_asgP (P := fun v H' => ∃ (r : Addr) (fs : List Nat), v = .ref r ∧ H r = none ∧ H' r = some (.lst (fs.map nv)) ∧ (∀ x, x ∈ fs ↔ x ∈ lv) ∧ fs.length ≤ 1000) (evp_call (ea_of (ea_cons (ev_var rfl) ea_nil)) fun vs H1 e1 hv => ?_) fun v H1 e1 ⟨lr, fs, hv, hlr0, hlr, hfs, lfs⟩ => ?_
    · subst hv
      exact fun H2 e2 Q' q' E => ⟨t, l, m, go, mem, rfl, hM0.mono (e1.trans e2), ok, fun r H3 fs e3 h1 h2 h3 h4 => q' _ H3 e3 ⟨r, fs, rfl, fresh_back (e1.trans e2) h1, h2, h3, h4⟩⟩
    subst hv
    refine q_asgP (evp_kpair (k := 0) (xs := silentL R n [s]) ev_c (evp_tupOf (P := fun ys _ => ys = (silentL R n [s]).map nv) (evp_call (Pa := fun vs G => ∃ r, vs = [.ref p, .ref r] ∧ G r = some (.lst ([s].map nv))) (ea_consP (evp_of (ev_var rfl)) fun x H3 e3 hx => ea_one (evp_L (el_lst (ea_cons (ev_var rfl) ea_nil) (by simp))) fun y H4 e4 ⟨r, hy, _, hr2⟩ => ⟨r, by rw [hx, hy], hr2⟩) fun vs H3 e3 ⟨r, hv, hr2⟩ => ?_) fun _ _ _ _ h => h)) fun v H2 e2 ⟨bg, bq, hv, hbg0, hbq0, hbg, hbq⟩ => ?_
    · subst hv
      exact fun H4 e4 Q' q' E => ⟨p, r, rows, [s], rfl, hRL.mono (e1.trans (e3.trans e4)), gd, sq_of (e4 _ _ hr2), by simp, by simpa using hs, fun q H5 e5 h1 h2 => q' _ H5 e5 ⟨q, _, rfl, h2, rfl⟩⟩
    subst hv
    have e12 := e1.trans e2
    have hlr2 := e2 _ _ hlr
    have hbp : PairAt K H2 bg 0 (silentL R n [s]) := ⟨bq, st_of hbg, st_of hbq⟩
    have hL2 := hRL.mono e12
    refine q_par (P := fun vs H3 => ∃ f g, vs = [.ref f, .ref g] ∧ H2 f = none ∧ H2 g = none ∧ f ≠ g ∧ H3 f = some (.lst [.ref bg]) ∧ H3 g = some (.lst [.str (txt [])])) (ea_consP (evp_L (el_lst (vs := [.ref bg]) (ea_cons (ev_var rfl) ea_nil) (by simp))) fun x H3 e3 ⟨f, hx, hf, hf1⟩ => ea_one (evp_L (el_lst (vs := [.str (txt [])]) (ea_cons ev_c ea_nil) (by simp))) fun y H4 e4 ⟨g, hy, hg, hg1⟩ => ⟨f, g, by rw [hx, hy], hf, fresh_back e3 hg, (fun z => by rw [← z, hf1] at hg; cases hg), e4 _ _ hf1, hg1⟩) fun vs H3 e3 ⟨f, g, hv, hf0, hg0, nfg, hf1, hg1⟩ => ⟨_, _, hv, ?_⟩
    let D2 : Hp → Hp := fun G => del f (del g G)
    have d2 : ∀ {G G' : Hp}, Ex G G' → Ex (D2 G) (D2 G') := fun e => del_ex (del_ex e)
    have d2le : ∀ {G : Hp}, Ex (D2 G) G := del_le.trans del_le
    have h2D : ∀ {G : Hp}, Ex H2 G → Ex H2 (D2 G) := fun e => ex_del (ex_del e hg0) hf0
    have updf : ∀ {G : Hp} {o : HO}, D2 (upd G f o) = D2 G := fun {G o} => by
      show del f (del g (upd G f o)) = del f (del g G)
      rw [del_comm, del_upd, del_comm]
    have updg : ∀ {G : Hp} {o : HO}, D2 (upd G g o) = D2 G := fun {G o} => by
      show del f (del g (upd G g o)) = del f (del g G)
      rw [del_upd]
    let TX : List (List Nat) → List V := fun F => F.map fun w => V.str (txt w)
    let Inv0 : Nat → L2.St → Hp → Prop := fun i σ' G => ∃ (F : List (List Nat)) (items : List V) (a8 a9 a10 a11 a12 a13 a14 : Option V), σ' = [some (.ref p), some (nv s), some (.ref b), some (.ref t), some (.ref lr), some (.ref bg), some (.ref f), some (.ref g), a8, a9, a10, a11, a12, a13, a14] ∧ Ex H2 G ∧ G f = some (.lst items) ∧ G g = some (.lst (TX F)) ∧
      FdAt K (D2 G) items R n s go F ∧ FInv l A0 A1 A2 F i 0 [] ∧ (∀ y ∈ F.take i, ¬ bad (pst A0 A2 y)) ∧ ∀ w ∈ F, w.length ≤ i
    have endN : ∀ (i : Nat) (F : List (List Nat)), FInv l A0 A1 A2 F i 0 [] → (∀ y ∈ F.take i, ¬ bad (pst A0 A2 y)) → F.length ≤ i → 0 ∈ lv → ∀ G', Ex H2 G' → Q .non G' := by
      intro i F q no hle h0 G' e'
      refine k none (ans_of (bs := bs) lg.ins lg.one lg.live h0 hbad (q.none hle fun y hy => no y ?_)) (fun w hw => by cases hw) G' (e12.trans e')
      rw [List.take_of_length_le hle]
      exact hy
    have hE : Ev (tOp (rI CMul fun i j => .int (i * j)) (tC (.int 500)) (tCB (fun xs H Q => (∃ i, xs = [.int i] ∧ Q (.int i) H) ∨ ∃ k, xs = [.bl k] ∧ Q (.int (if k then 1 else 0)) H) (tCons (tOp (rIn K false) (tC (.int 0)) (tVar 4)) tNil))) [some (.ref p), some (nv s), some (.ref b), some (.ref t), some (.ref lr), some (.ref bg), some (.ref f), some (.ref g), none, none, none, none, none, none, none] H3 (.int (if 0 ∈ lv then 500 else 0)) := by
      refine ev_is (ev_op ev_c (ev_intB (b := decide (0 ∈ lv)) (ev_is (ev_op ev_c (ev_var rfl) (rv_isL (sq_of (e3 _ _ hlr2)) rfl (flat_nv _))) ?_)) (rv_I ?_)) ?_
      · rw [show (V.int 0) = nv 0 from rfl, inV_nv, decide_eq_decide.mpr (hfs 0)]
      · unfold CMul
        split <;> decide
      · by_cases h : 0 ∈ lv <;> simp [h]
    refine q_forR1 (n := if 0 ∈ lv then 500 else 0) (ea_cons hE ea_nil) (by split <;> omega) Inv0 (fun G e => ⟨[[]], [.ref bg], _, _, _, _, _, _, _, rfl, e3.trans e, e _ _ hf1, e _ _ hg1, ?_, f_start, fun y hy => by simp at hy, fun w hw => by rw [List.mem_singleton.mp hw]; exact Nat.le_refl _⟩) (fun i σ' G hi hP => ?_) fun σ' G hP => ?_
    · refine ⟨rfl, fun i w hw => ?_⟩
      obtain ⟨rfl, rfl⟩ : i = 0 ∧ w = [] := by
        cases i with
        | zero => simpa using hw.symm
        | succ i => simp at hw
      exact ⟨bg, rfl, hbp.mono (h2D (e3.trans e))⟩
    · have h0 : 0 ∈ lv := Decidable.byContradiction fun h => by
        rw [if_neg h] at hi
        omega
      obtain ⟨F, items, a8, a9, a10, a11, a12, a13, a14, rfl, eG, hf, hg, hFd, q, no, hlen⟩ := hP
      have Fl := q.few inU
      refine q_when (b := decide (((i : Nat) : Int) ≥ (items.length : Int))) (et_test (ev_op (ev_var rfl) (ev_lenV (n := items.length) (ev_var rfl) fun H5 e5 => .inl ⟨_, sq_of (e5 _ _ hf), rfl⟩) rv_I0)) (fun hge G1 f1 => ?_) fun hge G1 f1 => ?_
      · have hge := of_decide_eq_true hge
        exact s_ret (v := .non) ev_c fun G2 f2 => endN i F q no (by rw [← hFd.1]; omega) h0 G2 (eG.trans (f1.trans f2))
      · have hlt : i < F.length := by
          have := of_decide_eq_false hge
          rw [← hFd.1]
          omega
        obtain ⟨z, hz⟩ : ∃ z, F[i]? = some z := ⟨F[i], List.getElem?_eq_getElem hlt⟩
        obtain ⟨pa, hpa, hpp⟩ := hFd.2 i z hz
        have zm := List.mem_of_getElem? hz
        have zin : ∀ c ∈ z, c ∈ l := val_in (q.val z zm)
        have zlen := hlen z zm
        have klt : run go 0 z < m := run_in lg.ins lg.one zin
        have hps : (lastL R n s z).length ≤ n := lastL_len
        refine q_asgG (v := .ref pa) (ev_op (ev_var rfl) (ev_var rfl) (rv_ixL (sq_of (f1 _ _ hf)) (atI_nat hpa))) fun G2 f2 => ?_
        have f12 := f1.trans f2
        obtain ⟨pq, hp1, hp2⟩ := hpp
        have hpq2 : SqT K G2 pq ((lastL R n s z).map nv) := ex_t (d2le.trans f12) hp2
        refine tg_pair (ex_t (d2le.trans f12) hp1) ?_
        have e2' := e12.trans (eG.trans f12)
        refine q_when (b := decide (run go 0 z ∈ mem) && !meet (lastL R n s z) bs) (et_and (et_is (et_test (ev_op (ev_var rfl) (ev_op (ev_var rfl) ev_c (rv_ixT (i := 2) (ex_t e2' ht) rfl)) (rv_isL (ex_l e2' hmq) rfl (flat_nv _)))) (inV_nv _ _)) fun _ => et_not (et_B (ev_anyM (lastL R n s z) (fun x => decide (x ∈ bs)) ?_))) (fun hb2 G3 f3 => ?_) fun hb2 G3 f3 => ?_
        · refine el_map (lastL R n s z) _ (iw_tup (p := pq) (ev_var rfl) hpq2) (by simp) (by omega) fun i2 c2 x Ha Hb hc ea y kk hk => ?_
          obtain ⟨rfl, y2⟩ := y
          rw [List.getElem?_map, hc] at y2
          cases y2
          refine hk _ _ (Ex.refl _) rfl et_yes (ev_is (ev_op (ev_var rfl) (ev_var rfl) (rv_isL (ex_l (e2'.trans ea) hb) rfl (flat_nv _))) ?_)
          rw [inV_nv]
        · rw [Bool.and_eq_true, decide_eq_true_eq, Bool.not_eq_true'] at hb2
          refine s_ret (v := .str (txt z)) (ev_op (ev_var rfl) (ev_var rfl) (rv_ixL (sq_of (f3 _ _ (f12 _ _ hg))) (atI_nat (by rw [List.getElem?_map, hz]; rfl)))) fun G4 f4 => k (some z) (ans_of (bs := bs) lg.ins lg.one lg.live h0 hbad (q.found hz no ?_)) (fun w hw => by cases hw; omega) G4 (e2'.trans (f3.trans f4))
          rw [pst_pair]
          exact ⟨hb2.1, by rw [hb2.2]; exact Bool.false_ne_true⟩
        · have nbad : ¬ bad (pst A0 A2 z) := by
            rw [pst_pair]
            rintro ⟨h1, h2⟩
            rw [decide_eq_true h1, Bool.true_and, Bool.not_eq_false'] at hb2
            exact h2 hb2
          have f13 := f12.trans f3
          have eG3 := eG.trans f13
          let L2' : Nat → L2.St → Hp → Prop := fun j σ' G' => ∃ (F' : List (List Nat)) (items' : List V) (a11 a12 a13 a14 : Option V), σ' = [some (.ref p), some (nv s), some (.ref b), some (.ref t), some (.ref lr), some (.ref bg), some (.ref f), some (.ref g), some (nv i), some (nv (run go 0 z)), some (.ref pq), a11, a12, a13, a14] ∧ Ex H2 G' ∧ Ex (D2 G) (D2 G') ∧ G' f = some (.lst items') ∧ G' g = some (.lst (TX F')) ∧
            FdAt K (D2 G') items' R n s go F' ∧ F <+: F' ∧ FInv l A0 A1 A2 F' i j z ∧ ∀ w ∈ F', w.length ≤ i + 1
          refine s_forTxt (l := l) (ev_op (ev_var rfl) ev_c (rv_ixT (i := 0) (ex_t (e12.trans eG3) ht) rfl)) L2' (fun G4 f4 => ⟨F, items, _, _, _, _, rfl, eG3.trans f4, d2 (f13.trans f4), f4 _ _ (f13 _ _ hf), f4 _ _ (f13 _ _ hg), hFd.mono (d2 (f13.trans f4)), List.prefix_refl _, q.any, fun w hw => by have := hlen w hw; omega⟩) (fun j c σ' G' hc hP' => ?_) fun σ' G' hP' => ?_
          · obtain ⟨F', items', a11, a12, a13, a14, rfl, eG', eD', hf', hg', hFd', pre, q', hlen'⟩ := hP'
            have hcl := List.mem_of_getElem? hc
            have hz' : F'[i]? = some z := by
              obtain ⟨s', hs'⟩ := pre
              rw [← hs', List.getElem?_append_left hlt]
              exact hz
            have eH' := e12.trans eG'
            obtain ⟨dd, hdd, fdd⟩ := hmr.2 _ klt
            have hpq' : SqT K G' pq ((lastL R n s z).map nv) := ex_t (eD'.trans d2le) hp2
            have g0 := fun {x : Addr} (h : G' x = none) => (⟨fun z => (by rw [z, hf'] at h; cases h), fun z => (by rw [z, hg'] at h; cases h)⟩ : x ≠ f ∧ x ≠ g)
            refine q_asg (v := nv (go (run go 0 z) c)) (ev_dget (k := .inr (sg c)) (ev_op (ev_op (ev_var rfl) ev_c (rv_ixT (i := 1) (ex_t eH' ht) rfl)) (ev_var rfl) (rv_ixL (ex_l eH' hmp) (atI_nat (v := .ref dd) (by rw [List.getElem?_map, hdd]; rfl)))) (ev_var rfl) (fdd.mono eH') (val_mrow hcl)) fun G5 f5 => ?_
            refine q_asgP (evp_kpair (k := go (run go 0 z) c) (xs := stepL R n (lastL R n s z) (sg c)) (ev_var rfl) (evp_tupOf (P := fun ys _ => ys = (stepL R n (lastL R n s z) (sg c)).map nv) (evp_call (ea_of (ea_cons (ev_var rfl) (ea_cons (ev_var rfl) (ea_cons (ev_var rfl) ea_nil)))) fun vs G6 f6 hv => ?_) fun _ _ _ _ h => h)) fun v G6 f6 ⟨np, nq, hv, hnp0, hnq0, hnp, hnq⟩ => ?_
            · subst hv
              exact fun H4 e4 Q' q' E => ⟨p, pq, rows, lastL R n s z, sg c, rfl, hL2.mono (eG'.trans (f5.trans (f6.trans e4))), gd, ex_t (f5.trans (f6.trans e4)) hpq', fun x hx => lastL_inside hx, fun q H5 e5 h1 h2 => q' _ H5 e5 ⟨q, _, rfl, h2, rfl⟩⟩
            subst hv
            have f56 := f5.trans f6
            obtain ⟨np1, np2⟩ := g0 (fresh_back f5 hnp0)
            obtain ⟨nq1, nq2⟩ := g0 (fresh_back f5 hnq0)
            have hkey : ∀ {x : Addr} {G : Hp}, x ≠ f → x ≠ g → D2 G x = G x := fun {x G} h1 h2 => by
              show del f (del g G) x = G x
              rw [del_ne h1, del_ne h2]
            have hNew : PairAt K (D2 G6) np (go (run go 0 z) c) (stepL R n (lastL R n s z) (sg c)) := ⟨nq, st_of (by rw [hkey np1 np2]; exact hnp), st_of (by rw [hkey nq1 nq2]; exact hnq)⟩
            have hFd6 := hFd'.mono (d2 f56)
            have eG6 := eG'.trans f56
            have nxe : A2 (pst A0 A2 z) c = (go (run go 0 z) c, stepL R n (lastL R n s z) (sg c)) := by
              rw [pst_pair]
              rfl
            have opn : A1 (pst A0 A2 z) c = decide (go (run go 0 z) c ∈ lv) := by
              rw [pst_pair]
              rfl
            refine s_when (b := decide (go (run go 0 z) c ∈ lv) && !decide ((go (run go 0 z) c, stepL R n (lastL R n s z) (sg c)) ∈ F'.map (pst A0 A2))) (et_and (et_is (et_test (ev_op (ev_var rfl) (ev_var rfl) (rv_isL (sq_of (eG6 _ _ hlr2)) rfl (flat_nv _)))) (by rw [inV_nv, decide_eq_decide.mpr (hfs _)])) fun _ => et_test (ev_notInD (p := (go (run go 0 z) c, stepL R n (lastL R n s z) (sg c))) (ev_var rfl) (ev_var rfl) (hNew.mono d2le) fun H1 h1 => dp_found (sq_of (h1 _ _ (f56 _ _ hf'))) ((hFd6.mono d2le).mono h1))) (fun hb3 G7 f7 => ?_) fun hb3 G7 f7 => ?_
            · rw [Bool.and_eq_true, decide_eq_true_eq, Bool.not_eq_true', decide_eq_false_iff_not] at hb3
              obtain ⟨hb3, hb4⟩ := hb3
              have q2 := q'.add lg.lok.up hz' hc (by rw [opn]; exact decide_eq_true hb3) (by rw [nxe]; exact hb4)
              have Fl' := q'.few inU
              refine q_app (xs := items') (f7 _ _ (f56 _ _ hf')) (ev_var rfl) (ev_var rfl) (by rw [hFd'.1]; omega) fun G8 f8 => ?_
              have g8 : (upd G8 f (.lst (items' ++ [.ref np]))) g = some (.lst (TX F')) := by
                rw [upd_ne nfg.symm]
                exact f8 _ _ (f7 _ _ (f56 _ _ hg'))
              have hop : Ev (tOp (fun x y H Q => ∃ i j, x = .str i ∧ y = .str j ∧ i.length + j.length ≤ sizeLine ∧ Q (.str (i ++ j)) H) (tOp (rIxL K) (tVar 7) (tVar 8)) (tVar 11)) [some (.ref p), some (nv s), some (.ref b), some (.ref t), some (.ref lr), some (.ref bg), some (.ref f), some (.ref g), some (nv i), some (nv (run go 0 z)), some (.ref pq), some (.str (sg c)), some (nv (go (run go 0 z) c)), some (.ref np), a14] (upd G8 f (.lst (items' ++ [.ref np]))) (.str (txt (z ++ [c]))) := by
                refine ev_op (x := .str (txt z)) (ev_op (ev_var rfl) (ev_var rfl) (rv_ixL (sq_of g8) (atI_nat (by rw [List.getElem?_map, hz']; rfl)))) (ev_var rfl) fun H1 e Q q => ⟨txt z, sg c, rfl, rfl, ?_, ?_⟩
                · rw [txt_len, show (sg c).length = 1 from rfl, sizeLine_eq]
                  omega
                · rw [txt_add]
                  exact q H1 (Ex.refl H1)
              refine s_app (xs := TX F') g8 (ev_var rfl) hop (by rw [List.length_map]; omega) fun G9 f9 => ?_
              have f69 : Ex (D2 G6) (D2 (upd G9 g (.lst (TX F' ++ [.str (txt (z ++ [c]))])))) := by
                rw [updg]
                refine (d2 (f7.trans f8)).trans ?_
                rw [← updf (o := .lst (items' ++ [.ref np]))]
                exact d2 f9
              refine ⟨F' ++ [z ++ [c]], items' ++ [.ref np], _, _, _, _, rfl, Ex.mut ((Ex.mut (eG6.trans (f7.trans f8)) hf0).trans f9) hg0, (eD'.trans (d2 f56)).trans f69, by rw [upd_ne nfg]; exact f9 _ _ upd_same, by rw [upd_same]; simp [TX], ?_, pre.trans (List.prefix_append _ _), q2, fun w hw => ?_⟩
              · refine (hFd6.mono f69).add ?_
                rw [run_snoc, lastL_snoc]
                exact hNew.mono f69
              · rcases List.mem_append.mp hw with h | h
                · exact hlen' w h
                · rw [List.mem_singleton.mp h, List.length_append, List.length_singleton]
                  omega
            · refine ⟨F', items', _, _, _, _, rfl, eG6.trans f7, (eD'.trans (d2 f56)).trans (d2 f7), f7 _ _ (f56 _ _ hf'), f7 _ _ (f56 _ _ hg'), hFd6.mono (d2 f7), pre, q'.keep lg.lok.up hz' hc fun ho => ?_, hlen'⟩
              rw [opn] at ho
              rw [ho, Bool.true_and, Bool.not_eq_false', decide_eq_true_eq] at hb3
              rw [nxe]
              exact hb3
          · obtain ⟨F', items', a11, a12, a13, a14, rfl, eG', eD', hf', hg', hFd', pre, q', hlen'⟩ := hP'
            have hz' : F'[i]? = some z := by
              obtain ⟨s', hs'⟩ := pre
              rw [← hs', List.getElem?_append_left hlt]
              exact hz
            refine ⟨F', items', _, _, _, _, _, _, _, rfl, eG', hf', hg', hFd', q'.next hz', fun y hy => ?_, hlen'⟩
            rw [List.take_succ, hz', Option.toList_some] at hy
            rcases List.mem_append.mp hy with h | h
            · refine no y ?_
              obtain ⟨s', hs'⟩ := pre
              rw [← hs', List.take_append_of_le_length (by omega)] at h
              exact h
            · rw [List.mem_singleton.mp h]
              exact nbad
    · by_cases h0 : 0 ∈ lv
      · rw [if_pos h0] at hP
        obtain ⟨F, items, _, _, _, _, _, _, _, rfl, eG, _, _, _, q, no, _⟩ := hP
        exact s_ret (v := .non) ev_c fun G2 f2 => endN _ F q no (by have := q.few inU; show F.length ≤ 500; omega) h0 G2 (eG.trans f2)
      · obtain ⟨_, _, _, _, _, _, _, _, _, _, eG, _⟩ := hP
        exact s_ret (v := .non) ev_c fun G2 f2 => k none (ans_dead lg.one lg.live h0) (fun w hw => by cases hw) G2 (e12.trans (eG.trans f2))
end
end K33
/-! text Gd -/
set_option Elab.async false
set_option linter.all false
set_option maxRecDepth 100000
set_option maxHeartbeats 4000000
/-! repr of lists: calls of which it is known that no repr is under way -/
namespace K33
open PySem PySem.Spec PyProof.Rows L2 Evl K33G
/-- as FnOk, where no repr is under way -/
structure FnG (P : Program) (w : World) (K : PySem.W.Frag) (mg : Str → Option Value) (base : Heap) (k : Nat) (f : Addr) (fd : FuncData) (ps : List Str) (sp : Sp) : Prop where
  cnt : ∀ vs H Q E, sp vs H Q E → vs.length = ps.length
  go : ∀ (A : Around) (out : List Env) (s : Shared) (H : Hp) (args : Args) (us : List Value) (vs : List V) (Q : VK) (E : XK), Room k A → A.guards = some [] → Env0 P w K mg base A out s H → BindsTo s fd args (ps.zip us) → Vals vs us → sp vs H Q E → codeAny (model P w) A (.call (.ref f) args) (CR CX0 out P w H s Q E) s
section
variable {P : Program} {w : World} {K : PySem.W.Frag} {mg : Str → Option Value} {base : Heap}
theorem fnG_of {x qual : Str} {st : Stmt} {f : Addr} {fd : FuncData} {N ps : List Str} {k : Nat} {sp : Sp} (F : FunD K x qual (defArgs st) (defBody st) (defScope st) [] [] f fd) (S : FnScope N ps (defScope st)) (cnt : ∀ vs H Q E, sp vs H Q E → vs.length = ps.length)
    (body : ∀ (cdv : Value) (A : Around) (out : List Env) (s : Shared) (H : Hp) (vs : List V) (Q : VK) (E : XK), Room k (A.deeper (envOfC qual (defScope st) s.heap.objs.size f cdv)) → A.guards = some [] → sp vs H Q E →
      ∃ t, PSs (cxOf CX0 P w K mg base N qual (defScope st) f cdv A out s H E) (defBody st) t ∧ t { nx := fun _ H' => Q .non H', rt := Q } (start N vs) H) : FnG P w K mg base (k + 1) f fd ps sp := by
  obtain ⟨oc, od, dV, kV, doc, pm, an, cdv, ct, osl, rfl, lk, hcd, _, _⟩ := F.ex
  refine ⟨cnt, fun A out s H args us vs Q E hr gg e0 bt rv hsp => ?_⟩
  have klen := cnt _ _ _ _ hsp
  have inK : K.In s.heap := e0.mod.kin.keeps fun b o h => (e0.bs b o h).1
  have noL : s.heap.NoLimit := e0.mod.nolimit.keeps fun b o h => (e0.bs b o h).1
  have kinds : ∀ y ∈ ps.zip us, (defScope st).names.lookup y.1 = some .local ∨ ((defScope st).names.lookup y.1 = some .cell ∧ ((cellsFrom (s.heap.objs.size + 1) (defScope st).names []).lookup y.1).isSome = true) := fun ⟨nm, v⟩ hy =>
    (S.par nm (List.of_mem_zip hy).1).imp id fun h => ⟨h, PySem.W.cellsFrom_some _ _ _ (.inl h)⟩
  refine codeAny_call_function (by have := hr.dp; omega) (inK _ _ lk) rfl S.co S.gen rfl (PySem.W.codeRec_of inK hcd) (bt _ _ _ _ (wpAny_newFunctionEnv_cells S.kind kinds fun env he s1 nf => ?_))
  subst he
  refine ⟨noL.keeps nf.toInCall.keep, codeAny_func ?_⟩
  obtain ⟨t, run, fin⟩ := body cdv A out s H vs Q E (hr.deeper _) gg hsp
  have I1 : Inv (cxOf CX0 P w K mg base N qual (defScope st) f cdv A out s H E) [] (start N vs) H s1 := inv_start S hr.hd e0 klen rv nf
  refine wpAny_mono (run.run [] s1 (start N vs) H _ I1 fin) (fun fl s' hfl => ?_) fun _ _ h => h
  cases fl with
  | next =>
    obtain ⟨_, H', J, q⟩ := hfl
    exact ⟨.non, H', J.os, J.bare, J.base, J.hok, rfl, q⟩
  | ret u =>
    obtain ⟨v, _, H', J, rv, q⟩ := hfl
    exact ⟨v, H', J.os, J.bare, J.base, J.hok, rv, q⟩
  | brk => exact False.elim (hfl.elim fun _ h => h.elim fun _ h => h.2)
  | cont => exact False.elim (hfl.elim fun _ h => h.elim fun _ h => h.2)
end
/-- a def that keeps its promise where no repr is under way -/
def OkG (P : Program) (w : World) (K : PySem.W.Frag) (mg : Str → Option Value) (base : Heap) (k : Nat) (x : Str) (ps : List Str) (sp : Sp) : Prop :=
  ∃ f fd, FnG P w K mg base k f fd ps sp ∧ mg x = some (.ref f) ∧ PySem.W.keepIn K (.ref f) = true ∧ Binds K fd ps []
theorem okG_of {P : Program} {w : World} {K : PySem.W.Frag} {mg : Str → Option Value} {base : Heap} {x : Str} {st : Stmt} {N ps : List Str} {k : Nat} {sp : Sp} (D : DefAt K mg x st) (S : FnScope N ps (defScope st)) (cnt : ∀ vs H Q E, sp vs H Q E → vs.length = ps.length)
    (hb : ∀ (kV doc pm : Value) (an : Option Addr) (cdv ct : Value) (us : List Value), us.length = ps.length → bindArgs (PySem.W.fnOf x x (defArgs st) (defBody st) (defScope st) .none kV doc pm an cdv ct) ⟨us, []⟩ = pure (ps.zip us))
    (body : ∀ (f : Addr) (cdv : Value) (A : Around) (out : List Env) (s : Shared) (H : Hp) (vs : List V) (Q : VK) (E : XK), Room k (A.deeper (envOfC x (defScope st) s.heap.objs.size f cdv)) → A.guards = some [] → sp vs H Q E →
      ∃ t, PSs (cxOf CX0 P w K mg base N x (defScope st) f cdv A out s H E).nox (defBody st) t ∧ t { nx := fun _ H' => Q .non H', rt := Q } (start N vs) H) :
    OkG P w K mg base (k + 1) x ps sp := by
  obtain ⟨f, fd, F, g⟩ := D
  exact ⟨f, fd, fnG_of F S cnt fun cdv A out s H vs Q E hr gg hs => let ⟨t, h, q⟩ := body f cdv A out s H vs Q E hr gg hs; ⟨t, h.nox, q⟩, g, F.kp, F.bindsN hb⟩
section
variable {X : Cx} {k : Nat} {ps : List Str} {sp : Sp} {x : Str} {p pos : Pos} {e : Expr} {es : List Expr} {t : TA}
theorem pe_fG (F : OkG X.prog X.w X.K X.mg X.base k x ps sp) (hr : Room k X.A) (gg : X.A.guards = some []) (ha : PA X (e :: es) t) (hg : Gl X x := by rfl) (hdb : (x == ("__debug__" : Str)) = false := by decide)
    (he : starEach (e :: es) X.env = (false, eval e X.env) :: starEach es X.env := by rfl) (hpl : (backTo pos (starEach es X.env)).any (·.1) = false := by rfl) :
    PE X (.Call (.Name x p) (e :: es) [] pos) (tCall sp [] E0 t) := by
  obtain ⟨f, fd, F, g, kp, bi⟩ := F
  refine ⟨fun pins s σ H Q I h => ?_⟩
  refine wpAny_Call_Name_kw (ld_glob I hg g ?_ hdb)
  refine PySem.W.callWith_K (h₀ := X.base) I.ok.mod.kin kp (thn (ha.run pos pins s σ H _ I h) fun us s1 ⟨vs, H1, I1, rv, q⟩ => ⟨I1.kIn, ?_⟩) he hpl
  have q : sp (vs ++ []) H1 Q E0 := q
  rw [List.append_nil] at q
  have cl : (us ++ []).length = ps.length := by rw [List.append_nil, ← rv.length]; exact F.cnt _ _ _ _ q
  have bt := bi s1 us I1.kIn cl
  rw [List.append_nil] at bt
  refine wpAny_call (codeAny_mono (F.go X.A X.stack s1 H1 ⟨us, []⟩ us vs Q E0 hr gg I1.env0 bt rv q) fun r s' h' => ?_)
  cases r with
  | error e => exact pass0 pins σ H1 s1 e s' I1 h'
  | ok fl =>
    cases fl with
    | ret u => exact I1.after h'
    | _ => exact h'.elim
/-- f(k = e): by the name alone -/
theorem pe_fW {q : Str} {kp : Pos} {te : TE} (F : OkW X.prog X.w X.K X.mg X.base k x q sp) (hr : Room k X.A) (ha : PE X e te) (hg : Gl X x := by rfl) (hdb : (x == ("__debug__" : Str)) = false := by decide)
    (hall : (backToKw pos (keywordEach [⟨some q, e, kp⟩] X.env)).all (·.1.isSome) = true := by rfl) (hks : (backToKw pos (keywordEach [⟨some q, e, kp⟩] X.env)).filterMap (·.1) = [q] := by rfl)
    (hpl : ((backTo pos (starEach [] X.env)).any (·.1) || (backToKw pos (keywordEach [⟨some q, e, kp⟩] X.env)).any (·.1.isNone)) = false := by rfl) :
    PE X (.Call (.Name x p) [] [⟨some q, e, kp⟩] pos) (tCall sp [] E0 (tCons te tNil)) := by
  obtain ⟨f, fd, F, g, kin, bi, bw⟩ := F
  refine ⟨fun pins s σ H Q I h => ?_⟩
  refine wpAny_Call_Name_kw (ld_glob I hg g ?_ hdb)
  refine PySem.W.callWith_KW0 (h₀ := X.base) I.ok.mod.kin kin hall ?_ hpl
  refine thn ((pk_cons (nm := some q) (kpos := kp) ha pk_nil).run pos pins s σ H _ I h) fun ws s2 ⟨zs, H2, I2, rz, h2⟩ => ⟨I2.kIn, ?_⟩
  rw [hks]
  have h2 : sp (zs ++ []) H2 Q E0 := h2
  rw [List.append_nil] at h2
  have cl := F.len _ _ _ _ h2
  obtain ⟨z, rfl⟩ : ∃ z, zs = [z] := by
    match zs, cl with
    | [z], _ => exact ⟨z, rfl⟩
  obtain ⟨u, rfl, ru⟩ := vals1 rz
  refine wpAny_call (codeAny_mono (F.run X.A X.stack s2 H2 ⟨[], [q].zip [u]⟩ [u] [z] Q E0 hr I2.env0 (bw s2 u) rz h2) fun r s' h' => ?_)
  cases r with
  | error e => exact pass0 pins σ H2 s2 e s' I2 h'
  | ok fl =>
    cases fl with
    | ret u => exact I2.after h'
    | _ => exact h'.elim
/-- repr(..) of shown data -/
def rRepr (K : PySem.W.Frag) : List V → Hp → VK → Prop := fun xs H Q => ∃ (a : Addr) (d : PyData), xs = [.ref a] ∧ Dp K H (.ref a) d ∧ d.showable = true ∧ d.hasDict = false ∧ d.shown.length ≤ sizeLine ∧ d.depth ≤ 10 ∧ Q (.str d.shown) H
theorem call_reprG (gg : X.A.guards = some []) (hr : Room k X.A) : CallR X (.builtin "repr") (rRepr X.K) := by
  intro pins s σ H xs us Q I r h
  obtain ⟨a, d, rfl, hd, sh, nd, sz, dp, q⟩ := h
  obtain ⟨u, rfl, ru⟩ := vals1 r
  cases ru
  obtain ⟨as, rd⟩ := Dp.reads I d _ _ hd (show RelV (.ref a) (.ref a) from rfl)
  have un := hr.un
  exact repr_of_reads' rd sh (fun h => by rw [nd] at h; cases h) gg (by omega) (fun _ _ h => h) (fun h' u tk kp => ⟨.str d.shown, H, I.kept kp, ⟨u, rfl⟩, q⟩) sz
end
end K33
/-! text Se -/
set_option Elab.async false
set_option linter.all false
set_option maxRecDepth 100000
set_option maxHeartbeats 4000000
namespace K33
open PySem PySem.Spec PyProof.Rows L2 Evl K33G
section
variable {P : Program} {w : World} {K : PySem.W.Frag} {mg : Str → Option Value} {base : Heap} {σ : L2.St} {H : Hp} {te tl ta : TE} {D : Ends} {g : TG} {tu tz : TS}
theorem s_forPX {R : List V → Prop} (h : EvP te σ H (fun v H' => ∃ l xs, v = .ref l ∧ H l = none ∧ H' l = some (.lst xs) ∧ R xs)) (Pv : Addr → List V → Nat → L2.St → Hp → Prop) (h0 : ∀ p xs H1, H p = none → Ex H H1 → H1 p = some (.lst xs) → R xs → Pv p xs 0 σ H1) (hl : ∀ p xs i σ' H', i ≤ xs.length → Pv p xs i σ' H' → SqL K H' p xs)
    (hs : ∀ p xs i x σ' H', R xs → xs[i]? = some x → Pv p xs i σ' H' → g x σ' H' fun σ2 H2 => tu { D with nx := Pv p xs (i + 1), ct := Pv p xs (i + 1), bk := D.nx } σ2 H2) (hd : ∀ p xs σ' H', Pv p xs xs.length σ' H' → D.nx σ' H') : tFor (iList K te) g tu D σ H :=
  h H (Ex.refl H) _ fun v H1 e ⟨p, xs, hv, hp, h1, hR⟩ => ⟨p, hv, ⟨xs, sq_of h1⟩, for_list (Pv p xs) (h0 p xs H1 hp e h1 hR) (hl p xs) (fun i x σ' H' hx q => hs p xs i x σ' H' hR hx q) (hd p xs)⟩
theorem q_forPX {R : List V → Prop} (h : EvP te σ H (fun v H' => ∃ l xs, v = .ref l ∧ H l = none ∧ H' l = some (.lst xs) ∧ R xs)) (Pv : Addr → List V → Nat → L2.St → Hp → Prop) (h0 : ∀ p xs H1, H p = none → Ex H H1 → H1 p = some (.lst xs) → R xs → Pv p xs 0 σ H1) (hl : ∀ p xs i σ' H', i ≤ xs.length → Pv p xs i σ' H' → SqL K H' p xs)
    (hs : ∀ p xs i x σ' H', R xs → xs[i]? = some x → Pv p xs i σ' H' → g x σ' H' fun σ2 H2 => tu { D with nx := Pv p xs (i + 1), ct := Pv p xs (i + 1), bk := tz D } σ2 H2) (hd : ∀ p xs σ' H', Pv p xs xs.length σ' H' → tz D σ' H') : tSeq (tFor (iList K te) g tu) tz D σ H :=
  s_forPX (D := { D with nx := tz D }) h Pv h0 hl hs hd
def lessA (r : Option (List Nat)) (v : List Nat) : Bool := match r with
  | none => true
  | some w => decide (v.length < w.length ∨ (v.length = w.length ∧ v < w))
theorem lx_of : ∀ {v w : List Nat}, v.length = w.length → v < w → lx v w
  | [], [], _, h => absurd h (List.lt_irrefl _)
  | [], _ :: _, e, _ => by cases e
  | _ :: _, [], e, _ => by cases e
  | a :: v, b :: w, e, h => by
    rcases List.cons_lt_cons_iff.mp h with h | ⟨h1, h2⟩
    · exact .inl h
    · exact .inr ⟨h1, lx_of (by simpa using e) h2⟩
/-- the answer as data -/
def ansD : Option (List Nat) → PyData
  | some w => .str (txt w)
  | none => .none
theorem dp_ans {r : Option (List Nat)} : Dp K H (ansV r) (ansD r) := by
  cases r with
  | none => exact .non
  | some w => exact .str _
def shownA (r : Option (List Nat)) (b : Bool) : Str := (PyData.list [ansD r, .bool b]).shown
theorem ev_reprA {r : Option (List Nat)} {b : Bool} (h : EvL tl σ H [ansV r, .bl b]) (hw : ∀ w, r = some w → w.length ≤ 500 ∧ ∀ c ∈ w, c ∈ lets) : Ev (tCB (rRepr K) (tCons tl tNil)) σ H (.str (shownA r b)) := fun H1 e Q q => h H1 e _ fun p H2 hp e2 h2 => by
  refine ⟨p, .list [ansD r, .bool b], rfl, .lst (sq_of h2) (.cons dp_ans (.cons (.bl b) .nil)), ?_, ?_, ?_, ?_, q H2 e2⟩
  · cases r <;> rfl
  · cases r <;> rfl
  · have hb : (if b then "True" else "False" : Str).length ≤ 5 := by cases b <;> decide +kernel
    have ha : (ansD r).shown.length ≤ 6000 := by
      cases r with
      | none => exact Nat.le_trans (by decide +kernel : ("None" : Str).length ≤ 6) (by omega)
      | some w =>
        obtain ⟨h1, h2⟩ := hw w rfl
        have h3 := StrLaws.reprText_len (txt w) fun c hc => by
          have h4 : ∀ c ∈ lets, c < 16 ^ 8 := by decide +kernel
          exact h4 c (h2 c hc)
        rw [txt_len] at h3
        show (reprText (txt w)).length ≤ 6000
        omega
    show ((((("[" : Str) ++ Str.empty ++ (ansD r).shown) ++ (", " : Str)) ++ (if b then "True" else "False" : Str)) ++ ("]" : Str)).length ≤ sizeLine
    rw [strLen_append, strLen_append, strLen_append, strLen_append, strLen_append, show ("[" : Str).length = 1 from rfl, show Str.empty.length = 0 from rfl, show (", " : Str).length = 2 from rfl, show ("]" : Str).length = 1 from rfl, sizeLine_eq]
    omega
  · cases r <;> simp [ansD, PyData.depth, PyData.depthAll]
theorem ev_find {d : Addr} {rows' : List Row} {s : Nat} {bs l : List Nat} {m : Nat} {go : Nat → Nat → Nat} {ml : List Nat} {r : Option (List Nat)} (ha : Ev ta σ H (.ref d)) (hG : GateAt K mg H d rows' s bs l m go ml) (hr : Ans l (langP go ml) (goodP rows' s bs) r) : Ev (tCall (spFind K mg) [] E0 (tCons ta tNil)) σ H (ansV r) :=
  ev_callV (ea_cons ha ea_nil) fun H1 e Q q E => ⟨d, rows', s, bs, l, m, go, ml, rfl, hG.mono e, fun r' hr' H2 e2 => by
    rw [hr'.uniq hr]
    exact q H2 e2⟩
theorem ev_wide {d : Addr} {rows' : List Row} {s : Nat} {bs l : List Nat} {m : Nat} {go : Nat → Nat → Nat} {ml : List Nat} {r : Option (List Nat)} (ha : Ev ta σ H (.ref d)) (hG : GateAt K mg H d rows' s bs l m go ml) (hr : Ans l (langP go ml) (goodP rows' s bs) r) : Ev (tCall (spWide K mg) [] E0 (tCons ta tNil)) σ H (.bl r.isNone) :=
  ev_callV (ea_cons ha ea_nil) fun H1 e Q q E => ⟨d, rows', s, bs, l, m, go, ml, rfl, hG.mono e, fun r' hr' H2 e2 => by
    rw [hr'.uniq hr]
    exact q H2 e2⟩
/-- all that the law's check of a door wants -/
structure GRt (K : PySem.W.Frag) (mg : Str → Option Value) (H : Hp) (d p b t : Addr) : Prop where
  all : ∃ (rows rows' : List Row) (s : Nat) (bs l : List Nat) (m : Nat) (go : Nat → Nat → Nat) (ml : List Nat) (n : Nat) (go0 : Nat → Nat → Nat) (mem : List Nat) (U : List Pst), GateAt K mg H d rows' s bs l m go ml ∧ RowsL K H p rows ∧ GoodR rows ∧ goes rows' = goes rows ∧ rows'.length = rows.length ∧ SqL K H b (bs.map nv) ∧ MchAt K H t l n go0 mem ∧ MOk l n go0 mem ∧
    (∀ ws : List Nat, (∀ c ∈ ws, c ∈ l) → (run go 0 ws ∈ ml ↔ run go0 0 ws ∈ mem)) ∧ U.length ≤ 499 ∧ ∀ w, Val l (pS0 (goes rows) rows.length s) (pOpn go0 (lvOf l n go0 mem)) (pNx (goes rows) rows.length go0) w → pst (pS0 (goes rows) rows.length s) (pNx (goes rows) rows.length go0) w ∈ U
theorem GRt.mono {H H' : Hp} {d p b t : Addr} (h : GRt K mg H d p b t) (e : Ex H H') : GRt K mg H' d p b t := by
  obtain ⟨rows, rows', s, bs, l, m, go, ml, n, go0, mem, U, h1, h2, h3, h4, h5, h6, h7, h8⟩ := h
  exact ⟨rows, rows', s, bs, l, m, go, ml, n, go0, mem, U, h1.mono e, h2.mono e, h3, h4, h5, ex_l e h6, h7.mono e, h8⟩
def spGate (K : PySem.W.Frag) (mg : Str → Option Value) : Sp := fun vs H Q _ => ∃ (d p b t : Addr), vs = [.ref d, .ref p, .ref b, .ref t] ∧ GRt K mg H d p b t ∧ RetV (.bl true) H Q
abbrev N_law_gate_right : List Str := ["_law_gate", "_law_rows", "_law_after", "_law_machine", "_law_due", "_law_note"]
theorem sc_law_gate_right : FnScope N_law_gate_right ["_law_gate", "_law_rows", "_law_after", "_law_machine"] (defScope (top 77)) := ⟨rfl, rfl, rfl, by decide +kernel, rfl, by decide +kernel, by decide +kernel⟩
theorem ok_law_gate_right (T : Txt K mg) (G : TxtG K mg) : OkG P w K mg base 9 "_law_gate_right" ["_law_gate", "_law_rows", "_law_after", "_law_machine"] (spGate K mg) := by
  refine okG_of T.law_gate_right sc_law_gate_right (fun vs H Q E h => ?_) (fun _ _ _ _ _ _ us hl => match us, hl with | [_, _, _, _], _ => rfl) (fun f cdv A outer s0 H vs Q E hr gg h => ?_)
  · obtain ⟨_, _, _, _, rfl, _⟩ := h
    rfl
  · obtain ⟨d, p, b, t, rfl, hA, k⟩ := h
    refine ⟨_, (pss_cons (ps_set (i := 4) sc_law_gate_right.nd rfl (Or.inl rfl) (pe_f (ok_law_lacking T) (hr.mono (by decide)) (pa_cons (pv 1) (pa_cons (pe_state T (hr.mono (by decide)) (pv 0)) (pa_cons (pv 2) (pa_cons (pv 3) pa_nil))))))
 (pss_cons (ps_if (pt_cmpR op_ne (pe_callB (r := rRepr K) (call_reprG gg hr) (by rfl) T.repr (by decide +kernel) (pa_cons (pe_lst (pa_cons (pe_f (ok_find_unwritable T G) (hr.mono (by decide)) (pa_cons (pv 0) pa_nil)) (pa_cons (pe_f (ok_is_wide T G) (hr.mono (by decide)) (pa_cons (pv 0) pa_nil)) pa_nil))) pa_nil)) (pe_callB (r := rRepr K) (call_reprG gg hr) (by rfl) T.repr (by decide +kernel) (pa_cons (pe_lst (pa_cons (pv 4) (pa_cons (pe_cmp (pc_isN (pv 4)) rfl) pa_nil))) pa_nil)) (nomark _))
 (pss_one (ps_ret pe_bl))
 pss_nil)
 (pss_cons (ps_if (PW.pt (pw_and (pt_cmp (pc_notN (pv 4)) rfl) (pw_and1 (PW.pt (pw_or (pt_not (pt_val (pe_f (ok_law_belongs T) (hr.mono (by decide)) (pa_cons (pv 3) (pa_cons (pv 4) pa_nil))))) (pw_or1 (pt_val (pe_f (ok_is_writable T) (hr.mono (by decide)) (pa_cons (pv 0) (pa_cons (pv 4) pa_nil))))))))))
 (pss_one (ps_ret pe_bl))
 pss_nil)
 (pss_cons (ps_for PassesOwn.never rfl (pi_listK (K := K) (pe_f (ok_law_texts T) (hr.mono (by decide)) (pa_cons (pe_ix (r := rIxT K) ix_tup (pv 3) pe_int (fun _ _ => rfl)) (pa_cons (pe_ifExp (pt_cmpR op_gt (pe_callB call_len (by rfl) T.len (by decide +kernel) (pa_cons (pe_ix (r := rIxT K) ix_tup (pv 3) pe_int (fun _ _ => rfl)) pa_nil)) pe_int (nomark _)) pe_int pe_int) pa_nil)))) (pg_name (i := 5) sc_law_gate_right.nd rfl (Or.inl rfl))
 (pss_one (ps_if (PW.pt (pw_and (pt_val (pe_f (ok_law_belongs T) (hr.mono (by decide)) (pa_cons (pv 3) (pa_cons (pv 5) pa_nil)))) (pw_and (PW.pt (pw_or (pt_cmp (pc_isN (pv 4)) rfl) (pw_or1 (pt_val (pe_f (ok_law_less T) (hr.mono (by decide)) (pa_cons (pv 5) (pa_cons (pv 4) pa_nil))))))) (pw_and1 (pt_not (pt_val (pe_f (ok_is_writable T) (hr.mono (by decide)) (pa_cons (pv 0) (pa_cons (pv 5) pa_nil)))))))))
 (pss_one (ps_ret pe_bl))
 pss_nil)))
 (pss_one (ps_ret (pe_cmpR op_eq (pe_callB (r := rRepr K) (call_reprG gg hr) (by rfl) T.repr (by decide +kernel) (pa_cons (pe_lst (pa_cons (pe_fW (okw_find_unwritable T G) (hr.mono (by decide)) (pv 0)) (pa_cons (pe_fW (okw_is_wide T G) (hr.mono (by decide)) (pv 0)) pa_nil))) pa_nil)) (pe_callB (r := rRepr K) (call_reprG gg hr) (by rfl) T.repr (by decide +kernel) (pa_cons (pe_lst (pa_cons (pv 4) (pa_cons (pe_cmp (pc_isN (pv 4)) rfl) pa_nil))) pa_nil)) (nomark _)))))))), ?_⟩
    obtain ⟨rows, rows', s, bs, l, m, go, ml, n, go0, mem, U, hG, hRL, gd, ge, le, hb, hM, ok, same, hU, inU⟩ := hA
    have hG0 := hG
    obtain ⟨a, L, hD, hRd, hLg⟩ := hG0.at_
    have hs : s < rows.length := le ▸ hG0.hs
    have lok := ok.lok
    have l4 := lok.four
    refine q_asgP (P := fun v _ => ∃ r, v = ansV r ∧ Ans l (langP go0 mem) (goodP rows s bs) r ∧ ∀ w, r = some w → w.length ≤ 500) (evp_call (ea_of (ea_cons (ev_var rfl) (ea_cons (ev_state (ev_var rfl) hD) (ea_cons (ev_var rfl) (ea_cons (ev_var rfl) ea_nil))))) fun vs H1 e1 hv => ?_) fun v H1 e1 ⟨r, hv, hr, hrl⟩ => ?_
    · subst hv
      exact fun H2 e2 Q' q' E => ⟨p, b, t, s, rows, l, n, go0, mem, bs, U, rfl, hRL.mono (e1.trans e2), gd, hs, ex_l (e1.trans e2) hb, hM.mono (e1.trans e2), ok, hU, inU, fun r hr hl H3 e3 => q' _ H3 e3 ⟨r, rfl, hr, hl⟩⟩
    subst hv
    have hr' : Ans l (langP go ml) (goodP rows' s bs) r := hr.congr (fun w hw => (same w hw).symm) fun w _ => by
      unfold goodP
      rw [ge, le]
    have hrl2 : ∀ w, r = some w → w.length ≤ 500 ∧ ∀ c ∈ w, c ∈ lets := fun w hw => ⟨hrl w hw, fun c hc => lok.ins c (by
      rw [hw] at hr
      exact hr.1 c hc)⟩
    have hG1 := hG.mono e1
    have hD1 := hD.mono e1
    have hM1 := hM.mono e1
    have isN : decide (ansV r = .non) = r.isNone := by
      cases r with
      | none => exact decide_eq_true rfl
      | some w => exact decide_eq_false fun h => by cases h
    let lang := langP go0 mem
    refine q_when (b := false) (et_is (et_test (ev_op (ev_reprA (r := r) (b := r.isNone) (el_lst (ea_cons (ev_find (ev_var rfl) hG1 hr') (ea_cons (ev_wide (ev_var rfl) hG1 hr') ea_nil)) (by simp)) hrl2) (ev_reprA (r := r) (b := r.isNone) (el_lst (ea_cons (ev_var rfl) (ea_cons (ev_is (ev_isN (ev_var rfl)) (by rw [isN])) ea_nil)) (by simp)) hrl2) (rv_ne rfl))) (by simp)) (fun hb => by cases hb) fun _ H2 e2 => ?_
    have hG2 := hG1.mono e2
    have hD2 := hD1.mono e2
    have hM2 := hM1.mono e2
    have e12 := e1.trans e2
    have writ : ∀ {ta tb : TE} {σ : L2.St} {H' : Hp} {v : List Nat}, Ex H H' → Ev ta σ H' (.ref d) → Ev tb σ H' (.str (txt v)) → v.length ≤ 500 → (∀ c ∈ v, c ∈ l) → Ev (tCall (spWritable K mg) [] E0 (tCons ta (tCons tb tNil))) σ H' (.bl (meet (lastL (goes rows) rows.length s v) bs)) := fun {ta tb σ H' v} eH h1 h2 h3 h4 =>
      ev_callV (ea_cons h1 (ea_cons h2 ea_nil)) fun H3 e3 Q' q' E => ⟨d, a, L, s, bs, v, rows', rfl, hD.mono (eH.trans e3), hRd.mono (eH.trans e3), hG0.gd, hG0.hs, by omega, fun c hc => lok.ins c (h4 c hc), by rw [ge, le]; exact q'⟩
    have bel : ∀ {ta tb : TE} {σ : L2.St} {H' : Hp} {v : List Nat}, Ex H H' → Ev ta σ H' (.ref t) → Ev tb σ H' (.str (txt v)) → (∀ c ∈ v, c ∈ l) → Ev (tCall (spLBelongs K) [] E0 (tCons ta (tCons tb tNil))) σ H' (.bl (decide (run go0 0 v ∈ mem))) := fun {ta tb σ H' v} eH h1 h2 h4 =>
      ev_callV (ea_cons h1 (ea_cons h2 ea_nil)) fun H3 e3 Q' q' E => ⟨t, v, l, n, go0, mem, rfl, hM.mono (eH.trans e3), ok, h4, q'⟩
    refine q_when (b := false) ?_ (fun hb => by cases hb) fun _ H3 e3 => ?_
    · cases hrr : r with
      | none =>
        subst hrr
        exact et_is (et_and (b := false) (et_B (ev_notN (ev_var rfl))) fun h => by cases h) rfl
      | some w =>
        rw [hrr] at hr
        obtain ⟨h1, h2, h3, h4⟩ := hr
        have h2 : run go0 0 w ∈ mem := h2
        have h3 : meet (lastL (goes rows) rows.length s w) bs = false := Bool.not_eq_true _ ▸ h3
        subst hrr
        exact et_is (et_and (et_B (ev_notN (ev_var rfl))) fun _ => et_or (et_not (et_test (bel e12 (ev_var rfl) (ev_var rfl) h1))) fun _ => et_test (writ e12 (ev_var rfl) (ev_var rfl) (hrl w rfl) h1)) (by rw [h3, decide_eq_true h2]; rfl)
    have e13 := e12.trans e3
    obtain ⟨mp, mq, ht, _⟩ := hM
    let cap := if 2 < l.length then 4 else 5
    have hcap : cap ≤ 5 := by show (if 2 < l.length then 4 else 5) ≤ 5; split <;> omega
    refine q_forPX (R := fun xs => ∃ ws : List (List Nat), xs = ws.map (fun w => V.str (txt w)) ∧ ∀ w ∈ ws, (∀ c ∈ w, c ∈ l) ∧ w.length ≤ cap) (evp_call (ea_of (vs := [.str (txt l), nv cap]) (ea_cons (ev_op (ev_var rfl) ev_c (rv_ixT (i := 0) (ex_t e13 ht) rfl)) (ea_cons (ev_is (ev_if (v := nv cap) (b := decide (((l.length : Nat) : Int) > 2)) (et_test (ev_op (ev_lenV (n := l.length) (ev_op (ev_var rfl) ev_c (rv_ixT (i := 0) (ex_t e13 ht) rfl)) fun _ _ => by rw [← txt_len]; exact lenV_str (by rw [txt_len]; omega)) ev_c rv_I0)) (fun h => ev_is ev_c ?_) fun h => ev_is ev_c ?_) rfl) ea_nil))) fun vs H4 e4 hv => ?_)
      (fun q xs i σ' H' => ∃ u : Option V, σ' = [some (.ref d), some (.ref p), some (.ref b), some (.ref t), some (ansV r), u] ∧ Ex H3 H' ∧ H' q = some (.lst xs)) (fun q xs H4 hq e4 h4 _ => ⟨none, rfl, e4, h4⟩) (fun q xs i σ' H' _ ⟨_, _, _, h⟩ => sq_of h) (fun q xs i x σ' H' hR hx hP => ?_) fun q xs σ' H' hP => ?_
    · have h := of_decide_eq_true h
      show V.int 4 = nv (if 2 < l.length then 4 else 5)
      rw [if_pos (by omega)]
      rfl
    · have h := of_decide_eq_false h
      show V.int 5 = nv (if 2 < l.length then 4 else 5)
      rw [if_neg (by omega)]
      rfl
    · subst hv
      exact fun H5 e5 Q' q' E => ⟨l, cap, rfl, l4, hcap, fun q H6 ws e6 h1 h2 _ h3 => q' _ H6 e6 ⟨q, _, rfl, fresh_back (e4.trans e5) h1, h2, ws, rfl, h3⟩⟩
    · obtain ⟨u, rfl, eH, hq⟩ := hP
      obtain ⟨ws, rfl, hws⟩ := hR
      obtain ⟨v, hv, rfl⟩ : ∃ v, ws[i]? = some v ∧ V.str (txt v) = x := by
        rw [List.getElem?_map] at hx
        cases hv : ws[i]? with
        | none => rw [hv] at hx; cases hx
        | some v => rw [hv] at hx; exact ⟨v, rfl, Option.some.inj hx⟩
      obtain ⟨v1, v2⟩ := hws v (List.mem_of_getElem? hv)
      have e1H := e13.trans eH
      refine s_when (b := false) (et_is (et_and (et_test (bel e1H (ev_var rfl) (ev_var rfl) v1)) fun hin => et_and (b := !meet (lastL (goes rows) rows.length s v) bs) (et_or (a := r.isNone) (b := lessA r v) (et_B (ev_is (ev_isN (ev_var rfl)) (by rw [isN]))) fun hn => ?_) fun _ => et_not (et_test (writ e1H (ev_var rfl) (ev_var rfl) (by omega) v1))) ?_) (fun hb => by cases hb) fun _ H5 e5 => ⟨_, rfl, eH.trans e5, e5 _ _ hq⟩
      · cases hrr : r with
        | none => rw [hrr] at hn; cases hn
        | some w =>
          have := hrl w hrr
          subst hrr
          exact et_test (ev_callV (ea_cons (ev_var rfl) (ea_cons (ev_var rfl) ea_nil)) fun H6 e6 Q' q' E => ⟨v, w, rfl, by omega, by omega, q'⟩)
      · by_cases hin : run go0 0 v ∈ mem
        · rw [decide_eq_true hin, Bool.true_and]
          cases hrr : r with
          | none =>
            rw [hrr] at hr
            have : meet (lastL (goes rows) rows.length s v) bs = true := hr v v1 hin
            rw [this]
            rfl
          | some w =>
            rw [hrr] at hr
            simp only [Option.isNone_some, Bool.false_or, lessA]
            by_cases hlt : v.length < w.length ∨ (v.length = w.length ∧ v < w)
            · rw [decide_eq_true hlt, Bool.true_and]
              have : meet (lastL (goes rows) rows.length s v) bs = true := Decidable.byContradiction fun hg => hr.2.2.2 v v1 hin hg (hlt.imp_right fun h => ⟨h.1, lx_of h.1 h.2⟩)
              rw [this]
              rfl
            · rw [decide_eq_false hlt, Bool.false_and]
        · rw [decide_eq_false hin, Bool.false_and]
    · obtain ⟨u, rfl, eH, hq⟩ := hP
      have e1H := e13.trans eH
      have hGH := hG.mono e1H
      exact s_ret (v := .bl true) (ev_is (ev_op (ev_reprA (r := r) (b := r.isNone) (el_lst (ea_cons (ev_find (ev_var rfl) hGH hr') (ea_cons (ev_wide (ev_var rfl) hGH hr') ea_nil)) (by simp)) hrl2) (ev_reprA (r := r) (b := r.isNone) (el_lst (ea_cons (ev_var rfl) (ea_cons (ev_is (ev_isN (ev_var rfl)) (by rw [isN])) ea_nil)) (by simp)) hrl2) (rv_eq rfl)) (by simp)) fun H5 e5 => k H5 (e1H.trans e5)
end
end K33
/-! text Dr -/
set_option Elab.async false
set_option linter.all false
set_option maxRecDepth 100000
set_option maxHeartbeats 4000000
/-! expressions that draw: the generator's list at r is rewritten, all else only grows -/
namespace K33
open PySem PySem.Spec PyProof.Rows L2 Evl K33G
/-- a generator's list -/
def Rg (r : Addr) (H : Hp) : Prop := ∃ i j : Int, H r = some (.lst [.int i, .int j]) ∧ 0 ≤ i ∧ 0 ≤ j ∧ j < 2147483563
def Xr (r : Addr) (H H' : Hp) : Prop := Ex (del r H) H' ∧ Rg r H'
section
variable {r p q : Addr} {H H1 H2 H3 H' : Hp} {o : HO}
theorem Rg.ne (h : Rg r H) (hp : H p = none) : p ≠ r := fun z => by
  obtain ⟨i, j, h, _⟩ := h
  rw [z, h] at hp
  cases hp
theorem Rg.mono (h : Rg r H) (e : Ex H H') : Rg r H' := by
  obtain ⟨i, j, h, h2⟩ := h
  exact ⟨i, j, e _ _ h, h2⟩
theorem Rg.del (h : Rg r H) (n : q ≠ r) : Rg r (del q H) := by
  obtain ⟨i, j, h, h2⟩ := h
  exact ⟨i, j, by rw [del_ne n.symm]; exact h, h2⟩
theorem Rg.some (h : Rg r H) : H r ≠ none := by
  obtain ⟨i, j, h, _⟩ := h
  rw [h]
  exact Option.some_ne_none _
theorem Xr.refl (h : Rg r H) : Xr r H H := ⟨del_le, h⟩
theorem Xr.of (e : Ex H H') (h : Rg r H) : Xr r H H' := ⟨del_le.trans e, h.mono e⟩
theorem Xr.ex (e : Xr r H H') : Ex (del r H) (del r H') := ex_del e.1 del_same
theorem Xr.trans (a : Xr r H H1) (b : Xr r H1 H2) : Xr r H H2 := ⟨a.ex.trans b.1, b.2⟩
theorem Xr.get (e : Xr r H H') (h : H p = some o) (n : p ≠ r) : H' p = some o := e.1 p o (by rw [del_ne n]; exact h)
theorem Xr.back (e : Xr r H H') (n : p ≠ r) (h : H' p = none) : H p = none := by
  have := fresh_back e.1 h
  rw [del_ne n] at this
  exact this
theorem Xr.del (e : Xr r H H') (n : q ≠ r) : Xr r (K33.del q H) (K33.del q H') := ⟨by
  rw [del_comm]
  exact ex_del (del_le.trans e.1) del_same, e.2.del n⟩
theorem Xr.mut (e : Xr r H H') (hq : H q = none) (n : q ≠ r) : Xr r H (upd H' q o) := ⟨Ex.mut e.1 (by rw [del_ne n]; exact hq), by
  obtain ⟨i, j, h, h2⟩ := e.2
  exact ⟨i, j, by rw [upd_ne n.symm]; exact h, h2⟩⟩
/-- the generator's list rewritten -/
theorem Xr.rng (e : Xr r H H') {i j : Int} (h1 : 0 ≤ i) (h2 : 0 ≤ j) (h3 : j < 2147483563) : Xr r H (upd H' r (.lst [.int i, .int j])) := ⟨Ex.mut e.1 del_same, i, j, upd_same, h1, h2, h3⟩
end
def EvR (r : Addr) (te : TE) (σ : L2.St) (H : Hp) (P : V → Hp → Prop) : Prop := ∀ H1, Xr r H H1 → ∀ Q : VK, (∀ v H2, Xr r H1 H2 → P v H2 → Q v H2) → te σ H1 Q
def EaR (r : Addr) (ta : TA) (σ : L2.St) (H : Hp) (P : List V → Hp → Prop) : Prop := ∀ H1, Xr r H H1 → ∀ Q : List V → Hp → Prop, (∀ v H2, Xr r H1 H2 → P v H2 → Q v H2) → ta σ H1 Q
def EtR (r : Addr) (t : TT) (σ : L2.St) (H : Hp) (P : Bool → Hp → Prop) : Prop := ∀ H1, Xr r H H1 → ∀ Q : Bool → Hp → Prop, (∀ b H2, Xr r H1 H2 → P b H2 → Q b H2) → t σ H1 Q
section
variable {r : Addr} {σ : L2.St} {H : Hp} {te ta tb : TE} {tr : TA} {t : TT} {P Pa : V → Hp → Prop} {Pl : List V → Hp → Prop}
theorem EvR.mono {H' : Hp} (h : EvR r te σ H P) (e : Xr r H H') : EvR r te σ H' P := fun H1 a Q q => h H1 (e.trans a) Q q
theorem EvR.imp {P' : V → Hp → Prop} (h : EvR r te σ H P) (k : ∀ v H', Xr r H H' → P v H' → P' v H') : EvR r te σ H P' := fun H1 a Q q => h H1 a Q fun v H2 e p => q v H2 e (k v H2 (a.trans e) p)
theorem er_of (h : ∀ H1, Xr r H H1 → EvP te σ H1 P) : EvR r te σ H P := fun H1 e Q q => h H1 e H1 (Ex.refl H1) Q fun v H2 e2 p => q v H2 (Xr.of e2 e.2) p
theorem er_v {v : V} (h : ∀ H1, Xr r H H1 → Ev te σ H1 v) : EvR r te σ H (fun x _ => x = v) := er_of fun H1 e => evp_of (h H1 e)
theorem er_var {i : Nat} {v : V} (h : σ[i]? = some (some v)) : EvR r (tVar i) σ H (fun x _ => x = v) := er_v fun _ _ => ev_var h
theorem er_c {v : V} : EvR r (tC v) σ H (fun x _ => x = v) := er_v fun _ _ => ev_c
theorem er_op {r2 : R2} {Pb : V → V → Hp → Prop} (ha : EvR r ta σ H Pa) (hb : ∀ x H1, Xr r H H1 → Pa x H1 → EvR r tb σ H1 (Pb x)) (hr : ∀ x y H1 (Q : VK), Xr r H H1 → Pb x y H1 → (∀ z H2, Xr r H1 H2 → P z H2 → Q z H2) → r2 x y H1 Q) : EvR r (tOp r2 ta tb) σ H P := fun H1 e Q q =>
  ha H1 e _ fun x H2 e2 p2 => hb x H2 (e.trans e2) p2 H2 (Xr.refl e2.2) _ fun y H3 e3 p3 => hr x y H3 Q ((e.trans e2).trans e3) p3 fun z H4 e4 p4 => q z H4 ((e2.trans e3).trans e4) p4
theorem era_nil (h : ∀ H1, Xr r H H1 → Pl [] H1) : EaR r tNil σ H Pl := fun H1 e Q q => q [] H1 (Xr.refl e.2) (h H1 e)
theorem era_cons (ha : EvR r ta σ H Pa) (hr : ∀ x H1, Xr r H H1 → Pa x H1 → EaR r tr σ H1 (fun vs H2 => Pl (x :: vs) H2)) : EaR r (tCons ta tr) σ H Pl := fun H1 e Q q =>
  ha H1 e _ fun x H2 e2 p => hr x H2 (e.trans e2) p H2 (Xr.refl e2.2) _ fun vs H3 e3 p3 => q (x :: vs) H3 (e2.trans e3) p3
theorem era_one (ha : EvR r ta σ H Pa) (h : ∀ x H1, Xr r H H1 → Pa x H1 → Pl [x] H1) : EaR r (tCons ta tNil) σ H Pl := fun H1 e Q q => ha H1 e _ fun x H2 e2 p => q [x] H2 e2 (h x H2 (e.trans e2) p)
theorem era_of (h : ∀ H1, Xr r H H1 → EvAP tr σ H1 Pl) : EaR r tr σ H Pl := fun H1 e Q q => h H1 e H1 (Ex.refl H1) Q fun v H2 e2 p => q v H2 (Xr.of e2 e.2) p
theorem era_v {vs : List V} (h : ∀ H1, Xr r H H1 → EvA tr σ H1 vs) : EaR r tr σ H (fun us _ => us = vs) := era_of fun H1 e => ea_of (h H1 e)
theorem er_call {sp : Sp} {E : XK} (h : EaR r tr σ H Pl) (hs : ∀ vs H1, Xr r H H1 → Pl vs H1 → ∀ (Q : VK) (E : XK), (∀ v H2, Xr r H1 H2 → P v H2 → Q v H2) → sp vs H1 Q E) : EvR r (tCall sp [] E tr) σ H P := fun H1 e Q q =>
  h H1 e _ fun vs H2 e2 p => by
    rw [List.append_nil]
    exact hs vs H2 (e.trans e2) p Q E fun v H3 e3 p3 => q v H3 (e2.trans e3) p3
theorem er_tup (h : EaR r tr σ H Pl) (hm : ∀ vs H1 H2, Ex H1 H2 → Pl vs H1 → Pl vs H2) (hz : ∀ vs H1, Pl vs H1 → vs.length ≤ 1000) : EvR r (tTup tr) σ H (fun v H' => ∃ p vs, v = .ref p ∧ p ≠ r ∧ H p = none ∧ H' p = some (.tup vs) ∧ Pl vs H') := fun H1 e Q q =>
  h H1 e _ fun vs H2 e2 hp => ⟨sz_of (by have := hz vs H2 hp; omega), fun p hn => q _ _ (e2.trans (Xr.of (Ex.new hn) e2.2)) ⟨p, vs, rfl, e2.2.ne hn, (e.trans e2).back (e2.2.ne hn) hn, upd_same, hm _ _ _ (Ex.new hn) hp⟩⟩
theorem er_lst (h : EaR r tr σ H Pl) (hm : ∀ vs H1 H2, Ex H1 H2 → Pl vs H1 → Pl vs H2) (hz : ∀ vs H1, Pl vs H1 → vs.length ≤ 1000) : EvR r (tLst tr) σ H (fun v H' => ∃ p vs, v = .ref p ∧ p ≠ r ∧ H p = none ∧ H' p = some (.lst vs) ∧ Pl vs H') := fun H1 e Q q =>
  h H1 e _ fun vs H2 e2 hp => ⟨sz_of (by have := hz vs H2 hp; omega), fun p hn => q _ _ (e2.trans (Xr.of (Ex.new hn) e2.2)) ⟨p, vs, rfl, e2.2.ne hn, (e.trans e2).back (e2.2.ne hn) hn, upd_same, hm _ _ _ (Ex.new hn) hp⟩⟩
theorem er_cb {rc : List V → Hp → VK → Prop} (h : EaR r tr σ H Pl) (hr : ∀ vs H1 (Q : VK), Xr r H H1 → Pl vs H1 → (∀ z H2, Xr r H1 H2 → P z H2 → Q z H2) → rc vs H1 Q) : EvR r (tCB rc tr) σ H P := fun H1 e Q q =>
  h H1 e _ fun vs H2 e2 p => hr vs H2 Q (e.trans e2) p fun z H3 e3 p3 => q z H3 (e2.trans e3) p3
theorem et_testR {Pb : Bool → Hp → Prop} (h : EvR r te σ H fun v H' => ∃ b, v = .bl b ∧ Pb b H') : EtR r (tTest te) σ H Pb := fun H1 e Q q => h H1 e _ fun v H2 e2 ⟨b, hv, p⟩ => ⟨b, hv, q b H2 e2 p⟩
theorem etr_of {b : Bool} (h : ∀ H1, Xr r H H1 → EvT t σ H1 b) : EtR r t σ H (fun c _ => c = b) := fun H1 e Q q => h H1 e H1 (Ex.refl H1) Q fun H2 e2 => q b H2 (Xr.of e2 e.2) rfl
theorem EaR.imp {P' : List V → Hp → Prop} (h : EaR r tr σ H Pl) (k : ∀ vs H', Xr r H H' → Pl vs H' → P' vs H') : EaR r tr σ H P' := fun H1 a Q q => h H1 a Q fun v H2 e p => q v H2 e (k v H2 (a.trans e) p)
theorem EtR.imp' {Pb Pb' : Bool → Hp → Prop} (h : EtR r t σ H Pb) (k : ∀ b H', Xr r H H' → Pb b H' → Pb' b H') : EtR r t σ H Pb' := fun H1 a Q q => h H1 a Q fun b H2 e p => q b H2 e (k b H2 (a.trans e) p)
theorem er_if {Pb : Bool → Hp → Prop} (h : EtR r t σ H Pb) (h1 : ∀ H1, Xr r H H1 → Pb true H1 → EvR r ta σ H1 P) (h2 : ∀ H1, Xr r H H1 → Pb false H1 → EvR r tb σ H1 P) : EvR r (tIf t ta tb) σ H P := fun H1 e Q q => h H1 e _ fun b H2 e2 p => by
  cases b with
  | true => exact iteT (h1 H2 (e.trans e2) p H2 (Xr.refl e2.2) Q fun v H3 e3 p3 => q v H3 (e2.trans e3) p3)
  | false => exact iteF (h2 H2 (e.trans e2) p H2 (Xr.refl e2.2) Q fun v H3 e3 p3 => q v H3 (e2.trans e3) p3)
variable {D : Ends} {tz tu tw : TS} {g : TG} {Pb : Bool → Hp → Prop}
theorem s_asgR {i : Nat} (hg : Rg r H) (h : EvR r te σ H P) (k : ∀ v H1, Xr r H H1 → P v H1 → D.nx (σ.set i (some v)) H1) : tAsg te (gName i) D σ H := h H (Xr.refl hg) _ k
theorem q_asgR {i : Nat} (hg : Rg r H) (h : EvR r te σ H P) (k : ∀ v H1, Xr r H H1 → P v H1 → tz D (σ.set i (some v)) H1) : tSeq (tAsg te (gName i)) tz D σ H := h H (Xr.refl hg) _ k
theorem s_asgGR (hg : Rg r H) (h : EvR r te σ H P) (k : ∀ v H1, Xr r H H1 → P v H1 → g v σ H1 D.nx) : tAsg te g D σ H := h H (Xr.refl hg) _ k
theorem q_asgGR (hg : Rg r H) (h : EvR r te σ H P) (k : ∀ v H1, Xr r H H1 → P v H1 → g v σ H1 fun σ2 H2 => tz D σ2 H2) : tSeq (tAsg te g) tz D σ H := h H (Xr.refl hg) _ k
theorem s_retR (hg : Rg r H) (h : EvR r te σ H P) (k : ∀ v H1, Xr r H H1 → P v H1 → D.rt v H1) : tRet te D σ H := h H (Xr.refl hg) _ k
theorem s_whenR (hg : Rg r H) (h : EtR r t σ H Pb) (h1 : ∀ H1, Xr r H H1 → Pb true H1 → tu D σ H1) (h2 : ∀ H1, Xr r H H1 → Pb false H1 → tw D σ H1) : tIfS t tu tw D σ H := h H (Xr.refl hg) _ fun b H1 e p => by
  cases b with
  | true => exact iteT (h1 H1 e p)
  | false => exact iteF (h2 H1 e p)
theorem q_whenR (hg : Rg r H) (h : EtR r t σ H Pb) (h1 : ∀ H1, Xr r H H1 → Pb true H1 → tu { D with nx := tz D } σ H1) (h2 : ∀ H1, Xr r H H1 → Pb false H1 → tw { D with nx := tz D } σ H1) : tSeq (tIfS t tu tw) tz D σ H := s_whenR (D := { D with nx := tz D }) hg h h1 h2
theorem q_parR {i j : Nat} {tw : TA} (hg : Rg r H) (h : EaR r tw σ H Pl) (k : ∀ vs H1, Xr r H H1 → Pl vs H1 → ∃ v w, vs = [v, w] ∧ tz D ((σ.set i (some v)).set j (some w)) H1) : tSeq (tPar i j tw) tz D σ H := h H (Xr.refl hg) _ k
theorem s_appR {K : PySem.W.Frag} {l : Addr} {xs : List V} (hg : Rg r H) (hl : H l = some (.lst xs)) (nl : l ≠ r) (ha : Ev ta σ H (.ref l)) (h : EvR r te σ H P) (hz : xs.length < 100000) (k : ∀ v H1, Xr r H H1 → P v H1 → D.nx σ (upd H1 l (.lst (xs ++ [v])))) : tDrop (tBM K "list" rAppend ta (tCons te tNil)) D σ H := ha H (Ex.refl H) _ fun H1 e1 =>
  ⟨Or.inl ⟨rfl, xs, sq_of (e1 l _ hl)⟩, h H1 (Xr.of e1 hg) _ fun v H2 e2 hp => ⟨l, xs, v, rfl, rfl, e2.get (e1 l _ hl) nl, sz_lt hz, k v H2 ((Xr.of e1 hg).trans e2) hp⟩⟩
/-- a walk that no heap can end -/
def IvT (wi : TI) (σ : L2.St) (H : Hp) (n : Nat) (Y : Nat → Hp → V → Hp → Prop) : Prop := ∀ H1, Ex H H1 → ∀ R : It → Hp → Prop, (∀ J H2 G, Ex H1 H2 → Walk J n G Y → (∀ H3, G H3) → R J H2) → wi σ H1 R
theorem ivt_range1 {ta : TA} {n : Nat} (h : EvA ta σ H [.int n]) (hn : n ≤ 100000) : IvT (iRng1 ta) σ H n (YFn fun i => .int (i : Nat)) := fun H1 e R k =>
  h H1 e _ fun H2 e2 => ⟨n, rfl, by omega, by omega, by
    rw [Int.toNat_natCast]
    exact k _ H2 _ e2 (walk_range.mono (fun _ h => h) fun i H x H' _ _ y => ⟨y.1, y.2.trans (by show V.int (0 + (i : Int)) = V.int (i : Int); rw [Int.zero_add])⟩) fun _ => trivial⟩
theorem ivt_str {s : Str} (h : Ev te σ H (.str s)) : IvT (iStr te) σ H s.cps.size (fun i H v H' => H' = H ∧ ∃ c, s.cps[i]? = some c ∧ v = .str ⟨#[c]⟩) := fun H1 e R k =>
  h H1 e _ fun H2 e2 => ⟨s, rfl, k _ H2 _ e2 walk_str fun _ => trivial⟩
theorem er_lc {wi : TI} {vs : List Nat} {n : Nat} {Y : Nat → Hp → V → Hp → Prop} (Pv : Nat → List V → Hp → Prop) (hw : ∀ H1, Xr r H H1 → IvT wi σ H1 n Y) (h0 : ∀ H1, Xr r H H1 → Pv 0 [] H1) (hz : ∀ i acc H1, i < n → Pv i acc H1 → acc.length < 100000)
    (turn : ∀ D i x acc Ha Hb, i < n → H D = none → D ≠ r → Xr r H (del D Ha) → Ha D = some (.lst acc) → Pv i acc (del D Ha) → Y i Ha x Hb → ∀ k : L2.St → Hp → Prop,
      (∀ σ2 H2, Xr r Ha H2 → wipe σ2 vs = wipe σ vs → EtR r t σ2 H2 (fun b H3 => (b = true → EvR r te σ2 H3 fun v H4 => Pv (i + 1) (acc ++ [v]) (del D H4)) ∧ (b = false → Pv (i + 1) acc (del D H3))) → k σ2 H2) → g x (wipe σ vs) Hb k) :
    EvR r (tLc wi g t te vs) σ H (fun v H' => ∃ p acc, v = .ref p ∧ H p = none ∧ p ≠ r ∧ H' p = some (.lst acc) ∧ Pv n acc (del p H')) := fun H0 e Q q => hw H0 e H0 (Ex.refl H0) _ fun J H1 G e1 W hG D hD => by
  have x1 := Xr.of e1 e.2
  have nD := x1.2.ne hD
  have hD0 := (e.trans x1).back nD hD
  refine lc_it W (fun i Hi => ∃ acc, Hi D = some (.lst acc) ∧ Xr r H1 Hi ∧ Pv i acc (del D Hi)) ⟨[], upd_same, (Xr.refl x1.2).mut hD nD, by
      rw [del_upd]
      exact h0 _ ((e.trans x1).trans (Xr.of (ex_del (Ex.refl _) hD) x1.2))⟩ (fun i H' _ _ => hG H') (fun i x Ha Hb hi pp y => ?_) fun H' pp => ?_
  · obtain ⟨acc, g1, g2, g3⟩ := pp
    have ed : Xr r H (del D Ha) := (e.trans x1).trans ⟨ex_del g2.1 (by rw [del_ne nD]; exact hD), g2.2.del nD⟩
    refine turn D i x acc Ha Hb hi hD0 nD ed g1 g3 y _ fun σ2 H2 e2 wp ht => ⟨wp, ?_⟩
    refine ht H2 (Xr.refl e2.2) _ fun b H3 e3 hb => ?_
    have g13 := e3.get (e2.get g1 nD) nD
    cases b with
    | true =>
      refine iteT ?_
      exact hb.1 rfl H3 (Xr.refl e3.2) _ fun v H4 e4 p4 => ⟨acc, e4.get g13 nD, sz_lt (hz i acc _ hi g3), acc ++ [v], upd_same, (((g2.trans e2).trans e3).trans e4).mut hD nD, by rw [del_upd]; exact p4⟩
    | false => exact iteF ⟨acc, g13, (g2.trans e2).trans e3, hb.2 rfl⟩
  · obtain ⟨acc, g1, g2, g3⟩ := pp
    exact q (.ref D) _ (x1.trans g2) ⟨D, acc, rfl, hD0, nD, g1, g3⟩
end
/-! ### frozen things, many at once -/
def frzK : List Addr → (Hp → Prop) → Hp → Prop
  | [], k, H => k H
  | d :: ds, k, H => ∃ u, H d = some u ∧ Mut (some u) ∧ ∀ od, frzK ds k (upd H d (.frz od u))
def tFzA (te : TE) : TE := fun σ H Q => te σ H fun v H1 => ∃ ds, frzK ds (fun H2 => Q v H2) H1
theorem frz_run {X : Cx} {pins : List (Addr × Obj)} {σ : L2.St} {s : Shared} {k : Hp → Prop} : ∀ (ds : List Addr) (H : Hp), Inv X pins σ H s → frzK ds k H → ∃ H', Inv X pins σ H' s ∧ k H'
  | [], H, I, h => ⟨H, I, h⟩
  | d :: ds, H, I, ⟨u, hd, mu, h⟩ => by
    obtain ⟨od, I2⟩ := I.lock hd mu
    exact frz_run ds _ I2 (h od)
theorem pe_fzA {X : Cx} {e : Expr} {t : TE} (h : PE X e t) : PE X e (tFzA t) := by
  refine ⟨fun pins s σ H Q I hw => thn (h.run pins s σ H _ I hw) fun v s1 ⟨x, H1, I1, r, ds, q⟩ => ?_⟩
  obtain ⟨H2, I2, q2⟩ := frz_run ds H1 I1 q
  exact ⟨x, H2, I2, r, q2⟩
end K33
/-! text Ds -/
set_option Elab.async false
set_option linter.all false
set_option maxRecDepth 100000
set_option maxHeartbeats 4000000
namespace K33
open PySem PySem.Spec PyProof.Rows L2 Evl K33G
section
variable {P : Program} {w : World} {K : PySem.W.Frag} {mg : Str → Option Value} {base : Heap} {σ : L2.St} {H : Hp} {te ta tb : TE}
theorem ev_abs {i : Int} (h : Ev te σ H (.int i)) : Ev (tCB (fun xs H Q => ∃ i, xs = [.int i] ∧ Q (.int (if i < 0 then -i else i)) H) (tCons te tNil)) σ H (.int (if i < 0 then -i else i)) := ev_cbV (ea_cons h ea_nil) fun H1 e Q q => ⟨i, rfl, q⟩
theorem ev_int1 {i : Int} (h : Ev te σ H (.int i)) : Ev (tCB (fun xs H Q => (∃ i, xs = [.int i] ∧ Q (.int i) H) ∨ ∃ k, xs = [.bl k] ∧ Q (.int (if k then 1 else 0)) H) (tCons te tNil)) σ H (.int i) := ev_cbV (ea_cons h ea_nil) fun H1 e Q q => .inl ⟨i, rfl, q⟩
theorem ev_max {i j : Int} (ha : Ev ta σ H (.int i)) (hb : Ev tb σ H (.int j)) : Ev (tCB (fun xs H Q => ∃ i j, xs = [.int i, .int j] ∧ Q (.int (if j > i then j else i)) H) (tCons ta (tCons tb tNil))) σ H (.int (if j > i then j else i)) := ev_cbV (ea_cons ha (ea_cons hb ea_nil)) fun H1 e Q q => ⟨i, j, rfl, q⟩
theorem ev_min {i j : Int} (ha : Ev ta σ H (.int i)) (hb : Ev tb σ H (.int j)) : Ev (tCB (fun xs H Q => ∃ i j, xs = [.int i, .int j] ∧ Q (.int (if j < i then j else i)) H) (tCons ta (tCons tb tNil))) σ H (.int (if j < i then j else i)) := ev_cbV (ea_cons ha (ea_cons hb ea_nil)) fun H1 e Q q => ⟨i, j, rfl, q⟩
theorem q_asgGP {g : TG} {tz : TS} {D : Ends} {P : V → Hp → Prop} (h : EvP te σ H P) (k : ∀ v H1, Ex H H1 → P v H1 → g v σ H1 fun σ2 H2 => tz D σ2 H2) : tSeq (tAsg te g) tz D σ H := h H (Ex.refl H) _ k
theorem s_asgGP {g : TG} {D : Ends} {P : V → Hp → Prop} (h : EvP te σ H P) (k : ∀ v H1, Ex H H1 → P v H1 → g v σ H1 D.nx) : tAsg te g D σ H := h H (Ex.refl H) _ k
def spLRng (K : PySem.W.Frag) : Sp := fun vs H Q _ => ∃ (p : Addr) (k : Nat) (ns : List Int), vs = [.ref p, nv k] ∧ SqL K H p (ns.map V.int) ∧ k ≤ 3 ∧ ns.length ≤ 100 ∧ ∀ (r : Addr) (H' : Hp), Ex H H' → H r = none → Rg r H' → Q (.ref r) H'
abbrev N_law_rng : List Str := ["_law_script", "_law_k", "_law_cell"]
theorem sc_law_rng : FnScope N_law_rng ["_law_script", "_law_k"] (defScope (top 60)) := ⟨rfl, rfl, rfl, by decide +kernel, rfl, by decide +kernel, by decide +kernel⟩
theorem ok_law_rng (T : Txt K mg) : Ok P w K mg base 1 "_law_rng" ["_law_script", "_law_k"] (spLRng K) := by
  refine ok_of T.law_rng sc_law_rng (fun vs H Q E h => ?_) (fun _ _ _ _ _ _ us hl => match us, hl with | [_, _], _ => rfl) (fun f cdv A outer s H vs Q E hr h => ?_)
  · obtain ⟨_, _, _, rfl, _⟩ := h
    rfl
  · obtain ⟨p, k, ns, rfl, hp, k3, n1, fin⟩ := h
    refine ⟨_, (pss_cons (ps_set (i := 2) sc_law_rng.nd rfl (Or.inl rfl) (pe_op op_add (pe_op op_mul pe_int (pv 1)) pe_int))
 (pss_cons (ps_if (pt_cmpR op_lt (pv 1) (pe_callB call_len (by rfl) T.len (by decide +kernel) (pa_cons (pv 0) pa_nil)) (nomark _))
 (pss_one (ps_set (i := 2) sc_law_rng.nd rfl (Or.inl rfl) (pe_ix (r := rIxL K) ix_list (pv 0) (pv 1) (fun _ _ => rfl))))
 pss_nil)
 (pss_one (ps_ret (pe_lst (pa_cons (pe_callB (call_max2 rfl) (by rfl) T.max (by decide +kernel) (pa_cons pe_int (pa_cons (pe_op op_sub (pe_callB call_abs (by rfl) T.abs (by decide +kernel) (pa_cons (pv 2) pa_nil)) (pe_op op_pow pe_int pe_int)) pa_nil))) (pa_cons (pe_op op_add (pe_op op_mod (pe_op op_mul (pe_callTy call_int1 (by rfl) T.int (by decide +kernel) (pa_cons (pe_op op_add (pe_op op_mod (pe_callTy call_int1 (by rfl) T.int (by decide +kernel) (pa_cons (pe_callB call_abs (by rfl) T.abs (by decide +kernel) (pa_cons (pv 2) pa_nil)) pa_nil)) pe_int) pe_int) pa_nil)) (pe_op op_pow (pe_op op_add (pe_op op_mul pe_int (pv 1)) pe_int) pe_int)) pe_int) pe_int) pa_nil))))))), ?_⟩
    refine q_asg (v := .int (11 * (k : Int) + 5)) (ev_op (ev_op ev_c (ev_var rfl) (rv_I (by unfold CMul; omega))) ev_c rv_I0) fun H1 e1 => ?_
    have last : ∀ (c : Int) (H2 : Hp), Ex H H2 → tRet (tLst (tCons (tCB (fun xs H Q => ∃ i j, xs = [V.int i, V.int j] ∧ Q (V.int (if j > i then j else i)) H) (tCons (tC (.int 0)) (tCons (tOp (rI0 fun i j => .int (i - j)) (tCB (fun xs H Q => ∃ i, xs = [V.int i] ∧ Q (V.int (if i < 0 then -i else i)) H) (tCons (tVar 2) tNil)) (tOp (rI CPow fun i j => .int (i ^ j.toNat)) (tC (.int 10)) (tC (.int 18)))) tNil)))
        (tCons (tOp (rI0 fun i j => .int (i + j)) (tOp (rI (fun _ j => 0 < j) fun i j => .int (i % j)) (tOp (rI CMul fun i j => .int (i * j)) (tCB (fun xs H Q => (∃ i, xs = [V.int i] ∧ Q (V.int i) H) ∨ ∃ k, xs = [V.bl k] ∧ Q (V.int (if k then 1 else 0)) H) (tCons (tOp (rI0 fun i j => .int (i + j)) (tOp (rI (fun _ j => 0 < j) fun i j => .int (i % j)) (tCB (fun xs H Q => (∃ i, xs = [V.int i] ∧ Q (V.int i) H) ∨ ∃ k, xs = [V.bl k] ∧ Q (V.int (if k then 1 else 0)) H) (tCons (tCB (fun xs H Q => ∃ i, xs = [V.int i] ∧ Q (V.int (if i < 0 then -i else i)) H) (tCons (tVar 2) tNil)) tNil)) (tC (.int 2147483549))) (tC (.int 1))) tNil))
          (tOp (rI CPow fun i j => .int (i ^ j.toNat)) (tOp (rI0 fun i j => .int (i + j)) (tOp (rI CMul fun i j => .int (i * j)) (tC (.int 2)) (tVar 1)) (tC (.int 3))) (tC (.int 3)))) (tC (.int 2147483543))) (tC (.int 1))) tNil))) { nx := fun _ H' => Q .non H', rt := Q } [some (.ref p), some (nv k), some (.int c)] H2 := fun c H2 e2 => by
      have ek : (-(2 ^ 64) : Int) < (2 * (k : Int) + 3) ^ (3 : Int).toNat ∧ (2 * (k : Int) + 3) ^ (3 : Int).toNat < 2 ^ 64 := by
        have : k = 0 ∨ k = 1 ∨ k = 2 ∨ k = 3 := by omega
        rcases this with rfl | rfl | rfl | rfl <;> decide
      refine s_retL (el_lst (ea_cons (ev_max ev_c (ev_op (ev_abs (ev_var rfl)) (ev_op ev_c ev_c (rv_I ⟨by decide, by decide, by decide⟩)) rv_I0)) (ea_cons (ev_op (ev_op (ev_op (ev_int1 (ev_op (ev_op (ev_int1 (ev_abs (ev_var rfl))) ev_c (rv_I (by decide))) ev_c rv_I0)) (ev_op (ev_op (ev_op ev_c (ev_var rfl) (rv_I (.inl (by decide)))) ev_c rv_I0) ev_c (rv_I ⟨by decide, by decide, by omega⟩)) (rv_I (.inr ek))) ev_c (rv_I (by decide))) ev_c rv_I0) ea_nil)) (by simp)) fun r H3 hr e3 h3 => fin r H3 (e2.trans e3) (fresh_back e2 hr) ⟨_, _, h3, ?_, ?_, ?_⟩
      · split <;> omega
      · have := Int.emod_nonneg (a := ((if c < 0 then -c else c) % 2147483549 + 1) * (2 * (k : Int) + 3) ^ (3 : Int).toNat) (b := 2147483543) (by decide)
        omega
      · have := Int.emod_lt_of_pos (((if c < 0 then -c else c) % 2147483549 + 1) * (2 * (k : Int) + 3) ^ (3 : Int).toNat) (b := 2147483543) (by decide)
        omega
    refine q_when (b := decide ((k : Int) < (ns.length : Int))) (et_test (ev_op (ev_var rfl) (ev_lenV (n := ns.length) (ev_var rfl) fun H2 e2 => .inl ⟨_, ex_l (e1.trans e2) hp, by simp⟩) rv_lt)) (fun hb H2 e2 => ?_) fun hb H2 e2 => ?_
    · have hlt : k < ns.length := by have := of_decide_eq_true hb; omega
      refine s_asg (v := .int ns[k]) (ev_op (ev_var rfl) (ev_var rfl) (rv_ixL (ex_l (e1.trans e2) hp) (atI_nat (by rw [List.getElem?_map, List.getElem?_eq_getElem hlt]; rfl)))) fun H3 e3 => ?_
      exact last ns[k] H3 ((e1.trans e2).trans e3)
    · exact last (11 * (k : Int) + 5) H2 (e1.trans e2)
def spDraw : Sp := fun vs H Q _ => ∃ (r : Addr) (many : Nat), vs = [.ref r, nv many] ∧ Rg r H ∧ 1 ≤ many ∧ many ≤ 1000 ∧ ∀ (d : Nat) (H' : Hp), Xr r H H' → d < many → Q (nv d) H'
abbrev N_law_draw : List Str := ["_law_rng_here", "_law_many", "_law_digit"]
theorem sc_law_draw : FnScope N_law_draw ["_law_rng_here", "_law_many"] (defScope (top 61)) := ⟨rfl, rfl, rfl, by decide +kernel, rfl, by decide +kernel, by decide +kernel⟩
theorem ok_law_draw (T : Txt K mg) : Ok P w K mg base 1 "_law_draw" ["_law_rng_here", "_law_many"] spDraw := by
  refine ok_of T.law_draw sc_law_draw (fun vs H Q E h => ?_) (fun _ _ _ _ _ _ us hl => match us, hl with | [_, _], _ => rfl) (fun f cdv A outer s H vs Q E hr h => ?_)
  · obtain ⟨_, _, rfl, _⟩ := h
    rfl
  · obtain ⟨r, many, rfl, hg, m1, m2, fin⟩ := h
    refine ⟨_, (pss_cons (ps_if (pt_cmpR op_gt (pe_ix (r := rIxL K) ix_list (pv 0) pe_int (fun _ _ => rfl)) pe_int (nomark _))
 (pss_cons (ps_asg (pe_callB call_divmod (by rfl) T.divmod (by decide +kernel) (pa_cons (pe_ix (r := rIxL K) ix_list (pv 0) pe_int (fun _ _ => rfl)) (pa_cons (pv 1) pa_nil))) (pg_tup rfl (pgs_cons (pg_sub (pv 0) pe_int set_list) (pgs_cons (pg_name (i := 2) sc_law_draw.nd rfl (Or.inl rfl)) pgs_nil))))
 (pss_one (ps_ret (pv 2))))
 pss_nil)
 (pss_cons (ps_asg (pe_op op_mod (pe_callTy call_int1 (by rfl) T.int (by decide +kernel) (pa_cons (pe_op op_add (pe_op op_mul (pe_ix (r := rIxL K) ix_list (pv 0) pe_int (fun _ _ => rfl)) pe_int) pe_int) pa_nil)) pe_int) (pg_sub (pv 0) pe_int set_list))
 (pss_one (ps_ret (pe_op op_mod (pe_op op_fdiv (pe_op op_mod (pe_callTy call_int1 (by rfl) T.int (by decide +kernel) (pa_cons (pe_op op_mul (pe_ix (r := rIxL K) ix_list (pv 0) pe_int (fun _ _ => rfl)) (pe_ix (r := rIxL K) ix_list (pv 0) pe_int (fun _ _ => rfl))) pa_nil)) pe_int) pe_int) (pv 1)))))), ?_⟩
    obtain ⟨i, j, hr0, i0, j0, j1⟩ := hg
    have hg : Rg r H := ⟨i, j, hr0, i0, j0, j1⟩
    have cd : ∀ x : Int, 0 ≤ x → ∃ d : Nat, V.int (x % (many : Int)) = nv d ∧ d < many := fun x _ => ⟨(x % (many : Int)).toNat, by
      have := Int.emod_nonneg x (b := (many : Int)) (by omega)
      show V.int _ = V.int _
      rw [Int.toNat_of_nonneg this], by
      have h1 := Int.emod_nonneg x (b := (many : Int)) (by omega)
      have h2 := Int.emod_lt_of_pos x (b := (many : Int)) (by omega)
      omega⟩
    refine q_when (b := decide (i > 0)) (et_test (ev_op (ev_op (ev_var rfl) ev_c (rv_ixL (sq_of hr0) (atI_nat (i := 0) rfl))) ev_c rv_I0)) (fun hb H1 e1 => ?_) fun hb H1 e1 => ?_
    · have hr1 := e1 _ _ hr0
      refine q_asgGP (evp_cb (P := fun v H' => ∃ p, v = .ref p ∧ H1 p = none ∧ H' p = some (.tup [.int (i / many), .int (i % many)])) (ea_of (ea_cons (ev_op (ev_var rfl) ev_c (rv_ixL (sq_of hr1) (atI_nat (i := 0) rfl))) (ea_cons (ev_var rfl) ea_nil))) fun vs H2 e2 hv Q' q' => ?_) fun v H2 e2 ⟨p, hv, hp, hp2⟩ => ?_
      · subst hv
        exact ⟨i, many, rfl, ⟨by omega, by omega⟩, fun p hn => q' _ _ (Ex.new hn) ⟨p, rfl, fresh_back e2 hn, upd_same⟩⟩
      · subst hv
        refine ⟨p, _, rfl, st_of hp2, rfl, _, _, rfl, ?_⟩
        refine ev_run (te := tVar 0) (v := .ref r) (ev_var rfl) fun H3 e3 => ?_
        refine ev_run (te := tC (.int 0)) (v := .int 0) ev_c fun H4 e4 => ?_
        refine ⟨r, [.int i, .int j], 0, 0, rfl, rfl, e4 _ _ (e3 _ _ (e2 _ _ hr1)), rfl, ?_⟩
        obtain ⟨d, hd, hdm⟩ := cd i i0
        have x4 : Xr r H (upd H4 r (.lst [.int (i / many), .int j])) := (Xr.of (((e1.trans e2).trans e3).trans e4) hg).rng (Int.ediv_nonneg i0 (by omega)) j0 j1
        refine ⟨_, [], rfl, rfl, ?_⟩
        exact s_ret (v := nv d) (ev_is (ev_var rfl) hd) fun H5 e5 => fin d H5 (x4.trans (Xr.of e5 x4.2)) hdm
    · have hr1 := e1 _ _ hr0
      have jj : (0 : Int) ≤ (j * 39373 + 30011) % 2147483563 ∧ (j * 39373 + 30011) % 2147483563 < 2147483563 := ⟨Int.emod_nonneg _ (by decide), Int.emod_lt_of_pos _ (by decide)⟩
      refine q_setL (xs := [.int i, .int j]) (j := 1) (v := .int ((j * 39373 + 30011) % 2147483563)) hr1 (ev_op (ev_int1 (ev_op (ev_op (ev_op (ev_var rfl) ev_c (rv_ixL (sq_of hr1) (atI_nat (i := 1) rfl))) ev_c (rv_I (.inr (by decide)))) ev_c rv_I0)) ev_c (rv_I (by decide))) (ev_var rfl) ev_c (by simp) fun H2 e2 => ?_
      generalize hJ : (j * 39373 + 30011) % 2147483563 = jn at jj ⊢
      have x2 : Xr r H (upd H2 r (.lst [.int i, .int jn])) := (Xr.of (e1.trans e2) hg).rng i0 jj.1 jj.2
      have hr2 : upd H2 r (.lst [.int i, .int jn]) r = some (.lst [.int i, .int jn]) := upd_same
      obtain ⟨d, hd, hdm⟩ := cd ((jn * jn) % 2147483497 / 17) (Int.ediv_nonneg (Int.emod_nonneg _ (by decide)) (by decide))
      refine s_ret (v := nv d) (ev_is (ev_op (ev_op (ev_op (ev_int1 (ev_op (ev_op (ev_var rfl) ev_c (rv_ixL (sq_of hr2) (atI_nat (i := 1) rfl))) (ev_op (ev_var rfl) ev_c (rv_ixL (sq_of hr2) (atI_nat (i := 1) rfl))) (rv_I (.inl ⟨by omega, by omega⟩)))) ev_c (rv_I (by decide))) ev_c (rv_I ⟨by decide, by decide⟩)) (ev_var rfl) (rv_I (by omega))) hd) fun H3 e3 => fin d H3 (x2.trans (Xr.of e3 x2.2)) hdm
theorem er_draw {r : Addr} {many : Nat} (ha : ∀ H1, Xr r H H1 → EvA (tCons ta (tCons tb tNil)) σ H1 [.ref r, nv many]) (m1 : 1 ≤ many) (m2 : many ≤ 1000) : EvR r (tCall spDraw [] E0 (tCons ta (tCons tb tNil))) σ H (fun v _ => ∃ d, v = nv d ∧ d < many) :=
  er_call (era_v ha) fun vs H1 e hv Q E q => by
    subst hv
    exact ⟨r, many, rfl, e.2, m1, m2, fun d H2 e2 hd => q _ H2 e2 ⟨d, rfl, hd⟩⟩
def spChoice (K : PySem.W.Frag) : Sp := fun vs H Q _ => ∃ (r p : Addr) (xs : List V), vs = [.ref r, .ref p] ∧ Rg r H ∧ SqL K (del r H) p xs ∧ 1 ≤ xs.length ∧ xs.length ≤ 1000 ∧ ∀ (x : V) (H' : Hp), Xr r H H' → x ∈ xs → Q x H'
abbrev N_law_choice : List Str := ["_law_rng_here", "_law_some"]
theorem sc_law_choice : FnScope N_law_choice ["_law_rng_here", "_law_some"] (defScope (top 62)) := ⟨rfl, rfl, rfl, by decide +kernel, rfl, by decide +kernel, by decide +kernel⟩
theorem ok_law_choice (T : Txt K mg) : Ok P w K mg base 2 "_law_choice" ["_law_rng_here", "_law_some"] (spChoice K) := by
  refine ok_of T.law_choice sc_law_choice (fun vs H Q E h => ?_) (fun _ _ _ _ _ _ us hl => match us, hl with | [_, _], _ => rfl) (fun f cdv A outer s H vs Q E hr h => ?_)
  · obtain ⟨_, _, _, rfl, _⟩ := h
    rfl
  · obtain ⟨r, p, xs, rfl, hg, hp, m1, m2, fin⟩ := h
    refine ⟨_, (pss_one (ps_ret (pe_ix (r := rIxL K) ix_list (pv 1) (pe_f (ok_law_draw T) (hr.mono (by decide)) (pa_cons (pv 0) (pa_cons (pe_callB call_len (by rfl) T.len (by decide +kernel) (pa_cons (pv 1) pa_nil)) pa_nil))) (fun _ _ => rfl)))), ?_⟩
    refine s_retR hg (er_op (Pa := fun v _ => v = .ref p) (Pb := fun x v _ => x = .ref p ∧ ∃ d, v = nv d ∧ d < xs.length) (er_var rfl) (fun x H1 e1 hx => (er_draw (many := xs.length) (fun H2 e2 => ea_cons (ev_var rfl) (ea_cons (ev_lenV (x := .ref p) (n := xs.length) (ev_var rfl) fun H3 e3 => .inl ⟨_, ex_l (((e1.trans e2).1).trans e3) hp, rfl⟩) ea_nil)) m1 m2).imp fun v H2 _ hv => ⟨hx, hv⟩) (P := fun v _ => v ∈ xs) fun x y H1 Q' e1 ⟨hx, d, hd, hlt⟩ q' => ?_) fun v H1 e1 hv => fin v H1 e1 hv
    subst hx hd
    exact ⟨p, xs, (d : Int), xs[d], rfl, rfl, ex_l e1.1 hp, atI_nat (List.getElem?_eq_getElem hlt), q' _ _ (Xr.refl e1.2) (List.getElem_mem hlt)⟩
end
end K33
/-! text Dt -/
set_option Elab.async false
set_option linter.all false
set_option maxRecDepth 100000
set_option maxHeartbeats 4000000
namespace K33
open PySem PySem.Spec PyProof.Rows L2 Evl K33G
theorem erase_map {α β : Type} (f : α → β) : ∀ (l : List α) (i : Nat), (l.map f).eraseIdx i = (l.eraseIdx i).map f
  | [], _ => rfl
  | _ :: _, 0 => rfl
  | a :: l, i + 1 => by
    show f a :: (l.map f).eraseIdx i = f a :: (l.eraseIdx i).map f
    rw [erase_map f l i]
theorem perm_erase {α : Type} : ∀ (l : List α) (d : Nat) (h : d < l.length), (l[d] :: l.eraseIdx d).Perm l
  | [], _, h => absurd h (Nat.not_lt_zero _)
  | _ :: _, 0, _ => List.Perm.refl _
  | a :: l, d + 1, h => by
    have h2 : d < l.length := by simpa using h
    show (l[d] :: a :: l.eraseIdx d).Perm (a :: l)
    exact (List.Perm.swap _ _ _).trans ((perm_erase l d h2).cons a)
theorem atI_natG {α : Type} {xs : List α} {i : Nat} {v : α} (h : xs[i]? = some v) : atI xs (i : Int) = some v := by
  have hi := (List.getElem?_eq_some_iff.mp h).1
  unfold atI
  rw [ixN_nat hi]
  exact h
theorem joinL_nil : ∀ l : List (List Nat), TL.joinL [] l = l.flatten
  | [] => rfl
  | [p] => by simp [TL.joinL]
  | p :: q :: r => by
    have := joinL_nil (q :: r)
    simp only [TL.joinL, List.nil_append, this, List.flatten_cons]
theorem join_sg (cs : List Nat) : Txt.join Str.empty (cs.map sg) = txt cs := by
  show Builtin.Str.glued Str.empty (cs.map sg) = txt cs
  rw [StrLaws.glued_eq_join]
  have h := TL.tl_join Str.empty (cs.map sg)
  rw [show TL.tl Str.empty = [] from rfl, joinL_nil, List.map_map] at h
  have h2 : (cs.map (TL.tl ∘ sg)).flatten = cs := by
    induction cs with
    | nil => rfl
    | cons c cs ih =>
      rw [List.map_cons, List.flatten_cons]
      show [c] ++ _ = c :: cs
      rw [ih (by rw [TL.tl_join, show TL.tl Str.empty = [] from rfl, joinL_nil, List.map_map])]
      rfl
  rw [h2] at h
  have h3 : ∀ z : Str, z = ⟨(TL.tl z).toArray⟩ := fun z => by
    cases z
    simp
  rw [h3 (Str.join Str.empty (cs.map sg)), h]
  rfl
section
variable {P : Program} {w : World} {K : PySem.W.Frag} {mg : Str → Option Value} {base : Heap} {σ : L2.St} {H : Hp} {te ta tb : TE}
theorem EtR.imp {r : Addr} {t : TT} {P P' : Bool → Hp → Prop} (h : EtR r t σ H P) (k : ∀ b H', P b H' → P' b H') : EtR r t σ H P' := fun H1 a Q q => h H1 a Q fun b H2 e p => q b H2 e (k b H2 p)
theorem s_retQ {D : Ends} (h : te σ H D.rt) : tRet te D σ H := h
theorem lc_raw {wi : TI} {g : TG} {t : TT} {vs : List Nat} {n : Nat} {Y : Nat → Hp → V → Hp → Prop} (hw : IvT wi σ H n Y) (Iv : Addr → Nat → Hp → Prop) (h0 : ∀ D H1, Ex H H1 → H1 D = none → Iv D 0 (upd H1 D (.lst [])))
    (turn : ∀ D i x Ha Hb, i < n → Iv D i Ha → Y i Ha x Hb → g x (wipe σ vs) Hb fun σ2 H2 => wipe σ2 vs = wipe σ vs ∧ t σ2 H2 fun b H3 =>
      if b = true then te σ2 H3 fun v H4 => ∃ acc, H4 D = some (.lst acc) ∧ acc.length < sizeLine ∧ Iv D (i + 1) (upd H4 D (.lst (acc ++ [v]))) else Iv D (i + 1) H3) (Q : VK) (fin : ∀ D H', Iv D n H' → Q (.ref D) H') : tLc wi g t te vs σ H Q :=
  hw H (Ex.refl H) _ fun J H1 G e1 W hG D hD => lc_it W (Iv D) (h0 D H1 e1 hD) (fun i H' _ _ => hG H') (turn D) (fin D)
def vstr (zs : List Str) : List V := zs.map V.str
def spLetters : Sp := fun vs H Q _ => ∃ (r : Addr) (many : Nat), vs = [.ref r, nv many] ∧ Rg r H ∧ many ≤ 20 ∧ ∀ (p : Addr) (H' : Hp) (cs : List Nat), Xr r H H' → H p = none → H' p = some (.lst (vstr (cs.map sg))) → cs.length = many → cs.Nodup → (∀ c ∈ cs, c ∈ lets) → Q (.ref p) H'
abbrev N_law_letters : List Str := ["_law_rng_here", "_law_many", "_law_left", "_law_k"]
theorem sc_law_letters : FnScope N_law_letters ["_law_rng_here", "_law_many"] (defScope (top 63)) := ⟨rfl, rfl, rfl, by decide +kernel, rfl, by decide +kernel, by decide +kernel⟩
theorem ok_law_letters (T : Txt K mg) : Ok P w K mg base 2 "_law_letters" ["_law_rng_here", "_law_many"] spLetters := by
  refine ok_of T.law_letters sc_law_letters (fun vs H Q E h => ?_) (fun _ _ _ _ _ _ us hl => match us, hl with | [_, _], _ => rfl) (fun f cdv A outer s H vs Q E hr h => ?_)
  · obtain ⟨_, _, rfl, _⟩ := h
    rfl
  · obtain ⟨r, many, rfl, hg, m2, fin⟩ := h
    refine ⟨_, (pss_cons (ps_set (i := 2) sc_law_letters.nd rfl (Or.inr rfl) (pe_listStr T.list pe_str))
 (pss_one (ps_ret (pe_lc (own := [("_law_k", 3)]) (g := gName 3) (by rfl) sc_law_letters.nd (pi_range1 rfl T.range (pa_cons (pv 1) pa_nil)) (blkOk_by (own := [("_law_k", 3)]) (N := N_law_letters) (sc := defScope (top 63)) (by decide +kernel)) (fun _ _ _ _ _ => (pg_name (i := 3) sc_law_letters.nd rfl (Or.inl rfl))) (fun _ _ _ _ _ => by exact pts_nil) (fun _ _ _ _ _ => by exact (pe_bmK (K := K) PySem.F.plainAttrs_list PySem.F.slot_list_pop PySem.F.type_list_pop mt_popAt (pv 2) (pa_cons (pe_f (ok_law_draw T) (hr.mono (by decide)) (pa_cons (pv 0) (pa_cons (pe_callB (r := fun xs H Q => ∃ x n, xs = [x] ∧ LenV K x H n ∧ Q (.int n) H) call_len (by rfl) T.len (by decide +kernel) (pa_cons (pv 2) pa_nil)) pa_nil))) pa_nil))))))), ?_⟩
    have ll : lets.length = 26 := by decide +kernel
    refine q_asgL (xs := vstr (lets.map sg)) (el_listStr ev_c (by decide +kernel)) fun lf H1 hlf e1 h1 => ?_
    have x1 := Xr.of e1 hg
    have nlf := hg.ne hlf
    refine s_retQ (lc_raw (n := many) (ivt_range1 (ea_cons (ev_var rfl) ea_nil) (by omega)) (fun D i Hi => ∃ cs ls : List Nat, Hi D = some (.lst (vstr (cs.map sg))) ∧ Hi lf = some (.lst (vstr (ls.map sg))) ∧ (cs ++ ls).Perm lets ∧ cs.length = i ∧ D ≠ lf ∧ D ≠ r ∧ H D = none ∧ Xr r H Hi)
      (fun D H2 e2 hD => ⟨[], lets, upd_same, ?_, List.Perm.refl _, rfl, ?_, (x1.2.mono e2).ne hD, fresh_back (e1.trans e2) hD, (x1.trans (Xr.of e2 x1.2)).mut (fresh_back (e1.trans e2) hD) ((x1.2.mono e2).ne hD)⟩) (fun D i x Ha Hb hi hI y => ?_) _ fun D H' hI => ?_)
    · rw [upd_ne (fun z => by rw [← z, e2 _ _ h1] at hD; cases hD)]
      exact e2 _ _ h1
    · exact fun z => by rw [z, e2 _ _ h1] at hD; cases hD
    · obtain ⟨cs, ls, g1, g2, pm, cl, n1, n2, hD0, xr⟩ := hI
      obtain ⟨rfl, rfl⟩ := y
      have lsl : ls.length = 26 - i := by
        have := pm.length_eq
        rw [List.length_append] at this
        omega
      refine ⟨rfl, et_yes Hb (Ex.refl Hb) _ fun Hc ec => iteT ?_⟩
      refine ev_run (te := tVar 2) (v := .ref lf) (ev_var rfl) fun H3 e3' => ?_
      have e3 := ec.trans e3'
      refine ⟨.inl ⟨rfl, _, sq_of (e3 _ _ g2)⟩, ?_⟩
      have x3 := xr.trans (Xr.of e3 xr.2)
      refine era_one (Pl := fun vs _ => ∃ d, vs = [nv d] ∧ d < ls.length) (er_draw (many := ls.length) (fun H4 e4 => ea_cons (ev_var rfl) (ea_cons (ev_lenV (x := .ref lf) (n := ls.length) (ev_var rfl) fun H5 e5 => Or.inl ⟨_, sq_of (e5 _ _ (e4.get (e3 _ _ g2) nlf)), by simp [vstr]⟩) ea_nil)) (by omega) (by omega)) (fun v H4 e4 ⟨d, hd, hlt⟩ => ⟨d, by rw [hd], hlt⟩) H3 (Xr.refl x3.2) _ fun vs H4 e4 ⟨d, hd, hlt⟩ => ?_
      have k1 := e4.get (e3 _ _ g1) n2
      have k2 := e4.get (e3 _ _ g2) nlf
      refine ⟨lf, vstr (ls.map sg), (d : Int), d, .str (sg ls[d]), rfl, hd, k2, by omega, by omega, ?_, ?_, ?_⟩
      · simp only [vstr, List.length_map]
        exact (ixN_seq (ixN_nat hlt)).1
      · simp only [vstr]
        rw [List.getElem?_map, List.getElem?_map, List.getElem?_eq_getElem hlt]
        rfl
      · refine ⟨vstr (cs.map sg), by rw [upd_ne n1]; exact k1, by simp only [vstr, List.length_map]; rw [sizeLine_eq]; omega, cs ++ [ls[d]], ls.eraseIdx d, ?_, ?_, ?_, by simp [cl], n1, n2, hD0, ?_⟩
        · rw [upd_same]
          simp [vstr]
        · rw [upd_ne n1.symm, upd_same]
          simp only [vstr, erase_map]
        · refine List.Perm.trans ?_ pm
          rw [List.append_assoc]
          refine List.Perm.append_left cs ?_
          show (ls[d] :: ls.eraseIdx d).Perm ls
          exact perm_erase ls d hlt
        · exact (((x3.trans e4).mut hlf nlf)).mut hD0 n2
    · obtain ⟨cs, ls, g1, g2, pm, cl, n1, n2, hD0, xr⟩ := hI
      have nd : lets.Nodup := by decide +kernel
      have nd2 := pm.nodup_iff.mpr nd
      exact fin D H' cs xr hD0 g1 cl (List.nodup_append.mp nd2).1 fun c hc => pm.mem_iff.mp (List.mem_append_left _ hc)
theorem inV_vstr (z : Str) (l : List Str) : inV (.str z) (vstr l) = decide (z ∈ l) := by
  unfold inV vstr
  rw [List.any_map, Bool.eq_iff_iff, List.any_eq_true, decide_eq_true_eq]
  constructor
  · rintro ⟨y, hy, e⟩
    have e2 : (y == z) = true := e
    exact (beq_iff_eq.mp e2) ▸ hy
  · intro h
    exact ⟨z, h, by show (z == z) = true; simp⟩
theorem flat_vstr (l : List Str) : (vstr l).all flatV = true := by
  unfold vstr
  rw [List.all_map, List.all_eq_true]
  exact fun _ _ => rfl
/-- a text of drawn letters -/
theorem spare_out {fs : List Str} (h : fs.length ≤ 20) : ∃ c ∈ lets, txt [109, c] ∉ fs := Decidable.byContradiction fun no => by
  have all : ∀ x ∈ lets.map fun c => txt [109, c], x ∈ fs := fun x hx => by
    obtain ⟨c, hc, rfl⟩ := List.mem_map.mp hx
    exact Decidable.byContradiction fun h => no ⟨c, hc, h⟩
  have nd : (lets.map fun c => txt [109, c]).Nodup := by decide +kernel
  have := nd_len nd all
  rw [List.length_map, show lets.length = 26 by decide +kernel] at this
  omega
def spMarks : Sp := fun vs H Q _ => ∃ (r : Addr) (many : Nat), vs = [.ref r, nv many] ∧ Rg r H ∧ many ≤ 20 ∧ ∀ (p : Addr) (H' : Hp) (zs : List Str), Xr r H H' → H p = none → H' p = some (.lst (vstr zs)) → zs.length = many → (∀ z ∈ zs, isMark z = true) → Q (.ref p) H'
abbrev N_law_marks : List Str := ["_law_rng_here", "_law_many", "_law_found", "_law_k", "_law_size", "_law_mark", "_law_spare", "_law_turn", "_law_letter", "_law_one"]
theorem sc_law_marks : FnScope N_law_marks ["_law_rng_here", "_law_many"] (defScope (top 64)) := ⟨rfl, rfl, rfl, by decide +kernel, rfl, by decide +kernel, by decide +kernel⟩
theorem ok_law_marks (T : Txt K mg) : Ok P w K mg base 2 "_law_marks" ["_law_rng_here", "_law_many"] spMarks := by
  refine ok_of T.law_marks sc_law_marks (fun vs H Q E h => ?_) (fun _ _ _ _ _ _ us hl => match us, hl with | [_, _], _ => rfl) (fun f cdv A outer s H vs Q E hr h => ?_)
  · obtain ⟨_, _, rfl, _⟩ := h
    rfl
  · obtain ⟨r, many, rfl, hg, m2, fin⟩ := h
    refine ⟨_, (pss_cons (ps_set (i := 2) sc_law_marks.nd rfl (Or.inr rfl) (pe_lst pa_nil))
 (pss_cons (ps_for PassesOwn.never rfl (pi_range1 rfl T.range (pa_cons (pv 1) pa_nil)) (pg_name (i := 3) sc_law_marks.nd rfl (Or.inl rfl))
 (pss_cons (ps_set (i := 4) sc_law_marks.nd rfl (Or.inl rfl) (pe_op op_add pe_int (pe_ix (r := rIxL K) ix_list (pe_lst (pa_cons pe_int (pa_cons pe_int (pa_cons pe_int (pa_cons pe_int pa_nil))))) (pe_f (ok_law_draw T) (hr.mono (by decide)) (pa_cons (pv 0) (pa_cons pe_int pa_nil))) (fun _ _ => rfl))))
 (pss_cons (ps_set (i := 5) sc_law_marks.nd rfl (Or.inl rfl) (pe_join pe_str (pe_lc (own := [("_law_turn", 7)]) (g := gName 7) (by rfl) sc_law_marks.nd (pi_range1 rfl T.range (pa_cons (pv 4) pa_nil)) (blkOk_by (own := [("_law_turn", 7)]) (N := N_law_marks) (sc := defScope (top 64)) (by decide +kernel)) (fun _ _ _ _ _ => (pg_name (i := 7) sc_law_marks.nd rfl (Or.inl rfl))) (fun _ _ _ _ _ => by exact pts_nil) (fun _ _ _ _ _ => by exact (pe_ix ix_str pe_str (pe_f (ok_law_draw T) (hr.mono (by decide)) (pa_cons (pv 0) (pa_cons pe_int pa_nil))) (fun _ _ => rfl))))))
 (pss_cons (ps_setLc (i := 6) (own := [("_law_letter", 8)]) (g := gName 8) (by rfl) sc_law_marks.nd rfl rfl (sw_true rfl rfl rfl (by decide +kernel)) (pi_str pe_str) (blkOk_by (own := [("_law_letter", 8)]) (N := N_law_marks) (sc := defScope (top 64)) (by decide +kernel)) (fun _ _ _ _ _ => (pg_name (i := 8) sc_law_marks.nd rfl (Or.inl rfl))) (fun _ _ _ _ _ => by exact pts_nil) (fun _ _ _ _ _ => by exact (pe_op op_add_str pe_str (pv 8))))
 (pss_one (ps_expr (pe_bm PySem.F.plainAttrs_list PySem.F.slot_list_append PySem.F.type_list_append mt_append (pv 2) (pa_cons (pe_ix (r := rIxL K) ix_list (pe_lc (own := [("_law_one", 9)]) (g := gName 9) (by rfl) sc_law_marks.nd (pi_listK (K := K) (pe_op op_cat (pe_lst (pa_cons (pv 5) pa_nil)) (pv 6))) (blkOk_by (own := [("_law_one", 9)]) (N := N_law_marks) (sc := defScope (top 64)) (by decide +kernel)) (fun _ _ _ _ _ => (pg_name (i := 9) sc_law_marks.nd rfl (Or.inl rfl))) (fun _ _ _ _ _ => by exact (pts_one (pt_cmpR (r := rIn K true) op_notIn_seq (pv 9) (pv 2) (by rfl)))) (fun _ _ _ _ _ => by exact (pv 9))) pe_int (fun _ _ => rfl)) pa_nil))))))))
 (pss_one (ps_ret (pv 2))))), ?_⟩
    have ll : lets.length = 26 := by decide +kernel
    have isM : ∀ w : List Nat, (∀ c ∈ w, c ∈ lets) → 2 ≤ w.length → w.length ≤ 8 → isMark (txt w) = true := fun w h1 h2 h3 => by
      unfold isMark
      rw [abc_txt, txt_len, Bool.and_eq_true, Bool.and_eq_true, List.all_eq_true]
      exact ⟨fun c hc => decide_eq_true (h1 c hc), decide_eq_true (by omega), decide_eq_true h3⟩
    refine q_asgP (evp_L (el_lst ea_nil (by simp))) fun v H1 e1 ⟨ff, hv, hff, hf1⟩ => ?_
    subst hv
    have x1 := Xr.of e1 hg
    have nff := hg.ne hff
    refine q_forR1 (n := (many : Int)) (ea_cons (ev_var rfl) ea_nil) (by omega) (fun i σ' H' => ∃ (zs : List Str) (a b c d e f g : Option V), σ' = [some (.ref r), some (nv many), some (.ref ff), a, b, c, d, e, f, g] ∧ Xr r H H' ∧ H' ff = some (.lst (vstr zs)) ∧ zs.length = i ∧ ∀ z ∈ zs, isMark z = true)
      (fun H2 e2 => ⟨[], none, none, none, none, none, none, none, rfl, x1.trans (Xr.of e2 x1.2), e2 _ _ hf1, rfl, fun z hz => (by cases hz)⟩) (fun i σ' H2 hi hP => ?_) fun σ' H2 hP => ?_
    · obtain ⟨zs, a, b, c, d, e, f, g, rfl, x2, hf2, zl, hz⟩ := hP
      have hi : i < many := by omega
      refine q_asgR x2.2 (P := fun v _ => ∃ s : Nat, v = nv s ∧ 2 ≤ s ∧ s ≤ 8) (er_op (Pa := fun x _ => x = .int 1) (Pb := fun x y _ => x = .int 1 ∧ ∃ s : Nat, y = nv s ∧ 1 ≤ s ∧ s ≤ 7) er_c (fun x H3 e3 hx => (er_op (Pa := fun x H' => ∃ p, x = .ref p ∧ p ≠ r ∧ H' p = some (.lst [.int 1, .int 1, .int 2, .int 7])) (Pb := fun x y H' => ∃ p d, x = .ref p ∧ y = nv d ∧ d < 4 ∧ H' p = some (.lst [.int 1, .int 1, .int 2, .int 7])) (P := fun y _ => ∃ s : Nat, y = nv s ∧ 1 ≤ s ∧ s ≤ 7)
          (er_of fun H4 e4 => (evp_L (el_lst (vs := [.int 1, .int 1, .int 2, .int 7]) (ea_cons ev_c (ea_cons ev_c (ea_cons ev_c (ea_cons ev_c ea_nil)))) (by simp))).imp fun v H5 e5 ⟨p, hv, hp, hp2⟩ => ⟨p, hv, e4.2.ne hp, hp2⟩)
          (fun x H4 e4 ⟨p, hx, hpr, hp⟩ => (er_draw (many := 4) (fun H5 e5 => ea_cons (ev_var rfl) (ea_cons ev_c ea_nil)) (by omega) (by omega)).imp fun v H5 e5 ⟨d, hv, hd⟩ => ⟨p, d, hx, hv, hd, e5.get hp hpr⟩)
          fun x y H4 Q' e4 ⟨p, d, hx, hy, hd, hp⟩ q' => ?_).imp fun v H4 _ hv => ⟨hx, hv⟩) fun x y H3 Q' e3 ⟨hx, s, hy, s1, s2⟩ q' => ?_) fun v H3 e3 ⟨s, hv, s1, s2⟩ => ?_
      · subst hx hy
        exact ⟨1, s, rfl, rfl, q' _ _ (Xr.refl e3.2) ⟨s + 1, by show V.int _ = V.int _; congr 1; omega, by omega, by omega⟩⟩
      · subst hx hy
        have : d = 0 ∨ d = 1 ∨ d = 2 ∨ d = 3 := by omega
        rcases this with rfl | rfl | rfl | rfl
        · exact ⟨p, _, 0, .int 1, rfl, rfl, sq_of hp, rfl, q' _ _ (Xr.refl e4.2) ⟨1, rfl, by omega, by omega⟩⟩
        · exact ⟨p, _, 1, .int 1, rfl, rfl, sq_of hp, rfl, q' _ _ (Xr.refl e4.2) ⟨1, rfl, by omega, by omega⟩⟩
        · exact ⟨p, _, 2, .int 2, rfl, rfl, sq_of hp, rfl, q' _ _ (Xr.refl e4.2) ⟨2, rfl, by omega, by omega⟩⟩
        · exact ⟨p, _, 3, .int 7, rfl, rfl, sq_of hp, rfl, q' _ _ (Xr.refl e4.2) ⟨7, rfl, by omega, by omega⟩⟩
      · subst hv
        have x3 := x2.trans e3
        have hf3 := e3.get hf2 nff
        refine q_asgR x3.2 (P := fun v _ => ∃ cs : List Nat, v = .str (txt cs) ∧ cs.length = s ∧ ∀ c ∈ cs, c ∈ lets) ?_ fun v H4 e4 ⟨cs, hv, cl, hcs⟩ => ?_
        · intro H4 e4 Q' q'
          refine ev_run (te := tC (.str Str.empty)) (v := .str Str.empty) ev_c fun H5 e5 => ⟨⟨_, rfl⟩, ?_⟩
          have x5 := e4.trans (Xr.of e5 e4.2)
          refine er_lc (r := r) (n := s) (Y := YFn fun i => .int (i : Nat)) (fun i acc _ => ∃ cs : List Nat, acc = vstr (cs.map sg) ∧ cs.length = i ∧ ∀ c ∈ cs, c ∈ lets) (fun H6 e6 => ivt_range1 (ea_cons (ev_var rfl) ea_nil) (by omega)) (fun H6 e6 => ⟨[], rfl, rfl, fun c hc => (by cases hc)⟩) (fun i acc H6 hi ⟨cs, h1, h2, _⟩ => by rw [h1]; simp only [vstr, List.length_map]; omega)
            (fun D i x acc Ha Hb hi hD nD ed hDa ⟨cs, h1, h2, h3⟩ y k hk => ?_) H5 (Xr.refl x5.2) _ fun v H6 e6 ⟨p, acc, hv, hp, npr, hp6, cs, h1, h2, h3⟩ => ?_
          · have sm : ∀ l : List Nat, ((l.map sg).map (·.length)).sum = l.length := fun l => by
              induction l with
              | nil => rfl
              | cons c l ih =>
                rw [List.map_cons, List.map_cons, List.sum_cons, ih, List.length_cons, show (sg c).length = 1 from rfl]
                omega
            refine ⟨Str.empty, p, cs.map sg, rfl, by rw [hv], .inl (sq_of (by rw [hp6, h1]; rfl)), ?_, ?_⟩
            · rw [sm, h2, show Str.empty.length = 0 from rfl]
              omega
            · rw [join_sg]
              exact q' _ _ ((Xr.of e5 e4.2).trans e6) ⟨cs, rfl, h2, h3⟩
          · obtain ⟨rfl, rfl⟩ := y
            refine hk _ _ (Xr.refl (ed.2.mono del_le)) rfl ((etr_of fun H7 e7 => et_yes).imp fun b H7 hb => ⟨fun _ => er_op (Pa := fun x _ => x = .str "abcdefghijklmnopqrstuvwxyz") (Pb := fun x y _ => x = .str "abcdefghijklmnopqrstuvwxyz" ∧ ∃ d, y = nv d ∧ d < 26) er_c (fun x H8 e8 hx => (er_draw (many := 26) (fun H9 e9 => ea_cons (ev_var rfl) (ea_cons ev_c ea_nil)) (by omega) (by omega)).imp fun v H9 e9 hv => ⟨hx, hv⟩) fun x y H8 Q8 e8 ⟨hx, d, hy, hd⟩ q8 => ?_, fun h => by rw [hb] at h; cases h⟩)
            subst hx hy
            have hd' : d < lets.length := by omega
            refine ⟨_, (d : Int), lets[d], rfl, rfl, by decide +kernel, atI_natG (xs := lets) (List.getElem?_eq_getElem hd'), q8 _ _ (Xr.refl e8.2) ⟨cs ++ [lets[d]], ?_, by simp [h2], fun c hc => ?_⟩⟩
            · rw [h1]
              simp only [vstr, List.map_append]
              rfl
            · rcases List.mem_append.mp hc with h | h
              · exact h3 c h
              · rw [List.mem_singleton.mp h]
                exact List.getElem_mem hd'
        · subst hv
          have x4 := x3.trans e4
          have hf4 := e4.get hf3 nff
          refine q_asgL (xs := vstr (lets.map fun c => txt [109, c])) ?_ fun sp H5 hsp e5 h5 => ?_
          · have e0 : vstr (lets.map fun c => txt [109, c]) = lets.map fun c => V.str (txt [109, c]) := by simp [vstr]
            rw [e0]
            refine el_map lets (fun c => V.str (txt [109, c])) (iw_str (s := "abcdefghijklmnopqrstuvwxyz") ev_c) rfl (by omega) fun i2 c2 x Ha Hb hc ea y kk hk => ?_
            obtain ⟨rfl, c, hc2, rfl⟩ := y
            have hc3 : lets[i2]? = some c := by
              rw [← hc2]
              show (("abcdefghijklmnopqrstuvwxyz" : Str).cps.toList)[i2]? = _
              simp
            rw [hc] at hc3
            cases hc3
            refine hk _ _ (Ex.refl _) rfl et_yes (ev_op ev_c (ev_var rfl) fun H5 e5 Q5 q5 => ⟨"m", sg c2, rfl, rfl, ?_, ?_⟩)
            · rw [show ("m" : Str).length = 1 from rfl, show (sg c2).length = 1 from rfl, sizeLine_eq]
              omega
            · have : ("m" : Str) ++ sg c2 = txt [109, c2] := rfl
              rw [this]
              exact q5 H5 (Ex.refl H5)
          · have x5 := x4.trans (Xr.of e5 x4.2)
            have hf5 := e5 _ _ hf4
            let cand : List Str := txt cs :: lets.map fun c => txt [109, c]
            obtain ⟨z0, hz0⟩ : ∃ z0, (cand.filter fun z => !decide (z ∈ zs))[0]? = some z0 := by
              obtain ⟨c, hc, hno⟩ := spare_out (fs := zs) (by omega)
              have hm : txt [109, c] ∈ cand.filter fun z => !decide (z ∈ zs) := List.mem_filter.mpr ⟨List.mem_cons_of_mem _ (List.mem_map.mpr ⟨c, hc, rfl⟩), by simpa using hno⟩
              cases hcf : cand.filter fun z => !decide (z ∈ zs) with
              | nil => rw [hcf] at hm; cases hm
              | cons z0 _ => exact ⟨z0, rfl⟩
            have hzm : isMark z0 = true := by
              have hm := (List.mem_filter.mp (List.mem_of_getElem? hz0)).1
              rcases List.mem_cons.mp hm with h | h
              · rw [h]
                exact isM cs hcs (by omega) (by omega)
              · obtain ⟨c, hc, rfl⟩ := List.mem_map.mp h
                refine isM _ (fun x hx => ?_) (by simp) (by simp)
                rcases List.mem_cons.mp hx with h | h
                · rw [h]
                  decide +kernel
                · rw [List.mem_singleton.mp h]
                  exact hc
            refine s_app (xs := vstr zs) (v := .str z0) hf5 (ev_var rfl) ?_ (by simp only [vstr, List.length_map]; omega) fun H6 e6 => ⟨zs ++ [z0], _, _, _, _, _, _, _, rfl, (x5.trans (Xr.of e6 x5.2)).mut hff nff, by rw [upd_same]; simp [vstr], by simp [zl], fun z hz' => ?_⟩
            · have ecat : EvL (tOp rCat (tLst (tCons (tVar 5) tNil)) (tVar 6)) ([some (V.ref r), some (nv many), some (V.ref ff), some (nv i), some (nv s), some (V.str (txt cs)), some (V.ref sp), e, f, g]) H5 (vstr cand) := by
                rw [show vstr cand = [V.str (txt cs)] ++ vstr (lets.map fun c => txt [109, c]) from rfl]
                exact el_catR (xs := [.str (txt cs)]) (ys := vstr (lets.map fun c => txt [109, c])) (el_lst (ea_cons (ev_var rfl) ea_nil) (by simp)) h5 (ev_var rfl) (by rw [show (vstr (lets.map fun c => txt [109, c])).length = 26 by simp only [vstr, List.length_map]; exact ll]; simp)
              refine ev_opL1 (xs := vstr (cand.filter fun z => !decide (z ∈ zs))) (el_filter cand (fun z => !decide (z ∈ zs)) V.str (iw_listN ecat) (by simp [vstr]) (by simp [cand, ll]) fun i2 z x Ha Hb hc ea y kk hk => ?_) (fun H6 e6 => ev_c) fun p H6 h6 e6 => rv_ixL (sq_of h6) (atI_nat (i := 0) (by simp only [vstr]; rw [List.getElem?_map, hz0]; rfl))
              obtain ⟨rfl, y2⟩ := y
              simp only [vstr] at y2
              rw [List.getElem?_map, hc] at y2
              cases y2
              refine hk _ _ (Ex.refl _) rfl (et_is (et_test (ev_op (ev_var rfl) (ev_var rfl) (rv_niL (sq_of (ea _ _ hf5)) rfl (flat_vstr _)))) ?_) fun _ => ev_var rfl
              rw [inV_vstr]
            · rcases List.mem_append.mp hz' with h | h
              · exact hz z h
              · rw [List.mem_singleton.mp h]
                exact hzm
    · obtain ⟨zs, a, b, c, d, e, f, g, rfl, x2, hf2, zl, hz⟩ := hP
      exact s_ret (v := .ref ff) (ev_var rfl) fun H3 e3 => fin ff H3 zs (x2.trans (Xr.of e3 x2.2)) hff (e3 _ _ hf2) (by simpa using zl) hz
end
end K33
/-! text Du -/
set_option Elab.async false
set_option linter.all false
set_option maxRecDepth 100000
set_option maxHeartbeats 4000000
namespace K33
open PySem PySem.Spec PyProof.Rows L2 Evl K33G
/-! ### rows while they are made -/
abbrev Ent := Mv × Addr
def kvE (es : List Ent) : List (Key × V) := es.map fun x => ((.inr (sg x.1.1) : Key), V.ref x.2)
def rowE (es : List Ent) : Row := es.map Prod.fst
def EntAt (K : PySem.W.Frag) (H : Hp) (es : List Ent) : Prop := ∀ x ∈ es, SqT K H x.2 [.int x.1.2.1, tv x.1.2.2]
theorem EntAt.mono {K : PySem.W.Frag} {H H' : Hp} {es : List Ent} (h : EntAt K H es) (e : Ex H H') : EntAt K H' es := fun x hx => ex_t e (h x hx)
theorem rowAt_of {K : PySem.W.Frag} {H : Hp} {d : Addr} {es : List Ent} (h : FD H d (kvE es)) (he : EntAt K H es) : RowAt K H d (rowE es) := by
  refine ⟨kvE es, h, by simp [kvE, rowE], fun i e hi => ?_⟩
  unfold rowE at hi
  rw [List.getElem?_map] at hi
  cases hx : es[i]? with
  | none => rw [hx] at hi; cases hi
  | some x =>
    rw [hx] at hi
    cases hi
    exact ⟨x.2, by unfold kvE; rw [List.getElem?_map, hx]; rfl, he x (List.mem_of_getElem? hx)⟩
theorem of_rowAt {K : PySem.W.Frag} {H : Hp} {d : Addr} {r : Row} (h : RowAt K H d r) : ∃ es, FD H d (kvE es) ∧ EntAt K H es ∧ rowE es = r := by
  obtain ⟨kvs, fd, hl, q⟩ := h
  have key : ∀ (r : Row) (kvs : List (Key × V)), kvs.length = r.length → (∀ (i : Nat) (e : Mv), r[i]? = some e → ∃ t, kvs[i]? = some (.inr (sg e.1), .ref t) ∧ SqT K H t [.int e.2.1, tv e.2.2]) → ∃ es, kvs = kvE es ∧ EntAt K H es ∧ rowE es = r := by
    intro r
    induction r with
    | nil => exact fun kvs hl _ => ⟨[], List.eq_nil_of_length_eq_zero hl, fun x hx => (by cases hx), rfl⟩
    | cons e r ih =>
      intro kvs hl q
      cases kvs with
      | nil => cases hl
      | cons kv kvs =>
        obtain ⟨t, h1, h2⟩ := q 0 e rfl
        cases h1
        obtain ⟨es, e1, e2, e3⟩ := ih kvs (by simpa using hl) fun i x hi => q (i + 1) x hi
        exact ⟨(e, t) :: es, by rw [e1]; rfl, fun x hx => (List.mem_cons.mp hx).elim (fun z => by rw [z]; exact h2) (e2 x), by rw [← e3]; rfl⟩
  obtain ⟨es, e1, e2, e3⟩ := key r kvs hl q
  exact ⟨es, e1 ▸ fd, e2, e3⟩
def putE (es : List Ent) (m : Mv) (t : Addr) : List Ent := if (es.any fun x => decide (x.1.1 = m.1)) = true then es.map (fun x => if x.1.1 = m.1 then (m, t) else x) else es ++ [(m, t)]
def dropE (es : List Ent) (c : Nat) : List Ent := es.filter fun x => decide (x.1.1 ≠ c)
theorem key_eq (a b : Nat) : ((.inr (sg a) : Key) = .inr (sg b)) ↔ a = b := ⟨fun h => sg_inj (by injection h), fun h => by rw [h]⟩
theorem put_kvE (es : List Ent) (m : Mv) (t : Addr) : putK (kvE es) (.inr (sg m.1)) (.ref t) = kvE (putE es m t) := by
  unfold putK putE kvE
  have e1 : ((es.map fun x => ((.inr (sg x.1.1) : Key), V.ref x.2)).any fun kv => decide (kv.1 = .inr (sg m.1))) = es.any fun x => decide (x.1.1 = m.1) := by
    rw [List.any_map]
    congr 1
    funext x
    exact decide_eq_decide.mpr (key_eq _ _)
  rw [e1]
  split
  · rw [List.map_map, List.map_map]
    refine List.map_congr_left fun x _ => ?_
    show (if (.inr (sg x.1.1) : Key) = .inr (sg m.1) then ((.inr (sg x.1.1) : Key), V.ref t) else ((.inr (sg x.1.1) : Key), V.ref x.2)) = ((.inr (sg (if x.1.1 = m.1 then (m, t) else x).1.1) : Key), V.ref (if x.1.1 = m.1 then (m, t) else x).2)
    by_cases h : x.1.1 = m.1
    · rw [if_pos ((key_eq _ _).mpr h), if_pos h, h]
    · rw [if_neg fun z => h ((key_eq _ _).mp z), if_neg h]
  · rw [List.map_append]
    rfl
theorem drop_kvE (es : List Ent) (c : Nat) : dropK (kvE es) (.inr (sg c)) = kvE (dropE es c) := by
  unfold dropK dropE kvE
  rw [List.filter_map]
  congr 1
  refine List.filter_congr fun x _ => ?_
  show decide ((.inr (sg x.1.1) : Key) ≠ .inr (sg c)) = decide (x.1.1 ≠ c)
  exact decide_eq_decide.mpr (not_congr (key_eq _ _))
theorem val_kvE {es : List Ent} {c : Nat} (h : ∃ x ∈ es, x.1.1 = c) : ∃ v, valV (kvE es) (.inr (sg c)) = some v := by
  have h1 := valV_any (.inr (sg c) : Key) (kvE es)
  have h2 : ((kvE es).any fun kv => decide (kv.1 = (.inr (sg c) : Key))) = true := by
    obtain ⟨x, hx, e⟩ := h
    exact List.any_eq_true.mpr ⟨_, List.mem_map.mpr ⟨x, hx, rfl⟩, decide_eq_true (by rw [e])⟩
  rw [h2] at h1
  exact Option.isSome_iff_exists.mp h1.symm
theorem putE_has (es : List Ent) (m : Mv) (t : Addr) : ∃ x ∈ putE es m t, x.1.1 = m.1 := by
  unfold putE
  split
  · rename_i h
    obtain ⟨x, hx, e⟩ := List.any_eq_true.mp h
    exact ⟨(m, t), List.mem_map.mpr ⟨x, hx, if_pos (of_decide_eq_true e)⟩, rfl⟩
  · exact ⟨(m, t), by simp, rfl⟩
theorem putE_mem {es : List Ent} {m : Mv} {t : Addr} {x : Ent} (h : x ∈ putE es m t) : x ∈ es ∨ x = (m, t) := by
  unfold putE at h
  split at h
  · obtain ⟨y, hy, e⟩ := List.mem_map.mp h
    split at e
    · exact .inr e.symm
    · exact .inl (e ▸ hy)
  · rcases List.mem_append.mp h with h | h
    · exact .inl h
    · exact .inr (List.mem_singleton.mp h)
theorem putE_len (es : List Ent) (m : Mv) (t : Addr) : (putE es m t).length ≤ es.length + 1 := by
  unfold putE
  split <;> simp
theorem EntAt.put {K : PySem.W.Frag} {H : Hp} {es : List Ent} {m : Mv} {t : Addr} (h : EntAt K H es) (ht : SqT K H t [.int m.2.1, tv m.2.2]) : EntAt K H (putE es m t) := fun x hx => by
  rcases putE_mem hx with h1 | h1
  · exact h x h1
  · rw [h1]
    exact ht
/-- what may be told -/
def Told (ts : List Nat) (ms : List Str) (o : Option Str) : Prop := o = none ∨ (∃ c ∈ ts, o = some (sg c)) ∨ ∃ z ∈ ms, o = some z
structure ROk (n : Nat) (ps ts : List Nat) (ms : List Str) (r : Row) : Prop where
  nd : (r.map (·.1)).Nodup
  ok : ∀ e ∈ r, e.1 ∈ ps ∧ e.2.1 < n ∧ Told ts ms e.2.2
theorem ROk.put {n : Nat} {ps ts : List Nat} {ms : List Str} {es : List Ent} {m : Mv} {t : Addr} (h : ROk n ps ts ms (rowE es)) (h1 : m.1 ∈ ps) (h2 : m.2.1 < n) (h3 : Told ts ms m.2.2) : ROk n ps ts ms (rowE (putE es m t)) := by
  refine ⟨?_, fun e he => ?_⟩
  · have hn := h.nd
    unfold rowE at hn ⊢
    rw [List.map_map] at hn ⊢
    unfold putE
    split
    · rw [List.map_map]
      have : es.map ((((fun e : Mv => e.1) ∘ Prod.fst) : Ent → Nat) ∘ fun x => if x.1.1 = m.1 then (m, t) else x) = es.map (((fun e : Mv => e.1) ∘ Prod.fst) : Ent → Nat) := List.map_congr_left fun x _ => by
        show (if x.1.1 = m.1 then ((m, t) : Ent) else x).1.1 = x.1.1
        split
        · rename_i h
          exact h.symm
        · rfl
      exact this ▸ hn
    · rename_i hno
      rw [List.map_append, List.nodup_append]
      refine ⟨hn, by simp, fun a ha b hb e => hno ?_⟩
      obtain ⟨x, hx, rfl⟩ := List.mem_map.mp ha
      rw [List.map_singleton, List.mem_singleton] at hb
      rw [hb] at e
      exact List.any_eq_true.mpr ⟨x, hx, decide_eq_true e⟩
  · obtain ⟨x, hx, rfl⟩ := List.mem_map.mp he
    rcases putE_mem hx with h4 | h4
    · exact h.ok _ (List.mem_map.mpr ⟨x, h4, rfl⟩)
    · rw [h4]
      exact ⟨h1, h2, h3⟩
theorem ROk.drop {n : Nat} {ps ts : List Nat} {ms : List Str} {es : List Ent} {c : Nat} (h : ROk n ps ts ms (rowE es)) : ROk n ps ts ms (rowE (dropE es c)) := by
  have sub : (rowE (dropE es c)).Sublist (rowE es) := List.Sublist.map _ List.filter_sublist
  exact ⟨h.nd.sublist (sub.map _), fun e he => h.ok e (sub.subset he)⟩
/-- a format as drawn -/
structure FmtOk (ps ts : List Nat) (ms : List Str) (rows : List Row) (ends : List Nat) (start : Nat) : Prop where
  pos : 1 ≤ rows.length
  few : rows.length ≤ 5
  rok : ∀ r ∈ rows, ROk rows.length ps ts ms r
  nd : ends.Nodup
  en : ∀ x ∈ ends, x < rows.length
  st : start < rows.length
def FmtAt (K : PySem.W.Frag) (H : Hp) (t : Addr) (ps ts : List Nat) (ms : List Str) : Prop := ∃ (p q : Addr) (rows : List Row) (ends : List Nat) (start : Nat), SqT K H t [.ref p, .ref q, nv start] ∧ RowsL K H p rows ∧ SqL K H q (ends.map nv) ∧ FmtOk ps ts ms rows ends start
theorem FmtAt.mono {K : PySem.W.Frag} {H H' : Hp} {t : Addr} {ps ts : List Nat} {ms : List Str} (h : FmtAt K H t ps ts ms) (e : Ex H H') : FmtAt K H' t ps ts ms := by
  obtain ⟨p, q, rows, ends, start, h1, h2, h3, h4⟩ := h
  exact ⟨p, q, rows, ends, start, ex_t e h1, h2.mono e, ex_l e h3, h4⟩
section
variable {P : Program} {w : World} {K : PySem.W.Frag} {mg : Str → Option Value} {base : Heap} {r : Addr} {σ : L2.St} {H : Hp} {te ta tb td ty tw : TE} {D : Ends} {tz : TS}
theorem s_dputR {d : Addr} {k : Key} {kvs : List (Key × V)} {P : V → Hp → Prop} (hg : Rg r H) (hv : EvR r tw σ H P) (h : ∀ v H1, Xr r H H1 → P v H1 → Ev td σ H1 (.ref d) ∧ Ev ty σ H1 (kV k) ∧ H1 d = some (.dK kvs) ∧ kvs.length ≤ 1000 ∧ ∀ H2, Ex H1 H2 → D.nx σ (upd H2 d (.dK (putK kvs k v)))) : sDPut td ty tw D σ H :=
  hv H (Xr.refl hg) _ fun v H1 e1 p => by
    obtain ⟨h1, h2, h3, h4, h5⟩ := h v H1 e1 p
    exact h1 H1 (Ex.refl H1) _ fun H2 e2 => h2 H2 e2 _ fun H3 e3 => ⟨d, _, rfl, .inl ⟨kvs, k, e3 _ _ (e2 _ _ h3), rfl, by rw [sizeLine_eq]; omega, rfl⟩, h5 H3 (e2.trans e3)⟩
theorem el_rep2 {p : Addr} {xs : List V} (hp : H p = some (.lst xs)) (ha : Ev ta σ H (.ref p)) (hz : xs.length ≤ 1000) : EvL (tOp rRep ta (tC (.int 2))) σ H (xs ++ xs) := fun H1 e Q q => ha H1 e _ fun H2 e2 =>
  ⟨p, 2, xs, rfl, rfl, e2 _ _ (e _ _ hp), by decide, by decide, by show xs.length * 2 ≤ _; rw [sizeLine_eq]; omega, fun l hl => q l _ (fresh_back e2 hl) (e2.trans (Ex.new hl)) (by rw [upd_same]; simp [List.replicate])⟩
theorem er_choice {xs : List V} (ha : ∀ H1, Xr r H H1 → Ev ta σ H1 (.ref r)) (hl : ∀ H1, Xr r H H1 → EvL tb σ H1 xs) (m1 : 1 ≤ xs.length) (m2 : xs.length ≤ 1000) : EvR r (tCall (spChoice K) [] E0 (tCons ta (tCons tb tNil))) σ H (fun v _ => v ∈ xs) :=
  er_call (Pl := fun vs G' => ∃ lp, vs = [.ref r, .ref lp] ∧ lp ≠ r ∧ G' lp = some (.lst xs)) (era_cons (er_v ha) fun x G4 e4 hx => era_one (er_of (P := fun v G' => ∃ lp, v = .ref lp ∧ lp ≠ r ∧ G' lp = some (.lst xs)) fun G5 e5 => (evp_L (hl G5 (e4.trans e5))).imp fun v G6 e6 ⟨lp, hv, h1, h2⟩ => ⟨lp, hv, e5.2.ne h1, h2⟩) fun v G5 e5 ⟨lp, hv, h1, h2⟩ => ⟨lp, by rw [hx, hv], h1, h2⟩) fun vs G5 e5 ⟨lp, hv, h1, h2⟩ Q' E q' => by
    rw [hv]
    exact ⟨r, lp, xs, rfl, e5.2, sq_of (by rw [del_ne h1]; exact h2), m1, m2, fun x G6 e6 hx => q' _ _ e6 hx⟩
theorem er_choiceV {xs : List V} {p : Addr} (ha : ∀ H1, Xr r H H1 → EvA (tCons ta (tCons tb tNil)) σ H1 [.ref r, .ref p]) (hp : ∀ H1, Xr r H H1 → SqL K (del r H1) p xs) (m1 : 1 ≤ xs.length) (m2 : xs.length ≤ 1000) : EvR r (tCall (spChoice K) [] E0 (tCons ta (tCons tb tNil))) σ H (fun v _ => v ∈ xs) :=
  er_call (era_v ha) fun vs G5 e5 hv Q' E q' => by
    subst hv
    exact ⟨r, p, xs, rfl, e5.2, hp G5 e5, m1, m2, fun x G6 e6 hx => q' _ _ e6 hx⟩
/-- the three lists that a format is drawn from -/
structure Src (H : Hp) (pp tt mm : Addr) (ps ts : List Nat) (ms : List Str) : Prop where
  p : H pp = some (.lst (vstr (ps.map sg)))
  t : H tt = some (.lst (vstr (ts.map sg)))
  m : H mm = some (.lst (vstr ms))
theorem Src.mono {H H' : Hp} {pp tt mm : Addr} {ps ts : List Nat} {ms : List Str} (h : Src H pp tt mm ps ts ms) (e : Ex H H') : Src H' pp tt mm ps ts ms := ⟨e _ _ h.p, e _ _ h.t, e _ _ h.m⟩
theorem told_of {ts : List Nat} {ms : List Str} {x : V} (h : x ∈ [V.non] ++ (vstr (ts.map sg) ++ vstr (ts.map sg)) ++ vstr ms) : ∃ o, x = tv o ∧ Told ts ms o := by
  have ht : ∀ x ∈ vstr (ts.map sg), ∃ o, x = tv o ∧ Told ts ms o := fun x hx => by
    simp only [vstr, List.map_map] at hx
    obtain ⟨c, hc, rfl⟩ := List.mem_map.mp hx
    exact ⟨some (sg c), rfl, .inr (.inl ⟨c, hc, rfl⟩)⟩
  rcases List.mem_append.mp h with h | h
  · rcases List.mem_append.mp h with h | h
    · rw [List.mem_singleton.mp h]
      exact ⟨none, rfl, .inl rfl⟩
    · rcases List.mem_append.mp h with h | h
      · exact ht x h
      · exact ht x h
  · obtain ⟨z, hz, rfl⟩ := List.mem_map.mp h
    exact ⟨some z, rfl, .inr (.inr ⟨z, hz, rfl⟩)⟩
theorem RowsA.add {H : Hp} {ds : List Addr} {rows : List Row} {d : Addr} {rw' : Row} (h : RowsA K H ds rows) (hd : RowAt K H d rw') : RowsA K H (ds ++ [d]) (rows ++ [rw']) := by
  refine ⟨by simp [h.1], fun i x hx => ?_⟩
  by_cases hlt : i < rows.length
  · rw [List.getElem?_append_left hlt] at hx
    rw [List.getElem?_append_left (by rw [h.1]; exact hlt)]
    exact h.2 i x hx
  · obtain rfl : i = rows.length := by
      have := (List.getElem?_eq_some_iff.mp hx).1
      simp at this
      omega
    obtain rfl : rw' = x := by simpa using hx
    exact ⟨d, by rw [← h.1]; simp, hd⟩
/-- the numbers below n for which 0 is drawn, and the like -/
theorem er_pick {n : Nat} {wi : TI} {j : Nat} {vs : List Nat} {t : TT} (hw : ∀ H1, Xr r H H1 → IvT wi σ H1 n (YFn fun i => .int (i : Nat))) (hn : n ≤ 1000) (hj : ∀ x, wipe ((wipe σ vs).set j (some x)) vs = wipe σ vs) (ht : ∀ (i : Nat) H1, Xr r H H1 → EtR r t ((wipe σ vs).set j (some (nv i))) H1 fun _ _ => True) (hv : ∀ i : Nat, ((wipe σ vs).set j (some (nv i)))[j]? = some (some (nv i))) :
    EvR r (tLc wi (gName j) t (tVar j) vs) σ H (fun v H' => ∃ (p : Addr) (xs : List Nat), v = .ref p ∧ H p = none ∧ p ≠ r ∧ H' p = some (.lst (xs.map nv)) ∧ xs.Nodup ∧ ∀ x ∈ xs, x < n) := by
  refine (er_lc (Y := YFn fun i => .int (i : Nat)) (fun i acc _ => ∃ xs : List Nat, acc = xs.map nv ∧ xs.Nodup ∧ (∀ x ∈ xs, x < i) ∧ xs.length ≤ i) hw (fun H1 e1 => ⟨[], rfl, List.nodup_nil, fun x hx => (by cases hx), Nat.le_refl _⟩) (fun i acc H1 hi ⟨xs, h1, _, _, h2⟩ => by rw [h1, List.length_map]; omega) fun D i x acc Ha Hb hi hD nD ed hDa ⟨xs, h1, h2, h3, h4⟩ y k hk => ?_).imp fun v H' e ⟨p, acc, hv, hp, np, hp2, xs, h1, h2, h3, _⟩ => ⟨p, xs, hv, hp, np, by rw [hp2, h1], h2, h3⟩
  obtain ⟨rfl, rfl⟩ := y
  have xa : Xr r H Hb := ed.trans (Xr.of del_le ed.2)
  refine hk _ _ (Xr.refl xa.2) (hj _) ?_
  refine EtR.imp (ht i Hb xa) fun b H3 _ => ⟨fun _ => (er_var (hv i)).imp fun v H4 _ hv' => ⟨xs ++ [i], by rw [hv', h1, List.map_append]; rfl, ?_, fun x hx => ?_, by rw [List.length_append]; exact Nat.succ_le_succ h4⟩, fun _ => ⟨xs, h1, h2, fun x hx => Nat.lt_succ_of_lt (h3 x hx), Nat.le_succ_of_le h4⟩⟩
  · rw [List.nodup_append]
    exact ⟨h2, by simp, fun a ha b hb e => by
      rw [List.mem_singleton.mp hb] at e
      have := h3 a ha
      omega⟩
  · rcases List.mem_append.mp hx with h | h
    · exact Nat.lt_succ_of_lt (h3 x h)
    · rw [List.mem_singleton.mp h]
      exact Nat.lt_succ_self i
/-- d of a drawn number is asked -/
theorem etr_draw {rr : Int → Int → V} {m : Nat} {c : Int} (hrr : ∀ i j, ∃ b, rr i j = .bl b) (ha : ∀ H1, Xr r H H1 → EvA (tCons ta (tCons tb tNil)) σ H1 [.ref r, nv m]) (m1 : 1 ≤ m) (m2 : m ≤ 1000) : EtR r (tTest (tOp (rI0 rr) (tCall spDraw [] E0 (tCons ta (tCons tb tNil))) (tC (.int c)))) σ H fun _ _ => True :=
  et_testR (er_op (Pa := fun x _ => ∃ d : Nat, x = nv d ∧ d < m) (Pb := fun x y _ => (∃ d : Nat, x = nv d) ∧ y = .int c) (er_draw ha m1 m2) (fun x H1 e1 ⟨d, hx, _⟩ => er_c.imp fun v H2 _ hv => ⟨⟨d, hx⟩, hv⟩) fun x y H1 Q' e1 ⟨⟨d, hx⟩, hy⟩ q' => by
    subst hx hy
    obtain ⟨b, hb⟩ := hrr (d : Int) c
    exact ⟨(d : Int), c, rfl, rfl, by rw [hb]; exact q' _ _ (Xr.refl e1.2) ⟨b, rfl, trivial⟩⟩)
theorem etr_drawEq {m : Nat} {c : Int} (ha : ∀ H1, Xr r H H1 → EvA (tCons ta (tCons tb tNil)) σ H1 [.ref r, nv m]) (m1 : 1 ≤ m) (m2 : m ≤ 1000) : EtR r (tTest (tOp rEq (tCall spDraw [] E0 (tCons ta (tCons tb tNil))) (tC (.int c)))) σ H fun _ _ => True :=
  et_testR (er_op (Pa := fun x _ => ∃ d : Nat, x = nv d ∧ d < m) (Pb := fun x y _ => (∃ d : Nat, x = nv d) ∧ y = .int c) (er_draw ha m1 m2) (fun x H1 e1 ⟨d, hx, _⟩ => er_c.imp fun v H2 _ hv => ⟨⟨d, hx⟩, hv⟩) fun x y H1 Q' e1 ⟨⟨d, hx⟩, hy⟩ q' => by
    subst hx hy
    exact ⟨rfl, q' _ _ (Xr.refl e1.2) ⟨_, rfl, trivial⟩⟩)
def spAnyF (K : PySem.W.Frag) : Sp := fun vs H Q _ => ∃ (r pp tt mm : Addr) (ps ts : List Nat) (ms : List Str), vs = [.ref r, nv 5, .ref pp, .ref tt, .ref mm] ∧ Rg r H ∧ Src (del r H) pp tt mm ps ts ms ∧ ps.length ≤ 3 ∧ ts.length ≤ 10 ∧ ms.length ≤ 10 ∧ ∀ (t : Addr) (H' : Hp), Xr r H H' → FmtAt K (del r H') t ps ts ms → Q (.ref t) H'
abbrev N_law_any_format : List Str := ["_law_rng_here", "_law_cap", "_law_paper", "_law_tells", "_law_marks_here", "_law_many", "_law_rows", "_law_spot", "_law_line", "_law_letter", "_law_told", "_law_stops"]
theorem sc_law_any_format : FnScope N_law_any_format ["_law_rng_here", "_law_cap", "_law_paper", "_law_tells", "_law_marks_here"] (defScope (top 65)) := ⟨rfl, rfl, rfl, by decide +kernel, rfl, by decide +kernel, by decide +kernel⟩
theorem ok_law_any_format (T : Txt K mg) : Ok P w K mg base 3 "_law_any_format" ["_law_rng_here", "_law_cap", "_law_paper", "_law_tells", "_law_marks_here"] (spAnyF K) := by
  refine ok_of T.law_any_format sc_law_any_format (fun vs H Q E h => ?_) (fun _ _ _ _ _ _ us hl => match us, hl with | [_, _, _, _, _], _ => rfl) (fun f cdv A outer s H vs Q E hr h => ?_)
  · obtain ⟨_, _, _, _, _, _, _, rfl, _⟩ := h
    rfl
  · obtain ⟨r, pp, tt, mm, ps, ts, ms, rfl, hg, src, p3, t10, m10, fin⟩ := h
    refine ⟨_, (pss_cons (ps_set (i := 5) sc_law_any_format.nd rfl (Or.inl rfl) (pe_op op_add pe_int (pe_f (ok_law_draw T) (hr.mono (by decide)) (pa_cons (pv 0) (pa_cons (pv 1) pa_nil)))))
 (pss_cons (ps_set (i := 6) sc_law_any_format.nd rfl (Or.inl rfl) (pe_lst pa_nil))
 (pss_cons (ps_for PassesOwn.never rfl (pi_range1 rfl T.range (pa_cons (pv 5) pa_nil)) (pg_name (i := 7) sc_law_any_format.nd rfl (Or.inl rfl))
 (pss_cons (ps_set (i := 8) sc_law_any_format.nd rfl (Or.inl rfl) pe_dnewK)
 (pss_cons (ps_fzs (j := 8) (ps_for PassesOwn.never rfl (pi_listK (K := K) (pv 2)) (pg_name (i := 9) sc_law_any_format.nd rfl (Or.inl rfl))
 (pss_one (ps_if (pt_cmpR op_gt (pe_f (ok_law_draw T) (hr.mono (by decide)) (pa_cons (pv 0) (pa_cons pe_int pa_nil))) pe_int (nomark _))
 (pss_cons (ps_set (i := 10) sc_law_any_format.nd rfl (Or.inl rfl) (pe_f (ok_law_choice T) (hr.mono (by decide)) (pa_cons (pv 0) (pa_cons (pe_op op_cat (pe_op op_cat (pe_lst (pa_cons pe_non pa_nil)) (pe_op op_rep (pv 3) pe_int)) (pv 4)) pa_nil))))
 (pss_one (ps_dput (hu_of hr) (pv 8) (pv 9) (pe_tup (pa_cons (pe_f (ok_law_draw T) (hr.mono (by decide)) (pa_cons (pv 0) (pa_cons (pv 5) pa_nil))) (pa_cons (pv 10) pa_nil))) rfl)))
 pss_nil))))
 (pss_one (ps_expr (pe_bm PySem.F.plainAttrs_list PySem.F.slot_list_append PySem.F.type_list_append mt_append (pv 6) (pa_cons (pv 8) pa_nil)))))))
 (pss_cons (ps_setLc (i := 11) (own := [("_law_spot", 7)]) (g := gName 7) (by rfl) sc_law_any_format.nd rfl rfl (sw_true rfl rfl rfl (by decide +kernel)) (pi_range1 rfl T.range (pa_cons (pv 5) pa_nil)) (blkOk_by (own := [("_law_spot", 7)]) (N := N_law_any_format) (sc := defScope (top 65)) (by decide +kernel)) (fun _ _ _ _ _ => (pg_name (i := 7) sc_law_any_format.nd rfl (Or.inl rfl))) (fun _ _ _ _ _ => by exact (pts_one (pt_cmpR op_eq (pe_f (ok_law_draw T) (hr.mono (by decide)) (pa_cons (pv 0) (pa_cons pe_int pa_nil))) pe_int (nomark _)))) (fun _ _ _ _ _ => by exact (pv 7)))
 (pss_one (ps_ret (pe_tup (pa_cons (pv 6) (pa_cons (pv 11) (pa_cons (pe_f (ok_law_draw T) (hr.mono (by decide)) (pa_cons (pv 0) (pa_cons (pv 5) pa_nil))) pa_nil)))))))))), ?_⟩
    refine q_asgR hg (P := fun v _ => ∃ n : Nat, v = nv n ∧ 1 ≤ n ∧ n ≤ 5) (er_op (Pa := fun x _ => x = .int 1) (Pb := fun x y _ => x = .int 1 ∧ ∃ d, y = nv d ∧ d < 5) er_c (fun x H3 e3 hx => (er_draw (many := 5) (fun H4 e4 => ea_cons (ev_var rfl) (ea_cons (ev_var rfl) ea_nil)) (by omega) (by omega)).imp fun v H4 _ hv => ⟨hx, hv⟩) fun x y H3 Q' e3 ⟨hx, d, hy, hd⟩ q' => ?_) fun v H1 x1 ⟨n, hv, n1, n5⟩ => ?_
    · subst hx hy
      exact ⟨1, d, rfl, rfl, q' _ _ (Xr.refl e3.2) ⟨d + 1, by show V.int _ = V.int _; congr 1; omega, by omega, by omega⟩⟩
    subst hv
    refine q_asgP (evp_L (el_lst ea_nil (by simp))) fun v H2 e2 ⟨R, hv, hR0, hR1⟩ => ?_
    subst hv
    have nR := x1.2.ne hR0
    have x2 := x1.trans (Xr.of e2 x1.2)
    let D2 : Hp → Hp := fun G => del R (del r G)
    have d2 : ∀ {G G' : Hp}, Xr r G G' → Ex (D2 G) (D2 G') := fun e => del_ex e.ex
    let Inv1 : Nat → L2.St → Hp → Prop := fun i σ' G => ∃ (rows : List Row) (ds : List Addr) (a b c d e : Option V), σ' = [some (.ref r), some (nv 5), some (.ref pp), some (.ref tt), some (.ref mm), some (nv n), some (.ref R), a, b, c, d, e] ∧ Xr r H1 G ∧ G R = some (.lst (ds.map V.ref)) ∧ RowsA K (D2 G) ds rows ∧ rows.length = i ∧ ∀ r ∈ rows, ROk n ps ts ms r
    refine q_forR1 (n := (n : Int)) (ea_cons (ev_var rfl) ea_nil) (by omega) Inv1 (fun G e => ⟨[], [], _, _, _, _, _, rfl, (Xr.refl x1.2).trans (Xr.of (e2.trans e) x1.2), e _ _ hR1, ⟨rfl, fun i r hr => (by simp at hr)⟩, rfl, fun r hr => (by cases hr)⟩) (fun i σ' G hi hP => ?_) fun σ' G hP => ?_
    · obtain ⟨rows, ds, a, b, c, d, e, rfl, xG, hR, hA, hl, hok⟩ := hP
      have hi : i < n := by omega
      refine q_asgP (P := fun v G' => ∃ L, v = .ref L ∧ G L = none ∧ G' L = some (.dK [])) (fun G1 e Q' q' p hp => q' _ _ (Ex.new hp) ⟨p, rfl, fresh_back e hp, upd_same⟩) fun v G1 e1 ⟨L, hv, hL0, hL1⟩ => ?_
      subst hv
      have nL := xG.2.ne hL0
      have nLR : L ≠ R := fun z => by rw [z, hR] at hL0; cases hL0
      have xG1 : Xr r G G1 := Xr.of e1 xG.2
      let D3 : Hp → Hp := fun G => del L (D2 G)
      have d3 : ∀ {G G' : Hp}, Xr r G G' → Ex (D3 G) (D3 G') := fun e => del_ex (d2 e)
      have hpp0 : ∀ {G' : Hp}, Xr r H G' → G' pp = some (.lst (vstr (ps.map sg))) := fun e => e.1 _ _ src.p
      show tFor _ _ _ _ _ _
      refine s_forL (a := pp) (xs := vstr (ps.map sg)) (ev_var rfl) (sq_of (hpp0 ((x1.trans xG).trans xG1))) (fun j σ' G' => ∃ (es : List Ent) (u v : Option V), σ' = [some (.ref r), some (nv 5), some (.ref pp), some (.ref tt), some (.ref mm), some (nv n), some (.ref R), some (nv i), some (.ref L), u, v, e] ∧ Xr r G G' ∧ G' L = some (.dK (kvE es)) ∧ EntAt K (D3 G') es ∧ ROk n ps ts ms (rowE es) ∧ es.length ≤ j)
        (fun G2 e2 => ⟨[], _, _, rfl, xG1.trans (Xr.of e2 xG1.2), e2 _ _ hL1, fun x hx => (by cases hx), ⟨List.nodup_nil, fun e he => (by cases he)⟩, Nat.zero_le _⟩) (fun j σ' G' _ ⟨_, _, _, _, h, _⟩ => sq_of (hpp0 ((x1.trans xG).trans h))) (fun j y σ' G2 hy hP => ?_) fun σ' G2 hP => ?_
      · obtain ⟨es, u, v, rfl, xG2, hL2, hE, hr, hel⟩ := hP
        obtain ⟨c, hc, rfl⟩ : ∃ c, ps[j]? = some c ∧ V.str (sg c) = y := by
          simp only [vstr] at hy
          rw [List.getElem?_map, List.getElem?_map] at hy
          cases hc : ps[j]? with
          | none => rw [hc] at hy; cases hy
          | some c => rw [hc] at hy; exact ⟨c, rfl, Option.some.inj hy⟩
        have hj := (List.getElem?_eq_some_iff.mp hc).1
        refine s_whenR xG2.2 (Pb := fun _ _ => True) (et_testR (er_op (Pa := fun x _ => ∃ d, x = nv d ∧ d < 4) (Pb := fun x y _ => ∃ d : Nat, x = nv d ∧ y = .int 0) (er_draw (many := 4) (fun H4 e4 => ea_cons (ev_var rfl) (ea_cons ev_c ea_nil)) (by omega) (by omega)) (fun x G3 e3 ⟨d, hx, _⟩ => er_c.imp fun v G4 _ hv => ⟨d, hx, hv⟩) fun x y G3 Q' e3 ⟨d, hx, hy⟩ q' => ?_)) (fun G3 x3 _ => ?_) fun G3 x3 _ => ?_
        · subst hx hy
          exact ⟨(d : Int), 0, rfl, rfl, q' _ _ (Xr.refl e3.2) ⟨_, rfl, trivial⟩⟩
        · have xH3 := ((x1.trans xG).trans xG2).trans x3
          refine q_asgR x3.2 (P := fun v _ => ∃ o, v = tv o ∧ Told ts ms o) ((er_choice (xs := [V.non] ++ (vstr (ts.map sg) ++ vstr (ts.map sg)) ++ vstr ms) (fun G5 e5 => ev_var rfl) (fun G5 e5 => ?_) (by simp [vstr]) (by simp [vstr]; omega)).imp fun v G5 _ hv => told_of hv) fun v G4 x4 ⟨o, hv, ho⟩ => ?_
          · have s5 := src.mono (xH3.trans e5).1
            exact el_catR (el_catL (el_lst (vs := [.non]) (ea_cons ev_c ea_nil) (by simp)) (el_rep2 s5.t (ev_var rfl) (by simp [vstr]; omega)) (by simp [vstr]; omega)) s5.m (ev_var rfl) (by simp [vstr]; omega)
          · subst hv
            refine s_dputR (d := L) (k := .inr (sg c)) (kvs := kvE es) (P := fun v G' => ∃ t g, v = .ref t ∧ t ≠ r ∧ G4 t = none ∧ g < n ∧ G' t = some (.tup [nv g, tv o])) x4.2 ((er_tup (Pl := fun vs _ => ∃ g, vs = [nv g, tv o] ∧ g < n) (era_cons (er_draw (many := n) (fun H4 e4 => ea_cons (ev_var rfl) (ea_cons (ev_var rfl) ea_nil)) (by omega) (by omega)) fun x G5 e5 ⟨g, hx, hgn⟩ => era_one (er_var rfl) fun y G6 e6 hy => ⟨g, by rw [hx, hy], hgn⟩) (fun _ _ _ _ h => h) fun vs _ ⟨g, h, _⟩ => by rw [h]; simp).imp fun v G5 e5 ⟨t, vs, hv, ht, ht0, ht1, g, hvs, hgn⟩ => ⟨t, g, hv, ht, ht0, hgn, by rw [ht1, hvs]⟩) fun v G5 e5 ⟨t, g, hv, htr, ht0, hgn, ht1⟩ => ?_
            subst hv
            have x24 := x3.trans x4
            have x25 := x24.trans e5
            refine ⟨ev_var rfl, ev_var rfl, x25.get hL2 nL, by simp only [kvE, List.length_map]; omega, fun G6 e6 => ?_⟩
            have x6 : Xr r G2 G6 := x25.trans (Xr.of e6 x25.2)
            have ntL : t ≠ L := fun z => by rw [z, x24.get hL2 nL] at ht0; cases ht0
            have ntR : t ≠ R := fun z => by rw [z, (xG2.trans x24).get hR nR] at ht0; cases ht0
            have hD : ∀ o', D3 (upd G6 L o') = D3 G6 := fun o' => by
              show del L (del R (del r (upd G6 L o'))) = del L (del R (del r G6))
              rw [del_comm (p := L) (q := R), del_comm (p := L) (q := r), del_upd, del_comm (p := r) (q := L), del_comm (p := R) (q := L)]
            have hm := put_kvE es (c, g, o) t
            refine ⟨putE es (c, g, o) t, _, _, rfl, (xG2.trans x6).mut hL0 nL, by rw [upd_same]; exact congrArg _ (congrArg _ hm), ?_, hr.put (List.mem_of_getElem? hc) hgn ho, Nat.le_trans (putE_len _ _ _) (by omega)⟩
            rw [hD]
            refine (hE.mono (d3 x6)).put (st_of ?_)
            show del L (del R (del r G6)) t = _
            rw [del_ne ntL, del_ne ntR, del_ne htr]
            exact e6 _ _ ht1
        · exact ⟨es, _, _, rfl, xG2.trans x3, x3.get hL2 nL, hE.mono (d3 x3), hr, by omega⟩
      · obtain ⟨es, u, v, rfl, xG2, hL2, hE, hr, hel⟩ := hP
        refine ⟨L, _, rfl, hL2, trivial, fun od => ?_⟩
        have xf : Xr r G (upd G2 L (.frz od (.dK (kvE es)))) := xG2.mut hL0 nL
        refine s_app (xs := ds.map V.ref) (xf.get hR nR) (ev_var rfl) (v := .ref L) (ev_var rfl) (by rw [List.length_map, hA.1]; omega) fun G5 e5 => ?_
        have x5 : Xr r G G5 := xf.trans (Xr.of e5 xf.2)
        have hd2 : ∀ o', D2 (upd G5 R o') = D2 G5 := fun o' => by
          show del R (del r (upd G5 R o')) = del R (del r G5)
          rw [del_comm (p := R) (q := r), del_upd, del_comm (p := r) (q := R)]
        have hfL : G5 L = some (.frz od (.dK (kvE es))) := e5 _ _ upd_same
        refine ⟨rows ++ [rowE es], ds ++ [L], _, _, _, _, _, rfl, (xG.trans x5).mut hR0 nR, by rw [upd_same, List.map_append]; rfl, ?_, by simp [hl], fun r' hr' => ?_⟩
        · rw [hd2]
          have e25 : Ex (D3 G2) (D2 G5) := by
            have e1 : Ex (D3 G2) (D3 G5) := by
              have : D3 (upd G2 L (.frz od (.dK (kvE es)))) = D3 G2 := by
                show del L (del R (del r (upd G2 L _))) = del L (del R (del r G2))
                rw [del_comm (p := L) (q := R), del_comm (p := L) (q := r), del_upd, del_comm (p := r) (q := L), del_comm (p := R) (q := L)]
              rw [← this]
              exact d3 (Xr.of e5 xf.2)
            exact e1.trans del_le
          refine (hA.mono (d2 x5)).add (rowAt_of ⟨od, ?_⟩ (hE.mono e25))
          show del R (del r G5) L = _
          rw [del_ne nLR, del_ne nL]
          exact hfL
        · rcases List.mem_append.mp hr' with h | h
          · exact hok r' h
          · rw [List.mem_singleton.mp h]
            exact hr
    · obtain ⟨rows, ds, a, b, c, d, e, rfl, xG, hR, hA, hl, hok⟩ := hP
      have hl : rows.length = n := by simpa using hl
      refine q_asgR xG.2 (er_pick (n := n) (fun H5 e5 => ivt_range1 (ea_cons (ev_var rfl) ea_nil) (by omega)) (by omega) (fun _ => rfl) (fun i H5 e5 => etr_drawEq (m := 2) (fun H6 e6 => ea_cons (ev_var rfl) (ea_cons ev_c ea_nil)) (by omega) (by omega)) fun _ => rfl) fun v G3 x3 ⟨sp, xs, hv, hs0, nsp, hs1, xnd, xlt⟩ => ?_
      subst hv
      refine s_retR x3.2 (er_tup (Pl := fun vs _ => ∃ d, vs = [.ref R, .ref sp, nv d] ∧ d < n) (era_cons (er_var rfl) fun x G4 e4 hx => era_cons (er_var rfl) fun y G5 e5 hy => era_one (er_draw (many := n) (fun H6 e6 => ea_cons (ev_var rfl) (ea_cons (ev_var rfl) ea_nil)) (by omega) (by omega)) fun z G6 e6 ⟨d, hz, hd⟩ => ⟨d, by rw [hx, hy, hz], hd⟩) (fun _ _ _ _ h => h) fun vs _ ⟨d, h, _⟩ => by rw [h]; simp) fun v G4 x4 ⟨t, vs, hv, ht, ht0, ht1, d', hvs, hd'⟩ => ?_
      subst hv hvs
      have x34 := x3.trans x4
      have hA' : RowsA K (del r G4) ds rows := (hA.mono (d2 x34)).mono del_le
      refine fin t G4 ((x1.trans xG).trans x34) ⟨R, sp, rows, xs, d', st_of (by rw [del_ne ht]; exact ht1), ⟨ds, sq_of (by rw [del_ne nR]; exact x34.get hR nR), hA'⟩, sq_of (by rw [del_ne nsp]; exact x4.get hs1 nsp), ?_⟩
      exact ⟨by omega, by omega, fun r' hr' => by rw [hl]; exact hok r' hr', xnd, fun x hx => by rw [hl]; exact xlt x hx, by omega⟩
end
end K33
/-! text Dw -/
set_option Elab.async false
set_option linter.all false
set_option maxRecDepth 100000
set_option maxHeartbeats 4000000
namespace K33
open PySem PySem.Spec PyProof.Rows L2 Evl K33G
section
variable {P : Program} {w : World} {K : PySem.W.Frag} {mg : Str → Option Value} {base : Heap} {r g : Addr} {σ : L2.St} {H : Hp} {te ta tb td ty tw : TE} {D : Ends} {tz : TS} {tr : TA}
theorem sqT_delL {ys xs : List V} {t : Addr} (h : SqT K H t xs) (hg : H g = some (.lst ys)) : SqT K (del g H) t xs := by
  rcases h with (h | ⟨o, h⟩) | h
  · exact .inl (.inl (by rw [del_ne (fun z => by rw [z, hg] at h; cases h)]; exact h))
  · exact .inl (.inr ⟨o, by rw [del_ne (fun z => by rw [z, hg] at h; cases h)]; exact h⟩)
  · exact .inr h
theorem sqL_del {xs : List V} {p : Addr} (h : SqL K H p xs) (n : p ≠ g) : SqL K (del g H) p xs := by
  rcases h with (h | ⟨o, h⟩) | h
  · exact .inl (.inl (by rw [del_ne n]; exact h))
  · exact .inl (.inr ⟨o, by rw [del_ne n]; exact h⟩)
  · exact .inr h
theorem fd_delL {ys : List V} {d : Addr} {kvs : List (Key × V)} (h : FD H d kvs) (hg : H g = some (.lst ys)) : FD (del g H) d kvs := by
  obtain ⟨o, h⟩ := h
  exact ⟨o, by rw [del_ne (fun z => by rw [z, hg] at h; cases h)]; exact h⟩
theorem rowsA_delL {ys : List V} {ds : List Addr} {rows : List Row} (h : RowsA K H ds rows) (hg : H g = some (.lst ys)) : RowsA K (del g H) ds rows := ⟨h.1, fun i x hx => by
  obtain ⟨d, h1, kvs, h2, h3, h4⟩ := h.2 i x hx
  exact ⟨d, h1, kvs, fd_delL h2 hg, h3, fun j e he => let ⟨t, q1, q2⟩ := h4 j e he; ⟨t, q1, sqT_delL q2 hg⟩⟩⟩
/-- a row written out -/
def RowW (K : PySem.W.Frag) : List (TE × TE) → L2.St → Hp → Row → Prop
  | [], _, _, [] => True
  | (tk, tx) :: trs, σ, H, e :: rw => Ev tk σ H (.str (sg e.1)) ∧ EvP tx σ H (fun v H' => ∃ t, v = .ref t ∧ SqT K H' t [.int e.2.1, tv e.2.2]) ∧ RowW K trs σ H rw
  | _, _, _, _ => False
theorem EvP.to {P : V → Hp → Prop} {H' : Hp} (h : EvP te σ H P) (e : Ex H H') : EvP te σ H' P := fun H1 a Q q => h H1 (e.trans a) Q q
theorem RowW.to : ∀ {trs : List (TE × TE)} {x : Row} {H H' : Hp}, RowW K trs σ H x → Ex H H' → RowW K trs σ H' x
  | [], [], _, _, _, _ => trivial
  | (_, _) :: _, _ :: _, _, _, ⟨h1, h2, h3⟩, e => ⟨h1.mono e, h2.to e, h3.to e⟩
  | [], _ :: _, _, _, h, _ => h.elim
  | (_, _) :: _, [], _, _, h, _ => h.elim
theorem row_run : ∀ {trs : List (TE × TE)} {x : Row} {G : Hp}, RowW K trs σ G x → ∀ Q : List (V × V) → Hp → Prop, (∀ es G', Ex G G' → rowE es = x → EntAt K G' es → Q ((kvE es).map fun kv => (kV kv.1, kv.2)) G') → tPairs trs σ G Q
  | [], [], G, _, Q, q => q [] G (Ex.refl G) rfl fun x hx => (by cases hx)
  | (_, _) :: _, m :: _, G, ⟨h1, h2, h3⟩, Q, q => h1 G (Ex.refl G) _ fun H2 e2 => h2 H2 e2 _ fun v H3 e3 ⟨t, hv, ht⟩ => row_run (h3.to (e2.trans e3)) _ fun es H4 e4 h5 h6 => by
    have := q ((m, t) :: es) H4 ((e2.trans e3).trans e4) (by rw [← h5]; rfl) fun x hx => (List.mem_cons.mp hx).elim (fun z => by rw [z]; exact ex_t e4 ht) (h6 x)
    rw [hv]
    exact this
  | [], _ :: _, _, h, _, _ => h.elim
  | (_, _) :: _, [], _, h, _, _ => h.elim
theorem merge_all : ∀ (ks acc : List (Key × V)), ((acc ++ ks).map Prod.fst).Nodup → ks.foldl (fun a kv => putK a kv.1 kv.2) acc = acc ++ ks
  | [], acc, _ => by simp
  | kv :: ks, acc, h => by
    have h1 : putK acc kv.1 kv.2 = acc ++ [kv] := by
      unfold putK
      rw [if_neg]
      intro h2
      obtain ⟨x, hx, e⟩ := List.any_eq_true.mp h2
      rw [List.map_append, List.nodup_append] at h
      exact h.2.2 x.1 (List.mem_map.mpr ⟨x, hx, rfl⟩) kv.1 (by simp) (of_decide_eq_true e)
    show ks.foldl _ (putK acc kv.1 kv.2) = _
    rw [h1, merge_all ks (acc ++ [kv]) (by rw [List.append_assoc]; exact h), List.append_assoc]
    rfl
theorem evp_rowW {trs : List (TE × TE)} {x : Row} (h : RowW K trs σ H x) (nd : (x.map (·.1)).Nodup) (hz : x.length ≤ 15) : EvP (tFz (tDisp trs)) σ H (fun v H' => ∃ d, v = .ref d ∧ RowAt K H' d x) := fun H1 e Q q p hp =>
  row_run (h.to (e.trans (Ex.new hp))) _ fun es H2 e2 h1 h2 => by
    have hm : mergeK [] (kvE es) = kvE es := by
      unfold mergeK
      rw [merge_all _ _ (by
        rw [List.nil_append]
        unfold kvE
        rw [List.map_map]
        rw [← h1] at nd
        unfold rowE at nd
        rw [List.map_map] at nd
        have e3 : es.map (Prod.fst ∘ fun x : Ent => ((.inr (sg x.1.1) : Key), V.ref x.2)) = (es.map ((fun e : Mv => e.1) ∘ Prod.fst)).map fun c => (.inr (sg c) : Key) := by
          rw [List.map_map]
          rfl
        rw [e3]
        exact nd.map _ fun a b hab => fun z => hab ((key_eq a b).mp z))]
      rfl
    have hl : (kvE es).length ≤ 15 := by
      have := congrArg List.length h1
      simp only [rowE, List.length_map] at this
      simp only [kvE, List.length_map]
      omega
    refine ⟨e2 p _ upd_same, kvE es, rfl, hl, p, _, rfl, upd_same, trivial, fun od => ?_⟩
    rw [hm]
    have ex : Ex H1 (upd (upd H2 p (.dK (kvE es))) p (.frz od (.dK (kvE es)))) := Ex.mut (Ex.mut ((Ex.new hp).trans e2) hp) hp
    refine q _ _ ex ⟨p, rfl, ?_⟩
    rw [← h1]
    refine rowAt_of ⟨od, upd_same⟩ fun y hy => ?_
    have h3 := h2 y hy
    have np : H2 p = some (.dK []) := e2 p _ upd_same
    rcases h3 with (h3 | ⟨o, h3⟩) | h3
    · have n : y.2 ≠ p := fun z => by rw [z, np] at h3; cases h3
      exact .inl (.inl (by rw [upd_ne n, upd_ne n]; exact h3))
    · have n : y.2 ≠ p := fun z => by rw [z, np] at h3; cases h3
      exact .inl (.inr ⟨o, by rw [upd_ne n, upd_ne n]; exact h3⟩)
    · exact .inr h3
theorem evp_row0 : EvP (tFz tDNewK) σ H (fun v H' => ∃ d, v = .ref d ∧ RowAt K H' d []) := fun H1 e Q q p hp =>
  ⟨p, _, rfl, upd_same, trivial, fun od => q _ _ (Ex.mut (Ex.new hp) hp) ⟨p, rfl, [], ⟨od, upd_same⟩, rfl, fun i x hx => by simp at hx⟩⟩
/-- (goal, told) -/
theorem evp_mv {t1 t2 : TE} {n : Nat} {o : Option Str} (h1 : Ev t1 σ H (.int n)) (h2 : Ev t2 σ H (tv o)) : EvP (tTup (tCons t1 (tCons t2 tNil))) σ H (fun v H' => ∃ t, v = .ref t ∧ SqT K H' t [.int n, tv o]) :=
  (evp_U (eu_tup (ea_cons h1 (ea_cons h2 ea_nil)) (by simp))).imp fun v H' e ⟨t, hv, _, ht⟩ => ⟨t, hv, st_of ht⟩
theorem ea_rowNil : EvAP tNil σ H (fun vs H' => ∃ ds : List Addr, vs = ds.map V.ref ∧ RowsA K H' ds []) := fun H1 e Q q => q [] H1 (Ex.refl H1) ⟨[], rfl, rfl, fun i x hx => by simp at hx⟩
theorem EvAP.to {Pl : List V → Hp → Prop} {H' : Hp} (h : EvAP tr σ H Pl) (e : Ex H H') : EvAP tr σ H' Pl := fun H1 a Q q => h H1 (e.trans a) Q q
theorem ea_row {x : Row} {rows : List Row} (h : EvP te σ H (fun v H' => ∃ d, v = .ref d ∧ RowAt K H' d x)) (hr : EvAP tr σ H (fun vs H' => ∃ ds : List Addr, vs = ds.map V.ref ∧ RowsA K H' ds rows)) : EvAP (tCons te tr) σ H (fun vs H' => ∃ ds : List Addr, vs = ds.map V.ref ∧ RowsA K H' ds (x :: rows)) := fun H1 e Q q =>
  h H1 e _ fun v H2 e2 ⟨d, hv, hd⟩ => hr H2 (e.trans e2) _ fun vs H3 e3 ⟨ds, hvs, hA⟩ => q _ H3 (e2.trans e3) ⟨d :: ds, by rw [hv, hvs]; rfl, by rw [List.length_cons, List.length_cons, hA.1], fun i y hy => by
    cases i with
    | zero =>
      cases hy
      exact ⟨d, rfl, hd.mono e3⟩
    | succ i => exact hA.2 i y hy⟩
theorem evp_lstA {Pl : List V → Hp → Prop} (h : EvAP tr σ H Pl) (hm : ∀ vs H1 H2, Ex H1 H2 → Pl vs H1 → Pl vs H2) (hz : ∀ vs H1, Pl vs H1 → vs.length ≤ 1000) : EvP (tLst tr) σ H (fun v H' => ∃ p vs, v = .ref p ∧ H p = none ∧ H' p = some (.lst vs) ∧ Pl vs H') := fun H1 e Q q =>
  h H1 e _ fun vs H2 e2 hp => ⟨sz_of (by have := hz vs H2 hp; omega), fun p hn => q _ _ (e2.trans (Ex.new hn)) ⟨p, vs, rfl, fresh_back (e.trans e2) hn, upd_same, hm _ _ _ (Ex.new hn) hp⟩⟩
theorem s_famRet {te' : TA} {rows : List Row} {ends : List Nat} {start : Nat} (h1 : EvAP tr σ H (fun vs H' => ∃ ds : List Addr, vs = ds.map V.ref ∧ RowsA K H' ds rows)) (h2 : EvA te' σ H (ends.map nv)) (hz : rows.length ≤ 100) (hz2 : ends.length ≤ 100)
    (k : ∀ (t p q : Addr) (H' : Hp), Ex H H' → H p = none → H q = none → SqT K H' t [.ref p, .ref q, nv start] → RowsL K H' p rows → SqL K H' q (ends.map nv) → D.rt (.ref t) H') : tRet (tTup (tCons (tLst tr) (tCons (tLst te') (tCons (tC (nv start)) tNil)))) D σ H := by
  refine s_retP (evp_tupA (Pa := fun vs G => ∃ p q, vs = [.ref p, .ref q, nv start] ∧ H p = none ∧ H q = none ∧ RowsL K G p rows ∧ SqL K G q (ends.map nv)) (ea_consP (evp_lstA h1 (fun vs H1 H2 e ⟨ds, a, b⟩ => ⟨ds, a, b.mono e⟩) fun vs H1 ⟨ds, a, b⟩ => by rw [a, List.length_map, b.1]; omega) fun x H3 e3 ⟨p, vs, hx, hp, hp1, ds, hvs, hA⟩ => ea_consP (evp_L (el_lst (h2.mono e3) (by simp; omega))) fun y H4 e4 ⟨q, hy, hq, hq1⟩ => ea_one (evp_of ev_c) fun z H5 e5 hz => ⟨p, q, by rw [hx, hy, hz], hp, fresh_back e3 hq, ⟨ds, sq_of (by rw [e5 _ _ (e4 _ _ hp1), hvs]), hA.mono (e4.trans e5)⟩, sq_of (e5 _ _ hq1)⟩) (fun vs H1 H2 e ⟨p, q, a, b, c, d, f⟩ => ⟨p, q, a, b, c, d.mono e, ex_l e f⟩) fun vs H1 ⟨p, q, a, _⟩ => by rw [a]; simp) fun v H1 e1 ⟨t, vs, hv, ht, ht1, p, q, hvs, hp, hq, hR, hE⟩ => ?_
  subst hv hvs
  exact k t p q H1 e1 hp hq (st_of ht1) hR hE
end
theorem all_cons {α : Type} {p : α → Prop} {x : α} {l : List α} (h : p x) (hl : ∀ y ∈ l, p y) : ∀ y ∈ x :: l, p y := fun y hy => (List.mem_cons.mp hy).elim (fun z => z ▸ h) (hl y)
theorem fmt_of {ps ts : List Nat} {ms : List Str} {rows : List Row} {ends : List Nat} {start : Nat} (n : Nat) (hn : rows.length = n) (h : ∀ x ∈ rows, ROk n ps ts ms x) (h1 : 1 ≤ n) (h5 : n ≤ 5) (nd : ends.Nodup) (en : ∀ x ∈ ends, x < n) (st : start < n) : FmtOk ps ts ms rows ends start := by
  subst hn
  exact ⟨h1, h5, h, nd, en, st⟩
theorem ROk.nil {n : Nat} {ps ts : List Nat} {ms : List Str} : ROk n ps ts ms [] := ⟨List.nodup_nil, fun e he => (by cases he)⟩
theorem ROk.cons {n : Nat} {ps ts : List Nat} {ms : List Str} {x : Row} (h : ROk n ps ts ms x) {c g : Nat} {o : Option Str} (h1 : c ∈ ps) (h2 : g < n) (h3 : Told ts ms o) (h4 : c ∉ x.map (·.1)) : ROk n ps ts ms ((c, g, o) :: x) :=
  ⟨by rw [List.map_cons, List.nodup_cons]; exact ⟨h4, h.nd⟩, fun e he => (List.mem_cons.mp he).elim (fun z => by rw [z]; exact ⟨h1, h2, h3⟩) (h.ok e)⟩
section
variable {P : Program} {w : World} {K : PySem.W.Frag} {mg : Str → Option Value} {base : Heap}
def spFamily (K : PySem.W.Frag) : Sp := fun vs H Q _ => ∃ (way : Nat) (pp tt mm : Addr) (p q r a b : Nat) (m n : Str), vs = [nv way, .ref pp, .ref tt, .ref mm] ∧ Src H pp tt mm [p, q, r] [a, b] [m, n] ∧ p ≠ q ∧ p ≠ r ∧ q ≠ r ∧
  ∀ (t x y : Addr) (H' : Hp) (rows : List Row) (ends : List Nat) (start : Nat), Ex H H' → H x = none → H y = none → SqT K H' t [.ref x, .ref y, nv start] → RowsL K H' x rows → SqL K H' y (ends.map nv) → FmtOk [p, q, r] [a, b] [m, n] rows ends start → Q (.ref t) H'
abbrev N_law_family : List Str := ["_law_way", "_law_paper", "_law_tells", "_law_marks_here", "_law_p", "_law_q", "_law_r", "_law_a", "_law_b", "_law_m", "_law_n", "_law_core"]
theorem sc_law_family : FnScope N_law_family ["_law_way", "_law_paper", "_law_tells", "_law_marks_here"] (defScope (top 66)) := ⟨rfl, rfl, rfl, by decide +kernel, rfl, by decide +kernel, by decide +kernel⟩
theorem ok_law_family (T : Txt K mg) : Ok P w K mg base 1 "_law_family" ["_law_way", "_law_paper", "_law_tells", "_law_marks_here"] (spFamily K) := by
  refine ok_of T.law_family sc_law_family (fun vs H Q E h => ?_) (fun _ _ _ _ _ _ us hl => match us, hl with | [_, _, _, _], _ => rfl) (fun f cdv A outer s H vs Q E hr h => ?_)
  · obtain ⟨_, _, _, _, _, _, _, _, _, _, _, rfl, _⟩ := h
    rfl
  · obtain ⟨way, pp, tt, mm, p, q, r, a, b, m, n, rfl, src, pq, pr, qr, fin⟩ := h
    refine ⟨_, (pss_cons (ps_asg (pe_slice sl_list (pv 1) po_none (po_some pe_int)) (pg_unl rfl (pgs_cons (pg_name (i := 4) sc_law_family.nd rfl (Or.inl rfl)) (pgs_cons (pg_name (i := 5) sc_law_family.nd rfl (Or.inl rfl)) (pgs_cons (pg_name (i := 6) sc_law_family.nd rfl (Or.inl rfl)) pgs_nil)))))
 (pss_cons (ps_asg (pe_slice sl_list (pv 2) po_none (po_some pe_int)) (pg_unl rfl (pgs_cons (pg_name (i := 7) sc_law_family.nd rfl (Or.inl rfl)) (pgs_cons (pg_name (i := 8) sc_law_family.nd rfl (Or.inl rfl)) pgs_nil))))
 (pss_cons (ps_asg (pe_slice sl_list (pv 3) po_none (po_some pe_int)) (pg_unl rfl (pgs_cons (pg_name (i := 9) sc_law_family.nd rfl (Or.inl rfl)) (pgs_cons (pg_name (i := 10) sc_law_family.nd rfl (Or.inl rfl)) pgs_nil))))
 (pss_cons (ps_if (pt_cmpR op_eq (pv 0) pe_int (nomark _))
 (pss_cons (ps_set (i := 11) sc_law_family.nd rfl (Or.inl rfl) (pe_fz (pe_disp (pps_cons (pv 4) (pe_tup (pa_cons pe_int (pa_cons (pv 7) pa_nil))) (pps_cons (pv 5) (pe_tup (pa_cons pe_int (pa_cons (pv 10) pa_nil))) (pps_cons (pv 6) (pe_tup (pa_cons pe_int (pa_cons pe_non pa_nil))) pps_nil))) (by rfl) (by rfl) (fun z => by cases z) (by decide))))
 (pss_one (ps_ret (pe_tup (pa_cons (pe_lst (pa_cons (pe_fz (pe_disp (pps_cons (pv 5) (pe_tup (pa_cons pe_int (pa_cons (pv 9) pa_nil))) pps_nil) (by rfl) (by rfl) (fun z => by cases z) (by decide))) (pa_cons (pv 11) (pa_cons (pe_fz pe_dnewK) (pa_cons (pe_fz (pe_disp (pps_cons (pv 5) (pe_tup (pa_cons pe_int (pa_cons (pv 8) pa_nil))) (pps_cons (pv 6) (pe_tup (pa_cons pe_int (pa_cons (pv 7) pa_nil))) pps_nil)) (by rfl) (by rfl) (fun z => by cases z) (by decide))) pa_nil))))) (pa_cons (pe_lst (pa_cons pe_int pa_nil)) (pa_cons pe_int pa_nil)))))))
 pss_nil)
 (pss_cons (ps_if (pt_cmpR op_eq (pv 0) pe_int (nomark _))
 (pss_one (ps_ret (pe_tup (pa_cons (pe_lst (pa_cons (pe_fz (pe_disp (pps_cons (pv 5) (pe_tup (pa_cons pe_int (pa_cons (pv 9) pa_nil))) pps_nil) (by rfl) (by rfl) (fun z => by cases z) (by decide))) (pa_cons (pe_fz (pe_disp (pps_cons (pv 4) (pe_tup (pa_cons pe_int (pa_cons (pv 7) pa_nil))) (pps_cons (pv 5) (pe_tup (pa_cons pe_int (pa_cons pe_non pa_nil))) pps_nil)) (by rfl) (by rfl) (fun z => by cases z) (by decide))) (pa_cons (pe_fz (pe_disp (pps_cons (pv 5) (pe_tup (pa_cons pe_int (pa_cons (pv 8) pa_nil))) (pps_cons (pv 6) (pe_tup (pa_cons pe_int (pa_cons (pv 10) pa_nil))) pps_nil)) (by rfl) (by rfl) (fun z => by cases z) (by decide))) (pa_cons (pe_fz pe_dnewK) pa_nil))))) (pa_cons (pe_lst (pa_cons pe_int pa_nil)) (pa_cons pe_int pa_nil))))))
 pss_nil)
 (pss_cons (ps_if (pt_cmpR op_eq (pv 0) pe_int (nomark _))
 (pss_one (ps_ret (pe_tup (pa_cons (pe_lst (pa_cons (pe_fz (pe_disp (pps_cons (pv 4) (pe_tup (pa_cons pe_int (pa_cons (pv 7) pa_nil))) (pps_cons (pv 5) (pe_tup (pa_cons pe_int (pa_cons (pv 7) pa_nil))) (pps_cons (pv 6) (pe_tup (pa_cons pe_int (pa_cons (pv 9) pa_nil))) pps_nil))) (by rfl) (by rfl) (fun z => by cases z) (by decide))) (pa_cons (pe_fz (pe_disp (pps_cons (pv 6) (pe_tup (pa_cons pe_int (pa_cons (pv 9) pa_nil))) pps_nil) (by rfl) (by rfl) (fun z => by cases z) (by decide))) (pa_cons (pe_fz (pe_disp (pps_cons (pv 4) (pe_tup (pa_cons pe_int (pa_cons (pv 8) pa_nil))) (pps_cons (pv 5) (pe_tup (pa_cons pe_int (pa_cons (pv 8) pa_nil))) (pps_cons (pv 6) (pe_tup (pa_cons pe_int (pa_cons (pv 10) pa_nil))) pps_nil))) (by rfl) (by rfl) (fun z => by cases z) (by decide))) (pa_cons (pe_fz pe_dnewK) pa_nil))))) (pa_cons (pe_lst (pa_cons pe_int (pa_cons pe_int pa_nil))) (pa_cons pe_int pa_nil))))))
 pss_nil)
 (pss_cons (ps_if (pt_cmpR op_eq (pv 0) pe_int (nomark _))
 (pss_one (ps_ret (pe_tup (pa_cons (pe_lst (pa_cons (pe_fz (pe_disp (pps_cons (pv 4) (pe_tup (pa_cons pe_int (pa_cons (pv 7) pa_nil))) (pps_cons (pv 5) (pe_tup (pa_cons pe_int (pa_cons (pv 7) pa_nil))) pps_nil)) (by rfl) (by rfl) (fun z => by cases z) (by decide))) (pa_cons (pe_fz (pe_disp (pps_cons (pv 4) (pe_tup (pa_cons pe_int (pa_cons (pv 7) pa_nil))) (pps_cons (pv 6) (pe_tup (pa_cons pe_int (pa_cons (pv 9) pa_nil))) pps_nil)) (by rfl) (by rfl) (fun z => by cases z) (by decide))) (pa_cons (pe_fz (pe_disp (pps_cons (pv 4) (pe_tup (pa_cons pe_int (pa_cons (pv 7) pa_nil))) (pps_cons (pv 5) (pe_tup (pa_cons pe_int (pa_cons (pv 8) pa_nil))) pps_nil)) (by rfl) (by rfl) (fun z => by cases z) (by decide))) pa_nil)))) (pa_cons (pe_lst (pa_cons pe_int (pa_cons pe_int pa_nil))) (pa_cons pe_int pa_nil))))))
 pss_nil)
 (pss_one (ps_ret (pe_tup (pa_cons (pe_lst (pa_cons (pe_fz (pe_disp (pps_cons (pv 4) (pe_tup (pa_cons pe_int (pa_cons pe_non pa_nil))) (pps_cons (pv 5) (pe_tup (pa_cons pe_int (pa_cons (pv 9) pa_nil))) pps_nil)) (by rfl) (by rfl) (fun z => by cases z) (by decide))) (pa_cons (pe_fz (pe_disp (pps_cons (pv 4) (pe_tup (pa_cons pe_int (pa_cons (pv 7) pa_nil))) (pps_cons (pv 5) (pe_tup (pa_cons pe_int (pa_cons (pv 8) pa_nil))) pps_nil)) (by rfl) (by rfl) (fun z => by cases z) (by decide))) (pa_cons (pe_fz (pe_disp (pps_cons (pv 4) (pe_tup (pa_cons pe_int (pa_cons pe_non pa_nil))) (pps_cons (pv 6) (pe_tup (pa_cons pe_int (pa_cons (pv 10) pa_nil))) pps_nil)) (by rfl) (by rfl) (fun z => by cases z) (by decide))) pa_nil)))) (pa_cons (pe_lst (pa_cons pe_int (pa_cons pe_int pa_nil))) (pa_cons pe_int pa_nil))))))))))))), ?_⟩
    have hc3 : ∀ x y z : V, cutV [x, y, z] none (some 3) = [x, y, z] := fun _ _ _ => rfl
    have hc2 : ∀ x y : V, cutV [x, y] none (some 2) = [x, y] := fun _ _ => rfl
    have Pp : p ∈ [p, q, r] := by simp
    have Pq : q ∈ [p, q, r] := by simp
    have Pr : r ∈ [p, q, r] := by simp
    have Tz : Told [a, b] [m, n] none := .inl rfl
    have Ta : Told [a, b] [m, n] (some (sg a)) := .inr (.inl ⟨a, by simp, rfl⟩)
    have Tb : Told [a, b] [m, n] (some (sg b)) := .inr (.inl ⟨b, by simp, rfl⟩)
    have Tm : Told [a, b] [m, n] (some m) := .inr (.inr ⟨m, by simp, rfl⟩)
    have Tn : Told [a, b] [m, n] (some n) := .inr (.inr ⟨n, by simp, rfl⟩)
    refine q_asgGP (evp_L (el_sl (ev_var rfl) eo_none (eo_some ev_c) (sq_of src.p))) fun v H1 e1 ⟨s1, hv, _, hs1⟩ => ?_
    subst hv
    refine ⟨s1, _, rfl, sq_of hs1, rfl, _, _, rfl, _, _, rfl, _, _, rfl, rfl, ?_⟩
    refine q_asgGP (evp_L (el_sl (ev_var rfl) eo_none (eo_some ev_c) (sq_of (src.mono e1).t))) fun v H2 e2 ⟨s2, hv, _, hs2⟩ => ?_
    subst hv
    refine ⟨s2, _, rfl, sq_of hs2, rfl, _, _, rfl, _, _, rfl, rfl, ?_⟩
    refine q_asgGP (evp_L (el_sl (ev_var rfl) eo_none (eo_some ev_c) (sq_of (src.mono (e1.trans e2)).m))) fun v H3 e3 ⟨s3, hv, _, hs3⟩ => ?_
    subst hv
    refine ⟨s3, _, rfl, sq_of hs3, rfl, _, _, rfl, _, _, rfl, rfl, ?_⟩
    have e03 := (e1.trans e2).trans e3
    refine q_when (et_test (ev_op (ev_var rfl) ev_c (rv_eq rfl))) (fun _ H4 e4 => ?_) fun _ H4 e4 => ?_
    · refine q_asgP (evp_rowW (K := K) (x := [(p, 1, some (sg a)), (q, 2, some n), (r, 3, none)]) ⟨ev_var rfl, evp_mv ev_c (ev_var rfl), ⟨ev_var rfl, evp_mv ev_c (ev_var rfl), ⟨ev_var rfl, evp_mv ev_c ev_c, trivial⟩⟩⟩ (by simp [pq, pr, qr]) (by simp)) fun v H5 e5 ⟨cd, hv, hcd⟩ => ?_
      subst hv
      have E0 := (e03.trans e4).trans e5
      have hcore : EvP (tVar 11) [some (nv way), some (.ref pp), some (.ref tt), some (.ref mm), some (.str (sg p)), some (.str (sg q)), some (.str (sg r)), some (.str (sg a)), some (.str (sg b)), some (.str m), some (.str n), some (.ref cd)] H5 (fun v H' => ∃ d, v = .ref d ∧ RowAt K H' d [(p, 1, some (sg a)), (q, 2, some n), (r, 3, none)]) := (evp_of (ev_var rfl)).imp fun v H' e hv => ⟨cd, hv, hcd.mono e⟩
      exact s_famRet (rows := [[(q, 1, some m)], [(p, 1, some (sg a)), (q, 2, some n), (r, 3, none)], [], [(q, 1, some (sg b)), (r, 1, some (sg a))]]) (ends := [2]) (start := 0) (ea_row (evp_rowW ⟨ev_var rfl, evp_mv ev_c (ev_var rfl), trivial⟩ (by simp [pq, pr, qr]) (by simp)) (ea_row hcore (ea_row evp_row0 (ea_row (evp_rowW ⟨ev_var rfl, evp_mv ev_c (ev_var rfl), ⟨ev_var rfl, evp_mv ev_c (ev_var rfl), trivial⟩⟩ (by simp [pq, pr, qr]) (by simp)) ea_rowNil)))) (ea_cons ev_c ea_nil) (by simp) (by simp) fun t x y H' e hx hy h1 h2 h3 => fin t x y H' _ _ _ (E0.trans e) (fresh_back E0 hx) (fresh_back E0 hy) h1 h2 h3 (fmt_of 4 rfl (all_cons (ROk.nil.cons Pq (by omega) Tm (by simp [pq, pr, qr])) (all_cons (((ROk.nil.cons Pr (by omega) Tz (by simp [pq, pr, qr])).cons Pq (by omega) Tn (by simp [pq, pr, qr])).cons Pp (by omega) Ta (by simp [pq, pr, qr])) (all_cons ROk.nil (all_cons ((ROk.nil.cons Pr (by omega) Ta (by simp [pq, pr, qr])).cons Pq (by omega) Tb (by simp [pq, pr, qr])) (fun x hx => (by cases hx)))))) (by omega) (by omega) (by simp) (by simp) (by omega))
    refine q_when (et_test (ev_op (ev_var rfl) ev_c (rv_eq rfl))) (fun _ H5 e5 => ?_) fun _ H5 e5 => ?_
    · have E0 := ((e03.trans e4).trans e5)
      exact s_famRet (rows := [[(q, 1, some m)], [(p, 1, some (sg a)), (q, 2, none)], [(q, 1, some (sg b)), (r, 3, some n)], []]) (ends := [3]) (start := 0) (ea_row (evp_rowW ⟨ev_var rfl, evp_mv ev_c (ev_var rfl), trivial⟩ (by simp [pq, pr, qr]) (by simp)) (ea_row (evp_rowW ⟨ev_var rfl, evp_mv ev_c (ev_var rfl), ⟨ev_var rfl, evp_mv ev_c ev_c, trivial⟩⟩ (by simp [pq, pr, qr]) (by simp)) (ea_row (evp_rowW ⟨ev_var rfl, evp_mv ev_c (ev_var rfl), ⟨ev_var rfl, evp_mv ev_c (ev_var rfl), trivial⟩⟩ (by simp [pq, pr, qr]) (by simp)) (ea_row evp_row0 ea_rowNil)))) (ea_cons ev_c ea_nil) (by simp) (by simp) fun t x y H' e hx hy h1 h2 h3 => fin t x y H' _ _ _ (E0.trans e) (fresh_back E0 hx) (fresh_back E0 hy) h1 h2 h3 (fmt_of 4 rfl (all_cons (ROk.nil.cons Pq (by omega) Tm (by simp [pq, pr, qr])) (all_cons ((ROk.nil.cons Pq (by omega) Tz (by simp [pq, pr, qr])).cons Pp (by omega) Ta (by simp [pq, pr, qr])) (all_cons ((ROk.nil.cons Pr (by omega) Tn (by simp [pq, pr, qr])).cons Pq (by omega) Tb (by simp [pq, pr, qr])) (all_cons ROk.nil (fun x hx => (by cases hx)))))) (by omega) (by omega) (by simp) (by simp) (by omega))
    refine q_when (et_test (ev_op (ev_var rfl) ev_c (rv_eq rfl))) (fun _ H6 e6 => ?_) fun _ H6 e6 => ?_
    · have E0 := (((e03.trans e4).trans e5).trans e6)
      exact s_famRet (rows := [[(p, 0, some (sg a)), (q, 1, some (sg a)), (r, 2, some m)], [(r, 2, some m)], [(p, 2, some (sg b)), (q, 3, some (sg b)), (r, 3, some n)], []]) (ends := [2, 3]) (start := 0) (ea_row (evp_rowW ⟨ev_var rfl, evp_mv ev_c (ev_var rfl), ⟨ev_var rfl, evp_mv ev_c (ev_var rfl), ⟨ev_var rfl, evp_mv ev_c (ev_var rfl), trivial⟩⟩⟩ (by simp [pq, pr, qr]) (by simp)) (ea_row (evp_rowW ⟨ev_var rfl, evp_mv ev_c (ev_var rfl), trivial⟩ (by simp [pq, pr, qr]) (by simp)) (ea_row (evp_rowW ⟨ev_var rfl, evp_mv ev_c (ev_var rfl), ⟨ev_var rfl, evp_mv ev_c (ev_var rfl), ⟨ev_var rfl, evp_mv ev_c (ev_var rfl), trivial⟩⟩⟩ (by simp [pq, pr, qr]) (by simp)) (ea_row evp_row0 ea_rowNil)))) (ea_cons ev_c (ea_cons ev_c ea_nil)) (by simp) (by simp) fun t x y H' e hx hy h1 h2 h3 => fin t x y H' _ _ _ (E0.trans e) (fresh_back E0 hx) (fresh_back E0 hy) h1 h2 h3 (fmt_of 4 rfl (all_cons (((ROk.nil.cons Pr (by omega) Tm (by simp [pq, pr, qr])).cons Pq (by omega) Ta (by simp [pq, pr, qr])).cons Pp (by omega) Ta (by simp [pq, pr, qr])) (all_cons (ROk.nil.cons Pr (by omega) Tm (by simp [pq, pr, qr])) (all_cons (((ROk.nil.cons Pr (by omega) Tn (by simp [pq, pr, qr])).cons Pq (by omega) Tb (by simp [pq, pr, qr])).cons Pp (by omega) Tb (by simp [pq, pr, qr])) (all_cons ROk.nil (fun x hx => (by cases hx)))))) (by omega) (by omega) (by simp) (by simp) (by omega))
    refine q_when (et_test (ev_op (ev_var rfl) ev_c (rv_eq rfl))) (fun _ H7 e7 => ?_) fun _ H7 e7 => ?_
    · have E0 := ((((e03.trans e4).trans e5).trans e6).trans e7)
      exact s_famRet (rows := [[(p, 1, some (sg a)), (q, 2, some (sg a))], [(p, 2, some (sg a)), (r, 0, some m)], [(p, 1, some (sg a)), (q, 1, some (sg b))]]) (ends := [0, 1]) (start := 0) (ea_row (evp_rowW ⟨ev_var rfl, evp_mv ev_c (ev_var rfl), ⟨ev_var rfl, evp_mv ev_c (ev_var rfl), trivial⟩⟩ (by simp [pq, pr, qr]) (by simp)) (ea_row (evp_rowW ⟨ev_var rfl, evp_mv ev_c (ev_var rfl), ⟨ev_var rfl, evp_mv ev_c (ev_var rfl), trivial⟩⟩ (by simp [pq, pr, qr]) (by simp)) (ea_row (evp_rowW ⟨ev_var rfl, evp_mv ev_c (ev_var rfl), ⟨ev_var rfl, evp_mv ev_c (ev_var rfl), trivial⟩⟩ (by simp [pq, pr, qr]) (by simp)) ea_rowNil))) (ea_cons ev_c (ea_cons ev_c ea_nil)) (by simp) (by simp) fun t x y H' e hx hy h1 h2 h3 => fin t x y H' _ _ _ (E0.trans e) (fresh_back E0 hx) (fresh_back E0 hy) h1 h2 h3 (fmt_of 3 rfl (all_cons ((ROk.nil.cons Pq (by omega) Ta (by simp [pq, pr, qr])).cons Pp (by omega) Ta (by simp [pq, pr, qr])) (all_cons ((ROk.nil.cons Pr (by omega) Tm (by simp [pq, pr, qr])).cons Pp (by omega) Ta (by simp [pq, pr, qr])) (all_cons ((ROk.nil.cons Pq (by omega) Tb (by simp [pq, pr, qr])).cons Pp (by omega) Ta (by simp [pq, pr, qr])) (fun x hx => (by cases hx))))) (by omega) (by omega) (by simp) (by simp) (by omega))
    have E0 := (((e03.trans e4).trans e5).trans e6).trans e7
    exact s_famRet (rows := [[(p, 1, none), (q, 2, some m)], [(p, 0, some (sg a)), (q, 0, some (sg b))], [(p, 2, none), (r, 0, some n)]]) (ends := [0, 2]) (start := 0) (ea_row (evp_rowW ⟨ev_var rfl, evp_mv ev_c ev_c, ⟨ev_var rfl, evp_mv ev_c (ev_var rfl), trivial⟩⟩ (by simp [pq, pr, qr]) (by simp)) (ea_row (evp_rowW ⟨ev_var rfl, evp_mv ev_c (ev_var rfl), ⟨ev_var rfl, evp_mv ev_c (ev_var rfl), trivial⟩⟩ (by simp [pq, pr, qr]) (by simp)) (ea_row (evp_rowW ⟨ev_var rfl, evp_mv ev_c ev_c, ⟨ev_var rfl, evp_mv ev_c (ev_var rfl), trivial⟩⟩ (by simp [pq, pr, qr]) (by simp)) ea_rowNil))) (ea_cons ev_c (ea_cons ev_c ea_nil)) (by simp) (by simp) fun t x y H' e hx hy h1 h2 h3 => fin t x y H' _ _ _ (E0.trans e) (fresh_back E0 hx) (fresh_back E0 hy) h1 h2 h3 (fmt_of 3 rfl (all_cons ((ROk.nil.cons Pq (by omega) Tm (by simp [pq, pr, qr])).cons Pp (by omega) Tz (by simp [pq, pr, qr])) (all_cons ((ROk.nil.cons Pq (by omega) Tb (by simp [pq, pr, qr])).cons Pp (by omega) Ta (by simp [pq, pr, qr])) (all_cons ((ROk.nil.cons Pr (by omega) Tn (by simp [pq, pr, qr])).cons Pp (by omega) Tz (by simp [pq, pr, qr])) (fun x hx => (by cases hx))))) (by omega) (by omega) (by simp) (by simp) (by omega))
end
end K33
/-! text Dx -/
set_option Elab.async false
set_option linter.all false
set_option maxRecDepth 100000
set_option maxHeartbeats 4000000
namespace K33
open PySem PySem.Spec PyProof.Rows L2 Evl K33G
section
variable {P : Program} {w : World} {K : PySem.W.Frag} {mg : Str → Option Value} {base : Heap} {r g : Addr} {σ : L2.St} {H : Hp} {te ta tb td ty tw : TE} {D : Ends} {tz : TS} {tr : TA}
theorem nd_at {α : Type} {l : List α} (nd : l.Nodup) {a b : Nat} {x : α} (ha : l[a]? = some x) (hb : l[b]? = some x) : a = b := by
  obtain ⟨l1, e1⟩ := List.getElem?_eq_some_iff.mp ha
  obtain ⟨l2, e2⟩ := List.getElem?_eq_some_iff.mp hb
  have h := List.pairwise_iff_getElem.mp nd
  rcases Nat.lt_trichotomy a b with q | q | q
  · exact absurd (e1.trans e2.symm) (h a b l1 l2 q)
  · exact q
  · exact absurd (e2.trans e1.symm) (h b a l2 l1 q)
/-- dicts that may change, one for each row -/
def DcAt (H : Hp) (ds : List Addr) (ess : List (List Ent)) : Prop := ds.length = ess.length ∧ ∀ (i : Nat) (es : List Ent), ess[i]? = some es → ∃ d, ds[i]? = some d ∧ H d = some (.dK (kvE es))
theorem DcAt.mono {H H' : Hp} {ds : List Addr} {ess : List (List Ent)} (h : DcAt H ds ess) (e : Ex H H') : DcAt H' ds ess := ⟨h.1, fun i es hi => let ⟨d, h1, h2⟩ := h.2 i es hi; ⟨d, h1, e _ _ h2⟩⟩
theorem DcAt.xr {H H' : Hp} {ds : List Addr} {ess : List (List Ent)} (h : DcAt H ds ess) (hg : Rg r H) (e : Xr r H H') : DcAt H' ds ess := ⟨h.1, fun i es hi => let ⟨d, h1, h2⟩ := h.2 i es hi; ⟨d, h1, e.get h2 (fun z => by
  obtain ⟨a, b, hr, _⟩ := hg
  rw [z, hr] at h2
  cases h2)⟩⟩
theorem DcAt.set {H : Hp} {ds : List Addr} {ess : List (List Ent)} {a : Nat} {d : Addr} {es : List Ent} (h : DcAt H ds ess) (nd : ds.Nodup) (hd : ds[a]? = some d) : DcAt (upd H d (.dK (kvE es))) ds (ess.set a es) := by
  refine ⟨by rw [List.length_set]; exact h.1, fun i es' hi => ?_⟩
  by_cases hia : a = i
  · subst hia
    have hl : a < ess.length := by
      have := (List.getElem?_eq_some_iff.mp hd).1
      rw [← h.1]
      exact this
    rw [List.getElem?_set_self hl] at hi
    cases hi
    exact ⟨d, hd, upd_same⟩
  · rw [List.getElem?_set_ne hia] at hi
    obtain ⟨d', h1, h2⟩ := h.2 i es' hi
    refine ⟨d', h1, ?_⟩
    rw [upd_ne (fun z => hia ?_)]
    · exact h2
    · exact nd_at nd hd (z ▸ h1)
theorem ent_upd {es : List Ent} {d : Addr} {kvs : List (Key × V)} {o : HO} (h : EntAt K H es) (hd : H d = some (.dK kvs)) : EntAt K (upd H d o) es := fun x hx => by
  rcases h x hx with (h | ⟨o', h⟩) | h
  · exact .inl (.inl (by rw [upd_ne (fun z => by rw [z, hd] at h; cases h)]; exact h))
  · exact .inl (.inr ⟨o', by rw [upd_ne (fun z => by rw [z, hd] at h; cases h)]; exact h⟩)
  · exact .inr h
theorem sqT_xr {H' : Hp} {t : Addr} {xs : List V} (h : SqT K H t xs) (hg : Rg r H) (e : Xr r H H') : SqT K H' t xs := by
  obtain ⟨a, b, hr, _⟩ := hg
  exact ex_t e.1 (sqT_delL h hr)
theorem ent_xr {H' : Hp} {es : List Ent} (h : EntAt K H es) (hg : Rg r H) (e : Xr r H H') : EntAt K H' es := fun x hx => sqT_xr (h x hx) hg e
theorem frz_rows : ∀ (ds : List Addr) (ess : List (List Ent)) (H : Hp) (k : Hp → Prop), ds.Nodup → DcAt H ds ess → (∀ H2 : Hp, (∀ b, b ∉ ds → H2 b = H b) → (∀ (i : Nat) (es : List Ent), ess[i]? = some es → ∃ d, ds[i]? = some d ∧ FD H2 d (kvE es)) → k H2) → frzK ds k H
  | [], ess, H, k, _, h, q => q H (fun _ _ => rfl) fun i es hi => by
    have := h.1
    rw [List.eq_nil_of_length_eq_zero this.symm] at hi
    simp at hi
  | d :: ds, [], H, k, _, h, q => by cases h.1
  | d :: ds, es :: ess, H, k, nd, h, q => by
    obtain ⟨d', h1, h2⟩ := h.2 0 es rfl
    cases h1
    rw [List.nodup_cons] at nd
    refine ⟨_, h2, trivial, fun od => frz_rows ds ess _ k nd.2 ⟨by simpa using h.1, fun i es' hi => ?_⟩ fun H2 q1 q2 => q H2 (fun b hb => ?_) fun i es' hi => ?_⟩
    · obtain ⟨d'', g1, g2⟩ := h.2 (i + 1) es' hi
      have g1 : ds[i]? = some d'' := g1
      exact ⟨d'', g1, by rw [upd_ne (fun z => nd.1 (by rw [← z]; exact List.mem_of_getElem? g1))]; exact g2⟩
    · rw [List.mem_cons, not_or] at hb
      rw [q1 b hb.2, upd_ne hb.1]
    · cases i with
      | zero =>
        cases hi
        exact ⟨d, rfl, od, by rw [q1 d nd.1, upd_same]⟩
      | succ i => exact q2 i es' hi
theorem told_of2 {ts : List Nat} {ms : List Str} {x : V} (h : x ∈ [V.non] ++ vstr (ts.map sg) ++ vstr ms) : ∃ o, x = tv o ∧ Told ts ms o := told_of (by
  rcases List.mem_append.mp h with h | h
  · rcases List.mem_append.mp h with h | h
    · exact List.mem_append_left _ (List.mem_append_left _ h)
    · exact List.mem_append_left _ (List.mem_append_right _ (List.mem_append_left _ h))
  · exact List.mem_append_right _ h)
theorem q_dputR {d : Addr} {k : Key} {kvs : List (Key × V)} {P : V → Hp → Prop} (hg : Rg r H) (hv : EvR r tw σ H P) (h : ∀ v H1, Xr r H H1 → P v H1 → Ev td σ H1 (.ref d) ∧ Ev ty σ H1 (kV k) ∧ H1 d = some (.dK kvs) ∧ kvs.length ≤ 1000 ∧ ∀ H2, Ex H1 H2 → tz D σ (upd H2 d (.dK (putK kvs k v)))) : tSeq (sDPut td ty tw) tz D σ H := s_dputR (D := { D with nx := tz D }) hg hv h
theorem s_retFz {P : V → Hp → Prop} (h : EvP te σ H P) (k : ∀ v H1, Ex H H1 → P v H1 → ∃ ds, frzK ds (fun H2 => D.rt v H2) H1) : tRet (tFzA te) D σ H := h H (Ex.refl H) _ k
def spBent (K : PySem.W.Frag) : Sp := fun vs H Q _ => ∃ (r t0 pp tt mm : Addr) (ps ts : List Nat) (ms : List Str), vs = [.ref r, .ref t0, .ref pp, .ref tt, .ref mm] ∧ Rg r H ∧ FmtAt K (del r H) t0 ps ts ms ∧ Src (del r H) pp tt mm ps ts ms ∧ 1 ≤ ps.length ∧ ps.length ≤ 10 ∧ ts.length ≤ 10 ∧ ms.length ≤ 10 ∧ ∀ (t : Addr) (H' : Hp), Xr r H H' → FmtAt K (del r H') t ps ts ms → Q (.ref t) H'
abbrev N_law_bent : List Str := ["_law_rng_here", "_law_model", "_law_paper", "_law_tells", "_law_marks_here", "_law_rows", "_law_at", "_law_letter", "_law_line"]
theorem sc_law_bent : FnScope N_law_bent ["_law_rng_here", "_law_model", "_law_paper", "_law_tells", "_law_marks_here"] (defScope (top 67)) := ⟨rfl, rfl, rfl, by decide +kernel, rfl, by decide +kernel, by decide +kernel⟩
theorem ok_law_bent (T : Txt K mg) : Ok P w K mg base 3 "_law_bent" ["_law_rng_here", "_law_model", "_law_paper", "_law_tells", "_law_marks_here"] (spBent K) := by
  refine ok_of T.law_bent sc_law_bent (fun vs H Q E h => ?_) (fun _ _ _ _ _ _ us hl => match us, hl with | [_, _, _, _, _], _ => rfl) (fun f cdv A outer s H vs Q E hr h => ?_)
  · obtain ⟨_, _, _, _, _, _, _, _, rfl, _⟩ := h
    rfl
  · obtain ⟨r, t0, pp, tt, mm, ps, ts, ms, rfl, hg, ⟨p0, q0, rows, ends, start, ht0, ⟨ds0, hp0, hA⟩, hq0, ok⟩, src, p1, p10, t10, m10, fin⟩ := h
    refine ⟨_, (pss_cons (ps_setLc (i := 5) (own := [("_law_line", 8)]) (g := gName 8) (by rfl) sc_law_bent.nd rfl rfl (sw_true rfl rfl rfl (by decide +kernel)) (pi_listK (K := K) (pe_ix (r := rIxT K) ix_tup (pv 1) pe_int (fun _ _ => rfl))) (blkOk_by (own := [("_law_line", 8)]) (N := N_law_bent) (sc := defScope (top 67)) (by decide +kernel)) (fun _ _ _ _ _ => (pg_name (i := 8) sc_law_bent.nd rfl (Or.inl rfl))) (fun _ _ _ _ _ => by exact pts_nil) (fun _ _ _ _ _ => by exact (pe_dictD T.dict (pa_cons (pv 8) pa_nil))))
 (pss_cons (ps_par (i := 6) (j := 7) (by rfl) sc_law_bent.nd rfl rfl (by decide) rfl rfl (pa_cons (pe_f (ok_law_draw T) (hr.mono (by decide)) (pa_cons (pv 0) (pa_cons (pe_callB call_len (by rfl) T.len (by decide +kernel) (pa_cons (pv 5) pa_nil)) pa_nil))) (pa_cons (pe_f (ok_law_choice T) (hr.mono (by decide)) (pa_cons (pv 0) (pa_cons (pv 2) pa_nil))) pa_nil)) (by rfl))
 (pss_cons (ps_dput (hu_of hr) (pe_ix (r := rIxL K) ix_list (pv 5) (pv 6) (fun _ _ => rfl)) (pv 7) (pe_tup (pa_cons (pe_f (ok_law_draw T) (hr.mono (by decide)) (pa_cons (pv 0) (pa_cons (pe_callB call_len (by rfl) T.len (by decide +kernel) (pa_cons (pv 5) pa_nil)) pa_nil))) (pa_cons (pe_f (ok_law_choice T) (hr.mono (by decide)) (pa_cons (pv 0) (pa_cons (pe_op op_cat (pe_op op_cat (pe_lst (pa_cons pe_non pa_nil)) (pv 3)) (pv 4)) pa_nil))) pa_nil))) rfl)
 (pss_cons (ps_if (pt_cmpR op_eq (pe_f (ok_law_draw T) (hr.mono (by decide)) (pa_cons (pv 0) (pa_cons pe_int pa_nil))) pe_int (nomark _))
 (pss_one (ps_expr (pe_dpop1 (pe_ix (r := rIxL K) ix_list (pv 5) (pv 6) (fun _ _ => rfl)) (pv 7) ⟨by rfl, by rfl, by rfl, by rfl⟩)))
 pss_nil)
 (pss_one (ps_ret (pe_fzA (pe_tup (pa_cons (pv 5) (pa_cons (pe_listOf (K := K) T.list (pa_cons (pe_ix (r := rIxT K) ix_tup (pv 1) pe_int (fun _ _ => rfl)) pa_nil)) (pa_cons (pe_ix (r := rIxT K) ix_tup (pv 1) pe_int (fun _ _ => rfl)) pa_nil))))))))))), ?_⟩
    have few := ok.few
    have HR : Ex (del r H) H := del_le
    refine q_asgP (el_lcP (fun i acc G => ∃ (ds : List Addr) (ess : List (List Ent)), acc = ds.map V.ref ∧ ds.Nodup ∧ DcAt G ds ess ∧ ess.map rowE = rows.take i ∧ (∀ es ∈ ess, EntAt K (del r H) es) ∧ (∀ d ∈ ds, H d = none) ∧ ds.length = i) (iw_list (p := p0) (xs := ds0.map V.ref) (ev_op (ev_var rfl) ev_c (rv_ixT (i := 0) (ex_t HR ht0) rfl)) (ex_l HR hp0)) (fun H1 e1 => ⟨[], [], rfl, List.nodup_nil, ⟨rfl, fun i es hi => by simp at hi⟩, rfl, fun es he => (by cases he), fun d hd => (by cases hd), rfl⟩) (fun i acc H1 H2 e ⟨ds, ess, a, b, c, d, f, g, h⟩ => ⟨ds, ess, a, b, c.mono e, d, f, g, h⟩) (fun i acc H1 hi ⟨ds, ess, a, _, _, _, _, _, h⟩ => by rw [List.length_map, hA.1] at hi; rw [a, List.length_map]; omega) fun Dl i x acc Ha Hb hi hD ed hDa hPv y k hk => ?_) fun v H1 e1 ⟨Rw, acc, hv, hRw, hRw1, ds, ess, hacc, dnd, hdc, hrows, hent, hfr, hdl⟩ => ?_
    · obtain ⟨ds, ess, ha, hnd, hdc, hrows, hent, hfr, hdl⟩ := hPv
      obtain ⟨rfl, y2⟩ := y
      rw [List.length_map, hA.1] at hi
      obtain ⟨rw0, hrw0⟩ : ∃ x, rows[i]? = some x := ⟨rows[i], List.getElem?_eq_getElem hi⟩
      obtain ⟨d0, hd0, hrow⟩ := hA.2 i rw0 hrw0
      rw [List.getElem?_map, hd0] at y2
      cases y2
      obtain ⟨es, hfd, hes, hre⟩ := of_rowAt hrow
      have eHb : Ex H Hb := ed.trans del_le
      refine hk _ _ true (Ex.refl _) rfl et_yes (fun _ => ?_) fun h => by cases h
      refine evp_cb (Pa := fun vs _ => vs = [.ref d0]) (ea_of (ea_cons (ev_var rfl) ea_nil)) fun vs H2 e2 hv Q' q' => ?_
      subst hv
      obtain ⟨od, hfd'⟩ := (hfd.mono (HR.trans (eHb.trans e2)))
      refine ⟨d0, kvE es, rfl, .inr ⟨od, hfd'⟩, fun p hp => q' _ _ (Ex.new hp) ?_⟩
      have hpH : H p = none := fresh_back (eHb.trans e2) hp
      have npD : p ≠ Dl := fun z => by rw [z, e2 _ _ hDa] at hp; cases hp
      have hnew : del Dl (upd H2 p (.dK (kvE es))) p = some (.dK (kvE es)) := by rw [del_ne npD, upd_same]
      have eold : Ex (del Dl Hb) (del Dl (upd H2 p (.dK (kvE es)))) := del_ex (e2.trans (Ex.new hp))
      refine ⟨ds ++ [p], ess ++ [es], by rw [ha, List.map_append]; rfl, ?_, ⟨by simp [hdc.1], fun j es' hj => ?_⟩, by rw [List.map_append, hrows, List.take_succ, hrw0, ← hre]; rfl, fun es' he => ?_, fun d hd => ?_, by simp [hdl]⟩
      · rw [List.nodup_append]
        refine ⟨hnd, by simp, fun a ha' b hb e => ?_⟩
        rw [List.mem_singleton.mp hb] at e
        obtain ⟨j, hj⟩ := List.mem_iff_getElem?.mp ha'
        have hjl := (List.getElem?_eq_some_iff.mp hj).1
        rw [hdc.1] at hjl
        obtain ⟨d', g1, g2⟩ := hdc.2 j _ (List.getElem?_eq_getElem hjl)
        rw [hj] at g1
        cases g1
        have := e2 _ _ (del_le _ _ g2)
        rw [e, hp] at this
        cases this
      · by_cases hlt : j < ess.length
        · rw [List.getElem?_append_left hlt] at hj
          obtain ⟨d', g1, g2⟩ := hdc.2 j es' hj
          exact ⟨d', by rw [List.getElem?_append_left (by rw [hdc.1]; exact hlt)]; exact g1, eold _ _ g2⟩
        · obtain rfl : j = ess.length := by
            have := (List.getElem?_eq_some_iff.mp hj).1
            simp at this
            omega
          obtain rfl : es = es' := by simpa using hj
          exact ⟨p, by rw [← hdc.1]; simp, hnew⟩
      · rcases List.mem_append.mp he with h | h
        · exact hent es' h
        · rw [List.mem_singleton.mp h]
          exact hes
      · rcases List.mem_append.mp hd with h | h
        · exact hfr d h
        · rw [List.mem_singleton.mp h]
          exact hpH
    · subst hv
      rw [List.length_map, hA.1, List.take_length] at hrows
      rw [List.length_map, hA.1] at hdl
      have esl : ess.length = rows.length := by rw [← hrows, List.length_map]
      have x1 := Xr.of e1 hg
      have nRw := hg.ne hRw
      have hent1 : ∀ es ∈ ess, EntAt K H1 es := fun es he => (hent es he).mono (HR.trans e1)
      have hdc1 : DcAt H1 ds ess := hdc.mono del_le
      have hds : ∀ d ∈ ds, d ≠ r ∧ d ≠ Rw := fun d hd => ⟨hg.ne (hfr d hd), fun z => by
        obtain ⟨j, hj⟩ := List.mem_iff_getElem?.mp hd
        have hjl := (List.getElem?_eq_some_iff.mp hj).1
        rw [hdc.1] at hjl
        obtain ⟨d', g1, g2⟩ := hdc.2 j _ (List.getElem?_eq_getElem hjl)
        rw [hj] at g1
        cases g1
        rw [z, del_same] at g2
        cases g2⟩
      let St : List (List Ent) → Hp → Prop := fun e' G => Xr r H G ∧ G Rw = some (.lst acc) ∧ DcAt G ds e' ∧ (∀ es ∈ e', EntAt K G es) ∧ e'.length = rows.length ∧ ∀ es ∈ e', ROk rows.length ps ts ms (rowE es)
      have st1 : St ess H1 := ⟨x1, hRw1, hdc1, hent1, esl, fun es he => ok.rok _ (by rw [← hrows]; exact List.mem_map.mpr ⟨es, he, rfl⟩)⟩
      have mono : ∀ {e' : List (List Ent)} {G G4 : Hp}, St e' G → Xr r G G4 → St e' G4 := fun {e' G G4} ⟨a, b, c, d, f, g⟩ x => ⟨a.trans x, x.get b nRw, c.xr a.2 x, fun es he => ent_xr (d es he) a.2 x, f, g⟩
      have setS : ∀ {e' : List (List Ent)} {G : Hp} {a : Nat} {d : Addr} {es es' : List Ent}, St e' G → ds[a]? = some d → G d = some (.dK (kvE es)) → EntAt K G es' → ROk rows.length ps ts ms (rowE es') → St (e'.set a es') (upd G d (.dK (kvE es'))) := fun {e' G a d es es'} ⟨y1, y2, y3, y4, y5, y6⟩ hd hG he hr => by
        have dm := List.mem_of_getElem? hd
        refine ⟨y1.mut (hfr d dm) (hds d dm).1, by rw [upd_ne (hds d dm).2.symm]; exact y2, y3.set dnd hd, fun x hx => ?_, by rw [List.length_set]; exact y5, fun x hx => ?_⟩
        · rcases List.mem_or_eq_of_mem_set hx with h | h
          · exact ent_upd (y4 x h) hG
          · rw [h]
            exact ent_upd he hG
        · rcases List.mem_or_eq_of_mem_set hx with h | h
          · exact y6 x h
          · rw [h]
            exact hr
      have last : ∀ (a : Nat) (c : Nat) (u : Option V) (e' : List (List Ent)) (G : Hp), St e' G → tRet (tFzA (tTup (tCons (tVar 5) (tCons (tCB (rListOf K) (tCons (tOp (rIxT K) (tVar 1) (tC (.int 1))) tNil)) (tCons (tOp (rIxT K) (tVar 1) (tC (.int 2))) tNil))))) { nx := fun _ H' => Q .non H', rt := Q } [some (.ref r), some (.ref t0), some (.ref pp), some (.ref tt), some (.ref mm), some (.ref Rw), some (nv a), some (.str (sg c)), u] G := fun a c u e' G st => by
        obtain ⟨y1, y2, y3, y4, y5, y6⟩ := st
        have ht0' : SqT K G t0 [.ref p0, .ref q0, nv start] := ex_t y1.1 ht0
        refine s_retFz (evp_tupA (Pa := fun vs G' => ∃ q, vs = [.ref Rw, .ref q, nv start] ∧ G q = none ∧ G' q = some (.lst (ends.map nv))) (ea_consP (evp_of (ev_var rfl)) fun x G1 e1 hx => ea_consP (evp_listOf (a := q0) (xs := ends.map nv) (ev_op (ev_var rfl) ev_c (rv_ixT (i := 1) (ex_t e1 ht0') rfl)) (.inl (ex_l (y1.1.trans e1) hq0))) fun y G2 e2 ⟨q, hy, hq, hq1⟩ => ea_one (evp_of (ev_op (ev_var rfl) ev_c (rv_ixT (i := 2) (ex_t (e1.trans e2) ht0') rfl))) fun z G3 e3 hz => ⟨q, by rw [hx, hy, hz], fresh_back e1 hq, e3 _ _ hq1⟩) (fun vs G1 G2 e ⟨q, a, b, c⟩ => ⟨q, a, b, e _ _ c⟩) fun vs G1 ⟨q, a, _⟩ => by rw [a]; simp) fun v G1 e1 ⟨t, vs, hv, ht, ht1, q, hvs, hq, hq1⟩ => ⟨ds, frz_rows ds e' G1 _ dnd (y3.mono e1) fun G2 g1 g2 => ?_⟩
        subst hv hvs
        have inG : ∀ d ∈ ds, ∃ kvs, G1 d = some (.dK kvs) := fun d hd => by
          obtain ⟨j, hj⟩ := List.mem_iff_getElem?.mp hd
          have hjl := (List.getElem?_eq_some_iff.mp hj).1
          rw [y3.1] at hjl
          obtain ⟨d', k1, k2⟩ := y3.2 j _ (List.getElem?_eq_getElem hjl)
          rw [hj] at k1
          cases k1
          exact ⟨_, e1 _ _ k2⟩
        have keep : ∀ {b : Addr} {o : HO}, G1 b = some o → (∀ kvs, o ≠ .dK kvs) → G2 b = some o := fun {b o} hb hn => by
          rw [g1 b fun hbd => ?_]
          · exact hb
          · obtain ⟨kvs, hk⟩ := inG b hbd
            rw [hb] at hk
            cases hk
            exact hn kvs rfl
        have rg1 := (Xr.of e1 y1.2).2
        have rg2 : Rg r G2 := by
          obtain ⟨i, j, h1, h2⟩ := rg1
          exact ⟨i, j, keep h1 (fun _ h => by cases h), h2⟩
        have xf : Xr r H G2 := ⟨fun b o hb => by
          have hbH : H b = some o := del_le _ _ hb
          rw [g1 b fun hbd => by rw [hfr b hbd] at hbH; cases hbH]
          exact e1 _ _ (y1.1 _ _ hb), rg2⟩
        have nt : t ≠ r := y1.2.ne ht
        have nq : q ≠ r := y1.2.ne hq
        have sq2 : ∀ {x : Addr} {xs : List V}, SqT K G1 x xs → SqT K (del r G2) x xs := fun {x xs} h => by
          obtain ⟨i, j, h1, _⟩ := rg2
          refine sqT_delL ?_ h1
          rcases h with (h | ⟨o, h⟩) | h
          · exact .inl (.inl (keep h fun _ z => by cases z))
          · exact .inl (.inr ⟨o, keep h fun _ z => by cases z⟩)
          · exact .inr h
        refine fin t G2 xf ⟨Rw, q, e'.map rowE, ends, start, sq2 (st_of ht1), ⟨ds, sq_of (by rw [del_ne nRw, hacc.symm]; exact keep (e1 _ _ y2) fun _ z => by cases z), ?_, fun i x hx => ?_⟩, sq_of (by rw [del_ne nq]; exact keep hq1 fun _ z => by cases z), ?_⟩
        · rw [List.length_map]
          exact y3.1
        · rw [List.getElem?_map] at hx
          cases hes : e'[i]? with
          | none => rw [hes] at hx; cases hx
          | some es =>
            rw [hes] at hx
            cases hx
            obtain ⟨d, h1, h2⟩ := g2 i es hes
            obtain ⟨a1, a2, h3, _⟩ := rg2
            exact ⟨d, h1, rowAt_of (fd_delL h2 h3) fun x hx => sq2 (ex_t e1 (y4 es (List.mem_of_getElem? hes) x hx))⟩
        · have hl : (e'.map rowE).length = rows.length := by rw [List.length_map, y5]
          exact ⟨by rw [hl]; exact ok.pos, by rw [hl]; exact ok.few, fun x hx => by
            rw [hl]
            obtain ⟨es, he, rfl⟩ := List.mem_map.mp hx
            exact y6 es he, ok.nd, by rw [hl]; exact ok.en, by rw [hl]; exact ok.st⟩
      refine q_parR x1.2 (Pl := fun vs _ => ∃ a c, vs = [nv a, .str (sg c)] ∧ a < rows.length ∧ c ∈ ps) (era_cons (er_draw (many := rows.length) (fun H2 e2 => ea_cons (ev_var rfl) (ea_cons (ev_lenV (x := .ref Rw) (n := rows.length) (ev_var rfl) fun H3 e3 => Or.inl ⟨_, sq_of (e3 _ _ (e2.get hRw1 nRw)), by rw [hacc, List.length_map, hdl]⟩) ea_nil)) ok.pos (by omega)) fun x H2 e2 ⟨a, hx, ha⟩ => era_one (er_choiceV (K := K) (p := pp) (xs := vstr (ps.map sg)) (fun H3 e3 => ea_cons (ev_var rfl) (ea_cons (ev_var rfl) ea_nil)) (fun H3 e3 => sq_of ((x1.trans (e2.trans e3)).ex _ _ src.p)) (by simpa [vstr] using p1) (by simp [vstr]; omega)) fun y H3 e3 hy => ?_) fun vs H2 x2 ⟨a, c, hv, ha, hc⟩ => ⟨_, _, hv, ?_⟩
      · simp only [vstr, List.map_map] at hy
        obtain ⟨c, hc, rfl⟩ := List.mem_map.mp hy
        exact ⟨a, c, by rw [hx]; rfl, ha, hc⟩
      have st2 := mono st1 x2
      obtain ⟨d, hd⟩ : ∃ d, ds[a]? = some d := ⟨ds[a]'(by rw [hdl]; exact ha), List.getElem?_eq_getElem _⟩
      obtain ⟨es, hes⟩ : ∃ es, ess[a]? = some es := ⟨ess[a]'(by rw [esl]; exact ha), List.getElem?_eq_getElem _⟩
      have hdG : ∀ {G : Hp} {e' : List (List Ent)} {es : List Ent}, St e' G → e'[a]? = some es → G d = some (.dK (kvE es)) := fun {G e' es} st h => by
        obtain ⟨d', k1, k2⟩ := st.2.2.1.2 a es h
        rw [hd] at k1
        cases k1
        exact k2
      have elen : ∀ {e' : List (List Ent)} {G : Hp}, St e' G → ∀ es ∈ e', es.length ≤ 10 := fun {e' G} st es he => by
        have hr := st.2.2.2.2.2 es he
        have := nd_len hr.nd (m := ps) fun x hx => by
          obtain ⟨e, he, rfl⟩ := List.mem_map.mp hx
          exact (hr.ok e he).1
        rw [List.length_map] at this
        simp only [rowE, List.length_map] at this
        omega
      refine q_dputR (d := d) (k := .inr (sg c)) (kvs := kvE es) (P := fun v G => ∃ t g o, v = .ref t ∧ t ≠ r ∧ g < rows.length ∧ Told ts ms o ∧ G t = some (.tup [nv g, tv o])) x2.2 ((er_tup (Pl := fun vs _ => ∃ g o, vs = [nv g, tv o] ∧ g < rows.length ∧ Told ts ms o) (era_cons (er_draw (many := rows.length) (fun H3 e3 => ea_cons (ev_var rfl) (ea_cons (ev_lenV (x := .ref Rw) (n := rows.length) (ev_var rfl) fun H4 e4 => Or.inl ⟨_, sq_of (e4 _ _ (e3.get st2.2.1 nRw)), by rw [hacc, List.length_map, hdl]⟩) ea_nil)) ok.pos (by omega)) fun x H3 e3 ⟨g, hx, hgl⟩ => era_one (er_choice (K := K) (xs := [V.non] ++ vstr (ts.map sg) ++ vstr ms) (fun H4 e4 => ev_var rfl) (fun H4 e4 => ?_) (by simp [vstr]) (by simp [vstr]; omega)) fun y H4 e4 hy => ?_) (fun _ _ _ _ h => h) fun vs _ ⟨g, o, h, _⟩ => by rw [h]; simp).imp fun v H3 _ ⟨t, vs, hv, ht, _, ht1, g, o, hvs, hgl, ho⟩ => ⟨t, g, o, hv, ht, hgl, ho, by rw [ht1, hvs]⟩) fun v H3 x3 ⟨t, g, o, hv, htr, hgl, ho, ht⟩ => ?_
      · have s4 := src.mono ((x1.trans x2).trans (e3.trans e4)).1
        exact el_catR (el_catR (el_lst (vs := [.non]) (ea_cons ev_c ea_nil) (by simp)) s4.t (ev_var rfl) (by simp [vstr]; omega)) s4.m (ev_var rfl) (by simp [vstr]; omega)
      · obtain ⟨o, hyo, ho⟩ := told_of2 hy
        exact ⟨g, o, by rw [hx, hyo], hgl, ho⟩
      subst hv
      have st3 := mono st2 x3
      have hd3 := hdG st3 hes
      have esm := List.mem_of_getElem? hes
      refine ⟨ev_op (ev_var rfl) (ev_var rfl) (rv_ixL (sq_of st3.2.1) (atI_nat (by rw [hacc, List.getElem?_map, hd]; rfl))), ev_var rfl, hd3, by have := elen st3 es esm; simp only [kvE, List.length_map]; omega, fun H4 e4 => ?_⟩
      have st4 := mono st3 (Xr.of e4 st3.1.2)
      have hm := put_kvE es (c, g, o) t
      have hm2 : putK (kvE es) (.inr (sg c)) (.ref t) = kvE (putE es (c, g, o) t) := hm
      rw [hm2]
      have st5 := setS (es' := putE es (c, g, o) t) st4 hd (hdG st4 hes) ((st4.2.2.2.1 es esm).put (st_of (e4 _ _ ht))) ((st4.2.2.2.2.2 es esm).put hc hgl ho)
      generalize upd H4 d (.dK (kvE (putE es (c, g, o) t))) = H5 at st5
      have hes5 : (ess.set a (putE es (c, g, o) t))[a]? = some (putE es (c, g, o) t) := List.getElem?_set_self (by rw [esl]; exact ha)
      refine q_whenR st5.1.2 (etr_drawEq (m := 3) (fun H6 e6 => ea_cons (ev_var rfl) (ea_cons ev_c ea_nil)) (by omega) (by omega)) (fun H6 x6 _ => ?_) fun H6 x6 _ => last a c _ _ H6 (mono st5 x6)
      have st6 := mono st5 x6
      refine ev_run (te := tOp (rIxL K) (tVar 5) (tVar 6)) (v := .ref d) (ev_op (ev_var rfl) (ev_var rfl) (rv_ixL (sq_of st6.2.1) (atI_nat (by rw [hacc, List.getElem?_map, hd]; rfl)))) fun H7 e7 => ?_
      have st7 := mono st6 (Xr.of e7 st6.1.2)
      refine ⟨d, rfl, ?_, ?_⟩
      · exact .inl ⟨_, .inl (hdG st7 hes5)⟩
      refine ev_run (te := tVar 7) (v := .str (sg c)) (ev_var rfl) fun H8 e8 => ?_
      have st8 := mono st7 (Xr.of e8 st7.1.2)
      have hd8 := hdG st8 hes5
      obtain ⟨vv, hvv⟩ := val_kvE (putE_has es (c, g, o) t)
      refine ⟨_, .inr (sg c), vv, hd8, rfl, hvv, ?_⟩
      rw [drop_kvE]
      refine last a c _ _ _ (setS (es' := dropE (putE es (c, g, o) t) c) st8 hd hd8 (fun x hx => st8.2.2.2.1 _ (List.mem_of_getElem? hes5) x (List.mem_filter.mp hx).1) ((st8.2.2.2.2.2 _ (List.mem_of_getElem? hes5)).drop))
end
end K33
/-! text Dy -/
set_option Elab.async false
set_option linter.all false
set_option maxRecDepth 100000
set_option maxHeartbeats 4000000
namespace K33
open PySem PySem.Spec PyProof.Rows L2 Evl K33G
def scLC : Scope := { kind := .function, names := [(".0", .local), ("_law_spot", .local), ("dict", .globalImplicit), ("_law_abc", .cell), ("_law_many", .cell), ("_law_rng_here", .cell)], isGenerator := false, isCoroutine := false }
section
variable {P : Program} {w : World} {K : PySem.W.Frag} {mg : Str → Option Value} {base : Heap} {r g : Addr} {σ : L2.St} {H : Hp} {te ta tb td ty tw : TE} {D : Ends} {tz : TS} {tr : TA}
def spFormat (K : PySem.W.Frag) : Sp := fun vs H Q _ => ∃ (r pp tt mm : Addr) (p q x a b : Nat) (m n : Str), vs = [.ref r, nv 5, .ref pp, .ref tt, .ref mm] ∧ Rg r H ∧ Src (del r H) pp tt mm [p, q, x] [a, b] [m, n] ∧ p ≠ q ∧ p ≠ x ∧ q ≠ x ∧ ∀ (t : Addr) (H' : Hp), Xr r H H' → FmtAt K (del r H') t [p, q, x] [a, b] [m, n] → Q (.ref t) H'
abbrev N_law_format : List Str := ["_law_rng_here", "_law_cap", "_law_paper", "_law_tells", "_law_marks_here", "_law_way", "_law_found"]
theorem sc_law_format : FnScope N_law_format ["_law_rng_here", "_law_cap", "_law_paper", "_law_tells", "_law_marks_here"] (defScope (top 68)) := ⟨rfl, rfl, rfl, by decide +kernel, rfl, by decide +kernel, by decide +kernel⟩
theorem ok_law_format (T : Txt K mg) : Ok P w K mg base 4 "_law_format" ["_law_rng_here", "_law_cap", "_law_paper", "_law_tells", "_law_marks_here"] (spFormat K) := by
  refine ok_of T.law_format sc_law_format (fun vs H Q E h => ?_) (fun _ _ _ _ _ _ us hl => match us, hl with | [_, _, _, _, _], _ => rfl) (fun f cdv A outer s H vs Q E hr h => ?_)
  · obtain ⟨_, _, _, _, _, _, _, _, _, _, _, rfl, _⟩ := h
    rfl
  · obtain ⟨r, pp, tt, mm, p, q, x, a, b, m, n, rfl, hg, src, pq, px, qx, fin⟩ := h
    refine ⟨_, (pss_cons (ps_set (i := 5) sc_law_format.nd rfl (Or.inl rfl) (pe_f (ok_law_draw T) (hr.mono (by decide)) (pa_cons (pv 0) (pa_cons pe_int pa_nil))))
 (pss_cons (ps_if (pt_cmpR op_lt (pv 5) pe_int (nomark _))
 (pss_one (ps_ret (pe_f (ok_law_any_format T) (hr.mono (by decide)) (pa_cons (pv 0) (pa_cons (pv 1) (pa_cons (pv 2) (pa_cons (pv 3) (pa_cons (pv 4) pa_nil))))))))
 pss_nil)
 (pss_cons (ps_set (i := 6) sc_law_format.nd rfl (Or.inl rfl) (pe_f (ok_law_family T) (hr.mono (by decide)) (pa_cons (pe_f (ok_law_draw T) (hr.mono (by decide)) (pa_cons (pv 0) (pa_cons pe_int pa_nil))) (pa_cons (pv 2) (pa_cons (pv 3) (pa_cons (pv 4) pa_nil))))))
 (pss_one (ps_ret (pe_ifExp (pt_cmpR op_lt (pv 5) pe_int (nomark _)) (pv 6) (pe_f (ok_law_bent T) (hr.mono (by decide)) (pa_cons (pv 0) (pa_cons (pv 6) (pa_cons (pv 2) (pa_cons (pv 3) (pa_cons (pv 4) pa_nil)))))))))))), ?_⟩
    refine q_asgR hg (er_draw (many := 9) (fun H2 e2 => ea_cons (ev_var rfl) (ea_cons ev_c ea_nil)) (by omega) (by omega)) fun v H1 x1 ⟨way, hv, _⟩ => ?_
    subst hv
    refine q_when (et_test (ev_op (ev_var rfl) ev_c rv_lt)) (fun _ H2 e2 => ?_) fun _ H2 e2 => ?_
    · have x2 := x1.trans (Xr.of e2 x1.2)
      exact s_retC (ea_cons (ev_var rfl) (ea_cons (ev_var rfl) (ea_cons (ev_var rfl) (ea_cons (ev_var rfl) (ea_cons (ev_var rfl) ea_nil))))) fun H3 e3 => ⟨r, pp, tt, mm, _, _, _, rfl, x2.2.mono e3, src.mono (x2.trans (Xr.of e3 x2.2)).ex, by simp, by simp, by simp, fun t H4 x4 h => fin t H4 ((x2.trans (Xr.of e3 x2.2)).trans x4) h⟩
    · have x2 := x1.trans (Xr.of e2 x1.2)
      refine q_asgR x2.2 (P := fun v H' => ∃ t, v = .ref t ∧ FmtAt K (del r H') t [p, q, x] [a, b] [m, n]) (er_call (Pl := fun vs _ => ∃ d, vs = [nv d, .ref pp, .ref tt, .ref mm]) (era_cons (er_draw (many := 5) (fun H3 e3 => ea_cons (ev_var rfl) (ea_cons ev_c ea_nil)) (by omega) (by omega)) fun y H3 e3 ⟨d, hy, _⟩ => (era_v fun H4 e4 => ea_cons (ev_var rfl) (ea_cons (ev_var rfl) (ea_cons (ev_var rfl) ea_nil))).imp fun vs H4 _ hv => ⟨d, by rw [hy, hv]⟩) fun vs H3 e3 ⟨d, hv⟩ Q' E q' => ?_) fun v H3 x3 ⟨t, hv, hF⟩ => ?_
      · subst hv
        refine ⟨d, pp, tt, mm, p, q, x, a, b, m, n, rfl, (src.mono (x2.trans e3).1), pq, px, qx, fun t y z H4 rows ends start e4 hy hz h1 h2 h3 h4 => q' _ _ (Xr.of e4 e3.2) ⟨t, rfl, y, z, rows, ends, start, ?_, ?_, ?_, h4⟩⟩
        · obtain ⟨i, j, hr4, _⟩ := e3.2.mono e4
          exact sqT_delL h1 hr4
        · obtain ⟨i, j, hr4, _⟩ := e3.2.mono e4
          obtain ⟨ds, k1, k2⟩ := h2
          exact ⟨ds, sqL_del k1 (e3.2.ne hy), rowsA_delL k2 hr4⟩
        · exact sqL_del h3 (e3.2.ne hz)
      · subst hv
        have x23 := x2.trans x3
        refine s_retR x3.2 (er_if (etr_of fun H4 e4 => et_test (ev_op (ev_var rfl) ev_c rv_lt)) (fun H4 e4 _ => (er_var rfl).imp fun v H5 e5 hv => (⟨t, hv, hF.mono ((e4.trans e5).ex)⟩ : ∃ t, v = .ref t ∧ FmtAt K (del r H5) t [p, q, x] [a, b] [m, n])) fun H4 e4 _ => er_call (era_v fun H5 e5 => ea_cons (ev_var rfl) (ea_cons (ev_var rfl) (ea_cons (ev_var rfl) (ea_cons (ev_var rfl) (ea_cons (ev_var rfl) ea_nil))))) fun vs H5 e5 hv Q' E q' => ?_) fun v H4 x4 ⟨t', hv, hF'⟩ => by
          subst hv
          exact fin t' H4 (x23.trans x4) hF'
        subst hv
        exact ⟨r, t, pp, tt, mm, _, _, _, rfl, e5.2, hF.mono ((e4.trans e5).ex), src.mono (x23.trans (e4.trans e5)).ex, by simp, by simp, by simp, by simp, fun t' H6 e6 h6 => q' _ _ e6 ⟨t', rfl, h6⟩⟩
theorem fd_xr {H' : Hp} {d : Addr} {kvs : List (Key × V)} (h : FD H d kvs) (hg : Rg r H) (e : Xr r H H') : FD H' d kvs := by
  obtain ⟨a, b, hr, _⟩ := hg
  exact (fd_delL h hr).mono e.1
theorem cb1 {rc : List V → Hp → VK → Prop} {Q : VK} (h : te σ H fun x H1 => rc [x] H1 Q) : tCB rc (tCons te tNil) σ H Q := h
theorem fz1 {Q : VK} (h : te σ H fun v H1 => ∃ d u, v = .ref d ∧ H1 d = some u ∧ Mut (some u) ∧ ∀ od, Q v (upd H1 d (.frz od u))) : tFz te σ H Q := h
/-- a machine's row, drawn -/
theorem er_rowM {l : List Nat} {vs : List Nat} {j n : Nat} (hs : ∀ H1, Xr r H H1 → Ev te σ H1 (.str (txt l))) (nd : l.Nodup) (l4 : l.length ≤ 100) (hj : ∀ x, wipe ((wipe σ vs).set j (some x)) vs = wipe σ vs) (hv : ∀ x : V, ((wipe σ vs).set j (some x))[j]? = some (some x)) (hx : ∀ c H1, Xr r H H1 → EvR r tw ((wipe σ vs).set j (some (.str (sg c)))) H1 fun v _ => ∃ k : Nat, v = nv k ∧ k < n) :
    EvR r (tFz (tCB (rDictP K) (tCons (tLc (iStr te) (gName j) tYes (tTup (tCons (tVar j) (tCons tw tNil))) vs) tNil))) σ H (fun v H' => ∃ d f, v = .ref d ∧ d ≠ r ∧ FD H' d (mrow l f) ∧ ∀ c ∈ l, f c < n) := by
  intro H1 e1 Q q
  let Pv : Nat → List V → Hp → Prop := fun i acc G => ∃ (ps : List Addr) (f : Nat → Nat), acc = ps.map V.ref ∧ Paired (fun (p : Addr) (kv : Key × V) => SqT K G p [kV kv.1, kv.2]) ps (mrow (l.take i) f) ∧ ∀ c ∈ l.take i, f c < n
  refine fz1 (cb1 ?_)
  refine er_lc (r := r) (n := (txt l).cps.size) (Y := fun i H v H' => H' = H ∧ ∃ c, (txt l).cps[i]? = some c ∧ v = .str ⟨#[c]⟩) Pv (fun H2 e2 => ivt_str (hs H2 e2)) (fun H2 e2 => ⟨[], fun _ => 0, rfl, by rw [List.take_zero]; exact .nil, fun c hc => (by simp at hc)⟩) (fun i acc G hi ⟨ps, f, h1, h2, _⟩ => ?_)
    (fun D i x acc Ha Hb hi hD nD ed hDa ⟨ps, f, h1, h2, h3⟩ y k hk => ?_) H1 e1 _ fun v H2 e2 ⟨p, acc, hv, hp, npr, hp2, ps, f, h1, h2, h3⟩ => ?_
  · have hl := Paired.length h2
    simp only [mrow, List.length_map, List.length_take] at hl
    rw [h1, List.length_map]
    omega
  · have hsz : (txt l).cps.size = l.length := txt_len l
    rw [hsz, List.take_length] at h2 h3
    subst hv
    refine ⟨p, ps, mrow l f, rfl, sq_of (by rw [hp2, h1]), paired_imp (fun (a : Addr) (b : Key × V) h => ex_t del_le h) h2, fun d hd => ?_⟩
    have hmk : mergeK [] (mrow l f) = mrow l f := by
      unfold mergeK
      rw [merge_all _ _ (by
        rw [List.nil_append]
        unfold mrow
        rw [List.map_map]
        exact nd.map _ fun a b hab => fun z => hab ((key_eq a b).mp z))]
      rfl
    have ndr := e2.2.ne hd
    refine ⟨d, _, rfl, upd_same, trivial, fun od => ?_⟩
    rw [hmk]
    exact q _ _ ((e2.mut ((e2.back ndr hd)) ndr).mut (e2.back ndr hd) ndr) ⟨d, f, rfl, ndr, ⟨od, upd_same⟩, h3⟩
  · obtain ⟨rfl, c, hc, rfl⟩ := y
    have hc2 : l[i]? = some c := by
      have : (txt l).cps = l.toArray := rfl
      rw [this] at hc
      simpa using hc
    have hil := (List.getElem?_eq_some_iff.mp hc2).1
    have xa : Xr r H Hb := ed.trans (Xr.of del_le ed.2)
    refine hk _ _ (Xr.refl xa.2) (hj _) ((etr_of fun H7 e7 => et_yes).imp' fun b H7 e7 hb => ⟨fun _ => ?_, fun h => by rw [hb] at h; cases h⟩)
    refine (er_tup (Pl := fun vs _ => ∃ k : Nat, vs = [.str (sg c), nv k] ∧ k < n) (era_cons (er_var (hv _)) fun x H8 e8 hx8 => era_one (hx c H8 (xa.trans (e7.trans e8))) fun y H9 e9 ⟨k, hy, hkn⟩ => ⟨k, by rw [hx8, hy], hkn⟩) (fun _ _ _ _ h => h) fun vs _ ⟨k, h, _⟩ => by rw [h]; simp).imp fun v H8 e8 ⟨t, vs', hv8, ht, ht0, ht1, k, hvs, hkn⟩ => ?_
    subst hv8 hvs
    have ntD : t ≠ D := fun z => by
      have := e7.get hDa nD
      rw [← z, ht0] at this
      cases this
    have ex8 : Xr r (del D Hb) (del D H8) := (e7.trans e8).del nD
    have hno : c ∉ l.take i := fun hm => by
      obtain ⟨j2, hj2⟩ := List.mem_iff_getElem?.mp hm
      rw [List.getElem?_take] at hj2
      split at hj2
      · rename_i hlt
        have := nd_at nd hj2 hc2
        omega
      · cases hj2
    have hm : mrow (l.take (i + 1)) (fun x => if x = c then k else f x) = mrow (l.take i) f ++ [((.inr (sg c) : Key), nv k)] := by
      rw [List.take_succ, hc2, Option.toList_some]
      unfold mrow
      rw [List.map_append, List.map_singleton]
      have e1 : (l.take i).map (fun x => ((.inr (sg x) : Key), nv (if x = c then k else f x))) = (l.take i).map (fun x => ((.inr (sg x) : Key), nv (f x))) := List.map_congr_left fun x hx => by rw [if_neg (show ¬ x = c from fun z => hno (z ▸ hx))]
      have e2 : nv (if c = c then k else f c) = nv k := by rw [if_pos rfl]
      exact congr (congrArg HAppend.hAppend e1) (by rw [e2])
    refine ⟨ps ++ [t], fun x => if x = c then k else f x, by rw [h1, List.map_append]; rfl, ?_, fun x hx => ?_⟩
    · rw [hm]
      have q1 : Paired (fun (p : Addr) (kv : Key × V) => SqT K (del D H8) p [kV kv.1, kv.2]) ps (mrow (l.take i) f) := paired_imp (fun (a : Addr) (b : Key × V) h => sqT_xr h ed.2 ex8) h2
      have q2 : SqT K (del D H8) t [.str (sg c), nv k] := st_of (by rw [del_ne ntD]; exact ht1)
      exact paired_snoc (F := fun (p : Addr) (kv : Key × V) => SqT K (del D H8) p [kV kv.1, kv.2]) q2 q1
    · show (if x = c then k else f x) < n
      rw [List.take_succ, hc2, Option.toList_some] at hx
      split
      · exact hkn
      · rename_i hne
        rcases List.mem_append.mp hx with h | h
        · exact h3 x h
        · exact absurd (List.mem_singleton.mp h) hne
def spClass (K : PySem.W.Frag) : Sp := fun vs H Q _ => ∃ (r : Addr) (l : List Nat), vs = [.ref r, nv 3, .str (txt l)] ∧ Rg r H ∧ LOk l ∧ ∀ (t p q : Addr) (n : Nat) (go : Nat → Nat → Nat) (mem : List Nat) (H' : Hp), Xr r H H' → H p = none → H q = none → SqT K H' t [.str (txt l), .ref p, .ref q] → McAt K H' p q l n go mem → MOk l n go mem → n ≤ 3 → Q (.ref t) H'
abbrev N_law_class : List Str := ["_law_rng_here", "_law_cap", "_law_abc", "_law_many", "_law_rows", "_law_letter", "_law_spot"]
theorem sc_law_class : FnScope N_law_class ["_law_rng_here", "_law_cap", "_law_abc"] (defScope (top 71)) := ⟨rfl, rfl, rfl, by decide +kernel, rfl, by decide +kernel, by decide +kernel⟩
theorem ok_law_class (T : Txt K mg) : Ok P w K mg base 2 "_law_class" ["_law_rng_here", "_law_cap", "_law_abc"] (spClass K) := by
  refine ok_of T.law_class sc_law_class (fun vs H Q E h => ?_) (fun _ _ _ _ _ _ us hl => match us, hl with | [_, _, _], _ => rfl) (fun f cdv A outer s H vs Q E hr h => ?_)
  · obtain ⟨_, _, rfl, _⟩ := h
    rfl
  · obtain ⟨r, l, rfl, hg, lok, fin⟩ := h
    refine ⟨_, (pss_cons (ps_if (pt_cmpR op_eq (pe_f (ok_law_draw T) (hr.mono (by decide)) (pa_cons (pv 0) (pa_cons pe_int pa_nil))) pe_int (nomark _))
 (pss_one (ps_ret (pe_tup (pa_cons (pv 2) (pa_cons (pe_lst (pa_cons (pe_fz (pe_dictP (K := K) T.dict (pa_cons (pe_lc (own := [("_law_letter", 5)]) (g := gName 5) (by rfl) sc_law_class.nd (pi_str (pv 2)) (blkOk_by (own := [("_law_letter", 5)]) (N := N_law_class) (sc := defScope (top 71)) (by decide +kernel)) (fun _ _ _ _ _ => (pg_name (i := 5) sc_law_class.nd rfl (Or.inl rfl))) (fun _ _ _ _ _ => by exact pts_nil) (fun _ _ _ _ _ => by exact (pe_tup (pa_cons (pv 5) (pa_cons pe_int pa_nil))))) pa_nil))) pa_nil)) (pa_cons (pe_lst (pa_cons pe_int pa_nil)) pa_nil))))))
 pss_nil)
 (pss_cons (ps_set (i := 3) sc_law_class.nd rfl (Or.inr rfl) (pe_op op_add pe_int (pe_f (ok_law_draw T) (hr.mono (by decide)) (pa_cons (pv 0) (pa_cons (pv 1) pa_nil)))))
 (pss_cons (ps_setLc (i := 4) (own := [("_law_spot", 6)]) (g := gName 6) (by rfl) sc_law_class.nd rfl rfl (sw_true rfl rfl rfl (by decide +kernel)) (pi_range1 rfl T.range (pa_cons (pv 3) pa_nil)) (blkOk_by (own := [("_law_spot", 6)]) (N := N_law_class) (sc := defScope (top 71)) (by decide +kernel)) (fun _ _ _ _ _ => (pg_name (i := 6) sc_law_class.nd rfl (Or.inl rfl))) (fun _ _ _ _ _ => by exact pts_nil) (fun _ _ _ _ _ => by exact (pe_fz (pe_dictP (K := K) T.dict (pa_cons (pe_lc (own := [("_law_letter", 5)]) (g := gName 5) (by rfl) sc_law_class.nd (pi_str (pv 2)) (blkOk_by (own := [("_law_letter", 5)]) (N := N_law_class) (sc := scLC) (by decide +kernel)) (fun _ _ _ _ _ => (pg_name (i := 5) sc_law_class.nd rfl (Or.inl rfl))) (fun _ _ _ _ _ => by exact pts_nil) (fun _ _ _ _ _ => by exact (pe_tup (pa_cons (pv 5) (pa_cons (pe_f (ok_law_draw T) (hr.mono (by decide)) (pa_cons (pv 0) (pa_cons (pv 3) pa_nil))) pa_nil))))) pa_nil)))))
 (pss_one (ps_ret (pe_tup (pa_cons (pv 2) (pa_cons (pv 4) (pa_cons (pe_lc (own := [("_law_spot", 6)]) (g := gName 6) (by rfl) sc_law_class.nd (pi_range1 rfl T.range (pa_cons (pv 3) pa_nil)) (blkOk_by (own := [("_law_spot", 6)]) (N := N_law_class) (sc := defScope (top 71)) (by decide +kernel)) (fun _ _ _ _ _ => (pg_name (i := 6) sc_law_class.nd rfl (Or.inl rfl))) (fun _ _ _ _ _ => by exact (pts_one (pt_cmpR op_eq (pe_f (ok_law_draw T) (hr.mono (by decide)) (pa_cons (pv 0) (pa_cons pe_int pa_nil))) pe_int (nomark _)))) (fun _ _ _ _ _ => by exact (pv 6))) pa_nil))))))))), ?_⟩
    have l4 := lok.four
    refine q_whenR hg (etr_drawEq (m := 3) (fun H6 e6 => ea_cons (ev_var rfl) (ea_cons ev_c ea_nil)) (by omega) (by omega)) (fun H1 x1 _ => ?_) fun H1 x1 _ => ?_
    · refine s_retR x1.2 (er_tup (Pl := fun vs G => ∃ (p q : Addr) (d : Addr) (f : Nat → Nat), vs = [.str (txt l), .ref p, .ref q] ∧ H1 p = none ∧ H1 q = none ∧ G p = some (.lst [.ref d]) ∧ G q = some (.lst [nv 0]) ∧ FD G d (mrow l f) ∧ ∀ c ∈ l, f c < 1) (era_cons (er_var rfl) fun x H2 e2 hx => era_cons (er_lst (Pl := fun vs G => ∃ d f, vs = [.ref d] ∧ FD G d (mrow l f) ∧ ∀ c ∈ l, f c < 1) (era_one (er_rowM (n := 1) (fun H3 e3 => ev_var rfl) lok.nd (by omega) (fun _ => rfl) (fun _ => rfl) fun c H3 e3 => er_c.imp fun v H4 _ hv => ⟨0, by rw [hv]; rfl, by omega⟩) fun v H3 e3 ⟨d, f, hv, _, hf, hl⟩ => ⟨d, f, by rw [hv], hf, hl⟩) (fun vs G1 G2 e ⟨d, f, a, b, c⟩ => ⟨d, f, a, b.mono e, c⟩) fun vs G ⟨d, f, a, _⟩ => by rw [a]; simp) fun y H3 e3 ⟨p, vs, hy, npr, hp, hp1, d, f, hvs, hf, hfl⟩ => era_one (er_of (P := fun z G => ∃ q, z = .ref q ∧ H1 q = none ∧ G q = some (.lst [nv 0])) fun H4 e4 => (evp_L (el_lst (vs := [nv 0]) (ea_cons ev_c ea_nil) (by simp))).imp fun z H5 e5 ⟨q, hz, hq, hq1⟩ => ⟨q, hz, ((e2.trans e3).trans e4).back (e4.2.ne hq) hq, hq1⟩) fun z H4 e4 ⟨q, hz, hq, hq1⟩ => ?_) (fun vs G1 G2 e ⟨p, q, d, f, a, b, c, d1, d2, d3, d4⟩ => ⟨p, q, d, f, a, b, c, e _ _ d1, e _ _ d2, d3.mono e, d4⟩) fun vs G ⟨p, q, d, f, a, _⟩ => by rw [a]; simp) fun v H2 x2 ⟨t, vs, hv, ht, _, ht1, p, q, d, f, hvs, hp, hq, hp1, hq1, hf, hfl⟩ => ?_
      · refine ⟨p, q, d, f, by rw [hx, hy, hz], e2.back npr hp, hq, e4.get (by rw [hp1, hvs]) npr, hq1, ?_, hfl⟩
        exact fd_xr hf e3.2 e4
      · subst hv hvs
        refine fin t p q 1 (fun _ => f) [0] H2 (x1.trans x2) (x1.back (x1.2.ne hp) hp) (x1.back (x1.2.ne hq) hq) (st_of ht1) ⟨[d], sq_of hp1, ⟨rfl, fun i hi => ⟨d, (by obtain rfl : i = 0 := (by omega); rfl), hf⟩⟩, sq_of hq1⟩ ⟨lok, by omega, by omega, fun s _ c hc => hfl c hc, by simp, by simp⟩ (by omega)
    · refine q_asgR x1.2 (P := fun v _ => ∃ n : Nat, v = nv n ∧ 1 ≤ n ∧ n ≤ 3) (er_op (Pa := fun x _ => x = .int 1) (Pb := fun x y _ => x = .int 1 ∧ ∃ d, y = nv d ∧ d < 3) er_c (fun x H3 e3 hx => (er_draw (many := 3) (fun H4 e4 => ea_cons (ev_var rfl) (ea_cons (ev_var rfl) ea_nil)) (by omega) (by omega)).imp fun v H4 _ hv => ⟨hx, hv⟩) fun x y H3 Q' e3 ⟨hx, d, hy, hd⟩ q' => ?_) fun v H2 x2 ⟨n, hv, n1, n3⟩ => ?_
      rotate_left
      · subst hx hy
        exact ⟨1, d, rfl, rfl, q' _ _ (Xr.refl e3.2) ⟨d + 1, by show V.int _ = V.int _; congr 1; omega, by omega, by omega⟩⟩
      subst hv
      let Pv : Nat → List V → Hp → Prop := fun i acc G => ∃ (ds : List Addr) (gs : List (Nat → Nat)), acc = ds.map V.ref ∧ ds.length = i ∧ gs.length = i ∧ ∀ (j : Nat) (f : Nat → Nat), gs[j]? = some f → ∃ d, ds[j]? = some d ∧ FD G d (mrow l f) ∧ ∀ c ∈ l, f c < n
      refine q_asgR x2.2 (er_lc (n := n) (Y := YFn fun i => .int (i : Nat)) Pv (fun H3 e3 => ivt_range1 (ea_cons (ev_var rfl) ea_nil) (by omega)) (fun H3 e3 => ⟨[], [], rfl, rfl, rfl, fun j f hj => by simp at hj⟩) (fun i acc G hi ⟨ds, gs, h1, h2, _⟩ => by rw [h1, List.length_map]; omega) fun D i x acc Ha Hb hi hD nD ed hDa ⟨ds, gs, h1, h2, h3, h4⟩ y k hk => ?_) fun v H3 x3 ⟨p, acc, hv, hp, npr, hp1, ds, gs, h1, h2, h3, h4⟩ => ?_
      · obtain ⟨rfl, rfl⟩ := y
        have xa : Xr r H2 Hb := ed.trans (Xr.of del_le ed.2)
        refine hk _ _ (Xr.refl xa.2) rfl ((etr_of fun H7 e7 => et_yes).imp' fun b H7 e7 hb => ⟨fun _ => ?_, fun h => by rw [hb] at h; cases h⟩)
        refine (er_rowM (n := n) (fun H8 e8 => ev_var rfl) lok.nd (by omega) (fun _ => rfl) (fun _ => rfl) fun c H8 e8 => er_draw (many := n) (fun H9 e9 => ea_cons (ev_var rfl) (ea_cons (ev_var rfl) ea_nil)) n1 (by omega)).imp fun v H8 e8 ⟨d, f, hv, ndr, hf, hfl⟩ => ?_
        have hD8 : H8 D = some (.lst acc) := (e7.trans e8).get hDa nD
        have ex8 : Xr r (del D Hb) (del D H8) := (e7.trans e8).del nD
        refine ⟨ds ++ [d], gs ++ [f], by rw [hv, h1, List.map_append]; rfl, by simp [h2], by simp [h3], fun j f' hj => ?_⟩
        by_cases hlt : j < gs.length
        · rw [List.getElem?_append_left hlt] at hj
          obtain ⟨d', k1, k2, k3⟩ := h4 j f' hj
          exact ⟨d', by rw [List.getElem?_append_left (by omega)]; exact k1, fd_xr k2 ed.2 ex8, k3⟩
        · obtain rfl : j = gs.length := by
            have := (List.getElem?_eq_some_iff.mp hj).1
            simp at this
            omega
          obtain rfl : f = f' := by simpa using hj
          exact ⟨d, by rw [h3, ← h2]; simp, fd_delL hf hD8, hfl⟩
      · subst hv
        have x13 := (x1.trans x2).trans x3
        have hpH := (x1.trans x2).back npr hp
        refine s_retR x3.2 (er_tup (Pl := fun vs G => ∃ (q : Addr) (xs : List Nat), vs = [.str (txt l), .ref p, .ref q] ∧ H3 q = none ∧ G q = some (.lst (xs.map nv)) ∧ xs.Nodup ∧ ∀ x ∈ xs, x < n) (era_cons (er_var rfl) fun x H4 e4 hx => era_cons (er_var rfl) fun y H5 e5 hy => era_one (er_pick (n := n) (fun H6 e6 => ivt_range1 (ea_cons (ev_var rfl) ea_nil) (by omega)) (by omega) (fun _ => rfl) (fun i H6 e6 => etr_drawEq (m := 2) (fun H7 e7 => ea_cons (ev_var rfl) (ea_cons ev_c ea_nil)) (by omega) (by omega)) fun _ => rfl) fun z H6 e6 ⟨q, xs, hz, hq, nq, hq1, xnd, xlt⟩ => ⟨q, xs, by rw [hx, hy, hz], (e4.trans e5).back nq hq, hq1, xnd, xlt⟩) (fun vs G1 G2 e ⟨q, xs, a, b, c, d⟩ => ⟨q, xs, a, b, e _ _ c, d⟩) fun vs G ⟨q, xs, a, _⟩ => by rw [a]; simp) fun v H4 x4 ⟨t, vs, hv, ht, _, ht1, q, xs, hvs, hq, hq1, xnd, xlt⟩ => ?_
        subst hv hvs
        have hgo : ∀ i < n, ∃ d, ds[i]? = some d ∧ FD H3 d (mrow l ((gs.getD i fun _ => 0))) ∧ ∀ c ∈ l, (gs.getD i fun _ => 0) c < n := fun i hi => by
          have hg : gs[i]? = some (gs.getD i fun _ => 0) := by
            rw [List.getD_eq_getElem?_getD, List.getElem?_eq_getElem (by omega)]
            rfl
          obtain ⟨d, k1, k2, k3⟩ := h4 i _ hg
          exact ⟨d, k1, k2.mono del_le, k3⟩
        refine fin t p q n (fun i => gs.getD i fun _ => 0) xs H4 (x13.trans x4) hpH (x13.back (x3.2.ne hq) hq) (st_of ht1) ⟨ds, sq_of (x4.get (by rw [hp1, h1]) npr), ⟨h2, fun i hi => ?_⟩, sq_of hq1⟩ ⟨lok, n1, by omega, fun s hs c hc => ?_, xnd, xlt⟩ n3
        · obtain ⟨d, k1, k2, _⟩ := hgo i hi
          exact ⟨d, k1, fd_xr k2 x3.2 x4⟩
        · obtain ⟨_, _, _, k3⟩ := hgo s hs
          exact k3 c hc
end
end K33
/-! text Ea -/
set_option Elab.async false
set_option linter.all false
set_option maxRecDepth 100000
set_option maxHeartbeats 4000000
/-! new readers, languages and doors -/
namespace K33
open PySem PySem.Spec PyProof.Rows L2 Evl K33G
section
variable {X : Cx} {p pos : Pos} {e : Expr} {es : List Expr} {t : TA}
theorem pe_Door (T : Txt X.K X.mg) (hr : Room 5 X.A) (ha : PA X (e :: es) t) (hg : Gl X "Door" := by rfl) (hdb : (("Door" : Str) == ("__debug__" : Str)) = false := by decide) (he : starEach (e :: es) X.env = (false, eval e X.env) :: starEach es X.env := by rfl) (hpl : (backTo pos (starEach es X.env)).any (·.1) = false := by rfl) :
    PE X (.Call (.Name "Door" p) (e :: es) [] pos) (tMake (clsOf X.mg "Door") (spDoorInit X.K X.mg) [] E0 t) := by
  obtain ⟨f, fd, m, F, b⟩ := ok_Door_init (P := X.prog) (w := X.w) (base := X.base) T
  exact pe_make m F hr hg T.Door.glo b .nil pass0 ha hdb he hpl
theorem pe_Language (T : Txt X.K X.mg) (hr : Room 6 X.A) (ha : PA X (e :: es) t) (hg : Gl X "Language" := by rfl) (hdb : (("Language" : Str) == ("__debug__" : Str)) = false := by decide) (he : starEach (e :: es) X.env = (false, eval e X.env) :: starEach es X.env := by rfl) (hpl : (backTo pos (starEach es X.env)).any (·.1) = false := by rfl) :
    PE X (.Call (.Name "Language" p) (e :: es) [] pos) (tMake (clsOf X.mg "Language") (spLangInit X.K X.mg) [] E0 t) := by
  obtain ⟨f, fd, m, F, b⟩ := ok_Language_init (P := X.prog) (w := X.w) (base := X.base) T
  exact pe_make m F hr hg T.Language.glo b .nil pass0 ha hdb he hpl
/-- Reader(rows, stops, start=begin) -/
theorem pe_Reader {kp : Pos} {e3 : Expr} {t3 : TE} (T : Txt X.K X.mg) (hr : Room 8 X.A) (ha : PA X (e :: es) t) (h3 : PE X e3 t3) (hg : Gl X "Reader" := by rfl) (hall : (backToKw pos (keywordEach [⟨some "start", e3, kp⟩] X.env)).all (·.1.isSome) = true := by rfl) (hks : (backToKw pos (keywordEach [⟨some "start", e3, kp⟩] X.env)).filterMap (·.1) = [("start" : Str)] := by rfl)
    (hdb : (("Reader" : Str) == ("__debug__" : Str)) = false := by decide) (he : starEach (e :: es) X.env = (false, eval e X.env) :: starEach es X.env := by rfl)
    (hpl : ((backTo pos (starEach (e :: es) X.env)).any (·.1) || (backToKw pos (keywordEach [⟨some "start", e3, kp⟩] X.env)).any (·.1.isNone)) = false := by rfl) :
    PE X (.Call (.Name "Reader" p) (e :: es) [⟨some "start", e3, kp⟩] pos) (tMakeN (clsOf X.mg "Reader") 2 1 (spReaderInit X.K X.mg) (fun vs zs => vs ++ zs) E0 t (tCons t3 tNil)) := by
  obtain ⟨f, fd, T0, m, F, hT0, ok⟩ := ok_Reader_init (P := X.prog) (w := X.w) (base := X.base) T
  obtain ⟨its, kb⟩ := F.kbindsD (ps := ["self", "states", "ends", "start"]) 3 [("start" : Str)] (fun us _ ws => us ++ ws) (by simp) (fun r1 _ r3 => r1.append r3) (fun T kV doc pm an cdv ct us its ws l1 l2 l3 => by
    match us, l1, its, l2, ws, l3 with
    | [_, _, _], _, [_], _, [_], _ => exact ⟨_, rfl, rfl⟩)
  exact pe_makeN (n := 2) (ks := [("start" : Str)]) m ok hr hg T.Reader.glo kb pass0 ha (pk_cons h3 pk_nil) hall hks hdb he hpl
/-- Reader(rows) -/
theorem pe_Reader1 {T0 : Addr} (T : Txt X.K X.mg) (hT : ∃ (f : Addr) (fd : FuncData), Mk X.K (clsOf X.mg "Reader") f ∧ FunM X.K "__init__" "Reader.__init__" (inClass (top 26) 1) [.ref T0] [("start", .int 0)] f fd ∧ FnOk X.prog X.w X.K X.mg X.base CX0 7 f fd ["self", "states", "ends", "start"] (spReaderInit X.K X.mg)) (hr : Room 8 X.A) (ha : PA X [e] t) (hg : Gl X "Reader" := by rfl) (hdb : (("Reader" : Str) == ("__debug__" : Str)) = false := by decide) (he : starEach [e] X.env = (false, eval e X.env) :: starEach [] X.env := by rfl) (hpl : (backTo pos (starEach [] X.env)).any (·.1) = false := by rfl) :
    PE X (.Call (.Name "Reader" p) [e] [] pos) (tMake (clsOf X.mg "Reader") (spReaderInit X.K X.mg) [.ref T0, .int 0] E0 t) := by
  obtain ⟨f, fd, m, F, ok⟩ := hT
  obtain ⟨ds, hv, b⟩ := F.binds (ps := ["self", "states", "ends", "start"]) 2 0 (by simp) rfl (fun T D doc pm an cdv ct us its ks l1 l2 l3 => by
    match us, l1, its, l2, ks, l3 with
    | [_, _], _, [_], _, [_], _ => exact ⟨_, rfl, ⟨_, _, _, _, _, _, rfl, rfl, rfl⟩⟩) (by simp)
  exact pe_make m ok hr hg T.Reader.glo b hv pass0 ha hdb he hpl
end
end K33
/-! text Eb -/
set_option Elab.async false
set_option linter.all false
set_option maxRecDepth 100000
set_option maxHeartbeats 4000000
namespace K33
open PySem PySem.Spec PyProof.Rows L2 Evl K33G
section
variable {P : Program} {w : World} {K : PySem.W.Frag} {mg : Str → Option Value} {base : Heap} {r g : Addr} {σ : L2.St} {H : Hp} {te ta tb td ty tw : TE} {D : Ends} {tz : TS} {tr tk : TA}
theorem insL {a C dx : Addr} {fs : List (Str × V)} {ys : List V} (h : H a = some (.ins C dx fs)) (hg : H g = some (.lst ys)) : del g H a = some (.ins C dx fs) := by
  rw [del_ne (fun z => by rw [z, hg] at h; cases h)]
  exact h
theorem LangAt.delL {a : Addr} {l : List Nat} {m : Nat} {go : Nat → Nat → Nat} {ml : List Nat} {ys : List V} (h : LangAt K mg H a l m go ml) (hg : H g = some (.lst ys)) : LangAt K mg (del g H) a l m go ml := by
  obtain ⟨dx, q1, q2, q3, fs, ds, h1, h2, h3, h4, h5, h6, h7, h8, h9⟩ := h
  refine ⟨dx, q1, q2, q3, fs, ds, insL h1 hg, h2, h3, h4, h5, sqT_delL h6 hg, ⟨h7.1, fun i hi => ?_⟩, sqT_delL h8 hg, sqT_delL h9 hg⟩
  obtain ⟨d, k1, k2⟩ := h7.2 i hi
  exact ⟨d, k1, fd_delL k2 hg⟩
theorem DoorAt.delL {d a L : Addr} {s : Nat} {bs : List Nat} {ys : List V} (h : DoorAt K mg H d a s bs L) (hg : H g = some (.lst ys)) : DoorAt K mg (del g H) d a s bs L := by
  obtain ⟨dx, q, fs, bs', h1, h2, h3, h4, h5, h6, h7⟩ := h
  exact ⟨dx, q, fs, bs', insL h1 hg, h2, h3, h4, h5, sqT_delL h6 hg, h7⟩
theorem ReaderAt.delL {a : Addr} {rows : List Row} {ys : List V} (h : ReaderAt K mg H a rows) (hg : H g = some (.lst ys)) : ReaderAt K mg (del g H) a rows := by
  obtain ⟨dx, q, fs, h1, h2, ds, h3, h4⟩ := h
  exact ⟨dx, q, fs, insL h1 hg, h2, ds, sqT_delL h3 hg, rowsA_delL h4 hg⟩
theorem MchAt.delL {t : Addr} {l : List Nat} {n : Nat} {go : Nat → Nat → Nat} {mem : List Nat} {ys : List V} {p q : Addr} (ht : SqT K H t [.str (txt l), .ref p, .ref q]) (h : McAt K H p q l n go mem) (hg : H g = some (.lst ys)) (np : p ≠ g) (nq : q ≠ g) : SqT K (del g H) t [.str (txt l), .ref p, .ref q] ∧ McAt K (del g H) p q l n go mem := by
  obtain ⟨ds, h1, h2, h3⟩ := h
  refine ⟨sqT_delL ht hg, ds, sqL_del h1 np, ⟨h2.1, fun i hi => ?_⟩, sqL_del h3 nq⟩
  obtain ⟨d, k1, k2⟩ := h2.2 i hi
  exact ⟨d, k1, fd_delL k2 hg⟩
/-! ### new objects as values -/
theorem made_ex {x dx : Addr} {o o' : HO} (hx : H x = none) (hdx : H dx = none) : Ex H (K33.del x (upd (upd H dx o) x o')) := by
  rw [del_upd]
  exact ex_del (Ex.new hdx) hx
theorem evp_Language {p q : Addr} {l : List Nat} {n : Nat} {go : Nat → Nat → Nat} {mem : List Nat} (ha : EvA tr σ H [.str (txt l), .ref p, .ref q]) (hM : McAt K H p q l n go mem) (ok : MOk l n go mem) :
    EvP (tMake (clsOf mg "Language") (spLangInit K mg) [] E0 tr) σ H (fun v H' => ∃ a m dl ml, v = .ref a ∧ Least l n go mem m dl ml ∧ LangAt K mg H' a l m dl ml) := fun H1 e Q k =>
  ha H1 e _ fun H2 e2 x dx hx hdx ne => by
    rw [List.append_nil]
    refine ⟨x, dx, p, q, l, n, go, mem, rfl, upd_same, (hM.mono (e.trans e2)).mono (made_ex hx hdx), ok, fun H3 m dl ml e3 hl hL => ⟨rfl, k _ H3 (e2.trans ((made_ex hx hdx).trans e3)) ⟨x, m, dl, ml, rfl, hl, hL⟩⟩⟩
theorem evp_Door {Pa : List V → Hp → Prop} (h : EvAP tr σ H Pa) (hs : ∀ vs H1, Ex H H1 → Pa vs H1 → ∃ (a p L : Addr) (s : Nat) (rows : List Row) (bs : List Nat), vs = [.ref a, nv s, .ref p, .ref L] ∧ ReaderAt K mg H1 a rows ∧ rows.length ≤ 12 ∧ s < rows.length ∧ SqL K H1 p (bs.map nv) ∧ bs.Nodup ∧ ∀ x ∈ bs, x < rows.length) :
    EvP (tMake (clsOf mg "Door") (spDoorInit K mg) [] E0 tr) σ H (fun v H' => ∃ d vs H1 a p L s rows bs, v = .ref d ∧ Ex H H1 ∧ Ex H1 H' ∧ Pa vs H1 ∧ vs = [.ref a, nv s, .ref p, .ref L] ∧ ReaderAt K mg H1 a rows ∧ SqL K H1 p (bs.map nv) ∧ DoorAt K mg H' d a s bs L) := fun H1 e Q k =>
  h H1 e _ fun vs H2 e2 hp x dx hx hdx ne => by
    obtain ⟨a, p, L, s, rows, bs, hv, h1, h2, h3, h4, h5, h6⟩ := hs vs H2 (e.trans e2) hp
    rw [List.append_nil]
    have hvs := hv
    subst hv
    refine ⟨x, dx, a, p, L, s, rows, bs, rfl, upd_same, h1.mono (made_ex hx hdx), h2, h3, ex_l (made_ex hx hdx) h4, h5, h6, fun H3 e3 hD => ⟨rfl, k _ H3 (e2.trans ((made_ex hx hdx).trans e3)) ⟨x, _, H2, a, p, L, s, rows, bs, rfl, e.trans e2, (made_ex hx hdx).trans e3, hp, rfl, h1, h4, hD⟩⟩⟩
theorem evp_Reader {p q : Addr} {rows : List Row} {ends : List Nat} {start : Nat} (ha : EvA tr σ H [.ref p, .ref q]) (hk : EvA tk σ H [nv start]) (hR : RowsL K H p rows) (hE : SqL K H q (ends.map nv)) (ok : RdOk rows (ends.map fun (i : Nat) => (i : Int)) start) :
    EvP (tMakeN (clsOf mg "Reader") 2 1 (spReaderInit K mg) (fun vs zs => vs ++ zs) E0 tr tk) σ H (fun v H' => ∃ a rows', v = .ref a ∧ PermR rows rows' ∧ ReaderAt K mg H' a rows') := fun H1 e Q k =>
  ha H1 e _ fun H2 e2 => hk H2 (e.trans e2) _ fun H3 e3 => ⟨rfl, rfl, fun x dx hx hdx ne => ⟨x, dx, p, q, start, rows, ends.map fun (i : Nat) => (i : Int), rfl, upd_same, (hR.mono ((e.trans e2).trans e3)).mono (made_ex hx hdx), .inl (ex_l (((e.trans e2).trans e3).trans (made_ex hx hdx)) (by rw [← nv_map]; exact hE)), ok, fun H4 rows' e4 hp hA => ⟨rfl, k _ H4 ((e2.trans e3).trans ((made_ex hx hdx).trans e4)) ⟨x, rows', rfl, hp, hA⟩⟩⟩⟩
theorem evp_Reader1 {p T0 : Addr} {rows : List Row} (hT : ∀ H, SqT K H T0 []) (ha : EvA tr σ H [.ref p]) (hR : RowsL K H p rows) (ok : RdOk rows [] 0) :
    EvP (tMake (clsOf mg "Reader") (spReaderInit K mg) [.ref T0, .int 0] E0 tr) σ H (fun v H' => ∃ a rows', v = .ref a ∧ PermR rows rows' ∧ ReaderAt K mg H' a rows') := fun H1 e Q k =>
  ha H1 e _ fun H2 e2 x dx hx hdx ne => ⟨x, dx, p, T0, 0, rows, [], rfl, upd_same, (hR.mono (e.trans e2)).mono (made_ex hx hdx), .inr (hT _), ok, fun H4 rows' e4 hp hA => ⟨rfl, k _ H4 (e2.trans ((made_ex hx hdx).trans e4)) ⟨x, rows', rfl, hp, hA⟩⟩⟩
theorem el_slL {tl th : TO} {xs : List V} {lo hi : Option Int} (h : EvL te σ H xs) (h1 : ∀ H1, Ex H H1 → EvO tl σ H1 lo) (h2 : ∀ H1, Ex H H1 → EvO th σ H1 hi) : EvL (tSl (rSlL K) te tl th) σ H (cutV xs lo hi) := fun H1 e _ q =>
  h H1 e _ fun a H2 ha e2 hs => h1 H2 (e.trans e2) H2 (Ex.refl H2) _ fun H3 e3 => h2 H3 ((e.trans e2).trans e3) H3 (Ex.refl H3) _ fun H4 e4 =>
    ⟨a, xs, rfl, sq_of (e4 _ _ (e3 _ _ hs)), fun p hp => q p _ (fresh_back ((e2.trans e3).trans e4) hp) (((e2.trans e3).trans e4).trans (Ex.new hp)) upd_same⟩
theorem er_letters {many : Nat} (ha : ∀ H1, Xr r H H1 → EvA (tCons ta (tCons tb tNil)) σ H1 [.ref r, nv many]) (hm : many ≤ 20) : EvR r (tCall spLetters [] E0 (tCons ta (tCons tb tNil))) σ H (fun v H' => ∃ (p : Addr) (cs : List Nat), v = .ref p ∧ p ≠ r ∧ H p = none ∧ H' p = some (.lst (vstr (cs.map sg))) ∧ cs.length = many ∧ cs.Nodup ∧ ∀ c ∈ cs, c ∈ lets) :=
  er_call (era_v ha) fun vs H1 e hv Q E q => by
    subst hv
    exact ⟨r, many, rfl, e.2, hm, fun p H2 cs e2 hp h1 h2 h3 h4 => q _ H2 e2 ⟨p, cs, rfl, e.2.ne hp, e.back (e.2.ne hp) hp, h1, h2, h3, h4⟩⟩
theorem er_marks {many : Nat} (ha : ∀ H1, Xr r H H1 → EvA (tCons ta (tCons tb tNil)) σ H1 [.ref r, nv many]) (hm : many ≤ 20) : EvR r (tCall spMarks [] E0 (tCons ta (tCons tb tNil))) σ H (fun v H' => ∃ (p : Addr) (zs : List Str), v = .ref p ∧ p ≠ r ∧ H p = none ∧ H' p = some (.lst (vstr zs)) ∧ zs.length = many ∧ ∀ z ∈ zs, isMark z = true) :=
  er_call (era_v ha) fun vs H1 e hv Q E q => by
    subst hv
    exact ⟨r, many, rfl, e.2, hm, fun p H2 zs e2 hp h1 h2 h3 => q _ H2 e2 ⟨p, zs, rfl, e.2.ne hp, e.back (e.2.ne hp) hp, h1, h2, h3⟩⟩
end
end K33
/-! text Ec -/
set_option Elab.async false
set_option linter.all false
set_option maxRecDepth 100000
set_option maxHeartbeats 4000000
namespace K33
open PySem PySem.Spec PyProof.Rows L2 Evl K33G
/-- letters sorted -/
theorem perm_sg {ys : List Str} {cs : List Nat} (h : ys.Perm (cs.map sg)) : ∃ l : List Nat, l.Perm cs ∧ ys = l.map sg := by
  refine ⟨ys.map fun z => z.cps.toList.headD 0, ?_, ?_⟩
  · have := h.map fun z : Str => z.cps.toList.headD 0
    rw [List.map_map] at this
    have e : cs.map ((fun z : Str => z.cps.toList.headD 0) ∘ sg) = cs := by
      conv => rhs; rw [← List.map_id cs]
      rfl
    rw [e] at this
    exact this
  · rw [List.map_map]
    conv => lhs; rw [← List.map_id ys]
    refine List.map_congr_left fun z hz => ?_
    obtain ⟨c, _, rfl⟩ := List.mem_map.mp (h.mem_iff.mp hz)
    rfl
theorem sorted_lt {l : List Nat} (h : sortedS (l.map sg) = true) (nd : l.Nodup) : l.Pairwise (· < ·) := ((sorted_sg h).and nd).imp fun h => Nat.lt_of_le_of_ne h.1 h.2
theorem lok_of {ys : List Str} {cs : List Nat} (h : ys.Perm (cs.map sg)) (hs : sortedS ys = true) (nd : cs.Nodup) (h1 : 1 ≤ cs.length) (h4 : cs.length ≤ 4) (ins : ∀ c ∈ cs, c ∈ lets) : ∃ l, ys = l.map sg ∧ LOk l := by
  obtain ⟨l, pl, rfl⟩ := perm_sg h
  exact ⟨l, rfl, by rw [pl.length_eq]; exact h1, by rw [pl.length_eq]; exact h4, sorted_lt hs (pl.nodup_iff.mpr nd), fun c hc => ins c (pl.mem_iff.mp hc)⟩
/-! ### drawn formats are in order -/
theorem sum_len {rows : List Row} {k : Nat} (h : ∀ r ∈ rows, r.length ≤ k) : rows.flatten.length ≤ rows.length * k := by
  induction rows with
  | nil => exact Nat.zero_le _
  | cons r rows ih =>
    rw [List.flatten_cons, List.length_append, List.length_cons, Nat.add_mul]
    have h1 := h r List.mem_cons_self
    have h2 := ih fun x hx => h x (List.mem_cons_of_mem _ hx)
    omega
theorem FmtOk.rowLen {ps ts : List Nat} {ms : List Str} {rows : List Row} {ends : List Nat} {start : Nat} (h : FmtOk ps ts ms rows ends start) (r : Row) (hr : r ∈ rows) : r.length ≤ ps.length := by
  have := nd_len (h.rok r hr).nd (m := ps) fun x hx => by
    obtain ⟨e, he, rfl⟩ := List.mem_map.mp hx
    exact ((h.rok r hr).ok e he).1
  rw [List.length_map] at this
  exact this
theorem isSign_sg {c : Nat} (h : c ∈ lets) : isSign (sg c) = true := by
  have : ∀ c ∈ lets, isSign (sg c) = true := by decide +kernel
  exact this c h
theorem sign_mark {z : Str} (h : isMark z = true) : isSign z = false := by
  unfold isMark at h
  unfold isSign
  rw [Bool.and_eq_true, Bool.and_eq_true, decide_eq_true_eq] at h
  rw [Bool.and_eq_false_iff]
  exact .inr (decide_eq_false (by omega))
theorem sign_len {z : Str} (h : isSign z = true) : z.length = 1 := by
  unfold isSign at h
  rw [Bool.and_eq_true, decide_eq_true_eq] at h
  exact h.2
theorem mark_len {z : Str} (h : isMark z = true) : z.length ≤ 8 := by
  unfold isMark at h
  rw [Bool.and_eq_true, Bool.and_eq_true, decide_eq_true_eq, decide_eq_true_eq] at h
  exact h.2.2
theorem Told.ok {ts : List Nat} {ms : List Str} {o : Option Str} (h : Told ts ms o) (hts : ∀ c ∈ ts, c ∈ lets) (hms : ∀ z ∈ ms, isMark z = true) : TOk o := fun z hz => by
  rcases h with h | ⟨c, hc, h⟩ | ⟨y, hy, h⟩
  · rw [h] at hz
    cases hz
  · rw [h] at hz
    cases hz
    have := isSign_sg (hts c hc)
    exact ⟨by unfold isName; rw [this]; rfl, by rw [sign_len this]; omega⟩
  · rw [h] at hz
    cases hz
    have := hms _ hy
    exact ⟨by unfold isName; rw [this, Bool.or_true], mark_len this⟩
theorem FmtOk.good {ps ts : List Nat} {ms : List Str} {rows : List Row} {ends : List Nat} {start : Nat} (h : FmtOk ps ts ms rows ends start) (p3 : ps.length ≤ 3) : GoodR rows := by
  have h1 := h.few
  have h2 := sum_len (k := 3) fun r hr => Nat.le_trans (h.rowLen r hr) p3
  exact ⟨by omega, by omega, fun r hr e he => ((h.rok r hr).ok e he).2.1⟩
theorem FmtOk.rd {ps ts : List Nat} {ms : List Str} {rows : List Row} {ends : List Nat} {start : Nat} (h : FmtOk ps ts ms rows ends start) (p3 : ps.length ≤ 3) (t3 : ts.length ≤ 3) (m3 : ms.length ≤ 3) (hps : ∀ c ∈ ps, c ∈ lets) (hts : ∀ c ∈ ts, c ∈ lets) (hms : ∀ z ∈ ms, isMark z = true) : RdOk rows (ends.map fun (i : Nat) => (i : Int)) start := by
  have bel : ∀ x : Nat, x < rows.length → below x rows.length = true := fun x hx => by unfold below; simp; omega
  have g := h.good p3
  refine ⟨h.pos, by have := h.few; omega, g.ent, fun r hr e he => ?_, fun r hr => (h.rok r hr).nd, h.nd.map _ fun a b e z => e (by omega), fun k hk => ?_, bel start h.st, ⟨ps.map sg, by rw [List.length_map]; omega, fun r hr e he => List.mem_map.mpr ⟨e.1, ((h.rok r hr).ok e he).1, rfl⟩⟩, ⟨ts.map sg, by rw [List.length_map]; omega, fun r hr e he z hz hs => ?_⟩, ⟨ms, by omega, fun r hr e he z hz hm => ?_⟩⟩
  · obtain ⟨h1, h2, h3⟩ := (h.rok r hr).ok e he
    exact ⟨isSign_sg (hps _ h1), h2, h3.ok hts hms⟩
  · obtain ⟨x, hx, rfl⟩ := List.mem_map.mp hk
    exact bel x (h.en x hx)
  · obtain ⟨_, _, h3⟩ := (h.rok r hr).ok e he
    rcases h3 with h3 | ⟨c, hc, h3⟩ | ⟨y, hy, h3⟩
    · rw [h3] at hz
      cases hz
    · rw [h3] at hz
      cases hz
      exact List.mem_map.mpr ⟨c, hc, rfl⟩
    · rw [h3] at hz
      cases hz
      rw [sign_mark (hms _ hy)] at hs
      cases hs
  · obtain ⟨_, _, h3⟩ := (h.rok r hr).ok e he
    rcases h3 with h3 | ⟨c, hc, h3⟩ | ⟨y, hy, h3⟩
    · rw [h3] at hz
      cases hz
    · rw [h3] at hz
      cases hz
      have := sign_mark hm
      rw [isSign_sg (hts c hc)] at this
      cases this
    · rw [h3] at hz
      cases hz
      exact hy
theorem PermR.goes {rows rows' : List Row} (h : PermR rows rows') : goes rows' = goes rows := goes_perm h.1 h.2
theorem PermR.good {rows rows' : List Row} (h : PermR rows rows') (g : GoodR rows) : GoodR rows' := by
  have hmem : ∀ r' ∈ rows', ∃ r ∈ rows, r'.Perm r := fun r' hr' => by
    obtain ⟨i, hi⟩ := List.mem_iff_getElem?.mp hr'
    have hl := (List.getElem?_eq_some_iff.mp hi).1
    rw [h.1] at hl
    obtain ⟨r2, q1, q2⟩ := h.2 i rows[i] (List.getElem?_eq_getElem hl)
    rw [hi] at q1
    cases q1
    exact ⟨_, List.getElem_mem hl, q2⟩
  refine ⟨by rw [h.1]; exact g.few, ?_, fun r' hr' e he => ?_⟩
  · have key : ∀ (rows rows' : List Row), PermR rows rows' → rows'.flatten.length = rows.flatten.length := by
      intro rows
      induction rows with
      | nil =>
        intro rows' h
        rw [List.eq_nil_of_length_eq_zero h.1]
      | cons r rows ih =>
        intro rows' h
        cases rows' with
        | nil => cases h.1
        | cons r' rows' =>
          obtain ⟨r2, q1, q2⟩ := h.2 0 r rfl
          cases q1
          have := ih rows' ⟨by simpa using h.1, fun i x hx => h.2 (i + 1) x hx⟩
          rw [List.flatten_cons, List.flatten_cons, List.length_append, List.length_append, this, q2.length_eq]
    rw [key rows rows' h]
    exact g.ent
  · obtain ⟨r, hr, hp⟩ := hmem r' hr'
    rw [h.1]
    exact g.ins r hr e (hp.mem_iff.mp he)
theorem Least.lg {l : List Nat} {n : Nat} {go : Nat → Nat → Nat} {mem : List Nat} {m : Nat} {dl : Nat → Nat → Nat} {ml : List Nat} (h : Least l n go mem m dl ml) (ok : MOk l n go mem) : LgOk l m dl ml := ⟨ok.lok, h.one, by have := h.le; have := ok.six; omega, h.ins, h.mls⟩
end K33
/-! text Ed -/
set_option Elab.async false
set_option linter.all false
set_option maxRecDepth 100000
set_option maxHeartbeats 4000000
namespace K33
open PySem PySem.Spec PyProof.Rows L2 Evl K33G
theorem cut1 : ∀ xs : List V, cutV xs none (some 1) = xs.take 1
  | [] => rfl
  | x :: xs => by
    have : HT.sIx (x :: xs).length (x :: xs).length (some 1) = 1 := by
      unfold HT.sIx
      simp
    unfold cutV
    rw [this]
    rfl
theorem len2 {α : Type} {l : List α} (h : l.length = 2) : ∃ a b, l = [a, b] := by
  match l, h with
  | [a, b], _ => exact ⟨a, b, rfl⟩
theorem len3 {α : Type} {l : List α} (h : l.length = 3) : ∃ a b c, l = [a, b, c] := by
  match l, h with
  | [a, b, c], _ => exact ⟨a, b, c, rfl⟩
section
variable {P : Program} {w : World} {K : PySem.W.Frag} {mg : Str → Option Value} {base : Heap} {r g : Addr} {σ : L2.St} {H : Hp} {te ta tb td ty tw : TE} {D : Ends} {tz : TS} {tr tk : TA}
theorem el_rev {p : Addr} {xs : List V} (h : Ev te σ H (.ref p)) (hx : SqL K H p xs) : EvL (tRevL K te) σ H xs.reverse := fun H1 e Q q =>
  h H1 e _ fun H2 e2 => ⟨p, xs, rfl, ex_l (e.trans e2) hx, fun l hl => q l _ (fresh_back e2 hl) (e2.trans (Ex.new hl)) upd_same⟩
/-- what is drawn first -/
structure Drawn (r : Addr) (G : Hp) (pp tt mm : Addr) (ps ts : List Nat) (ms : List Str) : Prop where
  pr : pp ≠ r
  tr : tt ≠ r
  mr : mm ≠ r
  src : Src G pp tt mm ps ts ms
  lp : ps.length = 3
  lt : ts.length = 2
  lm : ms.length = 2
  np : ps.Nodup
  nt : ts.Nodup
  ip : ∀ c ∈ ps, c ∈ lets
  it : ∀ c ∈ ts, c ∈ lets
  im : ∀ z ∈ ms, isMark z = true
/-- a list of numbers below n -/
def AfAt (G : Hp) (r g n : Nat) (b : Addr) : Prop := ∃ bs : List Nat, b ≠ r ∧ b ≠ g ∧ G b = some (.lst (bs.map nv)) ∧ bs.Nodup ∧ ∀ x ∈ bs, x < n
def GsAt (K : PySem.W.Frag) (mg : Str → Option Value) (H : Hp) (rp : Addr) (items : List V) : Prop := ∀ x ∈ items, ∃ t d b m, x = .ref t ∧ SqT K H t [.ref d, .ref b, .ref m] ∧ GRt K mg H d rp b m
theorem GsAt.mono {H' : Hp} {rp : Addr} {items : List V} (h : GsAt K mg H rp items) (e : Ex H H') : GsAt K mg H' rp items := fun x hx => by
  obtain ⟨t, d, b, m, h1, h2, h3⟩ := h x hx
  exact ⟨t, d, b, m, h1, ex_t e h2, h3.mono e⟩
/-- the letters of a language, drawn -/
theorem letters_of {te' : TE} (jr : V → List V → Hp → VK → Prop) (hjr : jr = fun x xs H Q => ∃ a p, ∃ ys : List Str, x = .str a ∧ xs = [.ref p] ∧ (SqL K H p (ys.map V.str) ∨ SqT K H p (ys.map V.str)) ∧ (ys.map (·.length)).sum + ys.length * a.length ≤ 16777216 ∧ Q (.str (Txt.join a ys)) H)
    (h : EvR r te' σ H fun v G => ∃ (p : Addr) (cs : List Nat), v = .ref p ∧ G p = some (.lst (vstr (cs.map sg))) ∧ cs.Nodup ∧ 1 ≤ cs.length ∧ cs.length ≤ 4 ∧ ∀ c ∈ cs, c ∈ lets) : EvR r (tM1 jr (tC (.str Str.empty)) (tCB (rSortedS K) (tCons te' tNil))) σ H fun v _ => ∃ l, v = .str (txt l) ∧ LOk l := by
  subst hjr
  intro H1 e1 Q q
  refine ev_run (te := tC (.str Str.empty)) (v := .str Str.empty) ev_c fun H2 e2 => ⟨⟨_, rfl⟩, ?_⟩
  have x2 := e1.trans (Xr.of e2 e1.2)
  refine er_cb (r := r) (P := fun v G => ∃ (p : Addr) (l : List Nat), v = .ref p ∧ G p = some (.lst (vstr (l.map sg))) ∧ LOk l) (era_one (Pl := fun vs G => ∃ (p : Addr) (cs : List Nat), vs = [.ref p] ∧ G p = some (.lst (vstr (cs.map sg))) ∧ cs.Nodup ∧ 1 ≤ cs.length ∧ cs.length ≤ 4 ∧ ∀ c ∈ cs, c ∈ lets) h fun x H3 e3 ⟨p, cs, hx, h1⟩ => ⟨p, cs, by rw [hx], h1⟩) (fun vs H3 Q3 e3 ⟨p, cs, hv, h1, h2, h3, h4, h5⟩ q3 => ?_) H2 x2 _ fun v H3 e3 ⟨p, l, hv, h1, lok⟩ => ?_
  · subst hv
    have sm : ∀ l : List Nat, ((l.map sg).map (·.length)).sum = l.length := fun l => by
      induction l with
      | nil => rfl
      | cons c l ih =>
        rw [List.map_cons, List.map_cons, List.sum_cons, ih, List.length_cons, show (sg c).length = 1 from rfl]
        omega
    refine ⟨Str.empty, p, l.map sg, rfl, rfl, .inl (sq_of h1), ?_, ?_⟩
    · rw [sm, show Str.empty.length = 0 from rfl]
      have := lok.four
      omega
    · rw [join_sg]
      exact q _ _ ((Xr.of e2 e1.2).trans e3) ⟨l, rfl, lok⟩
  · subst hv
    refine ⟨p, cs.map sg, rfl, sq_of h1, by rw [List.length_map]; omega, fun ys p' pm so hp' => ?_⟩
    obtain ⟨l, hy, lok⟩ := lok_of pm so h2 h3 h4 h5
    refine q3 _ _ (Xr.of (Ex.new hp') e3.2) ⟨p', l, rfl, ?_, lok⟩
    rw [upd_same, hy]
    rfl
theorem AfAt.mono {G G' : Hp} {n : Nat} {b : Addr} (h : AfAt G r g n b) (e : Ex G G') : AfAt G' r g n b := by
  obtain ⟨bs, h1, h2, h3, h4⟩ := h
  exact ⟨bs, h1, h2, e _ _ h3, h4⟩
theorem AfAt.xr {G G' : Hp} {n : Nat} {b : Addr} (h : AfAt G r g n b) (e : Xr r G G') : AfAt G' r g n b := by
  obtain ⟨bs, h1, h2, h3, h4⟩ := h
  exact ⟨bs, h1, h2, e.get h3 h1, h4⟩
theorem evp_Door2 {a p : Addr} {s : Nat} {rows : List Row} {bs : List Nat} {PL : Addr → Hp → Prop} (h : EvAP tr σ H (fun vs G => ∃ L, vs = [.ref a, nv s, .ref p, .ref L] ∧ PL L G)) (hR : ReaderAt K mg H a rows) (few : rows.length ≤ 12) (hs : s < rows.length) (hp : SqL K H p (bs.map nv)) (nd : bs.Nodup) (ins : ∀ x ∈ bs, x < rows.length) (hm : ∀ L G G', Ex G G' → PL L G → PL L G') :
    EvP (tMake (clsOf mg "Door") (spDoorInit K mg) [] E0 tr) σ H (fun v H' => ∃ d L, v = .ref d ∧ PL L H' ∧ DoorAt K mg H' d a s bs L) := fun H1 e Q k =>
  h H1 e _ fun vs H2 e2 ⟨L, hv, hL⟩ x dx hx hdx ne => by
    subst hv
    rw [List.append_nil]
    have e3 := made_ex (o := .own x) (o' := .ins (clsOf mg "Door") dx []) hx hdx
    exact ⟨x, dx, a, p, L, s, rows, bs, rfl, upd_same, (hR.mono (e.trans e2)).mono e3, few, hs, ex_l ((e.trans e2).trans e3) hp, nd, ins, fun H3 e4 hD => ⟨rfl, k _ H3 (e2.trans (e3.trans e4)) ⟨x, L, rfl, hm L _ _ (e3.trans e4) hL, hD⟩⟩⟩
def spRight : Sp := fun vs H Q _ => ∃ r : Addr, vs = [.ref r] ∧ Rg r H ∧ ∀ H', Xr r H H' → Q (.bl true) H'
abbrev N_law_right : List Str := ["_law_rng_here", "_law_paper", "_law_tells", "_law_marks_here", "_law_rows", "_law_stops", "_law_begin", "_law_den", "_law_more", "_law_abc", "_law_gates", "_law_spot", "_law_machine", "_law_some", "_law_after", "_law_letter", "_law_at", "_law_gate"]
theorem sc_law_right : FnScope N_law_right ["_law_rng_here"] (defScope (top 78)) := ⟨rfl, rfl, rfl, by decide +kernel, rfl, by decide +kernel, by decide +kernel⟩
theorem ok_law_right (T : Txt K mg) (G : TxtG K mg) : OkG P w K mg base 10 "_law_right" ["_law_rng_here"] spRight := by
  refine okG_of T.law_right sc_law_right (fun vs H Q E h => ?_) (fun _ _ _ _ _ _ us hl => match us, hl with | [_], _ => rfl) (fun f cdv A outer s0 H vs Q E hr gg h => ?_)
  · obtain ⟨_, rfl, _⟩ := h
    rfl
  · obtain ⟨r, rfl, hg, fin⟩ := h
    refine ⟨_, (pss_cons (ps_asg (pe_tup (pa_cons (pe_f (ok_law_letters T) (hr.mono (by decide)) (pa_cons (pv 0) (pa_cons pe_int pa_nil))) (pa_cons (pe_f (ok_law_letters T) (hr.mono (by decide)) (pa_cons (pv 0) (pa_cons pe_int pa_nil))) (pa_cons (pe_f (ok_law_marks T) (hr.mono (by decide)) (pa_cons (pv 0) (pa_cons pe_int pa_nil))) pa_nil)))) (pg_tup rfl (pgs_cons (pg_name (i := 1) sc_law_right.nd rfl (Or.inl rfl)) (pgs_cons (pg_name (i := 2) sc_law_right.nd rfl (Or.inr rfl)) (pgs_cons (pg_name (i := 3) sc_law_right.nd rfl (Or.inl rfl)) pgs_nil)))))
 (pss_cons (ps_asg (pe_f (ok_law_format T) (hr.mono (by decide)) (pa_cons (pv 0) (pa_cons pe_int (pa_cons (pv 1) (pa_cons (pv 2) (pa_cons (pv 3) pa_nil)))))) (pg_tup rfl (pgs_cons (pg_name (i := 4) sc_law_right.nd rfl (Or.inr rfl)) (pgs_cons (pg_name (i := 5) sc_law_right.nd rfl (Or.inl rfl)) (pgs_cons (pg_name (i := 6) sc_law_right.nd rfl (Or.inl rfl)) pgs_nil)))))
 (pss_cons (ps_set (i := 7) sc_law_right.nd rfl (Or.inl rfl) (pe_Reader T (hr.mono (by decide)) (pa_cons (pv 4) (pa_cons (pv 5) pa_nil)) (pv 6)))
 (pss_cons (ps_set (i := 8) sc_law_right.nd rfl (Or.inl rfl) (pe_slice sl_list (pe_lc (own := [("_law_letter", 15)]) (g := gName 15) (by rfl) sc_law_right.nd (pi_str pe_str) (blkOk_by (own := [("_law_letter", 15)]) (N := N_law_right) (sc := defScope (top 78)) (by decide +kernel)) (fun _ _ _ _ _ => (pg_name (i := 15) sc_law_right.nd rfl (Or.inl rfl))) (fun _ _ _ _ _ => by exact (pts_one (pt_cmpR (r := rIn K true) op_notIn_seq (pv 15) (pv 2) (by rfl)))) (fun _ _ _ _ _ => by exact (pv 15))) po_none (po_some pe_int)))
 (pss_cons (ps_set (i := 9) sc_law_right.nd rfl (Or.inl rfl) (pe_join pe_str (pe_callB (r := rSortedS K) cr_sortedS (by rfl) T.sorted (by decide +kernel) (pa_cons (pe_ix (r := rIxL K) ix_list (pe_lst (pa_cons (pv 2) (pa_cons (pe_slice sl_list (pv 2) po_none (po_some pe_int)) (pa_cons (pv 2) (pa_cons (pe_op op_cat (pv 2) (pv 8)) pa_nil))))) (pe_f (ok_law_draw T) (hr.mono (by decide)) (pa_cons (pv 0) (pa_cons pe_int pa_nil))) (fun _ _ => rfl)) pa_nil))))
 (pss_cons (ps_set (i := 10) sc_law_right.nd rfl (Or.inl rfl) (pe_lst pa_nil))
 (pss_cons (ps_for PassesOwn.never rfl (pi_range1 rfl T.range (pa_cons (pe_callB call_len (by rfl) T.len (by decide +kernel) (pa_cons (pv 4) pa_nil)) pa_nil)) (pg_name (i := 11) sc_law_right.nd rfl (Or.inl rfl))
 (pss_cons (ps_set (i := 12) sc_law_right.nd rfl (Or.inl rfl) (pe_f (ok_law_class T) (hr.mono (by decide)) (pa_cons (pv 0) (pa_cons pe_int (pa_cons (pv 9) pa_nil)))))
 (pss_cons (ps_setLc (i := 13) (own := [("_law_at", 16)]) (g := gName 16) (by rfl) sc_law_right.nd rfl rfl (sw_true rfl rfl rfl (by decide +kernel)) (pi_range1 rfl T.range (pa_cons (pe_callB call_len (by rfl) T.len (by decide +kernel) (pa_cons (pv 4) pa_nil)) pa_nil)) (blkOk_by (own := [("_law_at", 16)]) (N := N_law_right) (sc := defScope (top 78)) (by decide +kernel)) (fun _ _ _ _ _ => (pg_name (i := 16) sc_law_right.nd rfl (Or.inl rfl))) (fun _ _ _ _ _ => by exact (pts_one (pt_cmpR op_eq (pe_f (ok_law_draw T) (hr.mono (by decide)) (pa_cons (pv 0) (pa_cons pe_int pa_nil))) pe_int (nomark _)))) (fun _ _ _ _ _ => by exact (pv 16)))
 (pss_cons (ps_set (i := 14) sc_law_right.nd rfl (Or.inl rfl) (pe_f (ok_law_choice T) (hr.mono (by decide)) (pa_cons (pv 0) (pa_cons (pe_lst (pa_cons (pv 13) (pa_cons (pe_listRg (by rfl) (by rfl) T.list (prg_1 (by rfl) T.range (pe_callB call_len (by rfl) T.len (by decide +kernel) (pa_cons (pv 4) pa_nil)))) (pa_cons (pe_listOf (K := K) T.list (pa_cons (pv 5) pa_nil)) (pa_cons (pv 13) pa_nil))))) pa_nil))))
 (pss_one (ps_expr (pe_bm PySem.F.plainAttrs_list PySem.F.slot_list_append PySem.F.type_list_append mt_append (pv 10) (pa_cons (pe_tup (pa_cons (pe_Door T (hr.mono (by decide)) (pa_cons (pv 7) (pa_cons (pv 11) (pa_cons (pv 14) (pa_cons (pe_Language T (hr.mono (by decide)) (pa_cons (pe_ix (r := rIxT K) ix_tup (pv 12) pe_int (fun _ _ => rfl)) (pa_cons (pe_ix (r := rIxT K) ix_tup (pv 12) pe_int (fun _ _ => rfl)) (pa_cons (pe_ix (r := rIxT K) ix_tup (pv 12) pe_int (fun _ _ => rfl)) pa_nil)))) pa_nil))))) (pa_cons (pv 14) (pa_cons (pv 12) pa_nil)))) pa_nil))))))))
 (pss_cons (ps_if (pt_not (pt_val (pe_callB (r := rAll K) (cr_all rfl) (by rfl) T.all (by decide +kernel) (pa_cons (pe_lc (own := [("_law_gate", 17), ("_law_after", 14), ("_law_machine", 12)]) (g := gTup K 3 (gCons (gName 17) (gCons (gName 14) (gCons (gName 12) gNil)))) (by rfl) sc_law_right.nd (pi_listK (K := K) (pv 10)) (blkOk_by (own := [("_law_gate", 17), ("_law_after", 14), ("_law_machine", 12)]) (N := N_law_right) (sc := defScope (top 78)) (by decide +kernel)) (fun _ _ _ _ _ => (pg_tup rfl (pgs_cons (pg_name (i := 17) sc_law_right.nd rfl (Or.inl rfl)) (pgs_cons (pg_name (i := 14) sc_law_right.nd rfl (Or.inl rfl)) (pgs_cons (pg_name (i := 12) sc_law_right.nd rfl (Or.inl rfl)) pgs_nil))))) (fun _ _ _ _ _ => by exact pts_nil) (fun _ _ _ _ _ => by exact (pe_fG (ok_law_gate_right T G) (hr.mono (by decide)) gg (pa_cons (pv 17) (pa_cons (pv 4) (pa_cons (pv 14) (pa_cons (pv 12) pa_nil))))))) pa_nil))))
 (pss_one (ps_ret pe_bl))
 pss_nil)
 (pss_one (ps_ret (pe_callB (r := rAll K) (cr_all rfl) (by rfl) T.all (by decide +kernel) (pa_cons (pe_lc (own := [("_law_gate", 17), ("_law_after", 14), ("_law_machine", 12)]) (g := gTup K 3 (gCons (gName 17) (gCons (gName 14) (gCons (gName 12) gNil)))) (by rfl) sc_law_right.nd (pi_listK (K := K) (pe_revL (pv 10))) (blkOk_by (own := [("_law_gate", 17), ("_law_after", 14), ("_law_machine", 12)]) (N := N_law_right) (sc := defScope (top 78)) (by decide +kernel)) (fun _ _ _ _ _ => (pg_tup rfl (pgs_cons (pg_name (i := 17) sc_law_right.nd rfl (Or.inl rfl)) (pgs_cons (pg_name (i := 14) sc_law_right.nd rfl (Or.inl rfl)) (pgs_cons (pg_name (i := 12) sc_law_right.nd rfl (Or.inl rfl)) pgs_nil))))) (fun _ _ _ _ _ => by exact pts_nil) (fun _ _ _ _ _ => by exact (pe_fG (ok_law_gate_right T G) (hr.mono (by decide)) gg (pa_cons (pv 17) (pa_cons (pv 4) (pa_cons (pv 14) (pa_cons (pv 12) pa_nil))))))) pa_nil)))))))))))), ?_⟩
    -- the letters and marks
    refine q_asgGR hg (er_tup (Pl := fun vs G => ∃ (pp tt mm : Addr) (ps ts : List Nat) (ms : List Str), vs = [.ref pp, .ref tt, .ref mm] ∧ Drawn r G pp tt mm ps ts ms) (era_cons (er_letters (many := 3) (fun H2 e2 => ea_cons (ev_var rfl) (ea_cons ev_c ea_nil)) (by omega)) fun x H2 e2 ⟨pp, ps, hx, n1, _, h1, l1, nd1, in1⟩ => era_cons (er_letters (many := 2) (fun H3 e3 => ea_cons (ev_var rfl) (ea_cons ev_c ea_nil)) (by omega)) fun y H3 e3 ⟨tt, ts, hy, n2, _, h2, l2, nd2, in2⟩ => era_one (er_marks (many := 2) (fun H4 e4 => ea_cons (ev_var rfl) (ea_cons ev_c ea_nil)) (by omega)) fun z H4 e4 ⟨mm, ms, hz, n3, _, h3, l3, in3⟩ => ⟨pp, tt, mm, ps, ts, ms, by rw [hx, hy, hz], n1, n2, n3, ⟨e4.get (e3.get h1 n1) n1, e4.get h2 n2, h3⟩, l1, l2, l3, nd1, nd2, in1, in2, in3⟩) (fun vs G1 G2 e ⟨pp, tt, mm, ps, ts, ms, a, b⟩ => ⟨pp, tt, mm, ps, ts, ms, a, { b with src := b.src.mono e }⟩) fun vs G ⟨_, _, _, _, _, _, a, _⟩ => by rw [a]; simp) fun v H1 x1 ⟨t0, vs, hv, _, _, ht1, pp, tt, mm, ps, ts, ms, hvs, dr⟩ => ?_
    subst hv hvs
    refine ⟨t0, _, rfl, st_of ht1, rfl, _, _, rfl, _, _, rfl, _, _, rfl, rfl, ?_⟩
    obtain ⟨n1, n2, n3, src, lp, lt, lm, np, nt, ip, it, im⟩ := dr
    have srcR : Src (del r H1) pp tt mm ps ts ms := ⟨by rw [del_ne n1]; exact src.p, by rw [del_ne n2]; exact src.t, by rw [del_ne n3]; exact src.m⟩
    obtain ⟨p, q, x, rfl⟩ := len3 lp
    obtain ⟨a, b, rfl⟩ := len2 lt
    obtain ⟨m, n, rfl⟩ := len2 lm
    have pq : p ≠ q ∧ p ≠ x ∧ q ≠ x := by
      simp at np
      exact ⟨np.1.1, np.1.2, np.2⟩
    -- the format
    refine q_asgGR x1.2 (P := fun v G => ∃ t, v = .ref t ∧ FmtAt K (del r G) t [p, q, x] [a, b] [m, n]) (er_call (era_v fun H2 e2 => ea_cons (ev_var rfl) (ea_cons ev_c (ea_cons (ev_var rfl) (ea_cons (ev_var rfl) (ea_cons (ev_var rfl) ea_nil))))) fun vs H2 e2 hv Q' E q' => by
      subst hv
      exact ⟨r, pp, tt, mm, p, q, x, a, b, m, n, rfl, e2.2, srcR.mono e2.ex, pq.1, pq.2.1, pq.2.2, fun t H3 x3 h => q' _ _ x3 ⟨t, rfl, h⟩⟩) fun v H2 x2 ⟨t, hv, rp, sp, rows, ends, beg, ht, hRows, hEnds, fok⟩ => ?_
    subst hv
    refine ⟨t, _, rfl, ex_t del_le ht, rfl, _, _, rfl, _, _, rfl, _, _, rfl, rfl, ?_⟩
    have few := fok.few
    have good := fok.good (by simp)
    have src2 := srcR.mono x2.ex
    -- the reader
    refine q_asgP (evp_Reader (mg := mg) (ends := ends) (start := beg) (ea_cons (ev_var rfl) (ea_cons (ev_var rfl) ea_nil)) (ea_cons (ev_var rfl) ea_nil) (hRows.mono del_le) (ex_l del_le hEnds) (fok.rd (by simp) (by simp) (by simp) ip it im)) fun v H3 e3 ⟨den, rows', hv, hperm, hRd⟩ => ?_
    subst hv
    have x3 := Xr.of e3 x2.2
    -- more letters
    let L0 : List Nat := [120, 121, 122].filter fun c => !decide (sg c ∈ [a, b].map sg)
    refine q_asgL (xs := vstr ((L0.take 1).map sg)) ?_ fun mo H4 hmo e4 hmo1 => ?_
    · have e0 : cutV (L0.map fun c => V.str (sg c)) none (some 1) = vstr ((L0.take 1).map sg) := by
        rw [cut1]
        simp only [vstr, List.map_take, List.map_map]
        rfl
      rw [← e0]
      refine el_slL (el_filter [120, 121, 122] (fun c => !decide (sg c ∈ [a, b].map sg)) (fun c => V.str (sg c)) (iw_str (s := "xyz") ev_c) rfl (by simp) fun i2 c x Ha Hb hc ea y kk hk => ?_) (fun _ _ => eo_none) fun _ _ => eo_some ev_c
      obtain ⟨rfl, c2, hc2, rfl⟩ := y
      have hcc : c2 = c := by
        have h1 : ("xyz" : Str).cps = #[120, 121, 122] := by decide +kernel
        rw [h1] at hc2
        have h2 : ([120, 121, 122] : List Nat)[i2]? = some c2 := by simpa using hc2
        rw [hc] at h2
        exact (Option.some.inj h2).symm
      subst hcc
      refine hk _ _ (Ex.refl _) rfl (et_is (et_test (ev_op (ev_var rfl) (ev_var rfl) (rv_niL (xs := vstr ([a, b].map sg)) (sq_of ((src2.mono ((x3.1).trans ea)).t)) rfl (flat_vstr _)))) ?_) fun _ => ev_var rfl
      rw [← inV_vstr]
      rfl
    have x4 := x3.trans (Xr.of e4 x3.2)
    have src4 := src2.mono x4.ex
    have nmo := x3.2.ne hmo
    -- the letters of the languages
    refine q_asgR x4.2 (letters_of (K := K) _ rfl ?_) fun v H5 x5 ⟨l, hv, lok⟩ => ?_
    · have inL : ∀ c ∈ L0.take 1, c ∈ lets ∧ c ∉ [a, b] := fun c hc => by
        have h1 := List.mem_filter.mp (List.mem_of_mem_take hc)
        refine ⟨?_, fun hm => ?_⟩
        · have : ∀ c ∈ ([120, 121, 122] : List Nat), c ∈ lets := by decide +kernel
          exact this c h1.1
        · have h2 : sg c ∉ [a, b].map sg := by simpa using h1.2
          exact h2 (List.mem_map.mpr ⟨c, hm, rfl⟩)
      have ndL : (L0.take 1).Nodup := ((show ([120, 121, 122] : List Nat).Nodup by decide).filter _).sublist (List.take_sublist _ _)
      have ab : a ≠ b := by
        simp at nt
        exact nt
      let Good : Addr → Hp → Prop := fun p G => p ≠ r ∧ ∃ cs : List Nat, G p = some (.lst (vstr (cs.map sg))) ∧ cs.Nodup ∧ 1 ≤ cs.length ∧ cs.length ≤ 4 ∧ ∀ c ∈ cs, c ∈ lets
      have gT : ∀ {G : Hp}, Xr r H4 G → Good tt G := fun {G} e => ⟨n2, [a, b], (src4.mono e.1).t, nt, by simp, by simp, it⟩
      have gm : ∀ {p : Addr} {G G' : Hp}, Good p G → Xr r G G' → Good p G' := fun {p G G'} ⟨h1, cs, h2, h3⟩ e => ⟨h1, cs, e.get h2 h1, h3⟩
      have gmE : ∀ {p : Addr} {G G' : Hp}, Good p G → Ex G G' → Good p G' := fun {p G G'} ⟨h1, cs, h2, h3⟩ e => ⟨h1, cs, e _ _ h2, h3⟩
      refine er_op (Pa := fun v G => ∃ lp c1 c2, v = .ref lp ∧ lp ≠ r ∧ G lp = some (.lst [.ref tt, .ref c1, .ref tt, .ref c2]) ∧ Good c1 G ∧ Good c2 G) (Pb := fun v y G => ∃ lp c1 c2 d, v = .ref lp ∧ y = nv d ∧ d < 4 ∧ G lp = some (.lst [.ref tt, .ref c1, .ref tt, .ref c2]) ∧ Good c1 G ∧ Good c2 G) ((er_lst (Pl := fun vs G => ∃ c1 c2, vs = [.ref tt, .ref c1, .ref tt, .ref c2] ∧ Good c1 G ∧ Good c2 G) (era_of fun H5 e5 => ea_consP (evp_of (ev_var rfl)) fun x H6 e6 hx => ea_consP (evp_L (xs := vstr ([a].map sg)) (el_sl (ev_var rfl) eo_none (eo_some ev_c) (sq_of ((src4.mono (e5.1.trans e6)).t)))) fun y H7 e7 ⟨c1, hy, hc1, hc11⟩ => ea_consP (evp_of (ev_var rfl)) fun z H8 e8 hz => ea_one (evp_L (xs := vstr ([a, b].map sg) ++ vstr ((L0.take 1).map sg)) (el_cat ((src4.mono (((e5.1.trans e6).trans e7).trans e8)).t) ((((e5.1.trans e6).trans e7).trans e8) _ _ (by rw [del_ne nmo]; exact hmo1)) (ev_var rfl) (ev_var rfl) (by simp [vstr]; omega))) fun u H9 e9 ⟨c2, hu, hc2, hc21⟩ => ?_) (fun vs G1 G2 e ⟨c1, c2, h, g1, g2⟩ => ⟨c1, c2, h, gmE g1 e, gmE g2 e⟩) fun vs G ⟨c1, c2, h, _⟩ => by rw [h]; simp).imp fun v G e ⟨lp, vs, hv, hn, _, h1, c1, c2, hvs, g1, g2⟩ => ⟨lp, c1, c2, hv, hn, by rw [h1, hvs], g1, g2⟩) (fun v H5 e5 ⟨lp, c1, c2, hv, hn, h1, g1, g2⟩ => (er_draw (many := 4) (fun H6 e6 => ea_cons (ev_var rfl) (ea_cons ev_c ea_nil)) (by omega) (by omega)).imp fun y H6 e6 ⟨d, hy, hd⟩ => ⟨lp, c1, c2, d, hv, hy, hd, e6.get h1 hn, gm g1 e6, gm g2 e6⟩) fun v y H5 Q' e5 ⟨lp, c1, c2, d, hv, hy, hd, h1, g1, g2⟩ q' => ?_
      · have r5 := e5.2
        refine ⟨c1, c2, by rw [hx, hy, hz, hu], ⟨(r5.mono e6).ne hc1, [a], e9 _ _ (e8 _ _ hc11), by simp, by simp, by simp, fun c hc => it c (by rw [List.mem_singleton.mp hc]; simp)⟩, ⟨(((r5.mono e6).mono e7).mono e8).ne hc2, [a, b] ++ L0.take 1, ?_, ?_, by simp, ?_, fun c hc => ?_⟩⟩
        · rw [hc21]
          simp [vstr]
        · rw [List.nodup_append]
          exact ⟨nt, ndL, fun x hx y hy e => (inL y hy).2 (e ▸ hx)⟩
        · rw [List.length_append]
          have := List.length_take_le 1 L0
          simp only [List.length_cons, List.length_nil]
          omega
        · rcases List.mem_append.mp hc with h | h
          · exact it c h
          · exact (inL c h).1
      · subst hv hy
        have gt := gT e5
        have fin4 : ∀ (c : Addr), Good c H5 → Q' (.ref c) H5 := fun c ⟨_, cs, h⟩ => q' _ _ (Xr.refl e5.2) ⟨c, cs, rfl, h⟩
        have : d = 0 ∨ d = 1 ∨ d = 2 ∨ d = 3 := by omega
        rcases this with rfl | rfl | rfl | rfl
        · exact ⟨lp, _, 0, .ref tt, rfl, rfl, sq_of h1, rfl, fin4 tt gt⟩
        · exact ⟨lp, _, 1, .ref c1, rfl, rfl, sq_of h1, rfl, fin4 c1 g1⟩
        · exact ⟨lp, _, 2, .ref tt, rfl, rfl, sq_of h1, rfl, fin4 tt gt⟩
        · exact ⟨lp, _, 3, .ref c2, rfl, rfl, sq_of h1, rfl, fin4 c2 g2⟩
    subst hv
    have x35 := x4.trans x5
    refine q_asgP (evp_L (el_lst ea_nil (by simp))) fun v H6 e6 ⟨ga, hv, hga0, hga1⟩ => ?_
    subst hv
    have nga := x5.2.ne hga0
    have hga0' : H5 ga = none := hga0
    have x6 : Xr r H5 H6 := Xr.of e6 x5.2
    have x26 : Xr r H2 H6 := x35.trans x6
    let D2 : Hp → Hp := fun G => del ga (del r G)
    have d2 : ∀ {G G' : Hp}, Xr r G G' → Ex (D2 G) (D2 G') := fun e => del_ex e.ex
    have l4 := lok.four
    let Inv0 : Nat → L2.St → Hp → Prop := fun i σ' G => ∃ (items : List V) (a11 a12 a13 a14 a15 a16 a17 : Option V), σ' = [some (.ref r), some (.ref pp), some (.ref tt), some (.ref mm), some (.ref rp), some (.ref sp), some (nv beg), some (.ref den), some (.ref mo), some (.str (txt l)), some (.ref ga), a11, a12, a13, a14, a15, a16, a17] ∧ Xr r H5 G ∧ G ga = some (.lst items) ∧ GsAt K mg (D2 G) rp items ∧ items.length = i
    have hRows2 : ∀ {G : Hp}, Xr r H5 G → RowsL K (D2 G) rp rows := fun {G} e => by
      have h1 : Ex (del r H2) (del ga (del r H5)) := ex_del (x35.ex) (by rw [del_ne nga]; exact x35.back nga hga0)
      exact (hRows.mono h1).mono (del_ex e.ex)
    have hRd2 : ∀ {G : Hp}, Xr r H5 G → ReaderAt K mg (D2 G) den rows' := fun {G} e => by
      obtain ⟨i, j, hr3, _⟩ := x3.2
      have h0 := hRd.delL hr3
      have h1 : Ex (del r H3) (del ga (del r H5)) := ex_del (((Xr.of e4 x3.2).trans x5).ex) (by rw [del_ne nga]; exact ((Xr.of e4 x3.2).trans x5).back nga hga0)
      exact (h0.mono h1).mono (del_ex e.ex)
    have lenR : ∀ {G : Hp} {σ : L2.St}, Xr r H5 G → σ[4]? = some (some (.ref rp)) → Ev (tCB (fun xs H Q => ∃ x n, xs = [x] ∧ LenV K x H n ∧ Q (.int n) H) (tCons (tVar 4) tNil)) σ G (.int rows.length) := fun {G σ} e hσ => ev_lenV (x := .ref rp) (n := rows.length) (ev_var hσ) fun H7 e7 => by
      obtain ⟨ds, k1, k2⟩ := hRows2 e
      exact Or.inl ⟨_, ex_l ((del_le.trans del_le).trans e7) k1, by rw [List.length_map, k2.1]⟩
    have allOk : ∀ {G : Hp} {σ : L2.St} {items ys : List V} {wi : TI}, Xr r H5 G → GsAt K mg (D2 G) rp items → (∀ y ∈ ys, y ∈ items) → ys.length ≤ 100 → (∀ vs : V × V × V, ((((wipe σ [17, 14, 12]).set 17 (some vs.1)).set 14 (some vs.2.1)).set 12 (some vs.2.2))[17]? = some (some vs.1) ∧ ((((wipe σ [17, 14, 12]).set 17 (some vs.1)).set 14 (some vs.2.1)).set 12 (some vs.2.2))[14]? = some (some vs.2.1) ∧ ((((wipe σ [17, 14, 12]).set 17 (some vs.1)).set 14 (some vs.2.1)).set 12 (some vs.2.2))[12]? = some (some vs.2.2) ∧ ((((wipe σ [17, 14, 12]).set 17 (some vs.1)).set 14 (some vs.2.1)).set 12 (some vs.2.2))[4]? = some (some (.ref rp)) ∧ wipe ((((wipe σ [17, 14, 12]).set 17 (some vs.1)).set 14 (some vs.2.1)).set 12 (some vs.2.2)) [17, 14, 12] = wipe σ [17, 14, 12]) → IvW wi σ G ys.length (YAt ys) →
        Ev (tCB (rAll K) (tCons (tLc wi (gTup K 3 (gCons (gName 17) (gCons (gName 14) (gCons (gName 12) gNil)))) tYes (tCall (spGate K mg) [] E0 (tCons (tVar 17) (tCons (tVar 4) (tCons (tVar 14) (tCons (tVar 12) tNil))))) [17, 14, 12]) tNil)) σ G (.bl true) := fun {G σ items ys wi} e hI sub hz hσ hw => by
      refine ev_is (ev_allM ys (fun _ => true) (el_map ys (fun _ => V.bl true) hw rfl (by omega) fun i2 y x Ha Hb hc ea yy kk hk => ?_)) (by simp)
      obtain ⟨rfl, y2⟩ := yy
      rw [hc] at y2
      cases y2
      obtain ⟨t, d, b, m, rfl, ht, hG⟩ := hI y (sub y (List.mem_of_getElem? hc))
      obtain ⟨s1, s2, s3, s4, s5⟩ := hσ (.ref d, .ref b, .ref m)
      have eG : Ex (D2 G) Hb := (del_le.trans del_le).trans ea
      refine ⟨t, _, rfl, ex_t eG ht, rfl, _, _, rfl, _, _, rfl, _, _, rfl, rfl, ?_⟩
      exact hk _ _ (Ex.refl _) s5 et_yes (ev_callV (ea_cons (ev_var s1) (ea_cons (ev_var s4) (ea_cons (ev_var s2) (ea_cons (ev_var s3) ea_nil)))) fun H8 e8 Q' q' E => ⟨d, rp, b, m, rfl, hG.mono (eG.trans e8), q'⟩)
    refine q_forR1 (n := (rows.length : Int)) (ea_cons (lenR x6 rfl) ea_nil) (by omega) Inv0 (fun G e => ⟨[], _, _, _, _, _, _, _, rfl, x6.trans (Xr.of e x6.2), e _ _ hga1, fun x hx => (by cases hx), rfl⟩) (fun i σ' G hi hP => ?_) fun σ' G hP => ?_
    · obtain ⟨items, a11, a12, a13, a14, a15, a16, a17, rfl, xG, hga, hI, hil⟩ := hP
      have hi : i < rows.length := by omega
      refine q_asgR xG.2 (P := fun v G' => ∃ (t p q : Addr) (n : Nat) (go : Nat → Nat → Nat) (mem : List Nat), v = .ref t ∧ G p = none ∧ G q = none ∧ SqT K G' t [.str (txt l), .ref p, .ref q] ∧ McAt K G' p q l n go mem ∧ MOk l n go mem ∧ n ≤ 3) (er_call (era_v fun H7 e7 => ea_cons (ev_var rfl) (ea_cons ev_c (ea_cons (ev_var rfl) ea_nil))) fun vs H7 e7 hv Q' E q' => by
        subst hv
        exact ⟨r, l, rfl, e7.2, lok, fun t p q n go mem H8 e8 hp hq h1 h2 h3 h4 => q' _ _ e8 ⟨t, p, q, n, go, mem, rfl, e7.back (e7.2.ne hp) hp, e7.back (e7.2.ne hq) hq, h1, h2, h3, h4⟩⟩) fun v H7 x7 ⟨t, mp, mq, n, go, mem, hv, hmp, hmq, ht, hM, ok, n3⟩ => ?_
      subst hv
      refine q_asgR x7.2 (er_pick (n := rows.length) (fun H8 e8 => ivt_range1 (ea_cons (lenR (xG.trans (x7.trans e8)) rfl) ea_nil) (by omega)) (by omega) (fun _ => rfl) (fun i H8 e8 => etr_drawEq (m := 2) (fun H9 e9 => ea_cons (ev_var rfl) (ea_cons ev_c ea_nil)) (by omega) (by omega)) fun _ => rfl) fun v H8 x8 ⟨so, xs, hv, hso0, nso, hso1, xnd, xlt⟩ => ?_
      subst hv
      have x78 := x7.trans x8
      have ne_ga : ∀ {b : Addr} {G' : Hp}, Xr r G G' → G' b = none → b ≠ ga := fun {b G'} e h z => by
        have := e.get hga nga
        rw [← z, h] at this
        cases this
      have afs : AfAt H8 r ga rows.length so := ⟨xs, nso, ne_ga x7 hso0, hso1, xnd, xlt⟩
      refine q_asgR x8.2 (P := fun v G' => ∃ b, v = .ref b ∧ AfAt G' r ga rows.length b) (er_call (Pl := fun vs G' => ∃ lp c1 c2, vs = [.ref r, .ref lp] ∧ lp ≠ r ∧ G' lp = some (.lst [.ref so, .ref c1, .ref c2, .ref so]) ∧ AfAt G' r ga rows.length so ∧ AfAt G' r ga rows.length c1 ∧ AfAt G' r ga rows.length c2) (era_cons (er_var rfl) fun x H9 e9 hx => era_one (er_of (P := fun v G' => ∃ lp c1 c2, v = .ref lp ∧ lp ≠ r ∧ G' lp = some (.lst [.ref so, .ref c1, .ref c2, .ref so]) ∧ AfAt G' r ga rows.length so ∧ AfAt G' r ga rows.length c1 ∧ AfAt G' r ga rows.length c2) fun H10 e10 => (evp_lstA (Pl := fun vs G' => ∃ c1 c2, vs = [.ref so, .ref c1, .ref c2, .ref so] ∧ AfAt G' r ga rows.length c1 ∧ AfAt G' r ga rows.length c2) (ea_consP (evp_of (ev_var rfl)) fun y H11 e11 hy => ea_consP (evp_L (el_listRg1 (n := rows.length) (lenR (xG.trans (x78.trans (e9.trans (e10.trans (Xr.of e11 e10.2))))) rfl) (by omega))) fun z H12 e12 ⟨c1, hz, hc1, hc11⟩ => ea_consP (evp_listOf (a := sp) (xs := ends.map nv) (ev_var rfl) (.inl (ex_l ((x35.trans (xG.trans (x78.trans (e9.trans (e10.trans (Xr.of (e11.trans e12) e10.2)))))).1) hEnds))) fun u H13 e13 ⟨c2, hu, hc2, hc21⟩ => ea_one (evp_of (ev_var rfl)) fun u2 H14 e14 hu2 => ⟨c1, c2, by rw [hy, hz, hu, hu2], ⟨List.range rows.length, (e10.2.mono e11).ne hc1, ne_ga (x78.trans (e9.trans (e10.trans (Xr.of e11 e10.2)))) hc1, e14 _ _ (e13 _ _ hc11), List.nodup_range, fun x hx => List.mem_range.mp hx⟩, ⟨ends, ((e10.2.mono e11).mono e12).ne hc2, ne_ga (x78.trans (e9.trans (e10.trans (Xr.of (e11.trans e12) e10.2)))) hc2, e14 _ _ hc21, fok.nd, fok.en⟩⟩) (fun vs G1 G2 e ⟨c1, c2, h, f1, f2⟩ => ⟨c1, c2, h, f1.mono e, f2.mono e⟩) fun vs G1 ⟨c1, c2, h, _⟩ => by rw [h]; simp).imp fun v G' e ⟨lp, vs, hv, hn, h1, c1, c2, hvs, f1, f2⟩ => ⟨lp, c1, c2, hv, e10.2.ne hn, by rw [h1, hvs], (afs.xr (e9.trans e10)).mono e, f1, f2⟩) fun v H10 e10 ⟨lp, c1, c2, hv, h⟩ => ⟨lp, c1, c2, by rw [hx, hv], h⟩) fun vs H9 e9 ⟨lp, c1, c2, hv, hn, h1, f0, f1, f2⟩ Q' E q' => ?_) fun v H9 x9 ⟨b, hv, bs, nbr, nbg, hb, bnd, blt⟩ => ?_
      · subst hv
        refine ⟨r, lp, _, rfl, e9.2, sq_of (by rw [del_ne hn]; exact h1), by simp, by simp, fun x H10 e10 hx => ?_⟩
        simp only [List.mem_cons, List.not_mem_nil, or_false] at hx
        rcases hx with rfl | rfl | rfl | rfl
        · exact q' _ _ e10 ⟨_, rfl, f0.xr e10⟩
        · exact q' _ _ e10 ⟨_, rfl, f1.xr e10⟩
        · exact q' _ _ e10 ⟨_, rfl, f2.xr e10⟩
        · exact q' _ _ e10 ⟨_, rfl, f0.xr e10⟩
      · subst hv
        have x79 := x78.trans x9
        have x89 := x8.trans x9
        have ht9 : SqT K H9 t [.str (txt l), .ref mp, .ref mq] := sqT_xr ht x7.2 x89
        have nmp : mp ≠ r := xG.2.ne hmp
        have nmq : mq ≠ r := xG.2.ne hmq
        have gmp : mp ≠ ga := fun z => by rw [z, hga] at hmp; cases hmp
        have gmq : mq ≠ ga := fun z => by rw [z, hga] at hmq; cases hmq
        obtain ⟨i7, j7, hr7, _⟩ := x7.2
        obtain ⟨hmt, hMr⟩ := MchAt.delL ht hM hr7 nmp nmq
        have hM9 : McAt K H9 mp mq l n go mem := hMr.mono x89.1
        have xG9 := xG.trans x79
        have hl' : rows'.length = rows.length := hperm.1
        refine s_appP (x79.get hga nga) (ev_var rfl) (evp_tupA (Pa := fun vs G' => ∃ d L m dl ml, vs = [.ref d, .ref b, .ref t] ∧ DoorAt K mg G' d den i bs L ∧ LangAt K mg G' L l m dl ml ∧ Least l n go mem m dl ml) (ea_consP (evp_Door2 (rows := rows') (bs := bs) (a := den) (p := b) (s := i) (PL := fun L G' => ∃ m dl ml, LangAt K mg G' L l m dl ml ∧ Least l n go mem m dl ml) (ea_consP (evp_of (ev_var rfl)) fun y1 H10 e10 h1 => ea_consP (evp_of (ev_var rfl)) fun y2 H11 e11 h2 => ea_consP (evp_of (ev_var rfl)) fun y3 H12 e12 h3 => ea_one (evp_Language (ea_cons (ev_op (ev_var rfl) ev_c (rv_ixT (i := 0) (ex_t ((e10.trans e11).trans e12) ht9) rfl)) (ea_cons (ev_op (ev_var rfl) ev_c (rv_ixT (i := 1) (ex_t ((e10.trans e11).trans e12) ht9) rfl)) (ea_cons (ev_op (ev_var rfl) ev_c (rv_ixT (i := 2) (ex_t ((e10.trans e11).trans e12) ht9) rfl)) ea_nil))) (hM9.mono ((e10.trans e11).trans e12)) ok) fun y4 H13 e13 ⟨L, m, dl, ml, h4, hl, hL⟩ => ⟨L, by rw [h1, h2, h3, h4], m, dl, ml, hL, hl⟩) ((hRd2 xG9).mono (del_le.trans del_le)) (by omega) (by omega) (sq_of hb) bnd (fun x hx => by rw [hl']; exact blt x hx) fun L G1 G2 e ⟨m, dl, ml, h, h2⟩ => ⟨m, dl, ml, h.mono e, h2⟩) fun y H10 e10 ⟨d, L, hy, ⟨m, dl, ml, hL, hl⟩, hD⟩ => ea_consP (evp_of (ev_var rfl)) fun z H11 e11 hz => ea_one (evp_of (ev_var rfl)) fun u H12 e12 hu => ⟨d, L, m, dl, ml, by rw [hy, hz, hu], hD.mono (e11.trans e12), hL.mono (e11.trans e12), hl⟩) (fun vs G1 G2 e ⟨d, L, m, dl, ml, h1, h2, h3, h4⟩ => ⟨d, L, m, dl, ml, h1, h2.mono e, h3.mono e, h4⟩) fun vs G1 ⟨d, L, m, dl, ml, h1, _⟩ => by rw [h1]; simp) (by omega) fun v H10 e10 ⟨tt', vs, hv, htt0, htt1, d, L, m, dl, ml, hvs, hD, hL, hle⟩ => ?_
        subst hv hvs
        have x10 : Xr r G H10 := x79.trans (Xr.of e10 x9.2)
        have hga10 : H10 ga = some (.lst items) := x10.get hga nga
        obtain ⟨i10, j10, hr10, _⟩ := x10.2
        have hga10' : del r H10 ga = some (.lst items) := by rw [del_ne nga]; exact hga10
        have up : D2 (upd H10 ga (.lst (items ++ [.ref tt']))) = D2 H10 := by
          show del ga (del r (upd H10 ga _)) = del ga (del r H10)
          rw [del_comm (p := ga) (q := r), del_upd, del_comm (p := r) (q := ga)]
        refine ⟨items ++ [.ref tt'], _, _, _, _, _, _, _, rfl, (xG.trans x10).mut hga0' nga, upd_same, ?_, by simp [hil]⟩
        rw [up]
        intro x hx
        rcases List.mem_append.mp hx with h | h
        · exact (hI.mono (d2 x10)) x h
        · rw [List.mem_singleton.mp h]
          have x910 : Xr r H9 H10 := Xr.of e10 x9.2
          obtain ⟨ht', hM'⟩ := MchAt.delL (K := K) (ex_t e10 ht9) (hM9.mono e10) hr10 nmp nmq
          obtain ⟨ht'', hM''⟩ := MchAt.delL ht' hM' hga10' gmp gmq
          refine ⟨tt', d, b, t, rfl, sqT_delL (sqT_delL (st_of htt1) hr10) hga10', ⟨rows, rows', i, bs, l, m, dl, ml, n, go, mem, allPairs n rows.length, ⟨⟨den, L, (hD.delL hr10).delL hga10', hRd2 (xG.trans x10), (hL.delL hr10).delL hga10'⟩, hperm.good good, by omega, by omega, hle.lg ok⟩, hRows2 (xG.trans x10), good, hperm.goes, hl', sqL_del (sqL_del (sq_of (e10 _ _ hb)) nbr) nbg, ⟨mp, mq, ht'', hM''⟩, ok, hle.same, ?_, val_all ok.lg.ins ok.lg.one⟩⟩
          rw [allPairs_len]
          have h1 : 2 ^ rows.length ≤ 2 ^ 5 := Nat.pow_le_pow_right (by omega) few
          have h2 := Nat.mul_le_mul n3 h1
          omega
    · obtain ⟨items, a11, a12, a13, a14, a15, a16, a17, rfl, xG, hga, hI, hil⟩ := hP
      have hil : items.length = rows.length := by simpa using hil
      have xHG : Xr r H G := (((x1.trans x2).trans x35)).trans xG
      refine q_when (b := false) (et_is (et_not (et_B (allOk xG hI (fun y hy => hy) (by omega) (fun _ => ⟨rfl, rfl, rfl, rfl, rfl⟩) (iw_list (p := ga) (ev_var rfl) (sq_of hga))))) rfl) (fun h => by cases h) fun _ H7 e7 => ?_
      have x7 := xG.trans (Xr.of e7 xG.2)
      exact s_ret (v := .bl true) (allOk x7 (hI.mono (d2 (Xr.of e7 xG.2))) (fun y hy => List.mem_reverse.mp hy) (by rw [List.length_reverse]; omega) (fun _ => ⟨rfl, rfl, rfl, rfl, rfl⟩) (iw_listN (el_rev (ev_var rfl) (sq_of (e7 _ _ hga))))) fun H8 e8 => fin H8 (xHG.trans (Xr.of (e7.trans e8) xG.2))
end
end K33
/-! text M5 -/
set_option Elab.async false
set_option linter.all false
set_option maxRecDepth 100000
set_option maxHeartbeats 4000000
/-! the long reader and its language -/
namespace K33
open PySem L2
def rowF (p q x a b n s : Nat) : Row := if s = 0 then [(p, 0, some (sg a)), (q, 0, some (sg b)), (x, 1, some (sg b))] else if s + 1 < n then [(p, s + 1, some (sg a)), (q, s + 1, some (sg b))] else []
def rowsF (p q x a b n : Nat) : List Row := (List.range n).map (rowF p q x a b n)
def goF (size a s c : Nat) : Nat := if s < size then (if c = a then size + 1 else s + 1) else if s = size then size else size + 1
def subsL {α : Type} : List α → List (List α)
  | [] => [[]]
  | x :: xs => subsL xs ++ (subsL xs).map (x :: ·)
theorem subsL_len {α : Type} : ∀ l : List α, (subsL l).length = 2 ^ l.length
  | [] => rfl
  | x :: xs => by
    show (subsL xs ++ (subsL xs).map (x :: ·)).length = _
    rw [List.length_append, List.length_map, subsL_len xs, List.length_cons, Nat.pow_succ]
    omega
theorem mem_subsL {α : Type} (p : α → Bool) : ∀ l : List α, l.filter p ∈ subsL l
  | [] => List.mem_singleton.mpr rfl
  | x :: xs => by
    show _ ∈ subsL xs ++ (subsL xs).map (x :: ·)
    cases h : p x with
    | true =>
      rw [List.filter_cons_of_pos h]
      exact List.mem_append_right _ (List.mem_map.mpr ⟨_, mem_subsL p xs, rfl⟩)
    | false =>
      rw [List.filter_cons_of_neg (by rw [h]; exact Bool.false_ne_true)]
      exact List.mem_append_left _ (mem_subsL p xs)
section
variable {p q x a b n size : Nat}
theorem rowsF_len : (rowsF p q x a b n).length = n := by simp [rowsF]
theorem rowsF_at {s : Nat} (h : s < n) : (rowsF p q x a b n)[s]? = some (rowF p q x a b n s) := by
  unfold rowsF
  rw [List.getElem?_map, List.getElem?_range h]
  rfl
theorem rowF_mem {r : Row} (h : r ∈ rowsF p q x a b n) : ∃ s < n, r = rowF p q x a b n s := by
  obtain ⟨s, hs, e⟩ := List.mem_map.mp h
  exact ⟨s, List.mem_range.mp hs, e.symm⟩
theorem rowF_ent {s : Nat} {e : Mv} (h : e ∈ rowF p q x a b n s) (hn : 2 ≤ n) : e.1 ∈ [p, q, x] ∧ e.2.1 < n ∧ Told [a, b] [] e.2.2 := by
  have ta : Told [a, b] [] (some (sg a)) := .inr (.inl ⟨a, by simp, rfl⟩)
  have tb : Told [a, b] [] (some (sg b)) := .inr (.inl ⟨b, by simp, rfl⟩)
  unfold rowF at h
  split at h
  · simp only [List.mem_cons, List.not_mem_nil, or_false] at h
    rcases h with rfl | rfl | rfl
    · exact ⟨by simp, by simp only; omega, ta⟩
    · exact ⟨by simp, by simp only; omega, tb⟩
    · exact ⟨by simp, by simp only; omega, tb⟩
  · split at h
    · simp only [List.mem_cons, List.not_mem_nil, or_false] at h
      rcases h with rfl | rfl
      · exact ⟨by simp, by simp only; omega, ta⟩
      · exact ⟨by simp, by simp only; omega, tb⟩
    · cases h
theorem rowF_short {s : Nat} : (rowF p q x a b n s).length ≤ 3 := by
  unfold rowF
  split
  · simp
  · split <;> simp
theorem rowsF_good (hn : 2 ≤ n) (n8 : n ≤ 8) : GoodR (rowsF p q x a b n) := by
  have h2 := sum_len (rows := rowsF p q x a b n) (k := 3) fun r hr => by
    obtain ⟨s, _, rfl⟩ := rowF_mem hr
    exact rowF_short
  rw [rowsF_len] at h2
  refine ⟨by rw [rowsF_len]; omega, by omega, fun r hr e he => ?_⟩
  obtain ⟨s, _, rfl⟩ := rowF_mem hr
  rw [rowsF_len]
  exact (rowF_ent he hn).2.1
theorem rowsF_rd (hn : 2 ≤ n) (n8 : n ≤ 8) (pq : p ≠ q) (px : p ≠ x) (qx : q ≠ x) (hps : ∀ c ∈ [p, q, x], c ∈ lets) (hts : ∀ c ∈ [a, b], c ∈ lets) : RdOk (rowsF p q x a b n) [] 0 := by
  have g := rowsF_good (p := p) (q := q) (x := x) (a := a) (b := b) hn n8
  refine ⟨by rw [rowsF_len]; omega, by rw [rowsF_len]; omega, g.ent, fun r hr e he => ?_, fun r hr => ?_, List.nodup_nil, fun k hk => (by cases hk), by rw [rowsF_len]; unfold below; simp; omega, ⟨[p, q, x].map sg, by simp, fun r hr e he => ?_⟩, ⟨[a, b].map sg, by simp, fun r hr e he z hz hs => ?_⟩, ⟨[], by simp, fun r hr e he z hz hm => ?_⟩⟩
  · obtain ⟨s, _, rfl⟩ := rowF_mem hr
    obtain ⟨h1, h2, h3⟩ := rowF_ent he hn
    exact ⟨isSign_sg (hps _ h1), by rw [rowsF_len]; exact h2, h3.ok hts fun z hz => (by cases hz)⟩
  · obtain ⟨s, _, rfl⟩ := rowF_mem hr
    unfold rowF
    split
    · simp [pq, px, qx]
    · split <;> simp [pq]
  · obtain ⟨s, _, rfl⟩ := rowF_mem hr
    exact List.mem_map.mpr ⟨e.1, (rowF_ent he hn).1, rfl⟩
  · obtain ⟨s, _, rfl⟩ := rowF_mem hr
    rcases (rowF_ent he hn).2.2 with h3 | ⟨c, hc, h3⟩ | ⟨y, hy, h3⟩
    · rw [h3] at hz
      cases hz
    · rw [h3] at hz
      cases hz
      exact List.mem_map.mpr ⟨c, hc, rfl⟩
    · cases hy
  · obtain ⟨s, _, rfl⟩ := rowF_mem hr
    rcases (rowF_ent he hn).2.2 with h3 | ⟨c, hc, h3⟩ | ⟨y, hy, h3⟩
    · rw [h3] at hz
      cases hz
    · rw [h3] at hz
      cases hz
      have := sign_mark hm
      rw [isSign_sg (hts c hc)] at this
      cases this
    · cases hy
theorem goF_ok (s2 : 2 ≤ size) (s4 : size ≤ 4) (ab : a < b) (ia : a ∈ lets) (ib : b ∈ lets) : MOk [a, b] (size + 2) (goF size a) [size] := by
  refine ⟨⟨by simp, by simp, by simp [ab], fun c hc => ?_⟩, by omega, by omega, fun s hs c hc => ?_, by simp, by simp⟩
  · simp only [List.mem_cons, List.not_mem_nil, or_false] at hc
    rcases hc with rfl | rfl
    · exact ia
    · exact ib
  · unfold goF
    split
    · split <;> omega
    · split <;> omega
theorem goF_a {s c : Nat} (h : s < size) (hc : c = a) : goF size a s c = size + 1 := by
  unfold goF
  rw [if_pos h, if_pos hc]
theorem goF_b {s c : Nat} (h : s < size) (hc : c ≠ a) : goF size a s c = s + 1 := by
  unfold goF
  rw [if_pos h, if_neg hc]
theorem run_dead (z : List Nat) : run (goF size a) (size + 1) z = size + 1 := by
  induction z with
  | nil => rfl
  | cons c z ih =>
    have : goF size a (size + 1) c = size + 1 := by
      unfold goF
      rw [if_neg (by omega), if_neg (by omega)]
    show run (goF size a) (goF size a (size + 1) c) z = size + 1
    rw [this]
    exact ih
theorem dead_out (ok : MOk [a, b] (size + 2) (goF size a) [size]) : size + 1 ∉ lvOf [a, b] (size + 2) (goF size a) [size] := fun h => by
  obtain ⟨z, _, hz⟩ := (ok.lg.live (size + 1) (by omega)).mp h
  rw [run_dead, List.mem_singleton] at hz
  omega
open Classical in
theorem zero_in (hn : 2 ≤ n) {w : List Nat} (hw : ∀ c ∈ w, c ∈ [a, b]) : 0 ∈ lastL (goes (rowsF p q x a b n)) n 0 w := by
  have key : ∀ (k : Nat) (w : List Nat), w.length = k → (∀ c ∈ w, c ∈ [a, b]) → 0 ∈ lastL (goes (rowsF p q x a b n)) n 0 w := by
    intro k
    induction k with
    | zero =>
      intro w h _
      rw [List.eq_nil_of_length_eq_zero h]
      exact mem_silentL.mpr ⟨by omega, .base (by simp)⟩
    | succ k ih =>
      intro w h hw
      rcases List.eq_nil_or_concat w with e | ⟨u, c, e⟩
      · rw [e] at h
        cases h
      · rw [List.concat_eq_append] at e
        subst e
        have h0 := ih u (by simpa using h) fun d hd => hw d (List.mem_append_left _ hd)
        have hc : c ∈ [a, b] := hw c (by simp)
        rw [lastL_snoc]
        refine mem_silentL.mpr ⟨by omega, .base ?_⟩
        unfold goalsL
        refine List.mem_filter.mpr ⟨List.mem_range.mpr (by omega), decide_eq_true ⟨0, h0, rowF p q x a b n 0, rowsF_at (by omega), ?_⟩⟩
        simp only [List.mem_cons, List.not_mem_nil, or_false] at hc
        rcases hc with rfl | rfl
        · exact ⟨p, by simp [rowF]⟩
        · exact ⟨q, by simp [rowF]⟩
  exact key _ w rfl hw
theorem val_long (s2 : 2 ≤ size) (ok : MOk [a, b] (size + 2) (goF size a) [size]) {M : Rel3} {w : List Nat} (h : Val [a, b] (pS0 M n 0) (pOpn (goF size a) (lvOf [a, b] (size + 2) (goF size a) [size])) (pNx M n (goF size a)) w) : (run (goF size a) 0 w < size ∧ w = List.replicate (run (goF size a) 0 w) b) ∨ run (goF size a) 0 w = size := by
  induction h with
  | nil => exact .inl ⟨by show 0 < size; omega, rfl⟩
  | @snoc u c hu hc ho ih =>
    rw [pst_pair] at ho
    have ho : goF size a (run (goF size a) 0 u) c ∈ lvOf [a, b] (size + 2) (goF size a) [size] := of_decide_eq_true ho
    rw [run_snoc]
    rcases ih with ⟨h1, h2⟩ | h1
    · by_cases ca : c = a
      · exfalso
        refine dead_out ok ?_
        have : goF size a (run (goF size a) 0 u) c = size + 1 := goF_a h1 ca
        rw [← this]
        exact ho
      · have cb : c = b := by
          simp only [List.mem_cons, List.not_mem_nil, or_false] at hc
          exact hc.resolve_left ca
        have e : goF size a (run (goF size a) 0 u) c = run (goF size a) 0 u + 1 := goF_b h1 ca
        rw [e]
        by_cases hl : run (goF size a) 0 u + 1 < size
        · refine .inl ⟨hl, ?_⟩
          rw [List.replicate_succ', ← h2, cb]
        · exact .inr (by omega)
    · refine .inr ?_
      rw [h1]
      unfold goF
      rw [if_neg (by omega), if_pos rfl]
/-- all pairs that can be met -/
noncomputable def longU (M : Rel3) (n size b : Nat) : List Pst := (List.range size).map (fun k => (k, lastL M n 0 (List.replicate k b))) ++ (subsL ((List.range (n - 1)).map Nat.succ)).map fun S => (size, 0 :: S)
theorem longU_len {M : Rel3} (s4 : size ≤ 4) (n8 : n ≤ 8) : (longU M n size b).length ≤ 499 := by
  unfold longU
  rw [List.length_append, List.length_map, List.length_range, List.length_map, subsL_len, List.length_map, List.length_range]
  have : 2 ^ (n - 1) ≤ 2 ^ 7 := Nat.pow_le_pow_right (by omega) (by omega)
  omega
theorem val_longU (hn : 2 ≤ n) (s2 : 2 ≤ size) (ok : MOk [a, b] (size + 2) (goF size a) [size]) : ∀ w, Val [a, b] (pS0 (goes (rowsF p q x a b n)) n 0) (pOpn (goF size a) (lvOf [a, b] (size + 2) (goF size a) [size])) (pNx (goes (rowsF p q x a b n)) n (goF size a)) w → pst (pS0 (goes (rowsF p q x a b n)) n 0) (pNx (goes (rowsF p q x a b n)) n (goF size a)) w ∈ longU (goes (rowsF p q x a b n)) n size b := fun w hw => by
  rw [pst_pair]
  unfold longU
  rcases val_long s2 ok hw with ⟨h1, h2⟩ | h1
  · refine List.mem_append_left _ (List.mem_map.mpr ⟨run (goF size a) 0 w, List.mem_range.mpr h1, ?_⟩)
    rw [← h2]
  · refine List.mem_append_right _ ?_
    rw [h1]
    obtain ⟨xs, e⟩ := lastL_is (goes (rowsF p q x a b n)) n 0 w
    have h0 := zero_in (p := p) (q := q) (x := x) (a := a) (b := b) hn (val_in hw)
    rw [e] at h0 ⊢
    have hs := (mem_silentL.mp h0).2
    unfold silentL
    obtain ⟨m, rfl⟩ : ∃ m, n = m + 1 := ⟨n - 1, by omega⟩
    rw [List.range_succ_eq_map, List.filter_cons_of_pos (by simpa using hs)]
    exact List.mem_map.mpr ⟨_, mem_subsL _ _, rfl⟩
end
end K33
/-! text Ee -/
set_option Elab.async false
set_option linter.all false
set_option maxRecDepth 100000
set_option maxHeartbeats 4000000
namespace K33
open PySem PySem.Spec PyProof.Rows L2 Evl K33G
section
variable {P : Program} {w : World} {K : PySem.W.Frag} {mg : Str → Option Value} {base : Heap} {r g : Addr} {σ : L2.St} {H : Hp} {te ta tb td ty tw : TE} {D : Ends} {tz : TS} {tr tk : TA} {t : TT}
theorem er_addDraw {c m : Nat} (ha : ∀ H1, Xr r H H1 → EvA (tCons ta (tCons tb tNil)) σ H1 [.ref r, nv m]) (m1 : 1 ≤ m) (m2 : m ≤ 1000) : EvR r (tOp (rI0 fun i j => .int (i + j)) (tC (nv c)) (tCall spDraw [] E0 (tCons ta (tCons tb tNil)))) σ H (fun v _ => ∃ d, v = nv (c + d) ∧ d < m) :=
  er_op (Pa := fun x _ => x = nv c) (Pb := fun x y _ => x = nv c ∧ ∃ d, y = nv d ∧ d < m) er_c (fun x H3 e3 hx => (er_draw (fun H4 e4 => ha H4 (e3.trans e4)) m1 m2).imp fun v H4 _ hv => ⟨hx, hv⟩) fun x y H3 Q' e3 ⟨hx, d, hy, hd⟩ q' => by
    subst hx hy
    exact ⟨(c : Int), d, rfl, rfl, q' _ _ (Xr.refl e3.2) ⟨d, rfl, hd⟩⟩
theorem evp_if {P : V → Hp → Prop} {b : Bool} (h : EvT t σ H b) (h1 : b = true → EvP ta σ H P) (h2 : b = false → EvP tb σ H P) : EvP (tIf t ta tb) σ H P := fun H1 e Q q => h H1 e _ fun H2 e2 => by
  cases b with
  | true => exact iteT (h1 rfl H2 (e.trans e2) Q fun v H3 e3 p => q v H3 (e2.trans e3) p)
  | false => exact iteF (h2 rfl H2 (e.trans e2) Q fun v H3 e3 p => q v H3 (e2.trans e3) p)
theorem evp_catP {p : Addr} {xs : List V} {R : List V → Hp → Prop} (hp : H p = some (.lst xs)) (ha : Ev ta σ H (.ref p)) (hb : EvP tb σ H (fun v H' => ∃ q ys, v = .ref q ∧ H' q = some (.lst ys) ∧ R ys H')) (hm : ∀ ys G G', Ex G G' → R ys G → R ys G') (hz : ∀ ys G, R ys G → xs.length + ys.length ≤ 1000) : EvP (tOp rCat ta tb) σ H (fun v H' => ∃ l ys, v = .ref l ∧ H l = none ∧ H' l = some (.lst (xs ++ ys)) ∧ R ys H') := fun H1 e Q k =>
  ha H1 e _ fun H2 e2 => hb H2 (e.trans e2) _ fun v H3 e3 ⟨q, ys, hv, hq, hR⟩ => ⟨p, q, xs, ys, rfl, hv, e3 _ _ (e2 _ _ (e _ _ hp)), hq, sz_of (by have := hz ys H3 hR; omega), fun l hl => k _ _ ((e2.trans e3).trans (Ex.new hl)) ⟨l, ys, rfl, fresh_back ((e.trans e2).trans e3) hl, upd_same, hm _ _ _ (Ex.new hl) hR⟩⟩
theorem evp_fz2 {k1 v1 k2 v2 : TE} {a b : Nat} {f : Nat → Nat} (h1 : Ev k1 σ H (.str (sg a))) (h2 : Ev v1 σ H (nv (f a))) (h3 : Ev k2 σ H (.str (sg b))) (h4 : Ev v2 σ H (nv (f b))) (ne : a ≠ b) : EvP (tFz (tDisp [(k1, v1), (k2, v2)])) σ H (fun v H' => ∃ d, v = .ref d ∧ H d = none ∧ FD H' d (mrow [a, b] f)) := by
  have hm : mergeK [] (mrow [a, b] f) = mrow [a, b] f := by
    unfold mergeK
    rw [merge_all _ _ (by
      rw [List.nil_append]
      simp only [mrow, List.map_cons, List.map_nil]
      rw [List.nodup_cons]
      refine ⟨fun h => ne ?_, by simp⟩
      exact (key_eq a b).mp (List.mem_singleton.mp h))]
    rfl
  rw [← hm]
  exact evp_fzK (ek_disp (kvs := mrow [a, b] f) ⟨h1, h2, h3, h4, trivial⟩ (by simp [mrow]))
theorem ivt_range2 {n : Nat} (h : EvA tr σ H [.int 1, .int n]) (h1 : 1 ≤ n) (hn : n ≤ 100000) : IvT (iRng2 tr) σ H (n - 1) (YFn fun i => nv (i + 1)) := fun H1 e R k =>
  h H1 e _ fun H2 e2 => ⟨1, n, rfl, ⟨by omega, by omega, by omega, by omega⟩, by
    rw [show ((n : Int) - 1).toNat = n - 1 by omega]
    exact k _ H2 _ e2 (walk_range.mono (fun _ h => h) fun i H x H' _ _ y => ⟨y.1, y.2.trans (by show V.int (1 + (i : Int)) = V.int ((i + 1 : Nat) : Int); congr 1; omega)⟩) fun _ => trivial⟩
theorem er_pick2 {n : Nat} {wi : TI} {j : Nat} {vs : List Nat} {t : TT} (hw : ∀ H1, Xr r H H1 → IvT wi σ H1 (n - 1) (YFn fun i => nv (i + 1))) (hn : n ≤ 1000) (hj : ∀ x, wipe ((wipe σ vs).set j (some x)) vs = wipe σ vs) (ht : ∀ (i : Nat) H1, Xr r H H1 → EtR r t ((wipe σ vs).set j (some (nv i))) H1 fun _ _ => True) (hv : ∀ i : Nat, ((wipe σ vs).set j (some (nv i)))[j]? = some (some (nv i))) :
    EvR r (tLc wi (gName j) t (tVar j) vs) σ H (fun v H' => ∃ (p : Addr) (xs : List Nat), v = .ref p ∧ H p = none ∧ p ≠ r ∧ H' p = some (.lst (xs.map nv)) ∧ xs.Nodup ∧ ∀ x ∈ xs, x < n) := by
  refine (er_lc (Y := YFn fun i => nv (i + 1)) (fun i acc _ => ∃ xs : List Nat, acc = xs.map nv ∧ xs.Nodup ∧ (∀ x ∈ xs, x < i + 1) ∧ xs.length ≤ i ∧ i ≤ n - 1) hw (fun H1 e1 => ⟨[], rfl, List.nodup_nil, fun x hx => (by cases hx), Nat.le_refl _, Nat.zero_le _⟩) (fun i acc H1 hi ⟨xs, h1, _, _, h2, _⟩ => by rw [h1, List.length_map]; omega) fun D i x acc Ha Hb hi hD nD ed hDa ⟨xs, h1, h2, h3, h4, h5⟩ y k hk => ?_).imp fun v H' e ⟨p, acc, hv, hp, np, hp2, xs, h1, h2, h3, h4, _⟩ => ⟨p, xs, hv, hp, np, by rw [hp2, h1], h2, fun x hx => by
    have := h3 x hx
    by_cases h0 : n = 0
    · have hx0 : xs = [] := List.eq_nil_of_length_eq_zero (by omega)
      rw [hx0] at hx
      cases hx
    · omega⟩
  obtain ⟨rfl, rfl⟩ := y
  have xa : Xr r H Hb := ed.trans (Xr.of del_le ed.2)
  refine hk _ _ (Xr.refl xa.2) (hj _) ?_
  refine EtR.imp (ht (i + 1) Hb xa) fun b H3 _ => ⟨fun _ => (er_var (hv (i + 1))).imp fun v H4 _ hv' => ⟨xs ++ [i + 1], by rw [hv', h1, List.map_append]; rfl, ?_, fun x hx => ?_, by rw [List.length_append]; exact Nat.succ_le_succ h4, hi⟩, fun _ => ⟨xs, h1, h2, fun x hx => Nat.lt_succ_of_lt (h3 x hx), Nat.le_succ_of_le h4, hi⟩⟩
  · rw [List.nodup_append]
    exact ⟨h2, by simp, fun a ha b hb e => by
      rw [List.mem_singleton.mp hb] at e
      have := h3 a ha
      omega⟩
  · rcases List.mem_append.mp hx with h | h
    · exact Nat.lt_succ_of_lt (h3 x h)
    · rw [List.mem_singleton.mp h]
      exact Nat.lt_succ_self _
theorem evp_Door3 {p : Addr} {s n : Nat} {bs : List Nat} {PL : Addr → Addr → Hp → Prop} (h : EvAP tr σ H (fun vs G => ∃ a L, vs = [.ref a, nv s, .ref p, .ref L] ∧ PL a L G)) (hR : ∀ a L G, PL a L G → ∃ rows', ReaderAt K mg G a rows' ∧ rows'.length = n) (few : n ≤ 12) (hs : s < n) (hp : SqL K H p (bs.map nv)) (nd : bs.Nodup) (ins : ∀ x ∈ bs, x < n) (hm : ∀ a L G G', Ex G G' → PL a L G → PL a L G') :
    EvP (tMake (clsOf mg "Door") (spDoorInit K mg) [] E0 tr) σ H (fun v H' => ∃ d a L, v = .ref d ∧ PL a L H' ∧ DoorAt K mg H' d a s bs L) := fun H1 e Q k =>
  h H1 e _ fun vs H2 e2 ⟨a, L, hv, hL⟩ x dx hx hdx ne => by
    subst hv
    rw [List.append_nil]
    obtain ⟨rows', hRd, hl⟩ := hR a L H2 hL
    have e3 := made_ex (o := .own x) (o' := .ins (clsOf mg "Door") dx []) hx hdx
    exact ⟨x, dx, a, p, L, s, rows', bs, rfl, upd_same, hRd.mono e3, by omega, by omega, ex_l ((e.trans e2).trans e3) hp, nd, fun x hx => by rw [hl]; exact ins x hx, fun H3 e4 hD => ⟨rfl, k _ H3 (e2.trans (e3.trans e4)) ⟨x, a, L, rfl, hm a L _ _ (e3.trans e4) hL, hD⟩⟩⟩
abbrev N_law_long_right : List Str := ["_law_rng_here", "_law_paper", "_law_a", "_law_b", "_law_many", "_law_size", "_law_rows", "_law_spot", "_law_lines", "_law_machine", "_law_after", "_law_gate"]
theorem sc_law_long_right : FnScope N_law_long_right ["_law_rng_here"] (defScope (top 79)) := ⟨rfl, rfl, rfl, by decide +kernel, rfl, by decide +kernel, by decide +kernel⟩
theorem ok_law_long_right (T : Txt K mg) (G : TxtG K mg) : OkG P w K mg base 10 "_law_long_right" ["_law_rng_here"] spRight := by
  refine okG_of T.law_long_right sc_law_long_right (fun vs H Q E h => ?_) (fun _ _ _ _ _ _ us hl => match us, hl with | [_], _ => rfl) (fun f cdv A outer s0 H vs Q E hr gg h => ?_)
  · obtain ⟨_, rfl, _⟩ := h
    rfl
  · obtain ⟨r, rfl, hg, fin⟩ := h
    obtain ⟨fR, fdR, T0, mR, FR, hTt, okR⟩ := ok_Reader_init (P := P) (w := w) (base := base) T
    have hT0 : ∃ (f : Addr) (fd : FuncData), Mk K (clsOf mg "Reader") f ∧ FunM K "__init__" "Reader.__init__" (inClass (top 26) 1) [.ref T0] [("start", .int 0)] f fd ∧ FnOk P w K mg base CX0 7 f fd ["self", "states", "ends", "start"] (spReaderInit K mg) := ⟨fR, fdR, mR, FR, okR⟩
    refine ⟨_, (pss_cons (ps_asg (pe_tup (pa_cons (pe_f (ok_law_letters T) (hr.mono (by decide)) (pa_cons (pv 0) (pa_cons pe_int pa_nil))) (pa_cons (pe_callB (r := rSortedS K) cr_sortedS (by rfl) T.sorted (by decide +kernel) (pa_cons (pe_f (ok_law_letters T) (hr.mono (by decide)) (pa_cons (pv 0) (pa_cons pe_int pa_nil))) pa_nil)) pa_nil))) (pg_tup rfl (pgs_cons (pg_name (i := 1) sc_law_long_right.nd rfl (Or.inl rfl)) (pgs_cons (pg_unl rfl (pgs_cons (pg_name (i := 2) sc_law_long_right.nd rfl (Or.inr rfl)) (pgs_cons (pg_name (i := 3) sc_law_long_right.nd rfl (Or.inr rfl)) pgs_nil))) pgs_nil))))
 (pss_cons (ps_asg (pe_tup (pa_cons (pe_op op_add pe_int (pe_f (ok_law_draw T) (hr.mono (by decide)) (pa_cons (pv 0) (pa_cons pe_int pa_nil)))) (pa_cons (pe_op op_add pe_int (pe_f (ok_law_draw T) (hr.mono (by decide)) (pa_cons (pv 0) (pa_cons pe_int pa_nil)))) pa_nil))) (pg_tup rfl (pgs_cons (pg_name (i := 4) sc_law_long_right.nd rfl (Or.inl rfl)) (pgs_cons (pg_name (i := 5) sc_law_long_right.nd rfl (Or.inr rfl)) pgs_nil))))
 (pss_cons (ps_set (i := 6) sc_law_long_right.nd rfl (Or.inl rfl) (pe_lst (pa_cons (pe_fz (pe_disp (pps_cons (pe_ix (r := rIxL K) ix_list (pv 1) pe_int (fun _ _ => rfl)) (pe_tup (pa_cons pe_int (pa_cons (pv 2) pa_nil))) (pps_cons (pe_ix (r := rIxL K) ix_list (pv 1) pe_int (fun _ _ => rfl)) (pe_tup (pa_cons pe_int (pa_cons (pv 3) pa_nil))) (pps_cons (pe_ix (r := rIxL K) ix_list (pv 1) pe_int (fun _ _ => rfl)) (pe_tup (pa_cons pe_int (pa_cons (pv 3) pa_nil))) pps_nil))) (by rfl) (by rfl) (fun z => by cases z) (by decide))) pa_nil)))
 (pss_cons (ps_for PassesOwn.never rfl (pi_range2 rfl T.range (pa_cons pe_int (pa_cons (pv 4) pa_nil))) (pg_name (i := 7) sc_law_long_right.nd rfl (Or.inl rfl))
 (pss_one (ps_expr (pe_bm PySem.F.plainAttrs_list PySem.F.slot_list_append PySem.F.type_list_append mt_append (pv 6) (pa_cons (pe_ifExp (pt_cmpR op_lt (pe_op op_add (pv 7) pe_int) (pv 4) (nomark _)) (pe_fz (pe_disp (pps_cons (pe_ix (r := rIxL K) ix_list (pv 1) pe_int (fun _ _ => rfl)) (pe_tup (pa_cons (pe_op op_add (pv 7) pe_int) (pa_cons (pv 2) pa_nil))) (pps_cons (pe_ix (r := rIxL K) ix_list (pv 1) pe_int (fun _ _ => rfl)) (pe_tup (pa_cons (pe_op op_add (pv 7) pe_int) (pa_cons (pv 3) pa_nil))) pps_nil)) (by rfl) (by rfl) (fun z => by cases z) (by decide))) (pe_fz pe_dnewK)) pa_nil)))))
 (pss_cons (ps_setLc (i := 8) (own := [("_law_spot", 7)]) (g := gName 7) (by rfl) sc_law_long_right.nd rfl rfl (sw_true rfl rfl rfl (by decide +kernel)) (pi_range1 rfl T.range (pa_cons (pv 5) pa_nil)) (blkOk_by (own := [("_law_spot", 7)]) (N := N_law_long_right) (sc := defScope (top 79)) (by decide +kernel)) (fun _ _ _ _ _ => (pg_name (i := 7) sc_law_long_right.nd rfl (Or.inl rfl))) (fun _ _ _ _ _ => by exact pts_nil) (fun _ _ _ _ _ => by exact (pe_fz (pe_disp (pps_cons (pv 2) (pe_op op_add (pv 5) pe_int) (pps_cons (pv 3) (pe_op op_add (pv 7) pe_int) pps_nil)) (by rfl) (by rfl) (fun z => by cases z) (by decide)))))
 (pss_cons (ps_set (i := 9) sc_law_long_right.nd rfl (Or.inl rfl) (pe_tup (pa_cons (pe_op op_add_str (pv 2) (pv 3)) (pa_cons (pe_op op_cat (pv 8) (pe_lst (pa_cons (pe_fz (pe_disp (pps_cons (pv 2) (pv 5) (pps_cons (pv 3) (pv 5) pps_nil)) (by rfl) (by rfl) (fun z => by cases z) (by decide))) (pa_cons (pe_fz (pe_disp (pps_cons (pv 2) (pe_op op_add (pv 5) pe_int) (pps_cons (pv 3) (pe_op op_add (pv 5) pe_int) pps_nil)) (by rfl) (by rfl) (fun z => by cases z) (by decide))) pa_nil)))) (pa_cons (pe_lst (pa_cons (pv 5) pa_nil)) pa_nil)))))
 (pss_cons (ps_setLc (i := 10) (own := [("_law_spot", 7)]) (g := gName 7) (by rfl) sc_law_long_right.nd rfl rfl (sw_true rfl rfl rfl (by decide +kernel)) (pi_range2 rfl T.range (pa_cons pe_int (pa_cons (pv 4) pa_nil))) (blkOk_by (own := [("_law_spot", 7)]) (N := N_law_long_right) (sc := defScope (top 79)) (by decide +kernel)) (fun _ _ _ _ _ => (pg_name (i := 7) sc_law_long_right.nd rfl (Or.inl rfl))) (fun _ _ _ _ _ => by exact (pts_one (pt_cmpR op_gt (pe_f (ok_law_draw T) (hr.mono (by decide)) (pa_cons (pv 0) (pa_cons pe_int pa_nil))) pe_int (nomark _)))) (fun _ _ _ _ _ => by exact (pv 7)))
 (pss_cons (ps_set (i := 11) sc_law_long_right.nd rfl (Or.inl rfl) (pe_Door T (hr.mono (by decide)) (pa_cons (pe_Reader1 T hT0 (hr.mono (by decide)) (pa_cons (pv 6) pa_nil)) (pa_cons pe_int (pa_cons (pv 10) (pa_cons (pe_Language T (hr.mono (by decide)) (pa_cons (pe_ix (r := rIxT K) ix_tup (pv 9) pe_int (fun _ _ => rfl)) (pa_cons (pe_ix (r := rIxT K) ix_tup (pv 9) pe_int (fun _ _ => rfl)) (pa_cons (pe_ix (r := rIxT K) ix_tup (pv 9) pe_int (fun _ _ => rfl)) pa_nil)))) pa_nil))))))
 (pss_one (ps_ret (pe_fG (ok_law_gate_right T G) (hr.mono (by decide)) gg (pa_cons (pv 11) (pa_cons (pv 6) (pa_cons (pv 10) (pa_cons (pv 9) pa_nil))))))))))))))), ?_⟩
    refine q_asgGR hg (er_tup (Pl := fun vs G => ∃ (pp ab : Addr) (p q x a b : Nat), vs = [.ref pp, .ref ab] ∧ pp ≠ r ∧ G pp = some (.lst (vstr ([p, q, x].map sg))) ∧ G ab = some (.lst (vstr ([a, b].map sg))) ∧ [p, q, x].Nodup ∧ a < b ∧ (∀ c ∈ [p, q, x], c ∈ lets) ∧ ∀ c ∈ [a, b], c ∈ lets) (era_cons (er_letters (many := 3) (fun H2 e2 => ea_cons (ev_var rfl) (ea_cons ev_c ea_nil)) (by omega)) fun y H2 e2 ⟨pp, ps, hy, n1, _, h1, l1, nd1, in1⟩ => era_one (er_cb (rc := rSortedS K) (P := fun v G => ∃ (ab : Addr) (a b : Nat), v = .ref ab ∧ G ab = some (.lst (vstr ([a, b].map sg))) ∧ a < b ∧ ∀ c ∈ [a, b], c ∈ lets) (era_one (Pl := fun vs G => ∃ (z : Addr) (cs : List Nat), vs = [.ref z] ∧ G z = some (.lst (vstr (cs.map sg))) ∧ cs.length = 2 ∧ cs.Nodup ∧ ∀ c ∈ cs, c ∈ lets) (er_letters (many := 2) (fun H3 e3 => ea_cons (ev_var rfl) (ea_cons ev_c ea_nil)) (by omega)) fun v H3 e3 ⟨z, cs, hv, _, _, h2, l2, nd2, in2⟩ => ⟨z, cs, by rw [hv], h2, l2, nd2, in2⟩) fun vs H3 Q' e3 ⟨z, cs, hv, h2, l2, nd2, in2⟩ q' => by
        subst hv
        refine ⟨z, cs.map sg, rfl, sq_of h2, by rw [List.length_map]; omega, fun ys p' pm so hp' => ?_⟩
        obtain ⟨l, pl, rfl⟩ := perm_sg pm
        have up := sorted_lt so (pl.nodup_iff.mpr nd2)
        obtain ⟨a, b, rfl⟩ := len2 (pl.length_eq.trans l2)
        have lt : a < b := by simpa using up
        exact q' _ _ (Xr.of (Ex.new hp') e3.2) ⟨p', a, b, rfl, upd_same, lt, fun c hc => in2 c (pl.mem_iff.mp hc)⟩) fun v H3 e3 ⟨ab, a, b, hv, h3, lt, in3⟩ => by
        obtain ⟨p, q, x, rfl⟩ := len3 l1
        exact ⟨pp, ab, p, q, x, a, b, by rw [hy, hv], n1, e3.get h1 n1, h3, nd1, lt, in1, in3⟩) (fun vs G1 G2 e ⟨pp, ab, p, q, x, a, b, h, h1, h2, h3, h4⟩ => ⟨pp, ab, p, q, x, a, b, h, h1, e _ _ h2, e _ _ h3, h4⟩) fun vs G1 ⟨pp, ab, p, q, x, a, b, h, _⟩ => by rw [h]; simp) fun v H1 x1 ⟨t0, vs, hv, _, _, ht1, pp, ab, p, q, x, a, b, hvs, npp, hpp, hab, nd3, lt, ip, it⟩ => ?_
    subst hv hvs
    have pq : p ≠ q ∧ p ≠ x ∧ q ≠ x := by
      simp at nd3
      exact ⟨nd3.1.1, nd3.1.2, nd3.2⟩
    have ab' : a ≠ b := Nat.ne_of_lt lt
    refine ⟨t0, _, rfl, st_of ht1, rfl, _, _, rfl, _, _, rfl, ⟨ab, _, rfl, sq_of hab, rfl, _, _, rfl, _, _, rfl, rfl, rfl, ?_⟩⟩
    refine q_asgGR x1.2 (er_tup (Pl := fun vs _ => ∃ n size, vs = [nv n, nv size] ∧ 6 ≤ n ∧ n ≤ 8 ∧ 2 ≤ size ∧ size ≤ 4) (era_cons (er_addDraw (c := 6) (m := 3) (fun H2 e2 => ea_cons (ev_var rfl) (ea_cons ev_c ea_nil)) (by omega) (by omega)) fun y H2 e2 ⟨d, hy, hd⟩ => era_one (er_addDraw (c := 2) (m := 3) (fun H3 e3 => ea_cons (ev_var rfl) (ea_cons ev_c ea_nil)) (by omega) (by omega)) fun z H3 e3 ⟨d2, hz, hd2⟩ => ⟨6 + d, 2 + d2, by rw [hy, hz], by omega, by omega, by omega, by omega⟩) (fun vs G1 G2 e h => h) fun vs G1 ⟨n, size, h, _⟩ => by rw [h]; simp) fun v H2 x2 ⟨t1, vs, hv, _, _, ht2, n, size, hvs, n6, n8, s2, s4⟩ => ?_
    subst hv hvs
    refine tg_pair (st_of ht2) ?_
    have hpp2 := x2.get hpp npp
    have key : ∀ {G : Hp} {σ : L2.St} {i : Nat} {c : Nat}, Xr r H2 G → σ[1]? = some (some (.ref pp)) → ([p, q, x] : List Nat)[i]? = some c → Ev (tOp (rIxL K) (tVar 1) (tC (nv i))) σ G (.str (sg c)) := fun {G σ i c} e hσ hc => ev_op (ev_var hσ) ev_c (rv_ixL (sq_of (e.get hpp2 npp)) (atI_nat (by
      simp only [vstr]
      rw [List.getElem?_map, List.getElem?_map, hc]
      rfl)))
    have mok : MOk [a, b] (size + 2) (goF size a) [size] := goF_ok s2 s4 lt (it a (by simp)) (it b (by simp))
    -- the rows
    refine q_asgP (evp_lstA (Pl := fun vs G => ∃ ds : List Addr, vs = ds.map V.ref ∧ RowsA K G ds [rowF p q x a b n 0]) (ea_row (evp_rowW (x := rowF p q x a b n 0) ⟨key (i := 0) (Xr.refl x2.2) rfl rfl, evp_mv ev_c (ev_var rfl), key (i := 1) (Xr.refl x2.2) rfl rfl, evp_mv ev_c (ev_var rfl), key (i := 2) (Xr.refl x2.2) rfl rfl, evp_mv ev_c (ev_var rfl), trivial⟩ (by simp [rowF, pq.1, pq.2.1, pq.2.2]) (by simp [rowF])) ea_rowNil) (fun vs G1 G2 e ⟨ds, h, h2⟩ => ⟨ds, h, h2.mono e⟩) fun vs G1 ⟨ds, h, h2⟩ => by rw [h, List.length_map, h2.1]; simp) fun v H3 e3 ⟨R, vs, hv, hR0, hR1, ds0, hvs, hA0⟩ => ?_
    subst hv hvs
    have nR := x2.2.ne hR0
    have x3 : Xr r H2 H3 := Xr.of e3 x2.2
    let Inv0 : Nat → L2.St → Hp → Prop := fun i σ' G => ∃ (ds : List Addr) (u : Option V), σ' = [some (.ref r), some (.ref pp), some (.str (sg a)), some (.str (sg b)), some (nv n), some (nv size), some (.ref R), u, none, none, none, none] ∧ Ex H2 G ∧ G R = some (.lst (ds.map V.ref)) ∧ RowsA K (del R G) ds ((rowsF p q x a b n).take (i + 1))
    have tk : ∀ i, i + 1 < n → (rowsF p q x a b n).take (i + 1 + 1) = (rowsF p q x a b n).take (i + 1) ++ [rowF p q x a b n (i + 1)] := fun i hi => by
      rw [List.take_succ, rowsF_at hi]
      rfl
    refine q_forR2 (lo := 1) (n := (n : Int)) (ea_cons ev_c (ea_cons (ev_var rfl) ea_nil)) (by omega) Inv0 (fun G e => ⟨ds0, none, rfl, e3.trans e, e _ _ hR1, ?_⟩) (fun i σ' G hi hP => ?_) fun σ' G hP => ?_
    · have e1 : (rowsF p q x a b n).take (0 + 1) = [rowF p q x a b n 0] := by
        rw [List.take_succ, List.take_zero, rowsF_at (by omega)]
        rfl
      rw [e1]
      exact (rowsA_delL hA0 hR1).mono (del_ex e)
    · obtain ⟨ds, u, rfl, eG, hR, hA⟩ := hP
      have hi : i + 1 < n := by omega
      have xG : Xr r H2 G := Xr.of eG x2.2
      have hdl : ds.length = i + 1 := by
        have := hA.1
        rw [List.length_take, rowsF_len] at this
        omega
      have sp : V.int (1 + (i : Int)) = nv (i + 1) := by
        show V.int _ = V.int _
        congr 1
        omega
      rw [sp]
      have ad : ∀ {G' : Hp} {σ : L2.St}, σ[7]? = some (some (nv (i + 1))) → Ev (tOp (rI0 fun i j => .int (i + j)) (tVar 7) (tC (.int 1))) σ G' (nv (i + 1 + 1)) := fun {G' σ} hσ => ev_is (ev_op (ev_var hσ) ev_c rv_I0) (by
        show V.int _ = V.int _
        congr 1)
      refine s_appP hR (ev_var rfl) (evp_if (P := fun v G' => ∃ d, v = .ref d ∧ RowAt K G' d (rowF p q x a b n (i + 1))) (et_test (ev_op (ad rfl) (ev_var rfl) rv_lt)) (fun hb => ?_) fun hb => ?_) (by rw [List.length_map]; omega) fun v G1 e1 ⟨d, hv, hd⟩ => ?_
      · have hlt := of_decide_eq_true hb
        have er : rowF p q x a b n (i + 1) = [(p, i + 1 + 1, some (sg a)), (q, i + 1 + 1, some (sg b))] := by
          unfold rowF
          rw [if_neg (by omega), if_pos (by omega)]
        rw [er]
        exact evp_rowW (x := [(p, i + 1 + 1, some (sg a)), (q, i + 1 + 1, some (sg b))]) ⟨key (i := 0) xG rfl rfl, evp_mv (ad rfl) (ev_var rfl), key (i := 1) xG rfl rfl, evp_mv (ad rfl) (ev_var rfl), trivial⟩ (by simp [pq.1]) (by simp)
      · have hlt := of_decide_eq_false hb
        have er : rowF p q x a b n (i + 1) = [] := by
          unfold rowF
          rw [if_neg (by omega), if_neg (by omega)]
        rw [er]
        exact evp_row0
      · subst hv
        have hR1' := e1 _ _ hR
        refine ⟨ds ++ [d], _, rfl, Ex.mut (eG.trans e1) hR0, by rw [upd_same, List.map_append]; rfl, ?_⟩
        rw [tk i hi, del_upd]
        refine (hA.mono (del_ex e1)).add ?_
        obtain ⟨kvs, k1, k2, k3⟩ := hd
        exact ⟨kvs, fd_delL k1 hR1', k2, fun j e he => let ⟨t, g1, g2⟩ := k3 j e he; ⟨t, g1, sqT_delL g2 hR1'⟩⟩
    · obtain ⟨ds, u, rfl, eG, hR, hA⟩ := hP
      have hA : RowsA K (del R G) ds (rowsF p q x a b n) := by
        have e1 : (rowsF p q x a b n).take (((n : Int) - 1).toNat + 1) = rowsF p q x a b n := List.take_of_length_le (by rw [rowsF_len]; omega)
        rw [e1] at hA
        exact hA
      have xG : Xr r H2 G := Xr.of eG x2.2
      have good := rowsF_good (p := p) (q := q) (x := x) (a := a) (b := b) (n := n) (by omega) n8
      have rd := rowsF_rd (p := p) (q := q) (x := x) (a := a) (b := b) (n := n) (by omega) n8 pq.1 pq.2.1 pq.2.2 ip it
      refine q_asgP (el_lcP (fun i acc G' => ∃ ds : List Addr, acc = ds.map V.ref ∧ ds.length = i ∧ ∀ j < i, ∃ d, ds[j]? = some d ∧ FD G' d (mrow [a, b] (goF size a j))) (iw_range1 (n := size) (ea_cons (ev_var rfl) ea_nil) (by omega)) (fun H5 e5 => ⟨[], rfl, rfl, fun j hj => absurd hj (Nat.not_lt_zero j)⟩) (fun i acc G1 G2 e ⟨ds, h1, h2, h3⟩ => ⟨ds, h1, h2, fun j hj => let ⟨d, k1, k2⟩ := h3 j hj; ⟨d, k1, k2.mono e⟩⟩) (fun i acc G1 hi ⟨ds, h1, h2, _⟩ => by rw [h1, List.length_map]; omega) fun Dl i x' acc Ha Hb hi hD ed hDa hPv y k hk => by
        obtain ⟨ds', h1, h2, h3⟩ := hPv
        obtain ⟨rfl, rfl⟩ := y
        have ga : goF size a i a = size + 1 := goF_a hi rfl
        have gb : goF size a i b = i + 1 := goF_b hi (fun z => ab' z.symm)
        refine hk _ _ true (Ex.refl _) rfl et_yes (fun _ => (evp_fz2 (f := goF size a i) (ev_var rfl) (ev_is (ev_op (ev_var rfl) ev_c rv_I0) (by rw [ga]; rfl)) (ev_var rfl) (ev_is (ev_op (ev_var rfl) ev_c rv_I0) (by rw [gb]; rfl)) ab').imp fun v H6 e6 ⟨d, hv, hd0, hfd⟩ => ⟨ds' ++ [d], by rw [hv, h1, List.map_append]; rfl, by simp [h2], fun j hj => ?_⟩) fun h => by cases h
        have hD6 := e6 _ _ hDa
        by_cases hlt : j < i
        · obtain ⟨d', k1, k2⟩ := h3 j hlt
          exact ⟨d', by rw [List.getElem?_append_left (by omega)]; exact k1, k2.mono (del_ex e6)⟩
        · obtain rfl : j = i := by omega
          exact ⟨d, by rw [← h2]; simp, fd_delL hfd hD6⟩) fun v H5 e5 ⟨Ln, acc, hv, hLn0, hLn1, dl, hacc, hdl, hrow⟩ => ?_
      subst hv
      have x5 : Xr r G H5 := Xr.of e5 xG.2
      have hstr : Ev (tOp (fun x y H Q => ∃ i j, x = .str i ∧ y = .str j ∧ i.length + j.length ≤ sizeLine ∧ Q (.str (i ++ j)) H) (tVar 2) (tVar 3)) [some (.ref r), some (.ref pp), some (.str (sg a)), some (.str (sg b)), some (nv n), some (nv size), some (.ref R), u, some (.ref Ln), none, none, none] H5 (.str (txt [a, b])) := by
        refine ev_op (ev_var rfl) (ev_var rfl) fun H1 e Q q => ⟨sg a, sg b, rfl, rfl, ?_, ?_⟩
        · rw [show (sg a).length = 1 from rfl, show (sg b).length = 1 from rfl, sizeLine_eq]
          omega
        · rw [show sg a ++ sg b = txt [a, b] from rfl]
          exact q H1 (Ex.refl H1)
      have sz1 : ∀ c, goF size a size c = size := fun c => by
        unfold goF
        rw [if_neg (by omega), if_pos rfl]
      have sz2 : ∀ c, goF size a (size + 1) c = size + 1 := fun c => by
        unfold goF
        rw [if_neg (by omega), if_neg (by omega)]
      refine q_asgP (evp_tupA (Pa := fun vs G' => ∃ mp mq, vs = [.str (txt [a, b]), .ref mp, .ref mq] ∧ H5 mp = none ∧ H5 mq = none ∧ McAt K G' mp mq [a, b] (size + 2) (goF size a) [size]) (ea_consP (evp_of hstr) fun y1 H6 e6 h1 => ea_consP (evp_catP (xs := acc) (R := fun ys G' => ∃ d1 d2, ys = [.ref d1, .ref d2] ∧ FD G' d1 (mrow [a, b] (goF size a size)) ∧ FD G' d2 (mrow [a, b] (goF size a (size + 1)))) (e6 _ _ hLn1) (ev_var rfl) ((evp_lstA (Pl := fun vs G' => ∃ d1 d2, vs = [.ref d1, .ref d2] ∧ FD G' d1 (mrow [a, b] (goF size a size)) ∧ FD G' d2 (mrow [a, b] (goF size a (size + 1)))) (ea_consP (evp_fz2 (f := goF size a size) (ev_var rfl) (ev_is (ev_var rfl) (by rw [sz1])) (ev_var rfl) (ev_is (ev_var rfl) (by rw [sz1])) ab') fun z1 H7 e7 ⟨d1, hz1, _, hf1⟩ => ea_one (evp_fz2 (f := goF size a (size + 1)) (ev_var rfl) (ev_is (ev_op (ev_var rfl) ev_c rv_I0) (by rw [sz2]; rfl)) (ev_var rfl) (ev_is (ev_op (ev_var rfl) ev_c rv_I0) (by rw [sz2]; rfl)) ab') fun z2 H8 e8 ⟨d2, hz2, _, hf2⟩ => ⟨d1, d2, by rw [hz1, hz2], hf1.mono e8, hf2⟩) (fun vs G1 G2 e ⟨d1, d2, h, f1, f2⟩ => ⟨d1, d2, h, f1.mono e, f2.mono e⟩) fun vs G1 ⟨d1, d2, h, _⟩ => by rw [h]; simp).imp fun v H9 e9 ⟨q', ys, hv, _, hq, hR'⟩ => ⟨q', ys, hv, hq, hR'⟩) (fun ys G1 G2 e ⟨d1, d2, h, f1, f2⟩ => ⟨d1, d2, h, f1.mono e, f2.mono e⟩) fun ys G1 ⟨d1, d2, h, _⟩ => by rw [h, hacc, List.length_map, hdl]; simp; omega) fun y2 H7 e7 ⟨mp, ys, h2, hmp0, hmp1, d1, d2, hys, hf1, hf2⟩ => ea_one (evp_L (xs := [nv size]) (el_lst (ea_cons (ev_var rfl) ea_nil) (by simp))) fun y3 H8 e8 ⟨mq, h3, hmq0, hmq1⟩ => ⟨mp, mq, by rw [h1, h2, h3], fresh_back e6 hmp0, fresh_back (e6.trans e7) hmq0, dl ++ [d1, d2], sq_of (by rw [e8 _ _ hmp1, hacc, hys, List.map_append]; rfl), ⟨by simp [hdl], fun i hi => ?_⟩, sq_of hmq1⟩) (fun vs G1 G2 e ⟨mp, mq, h, h1, h2, h3⟩ => ⟨mp, mq, h, h1, h2, h3.mono e⟩) fun vs G1 ⟨mp, mq, h, _⟩ => by rw [h]; simp) fun v H6 e6 ⟨mt, vs, hv, _, hmt, mp, mq, hvs, hmp0, hmq0, hM⟩ => ?_
      · by_cases h0 : i < size
        · obtain ⟨d, k1, k2⟩ := hrow i h0
          exact ⟨d, by rw [List.getElem?_append_left (by omega)]; exact k1, k2.mono (del_le.trans ((e6.trans e7).trans e8))⟩
        · have : i = size ∨ i = size + 1 := by omega
          rcases this with rfl | rfl
          · exact ⟨d1, by rw [← hdl]; simp, hf1.mono e8⟩
          · exact ⟨d2, by rw [← hdl, List.getElem?_append_right (by omega)]; simp, hf2.mono e8⟩
      subst hv hvs
      have x56 : Xr r G H6 := x5.trans (Xr.of e6 x5.2)
      have nmp := x5.2.ne hmp0
      have nmq := x5.2.ne hmq0
      refine q_asgR x56.2 (er_pick2 (n := n) (fun H7 e7 => ivt_range2 (ea_cons ev_c (ea_cons (ev_var rfl) ea_nil)) (by omega) (by omega)) (by omega) (fun _ => rfl) (fun i H7 e7 => etr_draw (rr := fun i j => .bl (decide (j < i))) (c := 0) (m := 5) (fun i j => ⟨_, rfl⟩) (fun H8 e8 => ea_cons (ev_var rfl) (ea_cons ev_c ea_nil)) (by omega) (by omega)) fun _ => rfl) fun v H7 x7 ⟨af, xs, hv, haf0, naf, haf, xnd, xlt⟩ => ?_
      subst hv
      obtain ⟨i6, j6, hr6, _⟩ := x56.2
      obtain ⟨hmt', hM'⟩ := MchAt.delL (st_of hmt) hM hr6 nmp nmq
      have hmt7 : SqT K H7 mt [.str (txt [a, b]), .ref mp, .ref mq] := ex_t x7.1 hmt'
      have hM7 := hM'.mono x7.1
      have xG7 : Xr r G H7 := x56.trans x7
      have hRows : RowsL K H7 R (rowsF p q x a b n) := by
        obtain ⟨i2, j2, hr2, _⟩ := xG.2
        have hA2 : RowsA K (del R (del r G)) ds (rowsF p q x a b n) := by
          rw [del_comm]
          exact rowsA_delL hA (by rw [del_ne nR.symm]; exact hr2)
        exact ⟨ds, sq_of (xG7.get hR nR), (hA2.mono del_le).mono xG7.1⟩
      refine q_asgP (evp_Door3 (mg := mg) (n := n) (bs := xs) (s := 0) (p := af) (PL := fun a' L G' => (∃ rows', PermR (rowsF p q x a b n) rows' ∧ ReaderAt K mg G' a' rows') ∧ ∃ m dl ml, LangAt K mg G' L [a, b] m dl ml ∧ Least [a, b] (size + 2) (goF size a) [size] m dl ml) (ea_consP (evp_Reader1 (mg := mg) hTt (ea_cons (ev_var rfl) ea_nil) hRows rd) fun y1 H8 e8 ⟨a', rows', h1, hperm, hRd⟩ => ea_consP (evp_of ev_c) fun y2 H9 e9 h2 => ea_consP (evp_of (ev_var rfl)) fun y3 H10 e10 h3 => ea_one (evp_Language (mg := mg) (ea_cons (ev_op (ev_var rfl) ev_c (rv_ixT (i := 0) (ex_t ((e8.trans e9).trans e10) hmt7) rfl)) (ea_cons (ev_op (ev_var rfl) ev_c (rv_ixT (i := 1) (ex_t ((e8.trans e9).trans e10) hmt7) rfl)) (ea_cons (ev_op (ev_var rfl) ev_c (rv_ixT (i := 2) (ex_t ((e8.trans e9).trans e10) hmt7) rfl)) ea_nil))) (hM7.mono ((e8.trans e9).trans e10)) mok) fun y4 H11 e11 ⟨L, m, dl, ml, h4, hl, hL⟩ => ⟨a', L, by rw [h1, h2, h3, h4]; rfl, ⟨rows', hperm, hRd.mono ((e9.trans e10).trans e11)⟩, m, dl, ml, hL, hl⟩) (fun a' L G' ⟨⟨rows', hp, hRd⟩, _⟩ => ⟨rows', hRd, by rw [hp.1, rowsF_len]⟩) (by omega) (by omega) (sq_of haf) xnd xlt fun a' L G1 G2 e ⟨⟨rows', hp, hRd⟩, m, dl, ml, hL, hl⟩ => ⟨⟨rows', hp, hRd.mono e⟩, m, dl, ml, hL.mono e, hl⟩) fun v H8 e8 ⟨d, a', L, hv, ⟨⟨rows', hperm, hRd⟩, m, dl', ml, hL, hle⟩, hD⟩ => ?_
      subst hv
      have xall : Xr r H H8 := (x1.trans (x2.trans (xG.trans (xG7.trans (Xr.of e8 xG7.2)))))
      refine s_retC (ea_cons (ev_var rfl) (ea_cons (ev_var rfl) (ea_cons (ev_var rfl) (ea_cons (ev_var rfl) ea_nil)))) fun H9 e9 => ⟨d, R, af, mt, rfl, ⟨rowsF p q x a b n, rows', 0, xs, [a, b], m, dl', ml, size + 2, goF size a, [size], longU (goes (rowsF p q x a b n)) n size b, ⟨⟨a', L, hD.mono e9, hRd.mono e9, hL.mono e9⟩, hperm.good good, by rw [hperm.1, rowsF_len]; exact n8, by rw [hperm.1, rowsF_len]; omega, hle.lg mok⟩, hRows.mono (e8.trans e9), good, hperm.goes, hperm.1, sq_of (e9 _ _ (e8 _ _ haf)), ⟨mp, mq, ex_t (e8.trans e9) hmt7, hM7.mono (e8.trans e9)⟩, mok, hle.same, longU_len s4 n8, ?_⟩, fun H10 e10 => fin H10 (xall.trans (Xr.of (e9.trans e10) xall.2))⟩
      rw [rowsF_len]
      exact val_longU (by omega) s2 mok
end
end K33
/-! text Ef -/
set_option Elab.async false
set_option linter.all false
set_option maxRecDepth 100000
set_option maxHeartbeats 4000000
namespace K33
open PySem PySem.Spec PyProof.Rows L2 Evl K33G
section
variable {P : Program} {w : World} {K : PySem.W.Frag} {mg : Str → Option Value} {base : Heap} {r : Addr} {σ : L2.St} {H : Hp} {te : TE} {t u : TT} {tr : TA}
theorem et_BR (h : EvR r te σ H fun v _ => v = .bl true) : EtR r (tB te) σ H fun b _ => b = true := fun H1 e Q q => h H1 e _ fun v H2 e2 hv => ⟨true, hv, q true H2 e2 rfl⟩
theorem etr_notT (h : EtR r t σ H fun b _ => b = true) : EtR r (tNot t) σ H fun b _ => b = false := fun H1 e Q q => h H1 e _ fun b H2 e2 hb => q (!b) H2 e2 (by rw [hb]; rfl)
theorem etr_orF (h1 : EtR r t σ H fun b _ => b = false) (h2 : ∀ H1, Xr r H H1 → EtR r u σ H1 fun b _ => b = false) : EtR r (tOr t u) σ H fun b _ => b = false := fun H1 e Q q => h1 H1 e _ fun b H2 e2 hb => by
  subst hb
  refine iteF ?_
  exact h2 H2 (e.trans e2) H2 (Xr.refl e2.2) Q fun b H3 e3 hb => q b H3 (e2.trans e3) hb
theorem er_right {ta : TE} (ha : ∀ H1, Xr r H H1 → Ev ta σ H1 (.ref r)) : EvR r (tCall spRight [] E0 (tCons ta tNil)) σ H fun v _ => v = .bl true :=
  er_call (era_v fun H1 e => ea_cons (ha H1 e) ea_nil) fun vs H1 e hv Q E q => by
    subst hv
    exact ⟨r, rfl, e.2, fun H2 e2 => q _ H2 e2 rfl⟩
def spLaw (K : PySem.W.Frag) : Sp := fun vs H Q _ => ∃ (a : Addr) (ns : List Int), vs = [.ref a] ∧ SqL K H a (ns.map V.int) ∧ ns.length ≤ 63 ∧ ∀ H', Q (.bl true) H'
abbrev N_law : List Str := ["_law_script", "_law_k", "_law_rng_here"]
theorem sc_law : FnScope N_law ["_law_script"] (defScope (top 80)) := ⟨rfl, rfl, rfl, by decide +kernel, rfl, by decide +kernel, by decide +kernel⟩
theorem fn_law (T : Txt K mg) (G : TxtG K mg) {f : Addr} {fd : FuncData} (F : FunD K "law" "law" (defArgs (top 80)) (defBody (top 80)) (defScope (top 80)) [] [] f fd) : FnG P w K mg base 11 f fd ["_law_script"] (spLaw K) := by
  refine fnG_of F sc_law (fun vs H Q E h => ?_) (fun cdv A outer s0 H vs Q E hr gg h => ?_)
  · obtain ⟨_, _, rfl, _⟩ := h
    rfl
  · obtain ⟨a, ns, rfl, hS, hz, fin⟩ := h
    refine ⟨_, PSs.nox (pss_cons (ps_for PassesOwn.never rfl (pi_range1 rfl T.range (pa_cons (pe_callB (call_max2 rfl) (by rfl) T.max (by decide +kernel) (pa_cons pe_int (pa_cons (pe_callB (call_min2 rfl) (by rfl) T.min (by decide +kernel) (pa_cons (pe_callB call_len (by rfl) T.len (by decide +kernel) (pa_cons (pv 0) pa_nil)) (pa_cons pe_int pa_nil))) pa_nil))) pa_nil)) (pg_name (i := 1) sc_law.nd rfl (Or.inl rfl))
 (pss_cons (ps_set (i := 2) sc_law.nd rfl (Or.inl rfl) (pe_f (ok_law_rng T) (hr.mono (by decide)) (pa_cons (pv 0) (pa_cons (pv 1) pa_nil))))
 (pss_one (ps_if (PW.pt (pw_or (pt_not (pt_val (pe_fG (ok_law_right T G) (hr.mono (by decide)) gg (pa_cons (pv 2) pa_nil)))) (pw_or1 (pt_not (pt_val (pe_fG (ok_law_long_right T G) (hr.mono (by decide)) gg (pa_cons (pv 2) pa_nil)))))))
 (pss_one (ps_ret pe_bl))
 pss_nil))))
 (pss_one (ps_ret pe_bl))), ?_⟩
    let mi : Int := if (4 : Int) < (ns.length : Int) then 4 else ns.length
    let N : Int := if mi > 1 then mi else 1
    have m4 : mi ≤ 4 := by
      show (if (4 : Int) < (ns.length : Int) then (4 : Int) else ns.length) ≤ 4
      split <;> omega
    have hN : 0 ≤ N ∧ N ≤ 4 := by
      show 0 ≤ (if mi > 1 then mi else 1) ∧ (if mi > 1 then mi else 1) ≤ 4
      split <;> omega
    refine q_forR1 (n := N) (ea_cons (ev_max ev_c (ev_min (ev_lenV (n := ns.length) (ev_var rfl) fun H2 e2 => .inl ⟨_, ex_l e2 hS, by simp⟩) ev_c)) ea_nil) (by omega) (fun i σ' H' => ∃ u v : Option V, σ' = [some (.ref a), u, v] ∧ Ex H H') (fun H1 e1 => ⟨none, none, rfl, e1⟩) (fun i σ' H1 hi hP => ?_) fun σ' H1 hP => ?_
    · obtain ⟨u, v, rfl, e1⟩ := hP
      have i3 : i ≤ 3 := by omega
      refine q_asgP (P := fun v H' => ∃ r, v = .ref r ∧ H1 r = none ∧ Rg r H') (evp_call (ea_of (ea_cons (ev_var rfl) (ea_cons (ev_var rfl) ea_nil))) fun vs H2 e2 hv => ?_) fun v H2 e2 ⟨r, hv, hr0, hg⟩ => ?_
      · subst hv
        exact fun H3 e3 Q' q' E => ⟨a, i, ns, rfl, ex_l (e1.trans (e2.trans e3)) hS, i3, by omega, fun r H4 e4 hr hg => q' _ H4 e4 ⟨r, rfl, fresh_back (e2.trans e3) hr, hg⟩⟩
      · subst hv
        have hnext : ∀ {H3 : Hp}, Xr r H2 H3 → Ex H H3 := fun {H3} x => (ex_del (e1.trans e2) (fresh_back e1 hr0)).trans x.1
        refine s_whenR hg (etr_orF (etr_notT (et_BR (er_right fun H3 e3 => ev_var rfl))) fun H3 e3 => etr_notT (et_BR (er_right fun H4 e4 => ev_var rfl))) (fun H3 x3 hb => by cases hb) fun H3 x3 _ => ⟨_, _, rfl, hnext x3⟩
    · obtain ⟨u, v, rfl, e1⟩ := hP
      exact s_ret (v := .bl true) ev_c fun H2 e2 => fin H2
end
end K33
/-! text Hd -/
set_option Elab.async false
set_option linter.all false
set_option maxRecDepth 100000
set_option maxHeartbeats 4000000
/-! the law's end, for a promise that holds where no repr is under way -/
namespace K33
open PySem PySem.Spec PyProof.Rows L2 Evl K33G
section
variable {P : Program} {w : World} {K : PySem.W.Frag} {mg mb : Str → Option Value} {k : Nat} {fa a : Addr} {fd : FuncData} {x : Str} {sp : Sp} {s₁ : Shared} {us : List Value} {ns : List Int}
/-- from a heap in which the script alone may be tracked -/
theorem run_tracked (KX : K.In s₁.heap) (hns : s₁.heap.Ns mainGlobals mg) (hbl : s₁.heap.Ns builtinsNs mb) (hbb : ∀ y : Str, y ≠ "__name__" → mb y = bootBuiltins y) (hlim : s₁.heap.NoLimit) (hgen : s₁.gens = #[]) (hscr : s₁.heap.get? a = some { cls := .type "list", data := .seq us.toArray })
    (hr : Room k callerA) (F : ∀ bs : Heap, K.In bs → bs.Ns mainGlobals mg → FnG P w K mg bs k fa fd [x] sp) (bind : ∀ (s : Shared) (u : Value), BindsTo s fd ⟨[u], []⟩ [(x, u)]) (T : Hp) (only : Only T) (hsp : sp [.ref a] T (fun v _ => v = .bl true) fun _ _ _ => False) (hok : HOk P w T s₁.heap) (one : ∀ b, T b ≠ none → b = a) (free : T a ≠ none → K.lookup a = none) :
    codeAny (model P w) callerA (.call (.ref fa) ⟨[.ref a], []⟩) (fun res s' => res = .ok (.ret (.bool true)) ∧ OldK s₁.heap s'.heap ∧ s'.os = s₁.os ∧ AllBare s'.gens) s₁ := by
  have some_a : ∀ {b : Addr} {u : HO}, T b = some u → b = a := fun {b u} h => one b (by rw [h]; exact Option.some_ne_none u)
  have keepB : ∀ {b : Addr} {ob : Obj}, s₁.heap.get? b = some ob → T b = none → (hidT s₁.heap T).get? b = some ob := fun h1 h2 => hidT_get h1 h2
  have dictN : ∀ {b : Addr} {ob : Obj} {es : Array DictEntry} {ep : Nat}, s₁.heap.get? b = some ob → ob.data = .dict es ep → T b = none := fun {b ob es ep} h1 h2 => by
    cases hT : T b with
    | none => rfl
    | some u =>
      obtain rfl := some_a hT
      rw [hscr] at h1
      cases h1
      cases h2
  have nsT : ∀ {b : Addr} {m : Str → Option Value}, s₁.heap.Ns b m → (hidT s₁.heap T).Ns b m := fun {b m} ⟨ob, es, ep, h1, h2, h3⟩ => ⟨ob, es, ep, keepB h1 (dictN h1 h2), h2, h3⟩
  have inT : K.In (hidT s₁.heap T) := fun b ob h1 => keepB (KX b ob h1) (by
    cases hT : T b with
    | none => rfl
    | some u =>
      obtain rfl := some_a hT
      rw [free (by rw [hT]; exact Option.some_ne_none u)] at h1
      cases h1)
  obtain ⟨mc, l1, l2⟩ := hlim
  have modT : Mod K mg (hidT s₁.heap T) := ⟨inT, nsT hns, ⟨mb, nsT hbl, hbb⟩, ⟨mc, nsT l1, l2⟩⟩
  have env : Env0 P w K mg (hidT s₁.heap T) callerA [] s₁ T := ⟨rfl, modT, fun b ob h1 => of_hidT h1, (by rw [hidT_size]; exact Nat.le_refl _), trivial, (fun b hb => by cases hb), hok, .of_eq hgen⟩
  refine codeAny_mono ((F _ inT (nsT hns)).go callerA [] s₁ T ⟨[.ref a], []⟩ [.ref a] [.ref a] _ _ hr rfl env (bind s₁ (.ref a)) (.cons rfl .nil) hsp) fun res s' hres => ?_
  cases res with
  | error e => exact hres.elim
  | ok fl =>
    cases fl with
    | ret u =>
      obtain ⟨v, T', h1, h2, h3, h4, h5, h6⟩ := hres
      have h6 : v = .bl true := h6
      subst h6
      obtain rfl : u = Value.bool true := h5
      refine ⟨rfl, OldK.of_keep fun b ob hb => ?_, h1, h2⟩
      cases hT : T b with
      | none => exact h3.keep b ob hb hT (fun z => by cases z) (by simp)
      | some u =>
        rcases only b with z | ⟨ob2, xs, z⟩
        · rw [hT] at z
          cases z
        · obtain ⟨g1, _⟩ := hok b _ z
          obtain ⟨g2, _⟩ := h4 b _ (h3.frzs b ob2 _ z)
          rw [hb] at g1
          cases g1
          exact g2
    | _ => exact hres.elim
theorem law_runG (KX : K.In s₁.heap) (hns : s₁.heap.Ns mainGlobals mg) (hbl : s₁.heap.Ns builtinsNs mb) (hbb : ∀ y : Str, y ≠ "__name__" → mb y = bootBuiltins y) (hlim : s₁.heap.NoLimit) (hgen : s₁.gens = #[]) (hscr : s₁.heap.get? a = some { cls := .type "list", data := .seq us.toArray })
    (hi : IntsAre us ns) (hl : ns.length ≤ sizeLine) (hr : Room k callerA) (F : ∀ bs : Heap, K.In bs → bs.Ns mainGlobals mg → FnG P w K mg bs k fa fd [x] sp) (bind : ∀ (s : Shared) (u : Value), BindsTo s fd ⟨[u], []⟩ [(x, u)]) (hsp : ∀ T : Hp, Only T → SqL K T a (ns.map V.int) → sp [.ref a] T (fun v _ => v = .bl true) fun _ _ _ => False) :
    codeAny (model P w) callerA (.call (.ref fa) ⟨[.ref a], []⟩) (fun res s' => res = .ok (.ret (.bool true)) ∧ OldK s₁.heap s'.heap ∧ s'.os = s₁.os ∧ AllBare s'.gens) s₁ := by
  have vals : Vals (ns.map V.int) us := vals_ints hi
  have ulen := hi.length
  cases hk : K.lookup a with
  | none =>
    let T : Hp := fun b => if b = a then some (.frz { cls := .type "list", data := .seq us.toArray } (.lst (ns.map V.int))) else none
    have Ta : T a = some (.frz { cls := .type "list", data := .seq us.toArray } (.lst (ns.map V.int))) := if_pos rfl
    have Tn : ∀ {b : Addr}, b ≠ a → T b = none := fun h => if_neg h
    have only : Only T := fun b => by
      by_cases hb : b = a
      · exact .inr ⟨_, _, hb ▸ Ta⟩
      · exact .inl (Tn hb)
    refine run_tracked KX hns hbl hbb hlim hgen hscr hr F bind T only (hsp T only (.inl (.inr ⟨_, Ta⟩))) (fun b u hb => ?_) (fun b hb => Decidable.byContradiction fun h => hb (Tn h)) fun _ => hk
    by_cases h : b = a
    · subst h
      rw [Ta] at hb
      cases hb
      exact ⟨hscr, by rw [List.length_map]; exact hl, us, _, vals, hscr⟩
    · rw [Tn h] at hb
      cases hb
  | some ob =>
    have hob := KX a ob hk
    rw [hscr] at hob
    cases hob
    have only : Only fun _ => none := fun _ => .inl rfl
    exact run_tracked KX hns hbl hbb hlim hgen hscr hr F bind (fun _ => none) only (hsp _ only (.inr ⟨_, us.toArray, _, hk, rfl, rfl, rfl, by rw [List.size_toArray, ulen]; exact hl, by simpa using vals⟩)) (fun b u hb => by cases hb) (fun b hb => absurd rfl hb) fun hb => absurd rfl hb
end
theorem walk_ofG {l : PySem.W.OpenLaw} {n k : Nat} {q : Program} {loose : List Str} {XP : (Str → Option Value) → Heap → Prop} {YP : World → Heap → Prop} {d : DefRec} {x : Str} (hn : l.most = some n) (hn2 : n ≤ sizeLine) (hdf : d.params.defaults = []) (hr : Room k callerA)
    (F : ∀ (w : World) (mg : Str → Option Value) (fa : Addr) (h : Heap), YP w h → h.Ns mainGlobals mg → mg d.name = some (.ref fa) → ∃ (K : PySem.W.Frag) (fd : FuncData) (sp : Sp), K.In h ∧ (∀ (s : Shared) (u : Value), BindsTo s fd ⟨[u], []⟩ [(x, u)]) ∧
      (∀ (T : Hp) (a : Addr) (ns : List Int), ns.length ≤ n → Only T → SqL K T a (ns.map V.int) → sp [.ref a] T (fun v _ => v = .bl true) fun _ _ _ => False) ∧ ∀ bs : Heap, K.In bs → bs.Ns mainGlobals mg → FnG l.prog w K mg bs k fa fd [x] sp) :
    PySem.W.WalkO q loose XP YP l.row.toRowW d [] (fun f vs => PySem.call f vs) := by
  refine Att.attach_call hn hdf fun w s₀ s₁ mg mb fa o pm cd doc a us ns G Y ho hd hcd hmg hobj hints hlen hgen => ?_
  obtain ⟨K, fd, sp, KX, bind, hsp, hF⟩ := F w mg fa _ Y G.T.g hmg
  exact law_runG KX G.T.g G.T.b G.T.builtins G.T.nolimit hgen hobj hints (Nat.le_trans hlen hn2) hr hF bind fun T only hS => hsp T a ns hlen only hS
end K33
/-! text Hf -/
set_option Elab.async false
set_option linter.all false
set_option maxRecDepth 100000
set_option maxHeartbeats 0
/-! the head: every def's object behind the top, by a Hook of this law's own (getters too) -/
namespace K33H
open PySem PySem.Spec PyProof.Rows L2 K33
/-! ### what is looked at -/
/-- the objects that an object leads to, as far as the law asks -/
def nextOf (o : Obj) : List Addr := match o.data with
  | .dict es _ => es.toList.flatMap fun e => He.refV e.val
  | .func fd => He.refV fd.code ++ (He.refV fd.defaults ++ He.refV fd.kwdefaults)
  | .cls cd => [cd.ns]
  | .seq its _ => its.toList.flatMap He.refV
  | .fields vs => (match o.cls with
    | .type c => (match decide (c = "property") with
      | true => vs.toList.flatMap He.refV
      | false => [])
    | _ => [])
  | _ => []
def rings (g : Addr → Option Obj) : Nat → List Addr → List Addr
  | 0, l => l
  | n + 1, l => l ++ rings g n (l.flatMap fun a => match g a with
    | some o => nextOf o
    | none => [])
def seenAt (g : Addr → Option Obj) : PySem.W.Frag := He.frG g (rings g 5 [mainGlobals, cStatics])
/-- a def: where it stands, its datum -/
structure Wh where
  at_ : PySem.W.Frag → Addr
  d : He.DefD
def fnAt (K : PySem.W.Frag) (a : Addr) : He.FnW := match K.lookup a with
  | some u => (match u.data with
    | .func fd => some (fd.name, fd.qualname, fd.params, fd.body, fd.scope, fd.globals, fd.closure, fd.builtins)
    | _ => none)
  | none => none
def Wh.good (K : PySem.W.Frag) (y : Wh) : Bool := PySem.W.keepIn K (.ref (y.at_ K)) && (match K.lookup (y.at_ K) with
  | some u => (match u.data with
    | .func fd => PySem.W.codeIn K fd.code y.d.qual && (He.dflB K fd.defaults (y.d.dvs K) && He.kwdB K fd.kwdefaults (y.d.kws K))
    | _ => false)
  | none => false)
theorem Wh.fun_ {K : PySem.W.Frag} {y : Wh} (e : fnAt K (y.at_ K) = y.d.val) (c : y.good K = true) : ∃ fd, FunD K y.d.name y.d.qual y.d.params y.d.body y.d.scope (y.d.dvs K) (y.d.kws K) (y.at_ K) fd := by
  obtain ⟨at_, name, qual, params, body, scope, dfl, kwd⟩ := y
  obtain ⟨kp, c2⟩ := He.ba c
  simp only [fnAt, He.DefD.val] at e kp c2
  cases q : K.lookup (at_ K) with
  | none =>
    rw [q] at c2
    cases c2
  | some u =>
    rw [q] at c2 e
    obtain ⟨oc, od, dt, sl⟩ := u
    cases dt with
    | func fd =>
      obtain ⟨n1, n2, n3, n4, n5, n6, n7, dV, kV, n10, n11, n12, n13, n14, n15⟩ := fd
      simp only [Option.some.injEq, Prod.mk.injEq] at e
      obtain ⟨rfl, rfl, rfl, rfl, rfl, rfl, rfl, rfl⟩ := e
      obtain ⟨k1, k2⟩ := He.ba c2
      obtain ⟨k3, k4⟩ := He.ba k2
      exact ⟨_, ⟨oc, od, dV, kV, n10, n11, n12, n13, n14, sl, rfl, q, k1, He.dflB_ok k3, He.kwdB_ok k4⟩, kp⟩
    | _ => cases c2
/-! ### this law's defs -/
def defs0 : List (Str × Nat) := [("is_word", 15), ("is_sign", 16), ("is_mark", 17), ("is_name", 18), ("is_below", 19), ("are_different", 20), ("is_move", 21), ("is_state_dict", 22), ("told_in", 23), ("signs_in", 24), ("reader_problem", 25), ("require_state", 27), ("require_states", 28), ("require_word", 29), ("silent_of", 31), ("step_of", 32), ("last_of", 33), ("meets", 34), ("is_writable", 36), ("are_signs", 41)]
def defs1 : List (Str × Nat) := [("is_number_below", 42), ("is_state_row", 43), ("are_states", 44), ("check_machine", 45), ("reached", 46), ("refined", 47), ("least_kinds", 48), ("least_machine", 49), ("live_states", 50), ("lacking", 56), ("find_unwritable", 57), ("is_wide", 58), ("_law_rng", 60), ("_law_draw", 61), ("_law_choice", 62), ("_law_letters", 63), ("_law_marks", 64), ("_law_any_format", 65), ("_law_family", 66), ("_law_bent", 67)]
def defs2 : List (Str × Nat) := [("_law_format", 68), ("_law_silent", 69), ("_law_step", 70), ("_law_class", 71), ("_law_belongs", 72), ("_law_live", 73), ("_law_texts", 74), ("_law_lacking", 75), ("_law_less", 76), ("_law_gate_right", 77), ("_law_right", 78), ("_law_long_right", 79), ("met", 55), ("law", 80)]
def defsM : List (Str × Nat) := defs0 ++ defs1 ++ defs2
def whM (q : Str × Nat) : Wh := ⟨fun K => He.ga K q.1, ⟨(q.1, none), q.1, q.1, defArgs (top q.2), defBody (top q.2), defScope (top q.2), [], []⟩⟩
def whC (C m q : Str) (i j : Nat) : Wh := ⟨fun K => He.ma K (He.ga K C) m, ⟨(C, some m), m, q, defArgs (inClass (top i) j), defBody (inClass (top i) j), defScope (inClass (top i) j), [], []⟩⟩
/-- a property's record, its getter -/
def prR (K : PySem.W.Frag) (C m : Str) : Addr := He.ma K (He.ga K C) m
def prG (C m : Str) (K : PySem.W.Frag) : Addr := match PySem.W.recIn K (prR K C m) "property" with
  | some (.ref g :: _) => g
  | _ => 0
def whP (C m q : Str) (i j : Nat) : Wh := ⟨prG C m, ⟨(C, some m), m, q, defArgs (inClass (top i) j), defBody (inClass (top i) j), defScope (inClass (top i) j), [], []⟩⟩
def whRI : Wh := ⟨fun K => He.ma K (He.ga K "Reader") "__init__", ⟨("Reader", some "__init__"), "__init__", "Reader.__init__", defArgs (inClass (top 26) 1), defBody (inClass (top 26) 1), defScope (inClass (top 26) 1), [.adr (He.dflAt ("Reader", some "__init__") 0)], [("start", .int 0)]⟩⟩
def whsC : List Wh := [whRI, whC "Reader" "__contains__" "Reader.__contains__" 26 11, whC "Reader" "__len__" "Reader.__len__" 26 10, whC "Door" "__init__" "Door.__init__" 35 0, whP "Door" "state" "Door.state" 35 2, whC "Language" "__init__" "Language.__init__" 52 1, whP "Language" "signs" "Language.signs" 52 4]
def whs : List Wh := defsM.map whM ++ whsC
def facs : List He.Fa := [.int "LONGEST_NAME" 8, .int "MOST_PAGE_SIGNS" 6, .int "MOST_TEXT_SIGNS" 4, .int "MOST_MARKS" 6, .int "MOST_SIGNS" 4, .int "MOST_GIVEN_STATES" 40, .int "MOST_STATES" 6, .str "LETTERS" "abcdefghijklmnopqrstuvwxyz", .free "isinstance", .free "all", .free "any", .free "len", .free "str", .free "int", .free "bool", .free "list", .free "tuple", .free "dict", .free "set", .free "sorted", .free "range", .free "enumerate", .free "repr", .free "max", .free "min", .free "abs", .free "divmod"]
def facsC : List He.Fa := [.glo "Reader", .cls "Reader", .noat "Reader" "rows", .noat "Reader" "end_list", .noat "Reader" "own_start", .mkr "Reader", .glo "Door", .cls "Door", .noat "Door" "own_reader", .noat "Door" "own_state", .noat "Door" "own_behind", .noat "Door" "own_language", .mkr "Door", .glo "Language", .cls "Language", .noat "Language" "own_signs", .noat "Language" "goals", .noat "Language" "member_list", .noat "Language" "live_list", .mkr "Language", .meth "Reader" "__contains__", .meth "Reader" "__len__"]
def propB (K : PySem.W.Frag) (C m : Str) : Bool := He.eqO (PySem.W.findIn K (.ref (He.ga K C)) m) (some (some (.ref (prR K C m)))) && (He.eqO (PySem.W.specialIn K (.ref (prR K C m)) "__get__") (some (some (.builtin "property.__get__"))) && (decide (PySem.W.takesIn K (.ref (prR K C m)) = some true) && (match PySem.W.recIn K (prR K C m) "property" with
  | some (.ref _ :: _) => true
  | _ => false)))
theorem propB_ok {K : PySem.W.Frag} {C m : Str} (h : propB K C m = true) : PropOf K (He.ga K C) m (prR K C m) (prG C m K) := by
  obtain ⟨h1, h2⟩ := He.ba h
  obtain ⟨h3, h4⟩ := He.ba h2
  obtain ⟨h5, h6⟩ := He.ba h4
  refine ⟨He.eqO_ok h1, He.eqO_ok h3, of_decide_eq_true h5, ?_⟩
  unfold prG
  split at h6
  · next g r e => exact ⟨r, by rw [e]⟩
  · cases h6
/-- the class reads its own names plainly; its constant is the number -/
def maxB (K : PySem.W.Frag) (C m : Str) (i : Int) : Bool := PySem.W.readsIn K (He.ga K C) (.type "type") && (He.eqO (PySem.W.specialIn K (.ref (He.ga K C)) "__getattribute__") (some (some (.builtin "type.__getattribute__"))) && (match PySem.W.findCls K (.ref (He.ga K C)) (.type "type") m with
  | some (.val u) => He.relB (.int i) u
  | _ => false))
theorem maxB_ok {K : PySem.W.Frag} {C m : Str} {i : Int} (h : maxB K C m i = true) : ∃ mc u, ClX.CRead K (He.ga K C) mc ∧ ClX.CVal K (He.ga K C) mc m (.int i) u := by
  obtain ⟨h1, h2⟩ := He.ba h
  obtain ⟨h3, h4⟩ := He.ba h2
  split at h4
  · next u e => exact ⟨_, u, ⟨h1, He.eqO_ok h3⟩, ⟨e, He.relB_ok h4⟩⟩
  · cases h4
/-- an empty tuple -/
def nilB (K : PySem.W.Frag) (a : Addr) : Bool := match K.lookup a with
  | some u => (match u.cls, u.data with
    | .type c, .seq its _ => decide (c = "tuple") && its.isEmpty
    | _, _ => false)
  | none => false
theorem nilB_ok {K : PySem.W.Frag} {a : Addr} (h : nilB K a = true) (H : Hp) : SqT K H a [] := by
  unfold nilB at h
  cases q : K.lookup a with
  | none =>
    rw [q] at h
    cases h
  | some u =>
    obtain ⟨oc, od, dt, sl⟩ := u
    rw [q] at h
    simp only at h
    split at h
    · next _ _ c its n =>
      obtain ⟨h1, h2⟩ := He.ba h
      have e3 : its = #[] := Array.isEmpty_iff.mp h2
      subst e3
      exact .inr ⟨_, #[], n, q, congrArg Value.type (of_decide_eq_true h1), rfl, Nat.zero_le _, .nil⟩
    · cases h
def moreB (K : PySem.W.Frag) : Bool := maxB K "Reader" "MAX_STATES" 12 && (nilB K (He.dflAt ("Reader", some "__init__") 0 K) && (propB K "Door" "state" && propB K "Language" "signs"))
/-! ### the Hook -/
abbrev Look : Type := Bool × List He.FnW
def globB (K : PySem.W.Frag) : Bool := defsM.all fun q => (He.Fa.glo q.1).ok K
def look (K : PySem.W.Frag) : Look := (((facs.all fun f => f.ok K) && ((facsC.all fun f => f.ok K) && (globB K && moreB K))) && whs.all fun y => y.good K, whs.map fun y => fnAt K (y.at_ K))
def want : Look := (true, whs.map fun y => y.d.val)
abbrev Says (K : PySem.W.Frag) : Prop := look K = want
def hk : PySem.W.Hook where
  α := Look
  obs := fun s => look (seenAt s.heap.get?)
  val := fun _ => want
  says := fun _ h => ∃ K : PySem.W.Frag, K.In h ∧ Says K
  of := fun _ _ e => ⟨_, He.frG_in, e⟩
  keeps := fun _ _ _ ⟨K, hK, c⟩ k => ⟨K, PySem.W.Frag.In.keeps hK k, c⟩
def ob (s : PySem.W.SharedT) : Look := look (seenAt (HandSHeadRun.getT s))
theorem ob_eq (s : PySem.W.SharedT) : ob s = hk.obs s.abs := by
  have e : HandSHeadRun.getT s = s.abs.heap.get? := funext fun a => HandSHeadRun.getT_eq s a
  unfold ob
  rw [e] <;> rfl
section
variable {K : PySem.W.Frag} {h : Heap} {mg : Str → Option Value}
theorem Says.b (c : Says K) : (((facs.all fun f => f.ok K) && ((facsC.all fun f => f.ok K) && (globB K && moreB K))) && whs.all fun y => y.good K) = true := congrArg (fun z : Look => z.1) c
theorem Says.fac (c : Says K) (i : Nat) {f : He.Fa} (e : facs[i]? = some f := by rfl) : f.ok K = true := List.all_eq_true.mp (He.ba (He.ba c.b).1).1 f (List.mem_of_getElem? e)
theorem Says.facC (c : Says K) (i : Nat) {f : He.Fa} (e : facsC[i]? = some f := by rfl) : f.ok K = true := List.all_eq_true.mp (He.ba (He.ba (He.ba c.b).1).2).1 f (List.mem_of_getElem? e)
theorem Says.more (c : Says K) : moreB K = true := (He.ba (He.ba (He.ba (He.ba c.b).1).2).2).2
theorem Says.glob (c : Says K) (i : Nat) {q : Str × Nat} (e : defsM[i]? = some q := by rfl) : (He.Fa.glo q.1).ok K = true := List.all_eq_true.mp (He.ba (He.ba (He.ba (He.ba c.b).1).2).2).1 q (List.mem_of_getElem? e)
theorem Says.wh (c : Says K) {y : Wh} (m : y ∈ whs) : ∃ fd, FunD K y.d.name y.d.qual y.d.params y.d.body y.d.scope (y.d.dvs K) (y.d.kws K) (y.at_ K) fd := by
  have e : whs.map (fun y => fnAt K (y.at_ K)) = whs.map fun y => y.d.val := congrArg (fun z : Look => z.2) c
  exact Wh.fun_ (List.map_inj_left.mp e y m) (List.all_eq_true.mp (He.ba c.b).2 y m)
theorem Says.whAt (c : Says K) (i : Nat) {y : Wh} (e : whsC[i]? = some y := by rfl) : ∃ fd, FunD K y.d.name y.d.qual y.d.params y.d.body y.d.scope (y.d.dvs K) (y.d.kws K) (y.at_ K) fd := c.wh (List.mem_append_right _ (List.mem_of_getElem? e))
theorem Says.defAt (c : Says K) (X : K.In h) (G : h.Ns mainGlobals mg) (i : Nat) {x : Str} {n : Nat} (e : defsM[i]? = some (x, n) := by rfl) : DefAt K mg x (top n) := by
  obtain ⟨fd, F⟩ := c.wh (y := whM (x, n)) (List.mem_append_left _ (List.mem_map_of_mem (List.mem_of_getElem? e)))
  exact ⟨_, fd, F, He.glo_ok X G (c.glob i (q := (x, n)) e)⟩
theorem clsAt (X : K.In h) (G : h.Ns mainGlobals mg) {x : Str} (e : (He.Fa.glo x).ok K = true) : clsOf mg x = He.ga K x := by
  unfold clsOf
  rw [He.glo_ok X G e]
theorem Says.txt (c : Says K) (X : K.In h) (G : h.Ns mainGlobals mg) : Txt K mg := by
  have cReader : clsOf mg "Reader" = He.ga K "Reader" := clsAt X G (c.facC 0 (f := .glo "Reader") rfl)
  have cDoor : clsOf mg "Door" = He.ga K "Door" := clsAt X G (c.facC 6 (f := .glo "Door") rfl)
  have cLanguage : clsOf mg "Language" = He.ga K "Language" := clsAt X G (c.facC 13 (f := .glo "Language") rfl)
  obtain ⟨m1, m2⟩ := He.ba c.more
  obtain ⟨m3, m4⟩ := He.ba m2
  obtain ⟨m5, m6⟩ := He.ba m4
  exact {
    LETTERS := He.str_ok X G (c.fac 7 (f := .str "LETTERS" "abcdefghijklmnopqrstuvwxyz") rfl)
    is_word := c.defAt X G 0
    is_sign := c.defAt X G 1
    is_mark := c.defAt X G 2
    is_name := c.defAt X G 3
    is_below := c.defAt X G 4
    are_different := c.defAt X G 5
    is_move := c.defAt X G 6
    is_state_dict := c.defAt X G 7
    told_in := c.defAt X G 8
    signs_in := c.defAt X G 9
    reader_problem := c.defAt X G 10
    require_state := c.defAt X G 11
    require_states := c.defAt X G 12
    require_word := c.defAt X G 13
    silent_of := c.defAt X G 14
    step_of := c.defAt X G 15
    last_of := c.defAt X G 16
    meets := c.defAt X G 17
    is_writable := c.defAt X G 18
    are_signs := c.defAt X G 19
    is_number_below := c.defAt X G 20
    is_state_row := c.defAt X G 21
    are_states := c.defAt X G 22
    check_machine := c.defAt X G 23
    reached := c.defAt X G 24
    refined := c.defAt X G 25
    least_kinds := c.defAt X G 26
    least_machine := c.defAt X G 27
    live_states := c.defAt X G 28
    lacking := c.defAt X G 29
    find_unwritable := c.defAt X G 30
    is_wide := c.defAt X G 31
    law_rng := c.defAt X G 32
    law_draw := c.defAt X G 33
    law_choice := c.defAt X G 34
    law_letters := c.defAt X G 35
    law_marks := c.defAt X G 36
    law_any_format := c.defAt X G 37
    law_family := c.defAt X G 38
    law_bent := c.defAt X G 39
    law_format := c.defAt X G 40
    law_silent := c.defAt X G 41
    law_step := c.defAt X G 42
    law_class := c.defAt X G 43
    law_belongs := c.defAt X G 44
    law_live := c.defAt X G 45
    law_texts := c.defAt X G 46
    law_lacking := c.defAt X G 47
    law_less := c.defAt X G 48
    law_gate_right := c.defAt X G 49
    law_right := c.defAt X G 50
    law_long_right := c.defAt X G 51
    LONGEST_NAME := He.int_ok X G (c.fac 0 (f := .int "LONGEST_NAME" 8) rfl)
    MOST_PAGE_SIGNS := He.int_ok X G (c.fac 1 (f := .int "MOST_PAGE_SIGNS" 6) rfl)
    MOST_TEXT_SIGNS := He.int_ok X G (c.fac 2 (f := .int "MOST_TEXT_SIGNS" 4) rfl)
    MOST_MARKS := He.int_ok X G (c.fac 3 (f := .int "MOST_MARKS" 6) rfl)
    MOST_SIGNS := He.int_ok X G (c.fac 4 (f := .int "MOST_SIGNS" 4) rfl)
    MOST_GIVEN_STATES := He.int_ok X G (c.fac 5 (f := .int "MOST_GIVEN_STATES" 40) rfl)
    MOST_STATES := He.int_ok X G (c.fac 6 (f := .int "MOST_STATES" 6) rfl)
    isinstance := He.free_ok X G (c.fac 8 (f := .free "isinstance") rfl)
    all := He.free_ok X G (c.fac 9 (f := .free "all") rfl)
    any := He.free_ok X G (c.fac 10 (f := .free "any") rfl)
    len := He.free_ok X G (c.fac 11 (f := .free "len") rfl)
    str := He.free_ok X G (c.fac 12 (f := .free "str") rfl)
    int := He.free_ok X G (c.fac 13 (f := .free "int") rfl)
    bool := He.free_ok X G (c.fac 14 (f := .free "bool") rfl)
    list := He.free_ok X G (c.fac 15 (f := .free "list") rfl)
    tuple := He.free_ok X G (c.fac 16 (f := .free "tuple") rfl)
    dict := He.free_ok X G (c.fac 17 (f := .free "dict") rfl)
    set := He.free_ok X G (c.fac 18 (f := .free "set") rfl)
    sorted := He.free_ok X G (c.fac 19 (f := .free "sorted") rfl)
    range := He.free_ok X G (c.fac 20 (f := .free "range") rfl)
    enumerate := He.free_ok X G (c.fac 21 (f := .free "enumerate") rfl)
    repr := He.free_ok X G (c.fac 22 (f := .free "repr") rfl)
    max := He.free_ok X G (c.fac 23 (f := .free "max") rfl)
    min := He.free_ok X G (c.fac 24 (f := .free "min") rfl)
    abs := He.free_ok X G (c.fac 25 (f := .free "abs") rfl)
    divmod := He.free_ok X G (c.fac 26 (f := .free "divmod") rfl)
    Reader := by
      refine ⟨by rw [cReader]; exact He.glo_ok X G (c.facC 0 (f := .glo "Reader") rfl), by rw [cReader]; exact He.cls_ok (c.facC 1 (f := .cls "Reader") rfl), fun f hf => ?_⟩
      rw [cReader]
      simp only [List.mem_cons, List.not_mem_nil, or_false] at hf
      rcases hf with rfl | rfl | rfl
      · exact He.noat_ok (c.facC 2 (f := .noat "Reader" "rows") rfl)
      · exact He.noat_ok (c.facC 3 (f := .noat "Reader" "end_list") rfl)
      · exact He.noat_ok (c.facC 4 (f := .noat "Reader" "own_start") rfl)
    Door := by
      refine ⟨by rw [cDoor]; exact He.glo_ok X G (c.facC 6 (f := .glo "Door") rfl), by rw [cDoor]; exact He.cls_ok (c.facC 7 (f := .cls "Door") rfl), fun f hf => ?_⟩
      rw [cDoor]
      simp only [List.mem_cons, List.not_mem_nil, or_false] at hf
      rcases hf with rfl | rfl | rfl | rfl
      · exact He.noat_ok (c.facC 8 (f := .noat "Door" "own_reader") rfl)
      · exact He.noat_ok (c.facC 9 (f := .noat "Door" "own_state") rfl)
      · exact He.noat_ok (c.facC 10 (f := .noat "Door" "own_behind") rfl)
      · exact He.noat_ok (c.facC 11 (f := .noat "Door" "own_language") rfl)
    Language := by
      refine ⟨by rw [cLanguage]; exact He.glo_ok X G (c.facC 13 (f := .glo "Language") rfl), by rw [cLanguage]; exact He.cls_ok (c.facC 14 (f := .cls "Language") rfl), fun f hf => ?_⟩
      rw [cLanguage]
      simp only [List.mem_cons, List.not_mem_nil, or_false] at hf
      rcases hf with rfl | rfl | rfl | rfl
      · exact He.noat_ok (c.facC 15 (f := .noat "Language" "own_signs") rfl)
      · exact He.noat_ok (c.facC 16 (f := .noat "Language" "goals") rfl)
      · exact He.noat_ok (c.facC 17 (f := .noat "Language" "member_list") rfl)
      · exact He.noat_ok (c.facC 18 (f := .noat "Language" "live_list") rfl)
    Reader_max := by rw [cReader]; exact maxB_ok m1
    Reader_init := by
      obtain ⟨fd, F⟩ := c.whAt 0 (y := whRI) rfl
      exact ⟨_, fd, _, by rw [cReader]; exact He.mkr_ok (c.facC 5 (f := .mkr "Reader") rfl), F, fun H => nilB_ok m3 H⟩
    Reader_contains := by
      obtain ⟨fd, F⟩ := c.whAt 1 (y := whC "Reader" "__contains__" "Reader.__contains__" 26 11) rfl
      exact ⟨_, fd, by rw [cReader]; exact He.meth_ok (c.facC 20 (f := .meth "Reader" "__contains__") rfl), F⟩
    Reader_len := by
      obtain ⟨fd, F⟩ := c.whAt 2 (y := whC "Reader" "__len__" "Reader.__len__" 26 10) rfl
      exact ⟨_, fd, by rw [cReader]; exact He.meth_ok (c.facC 21 (f := .meth "Reader" "__len__") rfl), F⟩
    Door_init := by
      obtain ⟨fd, F⟩ := c.whAt 3 (y := whC "Door" "__init__" "Door.__init__" 35 0) rfl
      exact ⟨_, fd, by rw [cDoor]; exact He.mkr_ok (c.facC 12 (f := .mkr "Door") rfl), F⟩
    Door_state := by
      obtain ⟨fd, F⟩ := c.whAt 4 (y := whP "Door" "state" "Door.state" 35 2) rfl
      exact ⟨_, _, fd, by rw [cDoor]; exact propB_ok m5, F⟩
    Language_init := by
      obtain ⟨fd, F⟩ := c.whAt 5 (y := whC "Language" "__init__" "Language.__init__" 52 1) rfl
      exact ⟨_, fd, by rw [cLanguage]; exact He.mkr_ok (c.facC 19 (f := .mkr "Language") rfl), F⟩
  }
theorem Says.txtG (c : Says K) (X : K.In h) (G : h.Ns mainGlobals mg) : TxtG K mg := by
  have cLanguage : clsOf mg "Language" = He.ga K "Language" := clsAt X G (c.facC 13 (f := .glo "Language") rfl)
  obtain ⟨m1, m2⟩ := He.ba c.more
  obtain ⟨m3, m4⟩ := He.ba m2
  obtain ⟨m5, m6⟩ := He.ba m4
  obtain ⟨fd, F⟩ := c.whAt 6 (y := whP "Language" "signs" "Language.signs" 52 4) rfl
  exact ⟨c.defAt X G 52, _, _, fd, by rw [cLanguage]; exact propB_ok m6, F⟩
theorem facts {P : Program} {w : World} {f : Addr} (X : K.In h) (G : h.Ns mainGlobals mg) (hfa : mg ("law" : Str) = some (.ref f)) (c : Says K) :
    ∃ fd : FuncData, (∀ (s : Shared) (v : Value), BindsTo s fd ⟨[v], []⟩ [("_law_script", v)]) ∧ ∀ base : Heap, FnG P w K mg base 11 f fd ["_law_script"] (spLaw K) := by
  obtain ⟨f', fd, F, g⟩ := c.defAt X G 53 (x := "law") (n := 80)
  rw [hfa] at g
  cases g
  have b := FunD.bindsA (ps := ["_law_script"]) F fun _ _ _ _ _ _ us hl => match us, hl with | [_], _ => rfl
  exact ⟨fd, fun s v => b s [v] rfl, fun base => fn_law (c.txt X G) (c.txtG X G) F⟩
end
end K33H
/-! text Hg -/
set_option Elab.async false
set_option linter.all false
set_option maxRecDepth 100000
set_option maxHeartbeats 0
/-! the head's run, the law -/
namespace K33H
open PySem PySem.Spec PyProof.Rows L2 K33
abbrev R : PySem.W.OpenRow := PySem.W.OpenLaw.row PySem.Challenge.rw_sealedslots_k33_whole_wide_and_least_unw
def loose0 : List PySem.Str := ["_wall", "__name__", "SlotsError", "InvalidReader", "InvalidLanguage", "InvalidState", "InvalidStates", "InvalidWord", "TooLarge", "LETTERS", "LONGEST_NAME", "MOST_PAGE_SIGNS", "MOST_TEXT_SIGNS", "MOST_MARKS", "is_word", "is_sign", "is_mark", "is_name", "is_below", "are_different"]
def loose1 : List PySem.Str := ["is_move", "is_state_dict", "told_in", "signs_in", "reader_problem", "Reader", "require_state", "require_states", "require_word", "silent_of", "step_of", "last_of", "meets", "Door", "is_writable", "MOST_SIGNS", "MOST_GIVEN_STATES", "MOST_STATES", "are_signs", "is_number_below"]
def loose2 : List PySem.Str := ["is_state_row", "are_states", "check_machine", "reached", "refined", "least_kinds", "least_machine", "live_states", "tree_of", "Language", "from_machine", "met", "lacking", "find_unwritable", "is_wide", "_law_rng", "_law_draw", "_law_choice", "_law_letters", "_law_marks"]
def loose3 : List PySem.Str := ["_law_any_format", "_law_family", "_law_bent", "_law_format", "_law_silent", "_law_step", "_law_class", "_law_belongs", "_law_live", "_law_texts", "_law_lacking", "_law_less", "_law_gate_right", "_law_right", "_law_long_right"]
def loose : List PySem.Str := loose0 ++ loose1 ++ loose2 ++ loose3
theorem run (w : World) : HandSHeadRun.RunEq R (PySem.W.view R.prog [80]) hk ob 7000 loose w := by
  intro os
  kernel_rfl
end K33H
open PySem PySem.W PySem.Calls PyProof.Rows
theorem PySem.Challenge.cw_sealedslots_k33_whole_wide_and_least_unw_holds : PySem.Challenge.rw_sealedslots_k33_whole_wide_and_least_unw.Holds := by
  w_on; o_law
  refine HandSHeadRun.head_any (r := OpenLaw.row PySem.Challenge.rw_sealedslots_k33_whole_wide_and_least_unw) (q := view (OpenLaw.row PySem.Challenge.rw_sealedslots_k33_whole_wide_and_least_unw).prog [80]) (H := K33H.hk) (ob := K33H.ob) (M := 7000) (loose := K33H.loose) (d := HandSHeadRun.topDef (OpenLaw.row PySem.Challenge.rw_sealedslots_k33_whole_wide_and_least_unw).prog 80) (kwd := []) K33H.ob_eq
    (by kernel_rfl) (fun s => by kernel_rfl) K33H.run (by kernel_rfl) (by kernel_rfl) (by kernel_rfl) (by rfl) (by first | assumption | decide +kernel) (by decide +kernel) ⟨rfl, rfl, rfl, rfl, rfl, by decide +kernel⟩ ?hw ?hc
  case hw => w_witness2
  case hc =>
    refine K33.walk_ofG (l := PySem.Challenge.rw_sealedslots_k33_whole_wide_and_least_unw) (n := 63) (k := 11) (x := "_law_script") rfl (by decide) (by kernel_rfl) ⟨rfl, by decide, by decide⟩ ?F
    intro w mg fa h Y G hmg0
    obtain ⟨K, KX, c⟩ := Y
    have hmg : mg ("law" : PySem.Str) = some (.ref fa) := by
      have e : (HandSHeadRun.topDef (OpenLaw.row PySem.Challenge.rw_sealedslots_k33_whole_wide_and_least_unw).prog 80).name = ("law" : PySem.Str) := by kernel_rfl
      rw [← e]
      exact hmg0
    obtain ⟨fd, hb, hF⟩ := K33H.facts (P := (PySem.Challenge.rw_sealedslots_k33_whole_wide_and_least_unw).prog) (w := w) KX G hmg c
    exact ⟨K, fd, K33.spLaw K, KX, hb, fun T a ns hl _ hS => ⟨a, ns, rfl, hS, hl, fun _ => rfl⟩, fun bs _ _ => hF bs⟩
