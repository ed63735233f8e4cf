import PyProof.Rows.All
import Wide.All
import OpenK.AllK
import Wide.FinOn
import HandS.ForMost
import HandS.Star
import HandS.Zip
import HandS.IsInst
import HandS.TupAny
import HandS.Deep
import HandS.Style
import HandS.SortKw
import HandS.Strs
import HandS.Walk
import KE.SortData
import KE.SortKeyHeap
import KE.KSortKeyAny
import KE.GoesEnumKw
import PyProof.ReprRoads
import HandS.NoneIn
import PySem.Challenge.RW_alldiffs_k60_whole_knots_and_kinds
set_option Elab.async false
set_option linter.all false
set_option maxRecDepth 100000
set_option maxHeartbeats 4000000

/-! Plain law: the sweep over sorted blocks finds the groups that joining finds. No program in sight. -/
namespace K60
abbrev Blk := Int × Int × Int × Int
abbrev It := Int × Blk
def cov (k : Blk) : Int × Int := if k.2.2.1 < k.2.2.2 then (2 * k.1, 2 * k.2.1) else (2 * k.1 + 1, 2 * k.2.1 - 1)
def lo (x : It) : Int := (cov x.2).1
def hi (x : It) : Int := (cov x.2).2
def Meet (x y : It) : Prop := lo x ≤ hi y ∧ lo y ≤ hi x
theorem Meet.symm {x y : It} (h : Meet x y) : Meet y x := ⟨h.2, h.1⟩
def Wf (k : Blk) : Prop := 0 ≤ k.1 ∧ k.1 ≤ k.2.1 ∧ (k.1 < k.2.1 ∨ k.2.2.1 < k.2.2.2)
theorem lo_hi {x : It} (h : Wf x.2) : lo x ≤ hi x := by
  obtain ⟨v, a, b, c, d⟩ := x
  simp only [Wf] at h
  unfold lo hi cov
  dsimp only
  split <;> dsimp only <;> omega
theorem lo_ge {x : It} (h : Wf x.2) : 2 * x.2.1 ≤ lo x ∧ hi x ≤ 2 * x.2.2.1 := by
  obtain ⟨v, a, b, c, d⟩ := x
  unfold lo hi cov
  dsimp only
  split <;> dsimp only <;> omega

def Conn (g : List It) : Prop := ∀ p : It → Bool, (∀ x ∈ g, ∀ y ∈ g, Meet x y → p x = p y) → ∀ x ∈ g, ∀ y ∈ g, p x = p y
def Apart (g h : List It) : Prop := ∀ x ∈ g, ∀ y ∈ h, ¬ Meet x y
def SameM (g h : List It) : Prop := ∀ x, x ∈ g ↔ x ∈ h

theorem pair_or {α : Type} {R : α → α → Prop} : ∀ {l : List α}, l.Pairwise R → ∀ a ∈ l, ∀ b ∈ l, a = b ∨ R a b ∨ R b a
  | [], _, a, ha, _, _ => by cases ha
  | c :: l, h, a, ha, b, hb => by
    rw [List.pairwise_cons] at h
    rcases List.mem_cons.mp ha with e | ha'
    · rcases List.mem_cons.mp hb with e' | hb'
      · exact .inl (e.trans e'.symm)
      · exact .inr (.inl (e ▸ h.1 b hb'))
    · rcases List.mem_cons.mp hb with e' | hb'
      · exact .inr (.inr (e' ▸ h.1 a ha'))
      · exact pair_or h.2 a ha' b hb'

theorem apart_in {hs : List (List It)} (ah : hs.Pairwise Apart) {h h' : List It} (m : h ∈ hs) (m' : h' ∈ hs) {x y : It} (hx : x ∈ h) (hy : y ∈ h') (xy : Meet x y) : h = h' := by
  rcases pair_or ah h m h' m' with e | e | e
  · exact e
  · exact absurd xy (e x hx y hy)
  · exact absurd xy.symm (e y hy x hx)

theorem part_unique {gs hs : List (List It)} (cg : ∀ g ∈ gs, Conn g) (ch : ∀ h ∈ hs, Conn h) (ag : gs.Pairwise Apart) (ah : hs.Pairwise Apart) (same : ∀ x, (∃ g ∈ gs, x ∈ g) ↔ ∃ h ∈ hs, x ∈ h) {g : List It} (mg : g ∈ gs) (ne : g ≠ []) :
    ∃ h ∈ hs, SameM g h := by
  obtain ⟨x0, hx0⟩ := List.exists_mem_of_ne_nil g ne
  obtain ⟨h, mh, xh⟩ := (same x0).mp ⟨g, mg, hx0⟩
  refine ⟨h, mh, fun x => ⟨fun hx => ?_, fun hx => ?_⟩⟩
  · have q := cg g mg (fun z => decide (z ∈ h)) (fun y hy z hz yz => ?_) x0 hx0 x hx
    · rw [decide_eq_true xh] at q
      exact of_decide_eq_true q.symm
    · refine decide_eq_decide.mpr ⟨fun i => ?_, fun i => ?_⟩
      · obtain ⟨h', mh', zh⟩ := (same z).mp ⟨g, mg, hz⟩
        exact apart_in ah mh mh' i zh yz ▸ zh
      · obtain ⟨h', mh', yh⟩ := (same y).mp ⟨g, mg, hy⟩
        exact apart_in ah mh mh' i yh yz.symm ▸ yh
  · have q := ch h mh (fun z => decide (z ∈ g)) (fun y hy z hz yz => ?_) x0 xh x hx
    · rw [decide_eq_true hx0] at q
      exact of_decide_eq_true q.symm
    · refine decide_eq_decide.mpr ⟨fun i => ?_, fun i => ?_⟩
      · obtain ⟨g', mg', zg⟩ := (same z).mpr ⟨h, mh, hz⟩
        exact apart_in ag mg mg' i zg yz ▸ zg
      · obtain ⟨g', mg', yg⟩ := (same y).mpr ⟨h, mh, hy⟩
        exact apart_in ag mg mg' i yg yz.symm ▸ yg

/-! ### the sweep -/
def addLast (f : List (List It)) (x : It) : List (List It) := f.dropLast ++ [f.getLastD [] ++ [x]]
theorem addLast_snoc (d : List (List It)) (c : List It) (x : It) : addLast (d ++ [c]) x = d ++ [c ++ [x]] := by
  unfold addLast
  rw [List.dropLast_concat]
  simp
def gStep (st : List (List It) × Int) (x : It) : List (List It) × Int := (addLast (if st.2 < lo x then st.1 ++ [[]] else st.1) x, if st.2 < hi x then hi x else st.2)
def sweep (s : List It) : List (List It) := (s.foldl gStep ([], -1)).1

structure Swept (p : List It) (f : List (List It)) (e : Int) : Prop where
  all : f.flatten = p
  top : ∀ x ∈ p, hi x ≤ e
  nil : f = [] → e = -1
  last : ∀ d c, f = d ++ [c] → ∃ z ∈ c, hi z = e
  conn : ∀ g ∈ f, Conn g
  ne : ∀ g ∈ f, g ≠ []
  rising : f.Pairwise fun g h => ∀ x ∈ g, ∀ y ∈ h, hi x < lo y

theorem swept_step {p : List It} {f : List (List It)} {e : Int} (S : Swept p f e) {x : It} (hx : lo x ≤ hi x) (h0 : 0 ≤ lo x) (up : ∀ y ∈ p, lo y ≤ lo x) : Swept (p ++ [x]) (gStep (f, e) x).1 (gStep (f, e) x).2 := by
  by_cases lt : e < lo x
  · have e1 : (gStep (f, e) x).1 = f ++ [[x]] := by
      show addLast (if e < lo x then f ++ [[]] else f) x = _
      rw [if_pos lt, addLast_snoc]
      rfl
    have e2 : (gStep (f, e) x).2 = hi x := by
      show (if e < hi x then hi x else e) = _
      rw [if_pos (by omega)]
    rw [e1, e2]
    refine ⟨by simp [S.all], fun y hy => ?_, fun z => by simp at z, fun d c z => ?_, fun g hg => ?_, fun g hg => ?_, ?_⟩
    · rcases List.mem_append.mp hy with hy | hy
      · have := S.top y hy
        omega
      · rw [List.mem_singleton.mp hy]
        exact Int.le_refl _
    · have z' := List.append_inj_right' z rfl
      simp only [List.cons.injEq, and_true] at z'
      exact ⟨x, by rw [← z']; simp, rfl⟩
    · rcases List.mem_append.mp hg with hg | hg
      · exact S.conn g hg
      · rw [List.mem_singleton.mp hg]
        intro q _ a ha b hb
        rw [List.mem_singleton.mp ha, List.mem_singleton.mp hb]
    · rcases List.mem_append.mp hg with hg | hg
      · exact S.ne g hg
      · rw [List.mem_singleton.mp hg]
        exact nofun
    · rw [List.pairwise_append]
      refine ⟨S.rising, List.pairwise_singleton _ _, fun g hg h hh y hy z hz => ?_⟩
      rw [List.mem_singleton.mp hh] at hz
      rw [List.mem_singleton.mp hz]
      have := S.top y (by rw [← S.all]; exact List.mem_flatten.mpr ⟨g, hg, hy⟩)
      omega
  · rcases List.eq_nil_or_concat f with rfl | ⟨d, c, rfl⟩
    · have := S.nil rfl
      omega
    · obtain ⟨z, hz, ez⟩ := S.last d c (by simp)
      have e1 : (gStep (d ++ [c], e) x).1 = d ++ [c ++ [x]] := by
        show addLast (if e < lo x then d ++ [c] ++ [[]] else d ++ [c]) x = _
        rw [if_neg lt, addLast_snoc]
      have S' : Swept p (d ++ [c]) e := by simpa using S
      have hzp : z ∈ p := by
        rw [← S'.all]
        exact List.mem_flatten.mpr ⟨c, by simp, hz⟩
      have zx : Meet z x := ⟨by have := up z hzp; omega, by omega⟩
      have rise := List.pairwise_append.mp S'.rising
      have goal : Swept (p ++ [x]) (d ++ [c ++ [x]]) (gStep (d ++ [c], e) x).2 := by
        refine ⟨by rw [← S'.all]; simp, fun y hy => ?_, fun q => by simp at q, fun d' c' q => ?_, fun g hg => ?_, fun g hg => ?_, ?_⟩
        · show hi y ≤ if e < hi x then hi x else e
          rcases List.mem_append.mp hy with hy | hy
          · have := S'.top y hy
            split <;> omega
          · rw [List.mem_singleton.mp hy]
            split <;> omega
        · have q' := List.append_inj_right' q rfl
          simp only [List.cons.injEq, and_true] at q'
          subst q'
          show ∃ z ∈ c ++ [x], hi z = if e < hi x then hi x else e
          by_cases lt2 : e < hi x
          · exact ⟨x, by simp, by rw [if_pos lt2]⟩
          · exact ⟨z, by simp [hz], by rw [if_neg lt2]; exact ez⟩
        · rcases List.mem_append.mp hg with hg | hg
          · exact S'.conn g (by simp [hg])
          · rw [List.mem_singleton.mp hg]
            intro q hq
            have cc := S'.conn c (by simp) q fun a ha b hb => hq a (by simp [ha]) b (by simp [hb])
            have px : q x = q z := (hq z (by simp [hz]) x (by simp) zx).symm
            have all : ∀ a ∈ c ++ [x], q a = q z := fun a ha => by
              rcases List.mem_append.mp ha with ha | ha
              · exact cc a ha z hz
              · rw [List.mem_singleton.mp ha]
                exact px
            exact fun a ha b hb => (all a ha).trans (all b hb).symm
        · rcases List.mem_append.mp hg with hg | hg
          · exact S'.ne g (by simp [hg])
          · rw [List.mem_singleton.mp hg]
            simp
        · rw [List.pairwise_append]
          refine ⟨rise.1, List.pairwise_singleton _ _, fun g hg h hh y hy w hw => ?_⟩
          rw [List.mem_singleton.mp hh] at hw
          have gz := rise.2.2 g hg c (by simp) y hy
          rcases List.mem_append.mp hw with hw | hw
          · exact gz w hw
          · rw [List.mem_singleton.mp hw]
            have := gz z hz
            have := up z hzp
            omega
      have e1' : (gStep (d ++ [c], e) x) = (d ++ [c ++ [x]], (gStep (d ++ [c], e) x).2) := by rw [← e1]
      simpa [List.concat_eq_append, e1] using goal

theorem sweep_all : ∀ (s p : List It) (f : List (List It)) (e : Int), Swept p f e → (∀ x ∈ s, lo x ≤ hi x ∧ 0 ≤ lo x) → (p ++ s).Pairwise (fun x y => lo x ≤ lo y) → ∃ e', Swept (p ++ s) (s.foldl gStep (f, e)).1 e'
  | [], p, f, e, S, _, _ => ⟨e, by simpa using S⟩
  | x :: s, p, f, e, S, w, pw => by
    have up : ∀ y ∈ p, lo y ≤ lo x := fun y hy => (List.pairwise_append.mp pw).2.2 y hy x (by simp)
    have S2 := swept_step S (w x (by simp)).1 (w x (by simp)).2 up
    have q := sweep_all s (p ++ [x]) _ _ S2 (fun y hy => w y (by simp [hy])) (by simpa using pw)
    simpa using q
theorem swept {s : List It} (w : ∀ x ∈ s, lo x ≤ hi x ∧ 0 ≤ lo x) (pw : s.Pairwise fun x y => lo x ≤ lo y) : ∃ e, Swept s (sweep s) e := by
  have q := sweep_all s [] [] (-1) ⟨rfl, fun _ h => (by cases h), fun _ => rfl, fun d c h => (by simp at h), fun _ h => (by cases h), fun _ h => (by cases h), List.Pairwise.nil⟩ w (by simpa using pw)
  simpa [sweep] using q

/-! ### joining -/
def isMet (g : List It) (l h : Int) : Bool := g.any fun y => decide (lo y ≤ h) && decide (l ≤ hi y)
def lgStep (gs : List (List It)) (x : It) : List (List It) :=
  gs.filter (fun g => !(gs.filter fun g => isMet g (lo x) (hi x)).any fun z => decide (z = g)) ++ [[x] ++ (gs.filter fun g => isMet g (lo x) (hi x)).flatten]
theorem isMet_iff {g : List It} {x : It} : isMet g (lo x) (hi x) = true ↔ ∃ y ∈ g, Meet y x := by
  unfold isMet Meet
  simp [List.any_eq_true]
theorem lgStep_eq (gs : List (List It)) (x : It) : lgStep gs x = gs.filter (fun g => !isMet g (lo x) (hi x)) ++ [[x] ++ (gs.filter fun g => isMet g (lo x) (hi x)).flatten] := by
  unfold lgStep
  congr 1
  refine List.filter_congr fun g hg => ?_
  congr 1
  cases e : isMet g (lo x) (hi x) with
  | true => exact List.any_eq_true.mpr ⟨g, List.mem_filter.mpr ⟨hg, e⟩, decide_eq_true rfl⟩
  | false =>
    rw [List.any_eq_false]
    intro z hz q
    rw [of_decide_eq_true q, List.mem_filter] at hz
    rw [hz.2] at e
    cases e

structure Joined (p : List It) (gs : List (List It)) : Prop where
  all : gs.flatten.Perm p
  conn : ∀ g ∈ gs, Conn g
  ne : ∀ g ∈ gs, g ≠ []
  apart : gs.Pairwise Apart
theorem joined_step {p : List It} {gs : List (List It)} (J : Joined p gs) (x : It) : Joined (p ++ [x]) (lgStep gs x) := by
  rw [lgStep_eq]
  refine ⟨?_, fun g hg => ?_, fun g hg => ?_, ?_⟩
  · have e := List.filter_append_perm (fun g => isMet g (lo x) (hi x)) gs
    have e2 := e.flatten
    rw [List.flatten_append] at e2
    rw [List.flatten_append, List.flatten_singleton]
    refine List.Perm.trans List.perm_append_comm ?_
    show ([x] ++ _ ++ _).Perm _
    rw [List.append_assoc]
    refine List.Perm.trans ?_ List.perm_append_comm
    exact (e2.trans J.all).append_left [x]
  · rcases List.mem_append.mp hg with hg | hg
    · exact J.conn g (List.mem_filter.mp hg).1
    · rw [List.mem_singleton.mp hg]
      intro q hq
      have all : ∀ a ∈ [x] ++ (gs.filter fun g => isMet g (lo x) (hi x)).flatten, q a = q x := fun a ha => by
        rcases List.mem_append.mp ha with h | h
        · rw [List.mem_singleton.mp h]
        · obtain ⟨g', hg', hag⟩ := List.mem_flatten.mp h
          obtain ⟨m1, m2⟩ := List.mem_filter.mp hg'
          obtain ⟨y, hy, yx⟩ := isMet_iff.mp m2
          have inn : ∀ b ∈ g', b ∈ [x] ++ (gs.filter fun g => isMet g (lo x) (hi x)).flatten := fun b hb => List.mem_append_right _ (List.mem_flatten.mpr ⟨g', hg', hb⟩)
          have c1 := J.conn g' m1 q (fun b hb c hc => hq b (inn b hb) c (inn c hc)) a hag y hy
          exact c1.trans (hq y (inn y hy) x (by simp) yx)
      exact fun a ha b hb => (all a ha).trans (all b hb).symm
  · rcases List.mem_append.mp hg with hg | hg
    · exact J.ne g (List.mem_filter.mp hg).1
    · rw [List.mem_singleton.mp hg]
      simp
  · rw [List.pairwise_append]
    refine ⟨J.apart.filter _, List.pairwise_singleton _ _, fun g hg h hh y hy z hz yz => ?_⟩
    obtain ⟨m1, m2⟩ := List.mem_filter.mp hg
    have nm : ¬ ∃ y ∈ g, Meet y x := fun q => by
      rw [isMet_iff.mpr q] at m2
      cases m2
    rw [List.mem_singleton.mp hh] at hz
    rcases List.mem_append.mp hz with hz | hz
    · rw [List.mem_singleton.mp hz] at yz
      exact nm ⟨y, hy, yz⟩
    · obtain ⟨g', hg', hzg⟩ := List.mem_flatten.mp hz
      obtain ⟨n1, n2⟩ := List.mem_filter.mp hg'
      have e := apart_in J.apart m1 n1 hy hzg yz
      rw [← e] at n2
      exact nm (isMet_iff.mp n2)
def joins (p : List It) : List (List It) := p.foldl lgStep []
theorem joined_all : ∀ (s p : List It) (gs : List (List It)), Joined p gs → Joined (p ++ s) (s.foldl lgStep gs)
  | [], p, gs, J => by simpa using J
  | x :: s, p, gs, J => by
    have q := joined_all s (p ++ [x]) _ (joined_step J x)
    simpa using q
theorem joined (p : List It) : Joined p (joins p) := by
  have q := joined_all p [] [] ⟨List.Perm.nil, fun _ h => (by cases h), fun _ h => (by cases h), List.Pairwise.nil⟩
  simpa [joins] using q
end K60
namespace K60
def parts (v : Int) (g : List It) : List Blk := g.filterMap fun x => if x.1 = v then some x.2 else none
theorem mem_parts {v : Int} {g : List It} {b : Blk} : b ∈ parts v g ↔ (v, b) ∈ g := by
  unfold parts
  rw [List.mem_filterMap]
  constructor
  · rintro ⟨x, hx, e⟩
    split at e
    · rename_i h
      cases e
      rw [← h]
      exact hx
    · cases e
  · intro h
    exact ⟨_, h, by simp⟩
/-- the least first position of a group -/
def firstM : List It → Int
  | [] => 0
  | x :: r => r.foldl (fun m y => if lo y < m then lo y else m) (lo x)
theorem fold_min : ∀ (r : List It) (m : Int), (r.foldl (fun m y => if lo y < m then lo y else m) m = m ∨ ∃ y ∈ r, lo y = r.foldl (fun m y => if lo y < m then lo y else m) m) ∧
    r.foldl (fun m y => if lo y < m then lo y else m) m ≤ m ∧ ∀ y ∈ r, r.foldl (fun m y => if lo y < m then lo y else m) m ≤ lo y
  | [], m => ⟨.inl rfl, Int.le_refl _, fun _ h => (by cases h)⟩
  | x :: r, m => by
    obtain ⟨h1, h2, h3⟩ := fold_min r (if lo x < m then lo x else m)
    rw [List.foldl_cons]
    refine ⟨?_, ?_, fun y hy => ?_⟩
    · rcases h1 with e | ⟨y, hy, e⟩
      · rw [e]
        split
        · exact .inr ⟨x, by simp, rfl⟩
        · exact .inl rfl
      · exact .inr ⟨y, by simp [hy], e⟩
    · split at h2 <;> split <;> omega
    · rcases List.mem_cons.mp hy with rfl | hy
      · split at h2 <;> split <;> omega
      · exact h3 y hy
theorem firstM_min {g : List It} (ne : g ≠ []) : (∃ x ∈ g, lo x = firstM g) ∧ ∀ x ∈ g, firstM g ≤ lo x := by
  cases g with
  | nil => exact absurd rfl ne
  | cons x r =>
    obtain ⟨h1, h2, h3⟩ := fold_min r (lo x)
    refine ⟨?_, fun y hy => ?_⟩
    · rcases h1 with e | ⟨y, hy, e⟩
      · exact ⟨x, by simp, e.symm⟩
      · exact ⟨y, by simp [hy], e⟩
    · rcases List.mem_cons.mp hy with rfl | hy
      · exact h2
      · exact h3 y hy
theorem firstM_of {g : List It} {m : Int} (h1 : ∃ x ∈ g, lo x = m) (h2 : ∀ x ∈ g, m ≤ lo x) : m = firstM g := by
  obtain ⟨x, hx, e⟩ := h1
  have ne : g ≠ [] := List.ne_nil_of_mem hx
  obtain ⟨⟨y, hy, ey⟩, l⟩ := firstM_min ne
  have := l x hx
  have := h2 y hy
  omega
theorem firstM_same {g h : List It} (s : SameM g h) : firstM g = firstM h := by
  cases g with
  | nil =>
    cases h with
    | nil => rfl
    | cons y r => exact absurd ((s y).mpr (by simp)) (by simp)
  | cons x r =>
    obtain ⟨⟨y, hy, e⟩, l⟩ := firstM_min (g := x :: r) nofun
    exact firstM_of ⟨y, (s y).mp hy, e⟩ fun z hz => l z ((s z).mpr hz)

theorem zip_same : ∀ (gs cs : List (List It)), gs.Pairwise (fun g h => firstM g < firstM h) → cs.Pairwise (fun g h => firstM g < firstM h) → (∀ g ∈ gs, ∃ c ∈ cs, SameM g c) → (∀ c ∈ cs, ∃ g ∈ gs, SameM g c) →
    gs.length = cs.length ∧ ∀ (i : Nat) (g c : List It), gs[i]? = some g → cs[i]? = some c → SameM g c
  | [], [], _, _, _, _ => ⟨rfl, fun i g c h => by simp at h⟩
  | [], c :: cs, _, _, _, h => by
    obtain ⟨g, hg, _⟩ := h c (by simp)
    cases hg
  | g :: gs, [], _, _, h, _ => by
    obtain ⟨c, hc, _⟩ := h g (by simp)
    cases hc
  | g :: gs, c :: cs, pg, pc, h1, h2 => by
    rw [List.pairwise_cons] at pg pc
    have head : SameM g c := by
      obtain ⟨c', hc', s⟩ := h1 g (by simp)
      rcases List.mem_cons.mp hc' with e | hc'
      · exact e ▸ s
      · obtain ⟨g', hg', s'⟩ := h2 c (by simp)
        rcases List.mem_cons.mp hg' with e | hg'
        · exact e ▸ s'
        · have a1 := pc.1 c' hc'
          have a2 := pg.1 g' hg'
          have e1 := firstM_same s
          have e2 := firstM_same s'
          omega
    have eh := firstM_same head
    obtain ⟨l, r⟩ := zip_same gs cs pg.2 pc.2 (fun g' hg' => by
      obtain ⟨c', hc', s⟩ := h1 g' (by simp [hg'])
      rcases List.mem_cons.mp hc' with e | hc'
      · have a := pg.1 g' hg'
        have e1 := firstM_same s
        rw [e] at e1
        omega
      · exact ⟨c', hc', s⟩) fun c' hc' => by
      obtain ⟨g', hg', s⟩ := h2 c' (by simp [hc'])
      rcases List.mem_cons.mp hg' with e | hg'
      · have a := pc.1 c' hc'
        have e1 := firstM_same s
        rw [e] at e1
        omega
      · exact ⟨g', hg', s⟩
    refine ⟨by simp [l], fun i x y hx hy => ?_⟩
    cases i with
    | zero =>
      simp only [List.getElem?_cons_zero, Option.some.injEq] at hx hy
      rw [← hx, ← hy]
      exact head
    | succ i =>
      simp only [List.getElem?_cons_succ] at hx hy
      exact r i x y hx hy

theorem strict_eq {α : Type} (f : α → Int) : ∀ (l m : List α), l.Pairwise (fun x y => f x < f y) → m.Pairwise (fun x y => f x < f y) → (∀ x, x ∈ l ↔ x ∈ m) → l = m
  | [], [], _, _, _ => rfl
  | [], y :: m, _, _, h => absurd ((h y).mpr (by simp)) (by simp)
  | x :: l, [], _, _, h => absurd ((h x).mp (by simp)) (by simp)
  | x :: l, y :: m, pl, pm, h => by
    rw [List.pairwise_cons] at pl pm
    have e : x = y := by
      rcases List.mem_cons.mp ((h x).mp (by simp)) with e | hx
      · exact e
      · rcases List.mem_cons.mp ((h y).mpr (by simp)) with e | hy
        · exact e.symm
        · have a := pl.1 y hy
          have b := pm.1 x hx
          omega
    subst e
    rw [strict_eq f l m pl.2 pm.2 fun z => ⟨fun hz => ?_, fun hz => ?_⟩]
    · rcases List.mem_cons.mp ((h z).mp (by simp [hz])) with e | q
      · have a := pl.1 z hz
        rw [e] at a
        omega
      · exact q
    · rcases List.mem_cons.mp ((h z).mpr (by simp [hz])) with e | q
      · have a := pm.1 z hz
        rw [e] at a
        omega
      · exact q

/-- the blocks of one diff, in sequence -/
structure Chain (b : List Blk) : Prop where
  wf : ∀ k ∈ b, Wf k
  up : b.Pairwise fun x y => x.2.1 < y.1
theorem Chain.two {b : List Blk} (c : Chain b) {x y : Blk} (hx : x ∈ b) (hy : y ∈ b) (ne : x ≠ y) : x.2.1 < y.1 ∨ y.2.1 < x.1 := by
  rcases pair_or c.up x hx y hy with e | e | e
  · exact absurd e ne
  · exact .inl e
  · exact .inr e
theorem Chain.le {b : List Blk} (c : Chain b) {x : Blk} (hx : x ∈ b) : x.1 ≤ x.2.1 := (c.wf x hx).2.1
/-- weakly sorted by the first number and without doubles: strictly sorted -/
theorem Chain.strict {b z : List Blk} (c : Chain b) (sub : ∀ x ∈ z, x ∈ b) (nd : z.Nodup) (pw : z.Pairwise fun x y => x.1 ≤ y.1) : z.Pairwise fun x y => x.1 < y.1 := by
  refine (List.Pairwise.and nd pw).imp_of_mem fun {x y} hx hy h => ?_
  obtain ⟨ne, le⟩ := h
  have a := c.le (sub x hx)
  have b := c.le (sub y hy)
  rcases c.two (sub x hx) (sub y hy) ne with q | q <;> omega
theorem Chain.byLo {b : List Blk} (c : Chain b) {v : Int} {x y : Blk} (hx : x ∈ b) (hy : y ∈ b) (ne : x ≠ y) (le : lo (v, x) ≤ lo (v, y)) : x.1 < y.1 := by
  have wx := c.wf x hx
  have wy := c.wf y hy
  have a := lo_hi (x := (v, x)) wx
  have b := lo_hi (x := (v, y)) wy
  have a2 := lo_ge (x := (v, x)) wx
  have b2 := lo_ge (x := (v, y)) wy
  dsimp only at a2 b2
  obtain ⟨_, q, _⟩ := wx
  rcases c.two hx hy ne with r | r <;> omega

def items (b1 b2 : List Blk) : List It := b1.map (fun k => ((1 : Int), k)) ++ b2.map (fun k => ((2 : Int), k))
theorem Chain.nodup {b : List Blk} (c : Chain b) : b.Nodup := c.up.imp_of_mem fun {x y} hx hy h e => by
  subst e
  have := c.le hx
  omega
theorem items_nodup {b1 b2 : List Blk} (c1 : Chain b1) (c2 : Chain b2) : (items b1 b2).Nodup := by
  unfold items List.Nodup
  rw [List.pairwise_append, List.pairwise_map, List.pairwise_map]
  refine ⟨c1.nodup.imp fun {x y} h e => h (by injection e), c2.nodup.imp fun {x y} h e => h (by injection e), fun x hx y hy e => ?_⟩
  · obtain ⟨k, _, rfl⟩ := List.mem_map.mp hx
    obtain ⟨l, _, rfl⟩ := List.mem_map.mp hy
    injection e with e1 e2
    cases e1
theorem mem_items {b1 b2 : List Blk} {x : It} : x ∈ items b1 b2 ↔ (x.1 = 1 ∧ x.2 ∈ b1) ∨ (x.1 = 2 ∧ x.2 ∈ b2) := by
  obtain ⟨v, k⟩ := x
  unfold items
  rw [List.mem_append, List.mem_map, List.mem_map]
  constructor
  · rintro (⟨l, h, e⟩ | ⟨l, h, e⟩)
    · cases e
      exact .inl ⟨rfl, h⟩
    · cases e
      exact .inr ⟨rfl, h⟩
  · rintro (⟨e, h⟩ | ⟨e, h⟩)
    · subst e
      exact .inl ⟨k, h, rfl⟩
    · subst e
      exact .inr ⟨k, h, rfl⟩

def LK (g : List It) (k : List Blk × List Blk) : Prop := k.1.Perm (parts 1 g) ∧ k.1.Pairwise (fun x y => x.1 ≤ y.1) ∧ k.2.Perm (parts 2 g) ∧ k.2.Pairwise (fun x y => x.1 ≤ y.1)

theorem parts_nodup {v : Int} {g : List It} (nd : g.Nodup) : (parts v g).Nodup := by
  unfold parts List.Nodup
  rw [List.pairwise_filterMap]
  refine List.Pairwise.imp (fun {x y} h b hb b' hb' e => h ?_) nd
  split at hb
  · rename_i e1
    split at hb'
    · rename_i e2
      cases hb
      cases hb'
      obtain ⟨vx, kx⟩ := x
      obtain ⟨vy, ky⟩ := y
      dsimp only at e1 e2 e
      rw [e1, e2, e]
    · cases hb'
  · cases hb
theorem part_eq {b : List Blk} (c : Chain b) {v : Int} {g h : List It} {z : List Blk} (sub : ∀ k, (v, k) ∈ g → k ∈ b) (s : SameM g h) (ng : g.Nodup) (nh : h.Nodup) (ph : h.Pairwise fun x y => lo x ≤ lo y) (zp : z.Perm (parts v g)) (zs : z.Pairwise fun x y => x.1 ≤ y.1) :
    z = parts v h := by
  have inB : ∀ k ∈ z, k ∈ b := fun k hk => sub k (mem_parts.mp (zp.mem_iff.mp hk))
  refine strict_eq (fun k => k.1) z (parts v h) (c.strict inB (zp.nodup_iff.mpr (parts_nodup ng)) zs) ?_ fun k => ?_
  · unfold parts
    rw [List.pairwise_filterMap]
    refine (List.Pairwise.and nh ph).imp_of_mem fun {x y} hx hy q k hk l hl => ?_
    obtain ⟨ne, le⟩ := q
    split at hk
    · rename_i e1
      split at hl
      · rename_i e2
        cases hk
        cases hl
        obtain ⟨vx, kx⟩ := x
        obtain ⟨vy, ky⟩ := y
        dsimp only at e1 e2
        subst e1
        subst e2
        exact c.byLo (sub _ ((s _).mpr hx)) (sub _ ((s _).mpr hy)) (fun e => ne (by dsimp only at e; rw [e])) le
      · cases hl
    · cases hk
  · rw [zp.mem_iff, mem_parts, mem_parts]
    exact s _

/-- THE PLAIN LAW -/
theorem knots_same {b1 b2 : List Blk} (c1 : Chain b1) (c2 : Chain b2) {s : List It} (hs : s.Perm (items b1 b2)) (ps : s.Pairwise fun x y => lo x ≤ lo y) {gs : List (List It)} (hg : gs.Perm (joins (items b1 b2))) (pg : gs.Pairwise fun g h => firstM g ≤ firstM h)
    {ks : List (List Blk × List Blk)} (len : ks.length = gs.length) (hk : ∀ (i : Nat) (g : List It) (k : List Blk × List Blk), gs[i]? = some g → ks[i]? = some k → LK g k) :
    ks = (sweep s).map fun g => (parts 1 g, parts 2 g) := by
  have J := joined (items b1 b2)
  have wf : ∀ x ∈ items b1 b2, Wf x.2 := fun x hx => by
    rcases mem_items.mp hx with ⟨_, h⟩ | ⟨_, h⟩
    · exact c1.wf _ h
    · exact c2.wf _ h
  have wfS : ∀ x ∈ s, lo x ≤ hi x ∧ 0 ≤ lo x := fun x hx => by
    have w := wf x (hs.mem_iff.mp hx)
    have l := lo_ge w
    refine ⟨lo_hi w, ?_⟩
    have := w.1
    omega
  obtain ⟨e, S⟩ := swept wfS ps
  have nd : s.Nodup := hs.nodup_iff.mpr (items_nodup c1 c2)
  have inG : ∀ g ∈ gs, ∀ x ∈ g, x ∈ items b1 b2 := fun g hgm x hx => J.all.mem_iff.mp (List.mem_flatten.mpr ⟨g, hg.mem_iff.mp hgm, hx⟩)
  have inC : ∀ c ∈ sweep s, ∀ x ∈ c, x ∈ items b1 b2 := fun c hc x hx => hs.mem_iff.mp (by rw [← S.all]; exact List.mem_flatten.mpr ⟨c, hc, hx⟩)
  have connG : ∀ g ∈ gs, Conn g := fun g h => J.conn g (hg.mem_iff.mp h)
  have neG : ∀ g ∈ gs, g ≠ [] := fun g h => J.ne g (hg.mem_iff.mp h)
  have apG : gs.Pairwise Apart := (hg.pairwise_iff fun {g h} a x hx y hy m => a y hy x hx m.symm).mpr J.apart
  have apC : (sweep s).Pairwise Apart := S.rising.imp fun {g h} r x hx y hy m => by
    have := r x hx y hy
    have := m.2
    omega
  have same : ∀ x, (∃ g ∈ gs, x ∈ g) ↔ ∃ h ∈ sweep s, x ∈ h := fun x => by
    rw [← List.mem_flatten, ← List.mem_flatten, S.all, hg.flatten.mem_iff, J.all.mem_iff, hs.mem_iff]
  have gc : ∀ g ∈ gs, ∃ c ∈ sweep s, SameM g c := fun g h => part_unique connG S.conn apG apC same h (neG g h)
  have cg : ∀ c ∈ sweep s, ∃ g ∈ gs, SameM g c := fun c h => by
    obtain ⟨g, hg', q⟩ := part_unique S.conn connG apC apG (fun x => (same x).symm) h (S.ne c h)
    exact ⟨g, hg', fun x => (q x).symm⟩
  have stG : gs.Pairwise fun g h => firstM g < firstM h := by
    refine (List.Pairwise.and pg apG).imp_of_mem fun {g h} mg mh q => ?_
    obtain ⟨le, ap⟩ := q
    obtain ⟨⟨x, hx, ex⟩, _⟩ := firstM_min (neG g mg)
    obtain ⟨⟨y, hy, ey⟩, _⟩ := firstM_min (neG h mh)
    refine Int.lt_iff_le_and_ne.mpr ⟨le, fun eq => ap x hx y hy ?_⟩
    have a := lo_hi (wf x (inG g mg x hx))
    have b := lo_hi (wf y (inG h mh y hy))
    constructor <;> omega
  have stC : (sweep s).Pairwise fun g h => firstM g < firstM h := by
    refine S.rising.imp_of_mem fun {g h} mg mh r => ?_
    obtain ⟨⟨x, hx, ex⟩, _⟩ := firstM_min (S.ne g mg)
    obtain ⟨⟨y, hy, ey⟩, _⟩ := firstM_min (S.ne h mh)
    have a := lo_hi (wf x (inC g mg x hx))
    have b := r x hx y hy
    omega
  obtain ⟨l2, z⟩ := zip_same gs (sweep s) stG stC gc cg
  refine List.ext_getElem? fun i => ?_
  rw [List.getElem?_map]
  cases ek : ks[i]? with
  | none =>
    rw [List.getElem?_eq_none_iff] at ek
    rw [List.getElem?_eq_none (by omega)]
    rfl
  | some k =>
    have lt : i < ks.length := (List.getElem?_eq_some_iff.mp ek).1
    obtain ⟨g, eg⟩ : ∃ g, gs[i]? = some g := ⟨_, List.getElem?_eq_getElem (by omega)⟩
    obtain ⟨c, ec⟩ : ∃ c, (sweep s)[i]? = some c := ⟨_, List.getElem?_eq_getElem (by omega)⟩
    have mg := List.mem_of_getElem? eg
    have mc := List.mem_of_getElem? ec
    have sm := z i g c eg ec
    obtain ⟨k1, k2, k3, k4⟩ := hk i g k eg ek
    have ndg : g.Nodup := by
      have q : gs.flatten.Nodup := (hg.flatten.trans J.all).nodup_iff.mpr (items_nodup c1 c2)
      exact List.Pairwise.sublist (List.sublist_flatten_of_mem mg) q
    have subc : c.Sublist s := by
      have q := List.sublist_flatten_of_mem mc
      rw [S.all] at q
      exact q
    have ndc : c.Nodup := List.Pairwise.sublist subc nd
    have pc : c.Pairwise fun x y => lo x ≤ lo y := ps.sublist subc
    have s1 : ∀ k, ((1 : Int), k) ∈ g → k ∈ b1 := fun k hk => by
      rcases mem_items.mp (inG g mg _ hk) with ⟨_, h⟩ | ⟨h, _⟩
      · exact h
      · exact absurd (show (1 : Int) = 2 from h) (by decide)
    have s2 : ∀ k, ((2 : Int), k) ∈ g → k ∈ b2 := fun k hk => by
      rcases mem_items.mp (inG g mg _ hk) with ⟨h, _⟩ | ⟨_, h⟩
      · exact absurd (show (2 : Int) = 1 from h) (by decide)
      · exact h
    rw [ec]
    show some k = some (parts 1 c, parts 2 c)
    rw [← part_eq c1 s1 sm ndg ndc pc k1 k2, ← part_eq c2 s2 sm ndg ndc pc k3 k4]
/-- each knot has a block -/
theorem knot_ne {b1 b2 : List Blk} (c1 : Chain b1) (c2 : Chain b2) {s : List It} (hs : s.Perm (items b1 b2)) (ps : s.Pairwise fun x y => lo x ≤ lo y) :
    ∀ k ∈ (sweep s).map (fun g => (parts 1 g, parts 2 g)), k.1 ++ k.2 ≠ [] := by
  intro k hk
  obtain ⟨g, hg, rfl⟩ := List.mem_map.mp hk
  have wfS : ∀ x ∈ s, lo x ≤ hi x ∧ 0 ≤ lo x := fun x hx => by
    have w : Wf x.2 := by
      rcases mem_items.mp (hs.mem_iff.mp hx) with ⟨_, h⟩ | ⟨_, h⟩
      · exact c1.wf _ h
      · exact c2.wf _ h
    have l := lo_ge w
    refine ⟨lo_hi w, ?_⟩
    have := w.1
    omega
  obtain ⟨e, S⟩ := swept wfS ps
  obtain ⟨x, hx⟩ := List.exists_mem_of_ne_nil g (S.ne g hg)
  have q : x ∈ items b1 b2 := hs.mem_iff.mp (by rw [← S.all]; exact List.mem_flatten.mpr ⟨g, hg, hx⟩)
  intro z
  rw [List.append_eq_nil_iff] at z
  obtain ⟨v, b⟩ := x
  rcases mem_items.mp q with ⟨e1, _⟩ | ⟨e1, _⟩
  · have e1' : v = 1 := e1
    subst e1'
    have := mem_parts.mpr hx
    rw [show parts 1 g = [] from z.1] at this
    cases this
  · have e1' : v = 2 := e1
    subst e1'
    have := mem_parts.mpr hx
    rw [show parts 2 g = [] from z.2] at this
    cases this
end K60
namespace K60
/-! ### diffs and their blocks -/
def Inc : Int → Int → List (Int × Int) → Prop
  | _, _, [] => True
  | a, c, p :: r => a < p.1 ∧ c < p.2 ∧ Inc p.1 p.2 r
abbrev BSt := List Blk × Int × Int
def bStep (st : BSt) (p : Int × Int) : BSt := (if st.2.1 = p.1 - 1 ∧ st.2.2 = p.2 - 1 then st.1 else st.1 ++ [(st.2.1, p.1 - 1, st.2.2, p.2 - 1)], p.1, p.2)
def pStep (st : BSt) (p : Int × Int) : BSt := (if st.2.1 < p.1 - 1 ∨ st.2.2 < p.2 - 1 then st.1 ++ [(st.2.1, p.1 - 1, st.2.2, p.2 - 1)] else st.1, p.1, p.2)
def blocksM (m n : Int) (ps : List (Int × Int)) : List Blk := ((ps ++ [(m + 1, n + 1)]).foldl bStep ([], 0, 0)).1
def partsM (m n : Int) (ps : List (Int × Int)) : List Blk := ((ps ++ [(m + 1, n + 1)]).foldl pStep ([], 0, 0)).1
theorem step_same {f : List Blk} {a c : Int} {p : Int × Int} (h1 : a < p.1) (h2 : c < p.2) : pStep (f, a, c) p = bStep (f, a, c) p := by
  unfold pStep bStep
  dsimp only
  by_cases h : a = p.1 - 1 ∧ c = p.2 - 1
  · rw [if_pos h, if_neg (by omega)]
  · rw [if_neg h, if_pos (by omega)]
theorem fold_same : ∀ (ps : List (Int × Int)) (f : List Blk) (a c : Int), Inc a c ps → ps.foldl pStep (f, a, c) = ps.foldl bStep (f, a, c)
  | [], _, _, _, _ => rfl
  | p :: r, f, a, c, h => by
    rw [List.foldl_cons, List.foldl_cons, step_same h.1 h.2.1]
    exact fold_same r _ p.1 p.2 h.2.2
theorem fold_chain : ∀ (ps : List (Int × Int)) (f : List Blk) (a c : Int), 0 ≤ a → Inc a c ps → ∃ g, (ps.foldl bStep (f, a, c)).1 = f ++ g ∧ Chain g ∧ ∀ k ∈ g, a ≤ k.1
  | [], f, a, c, _, _ => ⟨[], by simp, ⟨fun _ h => (by cases h), List.Pairwise.nil⟩, fun _ h => (by cases h)⟩
  | p :: r, f, a, c, h0, h => by
    obtain ⟨h1, h2, h3⟩ := h
    rw [List.foldl_cons, show bStep (f, a, c) p = (if a = p.1 - 1 ∧ c = p.2 - 1 then f else f ++ [(a, p.1 - 1, c, p.2 - 1)], p.1, p.2) from rfl]
    by_cases e : a = p.1 - 1 ∧ c = p.2 - 1
    · rw [if_pos e]
      obtain ⟨g, eg, cg, lg⟩ := fold_chain r f p.1 p.2 (by omega) h3
      exact ⟨g, eg, cg, fun k hk => by have := lg k hk; omega⟩
    · rw [if_neg e]
      obtain ⟨g, eg, cg, lg⟩ := fold_chain r (f ++ [(a, p.1 - 1, c, p.2 - 1)]) p.1 p.2 (by omega) h3
      refine ⟨(a, p.1 - 1, c, p.2 - 1) :: g, by rw [eg]; simp, ⟨fun k hk => ?_, ?_⟩, fun k hk => ?_⟩
      · rcases List.mem_cons.mp hk with rfl | hk
        · unfold Wf
          dsimp only
          omega
        · exact cg.wf k hk
      · rw [List.pairwise_cons]
        exact ⟨fun k hk => by have := lg k hk; dsimp only; omega, cg.up⟩
      · rcases List.mem_cons.mp hk with rfl | hk
        · exact Int.le_refl _
        · have := lg k hk
          omega
theorem inc_snoc {x y : Int} : ∀ {l : List (Int × Int)} {a c : Int}, Inc a c l → (∀ p ∈ l, p.1 < x ∧ p.2 < y) → a < x → c < y → Inc a c (l ++ [(x, y)])
  | [], _, _, _, _, h1, h2 => ⟨h1, h2, trivial⟩
  | p :: l, _, _, h, q, _, _ => ⟨h.1, h.2.1, inc_snoc h.2.2 (fun r hr => q r (by simp [hr])) (q p (by simp)).1 (q p (by simp)).2⟩

/-- a diff of two texts -/
structure GoodD {α : Type} (root made : List α) (ps : List (Int × Int)) : Prop where
  pair : ∀ p ∈ ps, ∃ (i j : Nat) (z : α), p = ((i : Int) + 1, (j : Int) + 1) ∧ root[i]? = some z ∧ made[j]? = some z
  inc : Inc 0 0 ps
theorem GoodD.le {α : Type} {root made : List α} {ps : List (Int × Int)} (g : GoodD root made ps) : ∀ p ∈ ps, p.1 < (root.length : Int) + 1 ∧ p.2 < (made.length : Int) + 1 := fun p hp => by
  obtain ⟨i, j, z, rfl, h1, h2⟩ := g.pair p hp
  have a := (List.getElem?_eq_some_iff.mp h1).1
  have b := (List.getElem?_eq_some_iff.mp h2).1
  dsimp only
  omega
theorem GoodD.incs {α : Type} {root made : List α} {ps : List (Int × Int)} (g : GoodD root made ps) : Inc 0 0 (ps ++ [((root.length : Int) + 1, (made.length : Int) + 1)]) := inc_snoc g.inc g.le (by omega) (by omega)
theorem GoodD.parts {α : Type} {root made : List α} {ps : List (Int × Int)} (g : GoodD root made ps) : partsM root.length made.length ps = blocksM root.length made.length ps := by
  unfold partsM blocksM
  rw [fold_same _ _ _ _ g.incs]
theorem GoodD.chain {α : Type} {root made : List α} {ps : List (Int × Int)} (g : GoodD root made ps) : Chain (blocksM root.length made.length ps) := by
  obtain ⟨b, e, c, _⟩ := fold_chain _ [] 0 0 (by omega) g.incs
  unfold blocksM
  rw [e]
  exact c
/-- neighbours in a diff -/
theorem inc_next : ∀ {l : List (Int × Int)} {a c : Int}, Inc a c l → ∀ (i : Nat) (p q : Int × Int), l[i]? = some p → l[i + 1]? = some q → p.1 < q.1 ∧ p.2 < q.2
  | [], _, _, _, i, p, q, h, _ => by simp at h
  | x :: l, _, _, h, i, p, q, h1, h2 => by
    cases i with
    | zero =>
      cases l with
      | nil => simp at h2
      | cons y l =>
        simp at h1 h2
        subst h1
        subst h2
        exact ⟨h.2.2.1, h.2.2.2.1⟩
    | succ i => exact inc_next h.2.2 i p q (by simpa using h1) (by simpa using h2)

/-! ### edited texts -/
section
variable {α : Type}
def eStep (root : List α) (st : List α × List (Int × Int)) (g : Nat) (pl : List α × Bool) : List α × List (Int × Int) :=
  match root[g]?, pl.2 with
  | some l, true => (st.1 ++ pl.1 ++ [l], st.2 ++ [((g : Int) + 1, ((st.1 ++ pl.1 ++ [l]).length : Int))])
  | _, _ => (st.1 ++ pl.1, st.2)
def edit (root : List α) (plan : List (List α × Bool)) : Nat → List α × List (Int × Int)
  | 0 => ([], [])
  | g + 1 => eStep root (edit root plan g) g (plan.getD g ([], false))
theorem edit_keep {root : List α} {st : List α × List (Int × Int)} {g : Nat} {pl : List α × Bool} {l : α} (h1 : root[g]? = some l) (h2 : pl.2 = true) :
    eStep root st g pl = (st.1 ++ pl.1 ++ [l], st.2 ++ [((g : Int) + 1, ((st.1 ++ pl.1 ++ [l]).length : Int))]) := by
  unfold eStep
  rw [h1, h2]
theorem edit_drop {root : List α} {st : List α × List (Int × Int)} {g : Nat} {pl : List α × Bool} (h : root[g]? = none ∨ pl.2 = false) : eStep root st g pl = (st.1 ++ pl.1, st.2) := by
  unfold eStep
  rcases h with h | h
  · rw [h]
  · rw [h]
    cases root[g]? <;> rfl
structure Edited (root : List α) (W : α → Prop) (g : Nat) (st : List α × List (Int × Int)) : Prop where
  good : GoodD root st.1 st.2
  at_most : ∀ p ∈ st.2, p.1 ≤ (g : Int)
  words : ∀ z ∈ st.1, W z
  len : st.1.length ≤ 3 * g
theorem edited {root : List α} {W : α → Prop} {plan : List (List α × Bool)} (hr : ∀ z ∈ root, W z) (hp : ∀ pl ∈ plan, pl.1.length ≤ 2 ∧ ∀ z ∈ pl.1, W z) : ∀ g, Edited root W g (edit root plan g)
  | 0 => ⟨⟨fun _ h => (by cases h), trivial⟩, fun _ h => (by cases h), fun _ h => (by cases h), Nat.le_refl _⟩
  | g + 1 => by
    obtain ⟨⟨q1, q2⟩, am, w, ln⟩ := edited hr hp g
    have hpl : (plan.getD g ([], false)).1.length ≤ 2 ∧ ∀ z ∈ (plan.getD g ([], false)).1, W z := by
      rw [List.getD_eq_getElem?_getD]
      cases e : plan[g]? with
      | none => exact ⟨Nat.zero_le _, fun _ h => (by cases h)⟩
      | some pl => exact hp pl (List.mem_of_getElem? e)
    show Edited root W (g + 1) (eStep root (edit root plan g) g (plan.getD g ([], false)))
    generalize plan.getD g ([], false) = pl at hpl ⊢
    generalize edit root plan g = st at q1 q2 am w ln ⊢
    have wider : ∀ (more : List α), ∀ p ∈ st.2, ∃ (i j : Nat) (z : α), p = ((i : Int) + 1, (j : Int) + 1) ∧ root[i]? = some z ∧ (st.1 ++ more)[j]? = some z := fun more p hp => by
      obtain ⟨i, j, z, e, h1, h2⟩ := q1 p hp
      refine ⟨i, j, z, e, h1, ?_⟩
      rw [List.getElem?_append_left (List.getElem?_eq_some_iff.mp h2).1]
      exact h2
    cases er : root[g]? with
    | none =>
      rw [edit_drop (.inl er)]
      refine ⟨⟨wider pl.1, q2⟩, fun p h => by have := am p h; omega, fun z hz => ?_, ?_⟩
      · rcases List.mem_append.mp hz with h | h
        · exact w z h
        · exact hpl.2 z h
      · dsimp only
        rw [List.length_append]
        omega
    | some l =>
      cases ek : pl.2 with
      | false =>
        rw [edit_drop (.inr ek)]
        refine ⟨⟨wider pl.1, q2⟩, fun p h => by have := am p h; omega, fun z hz => ?_, ?_⟩
        · rcases List.mem_append.mp hz with h | h
          · exact w z h
          · exact hpl.2 z h
        · dsimp only
          rw [List.length_append]
          omega
      | true =>
        rw [edit_keep er ek]
        refine ⟨⟨fun p h => ?_, ?_⟩, fun p h => ?_, fun z hz => ?_, ?_⟩
        · rcases List.mem_append.mp h with h | h
          · have := wider (pl.1 ++ [l]) p h
            simpa using this
          · rw [List.mem_singleton.mp h]
            refine ⟨g, (st.1 ++ pl.1).length, l, ?_, er, by simp⟩
            simp only [List.length_append, List.length_singleton, Int.natCast_add, Int.natCast_one]
        · refine inc_snoc q2 (fun p h => ?_) (by omega) (by simp only [List.length_append, List.length_singleton]; omega)
          obtain ⟨i, j, z, e, h1, h2⟩ := q1 p h
          have a := am p h
          have b := (List.getElem?_eq_some_iff.mp h2).1
          rw [e] at a ⊢
          simp only [List.length_append, List.length_singleton]
          dsimp only at a ⊢
          omega
        · rcases List.mem_append.mp h with h | h
          · have := am p h
            omega
          · rw [List.mem_singleton.mp h]
            dsimp only
            omega
        · simp only [List.mem_append, List.mem_singleton] at hz
          rcases hz with (h | h) | h
          · exact w z h
          · exact hpl.2 z h
          · rw [h]
            exact hr l (List.mem_of_getElem? er)
        · simp only [List.length_append, List.length_singleton]
          omega
end
end K60

namespace K60
open PySem PySem.Spec PyProof.Rows L2

/-! ### 1. a def called by its positional promise, no star in the call -/
section
variable {X : Cx}
theorem call_plainR {CX : CXT} {k : Nat} {f : Addr} {sp : Sp} {E : XK} {x : Str} {e : Expr} {es : List Expr} {t : TA} {p pos : Pos}
    (F : FnR X.prog X.w X.K X.mg X.base CX k f sp) (room : Room k X.A) (gx : Gl X x) (mx : X.mg x = some (.ref f)) (kept : PySem.W.keepIn X.K (.ref f) = true)
    (out : Passes CX X E) (args : PA X (e :: es) t) (nd : (x == ("__debug__" : Str)) = false := by decide)
    (st : starEach (e :: es) X.env = (false, eval e X.env) :: starEach es X.env := by rfl)
    (pl : (backTo pos (starEach es X.env)).any (·.1) = false := by rfl) :
    PE X (.Call (.Name x p) (e :: es) [] pos) (fun σ H Q => t σ H fun vs H1 => sp vs H1 Q E) where
  run := fun pins s σ H Q I h => wpAny_Call_Name_kw (ld_glob I gx mx (PySem.W.callWith_K (h₀ := X.base) I.ok.mod.kin kept
    (thn (args.run pos pins s σ H _ I h) fun _ _ ⟨_, _, I1, r, q⟩ => ⟨I1.kIn, wpAny_call (run_fnR F room out I1 r q)⟩) st pl) nd)

/-! ### 2. a walk over a list or a tuple -/
theorem pi_either {tg it : Expr} {t u : TI} (a : PI X tg it t) (b : PI X tg it u) : PI X tg it (fun σ H R => t σ H R ∨ u σ H R) where
  run := fun pins s σ H R I h => h.elim (a.run pins s σ H R I) (b.run pins s σ H R I)

/-! ### 3. xs.extend(t), t a tuple -/
theorem meets_extend_tup (l : Addr) (items : Array Value) (n : Nat) (b : Addr) (items2 : Array Value) (n2 : Nat) (dd : Option Addr) (sl : Array (Option Value))
    (h0 : ¬(!items.isEmpty && Builtin.List.listTooLong (items.size + items2.size)) = true) (h1 : items.size ≤ sizeLine) (h2 : items.size + items2.size ≤ sizeLine + 1) :
    Meets (Builtin.«list.extend» ⟨[.ref l, .ref b], []⟩) (fun _ R s => s.heap.get? l = some { cls := .type "list", dict := none, data := .seq items n, slots := #[] } ∧
      s.heap.get? b = some { cls := .type "tuple", dict := dd, data := .seq items2 n2, slots := sl } ∧
      R (.ok (.ret Value.none)) { s with heap := s.heap.update l (Obj.mapSeq fun x => x ++ items2), toks := s.toks }) :=
  .of_wp fun prog w A R s h => by
    obtain ⟨hp, g, d, tk, os⟩ := s
    obtain ⟨hl, hb, h⟩ := h
    have f1 := AutoSeq1.idx_int
    have f2 := AutoSeq1.sub_tuple_tuple
    have f3 := AutoSeq1.sub_list_list
    have f4 := AutoSeq1.sub_tuple_list
    have f5 := AutoSeq1.sub_list_tuple
    have big : (items ++ items2).size ≤ sizeLine + 1 := by rw [Array.size_append]; exact h2
    wp_walk using (wpAny_updateSeq hl rfl (hz := h1) (_hz' := big)), wpAny_loadPart' hl, wpAny_loadPart' hb
    exact ⟨_, rfl, h⟩
end
end K60

namespace K60
open PySem PySem.Spec PyProof.Rows L2
section
variable {X : Cx}
/-- xs.extend(t), t a tuple -/
def rExtT (K : PySem.W.Frag) : V → List V → Hp → VK → Prop := fun x vs H Q => ∃ l b xs zs, x = .ref l ∧ vs = [.ref b] ∧ H l = some (.lst xs) ∧ SqT K H b zs ∧
  xs.length + zs.length ≤ sizeLine ∧ Q .non (upd H l (.lst (xs ++ zs)))
theorem mt_extT : MtM X "list.extend" (rExtT X.K) := by
  intro pins s σ H x vs v us Q I rx rv h
  obtain ⟨l, b, xs, zs, rfl, rfl, hl, hb, small, q⟩ := h
  obtain rfl : v = Value.ref l := rx
  obtain ⟨u, rfl, ru⟩ := rv.one
  obtain rfl : u = Value.ref b := ru
  obtain ⟨_, its, n, r, len1, el⟩ := I.lstM hl
  obtain ⟨its2, r2, ⟨⟨oc, od, odat, osl⟩, eb, hc, n2, hd⟩, _⟩ := I.tuple hb
  obtain rfl : oc = Value.type "tuple" := hc
  obtain rfl : odat = Data.seq its2.toArray n2 := hd
  have len2 := r2.length
  have fit : its.toArray.size + its2.toArray.size ≤ sizeLine := by simp only [List.size_toArray]; omega
  refine call_meets F.slot_list_extend ⟨_, el, rfl⟩ F.entry_list_extend (F.args_list_extend_2 _ _)
    (meets_extend_tup l its.toArray n b its2.toArray n2 od osl (by rw [notLongL fit, Bool.and_false]; decide) (by simp only [List.size_toArray] at fit ⊢; omega) (by omega)) ⟨el, eb, ?_⟩
  exact ⟨.non, _, I.lset (its' := its ++ its2) hl el (by simp) (r.append r2) (by rw [List.length_append]; exact small), rfl, q⟩

/-! ### zip(t, u, strict=False) of tuples -/
theorem zipK_type (a b : Value) : checkTypeCall "zip" ⟨[a, b], [(Str.ofString "strict", .bool false)]⟩ = pure () := by kernel_rfl
theorem zipK_new (a b : Value) : checkBuiltinCall "zip.__new__" ⟨[.type "zip", a, b], [(Str.ofString "strict", .bool false)]⟩ = pure () := by kernel_rfl
theorem zipK_init (a b c : Value) : argsOk "object.__init__" ⟨[a, b, c], [(Str.ofString "strict", .bool false)]⟩ := by unfold argsOk; kernel_rfl
theorem meets_zipK (l1 l2 : Addr) (xs ys : Array Value) :
    Meets (Builtin.«zip.__new__» ⟨[.type "zip", .ref l1, .ref l2], [(Str.ofString "strict", .bool false)]⟩) (fun _ R s => s.heap.IsTuple l1 xs ∧ s.heap.IsTuple l2 ys ∧
      R (.ok (.ret (.ref (RZ.zipTH4 s.heap l1 l2).objs.size))) { s with heap := RZ.zipTH5 s.heap l1 l2 }) :=
  .of_wp fun prog w A R s h => by
    obtain ⟨hp, g, d, tk, os⟩ := s
    obtain ⟨hl1, hl2, h⟩ := h
    have hsub := sub_zip
    have e1 : (Str.ofString "strict" != ("strict" : Str)) = false := by decide +kernel
    have t1 : Heap.IsTuple (Shared.heap ⟨hp, g, d, tk, os⟩) l1 xs := hl1
    have t2 : Heap.IsTuple (Shared.heap ⟨hp.push { cls := .type "tuple_iterator", data := .fields #[.ref l1, .int 0 0] }, g, d, tk, os⟩) l2 ys := Heap.IsTuple.push hl2 _
    wp_walk using wpAny_pyIter_tuple t1, wpAny_pyIter_tuple t2
    exact ⟨_, rfl, h⟩
end
end K60

namespace K60
open PySem PySem.Spec PyProof.Rows L2
section
variable {X : Cx}
/-- a built-in class called with keywords -/
theorem callWith_tyKw {M : Model} {A : Around} {E : Value → Shared → Prop} {s : Shared} {pos : Pos} {T : String} {first : List Value} {args : List (Bool × Sem Value)}
    {kws : List (Option Str × Sem Value)} {Q : Value → Shared → Prop} (pl : args.any (·.1) = false) (nn : kws.any (·.1.isNone) = false)
    (h : wpAny M A (evalArgs (.type T) true args kws) (fun a s₁ => wpAny M A (call (.type T) (first ++ a.pos) a.kw) Q E s₁) E s) :
    wpAny M A (callWith pos (.type T) first args kws) Q E s := by
  unfold callWith
  refine wpAny_bind (wpAny_holding (wpAny_mono h (fun a s₁ h₁ => wpAny_bind (wpAny_standAt ?_)) fun _ _ x => x))
  simp only [pl, nn, Bool.or_false]
  exact wpAny_bind (wpAny_pure (wpAny_bind (wpAny_mono h₁ (fun r s₂ hr => wpAny_bind (wpAny_holding (wpAny_point (wpAny_pure hr)))) fun _ _ x => x)))

theorem call_zipK {prog : Program} {w : World} {A : Around} {E : Value → Shared → Prop} {s : Shared} {l1 l2 : Addr} {xs ys : Array Value} {Q : Value → Shared → Prop}
    (h1 : s.heap.IsTuple l1 xs) (h2 : s.heap.IsTuple l2 ys)
    (h : ∀ h', IsZip h' (s.heap.objs.size + 4) (s.heap.objs.size + 2) (s.heap.objs.size + 3) .none → IsPair h' (s.heap.objs.size + 2) (.ref s.heap.objs.size) (.ref (s.heap.objs.size + 1)) →
      IsPair h' (s.heap.objs.size + 3) .none .none → h'.IsTupleIter s.heap.objs.size l1 0 → h'.IsTupleIter (s.heap.objs.size + 1) l2 0 →
      (∀ c o, s.heap.get? c = some o → h'.get? c = some o) → Q (.ref (s.heap.objs.size + 4)) { s with heap := h' }) :
    wpAny (model prog w) A (call (.type "zip") [.ref l1, .ref l2] [(Str.ofString "strict", .bool false)]) Q E s := by
  refine callType_newKw F.called_zip (by decide) (zipK_type _ _) (zipK_new _ _) (fun obj => zipK_init obj _ _) F.entry_zip_new (meets_zipK l1 l2 xs ys) ⟨h1, h2, ?_⟩
  have up : ∀ (g : Heap) (o : Obj) (c : Addr) (x : Obj), g.get? c = some x → (g.push o).get? c = some x := fun g o c x e => Heap.get?_push_of_some _ e
  have n1 : (RZ.zipTH1 s.heap l1).objs.size = s.heap.objs.size + 1 := Heap.size_push ..
  have n2 : (RZ.zipTH2 s.heap l1 l2).objs.size = s.heap.objs.size + 2 := by rw [Heap.size_push, n1]
  have n3 : (RZ.zipTH3 s.heap l1 l2).objs.size = s.heap.objs.size + 3 := by rw [Heap.size_push, n2]
  have n4 : (RZ.zipTH4 s.heap l1 l2).objs.size = s.heap.objs.size + 4 := by rw [Heap.size_push, n3]
  have o5 : (RZ.zipTH5 s.heap l1 l2).get? (RZ.zipTH4 s.heap l1 l2).objs.size = some _ := Heap.get?_push_size _ rfl
  have o4 : (RZ.zipTH5 s.heap l1 l2).get? (RZ.zipTH3 s.heap l1 l2).objs.size = some _ := up _ _ _ _ (Heap.get?_push_size _ rfl)
  have o3 : (RZ.zipTH5 s.heap l1 l2).get? (RZ.zipTH2 s.heap l1 l2).objs.size = some _ := up _ _ _ _ (up _ _ _ _ (Heap.get?_push_size _ rfl))
  have o2 : (RZ.zipTH5 s.heap l1 l2).get? (RZ.zipTH1 s.heap l1).objs.size = some _ := up _ _ _ _ (up _ _ _ _ (up _ _ _ _ (Heap.get?_push_size _ rfl)))
  have o1 : (RZ.zipTH5 s.heap l1 l2).get? s.heap.objs.size = some _ := up _ _ _ _ (up _ _ _ _ (up _ _ _ _ (up _ _ _ _ (Heap.get?_push_size _ rfl))))
  show _ ∧ _
  rw [n2, n3, n4] at o5
  rw [n1, n2] at o3
  rw [n3] at o4
  rw [n1] at o2
  rw [n4]
  exact ⟨⟨_, o5, rfl⟩, h _ o5 o3 o4 ⟨_, o1, rfl, rfl⟩ ⟨_, o2, rfl, rfl⟩ fun c o e => up _ _ _ _ (up _ _ _ _ (up _ _ _ _ (up _ _ _ _ (up _ _ _ _ e))))⟩

def iZipK (K : PySem.W.Frag) (ta tk : TA) : TI := fun σ H R => ta σ H fun vs H1 => tk σ H1 fun zs H2 => ∃ a b xs ys, vs = [.ref a, .ref b] ∧ zs = [.bl false] ∧ SqT K H2 a xs ∧ SqT K H2 b ys ∧ R (RZ.ItzT K a b) H2
theorem pi_zipK {e e2 : Expr} {ta tk : TA} {p pos tpos : Pos} {elts : List Expr} {kk : Nat} {kws : List Keyword} (hg : Gl X "zip") (hm : X.mg "zip" = none) (ha : PA X [e, e2] ta) (hk : PK X kws tk)
    (he : backTo pos (starEach [e, e2] X.env) = (false, eval e X.env) :: backTo pos (starEach [e2] X.env) := by rfl) (hpl : (backTo pos (starEach [e, e2] X.env)).any (·.1) = false := by rfl)
    (hall : (backToKw pos (keywordEach kws X.env)).all (·.1.isSome) = true := by rfl) (hnone : (backToKw pos (keywordEach kws X.env)).any (·.1.isNone) = false := by rfl)
    (hks : (backToKw pos (keywordEach kws X.env)).filterMap (·.1) = [Str.ofString "strict"] := by rfl) :
    PI X (.Tuple elts kk tpos) (.Call (.Name "zip" p) [e, e2] kws pos) (iZipK X.K ta tk) := by
  refine ⟨fun pins s σ H R I h => ?_⟩
  refine wpAny_Call_Name_kw (ld_blt I hg hm PyProof.Rows.boot_zip (callWith_tyKw hpl hnone ?_))
  rw [he]
  refine evalArgs_kwB hall ?_
  rw [← he]
  refine thn (ha.run pos pins s σ H _ I h) fun us s1 ⟨vs, H1, I1, r1, q1⟩ => thn (hk.run pos pins s1 σ H1 _ I1 q1) fun ws s2 ⟨zs, H2, I2, r2, q2⟩ => ?_
  obtain ⟨a, b, xs, ys, rfl, rfl, hx, hy, q⟩ := q2
  obtain ⟨u, v, rfl, ru, rv⟩ := r1.two
  obtain rfl : u = Value.ref a := ru
  obtain rfl : v = Value.ref b := rv
  obtain ⟨z, rfl, rz⟩ := r2.one
  obtain rfl : z = Value.bool false := rz
  rw [hks]
  obtain ⟨its, _, p1, _⟩ := I2.tuple hx
  obtain ⟨its2, _, p2, _⟩ := I2.tuple hy
  have lt1 : a < s2.heap.objs.size := let ⟨_, e, _⟩ := p1; Heap.lt_size e
  have lt2 : b < s2.heap.objs.size := let ⟨_, e, _⟩ := p2; Heap.lt_size e
  refine call_zipK (show s2.heap.IsTuple a its.toArray from p1) (show s2.heap.IsTuple b its2.toArray from p2) fun h' hz hTI hTO h1 h2 kp => wpAny_pyIter_zip hz ?_
  refine ⟨s2.heap.objs.size + 4, [s2.heap.objs.size + 4, s2.heap.objs.size + 2, s2.heap.objs.size + 3, s2.heap.objs.size, s2.heap.objs.size + 1], _, _, H2, rfl, I2.kept (t' := s2.toks) kp,
    RZ.turn_zipT (PySem.W.ktu_apart s2.heap.objs.size a b lt1 lt2), ⟨hz, hTI, ⟨_, _, hTO⟩, h1, h2⟩, fun c hc => ?_, q⟩
  have le : s2.heap.objs.size ≤ c := by
    have e' : c = s2.heap.objs.size + 4 ∨ c = s2.heap.objs.size + 2 ∨ c = s2.heap.objs.size + 3 ∨ c = s2.heap.objs.size ∨ c = s2.heap.objs.size + 1 := by simpa using hc
    rcases e' with z | z | z | z | z
    · exact z ▸ Nat.le_add_right _ _
    · exact z ▸ Nat.le_add_right _ _
    · exact z ▸ Nat.le_add_right _ _
    · exact z ▸ Nat.le_refl _
    · exact z ▸ Nat.le_add_right _ _
  exact I2.fpOk le (I2.hok.fresh le)
end
end K60

namespace K60
open PySem PySem.Spec PyProof.Rows L2

mutual
theorem noDict {K : PySem.W.Frag} {H : Hp} : ∀ (d : PyData) (v : V), Dp K H v d → d.hasDict = false
  | .none, _, _ => by simp only [PyData.hasDict]
  | .bool _, _, _ => by simp only [PyData.hasDict]
  | .int _, _, _ => by simp only [PyData.hasDict]
  | .str _, _, _ => by simp only [PyData.hasDict]
  | .list ds, _, h => by
    cases h with
    | lst _ a => simpa only [PyData.hasDict] using noDictAll ds _ a
  | .tuple ds, _, h => by
    cases h with
    | tup _ a => simpa only [PyData.hasDict] using noDictAll ds _ a
  | .dict _, _, h => by cases h
theorem noDictAll {K : PySem.W.Frag} {H : Hp} : ∀ (ds : List PyData) (vs : List V), DpAll K H vs ds → PyData.hasDictAll ds = false
  | [], _, _ => by simp only [PyData.hasDictAll]
  | d :: ds, _, h => by
    cases h with
    | cons a b => simp only [PyData.hasDictAll, noDict d _ a, noDictAll ds _ b, Bool.or_self]
end

section
variable {X : Cx}
/-- repr of nested data without dicts -/
def rRepr (K : PySem.W.Frag) : List V → Hp → VK → Prop := fun vs H Q => ∃ a d, vs = [V.ref a] ∧ Dp K H (V.ref a) d ∧ d.showable = true ∧ d.shown.length ≤ sizeLine ∧ d.depth ≤ 60 ∧ Q (.str d.shown) H
theorem cr_repr (hg : X.A.guards = some []) (hu : X.A.units + 64 < cLine) : CallR X (.builtin "repr") (rRepr X.K) := by
  intro pins s σ H vs us Q I r h
  obtain ⟨a, d, rfl, hd, sh, sz, dp, q⟩ := h
  obtain rfl := Vals.ref1 r
  obtain ⟨as, rd⟩ := Dp.reads I d _ _ hd rfl
  exact repr_of_reads' rd sh (noDict_of_eq (noDict d _ hd)) hg (by omega) (fun _ _ e => e) (fun h' u tk kp => ⟨.str _, H, I.kept kp, ⟨_, rfl⟩, q⟩) sz
where
  noDict_of_eq {d : PyData} {as : List Addr} (h : d.hasDict = false) : d.hasDict = true → sysModules ∉ as := PyData.noDict_hsm h

/-- repr of a dict with text keys over such data, at the level of the library -/
theorem repr_dict {prog : Program} {w : World} {A : Around} {E : Value → Shared → Prop} {s : Shared} {Q : Value → Shared → Prop} {a : Addr} {o : Obj} {es : Array DictEntry} {n : Nat} {kvs : List (PyData × PyData)} {as bs : List Addr}
    (h1 : s.heap.get? a = some o) (h2 : o.cls = .type "dict") (h3 : o.data = .dict es n) (hsys : (a == sysModules) = false)
    (rk : ReadsAll s.heap (es.toList.map (·.key)) (kvs.map (·.1)) as) (rv : ReadsAll s.heap (es.toList.map (·.val)) (kvs.map (·.2)) bs)
    (nk : PyData.hasDictAll (kvs.map (·.1)) = false) (nv : PyData.hasDictAll (kvs.map (·.2)) = false) (sh : PyData.showableKv kvs = true)
    (sz : (dictText (PyData.shownKv kvs)).length ≤ sizeLine) (hg : A.guards = some []) (hu : A.units + 2 + PyData.depthKv kvs < cLine)
    (q : ∀ h' u tk, (∀ b o, s.heap.get? b = some o → h'.get? b = some o) → Q (.str (dictText (PyData.shownKv kvs)) u) { s with heap := h', toks := tk }) :
    wpAny (model prog w) A (call (.builtin "repr") [.ref a]) Q E s := by
  obtain ⟨s1, s2⟩ := PyData.showableKv_split kvs sh
  obtain ⟨b1, hb1, k1⟩ := ReprAllK.of_readsAll (prog := prog) (w := w) rk s1 (fun e => absurd (nk.symm.trans e) Bool.false_ne_true)
    (fun t ht => let ⟨p, hp, hl⟩ := PyData.shownKv_key_le kvs t ht; Nat.le_trans hl (Nat.le_trans (dictText_mem_le hp) sz))
  obtain ⟨b2, hb2, k2⟩ := ReprAllK.of_readsAll (prog := prog) (w := w) rv s2 (fun e => absurd (nv.symm.trans e) Bool.false_ne_true)
    (fun t ht => let ⟨p, hp, hl⟩ := PyData.shownKv_val_le kvs t ht; Nat.le_trans hl (Nat.le_trans (dictText_mem_le hp) sz))
  have deep : ReadAtMost s.heap (PyData.depthKv kvs) (b1 ++ b2) := (hb1.mono (PyData.depthAll_keys_le kvs)).append (hb2.mono (PyData.depthAll_vals_le kvs))
  have apart : a ∉ b1 ++ b2 := not_mem_of_deeper (.dict h1 h2 h3 rk rv) (by simp only [PyData.depth]; omega) deep
  rw [PyData.shownKv_eq] at sz
  simp only [PyData.shownKv_eq] at q
  refine call_repr_slot (by omega) ⟨o, h1, h2⟩ F.slot_dict_repr (call_dict_reprK h1 h2 h3 hsys apart (ReprEntriesK.of_two es.toList _ _
    (k1.more_le (fun b hb => List.mem_append_left _ hb) (PyData.depthAll_keys_le kvs)) (k2.more_le (fun b hb => List.mem_append_right _ hb) (PyData.depthAll_vals_le kvs)))
    hg (fun b _ => Clear.nil b) (by show A.units + 1 + (PyData.depthKv kvs + 1) < cLine; omega) (fun _ _ e => e) (fun h' u tk kp => ⟨_, _, rfl, q h' u tk kp⟩) sz)

/-- the dict's entries, as the library reads them -/
theorem dict_reads {knd : KeyKind X.prog X.w Key} (hk : knd = mixKind X.prog X.w) {pins : List (Addr × Obj)} {s : Shared} {σ : L2.St} {H : Hp} (I : Inv X pins σ H s) :
    ∀ {el : List DictEntry} {vs : List (Key × Value)} {kvs : List (Key × V)} {zs : List (Str × PyData)}, Pairs knd el vs → KV kvs vs → kvs.map (·.1) = zs.map (fun z => Sum.inr z.1) → DpAll X.K H (kvs.map (·.2)) (zs.map (·.2)) →
      ∃ as bs, ReadsAll s.heap (el.map (·.key)) ((zs.map fun z => ((PyData.str z.1, z.2) : PyData × PyData)).map (·.1)) as ∧ ReadsAll s.heap (el.map (·.val)) ((zs.map fun z => ((PyData.str z.1, z.2) : PyData × PyData)).map (·.2)) bs
  | _, _, [], [], p, r, _, _ => by
    cases r
    cases p
    exact ⟨_, _, .nil, .nil⟩
  | _, _, [], _ :: _, _, _, e, _ => by cases e
  | _, _, _ :: _, [], _, _, e, _ => by cases e
  | _, _, (k, v) :: kvs, (z, d) :: zs, p, r, e, h => by
    cases r with
    | cons r1 r2 =>
      cases h with
      | cons h1 h2 =>
        simp only [List.map_cons, List.cons.injEq] at e
        obtain ⟨e1, e2⟩ := e
        cases p with
        | cons pk pv pr =>
          rename_i q l2 en el
          obtain ⟨kq, uq⟩ := q
          obtain ⟨ek, rv⟩ := r1
          have ek' : k = kq := ek
          subst ek'
          subst e1
          subst hk
          obtain ⟨as, bs, A1, A2⟩ := dict_reads rfl I pr r2 e2 h2
          obtain ⟨cs, rd⟩ := Dp.reads I d v uq h1 rv
          have pv' : en.val = uq := pv
          have ke : ∃ t, en.key = Value.str z t := by
            rcases keyIs_shape (show keyIs (Sum.inr z) en.key = true from pk) with ⟨i, t, e, _⟩ | ⟨x, t, e, e'⟩
            · cases e
            · cases e
              exact ⟨t, e'⟩
          obtain ⟨t, ke⟩ := ke
          refine ⟨[] ++ as, cs ++ bs, ?_, ?_⟩
          · show ReadsAll s.heap (en.key :: el.map (·.key)) (PyData.str z :: _) _
            exact .cons (ke ▸ Reads.str z t) A1
          · show ReadsAll s.heap (en.val :: el.map (·.val)) (d :: _) _
            exact .cons (pv' ▸ rd) A2
theorem dict_noKeys : ∀ zs : List (Str × PyData), PyData.hasDictAll ((zs.map fun z => ((PyData.str z.1, z.2) : PyData × PyData)).map (·.1)) = false
  | [] => by simp [PyData.hasDictAll]
  | z :: zs => by
    show PyData.hasDictAll (PyData.str z.1 :: _) = false
    rw [PyData.hasDictAll, dict_noKeys zs]
    simp [PyData.hasDict]
theorem dict_vals (zs : List (Str × PyData)) : (zs.map fun z => ((PyData.str z.1, z.2) : PyData × PyData)).map (·.2) = zs.map (·.2) := by
  rw [List.map_map]
  rfl
def kvD (zs : List (Str × PyData)) : List (PyData × PyData) := zs.map fun z => (PyData.str z.1, z.2)
/-- repr of a dict with text keys -/
def rReprD (K : PySem.W.Frag) : List V → Hp → VK → Prop := fun vs H Q => ∃ (a : Addr) (kvs : List (Key × V)) (zs : List (Str × PyData)), vs = [V.ref a] ∧ H a = some (.dK kvs) ∧ kvs.map (·.1) = zs.map (fun z => Sum.inr z.1) ∧
  DpAll K H (kvs.map (·.2)) (zs.map (·.2)) ∧ PyData.showableKv (kvD zs) = true ∧ (dictText (PyData.shownKv (kvD zs))).length ≤ sizeLine ∧ PyData.depthKv (kvD zs) ≤ 60 ∧ Q (.str (dictText (PyData.shownKv (kvD zs)))) H
theorem cr_reprD (hg : X.A.guards = some []) (hu : X.A.units + 64 < cLine) : CallR X (.builtin "repr") (rReprD X.K) := by
  intro pins s σ H vs us Q I r h
  obtain ⟨a, kvs, zs, rfl, ha, hk, hd, sh, sz, dp, q⟩ := h
  obtain rfl := Vals.ref1 r
  obtain ⟨_, nosys, vs, kv, o, es, ep, ho, ⟨hc, _, _⟩, hdat, _, pr, _⟩ := I.hok a _ ha
  obtain ⟨as, bs, A1, A2⟩ := dict_reads rfl I pr kv hk hd
  refine repr_dict (kvs := kvD zs) ho hc hdat nosys A1 A2 (dict_noKeys zs) ?_ sh sz hg (by omega) fun h' u tk kp => ⟨.str _, H, I.kept kp, ⟨_, rfl⟩, q⟩
  show PyData.hasDictAll ((zs.map fun z => ((PyData.str z.1, z.2) : PyData × PyData)).map (·.2)) = false
  rw [dict_vals]
  exact noDictAll _ _ hd
end
end K60

namespace K60
open PySem PySem.Spec PyProof.Rows L2

section
variable {β : Type} {X : Cx} {pins : List (Addr × Obj)} {σ : L2.St} {H : Hp} {s : Shared}
/-- a value of the machine stands for the data of b -/
def Std (K : PySem.W.Frag) (H : Hp) (enc : β → PyData) (v : Value) (b : β) : Prop := ∃ x, L2.RelV x v ∧ Dp K H x (enc b)
theorem std_all {K : PySem.W.Frag} {enc : β → PyData} : ∀ {bs : List β} {xs : List V} {us : List Value}, DpAll K H xs (bs.map enc) → Vals xs us → PySem.W.EachIs (Std K H enc) us bs
  | [], _, _, h, r => by
    have h' : DpAll K H _ [] := h
    cases h'
    cases r
    exact .nil
  | b :: bs, _, _, h, r => by
    have h' : DpAll K H _ (enc b :: bs.map enc) := h
    cases h' with
    | cons h1 h2 =>
      cases r with
      | cons r1 r2 => exact .cons ⟨_, r1, h1⟩ (std_all h2 r2)
theorem std_back {K : PySem.W.Frag} {enc : β → PyData} : ∀ {us : List Value} {bs : List β}, PySem.W.EachIs (Std K H enc) us bs → ∃ xs, Vals xs us ∧ DpAll K H xs (bs.map enc)
  | _, _, .nil => ⟨[], .nil, .nil⟩
  | _, _, .cons ⟨x, r, h⟩ t => by
    obtain ⟨xs, r2, h2⟩ := std_back t
    exact ⟨x :: xs, .cons r r2, .cons h h2⟩
theorem std_reads (I : Inv X pins σ H s) {enc : β → PyData} {v : Value} {b : β} (h : Std X.K H enc v b) : ∃ as, Reads s.heap v (enc b) as := by
  obtain ⟨x, r, d⟩ := h
  exact Dp.reads I _ _ _ d r

theorem first_le {enc : β → PyData} {first : β → Int} (hf : ∀ b, ∃ r, enc b = .tuple (.int (first b) :: r)) {x y : β} (h : PySem.W.dataLe false enc x y = true) : first x ≤ first y := by
  refine Int.not_lt.mp fun lt => ?_
  have h' : (!PySem.W.dataLt (enc y) (enc x)) = true := h
  obtain ⟨r, ex⟩ := hf x
  obtain ⟨t, ey⟩ := hf y
  rw [ex, ey, PySem.W.dataLt_tuple, PySem.W.dataLt_cons (by simp [PySem.W.alike])] at h'
  rw [if_neg (by simp only [PyData.eqv, beq_iff_eq]; omega), PySem.W.dataLt_int, decide_eq_true lt] at h'
  cases h'

/-- sorted of data that are tuples led by whole numbers -/
def rSortD (K : PySem.W.Frag) (enc : β → PyData) (first : β → Int) : List V → Hp → VK → Prop := fun vs H Q => ∃ (a : Addr) (xs : List V) (bs : List β), vs = [V.ref a] ∧ SqL K H a xs ∧ DpAll K H xs (bs.map enc) ∧
  ∀ (ys : List V) (zs : List β) (p : Addr), zs.Perm bs → zs.Pairwise (fun x y => first x ≤ first y) → DpAll K H ys (zs.map enc) → H p = none → Q (.ref p) (upd H p (.lst ys))
theorem cr_sortD {enc : β → PyData} {first : β → Int} (hf : ∀ b, ∃ r, enc b = .tuple (.int (first b) :: r)) (hal : ∀ b b', PySem.W.alike (enc b) (enc b') = true) (hdp : ∀ b, (enc b).depth ≤ 60) (hu : X.A.units + 64 < cLine) :
    CallR X (.builtin "sorted") (rSortD X.K enc first) := by
  intro pins s σ H vs us Q I r h
  obtain ⟨a, xs, bs, rfl, hs, hd, q⟩ := h
  obtain rfl := Vals.ref1 r
  obtain ⟨its, rv, hl, hz⟩ := I.list hs
  have e := std_all hd rv
  have len1 := rv.length
  have len2 := e.length
  refine PySem.W.sorted_data (enc := enc) hl.isList e (e.mono fun v b h => std_reads I h) (PySem.W.AllAlike.of hal) (PySem.W.Sortable.tuples fun b => let ⟨r, e⟩ := hf b; ⟨_, r, e⟩) (by omega)
    (fun b _ => by have := hdp b; omega) fun out ho eo => ?_
  obtain ⟨ys, ry, dy⟩ := std_back eo
  obtain ⟨ep, he'⟩ := PyProof.Rows.sortedAll_at s.heap its out.toArray
  have pw := List.pairwise_mergeSort (le := PySem.W.dataLe false enc) (fun a b c => (PySem.W.sortLe_total _ _ _).trans a b c) (fun a b => by rw [Bool.or_eq_true]; exact (PySem.W.sortLe_total _ _ _).total a b) bs
  have hlen : ys.length ≤ sizeLine := by rw [ry.length, ho]; omega
  exact ⟨.ref _, upd H (s.heap.objs.size + 1) (.lst ys), I.laid (t' := s.toks) (fun _ _ => PyProof.Rows.sortedAll_old) (Nat.le_succ _) ⟨hlen, out, ep, ry, he'⟩, rfl,
    q ys _ _ (List.mergeSort_perm _ _) (pw.imp fun h => first_le hf h) dy (I.hok.fresh (Nat.le_succ _))⟩
end
end K60

namespace K60
open PySem PySem.Spec PyProof.Rows L2

section
variable {prog : Program} {w : World} {A : Around} {E : Value → Shared → Prop} {a kS : Addr} {vs : List Value} {ks : List Int} {e1 : Nat} {P : PySem.Fin → Shared → Prop} {f : Value}
/-- key values that are whole numbers -/
abbrev IntKeys : List Value → List Int → Prop := PySem.W.EachIs fun v k => ∃ t, v = Value.int k t
theorem intKeys_reads {h : Heap} : ∀ {us : List Value} {ns : List Int}, IntKeys us ns → PySem.W.EachIs (fun v d => ∃ as, Reads h v d as) us (ns.map PyData.int)
  | _, _, .nil => .nil
  | _, _, .cons ⟨t, e⟩ r => .cons ⟨_, e ▸ Reads.int _ t⟩ (intKeys_reads r)
theorem intKeys_snoc {v : Value} {k : Int} (h : ∃ t, v = Value.int k t) : ∀ {us : List Value} {ns : List Int}, IntKeys us ns → IntKeys (us ++ [v]) (ns ++ [k])
  | _, _, .nil => .cons h .nil
  | _, _, .cons r t => .cons r (intKeys_snoc h t)

/-- list.sort(key=f) behind the making of its stores: J is whatever f's calls keep -/
theorem sortKey_rest {s : Shared} (J : Shared → Prop) (j0 : J s) (nk : s.heap.get? kS = some (seqObj "list" #[] 0)) (na : s.heap.get? a = some (seqObj "list" #[] e1)) (hka : kS ≠ a)
    (hlen : ks.length = vs.length) (hZ : vs.length ≤ sizeLine) (hu : A.units < cLine)
    (up : ∀ (s' : Shared) (g : Heap) (x : Array Value) (c : Nat), J s' → Heap.SameBut kS s'.heap g → g.get? kS = some (seqObj "list" x c) → J { s' with heap := g })
    (turn : ∀ (i : Nat) (v : Value) (k : Int) (s' : Shared) (x : Array Value) (c : Nat), vs[i]? = some v → ks[i]? = some k → J s' → s'.heap.get? kS = some (seqObj "list" x c) → s'.heap.get? a = some (seqObj "list" #[] e1) →
      wpAny (model prog w) A (call f [v]) (fun r s2 => (∃ t, r = .int k t) ∧ J s2 ∧ s2.heap.get? kS = some (seqObj "list" x c) ∧ s2.heap.get? a = some (seqObj "list" #[] e1)) (fun _ _ => False) s')
    (fin : ∀ (s' : Shared) (h' : Heap) (tk : Nat) (out : List Value) (c : Nat), J s' → (∀ b o, b ≠ a → b ≠ kS → s'.heap.get? b = some o → h'.get? b = some o) → h'.get? a = some (seqObj "list" out.toArray c) →
      PySem.W.KeyedOut false (ks.map PyData.int) vs out → P (.done (.ret .none)) { s' with heap := h', toks := tk }) :
    wpAny (model prog w) A (ksk_rest a f false vs.toArray e1 (.ref kS)) P E s := by
  unfold ksk_rest
  refine wpAny_bind (wpAny_rule ?_)
  first
    | rw [List.forIn_toArray]
    | (rw [← Array.forIn_toList]; simp only [List.toList_toArray])
    | rw [← Array.forIn_toList]
  refine wpAny_bind (ksk_fold (fun i s' => ∃ (x : Array Value) (c : Nat), J s' ∧ s'.heap.get? kS = some (seqObj "list" x c) ∧ s'.heap.get? a = some (seqObj "list" #[] e1) ∧ IntKeys x.toList (ks.take i)) vs 0 s
    ⟨#[], 0, j0, nk, na, by rw [List.take_zero]; exact .nil⟩ ?step ?done)
  case step =>
    rintro j v s' hv ⟨x, c, j1, nk1, na1, hk⟩
    simp only [Nat.zero_add] at hk ⊢
    have hj : j < vs.length := (List.getElem?_eq_some_iff.mp hv).1
    obtain ⟨k, hkj⟩ : ∃ k, ks[j]? = some k := ⟨_, List.getElem?_eq_getElem (by omega)⟩
    have hz : x.size ≤ vs.length := by
      have z := hk.length
      rw [Array.length_toList, List.length_take] at z
      omega
    refine wpAny_bind (wpAny_attempt (wpAny_mono (turn j v k s' x c hv hkj j1 nk1 na1) (fun r s2 q => ?_) fun _ _ z => z.elim))
    obtain ⟨hr, j2, nk2, na2⟩ := q
    try dsimp only
    obtain ⟨c2, hc2⟩ : ∃ c2, (s2.heap.update kS (Obj.mapSeq (·.push r))).get? kS = some (seqObj "list" (x.push r) c2) := ⟨_, get?_update_seq nk2 (·.push r)⟩
    have sb := Heap.SameBut.update s2.heap kS (Obj.mapSeq (·.push r))
    refine wpAny_bind (listUpdate_at nk2 rfl ?_ (Nat.le_trans hz hZ) (Nat.le_trans (Nat.le_of_eq (Array.size_push ..)) (Nat.succ_le_succ (Nat.le_trans hz hZ))))
    refine wpAny_pure ⟨rfl, x.push r, c2, up s2 _ _ _ j2 sb hc2, hc2, (sb.2 a hka.symm).trans na2, ?_⟩
    rw [List.take_add_one, hkj, Array.toList_push]
    exact intKeys_snoc hr hk
  case done =>
    rintro s' ⟨x, c, j1, nk1, na1, hk⟩
    have hk1 : IntKeys x.toList ks := by
      have z : ks.take (0 + vs.length) = ks := List.take_of_length_le (by omega)
      rw [z] at hk
      exact hk
    have hsz : x.size = vs.length := by
      have z := hk1.length
      rw [Array.length_toList] at z
      omega
    have hal : PySem.W.AllAlike (ks.map PyData.int) := PySem.W.AllAlike.of fun _ _ => by simp [PySem.W.alike]
    try dsimp only
    refine wpAny_bind (listItems_at nk1 rfl ?_)
    refine PySem.W.keyH_end (κ := PySem.W.dataKind s'.heap (ks.map PyData.int)) (h₁ := PySem.W.hideAll s'.heap [kS]) (fun b o _ q => PySem.W.of_hideAll _ q) (PySem.W.hideAll_none _ (List.mem_singleton.mpr rfl)) nk1 na1 hka
      (PySem.W.SortsAt.data (s := s') (intKeys_reads hk1) hal (PySem.W.Sortable.others fun _ => ⟨nofun, fun _ => nofun⟩) fun d hd => ?_) hsz hZ fun h3 tk c3 kp n3 => ?_
    · obtain ⟨k, _, rfl⟩ := List.mem_map.mp hd
      simpa [PyData.depth] using hu
    · exact fin s' h3 tk _ c3 j1 (fun b o hb hbk q => kp b o hb (PySem.W.hideAll_get _ q (by simpa using hbk))) n3 ⟨s'.heap, x.toList, hal, rfl, intKeys_reads hk1⟩
end
end K60

namespace K60
open PySem PySem.Spec PyProof.Rows L2

theorem same_seqT {K : PySem.W.Frag} {H H' : Hp} {a : Addr} {xs : List V} (e : Same H H') (h : SqT K H a xs) : SqT K H' a xs := by
  rcases h with (h | ⟨o, h⟩) | h
  · exact .inl (.inl (e _ _ h))
  · exact .inl (.inr ⟨o, e _ _ h⟩)
  · exact .inr h
mutual
theorem Dpm {K : PySem.W.Frag} {H H' : Hp} (e : Same H H') : ∀ (d : PyData) (v : V), Dp K H v d → Dp K H' v d
  | .none, _, h => by cases h; exact .non
  | .bool _, _, h => by cases h; exact .bl _
  | .int _, _, h => by cases h; exact .int _
  | .str _, _, h => by cases h; exact .str _
  | .list ds, _, h => by
    cases h with
    | lst s a => exact .lst (e.seq s) (Dpma e ds _ a)
  | .tuple ds, _, h => by
    cases h with
    | tup s a => exact .tup (same_seqT e s) (Dpma e ds _ a)
  | .dict _, _, h => by cases h
theorem Dpma {K : PySem.W.Frag} {H H' : Hp} (e : Same H H') : ∀ (ds : List PyData) (vs : List V), DpAll K H vs ds → DpAll K H' vs ds
  | [], _, h => by cases h; exact .nil
  | d :: ds, _, h => by
    cases h with
    | cons a b => exact .cons (Dpm e d _ a) (Dpma e ds _ b)
end
theorem dm {K : PySem.W.Frag} {H H' : Hp} {v : V} {d : PyData} (e : Same H H') (h : Dp K H v d) : Dp K H' v d := Dpm e d v h
theorem dma {K : PySem.W.Frag} {H H' : Hp} {vs : List V} {ds : List PyData} (e : Same H H') (h : DpAll K H vs ds) : DpAll K H' vs ds := Dpma e ds vs h
theorem same_new {H : Hp} {p : Addr} {o : HO} (h : H p = none) : Same H (upd H p o) := fun b u e => by rw [upd_ne (ne_of_none e h)]; exact e

section
variable {β : Type} {X : Cx}
/-- a def runs within a built-in's own call -/
theorem run_deep {k : Nat} {f : Addr} {sp : Sp} {pins : List (Addr × Obj)} {σ : L2.St} {H : Hp} {s : Shared} {us : List Value} {vs : List V} {Q : VK} (F : FnR X.prog X.w X.K X.mg X.base CX0 k f sp) (hr : Room (k + 2) X.A) (I : Inv X pins σ H s) (r : Vals vs us)
    (h : sp vs H Q E0) : wpAny (model X.prog X.w) X.A.in1.in1 (call (.ref f) us) (EP X pins σ Q) (fun _ _ => False) s := by
  refine wpAny_call (codeAny_mono (F X.A.in1.in1 X.stack s H us vs Q E0 hr.in1.in1 I.env0.in1.in1 r h) fun r s' hq => ?_)
  cases r with
  | error e => exact hq.elim
  | ok fl =>
    cases fl with
    | ret u => exact I.after hq
    | next => exact False.elim hq
    | brk => exact False.elim hq
    | cont => exact False.elim hq

def rSortKey (K : PySem.W.Frag) (f : Addr) (sp : Sp) (enc : β → PyData) (key : β → Int) : List V → List V → Hp → VK → Prop := fun vs zs H Q => ∃ (l : Addr) (xs : List V) (bs : List β), vs = [V.ref l] ∧ zs = [V.ref f] ∧ SqL K H l xs ∧ DpAll K H xs (bs.map enc) ∧
  (∀ (H' : Hp) (x : V) (b : β), Same H H' → b ∈ bs → Dp K H' x (enc b) → sp [x] H' (fun v H2 => v = .int (key b) ∧ Same H' H2) E0) ∧
  ∀ (H' : Hp) (ys : List V) (cs : List β) (p : Addr), Same H H' → cs.Perm bs → cs.Pairwise (fun x y => key x ≤ key y) → DpAll K H' ys (cs.map enc) → H' p = none → Q (.ref p) (upd H' p (.lst ys))
theorem cr_sortKey {k : Nat} {f : Addr} {sp : Sp} {enc : β → PyData} {key : β → Int} (F : FnR X.prog X.w X.K X.mg X.base CX0 k f sp) (hr : Room (k + 2) X.A) :
    CallRK X (.builtin "sorted") [Str.ofString "key"] (rSortKey X.K f sp enc key) := by
  intro pins s σ H vs zs us ws Q I r rz h
  obtain ⟨l, xs, bs, rfl, rfl, hs, hd, hf, q⟩ := h
  obtain rfl := Vals.ref1 r
  obtain ⟨u, rfl, ru⟩ := rz.one
  obtain rfl : u = Value.ref f := ru
  obtain ⟨its, rv, hl, hz⟩ := I.list hs
  have e := std_all hd rv
  have len1 := rv.length
  have len2 := e.length
  have hu := hr.units
  show wpAny _ _ (call (.builtin "sorted") [.ref l] [(Str.ofString "key", .ref f)]) _ _ _
  refine PySem.W.sorted_of_sort hl.isList (by omega) (ksk_s1 _ _) (fun _ => ksk_l1 _ _) fun E' => ?_
  rw [ksk_t1]
  have ho := PySem.W.copyHeap_at s.heap its
  have ha : s.heap.objs.size + 1 < (PySem.W.copyHeap s.heap its).objs.size := Heap.lt_size ho
  obtain ⟨e1, ho1⟩ : ∃ e1, ((PySem.W.copyHeap s.heap its).update (s.heap.objs.size + 1) (Obj.mapSeq fun _ => (#[] : Array Value))).get? (s.heap.objs.size + 1) = some (seqObj "list" #[] e1) := ⟨_, get?_update_seq ho fun _ => #[]⟩
  have szS : (((PySem.W.copyHeap s.heap its).update (s.heap.objs.size + 1) (Obj.mapSeq fun _ => (#[] : Array Value))).push (seqObj "tuple" its.toArray 0)).objs.size = (PySem.W.copyHeap s.heap its).objs.size + 1 := by rw [size_push', Heap.size_update]
  unfold ksk_tree
  refine wpAny_bind (listItems_at ho rfl ?_)
  refine wpAny_bind (listUpdate_at ho rfl ?_ (by rw [List.size_toArray]; omega) (Nat.zero_le _))
  refine wpAny_bind (seqEpoch_at ho1 rfl ?_)
  refine wpAny_bind (wpAny_newTuple ?_ (by show its.length ≤ _; omega))
  refine wpAny_bind (wpAny_newList ?_ (Nat.zero_le _))
  refine wpAny_holding ?_
  have old : ∀ b o, s.heap.get? b = some o → ((((PySem.W.copyHeap s.heap its).update (s.heap.objs.size + 1) (Obj.mapSeq fun _ => (#[] : Array Value))).push (seqObj "tuple" its.toArray 0)).push (seqObj "list" #[] 0)).get? b = some o := fun b o g =>
    Heap.get?_push_of_some _ (Heap.get?_push_of_some _ ((Heap.get?_update_ne _ _ _ _ (Nat.ne_of_lt (Nat.lt_succ_of_lt (Heap.lt_size g)))).trans (PySem.W.copyHeap_old g)))
  have leS : s.heap.objs.size ≤ (((PySem.W.copyHeap s.heap its).update (s.heap.objs.size + 1) (Obj.mapSeq fun _ => (#[] : Array Value))).push (seqObj "tuple" its.toArray 0)).objs.size := by rw [szS]; omega
  have neS : (((PySem.W.copyHeap s.heap its).update (s.heap.objs.size + 1) (Obj.mapSeq fun _ => (#[] : Array Value))).push (seqObj "tuple" its.toArray 0)).objs.size ≠ s.heap.objs.size + 1 := by rw [szS]; exact Nat.ne_of_gt (Nat.lt_succ_of_lt ha)
  have I0 := I.kept (t' := s.toks) old
  refine sortKey_rest (ks := bs.map key) (a := s.heap.objs.size + 1) (kS := (((PySem.W.copyHeap s.heap its).update (s.heap.objs.size + 1) (Obj.mapSeq fun _ => (#[] : Array Value))).push (seqObj "tuple" its.toArray 0)).objs.size)
    (fun s' => ∃ H', Same H H' ∧ Inv X pins σ H' s' ∧ FpOk X pins H' (((PySem.W.copyHeap s.heap its).update (s.heap.objs.size + 1) (Obj.mapSeq fun _ => (#[] : Array Value))).push (seqObj "tuple" its.toArray 0)).objs.size ∧ FpOk X pins H' (s.heap.objs.size + 1))
    ⟨H, Same.refl H, I0, I.fpOk leS (I.hok.fresh leS), I.fpOk (Nat.le_succ _) (I.hok.fresh (Nat.le_succ _))⟩ (Heap.get?_push_size _ rfl) (Heap.get?_push_of_some _ (Heap.get?_push_of_some _ ho1)) neS (by rw [List.length_map]; omega) (by omega) (by show X.A.units + 1 + 1 < cLine; omega) ?up ?turn ?fin
  case up =>
    rintro s' g x c ⟨H', sm, J, ⟨f0, f1, f2, f3, f4, f5⟩, fa⟩ sb _
    exact ⟨H', sm, J.turned (t' := s'.toks) (fun b o hb o' => (sb.2 b hb).trans o') f0 f1 f3 f4 f5, ⟨f0, f1, f2, f3, f4, f5⟩, fa⟩
  case turn =>
    rintro i v k' s' x c hv hk ⟨H', sm, J, fS, fa⟩ nk na
    obtain ⟨b, hb, ek⟩ : ∃ b, bs[i]? = some b ∧ key b = k' := by
      rw [List.getElem?_map] at hk
      cases hb : bs[i]? with
      | none => rw [hb] at hk; cases hk
      | some b => rw [hb] at hk; exact ⟨b, rfl, Option.some.inj hk⟩
    have hz2 : (v, b) ∈ its.zip bs := List.mem_of_getElem? (i := i) (by rw [List.getElem?_zip_eq_some]; exact ⟨hv, hb⟩)
    obtain ⟨y, ry, dy⟩ := e.zip _ hz2
    have J2 : Inv X ((_, seqObj "list" x c) :: (s.heap.objs.size + 1, seqObj "list" #[] e1) :: pins) σ H' s' := J.pins_of fun p hp => by
      rcases List.mem_cons.mp hp with rfl | hp
      · exact ⟨nk, fS.1, fS.2.1, fS.2.2.1, nofun⟩
      · rcases List.mem_cons.mp hp with rfl | hp
        · exact ⟨na, fa.1, fa.2.1, fa.2.2.1, nofun⟩
        · exact J.pin p (List.mem_append_right _ hp)
    refine thn (run_deep F hr J2 (.cons ry .nil) (hf H' y b sm (List.mem_of_getElem? hb) (dm sm dy))) fun r s2 ⟨v2, H2, I2, r2, ev, sm2⟩ => ?_
    subst ev
    obtain ⟨t, rfl⟩ := r2
    have pS := I2.pin _ (List.mem_append_right _ (List.mem_cons_self))
    have pa := I2.pin _ (List.mem_append_right _ (List.mem_cons_of_mem _ List.mem_cons_self))
    exact ⟨⟨t, by rw [ek]⟩, ⟨H2, sm.trans sm2, I2.pins_of fun p hp => I2.pin p (List.mem_append_right _ (List.mem_cons_of_mem _ (List.mem_cons_of_mem _ hp))), ⟨pS.2.1, fS.2⟩, ⟨pa.2.1, fa.2⟩⟩, pS.1, pa.1⟩
  case fin =>
    rintro s' h' tk out c ⟨H', sm, J, fS, fa⟩ kp ho' ko
    refine ⟨rfl, ?_⟩
    have ee : (bs.map key).map PyData.int = bs.map fun b => PyData.int (key b) := by rw [List.map_map]; rfl
    rw [ee] at ko
    have eo := PySem.W.keyedOut_each (fun b => PyData.int (key b)) ko e
    obtain ⟨ys, ry, dy⟩ := std_back eo
    have pw := List.pairwise_mergeSort (le := PySem.W.dataLe false fun b : β => PyData.int (key b)) (fun a b c => (PySem.W.sortLe_total _ _ _).trans a b c) (fun a b => by rw [Bool.or_eq_true]; exact (PySem.W.sortLe_total _ _ _).total a b) bs
    have hlen : ys.length ≤ sizeLine := by
      rw [ry.length, eo.length, List.length_mergeSort]
      omega
    have nl : ∀ b o, H' b = some o → b ≠ s.heap.objs.size + 1 := fun b o g => ne_of_none g fa.1
    have nS : ∀ b o, H' b = some o → b ≠ (((PySem.W.copyHeap s.heap its).update (s.heap.objs.size + 1) (Obj.mapSeq fun _ => (#[] : Array Value))).push (seqObj "tuple" its.toArray 0)).objs.size := fun b o g => ne_of_none g fS.1
    have out2 : ∀ b, b ∉ [(((PySem.W.copyHeap s.heap its).update (s.heap.objs.size + 1) (Obj.mapSeq fun _ => (#[] : Array Value))).push (seqObj "tuple" its.toArray 0)).objs.size, s.heap.objs.size + 1] → b ≠ s.heap.objs.size + 1 ∧ b ≠ (((PySem.W.copyHeap s.heap its).update (s.heap.objs.size + 1) (Obj.mapSeq fun _ => (#[] : Array Value))).push (seqObj "tuple" its.toArray 0)).objs.size := fun b hb => by
      simp only [List.mem_cons, List.not_mem_nil, or_false, not_or] at hb
      exact ⟨hb.2, hb.1⟩
    refine ⟨.ref (s.heap.objs.size + 1), upd H' (s.heap.objs.size + 1) (.lst ys), ?_, rfl, q H' ys _ _ sm (List.mergeSort_perm _ _) (pw.imp fun z => ?_) (dma sm dy) fa.1⟩
    · refine J.step (g' := s'.gens) (d' := s'.drawn) (ch := [_, s.heap.objs.size + 1]) (fun b hb => ?_) (fun b o _ _ hc g _ => kp b o (out2 b hc).1 (out2 b hc).2 g) (fun b o _ _ hc g _ => ⟨o.slots, kp b o (out2 b hc).1 (out2 b hc).2 g⟩)
        (fun b o hc _ n => by rw [upd_ne (out2 b hc).1]; exact n) (fun b o hc g => ⟨o, kp b o (out2 b hc).1 (out2 b hc).2 g⟩) (fun b xs g => by rw [upd_ne (nl b _ g)]; exact g) (fun b o xs g => by rw [upd_ne (nl b _ g)]; exact g)
        (fun b ps g => ⟨#[], by rw [upd_ne (nl b _ g), g]; simp⟩) (fun m hm => ?_) (fun b u g => ?_) J.bare
      · rcases List.mem_cons.mp hb with rfl | hb
        · exact ⟨fS.2.2.2.1, fS.2.1, fS.2.2.2.2.1, fS.2.2.2.2.2⟩
        · obtain rfl := List.mem_singleton.mp hb
          exact ⟨fa.2.2.2.1, fa.2.1, fa.2.2.2.2.1, fa.2.2.2.2.2⟩
      · obtain ⟨o, es, ep, g, r⟩ := hm
        exact ⟨o, es, ep, kp _ o (Ne.symm fa.2.1) (Ne.symm fS.2.1) g, r⟩
      · by_cases hb : b = s.heap.objs.size + 1
        · subst hb
          rw [upd_same] at g
          cases g
          exact ⟨hlen, out, c, ry, ho'⟩
        · rw [upd_ne hb] at g
          refine (J.hok b u g).stay (fun d o hd g2 => ?_) (fun d g2 => by rw [upd_ne (nl d _ g2)]; exact g2) fun d xs g2 => by rw [upd_ne (nl d _ g2)]; exact g2
          rcases hd with rfl | hd
          · exact kp _ o hb (nS _ _ g) g2
          · exact kp d o (nl d _ hd) (nS d _ hd) g2
    · have z' : (!PySem.W.dataLt _ _) = true := z
      rw [PySem.W.dataLt_int] at z'
      simp only [Bool.not_eq_true', decide_eq_false_iff_not] at z'
      omega
end
end K60

namespace K60
open PySem PySem.Spec PyProof.Rows L2

/-- a promise kept where nothing is being shown (no repr is under way) -/
def FnRG (P : Program) (w : World) (K : PySem.W.Frag) (mg : Str → Option Value) (base : Heap) (k : Nat) (f : Addr) (sp : Sp) : Prop :=
  ∀ (A : Around) (outer : List Env) (s : Shared) (H : Hp) (us : List Value) (vs : List V) (Q : VK), A.guards = some [] → Room k A → Env0 P w K mg base A outer s H → Vals vs us → sp vs H Q E0 →
    codeAny (model P w) A (.call (.ref f) ⟨us, []⟩) (CR CX0 outer P w H s Q E0) s
theorem FnRG.up {P : Program} {w : World} {K : PySem.W.Frag} {mg : Str → Option Value} {base : Heap} {j k : Nat} {f : Addr} {sp : Sp} (F : FnRG P w K mg base j f sp) (h : j ≤ k) : FnRG P w K mg base k f sp :=
  fun A outer s H us vs Q g r => F A outer s H us vs Q g (r.mono h)

section
variable {P : Program} {w : World} {K : PySem.W.Frag} {mg : Str → Option Value} {base : Heap}
theorem fnG {x qual : Str} {st : Stmt} {f : Addr} {fd : FuncData} {N ps : List Str} {k : Nat} {sp : Sp} (F : Fun K x qual st f fd) (S : FnScope N ps (defScope st)) (bd : Binds K fd ps [])
    (len : ∀ vs H Q E, sp vs H Q E → vs.length = ps.length)
    (body : ∀ (cdv : Value) (A : Around) (outer : List Env) (s : Shared) (H : Hp) (vs : List V) (Q : VK), A.guards = some [] → Room k (A.deeper (envOfC qual (defScope st) s.heap.objs.size f cdv)) → sp vs H Q E0 →
      ∃ t, PSs (cxOf CX0 P w K mg base N qual (defScope st) f cdv A outer s H E0).nox (defBody st) t ∧ t { nx := fun _ H' => Q .non H', rt := Q } (start N vs) H) :
    FnRG P w K mg base (k + 1) f sp := by
  obtain ⟨oc, od, kV, doc, pm, an, cdv, ct, osl, rfl, lk, hcd⟩ := F.ex
  intro A outer s H us vs Q hg hr e0 r hsp
  have hl := len _ _ _ _ hsp
  refine StX.run_bnd (CX := CX0) (E := E0) (G := fun vs' H' => vs' = vs ∧ H' = H) lk hcd S hr e0 (fun A' Ex Q' q => ?_) fun s2 H2 vs2 g hr2 => ?_
  · have e := bd s us (e0.mod.kin.keeps fun b o e => (e0.bs b o e).1) (by rw [List.append_nil, ← r.length]; exact hl)
    rw [List.append_nil] at e
    exact e _ _ _ _ (q s H vs us e0 Un.refl rfl (fun _ _ z => z) r hl ⟨rfl, rfl⟩)
  · obtain ⟨rfl, rfl⟩ := g
    obtain ⟨t, h, q⟩ := body cdv A outer s2 H2 vs2 Q hg hr2 hsp
    exact ⟨t, h.nox, q⟩
end

section
variable {X : Cx}
theorem call_G {k : Nat} {f : Addr} {sp : Sp} {x : Str} {e : Expr} {es : List Expr} {t : TA} {p pos : Pos}
    (F : FnRG X.prog X.w X.K X.mg X.base k f sp) (quiet : X.A.guards = some []) (room : Room k X.A) (gx : Gl X x) (mx : X.mg x = some (.ref f)) (kept : PySem.W.keepIn X.K (.ref f) = true)
    (args : PA X (e :: es) t) (nd : (x == ("__debug__" : Str)) = false := by decide)
    (st : starEach (e :: es) X.env = (false, eval e X.env) :: starEach es X.env := by rfl)
    (pl : (backTo pos (starEach es X.env)).any (·.1) = false := by rfl) :
    PE X (.Call (.Name x p) (e :: es) [] pos) (fun σ H Q => t σ H fun vs H1 => sp vs H1 Q E0) where
  run := fun pins s σ H Q I h => by
    refine wpAny_Call_Name_kw (ld_glob I gx mx (PySem.W.callWith_K (h₀ := X.base) I.ok.mod.kin kept
      (thn (args.run pos pins s σ H _ I h) fun us s1 ⟨vs, H1, I1, r, q⟩ => ⟨I1.kIn, ?_⟩) st pl) nd)
    refine wpAny_call (codeAny_mono (F X.A X.stack s1 H1 us vs Q quiet room I1.env0 r q) fun r s' hq => ?_)
    cases r with
    | error e => exact hq.elim
    | ok fl =>
      cases fl with
      | ret u => exact I1.after hq
      | next => exact False.elim hq
      | brk => exact False.elim hq
      | cont => exact False.elim hq
end

/-- the law's own call, at the caller: there nothing is being shown -/
theorem law_callG {P : Program} {w : World} {K : PySem.W.Frag} {mg mb : Str → Option Value} {k : Nat} {fa a : Addr} {sp : Sp} {s₁ : Shared} {vs : List Value} {ns : List Int}
    (KX : K.In s₁.heap) (hns : s₁.heap.Ns mainGlobals mg) (hb : s₁.heap.Ns builtinsNs mb) (hbb : ∀ x : Str, x ≠ "__name__" → mb x = bootBuiltins x) (hlim : s₁.heap.NoLimit) (hg : s₁.gens = #[])
    (ha : s₁.heap.get? a = some { cls := .type "list", data := .seq vs.toArray }) (hi : IntsAre vs ns) (hl : ns.length ≤ sizeLine) (hr : Room k callerA)
    (F : ∀ base : Heap, K.In base → base.Ns mainGlobals mg → FnRG P w K mg base k fa sp)
    (hsp : ∀ H : Hp, SqL K H a (ns.map V.int) → sp [.ref a] H (fun v _ => v = .bl true) E0) :
    codeAny (model P w) callerA (.call (.ref fa) ⟨[.ref a], []⟩) (fun r s' => r = .ok (.ret (.bool true)) ∧ OldK s₁.heap s'.heap ∧ s'.os = s₁.os ∧ AllBare s'.gens) s₁ := by
  have rv := vals_ints hi
  have main : ∀ H : Hp, Only H → SqL K H a (ns.map V.int) → HOk P w H s₁.heap → (∀ b, H b ≠ none → b = a ∧ K.lookup a = none) →
      codeAny (model P w) callerA (.call (.ref fa) ⟨[.ref a], []⟩) (fun r s' => r = .ok (.ret (.bool true)) ∧ OldK s₁.heap s'.heap ∧ s'.os = s₁.os ∧ AllBare s'.gens) s₁ := by
    intro H only seq ok tr
    have ns_in : ∀ {b : Addr} {m : Str → Option Value}, s₁.heap.Ns b m → (hidT s₁.heap H).Ns b m := fun {b m} ⟨o, es, ep, e, d, r⟩ => by
      refine ⟨o, es, ep, hidT_get e ?_, d, r⟩
      cases q : H b with
      | none => rfl
      | some u =>
        obtain ⟨rfl, _⟩ := tr b (by rw [q]; exact nofun)
        rw [ha] at e
        cases e
        have d' : Data.seq vs.toArray _ = Data.dict es ep := d
        cases d'
    have k_in : K.In (hidT s₁.heap H) := fun b o e => hidT_get (KX b o e) (by
      cases q : H b with
      | none => rfl
      | some u =>
        obtain ⟨rfl, z⟩ := tr b (by rw [q]; exact nofun)
        rw [z] at e
        cases e)
    obtain ⟨mc, l1, l2⟩ := hlim
    have e0 : Env0 P w K mg (hidT s₁.heap H) callerA [] s₁ H := ⟨rfl, ⟨k_in, ns_in hns, ⟨mb, ns_in hb, hbb⟩, ⟨mc, ns_in l1, l2⟩⟩, fun b o e => of_hidT e, Nat.le_of_eq (hidT_size _ _), trivial, fun b z => absurd z (by simp [frs]), ok, .of_eq hg⟩
    refine codeAny_mono (F _ k_in (ns_in hns) callerA [] s₁ H [.ref a] [.ref a] _ rfl hr e0 (.cons rfl .nil) (hsp H seq)) fun r s' h => ?_
    cases r with
    | error e => exact h.elim
    | ok fl =>
      cases fl with
      | next => exact False.elim h
      | brk => exact False.elim h
      | cont => exact False.elim h
      | ret u =>
        obtain ⟨v, H', os, bare, un, ok', r', q⟩ := h
        obtain rfl : v = V.bl true := q
        obtain rfl : u = Value.bool true := r'
        refine ⟨rfl, OldK.of_keep fun b o e => ?_, os, bare⟩
        rcases only b with n | ⟨ob, xs, z⟩
        · exact un.keep b o e n (by simp [frs]) (by simp)
        · obtain ⟨e1, _⟩ := ok b _ z
          obtain ⟨e2, _⟩ := ok' b _ (un.frzs b ob _ z)
          exact e2.trans (e1.symm.trans e)
  have len2 := hi.length
  cases hk : K.lookup a with
  | some o =>
    have e := KX a o hk
    rw [ha] at e
    cases e
    exact main (fun _ => none) (fun _ => .inl rfl) (.inr ⟨_, vs.toArray, _, hk, rfl, rfl, rfl, by rw [List.size_toArray]; omega, by simpa using rv⟩) (fun b u z => by cases z) fun b z => absurd rfl z
  | none =>
    have at_a : ∀ {b : Addr} {u : HO}, (fun b => if b = a then some (HO.frz { cls := .type "list", data := .seq vs.toArray } (.lst (ns.map V.int))) else none : Hp) b = some u → b = a ∧ u = HO.frz { cls := .type "list", data := .seq vs.toArray } (.lst (ns.map V.int)) := fun {b u} z => by
      by_cases h : b = a
      · exact ⟨h, (Option.some.inj ((if_pos h).symm.trans z)).symm⟩
      · cases (if_neg h).symm.trans z
    refine main (fun b => if b = a then some (.frz { cls := .type "list", data := .seq vs.toArray } (.lst (ns.map V.int))) else none) (fun b => ?_) (.inl (.inr ⟨_, if_pos rfl⟩)) (fun b u z => ?_) fun b z => ?_
    · by_cases h : b = a
      · exact .inr ⟨_, _, if_pos h⟩
      · exact .inl (if_neg h)
    · obtain ⟨rfl, rfl⟩ := at_a z
      exact ⟨ha, by rw [List.length_map]; exact hl, vs, _, rv, ha⟩
    · by_cases h : b = a
      · exact ⟨h, hk⟩
      · exact absurd (if_neg h) z

theorem walk_G {l : PySem.W.OpenLaw} {n k : Nat} {q : Program} {loose : List Str} {XP : (Str → Option Value) → Heap → Prop} {YP : World → Heap → Prop} {d : DefRec} {K : Params → PySem.W.Frag} {sp : PySem.W.Frag → Sp}
    (hn : l.most = some n) (hn2 : n ≤ sizeLine) (hdf : d.params.defaults = []) (hr : Room k callerA) (hY : ∀ (w : World) (h : Heap), YP w h → (K w.params).In h)
    (F : ∀ (w : World) (mg : Str → Option Value) (fa : Addr) (h : Heap), (K w.params).In h → h.Ns mainGlobals mg → mg d.name = some (.ref fa) →
      ∀ base : Heap, (K w.params).In base → base.Ns mainGlobals mg → FnRG l.prog w (K w.params) mg base k fa (sp (K w.params)))
    (hsp : ∀ (K : PySem.W.Frag) (H : Hp) (a : Addr) (ns : List Int), ns.length ≤ n → SqL K H a (ns.map V.int) → sp K [.ref a] H (fun v _ => v = .bl true) E0) :
    PySem.W.WalkO q loose XP YP l.row.toRowW d [] (fun f vs => PySem.call f vs) := by
  refine Att.attach_call hn hdf fun w s₀ s₁ mg mb fa o pm cd doc a vs ns G Y ho hd hcd hmg hobj hints hlen hg => ?_
  have KX := hY w _ Y
  exact law_callG KX G.T.g G.T.b G.T.builtins G.T.nolimit hg hobj hints (Nat.le_trans hlen hn2) hr (F w mg fa _ KX G.T.g hmg) fun H hS => hsp _ H a ns hlen hS
end K60

namespace K60
open PySem PySem.Spec PyProof.Rows L2

/-! ### the text by places -/
def top (i : Nat) : Stmt := PySem.Challenge.pw_alldiffs_k60_whole_knots_and_kinds.main.body.getD i (.Pass ⟨0, 0, 0, 0⟩)

/-! ### a def of the module, called by its name -/
structure Cal (P : Program) (w : World) (K : PySem.W.Frag) (mg : Str → Option Value) (base : Heap) (k : Nat) (x : Str) (sp : Sp) : Prop where
  ex : ∃ f, mg x = some (.ref f) ∧ PySem.W.keepIn K (.ref f) = true ∧ FnR P w K mg base CX0 k f sp
theorem pc {X : Cx} {k : Nat} {sp : Sp} {x : Str} {e : Expr} {es : List Expr} {t : TA} {p pos : Pos} (c : Cal X.prog X.w X.K X.mg X.base k x sp) (room : Room k X.A) (gx : Gl X x) (args : PA X (e :: es) t)
    (nd : (x == ("__debug__" : Str)) = false := by decide) (st : starEach (e :: es) X.env = (false, eval e X.env) :: starEach es X.env := by rfl) (pl : (backTo pos (starEach es X.env)).any (·.1) = false := by rfl) :
    PE X (.Call (.Name x p) (e :: es) [] pos) (fun σ H Q => t σ H fun vs H1 => sp vs H1 Q E0) := by
  obtain ⟨f, mx, kp, F⟩ := c.ex
  exact call_plainR F room gx mx kp pass0 args nd st pl
theorem Cal.of {P : Program} {w : World} {K : PySem.W.Frag} {mg : Str → Option Value} {base : Heap} {k : Nat} {x : Str} {sp : Sp} {f : Addr} {fd : FuncData} {ps : List Str} (F : FnOk P w K mg base CX0 k f fd ps sp) (b : Binds K fd ps [])
    (mx : mg x = some (.ref f)) (kp : PySem.W.keepIn K (.ref f) = true) : Cal P w K mg base k x sp :=
  ⟨f, mx, kp, (F.raw b .nil).imp fun vs H Q E h => by rw [List.append_nil]; exact h⟩

/-! ### the module's other names -/
structure Txt (mg : Str → Option Value) : Prop where
  isi : mg "isinstance" = none
  str : mg "str" = none
  list : mg "list" = none
  tuple : mg "tuple" = none
  len : mg "len" = none
  all : mg "all" = none
  int : mg "int" = none
  bool : mg "bool" = none
  zip : mg "zip" = none
  min : mg "min" = none
  max : mg "max" = none
  any : mg "any" = none
  sorted : mg "sorted" = none
  abs : mg "abs" = none
  range : mg "range" = none
  divmod : mg "divmod" = none
  enumerate : mg "enumerate" = none
  repr : mg "repr" = none
  most : ∃ t, mg "MOST" = some (.int 60 t)
  going : ∃ t, mg "GOING" = some (.str "going" t)
  one : ∃ t, mg "ONE" = some (.str "one" t)
  two : ∃ t, mg "TWO" = some (.str "two" t)
  alike : ∃ t, mg "ALIKE" = some (.str "alike" t)
  clash : ∃ t, mg "CLASH" = some (.str "clash" t)

/-! ### data: reading it back -/
section
variable {K : PySem.W.Frag} {H : Hp} {v : V}
theorem dp_int {i : Int} (h : Dp K H v (.int i)) : v = .int i := by cases h; rfl
theorem dp_str {z : Str} (h : Dp K H v (.str z)) : v = .str z := by cases h; rfl
theorem dp_bl {z : Bool} (h : Dp K H v (.bool z)) : v = .bl z := by cases h; rfl
theorem dp_tup {ds : List PyData} (h : Dp K H v (.tuple ds)) : ∃ p xs, v = .ref p ∧ SqT K H p xs ∧ DpAll K H xs ds := by
  cases h with
  | tup a b => exact ⟨_, _, rfl, a, b⟩
theorem dp_lst {ds : List PyData} (h : Dp K H v (.list ds)) : ∃ p xs, v = .ref p ∧ SqL K H p xs ∧ DpAll K H xs ds := by
  cases h with
  | lst a b => exact ⟨_, _, rfl, a, b⟩
theorem dpa_nil {xs : List V} (h : DpAll K H xs []) : xs = [] := by cases h; rfl
theorem dpa_cons {xs : List V} {d : PyData} {ds : List PyData} (h : DpAll K H xs (d :: ds)) : ∃ x r, xs = x :: r ∧ Dp K H x d ∧ DpAll K H r ds := by
  cases h with
  | cons a b => exact ⟨_, _, rfl, a, b⟩
theorem dpa_len : ∀ {xs : List V} {ds : List PyData}, DpAll K H xs ds → xs.length = ds.length
  | _, [], h => by rw [dpa_nil h]; rfl
  | _, d :: ds, h => by
    obtain ⟨x, r, rfl, _, h2⟩ := dpa_cons h
    rw [List.length_cons, List.length_cons, dpa_len h2]
theorem dpa_app : ∀ {xs : List V} {ds : List PyData} {ys : List V} {es : List PyData}, DpAll K H xs ds → DpAll K H ys es → DpAll K H (xs ++ ys) (ds ++ es)
  | _, [], _, _, h, g => by rw [dpa_nil h]; exact g
  | _, d :: ds, _, _, h, g => by
    obtain ⟨x, r, rfl, h1, h2⟩ := dpa_cons h
    exact .cons h1 (dpa_app h2 g)
theorem dpa_at : ∀ {ds : List PyData} {xs : List V} {i : Nat} {x : V}, DpAll K H xs ds → xs[i]? = some x → ∃ d, ds[i]? = some d ∧ Dp K H x d
  | [], _, i, x, h, e => by rw [dpa_nil h] at e; simp at e
  | d :: ds, _, i, x, h, e => by
    obtain ⟨y, r, rfl, h1, h2⟩ := dpa_cons h
    cases i with
    | zero =>
      simp only [List.getElem?_cons_zero, Option.some.injEq] at e
      exact ⟨d, rfl, e ▸ h1⟩
    | succ i => exact dpa_at (i := i) h2 (by simpa using e)
theorem dpa_of : ∀ {ds : List PyData} {xs : List V} {i : Nat} {d : PyData}, DpAll K H xs ds → ds[i]? = some d → ∃ x, xs[i]? = some x ∧ Dp K H x d
  | [], _, i, x, h, e => by simp at e
  | d :: ds, _, i, x, h, e => by
    obtain ⟨y, r, rfl, h1, h2⟩ := dpa_cons h
    cases i with
    | zero =>
      simp only [List.getElem?_cons_zero, Option.some.injEq] at e
      exact ⟨y, rfl, e ▸ h1⟩
    | succ i => exact dpa_of (i := i) h2 (by simpa using e)
theorem dpa_map {α : Type} {enc : α → PyData} {l : List α} {xs : List V} {i : Nat} {x : V} (h : DpAll K H xs (l.map enc)) (e : xs[i]? = some x) : ∃ a, l[i]? = some a ∧ Dp K H x (enc a) := by
  obtain ⟨d, e1, h1⟩ := dpa_at h e
  rw [List.getElem?_map] at e1
  cases q : l[i]? with
  | none => rw [q] at e1; cases e1
  | some a =>
    rw [q] at e1
    exact ⟨a, rfl, (Option.some.inj e1) ▸ h1⟩
theorem dpa_mapOf {α : Type} {enc : α → PyData} {l : List α} {xs : List V} {i : Nat} {a : α} (h : DpAll K H xs (l.map enc)) (e : l[i]? = some a) : ∃ x, xs[i]? = some x ∧ Dp K H x (enc a) :=
  dpa_of h (by rw [List.getElem?_map, e]; rfl)
theorem dpa_mapLen {α : Type} {enc : α → PyData} {l : List α} {xs : List V} (h : DpAll K H xs (l.map enc)) : xs.length = l.length := by rw [dpa_len h, List.length_map]
theorem dpa_ints : ∀ {l : List Int} {xs : List V}, DpAll K H xs (l.map PyData.int) → xs = l.map V.int
  | [], _, h => dpa_nil h
  | i :: l, _, h => by
    obtain ⟨x, r, rfl, h1, h2⟩ := dpa_cons (ds := l.map PyData.int) h
    rw [dp_int h1, dpa_ints h2]
    rfl
theorem dpa_strs : ∀ {l : List Str} {xs : List V}, DpAll K H xs (l.map PyData.str) → xs = l.map V.str
  | [], _, h => dpa_nil h
  | i :: l, _, h => by
    obtain ⟨x, r, rfl, h1, h2⟩ := dpa_cons (ds := l.map PyData.str) h
    rw [dp_str h1, dpa_strs h2]
    rfl
theorem of_ints : ∀ {l : List Int}, DpAll K H (l.map V.int) (l.map PyData.int)
  | [] => .nil
  | _ :: _ => .cons (.int _) of_ints
theorem of_strs : ∀ {l : List Str}, DpAll K H (l.map V.str) (l.map PyData.str)
  | [] => .nil
  | _ :: _ => .cons (.str _) of_strs
theorem new_tup {p : Addr} {xs : List V} {ds : List PyData} (n : H p = none) (h : DpAll K H xs ds) : Dp K (upd H p (.tup xs)) (.ref p) (.tuple ds) := .tup (SqT.of upd_same) (dma (same_new n) h)
theorem new_lst {p : Addr} {xs : List V} {ds : List PyData} (n : H p = none) (h : DpAll K H xs ds) : Dp K (upd H p (.lst xs)) (.ref p) (.list ds) := .lst (SqL.of upd_same) (dma (same_new n) h)
theorem tyL {a : Addr} {xs : List V} (h : SqL K H a xs) : TyX K H (.ref a) (.type "list") := by
  rcases h with (h | ⟨o, h⟩) | ⟨o, its, n, h, c, _⟩
  · exact .base (.lst h)
  · exact .base (.frz h)
  · exact .kList h c
theorem tyT {a : Addr} {xs : List V} (h : SqT K H a xs) : TyX K H (.ref a) (.type "tuple") := by
  rcases h with (h | ⟨o, h⟩) | ⟨o, its, n, h, c, _⟩
  · exact .base (.tup h)
  · exact .fTuple h
  · exact .kTuple h c
end
/-- a text: a list or a tuple of lines -/
def TextA (K : PySem.W.Frag) (H : Hp) (p : Addr) (zs : List Str) : Prop := SqL K H p (zs.map V.str) ∨ SqT K H p (zs.map V.str)
theorem TextA.mono {K : PySem.W.Frag} {H H' : Hp} {p : Addr} {zs : List Str} (e : Same H H') (h : TextA K H p zs) : TextA K H' p zs := h.elim (fun h => .inl (e.seq h)) fun h => .inr (same_seqT e h)
/-- a line -/
def LineOk (z : Str) : Prop := 10 ∉ z.cps.toList
end K60

namespace K60
open PySem PySem.Spec PyProof.Rows L2

/-! ### data without lists: stays where lists change -/
mutual
def lf : PyData → Bool
  | .none | .bool _ | .int _ | .str _ => true
  | .tuple ds => lfAll ds
  | .list _ | .dict _ => false
def lfAll : List PyData → Bool
  | [] => true
  | d :: ds => lf d && lfAll ds
end
/-- tuples stay -/
def TSame (H H' : Hp) : Prop := ∀ b xs, Rd H b (.tup xs) → Rd H' b (.tup xs)
theorem Same.t {H H' : Hp} (e : Same H H') : TSame H H' := fun b xs h => h.elim (fun h => .inl (e _ _ h)) fun ⟨o, h⟩ => .inr ⟨o, e _ _ h⟩
theorem TSame.updL {H : Hp} {D : Addr} {xs zs : List V} (h : H D = some (.lst xs)) : TSame H (upd H D (.lst zs)) := fun b ys r => by
  have ne : b ≠ D := by
    rintro rfl
    rcases r with r | ⟨o, r⟩
    · rw [h] at r; cases r
    · rw [h] at r; cases r
  rcases r with r | ⟨o, r⟩
  · exact .inl (by rw [upd_ne ne]; exact r)
  · exact .inr ⟨o, by rw [upd_ne ne]; exact r⟩
mutual
theorem lfS {K : PySem.W.Frag} {H H' : Hp} (e : TSame H H') : ∀ (d : PyData) (v : V), lf d = true → Dp K H v d → Dp K H' v d
  | .none, _, _, h => by cases h; exact .non
  | .bool _, _, _, h => by cases h; exact .bl _
  | .int _, _, _, h => by cases h; exact .int _
  | .str _, _, _, h => by cases h; exact .str _
  | .list ds, _, l, _ => by simp [lf] at l
  | .tuple ds, _, l, h => by
    cases h with
    | tup s a =>
      refine .tup ?_ (lfSA e ds _ (by simpa [lf] using l) a)
      rcases s with s | s
      · exact .inl (e _ _ s)
      · exact .inr s
  | .dict _, _, l, _ => by simp [lf] at l
theorem lfSA {K : PySem.W.Frag} {H H' : Hp} (e : TSame H H') : ∀ (ds : List PyData) (vs : List V), lfAll ds = true → DpAll K H vs ds → DpAll K H' vs ds
  | [], _, _, h => by cases h; exact .nil
  | d :: ds, _, l, h => by
    have l' : lf d = true ∧ lfAll ds = true := by simpa [lfAll] using l
    cases h with
    | cons a b => exact .cons (lfS e d _ l'.1 a) (lfSA e ds _ l'.2 b)
end
theorem lfAll_map {α : Type} {enc : α → PyData} : ∀ {l : List α}, (∀ a ∈ l, lf (enc a) = true) → lfAll (l.map enc) = true
  | [], _ => by simp [lfAll]
  | a :: l, h => by
    show lfAll (enc a :: l.map enc) = true
    rw [lfAll, h a (by simp), lfAll_map fun b hb => h b (by simp [hb])]
    rfl
theorem lfAll_app {ds es : List PyData} (h : lfAll ds = true) (g : lfAll es = true) : lfAll (ds ++ es) = true := by
  induction ds with
  | nil => exact g
  | cons d ds ih =>
    have h' : lf d = true ∧ lfAll ds = true := by simpa [lfAll] using h
    show lfAll (d :: (ds ++ es)) = true
    rw [lfAll, h'.1, ih h'.2]
    rfl

/-! ### the outermost reading, opened by one -/
section
variable {r : List V → Hp → VK → Prop} {r2 : R2} {ta tb te : TE} {t u : TS} {g : TG} {D : Ends} {σ : L2.St} {H : Hp} {Q : VK}
theorem qb {b c : Bool} (e : b = c) (q : Q (.bl c) H) : Q (.bl b) H := e ▸ q
theorem w_cb1 (h : ta σ H fun x H1 => r [x] H1 Q) : tCB r (tCons ta tNil) σ H Q := h
theorem w_asg (h : te σ H fun x H1 => g x σ H1 D.nx) : tAsg te g D σ H := h
theorem w_ret (h : te σ H D.rt) : tRet te D σ H := h
theorem w_seq (h : t { D with nx := u D } σ H) : tSeq t u D σ H := h
theorem yes {R1 : VK} {R0 : Hp → Prop} (h : te σ H R1) : tYes σ H fun b H3 => if b = true then te σ H3 R1 else R0 H3 := by
  show if true = true then te σ H R1 else R0 H
  rw [if_pos rfl]
  exact h
theorem w_op (h : ta σ H fun x H1 => tb σ H1 fun y H2 => r2 x y H2 Q) : tOp r2 ta tb σ H Q := h
end

/-! ### a comprehension whose items are data without lists; whatever it calls keeps what stood -/
theorem lc_lf {K : PySem.W.Frag} {J : L2.It} {n : Nat} {G : Hp → Prop} {Y : Nat → Hp → V → Hp → Prop} (w : Walk J n G Y) (nz : n < sizeLine) {g : TG} {tt : TT} {te : TE} {vs : List Nat} {σ : L2.St} {H1 : Hp} {D : Addr} {Qd : Hp → Prop} (hD : H1 D = Option.none)
    (hG : ∀ H, Same H1 H → G H) (P : Nat → List PyData → Prop) (p0 : P 0 [])
    (step : ∀ (i : Nat) (x : V) (ds : List PyData) (H H' : Hp) (R1 : V → Hp → Prop) (R0 : Hp → Prop), i < n → Same H1 H → P i ds → Y i H x H' → (∃ zs, H D = some (.lst zs)) →
      (∀ (y : V) (H4 : Hp) (d : PyData), Same H H4 → lf d = true → Dp K H4 y d → P (i + 1) (ds ++ [d]) → R1 y H4) → (∀ H3, Same H H3 → P (i + 1) ds → R0 H3) →
      g x (wipe σ vs) H' fun σ2 H2 => wipe σ2 vs = wipe σ vs ∧ tt σ2 H2 fun b H3 => if b = true then te σ2 H3 R1 else R0 H3)
    (hd : ∀ H ys ds, Same H1 H → H D = some (.lst ys) → DpAll K H ys ds → P n ds → ds.length ≤ n → lfAll ds = true → Qd H) :
    ∃ W : Nat → Nat → Hp → Prop, (∃ m, W 0 m (upd H1 D (.lst []))) ∧ ∀ i m H, W i m H →
      (J.stop i H ∧ Qd H) ∨ (J.go i H ∧ ∃ Nx : Hp → Prop, (∀ H', Nx H' → ∃ m', m' < m ∧ W (i + 1) m' H') ∧ ∀ x H', J.yld i H x H' → g x (wipe σ vs) H' fun σ2 H2 => wipe σ2 vs = wipe σ vs ∧ tt σ2 H2 fun b H3 =>
        if b = true then te σ2 H3 fun y H4 => ∃ acc, H4 D = some (.lst acc) ∧ acc.length < sizeLine ∧ Nx (upd H4 D (.lst (acc ++ [y]))) else Nx H3) := by
  have stay : ∀ {H H' : Hp} {o : HO}, Same H1 H → H' = upd H D o → Same H1 H' := fun {H H' o} s e b u h => by
    rw [e, upd_ne (ne_of_none h hD)]
    exact s b u h
  refine lc_it w (fun i H => Same H1 H ∧ ∃ ys ds, H D = some (.lst ys) ∧ DpAll K H ys ds ∧ P i ds ∧ ds.length ≤ i ∧ lfAll ds = true) ⟨same_new hD, [], [], upd_same, .nil, p0, Nat.le_refl _, by simp [lfAll]⟩ (fun i H _ q => hG H q.1) ?_ ?_
  · rintro i x H H' hi ⟨s, ys, ds, hy, hds, p, ln, l⟩ yi
    refine step i x ds H H' _ _ hi s p yi ⟨ys, hy⟩ (fun y H4 d s4 ld hd' p4 => ?_) fun H3 s3 p3 => ⟨s.trans s3, ys, ds, s3 _ _ hy, dma s3 hds, p3, Nat.le_succ_of_le ln, l⟩
    have hy4 := s4 _ _ hy
    have l4 := dpa_len hds
    refine ⟨ys, hy4, by omega, stay (s.trans s4) rfl, ys ++ [y], ds ++ [d], upd_same, ?_, p4, by rw [List.length_append, List.length_singleton]; omega, lfAll_app l (by simp [lfAll, ld])⟩
    exact dpa_app (lfSA (TSame.updL hy4) _ _ l (dma s4 hds)) (.cons (lfS (TSame.updL hy4) _ _ ld hd') .nil)
  · rintro H ⟨s, ys, ds, hy, hds, p, ln, l⟩
    exact hd H ys ds s hy hds p ln l

/-- the same over a list or a tuple -/
theorem lc_seq {K : PySem.W.Frag} {tl : TE} {a : Addr} {xs : List V} {g : TG} {tt : TT} {te : TE} {vs : List Nat} {σ : L2.St} {H1 : Hp} {Q : VK} (ht : ∀ P : VK, P (.ref a) H1 → tl σ H1 P) (hs : SqL K H1 a xs ∨ SqT K H1 a xs) (nz : xs.length < sizeLine)
    (P : Nat → List PyData → Prop) (p0 : P 0 [])
    (step : ∀ (D : Addr) (i : Nat) (x : V) (ds : List PyData) (H : Hp) (R1 : V → Hp → Prop) (R0 : Hp → Prop), H1 D = Option.none → xs[i]? = some x → Same H1 H → P i ds → (∃ zs, H D = some (.lst zs)) →
      (∀ (y : V) (H4 : Hp) (d : PyData), Same H H4 → lf d = true → Dp K H4 y d → P (i + 1) (ds ++ [d]) → R1 y H4) → (∀ H3, Same H H3 → P (i + 1) ds → R0 H3) →
      g x (wipe σ vs) H fun σ2 H2 => wipe σ2 vs = wipe σ vs ∧ tt σ2 H2 fun b H3 => if b = true then te σ2 H3 R1 else R0 H3)
    (hd : ∀ D H ys ds, H1 D = Option.none → Same H1 H → H D = some (.lst ys) → DpAll K H ys ds → P xs.length ds → ds.length ≤ xs.length → lfAll ds = true → Q (.ref D) H) :
    tLc (fun σ H R => iList K tl σ H R ∨ iTup K tl σ H R) g tt te vs σ H1 Q := by
  rcases hs with hs | hs
  · refine .inl (ht _ ⟨a, rfl, ⟨_, hs⟩, fun D hD => lc_lf (K := K) walk_list nz hD (fun H s => s.seq hs) P p0 (fun i x ds H H' R1 R0 hi s p y z r1 r0 => ?_) fun H ys ds s h1 h2 h3 h4 h5 => hd D H ys ds hD s h1 h2 h3 h4 h5⟩)
    obtain ⟨rfl, hx⟩ := y
    exact step D i x ds H' R1 R0 hD hx s p z r1 r0
  · refine .inr (ht _ ⟨a, rfl, ⟨_, hs⟩, fun D hD => lc_lf (K := K) walk_tup nz hD (fun H s => same_seqT s hs) P p0 (fun i x ds H H' R1 R0 hi s p y z r1 r0 => ?_) fun H ys ds s h1 h2 h3 h4 h5 => hd D H ys ds hD s h1 h2 h3 h4 h5⟩)
    obtain ⟨rfl, hx⟩ := y
    exact step D i x ds H' R1 R0 hD hx s p z r1 r0
end K60

namespace K60
open PySem PySem.Spec PyProof.Rows L2
abbrev sIsLine : Stmt := top 6
abbrev sIsText : Stmt := top 7
abbrev sCheckText : Stmt := top 8
abbrev sCheckTexts : Stmt := top 9
section
variable {P : Program} {w : World} {K : PySem.W.Frag} {mg : Str → Option Value} {base : Heap}

def spIsLine : Sp := fun vs H Q _ => ∃ z : Str, vs = [.str z] ∧ LineOk z ∧ Q (.bl true) H
theorem scIsLine : FnScope ["value"] ["value"] (defScope sIsLine) := ⟨rfl, rfl, rfl, by decide +kernel, rfl, by decide +kernel, by decide +kernel⟩
theorem ok_isLine {f : Addr} {fd : FuncData} (F : Fun K "is_line" "is_line" sIsLine f fd) (T : Txt mg) : FnOk P w K mg base CX0 1 f fd ["value"] spIsLine := by
  refine F.ok scIsLine (fun vs H Q E h => ?_) (fun cdv A outer s H vs Q E hr h => ?_)
  · obtain ⟨z, rfl, _⟩ := h
    rfl
  · obtain ⟨z, rfl, hz, q⟩ := h
    refine ⟨_, pss_one (ps_ret (pe_and (pe_callB call_isi (by rfl) T.isi (by decide +kernel) (pa_cons (pv 0) (pa_cons (pe_bltn (v := .ty "str") (by rfl) T.str (by decide +kernel) rfl) pa_nil)))
      (pe_one (pe_cmpR op_notIn_sign pe_str (pv 0) (by rfl))))), ?_⟩
    refine ⟨_, rfl, _, _, _, _, true, rfl, .ty _, .base (.str z), kit_ty (by decide +kernel), true, rfl, iteT ⟨_, rfl, 10, z, (by rfl), rfl, ?_⟩⟩
    have e : decide (10 ∈ z.cps.toList) = false := decide_eq_false hz
    rw [e]
    exact q

def spIsText (K : PySem.W.Frag) : Sp := fun vs H Q _ => ∃ (p : Addr) (zs : List Str), vs = [.ref p] ∧ TextA K H p zs ∧ zs.length ≤ 60 ∧ (∀ z ∈ zs, LineOk z) ∧ ∀ H', Same H H' → Q (.bl true) H'
theorem scIsText : FnScope ["value", "line"] ["value"] (defScope sIsText) := ⟨rfl, rfl, rfl, by decide +kernel, rfl, by decide +kernel, by decide +kernel⟩
theorem bools_of {K : PySem.W.Frag} {H : Hp} {ys : List V} : ∀ {bs : List Bool}, DpAll K H ys (bs.map PyData.bool) → ys = bs.map V.bl := by
  intro bs
  induction bs generalizing ys with
  | nil => exact fun h => dpa_nil h
  | cons b bs ih =>
    intro h
    obtain ⟨x, r, rfl, h1, h2⟩ := dpa_cons (ds := bs.map PyData.bool) h
    rw [dp_bl h1, ih h2]
    rfl
theorem ok_isText {f : Addr} {fd : FuncData} (F : Fun K "is_text" "is_text" sIsText f fd) (T : Txt mg) (c1 : Cal P w K mg base 1 "is_line" spIsLine) : FnOk P w K mg base CX0 2 f fd ["value"] (spIsText K) := by
  refine F.ok scIsText (fun vs H Q E h => ?_) (fun cdv A outer s H vs Q E hr h => ?_)
  · obtain ⟨p, zs, rfl, _⟩ := h
    rfl
  · obtain ⟨p, zs, rfl, hp, hl, hz, q⟩ := h
    obtain ⟨tm, mm⟩ := T.most
    refine ⟨_, pss_one (ps_ret (pe_and (pe_callB call_isiT (by rfl) T.isi (by decide +kernel) (pa_cons (pv 0) (pa_cons (pe_tup (pa_cons (pe_bltn (v := .ty "list") (by rfl) T.list (by decide +kernel) rfl) (pa_cons (pe_bltn (v := .ty "tuple") (by rfl) T.tuple (by decide +kernel) rfl) pa_nil))) pa_nil)))
      (pe_and (pe_cmpR op_le (pe_callB call_len_seq (by rfl) T.len PySem.boot_len (pa_cons (pv 0) pa_nil)) (pe_glob (v := .int 60) (by rfl) mm ⟨_, rfl⟩) (nomark _))
      (pe_one (pe_callB (cr_all rfl) (by rfl) T.all (by decide +kernel) (pa_cons (pe_lc (own := [("line", 1)]) (g := gName 1) (tt := tYes) rfl scIsText.nd (pi_either (pi_list (pv 0)) (pi_tup (pv 0)))
        (blkOk_by (N := ["value", "line"]) (sc := defScope sIsText) (by decide +kernel)) (fun _ _ _ _ _ => pg_name (i := 1) scIsText.nd rfl (Or.inl rfl)) (fun _ _ _ _ _ => pts_nil) (fun _ _ _ _ _ => pc c1 hr (by rfl) (pa_cons (pv 1) pa_nil))) pa_nil)))))), ?_⟩
    refine ⟨_, rfl, by show 2 ≤ sizeLine; decide, fun t ht => ?_⟩
    have ty : ∃ n, TyX K (upd H t (.tup [.ty "list", .ty "tuple"])) (.ref p) (.type n) ∧ PySem.W.kitAny K (.type n) [.type "list", .type "tuple"] = some true := by
      rcases hp.mono (same_new (o := .tup [.ty "list", .ty "tuple"]) ht) with h | h
      · exact ⟨_, tyL h, kitAny_cons (b := true) (kit_ty (by decide +kernel)) nofun fun _ => rfl⟩
      · exact ⟨_, tyT h, kitAny_cons (b := false) (kit_ty (by decide +kernel)) (fun _ => kitAny_cons (b := true) (kit_ty (by decide +kernel)) nofun fun _ => rfl) nofun⟩
    obtain ⟨n, ty, kt⟩ := ty
    have s1 : Same H (upd H t (.tup [.ty "list", .ty "tuple"])) := same_new ht
    refine ⟨_, t, _, _, _, true, rfl, upd_same, .cons (.ty _) (.cons (.ty _) .nil), ty, kt, true, rfl, iteT ?_⟩
    have hp1 := hp.mono s1
    refine ⟨_, rfl, p, _, rfl, hp1, _, _, rfl, rfl, true, ?_, iteT ?_⟩
    · rw [List.length_map]
      exact congrArg V.bl (decide_eq_true (by omega))
    · refine w_cb1 (lc_seq (K := K) (fun P h => ⟨_, rfl, h⟩) hp1 (by rw [List.length_map]; exact small1000 (by omega)) (fun i ds => ds = List.replicate i (.bool true)) rfl (fun D i x ds H2 R1 R0 hD hx sm e _ r1 _ => ?_) (fun D H2 ys ds hD sm hy hd e _ _ => ?_))
      · obtain ⟨z, hzm, rfl⟩ : ∃ z, z ∈ zs ∧ x = V.str z := by
          rw [List.getElem?_map] at hx
          cases g : zs[i]? with
          | none => rw [g] at hx; cases hx
          | some z => rw [g] at hx; exact ⟨z, List.mem_of_getElem? g, (Option.some.inj hx).symm⟩
        refine ⟨rfl, yes ?_⟩
        refine ⟨_, rfl, z, rfl, hz z hzm, r1 _ _ (.bool true) (Same.refl _) rfl (.bl _) ?_⟩
        rw [e, List.replicate_succ']
      · subst e
        rw [List.length_map] at hd
        rw [show List.replicate zs.length (PyData.bool true) = (List.replicate zs.length true).map PyData.bool from (List.map_replicate ..).symm] at hd
        have ey := bools_of hd
        refine ⟨D, List.replicate zs.length true, rfl, SqL.of (by rw [hy, ey]), ?_⟩
        have ea : (List.replicate zs.length true).all id = true := by rw [List.all_replicate]; simp
        rw [ea]
        exact q _ (s1.trans sm)
end
end K60

namespace K60
open PySem PySem.Spec PyProof.Rows L2
section
variable {P : Program} {w : World} {K : PySem.W.Frag} {mg : Str → Option Value} {base : Heap}
/-- an argument that is a text of this package -/
def TxtV (K : PySem.W.Frag) (H : Hp) (v : V) (zs : List Str) : Prop := ∃ p : Addr, v = .ref p ∧ TextA K H p zs ∧ zs.length ≤ 60 ∧ ∀ z ∈ zs, LineOk z
theorem TxtV.mono {H H' : Hp} {v : V} {zs : List Str} (e : Same H H') (h : TxtV K H v zs) : TxtV K H' v zs := let ⟨p, a, b, c⟩ := h; ⟨p, a, b.mono e, c⟩
def spCheckText (K : PySem.W.Frag) : Sp := fun vs H Q _ => ∃ (v : V) (zs : List Str), vs = [v] ∧ TxtV K H v zs ∧ ∀ H', Same H H' → Q .non H'
theorem scCheckText : FnScope ["value"] ["value"] (defScope sCheckText) := ⟨rfl, rfl, rfl, by decide +kernel, rfl, by decide +kernel, by decide +kernel⟩
theorem ok_checkText {f : Addr} {fd : FuncData} (F : Fun K "check_text" "check_text" sCheckText f fd) (c2 : Cal P w K mg base 2 "is_text" (spIsText K)) : FnOk P w K mg base CX0 3 f fd ["value"] (spCheckText K) := by
  refine F.ok scCheckText (fun vs H Q E h => ?_) (fun cdv A outer s H vs Q E hr h => ?_)
  · obtain ⟨p, zs, rfl, _⟩ := h
    rfl
  · obtain ⟨_, zs, rfl, ⟨p, rfl, hp, hl, hz⟩, q⟩ := h
    refine ⟨_, pss_one (ps_if (pt_not (pt_val (pc c2 hr (by rfl) (pa_cons (pv 0) pa_nil)))) pss_never pss_nil), ?_⟩
    exact ⟨_, rfl, p, zs, rfl, hp, hl, hz, fun H1 s1 => ⟨true, rfl, iteF (q H1 s1)⟩⟩

def spCheckTexts0 (K : PySem.W.Frag) : Sp := fun vs H Q _ => ∃ (t : Addr) (xs : List V), vs = [.ref t] ∧ SqT K H t xs ∧ (∀ x ∈ xs, ∃ zs, TxtV K H x zs) ∧ ∀ H', Same H H' → Q .non H'
def spCheckTexts (K : PySem.W.Frag) : Sp := fun vs H Q _ => (∀ x ∈ vs, ∃ zs, TxtV K H x zs) ∧ vs.length ≤ 10 ∧ ∀ H', Same H H' → Q .non H'
theorem scCheckTexts : FnScope ["values", "value"] ["values"] (defScope sCheckTexts) := ⟨rfl, rfl, rfl, by decide +kernel, rfl, by decide +kernel, by decide +kernel⟩
theorem ok_checkTexts {f : Addr} {fd : FuncData} (F : Fun K "check_texts" "check_texts" sCheckTexts f fd) (c3 : Cal P w K mg base 3 "check_text" (spCheckText K)) : FnR P w K mg base CX0 4 f (spCheckTexts K) := by
  obtain ⟨oc, od, kV, doc, pm, an, cdv, ct, osl, rfl, lk, hcd⟩ := F.ex
  refine FnR.imp (StX.fn_star (ps := []) (pv := "values") (k := 3) (N := ["values", "value"]) (sp := spCheckTexts0 K) lk hcd scCheckTexts StX.cxUp_none (fun us rest hl => ?_) fun A outer s H vs Q E hr h => ?_) fun vs H Q E h => ?_
  · match us, rest, hl with
    | [], [], _ => rfl
    | [], _ :: _, _ => rfl
  · obtain ⟨t, xs, rfl, hs, hx, q⟩ := h
    have body : PSs (cxOf CX0 P w K mg base ["values", "value"] "check_texts" (defScope sCheckTexts) f cdv A outer s H E).nox (defBody sCheckTexts) _ :=
      pss_one (ps_for PassesOwn.never rfl (pi_tup (pv 0)) (pg_name (i := 1) scCheckTexts.nd rfl (Or.inl rfl)) (pss_one (ps_expr (pc c3 hr (by rfl) (pa_cons (pv 1) pa_nil)))))
    refine ⟨_, body.nox, ?_⟩
    refine ⟨_, rfl, t, rfl, ⟨_, hs⟩, for_tup (K := K) (a := t) (xs := xs) (fun i σ H' => (∃ v, σ = [some (.ref t), v]) ∧ Same H H') ⟨⟨_, rfl⟩, Same.refl _⟩ (fun i σ H' _ p => same_seqT p.2 hs) ?_ ?_⟩
    · rintro i x σ H' hi ⟨⟨v, rfl⟩, sm⟩
      obtain ⟨zs, tv⟩ := hx x (List.mem_of_getElem? hi)
      exact ⟨_, rfl, x, zs, rfl, tv.mono sm, fun H2 s2 => ⟨⟨_, rfl⟩, sm.trans s2⟩⟩
    · rintro σ H' ⟨_, sm⟩
      exact q H' sm
  · obtain ⟨hx, hl, q⟩ := h
    refine ⟨[], vs, rfl, rfl, Nat.le_of_lt (small1000 (by omega)), fun p hp => ⟨p, vs, rfl, SqT.of upd_same, fun x hm => ?_, fun H' s' => q H' ((same_new hp).trans s')⟩⟩
    obtain ⟨zs, tv⟩ := hx x hm
    exact ⟨zs, tv.mono (same_new hp)⟩
end
end K60

namespace K60
open PySem PySem.Spec PyProof.Rows L2
abbrev sIsInteger : Stmt := top 11
abbrev sIsPair : Stmt := top 12
abbrev sHasForm : Stmt := top 13
abbrev sIsDiff : Stmt := top 14
abbrev sCheckDiff : Stmt := top 15

/-! ### values by the operators' readings -/
section
variable {K : PySem.W.Frag} {H : Hp} {C : VK}
theorem r_slice1 {σ : L2.St} {t : Addr} {xs : List V} (hs : SqT K H t xs) (k : ∀ b H1, Same H H1 → SqT K H1 b (xs.drop 1) → C (.ref b) H1) : tNoPart σ H fun u H3 => rSlA K (.ref t) (some 1) u H3 C := by
  show rSlA K (.ref t) (some 1) none H C
  have e1 : HT.sIx xs.length 0 (some 1) = min 1 xs.length := HT.sIx_nat _ _ 1
  have e2 : HT.sIx xs.length xs.length none = xs.length := HT.sIx_none _ _
  refine ⟨t, xs, rfl, hs, fun h => ?_, fun h p hp => ?_⟩
  · rw [e1] at h
    have z : xs = [] := List.eq_nil_of_length_eq_zero (by omega)
    exact k t H (Same.refl _) (by rw [z] at hs ⊢; exact hs)
  · refine k p _ (same_new hp) (SqT.of ?_)
    rw [upd_same]
    unfold cutV
    rw [e1, e2]
    rw [e1, e2] at h
    have l : 1 ≤ xs.length := by omega
    rw [Nat.min_eq_left l, List.take_of_length_le (by rw [List.length_drop]; omega)]
theorem r_ixT {t : Addr} {xs : List V} {i : Int} {j : Nat} {v : V} (hs : SqT K H t xs) (h : xs[j]? = some v) (q : C v H) (e : i = (j : Int) := by first | rfl | omega) : rIxT K (.ref t) (.int i) H C := ⟨t, xs, i, v, rfl, rfl, hs, at_of e h, q⟩
theorem r_ixTxt {p : Addr} {zs : List Str} {i : Int} {j : Nat} {z : Str} (hs : TextA K H p zs) (h : zs[j]? = some z) (q : C (.str z) H) (e : i = (j : Int) := by first | rfl | omega) : rIx K (.ref p) (.int i) H C := by
  have h' : (zs.map V.str)[j]? = some (V.str z) := by rw [List.getElem?_map, h]; rfl
  rcases hs with hs | hs
  · exact .inl ⟨p, _, i, _, rfl, rfl, hs, at_of e h', q⟩
  · exact .inr (.inl ⟨p, _, i, _, rfl, rfl, hs, at_of e h', q⟩)
theorem walk_zipT {a b : Addr} {xs ys : List V} {n : Nat} (hn : n = min xs.length ys.length) : Walk (RZ.ItzT K a b) n (fun H => SqT K H a xs ∧ SqT K H b ys) (YPair (fun i => xs[i]?) (fun i => ys[i]?)) := by
  subst hn
  refine ⟨fun i _ hi q => ?_, fun _ q => ⟨xs, ys, q.1, q.2, by omega⟩, fun i H v H' _ q y => ?_⟩
  · have h1 : i < xs.length := by omega
    have h2 : i < ys.length := by omega
    exact ⟨xs, ys, xs[i], ys[i], q.1, q.2, by simp [h1], by simp [h2]⟩
  · obtain ⟨T, x, z, h1, h2, h3, h4, h5⟩ := y
    exact ⟨T, x, z, h1, h2, h3, h4 xs q.1, h5 ys q.2⟩
end
/-! ### rules within a comprehension: the written part told by name -/
section
variable {X : Cx}
theorem kx_tup (K : PySem.W.Frag) (e : X.K = K := by rfl) : IxR X (rIxT K) := e ▸ ix_tup
theorem kx_list (K : PySem.W.Frag) (e : X.K = K := by rfl) : IxR X (rIxL K) := e ▸ ix_list
theorem kx_seq (K : PySem.W.Frag) (e : X.K = K := by rfl) : IxR X (rIx K) := e ▸ ix_seq
theorem kg_tup (K : PySem.W.Frag) {es : List Expr} {k : Nat} {pos : Pos} {n : Nat} {t : TGs} (hc : X.calm = true) (h : PGs X es t) (e : X.K = K := by rfl) (hn : (assignEach es X.env).length = n := by rfl) (hst : (assignEach es X.env).findIdx? (·.1) = none := by rfl) :
    PG X (.Tuple es k pos) (gTup K n t) := e ▸ pg_tup hc h hn hst
end

def encP (p : Int × Int) : PyData := .tuple [.int p.1, .int p.2]
theorem dp_pair {K : PySem.W.Frag} {H : Hp} {v : V} {p : Int × Int} (h : Dp K H v (encP p)) : ∃ t, v = .ref t ∧ SqT K H t [.int p.1, .int p.2] := by
  obtain ⟨t, xs, rfl, hs, a⟩ := dp_tup h
  have e := dpa_ints (l := [p.1, p.2]) a
  subst e
  exact ⟨t, rfl, hs⟩

section
variable {P : Program} {w : World} {K : PySem.W.Frag} {mg : Str → Option Value} {base : Heap}
def spIsInteger : Sp := fun vs H Q _ => ∃ i l m : Int, vs = [.int i, .int l, .int m] ∧ l ≤ i ∧ i ≤ m ∧ Q (.bl true) H
theorem scIsInteger : FnScope ["value", "least", "most"] ["value", "least", "most"] (defScope sIsInteger) := ⟨rfl, rfl, rfl, by decide +kernel, rfl, by decide +kernel, by decide +kernel⟩
theorem ok_isInteger {f : Addr} {fd : FuncData} (F : Fun K "is_integer" "is_integer" sIsInteger f fd) (T : Txt mg) : FnOk P w K mg base CX0 1 f fd ["value", "least", "most"] spIsInteger := by
  refine F.ok scIsInteger (fun vs H Q E h => ?_) (fun cdv A outer s H vs Q E hr h => ?_)
  · obtain ⟨i, l, m, rfl, _⟩ := h
    rfl
  · obtain ⟨i, l, m, rfl, h1, h2, q⟩ := h
    refine ⟨_, pss_one (ps_ret (pe_and (pe_callB call_isi (by rfl) T.isi (by decide +kernel) (pa_cons (pv 0) (pa_cons (pe_bltn (v := .ty "int") (by rfl) T.int (by decide +kernel) rfl) pa_nil)))
      (pe_and (pe_not (pe_callB call_isi (by rfl) T.isi (by decide +kernel) (pa_cons (pv 0) (pa_cons (pe_bltn (v := .ty "bool") (by rfl) T.bool (by decide +kernel) rfl) pa_nil))))
      (pe_one (pe_chain op_le op_le (pv 1) (pv 0) (pv 2)))))), ?_⟩
    refine ⟨_, rfl, _, _, _, _, true, rfl, .ty _, .base (.int i), kit_ty (by decide +kernel), true, rfl, iteT ?_⟩
    refine ⟨_, rfl, _, _, _, _, false, rfl, .ty _, .base (.int i), kit_ty (by decide +kernel), false, rfl, true, rfl, iteT ?_⟩
    refine ⟨_, rfl, _, rfl, _, _, rfl, rfl, true, congrArg V.bl (decide_eq_true h1), iteT ⟨_, rfl, _, _, rfl, rfl, qb (decide_eq_true h2) q⟩⟩

def spIsPair (K : PySem.W.Frag) : Sp := fun vs H Q _ => ∃ (o n t : Addr) (os ns : List Str) (i j : Nat) (z : Str), vs = [.ref o, .ref n, .ref t] ∧ TextA K H o os ∧ TextA K H n ns ∧ SqT K H t [.int ((i : Int) + 1), .int ((j : Int) + 1)] ∧ os[i]? = some z ∧ ns[j]? = some z ∧ Q (.bl true) H
theorem scIsPair : FnScope ["old", "new", "value"] ["old", "new", "value"] (defScope sIsPair) := ⟨rfl, rfl, rfl, by decide +kernel, rfl, by decide +kernel, by decide +kernel⟩
theorem ok_isPair {f : Addr} {fd : FuncData} (F : Fun K "is_pair" "is_pair" sIsPair f fd) (T : Txt mg) (ci : Cal P w K mg base 1 "is_integer" spIsInteger) : FnOk P w K mg base CX0 2 f fd ["old", "new", "value"] (spIsPair K) := by
  refine F.ok scIsPair (fun vs H Q E h => ?_) (fun cdv A outer s H vs Q E hr h => ?_)
  · obtain ⟨o, n, t, os, ns, i, j, z, rfl, _⟩ := h
    rfl
  · obtain ⟨o, n, t, os, ns, i, j, z, rfl, ho, hn, ht, hi, hj, q⟩ := h
    have hi1 := (List.getElem?_eq_some_iff.mp hi).1
    have hj1 := (List.getElem?_eq_some_iff.mp hj).1
    refine ⟨_, pss_cons (ps_if (PW.pt (pw_or (pt_not (pt_val (pe_callB call_isi (by rfl) T.isi (by decide +kernel) (pa_cons (pv 2) (pa_cons (pe_bltn (v := .ty "tuple") (by rfl) T.tuple (by decide +kernel) rfl) pa_nil)))))
        (pw_or1 (pt_cmpR op_ne (pe_callB call_len_seq (by rfl) T.len PySem.boot_len (pa_cons (pv 2) pa_nil)) pe_int (nomark _))))) pss_never pss_nil)
      (pss_cons (ps_if (PW.pt (pw_or (pt_not (pt_val (pc ci hr (by rfl) (pa_cons (pe_ix ix_tup (pv 2) pe_int (fun _ _ => rfl)) (pa_cons pe_int (pa_cons (pe_callB call_len_seq (by rfl) T.len PySem.boot_len (pa_cons (pv 0) pa_nil)) pa_nil))))))
        (pw_or1 (pt_not (pt_val (pc ci hr (by rfl) (pa_cons (pe_ix ix_tup (pv 2) pe_int (fun _ _ => rfl)) (pa_cons pe_int (pa_cons (pe_callB call_len_seq (by rfl) T.len PySem.boot_len (pa_cons (pv 1) pa_nil)) pa_nil))))))))) pss_never pss_nil)
      (pss_one (ps_ret (pe_cmpR op_eq (pe_ix ix_seq (pv 0) (pe_op op_sub (pe_ix ix_tup (pv 2) pe_int (fun _ _ => rfl)) pe_int) (fun _ _ => rfl)) (pe_ix ix_seq (pv 1) (pe_op op_sub (pe_ix ix_tup (pv 2) pe_int (fun _ _ => rfl)) pe_int) (fun _ _ => rfl)) (nomark _))))), ?_⟩
    refine ⟨_, rfl, _, _, _, _, true, rfl, .ty _, tyT ht, kit_ty (by decide +kernel), true, rfl, iteF ?_⟩
    refine ⟨_, rfl, t, _, rfl, .inr ht, rfl, false, rfl, iteF ?_⟩
    refine ⟨_, rfl, t, _, _, _, rfl, rfl, ht, at_of (j := 0) rfl rfl, ?_⟩
    refine ⟨_, rfl, o, _, rfl, ho, _, _, _, rfl, by omega, by rw [List.length_map]; omega, true, rfl, iteF ?_⟩
    refine ⟨_, rfl, t, _, _, _, rfl, rfl, ht, at_of (j := 1) rfl rfl, ?_⟩
    refine ⟨_, rfl, n, _, rfl, hn, _, _, _, rfl, by omega, by rw [List.length_map]; omega, true, rfl, iteF ?_⟩
    refine ⟨_, rfl, _, rfl, t, _, _, _, rfl, rfl, ht, at_of (j := 0) rfl rfl, _, _, rfl, rfl, r_ixTxt ho hi ?_⟩
    refine ⟨_, rfl, _, rfl, t, _, _, _, rfl, rfl, ht, at_of (j := 1) rfl rfl, _, _, rfl, rfl, r_ixTxt hn hj ?_⟩
    exact ⟨rfl, qb (decide_eq_true rfl) q⟩
end
end K60

namespace K60
open PySem PySem.Spec PyProof.Rows L2
def encPs (ps : List (Int × Int)) : PyData := .tuple (ps.map encP)
/-- an argument that is a diff of the two texts -/
structure DiffV (K : PySem.W.Frag) (H : Hp) (v : V) (os ns : List Str) (ps : List (Int × Int)) : Prop where
  good : GoodD os ns ps
  data : Dp K H v (encPs ps)
  len : ps.length ≤ 60
theorem DiffV.mono {K : PySem.W.Frag} {H H' : Hp} {v : V} {os ns : List Str} {ps : List (Int × Int)} (e : Same H H') (h : DiffV K H v os ns ps) : DiffV K H' v os ns ps := ⟨h.good, dm e h.data, h.len⟩
section
variable {P : Program} {w : World} {K : PySem.W.Frag} {mg : Str → Option Value} {base : Heap}
def spDiff3 (K : PySem.W.Frag) (r : V) : Sp := fun vs H Q _ => ∃ (o n d : V) (os ns : List Str) (ps : List (Int × Int)), vs = [o, n, d] ∧ TxtV K H o os ∧ TxtV K H n ns ∧ DiffV K H d os ns ps ∧ ∀ H', Same H H' → Q r H'
theorem scHasForm : FnScope ["old", "new", "value", "pair", "one", "other"] ["old", "new", "value"] (defScope sHasForm) := ⟨rfl, rfl, rfl, by decide +kernel, rfl, by decide +kernel, by decide +kernel⟩
theorem ok_hasForm {f : Addr} {fd : FuncData} (F : Fun K "has_form" "has_form" sHasForm f fd) (T : Txt mg) (c2 : Cal P w K mg base 2 "is_pair" (spIsPair K)) : FnOk P w K mg base CX0 3 f fd ["old", "new", "value"] (spDiff3 K (.bl true)) := by
  refine F.ok scHasForm (fun vs H Q E h => ?_) (fun cdv A outer s H vs Q E hr h => ?_)
  · obtain ⟨o, n, d, os, ns, ps, rfl, _⟩ := h
    rfl
  · obtain ⟨_, _, d, os, ns, ps, rfl, ⟨o, rfl, ho, lo, _⟩, ⟨n, rfl, hn, ln, _⟩, ⟨gd, hd, lp⟩, q⟩ := h
    obtain ⟨t, xs, rfl, ht, hxs⟩ := dp_tup hd
    have lx : xs.length = ps.length := dpa_mapLen hxs
    refine ⟨_, pss_cons (ps_if (PW.pt (pw_or (pt_not (pt_val (pe_callB call_isi (by rfl) T.isi (by decide +kernel) (pa_cons (pv 2) (pa_cons (pe_bltn (v := .ty "tuple") (by rfl) T.tuple (by decide +kernel) rfl) pa_nil)))))
        (pw_or1 (pt_not (pt_val (pe_callB (cr_all rfl) (by rfl) T.all (by decide +kernel) (pa_cons (pe_lc (own := [("pair", 3)]) (g := gName 3) (tt := tYes) rfl scHasForm.nd (pi_either (pi_list (pv 2)) (pi_tup (pv 2)))
          (blkOk_by (N := ["old", "new", "value", "pair", "one", "other"]) (sc := defScope sHasForm) (by decide +kernel)) (fun _ _ _ _ _ => pg_name (i := 3) scHasForm.nd rfl (Or.inl rfl)) (fun _ _ _ _ _ => pts_nil)
          (fun _ _ _ _ _ => pc c2 hr (by rfl) (pa_cons (pv 0) (pa_cons (pv 1) (pa_cons (pv 3) pa_nil))))) pa_nil))))))) pss_never pss_nil)
      (pss_one (ps_ret (pe_callB (cr_all rfl) (by rfl) T.all (by decide +kernel) (pa_cons (pe_lc (own := [("one", 4), ("other", 5)]) (g := gTup K 2 (gCons (gName 4) (gCons (gName 5) gNil))) (tt := tYes) rfl scHasForm.nd
          (pi_zipK (by rfl) T.zip (pa_cons (pv 2) (pa_cons (pe_slice sl_tupA (pv 2) (po_some pe_int) po_none) pa_nil)) (pk_cons pe_bl pk_nil))
          (blkOk_by (N := ["old", "new", "value", "pair", "one", "other"]) (sc := defScope sHasForm) (by decide +kernel))
          (fun _ _ _ _ _ => kg_tup K rfl (pgs_cons (pg_name (i := 4) scHasForm.nd rfl (Or.inl rfl)) (pgs_cons (pg_name (i := 5) scHasForm.nd rfl (Or.inl rfl)) pgs_nil))) (fun _ _ _ _ _ => pts_nil)
          (fun _ _ _ _ _ => pe_and (pe_cmpR op_lt (pe_ix (kx_tup K) (pv 4) pe_int (fun _ _ => rfl)) (pe_ix (kx_tup K) (pv 5) pe_int (fun _ _ => rfl)) (nomark _)) (pe_one (pe_cmpR op_lt (pe_ix (kx_tup K) (pv 4) pe_int (fun _ _ => rfl)) (pe_ix (kx_tup K) (pv 5) pe_int (fun _ _ => rfl)) (nomark _))))) pa_nil)))), ?_⟩
    refine ⟨_, rfl, _, _, _, _, true, rfl, .ty _, tyT ht, kit_ty (by decide +kernel), true, rfl, iteF ?_⟩
    refine w_cb1 (lc_seq (K := K) (fun P h => ⟨_, rfl, h⟩) (.inr ht) (small1000 (by omega)) (fun i ds => ds = List.replicate i (.bool true)) rfl (fun D i x ds H2 R1 R0 hD hx sm e _ r1 _ => ?_) (fun D H2 ys ds hD sm hy hd e _ _ => ?_))
    · obtain ⟨p, hp, dp⟩ := dpa_map hxs hx
      obtain ⟨a, b, z, rfl, h1, h2⟩ := gd.pair p (List.mem_of_getElem? hp)
      obtain ⟨t2, rfl, ht2⟩ := dp_pair dp
      refine ⟨rfl, yes ?_⟩
      exact ⟨_, rfl, _, rfl, _, rfl, o, n, t2, os, ns, a, b, z, rfl, ho.mono sm, hn.mono sm, same_seqT sm ht2, h1, h2, r1 _ _ (.bool true) (Same.refl _) rfl (.bl _) (by rw [e, List.replicate_succ'])⟩
    · subst e
      rw [lx] at hd
      rw [show List.replicate ps.length (PyData.bool true) = (List.replicate ps.length true).map PyData.bool from (List.map_replicate ..).symm] at hd
      have ey := bools_of hd
      refine ⟨D, List.replicate ps.length true, rfl, SqL.of (by rw [hy, ey]), ?_⟩
      have ea : (List.replicate ps.length true).all id = true := by rw [List.all_replicate]; simp
      rw [ea]
      refine ⟨true, rfl, iteF ?_⟩
      have ht' := same_seqT sm ht
      refine ⟨_, rfl, _, rfl, _, rfl, r_slice1 ht' (fun b H3 s3 hb => ?_)⟩
      refine ⟨t, b, xs, xs.drop 1, rfl, rfl, same_seqT s3 ht', hb, fun D2 hD2 => ?_⟩
      refine lc_lf (K := K) (n := xs.length - 1) (walk_zipT (by rw [List.length_drop]; omega)) (small1000 (by omega)) hD2 (fun H4 s4 => ⟨same_seqT (s3.trans s4) ht', same_seqT s4 hb⟩) (fun i ds => ds = List.replicate i (.bool true)) rfl
        (fun i x ds H4 H5 R1 R0 hi s4 e y _ r1 _ => ?_) (fun H4 ys2 ds s4 hy2 hd2 e _ _ => ?_)
      · obtain ⟨T2, x1, x2, rfl, hT2, rfl, e1, e2⟩ := y
        obtain ⟨p1, hp1, d1⟩ := dpa_map hxs e1
        have e2 : (xs.drop 1)[i]? = some x2 := e2
        rw [List.getElem?_drop, Nat.add_comm] at e2
        obtain ⟨p2, hp2, d2⟩ := dpa_map hxs e2
        obtain ⟨lt1, lt2⟩ := inc_next gd.inc i p1 p2 hp1 hp2
        obtain ⟨a1, rfl, h1⟩ := dp_pair d1
        obtain ⟨a2, rfl, h2⟩ := dp_pair d2
        have s5 : Same H4 (upd H4 T2 (.tup [.ref a1, .ref a2])) := same_new hT2
        have sA := sm.trans (s3.trans (s4.trans s5))
        have h1' := same_seqT sA h1
        have h2' := same_seqT sA h2
        refine ⟨T2, _, rfl, SqT.of upd_same, rfl, _, _, rfl, _, _, rfl, rfl, rfl, yes ?_⟩
        refine ⟨_, rfl, a1, _, _, _, rfl, rfl, h1', at_of (j := 0) rfl rfl, _, rfl, a2, _, _, _, rfl, rfl, h2', at_of (j := 0) rfl rfl, _, _, rfl, rfl, true, congrArg V.bl (decide_eq_true lt1), iteT ?_⟩
        refine ⟨_, rfl, a1, _, _, _, rfl, rfl, h1', at_of (j := 1) rfl rfl, _, rfl, a2, _, _, _, rfl, rfl, h2', at_of (j := 1) rfl rfl, _, _, rfl, rfl, ?_⟩
        exact qb (decide_eq_true lt2) (r1 _ _ (.bool true) s5 rfl (.bl _) (by rw [e, List.replicate_succ']))
      · subst e
        rw [show List.replicate (xs.length - 1) (PyData.bool true) = (List.replicate (xs.length - 1) true).map PyData.bool from (List.map_replicate ..).symm] at hd2
        have ey2 := bools_of hd2
        refine ⟨D2, List.replicate (xs.length - 1) true, rfl, SqL.of (by rw [hy2, ey2]), ?_⟩
        have ea2 : (List.replicate (xs.length - 1) true).all id = true := by rw [List.all_replicate]; simp
        rw [ea2]
        exact q _ (sm.trans (s3.trans s4))

theorem scIsDiff : FnScope ["old", "new", "value"] ["old", "new", "value"] (defScope sIsDiff) := ⟨rfl, rfl, rfl, by decide +kernel, rfl, by decide +kernel, by decide +kernel⟩
theorem ok_isDiff {f : Addr} {fd : FuncData} (F : Fun K "is_diff" "is_diff" sIsDiff f fd) (c4 : Cal P w K mg base 4 "check_texts" (spCheckTexts K)) (c3 : Cal P w K mg base 3 "has_form" (spDiff3 K (.bl true))) : FnOk P w K mg base CX0 5 f fd ["old", "new", "value"] (spDiff3 K (.bl true)) := by
  refine F.ok scIsDiff (fun vs H Q E h => ?_) (fun cdv A outer s H vs Q E hr h => ?_)
  · obtain ⟨o, n, d, os, ns, ps, rfl, _⟩ := h
    rfl
  · obtain ⟨o, n, d, os, ns, ps, rfl, ho, hn, hd, q⟩ := h
    refine ⟨_, pss_cons (ps_expr (pc c4 hr (by rfl) (pa_cons (pv 0) (pa_cons (pv 1) pa_nil)))) (pss_one (ps_ret (pc c3 (hr.mono (by decide)) (by rfl) (pa_cons (pv 0) (pa_cons (pv 1) (pa_cons (pv 2) pa_nil)))))), ?_⟩
    refine ⟨_, rfl, _, rfl, fun x hx => ?_, by show 2 ≤ 10; decide, fun H1 s1 => ?_⟩
    · rcases List.mem_cons.mp hx with rfl | hx
      · exact ⟨os, ho⟩
      · rw [List.mem_singleton.mp hx]
        exact ⟨ns, hn⟩
    · exact ⟨_, rfl, _, rfl, _, rfl, o, n, d, os, ns, ps, rfl, ho.mono s1, hn.mono s1, hd.mono s1, fun H2 s2 => q H2 (s1.trans s2)⟩
theorem scCheckDiff : FnScope ["old", "new", "value"] ["old", "new", "value"] (defScope sCheckDiff) := ⟨rfl, rfl, rfl, by decide +kernel, rfl, by decide +kernel, by decide +kernel⟩
theorem ok_checkDiff {f : Addr} {fd : FuncData} (F : Fun K "check_diff" "check_diff" sCheckDiff f fd) (c5 : Cal P w K mg base 5 "is_diff" (spDiff3 K (.bl true))) : FnOk P w K mg base CX0 6 f fd ["old", "new", "value"] (spDiff3 K .non) := by
  refine F.ok scCheckDiff (fun vs H Q E h => ?_) (fun cdv A outer s H vs Q E hr h => ?_)
  · obtain ⟨o, n, d, os, ns, ps, rfl, _⟩ := h
    rfl
  · obtain ⟨o, n, d, os, ns, ps, rfl, ho, hn, hd, q⟩ := h
    refine ⟨_, pss_one (ps_if (pt_not (pt_val (pc c5 hr (by rfl) (pa_cons (pv 0) (pa_cons (pv 1) (pa_cons (pv 2) pa_nil)))))) pss_never pss_nil), ?_⟩
    exact ⟨_, rfl, _, rfl, _, rfl, o, n, d, os, ns, ps, rfl, ho, hn, hd, fun H1 s1 => ⟨true, rfl, iteF (q H1 s1)⟩⟩
end
end K60

namespace K60
open PySem PySem.Spec PyProof.Rows L2
abbrev sBlocksOf : Stmt := top 16
abbrev sCheckVersions : Stmt := top 23
abbrev sComes : Stmt := top 24
abbrev sCovered : Stmt := top 25

/-! ### all but one address stands -/
def Bt (D : Addr) (H H' : Hp) : Prop := ∀ b o, b ≠ D → H b = some o → H' b = some o
theorem Bt.refl {D : Addr} {H : Hp} : Bt D H H := fun _ _ _ h => h
theorem Bt.trans {D : Addr} {H H1 H2 : Hp} (a : Bt D H H1) (b : Bt D H1 H2) : Bt D H H2 := fun c o n h => b c o n (a c o n h)
theorem Bt.of {D : Addr} {H H' : Hp} (e : Same H H') : Bt D H H' := fun b o _ h => e b o h
theorem Bt.upd {D : Addr} {H : Hp} {o : HO} : Bt D H (upd H D o) := fun b u n h => by rw [upd_ne n]; exact h
theorem Bt.same {D : Addr} {H H1 H2 : Hp} (e : Same H H1) (n : H D = Option.none) (b : Bt D H1 H2) : Same H H2 := fun c o h => b c o (ne_of_none h n) (e c o h)
theorem Bt.t {D : Addr} {H H' : Hp} {zs : List V} (h : H D = some (.lst zs)) (b : Bt D H H') : TSame H H' := fun c xs r => by
  have ne : c ≠ D := by
    rintro rfl
    rcases r with r | ⟨o, r⟩
    · rw [h] at r; cases r
    · rw [h] at r; cases r
  exact r.elim (fun r => .inl (b c _ ne r)) fun ⟨o, r⟩ => .inr ⟨o, b c _ ne r⟩
theorem TSame.trans {H H1 H2 : Hp} (a : TSame H H1) (b : TSame H1 H2) : TSame H H2 := fun c xs r => b c xs (a c xs r)
theorem TSame.seqT {K : PySem.W.Frag} {H H' : Hp} {a : Addr} {xs : List V} (e : TSame H H') (h : SqT K H a xs) : SqT K H' a xs := h.elim (fun h => .inl (e _ _ h)) .inr
theorem lfm {K : PySem.W.Frag} {H H' : Hp} {d : PyData} {v : V} (e : TSame H H') (l : lf d = true) (h : Dp K H v d) : Dp K H' v d := lfS e d v l h
theorem lfma {K : PySem.W.Frag} {H H' : Hp} {ds : List PyData} {vs : List V} (e : TSame H H') (l : lfAll ds = true) (h : DpAll K H vs ds) : DpAll K H' vs ds := lfSA e ds vs l h

/-! ### data of this law -/
def encB (k : Blk) : PyData := .tuple ([k.1, k.2.1, k.2.2.1, k.2.2.2].map PyData.int)
theorem lf_ints : ∀ ns : List Int, lfAll (ns.map PyData.int) = true
  | [] => by simp [lfAll]
  | n :: ns => by
    show lfAll (PyData.int n :: ns.map PyData.int) = true
    rw [lfAll, lf_ints ns]
    simp [lf]
theorem lf_B (k : Blk) : lf (encB k) = true := by
  unfold encB
  rw [lf, lf_ints]
theorem lf_Bs (l : List Blk) : lfAll (l.map encB) = true := lfAll_map fun k _ => lf_B k
theorem dp_B {K : PySem.W.Frag} {H : Hp} {v : V} {k : Blk} (h : Dp K H v (encB k)) : ∃ t, v = .ref t ∧ SqT K H t [.int k.1, .int k.2.1, .int k.2.2.1, .int k.2.2.2] := by
  obtain ⟨t, xs, rfl, hs, a⟩ := dp_tup h
  have e := dpa_ints a
  subst e
  exact ⟨t, rfl, hs⟩
theorem new_ints {K : PySem.W.Frag} {H : Hp} {p : Addr} (n : H p = Option.none) (ns : List Int) : Dp K (upd H p (.tup (ns.map V.int))) (.ref p) (.tuple (ns.map PyData.int)) := new_tup n of_ints
theorem shp_lay {d : PyData} (h : d.canLay0 = true) (g : d.depth ≤ 64) : SeqAt.shaped d = true := by
  unfold SeqAt.shaped
  rw [h, decide_eq_true g]
  rfl
theorem lay_ints : ∀ ns : List Int, PyData.canLayAll0 (ns.map PyData.int) = true
  | [] => by simp [PyData.canLayAll0]
  | n :: ns => by
    show PyData.canLayAll0 (PyData.int n :: ns.map PyData.int) = true
    rw [PyData.canLayAll0, lay_ints ns]
    simp [PyData.canLay0]
theorem shp_ints (ns : List Int) : SeqAt.shaped (.tuple (ns.map PyData.int)) = true := shp_lay (by rw [PyData.canLay0]; exact lay_ints ns) (by rw [PyData.depth, PySem.W.depth_ints]; decide)
theorem eqv_intsAll : ∀ ns ms : List Int, PyData.eqvAll (ns.map PyData.int) (ms.map PyData.int) = decide (ns = ms)
  | [], [] => by simp [PyData.eqvAll]
  | [], m :: ms => by simp [PyData.eqvAll]
  | n :: ns, [] => by simp [PyData.eqvAll]
  | n :: ns, m :: ms => by
    show PyData.eqvAll (PyData.int n :: ns.map PyData.int) (PyData.int m :: ms.map PyData.int) = _
    rw [PyData.eqvAll, eqv_intsAll ns ms, PyData.eqv]
    by_cases e : n = m <;> by_cases e2 : ns = ms <;> simp [e, e2]
theorem eqv_ints (ns ms : List Int) : PyData.eqv (.tuple (ns.map PyData.int)) (.tuple (ms.map PyData.int)) = decide (ns = ms) := by
  rw [PyData.eqv]
  exact eqv_intsAll ns ms
theorem r_cat {K : PySem.W.Frag} {H : Hp} {C : VK} {a b : Addr} {xs ys : List V} (ha : SqT K H a xs) (hb : SqT K H b ys) (sz : xs.length + ys.length ≤ sizeLine) (k : ∀ c H1, Same H H1 → SqT K H1 c (xs ++ ys) → C (.ref c) H1) : rCatA K (.ref a) (.ref b) H C := by
  refine ⟨a, b, xs, ys, rfl, rfl, ha, hb, sz, fun e => ?_, fun _ e => ?_, fun _ _ p hp => k p _ (same_new hp) (SqT.of upd_same)⟩
  · exact k b H (Same.refl _) (by rw [e]; exact hb)
  · exact k a H (Same.refl _) (by rw [e, List.append_nil]; exact ha)
theorem take_fold {α β : Type} (f : β → α → β) (b : β) (l : List α) (i : Nat) (a : α) (h : l[i]? = some a) : (l.take (i + 1)).foldl f b = f ((l.take i).foldl f b) a := by
  rw [List.take_add_one, h, List.foldl_append]
  rfl

section
variable {P : Program} {w : World} {K : PySem.W.Frag} {mg : Str → Option Value} {base : Heap}
def spBlocks (K : PySem.W.Frag) : Sp := fun vs H Q _ => ∃ (o n d : V) (os ns : List Str) (ps : List (Int × Int)), vs = [o, n, d] ∧ TxtV K H o os ∧ TxtV K H n ns ∧ DiffV K H d os ns ps ∧
  ∀ (q : Addr) (xs : List V) (H' : Hp), Same H H' → H q = Option.none → H' q = some (.lst xs) → DpAll K H' xs ((blocksM os.length ns.length ps).map encB) → Q (.ref q) H'
theorem scBlocksOf : FnScope ["old", "new", "diff", "found", "a", "c", "i", "j"] ["old", "new", "diff"] (defScope sBlocksOf) := ⟨rfl, rfl, rfl, by decide +kernel, rfl, by decide +kernel, by decide +kernel⟩
theorem ok_blocksOf {f : Addr} {fd : FuncData} (F : Fun K "blocks_of" "blocks_of" sBlocksOf f fd) (T : Txt mg) (c6 : Cal P w K mg base 6 "check_diff" (spDiff3 K .non)) : FnOk P w K mg base CX0 7 f fd ["old", "new", "diff"] (spBlocks K) := by
  refine F.ok scBlocksOf (fun vs H Q E h => ?_) (fun cdv A outer s H vs Q E hr h => ?_)
  · obtain ⟨o, n, d, os, ns, ps, rfl, _⟩ := h
    rfl
  · obtain ⟨_, _, d, os, ns, ps, rfl, ho, hn, hd, q⟩ := h
    have hoA := ho
    have hnA := hn
    obtain ⟨o, rfl, hot, lo, _⟩ := ho
    obtain ⟨n, rfl, hnt, ln, _⟩ := hn
    obtain ⟨t, xs, rfl, ht, hxs⟩ := dp_tup hd.data
    have lx : xs.length = ps.length := dpa_mapLen hxs
    have lp := hd.len
    refine ⟨_, pss_cons (ps_expr (pc c6 hr (by rfl) (pa_cons (pv 0) (pa_cons (pv 1) (pa_cons (pv 2) pa_nil)))))
      (pss_cons (ps_set (i := 3) scBlocksOf.nd rfl (Or.inl rfl) (pe_lst pa_nil))
      (pss_cons (ps_asg (pe_tup (pa_cons pe_int (pa_cons pe_int pa_nil))) (pg_tup rfl (pgs_cons (pg_name (i := 4) scBlocksOf.nd rfl (Or.inl rfl)) (pgs_cons (pg_name (i := 5) scBlocksOf.nd rfl (Or.inl rfl)) pgs_nil))))
      (pss_cons (ps_for PassesOwn.never rfl (pi_tup (pe_op op_catA (pv 2) (pe_tup (pa_cons (pe_tup (pa_cons (pe_op op_add (pe_callB call_len_seq (by rfl) T.len PySem.boot_len (pa_cons (pv 0) pa_nil)) pe_int) (pa_cons (pe_op op_add (pe_callB call_len_seq (by rfl) T.len PySem.boot_len (pa_cons (pv 1) pa_nil)) pe_int) pa_nil))) pa_nil))))
          (pg_tup rfl (pgs_cons (pg_name (i := 6) scBlocksOf.nd rfl (Or.inl rfl)) (pgs_cons (pg_name (i := 7) scBlocksOf.nd rfl (Or.inl rfl)) pgs_nil)))
          (pss_cons (ps_if (pt_cmpR (op_neD hr.units) (pe_tup (pa_cons (pv 4) (pa_cons (pv 5) pa_nil))) (pe_tup (pa_cons (pe_op op_sub (pv 6) pe_int) (pa_cons (pe_op op_sub (pv 7) pe_int) pa_nil))) (nomark _))
              (pss_one (ps_expr (pe_bm PySem.F.plainAttrs_list PySem.F.slot_list_append PySem.F.type_list_append mt_append (pv 3) (pa_cons (pe_tup (pa_cons (pv 4) (pa_cons (pe_op op_sub (pv 6) pe_int) (pa_cons (pv 5) (pa_cons (pe_op op_sub (pv 7) pe_int) pa_nil))))) pa_nil)))) pss_nil)
            (pss_one (ps_par rfl scBlocksOf.nd (i := 4) (j := 5) rfl rfl (by decide) rfl rfl (pa_cons (pv 6) (pa_cons (pv 7) pa_nil)) (by rfl)))))
      (pss_one (ps_ret (pv 3)))))), ?_⟩
    refine ⟨_, rfl, _, rfl, _, rfl, .ref o, .ref n, .ref t, os, ns, ps, rfl, hoA, hnA, hd, fun H1 s1 => ?_⟩
    refine ⟨Nat.zero_le _, fun fl hfl => ?_⟩
    have hfl0 : H fl = Option.none := s1.free hfl
    refine ⟨by show 2 ≤ sizeLine; decide, fun p0 hp0 => ?_⟩
    refine ⟨p0, _, rfl, SqT.of upd_same, rfl, _, _, rfl, _, _, rfl, rfl, ?_⟩
    generalize eH2 : upd (upd H1 fl (.lst [])) p0 (.tup [.int 0, .int 0]) = H2
    have s2 : Same H1 H2 := eH2 ▸ (same_new hfl).trans (same_new hp0)
    have hfl2 : H2 fl = some (.lst []) := eH2 ▸ (same_new hp0) _ _ upd_same
    have sA := s1.trans s2
    have hot2 := hot.mono sA
    have hnt2 := hnt.mono sA
    refine ⟨_, rfl, ?_⟩
    refine ⟨_, rfl, o, _, rfl, hot2, _, _, rfl, rfl, _, rfl, n, _, rfl, hnt2, _, _, rfl, rfl, by show 2 ≤ sizeLine; decide, fun p1 hp1 => ?_⟩
    refine ⟨by show 1 ≤ sizeLine; decide, fun p2 hp2 => ?_⟩
    have s3 : Same H2 (upd H2 p1 (.tup [.int (((os.map V.str).length : Nat) + 1), .int (((ns.map V.str).length : Nat) + 1)])) := same_new hp1
    have s4 := same_new (o := .tup [.ref p1]) hp2
    have dEnd : Dp K (upd (upd H2 p1 (.tup [.int (((os.map V.str).length : Nat) + 1), .int (((ns.map V.str).length : Nat) + 1)])) p2 (.tup [.ref p1])) (.ref p1) (encP ((os.length : Int) + 1, (ns.length : Int) + 1)) := by
      have e := new_ints (K := K) hp1 [((os.map V.str).length : Int) + 1, ((ns.map V.str).length : Int) + 1]
      rw [List.length_map, List.length_map] at e
      refine dm s4 ?_
      rw [List.length_map, List.length_map]
      exact e
    have ht4 := same_seqT (sA.trans (s3.trans s4)) ht
    refine r_cat (K := K) ht4 (SqT.of upd_same) (by show xs.length + 1 ≤ _; exact Nat.le_of_lt (small1000 (by omega))) fun cx H5 s5 hcx => ?_
    have sB := s2.trans (s3.trans (s4.trans s5))
    have sC := s1.trans sB
    have hfl5 : H5 fl = some (.lst []) := s5 _ _ (s4 _ _ (s3 _ _ hfl2))
    have hL : DpAll K H5 (xs ++ [.ref p1]) ((ps ++ [((os.length : Int) + 1, (ns.length : Int) + 1)]).map encP) := by
      rw [List.map_append]
      exact dpa_app (dma sC hxs) (.cons (dm s5 dEnd) .nil)
    have lfL : lfAll ((ps ++ [((os.length : Int) + 1, (ns.length : Int) + 1)]).map encP) = true := lfAll_map fun p _ => by simp [encP, lf, lfAll]
    generalize eL : ps ++ [((os.length : Int) + 1, (ns.length : Int) + 1)] = L at hL lfL
    have lenL : (xs ++ [V.ref p1]).length = L.length := dpa_mapLen hL
    have lenL2 : L.length ≤ 61 := by rw [← eL, List.length_append, List.length_singleton]; omega
    refine ⟨cx, rfl, ⟨_, hcx⟩, for_tup (K := K) (a := cx) (xs := xs ++ [V.ref p1]) (fun i σ H' => ∃ ys v6 v7, σ = [some (.ref o), some (.ref n), some (.ref t), some (.ref fl), some (.int ((L.take i).foldl bStep ([], 0, 0)).2.1), some (.int ((L.take i).foldl bStep ([], 0, 0)).2.2), v6, v7] ∧
        Bt fl H5 H' ∧ H' fl = some (.lst ys) ∧ DpAll K H' ys (((L.take i).foldl bStep ([], 0, 0)).1.map encB) ∧ ys.length ≤ i)
      ⟨[], _, _, rfl, Bt.refl, hfl5, .nil, Nat.le_refl _⟩ (fun i σ H' _ ⟨_, _, _, _, b, _⟩ => (b.t hfl5).seqT hcx) ?_ ?_⟩
    · rintro i x σ H' hi ⟨ys, v6, v7, rfl, bt, hy, hds, ly⟩
      have hi1 := (List.getElem?_eq_some_iff.mp hi).1
      obtain ⟨p, hp, dp⟩ := dpa_map hL hi
      have dp' := lfm (bt.t hfl5) (by simp [encP, lf, lfAll]) dp
      obtain ⟨tp, rfl, htp⟩ := dp_pair dp'
      have st := take_fold bStep ([], 0, 0) L i p hp
      generalize ea : (L.take i).foldl bStep ([], 0, 0) = S0 at hds ⊢
      rw [ea] at st
      obtain ⟨fS, aS, cS⟩ := S0
      refine ⟨tp, _, rfl, htp, rfl, _, _, rfl, _, _, rfl, rfl, ?_⟩
      refine ⟨_, rfl, _, rfl, by show 2 ≤ sizeLine; decide, fun q1 hq1 => ?_⟩
      have t1 : Same H' (upd H' q1 (.tup [.int aS, .int cS])) := same_new hq1
      refine ⟨_, rfl, _, _, rfl, rfl, _, rfl, _, _, rfl, rfl, by show 2 ≤ sizeLine; decide, fun q2 hq2 => ?_⟩
      have t2 := same_new (o := .tup [.int (p.1 - 1), .int (p.2 - 1)]) hq2
      refine ⟨.tuple ([aS, cS].map PyData.int), .tuple ([p.1 - 1, p.2 - 1].map PyData.int), dm t2 (new_ints hq1 [aS, cS]), new_ints hq2 [p.1 - 1, p.2 - 1], shp_ints _, shp_ints _, _, rfl, ?_⟩
      rw [eqv_ints]
      have tt := t1.trans t2
      have hy2 := tt _ _ hy
      by_cases e : aS = p.1 - 1 ∧ cS = p.2 - 1
      · rw [decide_eq_true (by rw [e.1, e.2])]
        refine iteF ⟨_, rfl, _, rfl, _, _, rfl, ys, some (.int p.1), some (.int p.2), ?_, bt.trans (Bt.of tt), hy2, ?_, Nat.le_succ_of_le ly⟩
        · rw [st]
          rfl
        · rw [st, show bStep (fS, aS, cS) p = (if aS = p.1 - 1 ∧ cS = p.2 - 1 then fS else fS ++ [(aS, p.1 - 1, cS, p.2 - 1)], p.1, p.2) from rfl, if_pos e]
          exact dma tt hds
      · rw [decide_eq_false (fun z => e (by injection z with z1 z2; injection z2 with z2; exact ⟨z1, z2⟩))]
        refine iteT ?_
        refine ⟨_, rfl, .inl ⟨rfl, _, SqL.of hy2⟩, ?_⟩
        refine ⟨_, rfl, _, rfl, _, _, rfl, rfl, _, rfl, _, rfl, _, _, rfl, rfl, by show 4 ≤ sizeLine; decide, fun q3 hq3 => ?_⟩
        have t3 := same_new (o := .tup [.int aS, .int (p.1 - 1), .int cS, .int (p.2 - 1)]) hq3
        have t3' := tt.trans t3
        refine ⟨fl, _, _, rfl, rfl, t3' _ _ hy, small1000 (by omega), ?_⟩
        have tD := TSame.updL (zs := ys ++ [V.ref q3]) (t3' _ _ hy)
        refine ⟨_, rfl, _, rfl, _, _, rfl, ys ++ [.ref q3], some (.int p.1), some (.int p.2), ?_, bt.trans ((Bt.of t3').trans Bt.upd), upd_same, ?_, by rw [List.length_append, List.length_singleton]; omega⟩
        · rw [st]
          rfl
        · rw [st, show bStep (fS, aS, cS) p = (if aS = p.1 - 1 ∧ cS = p.2 - 1 then fS else fS ++ [(aS, p.1 - 1, cS, p.2 - 1)], p.1, p.2) from rfl, if_neg e, List.map_append]
          exact dpa_app (lfma tD (lf_Bs _) (dma t3' hds)) (.cons (lfm tD (lf_B _) (new_ints hq3 [aS, p.1 - 1, cS, p.2 - 1])) .nil)
    · rintro σ H' ⟨ys, v6, v7, rfl, bt, hy, hds, ly⟩
      rw [lenL, List.take_length, ← eL] at hds
      exact ⟨_, rfl, q fl ys H' (bt.same sC hfl0) hfl0 hy hds⟩
end
end K60

namespace K60
open PySem PySem.Spec PyProof.Rows L2
def comesB (k : Blk) : Bool := decide (k.2.2.1 < k.2.2.2)
section
variable {P : Program} {w : World} {K : PySem.W.Frag} {mg : Str → Option Value} {base : Heap}
def spComes (K : PySem.W.Frag) : Sp := fun vs H Q _ => ∃ (v : V) (k : Blk), vs = [v] ∧ Dp K H v (encB k) ∧ Q (.bl (comesB k)) H
theorem scComes : FnScope ["block"] ["block"] (defScope sComes) := ⟨rfl, rfl, rfl, by decide +kernel, rfl, by decide +kernel, by decide +kernel⟩
theorem ok_comes {f : Addr} {fd : FuncData} (F : Fun K "comes_something" "comes_something" sComes f fd) : FnOk P w K mg base CX0 1 f fd ["block"] (spComes K) := by
  refine F.ok scComes (fun vs H Q E h => ?_) (fun cdv A outer s H vs Q E hr h => ?_)
  · obtain ⟨v, k, rfl, _⟩ := h
    rfl
  · obtain ⟨_, k, rfl, hk, q⟩ := h
    obtain ⟨t, rfl, ht⟩ := dp_B hk
    refine ⟨_, pss_one (ps_ret (pe_cmpR op_gt (pe_ix ix_tup (pv 0) pe_int (fun _ _ => rfl)) (pe_ix ix_tup (pv 0) pe_int (fun _ _ => rfl)) (nomark _))), ?_⟩
    exact ⟨_, rfl, t, _, _, _, rfl, rfl, ht, at_of (j := 3) rfl rfl, _, rfl, t, _, _, _, rfl, rfl, ht, at_of (j := 2) rfl rfl, _, _, rfl, rfl, q⟩

def spCovered (K : PySem.W.Frag) : Sp := fun vs H Q _ => ∃ (v : V) (k : Blk), vs = [v] ∧ Dp K H v (encB k) ∧ ∀ r H', Same H H' → Dp K H' r (encP (cov k)) → Q r H'
theorem scCovered : FnScope ["block"] ["block"] (defScope sCovered) := ⟨rfl, rfl, rfl, by decide +kernel, rfl, by decide +kernel, by decide +kernel⟩
theorem ok_covered {f : Addr} {fd : FuncData} (F : Fun K "covered_by" "covered_by" sCovered f fd) (c1 : Cal P w K mg base 1 "comes_something" (spComes K)) : FnOk P w K mg base CX0 2 f fd ["block"] (spCovered K) := by
  refine F.ok scCovered (fun vs H Q E h => ?_) (fun cdv A outer s H vs Q E hr h => ?_)
  · obtain ⟨v, k, rfl, _⟩ := h
    rfl
  · obtain ⟨_, k, rfl, hk, q⟩ := h
    obtain ⟨t, rfl, ht⟩ := dp_B hk
    refine ⟨_, pss_cons (ps_if (pt_val (pc c1 hr (by rfl) (pa_cons (pv 0) pa_nil))) (pss_one (ps_ret (pe_tup (pa_cons (pe_op op_mul pe_int (pe_ix ix_tup (pv 0) pe_int (fun _ _ => rfl))) (pa_cons (pe_op op_mul pe_int (pe_ix ix_tup (pv 0) pe_int (fun _ _ => rfl))) pa_nil))))) pss_nil)
      (pss_one (ps_ret (pe_tup (pa_cons (pe_op op_add (pe_op op_mul pe_int (pe_ix ix_tup (pv 0) pe_int (fun _ _ => rfl))) pe_int) (pa_cons (pe_op op_sub (pe_op op_mul pe_int (pe_ix ix_tup (pv 0) pe_int (fun _ _ => rfl))) pe_int) pa_nil))))), ?_⟩
    refine ⟨_, rfl, .ref t, k, rfl, hk, comesB k, rfl, ?_⟩
    by_cases e : k.2.2.1 < k.2.2.2
    · rw [show comesB k = true from decide_eq_true e]
      refine iteT ?_
      refine ⟨_, rfl, t, _, _, _, rfl, rfl, ht, at_of (j := 0) rfl rfl, _, _, rfl, rfl, .inl ⟨by decide, by decide⟩, _, rfl, t, _, _, _, rfl, rfl, ht, at_of (j := 1) rfl rfl, _, _, rfl, rfl, .inl ⟨by decide, by decide⟩, by show 2 ≤ sizeLine; decide, fun p hp => q _ _ (same_new hp) ?_⟩
      rw [show cov k = (2 * k.1, 2 * k.2.1) from if_pos e]
      exact new_ints hp [2 * k.1, 2 * k.2.1]
    · rw [show comesB k = false from decide_eq_false e]
      refine iteF ?_
      refine ⟨_, rfl, t, _, _, _, rfl, rfl, ht, at_of (j := 0) rfl rfl, _, _, rfl, rfl, .inl ⟨by decide, by decide⟩, _, _, rfl, rfl, _, rfl, t, _, _, _, rfl, rfl, ht, at_of (j := 1) rfl rfl, _, _, rfl, rfl, .inl ⟨by decide, by decide⟩, _, _, rfl, rfl, by show 2 ≤ sizeLine; decide, fun p hp => q _ _ (same_new hp) ?_⟩
      rw [show cov k = (2 * k.1 + 1, 2 * k.2.1 - 1) from if_neg e]
      exact new_ints hp [2 * k.1 + 1, 2 * k.2.1 - 1]

def spCheckVersions (K : PySem.W.Frag) : Sp := fun vs H Q _ => ∃ (b o t d1 d2 : V) (bs os ts : List Str) (p1 p2 : List (Int × Int)), vs = [b, o, t, d1, d2] ∧ TxtV K H b bs ∧ TxtV K H o os ∧ TxtV K H t ts ∧ DiffV K H d1 bs os p1 ∧ DiffV K H d2 bs ts p2 ∧ ∀ H', Same H H' → Q .non H'
theorem scCheckVersions : FnScope ["base", "one", "two", "diff_one", "diff_two", "text", "version", "diff"] ["base", "one", "two", "diff_one", "diff_two"] (defScope sCheckVersions) := ⟨rfl, rfl, rfl, by decide +kernel, rfl, by decide +kernel, by decide +kernel⟩
theorem ok_checkVersions {f : Addr} {fd : FuncData} (F : Fun K "check_versions" "check_versions" sCheckVersions f fd) (c2 : Cal P w K mg base 2 "is_text" (spIsText K)) (c5 : Cal P w K mg base 5 "is_diff" (spDiff3 K (.bl true))) : FnOk P w K mg base CX0 6 f fd ["base", "one", "two", "diff_one", "diff_two"] (spCheckVersions K) := by
  refine F.ok scCheckVersions (fun vs H Q E h => ?_) (fun cdv A outer s H vs Q E hr h => ?_)
  · obtain ⟨b, o, t, d1, d2, bs, os, ts, p1, p2, rfl, _⟩ := h
    rfl
  · obtain ⟨b, o, t, d1, d2, bs, os, ts, p1, p2, rfl, hb, ho, ht, h1, h2, q⟩ := h
    refine ⟨_, pss_cons (ps_for PassesOwn.never rfl (pi_tup (pe_tup (pa_cons (pv 0) (pa_cons (pv 1) (pa_cons (pv 2) pa_nil))))) (pg_name (i := 5) scCheckVersions.nd rfl (Or.inl rfl)) (pss_one (ps_if (pt_not (pt_val (pc c2 (hr.mono (by decide)) (by rfl) (pa_cons (pv 5) pa_nil)))) pss_never pss_nil)))
      (pss_one (ps_for PassesOwn.never rfl (pi_tup (pe_tup (pa_cons (pe_tup (pa_cons (pv 1) (pa_cons (pv 3) pa_nil))) (pa_cons (pe_tup (pa_cons (pv 2) (pa_cons (pv 4) pa_nil))) pa_nil)))) (pg_tup rfl (pgs_cons (pg_name (i := 6) scCheckVersions.nd rfl (Or.inl rfl)) (pgs_cons (pg_name (i := 7) scCheckVersions.nd rfl (Or.inl rfl)) pgs_nil)))
        (pss_one (ps_if (pt_not (pt_val (pc c5 hr (by rfl) (pa_cons (pv 0) (pa_cons (pv 6) (pa_cons (pv 7) pa_nil)))))) pss_never pss_nil)))), ?_⟩
    refine ⟨_, rfl, _, rfl, _, rfl, by show 3 ≤ sizeLine; decide, fun p hp => ?_⟩
    have s1 : Same H (upd H p (.tup [b, o, t])) := same_new hp
    refine ⟨p, rfl, ⟨_, SqT.of upd_same⟩, for_tup (K := K) (a := p) (xs := [b, o, t]) (fun i σ H' => (∃ v, σ = [some b, some o, some t, some d1, some d2, v, none, none]) ∧ Same (upd H p (.tup [b, o, t])) H') ⟨⟨_, rfl⟩, Same.refl _⟩ (fun i σ H' _ z => same_seqT z.2 (SqT.of upd_same)) ?_ ?_⟩
    · rintro i x σ H' hi ⟨⟨v, rfl⟩, sm⟩
      have sA := s1.trans sm
      have tx : ∃ zs, TxtV K H' x zs := by
        have hx := List.mem_of_getElem? hi
        simp only [List.mem_cons, List.not_mem_nil, or_false] at hx
        rcases hx with rfl | rfl | rfl
        · exact ⟨_, hb.mono sA⟩
        · exact ⟨_, ho.mono sA⟩
        · exact ⟨_, ht.mono sA⟩
      obtain ⟨zs, q0, rfl, k1, k2, k3⟩ := tx
      exact ⟨_, rfl, q0, zs, rfl, k1, k2, k3, fun H2 s2 => ⟨true, rfl, iteF ⟨⟨_, rfl⟩, sm.trans s2⟩⟩⟩
    · rintro σ H' ⟨⟨v, rfl⟩, sm⟩
      have sA := s1.trans sm
      refine ⟨_, rfl, _, rfl, by show 2 ≤ sizeLine; decide, fun a1 ha1 => ?_⟩
      have t1 : Same H' (upd H' a1 (.tup [o, d1])) := same_new ha1
      refine ⟨_, rfl, _, rfl, by show 2 ≤ sizeLine; decide, fun a2 ha2 => ?_⟩
      have t2 := same_new (o := .tup [t, d2]) ha2
      refine ⟨by show 2 ≤ sizeLine; decide, fun a3 ha3 => ?_⟩
      have t3 := same_new (o := .tup [.ref a1, .ref a2]) ha3
      have g1 : SqT K _ a1 [o, d1] := same_seqT (t2.trans t3) (SqT.of upd_same)
      have g2 : SqT K _ a2 [t, d2] := same_seqT t3 (SqT.of upd_same)
      have sB := sA.trans (t1.trans (t2.trans t3))
      have g3 : SqT K (upd (upd (upd H' a1 (.tup [o, d1])) a2 (.tup [t, d2])) a3 (.tup [.ref a1, .ref a2])) a3 [.ref a1, .ref a2] := SqT.of upd_same
      generalize upd (upd (upd H' a1 (.tup [o, d1])) a2 (.tup [t, d2])) a3 (.tup [.ref a1, .ref a2]) = H3 at g1 g2 g3 sB ⊢
      refine ⟨a3, rfl, ⟨_, g3⟩, for_tup (K := K) (a := a3) (xs := [.ref a1, .ref a2]) (fun i σ H' => (∃ v v6 v7, σ = [some b, some o, some t, some d1, some d2, v, v6, v7]) ∧ Same H3 H') ⟨⟨_, _, _, rfl⟩, Same.refl _⟩ (fun i σ H' _ z => same_seqT z.2 g3) ?_ ?_⟩
      · rintro i x σ H4 hi ⟨⟨v, v6, v7, rfl⟩, sm⟩
        have sC := sB.trans sm
        have tx : ∃ a vv dd vs ps, x = .ref a ∧ SqT K H4 a [vv, dd] ∧ TxtV K H4 vv vs ∧ DiffV K H4 dd bs vs ps := by
          have hx := List.mem_of_getElem? hi
          simp only [List.mem_cons, List.not_mem_nil, or_false] at hx
          rcases hx with rfl | rfl
          · exact ⟨a1, o, d1, os, p1, rfl, same_seqT sm g1, ho.mono sC, h1.mono sC⟩
          · exact ⟨a2, t, d2, ts, p2, rfl, same_seqT sm g2, ht.mono sC, h2.mono sC⟩
        obtain ⟨a, vv, dd, vs, ps, rfl, ka, kv, kd⟩ := tx
        exact ⟨a, _, rfl, ka, rfl, _, _, rfl, _, _, rfl, rfl, _, rfl, _, rfl, _, rfl, b, vv, dd, bs, vs, ps, rfl, hb.mono sC, kv, kd, fun H5 s5 => ⟨true, rfl, iteF ⟨⟨_, _, _, rfl⟩, sm.trans s5⟩⟩⟩
      · rintro σ H4 ⟨⟨v, v6, v7, rfl⟩, sm⟩
        exact q H4 (sB.trans sm)
end
end K60

namespace K60
open PySem PySem.Spec PyProof.Rows L2
abbrev sBounds : Stmt := top 26
abbrev sComingLines : Stmt := top 27
abbrev sAreAlike : Stmt := top 28
abbrev sKindOf : Stmt := top 29
abbrev sLawBounds : Stmt := top 48

/-! ### least and greatest, as functions -/
open Classical in
noncomputable def minI (ns : List Int) : Int := if h : ∃ m, m ∈ ns ∧ ∀ y, y ∈ ns → m ≤ y then h.choose else 0
open Classical in
noncomputable def maxI (ns : List Int) : Int := if h : ∃ m, m ∈ ns ∧ ∀ y, y ∈ ns → y ≤ m then h.choose else 0
theorem minI_of {ns : List Int} {m : Int} (h1 : m ∈ ns) (h2 : ∀ y, y ∈ ns → m ≤ y) : m = minI ns := by
  have h : ∃ m, m ∈ ns ∧ ∀ y, y ∈ ns → m ≤ y := ⟨m, h1, h2⟩
  unfold minI
  rw [dif_pos h]
  have a := h.choose_spec.2 m h1
  have b := h2 _ h.choose_spec.1
  omega
theorem maxI_of {ns : List Int} {m : Int} (h1 : m ∈ ns) (h2 : ∀ y, y ∈ ns → y ≤ m) : m = maxI ns := by
  have h : ∃ m, m ∈ ns ∧ ∀ y, y ∈ ns → y ≤ m := ⟨m, h1, h2⟩
  unfold maxI
  rw [dif_pos h]
  have a := h.choose_spec.2 m h1
  have b := h2 _ h.choose_spec.1
  omega

abbrev Knot := List Blk × List Blk
def encK (k : Knot) : PyData := .tuple [.tuple (k.1.map encB), .tuple (k.2.map encB)]
theorem dp_K {K : PySem.W.Frag} {H : Hp} {v : V} {k : Knot} (h : Dp K H v (encK k)) : ∃ t a b xs ys, v = .ref t ∧ SqT K H t [.ref a, .ref b] ∧ SqT K H a xs ∧ DpAll K H xs (k.1.map encB) ∧ SqT K H b ys ∧ DpAll K H ys (k.2.map encB) := by
  obtain ⟨t, xs, rfl, hs, a⟩ := dp_tup h
  obtain ⟨x, r, rfl, hx, hr⟩ := dpa_cons a
  obtain ⟨y, r2, rfl, hy, hr2⟩ := dpa_cons hr
  have e := dpa_nil hr2
  subst e
  obtain ⟨p, us, rfl, h1, h2⟩ := dp_tup hx
  obtain ⟨q, ws, rfl, h3, h4⟩ := dp_tup hy
  exact ⟨t, p, q, us, ws, rfl, hs, h1, h2, h3, h4⟩
noncomputable def boundsM (k : Knot) : Int × Int := (minI ((k.1 ++ k.2).map fun b => b.1), maxI ((k.1 ++ k.2).map fun b => b.2.1))

section
variable {P : Program} {w : World} {K : PySem.W.Frag} {mg : Str → Option Value} {base : Heap}
def spBounds (K : PySem.W.Frag) : Sp := fun vs H Q _ => ∃ (v : V) (k : Knot), vs = [v] ∧ Dp K H v (encK k) ∧ k.1 ++ k.2 ≠ [] ∧ k.1.length + k.2.length ≤ 200 ∧ ∀ r H', Same H H' → Dp K H' r (encP (boundsM k)) → Q r H'
theorem scBounds : FnScope ["knot", "blocks", "block"] ["knot"] (defScope sBounds) := ⟨rfl, rfl, rfl, by decide +kernel, rfl, by decide +kernel, by decide +kernel⟩
theorem ok_Bounds {f : Addr} {fd : FuncData} (F : Fun K "bounds_of" "bounds_of" sBounds f fd) (T : Txt mg) : FnOk P w K mg base CX0 1 f fd ["knot"] (spBounds K) := by
  refine F.ok scBounds (fun vs H Q E h => ?_) (fun cdv A outer s H vs Q E hr h => ?_)
  · obtain ⟨v, k, rfl, _⟩ := h
    rfl
  · obtain ⟨_, k, rfl, hk, ne, lk, q⟩ := h
    obtain ⟨t, a, b, xs, ys, rfl, ht, ha, hxs, hb, hys⟩ := dp_K hk
    have l1 : xs.length = k.1.length := dpa_mapLen hxs
    have l2 : ys.length = k.2.length := dpa_mapLen hys
    refine ⟨_, pss_cons (ps_set (i := 1) scBounds.nd rfl (Or.inl rfl) (pe_op op_catA (pe_ix ix_tup (pv 0) pe_int (fun _ _ => rfl)) (pe_ix ix_tup (pv 0) pe_int (fun _ _ => rfl))))
      (pss_one (ps_ret (pe_tup (pa_cons (pe_callB (cr_min rfl) (by rfl) T.min (by decide +kernel) (pa_cons (pe_lc (own := [("block", 2)]) (g := gName 2) (tt := tYes) rfl scBounds.nd (pi_either (pi_list (pv 1)) (pi_tup (pv 1))) (blkOk_by (N := ["knot", "blocks", "block"]) (sc := defScope sBounds) (by decide +kernel))
          (fun _ _ _ _ _ => pg_name (i := 2) scBounds.nd rfl (Or.inl rfl)) (fun _ _ _ _ _ => pts_nil) (fun _ _ _ _ _ => pe_ix (kx_tup K) (pv 2) pe_int (fun _ _ => rfl))) pa_nil))
        (pa_cons (pe_callB (cr_max rfl) (by rfl) T.max (by decide +kernel) (pa_cons (pe_lc (own := [("block", 2)]) (g := gName 2) (tt := tYes) rfl scBounds.nd (pi_either (pi_list (pv 1)) (pi_tup (pv 1))) (blkOk_by (N := ["knot", "blocks", "block"]) (sc := defScope sBounds) (by decide +kernel))
          (fun _ _ _ _ _ => pg_name (i := 2) scBounds.nd rfl (Or.inl rfl)) (fun _ _ _ _ _ => pts_nil) (fun _ _ _ _ _ => pe_ix (kx_tup K) (pv 2) pe_int (fun _ _ => rfl))) pa_nil)) pa_nil))))), ?_⟩
    refine ⟨_, rfl, t, _, _, _, rfl, rfl, ht, at_of (j := 0) rfl rfl, _, rfl, t, _, _, _, rfl, rfl, ht, at_of (j := 1) rfl rfl, ?_⟩
    refine r_cat (K := K) ha hb (by rw [l1, l2]; exact Nat.le_of_lt (small1000 (by omega))) fun c H1 s1 hc => ?_
    have hd : DpAll K H1 (xs ++ ys) ((k.1 ++ k.2).map encB) := by
      rw [List.map_append]
      exact dpa_app (dma s1 hxs) (dma s1 hys)
    have lc : (xs ++ ys).length ≤ 1000 := by rw [List.length_append]; omega
    have pos : 0 < (k.1 ++ k.2).length := List.length_pos_iff.mpr ne
    refine w_cb1 (lc_seq (K := K) (fun P h => ⟨_, rfl, h⟩) (.inr hc) (small1000 lc) (fun i ds => ds = (((k.1 ++ k.2).take i).map fun b => b.1).map PyData.int) rfl (fun D i x ds H2 R1 R0 hD hx sm e _ r1 _ => ?_) (fun D H2 ys1 ds hD sm hy hds e _ _ => ?_))
    · obtain ⟨bk, hbk, db⟩ := dpa_map hd hx
      obtain ⟨tb, rfl, htb⟩ := dp_B db
      refine ⟨rfl, yes ⟨_, rfl, tb, _, _, _, rfl, rfl, same_seqT sm htb, at_of (j := 0) rfl rfl, r1 _ _ (.int bk.1) (Same.refl _) rfl (.int _) ?_⟩⟩
      rw [e, List.take_add_one, hbk]
      simp
    · subst e
      have ey := dpa_ints hds
      have lenT : (k.1 ++ k.2).take (xs ++ ys).length = k.1 ++ k.2 := List.take_of_length_le (by rw [List.length_append, List.length_append]; omega)
      rw [lenT] at ey
      refine ⟨D, _, rfl, SqL.of (by rw [hy, ey]), by rw [List.length_map]; exact pos, fun m hm hle => ?_⟩
      have em := minI_of hm hle
      have sm2 := s1.trans sm
      refine w_cb1 (lc_seq (K := K) (fun P h => ⟨_, rfl, h⟩) (.inr (same_seqT sm hc)) (small1000 lc) (fun i ds => ds = (((k.1 ++ k.2).take i).map fun b => b.2.1).map PyData.int) rfl (fun D2 i x ds H3 R1 R0 hD2 hx sm3 e _ r1 _ => ?_) (fun D2 H3 ys2 ds hD2 sm3 hy2 hds2 e _ _ => ?_))
      · obtain ⟨bk, hbk, db⟩ := dpa_map (dma sm hd) hx
        obtain ⟨tb, rfl, htb⟩ := dp_B db
        refine ⟨rfl, yes ⟨_, rfl, tb, _, _, _, rfl, rfl, same_seqT sm3 htb, at_of (j := 1) rfl rfl, r1 _ _ (.int bk.2.1) (Same.refl _) rfl (.int _) ?_⟩⟩
        rw [e, List.take_add_one, hbk]
        simp
      · subst e
        have ey2 := dpa_ints hds2
        rw [lenT] at ey2
        refine ⟨D2, _, rfl, SqL.of (by rw [hy2, ey2]), by rw [List.length_map]; exact pos, fun m2 hm2 hle2 => ?_⟩
        have em2 := maxI_of hm2 hle2
        refine ⟨by show 2 ≤ sizeLine; decide, fun p hp => q _ _ (sm2.trans (sm3.trans (same_new hp))) ?_⟩
        unfold boundsM
        rw [← em, ← em2]
        exact new_ints hp [m, m2]
theorem scLawBounds : FnScope ["_law_knot", "_law_parts_here", "_law_part"] ["_law_knot"] (defScope sLawBounds) := ⟨rfl, rfl, rfl, by decide +kernel, rfl, by decide +kernel, by decide +kernel⟩
theorem ok_LawBounds {f : Addr} {fd : FuncData} (F : Fun K "_law_bounds" "_law_bounds" sLawBounds f fd) (T : Txt mg) : FnOk P w K mg base CX0 1 f fd ["_law_knot"] (spBounds K) := by
  refine F.ok scLawBounds (fun vs H Q E h => ?_) (fun cdv A outer s H vs Q E hr h => ?_)
  · obtain ⟨v, k, rfl, _⟩ := h
    rfl
  · obtain ⟨_, k, rfl, hk, ne, lk, q⟩ := h
    obtain ⟨t, a, b, xs, ys, rfl, ht, ha, hxs, hb, hys⟩ := dp_K hk
    have l1 : xs.length = k.1.length := dpa_mapLen hxs
    have l2 : ys.length = k.2.length := dpa_mapLen hys
    refine ⟨_, pss_cons (ps_set (i := 1) scLawBounds.nd rfl (Or.inl rfl) (pe_op op_catA (pe_ix ix_tup (pv 0) pe_int (fun _ _ => rfl)) (pe_ix ix_tup (pv 0) pe_int (fun _ _ => rfl))))
      (pss_one (ps_ret (pe_tup (pa_cons (pe_callB (cr_min rfl) (by rfl) T.min (by decide +kernel) (pa_cons (pe_lc (own := [("_law_part", 2)]) (g := gName 2) (tt := tYes) rfl scLawBounds.nd (pi_either (pi_list (pv 1)) (pi_tup (pv 1))) (blkOk_by (N := ["_law_knot", "_law_parts_here", "_law_part"]) (sc := defScope sLawBounds) (by decide +kernel))
          (fun _ _ _ _ _ => pg_name (i := 2) scLawBounds.nd rfl (Or.inl rfl)) (fun _ _ _ _ _ => pts_nil) (fun _ _ _ _ _ => pe_ix (kx_tup K) (pv 2) pe_int (fun _ _ => rfl))) pa_nil))
        (pa_cons (pe_callB (cr_max rfl) (by rfl) T.max (by decide +kernel) (pa_cons (pe_lc (own := [("_law_part", 2)]) (g := gName 2) (tt := tYes) rfl scLawBounds.nd (pi_either (pi_list (pv 1)) (pi_tup (pv 1))) (blkOk_by (N := ["_law_knot", "_law_parts_here", "_law_part"]) (sc := defScope sLawBounds) (by decide +kernel))
          (fun _ _ _ _ _ => pg_name (i := 2) scLawBounds.nd rfl (Or.inl rfl)) (fun _ _ _ _ _ => pts_nil) (fun _ _ _ _ _ => pe_ix (kx_tup K) (pv 2) pe_int (fun _ _ => rfl))) pa_nil)) pa_nil))))), ?_⟩
    refine ⟨_, rfl, t, _, _, _, rfl, rfl, ht, at_of (j := 0) rfl rfl, _, rfl, t, _, _, _, rfl, rfl, ht, at_of (j := 1) rfl rfl, ?_⟩
    refine r_cat (K := K) ha hb (by rw [l1, l2]; exact Nat.le_of_lt (small1000 (by omega))) fun c H1 s1 hc => ?_
    have hd : DpAll K H1 (xs ++ ys) ((k.1 ++ k.2).map encB) := by
      rw [List.map_append]
      exact dpa_app (dma s1 hxs) (dma s1 hys)
    have lc : (xs ++ ys).length ≤ 1000 := by rw [List.length_append]; omega
    have pos : 0 < (k.1 ++ k.2).length := List.length_pos_iff.mpr ne
    refine w_cb1 (lc_seq (K := K) (fun P h => ⟨_, rfl, h⟩) (.inr hc) (small1000 lc) (fun i ds => ds = (((k.1 ++ k.2).take i).map fun b => b.1).map PyData.int) rfl (fun D i x ds H2 R1 R0 hD hx sm e _ r1 _ => ?_) (fun D H2 ys1 ds hD sm hy hds e _ _ => ?_))
    · obtain ⟨bk, hbk, db⟩ := dpa_map hd hx
      obtain ⟨tb, rfl, htb⟩ := dp_B db
      refine ⟨rfl, yes ⟨_, rfl, tb, _, _, _, rfl, rfl, same_seqT sm htb, at_of (j := 0) rfl rfl, r1 _ _ (.int bk.1) (Same.refl _) rfl (.int _) ?_⟩⟩
      rw [e, List.take_add_one, hbk]
      simp
    · subst e
      have ey := dpa_ints hds
      have lenT : (k.1 ++ k.2).take (xs ++ ys).length = k.1 ++ k.2 := List.take_of_length_le (by rw [List.length_append, List.length_append]; omega)
      rw [lenT] at ey
      refine ⟨D, _, rfl, SqL.of (by rw [hy, ey]), by rw [List.length_map]; exact pos, fun m hm hle => ?_⟩
      have em := minI_of hm hle
      have sm2 := s1.trans sm
      refine w_cb1 (lc_seq (K := K) (fun P h => ⟨_, rfl, h⟩) (.inr (same_seqT sm hc)) (small1000 lc) (fun i ds => ds = (((k.1 ++ k.2).take i).map fun b => b.2.1).map PyData.int) rfl (fun D2 i x ds H3 R1 R0 hD2 hx sm3 e _ r1 _ => ?_) (fun D2 H3 ys2 ds hD2 sm3 hy2 hds2 e _ _ => ?_))
      · obtain ⟨bk, hbk, db⟩ := dpa_map (dma sm hd) hx
        obtain ⟨tb, rfl, htb⟩ := dp_B db
        refine ⟨rfl, yes ⟨_, rfl, tb, _, _, _, rfl, rfl, same_seqT sm3 htb, at_of (j := 1) rfl rfl, r1 _ _ (.int bk.2.1) (Same.refl _) rfl (.int _) ?_⟩⟩
        rw [e, List.take_add_one, hbk]
        simp
      · subst e
        have ey2 := dpa_ints hds2
        rw [lenT] at ey2
        refine ⟨D2, _, rfl, SqL.of (by rw [hy2, ey2]), by rw [List.length_map]; exact pos, fun m2 hm2 hle2 => ?_⟩
        have em2 := maxI_of hm2 hle2
        refine ⟨by show 2 ≤ sizeLine; decide, fun p hp => q _ _ (sm2.trans (sm3.trans (same_new hp))) ?_⟩
        unfold boundsM
        rw [← em, ← em2]
        exact new_ints hp [m, m2]

end
end K60

namespace K60
open PySem PySem.Spec PyProof.Rows L2

def wordsAll : List Str := ["a", "b", "c", "", "x y", "x", "<<<<", "one", "k"]
def Word (z : Str) : Prop := z ∈ wordsAll
theorem word_line {z : Str} (h : Word z) : LineOk z := (show ∀ z ∈ wordsAll, 10 ∉ z.cps.toList by decide +kernel) z h
theorem word_lay {z : Str} (h : Word z) : (PyData.str z).canLay0 = true := (show ∀ z ∈ wordsAll, (PyData.str z).canLay0 = true by decide +kernel) z h
def cutL (zs : List Str) (lo hi : Option Int) : List Str := (zs.drop (HT.sIx zs.length 0 lo)).take (HT.sIx zs.length zs.length hi - HT.sIx zs.length 0 lo)
theorem cutL_V (zs : List Str) (lo hi : Option Int) : cutV (zs.map V.str) lo hi = (cutL zs lo hi).map V.str := by
  unfold cutV cutL
  rw [List.length_map, List.map_take, List.map_drop]
theorem cutL_mem {zs : List Str} {lo hi : Option Int} {z : Str} (h : z ∈ cutL zs lo hi) : z ∈ zs := List.mem_of_mem_drop (List.mem_of_mem_take h)
theorem cutL_full {zs : List Str} {lo hi : Option Int} (h : HT.sIx zs.length 0 lo = 0 ∧ HT.sIx zs.length zs.length hi = zs.length) : cutL zs lo hi = zs := by
  unfold cutL
  rw [h.1, h.2, List.drop_zero, Nat.sub_zero, List.take_length]
section
variable {K : PySem.W.Frag} {H : Hp} {C : VK} {σ : L2.St}
theorem r_cutTxt {p : Addr} {zs : List Str} {lo hi : Option Int} (h : TextA K H p zs) (k : ∀ c H1, Same H H1 → TextA K H1 c (cutL zs lo hi) → C (.ref c) H1) : rSlL K (.ref p) lo hi H C ∨ rSlA K (.ref p) lo hi H C := by
  rcases h with h | h
  · refine .inl ⟨p, _, rfl, h, fun c hc => k c _ (same_new hc) (.inl (SqL.of ?_))⟩
    rw [upd_same, cutL_V]
  · refine .inr ⟨p, _, rfl, h, fun e => ?_, fun _ c hc => k c _ (same_new hc) (.inr (SqT.of ?_))⟩
    · refine k p H (Same.refl _) (.inr ?_)
      rw [cutL_full (by simpa using e)]
      exact h
    · rw [upd_same, cutL_V]
theorem r_slice2 {t : Addr} {a b c d : V} (hs : SqT K H t [a, b, c, d]) (k : ∀ q H1, Same H H1 → SqT K H1 q [a, b] → C (.ref q) H1) : tNoPart σ H fun l H2 => tPart (tC (.int 2)) σ H2 fun u H3 => rSlA K (.ref t) l u H3 C := by
  refine ⟨2, rfl, t, _, rfl, hs, fun e => ?_, fun _ q hq => k q _ (same_new hq) (SqT.of upd_same)⟩
  exact absurd e.2 (by show ¬ (min 2 4 = 4); decide)
end
theorem lay_strs : ∀ zs : List Str, (∀ z ∈ zs, Word z) → PyData.canLayAll0 (zs.map PyData.str) = true
  | [], _ => by simp [PyData.canLayAll0]
  | z :: zs, h => by
    show PyData.canLayAll0 (PyData.str z :: zs.map PyData.str) = true
    rw [PyData.canLayAll0, lay_strs zs fun y hy => h y (by simp [hy]), word_lay (h z (by simp))]
    rfl
theorem depth_strs : ∀ zs : List Str, PyData.depthAll (zs.map PyData.str) = 0
  | [] => by simp [PyData.depthAll]
  | z :: zs => by
    show PyData.depthAll (PyData.str z :: zs.map PyData.str) = 0
    rw [PyData.depthAll, depth_strs zs]
    simp [PyData.depth]
theorem shp_strs {zs : List Str} (h : ∀ z ∈ zs, Word z) : SeqAt.shaped (.list (zs.map PyData.str)) = true := shp_lay (by rw [PyData.canLay0]; exact lay_strs zs h) (by rw [PyData.depth, depth_strs]; decide)
theorem eqv_strsAll : ∀ ns ms : List Str, PyData.eqvAll (ns.map PyData.str) (ms.map PyData.str) = decide (ns = ms)
  | [], [] => by simp [PyData.eqvAll]
  | [], m :: ms => by simp [PyData.eqvAll]
  | n :: ns, [] => by simp [PyData.eqvAll]
  | n :: ns, m :: ms => by
    show PyData.eqvAll (PyData.str n :: ns.map PyData.str) (PyData.str m :: ms.map PyData.str) = _
    rw [PyData.eqvAll, eqv_strsAll ns ms, PyData.eqv]
    by_cases e : n = m <;> by_cases e2 : ns = ms <;> simp [e, e2]
theorem eqv_strs (ns ms : List Str) : PyData.eqv (.list (ns.map PyData.str)) (.list (ms.map PyData.str)) = decide (ns = ms) := by
  rw [PyData.eqv]
  exact eqv_strsAll ns ms

theorem vT {i j : Int} (h : i = j) : V.bl (decide (V.int i = V.int j)) = V.bl true := congrArg V.bl (decide_eq_true (congrArg V.int h))
theorem vF {i j : Int} (h : ¬ i = j) : V.bl (decide (V.int i = V.int j)) = V.bl false := congrArg V.bl (decide_eq_false fun e => h (by injection e))
theorem w_if {c : TT} {t u : TS} {D : Ends} {σ : L2.St} {H : Hp} (h : c σ H fun b H1 => if b = true then t D σ H1 else u D σ H1) : tIfS c t u D σ H := h
theorem w_not {t : TT} {σ : L2.St} {H : Hp} {Q : Bool → Hp → Prop} (h : t σ H fun c H1 => Q (!c) H1) : tNot t σ H Q := h
theorem w_tb {t : TE} {σ : L2.St} {H : Hp} {Q : Bool → Hp → Prop} (h : t σ H fun x H1 => ∃ c, x = .bl c ∧ Q c H1) : tB t σ H Q := h
theorem w_tt {t : TE} {σ : L2.St} {H : Hp} {Q : Bool → Hp → Prop} (h : t σ H fun x H1 => ∃ c, x = .bl c ∧ Q c H1) : tTest t σ H Q := h
/-- the same over the sum of two tuples -/
theorem lc_cat {K : PySem.W.Frag} {tl : TE} {xs : List V} {g : TG} {tt : TT} {te : TE} {vs : List Nat} {σ : L2.St} {H : Hp} {Q : VK} (ht : ∀ P : VK, (∀ a H1, Same H H1 → SqT K H1 a xs → P (.ref a) H1) → tl σ H P) (nz : xs.length < sizeLine)
    (P : Nat → List PyData → Prop) (p0 : P 0 [])
    (step : ∀ (D : Addr) (i : Nat) (x : V) (ds : List PyData) (H1 : Hp) (R1 : V → Hp → Prop) (R0 : Hp → Prop), H D = Option.none → xs[i]? = some x → Same H H1 → P i ds → (∃ zs, H1 D = some (.lst zs)) →
      (∀ (y : V) (H4 : Hp) (d : PyData), Same H1 H4 → lf d = true → Dp K H4 y d → P (i + 1) (ds ++ [d]) → R1 y H4) → (∀ H3, Same H1 H3 → P (i + 1) ds → R0 H3) →
      g x (wipe σ vs) H1 fun σ2 H2 => wipe σ2 vs = wipe σ vs ∧ tt σ2 H2 fun b H3 => if b = true then te σ2 H3 R1 else R0 H3)
    (hd : ∀ D H1 ys ds, H D = Option.none → Same H H1 → H1 D = some (.lst ys) → DpAll K H1 ys ds → P xs.length ds → ds.length ≤ xs.length → lfAll ds = true → Q (.ref D) H1) :
    tLc (fun σ H R => iList K tl σ H R ∨ iTup K tl σ H R) g tt te vs σ H Q := by
  refine .inr (ht _ fun a H1 s1 hs => ⟨a, rfl, ⟨_, hs⟩, fun D hD => lc_lf (K := K) walk_tup nz hD (fun H s => same_seqT s hs) P p0 (fun i x ds H H' R1 R0 hi s p y z r1 r0 => ?_) fun H ys ds s h1 h2 h3 h4 h5 => hd D H ys ds (s1.free hD) (s1.trans s) h1 h2 h3 h4 h5⟩)
  obtain ⟨rfl, hx⟩ := y
  exact step D i x ds H' R1 R0 (s1.free hD) hx (s1.trans s) p z r1 r0

def alikeM (k l : Blk) (one two : List Str) : Bool := decide ([k.1, k.2.1] = [l.1, l.2.1]) && decide (cutL one (some k.2.2.1) (some k.2.2.2) = cutL two (some l.2.2.1) (some l.2.2.2))
def kindM (k : Knot) (one two : List Str) : Str :=
  if (k.1 ++ k.2).any comesB = false then "going"
  else if k.1.length + k.2.length = 1 then (if k.1.length = 1 then "one" else "two")
  else match k.1, k.2 with
    | [x], [y] => if alikeM x y one two = true then "alike" else "clash"
    | _, _ => "clash"

section
variable {P : Program} {w : World} {K : PySem.W.Frag} {mg : Str → Option Value} {base : Heap}
def spComing (K : PySem.W.Frag) : Sp := fun vs H Q _ => ∃ (p : Addr) (zs : List Str) (b : V) (k : Blk), vs = [.ref p, b] ∧ TextA K H p zs ∧ Dp K H b (encB k) ∧ ∀ r H', Same H H' → Dp K H' r (.list ((cutL zs (some k.2.2.1) (some k.2.2.2)).map PyData.str)) → Q r H'
theorem scComing : FnScope ["version", "block"] ["version", "block"] (defScope sComingLines) := ⟨rfl, rfl, rfl, by decide +kernel, rfl, by decide +kernel, by decide +kernel⟩
theorem ok_coming {f : Addr} {fd : FuncData} (F : Fun K "coming_lines" "coming_lines" sComingLines f fd) (T : Txt mg) : FnOk P w K mg base CX0 1 f fd ["version", "block"] (spComing K) := by
  refine F.ok scComing (fun vs H Q E h => ?_) (fun cdv A outer s H vs Q E hr h => ?_)
  · obtain ⟨p, zs, b, k, rfl, _⟩ := h
    rfl
  · obtain ⟨p, zs, _, k, rfl, hp, hk, q⟩ := h
    obtain ⟨t, rfl, ht⟩ := dp_B hk
    refine ⟨_, pss_one (ps_ret (pe_callTy call_list_of (by rfl) T.list (by decide +kernel) (pa_cons (pe_slice (SlR.or sl_list sl_tupA) (pv 0) (po_some (pe_ix ix_tup (pv 1) pe_int (fun _ _ => rfl))) (po_some (pe_ix ix_tup (pv 1) pe_int (fun _ _ => rfl)))) pa_nil))), ?_⟩
    refine ⟨_, rfl, _, rfl, t, _, _, _, rfl, rfl, ht, at_of (j := 2) rfl rfl, _, rfl, _, rfl, t, _, _, _, rfl, rfl, ht, at_of (j := 3) rfl rfl, _, rfl, ?_⟩
    refine r_cutTxt (K := K) hp fun c H1 s1 hc => ?_
    exact ⟨c, _, rfl, hc, fun l hl => q _ _ (s1.trans (same_new hl)) (new_lst hl of_strs)⟩

def spAlike (K : PySem.W.Frag) : Sp := fun vs H Q _ => ∃ (a b : V) (p r : Addr) (k l : Blk) (one two : List Str), vs = [a, b, .ref p, .ref r] ∧ Dp K H a (encB k) ∧ Dp K H b (encB l) ∧ TextA K H p one ∧ TextA K H r two ∧ (∀ z ∈ one, Word z) ∧ (∀ z ∈ two, Word z) ∧
  ∀ H', Same H H' → Q (.bl (alikeM k l one two)) H'
theorem scAlike : FnScope ["block", "other", "one", "two"] ["block", "other", "one", "two"] (defScope sAreAlike) := ⟨rfl, rfl, rfl, by decide +kernel, rfl, by decide +kernel, by decide +kernel⟩
theorem ok_alike {f : Addr} {fd : FuncData} (F : Fun K "are_alike" "are_alike" sAreAlike f fd) (c1 : Cal P w K mg base 1 "coming_lines" (spComing K)) : FnOk P w K mg base CX0 2 f fd ["block", "other", "one", "two"] (spAlike K) := by
  refine F.ok scAlike (fun vs H Q E h => ?_) (fun cdv A outer s H vs Q E hr h => ?_)
  · obtain ⟨a, b, p, r, k, l, one, two, rfl, _⟩ := h
    rfl
  · obtain ⟨_, _, p, r, k, l, one, two, rfl, hk, hl, hp, hr2, w1, w2, q⟩ := h
    obtain ⟨ta, rfl, hta⟩ := dp_B hk
    obtain ⟨tb, rfl, htb⟩ := dp_B hl
    refine ⟨_, pss_one (ps_ret (pe_and (pe_cmpR (op_eqD hr.units) (pe_slice sl_tupA (pv 0) po_none (po_some pe_int)) (pe_slice sl_tupA (pv 1) po_none (po_some pe_int)) (nomark _))
      (pe_one (pe_cmpR (op_eqD hr.units) (pc c1 hr (by rfl) (pa_cons (pv 2) (pa_cons (pv 0) pa_nil))) (pc c1 hr (by rfl) (pa_cons (pv 3) (pa_cons (pv 1) pa_nil))) (nomark _))))), ?_⟩
    refine ⟨_, rfl, r_slice2 (K := K) hta fun q1 H1 s1 h1 => ?_⟩
    refine ⟨_, rfl, r_slice2 (K := K) (same_seqT s1 htb) fun q2 H2 s2 h2 => ?_⟩
    refine ⟨.tuple ([k.1, k.2.1].map PyData.int), .tuple ([l.1, l.2.1].map PyData.int), .tup (same_seqT s2 h1) (of_ints (l := [k.1, k.2.1])), .tup h2 (of_ints (l := [l.1, l.2.1])), shp_ints _, shp_ints _, _, rfl, ?_⟩
    rw [eqv_ints]
    have s12 := s1.trans s2
    by_cases e : [k.1, k.2.1] = [l.1, l.2.1]
    · rw [decide_eq_true e]
      refine iteT ?_
      refine ⟨_, rfl, _, rfl, p, one, _, k, rfl, hp.mono s12, dm s12 hk, fun r1 H3 s3 d3 => ?_⟩
      have s13 := s12.trans s3
      refine ⟨_, rfl, _, rfl, r, two, _, l, rfl, hr2.mono s13, dm s13 hl, fun r2 H4 s4 d4 => ?_⟩
      refine ⟨_, _, dm s4 d3, d4, shp_strs (fun z hz => w1 z (cutL_mem hz)), shp_strs (fun z hz => w2 z (cutL_mem hz)), ?_⟩
      rw [eqv_strs]
      have z := q H4 (s13.trans s4)
      unfold alikeM at z
      rw [decide_eq_true e, Bool.true_and] at z
      exact z
    · rw [decide_eq_false e]
      have z := q H2 s12
      unfold alikeM at z
      rw [decide_eq_false e, Bool.false_and] at z
      exact iteF z

def spKind (K : PySem.W.Frag) : Sp := fun vs H Q _ => ∃ (v : V) (p r : Addr) (k : Knot) (one two : List Str), vs = [v, .ref p, .ref r] ∧ Dp K H v (encK k) ∧ TextA K H p one ∧ TextA K H r two ∧ (∀ z ∈ one, Word z) ∧ (∀ z ∈ two, Word z) ∧ k.1.length + k.2.length ≤ 200 ∧
  ∀ H', Same H H' → Q (.str (kindM k one two)) H'
theorem scKind : FnScope ["knot", "one", "two", "mine", "theirs", "block"] ["knot", "one", "two"] (defScope sKindOf) := ⟨rfl, rfl, rfl, by decide +kernel, rfl, by decide +kernel, by decide +kernel⟩
theorem ok_kind {f : Addr} {fd : FuncData} (F : Fun K "kind_of" "kind_of" sKindOf f fd) (T : Txt mg) (c1 : Cal P w K mg base 1 "comes_something" (spComes K)) (c2 : Cal P w K mg base 2 "are_alike" (spAlike K)) : FnOk P w K mg base CX0 3 f fd ["knot", "one", "two"] (spKind K) := by
  refine F.ok scKind (fun vs H Q E h => ?_) (fun cdv A outer s H vs Q E hr h => ?_)
  · obtain ⟨v, p, r, k, one, two, rfl, _⟩ := h
    rfl
  · obtain ⟨_, p, r, k, one, two, rfl, hk, hp, hr2, w1, w2, lk, q⟩ := h
    obtain ⟨t, a, b, xs, ys, rfl, ht, ha, hxs, hb, hys⟩ := dp_K hk
    have l1 : xs.length = k.1.length := dpa_mapLen hxs
    have l2 : ys.length = k.2.length := dpa_mapLen hys
    obtain ⟨tg, mgo⟩ := T.going
    obtain ⟨to, mon⟩ := T.one
    obtain ⟨tt, mtw⟩ := T.two
    obtain ⟨tl, mal⟩ := T.alike
    obtain ⟨tc, mcl⟩ := T.clash
    refine ⟨_, pss_cons (ps_asg (pv 0) (pg_tup rfl (pgs_cons (pg_name (i := 3) scKind.nd rfl (Or.inl rfl)) (pgs_cons (pg_name (i := 4) scKind.nd rfl (Or.inl rfl)) pgs_nil))))
      (pss_cons (ps_if (pt_not (pt_val (pe_callB (cr_any rfl) (by rfl) T.any (by decide +kernel) (pa_cons (pe_lc (own := [("block", 5)]) (g := gName 5) (tt := tYes) rfl scKind.nd (pi_either (pi_list (pe_op op_catA (pv 3) (pv 4))) (pi_tup (pe_op op_catA (pv 3) (pv 4))))
          (blkOk_by (N := ["knot", "one", "two", "mine", "theirs", "block"]) (sc := defScope sKindOf) (by decide +kernel)) (fun _ _ _ _ _ => pg_name (i := 5) scKind.nd rfl (Or.inl rfl)) (fun _ _ _ _ _ => pts_nil) (fun _ _ _ _ _ => pc c1 (hr.mono (by decide)) (by rfl) (pa_cons (pv 5) pa_nil))) pa_nil))))
          (pss_one (ps_ret (pe_glob (v := .str "going") (by rfl) mgo ⟨_, rfl⟩))) pss_nil)
      (pss_cons (ps_if (pt_cmpR op_eq (pe_op op_add (pe_callB call_len_seq (by rfl) T.len PySem.boot_len (pa_cons (pv 3) pa_nil)) (pe_callB call_len_seq (by rfl) T.len PySem.boot_len (pa_cons (pv 4) pa_nil))) pe_int (nomark _))
          (pss_one (ps_ret (pe_ifExp (pt_cmpR op_eq (pe_callB call_len_seq (by rfl) T.len PySem.boot_len (pa_cons (pv 3) pa_nil)) pe_int (nomark _)) (pe_glob (v := .str "one") (by rfl) mon ⟨_, rfl⟩) (pe_glob (v := .str "two") (by rfl) mtw ⟨_, rfl⟩)))) pss_nil)
      (pss_cons (ps_if (PW.pt (pw_and (pt_cmpR op_eq (pe_callB call_len_seq (by rfl) T.len PySem.boot_len (pa_cons (pv 3) pa_nil)) pe_int (nomark _)) (pw_and (pt_cmpR op_eq (pe_callB call_len_seq (by rfl) T.len PySem.boot_len (pa_cons (pv 4) pa_nil)) pe_int (nomark _))
          (pw_and1 (pt_val (pc c2 hr (by rfl) (pa_cons (pe_ix ix_tup (pv 3) pe_int (fun _ _ => rfl)) (pa_cons (pe_ix ix_tup (pv 4) pe_int (fun _ _ => rfl)) (pa_cons (pv 1) (pa_cons (pv 2) pa_nil))))))))))
          (pss_one (ps_ret (pe_glob (v := .str "alike") (by rfl) mal ⟨_, rfl⟩))) pss_nil)
      (pss_one (ps_ret (pe_glob (v := .str "clash") (by rfl) mcl ⟨_, rfl⟩)))))), ?_⟩
    refine ⟨_, rfl, t, _, rfl, ht, rfl, _, _, rfl, _, _, rfl, rfl, ?_⟩
    have lk1 : (xs ++ ys).length ≤ 1000 := by rw [List.length_append]; omega
    dsimp only
    refine w_seq (w_if (w_not (w_tb (w_cb1 (lc_cat (K := K) (xs := xs ++ ys) (fun P h => ⟨_, rfl, _, rfl, r_cat (K := K) ha hb (by rw [l1, l2]; exact Nat.le_of_lt (small1000 (by omega))) h⟩) (small1000 lk1) (fun i ds => ds = (((k.1 ++ k.2).take i).map comesB).map PyData.bool) rfl (fun D i x ds H2 R1 R0 hD hx sm e _ r1 _ => ?_) (fun D H2 ys1 ds hD sm hy hds e _ _ => ?_))))))
    · have hd : DpAll K H2 (xs ++ ys) ((k.1 ++ k.2).map encB) := by
        rw [List.map_append]
        exact dpa_app (dma sm hxs) (dma sm hys)
      obtain ⟨bk, hbk, db⟩ := dpa_map hd hx
      refine ⟨rfl, yes ⟨_, rfl, x, bk, rfl, db, r1 _ _ (.bool (comesB bk)) (Same.refl _) rfl (.bl _) ?_⟩⟩
      rw [e, List.take_add_one, hbk]
      simp
    · subst e
      have lenT : (k.1 ++ k.2).take (xs ++ ys).length = k.1 ++ k.2 := List.take_of_length_le (by rw [List.length_append, List.length_append]; omega)
      rw [lenT] at hds
      have ey := bools_of hds
      refine ⟨D, (k.1 ++ k.2).map comesB, rfl, SqL.of (by rw [hy, ey]), ?_⟩
      have ea : ((k.1 ++ k.2).map comesB).any id = (k.1 ++ k.2).any comesB := by rw [List.any_map]; rfl
      rw [ea]
      have z := q H2 sm
      unfold kindM at z
      cases an : (k.1 ++ k.2).any comesB with
      | false =>
        rw [if_pos an] at z
        exact ⟨false, rfl, iteT z⟩
      | true =>
        rw [if_neg (by rw [an]; decide)] at z
        refine ⟨true, rfl, iteF ?_⟩
        have ha2 := same_seqT sm ha
        have hb2 := same_seqT sm hb
        refine ⟨_, rfl, a, _, rfl, .inr ha2, _, rfl, b, _, rfl, .inr hb2, _, _, rfl, rfl, rfl, ?_⟩
        rw [l1, l2]
        by_cases e1 : k.1.length + k.2.length = 1
        · rw [if_pos e1] at z
          refine ⟨true, vT (by omega), iteT ?_⟩
          refine ⟨_, rfl, a, _, rfl, .inr ha2, rfl, ?_⟩
          rw [l1]
          by_cases e2 : k.1.length = 1
          · rw [if_pos e2] at z
            exact ⟨true, vT (by omega), iteT z⟩
          · rw [if_neg e2] at z
            exact ⟨false, vF (by omega), iteF z⟩
        · rw [if_neg e1] at z
          refine ⟨false, vF (by omega), iteF ?_⟩
          refine ⟨_, rfl, a, _, rfl, .inr ha2, rfl, ?_⟩
          rw [l1]
          by_cases e2 : k.1.length = 1
          · refine ⟨true, vT (by omega), iteT ?_⟩
            refine ⟨_, rfl, b, _, rfl, .inr hb2, rfl, ?_⟩
            rw [l2]
            by_cases e3 : k.2.length = 1
            · refine ⟨true, vT (by omega), iteT ?_⟩
              obtain ⟨k1, k2⟩ := k
              obtain ⟨x, rfl⟩ := List.length_eq_one_iff.mp e2
              obtain ⟨y, rfl⟩ := List.length_eq_one_iff.mp e3
              obtain ⟨x1, r1, rfl, hx1, hr1⟩ := dpa_cons hxs
              obtain ⟨y1, r2, rfl, hy1, hr22⟩ := dpa_cons hys
              refine ⟨_, rfl, a, _, _, _, rfl, rfl, ha2, at_of (j := 0) rfl rfl, _, rfl, b, _, _, _, rfl, rfl, hb2, at_of (j := 0) rfl rfl, _, rfl, _, rfl, _, _, p, r, x, y, one, two, rfl, dm sm hx1, dm sm hy1, hp.mono sm, hr2.mono sm, w1, w2, fun H3 s3 => ?_⟩
              refine ⟨alikeM x y one two, rfl, ?_⟩
              have z := q H3 (sm.trans s3)
              unfold kindM at z
              rw [if_neg (by rw [an]; decide), if_neg e1] at z
              cases ea : alikeM x y one two with
              | true =>
                have z : Q (.str (if alikeM x y one two = true then "alike" else "clash")) H3 := z
                rw [if_pos ea] at z
                exact iteT z
              | false =>
                have z : Q (.str (if alikeM x y one two = true then "alike" else "clash")) H3 := z
                rw [if_neg (by rw [ea]; decide)] at z
                exact iteF z
            · refine ⟨false, vF (by omega), iteF ?_⟩
              obtain ⟨k1, k2⟩ := k
              split at z
              · rename_i h4
                rw [h4] at e3
                exact absurd rfl e3
              · exact z
          · refine ⟨false, vF (by omega), iteF ?_⟩
            obtain ⟨k1, k2⟩ := k
            split at z
            · rename_i h3 _
              rw [h3] at e2
              exact absurd rfl e2
            · exact z
end
end K60

namespace K60
open PySem PySem.Spec PyProof.Rows L2
abbrev sGrouped : Stmt := top 30

def encIt (x : It) : PyData := .tuple [.int x.1, encB x.2]
def encRow (x : It) : PyData := .tuple [.int (lo x), .int (hi x), .int x.1, encB x.2]
theorem lf_It (x : It) : lf (encIt x) = true := by
  unfold encIt
  rw [lf, lfAll, lfAll, lf_B]
  rfl
theorem lf_Its (l : List It) : lfAll (l.map encIt) = true := lfAll_map fun k _ => lf_It k
theorem lf_Row (x : It) : lf (encRow x) = true := by
  unfold encRow
  rw [lf, lfAll, lfAll, lfAll, lfAll, lf_B]
  rfl
section
variable {K : PySem.W.Frag} {H : Hp}
theorem dp_It {v : V} {x : It} (h : Dp K H v (encIt x)) : ∃ t b, v = .ref t ∧ SqT K H t [.int x.1, b] ∧ Dp K H b (encB x.2) := by
  obtain ⟨t, xs, rfl, hs, a⟩ := dp_tup h
  obtain ⟨u, r, rfl, h1, h2⟩ := dpa_cons a
  obtain ⟨y, r2, rfl, h3, h4⟩ := dpa_cons h2
  have e := dpa_nil h4
  subst e
  rw [dp_int h1] at hs
  exact ⟨t, y, rfl, hs, h3⟩
theorem dp_Row {v : V} {x : It} (h : Dp K H v (encRow x)) : ∃ t b, v = .ref t ∧ SqT K H t [.int (lo x), .int (hi x), .int x.1, b] ∧ Dp K H b (encB x.2) := by
  obtain ⟨t, xs, rfl, hs, a⟩ := dp_tup h
  obtain ⟨u, r, rfl, h1, h2⟩ := dpa_cons a
  obtain ⟨u2, r2, rfl, h3, h4⟩ := dpa_cons h2
  obtain ⟨u3, r3, rfl, h5, h6⟩ := dpa_cons h4
  obtain ⟨y, r4, rfl, h7, h8⟩ := dpa_cons h6
  have e := dpa_nil h8
  subst e
  rw [dp_int h1, dp_int h3, dp_int h5] at hs
  exact ⟨t, y, rfl, hs, h7⟩
end

/-! ### a list of lists, all of them fresh -/
def GrpAt (K : PySem.W.Frag) (H : Hp) (a : Addr) (g : List It) : Prop := ∃ xs, H a = some (.lst xs) ∧ DpAll K H xs (g.map encIt)
structure Grp (K : PySem.W.Frag) (H0 H : Hp) (f : Addr) (as : List Addr) (G : List (List It)) : Prop where
  len : as.length = G.length
  lst : H f = some (.lst (as.map V.ref))
  nd : (f :: as).Nodup
  fr : ∀ a ∈ as, H0 a = Option.none
  at' : ∀ (i : Nat) (a : Addr) (g : List It), as[i]? = some a → G[i]? = some g → GrpAt K H a g
theorem Grp.same {K : PySem.W.Frag} {H0 H H' : Hp} {f : Addr} {as : List Addr} {G : List (List It)} (e : Same H H') (h : Grp K H0 H f as G) : Grp K H0 H' f as G :=
  ⟨h.len, e _ _ h.lst, h.nd, h.fr, fun i a g h1 h2 => let ⟨xs, h3, h4⟩ := h.at' i a g h1 h2; ⟨xs, e _ _ h3, dma e h4⟩⟩
theorem Grp.push {K : PySem.W.Frag} {H0 H : Hp} {f n : Addr} {as : List Addr} {G : List (List It)} (h : Grp K H0 H f as G) (s : Same H0 H) (hn : H n = Option.none) :
    Grp K H0 (upd (upd H n (.lst [])) f (.lst (as.map V.ref ++ [.ref n]))) f (as ++ [n]) (G ++ [[]]) := by
  have hf : f ≠ n := ne_of_none h.lst hn
  have isn : ∀ a ∈ as, a ≠ n := fun a ha => by
    obtain ⟨i, hi, e⟩ := List.getElem_of_mem ha
    have hi2 : i < G.length := h.len ▸ hi
    obtain ⟨xs, hx, _⟩ := h.at' i a _ (by rw [List.getElem?_eq_getElem hi, e]) (List.getElem?_eq_getElem hi2)
    exact ne_of_none hx hn
  have nd := List.nodup_cons.mp h.nd
  have tD : TSame H (upd (upd H n (.lst [])) f (.lst (as.map V.ref ++ [.ref n]))) := (Same.t (same_new hn)).trans (TSame.updL (by rw [upd_ne hf]; exact h.lst))
  refine ⟨by rw [List.length_append, List.length_append, h.len]; rfl, by rw [upd_same, List.map_append]; rfl, ?_, ?_, ?_⟩
  · refine List.nodup_cons.mpr ⟨fun m => ?_, List.nodup_append.mpr ⟨nd.2, by simp, fun a ha b hb => ?_⟩⟩
    · rcases List.mem_append.mp m with m | m
      · exact nd.1 m
      · exact hf (List.mem_singleton.mp m)
    · rw [List.mem_singleton.mp hb]
      exact isn a ha
  · intro a ha
    rcases List.mem_append.mp ha with m | m
    · exact h.fr a m
    · rw [List.mem_singleton.mp m]
      exact s.free hn
  · intro i a g ha hg
    by_cases hi : i < as.length
    · rw [List.getElem?_append_left hi] at ha
      rw [List.getElem?_append_left (h.len ▸ hi)] at hg
      obtain ⟨xs, h3, h4⟩ := h.at' i a g ha hg
      have ma := List.mem_of_getElem? ha
      refine ⟨xs, ?_, lfma tD (lf_Its g) h4⟩
      rw [upd_ne (fun e => nd.1 (by rw [← e]; exact ma)), upd_ne (isn a ma)]
      exact h3
    · rw [List.getElem?_append_right (by omega)] at ha
      rw [List.getElem?_append_right (by rw [← h.len]; omega), ← h.len] at hg
      cases hj : i - as.length with
      | zero =>
        rw [hj] at ha hg
        simp only [List.getElem?_cons_zero, Option.some.injEq] at ha hg
        subst ha hg
        exact ⟨[], by rw [upd_ne (Ne.symm hf), upd_same], .nil⟩
      | succ j =>
        rw [hj] at ha
        simp at ha
theorem Grp.add {K : PySem.W.Frag} {H0 H : Hp} {f c : Addr} {as : List Addr} {G : List (List It)} {g : List It} {x : It} {v : V} {xs : List V} (h : Grp K H0 H f (as ++ [c]) (G ++ [g])) (hc : H c = some (.lst xs)) (hx : DpAll K H xs (g.map encIt)) (hv : Dp K H v (encIt x)) :
    Grp K H0 (upd H c (.lst (xs ++ [v]))) f (as ++ [c]) (G ++ [g ++ [x]]) := by
  have nd := List.nodup_cons.mp h.nd
  have l := h.len
  rw [List.length_append, List.length_append] at l
  have l : as.length = G.length := by simpa using l
  have tD : TSame H (upd H c (.lst (xs ++ [v]))) := TSame.updL hc
  have hcf : f ≠ c := fun e => nd.1 (by rw [e]; simp)
  have nd2 := List.nodup_append.mp nd.2
  refine ⟨by rw [List.length_append, List.length_append, l]; rfl, by rw [upd_ne hcf]; exact h.lst, h.nd, h.fr, ?_⟩
  intro i a g' ha hg
  by_cases hi : i < as.length
  · have ha' := ha
    rw [List.getElem?_append_left hi] at ha'
    rw [List.getElem?_append_left (by omega)] at hg
    obtain ⟨ys, h3, h4⟩ := h.at' i a g' ha (by rw [List.getElem?_append_left (by omega)]; exact hg)
    have ma := List.mem_of_getElem? ha'
    exact ⟨ys, by rw [upd_ne (nd2.2.2 a ma c (by simp))]; exact h3, lfma tD (lf_Its g') h4⟩
  · rw [List.getElem?_append_right (by omega)] at ha
    rw [List.getElem?_append_right (by omega), ← l] at hg
    cases hj : i - as.length with
    | zero =>
      rw [hj] at ha hg
      simp only [List.getElem?_cons_zero, Option.some.injEq] at ha hg
      subst ha hg
      refine ⟨_, upd_same, ?_⟩
      rw [List.map_append]
      exact dpa_app (lfma tD (lf_Its g) hx) (.cons (lfm tD (lf_It x) hv) .nil)
    | succ j =>
      rw [hj] at ha
      simp at ha

theorem atI_last {α : Type} {xs : List α} {v : α} : atI (xs ++ [v]) (-1) = some v := by
  unfold atI ixN
  rw [List.length_append, List.length_singleton, if_neg (by decide), if_pos (by omega)]
  show (xs ++ [v])[(-1 + ((xs.length + 1 : Nat) : Int)).toNat]? = some v
  rw [show (-1 + ((xs.length + 1 : Nat) : Int)).toNat = xs.length by omega]
  simp
section
variable {P : Program} {w : World} {K : PySem.W.Frag} {mg : Str → Option Value} {base : Heap}
def spGrouped (K : PySem.W.Frag) : Sp := fun vs H Q _ => ∃ (r : Addr) (rs : List V) (s : List It), vs = [.ref r] ∧ SqL K H r rs ∧ DpAll K H rs (s.map encRow) ∧ (∀ x ∈ s, 0 ≤ lo x) ∧ s.length ≤ 500 ∧
  ∀ (f : Addr) (as : List Addr) (H' : Hp), Same H H' → H f = Option.none → Grp K H H' f as (sweep s) → Q (.ref f) H'
theorem scGrouped : FnScope ["rows", "found", "end", "first", "last", "version", "block"] ["rows"] (defScope sGrouped) := ⟨rfl, rfl, rfl, by decide +kernel, rfl, by decide +kernel, by decide +kernel⟩
theorem ok_grouped {f : Addr} {fd : FuncData} (F : Fun K "grouped" "grouped" sGrouped f fd) (T : Txt mg) : FnOk P w K mg base CX0 1 f fd ["rows"] (spGrouped K) := by
  refine F.ok scGrouped (fun vs H Q E h => ?_) (fun cdv A outer s H vs Q E hr h => ?_)
  · obtain ⟨r, rs, s, rfl, _⟩ := h
    rfl
  · obtain ⟨r, rs, rows, rfl, hrs, hds, pos, ln, q⟩ := h
    have lr : rs.length = rows.length := dpa_mapLen hds
    refine ⟨_, pss_cons (ps_par rfl scGrouped.nd (i := 1) (j := 2) rfl rfl (by decide) rfl rfl (pa_cons (pe_lst pa_nil) (pa_cons (pe_un un_neg pe_int) pa_nil)) (by rfl))
      (pss_cons (ps_for PassesOwn.never rfl (pi_list (pv 0)) (pg_tup rfl (pgs_cons (pg_name (i := 3) scGrouped.nd rfl (Or.inl rfl)) (pgs_cons (pg_name (i := 4) scGrouped.nd rfl (Or.inl rfl)) (pgs_cons (pg_name (i := 5) scGrouped.nd rfl (Or.inl rfl)) (pgs_cons (pg_name (i := 6) scGrouped.nd rfl (Or.inl rfl)) pgs_nil)))))
        (pss_cons (ps_if (pt_cmpR op_gt (pv 3) (pv 2) (nomark _)) (pss_one (ps_expr (pe_bm PySem.F.plainAttrs_list PySem.F.slot_list_append PySem.F.type_list_append mt_append (pv 1) (pa_cons (pe_lst pa_nil) pa_nil)))) pss_nil)
        (pss_cons (ps_expr (pe_bm PySem.F.plainAttrs_list PySem.F.slot_list_append PySem.F.type_list_append mt_append (pe_ix ix_list (pv 1) (pe_un un_neg pe_int) (fun _ _ => rfl)) (pa_cons (pe_tup (pa_cons (pv 5) (pa_cons (pv 6) pa_nil))) pa_nil)))
        (pss_one (ps_set (i := 2) scGrouped.nd rfl (Or.inl rfl) (pe_callB (call_max2 rfl) (by rfl) T.max (by decide +kernel) (pa_cons (pv 2) (pa_cons (pv 4) pa_nil))))))))
      (pss_one (ps_ret (pv 1)))), ?_⟩
    refine ⟨Nat.zero_le _, fun fl hfl => ?_⟩
    refine ⟨_, rfl, _, _, rfl, ?_⟩
    have s1 : Same H (upd H fl (.lst [])) := same_new hfl
    refine ⟨_, rfl, r, rfl, ⟨_, s1.seq hrs⟩, for_list (K := K) (a := r) (xs := rs) (fun i σ H' => ∃ as v3 v4 v5 v6, σ = [some (.ref r), some (.ref fl), some (.int ((rows.take i).foldl gStep ([], -1)).2), v3, v4, v5, v6] ∧ Same H H' ∧
        Grp K H H' fl as ((rows.take i).foldl gStep ([], -1)).1 ∧ as.length ≤ i ∧ (∀ g ∈ ((rows.take i).foldl gStep ([], -1)).1, g.length ≤ i) ∧ (((rows.take i).foldl gStep ([], -1)).1 = [] → ((rows.take i).foldl gStep ([], -1)).2 = -1))
      ⟨[], _, _, _, _, rfl, s1, ⟨rfl, upd_same, by simp, fun a ha => by simp at ha, fun i a g h1 => by simp at h1⟩, Nat.le_refl _, fun g hg => by simp at hg, fun _ => rfl⟩ (fun i σ H' _ ⟨_, _, _, _, _, _, sm, _⟩ => sm.seq hrs) ?_ ?_⟩
    · rintro i x σ H' hi ⟨as, v3, v4, v5, v6, rfl, sm, G, la, lg, em⟩
      have hi1 := (List.getElem?_eq_some_iff.mp hi).1
      obtain ⟨y, hy, dy⟩ := dpa_map (dma sm hds) hi
      obtain ⟨t, b, rfl, ht, hb⟩ := dp_Row dy
      have py := pos y (List.mem_of_getElem? hy)
      have st := take_fold gStep ([], -1) rows i y hy
      rw [st]
      generalize (rows.take i).foldl gStep ([], -1) = S0 at G lg em st ⊢
      obtain ⟨G0, e0⟩ := S0
      refine ⟨t, _, rfl, ht, rfl, _, _, rfl, _, _, rfl, _, _, rfl, _, _, rfl, rfl, ?_⟩
      rcases Classical.em (e0 < lo y) with e | e
      refine ⟨_, rfl, _, rfl, _, _, rfl, rfl, true, congrArg V.bl (decide_eq_true e), iteT ?_⟩
      rotate_left
      refine ⟨_, rfl, _, rfl, _, _, rfl, rfl, false, congrArg V.bl (decide_eq_false e), iteF ?_⟩
      rotate_left
      · refine ⟨_, rfl, .inl ⟨rfl, _, SqL.of G.lst⟩, Nat.zero_le _, fun n hn => ?_⟩
        have hf : fl ≠ n := ne_of_none G.lst hn
        refine ⟨fl, _, _, rfl, rfl, by rw [upd_ne hf]; exact G.lst, small1000 (by rw [List.length_map]; omega), ?_⟩
        have G2 := G.push sm hn
        have tS : TSame H' (upd (upd H' n (.lst [])) fl (.lst (as.map V.ref ++ [.ref n]))) := (Same.t (same_new hn)).trans (TSame.updL (by rw [upd_ne hf]; exact G.lst))
        have s2 : Same H (upd (upd H' n (.lst [])) fl (.lst (as.map V.ref ++ [.ref n]))) := Bt.same (sm.trans (same_new hn)) hfl Bt.upd
        have hst : (gStep (G0, e0) y).1 = G0 ++ [[] ++ [y]] := by
          show addLast (if e0 < lo y then G0 ++ [[]] else G0) y = _
          rw [if_pos e, addLast_snoc]
        have lg0 : ([] : List It).length ≤ i := Nat.zero_le _
        have las : (as ++ [n]).length ≤ i + 1 := by rw [List.length_append, List.length_singleton]; omega
        have lE : ∀ g ∈ G0, g.length ≤ i := lg
        obtain ⟨xs, hc, hx⟩ := G2.at' as.length n ([] : List It) (by simp) (by rw [show (as).length = (G0).length by have := G2.len; simpa using this]; simp)
        have lx : xs.length = (([] : List It)).length := dpa_mapLen hx
        refine ⟨_, rfl, _, rfl, fl, _, _, .ref n, rfl, rfl, SqL.of G2.lst, by rw [List.map_append]; exact atI_last, .inl ⟨rfl, _, SqL.of hc⟩, _, rfl, _, rfl, by show 2 ≤ sizeLine; decide, fun p hp => ?_⟩
        have s4 := same_new (o := .tup [.int y.1, b]) hp
        refine ⟨n, _, _, rfl, rfl, s4 _ _ hc, small1000 (by rw [lx]; omega), ?_⟩
        have dI := new_tup (K := K) (xs := [.int y.1, b]) hp (.cons (.int y.1) (.cons (lfm tS (lf_B y.2) hb) .nil))
        have G3 := (G2.same s4).add (s4 _ _ hc) (dma s4 hx) dI
        refine ⟨_, rfl, _, rfl, _, _, rfl, _, _, _, _, _, rfl, Bt.same (s2.trans s4) (G2.fr n (by simp)) Bt.upd, by rw [hst]; exact G3, las, ?_, ?_⟩
        · intro g1 hg1
          rw [hst] at hg1
          rcases List.mem_append.mp hg1 with m | m
          · exact Nat.le_succ_of_le (lE g1 m)
          · rw [List.mem_singleton.mp m, List.length_append, List.length_singleton]
            exact Nat.succ_le_succ lg0
        · rw [hst]
          intro z
          simp at z
      · rcases List.eq_nil_or_concat G0 with eG | ⟨E0', g, eG⟩
        · have := em eG
          have : e0 = -1 := this
          omega
        have eG : G0 = E0' ++ [g] := by rw [eG, List.concat_eq_append]
        subst eG
        have ne : as ≠ [] := by
          intro z
          have := G.len
          rw [z] at this
          simp at this
        obtain ⟨as1, c, rfl⟩ : ∃ as1 c, as = as1 ++ [c] := ⟨as.dropLast, as.getLast ne, (List.dropLast_concat_getLast ne).symm⟩
        have hst : (gStep (E0' ++ [g], e0) y).1 = E0' ++ [g ++ [y]] := by
          show addLast (if e0 < lo y then (E0' ++ [g]) ++ [[]] else E0' ++ [g]) y = _
          rw [if_neg e, addLast_snoc]
        have G2 := G
        have tS : TSame H' H' := fun _ _ h => h
        have s2 := sm
        have lE : ∀ g ∈ E0', g.length ≤ i := fun g hg => lg g (by simp [hg])
        have lg0 : g.length ≤ i := lg g (by simp)
        have las : (as1 ++ [c]).length ≤ i + 1 := by omega
        obtain ⟨xs, hc, hx⟩ := G2.at' as1.length c g (by simp) (by rw [show (as1).length = (E0').length by have := G2.len; simpa using this]; simp)
        have lx : xs.length = (g).length := dpa_mapLen hx
        refine ⟨_, rfl, _, rfl, fl, _, _, .ref c, rfl, rfl, SqL.of G2.lst, by rw [List.map_append]; exact atI_last, .inl ⟨rfl, _, SqL.of hc⟩, _, rfl, _, rfl, by show 2 ≤ sizeLine; decide, fun p hp => ?_⟩
        have s4 := same_new (o := .tup [.int y.1, b]) hp
        refine ⟨c, _, _, rfl, rfl, s4 _ _ hc, small1000 (by rw [lx]; omega), ?_⟩
        have dI := new_tup (K := K) (xs := [.int y.1, b]) hp (.cons (.int y.1) (.cons (lfm tS (lf_B y.2) hb) .nil))
        have G3 := (G2.same s4).add (s4 _ _ hc) (dma s4 hx) dI
        refine ⟨_, rfl, _, rfl, _, _, rfl, _, _, _, _, _, rfl, Bt.same (s2.trans s4) (G2.fr c (by simp)) Bt.upd, by rw [hst]; exact G3, las, ?_, ?_⟩
        · intro g1 hg1
          rw [hst] at hg1
          rcases List.mem_append.mp hg1 with m | m
          · exact Nat.le_succ_of_le (lE g1 m)
          · rw [List.mem_singleton.mp m, List.length_append, List.length_singleton]
            exact Nat.succ_le_succ lg0
        · rw [hst]
          intro z
          simp at z
    · rintro σ H' ⟨as, v3, v4, v5, v6, rfl, sm, G, _⟩
      rw [lr, List.take_length] at G
      exact ⟨_, rfl, q fl as H' sm hfl G⟩
end
end K60

namespace K60
open PySem PySem.Spec PyProof.Rows L2
abbrev sKnotsOf : Stmt := top 31

theorem kop_cat {X : Cx} (K : PySem.W.Frag) (e : X.K = K := by rfl) : OpR X (binaryOp .Add) (rCatA K) := e ▸ op_catA
/-- a comprehension over a list that lies there -/
theorem lcl {K : PySem.W.Frag} {a : Addr} {xs : List V} {g : TG} {tt : TT} {te : TE} {vs : List Nat} {σ : L2.St} {H1 : Hp} {D : Addr} {Qd : Hp → Prop} (hD : H1 D = Option.none) (hs : SqL K H1 a xs) (nz : xs.length < sizeLine)
    (P : Nat → List PyData → Prop) (p0 : P 0 [])
    (step : ∀ (i : Nat) (x : V) (ds : List PyData) (H : Hp) (R1 : V → Hp → Prop) (R0 : Hp → Prop), xs[i]? = some x → Same H1 H → P i ds → (∃ zs, H D = some (.lst zs)) →
      (∀ (y : V) (H4 : Hp) (d : PyData), Same H H4 → lf d = true → Dp K H4 y d → P (i + 1) (ds ++ [d]) → R1 y H4) → (∀ H3, Same H H3 → P (i + 1) ds → R0 H3) →
      g x (wipe σ vs) H fun σ2 H2 => wipe σ2 vs = wipe σ vs ∧ tt σ2 H2 fun b H3 => if b = true then te σ2 H3 R1 else R0 H3)
    (hd : ∀ H ys ds, Same H1 H → H D = some (.lst ys) → DpAll K H ys ds → P xs.length ds → ds.length ≤ xs.length → lfAll ds = true → Qd H) :
    ∃ W : Nat → Nat → Hp → Prop, (∃ m, W 0 m (upd H1 D (.lst []))) ∧ ∀ i m H, W i m H →
      ((Itl K a).stop i H ∧ Qd H) ∨ ((Itl K a).go i H ∧ ∃ Nx : Hp → Prop, (∀ H', Nx H' → ∃ m', m' < m ∧ W (i + 1) m' H') ∧ ∀ x H', (Itl K a).yld i H x H' → g x (wipe σ vs) H' fun σ2 H2 => wipe σ2 vs = wipe σ vs ∧ tt σ2 H2 fun b H3 =>
        if b = true then te σ2 H3 fun y H4 => ∃ acc, H4 D = some (.lst acc) ∧ acc.length < sizeLine ∧ Nx (upd H4 D (.lst (acc ++ [y]))) else Nx H3) := by
  refine lc_lf (K := K) walk_list nz hD (fun H s => s.seq hs) P p0 (fun i x ds H H' R1 R0 hi s p y z r1 r0 => ?_) hd
  obtain ⟨rfl, hx⟩ := y
  exact step i x ds H' R1 R0 hx s p z r1 r0

theorem blocks_fold : ∀ (ps : List (Int × Int)) (st : BSt), (ps.foldl bStep st).1.length ≤ st.1.length + ps.length
  | [], st => Nat.le_refl _
  | p :: ps, st => by
    have h := blocks_fold ps (bStep st p)
    have h2 : (bStep st p).1.length ≤ st.1.length + 1 := by
      unfold bStep
      dsimp only
      split
      · omega
      · rw [List.length_append, List.length_singleton]
        exact Nat.le_refl _
    rw [List.foldl_cons, List.length_cons]
    omega
theorem blocks_len {m n : Int} {ps : List (Int × Int)} : (blocksM m n ps).length ≤ ps.length + 1 := by
  have h := blocks_fold (ps ++ [(m + 1, n + 1)]) ([], 0, 0)
  rw [List.length_append, List.length_singleton] at h
  simpa [blocksM] using h
theorem mem_flat_len {α : Type} {g : List α} : ∀ {G : List (List α)}, g ∈ G → g.length ≤ G.flatten.length
  | h :: G, m => by
    rw [List.flatten_cons, List.length_append]
    rcases List.mem_cons.mp m with rfl | m
    · omega
    · have := mem_flat_len m
      omega
theorem ne_flat_len {α : Type} : ∀ {G : List (List α)}, (∀ g ∈ G, g ≠ []) → G.length ≤ G.flatten.length
  | [], _ => by simp
  | h :: G, m => by
    rw [List.flatten_cons, List.length_append, List.length_cons]
    have := ne_flat_len (G := G) fun g hg => m g (List.mem_cons_of_mem _ hg)
    have : 0 < h.length := List.length_pos_iff.mpr (m h (by simp))
    omega
theorem Grp.bt {K : PySem.W.Frag} {H0 H H' : Hp} {f D : Addr} {as : List Addr} {G : List (List It)} {zs us : List V} (b : Bt D H H') (hD : H D = some (.lst zs)) (hD0 : H0 D = some (.lst us)) (hf : H0 f = Option.none) (h : Grp K H0 H f as G) : Grp K H0 H' f as G :=
  ⟨h.len, b _ _ (ne_of_none hD0 hf).symm h.lst, h.nd, h.fr, fun i a g h1 h2 => let ⟨xs, h3, h4⟩ := h.at' i a g h1 h2
    ⟨xs, b _ _ (ne_of_none hD0 (h.fr a (List.mem_of_getElem? h1))).symm h3, lfma (b.t hD) (lf_Its g) h4⟩⟩
def toKnot (g : List It) : Knot := (parts 1 g, parts 2 g)
def Knots (b1 b2 : List Blk) (ks : List Knot) : Prop := ∃ s : List It, s.Perm (items b1 b2) ∧ s.Pairwise (fun x y => lo x ≤ lo y) ∧ ks = (sweep s).map toKnot
theorem lf_K (k : Knot) : lf (encK k) = true := by
  unfold encK
  rw [lf, lfAll, lfAll, lf, lf, lf_Bs, lf_Bs]
  rfl
theorem parts_snoc {v : Int} {l : List It} {i : Nat} {x : It} (h : l[i]? = some x) : parts v (l.take (i + 1)) = parts v (l.take i) ++ (if x.1 = v then [x.2] else []) := by
  unfold parts
  rw [List.take_add_one, h, List.filterMap_append]
  by_cases e : x.1 = v <;> simp [e]
theorem items_len {b1 b2 : List Blk} : (items b1 b2).length = b1.length + b2.length := by
  unfold items
  rw [List.length_append, List.length_map, List.length_map]

theorem alike_Row (x y : It) : PySem.W.alike (encRow x) (encRow y) = true := by
  simp [PySem.W.alike, PySem.W.alikeAll, encRow, encB]
theorem depth_Row (x : It) : (encRow x).depth ≤ 60 := by
  simp [encRow, encB, PyData.depth, PyData.depthAll]
section
variable {P : Program} {w : World} {K : PySem.W.Frag} {mg : Str → Option Value} {base : Heap}
def spKnots (K : PySem.W.Frag) : Sp := fun vs H Q _ => ∃ (b o t d1 d2 : V) (bs os ts : List Str) (p1 p2 : List (Int × Int)), vs = [b, o, t, d1, d2] ∧ TxtV K H b bs ∧ TxtV K H o os ∧ TxtV K H t ts ∧ DiffV K H d1 bs os p1 ∧ DiffV K H d2 bs ts p2 ∧
  ∀ (q : Addr) (ys : List V) (ks : List Knot) (H' : Hp), Same H H' → H q = Option.none → H' q = some (.lst ys) → Knots (blocksM bs.length os.length p1) (blocksM bs.length ts.length p2) ks → DpAll K H' ys (ks.map encK) → Q (.ref q) H'
theorem scKnotsOf : FnScope ["base", "one", "two", "diff_one", "diff_two", "rows", "found", "group", "mine", "block", "version"] ["base", "one", "two", "diff_one", "diff_two"] (defScope sKnotsOf) := ⟨rfl, rfl, rfl, by decide +kernel, rfl, by decide +kernel, by decide +kernel⟩
theorem ok_knotsOf {f : Addr} {fd : FuncData} (F : Fun K "knots_of" "knots_of" sKnotsOf f fd) (T : Txt mg) (c6 : Cal P w K mg base 6 "check_versions" (spCheckVersions K)) (c2 : Cal P w K mg base 2 "covered_by" (spCovered K)) (c7 : Cal P w K mg base 7 "blocks_of" (spBlocks K)) (c1 : Cal P w K mg base 1 "grouped" (spGrouped K)) :
    FnOk P w K mg base CX0 8 f fd ["base", "one", "two", "diff_one", "diff_two"] (spKnots K) := by
  refine F.ok scKnotsOf (fun vs H Q E h => ?_) (fun cdv A outer s H vs Q E hr h => ?_)
  · obtain ⟨b, o, t, d1, d2, bs, os, ts, p1, p2, rfl, _⟩ := h
    rfl
  · obtain ⟨b, o, t, d1, d2, bs, os, ts, p1, p2, rfl, hb, ho, ht, h1, h2, q⟩ := h
    refine ⟨_, pss_cons (ps_expr (pc c6 (hr.mono (by decide)) (by rfl) (pa_cons (pv 0) (pa_cons (pv 1) (pa_cons (pv 2) (pa_cons (pv 3) (pa_cons (pv 4) pa_nil)))))))
      (pss_cons (ps_setLc (i := 5) (own := [("block", 9)]) (g := gName 9) (tt := tYes) rfl scKnotsOf.nd rfl rfl (by rfl) (pi_list (pc c7 hr (by rfl) (pa_cons (pv 0) (pa_cons (pv 1) (pa_cons (pv 3) pa_nil)))))
          (blkOk_by (N := ["base", "one", "two", "diff_one", "diff_two", "rows", "found", "group", "mine", "block", "version"]) (sc := defScope sKnotsOf) (by decide +kernel)) (fun _ _ _ _ _ => pg_name (i := 9) scKnotsOf.nd rfl (Or.inl rfl)) (fun _ _ _ _ _ => pts_nil)
          (fun _ _ _ _ _ => pe_op (kop_cat K) (pc c2 (hr.mono (by decide)) (by rfl) (pa_cons (pv 9) pa_nil)) (pe_tup (pa_cons pe_int (pa_cons (pv 9) pa_nil)))))
      (pss_cons (ps_expr (pe_bm PySem.F.plainAttrs_list PySem.F.slot_list_extend PySem.F.type_list_extend mt_extend (pv 5) (pa_cons (pe_lc (own := [("block", 9)]) (g := gName 9) (tt := tYes) rfl scKnotsOf.nd (pi_list (pc c7 hr (by rfl) (pa_cons (pv 0) (pa_cons (pv 2) (pa_cons (pv 4) pa_nil)))))
          (blkOk_by (N := ["base", "one", "two", "diff_one", "diff_two", "rows", "found", "group", "mine", "block", "version"]) (sc := defScope sKnotsOf) (by decide +kernel)) (fun _ _ _ _ _ => pg_name (i := 9) scKnotsOf.nd rfl (Or.inl rfl)) (fun _ _ _ _ _ => pts_nil)
          (fun _ _ _ _ _ => pe_op (kop_cat K) (pc c2 (hr.mono (by decide)) (by rfl) (pa_cons (pv 9) pa_nil)) (pe_tup (pa_cons pe_int (pa_cons (pv 9) pa_nil))))) pa_nil)))
      (pss_cons (ps_set (i := 6) scKnotsOf.nd rfl (Or.inl rfl) (pe_lst pa_nil))
      (pss_cons (ps_for PassesOwn.never rfl (pi_list (pc c1 (hr.mono (by decide)) (by rfl) (pa_cons (pe_callB (cr_sortD (enc := encRow) (first := lo) (fun b => ⟨_, rfl⟩) alike_Row depth_Row hr.units) (by rfl) T.sorted (by decide +kernel) (pa_cons (pv 5) pa_nil)) pa_nil)))
          (pg_name (i := 7) scKnotsOf.nd rfl (Or.inl rfl))
        (pss_cons (ps_set (i := 8) scKnotsOf.nd rfl (Or.inl rfl) (pe_callTy call_tuple_of (by rfl) T.tuple (by decide +kernel) (pa_cons (pe_lc (own := [("block", 9), ("version", 10)]) (g := gTup K 2 (gCons (gName 10) (gCons (gName 9) gNil))) rfl scKnotsOf.nd (pi_list (pv 7))
            (blkOk_by (N := ["base", "one", "two", "diff_one", "diff_two", "rows", "found", "group", "mine", "block", "version"]) (sc := defScope sKnotsOf) (by decide +kernel))
            (fun _ _ _ _ _ => kg_tup K rfl (pgs_cons (pg_name (i := 10) scKnotsOf.nd rfl (Or.inl rfl)) (pgs_cons (pg_name (i := 9) scKnotsOf.nd rfl (Or.inl rfl)) pgs_nil))) (fun _ _ _ _ _ => pts_one (pt_cmpR op_eq (pv 10) pe_int (nomark _))) (fun _ _ _ _ _ => pv 9)) pa_nil)))
        (pss_one (ps_expr (pe_bm PySem.F.plainAttrs_list PySem.F.slot_list_append PySem.F.type_list_append mt_append (pv 6) (pa_cons (pe_tup (pa_cons (pv 8) (pa_cons (pe_callTy call_tuple_of (by rfl) T.tuple (by decide +kernel) (pa_cons (pe_lc (own := [("block", 9), ("version", 10)]) (g := gTup K 2 (gCons (gName 10) (gCons (gName 9) gNil))) rfl scKnotsOf.nd (pi_list (pv 7))
            (blkOk_by (N := ["base", "one", "two", "diff_one", "diff_two", "rows", "found", "group", "mine", "block", "version"]) (sc := defScope sKnotsOf) (by decide +kernel))
            (fun _ _ _ _ _ => kg_tup K rfl (pgs_cons (pg_name (i := 10) scKnotsOf.nd rfl (Or.inl rfl)) (pgs_cons (pg_name (i := 9) scKnotsOf.nd rfl (Or.inl rfl)) pgs_nil))) (fun _ _ _ _ _ => pts_one (pt_cmpR op_eq (pv 10) pe_int (nomark _))) (fun _ _ _ _ _ => pv 9)) pa_nil)) pa_nil))) pa_nil))))))
      (pss_one (ps_ret (pv 6))))))), ?_⟩
    have ch1 := h1.good.chain
    have ch2 := h2.good.chain
    have ln1 : (blocksM bs.length os.length p1).length ≤ 61 := Nat.le_trans blocks_len (Nat.succ_le_succ h1.len)
    have ln2 : (blocksM bs.length ts.length p2).length ≤ 61 := Nat.le_trans blocks_len (Nat.succ_le_succ h2.len)
    refine ⟨_, rfl, _, rfl, _, rfl, _, rfl, _, rfl, b, o, t, d1, d2, bs, os, ts, p1, p2, rfl, hb, ho, ht, h1, h2, fun H1 s1 => ?_⟩
    refine ⟨_, rfl, _, rfl, _, rfl, b, o, d1, bs, os, p1, rfl, hb.mono s1, ho.mono s1, h1.mono s1, fun q1 xs1 H2 s2 hq1 hy1 dx1 => ?_⟩
    generalize eB1 : blocksM bs.length os.length p1 = B1 at q dx1 ch1 ln1
    generalize eB2 : blocksM bs.length ts.length p2 = B2 at q ch2 ln2
    have lx1 : xs1.length = B1.length := dpa_mapLen dx1
    refine ⟨q1, rfl, ⟨_, SqL.of hy1⟩, fun D1 hD1 => lcl (K := K) hD1 (SqL.of hy1) (small1000 (by omega)) (fun i ds => ds = ((B1.take i).map (fun k => ((1 : Int), k))).map encRow) rfl (fun i x ds Hc R1 R0 hx sm e _ r1 _ => ?_) (fun H3 ys1 ds s3 hD1' dds1 e _ _ => ?_)⟩
    · obtain ⟨k, hk, dk⟩ := dpa_map (dma sm dx1) hx
      refine ⟨rfl, yes ⟨_, rfl, x, k, rfl, dk, fun r Hd sd dr => ?_⟩⟩
      obtain ⟨tr, rfl, htr⟩ := dp_pair dr
      refine ⟨_, rfl, by show 2 ≤ sizeLine; decide, fun p hp => ?_⟩
      have sp := same_new (o := .tup [.int 1, x]) hp
      refine r_cat (K := K) (same_seqT sp htr) (SqT.of upd_same) (by show 4 ≤ sizeLine; decide) fun c He se hc => ?_
      refine r1 _ _ (encRow (1, k)) (sd.trans (sp.trans se)) (lf_Row _) (.tup hc (.cons (.int _) (.cons (.int _) (.cons (.int _) (.cons (dm (sd.trans (sp.trans se)) dk) .nil))))) ?_
      rw [e, List.take_add_one, hk]
      simp
    subst e
    rw [lx1, List.take_length] at dds1
    have sA := s1.trans (s2.trans s3)
    have hD1H : H D1 = Option.none := s1.free (s2.free hD1)
    refine ⟨_, rfl, .inl ⟨rfl, _, SqL.of hD1'⟩, ?_⟩
    refine ⟨_, rfl, _, rfl, _, rfl, b, t, d2, bs, ts, p2, rfl, hb.mono sA, ht.mono sA, h2.mono sA, fun q2 xs2 H4 s4 hq2 hy2 dx2 => ?_⟩
    rw [eB2] at dx2
    have lx2 : xs2.length = B2.length := dpa_mapLen dx2
    refine ⟨q2, rfl, ⟨_, SqL.of hy2⟩, fun D2 hD2 => lcl (K := K) hD2 (SqL.of hy2) (small1000 (by omega)) (fun i ds => ds = ((B2.take i).map (fun k => ((2 : Int), k))).map encRow) rfl (fun i x ds Hc R1 R0 hx sm e _ r1 _ => ?_) (fun H5 ys2 ds s5 hD2' dds2 e _ _ => ?_)⟩
    · obtain ⟨k, hk, dk⟩ := dpa_map (dma sm dx2) hx
      refine ⟨rfl, yes ⟨_, rfl, x, k, rfl, dk, fun r Hd sd dr => ?_⟩⟩
      obtain ⟨tr, rfl, htr⟩ := dp_pair dr
      refine ⟨_, rfl, by show 2 ≤ sizeLine; decide, fun p hp => ?_⟩
      have sp := same_new (o := .tup [.int 2, x]) hp
      refine r_cat (K := K) (same_seqT sp htr) (SqT.of upd_same) (by show 4 ≤ sizeLine; decide) fun c He se hc => ?_
      refine r1 _ _ (encRow (2, k)) (sd.trans (sp.trans se)) (lf_Row _) (.tup hc (.cons (.int _) (.cons (.int _) (.cons (.int _) (.cons (dm (sd.trans (sp.trans se)) dk) .nil))))) ?_
      rw [e, List.take_add_one, hk]
      simp
    subst e
    rw [lx2, List.take_length] at dds2
    have l1 : ys1.length = B1.length := by rw [dpa_len dds1, List.length_map, List.length_map]
    have l2 : ys2.length = B2.length := by rw [dpa_len dds2, List.length_map, List.length_map]
    have s45 := s4.trans s5
    have hD15 := s45 _ _ hD1'
    refine ⟨D1, D2, ys1, ys2, rfl, rfl, hD15, hD2', Nat.le_of_lt (small1000 (by omega)), ?_⟩
    have t6 : TSame H5 (upd H5 D1 (.lst (ys1 ++ ys2))) := TSame.updL hD15
    have s6 : Same H (upd H5 D1 (.lst (ys1 ++ ys2))) := Bt.same (sA.trans s45) hD1H Bt.upd
    have hD16 : upd H5 D1 (.lst (ys1 ++ ys2)) D1 = some (.lst (ys1 ++ ys2)) := upd_same
    have dRows : DpAll K (upd H5 D1 (.lst (ys1 ++ ys2))) (ys1 ++ ys2) ((items B1 B2).map encRow) := by
      unfold items
      rw [List.map_append]
      exact dpa_app (lfma t6 (lfAll_map fun k _ => lf_Row k) (dma s45 dds1)) (lfma t6 (lfAll_map fun k _ => lf_Row k) dds2)
    generalize upd H5 D1 (.lst (ys1 ++ ys2)) = H6 at s6 hD16 dRows ⊢
    refine ⟨Nat.zero_le _, fun f0 hf0 => ?_⟩
    have s7 : Same H6 (upd H6 f0 (.lst [])) := same_new hf0
    have hf0H := s6.free hf0
    refine ⟨_, rfl, D1, ys1 ++ ys2, items B1 B2, rfl, SqL.of (s7 _ _ hD16), dma s7 dRows, fun zv srt p hperm hsort dz hp => ?_⟩
    have s8 := same_new (o := .lst zv) hp
    have lsrt : srt.length ≤ 122 := by rw [hperm.length_eq, items_len]; omega
    have wf : ∀ x ∈ srt, lo x ≤ hi x ∧ 0 ≤ lo x := fun x hx => by
      have m := mem_items.mp ((hperm.mem_iff).mp hx)
      have w : Wf x.2 := m.elim (fun m => ch1.wf _ m.2) fun m => ch2.wf _ m.2
      have := lo_ge w
      have := w.1
      exact ⟨lo_hi w, by omega⟩
    obtain ⟨_, sw⟩ := swept wf hsort
    have lG : (sweep srt).length ≤ 122 := by
      have := ne_flat_len sw.ne
      rw [sw.all] at this
      omega
    have lg : ∀ g ∈ sweep srt, g.length ≤ 122 := fun g hg => by
      have := mem_flat_len hg
      rw [sw.all] at this
      omega
    refine ⟨p, zv, srt, rfl, SqL.of upd_same, dma s8 dz, fun x hx => (wf x hx).2, by omega, fun g0 as H9 s9 hg0 G => ?_⟩
    have hf8 : upd (upd H6 f0 (.lst [])) p (.lst zv) f0 = some (.lst []) := s8 _ _ upd_same
    have hf9 : H9 f0 = some (.lst []) := s9 _ _ hf8
    have sZ := s6.trans (s7.trans (s8.trans s9))
    refine ⟨g0, rfl, ⟨_, SqL.of G.lst⟩, for_list (K := K) (a := g0) (xs := as.map V.ref) (fun i σ H' => ∃ ys v7 v8, σ = [some b, some o, some t, some d1, some d2, some (.ref D1), some (.ref f0), v7, v8, none, none] ∧
        Bt f0 H9 H' ∧ H' f0 = some (.lst ys) ∧ DpAll K H' ys ((((sweep srt).take i).map toKnot).map encK) ∧ ys.length ≤ i)
      ⟨[], _, _, rfl, Bt.refl, hf9, .nil, Nat.le_refl _⟩ (fun i σ H' _ ⟨_, _, _, _, bt, _⟩ => SqL.of ((G.bt bt hf9 hf8 hg0).lst)) ?_ ?_⟩
    · rintro i x σ H' hi ⟨ys, v7, v8, rfl, bt, hy, hds, ly⟩
      have hi1 := (List.getElem?_eq_some_iff.mp hi).1
      rw [List.length_map, G.len] at hi1
      rw [List.getElem?_map] at hi
      obtain ⟨a, ha, rfl⟩ := Option.map_eq_some_iff.mp hi
      have hg : (sweep srt)[i]? = some (sweep srt)[i] := List.getElem?_eq_getElem hi1
      generalize (sweep srt)[i] = g at hg
      obtain ⟨xa, hxa1, hxd1⟩ := (G.bt bt hf9 hf8 hg0).at' i a g ha hg
      have lxa : xa.length ≤ 1000 := by
        have := lg g (List.mem_of_getElem? hg)
        rw [dpa_mapLen hxd1]
        omega
      refine ⟨_, rfl, a, rfl, ⟨_, SqL.of hxa1⟩, fun Dm1 hDm1 => lcl (K := K) hDm1 (SqL.of hxa1) (small1000 lxa) (fun i ds => ds = (parts 1 (g.take i)).map encB) rfl (fun i x ds Hc R1 R0 hx sm e _ r1 r0 => ?_) (fun Hm1 ysm1 ds sm1 hDm'1 dds1 e _ _ => ?_)⟩
      · obtain ⟨y, hy, dy⟩ := dpa_map (dma sm hxd1) hx
        obtain ⟨tt, bb, rfl, htt, hbb⟩ := dp_It dy
        refine ⟨tt, _, rfl, htt, rfl, _, _, rfl, _, _, rfl, rfl, rfl, ?_⟩
        by_cases e1 : y.1 = 1
        · exact ⟨_, rfl, rfl, true, vT e1, iteT ⟨_, rfl, r1 _ _ (encB y.2) (Same.refl _) (lf_B _) hbb (by rw [e, parts_snoc hy, if_pos e1, List.map_append]; rfl)⟩⟩
        · exact ⟨_, rfl, rfl, false, vF e1, iteF (r0 _ (Same.refl _) (by rw [e, parts_snoc hy, if_neg e1, List.append_nil]))⟩
      subst e
      rw [dpa_mapLen hxd1, List.take_length] at dds1
      refine ⟨Dm1, ysm1, rfl, .inl ⟨SqL.of hDm'1, fun tm htm => ?_⟩⟩
      have sn1 := same_new (o := .tup ysm1) htm
      have dM := new_tup (K := K) htm dds1
      have sm1' := sm1.trans sn1
      have hxa2 := sm1' _ _ hxa1
      have hxd2 := dma sm1' hxd1
      have hy2 := sm1' _ _ hy
      generalize upd Hm1 tm (.tup ysm1) = Hn at sn1 dM sm1' hxa2 hxd2 hy2 ⊢
      refine ⟨_, rfl, .inl ⟨rfl, _, SqL.of hy2⟩, _, rfl, _, rfl, a, rfl, ⟨_, SqL.of hxa2⟩, fun Dm2 hDm2 => lcl (K := K) hDm2 (SqL.of hxa2) (small1000 lxa) (fun i ds => ds = (parts 2 (g.take i)).map encB) rfl (fun i x ds Hc R1 R0 hx sm e _ r1 r0 => ?_) (fun Hm2 ysm2 ds sm2 hDm'2 dds2 e _ _ => ?_)⟩
      · obtain ⟨y, hy, dy⟩ := dpa_map (dma sm hxd2) hx
        obtain ⟨tt, bb, rfl, htt, hbb⟩ := dp_It dy
        refine ⟨tt, _, rfl, htt, rfl, _, _, rfl, _, _, rfl, rfl, rfl, ?_⟩
        by_cases e1 : y.1 = 2
        · exact ⟨_, rfl, rfl, true, vT e1, iteT ⟨_, rfl, r1 _ _ (encB y.2) (Same.refl _) (lf_B _) hbb (by rw [e, parts_snoc hy, if_pos e1, List.map_append]; rfl)⟩⟩
        · exact ⟨_, rfl, rfl, false, vF e1, iteF (r0 _ (Same.refl _) (by rw [e, parts_snoc hy, if_neg e1, List.append_nil]))⟩
      subst e
      rw [dpa_mapLen hxd2, List.take_length] at dds2
      refine ⟨Dm2, ysm2, rfl, .inl ⟨SqL.of hDm'2, fun tn htn => ?_⟩⟩
      have sn2 := same_new (o := .tup ysm2) htn
      have dN := new_tup (K := K) htn dds2
      refine ⟨by show 2 ≤ sizeLine; decide, fun tk htk => ?_⟩
      have sn3 := same_new (o := .tup [.ref tm, .ref tn]) htk
      have dK := new_tup (K := K) (xs := [.ref tm, .ref tn]) htk (.cons (dm (sm2.trans sn2) dM) (.cons dN .nil))
      have sq := sm2.trans (sn2.trans sn3)
      have hy3 := sq _ _ hy2
      have tD := TSame.updL (zs := ys ++ [V.ref tk]) hy3
      refine ⟨f0, _, _, rfl, rfl, hy3, small1000 (by omega), ?_⟩
      refine ⟨ys ++ [.ref tk], _, _, rfl, bt.trans ((Bt.of (sm1'.trans sq)).trans Bt.upd), upd_same, ?_, by rw [List.length_append, List.length_singleton]; omega⟩
      rw [List.take_add_one, hg, List.map_append, List.map_append]
      exact dpa_app (lfma tD (lfAll_map fun k _ => lf_K k) (dma (sm1'.trans sq) hds)) (.cons (lfm tD (lf_K (toKnot g)) dK) .nil)
    · rintro σ H' ⟨ys, v7, v8, rfl, bt, hy, hds, ly⟩
      rw [List.length_map, G.len, List.take_length] at hds
      exact ⟨_, rfl, q f0 ys _ H' (bt.same sZ hf0H) hf0H hy ⟨srt, hperm, hsort, rfl⟩ hds⟩
end
end K60

namespace K60
open PySem PySem.Spec PyProof.Rows L2
abbrev sPot : Stmt := top 33
abbrev sDraw : Stmt := top 34
abbrev sPick : Stmt := top 35

/-- a pot of digits: a list of two numbers -/
def PotA (H : Hp) (p : Addr) : Prop := ∃ x y : Int, H p = some (.lst [.int x, .int y]) ∧ 0 ≤ x ∧ 0 ≤ y ∧ y < 2147483629
theorem sqlBt {K : PySem.W.Frag} {D a : Addr} {H H' : Hp} {xs : List V} (b : Bt D H H') (ne : a ≠ D) (h : SqL K H a xs) : SqL K H' a xs := by
  rcases h with (h | ⟨o, h⟩) | h
  · exact .inl (.inl (b _ _ ne h))
  · exact .inl (.inr ⟨o, b _ _ ne h⟩)
  · exact .inr h
theorem PotA.same {H H' : Hp} {p : Addr} (e : Same H H') (h : PotA H p) : PotA H' p := let ⟨x, y, h1, h2⟩ := h; ⟨x, y, e _ _ h1, h2⟩
theorem PotA.t {H H' : Hp} {p : Addr} (h : PotA H p) (b : Bt p H H') : TSame H H' := let ⟨_, _, h1, _⟩ := h; b.t h1
theorem PotA.ne {H : Hp} {p a : Addr} (h : PotA H p) (n : H a = Option.none) : p ≠ a := let ⟨_, _, h1, _⟩ := h; ne_of_none h1 n

section
variable {P : Program} {w : World} {K : PySem.W.Frag} {mg : Str → Option Value} {base : Heap}
def spPot (K : PySem.W.Frag) : Sp := fun vs H Q _ => ∃ (a : Addr) (ns : List Int) (i : Int), vs = [.ref a, .int i] ∧ (SqL K H a (ns.map V.int) ∨ SqT K H a (ns.map V.int)) ∧ 0 ≤ i ∧ i ≤ 100 ∧
  ∀ p H', Same H H' → H p = Option.none → PotA H' p → Q (.ref p) H'
theorem scPot : FnScope ["_law_script", "_law_index", "_law_cell"] ["_law_script", "_law_index"] (defScope sPot) := ⟨rfl, rfl, rfl, by decide +kernel, rfl, by decide +kernel, by decide +kernel⟩
theorem ok_pot {f : Addr} {fd : FuncData} (F : Fun K "_law_pot" "_law_pot" sPot f fd) (T : Txt mg) : FnOk P w K mg base CX0 1 f fd ["_law_script", "_law_index"] (spPot K) := by
  refine F.ok scPot (fun vs H Q E h => ?_) (fun cdv A outer s H vs Q E hr h => ?_)
  · obtain ⟨a, ns, i, rfl, _⟩ := h
    rfl
  · obtain ⟨a, ns, i, rfl, ha, h0, h100, q⟩ := h
    refine ⟨_, pss_cons (ps_set (i := 2) scPot.nd rfl (Or.inl rfl) (pe_ifExp (pt_cmpR op_lt (pv 1) (pe_callB call_len_seq (by rfl) T.len PySem.boot_len (pa_cons (pv 0) pa_nil)) (nomark _))
        (pe_callB call_abs (by rfl) T.abs (by decide +kernel) (pa_cons (pe_ix ix_seq (pv 0) (pv 1) (fun _ _ => rfl)) pa_nil)) (pe_op op_add (pe_op op_mul pe_int (pv 1)) pe_int)))
      (pss_one (ps_ret (pe_lst (pa_cons (pe_callB (call_max2 rfl) (by rfl) T.max (by decide +kernel) (pa_cons pe_int (pa_cons (pe_op op_sub (pv 2) (pe_op op_pow pe_int pe_int)) pa_nil)))
        (pa_cons (pe_op op_mod (pe_callTy call_int1 (by rfl) T.int (by decide +kernel) (pa_cons (pe_op op_add (pe_op op_add (pe_op op_mul (pe_op op_mod (pe_callTy call_int1 (by rfl) T.int (by decide +kernel) (pa_cons (pv 2) pa_nil)) pe_int) pe_int) (pe_op op_mul pe_int (pv 1))) pe_int) pa_nil)) pe_int) pa_nil))))), ?_⟩
    refine ⟨_, rfl, _, rfl, a, _, rfl, ha, _, _, rfl, rfl, ?_⟩
    by_cases e : i < ((ns.map V.int).length : Int)
    · refine ⟨true, congrArg V.bl (decide_eq_true e), iteT ?_⟩
      obtain ⟨j, rfl⟩ : ∃ j : Nat, i = (j : Int) := ⟨i.toNat, by omega⟩
      have hj : j < ns.length := by rw [List.length_map] at e; omega
      have hv : (ns.map V.int)[j]? = some (.int ns[j]) := by rw [List.getElem?_map, List.getElem?_eq_getElem hj]; rfl
      have rx : ∀ C : VK, C (.int ns[j]) H → rIx K (.ref a) (.int (j : Int)) H C := fun C c => ha.elim (fun h => .inl ⟨a, _, _, _, rfl, rfl, h, at_of rfl hv, c⟩) fun h => .inr (.inl ⟨a, _, _, _, rfl, rfl, h, at_of rfl hv, c⟩)
      refine ⟨_, rfl, _, rfl, rx _ ⟨_, rfl, ?_⟩⟩
      · refine ⟨_, rfl, _, _, rfl, rfl, ⟨by decide, by decide, by decide⟩, _, _, rfl, rfl, _, _, rfl, _, rfl, .inl ⟨_, rfl, _, _, rfl, rfl, (by show (0 : Int) < 2147483563; decide), _, _, rfl, rfl, .inr ⟨by decide, by decide⟩, _, rfl, _, _, rfl, rfl, .inl ⟨by decide, by decide⟩, _, _, rfl, rfl, _, _, rfl, rfl,   .inl ⟨_, rfl, _, _, rfl, rfl, (by show (0 : Int) < 2147483629; decide), by show 2 ≤ sizeLine; decide, fun p hp => ?_⟩⟩⟩
        refine q p _ (same_new hp) hp ⟨_, _, upd_same, ?_, Int.emod_nonneg _ (by decide), Int.emod_lt_of_pos _ (by decide)⟩
        split <;> omega
    · refine ⟨false, congrArg V.bl (decide_eq_false e), iteF ?_⟩
      refine ⟨_, rfl, _, _, rfl, rfl, .inl ⟨by decide, by decide⟩, _, _, rfl, rfl, ?_⟩
      · refine ⟨_, rfl, _, _, rfl, rfl, ⟨by decide, by decide, by decide⟩, _, _, rfl, rfl, _, _, rfl, _, rfl, .inl ⟨_, rfl, _, _, rfl, rfl, (by show (0 : Int) < 2147483563; decide), _, _, rfl, rfl, .inr ⟨by decide, by decide⟩, _, rfl, _, _, rfl, rfl, .inl ⟨by decide, by decide⟩, _, _, rfl, rfl, _, _, rfl, rfl,   .inl ⟨_, rfl, _, _, rfl, rfl, (by show (0 : Int) < 2147483629; decide), by show 2 ≤ sizeLine; decide, fun p hp => ?_⟩⟩⟩
        refine q p _ (same_new hp) hp ⟨_, _, upd_same, ?_, Int.emod_nonneg _ (by decide), Int.emod_lt_of_pos _ (by decide)⟩
        split <;> omega

def spDraw : Sp := fun vs H Q _ => ∃ (p : Addr) (m : Int), vs = [.ref p, .int m] ∧ PotA H p ∧ 0 < m ∧ m ≤ 1000 ∧ ∀ r H', 0 ≤ r → r < m → Bt p H H' → PotA H' p → Q (.int r) H'
theorem scDraw : FnScope ["_law_pot_here", "_law_many", "_law_digit"] ["_law_pot_here", "_law_many"] (defScope sDraw) := ⟨rfl, rfl, rfl, by decide +kernel, rfl, by decide +kernel, by decide +kernel⟩
theorem ok_draw {f : Addr} {fd : FuncData} (F : Fun K "_law_draw" "_law_draw" sDraw f fd) (T : Txt mg) : FnOk P w K mg base CX0 1 f fd ["_law_pot_here", "_law_many"] spDraw := by
  refine F.ok scDraw (fun vs H Q E h => ?_) (fun cdv A outer s H vs Q E hr h => ?_)
  · obtain ⟨p, m, rfl, _⟩ := h
    rfl
  · obtain ⟨p, m, rfl, ⟨x, y, hp, hx, hy0, hy1⟩, h0, h1, q⟩ := h
    refine ⟨_, pss_cons (ps_if (pt_cmpR op_gt (pe_ix ix_list (pv 0) pe_int (fun _ _ => rfl)) pe_int (nomark _))
        (pss_cons (ps_asg (pe_callB call_divmod (by rfl) T.divmod (by decide +kernel) (pa_cons (pe_ix ix_list (pv 0) pe_int (fun _ _ => rfl)) (pa_cons (pv 1) pa_nil))) (pg_tup rfl (pgs_cons (pg_sub (pv 0) pe_int set_list) (pgs_cons (pg_name (i := 2) scDraw.nd rfl (Or.inl rfl)) pgs_nil))))
          (pss_one (ps_ret (pv 2)))) pss_nil)
      (pss_cons (ps_asg (pe_op op_mod (pe_callTy call_int1 (by rfl) T.int (by decide +kernel) (pa_cons (pe_op op_add (pe_op op_mul (pe_ix ix_list (pv 0) pe_int (fun _ _ => rfl)) pe_int) pe_int) pa_nil)) pe_int) (pg_sub (pv 0) pe_int set_list))
      (pss_one (ps_ret (pe_op op_mod (pe_callTy call_int1 (by rfl) T.int (by decide +kernel) (pa_cons (pe_op op_fdiv (pe_op op_mod (pe_callTy call_int1 (by rfl) T.int (by decide +kernel) (pa_cons (pe_op op_mul (pe_ix ix_list (pv 0) pe_int (fun _ _ => rfl)) (pe_ix ix_list (pv 0) pe_int (fun _ _ => rfl))) pa_nil)) pe_int) pe_int) pa_nil)) (pv 1))))), ?_⟩
    refine ⟨_, rfl, p, _, _, _, rfl, rfl, SqL.of hp, at_of (j := 0) rfl rfl, _, _, rfl, rfl, ?_⟩
    by_cases e : x > 0
    · refine ⟨true, congrArg V.bl (decide_eq_true e), iteT ?_⟩
      refine ⟨_, rfl, p, _, _, _, rfl, rfl, SqL.of hp, at_of (j := 0) rfl rfl, _, rfl, _, _, rfl, ⟨h0, by omega⟩, fun t ht => ?_⟩
      have s1 := same_new (o := .tup [.int (x / m), .int (x % m)]) ht
      refine ⟨t, _, rfl, SqT.of upd_same, rfl, _, _, rfl, ?_⟩
      refine ⟨_, rfl, p, _, _, 0, rfl, rfl, s1 _ _ hp, rfl, _, _, rfl, rfl, _, rfl, ?_⟩
      refine q _ _ (Int.emod_nonneg _ (by omega)) (Int.emod_lt_of_pos _ h0) ((Bt.of s1).trans Bt.upd) ⟨_, _, upd_same, Int.ediv_nonneg hx (by omega), hy0, hy1⟩
    · refine ⟨false, congrArg V.bl (decide_eq_false e), iteF ?_⟩
      refine ⟨_, rfl, p, _, _, _, rfl, rfl, SqL.of hp, at_of (j := 1) rfl rfl, _, _, rfl, rfl, .inr ⟨by decide, by decide⟩, _, _, rfl, rfl, .inl ⟨_, rfl, _, _, rfl, rfl, (by show (0 : Int) < 2147483629; decide), ?_⟩⟩
      refine ⟨_, rfl, p, _, _, 1, rfl, rfl, hp, rfl, ?_⟩
      have y0 : 0 ≤ (y * 48271 + 11) % 2147483629 := Int.emod_nonneg _ (by decide)
      have y1 : (y * 48271 + 11) % 2147483629 < 2147483629 := Int.emod_lt_of_pos _ (by decide)
      have hp2 : upd H p (.lst ([V.int x, V.int y].set 1 (.int ((y * 48271 + 11) % 2147483629)))) p = some (.lst [.int x, .int ((y * 48271 + 11) % 2147483629)]) := upd_same
      refine ⟨_, rfl, p, _, _, _, rfl, rfl, SqL.of hp2, at_of (j := 1) rfl rfl, _, rfl, p, _, _, _, rfl, rfl, SqL.of hp2, at_of (j := 1) rfl rfl, _, _, rfl, rfl, .inl ⟨by omega, by omega⟩, .inl ⟨_, rfl, _, _, rfl, rfl, (by show (0 : Int) < 2147483587; decide), _, _, rfl, rfl, ⟨by decide, by decide⟩, .inl ⟨_, rfl, _, rfl, _, _, rfl, rfl, h0, ?_⟩⟩⟩
      exact q _ _ (Int.emod_nonneg _ (by omega)) (Int.emod_lt_of_pos _ h0) Bt.upd ⟨_, _, hp2, hx, y0, y1⟩

def spPick (K : PySem.W.Frag) : Sp := fun vs H Q _ => ∃ (p a : Addr) (xs : List V), vs = [.ref p, .ref a] ∧ PotA H p ∧ SqL K H a xs ∧ a ≠ p ∧ xs ≠ [] ∧ xs.length ≤ 1000 ∧ ∀ x H', x ∈ xs → Bt p H H' → PotA H' p → Q x H'
theorem scPick : FnScope ["_law_pot_here", "_law_some"] ["_law_pot_here", "_law_some"] (defScope sPick) := ⟨rfl, rfl, rfl, by decide +kernel, rfl, by decide +kernel, by decide +kernel⟩
theorem ok_pick {f : Addr} {fd : FuncData} (F : Fun K "_law_pick" "_law_pick" sPick f fd) (T : Txt mg) (c1 : Cal P w K mg base 1 "_law_draw" spDraw) : FnOk P w K mg base CX0 2 f fd ["_law_pot_here", "_law_some"] (spPick K) := by
  refine F.ok scPick (fun vs H Q E h => ?_) (fun cdv A outer s H vs Q E hr h => ?_)
  · obtain ⟨p, a, xs, rfl, _⟩ := h
    rfl
  · obtain ⟨p, a, xs, rfl, hp, ha, ne, nn, ln, q⟩ := h
    have pos : 0 < xs.length := List.length_pos_iff.mpr nn
    refine ⟨_, pss_one (ps_ret (pe_ix ix_list (pv 1) (pc c1 hr (by rfl) (pa_cons (pv 0) (pa_cons (pe_callB call_len_seq (by rfl) T.len PySem.boot_len (pa_cons (pv 1) pa_nil)) pa_nil))) (fun _ _ => rfl))), ?_⟩
    refine ⟨_, rfl, _, rfl, _, rfl, a, _, rfl, .inl ha, p, _, rfl, hp, by omega, by omega, fun r H' r0 r1 bt hp' => ?_⟩
    obtain ⟨j, rfl⟩ : ∃ j : Nat, r = (j : Int) := ⟨r.toNat, by omega⟩
    have hj : j < xs.length := by omega
    have hv : xs[j]? = some xs[j] := List.getElem?_eq_getElem hj
    exact ⟨a, _, _, _, rfl, rfl, sqlBt bt ne ha, at_of rfl hv, q _ _ (List.getElem_mem hj) bt hp'⟩
end
end K60

namespace K60
open PySem PySem.Spec PyProof.Rows L2
abbrev sPlan : Stmt := top 36
abbrev sSecond : Stmt := top 37

abbrev Pl := List Str × Bool
def encPl (p : Pl) : PyData := .tuple [.tuple (p.1.map PyData.str), .bool p.2]
def GoodPl (ws : List Str) (p : Pl) : Prop := p.1.length ≤ 2 ∧ ∀ z ∈ p.1, z ∈ ws
theorem lf_strs : ∀ zs : List Str, lfAll (zs.map PyData.str) = true
  | [] => by simp [lfAll]
  | z :: zs => by
    show lfAll (PyData.str z :: zs.map PyData.str) = true
    rw [lfAll, lf_strs zs]
    simp [lf]
theorem lf_Pl (p : Pl) : lf (encPl p) = true := by
  simp [encPl, lf, lfAll, lf_strs]
theorem lf_Pls (l : List Pl) : lfAll (l.map encPl) = true := lfAll_map fun k _ => lf_Pl k
theorem dp_Pl {K : PySem.W.Frag} {H : Hp} {v : V} {p : Pl} (h : Dp K H v (encPl p)) : ∃ t a, v = .ref t ∧ SqT K H t [.ref a, .bl p.2] ∧ SqT K H a (p.1.map V.str) := by
  obtain ⟨t, xs, rfl, hs, d⟩ := dp_tup h
  obtain ⟨u, r, rfl, h1, h2⟩ := dpa_cons d
  obtain ⟨u2, r2, rfl, h3, h4⟩ := dpa_cons h2
  have e := dpa_nil h4
  subst e
  obtain ⟨a, ys, rfl, hs2, d2⟩ := dp_tup h1
  rw [dpa_strs d2] at hs2
  rw [dp_bl h3] at hs
  exact ⟨t, a, rfl, hs, hs2⟩
/-- p and what is new may change -/
theorem Bt.new {p D : Addr} {H H1 H2 : Hp} (a : Bt p H H1) (n : H D = Option.none) (b : Bt D H1 H2) : Bt p H H2 := fun c o hc h => b c o (ne_of_none h n) (a c o hc h)
theorem Bt.free {p D : Addr} {H H1 : Hp} (a : Bt p H H1) (n : H1 D = Option.none) (ne : D ≠ p) : H D = Option.none := by
  cases e : H D with
  | none => rfl
  | some o => rw [a _ _ ne e] at n; cases n

/-- a comprehension of picked words -/
theorem lcw {n : Nat} {g : TG} {tt : TT} {te : TE} {vs : List Nat} {σ : L2.St} {H1 : Hp} {p D : Addr} {Qd : Hp → Prop} (ws : List Str) (hD : H1 D = Option.none) (hp : PotA H1 p) (ln : n ≤ 1000)
    (step : ∀ (i : Nat) (H : Hp) (R : V → Hp → Prop) (R0 : Hp → Prop), Bt p H1 H → PotA H p → (∀ z H4, z ∈ ws → Bt p H H4 → PotA H4 p → R (.str z) H4) →
      g (.int (0 + (i : Int))) (wipe σ vs) H fun σ2 H2 => wipe σ2 vs = wipe σ vs ∧ tt σ2 H2 fun b H3 => if b = true then te σ2 H3 R else R0 H3)
    (hd : ∀ (H : Hp) (zs : List Str), Bt p H1 H → PotA H p → H D = some (.lst (zs.map V.str)) → zs.length ≤ n → (∀ z ∈ zs, z ∈ ws) → Qd H) :
    ∃ W : Nat → Nat → Hp → Prop, (∃ m, W 0 m (upd H1 D (.lst []))) ∧ ∀ i m H, W i m H →
      ((Itr 0 n).stop i H ∧ Qd H) ∨ ((Itr 0 n).go i H ∧ ∃ Nx : Hp → Prop, (∀ H', Nx H' → ∃ m', m' < m ∧ W (i + 1) m' H') ∧ ∀ x H', (Itr 0 n).yld i H x H' → g x (wipe σ vs) H' fun σ2 H2 => wipe σ2 vs = wipe σ vs ∧ tt σ2 H2 fun b H3 =>
        if b = true then te σ2 H3 fun y H4 => ∃ acc, H4 D = some (.lst acc) ∧ acc.length < sizeLine ∧ Nx (upd H4 D (.lst (acc ++ [y]))) else Nx H3) := by
  have ne : p ≠ D := hp.ne hD
  refine lc_it walk_range (fun i H => Bt p H1 H ∧ PotA H p ∧ ∃ zs : List Str, H D = some (.lst (zs.map V.str)) ∧ zs.length ≤ i ∧ ∀ z ∈ zs, z ∈ ws)
    ⟨Bt.of (same_new hD), hp.same (same_new hD), [], upd_same, Nat.le_refl _, fun z hz => by simp at hz⟩ (fun i H _ _ => trivial) ?_ ?_
  · rintro i x H H' hi ⟨b, pa, zs, hz, lz, wz⟩ ⟨rfl, rfl⟩
    refine step i H' _ _ b pa fun z H4 hz4 b4 p4 => ?_
    have hz4' := b4 _ _ (Ne.symm ne) hz
    refine ⟨_, hz4', small1000 (by rw [List.length_map]; omega), (b.trans b4).new hD Bt.upd, ?_, zs ++ [z], ?_, by rw [List.length_append, List.length_singleton]; omega, fun y hy => ?_⟩
    · obtain ⟨a, c, h1, h2⟩ := p4
      exact ⟨a, c, by rw [upd_ne ne]; exact h1, h2⟩
    · rw [upd_same, List.map_append]
      rfl
    · rcases List.mem_append.mp hy with m | m
      · exact wz y m
      · rw [List.mem_singleton.mp m]
        exact hz4
  · rintro H ⟨b, pa, zs, hz, lz, wz⟩
    exact hd H zs b pa hz lz wz

section
variable {P : Program} {w : World} {K : PySem.W.Frag} {mg : Str → Option Value} {base : Heap}
def spPlan (K : PySem.W.Frag) : Sp := fun vs H Q _ => ∃ (p a : Addr) (n : Nat) (ws : List Str), vs = [.ref p, .int (n : Int), .ref a] ∧ PotA H p ∧ n ≤ 100 ∧ SqL K H a (ws.map V.str) ∧ a ≠ p ∧ ws ≠ [] ∧ ws.length ≤ 100 ∧
  ∀ (f : Addr) (xs : List V) (H' : Hp) (plan : List Pl), Bt p H H' → PotA H' p → H f = Option.none → H' f = some (.lst xs) → DpAll K H' xs (plan.map encPl) → plan.length = n + 1 → (∀ pl ∈ plan, GoodPl ws pl) → Q (.ref f) H'
theorem scPlan : FnScope ["_law_pot_here", "_law_many", "_law_words", "_law_found", "_law_gap", "_law_fresh", "_law_turn"] ["_law_pot_here", "_law_many", "_law_words"] (defScope sPlan) := ⟨rfl, rfl, rfl, by decide +kernel, rfl, by decide +kernel, by decide +kernel⟩
theorem ok_plan {f : Addr} {fd : FuncData} (F : Fun K "_law_plan" "_law_plan" sPlan f fd) (T : Txt mg) (c1 : Cal P w K mg base 1 "_law_draw" spDraw) (c2 : Cal P w K mg base 2 "_law_pick" (spPick K)) : FnOk P w K mg base CX0 3 f fd ["_law_pot_here", "_law_many", "_law_words"] (spPlan K) := by
  refine F.ok scPlan (fun vs H Q E h => ?_) (fun cdv A outer s H vs Q E hr h => ?_)
  · obtain ⟨p, a, n, ws, rfl, _⟩ := h
    rfl
  · obtain ⟨p, a, n, ws, rfl, hp, ln, ha, nap, nn, lw, q⟩ := h
    have small : n < 1000 := by omega
    refine ⟨_, pss_cons (ps_set (i := 3) scPlan.nd rfl (Or.inl rfl) (pe_lst pa_nil))
      (pss_cons (ps_for PassesOwn.never rfl (pi_range1 (by rfl) T.range (pa_cons (pe_op op_add (pv 1) pe_int) pa_nil)) (pg_name (i := 4) scPlan.nd rfl (Or.inl rfl))
        (pss_cons (ps_setLc (i := 5) (own := [("_law_turn", 6)]) (g := gName 6) (tt := tYes) rfl scPlan.nd rfl rfl (by rfl) (pi_range1 (by rfl) T.range (pa_cons (pe_ix ix_list (pe_lst (pa_cons pe_int (pa_cons pe_int (pa_cons pe_int (pa_cons pe_int (pa_cons pe_int (pa_cons pe_int pa_nil))))))) (pc c1 (hr.mono (by decide)) (by rfl) (pa_cons (pv 0) (pa_cons pe_int pa_nil))) (fun _ _ => rfl)) pa_nil))
            (blkOk_by (N := ["_law_pot_here", "_law_many", "_law_words", "_law_found", "_law_gap", "_law_fresh", "_law_turn"]) (sc := defScope sPlan) (by decide +kernel)) (fun _ _ _ _ _ => pg_name (i := 6) scPlan.nd rfl (Or.inl rfl)) (fun _ _ _ _ _ => pts_nil)
            (fun _ _ _ _ _ => pc c2 hr (by rfl) (pa_cons (pv 0) (pa_cons (pv 2) pa_nil))))
        (pss_one (ps_expr (pe_bm PySem.F.plainAttrs_list PySem.F.slot_list_append PySem.F.type_list_append mt_append (pv 3) (pa_cons (pe_tup (pa_cons (pe_callTy call_tuple_of (by rfl) T.tuple (by decide +kernel) (pa_cons (pv 5) pa_nil)) (pa_cons (pe_cmpR op_gt (pc c1 (hr.mono (by decide)) (by rfl) (pa_cons (pv 0) (pa_cons pe_int pa_nil))) pe_int (nomark _)) pa_nil))) pa_nil))))))
      (pss_one (ps_ret (pv 3)))), ?_⟩
    refine ⟨Nat.zero_le _, fun fl hfl => ?_⟩
    have npf : p ≠ fl := hp.ne hfl
    have s1 : Same H (upd H fl (.lst [])) := same_new hfl
    refine ⟨_, rfl, _, _, rfl, rfl, _, rfl, by omega, by omega, ?_⟩
    refine for_range (fun i σ H' => ∃ xs plan v4 v5, σ = [some (.ref p), some (.int (n : Int)), some (.ref a), some (.ref fl), v4, v5, none] ∧ Bt p H H' ∧ PotA H' p ∧ H' fl = some (.lst xs) ∧ DpAll K H' xs (plan.map encPl) ∧ plan.length = i ∧ ∀ pl ∈ plan, GoodPl ws pl)
      ⟨[], [], _, _, rfl, Bt.of s1, hp.same s1, upd_same, .nil, rfl, fun pl h => by simp at h⟩ ?_ ?_
    · rintro i σ H' hi ⟨xs, plan, v4, v5, rfl, b1, p1, hx, dx, lp, gp⟩
      have lx : xs.length = i := by rw [dpa_mapLen dx, lp]
      have hi2 : i < 1000 := by omega
      refine ⟨by show 6 ≤ sizeLine; decide, fun q0 hq0 => ?_⟩
      have s2 : Same H' (upd H' q0 (.lst [.int 0, .int 0, .int 0, .int 1, .int 1, .int 2])) := same_new hq0
      refine ⟨_, rfl, p, _, rfl, p1.same s2, by decide, by decide, fun r H2 r0 r6 b2 p2 => ?_⟩
      have hq2 := b2 _ _ (p1.ne hq0).symm upd_same
      obtain ⟨c, hc, hat⟩ : ∃ c : Nat, c ≤ 2 ∧ atI [V.int 0, V.int 0, V.int 0, V.int 1, V.int 1, V.int 2] r = some (.int (c : Int)) := by
        have : r = 0 ∨ r = 1 ∨ r = 2 ∨ r = 3 ∨ r = 4 ∨ r = 5 := by omega
        rcases this with rfl | rfl | rfl | rfl | rfl | rfl
        · exact ⟨0, by decide, rfl⟩
        · exact ⟨0, by decide, rfl⟩
        · exact ⟨0, by decide, rfl⟩
        · exact ⟨1, by decide, rfl⟩
        · exact ⟨1, by decide, rfl⟩
        · exact ⟨2, by decide, rfl⟩
      have bA : Bt p H' H2 := (Bt.of s2).trans b2
      refine ⟨q0, _, _, _, rfl, rfl, SqL.of hq2, hat, _, rfl, by omega, by omega, fun D hD => ?_⟩
      refine lcw (n := (c : Int).toNat) (te := fun σ H Q => tCons (tVar 0) (tCons (tVar 2) tNil) σ H fun vs H1 => spPick K vs H1 Q E0) ws hD p2 (by omega) (fun i2 H3 R R0 b3 p3 k => ?_) (fun H5 zs b5 p5 hz lz wz => ?_)
      · refine ⟨rfl, yes ⟨_, rfl, _, rfl, p, a, _, rfl, p3, sqlBt (b1.trans (bA.trans b3)) nap ha, nap, by simpa using nn, by rw [List.length_map]; omega, fun x H4 hx4 b4 p4 => ?_⟩⟩
        obtain ⟨z, hz, rfl⟩ := List.mem_map.mp hx4
        exact k z H4 hz b4 p4
      · have bB := bA.trans b5
        have hx5 := bB _ _ npf.symm hx
        refine ⟨_, rfl, .inl ⟨rfl, _, SqL.of hx5⟩, ?_⟩
        refine ⟨_, rfl, D, _, rfl, .inl ⟨SqL.of hz, fun tm htm => ?_⟩⟩
        have s6 := same_new (o := .tup (zs.map V.str)) htm
        have dT := new_tup (K := K) htm (of_strs (l := zs))
        refine ⟨_, rfl, p, _, rfl, p5.same s6, by decide, by decide, fun r2 H7 _ _ b7 p7 => ?_⟩
        have dT7 := lfm ((p5.same s6).t b7) (by rw [lf, lf_strs]) dT
        refine ⟨_, _, rfl, rfl, by show 2 ≤ sizeLine; decide, fun tk htk => ?_⟩
        have s8 := same_new (o := .tup [.ref tm, .bl (decide (r2 > 0))]) htk
        have dP : Dp K _ (.ref tk) (encPl (zs, decide (r2 > 0))) := new_tup (K := K) (xs := [.ref tm, .bl (decide (r2 > 0))]) htk (.cons dT7 (.cons (.bl _) .nil))
        have bC : Bt p H' _ := bB.trans ((Bt.of s6).trans (b7.trans (Bt.of s8)))
        have hx8 := bC _ _ npf.symm hx
        have tD := TSame.updL (zs := xs ++ [V.ref tk]) hx8
        refine ⟨fl, _, _, rfl, rfl, hx8, small1000 (by omega), ?_⟩
        refine ⟨xs ++ [.ref tk], plan ++ [(zs, decide (r2 > 0))], _, _, rfl, (b1.trans bC).new hfl Bt.upd, ?_, upd_same, ?_, by rw [List.length_append, List.length_singleton, lp], fun pl hpl => ?_⟩
        · obtain ⟨u1, u2, h1, h2⟩ := p7.same s8
          exact ⟨u1, u2, by rw [upd_ne npf]; exact h1, h2⟩
        · rw [List.map_append]
          exact dpa_app (lfma ((p1.t bC).trans tD) (lf_Pls plan) dx) (.cons (lfm tD (lf_Pl _) dP) .nil)
        · rcases List.mem_append.mp hpl with m | m
          · exact gp pl m
          · rw [List.mem_singleton.mp m]
            exact ⟨by show zs.length ≤ 2; omega, wz⟩
    · rintro σ H' ⟨xs, plan, v4, v5, rfl, b1, p1, hx, dx, lp, gp⟩
      exact ⟨_, rfl, q fl xs H' plan b1 p1 hfl hx dx (by rw [lp]; omega) gp⟩
end
end K60

namespace K60
open PySem PySem.Spec PyProof.Rows L2
abbrev sEdited : Stmt := top 38

theorem PotA.upd {H : Hp} {p D : Addr} {o : HO} (h : PotA H p) (ne : p ≠ D) : PotA (upd H D o) p := let ⟨a, c, h1, h2⟩ := h; ⟨a, c, by rw [upd_ne ne]; exact h1, h2⟩
/-- a comprehension whose items are data without lists; whatever it calls keeps all but the pot -/
theorem lcp {K : PySem.W.Frag} {J : L2.It} {n : Nat} {G : Hp → Prop} {Y : Nat → Hp → V → Hp → Prop} (w : Walk J n G Y) (nz : n < sizeLine) {g : TG} {tt : TT} {te : TE} {vs : List Nat} {σ : L2.St} {H1 : Hp} {p D : Addr} {Qd : Hp → Prop} (hD : H1 D = Option.none) (hp : PotA H1 p)
    (hG : ∀ H, Bt p H1 H → G H) (P : Nat → List PyData → Prop) (p0 : P 0 [])
    (step : ∀ (i : Nat) (x : V) (ds : List PyData) (H H' : Hp) (R1 : V → Hp → Prop) (R0 : Hp → Prop), i < n → Bt p H1 H → PotA H p → P i ds → Y i H x H' →
      (∀ (y : V) (H4 : Hp) (d : PyData), Bt p H H4 → PotA H4 p → lf d = true → Dp K H4 y d → P (i + 1) (ds ++ [d]) → R1 y H4) →
      g x (wipe σ vs) H' fun σ2 H2 => wipe σ2 vs = wipe σ vs ∧ tt σ2 H2 fun b H3 => if b = true then te σ2 H3 R1 else R0 H3)
    (hd : ∀ (H : Hp) (ys : List V) (ds : List PyData), Bt p H1 H → PotA H p → H D = some (.lst ys) → DpAll K H ys ds → P n ds → ds.length ≤ n → lfAll ds = true → Qd H) :
    ∃ W : Nat → Nat → Hp → Prop, (∃ m, W 0 m (upd H1 D (.lst []))) ∧ ∀ i m H, W i m H →
      (J.stop i H ∧ Qd H) ∨ (J.go i H ∧ ∃ Nx : Hp → Prop, (∀ H', Nx H' → ∃ m', m' < m ∧ W (i + 1) m' H') ∧ ∀ x H', J.yld i H x H' → g x (wipe σ vs) H' fun σ2 H2 => wipe σ2 vs = wipe σ vs ∧ tt σ2 H2 fun b H3 =>
        if b = true then te σ2 H3 fun y H4 => ∃ acc, H4 D = some (.lst acc) ∧ acc.length < sizeLine ∧ Nx (upd H4 D (.lst (acc ++ [y]))) else Nx H3) := by
  have ne : p ≠ D := hp.ne hD
  refine lc_it w (fun i H => Bt p H1 H ∧ PotA H p ∧ ∃ ys ds, H D = some (.lst ys) ∧ DpAll K H ys ds ∧ P i ds ∧ ds.length ≤ i ∧ lfAll ds = true) ⟨Bt.of (same_new hD), hp.same (same_new hD), [], [], upd_same, .nil, p0, Nat.le_refl _, by simp [lfAll]⟩ (fun i H _ q => hG H q.1) ?_ ?_
  · rintro i x H H' hi ⟨b, pa, ys, ds, hy, hds, q, ln, l⟩ yi
    refine step i x ds H H' _ _ hi b pa q yi (fun y H4 d b4 p4 ld hd' q4 => ?_)
    have hy4 := b4 _ _ ne.symm hy
    have l4 := dpa_len hds
    have tD := TSame.updL (zs := ys ++ [y]) hy4
    refine ⟨ys, hy4, by omega, (b.trans b4).new hD Bt.upd, p4.upd ne, ys ++ [y], ds ++ [d], upd_same, ?_, q4, by rw [List.length_append, List.length_singleton]; omega, lfAll_app l (by simp [lfAll, ld])⟩
    exact dpa_app (lfma ((pa.t b4).trans tD) l hds) (.cons (lfm tD ld hd') .nil)
  · rintro H ⟨b, pa, ys, ds, hy, hds, q, ln, l⟩
    exact hd H ys ds b pa hy hds q ln l

section
variable {P : Program} {w : World} {K : PySem.W.Frag} {mg : Str → Option Value} {base : Heap}
def spSecond (K : PySem.W.Frag) : Sp := fun vs H Q _ => ∃ (p b a : Addr) (xs : List V) (plan : List Pl) (n : Nat) (ws : List Str), vs = [.ref p, .ref b, .ref a] ∧ PotA H p ∧ n ≤ 100 ∧ SqL K H b xs ∧ b ≠ p ∧ DpAll K H xs (plan.map encPl) ∧ plan.length = n + 1 ∧ (∀ pl ∈ plan, GoodPl ws pl) ∧
  SqL K H a (ws.map V.str) ∧ a ≠ p ∧ ws ≠ [] ∧ ws.length ≤ 100 ∧
  ∀ (f : Addr) (ys : List V) (H' : Hp) (plan2 : List Pl), Bt p H H' → PotA H' p → H f = Option.none → H' f = some (.lst ys) → DpAll K H' ys (plan2.map encPl) → plan2.length = n + 1 → (∀ pl ∈ plan2, GoodPl ws pl) → Q (.ref f) H'
theorem scSecond : FnScope ["_law_pot_here", "_law_plan_here", "_law_words", "_law_fresh", "_law_gap"] ["_law_pot_here", "_law_plan_here", "_law_words"] (defScope sSecond) := ⟨rfl, rfl, rfl, by decide +kernel, rfl, by decide +kernel, by decide +kernel⟩
theorem ok_second {f : Addr} {fd : FuncData} (F : Fun K "_law_second" "_law_second" sSecond f fd) (T : Txt mg) (c3 : Cal P w K mg base 3 "_law_plan" (spPlan K)) (c2 : Cal P w K mg base 2 "_law_pick" (spPick K)) : FnOk P w K mg base CX0 4 f fd ["_law_pot_here", "_law_plan_here", "_law_words"] (spSecond K) := by
  refine F.ok scSecond (fun vs H Q E h => ?_) (fun cdv A outer s H vs Q E hr h => ?_)
  · obtain ⟨p, b, a, xs, plan, n, ws, rfl, _⟩ := h
    rfl
  · obtain ⟨p, b, a, xs, plan, n, ws, rfl, hp, ln, hb, nbp, dx, lp, gp, ha, nap, nn, lw, q⟩ := h
    have lx : xs.length = n + 1 := by rw [dpa_mapLen dx, lp]
    refine ⟨_, pss_cons (ps_set (i := 3) scSecond.nd rfl (Or.inr rfl) (pc c3 hr (by rfl) (pa_cons (pv 0) (pa_cons (pe_op op_sub (pe_callB call_len_seq (by rfl) T.len PySem.boot_len (pa_cons (pv 1) pa_nil)) pe_int) (pa_cons (pv 2) pa_nil)))))
      (pss_one (ps_ret (pe_lc (own := [("_law_gap", 4)]) (g := gName 4) (tt := tYes) rfl scSecond.nd (pi_range1 (by rfl) T.range (pa_cons (pe_callB call_len_seq (by rfl) T.len PySem.boot_len (pa_cons (pv 1) pa_nil)) pa_nil))
          (blkOk_by (N := ["_law_pot_here", "_law_plan_here", "_law_words", "_law_fresh", "_law_gap"]) (sc := defScope sSecond) (by decide +kernel)) (fun _ _ _ _ _ => pg_name (i := 4) scSecond.nd rfl (Or.inl rfl)) (fun _ _ _ _ _ => pts_nil)
          (fun _ _ _ _ _ => pc c2 (hr.mono (by decide)) (by rfl) (pa_cons (pv 0) (pa_cons (pe_lst (pa_cons (pe_ix (kx_list K) (pv 1) (pv 4) (fun _ _ => rfl)) (pa_cons (pe_tup (pa_cons (pe_tup pa_nil) (pa_cons pe_bl pa_nil))) (pa_cons (pe_ix (kx_list K) (pv 3) (pv 4) (fun _ _ => rfl)) pa_nil)))) pa_nil)))))), ?_⟩
    refine ⟨_, rfl, _, rfl, b, _, rfl, .inl hb, _, _, rfl, rfl, _, rfl, p, a, n, ws, by show [V.ref p, V.int (((xs.length : Nat) : Int) - 1), V.ref a] = _; rw [show ((xs.length : Nat) : Int) - 1 = (n : Int) by omega], hp, ln, ha, nap, nn, lw, fun fl ys1 H1 plan1 b1 p1 hfl hy1 dy1 lp1 gp1 => ?_⟩
    have npf : p ≠ fl := hp.ne hfl
    have lx1 : ys1.length = n + 1 := by rw [dpa_mapLen dy1, lp1]
    have hb1 := sqlBt b1 nbp hb
    have dx1 := lfma (hp.t b1) (lf_Pls plan) dx
    refine ⟨_, rfl, b, _, rfl, .inl hb1, _, rfl, by omega, by omega, fun D hD => ?_⟩
    refine lcp (K := K) (n := ((xs.length : Nat) : Int).toNat) (te := fun σ H Q => tCons (tVar 0) (tCons (tLst (tCons (tOp (rIxL K) (tVar 1) (tVar 4)) (tCons (tTup (tCons (tTup tNil) (tCons (tC (.bl true)) tNil))) (tCons (tOp (rIxL K) (tVar 3) (tVar 4)) tNil)))) tNil) σ H fun vs H1 => spPick K vs H1 Q E0)
      walk_range (small1000 (by omega)) hD p1 (fun _ _ => trivial) (fun i ds => ∃ plan2 : List Pl, ds = plan2.map encPl ∧ plan2.length = i ∧ ∀ pl ∈ plan2, GoodPl ws pl) ⟨[], rfl, rfl, fun pl h => by simp at h⟩
      (fun i x ds H2 H2' R1 R0 hi b2 p2 e y r1 => ?_) (fun H2 ys ds b2 p2 hy dds e _ _ => ?_)
    · obtain ⟨rfl, rfl⟩ := y
      obtain ⟨plan2, rfl, lp2, gp2⟩ := e
      have hi1 : i < n + 1 := by omega
      have hv : xs[i]? = some xs[i] := List.getElem?_eq_getElem (by omega)
      have hv1 : ys1[i]? = some ys1[i] := List.getElem?_eq_getElem (by omega)
      obtain ⟨pl, hpl, dpl⟩ := dpa_map (lfma (p1.t b2) (lf_Pls plan) dx1) hv
      obtain ⟨pl1, hpl1, dpl1⟩ := dpa_map (lfma (p1.t b2) (lf_Pls plan1) dy1) hv1
      refine ⟨rfl, yes ?_⟩
      refine ⟨_, rfl, _, rfl, _, rfl, b, _, _, _, rfl, rfl, sqlBt b2 nbp hb1, at_of (j := i) (by omega) hv, by show 0 ≤ sizeLine; decide, fun t1 ht1 => ⟨by show 2 ≤ sizeLine; decide, fun t2 ht2 => ?_⟩⟩
      have s3 := same_new (o := .tup []) ht1
      have s4 := same_new (o := .tup [.ref t1, .bl true]) ht2
      have dE : Dp K _ (.ref t2) (encPl ([], true)) := new_tup (K := K) (xs := [.ref t1, .bl true]) ht2 (.cons (new_tup ht1 .nil) (.cons (.bl _) .nil))
      have s34 := s3.trans s4
      refine ⟨_, rfl, _, rfl, fl, _, _, _, rfl, rfl, SqL.of (s34 _ _ (b2 _ _ npf.symm hy1)), at_of (j := i) (by omega) hv1, by show 3 ≤ sizeLine; decide, fun q3 hq3 => ?_⟩
      have s5 := same_new (o := .lst [xs[i], .ref t2, ys1[i]]) hq3
      have s35 := s34.trans s5
      have pq : p ≠ q3 := (p2.same s34).ne hq3
      refine ⟨p, q3, _, rfl, p2.same s35, SqL.of upd_same, pq.symm, by simp, by show 3 ≤ 1000; decide, fun x H6 hx b6 p6 => ?_⟩
      have tS := (Same.t s35).trans ((p2.same s35).t b6)
      have ⟨pl6, g6, d6⟩ : ∃ pl6, GoodPl ws pl6 ∧ Dp K H6 x (encPl pl6) := by
        simp only [List.mem_cons, List.not_mem_nil, or_false] at hx
        rcases hx with rfl | rfl | rfl
        · exact ⟨pl, gp pl (List.mem_of_getElem? hpl), lfm tS (lf_Pl pl) dpl⟩
        · exact ⟨([], true), ⟨by decide, fun z h => by simp at h⟩, lfm ((Same.t s5).trans ((p2.same s35).t b6)) (lf_Pl _) dE⟩
        · exact ⟨pl1, gp1 pl1 (List.mem_of_getElem? hpl1), lfm tS (lf_Pl pl1) dpl1⟩
      refine r1 x H6 (encPl pl6) ((Bt.of s35).trans b6) p6 (lf_Pl pl6) d6 ⟨plan2 ++ [pl6], by rw [List.map_append]; rfl, by rw [List.length_append, List.length_singleton, lp2], fun z hz => ?_⟩
      rcases List.mem_append.mp hz with m | m
      · exact gp2 z m
      · rw [List.mem_singleton.mp m]
        exact g6
    · obtain ⟨plan2, rfl, lp2, gp2⟩ := e
      exact q D ys H2 plan2 (b1.trans b2) p2 (b1.free hD (p1.ne hD).symm) hy dds (by rw [lp2]; omega) gp2
end
end K60

namespace K60
open PySem PySem.Spec PyProof.Rows L2
theorem edit_pairs_len {α : Type} {root : List α} {plan : List (List α × Bool)} : ∀ g, (edit root plan g).2.length ≤ g
  | 0 => Nat.le_refl _
  | g + 1 => by
    have h := edit_pairs_len (root := root) (plan := plan) g
    show (eStep root (edit root plan g) g (plan.getD g ([], false))).2.length ≤ g + 1
    unfold eStep
    split
    · rw [List.length_append, List.length_singleton]
      omega
    · exact Nat.le_succ_of_le h
theorem edit_len {α : Type} {root : List α} {plan : List (List α × Bool)} (hp : ∀ pl ∈ plan, pl.1.length ≤ 2) (g : Nat) : (edit root plan g).1.length ≤ 3 * g :=
  (edited (W := fun _ => True) (fun _ _ => trivial) (fun pl h => ⟨hp pl h, fun _ _ => trivial⟩) g).len
theorem lf_Ps (l : List (Int × Int)) : lfAll (l.map encP) = true := lfAll_map fun p _ => by simp [encP, lf, lfAll]

section
variable {P : Program} {w : World} {K : PySem.W.Frag} {mg : Str → Option Value} {base : Heap}
def spEdited (K : PySem.W.Frag) : Sp := fun vs H Q _ => ∃ (r b : Addr) (xs : List V) (root : List Str) (plan : List Pl), vs = [.ref r, .ref b] ∧ SqL K H r (root.map V.str) ∧ SqL K H b xs ∧ DpAll K H xs (plan.map encPl) ∧ plan.length ≤ 60 ∧ (∀ pl ∈ plan, pl.1.length ≤ 2) ∧
  ∀ (t m : Addr) (q : V) (H' : Hp), Same H H' → SqT K H' t [.ref m, q] → H m = Option.none → H' m = some (.lst ((edit root plan plan.length).1.map V.str)) → Dp K H' q (encPs (edit root plan plan.length).2) → Q (.ref t) H'
theorem scEdited : FnScope ["_law_root", "_law_plan_here", "_law_made", "_law_pairs", "_law_gap"] ["_law_root", "_law_plan_here"] (defScope sEdited) := ⟨rfl, rfl, rfl, by decide +kernel, rfl, by decide +kernel, by decide +kernel⟩
theorem ok_edited {f : Addr} {fd : FuncData} (F : Fun K "_law_edited" "_law_edited" sEdited f fd) (T : Txt mg) : FnOk P w K mg base CX0 1 f fd ["_law_root", "_law_plan_here"] (spEdited K) := by
  refine F.ok scEdited (fun vs H Q E h => ?_) (fun cdv A outer s H vs Q E hr h => ?_)
  · obtain ⟨r, b, xs, root, plan, rfl, _⟩ := h
    rfl
  · obtain ⟨r, b, xs, root, plan, rfl, hro, hb, dx, lp, gp, q⟩ := h
    have lx : xs.length = plan.length := dpa_mapLen dx
    refine ⟨_, pss_cons (ps_par rfl scEdited.nd (i := 2) (j := 3) rfl rfl (by decide) rfl rfl (pa_cons (pe_lst pa_nil) (pa_cons (pe_lst pa_nil) pa_nil)) (by rfl))
      (pss_cons (ps_for PassesOwn.never rfl (pi_range1 (by rfl) T.range (pa_cons (pe_callB call_len_seq (by rfl) T.len PySem.boot_len (pa_cons (pv 1) pa_nil)) pa_nil)) (pg_name (i := 4) scEdited.nd rfl (Or.inl rfl))
        (pss_cons (ps_expr (pe_bm PySem.F.plainAttrs_list PySem.F.slot_list_extend PySem.F.type_list_extend mt_extT (pv 2) (pa_cons (pe_ix ix_tup (pe_ix ix_list (pv 1) (pv 4) (fun _ _ => rfl)) pe_int (fun _ _ => rfl)) pa_nil)))
        (pss_one (ps_if (PW.pt (pw_and (pt_cmpR op_lt (pv 4) (pe_callB call_len_seq (by rfl) T.len PySem.boot_len (pa_cons (pv 0) pa_nil)) (nomark _)) (pw_and1 (pt_val (pe_ix ix_tup (pe_ix ix_list (pv 1) (pv 4) (fun _ _ => rfl)) pe_int (fun _ _ => rfl))))))
          (pss_cons (ps_expr (pe_bm PySem.F.plainAttrs_list PySem.F.slot_list_append PySem.F.type_list_append mt_append (pv 2) (pa_cons (pe_ix ix_list (pv 0) (pv 4) (fun _ _ => rfl)) pa_nil)))
          (pss_one (ps_expr (pe_bm PySem.F.plainAttrs_list PySem.F.slot_list_append PySem.F.type_list_append mt_append (pv 3) (pa_cons (pe_tup (pa_cons (pe_op op_add (pv 4) pe_int) (pa_cons (pe_callB call_len_seq (by rfl) T.len PySem.boot_len (pa_cons (pv 2) pa_nil)) pa_nil))) pa_nil))))) pss_nil))))
      (pss_one (ps_ret (pe_tup (pa_cons (pv 2) (pa_cons (pe_callTy call_tuple_of (by rfl) T.tuple (by decide +kernel) (pa_cons (pv 3) pa_nil)) pa_nil)))))), ?_⟩
    refine ⟨Nat.zero_le _, fun m hm0 => ⟨Nat.zero_le _, fun pr hpr0 => ?_⟩⟩
    have s1 : Same H (upd H m (.lst [])) := same_new hm0
    have s2 := same_new (o := .lst []) hpr0
    have nmp : m ≠ pr := ne_of_none upd_same hpr0
    have hprH : H pr = Option.none := s1.free hpr0
    refine ⟨_, _, rfl, ?_⟩
    refine ⟨_, rfl, b, _, rfl, .inl ((s1.trans s2).seq hb), _, rfl, by omega, by omega, ?_⟩
    refine for_range (n := ((xs.length : Nat) : Int).toNat) (fun i σ H' => ∃ ys v4, σ = [some (.ref r), some (.ref b), some (.ref m), some (.ref pr), v4] ∧ Same H H' ∧ H' m = some (.lst ((edit root plan i).1.map V.str)) ∧ H' pr = some (.lst ys) ∧ DpAll K H' ys ((edit root plan i).2.map encP))
      ⟨[], _, rfl, s1.trans s2, s2 _ _ upd_same, upd_same, .nil⟩ ?_ ?_
    · rintro i σ H' hi ⟨ys, v4, rfl, sm, hm, hpr, dy⟩
      have hi1 : i < plan.length := by omega
      have hv : xs[i]? = some xs[i] := List.getElem?_eq_getElem (by omega)
      obtain ⟨pl, hpl, dpl⟩ := dpa_map (dma sm dx) hv
      obtain ⟨tp, ta, ex, htp, hta⟩ := dp_Pl dpl
      have gpl := gp pl (List.mem_of_getElem? hpl)
      have el := edit_len (root := root) gp i
      have epl := edit_pairs_len (root := root) (plan := plan) i
      have hst : edit root plan (i + 1) = eStep root (edit root plan i) i pl := by
        show eStep root (edit root plan i) i (plan.getD i ([], false)) = _
        rw [List.getD_eq_getElem?_getD, hpl]
        rfl
      rw [hst]
      generalize edit root plan i = st at hm dy el epl ⊢
      have ly : ys.length = st.2.length := dpa_mapLen dy
      rw [ex] at hv
      refine ⟨_, rfl, .inl ⟨rfl, _, SqL.of hm⟩, _, rfl, _, rfl, b, _, _, _, rfl, rfl, sm.seq hb, at_of (j := i) (by omega) hv, tp, _, _, _, rfl, rfl, htp, at_of (j := 0) rfl rfl, m, ta, _, _, rfl, rfl, hm, hta, Nat.le_of_lt (small1000 (by rw [List.length_map, List.length_map]; omega)), ?_⟩
      rw [← List.map_append]
      have tD := TSame.updL (zs := (st.1 ++ pl.1).map V.str) hm
      have s3 : Same H (upd H' m (.lst ((st.1 ++ pl.1).map V.str))) := Bt.same sm hm0 Bt.upd
      have hm3 : upd H' m (.lst ((st.1 ++ pl.1).map V.str)) m = some (.lst ((st.1 ++ pl.1).map V.str)) := upd_same
      have hpr3 : upd H' m (.lst ((st.1 ++ pl.1).map V.str)) pr = some (.lst ys) := by rw [upd_ne nmp.symm]; exact hpr
      have dy3 := lfma tD (lf_Ps st.2) dy
      have htp3 := tD.seqT htp
      generalize upd H' m (.lst ((st.1 ++ pl.1).map V.str)) = H3 at s3 hm3 hpr3 dy3 htp3 ⊢
      refine ⟨_, rfl, _, rfl, r, _, rfl, .inl (s3.seq hro), _, _, rfl, rfl, ?_⟩
      by_cases e : i < root.length
      · refine ⟨true, congrArg V.bl (decide_eq_true (by rw [List.length_map]; omega)), iteT ?_⟩
        refine ⟨_, rfl, _, rfl, b, _, _, _, rfl, rfl, s3.seq hb, at_of (j := i) (by omega) hv, tp, _, _, _, rfl, rfl, htp3, at_of (j := 1) rfl rfl, pl.2, rfl, ?_⟩
        have hr1 : root[i]? = some root[i] := List.getElem?_eq_getElem e
        have hr2 : (root.map V.str)[i]? = some (.str root[i]) := by rw [List.getElem?_map, hr1]; rfl
        cases ef : pl.2 with
        | true =>
          refine iteT ?_
          rw [edit_keep hr1 ef]
          refine ⟨_, rfl, .inl ⟨rfl, _, SqL.of hm3⟩, _, rfl, _, rfl, r, _, _, _, rfl, rfl, s3.seq hro, at_of (j := i) (by omega) hr2, m, _, _, rfl, rfl, hm3, small1000 (by rw [List.length_map, List.length_append]; omega), ?_⟩
          rw [show (st.1 ++ pl.1).map V.str ++ [V.str root[i]] = (st.1 ++ pl.1 ++ [root[i]]).map V.str by rw [List.map_append (l₂ := [root[i]])]; rfl]
          have tD4 := TSame.updL (zs := (st.1 ++ pl.1 ++ [root[i]]).map V.str) hm3
          have s4 : Same H (upd H3 m (.lst ((st.1 ++ pl.1 ++ [root[i]]).map V.str))) := Bt.same s3 hm0 Bt.upd
          have hm4 : upd H3 m (.lst ((st.1 ++ pl.1 ++ [root[i]]).map V.str)) m = some (.lst ((st.1 ++ pl.1 ++ [root[i]]).map V.str)) := upd_same
          have hpr4 : upd H3 m (.lst ((st.1 ++ pl.1 ++ [root[i]]).map V.str)) pr = some (.lst ys) := by rw [upd_ne nmp.symm]; exact hpr3
          have dy4 := lfma tD4 (lf_Ps st.2) dy3
          generalize upd H3 m (.lst ((st.1 ++ pl.1 ++ [root[i]]).map V.str)) = H4 at s4 hm4 hpr4 dy4 ⊢
          refine ⟨_, rfl, .inl ⟨rfl, _, SqL.of hpr4⟩, _, rfl, _, _, rfl, rfl, _, rfl, m, _, rfl, .inl (SqL.of hm4), by show 2 ≤ sizeLine; decide, fun tk htk => ?_⟩
          rw [List.length_map]
          have s5 := same_new (o := .tup [.int (0 + (i : Int) + 1), .int ((st.1 ++ pl.1 ++ [root[i]]).length : Int)]) htk
          have dK : Dp K _ (.ref tk) (encP ((i : Int) + 1, ((st.1 ++ pl.1 ++ [root[i]]).length : Int))) := new_tup (K := K) (xs := [.int (0 + (i : Int) + 1), .int ((st.1 ++ pl.1 ++ [root[i]]).length : Int)]) htk (.cons (by rw [Int.zero_add]; exact .int _) (.cons (.int _) .nil))
          have hpr5 := s5 _ _ hpr4
          have tD5 := TSame.updL (zs := ys ++ [V.ref tk]) hpr5
          refine ⟨pr, _, _, rfl, rfl, hpr5, small1000 (by omega), ys ++ [.ref tk], _, rfl, Bt.same (s4.trans s5) hprH Bt.upd, by rw [upd_ne nmp]; exact s5 _ _ hm4, upd_same, ?_⟩
          rw [List.map_append]
          exact dpa_app (lfma ((Same.t s5).trans tD5) (lf_Ps st.2) dy4) (.cons (lfm tD5 (by simp [encP, lf, lfAll]) dK) .nil)
        | false =>
          rw [edit_drop (.inr ef)]
          exact iteF ⟨ys, _, rfl, s3, hm3, hpr3, dy3⟩
      · refine ⟨false, congrArg V.bl (decide_eq_false (by rw [List.length_map]; omega)), iteF ?_⟩
        rw [edit_drop (.inl (List.getElem?_eq_none (by omega)))]
        exact ⟨ys, _, rfl, s3, hm3, hpr3, dy3⟩
    · rintro σ H' ⟨ys, v4, rfl, sm, hm, hpr, dy⟩
      rw [Int.toNat_natCast, lx] at hm dy
      refine ⟨_, rfl, _, rfl, pr, ys, rfl, .inl ⟨SqL.of hpr, fun tq htq => ⟨by show 2 ≤ sizeLine; decide, fun tk htk => ?_⟩⟩⟩
      have s6 := same_new (o := .tup ys) htq
      have s7 := same_new (o := .tup [.ref m, .ref tq]) htk
      exact q tk m (.ref tq) _ (sm.trans (s6.trans s7)) (SqT.of upd_same) hm0 (s7 _ _ (s6 _ _ hm)) (dm s7 (new_tup htq dy))
end
end K60

namespace K60
open PySem PySem.Spec PyProof.Rows L2
abbrev sCase : Stmt := top 39

/-! ### a base and two versions of it, as the law lays them -/
structure Cas where
  root : List Str
  one : List Str
  two : List Str
  p1 : List (Int × Int)
  p2 : List (Int × Int)
  words : List Str
structure GoodCas (c : Cas) : Prop where
  d1 : GoodD c.root c.one c.p1
  d2 : GoodD c.root c.two c.p2
  lr : c.root.length ≤ 7
  l1 : c.one.length ≤ 24
  l2 : c.two.length ≤ 24
  lp1 : c.p1.length ≤ 8
  lp2 : c.p2.length ≤ 8
  wr : ∀ z ∈ c.root, Word z
  w1 : ∀ z ∈ c.one, Word z
  w2 : ∀ z ∈ c.two, Word z
  ww : ∀ z ∈ c.words, Word z
  lw : c.words.length ≤ 4
abbrev kvsOf (r tl dl wd : Addr) : List (Key × V) := [(.inr "root", .ref r), (.inr "texts", .ref tl), (.inr "diffs", .ref dl), (.inr "words", .ref wd)]
structure CaseA (K : PySem.W.Frag) (H : Hp) (d r m1 m2 tl dl wd : Addr) (q1 q2 : V) (c : Cas) : Prop where
  dict : H d = some (.dK (kvsOf r tl dl wd))
  root : SqL K H r (c.root.map V.str)
  texts : H tl = some (.lst [.ref m1, .ref m2])
  one : H m1 = some (.lst (c.one.map V.str))
  two : H m2 = some (.lst (c.two.map V.str))
  diffs : H dl = some (.lst [q1, q2])
  p1 : Dp K H q1 (encPs c.p1)
  p2 : Dp K H q2 (encPs c.p2)
  words : SqL K H wd (c.words.map V.str)
def CaseV (K : PySem.W.Frag) (H : Hp) (d : Addr) (c : Cas) : Prop := ∃ r m1 m2 tl dl wd q1 q2, CaseA K H d r m1 m2 tl dl wd q1 q2 c
theorem lf_encPs (l : List (Int × Int)) : lf (encPs l) = true := by
  unfold encPs
  rw [lf, lf_Ps]
theorem CaseA.same {K : PySem.W.Frag} {H H' : Hp} {d r m1 m2 tl dl wd : Addr} {q1 q2 : V} {c : Cas} (e : Same H H') (h : CaseA K H d r m1 m2 tl dl wd q1 q2 c) : CaseA K H' d r m1 m2 tl dl wd q1 q2 c :=
  ⟨e _ _ h.dict, e.seq h.root, e _ _ h.texts, e _ _ h.one, e _ _ h.two, e _ _ h.diffs, dm e h.p1, dm e h.p2, e.seq h.words⟩
theorem CaseV.same {K : PySem.W.Frag} {H H' : Hp} {d : Addr} {c : Cas} (e : Same H H') (h : CaseV K H d c) : CaseV K H' d c :=
  let ⟨r, m1, m2, tl, dl, wd, q1, q2, a⟩ := h; ⟨r, m1, m2, tl, dl, wd, q1, q2, a.same e⟩
theorem strsNot {K : PySem.W.Frag} {H : Hp} {a p : Addr} {zs : List Str} (h : SqL K H a (zs.map V.str)) (hp : PotA H p) : SqL K H a (zs.map V.str) ∧ (a ≠ p ∨ ∀ H', SqL K H' a (zs.map V.str)) := by
  refine ⟨h, ?_⟩
  obtain ⟨x, y, hp, _⟩ := hp
  rcases h with (h | ⟨o, h⟩) | h
  · refine .inl ?_
    rintro rfl
    rw [h] at hp
    match zs, hp with
    | [], hp => simp at hp
    | [_], hp => simp at hp
    | _ :: _ :: _, hp => simp at hp
  · refine .inl ?_
    rintro rfl
    rw [h] at hp
    cases hp
  · exact .inr fun H' => .inr h
theorem CaseA.bt {K : PySem.W.Frag} {H H' : Hp} {p d r m1 m2 tl dl wd : Addr} {q1 q2 : V} {c : Cas} (hp : PotA H p) (b : Bt p H H') (h : CaseA K H d r m1 m2 tl dl wd q1 q2 c) : CaseA K H' d r m1 m2 tl dl wd q1 q2 c := by
  have t := hp.t b
  have sq : ∀ {a : Addr} {zs : List Str}, SqL K H a (zs.map V.str) → SqL K H' a (zs.map V.str) := fun {a zs} h => by
    rcases (strsNot h hp).2 with n | n
    · exact sqlBt b n h
    · exact n H'
  have lst : ∀ {a : Addr} {zs : List Str}, H a = some (.lst (zs.map V.str)) → H' a = some (.lst (zs.map V.str)) := fun {a zs} h => by
    obtain ⟨x, y, hp, _⟩ := hp
    refine b _ _ ?_ h
    rintro rfl
    rw [h] at hp
    match zs, hp with
    | [], hp => simp at hp
    | [_], hp => simp at hp
    | _ :: _ :: _, hp => simp at hp
  obtain ⟨x, y, hp', _⟩ := hp
  refine ⟨b _ _ ?_ h.dict, sq h.root, b _ _ ?_ h.texts, lst h.one, lst h.two, b _ _ ?_ h.diffs, lfm t (lf_encPs _) h.p1, lfm t (lf_encPs _) h.p2, sq h.words⟩
  · rintro rfl
    rw [h.dict] at hp'
    cases hp'
  · rintro rfl
    rw [h.texts] at hp'
    cases hp'
  · rintro rfl
    rw [h.diffs] at hp'
    obtain ⟨t1, xs, e, _⟩ := dp_tup (ds := c.p1.map encP) h.p1
    rw [e] at hp'
    cases hp'
theorem CaseV.bt {K : PySem.W.Frag} {H H' : Hp} {p d : Addr} {c : Cas} (hp : PotA H p) (b : Bt p H H') (h : CaseV K H d c) : CaseV K H' d c :=
  let ⟨r, m1, m2, tl, dl, wd, q1, q2, a⟩ := h; ⟨r, m1, m2, tl, dl, wd, q1, q2, a.bt hp b⟩

section
variable {P : Program} {w : World} {K : PySem.W.Frag} {mg : Str → Option Value} {base : Heap}
def spCase (K : PySem.W.Frag) : Sp := fun vs H Q _ => ∃ (p : Addr), vs = [.ref p, .int 7] ∧ PotA H p ∧ ∀ d c H', Bt p H H' → PotA H' p → CaseV K H' d c → GoodCas c → Q (.ref d) H'
theorem scCase : FnScope ["_law_pot_here", "_law_most", "_law_words", "_law_root", "_law_plan_here", "_law_other", "_law_first", "_law_first_pairs", "_law_second_here", "_law_second_pairs", "_law_turn"] ["_law_pot_here", "_law_most"] (defScope sCase) := ⟨rfl, rfl, rfl, by decide +kernel, rfl, by decide +kernel, by decide +kernel⟩
theorem ok_case {f : Addr} {fd : FuncData} (F : Fun K "_law_case" "_law_case" sCase f fd) (T : Txt mg) (c1 : Cal P w K mg base 1 "_law_draw" spDraw) (c2 : Cal P w K mg base 2 "_law_pick" (spPick K)) (c3 : Cal P w K mg base 3 "_law_plan" (spPlan K)) (c4 : Cal P w K mg base 4 "_law_second" (spSecond K)) (ce : Cal P w K mg base 1 "_law_edited" (spEdited K)) :
    FnOk P w K mg base CX0 5 f fd ["_law_pot_here", "_law_most"] (spCase K) := by
  refine F.ok scCase (fun vs H Q E h => ?_) (fun cdv A outer s H vs Q E hr h => ?_)
  · obtain ⟨p, rfl, _⟩ := h
    rfl
  · obtain ⟨p, rfl, hp, q⟩ := h
    refine ⟨_, pss_cons (ps_set (i := 2) scCase.nd rfl (Or.inr rfl) (pc c2 (hr.mono (by decide)) (by rfl) (pa_cons (pv 0) (pa_cons (pe_lst (pa_cons (pe_lst (pa_cons pe_str (pa_cons pe_str pa_nil))) (pa_cons (pe_lst (pa_cons pe_str (pa_cons pe_str (pa_cons pe_str (pa_cons pe_str pa_nil)))))
          (pa_cons (pe_lst (pa_cons pe_str (pa_cons pe_str (pa_cons pe_str (pa_cons pe_str pa_nil))))) (pa_cons (pe_lst (pa_cons pe_str pa_nil)) pa_nil))))) pa_nil))))
      (pss_cons (ps_setLc (i := 3) (own := [("_law_turn", 10)]) (g := gName 10) (tt := tYes) rfl scCase.nd rfl rfl (by rfl) (pi_range1 (by rfl) T.range (pa_cons (pc c1 (hr.mono (by decide)) (by rfl) (pa_cons (pv 0) (pa_cons (pe_op op_add (pv 1) pe_int) pa_nil))) pa_nil))
          (blkOk_by (N := ["_law_pot_here", "_law_most", "_law_words", "_law_root", "_law_plan_here", "_law_other", "_law_first", "_law_first_pairs", "_law_second_here", "_law_second_pairs", "_law_turn"]) (sc := defScope sCase) (by decide +kernel)) (fun _ _ _ _ _ => pg_name (i := 10) scCase.nd rfl (Or.inl rfl)) (fun _ _ _ _ _ => pts_nil)
          (fun _ _ _ _ _ => pc c2 (hr.mono (by decide)) (by rfl) (pa_cons (pv 0) (pa_cons (pv 2) pa_nil))))
      (pss_cons (ps_set (i := 4) scCase.nd rfl (Or.inl rfl) (pc c3 (hr.mono (by decide)) (by rfl) (pa_cons (pv 0) (pa_cons (pe_callB call_len_seq (by rfl) T.len PySem.boot_len (pa_cons (pv 3) pa_nil)) (pa_cons (pv 2) pa_nil)))))
      (pss_cons (ps_set (i := 5) scCase.nd rfl (Or.inl rfl) (pc c4 (hr.mono (by decide)) (by rfl) (pa_cons (pv 0) (pa_cons (pv 4) (pa_cons (pv 2) pa_nil)))))
      (pss_cons (ps_asg (pc ce (hr.mono (by decide)) (by rfl) (pa_cons (pv 3) (pa_cons (pv 4) pa_nil))) (pg_tup rfl (pgs_cons (pg_name (i := 6) scCase.nd rfl (Or.inl rfl)) (pgs_cons (pg_name (i := 7) scCase.nd rfl (Or.inl rfl)) pgs_nil))))
      (pss_cons (ps_asg (pc ce (hr.mono (by decide)) (by rfl) (pa_cons (pv 3) (pa_cons (pv 5) pa_nil))) (pg_tup rfl (pgs_cons (pg_name (i := 8) scCase.nd rfl (Or.inl rfl)) (pgs_cons (pg_name (i := 9) scCase.nd rfl (Or.inl rfl)) pgs_nil))))
      (pss_one (ps_ret (pe_disp (pps_cons pe_str (pv 3) (pps_cons pe_str (pe_lst (pa_cons (pv 6) (pa_cons (pv 8) pa_nil))) (pps_cons pe_str (pe_lst (pa_cons (pv 7) (pa_cons (pv 9) pa_nil))) (pps_cons pe_str (pv 2) pps_nil)))) (by rfl) (by rfl) (by simp) (by decide))))))))), ?_⟩
    refine ⟨_, rfl, by show 2 ≤ sizeLine; decide, fun l1 h1 => ⟨by show 4 ≤ sizeLine; decide, fun l2 h2 => ⟨by show 4 ≤ sizeLine; decide, fun l3 h3 => ⟨by show 1 ≤ sizeLine; decide, fun l4 h4 => ⟨by show 4 ≤ sizeLine; decide, fun l0 h0 => ?_⟩⟩⟩⟩⟩
    have s1 := same_new (o := .lst [.str "a", .str "b"]) h1
    have s2 := same_new (o := .lst [.str "a", .str "b", .str "c", .str ""]) h2
    have s3 := same_new (o := .lst [.str "x y", .str "x", .str "<<<<", .str "one"]) h3
    have s4 := same_new (o := .lst [.str "k"]) h4
    have s5 := same_new (o := .lst [.ref l1, .ref l2, .ref l3, .ref l4]) h0
    have sA := s1.trans (s2.trans (s3.trans (s4.trans s5)))
    have n1 := hp.ne h1
    have n2 := (hp.same s1).ne h2
    have n3 := (hp.same (s1.trans s2)).ne h3
    have n4 := (hp.same (s1.trans (s2.trans s3))).ne h4
    have n0 := (hp.same (s1.trans (s2.trans (s3.trans s4)))).ne h0
    refine ⟨p, l0, _, rfl, hp.same sA, SqL.of upd_same, n0.symm, by simp, by show 4 ≤ 1000; decide, fun x H6 hx b6 p6 => ?_⟩
    obtain ⟨wd, ws, rfl, hwo, nwd, ww, lw, nn⟩ : ∃ wd ws, x = .ref wd ∧ H6 wd = some (.lst (ws.map V.str)) ∧ wd ≠ p ∧ (∀ z ∈ ws, Word z) ∧ ws.length ≤ 4 ∧ ws ≠ [] := by
      simp only [List.mem_cons, List.not_mem_nil, or_false] at hx
      rcases hx with rfl | rfl | rfl | rfl
      · exact ⟨l1, ["a", "b"], rfl, b6 _ _ n1.symm ((s2.trans (s3.trans (s4.trans s5))) _ _ upd_same), n1.symm, (show ∀ z ∈ (["a", "b"] : List Str), z ∈ wordsAll by decide +kernel), by decide, by simp⟩
      · exact ⟨l2, ["a", "b", "c", ""], rfl, b6 _ _ n2.symm ((s3.trans (s4.trans s5)) _ _ upd_same), n2.symm, (show ∀ z ∈ (["a", "b", "c", ""] : List Str), z ∈ wordsAll by decide +kernel), by decide, by simp⟩
      · exact ⟨l3, ["x y", "x", "<<<<", "one"], rfl, b6 _ _ n3.symm ((s4.trans s5) _ _ upd_same), n3.symm, (show ∀ z ∈ (["x y", "x", "<<<<", "one"] : List Str), z ∈ wordsAll by decide +kernel), by decide, by simp⟩
      · exact ⟨l4, ["k"], rfl, b6 _ _ n4.symm (s5 _ _ upd_same), n4.symm, (show ∀ z ∈ (["k"] : List Str), z ∈ wordsAll by decide +kernel), by decide, by simp⟩
    have bA : Bt p H H6 := (Bt.of sA).trans b6
    have hwd : SqL K H6 wd (ws.map V.str) := SqL.of hwo
    refine ⟨_, rfl, _, rfl, _, _, rfl, rfl, p, 8, rfl, p6, by decide, by decide, fun r H7 r0 r8 b7 p7 => ?_⟩
    refine ⟨_, rfl, by omega, by omega, fun D hD => ?_⟩
    refine lcw (n := r.toNat) (te := fun σ H Q => tCons (tVar 0) (tCons (tVar 2) tNil) σ H fun vs H1 => spPick K vs H1 Q E0) ws hD p7 (by omega) (fun i2 H3 R R0 b3 p3 k => ?_) (fun H8 root b8 p8 hr8 lr wr => ?_)
    · refine ⟨rfl, yes ⟨_, rfl, _, rfl, p, wd, _, rfl, p3, sqlBt (b7.trans b3) nwd hwd, nwd, by simpa using nn, by rw [List.length_map]; omega, fun x H4 hx4 b4 p4 => ?_⟩⟩
      obtain ⟨z, hz, rfl⟩ := List.mem_map.mp hx4
      exact k z H4 hz b4 p4
    have nD : D ≠ p := (p7.ne hD).symm
    have lr7 : root.length ≤ 7 := by omega
    have hwd8 := sqlBt (b7.trans b8) nwd hwd
    refine ⟨_, rfl, _, rfl, D, _, rfl, .inl (SqL.of hr8), _, rfl, p, wd, root.length, ws, by rw [List.length_map], p8, by omega, hwd8, nwd, nn, by omega, fun fp xs9 H9 plan b9 p9 hfp hx9 dx9 lp9 gp9 => ?_⟩
    have nfp : fp ≠ p := (p8.ne hfp).symm
    have hwd9 := sqlBt b9 nwd hwd8
    refine ⟨_, rfl, _, rfl, _, rfl, p, fp, wd, xs9, plan, root.length, ws, rfl, p9, by omega, SqL.of hx9, nfp, dx9, lp9, gp9, hwd9, nwd, nn, by omega, fun f2 ys10 H10 plan2 b10 p10 hf2 hy10 dy10 lp10 gp10 => ?_⟩
    have dx10 := lfma (p9.t b10) (lf_Pls plan) dx9
    have hx10 := b10 _ _ nfp hx9
    have hr10 := b10 _ _ nD (b9 _ _ nD hr8)
    have hwd10 := sqlBt b10 nwd hwd9
    refine ⟨_, rfl, _, rfl, D, fp, xs9, root, plan, rfl, SqL.of hr10, SqL.of hx10, dx10, by omega, fun pl h => (gp9 pl h).1, fun t1 m1 q1 H11 s11 ht1 hm1 hm1' dq1 => ?_⟩
    refine ⟨t1, _, rfl, ht1, rfl, _, _, rfl, _, _, rfl, rfl, ?_⟩
    have hr11 := s11 _ _ hr10
    refine ⟨_, rfl, _, rfl, D, f2, ys10, root, plan2, rfl, SqL.of hr11, SqL.of (s11 _ _ hy10), dma s11 dy10, by omega, fun pl h => (gp10 pl h).1, fun t2 m2 q2 H12 s12 ht2 hm2 hm2' dq2 => ?_⟩
    refine ⟨t2, _, rfl, ht2, rfl, _, _, rfl, _, _, rfl, rfl, ?_⟩
    refine fun d hd => ?_
    have s13 := same_new (o := .dK []) hd
    refine ⟨_, rfl, _, rfl, _, rfl, by show 2 ≤ sizeLine; decide, fun tl htl => ?_⟩
    have s14 := same_new (o := .lst [.ref m1, .ref m2]) htl
    refine ⟨_, rfl, _, rfl, by show 2 ≤ sizeLine; decide, fun dl hdl => ?_⟩
    have s15 := same_new (o := .lst [q1, q2]) hdl
    have hd15 := s15 _ _ (s14 _ _ (upd_same (H := H12) (a := d) (o := .dK [])))
    refine ⟨_, rfl, hd15, kvsOf D tl dl wd, rfl, by show 4 ≤ 15; decide, ?_⟩
    have nn1 : d ≠ tl := ne_of_none upd_same htl
    have nn2 : d ≠ dl := ne_of_none (s14 _ _ upd_same) hdl
    have e1 := edited (W := Word) (root := root) (plan := plan) (fun z h => ww z (wr z h)) (fun pl h => ⟨(gp9 pl h).1, fun z hz => ww z ((gp9 pl h).2 z hz)⟩) plan.length
    have e2 := edited (W := Word) (root := root) (plan := plan2) (fun z h => ww z (wr z h)) (fun pl h => ⟨(gp10 pl h).1, fun z hz => ww z ((gp10 pl h).2 z hz)⟩) plan2.length
    have lp1 := edit_pairs_len (root := root) (plan := plan) plan.length
    have lp2 := edit_pairs_len (root := root) (plan := plan2) plan2.length
    have le1 := e1.len
    have le2 := e2.len
    have s35 := s13.trans (s14.trans s15)
    have bd : ∀ {b : Addr} {o : HO}, b ≠ d → (upd (upd (upd H12 d (.dK [])) tl (.lst [.ref m1, .ref m2])) dl (.lst [q1, q2])) b = some o → upd (upd (upd (upd H12 d (.dK [])) tl (.lst [.ref m1, .ref m2])) dl (.lst [q1, q2])) d (.dK (mergeK [] (kvsOf D tl dl wd))) b = some o := fun n h => by rw [upd_ne n]; exact h
    have tD : TSame (upd (upd (upd H12 d (.dK [])) tl (.lst [.ref m1, .ref m2])) dl (.lst [q1, q2])) (upd (upd (upd (upd H12 d (.dK [])) tl (.lst [.ref m1, .ref m2])) dl (.lst [q1, q2])) d (.dK (mergeK [] (kvsOf D tl dl wd)))) := fun b ys r => by
      have ne : b ≠ d := by
        rintro rfl
        rcases r with r | ⟨o, r⟩
        · rw [hd15] at r; cases r
        · rw [hd15] at r; cases r
      exact r.elim (fun r => .inl (bd ne r)) fun ⟨o, r⟩ => .inr ⟨o, bd ne r⟩
    have npd : p ≠ d := (p10.same (s11.trans s12)).ne hd
    have b12 : Bt p H H12 := bA.trans (b7.trans (b8.trans (b9.trans (b10.trans (Bt.of (s11.trans s12))))))
    have old : ∀ {b : Addr} {o : HO}, H12 b = some o → b ≠ d := fun h => ne_of_none h hd
    refine q d ⟨root, (edit root plan plan.length).1, (edit root plan2 plan2.length).1, (edit root plan plan.length).2, (edit root plan2 plan2.length).2, ws⟩ _ ?_ ?_
      ⟨D, m1, m2, tl, dl, wd, q1, q2, ⟨by rw [upd_same]; rfl, SqL.of (bd (old (s12 _ _ hr11)) (s35 _ _ (s12 _ _ hr11))), bd nn1.symm (s15 _ _ upd_same), bd (old (s12 _ _ hm1')) (s35 _ _ (s12 _ _ hm1')), bd (old hm2') (s35 _ _ hm2'), bd nn2.symm upd_same,
        lfm tD (lf_encPs _) (dm (s12.trans s35) dq1), lfm tD (lf_encPs _) (dm s35 dq2), ?_⟩⟩
      ⟨e1.good, e2.good, lr7, by show (edit root plan plan.length).1.length ≤ 24; omega, by show (edit root plan2 plan2.length).1.length ≤ 24; omega, by show (edit root plan plan.length).2.length ≤ 8; omega, by show (edit root plan2 plan2.length).2.length ≤ 8; omega,
        fun z h => ww z (wr z h), e1.words, e2.words, ww, lw⟩
    · exact Bt.new (b12.trans (Bt.of s35)) (b12.free hd npd.symm) Bt.upd
    · exact ((p10.same (s11.trans s12)).same s35).upd npd
    · have hw12 : H12 wd = some (.lst (ws.map V.str)) := s12 _ _ (s11 _ _ (b10 _ _ nwd (b9 _ _ nwd (b8 _ _ nwd (b7 _ _ nwd hwo)))))
      exact SqL.of (bd (old hw12) (s35 _ _ hw12))
end
end K60

namespace K60
open PySem PySem.Spec PyProof.Rows L2
abbrev sParts : Stmt := top 40
abbrev sBoth : Stmt := top 41
abbrev sCover : Stmt := top 42

theorem parts_fold : ∀ (ps : List (Int × Int)) (st : BSt), (ps.foldl pStep st).1.length ≤ st.1.length + ps.length
  | [], st => Nat.le_refl _
  | p :: ps, st => by
    have h := parts_fold ps (pStep st p)
    have h2 : (pStep st p).1.length ≤ st.1.length + 1 := by
      unfold pStep
      dsimp only
      split
      · rw [List.length_append, List.length_singleton]
        exact Nat.le_refl _
      · omega
    rw [List.foldl_cons, List.length_cons]
    omega
theorem klen {X : Cx} (K : PySem.W.Frag) (e : X.K = K := by rfl) : CallR X (.builtin "len") (fun xs H Q => ∃ p ys, xs = [.ref p] ∧ (SqL K H p ys ∨ SqT K H p ys) ∧ Q (.int (ys.length : Nat)) H) := e ▸ call_len_seq

section
variable {P : Program} {w : World} {K : PySem.W.Frag} {mg : Str → Option Value} {base : Heap}
def spParts (K : PySem.W.Frag) : Sp := fun vs H Q _ => ∃ (m n : Int) (d : V) (ps : List (Int × Int)), vs = [.int m, .int n, d] ∧ Dp K H d (encPs ps) ∧ ps.length ≤ 60 ∧
  ∀ (q : Addr) (xs : List V) (H' : Hp), Same H H' → H q = Option.none → H' q = some (.lst xs) → DpAll K H' xs ((partsM m n ps).map encB) → Q (.ref q) H'
theorem scParts : FnScope ["_law_many", "_law_long", "_law_pairs", "_law_found", "_law_i", "_law_j", "_law_p", "_law_q"] ["_law_many", "_law_long", "_law_pairs"] (defScope sParts) := ⟨rfl, rfl, rfl, by decide +kernel, rfl, by decide +kernel, by decide +kernel⟩
theorem ok_parts {f : Addr} {fd : FuncData} (F : Fun K "_law_parts" "_law_parts" sParts f fd) (T : Txt mg) : FnOk P w K mg base CX0 1 f fd ["_law_many", "_law_long", "_law_pairs"] (spParts K) := by
  refine F.ok scParts (fun vs H Q E h => ?_) (fun cdv A outer s H vs Q E hr h => ?_)
  · obtain ⟨m, n, d, ps, rfl, _⟩ := h
    rfl
  · obtain ⟨m, n, d, ps, rfl, hd, lp, q⟩ := h
    obtain ⟨t, xs, rfl, ht, hxs⟩ := dp_tup hd
    have lx : xs.length = ps.length := dpa_mapLen hxs
    refine ⟨_, pss_cons (ps_par3 rfl scParts.nd (i := 3) (j := 4) (l := 5) rfl rfl rfl (by decide) (by decide) (by decide) rfl rfl rfl (pa_cons (pe_lst pa_nil) (pa_cons pe_int (pa_cons pe_int pa_nil))) (by rfl))
      (pss_cons (ps_for PassesOwn.never rfl (pi_list (pe_op op_cat (pe_callTy call_list_of (by rfl) T.list (by decide +kernel) (pa_cons (pv 2) pa_nil)) (pe_lst (pa_cons (pe_tup (pa_cons (pe_op op_add (pv 0) pe_int) (pa_cons (pe_op op_add (pv 1) pe_int) pa_nil))) pa_nil))))
          (pg_tup rfl (pgs_cons (pg_name (i := 6) scParts.nd rfl (Or.inl rfl)) (pgs_cons (pg_name (i := 7) scParts.nd rfl (Or.inl rfl)) pgs_nil)))
          (pss_cons (ps_if (PW.pt (pw_or (pt_cmpR op_gt (pe_op op_sub (pv 6) pe_int) (pv 4) (nomark _)) (pw_or1 (pt_cmpR op_gt (pe_op op_sub (pv 7) pe_int) (pv 5) (nomark _)))))
              (pss_one (ps_expr (pe_bm PySem.F.plainAttrs_list PySem.F.slot_list_append PySem.F.type_list_append mt_append (pv 3) (pa_cons (pe_tup (pa_cons (pv 4) (pa_cons (pe_op op_sub (pv 6) pe_int) (pa_cons (pv 5) (pa_cons (pe_op op_sub (pv 7) pe_int) pa_nil))))) pa_nil)))) pss_nil)
            (pss_one (ps_par rfl scParts.nd (i := 4) (j := 5) rfl rfl (by decide) rfl rfl (pa_cons (pv 6) (pa_cons (pv 7) pa_nil)) (by rfl)))))
      (pss_one (ps_ret (pv 3)))), ?_⟩
    refine ⟨Nat.zero_le _, fun fl hfl => ?_⟩
    refine ⟨_, _, _, rfl, ?_⟩
    have s1 : Same H (upd H fl (.lst [])) := same_new hfl
    refine ⟨_, rfl, t, xs, rfl, .inr (same_seqT s1 ht), fun l1 h1 => ?_⟩
    have s2 := same_new (o := .lst xs) h1
    refine ⟨_, rfl, _, _, rfl, rfl, _, rfl, _, _, rfl, rfl, by show 2 ≤ sizeLine; decide, fun p1 hp1 => ⟨by show 1 ≤ sizeLine; decide, fun l2 h2 => ?_⟩⟩
    have s3 := same_new (o := .tup [.int (m + 1), .int (n + 1)]) hp1
    have s4 := same_new (o := .lst [.ref p1]) h2
    refine ⟨l1, l2, xs, [.ref p1], rfl, rfl, s4 _ _ (s3 _ _ upd_same), upd_same, Nat.le_of_lt (small1000 (by show xs.length + 1 ≤ 1000; omega)), fun cx hcx => ?_⟩
    have s5 := same_new (o := .lst (xs ++ [.ref p1])) hcx
    have hcx5 : SqL K (upd (upd (upd (upd (upd H fl (.lst [])) l1 (.lst xs)) p1 (.tup [.int (m + 1), .int (n + 1)])) l2 (.lst [.ref p1])) cx (.lst (xs ++ [.ref p1]))) cx (xs ++ [.ref p1]) := SqL.of upd_same
    have sB := s2.trans (s3.trans (s4.trans s5))
    have sC := s1.trans sB
    have hfl5 := sB _ _ (upd_same (H := H) (a := fl) (o := .lst []))
    have nfc : cx ≠ fl := (ne_of_none (s4 _ _ (s3 _ _ (s2 _ _ upd_same))) hcx).symm
    have hL : DpAll K (upd (upd (upd (upd (upd H fl (.lst [])) l1 (.lst xs)) p1 (.tup [.int (m + 1), .int (n + 1)])) l2 (.lst [.ref p1])) cx (.lst (xs ++ [.ref p1]))) (xs ++ [.ref p1]) ((ps ++ [(m + 1, n + 1)]).map encP) := by
      rw [List.map_append]
      exact dpa_app (dma sC hxs) (.cons (dm (s4.trans s5) (new_ints (K := K) hp1 [m + 1, n + 1])) .nil)
    have lfL : lfAll ((ps ++ [(m + 1, n + 1)]).map encP) = true := lf_Ps _
    generalize upd (upd (upd (upd (upd H fl (.lst [])) l1 (.lst xs)) p1 (.tup [.int (m + 1), .int (n + 1)])) l2 (.lst [.ref p1])) cx (.lst (xs ++ [.ref p1])) = H5 at hcx5 sC hfl5 hL ⊢
    generalize eL : ps ++ [(m + 1, n + 1)] = L at hL lfL
    have lenL : (xs ++ [V.ref p1]).length = L.length := dpa_mapLen hL
    have lenL2 : L.length ≤ 61 := by rw [← eL, List.length_append, List.length_singleton]; omega
    refine ⟨cx, rfl, ⟨_, hcx5⟩, for_list (K := K) (a := cx) (xs := xs ++ [V.ref p1]) (fun i σ H' => ∃ ys v6 v7, σ = [some (.int m), some (.int n), some (.ref t), some (.ref fl), some (.int ((L.take i).foldl pStep ([], 0, 0)).2.1), some (.int ((L.take i).foldl pStep ([], 0, 0)).2.2), v6, v7] ∧
        Bt fl H5 H' ∧ H' fl = some (.lst ys) ∧ DpAll K H' ys (((L.take i).foldl pStep ([], 0, 0)).1.map encB) ∧ ys.length ≤ i)
      ⟨[], _, _, rfl, Bt.refl, hfl5, .nil, Nat.le_refl _⟩ (fun i σ H' _ ⟨_, _, _, _, b, _⟩ => sqlBt b nfc hcx5) ?_ ?_⟩
    · rintro i x σ H' hi ⟨ys, v6, v7, rfl, bt, hy, hds, ly⟩
      have hi1 := (List.getElem?_eq_some_iff.mp hi).1
      obtain ⟨p, hp, dp⟩ := dpa_map hL hi
      have dp' := lfm (bt.t hfl5) (by simp [encP, lf, lfAll]) dp
      obtain ⟨tp, rfl, htp⟩ := dp_pair dp'
      have st := take_fold pStep ([], 0, 0) L i p hp
      generalize ea : (L.take i).foldl pStep ([], 0, 0) = S0 at hds ⊢
      rw [ea] at st
      obtain ⟨fS, aS, cS⟩ := S0
      refine ⟨tp, _, rfl, htp, rfl, _, _, rfl, _, _, rfl, rfl, ?_⟩
      refine ⟨_, rfl, _, _, rfl, rfl, _, rfl, _, _, rfl, rfl, ?_⟩
      have pst : pStep (fS, aS, cS) p = (if aS < p.1 - 1 ∨ cS < p.2 - 1 then fS ++ [(aS, p.1 - 1, cS, p.2 - 1)] else fS, p.1, p.2) := rfl
      by_cases e1 : aS < p.1 - 1
      · refine ⟨true, congrArg V.bl (decide_eq_true e1), iteT ?_⟩
        refine ⟨_, rfl, .inl ⟨rfl, _, SqL.of hy⟩, ?_⟩
        refine ⟨_, rfl, _, rfl, _, _, rfl, rfl, _, rfl, _, rfl, _, _, rfl, rfl, by show 4 ≤ sizeLine; decide, fun q3 hq3 => ?_⟩
        have t3 := same_new (o := .tup [.int aS, .int (p.1 - 1), .int cS, .int (p.2 - 1)]) hq3
        refine ⟨fl, _, _, rfl, rfl, t3 _ _ hy, small1000 (by omega), ?_⟩
        have tD := TSame.updL (zs := ys ++ [V.ref q3]) (t3 _ _ hy)
        refine ⟨_, rfl, _, rfl, _, _, rfl, ys ++ [.ref q3], some (.int p.1), some (.int p.2), ?_, bt.trans ((Bt.of t3).trans Bt.upd), upd_same, ?_, by rw [List.length_append, List.length_singleton]; omega⟩
        · rw [st]
          rfl
        · rw [st, pst, if_pos (.inl e1), List.map_append]
          exact dpa_app (lfma tD (lf_Bs _) (dma t3 hds)) (.cons (lfm tD (lf_B _) (new_ints hq3 [aS, p.1 - 1, cS, p.2 - 1])) .nil)
      · refine ⟨false, congrArg V.bl (decide_eq_false e1), iteF ?_⟩
        refine ⟨_, rfl, _, _, rfl, rfl, _, rfl, _, _, rfl, rfl, ?_⟩
        by_cases e2 : cS < p.2 - 1
        · refine ⟨true, congrArg V.bl (decide_eq_true e2), iteT ?_⟩
          refine ⟨_, rfl, .inl ⟨rfl, _, SqL.of hy⟩, ?_⟩
          refine ⟨_, rfl, _, rfl, _, _, rfl, rfl, _, rfl, _, rfl, _, _, rfl, rfl, by show 4 ≤ sizeLine; decide, fun q3 hq3 => ?_⟩
          have t3 := same_new (o := .tup [.int aS, .int (p.1 - 1), .int cS, .int (p.2 - 1)]) hq3
          refine ⟨fl, _, _, rfl, rfl, t3 _ _ hy, small1000 (by omega), ?_⟩
          have tD := TSame.updL (zs := ys ++ [V.ref q3]) (t3 _ _ hy)
          refine ⟨_, rfl, _, rfl, _, _, rfl, ys ++ [.ref q3], some (.int p.1), some (.int p.2), ?_, bt.trans ((Bt.of t3).trans Bt.upd), upd_same, ?_, by rw [List.length_append, List.length_singleton]; omega⟩
          · rw [st]
            rfl
          · rw [st, pst, if_pos (.inr e2), List.map_append]
            exact dpa_app (lfma tD (lf_Bs _) (dma t3 hds)) (.cons (lfm tD (lf_B _) (new_ints hq3 [aS, p.1 - 1, cS, p.2 - 1])) .nil)
        · refine ⟨false, congrArg V.bl (decide_eq_false e2), iteF ?_⟩
          refine ⟨_, rfl, _, rfl, _, _, rfl, ys, some (.int p.1), some (.int p.2), ?_, bt, hy, ?_, Nat.le_succ_of_le ly⟩
          · rw [st]
            rfl
          · rw [st, pst, if_neg (fun z => z.elim e1 e2)]
            exact hds
    · rintro σ H' ⟨ys, v6, v7, rfl, bt, hy, hds, ly⟩
      rw [lenL, List.take_length, ← eL] at hds
      exact ⟨_, rfl, q fl ys H' (bt.same sC hfl) hfl hy hds⟩

theorem scCover : FnScope ["_law_part"] ["_law_part"] (defScope sCover) := ⟨rfl, rfl, rfl, by decide +kernel, rfl, by decide +kernel, by decide +kernel⟩
theorem ok_cover {f : Addr} {fd : FuncData} (F : Fun K "_law_cover" "_law_cover" sCover f fd) : FnOk P w K mg base CX0 1 f fd ["_law_part"] (spCovered K) := by
  refine F.ok scCover (fun vs H Q E h => ?_) (fun cdv A outer s H vs Q E hr h => ?_)
  · obtain ⟨v, k, rfl, _⟩ := h
    rfl
  · obtain ⟨_, k, rfl, hk, q⟩ := h
    obtain ⟨t, rfl, ht⟩ := dp_B hk
    refine ⟨_, pss_one (ps_ret (pe_ifExp (pt_cmpR op_gt (pe_ix ix_tup (pv 0) pe_int (fun _ _ => rfl)) (pe_ix ix_tup (pv 0) pe_int (fun _ _ => rfl)) (nomark _))
      (pe_tup (pa_cons (pe_op op_mul pe_int (pe_ix ix_tup (pv 0) pe_int (fun _ _ => rfl))) (pa_cons (pe_op op_mul pe_int (pe_ix ix_tup (pv 0) pe_int (fun _ _ => rfl))) pa_nil)))
      (pe_tup (pa_cons (pe_op op_add (pe_op op_mul pe_int (pe_ix ix_tup (pv 0) pe_int (fun _ _ => rfl))) pe_int) (pa_cons (pe_op op_sub (pe_op op_mul pe_int (pe_ix ix_tup (pv 0) pe_int (fun _ _ => rfl))) pe_int) pa_nil))))), ?_⟩
    refine ⟨_, rfl, t, _, _, _, rfl, rfl, ht, at_of (j := 3) rfl rfl, _, rfl, t, _, _, _, rfl, rfl, ht, at_of (j := 2) rfl rfl, _, _, rfl, rfl, ?_⟩
    by_cases e : k.2.2.1 < k.2.2.2
    · refine ⟨true, congrArg V.bl (decide_eq_true e), iteT ?_⟩
      refine ⟨_, rfl, t, _, _, _, rfl, rfl, ht, at_of (j := 0) rfl rfl, _, _, rfl, rfl, .inl ⟨by decide, by decide⟩, _, rfl, t, _, _, _, rfl, rfl, ht, at_of (j := 1) rfl rfl, _, _, rfl, rfl, .inl ⟨by decide, by decide⟩, by show 2 ≤ sizeLine; decide, fun p hp => q _ _ (same_new hp) ?_⟩
      rw [show cov k = (2 * k.1, 2 * k.2.1) from if_pos e]
      exact new_ints hp [2 * k.1, 2 * k.2.1]
    · refine ⟨false, congrArg V.bl (decide_eq_false e), iteF ?_⟩
      refine ⟨_, rfl, t, _, _, _, rfl, rfl, ht, at_of (j := 0) rfl rfl, _, _, rfl, rfl, .inl ⟨by decide, by decide⟩, _, _, rfl, rfl, _, rfl, t, _, _, _, rfl, rfl, ht, at_of (j := 1) rfl rfl, _, _, rfl, rfl, .inl ⟨by decide, by decide⟩, _, _, rfl, rfl, by show 2 ≤ sizeLine; decide, fun p hp => q _ _ (same_new hp) ?_⟩
      rw [show cov k = (2 * k.1 + 1, 2 * k.2.1 - 1) from if_neg e]
      exact new_ints hp [2 * k.1 + 1, 2 * k.2.1 - 1]
end
end K60

namespace K60
open PySem PySem.Spec PyProof.Rows L2
abbrev sIsMet : Stmt := top 44
abbrev sFirst : Stmt := top 45
abbrev sAsKnot : Stmt := top 46

def rLen (K : PySem.W.Frag) : List V → Hp → VK → Prop := fun xs H Q => ∃ p ys, xs = [.ref p] ∧ (SqL K H p ys ∨ SqT K H p ys) ∧ Q (.int (ys.length : Nat)) H
theorem kLen {X : Cx} (K : PySem.W.Frag) (e : X.K = K := by rfl) : CallR X (.builtin "len") (rLen K) := e ▸ call_len_seq
def rTupOf (K : PySem.W.Frag) : List V → Hp → VK → Prop := fun xs H Q => ∃ p ys, xs = [.ref p] ∧ ((SqL K H p ys ∧ ∀ l, H l = none → Q (.ref l) (upd H l (.tup ys))) ∨ (SqT K H p ys ∧ Q (.ref p) H))
theorem kTupOf {X : Cx} (K : PySem.W.Frag) (e : X.K = K := by rfl) : CallR X (.type "tuple") (rTupOf K) := e ▸ call_tuple_of
theorem kpi_list {X : Cx} (K : PySem.W.Frag) {tg : Expr} {l : Expr} {tl : TE} (hl : PE X l tl) (e : X.K = K := by rfl) : PI X tg l (iList K tl) := e ▸ pi_list hl
theorem kcr_sortD {X : Cx} (K : PySem.W.Frag) {β : Type} {enc : β → PyData} {first : β → Int} (hf : ∀ b, ∃ r, enc b = .tuple (.int (first b) :: r)) (hal : ∀ b b', PySem.W.alike (enc b) (enc b') = true) (hdp : ∀ b, (enc b).depth ≤ 60) (hu : X.A.units + 64 < cLine) (e : X.K = K := by rfl) :
    CallR X (.builtin "sorted") (rSortD K enc first) := e ▸ cr_sortD hf hal hdp hu

/-- the law's own pair: a side from nought, and a block -/
def encLt (x : It) : PyData := .tuple [.int (x.1 - 1), encB x.2]
theorem lf_Lt (x : It) : lf (encLt x) = true := by
  unfold encLt
  rw [lf, lfAll, lfAll, lf_B]
  rfl
theorem lf_Lts (l : List It) : lfAll (l.map encLt) = true := lfAll_map fun k _ => lf_Lt k
theorem dp_Lt {K : PySem.W.Frag} {H : Hp} {v : V} {x : It} (h : Dp K H v (encLt x)) : ∃ t b, v = .ref t ∧ SqT K H t [.int (x.1 - 1), b] ∧ Dp K H b (encB x.2) := by
  obtain ⟨t, xs, rfl, hs, a⟩ := dp_tup h
  obtain ⟨u, r, rfl, h1, h2⟩ := dpa_cons a
  obtain ⟨y, r2, rfl, h3, h4⟩ := dpa_cons h2
  have e := dpa_nil h4
  subst e
  rw [dp_int h1] at hs
  exact ⟨t, y, rfl, hs, h3⟩
theorem alike_B (x y : Blk) : PySem.W.alike (encB x) (encB y) = true := by
  simp [PySem.W.alike, PySem.W.alikeAll, encB]
theorem depth_B (x : Blk) : (encB x).depth ≤ 60 := by
  simp [encB, PyData.depth, PyData.depthAll]

section
variable {P : Program} {w : World} {K : PySem.W.Frag} {mg : Str → Option Value} {base : Heap}
def spIsMet (K : PySem.W.Frag) : Sp := fun vs H Q _ => ∃ (a : Addr) (xs : List V) (g : List It) (l h : Int), vs = [.ref a, .int l, .int h] ∧ SqL K H a xs ∧ DpAll K H xs (g.map encLt) ∧ g.length ≤ 500 ∧ ∀ H', Same H H' → Q (.bl (isMet g l h)) H'
theorem scIsMet : FnScope ["_law_group", "_law_low", "_law_high", "_law_spans", "_law_side", "_law_part", "_law_span"] ["_law_group", "_law_low", "_law_high"] (defScope sIsMet) := ⟨rfl, rfl, rfl, by decide +kernel, rfl, by decide +kernel, by decide +kernel⟩
theorem ok_isMet {f : Addr} {fd : FuncData} (F : Fun K "_law_is_met" "_law_is_met" sIsMet f fd) (T : Txt mg) (c1 : Cal P w K mg base 1 "_law_cover" (spCovered K)) : FnOk P w K mg base CX0 2 f fd ["_law_group", "_law_low", "_law_high"] (spIsMet K) := by
  refine F.ok scIsMet (fun vs H Q E h => ?_) (fun cdv A outer s H vs Q E hr h => ?_)
  · obtain ⟨a, xs, g, l, h, rfl, _⟩ := h
    rfl
  · obtain ⟨a, xs, g, l, h, rfl, ha, dx, lg, q⟩ := h
    have lx : xs.length = g.length := dpa_mapLen dx
    refine ⟨_, pss_cons (ps_setLc (i := 3) (own := [("_law_part", 5), ("_law_side", 4)]) (g := gTup K 2 (gCons (gName 4) (gCons (gName 5) gNil))) (tt := tYes) rfl scIsMet.nd rfl rfl (by rfl) (pi_list (pv 0))
          (blkOk_by (N := ["_law_group", "_law_low", "_law_high", "_law_spans", "_law_side", "_law_part", "_law_span"]) (sc := defScope sIsMet) (by decide +kernel))
          (fun _ _ _ _ _ => kg_tup K rfl (pgs_cons (pg_name (i := 4) scIsMet.nd rfl (Or.inl rfl)) (pgs_cons (pg_name (i := 5) scIsMet.nd rfl (Or.inl rfl)) pgs_nil))) (fun _ _ _ _ _ => pts_nil) (fun _ _ _ _ _ => pc c1 hr (by rfl) (pa_cons (pv 5) pa_nil)))
      (pss_one (ps_ret (pe_callB (cr_any rfl) (by rfl) T.any (by decide +kernel) (pa_cons (pe_lc (own := [("_law_span", 6)]) (g := gName 6) (tt := tYes) rfl scIsMet.nd (pi_list (pv 3))
          (blkOk_by (N := ["_law_group", "_law_low", "_law_high", "_law_spans", "_law_side", "_law_part", "_law_span"]) (sc := defScope sIsMet) (by decide +kernel)) (fun _ _ _ _ _ => pg_name (i := 6) scIsMet.nd rfl (Or.inl rfl)) (fun _ _ _ _ _ => pts_nil)
          (fun _ _ _ _ _ => pe_and (pe_cmpR op_le (pe_ix (kx_tup K) (pv 6) pe_int (fun _ _ => rfl)) (pv 2) (nomark _)) (pe_one (pe_cmpR op_le (pv 1) (pe_ix (kx_tup K) (pv 6) pe_int (fun _ _ => rfl)) (nomark _))))) pa_nil)))), ?_⟩
    refine ⟨_, rfl, a, rfl, ⟨_, ha⟩, fun D hD => lcl (K := K) (te := fun σ H Q => tCons (tVar 5) tNil σ H fun vs H1 => spCovered K vs H1 Q E0) hD ha (small1000 (by omega)) (fun i ds => ds = ((g.take i).map fun x => cov x.2).map encP) rfl (fun i x ds Hc R1 R0 hx sm e _ r1 _ => ?_) (fun H1 ys ds s1 hD' dds e _ _ => ?_)⟩
    · obtain ⟨y, hy, dy⟩ := dpa_map (dma sm dx) hx
      obtain ⟨tt, bb, rfl, htt, hbb⟩ := dp_Lt dy
      refine ⟨tt, _, rfl, htt, rfl, _, _, rfl, _, _, rfl, rfl, rfl, yes ⟨_, rfl, bb, y.2, rfl, hbb, fun r H2 s2 dr => r1 r H2 (encP (cov y.2)) s2 (by simp [encP, lf, lfAll]) dr ?_⟩⟩
      rw [e, List.take_add_one, hy]
      simp
    · subst e
      rw [lx, List.take_length] at dds
      have ly : ys.length = g.length := by rw [dpa_mapLen dds, List.length_map]
      refine ⟨_, rfl, D, rfl, ⟨_, SqL.of hD'⟩, fun D2 hD2 => lcl (K := K) hD2 (SqL.of hD') (small1000 (by omega)) (fun i ds => ds = ((g.take i).map fun y => decide (lo y ≤ h) && decide (l ≤ hi y)).map PyData.bool) rfl (fun i x ds Hc R1 R0 hx sm e _ r1 _ => ?_) (fun H2 ys2 ds s2 hD2' dds2 e _ _ => ?_)⟩
      · obtain ⟨c, hc, dc⟩ := dpa_map (dma sm dds) hx
        obtain ⟨y, hy, rfl⟩ : ∃ y, g[i]? = some y ∧ cov y.2 = c := by
          rw [List.getElem?_map] at hc
          exact Option.map_eq_some_iff.mp hc
        obtain ⟨tt, rfl, htt⟩ := dp_pair dc
        refine ⟨rfl, yes ?_⟩
        refine ⟨_, rfl, tt, _, _, _, rfl, rfl, htt, at_of (j := 0) rfl rfl, _, rfl, _, _, rfl, rfl, ?_⟩
        by_cases e1 : lo y ≤ h
        · refine ⟨true, congrArg V.bl (decide_eq_true e1), iteT ⟨_, rfl, _, rfl, tt, _, _, _, rfl, rfl, htt, at_of (j := 1) rfl rfl, _, _, rfl, rfl, ?_⟩⟩
          refine r1 _ _ (.bool (decide (l ≤ hi y))) (Same.refl _) rfl (.bl _) ?_
          rw [e, List.take_add_one, hy]
          simp [e1]
        · refine ⟨false, congrArg V.bl (decide_eq_false e1), iteF (r1 _ _ (.bool false) (Same.refl _) rfl (.bl _) ?_)⟩
          rw [e, List.take_add_one, hy]
          simp [e1]
      · subst e
        rw [ly, List.take_length] at dds2
        have ey := bools_of dds2
        refine ⟨D2, g.map fun y => decide (lo y ≤ h) && decide (l ≤ hi y), rfl, SqL.of (by rw [hD2', ey]), ?_⟩
        have ea : (g.map fun y => decide (lo y ≤ h) && decide (l ≤ hi y)).any id = isMet g l h := by
          unfold isMet
          rw [List.any_map]
          rfl
        rw [ea]
        exact q H2 (s1.trans s2)

def spFirst (K : PySem.W.Frag) : Sp := fun vs H Q _ => ∃ (a : Addr) (xs : List V) (g : List It), vs = [.ref a] ∧ SqL K H a xs ∧ DpAll K H xs (g.map encLt) ∧ g ≠ [] ∧ g.length ≤ 500 ∧ ∀ H', Same H H' → Q (.int (firstM g)) H'
theorem scFirst : FnScope ["_law_group", "_law_side", "_law_part"] ["_law_group"] (defScope sFirst) := ⟨rfl, rfl, rfl, by decide +kernel, rfl, by decide +kernel, by decide +kernel⟩
theorem ok_first {f : Addr} {fd : FuncData} (F : Fun K "_law_first_place" "_law_first_place" sFirst f fd) (T : Txt mg) (c1 : Cal P w K mg base 1 "_law_cover" (spCovered K)) : FnOk P w K mg base CX0 2 f fd ["_law_group"] (spFirst K) := by
  refine F.ok scFirst (fun vs H Q E h => ?_) (fun cdv A outer s H vs Q E hr h => ?_)
  · obtain ⟨a, xs, g, rfl, _⟩ := h
    rfl
  · obtain ⟨a, xs, g, rfl, ha, dx, ne, lg, q⟩ := h
    have lx : xs.length = g.length := dpa_mapLen dx
    refine ⟨_, pss_one (ps_ret (pe_callB (cr_min rfl) (by rfl) T.min (by decide +kernel) (pa_cons (pe_lc (own := [("_law_part", 2), ("_law_side", 1)]) (g := gTup K 2 (gCons (gName 1) (gCons (gName 2) gNil))) (tt := tYes) rfl scFirst.nd (pi_list (pv 0))
          (blkOk_by (N := ["_law_group", "_law_side", "_law_part"]) (sc := defScope sFirst) (by decide +kernel))
          (fun _ _ _ _ _ => kg_tup K rfl (pgs_cons (pg_name (i := 1) scFirst.nd rfl (Or.inl rfl)) (pgs_cons (pg_name (i := 2) scFirst.nd rfl (Or.inl rfl)) pgs_nil))) (fun _ _ _ _ _ => pts_nil) (fun _ _ _ _ _ => pe_ix (kx_tup K) (pc c1 hr (by rfl) (pa_cons (pv 2) pa_nil)) pe_int (fun _ _ => rfl))) pa_nil))), ?_⟩
    refine ⟨_, rfl, a, rfl, ⟨_, ha⟩, fun D hD => lcl (K := K) hD ha (small1000 (by omega)) (fun i ds => ds = ((g.take i).map lo).map PyData.int) rfl (fun i x ds Hc R1 R0 hx sm e _ r1 _ => ?_) (fun H1 ys ds s1 hD' dds e _ _ => ?_)⟩
    · obtain ⟨y, hy, dy⟩ := dpa_map (dma sm dx) hx
      obtain ⟨tt, bb, rfl, htt, hbb⟩ := dp_Lt dy
      refine ⟨tt, _, rfl, htt, rfl, _, _, rfl, _, _, rfl, rfl, rfl, yes ⟨_, rfl, bb, y.2, rfl, hbb, fun r H2 s2 dr => ?_⟩⟩
      obtain ⟨tr, rfl, htr⟩ := dp_pair dr
      refine ⟨tr, _, _, _, rfl, rfl, htr, at_of (j := 0) rfl rfl, r1 _ _ (.int (lo y)) s2 rfl (.int _) ?_⟩
      rw [e, List.take_add_one, hy]
      simp
    · subst e
      rw [lx, List.take_length] at dds
      have ey := dpa_ints dds
      refine ⟨D, g.map lo, rfl, SqL.of (by rw [hD', ey]), by rw [List.length_map]; exact List.length_pos_iff.mpr ne, fun m hm hle => ?_⟩
      obtain ⟨x, hx, ex⟩ := List.mem_map.mp hm
      rw [firstM_of (g := g) (m := m) ⟨x, hx, ex⟩ fun y hy => hle _ (List.mem_map.mpr ⟨y, hy, rfl⟩)]
      exact q H1 s1
end
end K60

namespace K60
open PySem PySem.Spec PyProof.Rows L2

section
variable {P : Program} {w : World} {K : PySem.W.Frag} {mg : Str → Option Value} {base : Heap}
def spAsKnot (K : PySem.W.Frag) : Sp := fun vs H Q _ => ∃ (a : Addr) (xs : List V) (g : List It), vs = [.ref a] ∧ SqL K H a xs ∧ DpAll K H xs (g.map encLt) ∧ g.length ≤ 500 ∧ ∀ v k H', Same H H' → LK g k → Dp K H' v (encK k) → Q v H'
theorem scAsKnot : FnScope ["_law_group", "_law_own", "_law_side", "_law_part"] ["_law_group"] (defScope sAsKnot) := ⟨rfl, rfl, rfl, by decide +kernel, rfl, by decide +kernel, by decide +kernel⟩
def scOwn : Scope := { kind := .function, names := [(".0", .local), ("_law_own", .cell), ("tuple", .globalImplicit), ("sorted", .globalImplicit), ("_law_group", .cell)], isGenerator := false, isCoroutine := false }
theorem parts_len {v : Int} {g : List It} : (parts v g).length ≤ g.length := List.length_filterMap_le _ _
theorem ok_asKnot {f : Addr} {fd : FuncData} (F : Fun K "_law_as_knot" "_law_as_knot" sAsKnot f fd) (T : Txt mg) : FnOk P w K mg base CX0 1 f fd ["_law_group"] (spAsKnot K) := by
  refine F.ok scAsKnot (fun vs H Q E h => ?_) (fun cdv A outer s H vs Q E hr h => ?_)
  · obtain ⟨a, xs, g, rfl, _⟩ := h
    rfl
  · obtain ⟨a, xs, g, rfl, ha, dx, lg, q⟩ := h
    have lx : xs.length = g.length := dpa_mapLen dx
    refine ⟨_, pss_one (ps_ret (pe_callTy call_tuple_of (by rfl) T.tuple (by decide +kernel) (pa_cons (pe_lc (own := [("_law_own", 1)]) (g := gName 1) (tt := tYes) rfl scAsKnot.nd (pi_tup (pe_tup (pa_cons pe_int (pa_cons pe_int pa_nil))))
          (blkOk_by (N := ["_law_group", "_law_own", "_law_side", "_law_part"]) (sc := defScope sAsKnot) (by decide +kernel)) (fun _ _ _ _ _ => pg_name (i := 1) scAsKnot.nd rfl (Or.inr rfl)) (fun _ _ _ _ _ => pts_nil)
          (fun _ _ _ _ _ => pe_callTy (kTupOf K) (by rfl) T.tuple (by decide +kernel) (pa_cons (pe_callB (kcr_sortD K (enc := encB) (first := fun b => b.1) (fun b => ⟨_, rfl⟩) alike_B depth_B hr.units) (by rfl) T.sorted (by decide +kernel)
            (pa_cons (pe_lc (own := [("_law_part", 3), ("_law_side", 2)]) (g := gTup K 2 (gCons (gName 2) (gCons (gName 3) gNil))) rfl scAsKnot.nd (kpi_list K (pv 0))
              (by show BlkOk ["_law_group", "_law_own", "_law_side", "_law_part"] scOwn _ _; exact blkOk_by (by decide +kernel))
              (fun _ _ _ _ _ => kg_tup K rfl (pgs_cons (pg_name (i := 2) scAsKnot.nd rfl (Or.inl rfl)) (pgs_cons (pg_name (i := 3) scAsKnot.nd rfl (Or.inl rfl)) pgs_nil))) (fun _ _ _ _ _ => pts_one (pt_cmpR op_eq (pv 2) (pv 1) (nomark _))) (fun _ _ _ _ _ => pv 3)) pa_nil)) pa_nil))) pa_nil))), ?_⟩
    refine ⟨by show 2 ≤ sizeLine; decide, fun p0 hp0 => ?_⟩
    have s0 : Same H (upd H p0 (.tup [.int 0, .int 1])) := same_new hp0
    refine ⟨p0, rfl, ⟨_, SqT.of upd_same⟩, fun D hD => lc_lf (K := K) (walk_tup (xs := [V.int 0, V.int 1])) (by show 2 < sizeLine; decide) hD (fun H s => same_seqT s (SqT.of upd_same))
      (fun i ds => ∃ ks : List (List Blk), ds = ks.map (fun l => PyData.tuple (l.map encB)) ∧ ks.length = i ∧ ∀ (j : Nat) (l : List Blk), ks[j]? = some l → l.Perm (parts ((j : Int) + 1) g) ∧ l.Pairwise (fun x y => x.1 ≤ y.1)) ⟨[], rfl, rfl, fun j l h => by simp at h⟩
      (fun i x ds H2 H2' R1 R0 hi sm P y _ r1 _ => ?_) (fun H2 ys ds sm hD' dds e _ _ => ?_)⟩
    · obtain ⟨rfl, hx⟩ := y
      obtain ⟨ks, rfl, lk, hk⟩ := P
      have ex : x = .int (i : Int) := by
        match i, hi, hx with
        | 0, _, hx => simpa using hx.symm
        | 1, _, hx => simpa using hx.symm
      subst ex
      have sA := s0.trans sm
      refine ⟨rfl, yes ?_⟩
      refine ⟨_, rfl, a, rfl, ⟨_, sA.seq ha⟩, fun D2 hD2 => lcl (K := K) hD2 (sA.seq ha) (small1000 (by omega)) (fun j ds => ds = (parts ((i : Int) + 1) (g.take j)).map encB) rfl (fun j x ds Hc R1 R0 hx sm2 e _ q1 q0 => ?_) (fun H3 ys3 ds sm3 hD3' dds3 e _ _ => ?_)⟩
      · obtain ⟨y, hy, dy⟩ := dpa_map (dma (sA.trans sm2) dx) hx
        obtain ⟨tt, bb, rfl, htt, hbb⟩ := dp_Lt dy
        refine ⟨tt, _, rfl, htt, rfl, _, _, rfl, _, _, rfl, rfl, rfl, ?_⟩
        by_cases e1 : y.1 = (i : Int) + 1
        · exact ⟨_, rfl, _, rfl, rfl, true, vT (by omega), iteT ⟨_, rfl, q1 _ _ (encB y.2) (Same.refl _) (lf_B _) hbb (by rw [e, parts_snoc hy, if_pos e1, List.map_append]; rfl)⟩⟩
        · exact ⟨_, rfl, _, rfl, rfl, false, vF (by omega), iteF (q0 _ (Same.refl _) (by rw [e, parts_snoc hy, if_neg e1, List.append_nil]))⟩
      · subst e
        rw [lx, List.take_length] at dds3
        refine ⟨D2, ys3, parts ((i : Int) + 1) g, rfl, SqL.of hD3', dds3, fun zv zs p hperm hsort dz hp => ?_⟩
        have s4 := same_new (o := .lst zv) hp
        refine ⟨p, zv, rfl, .inl ⟨SqL.of upd_same, fun t ht => ?_⟩⟩
        have s5 := same_new (o := .tup zv) ht
        refine r1 _ _ (.tuple (zs.map encB)) (sm3.trans (s4.trans s5)) (by rw [lf, lf_Bs]) (new_tup ht (dma s4 dz)) ⟨ks ++ [zs], by rw [List.map_append]; rfl, by rw [List.length_append, List.length_singleton, lk], fun j l hl => ?_⟩
        by_cases hj : j < ks.length
        · rw [List.getElem?_append_left hj] at hl
          exact hk j l hl
        · rw [List.getElem?_append_right (by omega)] at hl
          cases hd : j - ks.length with
          | zero =>
            rw [hd] at hl
            simp only [List.getElem?_cons_zero, Option.some.injEq] at hl
            subst hl
            have : j = i := by omega
            subst this
            exact ⟨hperm, hsort⟩
          | succ m =>
            rw [hd] at hl
            simp at hl
    · obtain ⟨ks, rfl, lk, hk⟩ := e
      have lk : ks.length = 2 := lk
      match ks, lk, hk, dds with
      | [k1, k2], _, hk, dds =>
        refine ⟨D, ys, rfl, .inl ⟨SqL.of hD', fun t ht => ?_⟩⟩
        have h1 := hk 0 k1 rfl
        have h2 := hk 1 k2 rfl
        exact q (.ref t) (k1, k2) _ (s0.trans (sm.trans (same_new ht))) ⟨h1.1, h1.2, h2.1, h2.2⟩ (new_tup ht dds)
end
end K60

namespace K60
open PySem PySem.Spec PyProof.Rows L2

theorem dgRoot {H : Hp} {d r tl dl wd : Addr} (h : H d = some (.dK (kvsOf r tl dl wd))) : DGet H d (.str "root") (some (.ref r)) := DGet.k (k := .inr "root") h
theorem dgTexts {H : Hp} {d r tl dl wd : Addr} (h : H d = some (.dK (kvsOf r tl dl wd))) : DGet H d (.str "texts") (some (.ref tl)) := DGet.k (k := .inr "texts") h
theorem dgDiffs {H : Hp} {d r tl dl wd : Addr} (h : H d = some (.dK (kvsOf r tl dl wd))) : DGet H d (.str "diffs") (some (.ref dl)) := DGet.k (k := .inr "diffs") h
theorem u1 {X : Cx} {k : Nat} (hr : Room k X.A) : X.A.units + 1 < cLine := Nat.lt_trans (Nat.add_lt_add_left (by decide) _) hr.units
theorem kdget {X : Cx} (K : PySem.W.Frag) {o i : Expr} {pos : Pos} {td ty : TE} (hu : X.A.units + 64 < cLine) (ho : PE X o td) (hi : PE X i ty) (hs : NoSl i) : PE X (.Subscript o i pos) (tDGet td ty) := pe_dget (Nat.lt_trans (Nat.add_lt_add_left (by decide) _) hu) ho hi hs

/-- a fresh list of fresh lists of blocks -/
def BP (K : PySem.W.Frag) (H0 H : Hp) (f : Addr) (Bs : List (List Blk)) : Prop := ∃ as : List Addr, H f = some (.lst (as.map V.ref)) ∧ as.length = Bs.length ∧ H0 f = Option.none ∧ (∀ a ∈ as, H0 a = Option.none ∧ a ≠ f) ∧
  ∀ (j : Nat) (a : Addr) (B : List Blk), as[j]? = some a → Bs[j]? = some B → ∃ xs, H a = some (.lst xs) ∧ DpAll K H xs (B.map encB)
def lawB (c : Cas) : List (List Blk) := [partsM c.root.length c.one.length c.p1, partsM c.root.length c.two.length c.p2]

section
variable {P : Program} {w : World} {K : PySem.W.Frag} {mg : Str → Option Value} {base : Heap}
def spBoth (K : PySem.W.Frag) : Sp := fun vs H Q _ => ∃ (d : Addr) (c : Cas), vs = [.ref d] ∧ CaseV K H d c ∧ GoodCas c ∧ ∀ f H', Same H H' → BP K H H' f (lawB c) → Q (.ref f) H'
theorem scBoth : FnScope ["_law_case_here", "_law_many", "_law_made", "_law_pairs"] ["_law_case_here"] (defScope sBoth) := ⟨rfl, rfl, rfl, by decide +kernel, rfl, by decide +kernel, by decide +kernel⟩
theorem ok_both {f : Addr} {fd : FuncData} (F : Fun K "_law_both_parts" "_law_both_parts" sBoth f fd) (T : Txt mg) (c1 : Cal P w K mg base 1 "_law_parts" (spParts K)) : FnOk P w K mg base CX0 2 f fd ["_law_case_here"] (spBoth K) := by
  refine F.ok scBoth (fun vs H Q E h => ?_) (fun cdv A outer s H vs Q E hr h => ?_)
  · obtain ⟨d, c, rfl, _⟩ := h
    rfl
  · obtain ⟨d, c, rfl, ⟨r, m1, m2, tl, dl, wd, q1, q2, C⟩, G, q⟩ := h
    refine ⟨_, pss_cons (ps_set (i := 1) scBoth.nd rfl (Or.inr rfl) (pe_callB call_len_seq (by rfl) T.len PySem.boot_len (pa_cons (kdget K hr.units (pv 0) pe_str (fun _ _ => rfl)) pa_nil)))
      (pss_one (ps_ret (pe_lc (own := [("_law_made", 2), ("_law_pairs", 3)]) (g := gTup K 2 (gCons (gName 2) (gCons (gName 3) gNil))) (tt := tYes) rfl scBoth.nd (pi_zip (by rfl) T.zip (pa_cons (kdget K hr.units (pv 0) pe_str (fun _ _ => rfl)) (pa_cons (kdget K hr.units (pv 0) pe_str (fun _ _ => rfl)) pa_nil)))
          (blkOk_by (N := ["_law_case_here", "_law_many", "_law_made", "_law_pairs"]) (sc := defScope sBoth) (by decide +kernel))
          (fun _ _ _ _ _ => kg_tup K rfl (pgs_cons (pg_name (i := 2) scBoth.nd rfl (Or.inl rfl)) (pgs_cons (pg_name (i := 3) scBoth.nd rfl (Or.inl rfl)) pgs_nil))) (fun _ _ _ _ _ => pts_nil)
          (fun _ _ _ _ _ => pc c1 hr (by rfl) (pa_cons (pv 1) (pa_cons (pe_callB (kLen K) (by rfl) T.len PySem.boot_len (pa_cons (pv 2) pa_nil)) (pa_cons (pv 3) pa_nil))))))), ?_⟩
    refine ⟨_, rfl, d, _, rfl, dgRoot C.dict, r, _, rfl, .inl C.root, ?_⟩
    rw [List.length_map]
    refine ⟨_, rfl, d, _, rfl, dgTexts C.dict, _, rfl, d, _, rfl, dgDiffs C.dict, tl, dl, [.ref m1, .ref m2], [q1, q2], rfl, SqL.of C.texts, SqL.of C.diffs, fun D hD => ?_⟩
    refine lc_it (te := fun σ H Q => tCons (tVar 1) (tCons (tCB (rLen K) (tCons (tVar 2) tNil)) (tCons (tVar 3) tNil)) σ H fun vs H1 => spParts K vs H1 Q E0) (walk_zip (xs := [.ref m1, .ref m2]) (ys := [q1, q2]) (n := 2) rfl)
      (fun i H' => Same H H' ∧ ∃ as : List Addr, H' D = some (.lst (as.map V.ref)) ∧ as.length = i ∧ (∀ a ∈ as, H a = Option.none ∧ a ≠ D) ∧ ∀ (j : Nat) (a : Addr) (B : List Blk), as[j]? = some a → (lawB c)[j]? = some B → ∃ xs, H' a = some (.lst xs) ∧ DpAll K H' xs (B.map encB))
      ⟨same_new hD, [], upd_same, rfl, fun a h => by simp at h, fun j a B h => by simp at h⟩ (fun i H' _ p => ⟨SqL.of (p.1 _ _ C.texts), SqL.of (p.1 _ _ C.diffs)⟩) ?_ ?_
    · rintro i x H' H'' hi ⟨sm, as, hD', la, fr, at'⟩ ⟨T, x1, x2, rfl, hT, rfl, e1, e2⟩
      have s1 : Same H' (upd H' T (.tup [x1, x2])) := same_new hT
      have sA := sm.trans s1
      refine ⟨T, _, rfl, SqT.of upd_same, rfl, _, _, rfl, _, _, rfl, rfl, rfl, yes ?_⟩
      generalize upd H' T (.tup [x1, x2]) = Hc at s1 sA ⊢
      obtain ⟨m, ms, qs, rfl, hm, dq, lq, eB⟩ : ∃ (m : Addr) (ms : List Str) (qs : List (Int × Int)), x1 = .ref m ∧ SqL K Hc m (ms.map V.str) ∧ Dp K Hc x2 (encPs qs) ∧ qs.length ≤ 60 ∧ (lawB c)[i]? = some (partsM c.root.length (ms.length : Int) qs) := by
        match i, hi, e1, e2 with
        | 0, _, e1, e2 =>
          simp only [List.getElem?_cons_zero, Option.some.injEq] at e1 e2
          subst e1 e2
          exact ⟨m1, c.one, c.p1, rfl, SqL.of (sA _ _ C.one), dm sA C.p1, Nat.le_trans G.lp1 (by decide), rfl⟩
        | 1, _, e1, e2 =>
          simp only [List.getElem?_cons_succ, List.getElem?_cons_zero, Option.some.injEq] at e1 e2
          subst e1 e2
          exact ⟨m2, c.two, c.p2, rfl, SqL.of (sA _ _ C.two), dm sA C.p2, Nat.le_trans G.lp2 (by decide), rfl⟩
      refine ⟨_, rfl, _, rfl, m, _, rfl, .inl hm, _, rfl, _, _, _, qs, rfl, dq, lq, fun q0 xs H4 s4 hq0 hq0' dx4 => ?_⟩
      rw [List.length_map] at dx4
      have hD4 := s4 _ _ (s1 _ _ hD')
      have nq : q0 ≠ D := (ne_of_none (s1 _ _ hD') hq0).symm
      have tD := TSame.updL (zs := as.map V.ref ++ [V.ref q0]) hD4
      refine ⟨_, hD4, small1000 (by rw [List.length_map]; omega), Bt.same (sA.trans s4) hD Bt.upd, as ++ [q0], by rw [upd_same, List.map_append]; rfl, by rw [List.length_append, List.length_singleton, la], fun a ha => ?_, fun j a B ha hB => ?_⟩
      · rcases List.mem_append.mp ha with h | h
        · exact fr a h
        · rw [List.mem_singleton.mp h]
          exact ⟨sA.free hq0, nq⟩
      · by_cases hj : j < as.length
        · rw [List.getElem?_append_left hj] at ha
          obtain ⟨ys, h1, h2⟩ := at' j a B ha hB
          exact ⟨ys, by rw [upd_ne (fr a (List.mem_of_getElem? ha)).2]; exact s4 _ _ (s1 _ _ h1), lfma tD (lf_Bs B) (dma (s1.trans s4) h2)⟩
        · rw [List.getElem?_append_right (by omega)] at ha
          cases hd : j - as.length with
          | zero =>
            rw [hd] at ha
            simp only [List.getElem?_cons_zero, Option.some.injEq] at ha
            subst ha
            have : j = i := by omega
            subst this
            rw [eB] at hB
            cases hB
            exact ⟨xs, by rw [upd_ne nq]; exact hq0', lfma tD (lf_Bs _) dx4⟩
          | succ k =>
            rw [hd] at ha
            simp at ha
    · rintro H' ⟨sm, as, hD', la, fr, at'⟩
      exact q D H' sm ⟨as, hD', la, hD, fr, at'⟩
end
end K60

namespace K60
open PySem PySem.Spec PyProof.Rows L2
abbrev sGroups : Stmt := top 43

theorem lay_all : ∀ l : List PyData, (∀ d ∈ l, d.canLay0 = true) → PyData.canLayAll0 l = true
  | [], _ => by simp [PyData.canLayAll0]
  | d :: l, h => by
    rw [PyData.canLayAll0, h d (by simp), lay_all l fun e he => h e (by simp [he])]
    rfl
theorem depth_all {n : Nat} : ∀ l : List PyData, (∀ d ∈ l, d.depth ≤ n) → PyData.depthAll l ≤ n
  | [], _ => by simp [PyData.depthAll]
  | d :: l, h => by
    rw [PyData.depthAll]
    have h1 := h d (by simp)
    have h2 := depth_all l fun e he => h e (by simp [he])
    omega
theorem lay_B (k : Blk) : (encB k).canLay0 = true := by
  unfold encB
  rw [PyData.canLay0]
  exact lay_ints _
theorem lay_Lt (x : It) : (encLt x).canLay0 = true := by
  unfold encLt
  rw [PyData.canLay0, PyData.canLayAll0, PyData.canLayAll0, PyData.canLayAll0, lay_B, PyData.canLay0]
  rfl
theorem depth_Lt (x : It) : (encLt x).depth ≤ 2 := by
  simp [encLt, encB, PyData.depth, PyData.depthAll]
def encG (g : List It) : PyData := .list (g.map encLt)
theorem lay_G (g : List It) : (encG g).canLay0 = true := by
  unfold encG
  rw [PyData.canLay0]
  exact lay_all _ fun d hd => by
    obtain ⟨x, _, rfl⟩ := List.mem_map.mp hd
    exact lay_Lt x
theorem depth_G (g : List It) : (encG g).depth ≤ 3 := by
  unfold encG
  rw [PyData.depth]
  have := depth_all (n := 2) (g.map encLt) fun d hd => by
    obtain ⟨x, _, rfl⟩ := List.mem_map.mp hd
    exact depth_Lt x
  omega
theorem shp_G (g : List It) : SeqAt.shaped (encG g) = true := shp_lay (lay_G g) (Nat.le_trans (depth_G g) (by decide))
theorem shp_Gs (gs : List (List It)) : SeqAt.shaped (.list (gs.map encG)) = true := by
  refine shp_lay ?_ ?_
  · rw [PyData.canLay0]
    exact lay_all _ fun d hd => by
      obtain ⟨x, _, rfl⟩ := List.mem_map.mp hd
      exact lay_G x
  · rw [PyData.depth]
    have := depth_all (n := 3) (gs.map encG) fun d hd => by
      obtain ⟨x, _, rfl⟩ := List.mem_map.mp hd
      exact depth_G x
    omega
theorem eqv_B (a b : Blk) : PyData.eqv (encB a) (encB b) = decide (a = b) := by
  obtain ⟨a1, a2, a3, a4⟩ := a
  obtain ⟨b1, b2, b3, b4⟩ := b
  unfold encB
  rw [eqv_ints]
  simp
theorem eqv_Lt (x y : It) : PyData.eqv (encLt x) (encLt y) = decide (x = y) := by
  obtain ⟨x1, x2⟩ := x
  obtain ⟨y1, y2⟩ := y
  unfold encLt
  rw [PyData.eqv, PyData.eqvAll, PyData.eqvAll, PyData.eqvAll, PyData.eqv, eqv_B]
  by_cases e1 : x1 = y1
  · by_cases e2 : x2 = y2 <;> simp [e1, e2]
  · have : ¬ x1 - 1 = y1 - 1 := by omega
    simp [e1, this]
theorem eqv_Lts : ∀ l m : List It, PyData.eqvAll (l.map encLt) (m.map encLt) = decide (l = m)
  | [], [] => by simp [PyData.eqvAll]
  | [], m :: ms => by simp [PyData.eqvAll]
  | n :: ns, [] => by simp [PyData.eqvAll]
  | n :: ns, m :: ms => by
    show PyData.eqvAll (encLt n :: ns.map encLt) (encLt m :: ms.map encLt) = _
    rw [PyData.eqvAll, eqv_Lts ns ms, eqv_Lt]
    by_cases e : n = m <;> by_cases e2 : ns = ms <;> simp [e, e2]
theorem eqv_G (g h : List It) : PyData.eqv (encG g) (encG h) = decide (g = h) := by
  unfold encG
  rw [PyData.eqv]
  exact eqv_Lts g h

/-! ### groups that lie as lists -/
def LtAt (K : PySem.W.Frag) (H : Hp) (a : Addr) (g : List It) : Prop := ∃ xs, H a = some (.lst xs) ∧ DpAll K H xs (g.map encLt)
def Lts (K : PySem.W.Frag) (H : Hp) (as : List Addr) (gs : List (List It)) : Prop := as.length = gs.length ∧ ∀ (j : Nat) (a : Addr) (g : List It), as[j]? = some a → gs[j]? = some g → LtAt K H a g
theorem LtAt.same {K : PySem.W.Frag} {H H' : Hp} {a : Addr} {g : List It} (e : Same H H') (h : LtAt K H a g) : LtAt K H' a g := let ⟨xs, h1, h2⟩ := h; ⟨xs, e _ _ h1, dma e h2⟩
theorem Lts.same {K : PySem.W.Frag} {H H' : Hp} {as : List Addr} {gs : List (List It)} (e : Same H H') (h : Lts K H as gs) : Lts K H' as gs := ⟨h.1, fun j a g h1 h2 => (h.2 j a g h1 h2).same e⟩
theorem Lts.nil {K : PySem.W.Frag} {H : Hp} : Lts K H [] [] := ⟨rfl, fun j a g h => by simp at h⟩
theorem Lts.snoc {K : PySem.W.Frag} {H : Hp} {as : List Addr} {gs : List (List It)} {a : Addr} {g : List It} (h : Lts K H as gs) (l : LtAt K H a g) : Lts K H (as ++ [a]) (gs ++ [g]) := by
  refine ⟨by rw [List.length_append, List.length_append, h.1]; rfl, fun j b k hb hk => ?_⟩
  by_cases hj : j < as.length
  · rw [List.getElem?_append_left hj] at hb
    rw [List.getElem?_append_left (h.1 ▸ hj)] at hk
    exact h.2 j b k hb hk
  · rw [List.getElem?_append_right (by omega)] at hb
    rw [List.getElem?_append_right (by rw [← h.1]; omega), ← h.1] at hk
    cases hd : j - as.length with
    | zero =>
      rw [hd] at hb hk
      simp only [List.getElem?_cons_zero, Option.some.injEq] at hb hk
      subst hb hk
      exact l
    | succ m =>
      rw [hd] at hb
      simp at hb
theorem Lts.upd {K : PySem.W.Frag} {H0 H : Hp} {D : Addr} {zs ws : List V} {as : List Addr} {gs : List (List It)} (h : Lts K H0 as gs) (s : Same H0 H) (n : H0 D = Option.none) (hD : H D = some (.lst zs)) : Lts K (upd H D (.lst ws)) as gs :=
  ⟨h.1, fun j a g h1 h2 => by
    obtain ⟨xs, h3, h4⟩ := h.2 j a g h1 h2
    exact ⟨xs, by rw [upd_ne (ne_of_none h3 n)]; exact s _ _ h3, lfma (TSame.updL hD) (lf_Lts g) (dma s h4)⟩⟩
theorem Lts.data {K : PySem.W.Frag} {H : Hp} : ∀ {as : List Addr} {gs : List (List It)}, Lts K H as gs → DpAll K H (as.map V.ref) (gs.map encG)
  | [], [], _ => .nil
  | [], _ :: _, h => by have := h.1; simp at this
  | _ :: _, [], h => by have := h.1; simp at this
  | a :: as, g :: gs, h => by
    obtain ⟨xs, h1, h2⟩ := h.2 0 a g rfl rfl
    exact .cons (.lst (SqL.of h1) h2) (Lts.data ⟨by have := h.1; simpa using this, fun j b k hb hk => h.2 (j + 1) b k (by simpa using hb) (by simpa using hk)⟩)

/-- a comprehension whose items stay as they are -/
theorem lcv {K : PySem.W.Frag} {a : Addr} {xs : List V} {g : TG} {tt : TT} {te : TE} {vs : List Nat} {σ : L2.St} {H1 : Hp} {D : Addr} {Qd : Hp → Prop} (hD : H1 D = Option.none) (hs : SqL K H1 a xs) (nz : xs.length < sizeLine)
    (P : Nat → List V → Prop) (p0 : P 0 [])
    (step : ∀ (i : Nat) (x : V) (ys : List V) (H : Hp) (R1 : V → Hp → Prop) (R0 : Hp → Prop), xs[i]? = some x → Same H1 H → P i ys →
      (∀ (y : V) (H4 : Hp), Same H H4 → P (i + 1) (ys ++ [y]) → R1 y H4) → (∀ H3, Same H H3 → P (i + 1) ys → R0 H3) →
      g x (wipe σ vs) H fun σ2 H2 => wipe σ2 vs = wipe σ vs ∧ tt σ2 H2 fun b H3 => if b = true then te σ2 H3 R1 else R0 H3)
    (hd : ∀ H ys, Same H1 H → H D = some (.lst ys) → P xs.length ys → ys.length ≤ xs.length → Qd H) :
    ∃ W : Nat → Nat → Hp → Prop, (∃ m, W 0 m (upd H1 D (.lst []))) ∧ ∀ i m H, W i m H →
      ((Itl K a).stop i H ∧ Qd H) ∨ ((Itl K a).go i H ∧ ∃ Nx : Hp → Prop, (∀ H', Nx H' → ∃ m', m' < m ∧ W (i + 1) m' H') ∧ ∀ x H', (Itl K a).yld i H x H' → g x (wipe σ vs) H' fun σ2 H2 => wipe σ2 vs = wipe σ vs ∧ tt σ2 H2 fun b H3 =>
        if b = true then te σ2 H3 fun y H4 => ∃ acc, H4 D = some (.lst acc) ∧ acc.length < sizeLine ∧ Nx (upd H4 D (.lst (acc ++ [y]))) else Nx H3) := by
  refine lc_it walk_list (fun i H => Same H1 H ∧ ∃ ys, H D = some (.lst ys) ∧ P i ys ∧ ys.length ≤ i) ⟨same_new hD, [], upd_same, p0, Nat.le_refl _⟩ (fun i H _ q => q.1.seq hs) ?_ ?_
  · rintro i x H H' hi ⟨s, ys, hy, p, ln⟩ ⟨rfl, hx⟩
    refine step i x ys H' _ _ hx s p (fun y H4 s4 p4 => ?_) fun H3 s3 p3 => ⟨s.trans s3, ys, s3 _ _ hy, p3, Nat.le_succ_of_le ln⟩
    exact ⟨ys, s4 _ _ hy, by omega, Bt.same (s.trans s4) hD Bt.upd, ys ++ [y], upd_same, p4, by rw [List.length_append, List.length_singleton]; omega⟩
  · rintro H ⟨s, ys, hy, p, ln⟩
    exact hd H ys s hy p ln
theorem filter_snoc {α : Type} {p : α → Bool} {l : List α} {i : Nat} {x : α} (h : l[i]? = some x) : (l.take (i + 1)).filter p = (l.take i).filter p ++ (if p x = true then [x] else []) := by
  rw [List.take_add_one, h, List.filter_append]
  cases e : p x <;> simp [e]
theorem kop_notInD {X : Cx} (K : PySem.W.Frag) (hu : X.A.units + 65 < cLine) (e : X.K = K := by rfl) : OpR X (compareOp .NotIn) (rNotInD K) := e ▸ op_notInD hu
theorem u65 {X : Cx} {k : Nat} (hr : Room k X.A) : X.A.units + 65 < cLine := by have := hr.un; omega
theorem joins_snoc {p : List It} {x : It} : joins (p ++ [x]) = lgStep (joins p) x := by
  unfold joins
  rw [List.foldl_append]
  rfl
theorem joins_len (p : List It) : (joins p).length ≤ p.length ∧ ∀ g ∈ joins p, g.length ≤ p.length := by
  have J := joined p
  have e := J.all.length_eq
  refine ⟨?_, fun g hg => ?_⟩
  · have := ne_flat_len J.ne
    omega
  · have := mem_flat_len hg
    omega
end K60

namespace K60
open PySem PySem.Spec PyProof.Rows L2

theorem sub_flat_len {α : Type} {l m : List (List α)} (h : l.Sublist m) : l.flatten.length ≤ m.flatten.length := by
  induction h with
  | slnil => exact Nat.le_refl _
  | cons a _ ih =>
    rw [List.flatten_cons, List.length_append]
    omega
  | cons_cons a _ ih =>
    rw [List.flatten_cons, List.length_append, List.flatten_cons, List.length_append]
    omega
theorem parts_len2 {m n : Int} {ps : List (Int × Int)} : (partsM m n ps).length ≤ ps.length + 1 := by
  have h := parts_fold (ps ++ [(m + 1, n + 1)]) ([], 0, 0)
  rw [List.length_append, List.length_singleton] at h
  simpa [partsM] using h
theorem lawB_len {c : Cas} (G : GoodCas c) : ∀ B ∈ lawB c, B.length ≤ 9 := fun B hB => by
  have h1 := G.lp1
  have h2 := G.lp2
  simp only [lawB, List.mem_cons, List.not_mem_nil, or_false] at hB
  rcases hB with rfl | rfl
  · exact Nat.le_trans parts_len2 (by omega)
  · exact Nat.le_trans parts_len2 (by omega)
def pre (Bs : List (List Blk)) : Nat → List It
  | 0 => []
  | n + 1 => pre Bs n ++ (Bs.getD n []).map fun k => ((n : Int) + 1, k)
theorem pre_len {Bs : List (List Blk)} (h : ∀ B ∈ Bs, B.length ≤ 9) : ∀ n, (pre Bs n).length ≤ 9 * n
  | 0 => Nat.le_refl _
  | n + 1 => by
    have ih := pre_len h n
    have l : (Bs.getD n []).length ≤ 9 := by
      rw [List.getD_eq_getElem?_getD]
      cases e : Bs[n]? with
      | none => exact Nat.zero_le _
      | some B => exact h B (List.mem_of_getElem? e)
    show (pre Bs n ++ (Bs.getD n []).map fun k => ((n : Int) + 1, k)).length ≤ _
    rw [List.length_append, List.length_map]
    omega
theorem pre_two (c : Cas) : pre (lawB c) 2 = items (partsM c.root.length c.one.length c.p1) (partsM c.root.length c.two.length c.p2) := by
  simp [pre, lawB, items]

def LawKnots (c : Cas) (ks : List Knot) : Prop := ∃ gs : List (List It), gs.Perm (joins (items (partsM c.root.length c.one.length c.p1) (partsM c.root.length c.two.length c.p2))) ∧ gs.Pairwise (fun g h => firstM g ≤ firstM h) ∧
  ks.length = gs.length ∧ ∀ (j : Nat) (g : List It) (k : Knot), gs[j]? = some g → ks[j]? = some k → LK g k
section
variable {P : Program} {w : World} {K : PySem.W.Frag} {mg : Str → Option Value} {base : Heap}
def spGroups (K : PySem.W.Frag) : Sp := fun vs H Q _ => ∃ (d : Addr) (c : Cas), vs = [.ref d] ∧ CaseV K H d c ∧ GoodCas c ∧ ∀ f xs ks H', Same H H' → H f = Option.none → H' f = some (.lst xs) → LawKnots c ks → DpAll K H' xs (ks.map encK) → Q (.ref f) H'
theorem scGroups : FnScope ["_law_case_here", "_law_groups_here", "_law_side", "_law_parts_here", "_law_part", "_law_own", "_law_low", "_law_high", "_law_met", "_law_group"] ["_law_case_here"] (defScope sGroups) := ⟨rfl, rfl, rfl, by decide +kernel, rfl, by decide +kernel, by decide +kernel⟩
theorem ok_groups {f : Addr} {fd : FuncData} (F : Fun K "_law_groups" "_law_groups" sGroups f fd) (T : Txt mg) (cb : Cal P w K mg base 2 "_law_both_parts" (spBoth K)) (cc : Cal P w K mg base 1 "_law_cover" (spCovered K)) (cm : Cal P w K mg base 2 "_law_is_met" (spIsMet K)) (ck : Cal P w K mg base 1 "_law_as_knot" (spAsKnot K))
    {ff : Addr} (mf : mg "_law_first_place" = some (.ref ff)) (kf : PySem.W.keepIn K (.ref ff) = true) (FF : FnR P w K mg base CX0 2 ff (spFirst K)) : FnOk P w K mg base CX0 5 f fd ["_law_case_here"] (spGroups K) := by
  refine F.ok scGroups (fun vs H Q E h => ?_) (fun cdv A outer s H vs Q E hr h => ?_)
  · obtain ⟨d, c, rfl, _⟩ := h
    rfl
  · obtain ⟨d, c, rfl, C, G, q⟩ := h
    refine ⟨_, pss_cons (ps_set (i := 1) scGroups.nd rfl (Or.inl rfl) (pe_lst pa_nil))
      (pss_cons (ps_for PassesOwn.never rfl (pi_enum (by rfl) T.enumerate (pa_cons (pc cb (hr.mono (by decide)) (by rfl) (pa_cons (pv 0) pa_nil)) pa_nil)) (pg_tup rfl (pgs_cons (pg_name (i := 2) scGroups.nd rfl (Or.inl rfl)) (pgs_cons (pg_name (i := 3) scGroups.nd rfl (Or.inl rfl)) pgs_nil)))
        (pss_one (ps_for PassesOwn.never rfl (pi_list (pv 3)) (pg_name (i := 4) scGroups.nd rfl (Or.inl rfl))
          (pss_cons (ps_set (i := 5) scGroups.nd rfl (Or.inl rfl) (pe_lst (pa_cons (pe_tup (pa_cons (pv 2) (pa_cons (pv 4) pa_nil))) pa_nil)))
          (pss_cons (ps_asg (pc cc (hr.mono (by decide)) (by rfl) (pa_cons (pv 4) pa_nil)) (pg_tup rfl (pgs_cons (pg_name (i := 6) scGroups.nd rfl (Or.inr rfl)) (pgs_cons (pg_name (i := 7) scGroups.nd rfl (Or.inr rfl)) pgs_nil))))
          (pss_cons (ps_set (i := 8) scGroups.nd rfl (Or.inr rfl) (pe_lc (own := [("_law_group", 9)]) (g := gName 9) rfl scGroups.nd (pi_list (pv 1))
              (blkOk_by (N := ["_law_case_here", "_law_groups_here", "_law_side", "_law_parts_here", "_law_part", "_law_own", "_law_low", "_law_high", "_law_met", "_law_group"]) (sc := defScope sGroups) (by decide +kernel)) (fun _ _ _ _ _ => pg_name (i := 9) scGroups.nd rfl (Or.inl rfl))
              (fun _ _ _ _ _ => pts_one (pt_val (pc cm (hr.mono (by decide)) (by rfl) (pa_cons (pv 9) (pa_cons (pv 6) (pa_cons (pv 7) pa_nil)))))) (fun _ _ _ _ _ => pv 9)))
          (pss_cons (ps_setLc (i := 1) (own := [("_law_group", 9)]) (g := gName 9) rfl scGroups.nd rfl rfl (by rfl) (pi_list (pv 1))
              (blkOk_by (N := ["_law_case_here", "_law_groups_here", "_law_side", "_law_parts_here", "_law_part", "_law_own", "_law_low", "_law_high", "_law_met", "_law_group"]) (sc := defScope sGroups) (by decide +kernel)) (fun _ _ _ _ _ => pg_name (i := 9) scGroups.nd rfl (Or.inl rfl))
              (fun _ _ _ _ _ => pts_one (pt_cmpR (kop_notInD K (u65 hr)) (pv 9) (pv 8) rfl)) (fun _ _ _ _ _ => pv 9))
          (pss_cons (ps_for PassesOwn.never rfl (pi_list (pv 8)) (pg_name (i := 9) scGroups.nd rfl (Or.inl rfl)) (pss_one (ps_set (i := 5) scGroups.nd rfl (Or.inl rfl) (pe_op op_cat (pv 5) (pv 9)))))
          (pss_one (ps_expr (pe_bm PySem.F.plainAttrs_list PySem.F.slot_list_append PySem.F.type_list_append mt_append (pv 1) (pa_cons (pv 5) pa_nil))))))))))))
      (pss_one (ps_ret (pe_lc (own := [("_law_group", 9)]) (g := gName 9) (tt := tYes) rfl scGroups.nd (pi_list (pe_callBK (cr_sortKey (enc := encG) (key := firstM) FF hr) (by rfl) T.sorted (by decide +kernel) (pa_cons (pv 1) pa_nil) (pk_cons (pe_glob (v := .ref ff) (by rfl) mf rfl) pk_nil)))
          (blkOk_by (N := ["_law_case_here", "_law_groups_here", "_law_side", "_law_parts_here", "_law_part", "_law_own", "_law_low", "_law_high", "_law_met", "_law_group"]) (sc := defScope sGroups) (by decide +kernel)) (fun _ _ _ _ _ => pg_name (i := 9) scGroups.nd rfl (Or.inl rfl)) (fun _ _ _ _ _ => pts_nil)
          (fun _ _ _ _ _ => pc ck (hr.mono (by decide)) (by rfl) (pa_cons (pv 9) pa_nil)))))), ?_⟩
    refine ⟨Nat.zero_le _, fun f0 hf0 => ?_⟩
    have s0 : Same H (upd H f0 (.lst [])) := same_new hf0
    refine ⟨_, rfl, d, c, rfl, C.same s0, G, fun fb H1 s1 hB => ?_⟩
    obtain ⟨bs, hfb, lbs, hfb0, frb, atb⟩ := hB
    have lbs2 : bs.length = 2 := lbs
    refine ⟨fb, _, rfl, SqL.of hfb, ?_⟩
    refine for_it (walk_enum (xs := bs.map V.ref)) (fun i σ H' => ∃ fg as v2 v3 v4 v5 v6 v7 v8 v9, σ = [some (.ref d), some (.ref fg), v2, v3, v4, v5, v6, v7, v8, v9] ∧ Same H1 H' ∧ H' fg = some (.lst (as.map V.ref)) ∧ Lts K H' as (joins (pre (lawB c) i)))
      ⟨f0, [], _, _, _, _, _, _, _, _, rfl, Same.refl _, s1 _ _ upd_same, Lts.nil⟩ (fun i σ H' _ ⟨_, _, _, _, _, _, _, _, _, _, _, sm, _⟩ => SqL.of (sm _ _ hfb)) ?_ ?_
    · rintro i x σ H' H'' hib ⟨fg, as, v2, v3, v4, v5, v6, v7, v8, v9, rfl, sm, hfg, L⟩ ⟨T, x1, x2, rfl, hT, rfl, e1, e2⟩
      rw [List.length_map] at hib
      cases e1
      have e2 : (bs.map V.ref)[i]? = some x2 := e2
      rw [List.getElem?_map] at e2
      obtain ⟨b, hbi, rfl⟩ := Option.map_eq_some_iff.mp e2
      obtain ⟨B, hBi⟩ : ∃ B, (lawB c)[i]? = some B := ⟨_, List.getElem?_eq_getElem (by rw [← lbs]; exact hib)⟩
      obtain ⟨pxs, hb1, dpx⟩ := atb i b B hbi hBi
      have lB := lawB_len G B (List.mem_of_getElem? hBi)
      have lpre := pre_len (lawB_len G) i
      have preS : pre (lawB c) (i + 1) = pre (lawB c) i ++ B.map fun k => ((i : Int) + 1, k) := by
        show pre (lawB c) i ++ ((lawB c).getD i []).map _ = _
        rw [List.getD_eq_getElem?_getD, hBi]
        rfl
      have lpx : pxs.length = B.length := dpa_mapLen dpx
      have s2 : Same H' (upd H' T (.tup [.int (i : Int), .ref b])) := same_new hT
      refine ⟨T, _, rfl, SqT.of upd_same, rfl, _, _, rfl, _, _, rfl, rfl, ?_⟩
      have smc := sm.trans s2
      have hfgc := s2 _ _ hfg
      have Lc := L.same s2
      generalize upd H' T (.tup [.int (i : Int), .ref b]) = Hc at smc hfgc Lc ⊢
      refine ⟨_, rfl, b, rfl, ⟨_, SqL.of (smc _ _ hb1)⟩, for_list (K := K) (a := b) (xs := pxs) (fun j σ H' => ∃ fg as v4 v5 v6 v7 v8 v9, σ = [some (.ref d), some (.ref fg), some (.int (i : Int)), some (.ref b), v4, v5, v6, v7, v8, v9] ∧ Same H1 H' ∧ H' fg = some (.lst (as.map V.ref)) ∧
          Lts K H' as (joins (pre (lawB c) i ++ (B.take j).map fun k => ((i : Int) + 1, k))))
        ⟨fg, as, _, _, _, _, _, _, rfl, smc, hfgc, by rw [List.take_zero, List.map_nil, List.append_nil]; exact Lc⟩ (fun j σ H' _ ⟨_, _, _, _, _, _, _, _, _, sm, _⟩ => SqL.of (sm _ _ hb1)) ?_ ?_⟩
      · rintro j x σ H2 hj ⟨fg, as, v4, v5, v6, v7, v8, v9, rfl, sm, hfg, L⟩
        have hj1 := (List.getElem?_eq_some_iff.mp hj).1
        obtain ⟨k, hk, dk⟩ := dpa_map (dma sm dpx) hj
        have preJ : pre (lawB c) i ++ (B.take (j + 1)).map (fun k => ((i : Int) + 1, k)) = (pre (lawB c) i ++ (B.take j).map fun k => ((i : Int) + 1, k)) ++ [((i : Int) + 1, k)] := by
          rw [List.take_add_one, hk, List.map_append, List.append_assoc]
          rfl
        rw [preJ, joins_snoc]
        have lp : (pre (lawB c) i ++ (B.take j).map fun k => ((i : Int) + 1, k)).length ≤ 100 := by
          rw [List.length_append, List.length_map, List.length_take]
          omega
        generalize pre (lawB c) i ++ (B.take j).map (fun k => ((i : Int) + 1, k)) = p0 at L lp ⊢
        obtain ⟨jl1, jl2⟩ := joins_len p0
        have jfl : (joins p0).flatten.length ≤ 100 := by rw [(joined p0).all.length_eq]; exact lp
        unfold lgStep
        generalize joins p0 = Gs at L jl1 jl2 jfl ⊢
        have las : as.length ≤ 100 := by rw [L.1]; omega
        refine ⟨_, rfl, _, rfl, by show 2 ≤ sizeLine; decide, fun t ht => ⟨by show 1 ≤ sizeLine; decide, fun o ho => ?_⟩⟩
        have s3 := same_new (o := .tup [.int (i : Int), x]) ht
        have s4 := same_new (o := .lst [.ref t]) ho
        have dT : Dp K _ (.ref t) (encLt ((i : Int) + 1, k)) := new_tup (K := K) (xs := [.int (i : Int), x]) ht (.cons (by show Dp K H2 (.int (i : Int)) (.int ((i : Int) + 1 - 1)); rw [show (i : Int) + 1 - 1 = (i : Int) by omega]; exact .int _) (.cons dk .nil))
        have Lo : LtAt K (upd (upd H2 t (.tup [.int (i : Int), x])) o (.lst [.ref t])) o [((i : Int) + 1, k)] := ⟨_, upd_same, .cons (dm s4 dT) .nil⟩
        have s34 := s3.trans s4
        generalize upd (upd H2 t (.tup [.int (i : Int), x])) o (.lst [.ref t]) = H3 at Lo s34 ⊢
        refine ⟨_, rfl, x, k, rfl, dm s34 dk, fun r H4 s4 dr => ?_⟩
        obtain ⟨tr, rfl, htr⟩ := dp_pair dr
        refine ⟨tr, _, rfl, htr, rfl, _, _, rfl, _, _, rfl, rfl, ?_⟩
        have s24 := s34.trans s4
        have hfg4 := s24 _ _ hfg
        have L4 := L.same s24
        have Lo4 := Lo.same s4
        refine ⟨_, rfl, fg, rfl, ⟨_, SqL.of hfg4⟩, fun D hD => lcv (K := K) (te := tVar 9) hD (SqL.of hfg4) (small1000 (by rw [List.length_map]; omega)) (fun m ys => ∃ ms : List Addr, ys = ms.map V.ref ∧ Lts K H4 ms ((Gs.take m).filter fun g => isMet g (lo ((i : Int) + 1, k)) (hi ((i : Int) + 1, k)))) ⟨[], rfl, Lts.nil⟩ (fun m y ys Hd R1 R0 hx sd e r1 r0 => ?_) (fun H5 ys s5 hD5 e _ => ?_)⟩
        · rw [List.getElem?_map] at hx
          obtain ⟨a, ha, rfl⟩ := Option.map_eq_some_iff.mp hx
          obtain ⟨g, hg⟩ : ∃ g, Gs[m]? = some g := ⟨_, List.getElem?_eq_getElem (by rw [← L.1]; exact (List.getElem?_eq_some_iff.mp ha).1)⟩
          obtain ⟨ms, rfl, Lm⟩ := e
          have la4 := L4.2 m a g ha hg
          obtain ⟨gx, hgx, dgx⟩ := la4.same sd
          have lg := jl2 g (List.mem_of_getElem? hg)
          refine ⟨rfl, ?_⟩
          refine ⟨_, rfl, _, rfl, _, rfl, a, gx, g, _, _, rfl, SqL.of hgx, dgx, by omega, fun He se => ⟨isMet g (lo ((i : Int) + 1, k)) (hi ((i : Int) + 1, k)), rfl, ?_⟩⟩
          have fs := filter_snoc (p := fun g => isMet g (lo ((i : Int) + 1, k)) (hi ((i : Int) + 1, k))) hg
          cases em : isMet g (lo ((i : Int) + 1, k)) (hi ((i : Int) + 1, k)) with
          | true =>
            rw [if_pos em] at fs
            exact iteT ⟨_, rfl, r1 _ _ se ⟨ms ++ [a], by rw [List.map_append]; rfl, by rw [fs]; exact Lm.snoc la4⟩⟩
          | false =>
            rw [if_neg (by rw [em]; decide), List.append_nil] at fs
            exact iteF (r0 _ se ⟨ms, rfl, by rw [fs]; exact Lm⟩)
        obtain ⟨ms, rfl, Lm⟩ := e
        rw [List.length_map, L.1, List.take_length] at Lm
        have lGm : (Gs.filter fun g => isMet g (lo ((i : Int) + 1, k)) (hi ((i : Int) + 1, k))).length ≤ 100 := Nat.le_trans (List.length_filter_le _ _) (by omega)
        have fGm : (Gs.filter fun g => isMet g (lo ((i : Int) + 1, k)) (hi ((i : Int) + 1, k))).flatten.length ≤ 100 := Nat.le_trans (sub_flat_len List.filter_sublist) jfl
        generalize (Gs.filter fun g => isMet g (lo ((i : Int) + 1, k)) (hi ((i : Int) + 1, k))) = Gm at Lm lGm fGm ⊢
        have hfg5 := s5 _ _ hfg4
        have L5 := L4.same s5
        have Lm5 := Lm.same s5
        have Lo5 := Lo4.same s5
        refine ⟨_, rfl, fg, rfl, ⟨_, SqL.of hfg5⟩, fun D2 hD2 => lcv (K := K) (te := tVar 9) hD2 (SqL.of hfg5) (small1000 (by rw [List.length_map]; omega)) (fun m ys => ∃ rs : List Addr, ys = rs.map V.ref ∧ Lts K H5 rs ((Gs.take m).filter fun g => !Gm.any fun z => decide (z = g))) ⟨[], rfl, Lts.nil⟩ (fun m y ys Hd R1 R0 hx sd e r1 r0 => ?_) (fun H6 ys s6 hD6 e _ => ?_)⟩
        · rw [List.getElem?_map] at hx
          obtain ⟨a, ha, rfl⟩ := Option.map_eq_some_iff.mp hx
          obtain ⟨g, hg⟩ : ∃ g, Gs[m]? = some g := ⟨_, List.getElem?_eq_getElem (by rw [← L.1]; exact (List.getElem?_eq_some_iff.mp ha).1)⟩
          obtain ⟨rs, rfl, Lr⟩ := e
          have la5 := L5.2 m a g ha hg
          obtain ⟨gx, hgx, dgx⟩ := la5.same sd
          refine ⟨rfl, ?_⟩
          have ea : (Gm.map encG).any (fun z => PyData.eqv z (encG g)) = Gm.any fun z => decide (z = g) := by
            rw [List.any_map]
            congr 1
            funext z
            exact eqv_G z g
          refine ⟨_, rfl, _, rfl, encG g, Gm.map encG, .lst (SqL.of hgx) dgx, .lst (SqL.of (sd _ _ hD5)) (Lts.data (Lm5.same sd)), shp_G g, shp_Gs Gm, !Gm.any fun z => decide (z = g), by rw [ea], ?_⟩
          have fs := filter_snoc (p := fun g => !Gm.any fun z => decide (z = g)) hg
          cases em : !Gm.any fun z => decide (z = g) with
          | true =>
            rw [if_pos em] at fs
            exact iteT ⟨_, rfl, r1 _ _ (Same.refl _) ⟨rs ++ [a], by rw [List.map_append]; rfl, by rw [fs]; exact Lr.snoc la5⟩⟩
          | false =>
            rw [if_neg (by rw [em]; decide), List.append_nil] at fs
            exact iteF (r0 _ (Same.refl _) ⟨rs, rfl, by rw [fs]; exact Lr⟩)
        obtain ⟨rs, rfl, Lr⟩ := e
        rw [List.length_map, L.1, List.take_length] at Lr
        have hDD6 := s6 _ _ hD5
        have noD : o ≠ D2 := by
          obtain ⟨xs, h1, _⟩ := Lo5
          exact ne_of_none h1 hD2
        refine ⟨_, rfl, D, rfl, ⟨_, SqL.of hDD6⟩, for_list (K := K) (a := D) (xs := ms.map V.ref) (fun m σ H' => ∃ o' v9', σ = [some (.ref d), some (.ref D2), some (.int (i : Int)), some (.ref b), some x, some (.ref o'), some (.int (lo ((i : Int) + 1, k))), some (.int (hi ((i : Int) + 1, k))), some (.ref D), v9'] ∧ Same H6 H' ∧ o' ≠ D2 ∧
            LtAt K H' o' ([((i : Int) + 1, k)] ++ (Gm.take m).flatten))
          ⟨o, _, rfl, Same.refl _, noD, by rw [List.take_zero]; exact Lo5.same s6⟩ (fun m σ H' _ ⟨_, _, _, s, _⟩ => SqL.of (s _ _ hDD6)) ?_ ?_⟩
        · rintro m y σ H7 hm ⟨o', v9', rfl, s7, no', Lo7⟩
          rw [List.getElem?_map] at hm
          obtain ⟨a, ha, rfl⟩ := Option.map_eq_some_iff.mp hm
          obtain ⟨g, hg⟩ : ∃ g, Gm[m]? = some g := ⟨_, List.getElem?_eq_getElem (by rw [← Lm.1]; exact (List.getElem?_eq_some_iff.mp ha).1)⟩
          obtain ⟨ox, hox, dox⟩ := Lo7
          obtain ⟨gx, hgx, dgx⟩ := (Lm5.2 m a g ha hg).same (s6.trans s7)
          have l1 : ox.length ≤ 101 := by
            rw [dpa_mapLen dox, List.length_append, List.length_singleton]
            have := sub_flat_len (List.take_sublist m Gm)
            omega
          have l2 : gx.length ≤ 100 := by
            rw [dpa_mapLen dgx]
            have := mem_flat_len (List.mem_of_getElem? hg)
            omega
          refine ⟨_, rfl, _, rfl, o', a, ox, gx, rfl, rfl, hox, hgx, Nat.le_of_lt (small1000 (by omega)), fun p hp => ?_⟩
          have s8 := same_new (o := .lst (ox ++ gx)) hp
          refine ⟨p, _, rfl, s7.trans s8, (ne_of_none (s7 _ _ hD6) hp).symm, ox ++ gx, upd_same, ?_⟩
          rw [List.take_add_one, hg, List.flatten_append, ← List.append_assoc, List.map_append]
          refine dpa_app (dma s8 dox) (dma s8 ?_)
          simpa using dgx
        · rintro σ H7 ⟨o', v9', rfl, s7, no', Lo7⟩
          rw [List.length_map, Lm.1, List.take_length] at Lo7
          have hD27 := s7 _ _ hD6
          have s57 := s6.trans s7
          have lr : rs.length ≤ 100 := by
            rw [Lr.1]
            exact Nat.le_trans (List.length_filter_le _ _) (by omega)
          refine ⟨_, rfl, .inl ⟨rfl, _, SqL.of hD27⟩, _, rfl, D2, _, _, rfl, rfl, hD27, small1000 (by rw [List.length_map]; omega), ?_⟩
          have sH1 : Same H1 H7 := sm.trans (s24.trans (s5.trans s57))
          refine ⟨D2, rs ++ [o'], _, _, _, _, _, _, rfl, Bt.same sH1 ((sm.trans (s24.trans s5)).free hD2) Bt.upd, by rw [upd_same, List.map_append]; rfl, ?_⟩
          refine (Lr.upd s57 hD2 hD27).snoc ?_
          obtain ⟨ox, hox, dox⟩ := Lo7
          exact ⟨ox, by rw [upd_ne no']; exact hox, lfma (TSame.updL hD27) (lf_Lts _) dox⟩
      · rintro σ H2 ⟨fg, as, v4, v5, v6, v7, v8, v9, rfl, sm, hfg, L⟩
        rw [lpx, List.take_length, ← preS] at L
        exact ⟨fg, as, _, _, _, _, _, _, _, _, rfl, sm, hfg, L⟩
    · rintro σ H2 ⟨fg, as, v2, v3, v4, v5, v6, v7, v8, v9, rfl, sm, hfg, L⟩
      rw [List.length_map, lbs2, pre_two] at L
      have lI : (items (partsM c.root.length c.one.length c.p1) (partsM c.root.length c.two.length c.p2)).length ≤ 18 := by
        rw [← pre_two]
        exact pre_len (lawB_len G) 2
      have J := joined (items (partsM c.root.length c.one.length c.p1) (partsM c.root.length c.two.length c.p2))
      obtain ⟨jl1, jl2⟩ := joins_len (items (partsM c.root.length c.one.length c.p1) (partsM c.root.length c.two.length c.p2))
      refine ⟨_, rfl, fg, as.map V.ref, _, rfl, rfl, SqL.of hfg, L.data, fun Ha x g sa hg dx => ?_, fun Ha ys cs p sa hperm hsort dys hp => ?_⟩
      · obtain ⟨a, xs, rfl, hs, hds⟩ := dp_lst dx
        have := jl2 g hg
        exact ⟨a, xs, g, rfl, hs, hds, J.ne g hg, by omega, fun Hb sb => ⟨rfl, sb⟩⟩
      · have s9 := same_new (o := .lst ys) hp
        have ly : ys.length = cs.length := dpa_mapLen dys
        have lcs : cs.length ≤ 18 := by rw [hperm.length_eq]; omega
        refine ⟨p, rfl, ⟨_, SqL.of upd_same⟩, fun D hD => lcl (K := K) (te := fun σ H Q => tCons (tVar 9) tNil σ H fun vs H1 => spAsKnot K vs H1 Q E0) hD (SqL.of upd_same) (small1000 (by omega))
          (fun j ds => ∃ ks : List Knot, ds = ks.map encK ∧ ks.length = j ∧ ∀ (m : Nat) (g : List It) (k : Knot), cs[m]? = some g → ks[m]? = some k → LK g k) ⟨[], rfl, rfl, fun m g k _ h => by simp at h⟩
          (fun j x ds Hc R1 R0 hx sc e _ r1 _ => ?_) (fun Hd ys2 ds sd hD' dds e _ _ => ?_)⟩
        · obtain ⟨ks, rfl, lk, hk⟩ := e
          obtain ⟨g, hg, dg⟩ := dpa_map (dma (s9.trans sc) dys) hx
          obtain ⟨a, xs, rfl, hs, hds⟩ := dp_lst dg
          have := jl2 g (hperm.mem_iff.mp (List.mem_of_getElem? hg))
          refine ⟨rfl, yes ⟨_, rfl, a, xs, g, rfl, hs, hds, by omega, fun v k He se lkk dk => r1 v He (encK k) se (lf_K k) dk ⟨ks ++ [k], by rw [List.map_append]; rfl, by rw [List.length_append, List.length_singleton, lk], fun m g' k' hg' hk' => ?_⟩⟩⟩
          by_cases hm : m < ks.length
          · rw [List.getElem?_append_left hm] at hk'
            exact hk m g' k' hg' hk'
          · rw [List.getElem?_append_right (by omega)] at hk'
            cases hd : m - ks.length with
            | zero =>
              rw [hd] at hk'
              simp only [List.getElem?_cons_zero, Option.some.injEq] at hk'
              subst hk'
              have : m = j := by omega
              subst this
              rw [hg] at hg'
              cases hg'
              exact lkk
            | succ n =>
              rw [hd] at hk'
              simp at hk'
        · obtain ⟨ks, rfl, lk, hk⟩ := e
          have sZ := s0.trans (s1.trans (sm.trans (sa.trans s9)))
          exact q D ys2 ks Hd (sZ.trans sd) (sZ.free hD) hD' ⟨cs, hperm, hsort, by omega, hk⟩ dds
end
end K60

namespace K60
open PySem PySem.Spec PyProof.Rows L2
abbrev sSortOf : Stmt := top 47

section
variable {P : Program} {w : World} {K : PySem.W.Frag} {mg : Str → Option Value} {base : Heap}
theorem r_cutL {H : Hp} {C : VK} {p : Addr} {zs : List Str} {lo hi : Option Int} (h : SqL K H p (zs.map V.str)) (k : ∀ c H1, Same H H1 → H1 c = some (.lst ((cutL zs lo hi).map V.str)) → C (.ref c) H1) : rSlL K (.ref p) lo hi H C :=
  ⟨p, _, rfl, h, fun c hc => k c _ (same_new hc) (by rw [upd_same, cutL_V])⟩
def spSortOf (K : PySem.W.Frag) : Sp := fun vs H Q _ => ∃ (v : V) (d : Addr) (k : Knot) (c : Cas), vs = [v, .ref d] ∧ Dp K H v (encK k) ∧ CaseV K H d c ∧ GoodCas c ∧ k.1.length + k.2.length ≤ 200 ∧ ∀ H', Same H H' → Q (.str (kindM k c.one c.two)) H'
theorem scSortOf : FnScope ["_law_knot", "_law_case_here", "_law_first", "_law_second_here", "_law_own", "_law_part"] ["_law_knot", "_law_case_here"] (defScope sSortOf) := ⟨rfl, rfl, rfl, by decide +kernel, rfl, by decide +kernel, by decide +kernel⟩
theorem ok_sortOf {f : Addr} {fd : FuncData} (F : Fun K "_law_sort_of" "_law_sort_of" sSortOf f fd) (T : Txt mg) : FnOk P w K mg base CX0 1 f fd ["_law_knot", "_law_case_here"] (spSortOf K) := by
  refine F.ok scSortOf (fun vs H Q E h => ?_) (fun cdv A outer s H vs Q E hr h => ?_)
  · obtain ⟨v, d, k, c, rfl, _⟩ := h
    rfl
  · obtain ⟨_, d, k, c, rfl, hk, CV, G, lk, q⟩ := h
    obtain ⟨t, a, b, xs, ys, rfl, ht, ha, hxs, hb, hys⟩ := dp_K hk
    have l1 : xs.length = k.1.length := dpa_mapLen hxs
    have l2 : ys.length = k.2.length := dpa_mapLen hys
    refine ⟨_, pss_cons (ps_asg (pv 0) (pg_tup rfl (pgs_cons (pg_name (i := 2) scSortOf.nd rfl (Or.inl rfl)) (pgs_cons (pg_name (i := 3) scSortOf.nd rfl (Or.inl rfl)) pgs_nil))))
      (pss_cons (ps_if (pt_not (pt_val (pe_callB (cr_any rfl) (by rfl) T.any (by decide +kernel) (pa_cons (pe_lc (own := [("_law_part", 5)]) (g := gName 5) (tt := tYes) rfl scSortOf.nd (pi_either (pi_list (pe_op op_catA (pv 2) (pv 3))) (pi_tup (pe_op op_catA (pv 2) (pv 3))))
          (blkOk_by (N := ["_law_knot", "_law_case_here", "_law_first", "_law_second_here", "_law_own", "_law_part"]) (sc := defScope sSortOf) (by decide +kernel)) (fun _ _ _ _ _ => pg_name (i := 5) scSortOf.nd rfl (Or.inl rfl)) (fun _ _ _ _ _ => pts_nil)
          (fun _ _ _ _ _ => pe_cmpR op_gt (pe_ix (kx_tup K) (pv 5) pe_int (fun _ _ => rfl)) (pe_ix (kx_tup K) (pv 5) pe_int (fun _ _ => rfl)) (nomark _))) pa_nil))))
          (pss_one (ps_ret pe_str)) pss_nil)
      (pss_cons (ps_if (pt_cmpR op_eq (pe_op op_add (pe_callB call_len_seq (by rfl) T.len PySem.boot_len (pa_cons (pv 2) pa_nil)) (pe_callB call_len_seq (by rfl) T.len PySem.boot_len (pa_cons (pv 3) pa_nil))) pe_int (nomark _))
          (pss_one (ps_ret (pe_ix ix_list (pe_lst (pa_cons pe_str (pa_cons pe_str pa_nil))) (pe_callB call_len_seq (by rfl) T.len PySem.boot_len (pa_cons (pv 2) pa_nil)) (fun _ _ => rfl)))) pss_nil)
      (pss_cons (ps_if (PW.pt (pw_and (pt_cmpR op_eq (pe_callB call_len_seq (by rfl) T.len PySem.boot_len (pa_cons (pv 2) pa_nil)) pe_int (nomark _)) (pw_and (pt_cmpR op_eq (pe_callB call_len_seq (by rfl) T.len PySem.boot_len (pa_cons (pv 3) pa_nil)) pe_int (nomark _))
          (pw_and1 (pt_cmpR (op_eqD hr.units) (pe_slice sl_tupA (pe_ix ix_tup (pv 2) pe_int (fun _ _ => rfl)) po_none (po_some pe_int)) (pe_slice sl_tupA (pe_ix ix_tup (pv 3) pe_int (fun _ _ => rfl)) po_none (po_some pe_int)) (nomark _))))))
          (pss_cons (ps_set (i := 4) scSortOf.nd rfl (Or.inl rfl) (pe_slice sl_list (pe_ix ix_list (kdget K hr.units (pv 1) pe_str (fun _ _ => rfl)) pe_int (fun _ _ => rfl)) (po_some (pe_ix ix_tup (pe_ix ix_tup (pv 2) pe_int (fun _ _ => rfl)) pe_int (fun _ _ => rfl))) (po_some (pe_ix ix_tup (pe_ix ix_tup (pv 2) pe_int (fun _ _ => rfl)) pe_int (fun _ _ => rfl)))))
          (pss_one (ps_if (pt_cmpR (op_eqD hr.units) (pv 4) (pe_slice sl_list (pe_ix ix_list (kdget K hr.units (pv 1) pe_str (fun _ _ => rfl)) pe_int (fun _ _ => rfl)) (po_some (pe_ix ix_tup (pe_ix ix_tup (pv 3) pe_int (fun _ _ => rfl)) pe_int (fun _ _ => rfl))) (po_some (pe_ix ix_tup (pe_ix ix_tup (pv 3) pe_int (fun _ _ => rfl)) pe_int (fun _ _ => rfl)))) (nomark _))
            (pss_one (ps_ret pe_str)) pss_nil))) pss_nil)
      (pss_one (ps_ret pe_str))))), ?_⟩
    refine ⟨_, rfl, t, _, rfl, ht, rfl, _, _, rfl, _, _, rfl, rfl, ?_⟩
    have lk1 : (xs ++ ys).length ≤ 1000 := by rw [List.length_append]; omega
    dsimp only
    refine w_seq (w_if (w_not (w_tb (w_cb1 (lc_cat (K := K) (xs := xs ++ ys) (fun P h => ⟨_, rfl, _, rfl, r_cat (K := K) ha hb (by rw [l1, l2]; exact Nat.le_of_lt (small1000 (by omega))) h⟩) (small1000 lk1) (fun i ds => ds = (((k.1 ++ k.2).take i).map comesB).map PyData.bool) rfl (fun D i x ds H2 R1 R0 hD hx sm e _ r1 _ => ?_) (fun D H2 ys1 ds hD sm hy hds e _ _ => ?_))))))
    · have hd : DpAll K H2 (xs ++ ys) ((k.1 ++ k.2).map encB) := by
        rw [List.map_append]
        exact dpa_app (dma sm hxs) (dma sm hys)
      obtain ⟨bk, hbk, db⟩ := dpa_map hd hx
      obtain ⟨tb, rfl, htb⟩ := dp_B db
      refine ⟨rfl, yes ⟨_, rfl, tb, _, _, _, rfl, rfl, htb, at_of (j := 3) rfl rfl, _, rfl, tb, _, _, _, rfl, rfl, htb, at_of (j := 2) rfl rfl, _, _, rfl, rfl, r1 _ _ (.bool (comesB bk)) (Same.refl _) rfl (.bl _) ?_⟩⟩
      rw [e, List.take_add_one, hbk]
      simp
    · subst e
      have lenT : (k.1 ++ k.2).take (xs ++ ys).length = k.1 ++ k.2 := List.take_of_length_le (by rw [List.length_append, List.length_append]; omega)
      rw [lenT] at hds
      have ey := bools_of hds
      refine ⟨D, (k.1 ++ k.2).map comesB, rfl, SqL.of (by rw [hy, ey]), ?_⟩
      have ea : ((k.1 ++ k.2).map comesB).any id = (k.1 ++ k.2).any comesB := by rw [List.any_map]; rfl
      rw [ea]
      have z := q H2 sm
      unfold kindM at z
      cases an : (k.1 ++ k.2).any comesB with
      | false =>
        rw [if_pos an] at z
        exact ⟨false, rfl, iteT z⟩
      | true =>
        rw [if_neg (by rw [an]; decide)] at z
        refine ⟨true, rfl, iteF ?_⟩
        have ha2 := same_seqT sm ha
        have hb2 := same_seqT sm hb
        refine ⟨_, rfl, a, _, rfl, .inr ha2, _, rfl, b, _, rfl, .inr hb2, _, _, rfl, rfl, rfl, ?_⟩
        rw [l1, l2]
        by_cases e1 : k.1.length + k.2.length = 1
        · refine ⟨true, vT (by omega), iteT ?_⟩
          refine ⟨by show 2 ≤ sizeLine; decide, fun q0 hq0 => ?_⟩
          have s3 : Same H2 (upd H2 q0 (.lst [.str "two", .str "one"])) := same_new hq0
          have z := q _ (sm.trans s3)
          unfold kindM at z
          rw [if_neg (by rw [an]; decide), if_pos e1] at z
          refine ⟨_, rfl, a, _, rfl, .inr (same_seqT s3 ha2), ?_⟩
          rw [l1]
          by_cases e2 : k.1.length = 1
          · rw [if_pos e2] at z
            rw [e2]
            exact ⟨q0, _, _, _, rfl, rfl, SqL.of upd_same, at_of (j := 1) rfl rfl, z⟩
          · rw [if_neg e2] at z
            rw [show k.1.length = 0 by omega]
            exact ⟨q0, _, _, _, rfl, rfl, SqL.of upd_same, at_of (j := 0) rfl rfl, z⟩
        · rw [if_neg e1] at z
          refine ⟨false, vF (by omega), iteF ?_⟩
          refine ⟨_, rfl, a, _, rfl, .inr ha2, rfl, ?_⟩
          rw [l1]
          by_cases e2 : k.1.length = 1
          · refine ⟨true, vT (by omega), iteT ?_⟩
            refine ⟨_, rfl, b, _, rfl, .inr hb2, rfl, ?_⟩
            rw [l2]
            by_cases e3 : k.2.length = 1
            · refine ⟨true, vT (by omega), iteT ?_⟩
              obtain ⟨k1, k2⟩ := k
              obtain ⟨x, rfl⟩ := List.length_eq_one_iff.mp e2
              obtain ⟨y, rfl⟩ := List.length_eq_one_iff.mp e3
              obtain ⟨x1, r1, rfl, hx1, hr1⟩ := dpa_cons hxs
              obtain ⟨y1, r2, rfl, hy1, hr22⟩ := dpa_cons hys
              obtain ⟨tx, rfl, htx⟩ := dp_B hx1
              obtain ⟨ty, rfl, hty⟩ := dp_B hy1
              have fin : ∀ H', Same H H' → Q (.str (if alikeM x y c.one c.two = true then "alike" else "clash")) H' := fun H' s' => by
                have z := q H' s'
                unfold kindM at z
                rw [if_neg (by rw [an]; decide), if_neg e1] at z
                exact z
              refine ⟨_, rfl, a, _, _, _, rfl, rfl, ha2, at_of (j := 0) rfl rfl, r_slice2 (K := K) (same_seqT sm htx) fun q1 H3 s3 h3 => ?_⟩
              refine ⟨_, rfl, b, _, _, _, rfl, rfl, same_seqT s3 hb2, at_of (j := 0) rfl rfl, r_slice2 (K := K) (same_seqT (sm.trans s3) hty) fun q2 H4 s4 h4 => ?_⟩
              have s34 := s3.trans s4
              have sA := sm.trans s34
              refine ⟨.tuple ([x.1, x.2.1].map PyData.int), .tuple ([y.1, y.2.1].map PyData.int), .tup (same_seqT s4 h3) (of_ints (l := [x.1, x.2.1])), .tup h4 (of_ints (l := [y.1, y.2.1])), shp_ints _, shp_ints _, decide ([x.1, x.2.1] = [y.1, y.2.1]), by rw [eqv_ints], ?_⟩
              by_cases e4 : [x.1, x.2.1] = [y.1, y.2.1]
              · rw [decide_eq_true e4]
                refine iteT ?_
                obtain ⟨r, m1, m2, tl, dl, wd, p1, p2, C⟩ := CV.same sA
                refine ⟨_, rfl, d, _, rfl, dgTexts C.dict, tl, _, _, _, rfl, rfl, SqL.of C.texts, at_of (j := 0) rfl rfl, ?_⟩
                refine ⟨_, rfl, a, _, _, _, rfl, rfl, same_seqT s34 ha2, at_of (j := 0) rfl rfl, tx, _, _, _, rfl, rfl, same_seqT sA htx, at_of (j := 2) rfl rfl, _, rfl, _, rfl, a, _, _, _, rfl, rfl, same_seqT s34 ha2, at_of (j := 0) rfl rfl, tx, _, _, _, rfl, rfl, same_seqT sA htx, at_of (j := 3) rfl rfl, _, rfl, ?_⟩
                refine r_cutL (K := K) (SqL.of C.one) fun c1 H5 s5 h5 => ?_
                have C5 := C.same s5
                refine ⟨_, rfl, _, rfl, d, _, rfl, dgTexts C5.dict, tl, _, _, _, rfl, rfl, SqL.of C5.texts, at_of (j := 1) rfl rfl, ?_⟩
                refine ⟨_, rfl, b, _, _, _, rfl, rfl, same_seqT (s34.trans s5) hb2, at_of (j := 0) rfl rfl, ty, _, _, _, rfl, rfl, same_seqT (sA.trans s5) hty, at_of (j := 2) rfl rfl, _, rfl, _, rfl, b, _, _, _, rfl, rfl, same_seqT (s34.trans s5) hb2, at_of (j := 0) rfl rfl, ty, _, _, _, rfl, rfl, same_seqT (sA.trans s5) hty, at_of (j := 3) rfl rfl, _, rfl, ?_⟩
                refine r_cutL (K := K) (SqL.of C5.two) fun c2 H6 s6 h6 => ?_
                refine ⟨.list ((cutL c.one (some x.2.2.1) (some x.2.2.2)).map PyData.str), .list ((cutL c.two (some y.2.2.1) (some y.2.2.2)).map PyData.str), .lst (SqL.of (s6 _ _ h5)) of_strs, .lst (SqL.of h6) of_strs, shp_strs (fun z hz => G.w1 z (cutL_mem hz)), shp_strs (fun z hz => G.w2 z (cutL_mem hz)),
                  decide (cutL c.one (some x.2.2.1) (some x.2.2.2) = cutL c.two (some y.2.2.1) (some y.2.2.2)), by rw [eqv_strs], ?_⟩
                have z := fin H6 (sA.trans (s5.trans s6))
                unfold alikeM at z
                rw [decide_eq_true e4, Bool.true_and] at z
                by_cases e5 : cutL c.one (some x.2.2.1) (some x.2.2.2) = cutL c.two (some y.2.2.1) (some y.2.2.2)
                · rw [decide_eq_true e5] at z ⊢
                  exact iteT z
                · rw [decide_eq_false e5] at z ⊢
                  exact iteF z
              · rw [decide_eq_false e4]
                have z := fin H4 sA
                unfold alikeM at z
                rw [decide_eq_false e4, Bool.false_and] at z
                exact iteF z
            · refine ⟨false, vF (by omega), iteF ?_⟩
              obtain ⟨k1, k2⟩ := k
              split at z
              · rename_i h4
                rw [h4] at e3
                exact absurd rfl e3
              · exact z
          · refine ⟨false, vF (by omega), iteF ?_⟩
            obtain ⟨k1, k2⟩ := k
            split at z
            · rename_i h3 _
              rw [h3] at e2
              exact absurd rfl e2
            · exact z
end
end K60

namespace K60
open PySem PySem.Spec PyProof.Rows L2
abbrev sKnotsRight : Stmt := top 49

/-! ### how long the shown data are -/
def Neat (n : Nat) (d : PyData) : Prop := d.showable = true ∧ d.leavesShort 13 = true ∧ d.weight ≤ n
theorem showAll : ∀ l : List PyData, (∀ d ∈ l, d.showable = true) → PyData.showableAll l = true
  | [], _ => by simp [PyData.showableAll]
  | d :: l, h => by
    rw [PyData.showableAll, h d (by simp), showAll l fun e he => h e (by simp [he])]
    rfl
theorem leavesAll : ∀ l : List PyData, (∀ d ∈ l, d.leavesShort 13 = true) → PyData.leavesShortAll 13 l = true
  | [], _ => by simp [PyData.leavesShortAll]
  | d :: l, h => by
    rw [PyData.leavesShortAll, h d (by simp), leavesAll l fun e he => h e (by simp [he])]
    rfl
theorem weightAll {n : Nat} : ∀ l : List PyData, (∀ d ∈ l, d.weight ≤ n) → PyData.weightAll l ≤ l.length * (n + 1)
  | [], _ => by simp [PyData.weightAll]
  | d :: l, h => by
    rw [PyData.weightAll, List.length_cons]
    have h1 := h d (by simp)
    have h2 := weightAll l fun e he => h e (by simp [he])
    rw [Nat.add_mul]
    omega
theorem Neat.list {n m : Nat} {l : List PyData} (h : ∀ d ∈ l, Neat n d) (len : l.length ≤ m) : Neat (m * (n + 1)) (.list l) := by
  refine ⟨?_, ?_, ?_⟩
  · rw [PyData.showable]
    exact showAll l fun d hd => (h d hd).1
  · rw [PyData.leavesShort]
    exact leavesAll l fun d hd => (h d hd).2.1
  · rw [PyData.weight]
    exact Nat.le_trans (weightAll l fun d hd => (h d hd).2.2) (Nat.mul_le_mul_right _ len)
theorem Neat.tuple {n m : Nat} {l : List PyData} (h : ∀ d ∈ l, Neat n d) (len : l.length ≤ m) : Neat (m * (n + 1)) (.tuple l) := by
  refine ⟨?_, ?_, ?_⟩
  · rw [PyData.showable]
    exact showAll l fun d hd => (h d hd).1
  · rw [PyData.leavesShort]
    exact leavesAll l fun d hd => (h d hd).2.1
  · rw [PyData.weight]
    exact Nat.le_trans (weightAll l fun d hd => (h d hd).2.2) (Nat.mul_le_mul_right _ len)
theorem Neat.mono {n m : Nat} {d : PyData} (h : Neat n d) (l : n ≤ m) : Neat m d := ⟨h.1, h.2.1, Nat.le_trans h.2.2 l⟩
theorem Neat.fits {n : Nat} {d : PyData} (h : Neat n d) (l : n ≤ 2 ^ 20) : d.shown.length ≤ sizeLine := PyData.shown_fits (by decide) (by decide) h.2.1 (Nat.le_trans h.2.2 l)
theorem Neat.int {i : Int} (h : i.natAbs ≤ 100) : Neat 7 (.int i) := by
  refine ⟨?_, ?_, ?_⟩
  · rw [PyData.showable, decide_eq_true_eq]
    have : i.natAbs.log2 ≤ i.natAbs := Nat.log2_le_self _
    omega
  · rw [PyData.leavesShort, decide_eq_true_eq]
    exact PyData.shown_int_le (by omega)
  · rw [PyData.weight]
    split
    · omega
    · rename_i hne
      have hp : i.natAbs ≠ 0 := by
        intro z
        have : i = 0 := by omega
        rw [this] at hne
        exact hne rfl
      have : i.natAbs.log2 < 7 := (Nat.log2_lt hp).mpr (by omega)
      omega
theorem Neat.word {z : Str} (h : Word z) : Neat 4 (.str z) := by
  refine ⟨by rw [PyData.showable], ?_, ?_⟩
  · exact (show ∀ z ∈ wordsAll, (PyData.str z).leavesShort 13 = true by decide +kernel) z h
  · exact (show ∀ z ∈ wordsAll, (PyData.str z).weight ≤ 4 by decide +kernel) z h
def SmallB (b : Blk) : Prop := b.1.natAbs ≤ 100 ∧ b.2.1.natAbs ≤ 100 ∧ b.2.2.1.natAbs ≤ 100 ∧ b.2.2.2.natAbs ≤ 100
theorem Neat.B {b : Blk} (h : SmallB b) : Neat 32 (encB b) := by
  refine Neat.tuple (n := 7) (m := 4) (fun d hd => ?_) (Nat.le_refl _)
  simp only [List.map_cons, List.map_nil, List.mem_cons, List.not_mem_nil, or_false] at hd
  rcases hd with rfl | rfl | rfl | rfl
  · exact Neat.int h.1
  · exact Neat.int h.2.1
  · exact Neat.int h.2.2.1
  · exact Neat.int h.2.2.2
def SmallK (k : Knot) : Prop := k.1.length ≤ 18 ∧ k.2.length ≤ 18 ∧ (∀ b ∈ k.1, SmallB b) ∧ ∀ b ∈ k.2, SmallB b
theorem Neat.K {k : Knot} (h : SmallK k) : Neat 1190 (encK k) := by
  refine Neat.tuple (n := 594) (m := 2) (fun d hd => ?_) (Nat.le_refl _)
  simp only [List.mem_cons, List.not_mem_nil, or_false] at hd
  rcases hd with rfl | rfl
  · refine Neat.tuple (n := 32) (m := 18) (fun d hd => ?_) (by rw [List.length_map]; exact h.1)
    obtain ⟨b, hb, rfl⟩ := List.mem_map.mp hd
    exact Neat.B (h.2.2.1 b hb)
  · refine Neat.tuple (n := 32) (m := 18) (fun d hd => ?_) (by rw [List.length_map]; exact h.2.1)
    obtain ⟨b, hb, rfl⟩ := List.mem_map.mp hd
    exact Neat.B (h.2.2.2 b hb)
def SmallKs (ks : List Knot) : Prop := ks.length ≤ 18 ∧ ∀ k ∈ ks, SmallK k
theorem Neat.Ks {ks : List Knot} (h : SmallKs ks) : Neat 21438 (.list (ks.map encK)) := by
  refine Neat.list (n := 1190) (m := 18) (fun d hd => ?_) (by rw [List.length_map]; exact h.1)
  obtain ⟨k, hk, rfl⟩ := List.mem_map.mp hd
  exact Neat.K (h.2 k hk)
theorem depth_Bs (l : List Blk) : PyData.depthAll (l.map encB) ≤ 1 := depth_all _ fun d hd => by
  obtain ⟨b, _, rfl⟩ := List.mem_map.mp hd
  simp [encB, PyData.depth, PyData.depthAll]
theorem depth_K (k : Knot) : (encK k).depth ≤ 3 := by
  have h1 := depth_Bs k.1
  have h2 := depth_Bs k.2
  simp only [encK, PyData.depth, PyData.depthAll]
  omega
theorem depth_Ks (ks : List Knot) : (PyData.list (ks.map encK)).depth ≤ 4 := by
  rw [PyData.depth]
  have := depth_all (n := 3) (ks.map encK) fun d hd => by
    obtain ⟨k, _, rfl⟩ := List.mem_map.mp hd
    exact depth_K k
  omega

/-! ### the blocks are small -/
theorem fold_small : ∀ (ps : List (Int × Int)) (st : BSt), (∀ b ∈ st.1, SmallB b) → 0 ≤ st.2.1 → st.2.1 ≤ 90 → 0 ≤ st.2.2 → st.2.2 ≤ 90 → (∀ p ∈ ps, 0 ≤ p.1 ∧ p.1 ≤ 90 ∧ 0 ≤ p.2 ∧ p.2 ≤ 90) → ∀ b ∈ (ps.foldl bStep st).1, SmallB b
  | [], st, h, _, _, _, _, _ => h
  | p :: ps, st, h, a0, a1, c0, c1, hp => by
    obtain ⟨p0, p1, p2, p3⟩ := hp p (by simp)
    refine fold_small ps (bStep st p) (fun b hb => ?_) p0 p1 p2 p3 fun q hq => hp q (by simp [hq])
    unfold bStep at hb
    dsimp only at hb
    split at hb
    · exact h b hb
    · rcases List.mem_append.mp hb with m | m
      · exact h b m
      · rw [List.mem_singleton.mp m]
        refine ⟨?_, ?_, ?_, ?_⟩ <;> dsimp only <;> omega
theorem GoodD.small {root made : List Str} {ps : List (Int × Int)} (g : GoodD root made ps) (lr : root.length ≤ 60) (lm : made.length ≤ 60) : ∀ b ∈ blocksM root.length made.length ps, SmallB b := by
  refine fold_small _ _ (fun b h => by simp at h) (by decide) (by decide) (by decide) (by decide) fun p hp => ?_
  rcases List.mem_append.mp hp with m | m
  · obtain ⟨i, j, z, rfl, hi, hj⟩ := g.pair p m
    have h1 := (List.getElem?_eq_some_iff.mp hi).1
    have h2 := (List.getElem?_eq_some_iff.mp hj).1
    dsimp only
    omega
  · rw [List.mem_singleton.mp m]
    dsimp only
    omega
theorem knots_eq {c : Cas} (G : GoodCas c) {ks kl : List Knot} (h : Knots (blocksM c.root.length c.one.length c.p1) (blocksM c.root.length c.two.length c.p2) ks) (l : LawKnots c kl) : kl = ks := by
  obtain ⟨s, hs, ps, rfl⟩ := h
  obtain ⟨gs, hg, pg, len, hk⟩ := l
  rw [G.d1.parts, G.d2.parts] at hg
  exact knots_same G.d1.chain G.d2.chain hs ps hg pg len hk
theorem knots_small {c : Cas} (G : GoodCas c) {ks : List Knot} (h : Knots (blocksM c.root.length c.one.length c.p1) (blocksM c.root.length c.two.length c.p2) ks) : SmallKs ks := by
  obtain ⟨s, hs, ps, rfl⟩ := h
  have ch1 := G.d1.chain
  have ch2 := G.d2.chain
  have lr := G.lr
  have la := G.l1
  have lb := G.l2
  have sm1 := GoodD.small G.d1 (by omega) (by omega)
  have sm2 := GoodD.small G.d2 (by omega) (by omega)
  have b1 : (blocksM c.root.length c.one.length c.p1).length ≤ 9 := Nat.le_trans blocks_len (Nat.succ_le_succ G.lp1)
  have b2 : (blocksM c.root.length c.two.length c.p2).length ≤ 9 := Nat.le_trans blocks_len (Nat.succ_le_succ G.lp2)
  have ls : s.length ≤ 18 := by rw [hs.length_eq, items_len]; omega
  have inS : ∀ x ∈ s, SmallB x.2 ∧ Wf x.2 := fun x hx => by
    rcases mem_items.mp (hs.mem_iff.mp hx) with ⟨_, m⟩ | ⟨_, m⟩
    · exact ⟨sm1 _ m, ch1.wf _ m⟩
    · exact ⟨sm2 _ m, ch2.wf _ m⟩
  have wf : ∀ x ∈ s, lo x ≤ hi x ∧ 0 ≤ lo x := fun x hx => by
    have w := (inS x hx).2
    have := lo_ge w
    have := w.1
    exact ⟨lo_hi w, by omega⟩
  obtain ⟨_, sw⟩ := swept wf ps
  have inG : ∀ g ∈ sweep s, ∀ x ∈ g, x ∈ s := fun g hg x hx => by rw [← sw.all]; exact List.mem_flatten.mpr ⟨g, hg, hx⟩
  have lg : ∀ g ∈ sweep s, g.length ≤ 18 := fun g hg => by
    have := mem_flat_len hg
    rw [sw.all] at this
    omega
  refine ⟨?_, fun k hk => ?_⟩
  · rw [List.length_map]
    have := ne_flat_len sw.ne
    rw [sw.all] at this
    omega
  · obtain ⟨g, hg, rfl⟩ := List.mem_map.mp hk
    have l := lg g hg
    refine ⟨Nat.le_trans parts_len l, Nat.le_trans parts_len l, fun b hb => ?_, fun b hb => ?_⟩
    · exact (inS _ (inG g hg _ (mem_parts.mp hb))).1
    · exact (inS _ (inG g hg _ (mem_parts.mp hb))).1
end K60

namespace K60
open PySem PySem.Spec PyProof.Rows L2

theorem CaseA.txRoot {K : PySem.W.Frag} {H : Hp} {d r m1 m2 tl dl wd : Addr} {q1 q2 : V} {c : Cas} (C : CaseA K H d r m1 m2 tl dl wd q1 q2 c) (G : GoodCas c) : TxtV K H (.ref r) c.root := ⟨r, rfl, .inl C.root, Nat.le_trans G.lr (by decide), fun z h => word_line (G.wr z h)⟩
theorem CaseA.txOne {K : PySem.W.Frag} {H : Hp} {d r m1 m2 tl dl wd : Addr} {q1 q2 : V} {c : Cas} (C : CaseA K H d r m1 m2 tl dl wd q1 q2 c) (G : GoodCas c) : TxtV K H (.ref m1) c.one := ⟨m1, rfl, .inl (SqL.of C.one), Nat.le_trans G.l1 (by decide), fun z h => word_line (G.w1 z h)⟩
theorem CaseA.txTwo {K : PySem.W.Frag} {H : Hp} {d r m1 m2 tl dl wd : Addr} {q1 q2 : V} {c : Cas} (C : CaseA K H d r m1 m2 tl dl wd q1 q2 c) (G : GoodCas c) : TxtV K H (.ref m2) c.two := ⟨m2, rfl, .inl (SqL.of C.two), Nat.le_trans G.l2 (by decide), fun z h => word_line (G.w2 z h)⟩
theorem CaseA.df1 {K : PySem.W.Frag} {H : Hp} {d r m1 m2 tl dl wd : Addr} {q1 q2 : V} {c : Cas} (C : CaseA K H d r m1 m2 tl dl wd q1 q2 c) (G : GoodCas c) : DiffV K H q1 c.root c.one c.p1 := ⟨G.d1, C.p1, Nat.le_trans G.lp1 (by decide)⟩
theorem CaseA.df2 {K : PySem.W.Frag} {H : Hp} {d r m1 m2 tl dl wd : Addr} {q1 q2 : V} {c : Cas} (C : CaseA K H d r m1 m2 tl dl wd q1 q2 c) (G : GoodCas c) : DiffV K H q2 c.root c.two c.p2 := ⟨G.d2, C.p2, Nat.le_trans G.lp2 (by decide)⟩
theorem new_txt {K : PySem.W.Frag} {H : Hp} {p : Addr} {zs : List Str} (n : H p = Option.none) (l : zs.length ≤ 60) (w : ∀ z ∈ zs, Word z) : TxtV K (upd H p (.tup (zs.map V.str))) (.ref p) zs := ⟨p, rfl, .inr (SqT.of upd_same), l, fun z h => word_line (w z h)⟩
abbrev textKs (ks : List Knot) : Str := (PyData.list (ks.map encK)).shown

section
variable {P : Program} {w : World} {K : PySem.W.Frag} {mg : Str → Option Value} {base : Heap}
def spKnotsRight (K : PySem.W.Frag) : Sp := fun vs H Q _ => ∃ (d : Addr) (v : V) (c : Cas) (ks : List Knot), vs = [.ref d, v] ∧ CaseV K H d c ∧ GoodCas c ∧ Dp K H v (.list (ks.map encK)) ∧ LawKnots c ks ∧ ∀ H', Same H H' → Q (.bl true) H'
theorem scKnotsRight : FnScope ["_law_case_here", "_law_due", "_law_root", "_law_first", "_law_second_here", "_law_pairs", "_law_more", "_law_told", "_law_again"] ["_law_case_here", "_law_due"] (defScope sKnotsRight) := ⟨rfl, rfl, rfl, by decide +kernel, rfl, by decide +kernel, by decide +kernel⟩
theorem ok_knotsRight {f : Addr} {fd : FuncData} (F : Fun K "_law_knots_right" "_law_knots_right" sKnotsRight f fd) (bd : Binds K fd ["_law_case_here", "_law_due"] []) (T : Txt mg) (c8 : Cal P w K mg base 8 "knots_of" (spKnots K)) : FnRG P w K mg base 9 f (spKnotsRight K) := by
  refine fnG F scKnotsRight bd (fun vs H Q E h => ?_) (fun cdv A outer s H vs Q hg hr h => ?_)
  · obtain ⟨d, v, c, ks, rfl, _⟩ := h
    rfl
  · obtain ⟨d, v, c, ks, rfl, ⟨r, m1, m2, tl, dl, wd, q1, q2, C⟩, G, hv, lawK, q⟩ := h
    refine ⟨_, pss_cons (ps_set (i := 2) scKnotsRight.nd rfl (Or.inl rfl) (kdget K hr.units (pv 0) pe_str (fun _ _ => rfl)))
      (pss_cons (ps_asg (kdget K hr.units (pv 0) pe_str (fun _ _ => rfl)) (pg_unl rfl (pgs_cons (pg_name (i := 3) scKnotsRight.nd rfl (Or.inl rfl)) (pgs_cons (pg_name (i := 4) scKnotsRight.nd rfl (Or.inl rfl)) pgs_nil))))
      (pss_cons (ps_asg (kdget K hr.units (pv 0) pe_str (fun _ _ => rfl)) (pg_unl rfl (pgs_cons (pg_name (i := 5) scKnotsRight.nd rfl (Or.inl rfl)) (pgs_cons (pg_name (i := 6) scKnotsRight.nd rfl (Or.inl rfl)) pgs_nil))))
      (pss_cons (ps_set (i := 7) scKnotsRight.nd rfl (Or.inl rfl) (pc c8 hr (by rfl) (pa_cons (pv 2) (pa_cons (pv 3) (pa_cons (pv 4) (pa_cons (pv 5) (pa_cons (pv 6) pa_nil)))))))
      (pss_cons (ps_if (PW.pt (pw_or (pt_not (pt_val (pe_callB call_isi (by rfl) T.isi (by decide +kernel) (pa_cons (pv 7) (pa_cons (pe_bltn (v := .ty "list") (by rfl) T.list (by decide +kernel) rfl) pa_nil)))))
          (pw_or1 (pt_cmpR op_ne (pe_callB (cr_repr hg hr.units) (by rfl) T.repr (by decide +kernel) (pa_cons (pv 7) pa_nil)) (pe_callB (cr_repr hg hr.units) (by rfl) T.repr (by decide +kernel) (pa_cons (pv 1) pa_nil)) (nomark _)))))
          (pss_one (ps_ret pe_bl)) pss_nil)
      (pss_cons (ps_expr (pe_bm PySem.F.plainAttrs_list PySem.F.slot_list_append PySem.F.type_list_append mt_append (pv 7) (pa_cons pe_non pa_nil)))
      (pss_cons (ps_par3 rfl scKnotsRight.nd (i := 2) (j := 3) (l := 4) rfl rfl rfl (by decide) (by decide) (by decide) rfl rfl rfl (pa_cons (pe_callTy call_tuple_of (by rfl) T.tuple (by decide +kernel) (pa_cons (pv 2) pa_nil)) (pa_cons (pe_callTy call_tuple_of (by rfl) T.tuple (by decide +kernel) (pa_cons (pv 3) pa_nil)) (pa_cons (pe_callTy call_tuple_of (by rfl) T.tuple (by decide +kernel) (pa_cons (pv 4) pa_nil)) pa_nil))) (by rfl))
      (pss_cons (ps_set (i := 8) scKnotsRight.nd rfl (Or.inl rfl) (pc c8 hr (by rfl) (pa_cons (pv 2) (pa_cons (pv 3) (pa_cons (pv 4) (pa_cons (pv 5) (pa_cons (pv 6) pa_nil)))))))
      (pss_one (ps_ret (pe_cmpR op_eq (pe_callB (cr_repr hg hr.units) (by rfl) T.repr (by decide +kernel) (pa_cons (pv 8) pa_nil)) (pe_callB (cr_repr hg hr.units) (by rfl) T.repr (by decide +kernel) (pa_cons (pv 1) pa_nil)) (nomark _)))))))))))
      , ?_⟩
    refine ⟨_, rfl, d, _, rfl, dgRoot C.dict, ?_⟩
    refine ⟨_, rfl, d, _, rfl, dgTexts C.dict, tl, _, rfl, SqL.of C.texts, rfl, _, _, rfl, _, _, rfl, rfl, ?_⟩
    refine ⟨_, rfl, d, _, rfl, dgDiffs C.dict, dl, _, rfl, SqL.of C.diffs, rfl, _, _, rfl, _, _, rfl, rfl, ?_⟩
    refine ⟨_, rfl, _, rfl, _, rfl, _, rfl, _, rfl, .ref r, .ref m1, .ref m2, q1, q2, c.root, c.one, c.two, c.p1, c.p2, rfl, C.txRoot G, C.txOne G, C.txTwo G, C.df1 G, C.df2 G, fun qa ys k1 H1 s1 hqa hqa' hk1 dy1 => ?_⟩
    have ek := knots_eq G hk1 lawK
    subst ek
    have sm := knots_small G hk1
    have nt := Neat.Ks sm
    obtain ⟨va, vx, rfl, hva, hvx⟩ := dp_lst hv
    refine ⟨_, rfl, _, _, _, _, true, rfl, .ty _, tyL (K := K) (SqL.of hqa'), kit_ty (by decide +kernel), true, rfl, iteF ?_⟩
    refine ⟨_, rfl, qa, .list (ks.map encK), rfl, .lst (SqL.of hqa') dy1, nt.1, nt.fits (by decide), Nat.le_trans (depth_Ks ks) (by decide), ?_⟩
    refine ⟨_, rfl, va, .list (ks.map encK), rfl, dm s1 hv, nt.1, nt.fits (by decide), Nat.le_trans (depth_Ks ks) (by decide), rfl, false, ?_, iteF ?_⟩
    · exact congrArg V.bl (by rw [decide_eq_true rfl]; rfl)
    have ly : ys.length ≤ 18 := by rw [dpa_mapLen dy1]; exact sm.1
    refine ⟨_, rfl, .inl ⟨rfl, _, SqL.of hqa'⟩, qa, _, _, rfl, rfl, hqa', small1000 (by omega), ?_⟩
    have s2 : Same H (upd H1 qa (.lst (ys ++ [.non]))) := Bt.same s1 hqa Bt.upd
    generalize upd H1 qa (.lst (ys ++ [.non])) = H2 at s2 ⊢
    have C2 := C.same s2
    refine ⟨_, rfl, r, _, rfl, .inl ⟨C2.root, fun t1 ht1 => ?_⟩⟩
    have s3 := same_new (o := .tup (c.root.map V.str)) ht1
    refine ⟨_, rfl, m1, _, rfl, .inl ⟨SqL.of (s3 _ _ C2.one), fun t2 ht2 => ?_⟩⟩
    have s4 := same_new (o := .tup (c.one.map V.str)) ht2
    refine ⟨_, rfl, m2, _, rfl, .inl ⟨SqL.of (s4 _ _ (s3 _ _ C2.two)), fun t3 ht3 => ?_⟩⟩
    have s5 := same_new (o := .tup (c.two.map V.str)) ht3
    have sB := s2.trans (s3.trans (s4.trans s5))
    have x1 := (new_txt (K := K) ht1 (Nat.le_trans G.lr (by decide)) G.wr).mono (s4.trans s5)
    have x2 := (new_txt (K := K) ht2 (Nat.le_trans G.l1 (by decide)) G.w1).mono s5
    have x3 := new_txt (K := K) ht3 (Nat.le_trans G.l2 (by decide)) G.w2
    refine ⟨_, _, _, rfl, ?_⟩
    refine ⟨_, rfl, _, rfl, _, rfl, _, rfl, _, rfl, .ref t1, .ref t2, .ref t3, q1, q2, c.root, c.one, c.two, c.p1, c.p2, rfl, x1, x2, x3, (C.df1 G).mono sB, (C.df2 G).mono sB, fun qc ys2 k2 H3 s6 hqc hqc' hk2 dy2 => ?_⟩
    have ek2 := knots_eq G hk2 lawK
    subst ek2
    refine ⟨_, rfl, qc, .list (ks.map encK), rfl, .lst (SqL.of hqc') dy2, nt.1, nt.fits (by decide), Nat.le_trans (depth_Ks ks) (by decide), ?_⟩
    refine ⟨_, rfl, va, .list (ks.map encK), rfl, dm (sB.trans s6) hv, nt.1, nt.fits (by decide), Nat.le_trans (depth_Ks ks) (by decide), rfl, ?_⟩
    exact qb (decide_eq_true rfl) (q H3 (sB.trans s6))
end
end K60

namespace K60
open PySem PySem.Spec PyProof.Rows L2
abbrev sRight : Stmt := top 50
abbrev sLaw : Stmt := top 51

theorem knots_law {c : Cas} (G : GoodCas c) {ks : List Knot} (l : LawKnots c ks) : Knots (blocksM c.root.length c.one.length c.p1) (blocksM c.root.length c.two.length c.p2) ks := by
  have hp := List.mergeSort_perm (items (blocksM c.root.length c.one.length c.p1) (blocksM c.root.length c.two.length c.p2)) (fun x y => decide (lo x ≤ lo y))
  have pw := List.pairwise_mergeSort (le := fun x y : It => decide (lo x ≤ lo y)) (fun a b c h1 h2 => by simp only [decide_eq_true_eq] at *; omega) (fun a b => by simp only [Bool.or_eq_true, decide_eq_true_eq]; omega) (items (blocksM c.root.length c.one.length c.p1) (blocksM c.root.length c.two.length c.p2))
  have pw2 := pw.imp (S := fun x y => lo x ≤ lo y) fun h => of_decide_eq_true h
  obtain ⟨gs, hg, pg, len, hk⟩ := l
  rw [G.d1.parts, G.d2.parts] at hg
  exact ⟨_, hp, pw2, knots_same G.d1.chain G.d2.chain hp pw2 hg pg len hk⟩
theorem knots_some {c : Cas} (G : GoodCas c) {ks : List Knot} (h : Knots (blocksM c.root.length c.one.length c.p1) (blocksM c.root.length c.two.length c.p2) ks) : ∀ k ∈ ks, k.1 ++ k.2 ≠ [] := by
  obtain ⟨s, hs, ps, rfl⟩ := h
  exact knot_ne G.d1.chain G.d2.chain hs ps

/-! ### what the law shows of its own case -/
def zsOf (c : Cas) : List (Str × PyData) := [("root", .list (c.root.map PyData.str)), ("texts", .list [.list (c.one.map PyData.str), .list (c.two.map PyData.str)]), ("diffs", .list [encPs c.p1, encPs c.p2]), ("words", .list (c.words.map PyData.str))]
theorem CaseA.vals {K : PySem.W.Frag} {H : Hp} {d r m1 m2 tl dl wd : Addr} {q1 q2 : V} {c : Cas} (C : CaseA K H d r m1 m2 tl dl wd q1 q2 c) : DpAll K H ((kvsOf r tl dl wd).map (·.2)) ((zsOf c).map (·.2)) :=
  .cons (.lst C.root of_strs) (.cons (.lst (SqL.of C.texts) (.cons (.lst (SqL.of C.one) of_strs) (.cons (.lst (SqL.of C.two) of_strs) .nil))) (.cons (.lst (SqL.of C.diffs) (.cons C.p1 (.cons C.p2 .nil))) (.cons (.lst C.words of_strs) .nil)))
theorem Neat.words {zs : List Str} {m : Nat} (h : ∀ z ∈ zs, Word z) (l : zs.length ≤ m) : Neat (m * 5) (.list (zs.map PyData.str)) :=
  Neat.list (n := 4) (fun d hd => by obtain ⟨z, hz, rfl⟩ := List.mem_map.mp hd; exact Neat.word (h z hz)) (by rw [List.length_map]; exact l)
theorem Neat.pairs {root made : List Str} {ps : List (Int × Int)} (g : GoodD root made ps) (lr : root.length ≤ 60) (lm : made.length ≤ 60) (l : ps.length ≤ 8) : Neat 136 (encPs ps) := by
  refine Neat.tuple (n := 16) (m := 8) (fun d hd => ?_) (by rw [List.length_map]; exact l)
  obtain ⟨p, hp, rfl⟩ := List.mem_map.mp hd
  obtain ⟨i, j, z, rfl, hi, hj⟩ := g.pair p hp
  have h1 := (List.getElem?_eq_some_iff.mp hi).1
  have h2 := (List.getElem?_eq_some_iff.mp hj).1
  refine Neat.tuple (n := 7) (m := 2) (fun d hd => ?_) (Nat.le_refl _)
  simp only [List.mem_cons, List.not_mem_nil, or_false] at hd
  rcases hd with rfl | rfl
  · exact Neat.int (by omega)
  · exact Neat.int (by omega)
theorem Neat.two {n : Nat} {a b : PyData} (h : Neat n a) (g : Neat n b) : Neat (2 * (n + 1)) (.list [a, b]) := Neat.list (n := n) (m := 2) (fun d hd => by
  simp only [List.mem_cons, List.not_mem_nil, or_false] at hd
  rcases hd with rfl | rfl
  · exact h
  · exact g) (Nat.le_refl _)
theorem case_neat {c : Cas} (G : GoodCas c) : PyData.showableKv (kvD (zsOf c)) = true ∧ (dictText (PyData.shownKv (kvD (zsOf c)))).length ≤ sizeLine ∧ PyData.depthKv (kvD (zsOf c)) ≤ 60 := by
  have lr := G.lr
  have la := G.l1
  have lb := G.l2
  have n1 := Neat.words G.wr (m := 24) (by omega)
  have n2 := Neat.two (Neat.words G.w1 la) (Neat.words G.w2 lb)
  have n3 := Neat.two (Neat.pairs G.d1 (by omega) (by omega) G.lp1) (Neat.pairs G.d2 (by omega) (by omega) G.lp2)
  have n4 := Neat.words G.ww (m := 24) (by have := G.lw; omega)
  have dstr : ∀ zs : List Str, PyData.depthAll (zs.map PyData.str) = 0 := depth_strs
  have dps : ∀ ps : List (Int × Int), PyData.depthAll (ps.map encP) ≤ 1 := fun ps => depth_all _ fun d hd => by
    obtain ⟨p, _, rfl⟩ := List.mem_map.mp hd
    simp [encP, PyData.depth, PyData.depthAll]
  generalize e1 : PyData.list (c.root.map PyData.str) = d1 at n1
  generalize e2 : PyData.list [.list (c.one.map PyData.str), .list (c.two.map PyData.str)] = d2 at n2
  generalize e3 : PyData.list [encPs c.p1, encPs c.p2] = d3 at n3
  generalize e4 : PyData.list (c.words.map PyData.str) = d4 at n4
  have ez : kvD (zsOf c) = [(.str "root", d1), (.str "texts", d2), (.str "diffs", d3), (.str "words", d4)] := by
    unfold kvD zsOf
    rw [e1, e2, e3, e4]
    rfl
  rw [ez]
  have k1 : (PyData.str "root").leavesShort 13 = true ∧ (PyData.str "texts").leavesShort 13 = true ∧ (PyData.str "diffs").leavesShort 13 = true ∧ (PyData.str "words").leavesShort 13 = true := by decide +kernel
  have k2 : (PyData.str "root").weight ≤ 10 ∧ (PyData.str "texts").weight ≤ 10 ∧ (PyData.str "diffs").weight ≤ 10 ∧ (PyData.str "words").weight ≤ 10 := by decide +kernel
  refine ⟨?_, ?_, ?_⟩
  · simp only [PyData.showableKv, n1.1, n2.1, n3.1, n4.1, Bool.and_true]
    rfl
  · refine PyData.shown_fits (B := 13) (d := .dict [(.str "root", d1), (.str "texts", d2), (.str "diffs", d3), (.str "words", d4)]) (by decide) (by decide) ?_ ?_
    · simp only [PyData.leavesShort, PyData.leavesShortKv, n1.2.1, n2.2.1, n3.2.1, n4.2.1, Bool.and_true]
      simp only [PyData.leavesShort] at k1
      simp only [k1.1, k1.2.1, k1.2.2.1, k1.2.2.2, Bool.and_true]
    · simp only [PyData.weight, PyData.weightKv]
      simp only [PyData.weight] at k2
      have := n1.2.2
      have := n2.2.2
      have := n3.2.2
      have := n4.2.2
      omega
  · rw [← e1, ← e2, ← e3, ← e4]
    simp only [PyData.depthKv, PyData.depth, PyData.depthAll, encPs, dstr]
    have := dps c.p1
    have := dps c.p2
    omega
theorem eqv_encP (a b : Int × Int) : PyData.eqv (encP a) (encP b) = decide (a = b) := by
  obtain ⟨a1, a2⟩ := a
  obtain ⟨b1, b2⟩ := b
  have h := eqv_ints [a1, a2] [b1, b2]
  show PyData.eqv (.tuple ([a1, a2].map PyData.int)) (.tuple ([b1, b2].map PyData.int)) = _
  rw [h]
  simp
theorem eqv_encPs : ∀ l m : List (Int × Int), PyData.eqvAll (l.map encP) (m.map encP) = decide (l = m)
  | [], [] => by simp [PyData.eqvAll]
  | [], m :: ms => by simp [PyData.eqvAll]
  | n :: ns, [] => by simp [PyData.eqvAll]
  | n :: ns, m :: ms => by
    show PyData.eqvAll (encP n :: ns.map encP) (encP m :: ms.map encP) = _
    rw [PyData.eqvAll, eqv_encPs ns ms, eqv_encP]
    by_cases e : n = m <;> by_cases e2 : ns = ms <;> simp [e, e2]
theorem shp_P (p : Int × Int) : SeqAt.shaped (encP p) = true := shp_ints [p.1, p.2]
theorem shp_lstPs (l : List (Int × Int)) : SeqAt.shaped (.list (l.map encP)) = true := by
  refine shp_lay ?_ ?_
  · rw [PyData.canLay0]
    exact lay_all _ fun d hd => by
      obtain ⟨p, _, rfl⟩ := List.mem_map.mp hd
      show (PyData.tuple ([p.1, p.2].map PyData.int)).canLay0 = true
      rw [PyData.canLay0]
      exact lay_ints _
  · rw [PyData.depth]
    have := depth_all (n := 1) (l.map encP) fun d hd => by
      obtain ⟨p, _, rfl⟩ := List.mem_map.mp hd
      simp [encP, PyData.depth, PyData.depthAll]
    omega
end K60

namespace K60
open PySem PySem.Spec PyProof.Rows L2

def rListOf (K : PySem.W.Frag) : List V → Hp → VK → Prop := fun xs H Q => ∃ p ys, xs = [.ref p] ∧ (SqL K H p ys ∨ SqT K H p ys) ∧ ∀ l, H l = none → Q (.ref l) (upd H l (.lst ys))
theorem kListOf {X : Cx} (K : PySem.W.Frag) (e : X.K = K := by rfl) : CallR X (.type "list") (rListOf K) := e ▸ call_list_of
abbrev txtC (c : Cas) : Str := dictText (PyData.shownKv (kvD (zsOf c)))

def TxAt (H : Hp) (a : Addr) (zs : List Str) : Prop := H a = some (.lst (zs.map V.str)) ∨ H a = some (.tup (zs.map V.str))
theorem TxAt.same {H H' : Hp} {a : Addr} {zs : List Str} (e : Same H H') (h : TxAt H a zs) : TxAt H' a zs := h.imp (e _ _) (e _ _)
theorem TxAt.bt {H H' : Hp} {a D : Addr} {zs : List Str} (e : Bt D H H') (n : a ≠ D) (h : TxAt H a zs) : TxAt H' a zs := h.imp (e _ _ n) (e _ _ n)
theorem TxAt.t {K : PySem.W.Frag} {H : Hp} {a : Addr} {zs : List Str} (h : TxAt H a zs) : TextA K H a zs := h.elim (fun h => .inl (SqL.of h)) fun h => .inr (SqT.of h)
theorem CaseA.v {K : PySem.W.Frag} {H : Hp} {d r m1 m2 tl dl wd : Addr} {q1 q2 : V} {c : Cas} (h : CaseA K H d r m1 m2 tl dl wd q1 q2 c) : CaseV K H d c := ⟨r, m1, m2, tl, dl, wd, q1, q2, h⟩
section
variable {P : Program} {w : World} {K : PySem.W.Frag} {mg : Str → Option Value} {base : Heap}
def spRight : Sp := fun vs H Q _ => ∃ p : Addr, vs = [.ref p] ∧ PotA H p ∧ ∀ H', Bt p H H' → Q (.bl true) H'
theorem scRight : FnScope ["_law_pot_here", "_law_case_here", "_law_kept", "_law_due", "_law_parts_here", "_law_some", "_law_knot", "_law_told", "_law_part", "_law_made"] ["_law_pot_here"] (defScope sRight) := ⟨rfl, rfl, rfl, by decide +kernel, rfl, by decide +kernel, by decide +kernel⟩
/-- what the law needs of the package and of itself -/
structure Parts (P : Program) (w : World) (K : PySem.W.Frag) (mg : Str → Option Value) (base : Heap) : Prop where
  case : Cal P w K mg base 5 "_law_case" (spCase K)
  groups : Cal P w K mg base 5 "_law_groups" (spGroups K)
  both : Cal P w K mg base 2 "_law_both_parts" (spBoth K)
  cover : Cal P w K mg base 1 "_law_cover" (spCovered K)
  bounds : Cal P w K mg base 1 "_law_bounds" (spBounds K)
  sort : Cal P w K mg base 1 "_law_sort_of" (spSortOf K)
  pick : Cal P w K mg base 2 "_law_pick" (spPick K)
  covered : Cal P w K mg base 2 "covered_by" (spCovered K)
  boundsOf : Cal P w K mg base 1 "bounds_of" (spBounds K)
  kindOf : Cal P w K mg base 3 "kind_of" (spKind K)
  knotsOf : Cal P w K mg base 8 "knots_of" (spKnots K)
theorem ok_right {f : Addr} {fd : FuncData} (F : Fun K "_law_right" "_law_right" sRight f fd) (bd : Binds K fd ["_law_pot_here"] []) (T : Txt mg) (C : Parts P w K mg base)
    {fk : Addr} (mk : mg "_law_knots_right" = some (.ref fk)) (kk : PySem.W.keepIn K (.ref fk) = true) (FK : FnRG P w K mg base 9 fk (spKnotsRight K)) : FnRG P w K mg base 10 f spRight := by
  refine fnG F scRight bd (fun vs H Q E h => ?_) (fun cdv A outer s H vs Q hg hr h => ?_)
  · obtain ⟨p, rfl, _⟩ := h
    rfl
  · obtain ⟨p, rfl, hp, q⟩ := h
    refine ⟨_, pss_cons (ps_set (i := 1) scRight.nd rfl (Or.inl rfl) (pc C.case (hr.mono (by decide)) (by rfl) (pa_cons (pv 0) (pa_cons pe_int pa_nil))))
      (pss_cons (ps_set (i := 2) scRight.nd rfl (Or.inl rfl) (pe_callB (cr_reprD hg hr.units) (by rfl) T.repr (by decide +kernel) (pa_cons (pv 1) pa_nil)))
      (pss_cons (ps_set (i := 3) scRight.nd rfl (Or.inl rfl) (pc C.groups (hr.mono (by decide)) (by rfl) (pa_cons (pv 1) pa_nil)))
      (pss_cons (ps_if (PW.pt (pw_or (pt_not (pt_val (call_G FK hg hr (by rfl) mk kk (pa_cons (pv 1) (pa_cons (pv 3) pa_nil)))))
          (pw_or1 (pt_cmpR op_ne (pe_callB (cr_reprD hg hr.units) (by rfl) T.repr (by decide +kernel) (pa_cons (pv 1) pa_nil)) (pv 2) (nomark _))))) (pss_one (ps_ret pe_bl)) pss_nil)
      (pss_cons (ps_for PassesOwn.never rfl (pi_list (pc C.both (hr.mono (by decide)) (by rfl) (pa_cons (pv 1) pa_nil))) (pg_name (i := 4) scRight.nd rfl (Or.inl rfl))
          (pss_one (ps_if (pt_cmpR (op_neD hr.units) (pe_lc (own := [("_law_part", 8)]) (g := gName 8) (tt := tYes) rfl scRight.nd (pi_list (pv 4))
              (blkOk_by (N := ["_law_pot_here", "_law_case_here", "_law_kept", "_law_due", "_law_parts_here", "_law_some", "_law_knot", "_law_told", "_law_part", "_law_made"]) (sc := defScope sRight) (by decide +kernel)) (fun _ _ _ _ _ => pg_name (i := 8) scRight.nd rfl (Or.inl rfl)) (fun _ _ _ _ _ => pts_nil)
              (fun _ _ _ _ _ => pc C.covered (hr.mono (by decide)) (by rfl) (pa_cons (pv 8) pa_nil)))
            (pe_lc (own := [("_law_part", 8)]) (g := gName 8) (tt := tYes) rfl scRight.nd (pi_list (pv 4))
              (blkOk_by (N := ["_law_pot_here", "_law_case_here", "_law_kept", "_law_due", "_law_parts_here", "_law_some", "_law_knot", "_law_told", "_law_part", "_law_made"]) (sc := defScope sRight) (by decide +kernel)) (fun _ _ _ _ _ => pg_name (i := 8) scRight.nd rfl (Or.inl rfl)) (fun _ _ _ _ _ => pts_nil)
              (fun _ _ _ _ _ => pc C.cover (hr.mono (by decide)) (by rfl) (pa_cons (pv 8) pa_nil))) (nomark _)) (pss_one (ps_ret pe_bl)) pss_nil)))
      (pss_cons (ps_setLc (i := 5) (own := [("_law_made", 9)]) (g := gName 9) (tt := tYes) rfl scRight.nd rfl rfl (by rfl) (pi_list (kdget K hr.units (pv 1) pe_str (fun _ _ => rfl)))
              (blkOk_by (N := ["_law_pot_here", "_law_case_here", "_law_kept", "_law_due", "_law_parts_here", "_law_some", "_law_knot", "_law_told", "_law_part", "_law_made"]) (sc := defScope sRight) (by decide +kernel)) (fun _ _ _ _ _ => pg_name (i := 9) scRight.nd rfl (Or.inl rfl)) (fun _ _ _ _ _ => pts_nil)
              (fun _ _ _ _ _ => pc C.pick (hr.mono (by decide)) (by rfl) (pa_cons (pv 0) (pa_cons (pe_lst (pa_cons (pe_callTy (kListOf K) (by rfl) T.list (by decide +kernel) (pa_cons (pv 9) pa_nil)) (pa_cons (pe_callTy (kTupOf K) (by rfl) T.tuple (by decide +kernel) (pa_cons (pv 9) pa_nil)) pa_nil))) pa_nil))))
      (pss_cons (ps_for PassesOwn.never rfl (pi_list (pv 3)) (pg_name (i := 6) scRight.nd rfl (Or.inl rfl))
          (pss_cons (ps_if (pt_cmpR (op_neD hr.units) (pc C.boundsOf (hr.mono (by decide)) (by rfl) (pa_cons (pv 6) pa_nil)) (pc C.bounds (hr.mono (by decide)) (by rfl) (pa_cons (pv 6) pa_nil)) (nomark _)) (pss_one (ps_ret pe_bl)) pss_nil)
          (pss_one (ps_if (pt_cmpR op_ne (pc C.kindOf (hr.mono (by decide)) (by rfl) (pa_cons (pv 6) (pa_cons (pe_ix ix_list (pv 5) pe_int (fun _ _ => rfl)) (pa_cons (pe_ix ix_list (pv 5) pe_int (fun _ _ => rfl)) pa_nil)))) (pc C.sort (hr.mono (by decide)) (by rfl) (pa_cons (pv 6) (pa_cons (pv 1) pa_nil))) (nomark _)) (pss_one (ps_ret pe_bl)) pss_nil))))
      (pss_cons (ps_set (i := 7) scRight.nd rfl (Or.inl rfl) (pc C.knotsOf (hr.mono (by decide)) (by rfl) (pa_cons (kdget K hr.units (pv 1) pe_str (fun _ _ => rfl)) (pa_cons (pe_ix ix_list (pv 5) pe_int (fun _ _ => rfl)) (pa_cons (pe_ix ix_list (pv 5) pe_int (fun _ _ => rfl))
          (pa_cons (pe_ix ix_list (kdget K hr.units (pv 1) pe_str (fun _ _ => rfl)) pe_int (fun _ _ => rfl)) (pa_cons (pe_ix ix_list (kdget K hr.units (pv 1) pe_str (fun _ _ => rfl)) pe_int (fun _ _ => rfl)) pa_nil)))))))
      (pss_one (ps_ret (pe_and (pe_cmpR op_eq (pe_callB (cr_repr hg hr.units) (by rfl) T.repr (by decide +kernel) (pa_cons (pv 7) pa_nil)) (pe_callB (cr_repr hg hr.units) (by rfl) T.repr (by decide +kernel) (pa_cons (pv 3) pa_nil)) (nomark _))
          (pe_one (pe_cmpR op_eq (pe_callB (cr_reprD hg hr.units) (by rfl) T.repr (by decide +kernel) (pa_cons (pv 1) pa_nil)) (pv 2) (nomark _)))))))))))))
      , ?_⟩
    refine ⟨_, rfl, p, rfl, hp, fun d c H1 b1 p1 CV G => ?_⟩
    obtain ⟨r, m1, m2, tl, dl, wd, q1, q2, CA⟩ := CV
    have cn := case_neat G
    refine ⟨_, rfl, d, _, zsOf c, rfl, CA.dict, rfl, CA.vals, cn.1, cn.2.1, cn.2.2, ?_⟩
    refine ⟨_, rfl, d, c, rfl, CA.v, G, fun fd xs ks H2 s2 hfd hfd' lawK dks => ?_⟩
    have nfd : fd ≠ p := (p1.ne hfd).symm
    have hkn := knots_law G lawK
    have smk := knots_small G hkn
    have nek := knots_some G hkn
    have nt := Neat.Ks smk
    have lxs : xs.length ≤ 18 := by rw [dpa_mapLen dks]; exact smk.1
    refine ⟨_, rfl, _, rfl, d, .ref fd, c, ks, rfl, (CA.same s2).v, G, .lst (SqL.of hfd') dks, lawK, fun H3 s3 => ⟨true, rfl, iteF ?_⟩⟩
    have s23 := s2.trans s3
    have CA3 := CA.same s23
    refine ⟨_, rfl, d, _, zsOf c, rfl, CA3.dict, rfl, CA3.vals, cn.1, cn.2.1, cn.2.2, _, rfl, rfl, false, congrArg V.bl (by rw [decide_eq_true rfl]; rfl), iteF ?_⟩
    refine ⟨_, rfl, d, c, rfl, CA3.v, G, fun fb H4 s4 hB => ?_⟩
    obtain ⟨bs, hfb, lbs, hfb0, frb, atb⟩ := hB
    refine ⟨fb, rfl, ⟨_, SqL.of hfb⟩, for_list (K := K) (a := fb) (xs := bs.map V.ref) (fun i σ H' => ∃ v4, σ = [some (.ref p), some (.ref d), some (.str (txtC c)), some (.ref fd), v4, none, none, none, none, none] ∧ Same H4 H')
      ⟨_, rfl, Same.refl _⟩ (fun i σ H' _ ⟨_, _, s⟩ => SqL.of (s _ _ hfb)) ?_ ?_⟩
    · rintro i x σ H5 hib ⟨v4, rfl, s5⟩
      rw [List.getElem?_map] at hib
      obtain ⟨b, hbi, rfl⟩ := Option.map_eq_some_iff.mp hib
      obtain ⟨B, hBi⟩ : ∃ B, (lawB c)[i]? = some B := ⟨_, List.getElem?_eq_getElem (by rw [← lbs]; exact (List.getElem?_eq_some_iff.mp hbi).1)⟩
      obtain ⟨pxs, hb1, dpx⟩ := atb i b B hbi hBi
      have lB := lawB_len G B (List.mem_of_getElem? hBi)
      have lpx : pxs.length = B.length := dpa_mapLen dpx
      have hb5 := s5 _ _ hb1
      have dpx5 := dma s5 dpx
      refine ⟨_, rfl, b, rfl, ⟨_, SqL.of hb5⟩, fun D hD => lcl (K := K) (te := fun σ H Q => tCons (tVar 8) tNil σ H fun vs H1 => spCovered K vs H1 Q E0) hD (SqL.of hb5) (small1000 (by omega)) (fun j ds => ds = ((B.take j).map cov).map encP) rfl (fun j x ds Hc R1 R0 hx sm e _ r1 _ => ?_) (fun H6 ys ds s6 hD' dds e _ _ => ?_)⟩
      · obtain ⟨k, hk, dk⟩ := dpa_map (dma sm dpx5) hx
        refine ⟨rfl, yes ⟨_, rfl, x, k, rfl, dk, fun r H7 s7 dr => r1 r H7 (encP (cov k)) s7 (by simp [encP, lf, lfAll]) dr ?_⟩⟩
        rw [e, List.take_add_one, hk]
        simp
      subst e
      rw [lpx, List.take_length] at dds
      have hb6 := s6 _ _ hb5
      have dpx6 := dma s6 dpx5
      refine ⟨_, rfl, b, rfl, ⟨_, SqL.of hb6⟩, fun D2 hD2 => lcl (K := K) (te := fun σ H Q => tCons (tVar 8) tNil σ H fun vs H1 => spCovered K vs H1 Q E0) hD2 (SqL.of hb6) (small1000 (by omega)) (fun j ds => ds = ((B.take j).map cov).map encP) rfl (fun j x ds Hc R1 R0 hx sm e _ r1 _ => ?_) (fun H7 ys2 ds s7 hD2' dds2 e _ _ => ?_)⟩
      · obtain ⟨k, hk, dk⟩ := dpa_map (dma sm dpx6) hx
        refine ⟨rfl, yes ⟨_, rfl, x, k, rfl, dk, fun r H7 s7 dr => r1 r H7 (encP (cov k)) s7 (by simp [encP, lf, lfAll]) dr ?_⟩⟩
        rw [e, List.take_add_one, hk]
        simp
      subst e
      rw [lpx, List.take_length] at dds2
      refine ⟨.list ((B.map cov).map encP), .list ((B.map cov).map encP), .lst (SqL.of (s7 _ _ hD')) (dma s7 dds), .lst (SqL.of hD2') dds2, shp_lstPs _, shp_lstPs _, false, ?_, iteF ⟨_, rfl, s5.trans (s6.trans s7)⟩⟩
      rw [PyData.eqv, eqv_encPs, decide_eq_true rfl]
      rfl
    · rintro σ H5 ⟨v4, rfl, s5⟩
      have s25 := s3.trans (s4.trans s5)
      have s15 := s2.trans s25
      have CA5 := CA.same s15
      have p5 := p1.same s15
      refine ⟨_, rfl, d, _, rfl, dgTexts CA5.dict, tl, rfl, ⟨_, SqL.of CA5.texts⟩, fun D hD => ?_⟩
      have npD : p ≠ D := p5.ne hD
      refine lc_it (te := fun σ H Q => tCons (tVar 0) (tCons (tLst (tCons (tCB (rListOf K) (tCons (tVar 9) tNil)) (tCons (tCB (rTupOf K) (tCons (tVar 9) tNil)) tNil))) tNil) σ H fun vs H1 => spPick K vs H1 Q E0) (walk_list (K := K) (xs := [V.ref m1, V.ref m2]))
        (fun i H' => Bt p H5 H' ∧ PotA H' p ∧ ∃ as : List Addr, H' D = some (.lst (as.map V.ref)) ∧ as.length = i ∧ ∀ (j : Nat) (a : Addr) (zs : List Str), as[j]? = some a → [c.one, c.two][j]? = some zs → TxAt H' a zs ∧ a ≠ D ∧ a ≠ p)
        ⟨Bt.of (same_new hD), p5.same (same_new hD), [], upd_same, rfl, fun j a zs h => by simp at h⟩ (fun i H' _ z => SqL.of ((CA5.bt p5 z.1).texts)) ?_ ?_
      · rintro i x H' H'' hi ⟨bt, pa, as, hD', la, at'⟩ ⟨rfl, hx⟩
        have CAc := CA5.bt p5 bt
        obtain ⟨m, zs, rfl, hm, hz⟩ : ∃ (m : Addr) (zs : List Str), x = .ref m ∧ H'' m = some (.lst (zs.map V.str)) ∧ [c.one, c.two][i]? = some zs := by
          match i, hi, hx with
          | 0, _, hx =>
            simp only [List.getElem?_cons_zero, Option.some.injEq] at hx
            exact ⟨m1, c.one, hx.symm, CAc.one, rfl⟩
          | 1, _, hx =>
            simp only [List.getElem?_cons_succ, List.getElem?_cons_zero, Option.some.injEq] at hx
            exact ⟨m2, c.two, hx.symm, CAc.two, rfl⟩
        refine ⟨rfl, yes ?_⟩
        refine ⟨_, rfl, _, rfl, m, _, rfl, .inl (SqL.of hm), fun l1 hl1 => ?_⟩
        have t1 := same_new (o := .lst (zs.map V.str)) hl1
        refine ⟨_, rfl, m, _, rfl, .inl ⟨SqL.of (t1 _ _ hm), fun l2 hl2 => ⟨by show 2 ≤ sizeLine; decide, fun l3 hl3 => ?_⟩⟩⟩
        have t2 := same_new (o := .tup (zs.map V.str)) hl2
        have t3 := same_new (o := .lst [.ref l1, .ref l2]) hl3
        have tt := t1.trans (t2.trans t3)
        have e1 := pa.ne hl1
        have e2 := (pa.same t1).ne hl2
        have e3 := (pa.same (t1.trans t2)).ne hl3
        refine ⟨p, l3, _, rfl, pa.same tt, SqL.of upd_same, e3.symm, by simp, by show 2 ≤ 1000; decide, fun y H7 hy b7 p7 => ?_⟩
        have bt7 : Bt p H'' H7 := (Bt.of tt).trans b7
        have hD7 := bt7 _ _ npD.symm hD'
        obtain ⟨a, rfl, ta, na, nap⟩ : ∃ a, y = .ref a ∧ TxAt H7 a zs ∧ a ≠ D ∧ a ≠ p := by
          simp only [List.mem_cons, List.not_mem_nil, or_false] at hy
          rcases hy with rfl | rfl
          · exact ⟨l1, rfl, .inl (b7 _ _ e1.symm ((t2.trans t3) _ _ upd_same)), (ne_of_none hD' hl1).symm, e1.symm⟩
          · exact ⟨l2, rfl, .inr (b7 _ _ e2.symm (t3 _ _ upd_same)), (ne_of_none (t1 _ _ hD') hl2).symm, e2.symm⟩
        refine ⟨_, hD7, small1000 (by rw [List.length_map, la]; exact Nat.le_trans (Nat.le_of_lt hi) (by show 2 ≤ 1000; decide)), (bt.trans bt7).new hD Bt.upd, p7.upd npD, as ++ [a], by rw [upd_same, List.map_append]; rfl, by rw [List.length_append, List.length_singleton, la], fun j b ws hb hw => ?_⟩
        by_cases hj : j < as.length
        · rw [List.getElem?_append_left hj] at hb
          obtain ⟨h1, h2, h3⟩ := at' j b ws hb hw
          exact ⟨(h1.bt bt7 h3).bt Bt.upd h2, h2, h3⟩
        · rw [List.getElem?_append_right (by omega)] at hb
          cases hd : j - as.length with
          | zero =>
            rw [hd] at hb
            simp only [List.getElem?_cons_zero, Option.some.injEq] at hb
            subst hb
            have : j = i := by omega
            subst this
            rw [hz] at hw
            cases hw
            exact ⟨ta.bt Bt.upd na, na, nap⟩
          | succ n =>
            rw [hd] at hb
            simp at hb
      · rintro H6 ⟨bt6, p6, as, hD6, la, at6⟩
        have la : as.length = 2 := la
        obtain ⟨a1, a2, rfl⟩ : ∃ a1 a2, as = [a1, a2] := by
          match as, la with
          | [a1, a2], _ => exact ⟨a1, a2, rfl⟩
        have T1 := (at6 0 a1 c.one rfl rfl).1
        have T2 := (at6 1 a2 c.two rfl rfl).1
        have CA6 := CA5.bt p5 bt6
        have hfd6 := bt6 _ _ nfd (s25 _ _ hfd')
        have dks6 := lfma (p5.t bt6) (lfAll_map fun k _ => lf_K k) (dma s25 dks)
        refine ⟨_, rfl, fd, rfl, ⟨_, SqL.of hfd6⟩, for_list (K := K) (a := fd) (xs := xs) (fun i σ H' => ∃ v6, σ = [some (.ref p), some (.ref d), some (.str (txtC c)), some (.ref fd), v4, some (.ref D), v6, none, none, none] ∧ Same H6 H')
          ⟨_, rfl, Same.refl _⟩ (fun i σ H' _ ⟨_, _, s⟩ => SqL.of (s _ _ hfd6)) ?_ ?_⟩
        · rintro i x σ H7 hx ⟨v6, rfl, s7⟩
          obtain ⟨k, hk, dk⟩ := dpa_map (dma s7 dks6) hx
          have mk := List.mem_of_getElem? hk
          have sk := smk.2 k mk
          have ne := nek k mk
          have lk : k.1.length + k.2.length ≤ 200 := by have := sk.1; have := sk.2.1; omega
          refine ⟨_, rfl, x, k, rfl, dk, ne, lk, fun v1 Ha sa da => ?_⟩
          refine ⟨_, rfl, x, k, rfl, dm sa dk, ne, lk, fun v2 Hb sb db => ?_⟩
          refine ⟨encP (boundsM k), encP (boundsM k), dm sb da, db, shp_P _, shp_P _, false, ?_, iteF ?_⟩
          · rw [eqv_encP, decide_eq_true rfl]
            rfl
          have sab := sa.trans sb
          have s6b := s7.trans sab
          refine ⟨_, rfl, _, rfl, D, _, _, .ref a1, rfl, rfl, SqL.of (s6b _ _ hD6), at_of (j := 0) rfl rfl, _, rfl, D, _, _, .ref a2, rfl, rfl, SqL.of (s6b _ _ hD6), at_of (j := 1) rfl rfl, x, a1, a2, k, c.one, c.two, rfl, dm sab dk, (T1.same s6b).t, (T2.same s6b).t, G.w1, G.w2, lk, fun Hc sc => ?_⟩
          refine ⟨_, rfl, _, rfl, x, d, k, c, rfl, dm (sab.trans sc) dk, (CA6.same (s6b.trans sc)).v, G, lk, fun Hd sd => ⟨rfl, false, congrArg V.bl (by rw [decide_eq_true rfl]; rfl), iteF ⟨_, rfl, s6b.trans (sc.trans sd)⟩⟩⟩
        · rintro σ H7 ⟨v6, rfl, s7⟩
          have CA7 := CA6.same s7
          have X1 : TxtV K H7 (.ref a1) c.one := ⟨a1, rfl, (T1.same s7).t, Nat.le_trans G.l1 (by decide), fun z h => word_line (G.w1 z h)⟩
          have X2 : TxtV K H7 (.ref a2) c.two := ⟨a2, rfl, (T2.same s7).t, Nat.le_trans G.l2 (by decide), fun z h => word_line (G.w2 z h)⟩
          refine ⟨_, rfl, d, _, rfl, dgRoot CA7.dict, _, rfl, D, _, _, .ref a1, rfl, rfl, SqL.of (s7 _ _ hD6), at_of (j := 0) rfl rfl, _, rfl, D, _, _, .ref a2, rfl, rfl, SqL.of (s7 _ _ hD6), at_of (j := 1) rfl rfl,
            _, rfl, d, _, rfl, dgDiffs CA7.dict, dl, _, _, q1, rfl, rfl, SqL.of CA7.diffs, at_of (j := 0) rfl rfl, _, rfl, d, _, rfl, dgDiffs CA7.dict, dl, _, _, q2, rfl, rfl, SqL.of CA7.diffs, at_of (j := 1) rfl rfl,
            .ref r, .ref a1, .ref a2, q1, q2, c.root, c.one, c.two, c.p1, c.p2, rfl, CA7.txRoot G, X1, X2, CA7.df1 G, CA7.df2 G, fun qa ys k1 H8 s8 hqa hqa' hk1 dy1 => ?_⟩
          have ek := knots_eq G hk1 lawK
          subst ek
          have s68 := s7.trans s8
          refine ⟨_, rfl, qa, .list (ks.map encK), rfl, .lst (SqL.of hqa') dy1, nt.1, nt.fits (by decide), Nat.le_trans (depth_Ks ks) (by decide), ?_⟩
          refine ⟨_, rfl, fd, .list (ks.map encK), rfl, .lst (SqL.of (s68 _ _ hfd6)) (dma s68 dks6), nt.1, nt.fits (by decide), Nat.le_trans (depth_Ks ks) (by decide), rfl, true, congrArg V.bl (decide_eq_true rfl), iteT ?_⟩
          have CA8 := CA7.same s8
          refine ⟨_, rfl, d, _, zsOf c, rfl, CA8.dict, rfl, CA8.vals, cn.1, cn.2.1, cn.2.2, _, rfl, rfl, ?_⟩
          exact qb (decide_eq_true rfl) (q H8 (b1.trans ((Bt.of s15).trans (bt6.trans (Bt.of s68)))))
end
end K60

namespace K60
open PySem PySem.Spec PyProof.Rows L2

section
variable {P : Program} {w : World} {K : PySem.W.Frag} {mg : Str → Option Value} {base : Heap}
def spLaw (K : PySem.W.Frag) : Sp := fun vs H Q _ => ∃ (a : Addr) (ns : List Int), vs = [.ref a] ∧ SqL K H a (ns.map V.int) ∧ ns.length ≤ 1000000 ∧ ∀ H', Q (.bl true) H'
theorem scLaw : FnScope ["_law_script", "_law_k"] ["_law_script"] (defScope sLaw) := ⟨rfl, rfl, rfl, by decide +kernel, rfl, by decide +kernel, by decide +kernel⟩
theorem ok_law {f : Addr} {fd : FuncData} (F : Fun K "law" "law" sLaw f fd) (bd : Binds K fd ["_law_script"] []) (T : Txt mg) (cp : Cal P w K mg base 1 "_law_pot" (spPot K))
    {fr : Addr} (mr : mg "_law_right" = some (.ref fr)) (kr : PySem.W.keepIn K (.ref fr) = true) (FR : FnRG P w K mg base 10 fr spRight) : FnRG P w K mg base 11 f (spLaw K) := by
  refine fnG F scLaw bd (fun vs H Q E h => ?_) (fun cdv A outer s H vs Q hg hr h => ?_)
  · obtain ⟨a, ns, rfl, _⟩ := h
    rfl
  · obtain ⟨a, ns, rfl, ha, ln, q⟩ := h
    refine ⟨_, pss_one (ps_ret (pe_callB (cr_all rfl) (by rfl) T.all (by decide +kernel) (pa_cons (pe_lc (own := [("_law_k", 1)]) (g := gName 1) (tt := tYes) rfl scLaw.nd
        (pi_range1 (by rfl) T.range (pa_cons (pe_callB (call_max2 rfl) (by rfl) T.max (by decide +kernel) (pa_cons pe_int (pa_cons (pe_callB (call_min2 rfl) (by rfl) T.min (by decide +kernel) (pa_cons pe_int (pa_cons (pe_callB call_len_seq (by rfl) T.len PySem.boot_len (pa_cons (pv 0) pa_nil)) pa_nil))) pa_nil))) pa_nil))
        (blkOk_by (N := ["_law_script", "_law_k"]) (sc := defScope sLaw) (by decide +kernel)) (fun _ _ _ _ _ => pg_name (i := 1) scLaw.nd rfl (Or.inl rfl)) (fun _ _ _ _ _ => pts_nil)
        (fun _ _ _ _ _ => call_G FR hg hr (by rfl) mr kr (pa_cons (pc cp (hr.mono (by decide)) (by rfl) (pa_cons (pv 0) (pa_cons (pv 1) pa_nil))) pa_nil))) pa_nil))), ?_⟩
    refine ⟨_, rfl, a, _, rfl, .inl ha, _, _, rfl, _, _, rfl, ?_⟩
    rw [List.length_map]
    obtain ⟨n, hn, en⟩ : ∃ n : Nat, n ≤ 4 ∧ (if (if (ns.length : Int) < 4 then (ns.length : Int) else 4) > 1 then (if (ns.length : Int) < 4 then (ns.length : Int) else 4) else 1) = (n : Int) := by
      by_cases h1 : (ns.length : Int) < 4
      · rw [if_pos h1]
        by_cases h2 : (ns.length : Int) > 1
        · exact ⟨ns.length, by omega, by rw [if_pos h2]⟩
        · exact ⟨1, by decide, by rw [if_neg h2]; rfl⟩
      · rw [if_neg h1]
        exact ⟨4, by decide, rfl⟩
    refine ⟨(n : Int), by rw [en], by omega, by omega, fun D hD => ?_⟩
    refine lc_lf (K := K) (te := fun σ H Q => tCons (fun σ H Q => tCons (tVar 0) (tCons (tVar 1) tNil) σ H fun vs H1 => spPot K vs H1 Q E0) tNil σ H fun vs H1 => spRight vs H1 Q E0) (walk_range (n := (n : Int).toNat)) (small1000 (by omega)) hD (fun _ _ => trivial) (fun i ds => ds = (List.replicate i true).map PyData.bool) rfl
      (fun i x ds H2 H2' R1 R0 hi sm e y _ r1 _ => ?_) (fun H2 ys ds sm hD' dds e _ _ => ?_)
    · obtain ⟨rfl, rfl⟩ := y
      refine ⟨rfl, yes ?_⟩
      refine ⟨_, rfl, _, rfl, a, ns, _, rfl, .inl (sm.seq ha), by omega, by omega, fun p H3 s3 hp3 pa => ?_⟩
      refine ⟨p, rfl, pa, fun H4 b4 => r1 _ H4 (.bool true) (Bt.same s3 hp3 b4) rfl (.bl true) ?_⟩
      rw [e, List.replicate_succ', List.map_append]
      rfl
    · subst e
      have ey := bools_of dds
      refine ⟨D, _, rfl, SqL.of (by rw [hD', ey]), ?_⟩
      have ea : (List.replicate (n : Int).toNat true).all id = true := by rw [List.all_replicate]; simp
      rw [ea]
      exact q H2
end
end K60

namespace K60
open PySem PySem.Spec PyProof.Rows L2

/-! ### what the module's top has written -/
structure DefIn (K : PySem.W.Frag) (x : Str) (st : Stmt) (f : Addr) : Prop where
  a : PySem.W.nsIn K mainGlobals x = some (some (.ref f))
  F : ∃ fd, Fun K x x st f fd
  k : PySem.W.keepIn K (.ref f) = true
theorem DefIn.of {K : PySem.W.Frag} {x : Str} {st : Stmt} {f : Addr} {oc : Value} {od an : Option Addr} {sl : Array (Option Value)} {kV dc pm cd ct : Value} (a : PySem.W.nsIn K mainGlobals x = some (some (.ref f)))
    (l : K.lookup f = some ⟨oc, od, .func (PySem.W.fnOf x x (defArgs st) (defBody st) (defScope st) .none kV dc pm an cd ct), sl⟩) (c : PySem.W.codeIn K cd x = true) (k : PySem.W.keepIn K (.ref f) = true) : DefIn K x st f := ⟨a, ⟨_, fun_mk l c k⟩, k⟩
theorem DefIn.cal {P : Program} {w : World} {K : PySem.W.Frag} {mg : Str → Option Value} {base h : Heap} {x : Str} {st : Stmt} {f : Addr} {k : Nat} {ps : List Str} {sp : Sp} (D : DefIn K x st f) (X : K.In h) (G : h.Ns mainGlobals mg)
    (ok : ∀ fd, Fun K x x st f fd → FnOk P w K mg base CX0 k f fd ps sp) (bd : ∀ fd, Fun K x x st f fd → Binds K fd ps []) : Cal P w K mg base k x sp := by
  obtain ⟨fd, F⟩ := D.F
  exact Cal.of (ok fd F) (bd fd F) (PySem.W.mg_of X G D.a) D.k
theorem DefIn.calR {P : Program} {w : World} {K : PySem.W.Frag} {mg : Str → Option Value} {base h : Heap} {x : Str} {st : Stmt} {f : Addr} {k : Nat} {sp : Sp} (D : DefIn K x st f) (X : K.In h) (G : h.Ns mainGlobals mg)
    (ok : ∀ fd, Fun K x x st f fd → FnR P w K mg base CX0 k f sp) : Cal P w K mg base k x sp := by
  obtain ⟨fd, F⟩ := D.F
  exact ⟨f, PySem.W.mg_of X G D.a, D.k, ok fd F⟩
theorem DefIn.raw {P : Program} {w : World} {K : PySem.W.Frag} {mg : Str → Option Value} {base : Heap} {x : Str} {st : Stmt} {f : Addr} {k : Nat} {ps : List Str} {sp : Sp} (D : DefIn K x st f)
    (ok : ∀ fd, Fun K x x st f fd → FnOk P w K mg base CX0 k f fd ps sp) (bd : ∀ fd, Fun K x x st f fd → Binds K fd ps []) : FnR P w K mg base CX0 k f sp := by
  obtain ⟨fd, F⟩ := D.F
  exact ((ok fd F).raw (bd fd F) .nil).imp fun vs H Q E h => by rw [List.append_nil]; exact h

theorem all_mk {P : Program} {w : World} {K : PySem.W.Frag} {h : Heap} {mg : Str → Option Value} {fa f0 f1 f2 f3 f4 f5 f6 f7 f8 f9 f10 f11 f12 f13 f14 f15 f16 f17 f18 f19 f20 f21 f22 f23 f24 f25 f26 f27 f28 f29 f30 f31 f32 f33 f34 f35 f36 f37 : Addr} {t0 t1 t2 t3 t4 t5 : _} (X : K.In h) (G : h.Ns mainGlobals mg) (hfa : mg "law" = some (.ref fa))
    (d0 : DefIn K "is_line" sIsLine f0)
    (d1 : DefIn K "is_text" sIsText f1)
    (d2 : DefIn K "check_text" sCheckText f2)
    (d3 : DefIn K "check_texts" sCheckTexts f3)
    (d4 : DefIn K "is_integer" sIsInteger f4)
    (d5 : DefIn K "is_pair" sIsPair f5)
    (d6 : DefIn K "has_form" sHasForm f6)
    (d7 : DefIn K "is_diff" sIsDiff f7)
    (d8 : DefIn K "check_diff" sCheckDiff f8)
    (d9 : DefIn K "blocks_of" sBlocksOf f9)
    (d10 : DefIn K "check_versions" sCheckVersions f10)
    (d11 : DefIn K "comes_something" sComes f11)
    (d12 : DefIn K "covered_by" sCovered f12)
    (d13 : DefIn K "bounds_of" sBounds f13)
    (d14 : DefIn K "coming_lines" sComingLines f14)
    (d15 : DefIn K "are_alike" sAreAlike f15)
    (d16 : DefIn K "kind_of" sKindOf f16)
    (d17 : DefIn K "grouped" sGrouped f17)
    (d18 : DefIn K "knots_of" sKnotsOf f18)
    (d19 : DefIn K "_law_pot" sPot f19)
    (d20 : DefIn K "_law_draw" sDraw f20)
    (d21 : DefIn K "_law_pick" sPick f21)
    (d22 : DefIn K "_law_plan" sPlan f22)
    (d23 : DefIn K "_law_second" sSecond f23)
    (d24 : DefIn K "_law_edited" sEdited f24)
    (d25 : DefIn K "_law_case" sCase f25)
    (d26 : DefIn K "_law_parts" sParts f26)
    (d27 : DefIn K "_law_both_parts" sBoth f27)
    (d28 : DefIn K "_law_cover" sCover f28)
    (d29 : DefIn K "_law_is_met" sIsMet f29)
    (d30 : DefIn K "_law_first_place" sFirst f30)
    (d31 : DefIn K "_law_as_knot" sAsKnot f31)
    (d32 : DefIn K "_law_groups" sGroups f32)
    (d33 : DefIn K "_law_sort_of" sSortOf f33)
    (d34 : DefIn K "_law_bounds" sLawBounds f34)
    (d35 : DefIn K "_law_knots_right" sKnotsRight f35)
    (d36 : DefIn K "_law_right" sRight f36)
    (d37 : DefIn K "law" sLaw f37)
    (z_isinstance : PySem.W.nsIn K mainGlobals "isinstance" = some none)
    (z_str : PySem.W.nsIn K mainGlobals "str" = some none)
    (z_list : PySem.W.nsIn K mainGlobals "list" = some none)
    (z_tuple : PySem.W.nsIn K mainGlobals "tuple" = some none)
    (z_len : PySem.W.nsIn K mainGlobals "len" = some none)
    (z_all : PySem.W.nsIn K mainGlobals "all" = some none)
    (z_int : PySem.W.nsIn K mainGlobals "int" = some none)
    (z_bool : PySem.W.nsIn K mainGlobals "bool" = some none)
    (z_zip : PySem.W.nsIn K mainGlobals "zip" = some none)
    (z_min : PySem.W.nsIn K mainGlobals "min" = some none)
    (z_max : PySem.W.nsIn K mainGlobals "max" = some none)
    (z_any : PySem.W.nsIn K mainGlobals "any" = some none)
    (z_sorted : PySem.W.nsIn K mainGlobals "sorted" = some none)
    (z_abs : PySem.W.nsIn K mainGlobals "abs" = some none)
    (z_range : PySem.W.nsIn K mainGlobals "range" = some none)
    (z_divmod : PySem.W.nsIn K mainGlobals "divmod" = some none)
    (z_enumerate : PySem.W.nsIn K mainGlobals "enumerate" = some none)
    (z_repr : PySem.W.nsIn K mainGlobals "repr" = some none)
    (v_MOST : PySem.W.nsIn K mainGlobals "MOST" = some (some (.int 60 t0)))
    (v_GOING : PySem.W.nsIn K mainGlobals "GOING" = some (some (.str "going" t1)))
    (v_ONE : PySem.W.nsIn K mainGlobals "ONE" = some (some (.str "one" t2)))
    (v_TWO : PySem.W.nsIn K mainGlobals "TWO" = some (some (.str "two" t3)))
    (v_ALIKE : PySem.W.nsIn K mainGlobals "ALIKE" = some (some (.str "alike" t4)))
    (v_CLASH : PySem.W.nsIn K mainGlobals "CLASH" = some (some (.str "clash" t5)))
    : ∀ base : Heap, K.In base → base.Ns mainGlobals mg → FnRG P w K mg base 11 fa (spLaw K) := by
  intro base _ _
  have e := hfa.symm.trans (PySem.W.mg_of X G d37.a)
  cases e
  have T : Txt mg := ⟨PySem.W.mg_none_of X G z_isinstance, PySem.W.mg_none_of X G z_str, PySem.W.mg_none_of X G z_list, PySem.W.mg_none_of X G z_tuple, PySem.W.mg_none_of X G z_len, PySem.W.mg_none_of X G z_all, PySem.W.mg_none_of X G z_int, PySem.W.mg_none_of X G z_bool, PySem.W.mg_none_of X G z_zip, PySem.W.mg_none_of X G z_min, PySem.W.mg_none_of X G z_max, PySem.W.mg_none_of X G z_any, PySem.W.mg_none_of X G z_sorted, PySem.W.mg_none_of X G z_abs, PySem.W.mg_none_of X G z_range, PySem.W.mg_none_of X G z_divmod, PySem.W.mg_none_of X G z_enumerate, PySem.W.mg_none_of X G z_repr, ⟨t0, PySem.W.mg_of X G v_MOST⟩, ⟨t1, PySem.W.mg_of X G v_GOING⟩, ⟨t2, PySem.W.mg_of X G v_ONE⟩, ⟨t3, PySem.W.mg_of X G v_TWO⟩, ⟨t4, PySem.W.mg_of X G v_ALIKE⟩, ⟨t5, PySem.W.mg_of X G v_CLASH⟩⟩
  have C_is_line : Cal P w K mg base 1 "is_line" spIsLine := d0.cal X G (fun fd F => ok_isLine F T) (fun fd F => F.binds fun _ _ _ _ _ _ us hl => match us, hl with | [_], _ => rfl)
  have C_is_text : Cal P w K mg base 2 "is_text" (spIsText K) := d1.cal X G (fun fd F => ok_isText F T C_is_line) (fun fd F => F.binds fun _ _ _ _ _ _ us hl => match us, hl with | [_], _ => rfl)
  have C_check_text : Cal P w K mg base 3 "check_text" (spCheckText K) := d2.cal X G (fun fd F => ok_checkText F C_is_text) (fun fd F => F.binds fun _ _ _ _ _ _ us hl => match us, hl with | [_], _ => rfl)
  have C_check_texts : Cal P w K mg base 4 "check_texts" (spCheckTexts K) := d3.calR X G (fun fd F => ok_checkTexts F C_check_text)
  have C_is_integer : Cal P w K mg base 1 "is_integer" spIsInteger := d4.cal X G (fun fd F => ok_isInteger F T) (fun fd F => F.binds fun _ _ _ _ _ _ us hl => match us, hl with | [_, _, _], _ => rfl)
  have C_is_pair : Cal P w K mg base 2 "is_pair" (spIsPair K) := d5.cal X G (fun fd F => ok_isPair F T C_is_integer) (fun fd F => F.binds fun _ _ _ _ _ _ us hl => match us, hl with | [_, _, _], _ => rfl)
  have C_has_form : Cal P w K mg base 3 "has_form" (spDiff3 K (.bl true)) := d6.cal X G (fun fd F => ok_hasForm F T C_is_pair) (fun fd F => F.binds fun _ _ _ _ _ _ us hl => match us, hl with | [_, _, _], _ => rfl)
  have C_is_diff : Cal P w K mg base 5 "is_diff" (spDiff3 K (.bl true)) := d7.cal X G (fun fd F => ok_isDiff F C_check_texts C_has_form) (fun fd F => F.binds fun _ _ _ _ _ _ us hl => match us, hl with | [_, _, _], _ => rfl)
  have C_check_diff : Cal P w K mg base 6 "check_diff" (spDiff3 K .non) := d8.cal X G (fun fd F => ok_checkDiff F C_is_diff) (fun fd F => F.binds fun _ _ _ _ _ _ us hl => match us, hl with | [_, _, _], _ => rfl)
  have C_blocks_of : Cal P w K mg base 7 "blocks_of" (spBlocks K) := d9.cal X G (fun fd F => ok_blocksOf F T C_check_diff) (fun fd F => F.binds fun _ _ _ _ _ _ us hl => match us, hl with | [_, _, _], _ => rfl)
  have C_check_versions : Cal P w K mg base 6 "check_versions" (spCheckVersions K) := d10.cal X G (fun fd F => ok_checkVersions F C_is_text C_is_diff) (fun fd F => F.binds fun _ _ _ _ _ _ us hl => match us, hl with | [_, _, _, _, _], _ => rfl)
  have C_comes_something : Cal P w K mg base 1 "comes_something" (spComes K) := d11.cal X G (fun fd F => ok_comes F ) (fun fd F => F.binds fun _ _ _ _ _ _ us hl => match us, hl with | [_], _ => rfl)
  have C_covered_by : Cal P w K mg base 2 "covered_by" (spCovered K) := d12.cal X G (fun fd F => ok_covered F C_comes_something) (fun fd F => F.binds fun _ _ _ _ _ _ us hl => match us, hl with | [_], _ => rfl)
  have C_bounds_of : Cal P w K mg base 1 "bounds_of" (spBounds K) := d13.cal X G (fun fd F => ok_Bounds F T) (fun fd F => F.binds fun _ _ _ _ _ _ us hl => match us, hl with | [_], _ => rfl)
  have C_coming_lines : Cal P w K mg base 1 "coming_lines" (spComing K) := d14.cal X G (fun fd F => ok_coming F T) (fun fd F => F.binds fun _ _ _ _ _ _ us hl => match us, hl with | [_, _], _ => rfl)
  have C_are_alike : Cal P w K mg base 2 "are_alike" (spAlike K) := d15.cal X G (fun fd F => ok_alike F C_coming_lines) (fun fd F => F.binds fun _ _ _ _ _ _ us hl => match us, hl with | [_, _, _, _], _ => rfl)
  have C_kind_of : Cal P w K mg base 3 "kind_of" (spKind K) := d16.cal X G (fun fd F => ok_kind F T C_comes_something C_are_alike) (fun fd F => F.binds fun _ _ _ _ _ _ us hl => match us, hl with | [_, _, _], _ => rfl)
  have C_grouped : Cal P w K mg base 1 "grouped" (spGrouped K) := d17.cal X G (fun fd F => ok_grouped F T) (fun fd F => F.binds fun _ _ _ _ _ _ us hl => match us, hl with | [_], _ => rfl)
  have C_knots_of : Cal P w K mg base 8 "knots_of" (spKnots K) := d18.cal X G (fun fd F => ok_knotsOf F T C_check_versions C_covered_by C_blocks_of C_grouped) (fun fd F => F.binds fun _ _ _ _ _ _ us hl => match us, hl with | [_, _, _, _, _], _ => rfl)
  have C__law_pot : Cal P w K mg base 1 "_law_pot" (spPot K) := d19.cal X G (fun fd F => ok_pot F T) (fun fd F => F.binds fun _ _ _ _ _ _ us hl => match us, hl with | [_, _], _ => rfl)
  have C__law_draw : Cal P w K mg base 1 "_law_draw" spDraw := d20.cal X G (fun fd F => ok_draw F T) (fun fd F => F.binds fun _ _ _ _ _ _ us hl => match us, hl with | [_, _], _ => rfl)
  have C__law_pick : Cal P w K mg base 2 "_law_pick" (spPick K) := d21.cal X G (fun fd F => ok_pick F T C__law_draw) (fun fd F => F.binds fun _ _ _ _ _ _ us hl => match us, hl with | [_, _], _ => rfl)
  have C__law_plan : Cal P w K mg base 3 "_law_plan" (spPlan K) := d22.cal X G (fun fd F => ok_plan F T C__law_draw C__law_pick) (fun fd F => F.binds fun _ _ _ _ _ _ us hl => match us, hl with | [_, _, _], _ => rfl)
  have C__law_second : Cal P w K mg base 4 "_law_second" (spSecond K) := d23.cal X G (fun fd F => ok_second F T C__law_plan C__law_pick) (fun fd F => F.binds fun _ _ _ _ _ _ us hl => match us, hl with | [_, _, _], _ => rfl)
  have C__law_edited : Cal P w K mg base 1 "_law_edited" (spEdited K) := d24.cal X G (fun fd F => ok_edited F T) (fun fd F => F.binds fun _ _ _ _ _ _ us hl => match us, hl with | [_, _], _ => rfl)
  have C__law_case : Cal P w K mg base 5 "_law_case" (spCase K) := d25.cal X G (fun fd F => ok_case F T C__law_draw C__law_pick C__law_plan C__law_second C__law_edited) (fun fd F => F.binds fun _ _ _ _ _ _ us hl => match us, hl with | [_, _], _ => rfl)
  have C__law_parts : Cal P w K mg base 1 "_law_parts" (spParts K) := d26.cal X G (fun fd F => ok_parts F T) (fun fd F => F.binds fun _ _ _ _ _ _ us hl => match us, hl with | [_, _, _], _ => rfl)
  have C__law_both_parts : Cal P w K mg base 2 "_law_both_parts" (spBoth K) := d27.cal X G (fun fd F => ok_both F T C__law_parts) (fun fd F => F.binds fun _ _ _ _ _ _ us hl => match us, hl with | [_], _ => rfl)
  have C__law_cover : Cal P w K mg base 1 "_law_cover" (spCovered K) := d28.cal X G (fun fd F => ok_cover F ) (fun fd F => F.binds fun _ _ _ _ _ _ us hl => match us, hl with | [_], _ => rfl)
  have C__law_is_met : Cal P w K mg base 2 "_law_is_met" (spIsMet K) := d29.cal X G (fun fd F => ok_isMet F T C__law_cover) (fun fd F => F.binds fun _ _ _ _ _ _ us hl => match us, hl with | [_, _, _], _ => rfl)
  have R__law_first_place : FnR P w K mg base CX0 2 f30 (spFirst K) := d30.raw (fun fd F => ok_first F T C__law_cover) (fun fd F => F.binds fun _ _ _ _ _ _ us hl => match us, hl with | [_], _ => rfl)
  have C__law_as_knot : Cal P w K mg base 1 "_law_as_knot" (spAsKnot K) := d31.cal X G (fun fd F => ok_asKnot F T) (fun fd F => F.binds fun _ _ _ _ _ _ us hl => match us, hl with | [_], _ => rfl)
  have C__law_groups : Cal P w K mg base 5 "_law_groups" (spGroups K) := d32.cal X G (fun fd F => ok_groups F T C__law_both_parts C__law_cover C__law_is_met C__law_as_knot (PySem.W.mg_of X G d30.a) d30.k R__law_first_place) (fun fd F => F.binds fun _ _ _ _ _ _ us hl => match us, hl with | [_], _ => rfl)
  have C__law_sort_of : Cal P w K mg base 1 "_law_sort_of" (spSortOf K) := d33.cal X G (fun fd F => ok_sortOf F T) (fun fd F => F.binds fun _ _ _ _ _ _ us hl => match us, hl with | [_, _], _ => rfl)
  have C__law_bounds : Cal P w K mg base 1 "_law_bounds" (spBounds K) := d34.cal X G (fun fd F => ok_LawBounds F T) (fun fd F => F.binds fun _ _ _ _ _ _ us hl => match us, hl with | [_], _ => rfl)
  obtain ⟨fdK, FK⟩ := d35.F
  obtain ⟨fdR, FR⟩ := d36.F
  obtain ⟨fdL, FL⟩ := d37.F
  have GK := ok_knotsRight (P := P) (w := w) (base := base) FK (FK.binds fun _ _ _ _ _ _ us hl => match us, hl with | [_, _], _ => rfl) T C_knots_of
  have GR := ok_right (P := P) (w := w) (base := base) FR (FR.binds fun _ _ _ _ _ _ us hl => match us, hl with | [_], _ => rfl) T ⟨C__law_case, C__law_groups, C__law_both_parts, C__law_cover, C__law_bounds, C__law_sort_of, C__law_pick, C_covered_by, C_bounds_of, C_kind_of, C_knots_of⟩ (PySem.W.mg_of X G d35.a) d35.k GK
  exact ok_law FL (FL.binds fun _ _ _ _ _ _ us hl => match us, hl with | [_], _ => rfl) T C__law_pot (PySem.W.mg_of X G d36.a) d36.k GR
theorem walk {l : PySem.W.OpenLaw} {n : Nat} {q : Program} {loose : List Str} {XP : (Str → Option Value) → Heap → Prop} {YP : World → Heap → Prop} {d : DefRec} {K : Params → PySem.W.Frag} (hn : l.most = some n) (hn2 : n ≤ 1000000) (hn3 : n ≤ sizeLine) (hdf : d.params.defaults = [])
    (hY : ∀ (w : World) (h : Heap), YP w h → (K w.params).In h)
    (F : ∀ (w : World) (mg : Str → Option Value) (fa : Addr) (h : Heap), (K w.params).In h → h.Ns mainGlobals mg → mg d.name = some (.ref fa) →
      ∀ base : Heap, (K w.params).In base → base.Ns mainGlobals mg → FnRG l.prog w (K w.params) mg base 11 fa (spLaw (K w.params))) :
    PySem.W.WalkO q loose XP YP l.row.toRowW d [] (fun f vs => PySem.call f vs) :=
  walk_G hn hn3 hdf ⟨rfl, by decide, by decide⟩ hY F (sp := fun K => spLaw K) (fun _ _ a ns hl hS => ⟨a, ns, rfl, hS, Nat.le_trans hl hn2, fun _ => rfl⟩)

end K60

open PySem PySem.W PyProof.Rows in
set_option maxRecDepth 100000 in
set_option maxHeartbeats 0 in
theorem PySem.Challenge.cw_alldiffs_k60_whole_knots_and_kinds_holds : PySem.Challenge.rw_alldiffs_k60_whole_knots_and_kinds.Holds := by
  w_on; o_law; k_head; (case hw => w_witness2)
  k_fill
  refine K60.walk (l := PySem.Challenge.rw_alldiffs_k60_whole_knots_and_kinds) rfl (by decide) (by decide) rfl (fun w h Y => PySem.W.kIn_of Y) ?F
  case F =>
    intro w mg fa h KX G hmg
    refine' K60.all_mk KX G hmg ?d0 ?d1 ?d2 ?d3 ?d4 ?d5 ?d6 ?d7 ?d8 ?d9 ?d10 ?d11 ?d12 ?d13 ?d14 ?d15 ?d16 ?d17 ?d18 ?d19 ?d20 ?d21 ?d22 ?d23 ?d24 ?d25 ?d26 ?d27 ?d28 ?d29 ?d30 ?d31 ?d32 ?d33 ?d34 ?d35 ?d36 ?d37 ?z_isinstance ?z_str ?z_list ?z_tuple ?z_len ?z_all ?z_int ?z_bool ?z_zip ?z_min ?z_max ?z_any ?z_sorted ?z_abs ?z_range ?z_divmod ?z_enumerate ?z_repr ?v_MOST ?v_GOING ?v_ONE ?v_TWO ?v_ALIKE ?v_CLASH
    (case d0 => (refine' K60.DefIn.of ?a ?l ?c ?k; (case a => k_is); (case l => k_is); (case c => k_is); (case k => k_is)))
    (case d1 => (refine' K60.DefIn.of ?a ?l ?c ?k; (case a => k_is); (case l => k_is); (case c => k_is); (case k => k_is)))
    (case d2 => (refine' K60.DefIn.of ?a ?l ?c ?k; (case a => k_is); (case l => k_is); (case c => k_is); (case k => k_is)))
    (case d3 => (refine' K60.DefIn.of ?a ?l ?c ?k; (case a => k_is); (case l => k_is); (case c => k_is); (case k => k_is)))
    (case d4 => (refine' K60.DefIn.of ?a ?l ?c ?k; (case a => k_is); (case l => k_is); (case c => k_is); (case k => k_is)))
    (case d5 => (refine' K60.DefIn.of ?a ?l ?c ?k; (case a => k_is); (case l => k_is); (case c => k_is); (case k => k_is)))
    (case d6 => (refine' K60.DefIn.of ?a ?l ?c ?k; (case a => k_is); (case l => k_is); (case c => k_is); (case k => k_is)))
    (case d7 => (refine' K60.DefIn.of ?a ?l ?c ?k; (case a => k_is); (case l => k_is); (case c => k_is); (case k => k_is)))
    (case d8 => (refine' K60.DefIn.of ?a ?l ?c ?k; (case a => k_is); (case l => k_is); (case c => k_is); (case k => k_is)))
    (case d9 => (refine' K60.DefIn.of ?a ?l ?c ?k; (case a => k_is); (case l => k_is); (case c => k_is); (case k => k_is)))
    (case d10 => (refine' K60.DefIn.of ?a ?l ?c ?k; (case a => k_is); (case l => k_is); (case c => k_is); (case k => k_is)))
    (case d11 => (refine' K60.DefIn.of ?a ?l ?c ?k; (case a => k_is); (case l => k_is); (case c => k_is); (case k => k_is)))
    (case d12 => (refine' K60.DefIn.of ?a ?l ?c ?k; (case a => k_is); (case l => k_is); (case c => k_is); (case k => k_is)))
    (case d13 => (refine' K60.DefIn.of ?a ?l ?c ?k; (case a => k_is); (case l => k_is); (case c => k_is); (case k => k_is)))
    (case d14 => (refine' K60.DefIn.of ?a ?l ?c ?k; (case a => k_is); (case l => k_is); (case c => k_is); (case k => k_is)))
    (case d15 => (refine' K60.DefIn.of ?a ?l ?c ?k; (case a => k_is); (case l => k_is); (case c => k_is); (case k => k_is)))
    (case d16 => (refine' K60.DefIn.of ?a ?l ?c ?k; (case a => k_is); (case l => k_is); (case c => k_is); (case k => k_is)))
    (case d17 => (refine' K60.DefIn.of ?a ?l ?c ?k; (case a => k_is); (case l => k_is); (case c => k_is); (case k => k_is)))
    (case d18 => (refine' K60.DefIn.of ?a ?l ?c ?k; (case a => k_is); (case l => k_is); (case c => k_is); (case k => k_is)))
    (case d19 => (refine' K60.DefIn.of ?a ?l ?c ?k; (case a => k_is); (case l => k_is); (case c => k_is); (case k => k_is)))
    (case d20 => (refine' K60.DefIn.of ?a ?l ?c ?k; (case a => k_is); (case l => k_is); (case c => k_is); (case k => k_is)))
    (case d21 => (refine' K60.DefIn.of ?a ?l ?c ?k; (case a => k_is); (case l => k_is); (case c => k_is); (case k => k_is)))
    (case d22 => (refine' K60.DefIn.of ?a ?l ?c ?k; (case a => k_is); (case l => k_is); (case c => k_is); (case k => k_is)))
    (case d23 => (refine' K60.DefIn.of ?a ?l ?c ?k; (case a => k_is); (case l => k_is); (case c => k_is); (case k => k_is)))
    (case d24 => (refine' K60.DefIn.of ?a ?l ?c ?k; (case a => k_is); (case l => k_is); (case c => k_is); (case k => k_is)))
    (case d25 => (refine' K60.DefIn.of ?a ?l ?c ?k; (case a => k_is); (case l => k_is); (case c => k_is); (case k => k_is)))
    (case d26 => (refine' K60.DefIn.of ?a ?l ?c ?k; (case a => k_is); (case l => k_is); (case c => k_is); (case k => k_is)))
    (case d27 => (refine' K60.DefIn.of ?a ?l ?c ?k; (case a => k_is); (case l => k_is); (case c => k_is); (case k => k_is)))
    (case d28 => (refine' K60.DefIn.of ?a ?l ?c ?k; (case a => k_is); (case l => k_is); (case c => k_is); (case k => k_is)))
    (case d29 => (refine' K60.DefIn.of ?a ?l ?c ?k; (case a => k_is); (case l => k_is); (case c => k_is); (case k => k_is)))
    (case d30 => (refine' K60.DefIn.of ?a ?l ?c ?k; (case a => k_is); (case l => k_is); (case c => k_is); (case k => k_is)))
    (case d31 => (refine' K60.DefIn.of ?a ?l ?c ?k; (case a => k_is); (case l => k_is); (case c => k_is); (case k => k_is)))
    (case d32 => (refine' K60.DefIn.of ?a ?l ?c ?k; (case a => k_is); (case l => k_is); (case c => k_is); (case k => k_is)))
    (case d33 => (refine' K60.DefIn.of ?a ?l ?c ?k; (case a => k_is); (case l => k_is); (case c => k_is); (case k => k_is)))
    (case d34 => (refine' K60.DefIn.of ?a ?l ?c ?k; (case a => k_is); (case l => k_is); (case c => k_is); (case k => k_is)))
    (case d35 => (refine' K60.DefIn.of ?a ?l ?c ?k; (case a => k_is); (case l => k_is); (case c => k_is); (case k => k_is)))
    (case d36 => (refine' K60.DefIn.of ?a ?l ?c ?k; (case a => k_is); (case l => k_is); (case c => k_is); (case k => k_is)))
    (case d37 => (refine' K60.DefIn.of ?a ?l ?c ?k; (case a => k_is); (case l => k_is); (case c => k_is); (case k => k_is)))
    (case z_isinstance => k_is)
    (case z_str => k_is)
    (case z_list => k_is)
    (case z_tuple => k_is)
    (case z_len => k_is)
    (case z_all => k_is)
    (case z_int => k_is)
    (case z_bool => k_is)
    (case z_zip => k_is)
    (case z_min => k_is)
    (case z_max => k_is)
    (case z_any => k_is)
    (case z_sorted => k_is)
    (case z_abs => k_is)
    (case z_range => k_is)
    (case z_divmod => k_is)
    (case z_enumerate => k_is)
    (case z_repr => k_is)
    (case v_MOST => k_is)
    (case v_GOING => k_is)
    (case v_ONE => k_is)
    (case v_TWO => k_is)
    (case v_ALIKE => k_is)
    (case v_CLASH => k_is)
