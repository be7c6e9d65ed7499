import PyProof.Rows.All
import Wide.All
import OpenK.AllK
import Wide.FinOn
import KE.DataFind
import KE.KDictDisplayH
import HandS.ForMost
import HandS.Deep
import HandS.Star
import HandS.Conv
import HandS.TupAny
import HandS.DictComp
import HandS.More
import HandS.Set
import HandS.SetBool
import HandS.SetTxt0
import HandS.Exc
import HandS.WordsExc
import HandS.Defaults
import HandS.HeadHook1
import HandS.HeadHook2
import KE.KStateDown
import Lean
import HandS.Head0
import HandS.Head1
import HandS.Head2
import HandS.HeadEnd
import HandS.IsInst
import HandS.Codes
import HandS.Wide
import HandS.StrMore
import PySem.Challenge.RW_bothfree_k90_whole_webs_parted
set_option Elab.async false
set_option linter.all false
namespace BfM
/-! ## Webs: being joined, closure, independence -/
section
variable {E A : Type}
inductive Conn (ends : E → A × A) (P : E → Prop) : A → A → Prop where
  | refl (u : A) : Conn ends P u u
  | fwd {u : A} (e : E) : Conn ends P u (ends e).1 → P e → Conn ends P u (ends e).2
  | bwd {u : A} (e : E) : Conn ends P u (ends e).2 → P e → Conn ends P u (ends e).1
/-- the closure: ties whose ends are joined -/
def Cl (ends : E → A × A) (P : E → Prop) (e : E) : Prop := Conn ends P (ends e).1 (ends e).2
def Ind (ends : E → A × A) (P : E → Prop) : Prop := ∀ e, P e → ¬ Cl ends (fun z => P z ∧ z ≠ e) e
variable {ends : E → A × A} {P Q I : E → Prop} {u v w : A} {e f x y : E}
theorem Conn.trans (h : Conn ends P u v) (k : Conn ends P v w) : Conn ends P u w := by
  induction k with
  | refl => exact h
  | fwd e _ pe ih => exact .fwd e ih pe
  | bwd e _ pe ih => exact .bwd e ih pe
theorem Conn.symm (h : Conn ends P u v) : Conn ends P v u := by
  induction h with
  | refl => exact .refl _
  | fwd e _ pe ih => exact Conn.trans (.bwd e (.refl _) pe) ih
  | bwd e _ pe ih => exact Conn.trans (.fwd e (.refl _) pe) ih
theorem Conn.lift (h : Conn ends P u v) (k : ∀ e, P e → Cl ends Q e) : Conn ends Q u v := by
  induction h with
  | refl => exact .refl _
  | fwd e _ pe ih => exact ih.trans (k e pe)
  | bwd e _ pe ih => exact ih.trans (k e pe).symm
theorem cl_mem (h : P e) : Cl ends P e := .fwd e (.refl _) h
theorem Conn.mono (h : Conn ends P u v) (k : ∀ e, P e → Q e) : Conn ends Q u v := h.lift fun e pe => cl_mem (k e pe)
theorem Cl.mono (h : Cl ends P e) (k : ∀ e, P e → Q e) : Cl ends Q e := Conn.mono h k
theorem Cl.lift (h : Cl ends P e) (k : ∀ e, P e → Cl ends Q e) : Cl ends Q e := Conn.lift h k
theorem Ind.mono (h : Ind ends Q) (k : ∀ e, P e → Q e) : Ind ends P := fun e pe c => h e (k e pe) (c.mono fun z hz => ⟨k z hz.1, hz.2⟩)
/-- with one tie more -/
theorem Conn.add (h : Conn ends (fun z => P z ∨ z = f) u v) :
    Conn ends P u v ∨ (Conn ends P u (ends f).1 ∧ Conn ends P (ends f).2 v) ∨ (Conn ends P u (ends f).2 ∧ Conn ends P (ends f).1 v) := by
  induction h with
  | refl => exact .inl (.refl _)
  | fwd e _ pe ih =>
    rcases pe with pe | pe
    · rcases ih with h | ⟨h, k⟩ | ⟨h, k⟩
      · exact .inl (.fwd e h pe)
      · exact .inr (.inl ⟨h, .fwd e k pe⟩)
      · exact .inr (.inr ⟨h, .fwd e k pe⟩)
    · subst pe
      rcases ih with h | ⟨h, k⟩ | ⟨h, k⟩
      · exact .inr (.inl ⟨h, .refl _⟩)
      · exact .inr (.inl ⟨h, .refl _⟩)
      · exact .inl h
  | bwd e _ pe ih =>
    rcases pe with pe | pe
    · rcases ih with h | ⟨h, k⟩ | ⟨h, k⟩
      · exact .inl (.bwd e h pe)
      · exact .inr (.inl ⟨h, .bwd e k pe⟩)
      · exact .inr (.inr ⟨h, .bwd e k pe⟩)
    · subst pe
      rcases ih with h | ⟨h, k⟩ | ⟨h, k⟩
      · exact .inr (.inr ⟨h, .refl _⟩)
      · exact .inl h
      · exact .inr (.inr ⟨h, .refl _⟩)
theorem exchange (h : Cl ends (fun z => P z ∨ z = f) e) (n : ¬ Cl ends P e) : Cl ends (fun z => P z ∨ z = e) f := by
  have mono : ∀ {a b : A}, Conn ends P a b → Conn ends (fun z => P z ∨ z = e) a b := fun h => h.mono fun _ p => .inl p
  have he : Conn ends (fun z => P z ∨ z = e) (ends e).1 (ends e).2 := cl_mem (P := fun z => P z ∨ z = e) (.inr rfl)
  rcases Conn.add h with h | ⟨h, k⟩ | ⟨h, k⟩
  · exact absurd h n
  · exact ((mono h).symm.trans he).trans (mono k).symm
  · exact ((mono k).trans he.symm).trans (mono h)
/-- in a free lot: a tie spanned by a part, and by all but y, is spanned by the part but y -/
theorem cl_meet {S : E → Prop} (hI : Ind ends I) (hS : ∀ z, S z → I z) (h1 : Cl ends S x) (h2 : Cl ends (fun z => I z ∧ z ≠ y) x) : Cl ends (fun z => S z ∧ z ≠ y) x := by
  by_cases hy : S y
  · refine Classical.byContradiction fun n => ?_
    have h3 : Cl ends (fun z => (S z ∧ z ≠ y) ∨ z = y) x := h1.mono fun z hz => by
      by_cases q : z = y
      · exact .inr q
      · exact .inl ⟨hz, q⟩
    have h4 := exchange h3 n
    exact hI y (hS y hy) (h4.lift fun z hz => by
      rcases hz with hz | hz
      · exact cl_mem (P := fun z => I z ∧ z ≠ y) ⟨hS z hz.1, hz.2⟩
      · rw [hz]; exact h2)
  · exact h1.mono fun z hz => ⟨hz, fun q => hy (by rw [← q]; exact hz)⟩
theorem ind_add (hI : Ind ends I) (n : ¬ Cl ends I x) : Ind ends (fun z => I z ∨ z = x) := by
  intro e he c
  by_cases q : e = x
  · subst q
    exact n (c.mono fun z hz => hz.1.resolve_right hz.2)
  · have he : I e := he.resolve_right q
    have c2 : Cl ends (fun z => (I z ∧ z ≠ e) ∨ z = x) e := c.mono fun z hz => by
      rcases hz with ⟨h | h, k⟩
      · exact .inl ⟨h, k⟩
      · exact .inr h
    have c3 := exchange c2 (hI e he)
    exact n (c3.mono fun z hz => by
      rcases hz with hz | hz
      · exact hz.1
      · rw [hz]; exact he)
/-- what spans a tie in a free lot may be thinned out to the things of its ring -/
theorem cl_thin (hI : Ind ends I) (W : E → Prop) (h : Cl ends I x) : ∀ l : List E, (∀ y, y ∈ l → ¬ W y → Cl ends (fun z => I z ∧ z ≠ y) x) → Cl ends (fun z => I z ∧ ¬ (z ∈ l ∧ ¬ W z)) x
  | [], _ => h.mono fun z hz => ⟨hz, fun q => nomatch q.1⟩
  | y :: l, k => by
    have ih := cl_thin hI W h l fun z hz => k z (List.mem_cons_of_mem _ hz)
    by_cases hy : W y
    · refine ih.mono fun z hz => ⟨hz.1, fun q => ?_⟩
      rcases List.mem_cons.mp q.1 with r | r
      · exact q.2 (by rw [r]; exact hy)
      · exact hz.2 ⟨r, q.2⟩
    · refine (cl_meet hI (fun z hz => hz.1) ih (k y (List.mem_cons_self ..) hy)).mono fun z hz => ⟨hz.1.1, fun q => ?_⟩
      rcases List.mem_cons.mp q.1 with r | r
      · exact hz.2 r
      · exact hz.1.2 ⟨r, q.2⟩
end
/-! ## Lots, ways, how a unit is put into the lots -/
section
variable {E A : Type}
/-- W is closed: each of its units is spanned in each lot by what of W is in the lot -/
def Tight (ends : E → A × A) (n : Nat) (L : Nat → E → Prop) (W : E → Prop) : Prop := ∀ w, W w → ∀ j, j < n → Cl ends (fun z => L j z ∧ W z) w
structure Link (ends : E → A × A) (L : Nat → E → Prop) (u v : E) (k : Nat) (ws : List E) : Prop where
  mem : L k u
  out : ¬ L k v
  ring : ¬ Cl ends (fun z => L k z ∧ z ≠ u) v
  far : ∀ w, w ∈ ws → Cl ends (fun z => L k z ∧ z ≠ u) w
/-- a way, its last unit first: each unit goes into the lot that stands beside it -/
def Links (ends : E → A × A) (n : Nat) (L : Nat → E → Prop) : List (E × Nat) → Prop
  | [] => False
  | [p] => ∀ j, j < n → ¬ L j p.1
  | p :: q :: r => (q.2 < n ∧ Link ends L p.1 q.1 q.2 (r.map (·.1))) ∧ Links ends n L (q :: r)
structure Aug (ends : E → A × A) (n : Nat) (L : Nat → E → Prop) (u : E) (i : Nat) (r : List (E × Nat)) : Prop where
  links : Links ends n L ((u, i) :: r)
  nd : (u :: r.map (·.1)).Nodup
  lt : i < n
  head : ¬ Cl ends (L i) u
  tail : ∀ w, w ∈ r.map (·.1) → ∀ j, j < n → Cl ends (L j) w
variable {ends : E → A × A} {n : Nat} {L L' : Nat → E → Prop} {u v : E} {i k : Nat}
theorem links_move (hik : i ≠ k) (hi : ∀ z, L' i z ↔ L i z ∨ z = u) (hk : ∀ z, L' k z ↔ L k z ∧ z ≠ u) (ho : ∀ j, j ≠ i → j ≠ k → ∀ z, L' j z ↔ L j z) (hI : ∀ j, j < n → Ind ends (L j)) (hI' : Ind ends (L' i)) (nu : ¬ L i u) :
    ∀ s : List (E × Nat), Links ends n L s → (∀ w, w ∈ s.map (·.1) → w ≠ u) → (∀ w, w ∈ s.map (·.1) → Cl ends (L i) w) → (∀ w, w ∈ s.tail.map (·.1) → Cl ends (fun z => L k z ∧ z ≠ u) w) → Links ends n L' s
  | [], h, _, _, _ => h
  | [p], h, hne, _, _ => fun j hj c => by
    have hp : p.1 ≠ u := hne p.1 (by simp)
    by_cases e1 : j = i
    · subst e1
      rcases (hi _).mp c with c | c
      · exact h j hj c
      · exact hp c
    · by_cases e2 : j = k
      · subst e2
        exact h j hj ((hk _).mp c).1
      · exact h j hj ((ho j e1 e2 _).mp c)
  | p :: q :: r, ⟨⟨hq, hl⟩, h⟩, hne, hcl, hfar => by
    have hp : p.1 ≠ u := hne p.1 (by simp)
    have hq1 : q.1 ≠ u := hne q.1 (by simp)
    refine ⟨⟨hq, ?_⟩, links_move hik hi hk ho hI hI' nu (q :: r) h (fun w hw => hne w (List.mem_cons_of_mem _ hw)) (fun w hw => hcl w (List.mem_cons_of_mem _ hw)) fun w hw => hfar w (by
      show w ∈ (q :: r).map (·.1)
      exact List.mem_cons_of_mem _ hw)⟩
    by_cases e1 : q.2 = i
    · rw [e1] at hl hq ⊢
      refine ⟨(hi _).mpr (.inl hl.mem), fun c => ?_, fun c => ?_, fun w hw => ?_⟩
      · rcases (hi _).mp c with c | c
        · exact hl.out c
        · exact hq1 c
      · have c1 : Cl ends (L i) q.1 := hcl q.1 (by simp)
        have c2 : Cl ends (fun z => L' i z ∧ z ≠ u) q.1 := c1.mono fun z hz => ⟨(hi z).mpr (.inl hz), fun e => nu (by rw [← e]; exact hz)⟩
        have c3 := cl_meet hI' (fun z hz => hz.1) c c2
        exact hl.ring (c3.mono fun z hz => ⟨((hi z).mp hz.1.1).resolve_right hz.2, hz.1.2⟩)
      · exact (hl.far w hw).mono fun z hz => ⟨(hi z).mpr (.inl hz.1), hz.2⟩
    · by_cases e2 : q.2 = k
      · rw [e2] at hl hq ⊢
        refine ⟨(hk _).mpr ⟨hl.mem, hp⟩, fun c => hl.out ((hk _).mp c).1, fun c => hl.ring (c.mono fun z hz => ⟨((hk z).mp hz.1).1, hz.2⟩), fun w hw => ?_⟩
        have c1 : Cl ends (fun z => L k z ∧ z ≠ u) w := hfar w (by
          show w ∈ (q :: r).map (·.1)
          exact List.mem_cons_of_mem _ hw)
        exact (cl_meet (hI k hq) (fun z hz => hz.1) (hl.far w hw) c1).mono fun z hz => ⟨(hk z).mpr ⟨hz.1.1, hz.2⟩, hz.1.2⟩
      · have eq : ∀ z, L' q.2 z ↔ L q.2 z := ho _ e1 e2
        exact ⟨(eq _).mpr hl.mem, fun c => hl.out ((eq _).mp c), fun c => hl.ring (c.mono fun z hz => ⟨(eq z).mp hz.1, hz.2⟩), fun w hw => (hl.far w hw).mono fun z hz => ⟨(eq z).mpr hz.1, hz.2⟩⟩
/-- one step of a shift: u goes from the lot k into the lot i -/
theorem aug_step {r : List (E × Nat)} (hI : ∀ j, j < n → Ind ends (L j)) (a : Aug ends n L u i ((v, k) :: r)) (hi : ∀ z, L' i z ↔ L i z ∨ z = u) (hk : ∀ z, L' k z ↔ L k z ∧ z ≠ u) (ho : ∀ j, j ≠ i → j ≠ k → ∀ z, L' j z ↔ L j z) :
    (∀ j, j < n → Ind ends (L' j)) ∧ Aug ends n L' v k r ∧ ∀ W, Tight ends n L W → Tight ends n L' W := by
  obtain ⟨⟨⟨hkn, hl⟩, hls⟩, nd, lt, head, tail⟩ := a
  have nu : ¬ L i u := fun c => head (cl_mem c)
  have hik : i ≠ k := fun e => nu (by rw [e]; exact hl.mem)
  have hI' : Ind ends (L' i) := (ind_add (hI i lt) head).mono fun z hz => (hi z).mp hz
  have all : ∀ j, j < n → Ind ends (L' j) := fun j hj => by
    by_cases e1 : j = i
    · rw [e1]; exact hI'
    · by_cases e2 : j = k
      · rw [e2]; exact (hI k hkn).mono fun z hz => ((hk z).mp hz).1
      · exact (hI j hj).mono fun z hz => (ho j e1 e2 z).mp hz
  have nd2 := List.nodup_cons.mp nd
  refine ⟨all, ⟨links_move hik hi hk ho hI hI' nu _ hls (fun w hw e => nd2.1 (by rw [← e]; exact hw)) (fun w hw => tail w hw i lt) (fun w hw => hl.far w hw), nd2.2, hkn, fun c => hl.ring (c.mono fun z hz => (hk z).mp hz), fun w hw j hj => ?_⟩, fun W t w hw j hj => ?_⟩
  · by_cases e1 : j = i
    · rw [e1]; exact (tail w (List.mem_cons_of_mem _ hw) i lt).mono fun z hz => (hi z).mpr (.inl hz)
    · by_cases e2 : j = k
      · rw [e2]; exact (hl.far w hw).mono fun z hz => (hk z).mpr hz
      · exact (tail w (List.mem_cons_of_mem _ hw) j hj).mono fun z hz => (ho j e1 e2 z).mpr hz
  · have nW : ¬ W u := fun c => head ((t u c i lt).mono fun z hz => hz.1)
    by_cases e1 : j = i
    · rw [e1]; exact (t w hw i lt).mono fun z hz => ⟨(hi z).mpr (.inl hz.1), hz.2⟩
    · by_cases e2 : j = k
      · rw [e2]; exact (t w hw k hkn).mono fun z hz => ⟨(hk z).mpr ⟨hz.1, fun e => nW (by rw [← e]; exact hz.2)⟩, hz.2⟩
      · exact (t w hw j hj).mono fun z hz => ⟨(ho j e1 e2 z).mpr hz.1, hz.2⟩
/-- the last step: the unit that came goes into its lot -/
theorem aug_last (hI : ∀ j, j < n → Ind ends (L j)) (a : Aug ends n L u i []) (hi : ∀ z, L' i z ↔ L i z ∨ z = u) (ho : ∀ j, j ≠ i → ∀ z, L' j z ↔ L j z) :
    (∀ j, j < n → Ind ends (L' j)) ∧ ∀ W, Tight ends n L W → Tight ends n L' W ∧ ¬ W u := by
  obtain ⟨_, _, lt, head, _⟩ := a
  refine ⟨fun j hj => ?_, fun W t => ?_⟩
  · by_cases e1 : j = i
    · rw [e1]; exact (ind_add (hI i lt) head).mono fun z hz => (hi z).mp hz
    · exact (hI j hj).mono fun z hz => (ho j e1 z).mp hz
  · have nW : ¬ W u := fun c => head ((t u c i lt).mono fun z hz => hz.1)
    refine ⟨fun w hw j hj => ?_, nW⟩
    by_cases e1 : j = i
    · rw [e1]; exact (t w hw i lt).mono fun z hz => ⟨(hi z).mpr (.inl hz.1), hz.2⟩
    · exact (t w hw j hj).mono fun z hz => ⟨(ho j e1 z).mpr hz.1, hz.2⟩
end
/-! ## The search -/
section
variable {E A : Type}
def Edge (ends : E → A × A) (L : Nat → E → Prop) (j : Nat) (w x : E) : Prop := ¬ L j w ∧ L j x ∧ ¬ Cl ends (fun z => L j z ∧ z ≠ x) w
/-- what is known of a unit whose ways have been looked at in the lot j -/
def Looked (ends : E → A × A) (L : Nat → E → Prop) (wait : List E) (w : E) (j : Nat) : Prop := L j w ∨ (¬ L j w ∧ Cl ends (L j) w ∧ ∀ x, Edge ends L j w x → x ∈ wait)
structure Bfs (ends : E → A × A) (n : Nat) (L : Nat → E → Prop) (u : E) (wait : List E) (cm : E → Option (Option (E × Nat))) (c : Nat) : Prop where
  nd : wait.Nodup
  zero : wait[0]? = some u
  dom : ∀ x, cm x = none ↔ x ∉ wait
  root : cm u = some none
  par : ∀ b x, 0 < b → wait[b]? = some x → ∃ a w j, a < b ∧ wait[a]? = some w ∧ j < n ∧ cm x = some (some (w, j)) ∧ Edge ends L j w x ∧ ∀ a' w' j', a' < a → wait[a']? = some w' → j' < n → ¬ Edge ends L j' w' x
  done : ∀ a w j, a < c → wait[a]? = some w → j < n → Looked ends L wait w j
variable {ends : E → A × A} {n : Nat} {L : Nat → E → Prop} {u w x : E} {wait : List E} {cm cm' : E → Option (Option (E × Nat))} {c j : Nat}
theorem bfs_start (h1 : cm u = some none) (h2 : ∀ x, x ≠ u → cm x = none) : Bfs ends n L u [u] cm 0 := by
  refine ⟨by simp, rfl, fun x => ?_, h1, fun b x hb h => ?_, fun a w j ha => absurd ha (Nat.not_lt_zero _)⟩
  · by_cases e : x = u
    · subst e; simp [h1]
    · simp [e, h2 x e]
  · match b, hb with
    | b + 1, _ => simp at h
theorem Looked.mono {wait' : List E} (h : Looked ends L wait w j) (k : ∀ x, x ∈ wait → x ∈ wait') : Looked ends L wait' w j := by
  rcases h with h | ⟨h1, h2, h3⟩
  · exact .inl h
  · exact .inr ⟨h1, h2, fun x hx => k x (h3 x hx)⟩
theorem bfs_add (b : Bfs ends n L u wait cm c) (hw : wait[c]? = some w) (hj : j < n) (he : Edge ends L j w x) (hx : x ∉ wait) (h1 : cm' x = some (some (w, j))) (h2 : ∀ y, y ≠ x → cm' y = cm y) : Bfs ends n L u (wait ++ [x]) cm' c := by
  have hc : c < wait.length := (List.getElem?_eq_some_iff.mp hw).1
  have old : ∀ {a y}, a < wait.length → ((wait ++ [x])[a]? = some y ↔ wait[a]? = some y) := fun {a y} ha => by rw [List.getElem?_append_left ha]
  have hux : u ≠ x := fun e => hx (by rw [← e]; exact List.mem_of_getElem? b.zero)
  refine ⟨?_, ?_, fun y => ?_, by rw [h2 u hux]; exact b.root, fun a y ha hy => ?_, fun a y j' ha hy hj' => ?_⟩
  · rw [List.nodup_append]
    refine ⟨b.nd, by simp, fun a ha d hd e => ?_⟩
    have : d = x := by simpa using hd
    exact hx (by rw [← this, ← e]; exact ha)
  · exact (old (Nat.lt_of_le_of_lt (Nat.zero_le _) hc)).mpr b.zero
  · by_cases e : y = x
    · subst e; simp [h1]
    · rw [h2 y e, b.dom y]; simp [e]
  · by_cases hl : a < wait.length
    · have hy' := (old hl).mp hy
      obtain ⟨a1, w1, j1, l1, g1, l2, g2, g3, g4⟩ := b.par a y ha hy'
      have hyx : y ≠ x := fun e => hx (by rw [← e]; exact List.mem_of_getElem? hy')
      have l3 : a1 < wait.length := Nat.lt_trans l1 hl
      exact ⟨a1, w1, j1, l1, (old l3).mpr g1, l2, by rw [h2 y hyx]; exact g2, g3, fun a' w' j' q1 q2 q3 => g4 a' w' j' q1 ((old (Nat.lt_trans q1 l3)).mp q2) q3⟩
    · have e1 : a = wait.length := by
        have := (List.getElem?_eq_some_iff.mp hy).1
        rw [List.length_append, List.length_singleton] at this
        omega
      have e2 : y = x := by
        rw [e1] at hy
        simpa using hy.symm
      subst e2
      refine ⟨c, w, j, by omega, (old hc).mpr hw, hj, h1, he, fun a' w' j' q1 q2 q3 q4 => ?_⟩
      have q5 := (old (Nat.lt_trans q1 hc)).mp q2
      rcases b.done a' w' j' q1 q5 q3 with q | ⟨_, _, q⟩
      · exact q4.1 q
      · exact hx (q y q4)
  · exact (b.done a y j' ha ((old (Nat.lt_trans ha hc)).mp hy) hj').mono fun z hz => List.mem_append_left _ hz
theorem bfs_next (b : Bfs ends n L u wait cm c) (hw : wait[c]? = some w) (h : ∀ j, j < n → Looked ends L wait w j) : Bfs ends n L u wait cm (c + 1) :=
  ⟨b.nd, b.zero, b.dom, b.root, b.par, fun a y j ha hy hj => by
    by_cases e : a = c
    · subst e
      rw [hw] at hy
      cases hy
      exact h j hj
    · exact b.done a y j (by omega) hy hj⟩
/-- the way that leads to a unit, its last unit first -/
def Way (cm : E → Option (Option (E × Nat))) : E → List (E × Nat) → Prop
  | x, [] => cm x = some none
  | x, p :: r => cm x = some (some p) ∧ Way cm p.1 r
theorem bfs_way (b : Bfs ends n L u wait cm c) (hu : ∀ j, j < n → ¬ L j u) : ∀ (k : Nat) (x : E) (i : Nat), wait[k]? = some x → ∃ p, Way cm x p ∧ Links ends n L ((x, i) :: p) ∧ (x :: p.map (·.1)).Nodup ∧ ∀ y, y ∈ p.map (·.1) → ∃ a, a < k ∧ wait[a]? = some y := by
  intro k
  induction k using Nat.strongRecOn with
  | _ k ih =>
    intro x i hx
    by_cases hk : 0 < k
    · obtain ⟨a, w, j, l1, g1, l2, g2, g3, g4⟩ := b.par k x hk hx
      obtain ⟨p, q1, q2, q3, q4⟩ := ih a l1 w j g1
      have pos : ∀ y, y ∈ w :: p.map (·.1) → ∃ a', a' < k ∧ wait[a']? = some y := fun y hy => by
        rcases List.mem_cons.mp hy with e | hy
        · exact ⟨a, l1, by rw [e]; exact g1⟩
        · obtain ⟨a', z1, z2⟩ := q4 y hy
          exact ⟨a', Nat.lt_trans z1 l1, z2⟩
      have nex : ∀ y, y ∈ w :: p.map (·.1) → y ≠ x := fun y hy e => by
        obtain ⟨a', z1, z2⟩ := pos y hy
        rw [e] at z2
        obtain ⟨m1, m2⟩ := List.getElem?_eq_some_iff.mp z2
        obtain ⟨m3, m4⟩ := List.getElem?_eq_some_iff.mp hx
        have := (List.getElem_inj b.nd).mp (m2.trans m4.symm)
        omega
      refine ⟨(w, j) :: p, ⟨g2, q1⟩, ⟨⟨l2, g3.2.1, g3.1, g3.2.2, fun y hy => ?_⟩, q2⟩, List.nodup_cons.mpr ⟨fun hy => nex x hy rfl, q3⟩, pos⟩
      obtain ⟨a', z1, z2⟩ := q4 y hy
      have hyx : y ≠ x := nex y (List.mem_cons_of_mem _ hy)
      by_cases hL : L j y
      · exact cl_mem (P := fun z => L j z ∧ z ≠ x) ⟨hL, hyx⟩
      · exact Classical.byContradiction fun q => g4 a' y j z1 z2 l2 ⟨hL, g3.2.1, q⟩
    · have e : k = 0 := by omega
      subst e
      rw [b.zero] at hx
      cases hx
      exact ⟨[], b.root, hu, by simp, fun y hy => by simp at hy⟩
/-- a way has been found -/
theorem bfs_found (b : Bfs ends n L u wait cm c) (hu : ∀ j, j < n → ¬ L j u) (hw : wait[c]? = some w) (hj : j < n) (h : ¬ Cl ends (L j) w) : ∃ p, Way cm w p ∧ Aug ends n L w j p := by
  obtain ⟨p, q1, q2, q3, q4⟩ := bfs_way b hu c w j hw
  refine ⟨p, q1, q2, q3, hj, h, fun y hy i hi => ?_⟩
  obtain ⟨a, z1, z2⟩ := q4 y hy
  rcases b.done a y i z1 z2 hi with q | ⟨_, q, _⟩
  · exact cl_mem q
  · exact q
/-- no way leads on: what has been come to is closed -/
theorem bfs_tight (b : Bfs ends n L u wait cm c) (hI : ∀ j, j < n → Ind ends (L j)) (ls : Nat → List E) (hls : ∀ j, j < n → ∀ z, L j z ↔ z ∈ ls j) (hc : c = wait.length) : Tight ends n L (· ∈ wait) := by
  intro w hw j hj
  obtain ⟨a, ha, e⟩ := List.getElem_of_mem hw
  have hw' : wait[a]? = some w := by rw [List.getElem?_eq_getElem ha, e]
  rcases b.done a w j (by omega) hw' hj with q | ⟨q1, q2, q3⟩
  · exact cl_mem (P := fun z => L j z ∧ z ∈ wait) ⟨q, hw⟩
  · have t := cl_thin (hI j hj) (· ∈ wait) q2 (ls j) fun y hy hn => Classical.byContradiction fun z => hn (q3 y ⟨q1, (hls j hj y).mpr hy, z⟩)
    refine t.mono fun z hz => ⟨hz.1, Classical.byContradiction fun q => hz.2 ⟨(hls j hj z).mp hz.1, q⟩⟩
/-- what a closed lot begins, it keeps -/
theorem bfs_inside (b : Bfs ends n L u wait cm c) (W : E → Prop) (t : Tight ends n L W) (hu : W u) : ∀ (k : Nat) (x : E), wait[k]? = some x → W x := by
  intro k
  induction k using Nat.strongRecOn with
  | _ k ih =>
    intro x hx
    by_cases hk : 0 < k
    · obtain ⟨a, w, j, l1, g1, l2, g2, g3, g4⟩ := b.par k x hk hx
      have hw := ih a l1 w g1
      refine Classical.byContradiction fun q => g3.2.2 ((t w hw j l2).mono fun z hz => ⟨hz.1, fun e => q (by rw [← e]; exact hz.2)⟩)
    · have e : k = 0 := by omega
      subst e
      rw [b.zero] at hx
      cases hx
      exact hu
theorem bfs_not_found (b : Bfs ends n L u wait cm c) (W : E → Prop) (t : Tight ends n L W) (hu : W u) (hw : wait[c]? = some w) (hj : j < n) : Cl ends (L j) w := (t w (bfs_inside b W t hu c w hw) j hj).mono fun z hz => hz.1
end
end BfM
namespace BfM
/-! ## Counting -/
theorem nodup_len {α : Type} : ∀ {l m : List α}, l.Nodup → (∀ x, x ∈ l → x ∈ m) → l.length ≤ m.length
  | [], _, _, _ => Nat.zero_le _
  | a :: l, m, h, k => by
    obtain ⟨s, t, rfl⟩ := List.append_of_mem (k a (List.mem_cons_self ..))
    obtain ⟨h1, h2⟩ := List.nodup_cons.mp h
    have := nodup_len (l := l) (m := s ++ t) h2 fun x hx => by
      have hxa : x ≠ a := fun e => h1 (by rw [← e]; exact hx)
      have := k x (List.mem_cons_of_mem _ hx)
      rw [List.mem_append, List.mem_cons] at this
      rw [List.mem_append]
      rcases this with q | q | q
      · exact .inl q
      · exact absurd q hxa
      · exact .inr q
    rw [List.length_append] at this
    rw [List.length_append, List.length_cons, List.length_cons]
    omega
theorem nodup_eq_len {α : Type} {l m : List α} (h1 : l.Nodup) (h2 : m.Nodup) (k : ∀ x, x ∈ l ↔ x ∈ m) : l.length = m.length :=
  Nat.le_antisymm (nodup_len h1 fun x hx => (k x).mp hx) (nodup_len h2 fun x hx => (k x).mpr hx)
theorem nodup_map {α β : Type} {f : α → β} : ∀ {l : List α}, l.Nodup → (∀ x, x ∈ l → ∀ y, y ∈ l → f x = f y → x = y) → (l.map f).Nodup
  | [], _, _ => by simp
  | a :: l, h, k => by
    obtain ⟨h1, h2⟩ := List.nodup_cons.mp h
    rw [List.map_cons, List.nodup_cons]
    refine ⟨fun q => ?_, nodup_map h2 fun x hx y hy => k x (List.mem_cons_of_mem _ hx) y (List.mem_cons_of_mem _ hy)⟩
    obtain ⟨b, hb, e⟩ := List.mem_map.mp q
    exact h1 (by rw [← k b (List.mem_cons_of_mem _ hb) a (List.mem_cons_self ..) e]; exact hb)
theorem count_one {α : Type} {q r : α → Bool} {a : α} : ∀ {l : List α}, l.Nodup → a ∈ l → r a = false → q a = true → (∀ p, p ∈ l → p ≠ a → q p = r p) → l.countP q = l.countP r + 1
  | [], _, h, _, _, _ => nomatch h
  | b :: l, nd, h, ra, qa, k => by
    obtain ⟨n1, n2⟩ := List.nodup_cons.mp nd
    rw [List.countP_cons, List.countP_cons]
    rcases List.mem_cons.mp h with e | h
    · subst e
      have e : l.countP q = l.countP r := List.countP_congr fun p hp => by rw [k p (List.mem_cons_of_mem _ hp) fun e => n1 (by rw [← e]; exact hp)]
      rw [e, ra, qa]
      simp
    · have hba : b ≠ a := fun e => n1 (by rw [e]; exact h)
      rw [count_one n2 h ra qa fun p hp hpa => k p (List.mem_cons_of_mem _ hp) hpa, k b (List.mem_cons_self ..) hba]
      omega
theorem count_not {α : Type} (q : α → Bool) : ∀ l : List α, l.countP q + l.countP (fun x => !q x) = l.length
  | [] => rfl
  | a :: l => by
    rw [List.countP_cons, List.countP_cons, List.length_cons, ← count_not q l]
    cases q a <;> simp <;> omega
theorem filter_len {α : Type} (q : α → Bool) (l : List α) : (l.filter q).length = l.countP q := List.countP_eq_length_filter.symm
theorem mem_filter {α : Type} {q : α → Prop} [DecidablePred q] {l : List α} {x : α} : x ∈ l.filter (fun z => decide (q z)) ↔ x ∈ l ∧ q x := by
  rw [List.mem_filter, decide_eq_true_iff]
/-- a list cut by a function into its classes -/
theorem sum_classes {α β : Type} [DecidableEq β] (f : α → β) (R : List β) (nd : R.Nodup) : ∀ V : List α, (∀ x, x ∈ V → f x ∈ R) → (R.map fun r => V.countP fun x => decide (f x = r)).sum = V.length
  | [], _ => by
    have : ∀ R : List β, (R.map fun r => ([] : List α).countP fun x => decide (f x = r)).sum = 0 := fun R => by
      induction R with
      | nil => rfl
      | cons a R ih => rw [List.map_cons, List.sum_cons, ih, List.countP_nil]
    rw [this]; rfl
  | x :: V, h => by
    have ih := sum_classes f R nd V fun y hy => h y (List.mem_cons_of_mem _ hy)
    have hx := h x (List.mem_cons_self ..)
    have key : ∀ R : List β, R.Nodup → (R.map fun r => (x :: V).countP fun x => decide (f x = r)).sum = (R.map fun r => V.countP fun x => decide (f x = r)).sum + if f x ∈ R then 1 else 0 := fun R => by
      induction R with
      | nil => intro _; simp
      | cons a R ih =>
        intro nd
        obtain ⟨n1, n2⟩ := List.nodup_cons.mp nd
        rw [List.map_cons, List.sum_cons, List.map_cons, List.sum_cons, ih n2, List.countP_cons]
        by_cases e : f x = a
        · subst e
          simp [n1]
          omega
        · simp [e]
          omega
    rw [key R nd, ih, if_pos hx, List.length_cons]
theorem sum_le {α : Type} (f g : α → Nat) : ∀ l : List α, (∀ x, x ∈ l → f x ≤ g x) → (l.map f).sum ≤ (l.map g).sum
  | [], _ => Nat.le_refl _
  | a :: l, h => by
    rw [List.map_cons, List.sum_cons, List.map_cons, List.sum_cons]
    exact Nat.add_le_add (h a (List.mem_cons_self ..)) (sum_le f g l fun x hx => h x (List.mem_cons_of_mem _ hx))
theorem sum_eq {α : Type} (f g : α → Nat) (l : List α) (h : ∀ x, x ∈ l → f x = g x) : (l.map f).sum = (l.map g).sum := by
  rw [List.map_congr_left h]
theorem sum_mul {α : Type} (f : α → Nat) (c : Nat) : ∀ l : List α, (l.map fun x => c * f x).sum = c * (l.map f).sum
  | [] => rfl
  | a :: l => by rw [List.map_cons, List.sum_cons, List.map_cons, List.sum_cons, sum_mul f c l, Nat.mul_add]
theorem sum_const {α : Type} (c : Nat) : ∀ l : List α, (l.map fun _ => c).sum = l.length * c
  | [] => by simp
  | a :: l => by rw [List.map_cons, List.sum_cons, sum_const c l, List.length_cons, Nat.add_mul, Nat.one_mul, Nat.add_comm]
theorem sum_add {α : Type} (f g : α → Nat) : ∀ l : List α, (l.map fun x => f x + g x).sum = (l.map f).sum + (l.map g).sum
  | [] => rfl
  | a :: l => by
    rw [List.map_cons, List.sum_cons, List.map_cons, List.sum_cons, List.map_cons, List.sum_cons, sum_add f g l]
    omega
theorem count_flatten {α : Type} (q : α → Bool) : ∀ l : List (List α), l.flatten.countP q = (l.map fun m => m.countP q).sum
  | [] => rfl
  | a :: l => by rw [List.flatten_cons, List.countP_append, count_flatten q l, List.map_cons, List.sum_cons]
/-! ## Marks: which places are joined -/
section
variable {E A : Type} [DecidableEq A]
structure MarkOk (ends : E → A × A) (V : List A) (P : E → Prop) (f : A → A) : Prop where
  conn : ∀ u, u ∈ V → ∀ v, v ∈ V → (f u = f v ↔ Conn ends P u v)
  inV : ∀ u, u ∈ V → f u ∈ V
  idem : ∀ u, u ∈ V → f (f u) = f u
def nonroots (V : List A) (f : A → A) : Nat := V.countP fun p => decide (f p ≠ p)
def roots (V : List A) (f : A → A) : Nat := V.countP fun p => decide (f p = p)
variable {ends : E → A × A} {V : List A} {P Q : E → Prop} {f g : A → A} {e : E} {X Y : List E}
theorem roots_add (V : List A) (f : A → A) : roots V f + nonroots V f = V.length := by
  have e : nonroots V f = V.countP fun p => !decide (f p = p) := List.countP_congr fun p _ => by simp
  rw [e]
  exact count_not _ V
theorem mark_id (V : List A) : MarkOk ends V (fun _ => False) (fun p => p) :=
  ⟨fun u _ v _ => ⟨fun h => by rw [show u = v from h]; exact .refl _, fun h => by
    induction h with
    | refl => rfl
    | fwd e _ pe _ => exact pe.elim
    | bwd e _ pe _ => exact pe.elim⟩, fun u h => h, fun _ _ => rfl⟩
theorem mark_congr (m : MarkOk ends V P f) (h : ∀ z, P z ↔ Q z) : MarkOk ends V Q f :=
  ⟨fun u hu v hv => (m.conn u hu v hv).trans ⟨fun c => c.mono fun z => (h z).mp, fun c => c.mono fun z => (h z).mpr⟩, m.inV, m.idem⟩
theorem mark_to (m : MarkOk ends V P f) (h : ∀ u, u ∈ V → g u = f u) : MarkOk ends V P g :=
  ⟨fun u hu v hv => by rw [h u hu, h v hv]; exact m.conn u hu v hv, fun u hu => by rw [h u hu]; exact m.inV u hu, fun u hu => by rw [h u hu, h _ (m.inV u hu)]; exact m.idem u hu⟩
theorem mark_same (m : MarkOk ends V P f) (h1 : (ends e).1 ∈ V) (h2 : (ends e).2 ∈ V) (h : f (ends e).1 = f (ends e).2) : MarkOk ends V (fun z => P z ∨ z = e) f :=
  ⟨fun u hu v hv => (m.conn u hu v hv).trans ⟨fun c => c.mono fun z => .inl, fun c => c.lift fun z hz => by
    rcases hz with hz | hz
    · exact cl_mem hz
    · rw [hz]; exact (m.conn _ h1 _ h2).mp h⟩, m.inV, m.idem⟩
theorem mark_merge (m : MarkOk ends V P f) (nd : V.Nodup) (h1 : (ends e).1 ∈ V) (h2 : (ends e).2 ∈ V) (h : f (ends e).1 ≠ f (ends e).2) {lo hi : A} (hl : (lo = f (ends e).1 ∧ hi = f (ends e).2) ∨ (lo = f (ends e).2 ∧ hi = f (ends e).1))
    (hg : ∀ p, p ∈ V → g p = if f p = hi then lo else f p) : MarkOk ends V (fun z => P z ∨ z = e) g ∧ nonroots V g = nonroots V f + 1 := by
  have ne : lo ≠ hi := by
    rcases hl with ⟨a, b⟩ | ⟨a, b⟩
    · rw [a, b]; exact h
    · rw [a, b]; exact h.symm
  have vlo : lo ∈ V := by
    rcases hl with ⟨a, _⟩ | ⟨a, _⟩ <;> rw [a]
    · exact m.inV _ h1
    · exact m.inV _ h2
  have vhi : hi ∈ V := by
    rcases hl with ⟨_, a⟩ | ⟨_, a⟩ <;> rw [a]
    · exact m.inV _ h2
    · exact m.inV _ h1
  have flo : f lo = lo := by
    rcases hl with ⟨a, _⟩ | ⟨a, _⟩ <;> rw [a]
    · exact m.idem _ h1
    · exact m.idem _ h2
  have fhi : f hi = hi := by
    rcases hl with ⟨_, a⟩ | ⟨_, a⟩ <;> rw [a]
    · exact m.idem _ h2
    · exact m.idem _ h1
  have join : Conn ends (fun z => P z ∨ z = e) lo hi := by
    have up : ∀ {a b : A}, a ∈ V → b ∈ V → f a = f b → Conn ends (fun z => P z ∨ z = e) a b := fun ha hb q => ((m.conn _ ha _ hb).mp q).mono fun z => .inl
    have mid : Conn ends (fun z => P z ∨ z = e) (ends e).1 (ends e).2 := cl_mem (P := fun z => P z ∨ z = e) (.inr rfl)
    rcases hl with ⟨a, b⟩ | ⟨a, b⟩
    · rw [a, b]
      exact ((up (m.inV _ h1) h1 (m.idem _ h1)).trans mid).trans (up h2 (m.inV _ h2) (m.idem _ h2).symm)
    · rw [a, b]
      exact ((up (m.inV _ h2) h2 (m.idem _ h2)).trans mid.symm).trans (up h1 (m.inV _ h1) (m.idem _ h1).symm)
  have gv : ∀ p, p ∈ V → g p ∈ V := fun p hp => by
    rw [hg p hp]
    split
    · exact vlo
    · exact m.inV p hp
  have toF : ∀ p, p ∈ V → Conn ends (fun z => P z ∨ z = e) p (g p) := fun p hp => by
    have c : Conn ends (fun z => P z ∨ z = e) p (f p) := ((m.conn p hp _ (m.inV p hp)).mp (m.idem p hp).symm).mono fun z => .inl
    rw [hg p hp]
    split
    · next q => rw [q] at c; exact c.trans join.symm
    · exact c
  refine ⟨⟨fun u hu v hv => ⟨fun q => (toF u hu).trans (by rw [q]; exact (toF v hv).symm), fun c => ?_⟩, gv, fun u hu => ?_⟩, ?_⟩
  · have both : ∀ {a b : A}, a ∈ V → b ∈ V → f a = f b → g a = g b := fun ha hb q => by rw [hg _ ha, hg _ hb, q]
    have glo : g lo = lo := by
      rw [hg lo vlo, flo, if_neg ne]
    have ghi : g hi = lo := by rw [hg hi vhi, fhi, if_pos rfl]
    have ge : g (ends e).1 = g (ends e).2 := by
      rcases hl with ⟨a, b⟩ | ⟨a, b⟩
      · rw [both h1 (m.inV _ h1) (m.idem _ h1).symm, both h2 (m.inV _ h2) (m.idem _ h2).symm, ← a, ← b, glo, ghi]
      · rw [both h1 (m.inV _ h1) (m.idem _ h1).symm, both h2 (m.inV _ h2) (m.idem _ h2).symm, ← a, ← b, glo, ghi]
    rcases Conn.add c with c | ⟨c, d⟩ | ⟨c, d⟩
    · exact both hu hv ((m.conn u hu v hv).mpr c)
    · rw [both hu h1 ((m.conn _ hu _ h1).mpr c), ge, both h2 hv ((m.conn _ h2 _ hv).mpr d)]
    · rw [both hu h2 ((m.conn _ hu _ h2).mpr c), ← ge, both h1 hv ((m.conn _ h1 _ hv).mpr d)]
  · have e1 := hg u hu
    by_cases q : f u = hi
    · rw [if_pos q] at e1
      rw [e1, hg lo vlo, flo, if_neg ne]
    · rw [if_neg q] at e1
      rw [e1, hg _ (m.inV u hu), m.idem u hu, if_neg q]
  · refine count_one nd vhi (by simp [fhi]) (by rw [hg hi vhi, fhi, if_pos rfl]; exact decide_eq_true ne) fun p hp hpa => ?_
    rw [hg p hp]
    by_cases q : f p = hi
    · rw [if_pos q, q]
      rw [decide_eq_true (show lo ≠ p from fun z => ne (by rw [← flo, z]; exact q)), decide_eq_true (show hi ≠ p from fun z => hpa z.symm)]
    · rw [if_neg q]
/-- equally joined: equally many roots -/
theorem roots_le (nd : V.Nodup) (m : MarkOk ends V P f) (m' : MarkOk ends V Q g) (h : ∀ u, u ∈ V → ∀ v, v ∈ V → (Conn ends P u v ↔ Conn ends Q u v)) : roots V f ≤ roots V g := by
  unfold roots
  rw [← filter_len, ← filter_len, ← List.length_map (f := g)]
  refine nodup_len (nodup_map (nd.sublist List.filter_sublist) fun x hx y hy e => ?_) fun z hz => ?_
  · obtain ⟨hx1, hx2⟩ := mem_filter.mp hx
    obtain ⟨hy1, hy2⟩ := mem_filter.mp hy
    rw [← hx2, ← hy2]
    exact (m.conn _ hx1 _ hy1).mpr ((h _ hx1 _ hy1).mpr ((m'.conn _ hx1 _ hy1).mp e))
  · obtain ⟨y, hy, rfl⟩ := List.mem_map.mp hz
    obtain ⟨hy1, _⟩ := mem_filter.mp hy
    exact mem_filter.mpr ⟨m'.inV y hy1, m'.idem y hy1⟩
theorem nonroots_eq (nd : V.Nodup) (m : MarkOk ends V P f) (m' : MarkOk ends V Q g) (h : ∀ u, u ∈ V → ∀ v, v ∈ V → (Conn ends P u v ↔ Conn ends Q u v)) : nonroots V f = nonroots V g := by
  have h1 := roots_le nd m m' h
  have h2 := roots_le nd m' m fun u hu v hv => (h u hu v hv).symm
  have h3 := roots_add V f
  have h4 := roots_add V g
  omega
/-! ## Rank -/
def markL (ends : E → A × A) : List E → A → A
  | [], p => p
  | e :: X, p => if markL ends X p = markL ends X (ends e).1 then markL ends X (ends e).2 else markL ends X p
def rk (ends : E → A × A) (V : List A) (X : List E) : Nat := nonroots V (markL ends X)
structure Web (ends : E → A × A) (V : List A) : Prop where
  nd : V.Nodup
  ends1 : ∀ e, (ends e).1 ∈ V
  ends2 : ∀ e, (ends e).2 ∈ V
theorem mark_ok (hw : Web ends V) : ∀ X : List E, MarkOk ends V (· ∈ X) (markL ends X)
  | [] => mark_congr (mark_to (mark_id V) fun u _ => rfl) fun z => by simp
  | e :: X => by
    have ih := mark_ok hw X
    have sw : ∀ z, (z ∈ X ∨ z = e) ↔ z ∈ e :: X := fun z => by rw [List.mem_cons]; exact Or.comm
    by_cases q : markL ends X (ends e).1 = markL ends X (ends e).2
    · refine mark_congr (mark_to (mark_same ih (hw.ends1 e) (hw.ends2 e) q) fun u hu => ?_) sw
      show (if markL ends X u = markL ends X (ends e).1 then markL ends X (ends e).2 else markL ends X u) = _
      split
      · next z => rw [z]; exact q.symm
      · rfl
    · exact mark_congr (mark_merge ih hw.nd (hw.ends1 e) (hw.ends2 e) q (.inr ⟨rfl, rfl⟩) fun p _ => rfl).1 sw
theorem rk_of (hw : Web ends V) (m : MarkOk ends V (· ∈ X) f) : nonroots V f = rk ends V X := nonroots_eq hw.nd m (mark_ok hw X) fun _ _ _ _ => Iff.rfl
theorem rk_cl (hw : Web ends V) (h1 : ∀ e, e ∈ X → Cl ends (· ∈ Y) e) (h2 : ∀ e, e ∈ Y → Cl ends (· ∈ X) e) : rk ends V X = rk ends V Y :=
  nonroots_eq hw.nd (mark_ok hw X) (mark_ok hw Y) fun _ _ _ _ => ⟨fun c => c.lift h1, fun c => c.lift h2⟩
theorem rk_congr (hw : Web ends V) (h : ∀ e, e ∈ X ↔ e ∈ Y) : rk ends V X = rk ends V Y := rk_cl hw (fun e he => cl_mem ((h e).mp he)) fun e he => cl_mem ((h e).mpr he)
theorem rk_nil : rk ends V ([] : List E) = 0 := by
  show V.countP (fun p => decide (p ≠ p)) = 0
  rw [List.countP_eq_zero]
  simp
theorem rk_cons_in (hw : Web ends V) (h : Cl ends (· ∈ X) e) : rk ends V (e :: X) = rk ends V X :=
  rk_cl hw (fun z hz => by
    rcases List.mem_cons.mp hz with q | q
    · rw [q]; exact h
    · exact cl_mem q) fun z hz => cl_mem (List.mem_cons_of_mem _ hz)
theorem rk_cons_out (hw : Web ends V) (h : ¬ Cl ends (· ∈ X) e) : rk ends V (e :: X) = rk ends V X + 1 :=
  (mark_merge (mark_ok hw X) hw.nd (hw.ends1 e) (hw.ends2 e) (fun q => h (((mark_ok hw X).conn _ (hw.ends1 e) _ (hw.ends2 e)).mp q)) (.inr ⟨rfl, rfl⟩) fun p _ => rfl).2
theorem rk_cons_le (hw : Web ends V) : rk ends V X ≤ rk ends V (e :: X) ∧ rk ends V (e :: X) ≤ rk ends V X + 1 := by
  by_cases h : Cl ends (· ∈ X) e
  · rw [rk_cons_in hw h]; omega
  · rw [rk_cons_out hw h]; omega
theorem rk_le_len (hw : Web ends V) : ∀ X : List E, rk ends V X ≤ X.length
  | [] => by rw [rk_nil]; exact Nat.zero_le _
  | e :: X => by
    have h1 := rk_le_len hw X
    have h2 := (rk_cons_le (e := e) (X := X) hw).2
    rw [List.length_cons]
    omega
theorem rk_append_le (hw : Web ends V) : ∀ Y X : List E, rk ends V X ≤ rk ends V (Y ++ X)
  | [], X => Nat.le_refl _
  | e :: Y, X => Nat.le_trans (rk_append_le hw Y X) (rk_cons_le hw).1
theorem rk_mono (hw : Web ends V) (h : ∀ e, e ∈ X → e ∈ Y) : rk ends V X ≤ rk ends V Y := by
  have := rk_append_le hw Y X
  rwa [rk_congr (X := Y ++ X) (Y := Y) hw fun e => by rw [List.mem_append]; exact ⟨fun q => q.elim id (h e), .inl⟩] at this
theorem rk_ind (hw : Web ends V) : ∀ {X : List E}, X.Nodup → Ind ends (· ∈ X) → rk ends V X = X.length
  | [], _, _ => rk_nil
  | e :: X, nd, h => by
    obtain ⟨n1, n2⟩ := List.nodup_cons.mp nd
    have ne : ∀ z, z ∈ X → z ≠ e := fun z hz q => n1 (by rw [← q]; exact hz)
    rw [rk_cons_out hw fun c => h e (List.mem_cons_self ..) (c.mono fun z hz => ⟨List.mem_cons_of_mem _ hz, ne z hz⟩), rk_ind hw n2 (h.mono fun z hz => List.mem_cons_of_mem _ hz), List.length_cons]
theorem ind_of_rk (hw : Web ends V) : ∀ {X : List E}, X.Nodup → rk ends V X = X.length → Ind ends (· ∈ X)
  | X, nd, h => fun e he c => by
    obtain ⟨s, t, rfl⟩ := List.append_of_mem he
    have e1 : rk ends V (s ++ e :: t) = rk ends V (e :: (s ++ t)) := rk_congr hw fun z => by simp [or_left_comm]
    have nd' : e ∉ s ++ t := by
      have := nd
      rw [List.nodup_append] at this
      obtain ⟨_, h2, h3⟩ := this
      rw [List.mem_append]
      rintro (q | q)
      · exact h3 e q e (List.mem_cons_self ..) rfl
      · exact (List.nodup_cons.mp h2).1 q
    have e2 : Cl ends (· ∈ s ++ t) e := c.mono fun z hz => by
      have this : z ∈ s ++ e :: t := hz.1
      rw [List.mem_append, List.mem_cons] at this
      show z ∈ s ++ t
      rw [List.mem_append]
      rcases this with q | q | q
      · exact .inl q
      · exact absurd q hz.2
      · exact .inr q
    rw [e1, rk_cons_in hw e2] at h
    have := rk_le_len hw (s ++ t)
    rw [h, List.length_append, List.length_append, List.length_cons] at this
    omega
/-- a free lot that spans: its number is the rank -/
theorem rk_span (hw : Web ends V) (nd : X.Nodup) (hI : Ind ends (· ∈ X)) (h1 : ∀ e, e ∈ X → e ∈ Y) (h2 : ∀ e, e ∈ Y → Cl ends (· ∈ X) e) : rk ends V Y = X.length := by
  rw [← rk_ind hw nd hI]
  exact rk_cl hw h2 fun e he => cl_mem (h1 e he)
theorem ind_le_rk (hw : Web ends V) (nd : X.Nodup) (hI : Ind ends (· ∈ X)) (h1 : ∀ e, e ∈ X → e ∈ Y) : X.length ≤ rk ends V Y := by
  rw [← rk_ind hw nd hI]
  exact rk_mono hw h1
/-- parts of the places that no tie leaves -/
theorem rk_parts (hw : Web ends V) (parts : List (List A)) (ne : ∀ m, m ∈ parts → m ≠ []) (sub : ∀ m, m ∈ parts → ∀ a, a ∈ m → a ∈ V) (dis : parts.Pairwise fun m k => ∀ a, a ∈ m → a ∉ k)
    (hX : ∀ e, e ∈ X → ∀ m, m ∈ parts → ((ends e).1 ∈ m ↔ (ends e).2 ∈ m)) : rk ends V X + parts.length ≤ V.length := by
  have mk := mark_ok hw X
  have stay : ∀ m, m ∈ parts → ∀ {u v : A}, Conn ends (· ∈ X) u v → u ∈ m → v ∈ m := fun m hm u v c hu => by
    induction c with
    | refl => exact hu
    | fwd e _ pe ih => exact (hX e pe m hm).mp ih
    | bwd e _ pe ih => exact (hX e pe m hm).mpr ih
  have rin : ∀ m, m ∈ parts → ∀ a, a ∈ m → markL ends X a ∈ m := fun m hm a ha => stay m hm ((mk.conn a (sub m hm a ha) _ (mk.inV a (sub m hm a ha))).mp (mk.idem a (sub m hm a ha)).symm) ha
  have key : ∀ ps : List (List A), (∀ m, m ∈ ps → m ∈ parts) → ps.Pairwise (fun m k => ∀ a, a ∈ m → a ∉ k) → ∃ R : List A, R.length = ps.length ∧ R.Nodup ∧ ∀ r, r ∈ R → (r ∈ V ∧ markL ends X r = r) ∧ ∃ m, m ∈ ps ∧ r ∈ m := fun ps => by
    induction ps with
    | nil => exact fun _ _ => ⟨[], rfl, by simp, fun r hr => nomatch hr⟩
    | cons m ps ih =>
      intro hp hd
      obtain ⟨R, l, nd, h⟩ := ih (fun k hk => hp k (List.mem_cons_of_mem _ hk)) (List.pairwise_cons.mp hd).2
      have hm := hp m (List.mem_cons_self ..)
      match m, ne m hm with
      | a :: m', _ =>
        have ha := sub _ hm a (List.mem_cons_self ..)
        refine ⟨markL ends X a :: R, by rw [List.length_cons, List.length_cons, l], List.nodup_cons.mpr ⟨fun q => ?_, nd⟩, fun r hr => ?_⟩
        · obtain ⟨_, k, hk, q2⟩ := h _ q
          exact (List.pairwise_cons.mp hd).1 k hk _ (rin _ hm a (List.mem_cons_self ..)) q2
        · rcases List.mem_cons.mp hr with e | hr
          · subst e
            exact ⟨⟨mk.inV a ha, mk.idem a ha⟩, _, List.mem_cons_self .., rin _ hm a (List.mem_cons_self ..)⟩
          · obtain ⟨h1, k, hk, h2⟩ := h r hr
            exact ⟨h1, k, List.mem_cons_of_mem _ hk, h2⟩
  obtain ⟨R, l, nd, h⟩ := key parts (fun _ q => q) dis
  have h1 : R.length ≤ roots V (markL ends X) := by
    unfold roots
    rw [← filter_len]
    exact nodup_len nd fun r hr => mem_filter.mpr (h r hr).1
  have h2 := roots_add V (markL ends X)
  show nonroots V (markL ends X) + _ ≤ _
  omega
end
end BfM
namespace BfM
/-! ## Units: a thing and a number of its copy -/
section
variable {T A : Type}
def endsU (ends : T → A × A) (u : T × Nat) : A × A := ends u.1
variable {ends : T → A × A} {P : T → Prop} {PU : T × Nat → Prop} {a b : A} {u : T × Nat} {t : T}
theorem conn_up (h : Conn ends P a b) (k : ∀ t, P t → ∃ c, PU (t, c)) : Conn (endsU ends) PU a b := by
  induction h with
  | refl => exact .refl _
  | fwd e _ pe ih =>
    obtain ⟨c, hc⟩ := k e pe
    exact Conn.fwd (ends := endsU ends) (e, c) ih hc
  | bwd e _ pe ih =>
    obtain ⟨c, hc⟩ := k e pe
    exact Conn.bwd (ends := endsU ends) (e, c) ih hc
theorem conn_down (h : Conn (endsU ends) PU a b) (k : ∀ u, PU u → P u.1) : Conn ends P a b := by
  induction h with
  | refl => exact .refl _
  | fwd e _ pe ih => exact Conn.fwd (ends := ends) e.1 ih (k e pe)
  | bwd e _ pe ih => exact Conn.bwd (ends := ends) e.1 ih (k e pe)
theorem cl_up (h : Cl ends P u.1) (k : ∀ t, P t → ∃ c, PU (t, c)) : Cl (endsU ends) PU u := conn_up h k
theorem cl_down (h : Cl (endsU ends) PU u) (k : ∀ u, PU u → P u.1) : Cl ends P u.1 := conn_down h k
theorem cl_copy (h : PU (t, n)) (e : u.1 = t) : Cl (endsU ends) PU u := by
  have c : Cl (endsU ends) PU (t, n) := cl_mem h
  show Conn (endsU ends) PU (ends u.1).1 (ends u.1).2
  rw [e]
  exact c
/-- of a free lot of units: the things are unlike, and free -/
theorem things_nodup {l : List (T × Nat)} (nd : l.Nodup) (h : Ind (endsU ends) (· ∈ l)) : (l.map (·.1)).Nodup :=
  nodup_map nd fun x hx y hy e => Classical.byContradiction fun ne => h x hx (cl_copy (t := y.1) (n := y.2) ⟨hy, fun q => ne q.symm⟩ e)
theorem things_ind {l : List (T × Nat)} (h : Ind (endsU ends) (· ∈ l)) : Ind ends (· ∈ l.map (·.1)) := fun t ht c => by
  obtain ⟨x, hx, rfl⟩ := List.mem_map.mp ht
  refine h x hx (cl_up c fun z hz => ?_)
  obtain ⟨y, hy, e⟩ := List.mem_map.mp hz.1
  subst e
  exact ⟨y.2, hy, fun q => hz.2 (by rw [← q])⟩
theorem units_ind {l : List (T × Nat)} (nd : (l.map (·.1)).Nodup) (h : Ind ends (· ∈ l.map (·.1))) : Ind (endsU ends) (· ∈ l) := fun x hx c => by
  refine h x.1 (List.mem_map.mpr ⟨x, hx, rfl⟩) (cl_down c fun y hy => ⟨List.mem_map.mpr ⟨y, hy.1, rfl⟩, fun e => hy.2 ?_⟩)
  obtain ⟨i, hi, ei⟩ := List.getElem_of_mem hx
  obtain ⟨j, hj, ej⟩ := List.getElem_of_mem hy.1
  have hij : i = j := by
    refine (List.getElem_inj (h₀ := by rw [List.length_map]; exact hi) (h₁ := by rw [List.length_map]; exact hj) nd).mp ?_
    rw [List.getElem_map, List.getElem_map, ei, ej, e]
  subst hij
  rw [← ei, ← ej]
end
section
variable {T A : Type} [DecidableEq T] [DecidableEq A]
/-- so many copies of each thing -/
def copiesF (things : List T) (q : Nat) : List (T × Nat) := things.flatMap fun t => (List.range q).map fun c => (t, c)
theorem mem_copies {things : List T} {q : Nat} {u : T × Nat} : u ∈ copiesF things q ↔ u.1 ∈ things ∧ u.2 < q := by
  unfold copiesF
  rw [List.mem_flatMap]
  constructor
  · rintro ⟨t, ht, h⟩
    obtain ⟨c, hc, rfl⟩ := List.mem_map.mp h
    exact ⟨ht, List.mem_range.mp hc⟩
  · rintro ⟨h1, h2⟩
    exact ⟨u.1, h1, List.mem_map.mpr ⟨u.2, List.mem_range.mpr h2, rfl⟩⟩
theorem copies_nodup {q : Nat} : ∀ {things : List T}, things.Nodup → (copiesF things q).Nodup
  | [], _ => by simp [copiesF]
  | t :: r, nd => by
    obtain ⟨n1, n2⟩ := List.nodup_cons.mp nd
    show ((List.range q).map (fun c => (t, c)) ++ copiesF r q).Nodup
    rw [List.nodup_append]
    refine ⟨nodup_map List.nodup_range fun x _ y _ e => (Prod.mk.inj e).2, copies_nodup n2, fun a ha b hb e => ?_⟩
    obtain ⟨c, _, rfl⟩ := List.mem_map.mp ha
    subst e
    exact n1 (mem_copies.mp hb).1
theorem count_copies {q : Nat} (g : T → Bool) : ∀ things : List T, (copiesF things q).countP (fun u => g u.1) = q * things.countP g
  | [] => by simp [copiesF]
  | t :: r => by
    show ((List.range q).map (fun c => (t, c)) ++ copiesF r q).countP _ = _
    rw [List.countP_append, count_copies g r, List.countP_map, List.countP_cons]
    have e : (List.range q).countP ((fun u : T × Nat => g u.1) ∘ fun c => (t, c)) = if g t = true then q else 0 := by
      by_cases h : g t = true
      · rw [if_pos h]
        have : (List.range q).countP ((fun u : T × Nat => g u.1) ∘ fun c => (t, c)) = (List.range q).length := List.countP_eq_length.mpr fun c _ => h
        rw [this, List.length_range]
      · rw [if_neg h]
        exact List.countP_eq_zero.mpr fun c _ => h
    rw [e]
    by_cases h : g t = true
    · rw [if_pos h, if_pos h, Nat.mul_add, Nat.mul_one, Nat.add_comm]
    · rw [if_neg h, if_neg h]; simp
theorem copies_length (things : List T) (q : Nat) : (copiesF things q).length = q * things.length := by
  have h := count_copies (q := q) (fun _ => true) things
  have e1 : (copiesF things q).countP (fun _ => true) = (copiesF things q).length := List.countP_eq_length.mpr fun _ _ => rfl
  have e2 : things.countP (fun _ => true) = things.length := List.countP_eq_length.mpr fun _ _ => rfl
  rw [e1, e2] at h
  exact h
theorem flatten_nodup {U : Type} : ∀ {ls : List (List U)}, ls.flatten.Nodup → ∀ l, l ∈ ls → l.Nodup
  | [], _, _, h => nomatch h
  | a :: ls, nd, l, h => by
    rw [List.flatten_cons, List.nodup_append] at nd
    rcases List.mem_cons.mp h with e | h
    · rw [e]; exact nd.1
    · exact flatten_nodup nd.2.1 l h
/-- so many lots of units, each free; together the units placed -/
structure Parts (ends : T → A × A) (p : Nat) (lots : List (List (T × Nat))) (placed : List (T × Nat)) : Prop where
  len : lots.length = p
  perm : lots.flatten.Perm placed
  nd : placed.Nodup
  free : ∀ l, l ∈ lots → Ind (endsU ends) (· ∈ l)
def LL {U : Type} (lots : List (List U)) (j : Nat) (z : U) : Prop := ∃ l, lots[j]? = some l ∧ z ∈ l
variable {ends : T → A × A} {V : List A} {p q : Nat} {lots : List (List (T × Nat))} {placed units left W : List (T × Nat)} {things S X : List T} {u : T × Nat}
theorem Parts.ndL (h : Parts ends p lots placed) : ∀ l, l ∈ lots → l.Nodup := by
  have nd : lots.flatten.Nodup := h.perm.nodup_iff.mpr h.nd
  exact fun l hl => flatten_nodup nd l hl
theorem Parts.ind (h : Parts ends p lots placed) : ∀ j, j < p → Ind (endsU ends) (LL lots j) := fun j hj => by
  have hl : j < lots.length := by rw [h.len]; exact hj
  refine (h.free lots[j] (List.getElem_mem hl)).mono fun z hz => ?_
  obtain ⟨l, e, hz⟩ := hz
  rw [List.getElem?_eq_getElem hl] at e
  cases e
  exact hz
theorem Parts.out (h : Parts ends p lots placed) (hu : u ∉ placed) : ∀ j, j < p → ¬ LL lots j u := fun j hj c => by
  obtain ⟨l, e, hz⟩ := c
  exact hu (h.perm.mem_iff.mp (List.mem_flatten.mpr ⟨l, List.mem_of_getElem? e, hz⟩))
/-- what a lot holds of some things -/
theorem lot_part {l : List (T × Nat)} (nd : l.Nodup) (hI : Ind (endsU ends) (· ∈ l)) (g : T × Nat → Bool) : ((l.filter g).map (·.1)).Nodup ∧ Ind ends (· ∈ (l.filter g).map (·.1)) ∧ ((l.filter g).map (·.1)).length = l.countP g := by
  have h1 : (l.filter g).Nodup := nd.sublist List.filter_sublist
  have h2 : Ind (endsU ends) (· ∈ l.filter g) := hI.mono fun z hz => (List.mem_filter.mp hz).1
  exact ⟨things_nodup h1 h2, things_ind h2, by rw [List.length_map, filter_len]⟩
theorem lot_le (hw : Web ends V) {l : List (T × Nat)} (nd : l.Nodup) (hI : Ind (endsU ends) (· ∈ l)) (X : List T) : (l.countP fun u => decide (u.1 ∈ X)) ≤ rk ends V X := by
  obtain ⟨h1, h2, h3⟩ := lot_part nd hI fun u => decide (u.1 ∈ X)
  rw [← h3]
  refine ind_le_rk hw h1 h2 fun e he => ?_
  obtain ⟨x, hx, rfl⟩ := List.mem_map.mp he
  exact of_decide_eq_true (List.mem_filter.mp hx).2
theorem lot_eq (hw : Web ends V) {l : List (T × Nat)} (nd : l.Nodup) (hI : Ind (endsU ends) (· ∈ l)) (g : T × Nat → Bool) (h1 : ∀ u, u ∈ l → g u = true → u.1 ∈ S) (h2 : ∀ t, t ∈ S → ∃ c, Cl (endsU ends) (fun z => z ∈ l ∧ g z = true) (t, c)) : l.countP g = rk ends V S := by
  obtain ⟨k1, k2, k3⟩ := lot_part nd hI g
  rw [← k3]
  refine (rk_span hw k1 k2 (fun e he => ?_) fun e he => ?_).symm
  · obtain ⟨x, hx, rfl⟩ := List.mem_map.mp he
    obtain ⟨q1, q2⟩ := List.mem_filter.mp hx
    exact h1 x q1 q2
  · obtain ⟨c, hc⟩ := h2 e he
    exact cl_down hc fun z hz => List.mem_map.mpr ⟨z, List.mem_filter.mpr hz, rfl⟩
theorem tight_in (h : Parts ends p lots placed) {W : T × Nat → Prop} (t : Tight (endsU ends) p (LL lots) W) {w : T × Nat} (hw : W w) {l : List (T × Nat)} (hl : l ∈ lots) : Cl (endsU ends) (fun z => z ∈ l ∧ W z) w := by
  obtain ⟨j, hj, e⟩ := List.getElem_of_mem hl
  refine (t w hw j (by rw [← h.len]; exact hj)).mono fun z hz => ⟨?_, hz.2⟩
  obtain ⟨l', e', hz'⟩ := hz.1
  rw [List.getElem?_eq_getElem hj, e] at e'
  cases e'
  exact hz'
/-- a unit that can't be placed: more copies than ranks -/
theorem stuck_count (hw : Web ends V) (h : Parts ends p lots placed) (hu : u ∉ placed) (t : Tight (endsU ends) p (LL lots) (· ∈ W)) (hW : W.Nodup) (huW : u ∈ W) (sub : ∀ w, w ∈ W → w = u ∨ w ∈ placed) (hq : ∀ w, w ∈ W → w.2 < q)
    (hS : S.Nodup) (hSW : ∀ t, t ∈ S ↔ ∃ c, (t, c) ∈ W) : p * rk ends V S + 1 ≤ q * S.length := by
  have e1 : ∀ l, l ∈ lots → (l.countP fun z => decide (z ∈ W)) = rk ends V S := fun l hl => by
    refine lot_eq hw (h.ndL l hl) (h.free l hl) _ (fun z _ hz => (hSW z.1).mpr ⟨z.2, of_decide_eq_true hz⟩) fun x hx => ?_
    obtain ⟨c, hc⟩ := (hSW x).mp hx
    exact ⟨c, (tight_in h t hc hl).mono fun z hz => ⟨hz.1, decide_eq_true hz.2⟩⟩
  have e2 : (placed.countP fun z => decide (z ∈ W)) = p * rk ends V S := by
    rw [← h.perm.countP_eq, count_flatten, sum_eq _ (fun _ => rk ends V S) lots e1, sum_const, h.len]
  have e3 : W.length = (placed.countP fun z => decide (z ∈ W)) + 1 := by
    have a : (W.countP fun z => decide (z = u)) = 1 := by
      have := count_one (q := fun z => decide (z = u)) (r := fun _ => false) hW huW rfl (by simp) fun z _ hz => by simp [hz]
      rw [this]
      simp
    have b := count_not (fun z => decide (z = u)) W
    have c : (W.countP fun z => !decide (z = u)) = placed.countP fun z => decide (z ∈ W) := by
      rw [← filter_len, ← filter_len]
      refine nodup_eq_len (hW.sublist List.filter_sublist) (h.nd.sublist List.filter_sublist) fun z => ?_
      rw [List.mem_filter, List.mem_filter, decide_eq_true_iff]
      constructor
      · rintro ⟨z1, z2⟩
        have : z ≠ u := by simpa using z2
        exact ⟨(sub z z1).resolve_left this, z1⟩
      · rintro ⟨z1, z2⟩
        exact ⟨z2, by
          have : z ≠ u := fun e => hu (by rw [← e]; exact z1)
          simpa using this⟩
    omega
  have e4 : W.length ≤ q * S.length := by
    rw [← sum_classes (fun w : T × Nat => w.1) S hS W fun w hw => (hSW w.1).mpr ⟨w.2, hw⟩]
    have : ∀ s, s ∈ S → (W.countP fun w => decide (w.1 = s)) ≤ q := fun s _ => by
      rw [← filter_len, ← List.length_map (f := fun w : T × Nat => w.2)]
      have b : q = (List.range q).length := List.length_range.symm
      rw [b]
      refine nodup_len (nodup_map (hW.sublist List.filter_sublist) fun x hx y hy e => ?_) fun c hc => ?_
      · have x1 := (mem_filter.mp hx).2
        have y1 := (mem_filter.mp hy).2
        exact Prod.ext (x1.trans y1.symm) e
      · obtain ⟨x, hx, rfl⟩ := List.mem_map.mp hc
        exact List.mem_range.mpr (hq x (mem_filter.mp hx).1)
    have c := sum_le _ (fun _ => q) S this
    rw [sum_const] at c
    rw [Nat.mul_comm]
    exact c
  omega
/-- all copies are placed: a bound for each lot -/
theorem cover_le (hw : Web ends V) (h : Parts ends p lots placed) (hp : placed.Perm (copiesF things q)) (hX : X.Nodup) (hXT : ∀ t, t ∈ X → t ∈ things) (ht : things.Nodup) : q * X.length ≤ p * rk ends V X := by
  have e1 : (placed.countP fun z => decide (z.1 ∈ X)) = q * X.length := by
    rw [hp.countP_eq, count_copies (fun t => decide (t ∈ X))]
    congr 1
    rw [← filter_len]
    exact nodup_eq_len (ht.sublist List.filter_sublist) hX fun t => by
      rw [List.mem_filter, decide_eq_true_iff]
      exact ⟨fun q => q.2, fun q => ⟨hXT t q, q⟩⟩
  rw [← e1, ← h.perm.countP_eq, count_flatten]
  have := sum_le (fun l => l.countP fun z : T × Nat => decide (z.1 ∈ X)) (fun _ => rk ends V X) lots fun l hl => lot_le hw (h.ndL l hl) (h.free l hl) X
  rw [sum_const, h.len] at this
  exact this
/-- as many as can be placed, and what the left ones push -/
theorem most_count (hw : Web ends V) (h : Parts ends p lots placed) (hp : (placed ++ left).Perm (copiesF things q)) (hS : S.Nodup) (hST : ∀ t, t ∈ S → t ∈ things) (ht : things.Nodup) (hl : ∀ u, u ∈ left → u.1 ∈ S)
    (hW : ∀ t, t ∈ S → ∃ W : T × Nat → Prop, Tight (endsU ends) p (LL lots) W ∧ (∀ w, W w → w.1 ∈ S) ∧ ∃ c, W (t, c)) : placed.length + q * S.length = p * rk ends V S + q * things.length := by
  have e1 : (placed.countP fun z => decide (z.1 ∈ S)) = p * rk ends V S := by
    rw [← h.perm.countP_eq, count_flatten, sum_eq _ (fun _ => rk ends V S) lots fun l hl => ?_, sum_const, h.len]
    refine lot_eq hw (h.ndL l hl) (h.free l hl) _ (fun z _ hz => of_decide_eq_true hz) fun x hx => ?_
    obtain ⟨W, t, sub, c, hc⟩ := hW x hx
    exact ⟨c, (tight_in h t hc hl).mono fun z hz => ⟨hz.1, decide_eq_true (sub z hz.2)⟩⟩
  have e2 : (placed.countP fun z => !decide (z.1 ∈ S)) = (copiesF things q).countP fun z => !decide (z.1 ∈ S) := by
    rw [← hp.countP_eq, List.countP_append]
    have : left.countP (fun z => !decide (z.1 ∈ S)) = 0 := List.countP_eq_zero.mpr fun z hz => by simp [hl z hz]
    omega
  rw [count_copies (fun t => !decide (t ∈ S))] at e2
  have e3 := count_not (fun t => decide (t ∈ S)) things
  have e4 : (things.countP fun t => decide (t ∈ S)) = S.length := by
    rw [← filter_len]
    exact nodup_eq_len (ht.sublist List.filter_sublist) hS fun t => by
      rw [List.mem_filter, decide_eq_true_iff]
      exact ⟨fun q => q.2, fun q => ⟨hST t q, q⟩⟩
  have e5 := count_not (fun z : T × Nat => decide (z.1 ∈ S)) placed
  rw [e4] at e3
  rw [← e3, Nat.mul_add]
  omega
theorem pack_le (hw : Web ends V) (h : Parts ends p lots placed) (hp : (placed ++ left).Perm (copiesF things q)) (hX : X.Nodup) (hXT : ∀ t, t ∈ X → t ∈ things) (ht : things.Nodup) : placed.length + q * X.length ≤ p * rk ends V X + q * things.length := by
  have e1 : (placed.countP fun z => decide (z.1 ∈ X)) ≤ p * rk ends V X := by
    rw [← h.perm.countP_eq, count_flatten]
    have := sum_le (fun l => l.countP fun z : T × Nat => decide (z.1 ∈ X)) (fun _ => rk ends V X) lots fun l hl => lot_le hw (h.ndL l hl) (h.free l hl) X
    rw [sum_const, h.len] at this
    exact this
  have e2 : (placed.countP fun z => !decide (z.1 ∈ X)) ≤ (copiesF things q).countP fun z => !decide (z.1 ∈ X) := by
    rw [← hp.countP_eq, List.countP_append]
    exact Nat.le_add_right _ _
  rw [count_copies (fun t => !decide (t ∈ X))] at e2
  have e3 := count_not (fun t => decide (t ∈ X)) things
  have e4 : (things.countP fun t => decide (t ∈ X)) = X.length := by
    rw [← filter_len]
    exact nodup_eq_len (ht.sublist List.filter_sublist) hX fun t => by
      rw [List.mem_filter, decide_eq_true_iff]
      exact ⟨fun q => q.2, fun q => ⟨hXT t q, q⟩⟩
  have e5 := count_not (fun z : T × Nat => decide (z.1 ∈ X)) placed
  rw [e4] at e3
  rw [← e3, Nat.mul_add]
  omega
/-- no lot has more than the rank of all things; if all have as many, they are bases -/
theorem lots_le (hw : Web ends V) (h : Parts ends p lots placed) (hp : ∀ u, u ∈ placed → u.1 ∈ things) : ∀ l, l ∈ lots → l.length ≤ rk ends V things := fun l hl => by
  have := lot_le hw (h.ndL l hl) (h.free l hl) things
  rwa [show (l.countP fun u => decide (u.1 ∈ things)) = l.length from List.countP_eq_length.mpr fun u hu => decide_eq_true (hp u (h.perm.mem_iff.mp (List.mem_flatten.mpr ⟨l, hl, hu⟩)))] at this
theorem parts_length (h : Parts ends p lots placed) : placed.length = (lots.map List.length).sum := by
  rw [← h.perm.length_eq, List.length_flatten]
theorem sum_full {f : List (T × Nat) → Nat} {m : Nat} : ∀ {l : List (List (T × Nat))}, (∀ x, x ∈ l → f x ≤ m) → (l.map f).sum = l.length * m → ∀ x, x ∈ l → f x = m
  | [], _, _ => fun x hx => nomatch hx
  | a :: l, h1, h2 => by
    have b := sum_le f (fun _ => m) l fun x hx => h1 x (List.mem_cons_of_mem _ hx)
    rw [sum_const] at b
    rw [List.map_cons, List.sum_cons, List.length_cons, Nat.add_mul, Nat.one_mul] at h2
    have c := h1 a (List.mem_cons_self ..)
    intro x hx
    rcases List.mem_cons.mp hx with e | hx
    · rw [e]; omega
    · exact sum_full (fun x hx => h1 x (List.mem_cons_of_mem _ hx)) (by omega) x hx
theorem most_le (hw : Web ends V) (h : Parts ends p lots placed) (hp : ∀ u, u ∈ placed → u.1 ∈ things) : placed.length ≤ p * rk ends V things := by
  rw [parts_length h]
  have := sum_le List.length (fun _ => rk ends V things) lots (lots_le hw h hp)
  rw [sum_const, h.len] at this
  exact this
theorem most_full (hw : Web ends V) (h : Parts ends p lots placed) (hp : ∀ u, u ∈ placed → u.1 ∈ things) (e : placed.length = p * rk ends V things) : ∀ l, l ∈ lots → l.length = rk ends V things := by
  rw [parts_length h, ← h.len] at e
  exact sum_full (lots_le hw h hp) e
/-- how often a thing stands in the lots -/
theorem times_count (h : Parts ends p lots placed) (t : T) : (lots.countP fun l => decide (t ∈ l.map (·.1))) = placed.countP fun u => decide (u.1 = t) := by
  rw [← h.perm.countP_eq, count_flatten]
  have key : ∀ ls : List (List (T × Nat)), (∀ l, l ∈ ls → (l.map (·.1)).Nodup) → (ls.countP fun l => decide (t ∈ l.map (·.1))) = (ls.map fun m => m.countP fun u => decide (u.1 = t)).sum := fun ls => by
    induction ls with
    | nil => exact fun _ => rfl
    | cons l ls ih =>
      intro hn
      rw [List.countP_cons, List.map_cons, List.sum_cons, ih fun m hm => hn m (List.mem_cons_of_mem _ hm), Nat.add_comm]
      congr 1
      have nd := hn l (List.mem_cons_self ..)
      by_cases q : t ∈ l.map (·.1)
      · rw [decide_eq_true q]
        obtain ⟨x, hx, ex⟩ := List.mem_map.mp q
        have e1 : (l.countP fun u => decide (u.1 = t)) = (l.map (·.1)).countP fun z => decide (z = t) := by rw [List.countP_map]; rfl
        have := count_one (q := fun z => decide (z = t)) (r := fun _ => false) nd q rfl (by simp) fun z _ hz => by simp [hz]
        rw [e1, this]
        simp
      · rw [decide_eq_false q]
        have : (l.countP fun u => decide (u.1 = t)) = 0 := List.countP_eq_zero.mpr fun u hu => by
          have : u.1 ≠ t := fun e => q (List.mem_map.mpr ⟨u, hu, e⟩)
          simp [this]
        rw [this]
        simp
  exact key lots fun l hl => things_nodup (h.ndL l hl) (h.free l hl)
theorem times_all (ht : things.Nodup) (hp : placed.Perm (copiesF things q)) {t : T} (h : t ∈ things) : (placed.countP fun u => decide (u.1 = t)) = q := by
  rw [hp.countP_eq, count_copies (fun z => decide (z = t))]
  have := count_one (q := fun z => decide (z = t)) (r := fun _ => false) ht h rfl (by simp) fun z _ hz => by simp [hz]
  rw [this]
  simp
theorem times_most (ht : things.Nodup) (hp : (placed ++ left).Perm (copiesF things q)) {t : T} (h : t ∈ things) : (placed.countP fun u => decide (u.1 = t)) ≤ q := by
  have := times_all (placed := placed ++ left) ht hp h
  rw [List.countP_append] at this
  omega
end
end BfM
namespace BfM
/-! ## Thickness and strength of a web by places and by partings -/
section
variable {T A : Type} [DecidableEq T] [DecidableEq A]
def innerF (ends : T → A × A) (Ts : List T) (L : List A) : Nat := Ts.countP fun t => decide ((ends t).1 ∈ L ∧ (ends t).2 ∈ L)
def betwF (ends : T → A × A) (Ts : List T) (parts : List (List A)) : Nat := Ts.countP fun t => decide (∀ m, m ∈ parts → ¬ ((ends t).1 ∈ m ∧ (ends t).2 ∈ m))
structure IsPart (V : List A) (parts : List (List A)) : Prop where
  ne : ∀ m, m ∈ parts → m ≠ []
  dis : parts.Pairwise fun m k => ∀ a, a ∈ m → a ∉ k
  mem : ∀ a, a ∈ V ↔ ∃ m, m ∈ parts ∧ a ∈ m
/-- the parts are the classes of f -/
structure ClassOf (f : A → A) (V : List A) (parts : List (List A)) : Prop extends IsPart V parts where
  same : ∀ m, m ∈ parts → ∀ a, a ∈ m → ∀ b, b ∈ m → f a = f b
  apart : parts.Pairwise fun m k => ∀ a, a ∈ m → ∀ b, b ∈ k → f a ≠ f b
variable {ends : T → A × A} {V : List A} {Ts S : List T} {p q a b np : Nat}
theorem pair_of {α : Type} {R : α → α → Prop} {l : List α} (h : l.Pairwise R) (sym : ∀ x y, R x y → R y x) {x y : α} (hx : x ∈ l) (hy : y ∈ l) : x = y ∨ R x y := by
  induction l with
  | nil => exact nomatch hx
  | cons c l ih =>
    obtain ⟨h1, h2⟩ := List.pairwise_cons.mp h
    rcases List.mem_cons.mp hx with e | hx
    · rcases List.mem_cons.mp hy with d | hy
      · exact .inl (e.trans d.symm)
      · rw [e]; exact .inr (h1 y hy)
    · rcases List.mem_cons.mp hy with d | hy
      · rw [d]; exact .inr (sym _ _ (h1 x hx))
      · exact ih h2 hx hy
theorem two_len {l : List A} {x y : A} (hx : x ∈ l) (hy : y ∈ l) (h : x ≠ y) : 2 ≤ l.length := by
  match l, hx, hy with
  | [z], hx, hy =>
    have e1 : x = z := by simpa using hx
    have e2 : y = z := by simpa using hy
    exact absurd (e1.trans e2.symm) h
  | _ :: _ :: _, _, _ => simp
/-- the rank of the ties within a lot of places -/
theorem rk_inner (hw : Web ends V) {L : List A} (nd : L.Nodup) (sub : ∀ x, x ∈ L → x ∈ V) (ne : L ≠ []) (X : List T) (hX : ∀ t, t ∈ X → (ends t).1 ∈ L ∧ (ends t).2 ∈ L) : rk ends V X + 1 ≤ L.length := by
  have h := rk_parts (X := X) hw (L :: (V.filter fun x => decide (x ∉ L)).map fun x => [x]) (fun m hm => by
    rcases List.mem_cons.mp hm with e | hm
    · rw [e]; exact ne
    · obtain ⟨x, _, rfl⟩ := List.mem_map.mp hm
      simp) (fun m hm x hx => by
    rcases List.mem_cons.mp hm with e | hm
    · exact sub x (by rw [← e]; exact hx)
    · obtain ⟨y, hy, rfl⟩ := List.mem_map.mp hm
      have : x = y := by simpa using hx
      rw [this]
      exact (mem_filter.mp hy).1) (List.pairwise_cons.mpr ⟨fun m hm x hx hxm => by
    obtain ⟨y, hy, rfl⟩ := List.mem_map.mp hm
    have : x = y := by simpa using hxm
    exact (mem_filter.mp hy).2 (by rw [← this]; exact hx), by
    rw [List.pairwise_map]
    exact (hw.nd.sublist List.filter_sublist).imp fun {x y} hxy z hz hz' => hxy (by
      have h1 : z = x := by simpa using hz
      have h2 : z = y := by simpa using hz'
      rw [← h1, h2])⟩) fun e he m hm => by
    obtain ⟨h1, h2⟩ := hX e he
    rcases List.mem_cons.mp hm with q | hm
    · rw [q]; exact ⟨fun _ => h2, fun _ => h1⟩
    · obtain ⟨y, hy, rfl⟩ := List.mem_map.mp hm
      have hy2 := (mem_filter.mp hy).2
      exact ⟨fun z => absurd h1 (by
        have : (ends e).1 = y := by simpa using z
        rw [this]; exact hy2), fun z => absurd h2 (by
        have : (ends e).2 = y := by simpa using z
        rw [this]; exact hy2)⟩
  rw [List.length_cons, List.length_map, filter_len] at h
  have h2 := count_not (fun x => decide (x ∈ L)) V
  have h3 : (V.countP fun x => decide (x ∈ L)) = L.length := by
    rw [← filter_len]
    exact nodup_eq_len (hw.nd.sublist List.filter_sublist) nd fun x => by
      rw [List.mem_filter, decide_eq_true_iff]
      exact ⟨fun q => q.2, fun q => ⟨sub x q, q⟩⟩
  have h4 : (V.countP fun x => decide (x ∉ L)) = V.countP fun x => !decide (x ∈ L) := List.countP_congr fun x _ => by simp
  omega
theorem mul_cancel {x y c : Nat} (hc : 0 < c) (h : c * x ≤ c * y) : x ≤ y := Nat.le_of_mul_le_mul_left h hc
theorem thick_end (hw : Web ends V) (nT : Ts.Nodup) (loops : ∀ t, t ∈ Ts → (ends t).1 ≠ (ends t).2) (cover : ∀ X : List T, X.Nodup → (∀ t, t ∈ X → t ∈ Ts) → q * X.length ≤ p * rk ends V X)
    (nS : S.Nodup) (hS : ∀ t, t ∈ S → t ∈ Ts) (rS : 0 < rk ends V S) (eS : q * S.length = p * rk ends V S)
    (att : ∃ L : List A, L.Nodup ∧ (∀ x, x ∈ L → x ∈ V) ∧ 2 ≤ L.length ∧ a = innerF ends Ts L ∧ b + 1 = L.length)
    (best : ∀ L : List A, L.Nodup → (∀ x, x ∈ L → x ∈ V) → 2 ≤ L.length → 0 < innerF ends Ts L → innerF ends Ts L * b ≤ a * (L.length - 1)) : p * b = a * q := by
  refine Nat.le_antisymm ?_ ?_
  · have mk := mark_ok hw S
    let f := markL ends S
    let R := V.filter fun x => decide (f x = x)
    have nR : R.Nodup := hw.nd.sublist List.filter_sublist
    have fR : ∀ x, x ∈ V → f x ∈ R := fun x hx => mem_filter.mpr ⟨mk.inV x hx, mk.idem x hx⟩
    have s1 := sum_classes f R nR V fR
    have s2 := sum_classes (fun t : T => f (ends t).1) R nR S fun t _ => fR _ (hw.ends1 t)
    have each : ∀ r, r ∈ R → (S.countP fun t => decide (f (ends t).1 = r)) * b + a ≤ a * (V.countP fun x => decide (f x = r)) := fun r hr => by
      obtain ⟨r1, r2⟩ := mem_filter.mp hr
      have len : (V.filter fun x => decide (f x = r)).length = V.countP fun x => decide (f x = r) := filter_len _ _
      have pos : 0 < V.countP fun x => decide (f x = r) := List.countP_pos_iff.mpr ⟨r, r1, decide_eq_true r2⟩
      by_cases z : (S.countP fun t => decide (f (ends t).1 = r)) = 0
      · rw [z, Nat.zero_mul, Nat.zero_add]
        exact Nat.le_mul_of_pos_right a pos
      · obtain ⟨t, ht, et⟩ := List.countP_pos_iff.mp (Nat.pos_of_ne_zero z)
        have et : f (ends t).1 = r := of_decide_eq_true et
        have both : ∀ s, s ∈ S → f (ends s).1 = r → f (ends s).2 = r := fun s hs e => by
          rw [← e]
          exact ((mk.conn _ (hw.ends1 s) _ (hw.ends2 s)).mpr (cl_mem (P := (· ∈ S)) hs)).symm
        have two := two_len (l := V.filter fun x => decide (f x = r)) (mem_filter.mpr ⟨hw.ends1 t, et⟩) (mem_filter.mpr ⟨hw.ends2 t, both t ht et⟩) (loops t (hS t ht))
        have le : (S.countP fun t => decide (f (ends t).1 = r)) ≤ innerF ends Ts (V.filter fun x => decide (f x = r)) := by
          unfold innerF
          rw [← filter_len, ← filter_len]
          refine nodup_len (nS.sublist List.filter_sublist) fun s hs => ?_
          obtain ⟨s1, s2⟩ := mem_filter.mp hs
          exact mem_filter.mpr ⟨hS s s1, mem_filter.mpr ⟨hw.ends1 s, s2⟩, mem_filter.mpr ⟨hw.ends2 s, both s s1 s2⟩⟩
        have h := best (V.filter fun x => decide (f x = r)) (hw.nd.sublist List.filter_sublist) (fun x hx => (mem_filter.mp hx).1) two (Nat.lt_of_lt_of_le (Nat.pos_of_ne_zero z) le)
        rw [len] at h
        have h2 := Nat.mul_le_mul_right b le
        have h3 : a * (V.countP fun x => decide (f x = r)) = a * ((V.countP fun x => decide (f x = r)) - 1) + a := by
          obtain ⟨m, hm⟩ := Nat.exists_eq_succ_of_ne_zero (Nat.ne_of_gt pos)
          rw [hm, Nat.succ_sub_one, Nat.mul_succ]
        omega
    have tot := sum_le _ _ R each
    rw [sum_add, sum_const, sum_mul, s1] at tot
    have tot2 : (R.map fun r => (S.countP fun t => decide (f (ends t).1 = r)) * b).sum = b * S.length := by
      rw [← s2, ← sum_mul]
      exact sum_eq _ _ R fun r _ => Nat.mul_comm _ _
    rw [tot2] at tot
    have rl : R.length + rk ends V S = V.length := by
      rw [show R.length = roots V f from filter_len _ _]
      exact roots_add V f
    rw [← rl, Nat.mul_add] at tot
    have tot3 : b * S.length ≤ a * rk ends V S := by
      have : R.length * a = a * R.length := Nat.mul_comm _ _
      omega
    refine mul_cancel rS ?_
    calc rk ends V S * (p * b) = (p * rk ends V S) * b := by rw [← Nat.mul_assoc, Nat.mul_comm (rk ends V S) p]
      _ = q * (b * S.length) := by rw [← eS, Nat.mul_assoc, Nat.mul_comm S.length b]
      _ ≤ q * (a * rk ends V S) := Nat.mul_le_mul_left q tot3
      _ = rk ends V S * (a * q) := by rw [Nat.mul_comm, Nat.mul_comm a, Nat.mul_assoc]
  · obtain ⟨L, nL, sL, l2, ea, eb⟩ := att
    have h1 := cover (Ts.filter fun t => decide ((ends t).1 ∈ L ∧ (ends t).2 ∈ L)) (nT.sublist List.filter_sublist) fun t ht => (mem_filter.mp ht).1
    rw [filter_len] at h1
    have h2 := rk_inner hw nL sL (fun e => by rw [e] at l2; simp at l2) (Ts.filter fun t => decide ((ends t).1 ∈ L ∧ (ends t).2 ∈ L)) fun t ht => (mem_filter.mp ht).2
    have h3 : q * a ≤ p * rk ends V (Ts.filter fun t => decide ((ends t).1 ∈ L ∧ (ends t).2 ∈ L)) := by rw [ea]; exact h1
    rw [Nat.mul_comm a q]
    exact Nat.le_trans h3 (Nat.mul_le_mul_left p (by omega))
/-- the number of parts, where they are the classes of a marking -/
theorem class_len {P : T → Prop} {f : A → A} (nV : V.Nodup) (m : MarkOk ends V P f) {parts : List (List A)} (h : ClassOf f V parts) : parts.length = roots V f := by
  have sub : ∀ k, k ∈ parts → ∀ x, x ∈ k → x ∈ V := fun k hk x hx => (h.mem x).mpr ⟨k, hk, hx⟩
  have key : ∀ ps : List (List A), (∀ k, k ∈ ps → k ∈ parts) → ps.Pairwise (fun m k => ∀ a, a ∈ m → ∀ b, b ∈ k → f a ≠ f b) → ∃ R : List A, R.length = ps.length ∧ R.Nodup ∧ ∀ r, r ∈ R ↔ ∃ k, k ∈ ps ∧ ∃ x, x ∈ k ∧ f x = r := fun ps => by
    induction ps with
    | nil => exact fun _ _ => ⟨[], rfl, by simp, fun r => ⟨fun z => (nomatch z), fun ⟨_, z, _⟩ => (nomatch z)⟩⟩
    | cons k ps ih =>
      intro hp hd
      obtain ⟨hd1, hd2⟩ := List.pairwise_cons.mp hd
      obtain ⟨R, l, nd, hr⟩ := ih (fun j hj => hp j (List.mem_cons_of_mem _ hj)) hd2
      have hk := hp k (List.mem_cons_self ..)
      match k, h.ne k hk, hk, hd1 with
      | x :: k', _, hk, hd1 =>
        refine ⟨f x :: R, by rw [List.length_cons, List.length_cons, l], List.nodup_cons.mpr ⟨fun q => ?_, nd⟩, fun r => ⟨fun hr' => ?_, fun ⟨j, hj, y, hy, e⟩ => ?_⟩⟩
        · obtain ⟨j, hj, y, hy, e⟩ := (hr _).mp q
          exact hd1 j hj x (List.mem_cons_self ..) y hy e.symm
        · rcases List.mem_cons.mp hr' with e | hr'
          · exact ⟨_, List.mem_cons_self .., x, List.mem_cons_self .., e.symm⟩
          · obtain ⟨j, hj, z⟩ := (hr _).mp hr'
            exact ⟨j, List.mem_cons_of_mem _ hj, z⟩
        · rcases List.mem_cons.mp hj with q | hj
          · subst q
            rw [← e, h.same _ hk y hy x (List.mem_cons_self ..)]
            exact List.mem_cons_self ..
          · exact List.mem_cons_of_mem _ ((hr _).mpr ⟨j, hj, y, hy, e⟩)
  obtain ⟨R, l, nd, hr⟩ := key parts (fun _ z => z) h.apart
  unfold roots
  rw [← l, ← filter_len]
  refine nodup_eq_len nd (nV.sublist List.filter_sublist) fun r => ?_
  rw [hr, mem_filter]
  constructor
  · rintro ⟨k, hk, x, hx, rfl⟩
    exact ⟨m.inV x (sub k hk x hx), m.idem x (sub k hk x hx)⟩
  · rintro ⟨h1, h2⟩
    obtain ⟨k, hk, hx⟩ := (h.mem r).mp h1
    exact ⟨k, hk, r, hx, h2⟩
theorem strong_end (hw : Web ends V) (nT : Ts.Nodup) (pack : ∀ X : List T, X.Nodup → (∀ t, t ∈ X → t ∈ Ts) → p * rk ends V Ts + q * X.length ≤ p * rk ends V X + q * Ts.length)
    (nS : S.Nodup) (hS : ∀ t, t ∈ S → t ∈ Ts) (rS : rk ends V S < rk ends V Ts) (eS : q * (Ts.length - S.length) = p * (rk ends V Ts - rk ends V S)) (enp : np + rk ends V Ts = V.length)
    (all : List (List (List A))) (sound : ∀ parts, parts ∈ all → IsPart V parts) (whole : ∀ f : A → A, ∃ parts, parts ∈ all ∧ ClassOf f V parts)
    (att : ∃ parts, parts ∈ all ∧ a = betwF ends Ts parts ∧ parts.length = np + b)
    (best : ∀ parts, parts ∈ all → (∀ m, m ∈ parts → ∀ x, x ∈ m → ∀ y, y ∈ m → Conn ends (· ∈ Ts) x y) → np < parts.length → a * (parts.length - np) ≤ betwF ends Ts parts * b) : p * b = a * q := by
  refine Nat.le_antisymm ?_ ?_
  · obtain ⟨parts, hp, ea, eb⟩ := att
    have h := sound parts hp
    let X := Ts.filter fun t => !decide (∀ m, m ∈ parts → ¬ ((ends t).1 ∈ m ∧ (ends t).2 ∈ m))
    have hX : ∀ t, t ∈ X → t ∈ Ts := fun t ht => (List.mem_filter.mp ht).1
    have in1 : ∀ t, t ∈ X → ∃ m, m ∈ parts ∧ (ends t).1 ∈ m ∧ (ends t).2 ∈ m := fun t ht => by
      have := (List.mem_filter.mp ht).2
      refine Classical.byContradiction fun n => ?_
      have hh : ∀ m, m ∈ parts → ¬ ((ends t).1 ∈ m ∧ (ends t).2 ∈ m) := fun m hm c => n ⟨m, hm, c⟩
      rw [decide_eq_true hh] at this
      cases this
    have r := rk_parts (X := X) hw parts h.ne (fun m hm x hx => (h.mem x).mpr ⟨m, hm, hx⟩) h.dis fun e he m hm => by
      obtain ⟨k, hk, k1, k2⟩ := in1 e he
      rcases pair_of h.dis (fun x y r a ha hb => r a hb ha) hk hm with q | q
      · rw [← q]; exact ⟨fun _ => k2, fun _ => k1⟩
      · exact ⟨fun z => absurd z (q _ k1), fun z => absurd z (q _ k2)⟩
    have pk := pack X (nT.sublist List.filter_sublist) hX
    have c := count_not (fun t => decide (∀ m, m ∈ parts → ¬ ((ends t).1 ∈ m ∧ (ends t).2 ∈ m))) Ts
    have lx : X.length = Ts.countP fun t => !decide (∀ m, m ∈ parts → ¬ ((ends t).1 ∈ m ∧ (ends t).2 ∈ m)) := filter_len _ _
    have ea' : a = Ts.countP fun t => decide (∀ m, m ∈ parts → ¬ ((ends t).1 ∈ m ∧ (ends t).2 ∈ m)) := ea
    rw [← c, ← ea', ← lx, Nat.mul_add] at pk
    have hb : b + rk ends V X ≤ rk ends V Ts := by omega
    have := Nat.mul_le_mul_left p hb
    rw [Nat.mul_add] at this
    rw [Nat.mul_comm a q]
    omega
  · obtain ⟨parts, hp, h⟩ := whole (markL ends S)
    have mk := mark_ok hw S
    have l := class_len hw.nd mk h
    have ra := roots_add V (markL ends S)
    have rk' : nonroots V (markL ends S) = rk ends V S := rfl
    have bt : betwF ends Ts parts ≤ Ts.length - S.length := by
      have h1 : S.length ≤ Ts.countP fun t => !decide (∀ m, m ∈ parts → ¬ ((ends t).1 ∈ m ∧ (ends t).2 ∈ m)) := by
        rw [← filter_len]
        refine nodup_len nS fun t ht => List.mem_filter.mpr ⟨hS t ht, ?_⟩
        rw [decide_eq_false]
        · rfl
        · intro c
          obtain ⟨m, hm, hx⟩ := (h.mem _).mp (hw.ends1 t)
          obtain ⟨k, hk, hy⟩ := (h.mem _).mp (hw.ends2 t)
          have e : markL ends S (ends t).1 = markL ends S (ends t).2 := (mk.conn _ (hw.ends1 t) _ (hw.ends2 t)).mpr (cl_mem (P := (· ∈ S)) ht)
          rcases pair_of h.apart (fun x y r a ha b hb z => r b hb a ha z.symm) hm hk with q | q
          · exact c m hm ⟨hx, by rw [q]; exact hy⟩
          · exact q _ hx _ hy e
      have h2 := count_not (fun t => decide (∀ m, m ∈ parts → ¬ ((ends t).1 ∈ m ∧ (ends t).2 ∈ m))) Ts
      show (Ts.countP fun t => decide (∀ m, m ∈ parts → ¬ ((ends t).1 ∈ m ∧ (ends t).2 ∈ m))) ≤ _
      omega
    have hd : parts.length - np = rk ends V Ts - rk ends V S := by omega
    have bs := best parts hp (fun m hm x hx y hy => ((mk.conn x ((h.mem x).mpr ⟨m, hm, hx⟩) y ((h.mem y).mpr ⟨m, hm, hy⟩)).mp (h.same m hm x hx y hy)).mono fun z hz => hS z hz) (by omega)
    rw [hd] at bs
    have bs2 := Nat.le_trans bs (Nat.mul_le_mul_right b bt)
    have pos : 0 < rk ends V Ts - rk ends V S := by omega
    refine mul_cancel pos ?_
    calc (rk ends V Ts - rk ends V S) * (a * q) = q * (a * (rk ends V Ts - rk ends V S)) := by rw [Nat.mul_comm, Nat.mul_comm a, Nat.mul_assoc]
      _ ≤ q * ((Ts.length - S.length) * b) := Nat.mul_le_mul_left q bs2
      _ = (rk ends V Ts - rk ends V S) * (p * b) := by rw [← Nat.mul_assoc, eS, Nat.mul_comm p, Nat.mul_assoc]
end
/-! ## All partings, all lots -/
section
variable {A : Type} [DecidableEq A]
def partsOne (parts : List (List A)) (a : A) : List (List (List A)) := (parts ++ [[a]]) :: (List.range parts.length).map fun k => parts.set k (parts.getD k [] ++ [a])
def partStep (found : List (List (List A))) (a : A) : List (List (List A)) := found.flatMap fun parts => partsOne parts a
def partings (V : List A) : List (List (List A)) := V.foldl partStep [[]]
variable {V pre : List A} {parts : List (List A)} {x : A} {f : A → A}
theorem mem_set {α : Type} {l : List α} {k : Nat} {y z : α} (hk : k < l.length) : z ∈ l.set k y ↔ z = y ∨ ∃ j, j ≠ k ∧ l[j]? = some z := by
  rw [List.mem_iff_getElem?]
  constructor
  · rintro ⟨j, e⟩
    by_cases h : j = k
    · rw [h, List.getElem?_set_self hk] at e
      exact .inl (Option.some.inj e).symm
    · rw [List.getElem?_set_ne (fun q => h q.symm)] at e
      exact .inr ⟨j, h, e⟩
  · rintro (e | ⟨j, h, e⟩)
    · exact ⟨k, by rw [List.getElem?_set_self hk, e]⟩
    · exact ⟨j, by rw [List.getElem?_set_ne (fun q => h q.symm)]; exact e⟩
theorem pair_set {α : Type} {R : α → α → Prop} (sym : ∀ x y, R x y → R y x) {y : α} : ∀ {l : List α} {k : Nat}, l.Pairwise R → (∀ j z, j ≠ k → l[j]? = some z → R y z) → (l.set k y).Pairwise R
  | [], _, _, _ => by simp
  | a :: l, 0, h, g => by
    obtain ⟨h1, h2⟩ := List.pairwise_cons.mp h
    show (y :: l).Pairwise R
    refine List.pairwise_cons.mpr ⟨fun z hz => ?_, h2⟩
    obtain ⟨j, e⟩ := List.mem_iff_getElem?.mp hz
    exact g (j + 1) z (by omega) e
  | a :: l, k + 1, h, g => by
    obtain ⟨h1, h2⟩ := List.pairwise_cons.mp h
    show (a :: l.set k y).Pairwise R
    refine List.pairwise_cons.mpr ⟨fun z hz => ?_, pair_set sym h2 fun j z hj e => g (j + 1) z (by omega) e⟩
    by_cases hk : k < l.length
    · rcases (mem_set hk).mp hz with e | ⟨j, _, e⟩
      · rw [e]; exact sym _ _ (g 0 a (by omega) rfl)
      · exact h1 z (List.mem_of_getElem? e)
    · rw [List.set_eq_of_length_le (Nat.le_of_not_lt hk)] at hz
      exact h1 z hz
theorem part_new (h : IsPart pre parts) (hx : x ∉ pre) : IsPart (pre ++ [x]) (parts ++ [[x]]) := by
  refine ⟨fun m hm => ?_, ?_, fun a => ?_⟩
  · rcases List.mem_append.mp hm with hm | hm
    · exact h.ne m hm
    · have : m = [x] := by simpa using hm
      rw [this]; simp
  · rw [List.pairwise_append]
    refine ⟨h.dis, by simp, fun m hm k hk a ha hak => ?_⟩
    have e1 : k = [x] := by simpa using hk
    rw [e1] at hak
    have e2 : a = x := by simpa using hak
    exact hx ((h.mem x).mpr ⟨m, hm, by rw [← e2]; exact ha⟩)
  · rw [List.mem_append, h.mem a]
    constructor
    · rintro (⟨m, hm, ha⟩ | ha)
      · exact ⟨m, List.mem_append_left _ hm, ha⟩
      · exact ⟨[x], by simp, ha⟩
    · rintro ⟨m, hm, ha⟩
      rcases List.mem_append.mp hm with hm | hm
      · exact .inl ⟨m, hm, ha⟩
      · have : m = [x] := by simpa using hm
        exact .inr (by rw [← this]; exact ha)
theorem part_put (h : IsPart pre parts) (hx : x ∉ pre) {k : Nat} (hk : k < parts.length) : IsPart (pre ++ [x]) (parts.set k (parts.getD k [] ++ [x])) := by
  have hg : parts[k]? = some (parts.getD k []) := by simp [hk]
  have hm0 := List.mem_of_getElem? hg
  have ndp : ∀ j z, j ≠ k → parts[j]? = some z → ∀ a, a ∈ parts.getD k [] → a ∉ z := fun j z hj hz a ha haz => by
    have pw := List.pairwise_iff_getElem.mp h.dis
    obtain ⟨j1, j2⟩ := List.getElem?_eq_some_iff.mp hz
    obtain ⟨k1, k2⟩ := List.getElem?_eq_some_iff.mp hg
    rcases Nat.lt_or_gt_of_ne hj with q | q
    · exact pw j k j1 k1 q a (by rw [j2]; exact haz) (by rw [k2]; exact ha)
    · exact pw k j k1 j1 q a (by rw [k2]; exact ha) (by rw [j2]; exact haz)
  refine ⟨fun m hm => ?_, pair_set (fun y z r a ha hb => r a hb ha) h.dis fun j z hj hz a ha haz => ?_, fun a => ?_⟩
  · rcases (mem_set hk).mp hm with e | ⟨j, _, e⟩
    · rw [e]; simp
    · exact h.ne m (List.mem_of_getElem? e)
  · rcases List.mem_append.mp ha with ha | ha
    · exact ndp j z hj hz a ha haz
    · have : a = x := by simpa using ha
      exact hx ((h.mem x).mpr ⟨z, List.mem_of_getElem? hz, by rw [← this]; exact haz⟩)
  · rw [List.mem_append, h.mem a]
    constructor
    · rintro (⟨m, hm, ha⟩ | ha)
      · obtain ⟨j, e⟩ := List.mem_iff_getElem?.mp hm
        by_cases q : j = k
        · subst q
          rw [hg] at e
          cases e
          exact ⟨_, (mem_set hk).mpr (.inl rfl), List.mem_append_left _ ha⟩
        · exact ⟨m, (mem_set hk).mpr (.inr ⟨j, q, e⟩), ha⟩
      · exact ⟨_, (mem_set hk).mpr (.inl rfl), List.mem_append_right _ ha⟩
    · rintro ⟨m, hm, ha⟩
      rcases (mem_set hk).mp hm with e | ⟨j, _, e⟩
      · rw [e] at ha
        rcases List.mem_append.mp ha with ha | ha
        · exact .inl ⟨_, hm0, ha⟩
        · exact .inr ha
      · exact .inl ⟨m, List.mem_of_getElem? e, ha⟩
theorem parts_sound : ∀ {V pre : List A} {found : List (List (List A))}, (pre ++ V).Nodup → (∀ parts, parts ∈ found → IsPart pre parts) → ∀ parts, parts ∈ V.foldl partStep found → IsPart (pre ++ V) parts
  | [], pre, found, _, h, parts, hp => by
    rw [List.append_nil]
    exact h parts hp
  | x :: V, pre, found, nd, h, parts, hp => by
    have e : pre ++ x :: V = (pre ++ [x]) ++ V := by simp
    have hx : x ∉ pre := by
      rw [List.nodup_append] at nd
      exact fun q => nd.2.2 x q x (List.mem_cons_self ..) rfl
    rw [e] at nd ⊢
    refine parts_sound nd (fun ps hps => ?_) parts hp
    obtain ⟨qs, hq, hm⟩ := List.mem_flatMap.mp hps
    rcases List.mem_cons.mp hm with z | hm
    · rw [z]; exact part_new (h qs hq) hx
    · obtain ⟨k, hk, rfl⟩ := List.mem_map.mp hm
      exact part_put (h qs hq) hx (List.mem_range.mp hk)
theorem parts_whole (f : A → A) : ∀ {V pre : List A} {found : List (List (List A))}, (pre ++ V).Nodup → (∃ parts, parts ∈ found ∧ ClassOf f pre parts) → ∃ parts, parts ∈ V.foldl partStep found ∧ ClassOf f (pre ++ V) parts
  | [], pre, found, _, h => by
    rw [List.append_nil]
    exact h
  | x :: V, pre, found, nd, ⟨ps, hps, h⟩ => by
    have e : pre ++ x :: V = (pre ++ [x]) ++ V := by simp
    have hx : x ∉ pre := by
      rw [List.nodup_append] at nd
      exact fun q => nd.2.2 x q x (List.mem_cons_self ..) rfl
    rw [e] at nd ⊢
    refine parts_whole f nd ?_
    by_cases q : ∃ m, m ∈ ps ∧ ∃ y, y ∈ m ∧ f y = f x
    · obtain ⟨m, hm, y, hy, ey⟩ := q
      obtain ⟨k, hk, ek⟩ := List.getElem_of_mem hm
      have hg : ps.getD k [] = m := by simp [hk, ek]
      have ap := List.pairwise_iff_getElem.mp h.apart
      refine ⟨ps.set k (ps.getD k [] ++ [x]), List.mem_flatMap.mpr ⟨ps, hps, List.mem_cons_of_mem _ (List.mem_map.mpr ⟨k, List.mem_range.mpr hk, rfl⟩)⟩, part_put h.toIsPart hx hk, fun j hj a ha b hb => ?_, ?_⟩
      · have toy : ∀ c, c ∈ ps.getD k [] ++ [x] → f c = f x := fun c hc => by
          rw [hg] at hc
          rcases List.mem_append.mp hc with hc | hc
          · rw [← ey]; exact h.same m hm c hc y hy
          · rw [show c = x by simpa using hc]
        rcases (mem_set hk).mp hj with z | ⟨i, _, z⟩
        · rw [z] at ha hb
          rw [toy a ha, toy b hb]
        · exact h.same j (List.mem_of_getElem? z) a ha b hb
      · refine pair_set (fun u v r a ha b hb z => r b hb a ha z.symm) h.apart fun j z hj hz a ha b hb c => ?_
        have fa : f a = f y := by
          rw [hg] at ha
          rcases List.mem_append.mp ha with ha | ha
          · exact h.same m hm a ha y hy
          · rw [show a = x by simpa using ha]; exact ey.symm
        obtain ⟨j1, j2⟩ := List.getElem?_eq_some_iff.mp hz
        rcases Nat.lt_or_gt_of_ne hj with w | w
        · exact ap j k j1 hk w b (by rw [j2]; exact hb) y (by rw [ek]; exact hy) (c.symm.trans fa)
        · exact ap k j hk j1 w y (by rw [ek]; exact hy) b (by rw [j2]; exact hb) (fa.symm.trans c)
    · refine ⟨ps ++ [[x]], List.mem_flatMap.mpr ⟨ps, hps, List.mem_cons_self ..⟩, part_new h.toIsPart hx, fun j hj a ha b hb => ?_, ?_⟩
      · rcases List.mem_append.mp hj with hj | hj
        · exact h.same j hj a ha b hb
        · have z : j = [x] := by simpa using hj
          rw [z] at ha hb
          rw [show a = x by simpa using ha, show b = x by simpa using hb]
      · rw [List.pairwise_append]
        refine ⟨h.apart, by simp, fun m hm k hk a ha b hb c => ?_⟩
        have z : k = [x] := by simpa using hk
        rw [z] at hb
        have eb : b = x := by simpa using hb
        exact q ⟨m, hm, a, ha, by rw [c, eb]⟩
theorem partings_sound (nd : V.Nodup) : ∀ parts, parts ∈ partings V → IsPart V parts := fun parts hp => by
  have := parts_sound (pre := []) (V := V) (found := [[]]) nd (fun ps hps => by
    have e : ps = [] := by simpa using hps
    rw [e]
    exact ⟨fun m hm => (nomatch hm), .nil, fun a => ⟨fun z => (nomatch z), fun ⟨m, hm, _⟩ => (nomatch hm)⟩⟩) parts hp
  exact this
theorem partings_whole (nd : V.Nodup) (f : A → A) : ∃ parts, parts ∈ partings V ∧ ClassOf f V parts :=
  parts_whole f (pre := []) (V := V) (found := [[]]) nd ⟨[], by simp, ⟨⟨fun m hm => (nomatch hm), .nil, fun a => ⟨fun z => (nomatch z), fun ⟨m, hm, _⟩ => (nomatch hm)⟩⟩, fun m hm => (nomatch hm), .nil⟩⟩
theorem IsPart.to {W : List A} (h : IsPart V parts) (e : ∀ a, a ∈ V ↔ a ∈ W) : IsPart W parts := ⟨h.ne, h.dis, fun a => (e a).symm.trans (h.mem a)⟩
theorem ClassOf.to {W : List A} (h : ClassOf f V parts) (e : ∀ a, a ∈ V ↔ a ∈ W) : ClassOf f W parts := ⟨h.toIsPart.to e, h.same, h.apart⟩
/-- all lots of so many things, by an order -/
def lotOne (lt : A → A → Bool) (things : List A) (lot : List A) : List (List A) := (things.filter fun t => match lot.getLast? with
  | none => true
  | some y => lt y t).map fun t => lot ++ [t]
def lotStep (lt : A → A → Bool) (things : List A) (found : List (List A)) : List (List A) := found.flatMap (lotOne lt things)
def lotsK (lt : A → A → Bool) (things : List A) : Nat → List (List A)
  | 0 => [[]]
  | k + 1 => lotStep lt things (lotsK lt things k)
variable {lt : A → A → Bool} {things : List A}
theorem lots_sound (tr : ∀ x y z, lt x y = true → lt y z = true → lt x z = true) : ∀ (k : Nat) (lot : List A), lot ∈ lotsK lt things k → lot.length = k ∧ lot.Pairwise (fun x y => lt x y = true) ∧ ∀ x, x ∈ lot → x ∈ things
  | 0, lot, h => by
    have e : lot = [] := by simpa [lotsK] using h
    rw [e]
    exact ⟨rfl, .nil, fun x hx => (nomatch hx)⟩
  | k + 1, lot, h => by
    obtain ⟨l, hl, h⟩ := List.mem_flatMap.mp h
    obtain ⟨h1, h2, h3⟩ := lots_sound tr k l hl
    obtain ⟨t, ht, rfl⟩ := List.mem_map.mp h
    obtain ⟨t1, t2⟩ := List.mem_filter.mp ht
    refine ⟨by rw [List.length_append, h1, List.length_singleton], ?_, fun x hx => ?_⟩
    · rw [List.pairwise_append]
      refine ⟨h2, by simp, fun x hx y hy => ?_⟩
      have e : y = t := by simpa using hy
      rw [e]
      cases q : l.getLast? with
      | none =>
        rw [List.getLast?_eq_none_iff.mp q] at hx
        exact nomatch hx
      | some z =>
        rw [q] at t2
        obtain ⟨m, rfl⟩ := List.getLast?_eq_some_iff.mp q
        rcases List.mem_append.mp hx with hx | hx
        · exact tr x z t ((List.pairwise_append.mp h2).2.2 x hx z (by simp)) t2
        · rw [show x = z by simpa using hx]; exact t2
    · rcases List.mem_append.mp hx with hx | hx
      · exact h3 x hx
      · rw [show x = t by simpa using hx]; exact t1
theorem lots_whole : ∀ (k : Nat) (lot : List A), lot.length = k → lot.Pairwise (fun x y => lt x y = true) → (∀ x, x ∈ lot → x ∈ things) → lot ∈ lotsK lt things k
  | 0, lot, h, _, _ => by
    rw [List.length_eq_zero_iff.mp h]
    simp [lotsK]
  | k + 1, lot, h, pw, sub => by
    have ne : lot ≠ [] := fun e => by rw [e] at h; simp at h
    obtain ⟨m, t, rfl⟩ : ∃ m t, lot = m ++ [t] := ⟨lot.dropLast, lot.getLast ne, (List.dropLast_concat_getLast ne).symm⟩
    obtain ⟨p1, _, p3⟩ := List.pairwise_append.mp pw
    have hm : m.length = k := by
      rw [List.length_append, List.length_singleton] at h
      omega
    refine List.mem_flatMap.mpr ⟨m, lots_whole k m hm p1 fun x hx => sub x (List.mem_append_left _ hx), List.mem_map.mpr ⟨t, List.mem_filter.mpr ⟨sub t (by simp), ?_⟩, rfl⟩⟩
    cases q : m.getLast? with
    | none => rfl
    | some z =>
      obtain ⟨w, rfl⟩ := List.getLast?_eq_some_iff.mp q
      exact p3 z (by simp) t (by simp)
end
end BfM
namespace Bf
theorem count_lt {α : Type} {p q : α → Bool} : ∀ {l : List α} {z : α}, (∀ x, p x = true → q x = true) → z ∈ l → q z = true → p z = false → l.countP p < l.countP q
  | a :: l, z, h, m, h1, h2 => by
    have le : ∀ l : List α, l.countP p ≤ l.countP q := fun l => List.countP_mono_left fun x _ => h x
    rw [List.countP_cons, List.countP_cons]
    rcases List.mem_cons.mp m with e | m
    · subst e
      have := le l
      rw [if_pos h1, if_neg (by rw [h2]; simp)]
      omega
    · have ih := count_lt h m h1 h2
      by_cases e : p a = true
      · rw [if_pos e, if_pos (h a e)]; omega
      · rw [if_neg e]
        omega
/-- how many fractions of small numbers lie above a / b -/
def mu (a b : Nat) : Nat := ((List.range 9).flatMap fun x => (List.range 9).map fun y => (x, y)).countP fun z => decide (a * z.2 < z.1 * b)
theorem mu_lt {a b a' b' : Nat} (h1 : a' ≤ 8) (h2 : b' ≤ 8) (h0 : 0 < b') (h : a * b' < a' * b) : mu a' b' < mu a b := by
  refine count_lt (z := (a', b')) (fun z hz => ?_) ?_ ?_ ?_
  · have hz := of_decide_eq_true hz
    refine decide_eq_true ?_
    obtain ⟨x, y⟩ := z
    have hz : a' * y < x * b' := hz
    show a * y < x * b
    have hb : 0 < b := Nat.pos_of_ne_zero fun e => by subst e; simp at h
    refine Nat.lt_of_mul_lt_mul_left (a := b') ?_
    calc b' * (a * y) = (a * b') * y := by rw [Nat.mul_comm b', Nat.mul_assoc, Nat.mul_comm y, ← Nat.mul_assoc]
      _ ≤ (a' * b) * y := Nat.mul_le_mul_right _ (Nat.le_of_lt h)
      _ = (a' * y) * b := by rw [Nat.mul_assoc, Nat.mul_comm b, ← Nat.mul_assoc]
      _ < (x * b') * b := Nat.mul_lt_mul_of_pos_right hz hb
      _ = b' * (x * b) := by rw [Nat.mul_comm x, Nat.mul_assoc]
  · refine List.mem_flatMap.mpr ⟨a', List.mem_range.mpr (by omega), List.mem_map.mpr ⟨b', List.mem_range.mpr (by omega), rfl⟩⟩
  · exact decide_eq_true h
  · exact decide_eq_false (Nat.lt_irrefl _)
theorem low_eq (a b : Nat) : (b / Nat.gcd a b) * a = (a / Nat.gcd a b) * b := by
  have h1 := Nat.div_mul_cancel (Nat.gcd_dvd_left a b)
  have h2 := Nat.div_mul_cancel (Nat.gcd_dvd_right a b)
  calc (b / Nat.gcd a b) * a = (b / Nat.gcd a b) * (a / Nat.gcd a b * Nat.gcd a b) := by rw [h1]
    _ = (a / Nat.gcd a b) * (b / Nat.gcd a b * Nat.gcd a b) := by rw [← Nat.mul_assoc, ← Nat.mul_assoc, Nat.mul_comm (b / _)]
    _ = (a / Nat.gcd a b) * b := by rw [h2]
theorem low_pos {a b : Nat} (h : 0 < a) : 0 < a / Nat.gcd a b ∧ a / Nat.gcd a b ≤ a :=
  ⟨Nat.div_pos (Nat.le_of_dvd h (Nat.gcd_dvd_left a b)) (Nat.gcd_pos_of_pos_left b h), Nat.div_le_self _ _⟩
theorem low_pos2 {a b : Nat} (h : 0 < b) : 0 < b / Nat.gcd a b ∧ b / Nat.gcd a b ≤ b :=
  ⟨Nat.div_pos (Nat.le_of_dvd h (Nat.gcd_dvd_right a b)) (Nat.gcd_pos_of_pos_right a h), Nat.div_le_self _ _⟩
theorem low_one {a b : Nat} (h : 0 < Nat.gcd a b) : Nat.gcd (a / Nat.gcd a b) (b / Nat.gcd a b) = 1 := by
  have := Nat.gcd_div (Nat.gcd_dvd_left a b) (Nat.gcd_dvd_right a b)
  rw [this, Nat.div_self h]
/-- p x + 1 ≤ q y, p / q lowest of a / b: a x < y b -/
theorem low_lt {a b x y : Nat} (hg : 0 < Nat.gcd a b) (h : (a / Nat.gcd a b) * x < (b / Nat.gcd a b) * y) : a * x < y * b := by
  have h1 := Nat.div_mul_cancel (Nat.gcd_dvd_left a b)
  have h2 := Nat.div_mul_cancel (Nat.gcd_dvd_right a b)
  calc a * x = (a / Nat.gcd a b) * x * Nat.gcd a b := by rw [Nat.mul_assoc, Nat.mul_comm x, ← Nat.mul_assoc, h1]
    _ < (b / Nat.gcd a b) * y * Nat.gcd a b := Nat.mul_lt_mul_of_pos_right h hg
    _ = y * b := by rw [Nat.mul_assoc, Nat.mul_comm y, ← Nat.mul_assoc, h2, Nat.mul_comm]
theorem low_lt2 {a b x y : Nat} (hg : 0 < Nat.gcd a b) (h : (b / Nat.gcd a b) * x < (a / Nat.gcd a b) * y) : b * x < y * a := by
  have h1 := Nat.div_mul_cancel (Nat.gcd_dvd_left a b)
  have h2 := Nat.div_mul_cancel (Nat.gcd_dvd_right a b)
  calc b * x = (b / Nat.gcd a b) * x * Nat.gcd a b := by rw [Nat.mul_assoc, Nat.mul_comm x, ← Nat.mul_assoc, h2]
    _ < (a / Nat.gcd a b) * y * Nat.gcd a b := Nat.mul_lt_mul_of_pos_right h hg
    _ = y * a := by rw [Nat.mul_assoc, Nat.mul_comm y, ← Nat.mul_assoc, h1, Nat.mul_comm]
section
variable {E A : Type} [DecidableEq E] [DecidableEq A] {ends : E → A × A} {Vs : List A}
theorem rk_app (hw : BfM.Web ends Vs) : ∀ Y X : List E, BfM.rk ends Vs (Y ++ X) ≤ BfM.rk ends Vs X + Y.length
  | [], X => by simp
  | y :: Y, X => by
    have h1 := rk_app hw Y X
    have h2 := (BfM.rk_cons_le (e := y) (X := Y ++ X) hw).2
    rw [List.cons_append, List.length_cons]
    omega
/-- what is lacking in rank is at most what is lacking in things -/
theorem rk_rest (hw : BfM.Web ends Vs) {S T : List E} (nS : S.Nodup) (nT : T.Nodup) (h : ∀ t, t ∈ S → t ∈ T) : BfM.rk ends Vs T + S.length ≤ BfM.rk ends Vs S + T.length := by
  have e : BfM.rk ends Vs T = BfM.rk ends Vs ((T.filter fun t => decide (t ∉ S)) ++ S) := BfM.rk_congr hw fun t => by
    rw [List.mem_append, List.mem_filter]
    constructor
    · intro ht
      by_cases m : t ∈ S
      · exact .inr m
      · exact .inl ⟨ht, decide_eq_true m⟩
    · rintro (q | q)
      · exact q.1
      · exact h t q
  have h1 := rk_app hw (T.filter fun t => decide (t ∉ S)) S
  have h2 := BfM.count_not (fun t => decide (t ∉ S)) T
  have h3 : (T.filter fun t => !decide (t ∉ S)).length = S.length := BfM.nodup_eq_len (nT.filter _) nS fun t => by
    rw [List.mem_filter]
    constructor
    · rintro ⟨_, q⟩; simpa using q
    · intro q; exact ⟨h t q, by simpa using q⟩
  rw [← BfM.filter_len, ← BfM.filter_len, h3] at h2
  rw [e]
  omega
end
end Bf
set_option Elab.async false
set_option linter.all false
set_option maxRecDepth 100000
set_option maxHeartbeats 4000000
/-! ## Rules that the layer has not: max and min of two texts, remove of a pair, {pair: None}, len by an own method -/
namespace BfR
open PySem PySem.Spec PyProof.Rows L2
section
variable {prog : Program} {w : World} {A : Around} {E : Value → Shared → Prop} {s : Shared}
def pick2 (x y : Str) (i : Nat) : Str := if i = 0 then x else y
theorem pick_at {x y : Str} {t u : Tok} {i : Nat} {v : Value} (h : #[Value.str x t, Value.str y u][i]? = some v) : ∃ k, v = .str (pick2 x y i) k := by
  match i, h with
  | 0, h => exact ⟨t, (Option.some.inj h).symm⟩
  | 1, h => exact ⟨u, (Option.some.inj h).symm⟩
  | n + 2, h => simp at h
theorem cmp_gt (x y : Str) (t u : Tok) : CmpOf prog w A .Gt (fun i v => #[Value.str x t, Value.str y u][i]? = some v) (fun i j => decide ((pick2 x y j).cps.toList < (pick2 x y i).cps.toList)) := fun i j vi vj s Q E hi hj h => by
  obtain ⟨k, rfl⟩ := pick_at hi
  obtain ⟨l, rfl⟩ := pick_at hj
  exact PySem.P.gt_str h
theorem cmp_lt (x y : Str) (t u : Tok) : CmpOf prog w A .Lt (fun i v => #[Value.str x t, Value.str y u][i]? = some v) (fun i j => decide ((pick2 x y i).cps.toList < (pick2 x y j).cps.toList)) := fun i j vi vj s Q E hi hj h => by
  obtain ⟨k, rfl⟩ := pick_at hi
  obtain ⟨l, rfl⟩ := pick_at hj
  exact PySem.P.lt_str h
theorem tup_two (s : Shared) (a b : Value) : (s.heap.push { cls := .type "tuple", data := .seq #[a, b] }).IsTuple s.heap.objs.size #[a, b] := ⟨_, Heap.get?_push_size _ rfl, rfl, 0, rfl⟩
theorem two_old {a b : Value} {h' : Heap} {ob : Obj} (hk : ∀ c o, c ∉ [s.heap.objs.size + 1] → ((s.heap.push { cls := .type "tuple", data := .seq #[a, b] }).push ob).get? c = some o → h'.get? c = some o) : ∀ c o, s.heap.get? c = some o → h'.get? c = some o := fun c o e =>
  hk c o (fun hm => absurd (Heap.lt_size e) (by rw [List.mem_singleton.mp hm]; exact Nat.not_lt.mpr (Nat.le_succ _))) (Heap.get?_push_of_some _ (Heap.get?_push_of_some _ e))
theorem max_strs {x y : Str} {t u : Tok} {Q : Value → Shared → Prop} (hh : A.handled = none)
    (h : ∀ h' tk, (∀ c o, s.heap.get? c = some o → h'.get? c = some o) → Q (if x.cps.toList < y.cps.toList then .str y u else .str x t) { s with heap := h', toks := tk }) : wpAny (model prog w) A (call (.builtin "max") [.str x t, .str y u]) Q E s := by
  have hT := tup_two s (.str x t) (.str y u)
  have hz : (s.heap.push { cls := .type "tuple", data := .seq #[Value.str x t, Value.str y u] }).objs.size = s.heap.objs.size + 1 := Heap.size_push ..
  refine call_max_two (wpAny_pyIter_tuple hT ?_)
  refine ⟨_, [_, s.heap.objs.size], [_], _, _, _, _, rfl, Walks.tuple (A := A.in1) hh _ s.heap.objs.size (by rw [hz]; exact Nat.ne_of_lt (Nat.lt_succ_self _)) #[Value.str x t, Value.str y u], ⟨⟨_, Heap.get?_push_size _ rfl, rfl, rfl⟩, hT.push _⟩, fun c hc => ?_, by simp, cmp_gt x y t u, fun v h' tk hP hk => ?_⟩
  · show c < ((s.heap.push _).push _).objs.size
    rw [Heap.size_push, hz]
    simp only [List.mem_cons, List.not_mem_nil, or_false] at hc
    rcases hc with q | q
    · rw [q, hz]; exact Nat.lt_succ_self _
    · rw [q]; exact Nat.lt_succ_of_lt (Nat.lt_succ_self _)
  · rw [hz] at hk
    have := h h' tk (two_old hk)
    have e1 : (#[Value.str x t, Value.str y u] : Array Value).size - 1 = 1 := rfl
    rw [e1] at hP
    by_cases q : x.cps.toList < y.cps.toList
    · have e : argBest (fun i j => decide ((pick2 x y j).cps.toList < (pick2 x y i).cps.toList)) 1 = 1 := by simp [argBest, pick2, q]
      rw [e] at hP
      rw [if_pos q] at this
      rw [show v = .str y u from (Option.some.inj hP).symm]
      exact this
    · have e : argBest (fun i j => decide ((pick2 x y j).cps.toList < (pick2 x y i).cps.toList)) 1 = 0 := by simp [argBest, pick2, q]
      rw [e] at hP
      rw [if_neg q] at this
      rw [show v = .str x t from (Option.some.inj hP).symm]
      exact this
theorem min_strs {x y : Str} {t u : Tok} {Q : Value → Shared → Prop} (hh : A.handled = none)
    (h : ∀ h' tk, (∀ c o, s.heap.get? c = some o → h'.get? c = some o) → Q (if y.cps.toList < x.cps.toList then .str y u else .str x t) { s with heap := h', toks := tk }) : wpAny (model prog w) A (call (.builtin "min") [.str x t, .str y u]) Q E s := by
  have hT := tup_two s (.str x t) (.str y u)
  have hz : (s.heap.push { cls := .type "tuple", data := .seq #[Value.str x t, Value.str y u] }).objs.size = s.heap.objs.size + 1 := Heap.size_push ..
  refine call_min_two (wpAny_pyIter_tuple hT ?_)
  refine ⟨_, [_, s.heap.objs.size], [_], _, _, _, _, rfl, Walks.tuple (A := A.in1) hh _ s.heap.objs.size (by rw [hz]; exact Nat.ne_of_lt (Nat.lt_succ_self _)) #[Value.str x t, Value.str y u], ⟨⟨_, Heap.get?_push_size _ rfl, rfl, rfl⟩, hT.push _⟩, fun c hc => ?_, by simp, cmp_lt x y t u, fun v h' tk hP hk => ?_⟩
  · show c < ((s.heap.push _).push _).objs.size
    rw [Heap.size_push, hz]
    simp only [List.mem_cons, List.not_mem_nil, or_false] at hc
    rcases hc with q | q
    · rw [q, hz]; exact Nat.lt_succ_self _
    · rw [q]; exact Nat.lt_succ_of_lt (Nat.lt_succ_self _)
  · rw [hz] at hk
    have := h h' tk (two_old hk)
    have e1 : (#[Value.str x t, Value.str y u] : Array Value).size - 1 = 1 := rfl
    rw [e1] at hP
    by_cases q : y.cps.toList < x.cps.toList
    · have e : argBest (fun i j => decide ((pick2 x y i).cps.toList < (pick2 x y j).cps.toList)) 1 = 1 := by simp [argBest, pick2, q]
      rw [e] at hP
      rw [if_pos q] at this
      rw [show v = .str y u from (Option.some.inj hP).symm]
      exact this
    · have e : argBest (fun i j => decide ((pick2 x y i).cps.toList < (pick2 x y j).cps.toList)) 1 = 0 := by simp [argBest, pick2, q]
      rw [e] at hP
      rw [if_neg q] at this
      rw [show v = .str x t from (Option.some.inj hP).symm]
      exact this
end
section
variable {X : Cx}
theorem call_maxS (hc : X.calm = true) : CallR X (.builtin "max") (fun xs H Q => ∃ x y, xs = [.str x, .str y] ∧ Q (.str (if x.cps.toList < y.cps.toList then y else x)) H) := by
  intro pins s σ H xs us Q I r h
  obtain ⟨x, y, rfl, q⟩ := h
  obtain ⟨u, v, rfl, ⟨t, rfl⟩, ⟨k, rfl⟩⟩ := vals2 r
  refine max_strs (I.ok.hd hc) fun h' tk kp => ⟨_, H, I.kept kp, ?_, q⟩
  split <;> exact ⟨_, rfl⟩
theorem call_minS (hc : X.calm = true) : CallR X (.builtin "min") (fun xs H Q => ∃ x y, xs = [.str x, .str y] ∧ Q (.str (if y.cps.toList < x.cps.toList then y else x)) H) := by
  intro pins s σ H xs us Q I r h
  obtain ⟨x, y, rfl, q⟩ := h
  obtain ⟨u, v, rfl, ⟨t, rfl⟩, ⟨k, rfl⟩⟩ := vals2 r
  refine min_strs (I.ok.hd hc) fun h' tk kp => ⟨_, H, I.kept kp, ?_, q⟩
  split <;> exact ⟨_, rfl⟩
/-- len(o) by the class's own __len__ -/
theorem call_lenO {k : Nat} {C f : Addr} {fd : FuncData} {ps : List Str} {sp : Sp} (F : FnOk X.prog X.w X.K X.mg X.base CX0 k f fd ps sp) (hr : Room (k + 1) X.A) (hs : PySem.W.findIn X.K (.ref C) "__len__" = some (some (.ref f)))
    (hf : PySem.W.isFn X.K (.ref f) = true) (hb : Binds X.K fd ps []) :
    CallR X (.builtin "len") (fun xs H Q => ∃ a dx fs, xs = [.ref a] ∧ H a = some (.ins C dx fs) ∧ sp [.ref a] H (fun v H' => ∃ n : Nat, v = .int n ∧ n < 2 ^ 62 ∧ Q (.int n) H') E0) := by
  intro pins s σ H xs us Q I r h
  obtain ⟨a, dx, fs, rfl, ha, hsp⟩ := h
  rw [Vals.ref1 r]
  obtain ⟨mA, J, _⟩ := ins_get I.hok ha
  obtain ⟨od, J, _⟩ := J.look
  obtain ⟨m, hF⟩ := I.fr
  refine PySem.W.len_K hF I.ok.mod.kin J hs hf ?_
  have e0 := (I.env0 (s := s)).in1
  have hl := F.len _ _ _ _ hsp
  refine wpAny_call (codeAny_mono (F.run X.A.in1 X.stack s H ⟨[.ref a], []⟩ [.ref a] [.ref a] _ E0 hr.in1 e0 (by
    have := hb s [.ref a] I.kIn (by simpa using hl)
    simpa using this) (.cons rfl .nil) hsp) fun r s' hq => ?_)
  cases r with
  | error e => exact False.elim hq
  | ok fl =>
    cases fl with
    | ret w =>
      obtain ⟨z, H', I', rz, n, rfl, hn, q⟩ := I.after hq
      obtain ⟨t, rfl⟩ := rz
      exact ⟨⟨by omega, by omega⟩, .int n, H', I'.tok _, ⟨_, rfl⟩, q⟩
    | next => exact False.elim hq
    | brk => exact False.elim hq
    | cont => exact False.elim hq
/-- xs.remove(y): the first equal one goes (data) -/
def rRemD (K : PySem.W.Frag) : V → List V → Hp → VK → Prop := fun x xs H Q => ∃ (l : Addr) (vs : List V) (y : V) (d : PyData) (ds : List PyData) (j : Nat) (z : PyData), x = .ref l ∧ xs = [y] ∧ H l = some (.lst vs) ∧ Dp K H (.ref l) (.list ds) ∧ Dp K H y d ∧
  SeqAt.shaped (.list ds) = true ∧ SeqAt.shaped d = true ∧ ds[j]? = some z ∧ PyData.eqv z d = true ∧ (∀ (m : Nat) (z' : PyData), m < j → ds[m]? = some z' → PyData.eqv z' d = false) ∧ Q .non (upd H l (.lst (vs.eraseIdx j)))
theorem mt_removeD (hu : X.A.units + 65 < cLine) : MtR X "list.remove" (rRemD X.K) := by
  intro pins s σ H x xs v us Q I rx rxs h
  obtain ⟨l, vs, y, d, ds, j, z, rfl, rfl, hH, hl, hy, sl, sd, hz, hzj, hno, q⟩ := h
  cases rx
  cases rxs with
  | cons ry rt =>
    rename_i uy ut
    cases rt
    obtain ⟨bs, r1⟩ := Dp.reads I d y uy hy ry
    have hxs : PyData.canLayAll0 ds = true := SeqAt.canLay_of_shaped sl
    have hroom : X.A.units + 1 + min (PyData.depthAll ds) d.depth < cLine := room_in_shaped sd hu
    cases hl with
    | lst hs ha =>
      obtain ⟨zz, its, n, rv, e⟩ := I.hok l _ hH
      have hxv : SqL X.K H l vs := .inl (.inl hH)
      rename_i vs'
      obtain ⟨as, h4⟩ : ∃ as, ReadsAll s.heap its ds as := by
        obtain ⟨its', rv', ⟨⟨cls, dd, data, sls⟩, n', ho', hc', hdn', hdt'⟩, hlen'⟩ := I.list hs
        obtain ⟨as, h4⟩ := Dp.readsAll I ds _ its' ha rv'
        rw [e] at ho'
        cases ho'
        simp only at hdt'
        have e1 : its.toArray = its'.toArray := by
          injection hdt'
        have e2 : its = its' := by
          have := congrArg Array.toList e1
          simpa using this
        rw [e2]
        exact ⟨as, h4⟩
      have hn : its.length = ds.length := SeqAt.ReadsAll.length ds its as h4
      have hmap : its.map (SeqAt.readOf s.heap) = ds := SeqAt.readsAll_map ds its as hxs h4
      obtain ⟨hjd, _⟩ := List.getElem?_eq_some_iff.mp hz
      have hj : j < its.toArray.size := by simp; omega
      have at_ : ∀ (m : Nat) (hm : m < its.toArray.size) (z' : PyData), ds[m]? = some z' → SeqAt.readOf s.heap its.toArray[m] = z' := by
        intro m hm z' hz'
        have hml : m < its.length := by simpa using hm
        rw [← hmap, List.getElem?_map, List.getElem?_eq_getElem hml] at hz'
        have e1 : SeqAt.readOf s.heap its[m] = z' := Option.some.inj hz'
        simpa using e1
      refine call_meets PySem.F.slot_list_remove ⟨_, e, rfl⟩ PySem.F.entry_list_remove (PySem.F.args_list_remove_2 _ _)
        (SeqAt.list_removeAt l its.toArray n none #[] uy (fun u => PyData.eqv (SeqAt.readOf s.heap u) d) j hj ?_ ?_ (by have := rv.length; simp; omega)) ⟨e, SeqAt.items_eqAt (vs := its.toArray) (show ReadsAll s.heap its.toArray.toList ds as from h4) r1 hxs (SeqAt.canLay_of_shaped sd) hroom, ?_⟩
      · show PyData.eqv (SeqAt.readOf s.heap its.toArray[j]) d = true
        rw [at_ j hj z hz]
        exact hzj
      · intro m hm hmj
        have hmd : m < ds.length := by omega
        have hz' : ds[m]? = some ds[m] := List.getElem?_eq_getElem hmd
        show PyData.eqv (SeqAt.readOf s.heap its.toArray[m]) d = false
        rw [at_ m hm _ hz']
        exact hno m _ hmj hz'
      · have rv2 : Vals (vs.eraseIdx j) (its.eraseIdx j) := by
          have gen : ∀ (j : Nat) {xs : List V} {us : List Value}, Vals xs us → Vals (xs.eraseIdx j) (us.eraseIdx j) := fun j => by
            induction j with
            | zero => intro xs us r; cases r with
              | nil => exact .nil
              | cons a b => exact b
            | succ j ih => intro xs us r; cases r with
              | nil => exact .nil
              | cons a b => exact .cons a (ih b)
          exact gen j rv
        refine ⟨.non, _, I.lset (its' := its.eraseIdx j) (t' := s.toks) hH e ?_ rv2 (Nat.le_trans (List.length_eraseIdx_le _ _) zz), rfl, q⟩
        show its.toArray.eraseIdxIfInBounds j = (its.eraseIdx j).toArray
        rw [List.eraseIdxIfInBounds_toArray]
/-- {pair: value}, the key a tuple of ints and texts -/
def tDisp1T (tk tv : TE) : TE := fun σ H Q => ∀ p, H p = none → tPairs [(tk, tv)] σ (upd H p (.dT [])) fun ps H2 => H2 p = some (.dT []) ∧ ∃ (ks : List L2.Key) (b : Addr) (y : V), ps = [(.ref b, y)] ∧ H2 b = some (.tup (ks.map kV)) ∧ Q (.ref p) (upd H2 p (.dT [(ks, y)]))
theorem pe_disp1T {pos : Pos} {k v : Expr} {tk tv : TE} (hu : X.A.units < cLine) (hk : PE X k tk) (hv : PE X v tv) : PE X (.Dict [some k] [v] pos) (tDisp1T tk tv) := by
  refine ⟨fun pins s σ H Q I q => ?_⟩
  have hn := I.hok.fresh (Nat.le_refl s.heap.objs.size)
  have I1 := I.laid (a := s.heap.objs.size) (o := .dT []) (h' := s.heap.push { cls := .type "dict", data := .dict #[] }) (t' := s.toks) (fun _ _ q => Heap.get?_push_of_some _ q) (Nat.le_refl _) (dt_empty s.heap I.big)
  have PP : PPs X pos [some k] [v] [(tk, tv)] := pps_cons hk hv pps_nil
  rw [arm_eval_Dict, show (evalEachOpt [some k] X.env).zip ((evalEach [v] X.env).map fun v => do let x ← v; standAt pos; pure x) = (pairTrees [some k] [v] X.env pos).map fun p => (some p.1, p.2) from rfl, dictDisplay_pairs (pairTrees [some k] [v] X.env pos) (by intro h; cases h) (by show 1 < _; omega)]
  refine wpAny_bind (wpAny_standAt (wpAny_bind (wpAny_subDictH (knd := tupleKind (mixKind X.prog X.w)) hu (by show 1 ≤ 15; decide) (thn (PP.run pins _ σ _ _ I1 (q _ hn)) fun ws s2 ⟨ps, H2, I2, rel, e, ks, b, y, ep, eb, q2⟩ => ?_))))
  subst ep
  cases rel with
  | @cons c d cs ds r rt =>
    obtain ⟨d1, d2⟩ := d
    obtain ⟨r1, r2⟩ := r
    cases rt
    obtain rfl : d1 = Value.ref b := r1
    obtain ⟨z, hd, xs, rk, dd⟩ := dt_of I2.hok e
    cases rk
    refine ⟨[(ks, b, d2)], ⟨rfl, rfl, key_of I2.hok eb, True.intro⟩, dd, fun h' tk' dd' hs => wpAny_pure ⟨.ref s.heap.objs.size, _, ?_, rfl, q2⟩⟩
    obtain ⟨o, es, ep, ho, h2, h3, h4, _, h5⟩ := dd'
    refine d_write I2 (by rw [e]; exact True.intro) hs ⟨o, ho⟩ ⟨by show 1 ≤ sizeLine; decide, hd, [(ks, b, d2)], .cons ⟨rfl, ?_, r2⟩ .nil, o, es, ep, ho, h2, h3, h4, h5⟩
    rw [upd_ne (ne_of eb e (fun z => nomatch z))]
    exact eb
end
end BfR
/-! ## Sets of texts: made by a comprehension, sorted -/
namespace BfS
open PySem PySem.Spec PyProof.Rows L2 PySem.Froz
/-- a set of the texts l stands at a; its table can be walked -/
def SetS (P : Program) (w : World) (h : Heap) (a : Addr) (l : List Str) : Prop :=
  ∃ D : SD, h.get? a = some (sObj "set" D) ∧ TxOk P w D l ∧ l.length < scanBound ∧ l.Nodup ∧ Ris D.2.2.place.toList ∧ (w.params.followText "set-order" = true ∨ D.2.2.led = true)
theorem ris_tail {ep : Nat} {es : Array (Int × Value)} {t : SetTable} {d : Bool} (r : Ris t.place.toList) : Ris (tailTx ep es t d).2.2.place.toList := by
  unfold tailTx
  split
  · exact relayAll_ris t es _
  · exact r
theorem led_tail {ep : Nat} {es : Array (Int × Value)} {t : SetTable} {d : Bool} : (tailTx ep es t d).2.2.led = t.led := by
  unfold tailTx
  split
  · exact relayAll_led t es _
  · rfl
theorem ris_add {D : SD} (h : Int) (v : Value) (r : Ris D.2.2.place.toList) : Ris (addTx h v D).2.2.place.toList := by
  have q := layNew_ris D.2.2 D.1 h v r
  unfold addTx
  refine ris_tail ?_
  split
  · exact q
  · exact q
theorem led_add {D : SD} (h : Int) (v : Value) : (addTx h v D).2.2.led = D.2.2.led := by
  have q := layNew_led D.2.2 D.1 h v
  unfold addTx
  rw [led_tail]
  split
  · exact q
  · exact q
section
variable {P : Program} {w : World} {A : Around} {E : Value → Shared → Prop} {s : Shared}
/-- a text that is in already -/
theorem add_known {a : Addr} {D : SD} {l : List Str} {k : Str} {u : Tok} {Q : Bool → Shared → Prop} (ho : s.heap.get? a = some (sObj "set" D)) (F : TxOk P w D l) (hk : k ∈ l) (hb : l.length < scanBound) (h : Q false s) :
    wpAny (model P w) A (setAddHashed a (.str k u) (hashStr w k)) Q E s := by
  obtain ⟨es, ep, t⟩ := D
  have hd : (sObj "set" (es, ep, t)).data = .set es ep t := rfl
  have hel : ElemsOf (strKind P w) es.toList := F.el
  have hz : es.size < scanBound := by have := F.sz; simp only at this; omega
  unfold setAddHashed setAddHashedIn
  refine wpAny_holding (wpAny_bind (wpAny_setState_of ho hd F.fit ?_))
  dsimp only
  rw [byScan_of rfl hz hel]
  simp only [↓reduceIte]
  unfold setAddByScan
  refine wpAny_bind (wpAny_bind (wpAny_rule ?_))
  refine wpAny_bind (wpAny_setScan_of (knd := strKind P w) (k := k) (is_str k u) ho hd F.fit hel ?_)
  cases e : List.findIdx? (fun e => (strKind P w).is k e.2) es.toList with
  | none =>
    obtain ⟨x, hx, q⟩ := (F.mem k).mp hk
    have := List.findIdx?_eq_none_iff.mp e x hx
    rw [q] at this
    cases this
  | some j => exact wpAny_pure (wpAny_pure h)
theorem setS_new (w : World) (h : Heap) : SetS P w (h.push { cls := .type "set", dict := none, data := .set #[] 0 (.fresh 0 0 (!w.params.followText "set-order")) }) h.objs.size [] :=
  ⟨(#[], 0, .fresh 0 0 (!w.params.followText "set-order")), Heap.get?_push_size _ rfl, TxOk.nil rfl, by decide, by simp, List.Pairwise.nil, by
    cases q : w.params.followText "set-order"
    · exact .inr rfl
    · exact .inl rfl⟩
theorem setS_add {a : Addr} {l : List Str} {k : Str} {u : Tok} {Q : Value → Shared → Prop} (R : SetS P w s.heap a l) (hb : l.length + 1 < scanBound)
    (hQ : ∀ h', Heap.SameBut a s.heap h' → SetS P w h' a (if k ∈ l then l else k :: l) → Q .none { s with heap := h', toks := s.toks + 1 }) : wpAny (model P w) A (call (.builtin "set.add") [.ref a, .str k u]) Q E s := by
  obtain ⟨D, ho, F, hz, nd, r, ld⟩ := R
  refine wpAny_call_entry PySem.F.slot_set_add ⟨_, ho, rfl⟩ PySem.F.entry_set_add ?_ (PySem.F.args_set_add_2 _ _)
  unfold Builtin.«set.add» Builtin.Frozenset.oneOther
  simp only [List.isEmpty_nil, bind_assoc]
  unfold Builtin.Frozenset.addrOf setAdd
  refine wpAny_bind (wpAny_pure ?_)
  try dsimp only
  refine wpAny_bind (wpAny_pure ?_)
  try dsimp only
  refine wpAny_bind (wpAny_holding (wpAny_bind ((strKind P w).pyHash (is_str k u) ?_)))
  by_cases hk : k ∈ l
  · rw [if_pos hk] at hQ
    refine add_known (s := { s with toks := s.toks + 1 }) ho F hk hz ?_
    show wpAny _ _ (ret Value.none) _ _ _
    exact wpAny_pure ⟨_, rfl, hQ s.heap (Heap.SameBut.refl _ _) ⟨D, ho, F, hz, nd, r, ld⟩⟩
  · rw [if_neg hk] at hQ
    refine add_x (s := { s with toks := s.toks + 1 }) ho F hk hb ?_
    show wpAny _ _ (ret Value.none) _ _ _
    refine wpAny_pure ⟨_, rfl, hQ _ (Heap.SameBut.update s.heap a _) ⟨_, get_upd _ ho rfl, add_ok u F, by rw [List.length_cons]; exact hb, List.nodup_cons.mpr ⟨hk, nd⟩, ris_add _ _ r, ?_⟩⟩
    rw [led_add]
    exact ld
end
/-- the set of texts at a -/
def SetO (P : Program) (w : World) (a : Addr) (l : List Str) : HO := .ext fun h => SetS P w h a l
theorem setO_new {w : World} {P : Program} {H : Hp} {h : Heap} {a : Addr} {l : List Str} (R : SetS P w h a l) : ObjOk P w H h a (SetO P w a l) := by
  have ⟨D, ho, _⟩ := R
  exact ⟨R, ⟨_, ho⟩, fun h1 h2 ⟨D, ho, r⟩ k => ⟨D, k _ ho, r⟩⟩
section
variable {X : Cx}
theorem setO_add {pins : List (Addr × Obj)} {σ : L2.St} {H : Hp} {s : Shared} {E : Value → Shared → Prop} {a : Addr} {l : List Str} {k : Str} {u : Tok} {Q : Value → Shared → Prop} (I : Inv X pins σ H s) (ha : H a = some (SetO X.prog X.w a l)) (hb : l.length + 1 < scanBound)
    (h : ∀ s', Inv X pins σ (upd H a (SetO X.prog X.w a (if k ∈ l then l else k :: l))) s' → Q .none s') : wpAny (model X.prog X.w) X.A (call (.builtin "set.add") [.ref a, .str k u]) Q E s := by
  refine setS_add (I.hok a _ ha).1 hb fun h' sb new => h _ (I.write (e := a) (t' := s.toks + 1) (by rw [ha]; trivial) (.inl rfl) (fun b u hb hu => (sb.2 b hb).trans hu) ?_ (setO_new new))
  obtain ⟨D, ho, _⟩ := new
  exact ⟨_, ho⟩
/-- {elt for target in iter if ..}, elt a text: D the new set -/
def tSetC (P : Program) (w : World) (wi : TI) (g : TG) (tt : TT) (te : TE) (vs : List Nat) : TE := fun σ H Q => wi σ H fun J H1 => ∀ D, H1 D = none → ∃ W : Nat → Nat → Hp → Prop, (∃ m, W 0 m (upd H1 D (SetO P w D []))) ∧ ∀ i m H, W i m H →
  (J.stop i H ∧ Q (.ref D) H) ∨ (J.go i H ∧ ∃ Nx : Hp → Prop, (∀ H', Nx H' → ∃ m', m' < m ∧ W (i + 1) m' H') ∧ ∀ x H', J.yld i H x H' → g x (wipe σ vs) H' fun σ2 H2 => wipe σ2 vs = wipe σ vs ∧ tt σ2 H2 fun b H3 =>
    if b = true then te σ2 H3 fun y H4 => ∃ (c : Str) (l : List Str), y = .str c ∧ H4 D = some (SetO P w D l) ∧ l.length + 1 < scanBound ∧ Nx (upd H4 D (SetO P w D (if c ∈ l then l else c :: l))) else Nx H3)
theorem setc_core {pins : List (Addr × Obj)} {s : Shared} {σ : L2.St} {H : Hp} {Q : VK} {elt tg iter : Expr} {ifs : List Expr} {scope : Scope} {own : List (PySem.Str × Nat)} {pos pos' : Pos} {wi : TI} {g : TG} {tt : TT} {te : TE} {use : Option (Value → Sem Unit)} {Qf : Value → Shared → Prop}
    (hc : X.calm = true) (hN : X.N.Nodup) (I : Inv X pins σ H s) (hi : PI X tg iter wi) (ok : BlkOk X.N X.env.scope scope own)
    (hg : ∀ (s : Shared) (H : Hp) (C : Addr) (cl : List (PySem.Str × Addr)) (fp : List Addr), PG (X.blk s H scope (compEnvC scope cl C X.env) fp) tg g) (ht : ∀ (s : Shared) (H : Hp) (C : Addr) (cl : List (PySem.Str × Addr)) (fp : List Addr), PTs (X.blk s H scope (compEnvC scope cl C X.env) fp) ifs tt)
    (he : ∀ (s : Shared) (H : Hp) (C : Addr) (cl : List (PySem.Str × Addr)) (fp : List Addr), PE (X.blk s H scope (compEnvC scope cl C X.env) fp) elt te) (hs : ∀ x, foldedSetIterable iter X.env x = pure x)
    (h : tSetC X.prog X.w wi g tt te (own.map (·.2)) σ H Q)
    (hRR : ∀ D C s' m H', Inv X pins σ H' s' → Q (.ref D) H' → s'.heap.Ns C m → FpOk X pins H' C → compPost (model X.prog X.w) X.A X.xe use Qf (.ref D) C (.ok .next) s') :
    wpAny (model X.prog X.w) X.A (comprehension (.SetComp elt [⟨tg, iter, ifs, 0⟩] scope pos) scope X.env pos' (newSet (.type "set")) false (eval iter X.env) use) Qf X.xe s := by
  have hfree : ∀ y ∈ scope.names, y.2 = .free → ∃ c, X.env.cells.lookup y.1 = some c := fun y hy e => (ok.free y hy e).elim (fun k => I.ok.has _ (.inl k)) fun k => I.ok.has _ (.inr k)
  refine wpAny_comprehension_free (use := use) rfl hs (closure_ok hfree) ok.kind (fun y hy e => by rw [ok.uniq y hy, e]) (thn (hi.run pins s σ H _ I h) fun xv s1 hx => thn hx fun itv s2 h2 => ?_)
  obtain ⟨it, fp, tn, J, H2, e, I2, T, st2, f2, q⟩ := h2
  subst e
  refine PpSet.newSet_ok (newEnv_comp ?_)
  generalize hD : s2.heap.objs.size = D
  have hDn : H2 D = none := I2.hok.fresh (Nat.le_of_eq hD)
  obtain ⟨W, ⟨m0, w0⟩, turn⟩ := q D hDn
  generalize hs3 : ({ s2 with heap := s2.heap.push { cls := .type "set", dict := none, data := .set #[] 0 (.fresh 0 0 (!X.w.params.followText "set-order")) } } : Shared) = s3
  have I3 : Inv X pins σ (upd H2 D (SetO X.prog X.w D [])) s3 := by
    rw [← hs3]
    refine I2.laid (t' := s2.toks) (fun b o e => Heap.get?_push_of_some _ e) (Nat.le_of_eq hD) (setO_new ?_)
    rw [← hD]
    exact setS_new X.w s2.heap
  have h3 : s3.heap = s2.heap.push { cls := .type "set", dict := none, data := .set #[] 0 (.fresh 0 0 (!X.w.params.followText "set-order")) } := by rw [← hs3]
  have f3 : ∀ b ∈ fp, FpOk X pins (upd H2 D (SetO X.prog X.w D [])) b ∧ b < s3.heap.objs.size := fun b hb => by
    have hlt : b < s2.heap.objs.size := by
      obtain ⟨o, e, _⟩ := T.obj _ _ st2 b hb
      exact Heap.lt_size e
    refine ⟨⟨?_, (f2 b hb).2⟩, by rw [h3, Heap.size_push]; exact Nat.lt_succ_of_lt hlt⟩
    rw [upd_ne (by rw [← hD]; exact Nat.ne_of_lt hlt)]
    exact (f2 b hb).1
  have st3 : tn 0 s3.heap := T.keep _ _ _ st2 fun b _ o e => by rw [h3]; exact Heap.get?_push_of_some _ e
  have I4 := block_start I3 ok hN f3
  have pg := hg s3 (upd H2 D (SetO X.prog X.w D [])) s3.heap.objs.size (cellsFrom (s3.heap.objs.size + 1) scope.names (cloFrom X.env.cells scope.names [])) fp
  have pt := ht s3 (upd H2 D (SetO X.prog X.w D [])) s3.heap.objs.size (cellsFrom (s3.heap.objs.size + 1) scope.names (cloFrom X.env.cells scope.names [])) fp
  have pe := he s3 (upd H2 D (SetO X.prog X.w D [])) s3.heap.objs.size (cellsFrom (s3.heap.objs.size + 1) scope.names (cloFrom X.env.cells scope.names [])) fp
  show codeAny _ _ (.compStart (.SetComp elt [⟨tg, iter, ifs, 0⟩] scope pos) 0 (.ref it) (.ref D) (compEnvC scope (cellsFrom (s3.heap.objs.size + 1) scope.names (cloFrom X.env.cells scope.names [])) s3.heap.objs.size X.env)) (compPost (model X.prog X.w) X.A X.xe use Qf (.ref D) s3.heap.objs.size) { s3 with heap := pushCells (s3.heap.push { cls := .type "dict", data := .dict #[] }) scope.names }
  have nfp : ∀ b ∈ fp, (upd H2 D (SetO X.prog X.w D [])) b = none := fun b hb => (f3 b hb).1.1
  generalize hce : compEnvC scope (cellsFrom (s3.heap.objs.size + 1) scope.names (cloFrom X.env.cells scope.names [])) s3.heap.objs.size X.env = ce at I4 pg pt pe ⊢
  have cL : ce.locals = s3.heap.objs.size := by subst hce; rfl
  generalize hH3 : upd H2 D (SetO X.prog X.w D []) = H3 at I3 I4 pg pt pe w0 nfp f3
  generalize hs4 : ({ s3 with heap := pushCells (s3.heap.push { cls := .type "dict", data := .dict #[] }) scope.names } : Shared) = s4 at I4 ⊢
  have st4 : tn 0 s4.heap := T.keep _ _ _ st3 fun b _ o e => by rw [← hs4]; exact pushCells_keeps _ _ _ _ (Heap.get?_push_of_some _ e)
  have stat : ∀ {σ' : L2.St} {H' : Hp} {s' : Shared}, Inv (X.blk s3 H3 scope ce fp) [] σ' H' s' → (∀ b ∈ fp, H' b = none) → ∀ b ∈ fp, FpOk (X.blk s3 H3 scope ce fp) [] H' b := fun {σ' H' s'} I' hn b hb =>
    ⟨hn b hb, (I'.ok.exf b hb).1, I'.ok.exfs b hb, .inl hb, fun x c e => (I'.ok.exf b hb).2 x c e, fun p hp => absurd (show p ∈ ([] : List (Addr × Obj)) ++ [] from hp) (by simp)⟩
  have loop : codeAny (model X.prog X.w) X.A (.compLoop (.SetComp elt [⟨tg, iter, ifs, 0⟩] scope pos) 0 (.ref it) (.ref D) ce) (compPost (model X.prog X.w) X.A X.xe use Qf (.ref D) s3.heap.objs.size) s4 := by
    refine PpSet.compLoopS_any (fun n s' => ∃ i H', Inv (X.blk s3 H3 scope ce fp) [] (wipe σ (own.map (·.2))) H' s' ∧ tn i s'.heap ∧ (∀ b ∈ fp, H' b = none) ∧ W i n H') ?_ m0 ⟨0, H3, I4, st4, nfp, w0⟩
    rintro n s5 ⟨i, H5, I5, st5, n5, w5⟩
    rcases turn i n H5 w5 with ⟨stop, qq⟩ | ⟨go, Nx, hNx, step⟩
    · refine thnF (T.done (X.blk s3 H3 scope ce fp) rfl rfl rfl hc i [] s5 _ H5 (fun _ _ => False) I5 (stat I5 n5) st5 stop) fun r s6 ⟨hr, I6⟩ => ?_
      subst hr
      have I7 : Inv X pins σ H5 s6 := I3.call' (ch := fp) I6.os I6.base I6.hok I6.bare fun b hb => ⟨(f3 b hb).1.2.2.2.1, (f3 b hb).1.2.1, (f3 b hb).1.2.2.2.2.1, (f3 b hb).1.2.2.2.2.2⟩
      have nC : H5 ce.locals = none := I6.free
      rw [cL] at nC
      obtain ⟨m, hn, _⟩ := I6.loc
      have hn : s6.heap.Ns ce.locals m := hn
      rw [cL] at hn
      exact hRR D s3.heap.objs.size s6 m H5 I7 qq hn (I3.fpOk (Nat.le_refl _) nC)
    · refine thnF (T.item (X.blk s3 H3 scope ce fp) rfl rfl rfl hc i [] s5 _ H5 (fun _ _ => False) I5 (stat I5 n5) st5 go) fun r s6 ⟨u, hr, h6⟩ => ?_
      subst hr
      refine thnF h6 fun _ s7 ⟨x, H7, I7, r7, y7, st7, n7⟩ => ?_
      have I7' := I7.pinned (stat I7 n7) (T.obj _ _ st7)
      refine thnF (pg.run _ s7 _ H7 x u _ I7' r7 (step x H7 y7)) fun _ s8 ⟨σ8, H8, I8, hw8, q8⟩ => ?_
      refine thnF (pt.run _ s8 σ8 H8 _ I8 q8) fun b s9 ⟨H9, I9, q9⟩ => ?_
      have fin : ∀ {s' : Shared} {H' : Hp}, Inv (X.blk s3 H3 scope ce fp) ([] ++ pinsAt fp s7.heap) σ8 H' s' → Nx H' → ∃ m, m < n ∧ ∃ i H', Inv (X.blk s3 H3 scope ce fp) [] (wipe σ (own.map (·.2))) H' s' ∧ tn i s'.heap ∧ (∀ b ∈ fp, H' b = none) ∧ W i m H' := fun {s' H'} I' nx => by
        obtain ⟨m', hm, w'⟩ := hNx H' nx
        have pin' : ∀ b ∈ fp, ∀ o, s7.heap.get? b = some o → s'.heap.get? b = some o ∧ H' b = none := fun b hb o e => have z := I'.pin (b, o) (List.mem_append_right _ (List.mem_append_right _ (mem_pinsAt hb e))); ⟨z.1, z.2.1⟩
        refine ⟨m', hm, i + 1, H', (I'.unpinned (pins := [])).weak (by rw [← hw8, wipe_length]) (fun j v e => ?_), T.keep _ _ _ st7 fun b hb o e => (pin' b hb o e).1, fun b hb => ?_, w'⟩
        · rw [← hw8] at e
          exact (wipe_some e).1
        · obtain ⟨o, e, _⟩ := T.obj _ _ st7 b hb
          exact (pin' b hb o e).2
      cases b with
      | false =>
        simp only [Bool.false_eq_true, if_false] at q9 ⊢
        exact fin I9 q9
      | true =>
        simp only [if_true] at q9 ⊢
        refine thnF (pe.run _ s9 σ8 H9 _ I9 q9) fun z s10 ⟨yv, H10, I10, r10, cb, l0, ey, hD10, hz10, nx⟩ => ?_
        subst ey
        obtain ⟨tz, rfl⟩ := r10
        exact setO_add (X := X.blk s3 H3 scope ce fp) I10 hD10 hz10 fun s11 I11 => fin I11 nx
  exact PpSet.codeAny_compStart_set loop (T.self X.A 0 _ _ _ st4 loop)
theorem pe_setc {elt tg iter : Expr} {ifs : List Expr} {scope : Scope} {own : List (PySem.Str × Nat)} {pos : Pos} {wi : TI} {g : TG} {tt : TT} {te : TE} (hc : X.calm = true) (hN : X.N.Nodup) (hi : PI X tg iter wi) (ok : BlkOk X.N X.env.scope scope own)
    (hg : ∀ (s : Shared) (H : Hp) (C : Addr) (cl : List (PySem.Str × Addr)) (fp : List Addr), PG (X.blk s H scope (compEnvC scope cl C X.env) fp) tg g) (ht : ∀ (s : Shared) (H : Hp) (C : Addr) (cl : List (PySem.Str × Addr)) (fp : List Addr), PTs (X.blk s H scope (compEnvC scope cl C X.env) fp) ifs tt)
    (he : ∀ (s : Shared) (H : Hp) (C : Addr) (cl : List (PySem.Str × Addr)) (fp : List Addr), PE (X.blk s H scope (compEnvC scope cl C X.env) fp) elt te) (hs : ∀ x, foldedSetIterable iter X.env x = pure x := by intro _; rfl) :
    PE X (.SetComp elt [⟨tg, iter, ifs, 0⟩] scope pos) (tSetC X.prog X.w wi g tt te (own.map (·.2))) := by
  refine ⟨fun pins s σ H Q I h => ?_⟩
  rw [PpSet.eval_SetComp]
  refine setc_core hc hN I hi ok hg ht he hs h fun D C s' m H' I' q hn f => ⟨m, hn, fun h'' sb => ?_⟩
  obtain ⟨f0, f1, f2, f3, f4, f5⟩ := f
  exact ⟨.ref D, H', I'.turned (t' := s'.toks) (fun b o hb e => (sb.2 b hb).trans e) f0 f1 f3 f4 f5, rfl, q⟩
/-- over a list that stays -/
theorem setc_list {P : Program} {w : World} {K : PySem.W.Frag} {a : Addr} {xs : List V} {g : TG} {tt : TT} {te : TE} {vs : List Nat} {σ : L2.St} {H1 : Hp} {D : Addr} {Qd : Hp → Prop} (Pv : Nat → Hp → Prop) (h0 : Pv 0 (upd H1 D (SetO P w D []))) (hl : ∀ i H, i ≤ xs.length → Pv i H → SqL K H a xs)
    (hs : ∀ i x H, xs[i]? = some x → Pv i H → g x (wipe σ vs) H fun σ2 H2 => wipe σ2 vs = wipe σ vs ∧ tt σ2 H2 fun b H3 =>
      if b = true then te σ2 H3 fun y H4 => ∃ (c : Str) (l : List Str), y = .str c ∧ H4 D = some (SetO P w D l) ∧ l.length + 1 < scanBound ∧ Pv (i + 1) (upd H4 D (SetO P w D (if c ∈ l then l else c :: l))) else Pv (i + 1) H3) (hd : ∀ H, Pv xs.length H → Qd H) :
    ∃ W : Nat → Nat → Hp → Prop, (∃ m, W 0 m (upd H1 D (SetO P w D []))) ∧ ∀ i m H, W i m H →
      ((Itl K a).stop i H ∧ Qd H) ∨ ((Itl K a).go i H ∧ ∃ Nx : Hp → Prop, (∀ H', Nx H' → ∃ m', m' < m ∧ W (i + 1) m' H') ∧ ∀ x H', (Itl K a).yld i H x H' → g x (wipe σ vs) H' fun σ2 H2 => wipe σ2 vs = wipe σ vs ∧ tt σ2 H2 fun b H3 =>
        if b = true then te σ2 H3 fun y H4 => ∃ (c : Str) (l : List Str), y = .str c ∧ H4 D = some (SetO P w D l) ∧ l.length + 1 < scanBound ∧ Nx (upd H4 D (SetO P w D (if c ∈ l then l else c :: l))) else Nx H3) := by
  refine ⟨fun i m H => m = xs.length - i ∧ i ≤ xs.length ∧ Pv i H, ⟨xs.length, rfl, Nat.zero_le _, h0⟩, ?_⟩
  rintro i m H ⟨rfl, hi, p⟩
  have q := hl i H hi p
  by_cases hlt : i < xs.length
  · refine .inr ⟨⟨xs, xs[i], q, List.getElem?_eq_getElem hlt⟩, Pv (i + 1), fun H' p' => ⟨_, by omega, rfl, hlt, p'⟩, fun x H' y => ?_⟩
    obtain ⟨e, y⟩ := y
    subst e
    exact hs i x _ (y xs q) p
  · have e : i = xs.length := by omega
    subst e
    exact .inl ⟨⟨xs, q, Nat.le_refl _⟩, hd H p⟩
/-- sorted(set of texts), fewer than 64 -/
theorem cr_sortedT (hcalm : X.calm = true) : CallR X (.builtin "sorted") (fun xs H Q => ∃ (a : Addr) (l : List Str), xs = [.ref a] ∧ H a = some (SetO X.prog X.w a l) ∧ l.length < 64 ∧
    ∀ ys p, ys.Perm l → sortedS ys = true → H p = none → Q (.ref p) (upd H p (.lst (ys.map V.str)))) := by
  intro pins s σ H xs us Q I r q
  obtain ⟨a, l, ex, ha, h64, q⟩ := q
  subst ex
  rw [Vals.ref1 r]
  obtain ⟨D, ho, F, hz, nd, ri, ld⟩ := (I.hok a _ ha).1
  refine Calls.call_function_entry PyProof.Rows.kind_sorted PyProof.Rows.plain_sorted PyProof.Rows.entry_sorted (PyProof.Rows.args_sorted1 _) ?_
  unfold Builtin.«sorted»
  refine wpAny_bind (m := checkCount "sorted" 1 1 _) (wpAny_pure ?_)
  refine wpAny_bind (collect_set (A := X.A.in1) (I.ok.hd hcalm) ⟨_, ho, rfl, rfl⟩ F.fit (by rw [F.sz]; exact hz) ri ld fun s1 vs k1 hz1 g1 o1 pm => ?_)
  -- the members' texts
  have shape : ∀ v, v ∈ vs → ∃ k u, v = Value.str k u ∧ k ∈ l := fun v hv => by
    obtain ⟨e, he, q⟩ := List.mem_map.mp (pm.mem_iff.mp hv)
    obtain ⟨⟨k, h1, h2⟩, _⟩ := F.el e he
    obtain ⟨u, eu⟩ := Value.isStrOf_shape (x := k) (v := e.2) h1
    exact ⟨k, u, by rw [← q]; exact eu, (F.mem k).mpr ⟨e, he, h1⟩⟩
  let tx : Value → Str := fun v => match v with
    | .str k _ => k
    | _ => Str.empty
  have hS : StrsAre vs (vs.map tx) := by
    have gen : ∀ vs : List Value, (∀ v, v ∈ vs → ∃ k u, v = Value.str k u) → StrsAre vs (vs.map tx) := fun vs => by
      induction vs with
      | nil => exact fun _ => .nil
      | cons v r ih =>
        intro h
        obtain ⟨k, u, rfl⟩ := h v (List.mem_cons_self ..)
        exact .cons k u (ih fun x hx => h x (List.mem_cons_of_mem _ hx))
    exact gen vs fun v hv => let ⟨k, u, e, _⟩ := shape v hv; ⟨k, u, e⟩
  have hlen : vs.length = l.length := by rw [pm.length_eq, List.length_map, Array.length_toList]; exact F.sz
  have hperm : (vs.map tx).Perm l := by
    have sub : ∀ x, x ∈ l → x ∈ vs.map tx := fun x hx => by
      obtain ⟨e, he, q⟩ := (F.mem x).mp hx
      obtain ⟨u, eu⟩ := Value.isStrOf_shape (x := x) (v := e.2) q
      exact List.mem_map.mpr ⟨e.2, pm.mem_iff.mpr (List.mem_map.mpr ⟨e, he, rfl⟩), by rw [eu]⟩
    have gen : ∀ (l m : List Str), l.Nodup → (∀ x, x ∈ l → x ∈ m) → m.length = l.length → m.Perm l := fun l => by
      induction l with
      | nil => intro m _ _ h; rw [List.length_eq_zero_iff.mp h]
      | cons a l ih =>
        intro m nd sb h
        obtain ⟨n1, n2⟩ := List.nodup_cons.mp nd
        obtain ⟨s1, s2, rfl⟩ := List.append_of_mem (sb a (List.mem_cons_self ..))
        refine List.perm_middle.trans (List.Perm.cons a (ih (s1 ++ s2) n2 (fun x hx => ?_) ?_))
        · have hxa : x ≠ a := fun e => n1 (by rw [← e]; exact hx)
          have := sb x (List.mem_cons_of_mem _ hx)
          simp only [List.mem_append, List.mem_cons] at this ⊢
          rcases this with q | q | q
          · exact .inl q
          · exact absurd q hxa
          · exact .inr q
        · simp only [List.length_append, List.length_cons] at h ⊢
          omega
    exact gen l (vs.map tx) nd sub (by rw [List.length_map, hlen])
  have I1 : Inv X pins σ H s1 := I.call' (ch := []) o1 (Un.kept k1) (I.hok.kept k1) (by rw [g1]; exact I.bare) (fun _ z => nomatch z)
  refine wpAny_bind (wpAny_newList ?_ (by rw [hlen, sizeLine_eq]; omega))
  have hoL : (s1.heap.push (seqObj "list" vs.toArray 0)).get? s1.heap.objs.size = some (seqObj "list" vs.toArray 0) := Heap.get?_push_size _ rfl
  show wpAny _ _ _ _ _ { s1 with heap := s1.heap.push (seqObj "list" vs.toArray 0) }
  refine wpAny_bind (wpAny_holding (wpAny_call_entry PyProof.Rows.slot_list_sort ⟨_, hoL, rfl⟩ PyProof.Rows.entry_list_sort
    (list_sort_treeK strKind_oneLt (s := { s1 with heap := s1.heap.push (seqObj "list" vs.toArray 0) }) hoL hS.keysOf (fun v₁ v₂ rest e => keyKind_strs (by rw [← e]; exact hS)) (by rw [hlen]; exact h64) fun st' hp hs => ⟨_, rfl, ?_⟩) (PyProof.Rows.args_list_sort _)))
  obtain ⟨ys, p1, p2, p3⟩ := sorted_out_str hS hp hs
  obtain ⟨ce, he'⟩ := PyProof.Rows.sortedHeap_at (vs := vs) (out := (arrOf st').map (·.2)) hoL
  have hle : (ys.map V.str).length ≤ sizeLine := by
    rw [List.length_map, p2.length_eq, List.length_map, hlen]
    exact Nat.le_trans (Nat.le_of_lt h64) (by decide)
  refine wpAny_pure ⟨_, rfl, .ref s1.heap.objs.size, upd H s1.heap.objs.size (.lst (ys.map V.str)), I1.laid (t' := s1.toks) (fun b u e => ?_) (Nat.le_refl _)
    (show ObjOk X.prog X.w _ _ _ (.lst (ys.map V.str)) from ⟨hle, ((arrOf st').map (·.2)).toList, ce, vals_of_strs p1, by rw [Array.toArray_toList]; exact he'⟩), rfl, q ys _ (p2.trans hperm) p3 (I1.hok.fresh (Nat.le_refl _))⟩
  have hb : b < s1.heap.objs.size := Heap.lt_size e
  rw [PyProof.Rows.sortedHeap_old (Nat.ne_of_lt hb) (by rw [size_push']; exact Nat.lt_succ_of_lt hb)]
  exact Heap.get?_push_of_some _ e
end
end BfS
/-! ## The order of texts; sorted lists -/
namespace Bf
open PySem PySem.Spec PyProof.Rows L2
def lts (x y : Str) : Bool := ltCps x.cps.toList y.cps.toList
theorem ltc_iff : ∀ a b : List Nat, ltCps a b = decide (a < b)
  | [], [] => by simp [ltCps]
  | [], _ :: _ => by simp [ltCps]
  | _ :: _, [] => by simp [ltCps]
  | a :: r, b :: t => by
    have ih := ltc_iff r t
    rw [ltCps, ih]
    by_cases h : a < b
    · simp [h, List.cons_lt_cons_iff]
    · by_cases e : a = b
      · subst e; simp [List.cons_lt_cons_iff]
      · simp [h, e, List.cons_lt_cons_iff]
theorem lts_dec (x y : Str) : decide (x.cps.toList < y.cps.toList) = lts x y := (ltc_iff _ _).symm
theorem ltc_irrefl : ∀ a : List Nat, ltCps a a = false
  | [] => rfl
  | a :: r => by rw [ltCps, ltc_irrefl r]; simp
theorem ltc_trans : ∀ a b c : List Nat, ltCps a b = true → ltCps b c = true → ltCps a c = true
  | _, [], [], _, h => by simp [ltCps] at h
  | [], _, _ :: _, _, _ => by simp [ltCps]
  | _ :: _, [], _ :: _, h, _ => by simp [ltCps] at h
  | [], _ :: _, [], _, h => by simp [ltCps] at h
  | _ :: _, _ :: _, [], _, h => by simp [ltCps] at h
  | a :: r, b :: t, c :: u, h, k => by
    simp only [ltCps, Bool.or_eq_true, Bool.and_eq_true, decide_eq_true_eq, beq_iff_eq] at h k ⊢
    rcases h with h | ⟨e, h⟩
    · rcases k with k | ⟨f, k⟩
      · exact .inl (Nat.lt_trans h k)
      · exact .inl (by omega)
    · rcases k with k | ⟨f, k⟩
      · exact .inl (by omega)
      · exact .inr ⟨e.trans f, ltc_trans r t u h k⟩
theorem ltc_total : ∀ a b : List Nat, a ≠ b → ltCps a b = true ∨ ltCps b a = true
  | [], [], h => absurd rfl h
  | [], _ :: _, _ => .inl rfl
  | _ :: _, [], _ => .inr rfl
  | a :: r, b :: t, h => by
    simp only [ltCps, Bool.or_eq_true, Bool.and_eq_true, decide_eq_true_eq, beq_iff_eq]
    by_cases e : a = b
    · subst e
      rcases ltc_total r t (fun q => h (by rw [q])) with q | q
      · exact .inl (.inr ⟨rfl, q⟩)
      · exact .inr (.inr ⟨rfl, q⟩)
    · rcases Nat.lt_or_gt_of_ne e with q | q
      · exact .inl (.inl q)
      · exact .inr (.inl q)
theorem str_ext {x y : Str} (h : x.cps.toList = y.cps.toList) : x = y := by
  cases x; cases y
  congr 1
  exact Array.toList_inj.mp h
theorem lts_irrefl (x : Str) : lts x x = false := ltc_irrefl _
theorem lts_trans {x y z : Str} (h : lts x y = true) (k : lts y z = true) : lts x z = true := ltc_trans _ _ _ h k
theorem lts_total {x y : Str} (h : x ≠ y) : lts x y = true ∨ lts y x = true := ltc_total _ _ fun e => h (str_ext e)
theorem lts_ne {x y : Str} (h : lts x y = true) : x ≠ y := fun e => by rw [e, lts_irrefl] at h; cases h
theorem lts_asymm {x y : Str} (h : lts x y = true) : lts y x = false := by
  cases e : lts y x with
  | false => rfl
  | true => have := lts_trans h e; rw [lts_irrefl] at this; cases this
/-- rising: each text below the next -/
abbrev Rising (l : List Str) : Prop := l.Pairwise fun x y => lts x y = true
theorem Rising.nodup {l : List Str} (h : Rising l) : l.Nodup := h.imp fun {_ _} q => lts_ne q
theorem rising_of_S : ∀ {l : List Str}, sortedS l = true → l.Nodup → Rising l
  | [], _, _ => .nil
  | [x], _, _ => by simp
  | x :: y :: r, h, nd => by
    have h' : (!ltCps y.cps.toList x.cps.toList && sortedS (y :: r)) = true := h
    rw [Bool.and_eq_true] at h'
    obtain ⟨n1, n2⟩ := List.nodup_cons.mp nd
    have ih := rising_of_S h'.2 n2
    have hxy : lts x y = true := by
      rcases lts_total (x := x) (y := y) (fun e => n1 (by rw [e]; exact List.mem_cons_self ..)) with q | q
      · exact q
      · have : ltCps y.cps.toList x.cps.toList = true := q
        rw [this] at h'
        exact absurd h'.1 (by decide)
    refine List.pairwise_cons.mpr ⟨fun z hz => ?_, ih⟩
    rcases List.mem_cons.mp hz with e | hz
    · rw [e]; exact hxy
    · exact lts_trans hxy ((List.pairwise_cons.mp ih).1 z hz)
/-- two rising lists of the same texts are one -/
theorem rising_ext : ∀ {l m : List Str}, Rising l → Rising m → (∀ x, x ∈ l ↔ x ∈ m) → l = m
  | [], [], _, _, _ => rfl
  | [], y :: m, _, _, h => absurd ((h y).mpr (List.mem_cons_self ..)) (by simp)
  | x :: l, [], _, _, h => absurd ((h x).mp (List.mem_cons_self ..)) (by simp)
  | x :: l, y :: m, hl, hm, h => by
    obtain ⟨l1, l2⟩ := List.pairwise_cons.mp hl
    obtain ⟨m1, m2⟩ := List.pairwise_cons.mp hm
    have e : x = y := by
      rcases List.mem_cons.mp ((h x).mp (List.mem_cons_self ..)) with q | q
      · exact q
      · rcases List.mem_cons.mp ((h y).mpr (List.mem_cons_self ..)) with r | r
        · exact r.symm
        · have a := l1 y r
          have b := m1 x q
          rw [lts_asymm a] at b
          cases b
    subst e
    rw [rising_ext l2 m2 fun z => ?_]
    have nl := List.nodup_cons.mp hl.nodup
    have nm := List.nodup_cons.mp hm.nodup
    constructor
    · intro hz
      rcases List.mem_cons.mp ((h z).mp (List.mem_cons_of_mem _ hz)) with q | q
      · rw [q] at hz; exact absurd hz nl.1
      · exact q
    · intro hz
      rcases List.mem_cons.mp ((h z).mpr (List.mem_cons_of_mem _ hz)) with q | q
      · rw [q] at hz; exact absurd hz nm.1
      · exact q
theorem Rising.filter {l : List Str} (h : Rising l) (p : Str → Bool) : Rising (l.filter p) := h.sublist List.filter_sublist
/-- a sorted arrangement of unlike texts, all of them in a rising list -/
theorem sorted_is {ys xs : List Str} (p : ys.Perm xs) (s : sortedS ys = true) (nd : xs.Nodup) : Rising ys ∧ ∀ z, z ∈ ys ↔ z ∈ xs := ⟨rising_of_S s (p.nodup_iff.mpr nd), fun z => p.mem_iff⟩
theorem sorted_of_rising {ys xs : List Str} (p : ys.Perm xs) (s : sortedS ys = true) (r : Rising xs) : ys = xs := rising_ext (rising_of_S s (p.nodup_iff.mpr r.nodup)) r fun z => p.mem_iff
/-! ## How many rising lots there are -/
def subs {α : Type} : List α → List (List α)
  | [] => [[]]
  | a :: l => subs l ++ (subs l).map (a :: ·)
theorem subs_len {α : Type} : ∀ l : List α, (subs l).length = 2 ^ l.length
  | [] => rfl
  | a :: l => by rw [subs, List.length_append, List.length_map, subs_len l, List.length_cons, Nat.pow_succ]; omega
theorem mem_subs {α : Type} : ∀ {l m : List α}, m.Sublist l → m ∈ subs l
  | [], m, h => by rw [List.eq_nil_of_sublist_nil h]; simp [subs]
  | a :: l, m, h => by
    rw [subs, List.mem_append]
    cases h with
    | cons _ h => exact .inl (mem_subs h)
    | cons_cons _ h => exact .inr (List.mem_map.mpr ⟨_, mem_subs h, rfl⟩)
theorem rising_sub {l m : List Str} (hl : Rising l) (hm : Rising m) (h : ∀ x, x ∈ m → x ∈ l) : m.Sublist l := by
  have e : m = l.filter fun x => decide (x ∈ m) := rising_ext hm (hl.filter _) fun x => by
    rw [List.mem_filter, decide_eq_true_iff]
    exact ⟨fun q => ⟨h x q, q⟩, fun q => q.2⟩
  rw [e]
  exact List.filter_sublist
theorem lots_few {l : List Str} (hl : Rising l) {ks : List (List Str)} (nd : ks.Nodup) (h : ∀ m, m ∈ ks → Rising m ∧ ∀ x, x ∈ m → x ∈ l) : ks.length ≤ 2 ^ l.length := by
  rw [← subs_len l]
  exact BfM.nodup_len nd fun m hm => mem_subs (rising_sub hl (h m hm).1 (h m hm).2)
end Bf
set_option Elab.async false
set_option linter.all false
set_option maxRecDepth 100000
set_option maxHeartbeats 0
namespace Bf
open PySem PySem.Spec PyProof.Rows L2
/-! ### the text by places (printed by gen_head.py) -/
def top (i : Nat) : Stmt := PySem.Challenge.pw_bothfree_k90_whole_webs_parted.main.body.getD i (.Pass ⟨0, 0, 0, 0⟩)
abbrev s_is_integer : Stmt := top 13
abbrev s_is_name : Stmt := top 14
abbrev s_first_wrong : Stmt := top 15
abbrev s_need_lot : Stmt := top 16
abbrev s_is_lot : Stmt := top 17
abbrev s_less : Stmt := top 18
abbrev s_with_thing : Stmt := top 19
abbrev s_Family_init : Stmt := inClass (top 21) 0
abbrev s_Family_rank_of : Stmt := inClass (top 21) 1
abbrev s_Family_len : Stmt := inClass (top 21) 3
abbrev s_Family_stuck : Stmt := inClass (top 21) 10
abbrev s_ring_within : Stmt := top 23
abbrev s_Parting_init : Stmt := inClass (top 26) 0
abbrev s_Parting_in_the_way : Stmt := inClass (top 26) 1
abbrev s_Parting_shift : Stmt := inClass (top 26) 2
abbrev s_Parting_place : Stmt := inClass (top 26) 3
abbrev s_Parting_told : Stmt := inClass (top 26) 4
abbrev s_all_placed : Stmt := top 27
abbrev s_most_placed : Stmt := top 28
abbrev s_copies : Stmt := top 29
abbrev s_need_lots : Stmt := top 30
abbrev s_covered : Stmt := top 31
abbrev s_packed : Stmt := top 32
abbrev s_is_list_of_lists : Stmt := top 33
abbrev s_lot_fault : Stmt := top 34
abbrev s_times_in : Stmt := top 35
abbrev s_missing : Stmt := top 36
abbrev s_fewest : Stmt := top 37
abbrev s_most : Stmt := top 38
abbrev s_common_divisor : Stmt := top 39
abbrev s_lowest : Stmt := top 40
abbrev s_thickness : Stmt := top 41
abbrev s_strength : Stmt := top 42
abbrev s_is_fraction_form : Stmt := top 43
abbrev s_thickness_fault : Stmt := top 44
abbrev s_strength_fault : Stmt := top 45
abbrev s_need_places : Stmt := top 48
abbrev s_is_pair : Stmt := top 49
abbrev s_Web_init : Stmt := inClass (top 50) 0
abbrev s_Web_marks : Stmt := inClass (top 50) 5
abbrev s_Web_count_free : Stmt := inClass (top 50) 6
abbrev s_ties_family : Stmt := top 51
abbrev s_pieces : Stmt := top 52
abbrev s_L_source : Stmt := top 54
abbrev s_L_draw : Stmt := top 55
abbrev s_L_pick : Stmt := top 56
abbrev s_L_names : Stmt := top 57
abbrev s_L_lots : Stmt := top 58
abbrev s_L_web_drawn : Stmt := top 59
abbrev s_L_all_lots : Stmt := top 60
abbrev s_L_partings : Stmt := top 61
abbrev s_L_thick : Stmt := top 62
abbrev s_L_between : Stmt := top 63
abbrev s_L_strong : Stmt := top 64
abbrev s_L_within : Stmt := top 65
abbrev s_L_same : Stmt := top 66
abbrev s_L_web_right : Stmt := top 67
abbrev s_L_right : Stmt := top 68
abbrev s_law : Stmt := top 69
/-! ### the defs as data, the facts (printed by gen_head.py) -/
def d_is_integer : He.DefD := ⟨("is_integer", none), "is_integer", "is_integer", defArgs s_is_integer, defBody s_is_integer, defScope s_is_integer, [], []⟩
def d_is_name : He.DefD := ⟨("is_name", none), "is_name", "is_name", defArgs s_is_name, defBody s_is_name, defScope s_is_name, [], []⟩
def d_first_wrong : He.DefD := ⟨("first_wrong", none), "first_wrong", "first_wrong", defArgs s_first_wrong, defBody s_first_wrong, defScope s_first_wrong, [], []⟩
def d_need_lot : He.DefD := ⟨("need_lot", none), "need_lot", "need_lot", defArgs s_need_lot, defBody s_need_lot, defScope s_need_lot, [], []⟩
def d_is_lot : He.DefD := ⟨("is_lot", none), "is_lot", "is_lot", defArgs s_is_lot, defBody s_is_lot, defScope s_is_lot, [], []⟩
def d_less : He.DefD := ⟨("less", none), "less", "less", defArgs s_less, defBody s_less, defScope s_less, [], []⟩
def d_with_thing : He.DefD := ⟨("with_thing", none), "with_thing", "with_thing", defArgs s_with_thing, defBody s_with_thing, defScope s_with_thing, [], []⟩
def d_Family_init : He.DefD := ⟨("Family", some "__init__"), "__init__", "Family.__init__", defArgs s_Family_init, defBody s_Family_init, defScope s_Family_init, [], []⟩
def d_Family_rank_of : He.DefD := ⟨("Family", some "rank_of"), "rank_of", "Family.rank_of", defArgs s_Family_rank_of, defBody s_Family_rank_of, defScope s_Family_rank_of, [], []⟩
def d_Family_len : He.DefD := ⟨("Family", some "__len__"), "__len__", "Family.__len__", defArgs s_Family_len, defBody s_Family_len, defScope s_Family_len, [], []⟩
def d_Family_stuck : He.DefD := ⟨("Family", some "stuck"), "stuck", "Family.stuck", defArgs s_Family_stuck, defBody s_Family_stuck, defScope s_Family_stuck, [], []⟩
def d_ring_within : He.DefD := ⟨("ring_within", none), "ring_within", "ring_within", defArgs s_ring_within, defBody s_ring_within, defScope s_ring_within, [], []⟩
def d_Parting_init : He.DefD := ⟨("Parting", some "__init__"), "__init__", "Parting.__init__", defArgs s_Parting_init, defBody s_Parting_init, defScope s_Parting_init, [], []⟩
def d_Parting_in_the_way : He.DefD := ⟨("Parting", some "in_the_way"), "in_the_way", "Parting.in_the_way", defArgs s_Parting_in_the_way, defBody s_Parting_in_the_way, defScope s_Parting_in_the_way, [], []⟩
def d_Parting_shift : He.DefD := ⟨("Parting", some "shift"), "shift", "Parting.shift", defArgs s_Parting_shift, defBody s_Parting_shift, defScope s_Parting_shift, [], []⟩
def d_Parting_place : He.DefD := ⟨("Parting", some "place"), "place", "Parting.place", defArgs s_Parting_place, defBody s_Parting_place, defScope s_Parting_place, [], []⟩
def d_Parting_told : He.DefD := ⟨("Parting", some "told"), "told", "Parting.told", defArgs s_Parting_told, defBody s_Parting_told, defScope s_Parting_told, [], []⟩
def d_all_placed : He.DefD := ⟨("all_placed", none), "all_placed", "all_placed", defArgs s_all_placed, defBody s_all_placed, defScope s_all_placed, [], []⟩
def d_most_placed : He.DefD := ⟨("most_placed", none), "most_placed", "most_placed", defArgs s_most_placed, defBody s_most_placed, defScope s_most_placed, [], []⟩
def d_copies : He.DefD := ⟨("copies", none), "copies", "copies", defArgs s_copies, defBody s_copies, defScope s_copies, [], []⟩
def d_need_lots : He.DefD := ⟨("need_lots", none), "need_lots", "need_lots", defArgs s_need_lots, defBody s_need_lots, defScope s_need_lots, [], []⟩
def d_covered : He.DefD := ⟨("covered", none), "covered", "covered", defArgs s_covered, defBody s_covered, defScope s_covered, [], []⟩
def d_packed : He.DefD := ⟨("packed", none), "packed", "packed", defArgs s_packed, defBody s_packed, defScope s_packed, [], []⟩
def d_is_list_of_lists : He.DefD := ⟨("is_list_of_lists", none), "is_list_of_lists", "is_list_of_lists", defArgs s_is_list_of_lists, defBody s_is_list_of_lists, defScope s_is_list_of_lists, [], []⟩
def d_lot_fault : He.DefD := ⟨("lot_fault", none), "lot_fault", "lot_fault", defArgs s_lot_fault, defBody s_lot_fault, defScope s_lot_fault, [], []⟩
def d_times_in : He.DefD := ⟨("times_in", none), "times_in", "times_in", defArgs s_times_in, defBody s_times_in, defScope s_times_in, [], []⟩
def d_missing : He.DefD := ⟨("missing", none), "missing", "missing", defArgs s_missing, defBody s_missing, defScope s_missing, [], []⟩
def d_fewest : He.DefD := ⟨("fewest", none), "fewest", "fewest", defArgs s_fewest, defBody s_fewest, defScope s_fewest, [], []⟩
def d_most : He.DefD := ⟨("most", none), "most", "most", defArgs s_most, defBody s_most, defScope s_most, [], []⟩
def d_common_divisor : He.DefD := ⟨("common_divisor", none), "common_divisor", "common_divisor", defArgs s_common_divisor, defBody s_common_divisor, defScope s_common_divisor, [], []⟩
def d_lowest : He.DefD := ⟨("lowest", none), "lowest", "lowest", defArgs s_lowest, defBody s_lowest, defScope s_lowest, [], []⟩
def d_thickness : He.DefD := ⟨("thickness", none), "thickness", "thickness", defArgs s_thickness, defBody s_thickness, defScope s_thickness, [], []⟩
def d_strength : He.DefD := ⟨("strength", none), "strength", "strength", defArgs s_strength, defBody s_strength, defScope s_strength, [], []⟩
def d_is_fraction_form : He.DefD := ⟨("is_fraction_form", none), "is_fraction_form", "is_fraction_form", defArgs s_is_fraction_form, defBody s_is_fraction_form, defScope s_is_fraction_form, [], []⟩
def d_thickness_fault : He.DefD := ⟨("thickness_fault", none), "thickness_fault", "thickness_fault", defArgs s_thickness_fault, defBody s_thickness_fault, defScope s_thickness_fault, [], []⟩
def d_strength_fault : He.DefD := ⟨("strength_fault", none), "strength_fault", "strength_fault", defArgs s_strength_fault, defBody s_strength_fault, defScope s_strength_fault, [], []⟩
def d_need_places : He.DefD := ⟨("need_places", none), "need_places", "need_places", defArgs s_need_places, defBody s_need_places, defScope s_need_places, [], []⟩
def d_is_pair : He.DefD := ⟨("is_pair", none), "is_pair", "is_pair", defArgs s_is_pair, defBody s_is_pair, defScope s_is_pair, [], []⟩
def d_Web_init : He.DefD := ⟨("Web", some "__init__"), "__init__", "Web.__init__", defArgs s_Web_init, defBody s_Web_init, defScope s_Web_init, [], []⟩
def d_Web_marks : He.DefD := ⟨("Web", some "marks"), "marks", "Web.marks", defArgs s_Web_marks, defBody s_Web_marks, defScope s_Web_marks, [], []⟩
def d_Web_count_free : He.DefD := ⟨("Web", some "count_free"), "count_free", "Web.count_free", defArgs s_Web_count_free, defBody s_Web_count_free, defScope s_Web_count_free, [], []⟩
def d_ties_family : He.DefD := ⟨("ties_family", none), "ties_family", "ties_family", defArgs s_ties_family, defBody s_ties_family, defScope s_ties_family, [], []⟩
def d_pieces : He.DefD := ⟨("pieces", none), "pieces", "pieces", defArgs s_pieces, defBody s_pieces, defScope s_pieces, [], []⟩
def d_L_source : He.DefD := ⟨("_law_source", none), "_law_source", "_law_source", defArgs s_L_source, defBody s_L_source, defScope s_L_source, [], []⟩
def d_L_draw : He.DefD := ⟨("_law_draw", none), "_law_draw", "_law_draw", defArgs s_L_draw, defBody s_L_draw, defScope s_L_draw, [], []⟩
def d_L_pick : He.DefD := ⟨("_law_pick", none), "_law_pick", "_law_pick", defArgs s_L_pick, defBody s_L_pick, defScope s_L_pick, [], []⟩
def d_L_names : He.DefD := ⟨("_law_names", none), "_law_names", "_law_names", defArgs s_L_names, defBody s_L_names, defScope s_L_names, [], []⟩
def d_L_lots : He.DefD := ⟨("_law_lots", none), "_law_lots", "_law_lots", defArgs s_L_lots, defBody s_L_lots, defScope s_L_lots, [], []⟩
def d_L_web_drawn : He.DefD := ⟨("_law_web_drawn", none), "_law_web_drawn", "_law_web_drawn", defArgs s_L_web_drawn, defBody s_L_web_drawn, defScope s_L_web_drawn, [], []⟩
def d_L_all_lots : He.DefD := ⟨("_law_all_lots", none), "_law_all_lots", "_law_all_lots", defArgs s_L_all_lots, defBody s_L_all_lots, defScope s_L_all_lots, [], []⟩
def d_L_partings : He.DefD := ⟨("_law_partings", none), "_law_partings", "_law_partings", defArgs s_L_partings, defBody s_L_partings, defScope s_L_partings, [], []⟩
def d_L_thick : He.DefD := ⟨("_law_thick", none), "_law_thick", "_law_thick", defArgs s_L_thick, defBody s_L_thick, defScope s_L_thick, [], []⟩
def d_L_between : He.DefD := ⟨("_law_between", none), "_law_between", "_law_between", defArgs s_L_between, defBody s_L_between, defScope s_L_between, [], []⟩
def d_L_strong : He.DefD := ⟨("_law_strong", none), "_law_strong", "_law_strong", defArgs s_L_strong, defBody s_L_strong, defScope s_L_strong, [], []⟩
def d_L_within : He.DefD := ⟨("_law_within", none), "_law_within", "_law_within", defArgs s_L_within, defBody s_L_within, defScope s_L_within, [], []⟩
def d_L_same : He.DefD := ⟨("_law_same", none), "_law_same", "_law_same", defArgs s_L_same, defBody s_L_same, defScope s_L_same, [], []⟩
def d_L_web_right : He.DefD := ⟨("_law_web_right", none), "_law_web_right", "_law_web_right", defArgs s_L_web_right, defBody s_L_web_right, defScope s_L_web_right, [], []⟩
def d_L_right : He.DefD := ⟨("_law_right", none), "_law_right", "_law_right", defArgs s_L_right, defBody s_L_right, defScope s_L_right, [], []⟩
def d_law : He.DefD := ⟨("law", none), "law", "law", defArgs s_law, defBody s_law, defScope s_law, [], []⟩
def fnl : List He.DefD := [d_is_integer, d_is_name, d_first_wrong, d_need_lot, d_is_lot, d_less, d_with_thing, d_Family_init, d_Family_rank_of, d_Family_len, d_Family_stuck, d_ring_within, d_Parting_init, d_Parting_in_the_way, d_Parting_shift, d_Parting_place, d_Parting_told, d_all_placed, d_most_placed, d_copies, d_need_lots, d_covered, d_packed, d_is_list_of_lists, d_lot_fault, d_times_in, d_missing, d_fewest, d_most, d_common_divisor, d_lowest, d_thickness, d_strength, d_is_fraction_form, d_thickness_fault, d_strength_fault, d_need_places, d_is_pair, d_Web_init, d_Web_marks, d_Web_count_free, d_ties_family, d_pieces, d_L_source, d_L_draw, d_L_pick, d_L_names, d_L_lots, d_L_web_drawn, d_L_all_lots, d_L_partings, d_L_thick, d_L_between, d_L_strong, d_L_within, d_L_same, d_L_web_right, d_L_right, d_law]
def fal : List He.Fa := [.glo "is_integer", .glo "is_name", .glo "first_wrong", .glo "need_lot", .glo "is_lot", .glo "less", .glo "with_thing", .glo "ring_within", .glo "all_placed", .glo "most_placed", .glo "copies", .glo "need_lots", .glo "covered", .glo "packed", .glo "is_list_of_lists", .glo "lot_fault", .glo "times_in", .glo "missing", .glo "fewest", .glo "most", .glo "common_divisor", .glo "lowest", .glo "thickness", .glo "strength", .glo "is_fraction_form", .glo "thickness_fault", .glo "strength_fault", .glo "need_places", .glo "is_pair", .glo "ties_family", .glo "pieces", .glo "_law_source", .glo "_law_draw", .glo "_law_pick", .glo "_law_names", .glo "_law_lots", .glo "_law_web_drawn", .glo "_law_all_lots", .glo "_law_partings", .glo "_law_thick", .glo "_law_between", .glo "_law_strong", .glo "_law_within", .glo "_law_same", .glo "_law_web_right", .glo "_law_right", .glo "law", .glo "Family", .cls "Family", .mkr "Family", .noat "Family" "names", .noat "Family" "source", .noat "Family" "counted", .meth "Family" "rank_of", .meth "Family" "__len__", .meth "Family" "stuck", .glo "Parting", .cls "Parting", .mkr "Parting", .noat "Parting" "families", .noat "Parting" "lots", .meth "Parting" "in_the_way", .meth "Parting" "shift", .meth "Parting" "place", .meth "Parting" "told", .glo "Web", .cls "Web", .mkr "Web", .noat "Web" "known", .noat "Web" "ending", .meth "Web" "marks", .meth "Web" "count_free", .int "MOST_LETTERS" 8, .int "MOST_THINGS" 24, .int "MOST_LOTS" 24, .int "MOST_PLACES" 16, .str "LETTERS" "abcdefghijklmnopqrstuvwxyz", .free "isinstance", .free "len", .free "all", .free "any", .free "tuple", .free "sorted", .free "enumerate", .free "range", .free "list", .free "dict", .free "min", .free "max", .free "int", .free "str", .free "bool"]
/-- what the top has written, by names (printed by gen_head.py) -/
structure Txt (K : PySem.W.Frag) (mg : Str → Option Value) : Prop where
  g_is_integer : mg "is_integer" = some (.ref (He.ga K "is_integer"))
  g_is_name : mg "is_name" = some (.ref (He.ga K "is_name"))
  g_first_wrong : mg "first_wrong" = some (.ref (He.ga K "first_wrong"))
  g_need_lot : mg "need_lot" = some (.ref (He.ga K "need_lot"))
  g_is_lot : mg "is_lot" = some (.ref (He.ga K "is_lot"))
  g_less : mg "less" = some (.ref (He.ga K "less"))
  g_with_thing : mg "with_thing" = some (.ref (He.ga K "with_thing"))
  g_ring_within : mg "ring_within" = some (.ref (He.ga K "ring_within"))
  g_all_placed : mg "all_placed" = some (.ref (He.ga K "all_placed"))
  g_most_placed : mg "most_placed" = some (.ref (He.ga K "most_placed"))
  g_copies : mg "copies" = some (.ref (He.ga K "copies"))
  g_need_lots : mg "need_lots" = some (.ref (He.ga K "need_lots"))
  g_covered : mg "covered" = some (.ref (He.ga K "covered"))
  g_packed : mg "packed" = some (.ref (He.ga K "packed"))
  g_is_list_of_lists : mg "is_list_of_lists" = some (.ref (He.ga K "is_list_of_lists"))
  g_lot_fault : mg "lot_fault" = some (.ref (He.ga K "lot_fault"))
  g_times_in : mg "times_in" = some (.ref (He.ga K "times_in"))
  g_missing : mg "missing" = some (.ref (He.ga K "missing"))
  g_fewest : mg "fewest" = some (.ref (He.ga K "fewest"))
  g_most : mg "most" = some (.ref (He.ga K "most"))
  g_common_divisor : mg "common_divisor" = some (.ref (He.ga K "common_divisor"))
  g_lowest : mg "lowest" = some (.ref (He.ga K "lowest"))
  g_thickness : mg "thickness" = some (.ref (He.ga K "thickness"))
  g_strength : mg "strength" = some (.ref (He.ga K "strength"))
  g_is_fraction_form : mg "is_fraction_form" = some (.ref (He.ga K "is_fraction_form"))
  g_thickness_fault : mg "thickness_fault" = some (.ref (He.ga K "thickness_fault"))
  g_strength_fault : mg "strength_fault" = some (.ref (He.ga K "strength_fault"))
  g_need_places : mg "need_places" = some (.ref (He.ga K "need_places"))
  g_is_pair : mg "is_pair" = some (.ref (He.ga K "is_pair"))
  g_ties_family : mg "ties_family" = some (.ref (He.ga K "ties_family"))
  g_pieces : mg "pieces" = some (.ref (He.ga K "pieces"))
  g_L_source : mg "_law_source" = some (.ref (He.ga K "_law_source"))
  g_L_draw : mg "_law_draw" = some (.ref (He.ga K "_law_draw"))
  g_L_pick : mg "_law_pick" = some (.ref (He.ga K "_law_pick"))
  g_L_names : mg "_law_names" = some (.ref (He.ga K "_law_names"))
  g_L_lots : mg "_law_lots" = some (.ref (He.ga K "_law_lots"))
  g_L_web_drawn : mg "_law_web_drawn" = some (.ref (He.ga K "_law_web_drawn"))
  g_L_all_lots : mg "_law_all_lots" = some (.ref (He.ga K "_law_all_lots"))
  g_L_partings : mg "_law_partings" = some (.ref (He.ga K "_law_partings"))
  g_L_thick : mg "_law_thick" = some (.ref (He.ga K "_law_thick"))
  g_L_between : mg "_law_between" = some (.ref (He.ga K "_law_between"))
  g_L_strong : mg "_law_strong" = some (.ref (He.ga K "_law_strong"))
  g_L_within : mg "_law_within" = some (.ref (He.ga K "_law_within"))
  g_L_same : mg "_law_same" = some (.ref (He.ga K "_law_same"))
  g_L_web_right : mg "_law_web_right" = some (.ref (He.ga K "_law_web_right"))
  g_L_right : mg "_law_right" = some (.ref (He.ga K "_law_right"))
  g_law : mg "law" = some (.ref (He.ga K "law"))
  g_Family : mg "Family" = some (.ref (He.ga K "Family"))
  c_Family : Cls K (He.ga K "Family")
  mk_Family : Mk K (He.ga K "Family") (He.ma K (He.ga K "Family") "__init__")
  n_Family_names : NoAttr K (He.ga K "Family") "names"
  n_Family_source : NoAttr K (He.ga K "Family") "source"
  n_Family_counted : NoAttr K (He.ga K "Family") "counted"
  m_Family_rank_of : Meth K (He.ga K "Family") "rank_of" (He.ma K (He.ga K "Family") "rank_of")
  m_Family_len : Meth K (He.ga K "Family") "__len__" (He.ma K (He.ga K "Family") "__len__")
  m_Family_stuck : Meth K (He.ga K "Family") "stuck" (He.ma K (He.ga K "Family") "stuck")
  g_Parting : mg "Parting" = some (.ref (He.ga K "Parting"))
  c_Parting : Cls K (He.ga K "Parting")
  mk_Parting : Mk K (He.ga K "Parting") (He.ma K (He.ga K "Parting") "__init__")
  n_Parting_families : NoAttr K (He.ga K "Parting") "families"
  n_Parting_lots : NoAttr K (He.ga K "Parting") "lots"
  m_Parting_in_the_way : Meth K (He.ga K "Parting") "in_the_way" (He.ma K (He.ga K "Parting") "in_the_way")
  m_Parting_shift : Meth K (He.ga K "Parting") "shift" (He.ma K (He.ga K "Parting") "shift")
  m_Parting_place : Meth K (He.ga K "Parting") "place" (He.ma K (He.ga K "Parting") "place")
  m_Parting_told : Meth K (He.ga K "Parting") "told" (He.ma K (He.ga K "Parting") "told")
  g_Web : mg "Web" = some (.ref (He.ga K "Web"))
  c_Web : Cls K (He.ga K "Web")
  mk_Web : Mk K (He.ga K "Web") (He.ma K (He.ga K "Web") "__init__")
  n_Web_known : NoAttr K (He.ga K "Web") "known"
  n_Web_ending : NoAttr K (He.ga K "Web") "ending"
  m_Web_marks : Meth K (He.ga K "Web") "marks" (He.ma K (He.ga K "Web") "marks")
  m_Web_count_free : Meth K (He.ga K "Web") "count_free" (He.ma K (He.ga K "Web") "count_free")
  i_MOST_LETTERS : ∃ t, mg "MOST_LETTERS" = some (.int 8 t)
  i_MOST_THINGS : ∃ t, mg "MOST_THINGS" = some (.int 24 t)
  i_MOST_LOTS : ∃ t, mg "MOST_LOTS" = some (.int 24 t)
  i_MOST_PLACES : ∃ t, mg "MOST_PLACES" = some (.int 16 t)
  s_LETTERS : ∃ t, mg "LETTERS" = some (.str "abcdefghijklmnopqrstuvwxyz" t)
  f_isinstance : mg "isinstance" = none
  f_len : mg "len" = none
  f_all : mg "all" = none
  f_any : mg "any" = none
  f_tuple : mg "tuple" = none
  f_sorted : mg "sorted" = none
  f_enumerate : mg "enumerate" = none
  f_range : mg "range" = none
  f_list : mg "list" = none
  f_dict : mg "dict" = none
  f_min : mg "min" = none
  f_max : mg "max" = none
  f_int : mg "int" = none
  f_str : mg "str" = none
  f_bool : mg "bool" = none
theorem txt_of {h : Heap} {K : PySem.W.Frag} {mg : Str → Option Value} (X : K.In h) (G : h.Ns mainGlobals mg) (c : He.SaysD fal fnl K) : Txt K mg := by
  constructor
  · exact He.glo_ok X G (c.fact 0 rfl)
  · exact He.glo_ok X G (c.fact 1 rfl)
  · exact He.glo_ok X G (c.fact 2 rfl)
  · exact He.glo_ok X G (c.fact 3 rfl)
  · exact He.glo_ok X G (c.fact 4 rfl)
  · exact He.glo_ok X G (c.fact 5 rfl)
  · exact He.glo_ok X G (c.fact 6 rfl)
  · exact He.glo_ok X G (c.fact 7 rfl)
  · exact He.glo_ok X G (c.fact 8 rfl)
  · exact He.glo_ok X G (c.fact 9 rfl)
  · exact He.glo_ok X G (c.fact 10 rfl)
  · exact He.glo_ok X G (c.fact 11 rfl)
  · exact He.glo_ok X G (c.fact 12 rfl)
  · exact He.glo_ok X G (c.fact 13 rfl)
  · exact He.glo_ok X G (c.fact 14 rfl)
  · exact He.glo_ok X G (c.fact 15 rfl)
  · exact He.glo_ok X G (c.fact 16 rfl)
  · exact He.glo_ok X G (c.fact 17 rfl)
  · exact He.glo_ok X G (c.fact 18 rfl)
  · exact He.glo_ok X G (c.fact 19 rfl)
  · exact He.glo_ok X G (c.fact 20 rfl)
  · exact He.glo_ok X G (c.fact 21 rfl)
  · exact He.glo_ok X G (c.fact 22 rfl)
  · exact He.glo_ok X G (c.fact 23 rfl)
  · exact He.glo_ok X G (c.fact 24 rfl)
  · exact He.glo_ok X G (c.fact 25 rfl)
  · exact He.glo_ok X G (c.fact 26 rfl)
  · exact He.glo_ok X G (c.fact 27 rfl)
  · exact He.glo_ok X G (c.fact 28 rfl)
  · exact He.glo_ok X G (c.fact 29 rfl)
  · exact He.glo_ok X G (c.fact 30 rfl)
  · exact He.glo_ok X G (c.fact 31 rfl)
  · exact He.glo_ok X G (c.fact 32 rfl)
  · exact He.glo_ok X G (c.fact 33 rfl)
  · exact He.glo_ok X G (c.fact 34 rfl)
  · exact He.glo_ok X G (c.fact 35 rfl)
  · exact He.glo_ok X G (c.fact 36 rfl)
  · exact He.glo_ok X G (c.fact 37 rfl)
  · exact He.glo_ok X G (c.fact 38 rfl)
  · exact He.glo_ok X G (c.fact 39 rfl)
  · exact He.glo_ok X G (c.fact 40 rfl)
  · exact He.glo_ok X G (c.fact 41 rfl)
  · exact He.glo_ok X G (c.fact 42 rfl)
  · exact He.glo_ok X G (c.fact 43 rfl)
  · exact He.glo_ok X G (c.fact 44 rfl)
  · exact He.glo_ok X G (c.fact 45 rfl)
  · exact He.glo_ok X G (c.fact 46 rfl)
  · exact He.glo_ok X G (c.fact 47 rfl)
  · exact He.cls_ok (c.fact 48 rfl)
  · exact He.mkr_ok (c.fact 49 rfl)
  · exact He.noat_ok (c.fact 50 rfl)
  · exact He.noat_ok (c.fact 51 rfl)
  · exact He.noat_ok (c.fact 52 rfl)
  · exact He.meth_ok (c.fact 53 rfl)
  · exact He.meth_ok (c.fact 54 rfl)
  · exact He.meth_ok (c.fact 55 rfl)
  · exact He.glo_ok X G (c.fact 56 rfl)
  · exact He.cls_ok (c.fact 57 rfl)
  · exact He.mkr_ok (c.fact 58 rfl)
  · exact He.noat_ok (c.fact 59 rfl)
  · exact He.noat_ok (c.fact 60 rfl)
  · exact He.meth_ok (c.fact 61 rfl)
  · exact He.meth_ok (c.fact 62 rfl)
  · exact He.meth_ok (c.fact 63 rfl)
  · exact He.meth_ok (c.fact 64 rfl)
  · exact He.glo_ok X G (c.fact 65 rfl)
  · exact He.cls_ok (c.fact 66 rfl)
  · exact He.mkr_ok (c.fact 67 rfl)
  · exact He.noat_ok (c.fact 68 rfl)
  · exact He.noat_ok (c.fact 69 rfl)
  · exact He.meth_ok (c.fact 70 rfl)
  · exact He.meth_ok (c.fact 71 rfl)
  · exact He.int_ok X G (c.fact 72 rfl)
  · exact He.int_ok X G (c.fact 73 rfl)
  · exact He.int_ok X G (c.fact 74 rfl)
  · exact He.int_ok X G (c.fact 75 rfl)
  · exact He.str_ok X G (c.fact 76 rfl)
  · exact He.free_ok X G (c.fact 77 rfl)
  · exact He.free_ok X G (c.fact 78 rfl)
  · exact He.free_ok X G (c.fact 79 rfl)
  · exact He.free_ok X G (c.fact 80 rfl)
  · exact He.free_ok X G (c.fact 81 rfl)
  · exact He.free_ok X G (c.fact 82 rfl)
  · exact He.free_ok X G (c.fact 83 rfl)
  · exact He.free_ok X G (c.fact 84 rfl)
  · exact He.free_ok X G (c.fact 85 rfl)
  · exact He.free_ok X G (c.fact 86 rfl)
  · exact He.free_ok X G (c.fact 87 rfl)
  · exact He.free_ok X G (c.fact 88 rfl)
  · exact He.free_ok X G (c.fact 89 rfl)
  · exact He.free_ok X G (c.fact 90 rfl)
  · exact He.free_ok X G (c.fact 91 rfl)
/-- the defs as they stand behind the top, by names (printed by gen_head.py) -/
structure Fns (K : PySem.W.Frag) : Prop where
  f_is_integer : ∃ fd, FunD K "is_integer" "is_integer" (defArgs s_is_integer) (defBody s_is_integer) (defScope s_is_integer) [] [] (He.ga K "is_integer") fd
  f_is_name : ∃ fd, FunD K "is_name" "is_name" (defArgs s_is_name) (defBody s_is_name) (defScope s_is_name) [] [] (He.ga K "is_name") fd
  f_first_wrong : ∃ fd, FunD K "first_wrong" "first_wrong" (defArgs s_first_wrong) (defBody s_first_wrong) (defScope s_first_wrong) [] [] (He.ga K "first_wrong") fd
  f_need_lot : ∃ fd, FunD K "need_lot" "need_lot" (defArgs s_need_lot) (defBody s_need_lot) (defScope s_need_lot) [] [] (He.ga K "need_lot") fd
  f_is_lot : ∃ fd, FunD K "is_lot" "is_lot" (defArgs s_is_lot) (defBody s_is_lot) (defScope s_is_lot) [] [] (He.ga K "is_lot") fd
  f_less : ∃ fd, FunD K "less" "less" (defArgs s_less) (defBody s_less) (defScope s_less) [] [] (He.ga K "less") fd
  f_with_thing : ∃ fd, FunD K "with_thing" "with_thing" (defArgs s_with_thing) (defBody s_with_thing) (defScope s_with_thing) [] [] (He.ga K "with_thing") fd
  f_Family_init : ∃ fd, FunD K "__init__" "Family.__init__" (defArgs s_Family_init) (defBody s_Family_init) (defScope s_Family_init) [] [] (He.ma K (He.ga K "Family") "__init__") fd
  f_Family_rank_of : ∃ fd, FunD K "rank_of" "Family.rank_of" (defArgs s_Family_rank_of) (defBody s_Family_rank_of) (defScope s_Family_rank_of) [] [] (He.ma K (He.ga K "Family") "rank_of") fd
  f_Family_len : ∃ fd, FunD K "__len__" "Family.__len__" (defArgs s_Family_len) (defBody s_Family_len) (defScope s_Family_len) [] [] (He.ma K (He.ga K "Family") "__len__") fd
  f_Family_stuck : ∃ fd, FunD K "stuck" "Family.stuck" (defArgs s_Family_stuck) (defBody s_Family_stuck) (defScope s_Family_stuck) [] [] (He.ma K (He.ga K "Family") "stuck") fd
  f_ring_within : ∃ fd, FunD K "ring_within" "ring_within" (defArgs s_ring_within) (defBody s_ring_within) (defScope s_ring_within) [] [] (He.ga K "ring_within") fd
  f_Parting_init : ∃ fd, FunD K "__init__" "Parting.__init__" (defArgs s_Parting_init) (defBody s_Parting_init) (defScope s_Parting_init) [] [] (He.ma K (He.ga K "Parting") "__init__") fd
  f_Parting_in_the_way : ∃ fd, FunD K "in_the_way" "Parting.in_the_way" (defArgs s_Parting_in_the_way) (defBody s_Parting_in_the_way) (defScope s_Parting_in_the_way) [] [] (He.ma K (He.ga K "Parting") "in_the_way") fd
  f_Parting_shift : ∃ fd, FunD K "shift" "Parting.shift" (defArgs s_Parting_shift) (defBody s_Parting_shift) (defScope s_Parting_shift) [] [] (He.ma K (He.ga K "Parting") "shift") fd
  f_Parting_place : ∃ fd, FunD K "place" "Parting.place" (defArgs s_Parting_place) (defBody s_Parting_place) (defScope s_Parting_place) [] [] (He.ma K (He.ga K "Parting") "place") fd
  f_Parting_told : ∃ fd, FunD K "told" "Parting.told" (defArgs s_Parting_told) (defBody s_Parting_told) (defScope s_Parting_told) [] [] (He.ma K (He.ga K "Parting") "told") fd
  f_all_placed : ∃ fd, FunD K "all_placed" "all_placed" (defArgs s_all_placed) (defBody s_all_placed) (defScope s_all_placed) [] [] (He.ga K "all_placed") fd
  f_most_placed : ∃ fd, FunD K "most_placed" "most_placed" (defArgs s_most_placed) (defBody s_most_placed) (defScope s_most_placed) [] [] (He.ga K "most_placed") fd
  f_copies : ∃ fd, FunD K "copies" "copies" (defArgs s_copies) (defBody s_copies) (defScope s_copies) [] [] (He.ga K "copies") fd
  f_need_lots : ∃ fd, FunD K "need_lots" "need_lots" (defArgs s_need_lots) (defBody s_need_lots) (defScope s_need_lots) [] [] (He.ga K "need_lots") fd
  f_covered : ∃ fd, FunD K "covered" "covered" (defArgs s_covered) (defBody s_covered) (defScope s_covered) [] [] (He.ga K "covered") fd
  f_packed : ∃ fd, FunD K "packed" "packed" (defArgs s_packed) (defBody s_packed) (defScope s_packed) [] [] (He.ga K "packed") fd
  f_is_list_of_lists : ∃ fd, FunD K "is_list_of_lists" "is_list_of_lists" (defArgs s_is_list_of_lists) (defBody s_is_list_of_lists) (defScope s_is_list_of_lists) [] [] (He.ga K "is_list_of_lists") fd
  f_lot_fault : ∃ fd, FunD K "lot_fault" "lot_fault" (defArgs s_lot_fault) (defBody s_lot_fault) (defScope s_lot_fault) [] [] (He.ga K "lot_fault") fd
  f_times_in : ∃ fd, FunD K "times_in" "times_in" (defArgs s_times_in) (defBody s_times_in) (defScope s_times_in) [] [] (He.ga K "times_in") fd
  f_missing : ∃ fd, FunD K "missing" "missing" (defArgs s_missing) (defBody s_missing) (defScope s_missing) [] [] (He.ga K "missing") fd
  f_fewest : ∃ fd, FunD K "fewest" "fewest" (defArgs s_fewest) (defBody s_fewest) (defScope s_fewest) [] [] (He.ga K "fewest") fd
  f_most : ∃ fd, FunD K "most" "most" (defArgs s_most) (defBody s_most) (defScope s_most) [] [] (He.ga K "most") fd
  f_common_divisor : ∃ fd, FunD K "common_divisor" "common_divisor" (defArgs s_common_divisor) (defBody s_common_divisor) (defScope s_common_divisor) [] [] (He.ga K "common_divisor") fd
  f_lowest : ∃ fd, FunD K "lowest" "lowest" (defArgs s_lowest) (defBody s_lowest) (defScope s_lowest) [] [] (He.ga K "lowest") fd
  f_thickness : ∃ fd, FunD K "thickness" "thickness" (defArgs s_thickness) (defBody s_thickness) (defScope s_thickness) [] [] (He.ga K "thickness") fd
  f_strength : ∃ fd, FunD K "strength" "strength" (defArgs s_strength) (defBody s_strength) (defScope s_strength) [] [] (He.ga K "strength") fd
  f_is_fraction_form : ∃ fd, FunD K "is_fraction_form" "is_fraction_form" (defArgs s_is_fraction_form) (defBody s_is_fraction_form) (defScope s_is_fraction_form) [] [] (He.ga K "is_fraction_form") fd
  f_thickness_fault : ∃ fd, FunD K "thickness_fault" "thickness_fault" (defArgs s_thickness_fault) (defBody s_thickness_fault) (defScope s_thickness_fault) [] [] (He.ga K "thickness_fault") fd
  f_strength_fault : ∃ fd, FunD K "strength_fault" "strength_fault" (defArgs s_strength_fault) (defBody s_strength_fault) (defScope s_strength_fault) [] [] (He.ga K "strength_fault") fd
  f_need_places : ∃ fd, FunD K "need_places" "need_places" (defArgs s_need_places) (defBody s_need_places) (defScope s_need_places) [] [] (He.ga K "need_places") fd
  f_is_pair : ∃ fd, FunD K "is_pair" "is_pair" (defArgs s_is_pair) (defBody s_is_pair) (defScope s_is_pair) [] [] (He.ga K "is_pair") fd
  f_Web_init : ∃ fd, FunD K "__init__" "Web.__init__" (defArgs s_Web_init) (defBody s_Web_init) (defScope s_Web_init) [] [] (He.ma K (He.ga K "Web") "__init__") fd
  f_Web_marks : ∃ fd, FunD K "marks" "Web.marks" (defArgs s_Web_marks) (defBody s_Web_marks) (defScope s_Web_marks) [] [] (He.ma K (He.ga K "Web") "marks") fd
  f_Web_count_free : ∃ fd, FunD K "count_free" "Web.count_free" (defArgs s_Web_count_free) (defBody s_Web_count_free) (defScope s_Web_count_free) [] [] (He.ma K (He.ga K "Web") "count_free") fd
  f_ties_family : ∃ fd, FunD K "ties_family" "ties_family" (defArgs s_ties_family) (defBody s_ties_family) (defScope s_ties_family) [] [] (He.ga K "ties_family") fd
  f_pieces : ∃ fd, FunD K "pieces" "pieces" (defArgs s_pieces) (defBody s_pieces) (defScope s_pieces) [] [] (He.ga K "pieces") fd
  f_L_source : ∃ fd, FunD K "_law_source" "_law_source" (defArgs s_L_source) (defBody s_L_source) (defScope s_L_source) [] [] (He.ga K "_law_source") fd
  f_L_draw : ∃ fd, FunD K "_law_draw" "_law_draw" (defArgs s_L_draw) (defBody s_L_draw) (defScope s_L_draw) [] [] (He.ga K "_law_draw") fd
  f_L_pick : ∃ fd, FunD K "_law_pick" "_law_pick" (defArgs s_L_pick) (defBody s_L_pick) (defScope s_L_pick) [] [] (He.ga K "_law_pick") fd
  f_L_names : ∃ fd, FunD K "_law_names" "_law_names" (defArgs s_L_names) (defBody s_L_names) (defScope s_L_names) [] [] (He.ga K "_law_names") fd
  f_L_lots : ∃ fd, FunD K "_law_lots" "_law_lots" (defArgs s_L_lots) (defBody s_L_lots) (defScope s_L_lots) [] [] (He.ga K "_law_lots") fd
  f_L_web_drawn : ∃ fd, FunD K "_law_web_drawn" "_law_web_drawn" (defArgs s_L_web_drawn) (defBody s_L_web_drawn) (defScope s_L_web_drawn) [] [] (He.ga K "_law_web_drawn") fd
  f_L_all_lots : ∃ fd, FunD K "_law_all_lots" "_law_all_lots" (defArgs s_L_all_lots) (defBody s_L_all_lots) (defScope s_L_all_lots) [] [] (He.ga K "_law_all_lots") fd
  f_L_partings : ∃ fd, FunD K "_law_partings" "_law_partings" (defArgs s_L_partings) (defBody s_L_partings) (defScope s_L_partings) [] [] (He.ga K "_law_partings") fd
  f_L_thick : ∃ fd, FunD K "_law_thick" "_law_thick" (defArgs s_L_thick) (defBody s_L_thick) (defScope s_L_thick) [] [] (He.ga K "_law_thick") fd
  f_L_between : ∃ fd, FunD K "_law_between" "_law_between" (defArgs s_L_between) (defBody s_L_between) (defScope s_L_between) [] [] (He.ga K "_law_between") fd
  f_L_strong : ∃ fd, FunD K "_law_strong" "_law_strong" (defArgs s_L_strong) (defBody s_L_strong) (defScope s_L_strong) [] [] (He.ga K "_law_strong") fd
  f_L_within : ∃ fd, FunD K "_law_within" "_law_within" (defArgs s_L_within) (defBody s_L_within) (defScope s_L_within) [] [] (He.ga K "_law_within") fd
  f_L_same : ∃ fd, FunD K "_law_same" "_law_same" (defArgs s_L_same) (defBody s_L_same) (defScope s_L_same) [] [] (He.ga K "_law_same") fd
  f_L_web_right : ∃ fd, FunD K "_law_web_right" "_law_web_right" (defArgs s_L_web_right) (defBody s_L_web_right) (defScope s_L_web_right) [] [] (He.ga K "_law_web_right") fd
  f_L_right : ∃ fd, FunD K "_law_right" "_law_right" (defArgs s_L_right) (defBody s_L_right) (defScope s_L_right) [] [] (He.ga K "_law_right") fd
  f_law : ∃ fd, FunD K "law" "law" (defArgs s_law) (defBody s_law) (defScope s_law) [] [] (He.ga K "law") fd
theorem fns_of {K : PySem.W.Frag} (c : He.SaysD fal fnl K) : Fns K := by
  constructor
  · exact c.def_ 0 (d := d_is_integer) rfl
  · exact c.def_ 1 (d := d_is_name) rfl
  · exact c.def_ 2 (d := d_first_wrong) rfl
  · exact c.def_ 3 (d := d_need_lot) rfl
  · exact c.def_ 4 (d := d_is_lot) rfl
  · exact c.def_ 5 (d := d_less) rfl
  · exact c.def_ 6 (d := d_with_thing) rfl
  · exact c.def_ 7 (d := d_Family_init) rfl
  · exact c.def_ 8 (d := d_Family_rank_of) rfl
  · exact c.def_ 9 (d := d_Family_len) rfl
  · exact c.def_ 10 (d := d_Family_stuck) rfl
  · exact c.def_ 11 (d := d_ring_within) rfl
  · exact c.def_ 12 (d := d_Parting_init) rfl
  · exact c.def_ 13 (d := d_Parting_in_the_way) rfl
  · exact c.def_ 14 (d := d_Parting_shift) rfl
  · exact c.def_ 15 (d := d_Parting_place) rfl
  · exact c.def_ 16 (d := d_Parting_told) rfl
  · exact c.def_ 17 (d := d_all_placed) rfl
  · exact c.def_ 18 (d := d_most_placed) rfl
  · exact c.def_ 19 (d := d_copies) rfl
  · exact c.def_ 20 (d := d_need_lots) rfl
  · exact c.def_ 21 (d := d_covered) rfl
  · exact c.def_ 22 (d := d_packed) rfl
  · exact c.def_ 23 (d := d_is_list_of_lists) rfl
  · exact c.def_ 24 (d := d_lot_fault) rfl
  · exact c.def_ 25 (d := d_times_in) rfl
  · exact c.def_ 26 (d := d_missing) rfl
  · exact c.def_ 27 (d := d_fewest) rfl
  · exact c.def_ 28 (d := d_most) rfl
  · exact c.def_ 29 (d := d_common_divisor) rfl
  · exact c.def_ 30 (d := d_lowest) rfl
  · exact c.def_ 31 (d := d_thickness) rfl
  · exact c.def_ 32 (d := d_strength) rfl
  · exact c.def_ 33 (d := d_is_fraction_form) rfl
  · exact c.def_ 34 (d := d_thickness_fault) rfl
  · exact c.def_ 35 (d := d_strength_fault) rfl
  · exact c.def_ 36 (d := d_need_places) rfl
  · exact c.def_ 37 (d := d_is_pair) rfl
  · exact c.def_ 38 (d := d_Web_init) rfl
  · exact c.def_ 39 (d := d_Web_marks) rfl
  · exact c.def_ 40 (d := d_Web_count_free) rfl
  · exact c.def_ 41 (d := d_ties_family) rfl
  · exact c.def_ 42 (d := d_pieces) rfl
  · exact c.def_ 43 (d := d_L_source) rfl
  · exact c.def_ 44 (d := d_L_draw) rfl
  · exact c.def_ 45 (d := d_L_pick) rfl
  · exact c.def_ 46 (d := d_L_names) rfl
  · exact c.def_ 47 (d := d_L_lots) rfl
  · exact c.def_ 48 (d := d_L_web_drawn) rfl
  · exact c.def_ 49 (d := d_L_all_lots) rfl
  · exact c.def_ 50 (d := d_L_partings) rfl
  · exact c.def_ 51 (d := d_L_thick) rfl
  · exact c.def_ 52 (d := d_L_between) rfl
  · exact c.def_ 53 (d := d_L_strong) rfl
  · exact c.def_ 54 (d := d_L_within) rfl
  · exact c.def_ 55 (d := d_L_same) rfl
  · exact c.def_ 56 (d := d_L_web_right) rfl
  · exact c.def_ 57 (d := d_L_right) rfl
  · exact c.def_ 58 (d := d_law) rfl
end Bf
namespace Bf
open PySem PySem.Spec PyProof.Rows L2
def loose0 : List PySem.Str := ["_wall", "__name__", "LotError", "BadLot", "NoThing", "TooMany", "BadNumber", "BadPlaces", "BadTies", "LETTERS", "MOST_LETTERS", "MOST_THINGS", "is_integer", "is_name", "first_wrong", "need_lot", "is_lot", "less", "with_thing", "Family", "greedy", "ring_within", "MOST_LOTS", "Parting", "all_placed", "most_placed", "copies", "need_lots", "covered", "packed"]
def loose1 : List PySem.Str := ["is_list_of_lists", "lot_fault", "times_in", "missing", "fewest", "most", "common_divisor", "lowest", "thickness", "strength", "is_fraction_form", "thickness_fault", "strength_fault", "MOST_PLACES", "need_places", "is_pair", "Web", "ties_family", "pieces", "_law_source", "_law_draw", "_law_pick", "_law_names", "_law_lots", "_law_web_drawn", "_law_all_lots", "_law_partings", "_law_thick", "_law_between", "_law_strong"]
def loose2 : List PySem.Str := ["_law_within", "_law_same", "_law_web_right", "_law_right"]
def loose : List PySem.Str := loose0 ++ loose1 ++ loose2
abbrev R : PySem.W.OpenRow := PySem.W.OpenLaw.row PySem.Challenge.rw_bothfree_k90_whole_webs_parted
abbrev hk : PySem.W.Hook := He.hookD 4 fal fnl
def ob (s : PySem.W.SharedT) : He.AlD := He.obsDG 4 fal fnl (HandSHeadRun.getT s)
theorem ob_eq (s : PySem.W.SharedT) : ob s = hk.obs s.abs := He.obsDG_eq (HandSHeadRun.getT_eq s)
theorem run (w : World) : HandSHeadRun.RunEq R (PySem.W.view R.prog [69]) hk ob 5200 loose w := by
  intro os
  kernel_rfl
end Bf
set_option Elab.async false
set_option linter.all false
set_option maxRecDepth 100000
set_option maxHeartbeats 4000000
/-! ## Ground for the walks: promises at hand, what stays of a heap -/
namespace Bf
open PySem PySem.Spec PyProof.Rows L2
section
variable (P : Program) (w : World) (K : PySem.W.Frag) (mg : Str → Option Value) (base : Heap)
/-- the def at f keeps the promise sp by k levels of calls, its parameters bound by place -/
structure Has (f : Addr) (k : Nat) (ps : List Str) (sp : Sp) : Prop where
  ex : ∃ fd, FnOk P w K mg base CX0 k f fd ps sp ∧ Binds K fd ps []
  kp : PySem.W.keepIn K (.ref f) = true
end
section
variable {P : Program} {w : World} {K : PySem.W.Frag} {mg : Str → Option Value} {base : Heap}
theorem has_mk {x qual : Str} {st : Stmt} {f : Addr} {N ps : List Str} {k : Nat} {sp : Sp} (F : ∃ fd, FunD K x qual (defArgs st) (defBody st) (defScope st) [] [] f fd) (S : FnScope N ps (defScope st)) (len : ∀ vs H Q E, sp vs H Q E → vs.length = ps.length)
    (hb : ∀ (kV doc pm : Value) (an : Option Addr) (cdv ct : Value) (us : List Value), us.length = ps.length → bindArgs (PySem.W.fnOf x qual (defArgs st) (defBody st) (defScope st) .none kV doc pm an cdv ct) ⟨us, []⟩ = pure (ps.zip us))
    (body : ∀ (cdv : Value) (A : Around) (outer : List Env) (s : Shared) (H : Hp) (vs : List V) (Q : VK) (E : XK), Room k (A.deeper (envOfC qual (defScope st) s.heap.objs.size f cdv)) → sp vs H Q E →
      ∃ t, PSs (cxOf CX0 P w K mg base N qual (defScope st) f cdv A outer s H E).nox (defBody st) t ∧ t { nx := fun _ H' => Q .non H', rt := Q } (start N vs) H) : Has P w K mg base f (k + 1) ps sp := by
  obtain ⟨fd, F⟩ := F
  refine ⟨⟨fd, F.ok S len fun cdv A outer s H vs Q E hr hs => ?_, F.bindsN hb⟩, F.kp⟩
  obtain ⟨t, h, q⟩ := body cdv A outer s H vs Q E hr hs
  exact ⟨t, h.nox, q⟩
theorem Has.imp {f : Addr} {k : Nat} {ps : List Str} {sp sp' : Sp} (h : Has P w K mg base f k ps sp) (i : ∀ vs H Q E, sp' vs H Q E → sp vs H Q E) : Has P w K mg base f k ps sp' :=
  let ⟨fd, F, b⟩ := h.ex; ⟨⟨fd, F.imp i, b⟩, h.kp⟩
end
/-! ### calls -/
def tCa (sp : Sp) (t : TA) : TE := fun σ H Q => t σ H fun vs H1 => sp vs H1 Q E0
def tMe (C : Addr) (m : Str) (sp : Sp) (ta : TE) (t : TA) : TE := fun σ H Q => ta σ H fun x H1 => ∃ a dx fs, x = .ref a ∧ H1 a = some (.ins C dx fs) ∧ fs.lookup m = none ∧ t σ H1 fun vs H2 => sp (x :: vs) H2 Q E0
def tMa (C : Addr) (sp : Sp) (t : TA) : TE := fun σ H Q => t σ H fun vs H1 => ∀ x dx, H1 x = none → H1 dx = none → dx ≠ x → sp (.ref x :: vs) (upd (upd H1 dx (.own x)) x (.ins C dx [])) (fun v H2 => v = .non ∧ Q (.ref x) H2) E0
theorem tca_eq {sp : Sp} {t : TA} : tCall sp [] E0 t = tCa sp t := by
  funext σ H Q
  show t σ H (fun vs H1 => sp (vs ++ []) H1 Q E0) = t σ H (fun vs H1 => sp vs H1 Q E0)
  simp only [List.append_nil]
theorem tme_eq {C : Addr} {m : Str} {sp : Sp} {ta : TE} {t : TA} : tMeth C m sp [] E0 ta t = tMe C m sp ta t := by
  funext σ H Q
  unfold tMeth tMe
  simp only [List.append_nil]
theorem tma_eq {C : Addr} {sp : Sp} {t : TA} : tMake C sp [] E0 t = tMa C sp t := by
  funext σ H Q
  unfold tMake tMa
  simp only [List.append_nil]
section
variable {X : Cx} {k j : Nat} {f C : Addr} {ps : List Str} {sp : Sp} {x m : Str} {p pos apos : Pos} {e o : Expr} {es : List Expr} {ta : TE} {t : TA}
theorem pe_ca (h : Has X.prog X.w X.K X.mg X.base f j ps sp) (hm : X.mg x = some (.ref f)) (hr : Room k X.A) (ha : PA X (e :: es) t) (hj : j ≤ k := by decide) (hg : Gl X x := by rfl)
    (hdb : (x == ("__debug__" : Str)) = false := by decide) (he : starEach (e :: es) X.env = (false, eval e X.env) :: starEach es X.env := by rfl) (hpl : (backTo pos (starEach es X.env)).any (·.1) = false := by rfl) :
    PE X (.Call (.Name x p) (e :: es) [] pos) (tCa sp t) := by
  obtain ⟨fd, F, b⟩ := h.ex
  rw [← tca_eq]
  exact pe_call F (hr.mono hj) hg hm h.kp b .nil pass0 ha hdb he hpl
theorem pe_me {pl : Sem Bool} (ho : PE X o ta) (h : Has X.prog X.w X.K X.mg X.base f j ps sp) (c : Cls X.K C) (hm : Meth X.K C m f) (hr : Room k X.A) (ha : PA X (e :: es) t) (hj : j ≤ k := by decide)
    (hst : starEach (e :: es) X.env = (false, eval e X.env) :: starEach es X.env := by rfl) (hpl : (backTo pos (starEach es X.env)).any (·.1) = false := by rfl)
    (ht : eval (.Call (.Attribute o m apos) (e :: es) [] pos) X.env = (do
      let ov ← eval o X.env
      standAt apos.atName
      let (f, first) ← holding [ov] (getMethod ov m pl)
      callWith pos f first (backTo pos (starEach (e :: es) X.env)) (backToKw pos (keywordEach [] X.env))) := by rfl) :
    PE X (.Call (.Attribute o m apos) (e :: es) [] pos) (tMe C m sp ta t) := by
  obtain ⟨fd, F, b⟩ := h.ex
  rw [← tme_eq]
  exact pe_meth ho c hm F (hr.mono hj) b .nil pass0 ha hst hpl ht
theorem pe_me0 {pl : Sem Bool} (ho : PE X o ta) (h : Has X.prog X.w X.K X.mg X.base f j ps sp) (c : Cls X.K C) (hm : Meth X.K C m f) (hr : Room k X.A) (hj : j ≤ k := by decide)
    (ht : eval (.Call (.Attribute o m apos) [] [] pos) X.env = (do
      let ov ← eval o X.env
      standAt apos.atName
      let (f, first) ← holding [ov] (getMethod ov m pl)
      callWith pos f first (backTo pos (starEach [] X.env)) (backToKw pos (keywordEach [] X.env))) := by rfl) :
    PE X (.Call (.Attribute o m apos) [] [] pos) (tMe C m sp ta tNil) := by
  obtain ⟨fd, F, b⟩ := h.ex
  rw [← tme_eq]
  exact pe_meth0 ho c hm F (hr.mono hj) b .nil pass0 ht
theorem pe_ma (h : Has X.prog X.w X.K X.mg X.base f j ps sp) (M : Mk X.K C f) (hm : X.mg x = some (.ref C)) (hr : Room k X.A) (ha : PA X (e :: es) t) (hj : j + 1 ≤ k := by decide) (hg : Gl X x := by rfl)
    (hdb : (x == ("__debug__" : Str)) = false := by decide) (he : starEach (e :: es) X.env = (false, eval e X.env) :: starEach es X.env := by rfl) (hpl : (backTo pos (starEach es X.env)).any (·.1) = false := by rfl) :
    PE X (.Call (.Name x p) (e :: es) [] pos) (tMa C sp t) := by
  obtain ⟨fd, F, b⟩ := h.ex
  rw [← tma_eq]
  exact pe_make M F (hr.mono hj) hg hm b .nil pass0 ha hdb he hpl
end
/-! ### what stays: all but the objects at D -/
def Kp (D : List Addr) (H H' : Hp) : Prop := ∀ b o, H b = some o → b ∉ D → H' b = some o
section
variable {D D' : List Addr} {H H1 H2 H' : Hp} {a b p d : Addr} {o u : HO}
theorem Kp.refl (D : List Addr) (H : Hp) : Kp D H H := fun _ _ h _ => h
theorem Kp.trans (h : Kp D H H1) (k : Kp D H1 H2) : Kp D H H2 := fun b o e n => k b o (h b o e n) n
theorem Kp.sub (h : Kp D H H1) (k : ∀ x, x ∈ D → x ∈ D') : Kp D' H H1 := fun b o e n => h b o e fun q => n (k b q)
theorem Kp.same (h : Kp [] H H1) : Same H H1 := fun b o e => h b o e (by simp)
theorem Kp.of (h : Same H H1) : Kp D H H1 := fun b o e _ => h b o e
theorem Kp.at (h : Kp D H H1) (e : H a = some o) (n : a ∉ D) : H1 a = some o := h a o e n
/-- a new object, or one of D, or one that was not there at the start -/
theorem Kp.put (h : Kp D H H1) (q : H a = none ∨ a ∈ D) : Kp D H (upd H1 a o) := fun b u e n => by
  by_cases z : b = a
  · subst z
    rcases q with q | q
    · rw [q] at e; cases e
    · exact absurd q n
  · rw [upd_ne z]; exact h b u e n
theorem Kp.new (q : H a = none) : Kp D H (upd H a o) := (Kp.refl D H).put (.inl q)
theorem Kp.free (h : Kp D H H1) (q : H1 p = none) (n : p ∉ D) : H p = none := by
  cases e : H p with
  | none => rfl
  | some u =>
    have := h p u e n
    rw [q] at this
    cases this
theorem _root_.L2.Same.new (q : H a = none) : Same H (upd H a o) := fun b u e => by rw [upd_ne (ne_of_none e q)]; exact e
theorem _root_.L2.Same.put (h : Same H H1) (q : H a = none) : Same H (upd H1 a o) := fun b u e => by rw [upd_ne (ne_of_none e q)]; exact h b u e
/-- all stays but what was d -/
theorem Kp.one (h : Kp [d] H H1) (e : H a = some o) (n : a ≠ d) : H1 a = some o := h a o e (by simp [n])
theorem Kp.kind (h : Kp [d] H H1) (hd : H d = some u) (e : H a = some o) (n : o ≠ u) : H1 a = some o := h.one e (ne_of e hd n)
end
/-! ### texts in the heap -/
theorem flat_strs (ys : List Str) : (ys.map V.str).all flatV = true := by
  rw [List.all_eq_true]
  intro x hx
  obtain ⟨y, _, rfl⟩ := List.mem_map.mp hx
  rfl
theorem in_strs (x : Str) (ys : List Str) : inV (.str x) (ys.map V.str) = decide (x ∈ ys) := by
  unfold inV
  rw [List.any_map]
  induction ys with
  | nil => rfl
  | cons y ys ih =>
    rw [List.any_cons, ih]
    show ((y == x) || _) = _
    by_cases e : y = x
    · subst e; simp
    · have h : (y == x) = false := beq_eq_false_iff_ne.mpr e
      rw [h, Bool.false_or]
      by_cases m : x ∈ ys
      · rw [decide_eq_true m, decide_eq_true (List.mem_cons_of_mem _ m)]
      · rw [decide_eq_false m, decide_eq_false fun q => (List.mem_cons.mp q).elim (fun z => e z.symm) m]
theorem get_map {α : Type} {f : α → V} {xs : List α} {i : Nat} {v : V} (h : (xs.map f)[i]? = some v) : ∃ x, xs[i]? = some x ∧ v = f x := by
  rw [List.getElem?_map] at h
  cases e : xs[i]? with
  | none => rw [e] at h; cases h
  | some x => rw [e] at h; exact ⟨x, rfl, (Option.some.inj h).symm⟩
theorem take_succ_get {α : Type} {xs : List α} {i : Nat} {x : α} (h : xs[i]? = some x) : xs.take (i + 1) = xs.take i ++ [x] := by
  obtain ⟨h1, h2⟩ := List.getElem?_eq_some_iff.mp h
  rw [List.take_succ, h]; rfl
theorem small_line {n : Nat} (h : n ≤ 1000000) : n < sizeLine := Nat.lt_of_le_of_lt h (by decide)
theorem small_le {n : Nat} (h : n ≤ 1000000) : n ≤ sizeLine := Nat.le_of_lt (small_line h)
end Bf
/-! ## Walks over things in a row: one rule for loops and comprehensions -/
namespace Bf
open PySem PySem.Spec PyProof.Rows L2
structure Row (J : It) (xs : List V) (Ok : Hp → Prop) : Prop where
  go : ∀ i H, i < xs.length → Ok H → J.go i H
  yld : ∀ i H x H', i < xs.length → Ok H → J.yld i H x H' → H' = H ∧ xs[i]? = some x
  stop : ∀ H, Ok H → J.stop xs.length H
theorem row_list {K : PySem.W.Frag} {a : Addr} {xs : List V} : Row (Itl K a) xs (fun H => SqL K H a xs) :=
  ⟨fun i H h o => ⟨xs, xs[i], o, List.getElem?_eq_getElem h⟩, fun i H x H' _ o y => ⟨y.1, y.2 xs o⟩, fun H o => ⟨xs, o, Nat.le_refl _⟩⟩
theorem row_tup {K : PySem.W.Frag} {a : Addr} {xs : List V} : Row (Itt K a) xs (fun H => SqT K H a xs) :=
  ⟨fun i H h o => ⟨xs, xs[i], o, List.getElem?_eq_getElem h⟩, fun i H x H' _ o y => ⟨y.1, y.2 xs o⟩, fun H o => ⟨xs, o, Nat.le_refl _⟩⟩
theorem row_range {n : Nat} : Row (Itr 0 n) ((List.range n).map fun i => V.int (i : Nat)) (fun _ => True) :=
  ⟨fun i H h _ => by rw [List.length_map, List.length_range] at h; exact h,
   fun i H x H' h _ y => by
    rw [List.length_map, List.length_range] at h
    obtain ⟨rfl, rfl⟩ := y
    exact ⟨rfl, by rw [List.getElem?_map, List.getElem?_range h]; simp⟩,
   fun H _ => by show n ≤ _; rw [List.length_map, List.length_range]; exact Nat.le_refl _⟩
theorem row_str {z : Str} : Row (Its z) (z.cps.toList.map fun c => V.str ⟨#[c]⟩) (fun _ => True) :=
  ⟨fun i H h _ => by rw [List.length_map, Array.length_toList] at h; exact h,
   fun i H x H' h _ y => by
    obtain ⟨rfl, c, hc, rfl⟩ := y
    exact ⟨rfl, by rw [List.getElem?_map, Array.getElem?_toList, hc]; rfl⟩,
   fun H _ => by show z.cps.size ≤ _; rw [List.length_map, Array.length_toList]; exact Nat.le_refl _⟩
theorem row_keys {d : Addr} {o : Obj} {kvs : List (Key × V)} : Row (Itk d o kvs) (kvs.map fun kv => kV kv.1) (fun H => H d = some (.frz o (.dK kvs))) :=
  ⟨fun i H h e => ⟨e, by rw [List.length_map] at h; exact h⟩,
   fun i H x H' h e y => by
    obtain ⟨rfl, k, v, hk, rfl⟩ := y
    exact ⟨rfl, by rw [List.getElem?_map, hk]; rfl⟩,
   fun H e => ⟨e, by rw [List.length_map]; exact Nat.le_refl _⟩⟩
section
variable {J : It} {xs : List V} {Ok : Hp → Prop} {g : TG} {tb : TS} {tt : TT} {te tk tv : TE} {vs : List Nat} {D : Ends} {σ : L2.St} {H H1 : Hp} {L : Addr} {Qd : Hp → Prop}
/-- a loop over things in a row -/
theorem for_row (S : Row J xs Ok) (Pv : Nat → L2.St → Hp → Prop) (h0 : Pv 0 σ H) (hok : ∀ i σ H, i ≤ xs.length → Pv i σ H → Ok H)
    (hs : ∀ i x σ H, xs[i]? = some x → Pv i σ H → g x σ H fun σ2 H2 => tb { D with nx := Pv (i + 1), ct := Pv (i + 1), bk := D.nx } σ2 H2) (hd : ∀ σ H, Pv xs.length σ H → D.nx σ H) :
    ∃ W : Nat → Nat → L2.St → Hp → Prop, (∃ m, W 0 m σ H) ∧ ∀ i m σ H, W i m σ H →
      (J.stop i H ∧ D.nx σ H) ∨ (J.go i H ∧ ∃ N : L2.St → Hp → Prop, (∀ σ' H', N σ' H' → ∃ m', m' < m ∧ W (i + 1) m' σ' H') ∧ ∀ x H', J.yld i H x H' → g x σ H' fun σ2 H2 => tb { D with nx := N, ct := N, bk := D.nx } σ2 H2) := by
  refine ⟨fun i m σ H => i ≤ xs.length ∧ m = xs.length - i ∧ Pv i σ H, ⟨xs.length, Nat.zero_le _, rfl, h0⟩, fun i m σ H q => ?_⟩
  obtain ⟨hi, rfl, q⟩ := q
  by_cases e : i = xs.length
  · subst e
    exact .inl ⟨S.stop H (hok _ σ H hi q), hd σ H q⟩
  · have hlt : i < xs.length := by omega
    refine .inr ⟨S.go i H hlt (hok _ σ H hi q), Pv (i + 1), fun σ' H' n => ⟨_, by omega, hlt, rfl, n⟩, fun x H' y => ?_⟩
    obtain ⟨rfl, hx⟩ := S.yld i H x H' hlt (hok _ σ _ hi q) y
    exact hs i x σ _ hx q
/-- a list comprehension over things in a row -/
theorem lc_row (S : Row J xs Ok) (Pv : Nat → List V → Hp → Prop) (h0 : Pv 0 [] H1) (hD : H1 L = none) (hst : ∀ i acc H o, Pv i acc H → Pv i acc (upd H L o)) (hok : ∀ i acc H, Pv i acc H → Ok H) (hl : xs.length < sizeLine)
    (turn : ∀ i x acc H, xs[i]? = some x → Pv i acc H → H L = some (.lst acc) → ∀ (Kt : V → Hp → Prop) (Kf : Hp → Prop), (∀ y H', Pv (i + 1) (acc ++ [y]) H' → H' L = some (.lst acc) → Kt y H') → (∀ H', Pv (i + 1) acc H' → H' L = some (.lst acc) → Kf H') →
      g x (wipe σ vs) H fun σ2 H2 => wipe σ2 vs = wipe σ vs ∧ tt σ2 H2 fun b H3 => if b = true then te σ2 H3 Kt else Kf H3)
    (hd : ∀ acc H, Pv xs.length acc H → H L = some (.lst acc) → Qd H) :
    ∃ W : Nat → Nat → Hp → Prop, (∃ m, W 0 m (upd H1 L (.lst []))) ∧ ∀ i m H, W i m H →
      (J.stop i H ∧ Qd H) ∨ (J.go i H ∧ ∃ Nx : Hp → Prop, (∀ H', Nx H' → ∃ m', m' < m ∧ W (i + 1) m' H') ∧ ∀ x H', J.yld i H x H' → g x (wipe σ vs) H' fun σ2 H2 => wipe σ2 vs = wipe σ vs ∧ tt σ2 H2 fun b H3 =>
        if b = true then te σ2 H3 fun y H4 => ∃ acc, H4 L = some (.lst acc) ∧ acc.length < sizeLine ∧ Nx (upd H4 L (.lst (acc ++ [y]))) else Nx H3) := by
  let W1 : Nat → Hp → Prop := fun i H => i ≤ xs.length ∧ ∃ acc, acc.length ≤ i ∧ H L = some (.lst acc) ∧ Pv i acc H
  refine ⟨fun i m H => m = xs.length - i ∧ W1 i H, ⟨xs.length, rfl, Nat.zero_le _, [], Nat.le_refl _, upd_same, hst _ _ _ _ h0⟩, fun i m H q => ?_⟩
  obtain ⟨rfl, hi, acc, ha, hH, q⟩ := q
  by_cases e : i = xs.length
  · subst e
    exact .inl ⟨S.stop H (hok _ _ H q), hd acc H q hH⟩
  · have hlt : i < xs.length := by omega
    refine .inr ⟨S.go i H hlt (hok _ _ H q), W1 (i + 1), fun H' n => ⟨_, by omega, rfl, n⟩, fun x H' y => ?_⟩
    obtain ⟨rfl, hx⟩ := S.yld i H x H' hlt (hok _ _ _ q) y
    refine turn i x acc _ hx q hH _ _ (fun y H' p hL => ?_) (fun H' p hL => ?_)
    · exact ⟨acc, hL, by omega, hlt, acc ++ [y], by rw [List.length_append, List.length_singleton]; omega, upd_same, hst _ _ _ _ p⟩
    · exact ⟨hlt, acc, by omega, hL, p⟩
/-- a comprehension that changes nothing that was there -/
theorem lc_pure {α : Type} {as : List α} {f out : α → V} {p : α → Bool} (S : Row J (as.map f) Ok) (hD : H1 L = none) (hok : ∀ H, Same H1 H → Ok H) (hl : as.length < sizeLine)
    (turn : ∀ a H, a ∈ as → Same H1 H → ∀ (Kt : V → Hp → Prop) (Kf : Hp → Prop), (p a = true → ∀ H', Same H H' → Kt (out a) H') → (p a = false → ∀ H', Same H H' → Kf H') →
      g (f a) (wipe σ vs) H fun σ2 H2 => wipe σ2 vs = wipe σ vs ∧ tt σ2 H2 fun b H3 => if b = true then te σ2 H3 Kt else Kf H3)
    (hd : ∀ H, Same H1 H → H L = some (.lst ((as.filter p).map out)) → Qd H) :
    ∃ W : Nat → Nat → Hp → Prop, (∃ m, W 0 m (upd H1 L (.lst []))) ∧ ∀ i m H, W i m H →
      (J.stop i H ∧ Qd H) ∨ (J.go i H ∧ ∃ Nx : Hp → Prop, (∀ H', Nx H' → ∃ m', m' < m ∧ W (i + 1) m' H') ∧ ∀ x H', J.yld i H x H' → g x (wipe σ vs) H' fun σ2 H2 => wipe σ2 vs = wipe σ vs ∧ tt σ2 H2 fun b H3 =>
        if b = true then te σ2 H3 fun y H4 => ∃ acc, H4 L = some (.lst acc) ∧ acc.length < sizeLine ∧ Nx (upd H4 L (.lst (acc ++ [y]))) else Nx H3) := by
  refine lc_row S (fun i acc H => Same H1 H ∧ acc = ((as.take i).filter p).map out) ⟨Same.refl _, by simp⟩ hD (fun i acc H o q => ⟨q.1.put hD, q.2⟩) (fun i acc H q => hok H q.1) (by rw [List.length_map]; exact hl) (fun i x acc H hx q hL Kt Kf k1 k2 => ?_) fun acc H q hL => ?_
  · obtain ⟨a, ha, rfl⟩ := get_map hx
    have hm : a ∈ as := List.mem_of_getElem? ha
    refine turn a H hm q.1 Kt Kf (fun c H' s => k1 _ _ ⟨q.1.trans s, ?_⟩ (s _ _ hL)) (fun c H' s => k2 _ ⟨q.1.trans s, ?_⟩ (s _ _ hL))
    · rw [take_succ_get ha, List.filter_append, q.2]; simp [c]
    · rw [take_succ_get ha, List.filter_append, q.2]; simp [c]
  · rw [List.length_map, List.take_length] at q
    exact hd H q.1 (by rw [hL, q.2])
/-- a dict comprehension over things in a row -/
theorem dc_row (S : Row J xs Ok) (Pv : Nat → List (Key × V) → Hp → Prop) (h0 : Pv 0 [] H1) (hD : H1 L = none) (hst : ∀ i acc H o, Pv i acc H → Pv i acc (upd H L o)) (hok : ∀ i acc H, Pv i acc H → Ok H) (hl : xs.length < sizeLine)
    (turn : ∀ i x acc H, xs[i]? = some x → Pv i acc H → H L = some (.dK acc) → ∀ (Kt : V → V → Hp → Prop) (Kf : Hp → Prop), (∀ k z H', Pv (i + 1) (putK acc k z) H' → H' L = some (.dK acc) → Kt (kV k) z H') →
      g x (wipe σ vs) H fun σ2 H2 => wipe σ2 vs = wipe σ vs ∧ tt σ2 H2 fun b H3 => if b = true then tk σ2 H3 fun y H4 => tv σ2 H4 fun z H5 => Kt y z H5 else Kf H3)
    (hd : ∀ acc H, Pv xs.length acc H → H L = some (.dK acc) → Qd H) :
    ∃ W : Nat → Nat → Hp → Prop, (∃ m, W 0 m (upd H1 L (.dK []))) ∧ ∀ i m H, W i m H →
      (J.stop i H ∧ Qd H) ∨ (J.go i H ∧ ∃ Nx : Hp → Prop, (∀ H', Nx H' → ∃ m', m' < m ∧ W (i + 1) m' H') ∧ ∀ x H', J.yld i H x H' → g x (wipe σ vs) H' fun σ2 H2 => wipe σ2 vs = wipe σ vs ∧ tt σ2 H2 fun b H3 =>
        if b = true then tk σ2 H3 fun y H4 => tv σ2 H4 fun z H5 => ∃ kvs k, y = kV k ∧ H5 L = some (.dK kvs) ∧ kvs.length < sizeLine ∧ Nx (upd H5 L (.dK (putK kvs k z))) else Nx H3) := by
  let W1 : Nat → Hp → Prop := fun i H => i ≤ xs.length ∧ ∃ acc, acc.length ≤ i ∧ H L = some (.dK acc) ∧ Pv i acc H
  refine ⟨fun i m H => m = xs.length - i ∧ W1 i H, ⟨xs.length, rfl, Nat.zero_le _, [], Nat.le_refl _, upd_same, hst _ _ _ _ h0⟩, fun i m H q => ?_⟩
  obtain ⟨rfl, hi, acc, ha, hH, q⟩ := q
  by_cases e : i = xs.length
  · subst e
    exact .inl ⟨S.stop H (hok _ _ H q), hd acc H q hH⟩
  · have hlt : i < xs.length := by omega
    refine .inr ⟨S.go i H hlt (hok _ _ H q), W1 (i + 1), fun H' n => ⟨_, by omega, rfl, n⟩, fun x H' y => ?_⟩
    obtain ⟨rfl, hx⟩ := S.yld i H x H' hlt (hok _ _ _ q) y
    refine turn i x acc _ hx q hH (fun y z H5 => ∃ kvs k, y = kV k ∧ H5 L = some (.dK kvs) ∧ kvs.length < sizeLine ∧ W1 (i + 1) (upd H5 L (.dK (putK kvs k z)))) _ fun k z H' p hL => ?_
    exact ⟨acc, k, rfl, hL, by omega, hlt, putK acc k z, Nat.le_trans (length_putK _ _ _) (by omega), upd_same, hst _ _ _ _ p⟩
end
/-- for i, x in enumerate(list): -/
theorem for_enum {K : PySem.W.Frag} {a : Addr} {xs : List V} {i1 i2 : Nat} {tb : TS} {D : Ends} {σ : L2.St} {H : Hp} (Pv : Nat → L2.St → Hp → Prop) (h0 : Pv 0 σ H) (hok : ∀ i σ H, i ≤ xs.length → Pv i σ H → SqL K H a xs)
    (hs : ∀ i x σ H p, xs[i]? = some x → Pv i σ H → H p = none → tb { D with nx := Pv (i + 1), ct := Pv (i + 1), bk := D.nx } ((σ.set i1 (some (.int (i : Nat)))).set i2 (some x)) (upd H p (.tup [.int (i : Nat), x]))) (hd : ∀ σ H, Pv xs.length σ H → D.nx σ H) :
    ∃ W : Nat → Nat → L2.St → Hp → Prop, (∃ m, W 0 m σ H) ∧ ∀ i m σ H, W i m σ H →
      ((Ite K a).stop i H ∧ D.nx σ H) ∨ ((Ite K a).go i H ∧ ∃ N : L2.St → Hp → Prop, (∀ σ' H', N σ' H' → ∃ m', m' < m ∧ W (i + 1) m' σ' H') ∧ ∀ x H', (Ite K a).yld i H x H' → gTup K 2 (gCons (gName i1) (gCons (gName i2) gNil)) x σ H' fun σ2 H2 => tb { D with nx := N, ct := N, bk := D.nx } σ2 H2) := by
  refine ⟨fun i m σ H => i ≤ xs.length ∧ m = xs.length - i ∧ Pv i σ H, ⟨xs.length, Nat.zero_le _, rfl, h0⟩, fun i m σ H q => ?_⟩
  obtain ⟨hi, rfl, q⟩ := q
  have hk := hok _ σ H hi q
  by_cases e : i = xs.length
  · subst e
    exact .inl ⟨⟨xs, hk, Nat.le_refl _⟩, hd σ H q⟩
  · have hlt : i < xs.length := by omega
    refine .inr ⟨⟨xs, xs[i], hk, List.getElem?_eq_getElem hlt⟩, Pv (i + 1), fun σ' H' n => ⟨_, by omega, hlt, rfl, n⟩, fun x H' y => ?_⟩
    obtain ⟨p, z, rfl, hp, rfl, hz⟩ := y
    exact ⟨p, _, rfl, SqT.of upd_same, rfl, _, _, rfl, _, _, rfl, rfl, hs i z σ H p (hz xs hk) q hp⟩
end Bf
/-! ## Webs and families in the heap -/
namespace Bf
open PySem PySem.Spec PyProof.Rows L2
structure WebOk (Vs T : List Str) (ends : Str → Str × Str) : Prop where
  web : BfM.Web ends Vs
  rV : Rising Vs
  rT : Rising T
  fewV : Vs.length ≤ 16
  few : T.length ≤ 8
  low : ∀ t, t ∈ T → PyData.strOk t = true
structure WebAt (K : PySem.W.Frag) (wb : Addr) (Vs T : List Str) (ends : Str → Str × Str) (H : Hp) : Prop where
  ex : ∃ dx ka ea kvs, H wb = some (.ins (He.ga K "Web") dx [("known", .ref ka), ("ending", .ref ea)]) ∧ H ka = some (.tup (Vs.map .str)) ∧ H ea = some (.dK kvs) ∧ kvs.map (·.1) = T.map Sum.inr ∧
    ∀ t, t ∈ T → ∃ p, valV kvs (.inr t) = some (.ref p) ∧ H p = some (.tup [.str (ends t).1, .str (ends t).2])
  ok : WebOk Vs T ends
def CacheOk (Vs T : List Str) (ends : Str → Str × Str) (kvs : List (List Key × V)) : Prop :=
  (kvs.map (·.1)).Nodup ∧ ∀ q, q ∈ kvs → ∃ lot : List Str, q.1 = lot.map Sum.inr ∧ Rising lot ∧ (∀ x, x ∈ lot → x ∈ T) ∧ q.2 = .int (BfM.rk ends Vs lot : Nat)
structure Fam (K : PySem.W.Frag) (fa d na wb : Addr) (Vs T : List Str) (ends : Str → Str × Str) (H : Hp) : Prop where
  self : ∃ dx, H fa = some (.ins (He.ga K "Family") dx [("names", .ref na), ("source", .ref wb), ("counted", .ref d)])
  names : H na = some (.tup (T.map .str))
  web : WebAt K wb Vs T ends H
  cache : ∃ kvs, H d = some (.dT kvs) ∧ CacheOk Vs T ends kvs
section
variable {K : PySem.W.Frag} {fa d na wb a p : Addr} {Vs T lot : List Str} {ends : Str → Str × Str} {H H1 H2 H' : Hp} {o : HO} {kvs : List (List Key × V)}
theorem Fam.ok (h : Fam K fa d na wb Vs T ends H) : WebOk Vs T ends := h.web.ok
theorem WebAt.keep {u : List (List Key × V)} (h : WebAt K wb Vs T ends H) (hd : H d = some (.dT u)) (k : Kp [d] H H1) : WebAt K wb Vs T ends H1 := by
  obtain ⟨⟨dx, ka, ea, kvs, h1, h2, h3, h4, h5⟩, ok⟩ := h
  refine ⟨⟨dx, ka, ea, kvs, k.kind hd h1 (by simp), k.kind hd h2 (by simp), k.kind hd h3 (by simp), h4, fun t ht => ?_⟩, ok⟩
  obtain ⟨p, e1, e2⟩ := h5 t ht
  exact ⟨p, e1, k.kind hd e2 (by simp)⟩
theorem WebAt.same (h : WebAt K wb Vs T ends H) (k : Same H H1) : WebAt K wb Vs T ends H1 := by
  obtain ⟨⟨dx, ka, ea, kvs, h1, h2, h3, h4, h5⟩, ok⟩ := h
  refine ⟨⟨dx, ka, ea, kvs, k _ _ h1, k _ _ h2, k _ _ h3, h4, fun t ht => ?_⟩, ok⟩
  obtain ⟨p, e1, e2⟩ := h5 t ht
  exact ⟨p, e1, k _ _ e2⟩
theorem Fam.keep (h : Fam K fa d na wb Vs T ends H) (k : Kp [d] H H1) (c : ∃ kvs, H1 d = some (.dT kvs) ∧ CacheOk Vs T ends kvs) : Fam K fa d na wb Vs T ends H1 := by
  obtain ⟨⟨dx, h1⟩, h2, h3, ⟨kvs, h4, h5⟩⟩ := h
  exact ⟨⟨dx, k.kind h4 h1 (by simp)⟩, k.kind h4 h2 (by simp), h3.keep h4 k, c⟩
theorem Fam.same (h : Fam K fa d na wb Vs T ends H) (k : Same H H1) : Fam K fa d na wb Vs T ends H1 :=
  h.keep (Kp.of k) (let ⟨kvs, e, c⟩ := h.cache; ⟨kvs, k _ _ e, c⟩)
/-- the family stays, and all but its counts -/
structure Fk (K : PySem.W.Frag) (fa d na wb : Addr) (Vs T : List Str) (ends : Str → Str × Str) (H H1 : Hp) : Prop where
  kp : Kp [d] H H1
  here : Fam K fa d na wb Vs T ends H
  fam : Fam K fa d na wb Vs T ends H1
theorem Fk.refl (h : Fam K fa d na wb Vs T ends H) : Fk K fa d na wb Vs T ends H H := ⟨Kp.refl _ _, h, h⟩
theorem Fk.trans (h : Fk K fa d na wb Vs T ends H H1) (k : Fk K fa d na wb Vs T ends H1 H2) : Fk K fa d na wb Vs T ends H H2 := ⟨h.kp.trans k.kp, h.here, k.fam⟩
theorem Fk.of (h : Fam K fa d na wb Vs T ends H) (k : Same H H1) : Fk K fa d na wb Vs T ends H H1 := ⟨Kp.of k, h, h.same k⟩
theorem Fk.then_ (h : Fk K fa d na wb Vs T ends H H1) (k : Same H1 H2) : Fk K fa d na wb Vs T ends H H2 := h.trans (Fk.of h.fam k)
/-- what is no cache stays -/
theorem Fk.at (h : Fk K fa d na wb Vs T ends H H1) (e : H a = some o) (n : ∀ u, o ≠ .dT u := by intro u; simp) : H1 a = some o := by
  obtain ⟨kvs, hd, _⟩ := h.here.cache
  exact h.kp.kind hd e (n _)
theorem Fk.at_ne (h : Fk K fa d na wb Vs T ends H H1) (e : H a = some o) (n : a ≠ d) : H1 a = some o := h.kp.one e n
theorem Fk.free (h : Fk K fa d na wb Vs T ends H H1) (q : H1 p = none) : H p = none := by
  refine h.kp.free q ?_
  intro z
  simp at z
  subst z
  obtain ⟨kvs, hd, _⟩ := h.fam.cache
  rw [hd] at q; cases q
theorem Fam.ne (h : Fam K fa d na wb Vs T ends H) (q : H p = none) : p ≠ d := by
  intro z
  subst z
  obtain ⟨kvs, hd, _⟩ := h.cache
  rw [hd] at q; cases q
/-- a new thing beside -/
theorem Fk.put (h : Fk K fa d na wb Vs T ends H H1) (q : H p = none) : Fk K fa d na wb Vs T ends H (upd H1 p o) := by
  have n := h.here.ne q
  refine ⟨h.kp.put (.inl q), h.here, h.here.keep (h.kp.put (.inl q)) ?_⟩
  obtain ⟨kvs, hd, c⟩ := h.fam.cache
  exact ⟨kvs, by rw [upd_ne n.symm]; exact hd, c⟩
theorem Fk.new (h : Fam K fa d na wb Vs T ends H) (q : H p = none) : Fk K fa d na wb Vs T ends H (upd H p o) := (Fk.refl h).put q
theorem inr_inj : ∀ {xs ys : List Str}, (xs.map fun x => (Sum.inr x : Key)) = ys.map Sum.inr → xs = ys
  | [], [], _ => rfl
  | [], _ :: _, h => by simp at h
  | _ :: _, [], h => by simp at h
  | x :: xs, y :: ys, h => by
    simp only [List.map_cons, List.cons.injEq] at h
    rw [Sum.inr.inj h.1, inr_inj h.2]
theorem strs_key (xs : List Str) : (xs.map fun x => (Sum.inr x : Key)).map kV = xs.map V.str := by
  rw [List.map_map]; rfl
theorem CacheOk.get (h : CacheOk Vs T ends kvs) {v : V} (e : valV kvs (lot.map Sum.inr) = some v) : v = .int (BfM.rk ends Vs lot : Nat) := by
  unfold valV at e
  cases q : kvs.find? fun kv => decide (kv.1 = lot.map Sum.inr) with
  | none => rw [q] at e; cases e
  | some kv =>
    rw [q] at e
    cases e
    have m := List.mem_of_find?_eq_some q
    have z : kv.1 = lot.map Sum.inr := of_decide_eq_true (List.find?_some (p := fun kv : List Key × V => decide (kv.1 = lot.map Sum.inr)) q)
    obtain ⟨l2, e1, _, _, e2⟩ := h.2 kv m
    rw [e1] at z
    rw [inr_inj z] at e2
    exact e2
theorem CacheOk.put (h : CacheOk Vs T ends kvs) (e : valV kvs (lot.map Sum.inr) = none) (r : Rising lot) (s : ∀ x, x ∈ lot → x ∈ T) : CacheOk Vs T ends (putK kvs (lot.map Sum.inr) (.int (BfM.rk ends Vs lot : Nat))) := by
  refine ⟨nd_putK _ h.1 e, fun q hq => ?_⟩
  rw [putK_new _ e] at hq
  rcases List.mem_append.mp hq with hq | hq
  · exact h.2 q hq
  · rw [List.mem_singleton] at hq
    subst hq
    exact ⟨lot, rfl, r, s, rfl⟩
theorem CacheOk.few (h : CacheOk Vs T ends kvs) (rT : Rising T) (few : T.length ≤ 8) : kvs.length ≤ 256 := by
  have : ∀ l : List (List Key × V), (∀ q, q ∈ l → ∃ lot : List Str, q.1 = lot.map Sum.inr ∧ Rising lot ∧ (∀ x, x ∈ lot → x ∈ T) ∧ q.2 = .int (BfM.rk ends Vs lot : Nat)) → ∃ ks : List (List Str), l.map (·.1) = ks.map (fun k => k.map Sum.inr) ∧ ∀ m, m ∈ ks → Rising m ∧ ∀ x, x ∈ m → x ∈ T := by
    intro l
    induction l with
    | nil => exact fun _ => ⟨[], rfl, fun _ h => nomatch h⟩
    | cons q l ih =>
      intro hq
      obtain ⟨ks, e, k⟩ := ih fun z hz => hq z (List.mem_cons_of_mem _ hz)
      obtain ⟨lot, e1, e2, e3, _⟩ := hq q (List.mem_cons_self ..)
      refine ⟨lot :: ks, by rw [List.map_cons, List.map_cons, e, e1], fun m hm => ?_⟩
      rcases List.mem_cons.mp hm with rfl | hm
      · exact ⟨e2, e3⟩
      · exact k m hm
  obtain ⟨ks, e, k⟩ := this kvs h.2
  have nd : ks.Nodup := by
    have := h.1
    rw [e] at this
    exact (List.pairwise_map.mp this).imp fun h e => h (by rw [e])
  have l := lots_few rT nd k
  have : kvs.length = ks.length := by
    have := congrArg List.length e
    rw [List.length_map, List.length_map] at this
    exact this
  rw [this]
  refine Nat.le_trans l ?_
  exact Nat.pow_le_pow_right (n := 2) (by decide) few
end
end Bf
namespace Bf
open PySem PySem.Spec PyProof.Rows L2
/-! ### in a dict, as an operation -/
section
variable {X : Cx}
theorem op_inK (hu : X.A.units + 1 < cLine) : OpR X (compareOp .In) (fun x y H Q => ∃ a o, y = .ref a ∧ DGet H a x o ∧ Q (.bl o.isSome) H) := by
  rintro pins s σ H x y v u Q I rx ry ⟨a, o, rfl, g, q⟩
  cases ry
  exact d_in hu I g rx fun s' I' => fin_bl I' q rfl
theorem op_notInK (hu : X.A.units + 1 < cLine) : OpR X (compareOp .NotIn) (fun x y H Q => ∃ a o, y = .ref a ∧ DGet H a x o ∧ Q (.bl (!o.isSome)) H) := by
  rintro pins s σ H x y v u Q I rx ry ⟨a, o, rfl, g, q⟩
  cases ry
  exact d_notIn hu I g rx fun s' I' => fin_bl I' q rfl
end
def rInK : R2 := fun x y H Q => ∃ a o, y = .ref a ∧ DGet H a x o ∧ Q (.bl o.isSome) H
def rNInK : R2 := fun x y H Q => ∃ a o, y = .ref a ∧ DGet H a x o ∧ Q (.bl (!o.isSome)) H
/-! ### calls of built-ins, one or two things -/
section
variable {X : Cx} {x : Str} {p pos : Pos} {e e2 : Expr} {te te2 : TE} {id T n : String} {r : List V → Hp → VK → Prop}
theorem pe_b1 (hc : CallR X (.builtin id) r) (hm : X.mg x = none) (ha : PE X e te) (hg : Gl X x := by rfl) (hv : bootBuiltins x = some (.builtin id) := by decide +kernel) (hn : x ≠ "__name__" := by decide) (hdb : (x == ("__debug__" : Str)) = false := by decide)
    (hs : starEach [e] X.env = (false, eval e X.env) :: starEach [] X.env := by rfl) : PE X (.Call (.Name x p) [e] [] pos) (tCB r (tCons te tNil)) :=
  pe_callB hc hg hm hv (pa_cons ha pa_nil hs) hn hdb hs
theorem pe_b2 (hc : CallR X (.builtin id) r) (hm : X.mg x = none) (ha : PE X e te) (hb : PE X e2 te2) (hg : Gl X x := by rfl) (hv : bootBuiltins x = some (.builtin id) := by decide +kernel) (hn : x ≠ "__name__" := by decide) (hdb : (x == ("__debug__" : Str)) = false := by decide)
    (hs : starEach [e, e2] X.env = (false, eval e X.env) :: starEach [e2] X.env := by rfl) (hs2 : starEach [e2] X.env = (false, eval e2 X.env) :: starEach [] X.env := by rfl) (hpl : (backTo pos (starEach [e2] X.env)).any (·.1) = false := by rfl) : PE X (.Call (.Name x p) [e, e2] [] pos) (tCB r (tCons te (tCons te2 tNil))) :=
  pe_callB hc hg hm hv (pa_cons ha (pa_cons hb pa_nil hs2) hs) hn hdb hs hpl
theorem pe_t1 (hc : CallR X (.type T) r) (hm : X.mg x = none) (ha : PE X e te) (hg : Gl X x := by rfl) (hv : bootBuiltins x = some (.type T) := by decide +kernel) (hn : x ≠ "__name__" := by decide) (hdb : (x == ("__debug__" : Str)) = false := by decide)
    (hs : starEach [e] X.env = (false, eval e X.env) :: starEach [] X.env := by rfl) : PE X (.Call (.Name x p) [e] [] pos) (tCB r (tCons te tNil)) :=
  pe_callTy hc hg hm hv (pa_cons ha pa_nil hs) hn hdb hs
theorem pe_tyn (n : String) (hm : X.mg x = none) (hg : Gl X x := by rfl) (hv : bootBuiltins x = some (.type n) := by decide +kernel) (hn : x ≠ "__name__" := by decide) (hdb : (x == ("__debug__" : Str)) = false := by decide) : PE X (.Name x p) (tC (.ty n)) :=
  pe_bltn (v := .ty n) hg hm hv rfl hn hdb
/-- isinstance(e, n) -/
theorem pe_isi (n : String) (hi : X.mg "isinstance" = none) (hm : X.mg x = none) (ha : PE X e te) (hg : Gl X x := by rfl) (hgi : Gl X "isinstance" := by rfl) (hv : bootBuiltins x = some (.type n) := by decide +kernel) (hn : x ≠ "__name__" := by decide) (hdb : (x == ("__debug__" : Str)) = false := by decide)
    (hs : starEach [e, .Name x p] X.env = (false, eval e X.env) :: starEach [.Name x p] X.env := by rfl) (hs2 : starEach [.Name x p] X.env = (false, eval (.Name x p) X.env) :: starEach [] X.env := by rfl) (hpl : (backTo pos (starEach [.Name x p] X.env)).any (·.1) = false := by rfl) {pi : Pos} : PE X (.Call (.Name "isinstance" pi) [e, .Name x p] [] pos) (tCB (rIsi X.K) (tCons te (tCons (tC (.ty n)) tNil))) :=
  pe_callB call_isi hgi hi (by decide +kernel) (pa_cons ha (pa_cons (pe_tyn n hm hg hv hn hdb) pa_nil hs2) hs) (by decide) (by decide) hs hpl
end
/-- what isinstance(e, n) asks -/
theorem isi_run {K : PySem.W.Frag} {te : TE} {n m : String} {σ : L2.St} {H : Hp} {Q : VK} {b : Bool} (hk : kitB m n = some b) (h : te σ H fun v H1 => TyX K H1 v (.type m) ∧ Q (.bl b) H1) (mono : ∀ (Q Q' : VK), (∀ v H, Q v H → Q' v H) → te σ H Q → te σ H Q') :
    tCB (rIsi K) (tCons te (tCons (tC (.ty n)) tNil)) σ H Q :=
  mono _ _ (fun v H1 q => ⟨v, .ty n, .type m, .type n, b, rfl, ClsV.ty n, q.1, kit_ty hk, q.2⟩) h
/-! ### the start of a walk -/
section
variable {P : Program} {w : World} {K : PySem.W.Frag} {mg : Str → Option Value} {base : Heap}
theorem tex_tup (xs : List Str) : (xs.map V.str).length = xs.length := List.length_map _
end
/-! ### y = {k: v for .. in ..}, the name filled in the same breath -/
abbrev Blk (X : Cx) (scope : Scope) (good : Cx → Prop) : Prop := ∀ (s : Shared) (H : Hp) (C : Addr) (cl : List (Str × Addr)) (fp : List Addr), good (X.blk s H scope (compEnvC scope cl C X.env) fp)
section
variable {X : Cx} {i l : Nat} {y : Str} {py pos spos : Pos} {kx vx tg iter : Expr} {gs : List Comprehension} {ifs : List Expr} {scope : Scope} {own : List (Str × Nat)} {wi : TI} {g : TG} {tt : TT} {tk tv : TE}
theorem swd_true (kind : X.env.scope.kind = .function) (loc : X.env.scope.names.lookup y = some .local) (line : (py.line == pos.line) = true) (out : (scope.names.any fun (n, k) => n == y && (k == .local || k == .cell)) = false) : swapsWith (.DictComp kx vx gs scope pos) (some (.Name y py)) l X.env = pure true := by
  have h1 : X.env.kindOf y = some .local := loc
  have h2 : X.env.blockKind = .function := by unfold Env.blockKind; rw [kind]; rfl
  unfold swapsWith
  simp only [h2, h1, out, Expr.pos, line]
  rfl
theorem ps_setDc (loc : X.env.scope.names.lookup y = some .local) (nd : X.N.Nodup) (at_ : X.N[i]? = some y) (calm : X.calm = true) (sw : swapsWith (.DictComp kx vx [⟨tg, iter, ifs, 0⟩] scope pos) (some (.Name y py)) spos.line X.env = pure true) (ok : BlkOk X.N X.env.scope scope own) (it : PI X tg iter wi)
    (bg : Blk X scope fun Z => PG Z tg g) (bt : Blk X scope fun Z => PTs Z ifs tt) (bk : Blk X scope fun Z => PE Z kx tk) (bv : Blk X scope fun Z => PE Z vx tv) (fold : ∀ x, foldedSetIterable iter X.env x = pure x := by intro _; rfl) :
    PS X (.Assign [.Name y py] (.DictComp kx vx [⟨tg, iter, ifs, 0⟩] scope pos) spos) (tAsg (tDc wi g tt tk tv (own.map (·.2))) (gName i)) := by
  constructor
  intro pins s σ H D I h
  rw [exec_Assign_Name_used _ _ _ _ sw]
  refine wpAny_bind (wpAny_standAt (wpAny_bind ?_))
  show wpAny _ X.A (do let _ ← comprehension (.DictComp kx vx [⟨tg, iter, ifs, 0⟩] scope pos) scope X.env (firstIterPos [⟨tg, iter, ifs, 0⟩] pos) newDict false (eval iter X.env) (some (assign (.Name y py) X.env))) _ _ s
  have q : tDc wi g tt tk tv (own.map (·.2)) σ H (fun x H1 => gName i x σ H1 D.nx) := h
  refine wpAny_bind (thn (dc_core (Qf := fun _ z => SP X pins D .next z) calm nd I it ok bg bt bk bv fold q fun L C z m H2 I2 q2 hn fp => ?_) fun _ _ e => wpAny_pure (wpAny_pure e))
  show wpAny _ _ (assign (.Name y py) X.env (.ref L)) _ _ _
  refine wpAny_assign_Name (store_ok2 (v := V.ref L) I2 nd at_ (.inl loc) rfl (fun z3 I3 ⟨a, sb, ha⟩ => ?_) (.inr loc))
  have apart : C ≠ a := by
    rcases ha with e | e
    · exact e ▸ fp.2.1
    · exact fun w => fp.2.2.2.2.1 y a e w.symm
  exact ⟨m, hn.sameBut sb apart, fun h3 sb3 => ⟨_, H2, I3.turned (t' := z3.toks) (fun b o hb e => (sb3.2 b hb).trans e) fp.1 fp.2.1 fp.2.2.2.1 fp.2.2.2.2.1 fp.2.2.2.2.2, q2⟩⟩
end
end Bf
namespace Bf
open PySem PySem.Spec PyProof.Rows L2
section
variable {P : Program} {w : World} {K : PySem.W.Frag} {mg : Str → Option Value} {base : Heap}
def sp_less : Sp := fun vs H Q _ => ∃ (a b : Addr) (xs ys : List Str), vs = [.ref a, .ref b] ∧ H a = some (.tup (xs.map V.str)) ∧ H b = some (.tup (ys.map V.str)) ∧ xs.length ≤ 1000 ∧
  ∀ H' p, Same H H' → H p = none → H' p = some (.tup ((xs.filter fun x => decide (x ∉ ys)).map V.str)) → Q (.ref p) H'
theorem sc_less : FnScope ["lot", "gone", "thing"] ["lot", "gone"] (defScope s_less) := ⟨rfl, rfl, rfl, by decide +kernel, rfl, by decide +kernel, by decide +kernel⟩
theorem has_less (T : Txt K mg) (N : Fns K) : Has P w K mg base (He.ga K "less") 1 ["lot", "gone"] sp_less := by
  refine has_mk N.f_less sc_less (fun vs H Q E h => ?_) (fun _ _ _ _ _ _ us hl => match us, hl with | [_, _], _ => rfl) (fun cdv A outer s H vs Q E hr h => ?_)
  · obtain ⟨a, b, xs, ys, rfl, _⟩ := h; rfl
  · obtain ⟨a, b, xs, ys, rfl, ha, hb, hl, k⟩ := h
    refine ⟨_, pss_one (ps_ret (pe_callTy call_tuple_of (by rfl) T.f_tuple (by decide +kernel) (pa_cons (pe_lc (own := [("thing", 2)]) (g := gName 2) (tt := tTest (tOp (rIn K true) (tVar 2) (tVar 1))) (te := tVar 2) rfl sc_less.nd (pi_tup (pv 0)) (blkOk_by (N := ["lot", "gone", "thing"]) (sc := defScope s_less) (by decide +kernel)) (fun _ _ _ _ _ => pg_name (i := 2) sc_less.nd rfl (Or.inl rfl)) (fun _ _ _ _ _ => pts_one (pt_cmpR op_notIn_seq (pv 2) (pv 1) (by rfl))) (fun _ _ _ _ _ => pv 2)) pa_nil))), ?_⟩
    refine ⟨_, rfl, a, rfl, ⟨_, SqT.of ha⟩, fun D hD => ?_⟩
    have base : Same H (upd H D (.lst [])) := Same.new hD
    refine lc_tup (K := K) (a := a) (xs := xs.map V.str) (fun i H' => Same H H' ∧ H' D = some (.lst (((xs.take i).filter fun x => decide (x ∉ ys)).map V.str))) ⟨base, upd_same⟩ (fun i H' _ q => SqT.of (q.1 _ _ ha)) (fun i x H' hx q => ?_) fun H' q => ?_
    · obtain ⟨y, hy, rfl⟩ := get_map hx
      refine ⟨rfl, _, rfl, _, rfl, _, _, rfl, .inr (SqT.of (q.1 _ _ hb)), rfl, flat_strs _, _, rfl, ?_⟩
      rw [take_succ_get hy, List.filter_append]
      have e : (if true = true then !inV (.str y) (ys.map V.str) else inV (.str y) (ys.map V.str)) = decide (y ∉ ys) := by
        rw [if_pos rfl, in_strs]; simp
      rw [e]
      refine ite2 (fun c => ?_) fun c => ?_
      · have c := of_decide_eq_true c
        refine ⟨_, rfl, _, q.2, ?_, q.1.put hD, ?_⟩
        · rw [List.length_map]
          exact Nat.lt_of_le_of_lt (List.length_filter_le _ _) (Nat.lt_of_le_of_lt (List.length_take_le' _ _) (small_line (by omega)))
        · rw [upd_same]; simp [c]
      · have c : ¬ y ∉ ys := fun z => c (decide_eq_true z)
        refine ⟨q.1, ?_⟩
        rw [q.2]; simp [c]
    · rw [List.length_map, List.take_length] at q
      refine ⟨_, _, rfl, .inl ⟨SqL.of q.2, fun l hl => ?_⟩⟩
      exact k _ _ (q.1.put (q.1.free hl)) (q.1.free hl) upd_same
end
end Bf
namespace Bf
open PySem PySem.Spec PyProof.Rows L2
section
variable {P : Program} {w : World} {K : PySem.W.Frag} {mg : Str → Option Value} {base : Heap}
theorem sc_is_integer : FnScope ["thing"] ["thing"] (defScope s_is_integer) := ⟨rfl, rfl, rfl, by decide +kernel, rfl, by decide +kernel, by decide +kernel⟩
def sp_is_integer : Sp := fun vs H Q _ => ∃ i : Int, vs = [.int i] ∧ Q (.bl true) H
theorem has_is_integer (T : Txt K mg) (N : Fns K) : Has P w K mg base (He.ga K "is_integer") 1 ["thing"] sp_is_integer := by
  refine has_mk N.f_is_integer sc_is_integer (fun vs H Q E h => ?_) (fun _ _ _ _ _ _ us hl => match us, hl with | [_], _ => rfl) (fun cdv A outer s H vs Q E hr h => ?_)
  · obtain ⟨i, rfl, _⟩ := h; rfl
  · obtain ⟨i, rfl, k⟩ := h
    refine ⟨_, pss_one (ps_ret (pe_and (pe_isi "int" T.f_isinstance T.f_int (pv 0)) (pe_one (pe_not (pe_isi "bool" T.f_isinstance T.f_bool (pv 0)))))), ?_⟩
    refine ⟨_, rfl, _, _, _, _, true, rfl, ClsV.ty _, .base (.int i), kit_ty (by decide +kernel), true, rfl, ?_⟩
    exact ⟨_, rfl, _, _, _, _, false, rfl, ClsV.ty _, .base (.int i), kit_ty (by decide +kernel), false, rfl, k⟩
/-- a name as the text asks for it -/
structure NameOk (x : Str) : Prop where
  one : 1 ≤ x.length
  most : x.length ≤ 8
  low : ∀ c, c ∈ x.cps.toList → c ∈ ("abcdefghijklmnopqrstuvwxyz" : Str).cps.toList
theorem NameOk.low2 {x : Str} (h : NameOk x) : PyData.strOk x = true := by
  have all : ∀ c, c ∈ ("abcdefghijklmnopqrstuvwxyz" : Str).cps.toList → c < 0x110000 := by decide +kernel
  unfold PyData.strOk
  rw [← Array.all_toList, List.all_eq_true]
  exact fun c hc => decide_eq_true (all c (h.low c hc))
theorem sc_is_name : FnScope ["thing", "letter"] ["thing"] (defScope s_is_name) := ⟨rfl, rfl, rfl, by decide +kernel, rfl, by decide +kernel, by decide +kernel⟩
def sp_is_name : Sp := fun vs H Q _ => ∃ x : Str, vs = [.str x] ∧ NameOk x ∧ ∀ H', Same H H' → Q (.bl true) H'
theorem has_is_name (T : Txt K mg) (N : Fns K) : Has P w K mg base (He.ga K "is_name") 1 ["thing"] sp_is_name := by
  refine has_mk N.f_is_name sc_is_name (fun vs H Q E h => ?_) (fun _ _ _ _ _ _ us hl => match us, hl with | [_], _ => rfl) (fun cdv A outer s H vs Q E hr h => ?_)
  · obtain ⟨i, rfl, _⟩ := h; rfl
  · obtain ⟨x, rfl, ok, k⟩ := h
    obtain ⟨t1, e1⟩ := T.i_MOST_LETTERS
    obtain ⟨t2, e2⟩ := T.s_LETTERS
    refine ⟨_, pss_cons (ps_if (PW.pt (pw_or (pt_not (pt_val (pe_isi "str" T.f_isinstance T.f_str (pv 0)))) (pw_or1 (pt_not (pt_chain op_le op_le pe_int (pe_b1 call_len T.f_len (pv 0)) (pe_glob (v := .int 8) (by rfl) e1 ⟨t1, rfl⟩)))))) (pss_one (ps_ret pe_bl)) pss_nil)
      (pss_one (ps_ret (pe_b1 (cr_all rfl) T.f_all (pe_lc (own := [("letter", 1)]) (g := gName 1) (tt := tYes) (te := tOp (fun x y H Q => ∃ (c : Nat) (z : Str), x = .str ⟨#[c]⟩ ∧ y = .str z ∧ Q (.bl (decide (c ∈ z.cps.toList))) H) (tVar 1) (tC (.str "abcdefghijklmnopqrstuvwxyz"))) rfl sc_is_name.nd (pi_str (pv 0)) (blkOk_by (N := ["thing", "letter"]) (sc := defScope s_is_name) (by decide +kernel)) (fun _ _ _ _ _ => pg_name (i := 1) sc_is_name.nd rfl (Or.inl rfl)) (fun _ _ _ _ _ => pts_nil) (fun _ _ _ _ _ => pe_cmpR op_in_sign (pv 1) (pe_glob (v := .str "abcdefghijklmnopqrstuvwxyz") (by rfl) e2 ⟨t2, rfl⟩) (by rfl)))))), ?_⟩
    refine ⟨_, rfl, .str x, .ty "str", .type "str", .type "str", true, rfl, ClsV.ty _, .base (.str x), kit_ty (by decide +kernel), true, rfl, ?_⟩
    refine iteF ?_
    have h1 : (x.length : Int) ≤ 8 := by have := ok.most; omega
    have h0 : (1 : Int) ≤ x.length := by have := ok.one; omega
    refine ⟨_, rfl, _, x.length, rfl, ⟨small_le (by have := ok.most; omega), rfl⟩, 1, (x.length : Int), rfl, rfl, _, rfl, ?_⟩
    rw [decide_eq_true h0]
    refine iteT ⟨(x.length : Int), 8, rfl, rfl, _, rfl, ?_⟩
    rw [decide_eq_true h1]
    refine iteF ?_
    refine ⟨_, rfl, x, rfl, fun D hD => ?_⟩
    refine lc_pure (as := x.cps.toList) (f := fun c => V.str ⟨#[c]⟩) (p := fun _ => true) (out := fun _ => V.bl true) row_str hD (fun _ _ => trivial) (small_line (by rw [Array.length_toList]; have := ok.most; exact Nat.le_trans this (by decide))) (fun c H' hc q Kt Kf k1 k2 => ?_) fun H' q hL => ?_
    · refine ⟨rfl, _, rfl, c, "abcdefghijklmnopqrstuvwxyz", rfl, rfl, ?_⟩
      rw [decide_eq_true (ok.low c hc)]
      exact k1 rfl _ (Same.refl _)
    · refine ⟨D, x.cps.toList.map fun _ => true, rfl, SqL.of (by rw [hL, List.filter_eq_self.mpr (by simp)]; simp [List.map_map]), ?_⟩
      rw [show ((x.cps.toList.map fun _ => true).all id) = true by simp]
      exact k _ q
theorem sc_first_wrong : FnScope ["items", "known", "seen", "index", "item"] ["items", "known"] (defScope s_first_wrong) := ⟨rfl, rfl, rfl, by decide +kernel, rfl, by decide +kernel, by decide +kernel⟩
/-- known: a tuple that has them all, or a dict that does -/
def Knows (K : PySem.W.Frag) (H : Hp) (b : Addr) (xs : List Str) : Prop :=
  (∃ ys : List Str, H b = some (.tup (ys.map V.str)) ∧ ∀ x, x ∈ xs → x ∈ ys) ∨ ∃ kvs, H b = some (.dK kvs) ∧ ∀ x, x ∈ xs → (valV kvs (.inr x)).isSome = true
theorem Knows.same {K : PySem.W.Frag} {H H' : Hp} {b : Addr} {xs : List Str} (h : Knows K H b xs) (k : Same H H') : Knows K H' b xs := by
  rcases h with ⟨ys, e, h⟩ | ⟨kvs, e, h⟩
  · exact .inl ⟨ys, k _ _ e, h⟩
  · exact .inr ⟨kvs, k _ _ e, h⟩
def sp_first_wrong (K : PySem.W.Frag) : Sp := fun vs H Q _ => ∃ (a b : Addr) (xs : List Str), vs = [.ref a, .ref b] ∧ SqL K H a (xs.map V.str) ∧ Knows K H b xs ∧ xs.Nodup ∧ xs.length ≤ 1000 ∧ ∀ H', Same H H' → Q .non H'
theorem first_next {xs : List Str} {i : Nat} {y x : Str} {kvs : List (Key × V)} {z : V} (nd : xs.Nodup) (hlt : i < xs.length) (ey : xs[i] = y) (hd : ∀ x, x ∈ xs.drop i → valV kvs (.inr x) = none) (hx : x ∈ xs.drop (i + 1)) : valV (putK kvs (.inr y) z) (.inr x) = none := by
  have h1 : xs.drop i = y :: xs.drop (i + 1) := by rw [List.drop_eq_getElem_cons hlt, ey]
  have n : (y :: xs.drop (i + 1)).Nodup := h1 ▸ nd.sublist (List.drop_sublist _ _)
  have ne : x ≠ y := fun z => (List.nodup_cons.mp n).1 (z ▸ hx)
  rw [valV_put, if_neg (fun z => ne (Sum.inr.inj z))]
  exact hd x (by rw [h1]; exact List.mem_cons_of_mem _ hx)
theorem has_first_wrong (T : Txt K mg) (N : Fns K) : Has P w K mg base (He.ga K "first_wrong") 1 ["items", "known"] (sp_first_wrong K) := by
  refine has_mk N.f_first_wrong sc_first_wrong (fun vs H Q E h => ?_) (fun _ _ _ _ _ _ us hl => match us, hl with | [_, _], _ => rfl) (fun cdv A outer s H vs Q E hr h => ?_)
  · obtain ⟨a, b, xs, rfl, _⟩ := h; rfl
  · obtain ⟨a, b, xs, rfl, ha, hb, nd, hl, k⟩ := h
    refine ⟨_, pss_cons (ps_set (i := 2) sc_first_wrong.nd rfl (Or.inl rfl) pe_dnewK) (pss_cons (ps_for PassesOwn.never rfl (pi_enum (by rfl) T.f_enumerate (pa_cons (pv 0) pa_nil)) (pg_tup rfl (pgs_cons (pg_name (i := 3) sc_first_wrong.nd rfl (Or.inl rfl)) (pgs_cons (pg_name (i := 4) sc_first_wrong.nd rfl (Or.inl rfl)) pgs_nil)))
      (pss_cons (ps_if (PW.pt (pw_or (pt_cmpR (OpR.or op_notIn_seq (op_notInK (hu_of hr))) (pv 4) (pv 1) (by rfl)) (pw_or1 (pt_cmpR (op_inK (hu_of hr)) (pv 4) (pv 2) (by rfl))))) (pss_one (ps_ret (pv 3))) pss_nil) (pss_one (ps_dput (hu_of hr) (pv 2) (pv 4) pe_bl (by rfl)))))
      (pss_one (ps_ret pe_non))), ?_⟩
    intro se hse
    refine ⟨_, rfl, a, xs.map V.str, rfl, (Same.new hse).seq ha, ?_⟩
    refine for_enum (fun i σ H' => Same H H' ∧ ∃ u v kvs, σ = [some (.ref a), some (.ref b), some (.ref se), u, v] ∧ H' se = some (.dK kvs) ∧ kvs.length ≤ i ∧ i ≤ xs.length ∧ ∀ x, x ∈ xs.drop i → valV kvs (.inr x) = none) ?_ (fun i σ H' _ q => q.1.seq ha) (fun i x σ H' p hx q hp => ?_) (fun σ H' q => ?_)
    · exact ⟨Same.new hse, none, none, [], rfl, upd_same, Nat.le_refl _, Nat.zero_le _, fun x _ => rfl⟩
    · obtain ⟨y, hy, rfl⟩ := get_map hx
      obtain ⟨q, u, v, kvs, rfl, hs, hk, hi, hd⟩ := q
      obtain ⟨hlt, ey⟩ := List.getElem?_eq_some_iff.mp hy
      have hm : y ∈ xs := List.mem_of_getElem? hy
      have q1 : Same H (upd H' p (.tup [.int (i : Nat), .str y])) := q.put (q.free hp)
      have hpse : p ≠ se := by intro z; subst z; rw [hs] at hp; cases hp
      have hs1 : upd H' p (.tup [.int (i : Nat), .str y]) se = some (.dK kvs) := by rw [upd_ne hpse.symm]; exact hs
      have hn : valV kvs (.inr y) = none := hd y (by rw [← ey, List.drop_eq_getElem_cons hlt]; exact List.mem_cons_self ..)
      refine ⟨_, rfl, _, rfl, ?_⟩
      rcases hb with ⟨ys, e, hb⟩ | ⟨kv2, e, hb⟩
      · refine .inl ⟨b, _, rfl, .inr (SqT.of (q1 _ _ e)), rfl, flat_strs _, _, rfl, ?_⟩
        rw [in_strs, decide_eq_true (hb y hm)]
        refine iteF ⟨_, rfl, _, rfl, se, none, rfl, by rw [← hn]; exact DGet.k (k := .inr y) hs1, _, rfl, iteF ⟨_, rfl, _, rfl, se, _, rfl, DPut.k (k := .inr y) hs1 (small_line (by omega)), ?_⟩⟩
        exact ⟨q1.put hse, _, _, _, rfl, upd_same, Nat.le_trans (length_putK _ _ _) (by omega), hlt, fun x hx => first_next nd hlt ey hd hx⟩
      · refine .inr ⟨b, _, rfl, DGet.k (k := .inr y) (q1 _ _ e), _, rfl, ?_⟩
        rw [hb y hm]
        refine iteF ⟨_, rfl, _, rfl, se, none, rfl, by rw [← hn]; exact DGet.k (k := .inr y) hs1, _, rfl, iteF ⟨_, rfl, _, rfl, se, _, rfl, DPut.k (k := .inr y) hs1 (small_line (by omega)), ?_⟩⟩
        exact ⟨q1.put hse, _, _, _, rfl, upd_same, Nat.le_trans (length_putK _ _ _) (by omega), hlt, fun x hx => first_next nd hlt ey hd hx⟩
    · obtain ⟨q, u, v, kvs, rfl, hs, hk, hi, hd⟩ := q
      exact k _ q
end
end Bf
namespace Bf
open PySem PySem.Spec PyProof.Rows L2
section
variable {P : Program} {w : World} {K : PySem.W.Frag} {mg : Str → Option Value} {base : Heap}
theorem sc_need_lot : FnScope ["known", "lot", "index"] ["known", "lot"] (defScope s_need_lot) := ⟨rfl, rfl, rfl, by decide +kernel, rfl, by decide +kernel, by decide +kernel⟩
def sp_need_lot (K : PySem.W.Frag) : Sp := fun vs H Q _ => ∃ (a b : Addr) (xs : List Str), vs = [.ref b, .ref a] ∧ SqL K H a (xs.map V.str) ∧ Knows K H b xs ∧ Rising xs ∧ xs.length < 64 ∧ ∀ H' p, Same H H' → H p = none → H' p = some (.tup (xs.map V.str)) → Q (.ref p) H'
theorem has_need_lot (T : Txt K mg) (N : Fns K) : Has P w K mg base (He.ga K "need_lot") 2 ["known", "lot"] (sp_need_lot K) := by
  refine has_mk N.f_need_lot sc_need_lot (fun vs H Q E h => ?_) (fun _ _ _ _ _ _ us hl => match us, hl with | [_, _], _ => rfl) (fun cdv A outer s H vs Q E hr h => ?_)
  · obtain ⟨a, b, xs, rfl, _⟩ := h; rfl
  · obtain ⟨a, b, xs, rfl, ha, hb, ri, hl, k⟩ := h
    refine ⟨_, pss_cons (ps_set (i := 2) sc_need_lot.nd rfl (Or.inl rfl) (pe_ca (has_first_wrong T N) T.g_first_wrong hr (pa_cons (pv 1) (pa_cons (pv 0) pa_nil)))) (pss_cons (ps_if (pt_cmpR op_notN (pv 2) pe_non (by rfl)) pss_never pss_nil)
      (pss_one (ps_ret (pe_t1 call_tuple_of T.f_tuple (pe_b1 cr_sortedS T.f_sorted (pv 1)))))), ?_⟩
    refine ⟨_, rfl, _, rfl, a, b, xs, rfl, ha, hb, ri.nodup, by omega, fun H1 s1 => ?_⟩
    refine ⟨_, rfl, rfl, _, rfl, iteF ⟨_, rfl, a, xs, rfl, s1.seq ha, hl, fun ys p pm so hp => ?_⟩⟩
    obtain rfl := sorted_of_rising pm so ri
    refine ⟨p, _, rfl, .inl ⟨SqL.of upd_same, fun l hl => ?_⟩⟩
    exact k _ l ((s1.put (s1.free hp)).put ((s1.put (s1.free hp)).free hl)) ((s1.put (s1.free hp)).free hl) upd_same
theorem sc_is_lot : FnScope ["known", "thing", "item"] ["known", "thing"] (defScope s_is_lot) := ⟨rfl, rfl, rfl, by decide +kernel, rfl, by decide +kernel, by decide +kernel⟩
def sp_is_lot (K : PySem.W.Frag) : Sp := fun vs H Q _ => ∃ (a b : Addr) (xs : List Str), vs = [.ref b, .ref a] ∧ H a = some (.lst (xs.map V.str)) ∧ Knows K H b xs ∧ xs.Nodup ∧ xs.length ≤ 1000 ∧ ∀ H', Same H H' → Q (.bl true) H'
theorem has_is_lot (T : Txt K mg) (N : Fns K) : Has P w K mg base (He.ga K "is_lot") 2 ["known", "thing"] (sp_is_lot K) := by
  refine has_mk N.f_is_lot sc_is_lot (fun vs H Q E h => ?_) (fun _ _ _ _ _ _ us hl => match us, hl with | [_, _], _ => rfl) (fun cdv A outer s H vs Q E hr h => ?_)
  · obtain ⟨a, b, xs, rfl, _⟩ := h; rfl
  · obtain ⟨a, b, xs, rfl, ha, hb, nd, hl, k⟩ := h
    refine ⟨_, pss_cons (ps_if (PW.pt (pw_or (pt_not (pt_val (pe_isi "list" T.f_isinstance T.f_list (pv 1)))) (pw_or1 (pt_not (pt_val (pe_b1 (cr_all rfl) T.f_all (pe_lc (own := [("item", 2)]) (g := gName 2) (tt := tYes) (te := tCB (rIsi K) (tCons (tVar 2) (tCons (tC (.ty "str")) tNil))) rfl sc_is_lot.nd (pi_list (pv 1)) (blkOk_by (N := ["known", "thing", "item"]) (sc := defScope s_is_lot) (by decide +kernel)) (fun _ _ _ _ _ => pg_name (i := 2) sc_is_lot.nd rfl (Or.inl rfl)) (fun _ _ _ _ _ => pts_nil) (fun _ _ _ _ _ => pe_isi "str" T.f_isinstance T.f_str (pv 2))))))))) pss_never pss_nil)
      (pss_one (ps_ret (pe_cmpR op_isN (pe_ca (has_first_wrong T N) T.g_first_wrong hr (pa_cons (pv 1) (pa_cons (pv 0) pa_nil))) pe_non (by rfl)))), ?_⟩
    refine ⟨_, rfl, .ref a, .ty "list", .type "list", .type "list", true, rfl, ClsV.ty _, .base (.lst ha), kit_ty (by decide +kernel), true, rfl, ?_⟩
    refine iteF ?_
    refine ⟨_, rfl, a, rfl, ⟨_, SqL.of ha⟩, fun D hD => ?_⟩
    refine lc_pure (as := xs) (f := V.str) (p := fun _ => true) (out := fun _ => V.bl true) row_list hD (fun _ q => q.seq (SqL.of ha)) (small_line (by omega)) (fun c H' hc q Kt Kf k1 k2 => ?_) fun H' q hL => ?_
    · exact ⟨rfl, _, rfl, .str c, .ty "str", .type "str", .type "str", true, rfl, ClsV.ty _, .base (.str c), kit_ty (by decide +kernel), k1 rfl _ (Same.refl _)⟩
    · refine ⟨D, xs.map fun _ => true, rfl, SqL.of (by rw [hL, List.filter_eq_self.mpr (by simp)]; simp [List.map_map]), ?_⟩
      rw [show ((xs.map fun _ => true).all id) = true by simp]
      refine ⟨true, rfl, iteF ?_⟩
      exact ⟨_, rfl, _, rfl, a, b, xs, rfl, q.seq (SqL.of ha), hb.same q, nd, hl, fun H2 s2 => ⟨rfl, k _ (q.trans s2)⟩⟩
theorem sc_with_thing : FnScope ["lot", "thing"] ["lot", "thing"] (defScope s_with_thing) := ⟨rfl, rfl, rfl, by decide +kernel, rfl, by decide +kernel, by decide +kernel⟩
def sp_with_thing : Sp := fun vs H Q _ => ∃ (a : Addr) (xs : List Str) (t : Str), vs = [.ref a, .str t] ∧ H a = some (.tup (xs.map V.str)) ∧ xs.Nodup ∧ t ∉ xs ∧ xs.length < 63 ∧ ∀ H' p ys, Same H H' → H p = none → Rising ys → (∀ z, z ∈ ys ↔ z ∈ xs ∨ z = t) → H' p = some (.tup (ys.map V.str)) → Q (.ref p) H'
theorem has_with_thing (T : Txt K mg) (N : Fns K) : Has P w K mg base (He.ga K "with_thing") 1 ["lot", "thing"] sp_with_thing := by
  refine has_mk N.f_with_thing sc_with_thing (fun vs H Q E h => ?_) (fun _ _ _ _ _ _ us hl => match us, hl with | [_, _], _ => rfl) (fun cdv A outer s H vs Q E hr h => ?_)
  · obtain ⟨a, xs, t, rfl, _⟩ := h; rfl
  · obtain ⟨a, xs, t, rfl, ha, nd, ht, hl, k⟩ := h
    refine ⟨_, pss_one (ps_ret (pe_t1 call_tuple_of T.f_tuple (pe_b1 cr_sortedS T.f_sorted (pe_lst (StX.pa_star (pv 0) (pa_cons (pv 1) pa_nil)))))), ?_⟩
    refine ⟨_, rfl, a, xs.map V.str, rfl, .inl (SqT.of ha), _, rfl, ?_, fun l hl => ?_⟩
    · rw [List.length_append, List.length_map]; exact small_le (by simp; omega)
    · have e : xs.map V.str ++ [V.str t] = (xs ++ [t]).map V.str := by simp
      refine ⟨l, xs ++ [t], rfl, SqL.of (by rw [← e]; exact upd_same), by rw [List.length_append]; simp; omega, fun ys p pm so hp => ?_⟩
      refine ⟨p, _, rfl, .inl ⟨SqL.of upd_same, fun q hq => ?_⟩⟩
      have n2 : (xs ++ [t]).Nodup := nd_snoc nd ht
      obtain ⟨r, m⟩ := sorted_is pm so n2
      have s1 : Same H (upd H l (.lst (xs.map V.str ++ [V.str t]))) := Same.new hl
      have s2 := s1.put (o := .lst (ys.map V.str)) (s1.free hp)
      exact k _ q ys (s2.put (s2.free hq)) (s2.free hq) r (fun z => by rw [m, List.mem_append, List.mem_singleton]) upd_same
end
end Bf
namespace Bf
open PySem PySem.Spec PyProof.Rows L2
/-! ### marks of places -/
def markD (Vs : List Str) (f : Str → Str) : List (Key × V) := Vs.map fun p => ((Sum.inr p : Key), V.str (f p))
theorem markD_get {f : Str → Str} {p : Str} : ∀ {Vs : List Str}, p ∈ Vs → valV (markD Vs f) (.inr p) = some (.str (f p))
  | v :: Vs, h => by
    by_cases e : v = p
    · subst e; exact valV_pos rfl
    · show valV (((Sum.inr v : Key), V.str (f v)) :: markD Vs f) (.inr p) = _
      rw [valV_neg (fun z => e (Sum.inr.inj z))]
      exact markD_get ((List.mem_cons.mp h).resolve_left fun z => e z.symm)
theorem markD_keys {f : Str → Str} {Vs : List Str} : (markD Vs f).map (·.1) = Vs.map Sum.inr := by
  unfold markD; rw [List.map_map]; rfl
theorem markD_put {f : Str → Str} {p q : Str} {Vs : List Str} (h : p ∈ Vs) : putK (markD Vs f) (.inr p) (.str q) = markD Vs (fun x => if x = p then q else f x) := by
  have e : ((markD Vs f).any fun kv => decide (kv.1 = (Sum.inr p : Key))) = true := by rw [valV_any, markD_get h]; rfl
  unfold putK
  rw [if_pos e]
  unfold markD
  rw [List.map_map]
  refine List.map_congr_left fun x _ => ?_
  show (if (Sum.inr x : Key) = Sum.inr p then _ else _) = _
  by_cases z : x = p
  · subst z; simp
  · rw [if_neg (fun w => z (Sum.inr.inj w))]; simp [z]
theorem markD_congr {f g : Str → Str} {Vs : List Str} (h : ∀ x, x ∈ Vs → f x = g x) : markD Vs f = markD Vs g :=
  List.map_congr_left fun x hx => by rw [h x hx]
theorem markD_len {f : Str → Str} {Vs : List Str} : (markD Vs f).length = Vs.length := List.length_map _
theorem lo_hi {x y : Str} (h : x ≠ y) : ((if y.cps.toList < x.cps.toList then y else x) = x ∧ (if x.cps.toList < y.cps.toList then y else x) = y) ∨ ((if y.cps.toList < x.cps.toList then y else x) = y ∧ (if x.cps.toList < y.cps.toList then y else x) = x) := by
  have iff : ∀ a b : Str, a.cps.toList < b.cps.toList ↔ lts a b = true := fun a b => by rw [← lts_dec]; simp
  rcases lts_total h with e | e
  · have n := lts_asymm e
    exact .inl ⟨if_neg (by rw [iff, n]; simp), if_pos ((iff _ _).mpr e)⟩
  · have n := lts_asymm e
    exact .inr ⟨if_pos ((iff _ _).mpr e), if_neg (by rw [iff, n]; simp)⟩
section
variable {P : Program} {w : World} {K : PySem.W.Frag} {mg : Str → Option Value} {base : Heap}
theorem sc_marks : FnScope ["self", "lot", "found", "tie", "one", "other", "low", "high", "place"] ["self", "lot"] (defScope s_Web_marks) := ⟨rfl, rfl, rfl, by decide +kernel, rfl, by decide +kernel, by decide +kernel⟩
def sp_marks (K : PySem.W.Frag) (Vs T : List Str) (ends : Str → Str × Str) : Sp := fun vs H Q _ => ∃ (wb l : Addr) (lot : List Str), vs = [.ref wb, .ref l] ∧ WebAt K wb Vs T ends H ∧ H l = some (.tup (lot.map V.str)) ∧ (∀ x, x ∈ lot → x ∈ T) ∧
  ∀ H' p f, Same H H' → H p = none → H' p = some (.dK (markD Vs f)) → BfM.MarkOk ends Vs (· ∈ lot) f → Q (.ref p) H'
theorem has_marks {Vs T : List Str} {ends : Str → Str × Str} (X : Txt K mg) (N : Fns K) : Has P w K mg base (He.ma K (He.ga K "Web") "marks") 1 ["self", "lot"] (sp_marks K Vs T ends) := by
  refine has_mk N.f_Web_marks sc_marks (fun vs H Q E h => ?_) (fun _ _ _ _ _ _ us hl => match us, hl with | [_, _], _ => rfl) (fun cdv A outer s H vs Q E hr h => ?_)
  · obtain ⟨a, b, xs, rfl, _⟩ := h; rfl
  · obtain ⟨wb, l, lot, rfl, hw, hl, sub, k⟩ := h
    have ok := hw.ok
    refine ⟨_, pss_cons (ps_setDc (i := 2) (own := [("place", 8)]) (g := gName 8) (tt := tYes) (tk := tVar 8) (tv := tVar 8) rfl sc_marks.nd rfl rfl (swd_true rfl rfl (by rfl) (by decide +kernel)) (blkOk_by (N := ["self", "lot", "found", "tie", "one", "other", "low", "high", "place"]) (sc := defScope s_Web_marks) (by decide +kernel)) (pi_tup (pe_fld (pv 0) (by rfl))) (fun _ _ _ _ _ => pg_name (i := 8) sc_marks.nd rfl (Or.inl rfl)) (fun _ _ _ _ _ => pts_nil) (fun _ _ _ _ _ => pv 8) (fun _ _ _ _ _ => pv 8))
      (pss_cons (ps_for PassesOwn.never rfl (pi_tup (pv 1)) (pg_name (i := 3) sc_marks.nd rfl (Or.inl rfl))
        (pss_cons (ps_par (i := 4) (j := 5) rfl sc_marks.nd rfl rfl (by decide) rfl rfl (pa_cons (pe_dget (hu_of hr) (pv 2) (pe_ix ix_tup (pe_dget (hu_of hr) (pe_fld (pv 0) (by rfl)) (pv 3) (fun _ _ => rfl)) pe_int (fun _ _ => rfl)) (fun _ _ => rfl)) (pa_cons (pe_dget (hu_of hr) (pv 2) (pe_ix ix_tup (pe_dget (hu_of hr) (pe_fld (pv 0) (by rfl)) (pv 3) (fun _ _ => rfl)) pe_int (fun _ _ => rfl)) (fun _ _ => rfl)) pa_nil)) (by rfl))
          (pss_one (ps_if (pt_cmpR op_ne (pv 4) (pv 5) (by rfl)) (pss_cons (ps_par (i := 6) (j := 7) rfl sc_marks.nd rfl rfl (by decide) rfl rfl (pa_cons (pe_b2 (BfR.call_minS rfl) X.f_min (pv 4) (pv 5)) (pa_cons (pe_b2 (BfR.call_maxS rfl) X.f_max (pv 4) (pv 5)) pa_nil)) (by rfl))
            (pss_one (ps_for PassesOwn.never rfl (pi_tup (pe_fld (pv 0) (by rfl))) (pg_name (i := 8) sc_marks.nd rfl (Or.inl rfl)) (pss_one (ps_if (pt_cmpR op_eq (pe_dget (hu_of hr) (pv 2) (pv 8) (fun _ _ => rfl)) (pv 7) (by rfl)) (pss_one (ps_dput (hu_of hr) (pv 2) (pv 8) (pv 6) (by rfl))) pss_nil))))) pss_nil))))
      (pss_one (ps_ret (pv 2)))), ?_⟩
    obtain ⟨⟨dx, ka, ea, kve, hwb, hka, hea, kys, hen⟩, _⟩ := hw
    refine ⟨_, rfl, wb, _, dx, _, _, rfl, hwb, X.c_Web, X.n_Web_known, rfl, ka, rfl, ⟨_, SqT.of hka⟩, fun fo hfo => ?_⟩
    refine dc_row row_tup (fun i acc H' => Same H H' ∧ acc = markD (Vs.take i) (fun p => p)) ⟨Same.refl _, rfl⟩ hfo (fun i acc H' o q => ⟨q.1.put hfo, q.2⟩) (fun i acc H' q => SqT.of (q.1 _ _ hka)) (small_line (by rw [List.length_map]; have := ok.fewV; omega)) (fun i x acc H' hx q hL Kt Kf kk => ?_) fun acc H' q hL => ?_
    · obtain ⟨p, hp, rfl⟩ := get_map hx
      refine ⟨rfl, _, rfl, _, rfl, kk (.inr p) _ H' ⟨q.1, ?_⟩ hL⟩
      obtain ⟨hlt, ep⟩ := List.getElem?_eq_some_iff.mp hp
      have nin : p ∉ Vs.take i := fun z => by
        obtain ⟨j, hj, e⟩ := List.mem_take_iff_getElem.mp z
        have := (List.getElem_inj ok.rV.nodup).mp (e.trans ep.symm)
        omega
      rw [take_succ_get hp, q.2, putK_new _ (by
        cases e : valV (markD (Vs.take i) fun p => p) (.inr p) with
        | none => rfl
        | some v => have := valV_in e; rw [markD_keys] at this; obtain ⟨y, hy, e2⟩ := List.mem_map.mp this; cases e2; exact absurd hy nin)]
      unfold markD
      rw [List.map_append]; rfl
    rw [List.length_map, List.take_length] at q
    obtain ⟨s0, rfl⟩ := q
    refine ⟨_, rfl, l, rfl, ⟨_, SqT.of (s0 _ _ hl)⟩, ?_⟩
    refine for_row row_tup (fun i σ H' => Same H H' ∧ ∃ f u3 u4 u5 u6 u7 u8, σ = [some (.ref wb), some (.ref l), some (.ref fo), u3, u4, u5, u6, u7, u8] ∧ H' fo = some (.dK (markD Vs f)) ∧ BfM.MarkOk ends Vs (· ∈ lot.take i) f) ?_ (fun i σ H' _ q => SqT.of (q.1 _ _ hl)) (fun i x σ H' hx q => ?_) (fun σ H' q => ?_)
    · exact ⟨s0, fun p => p, none, none, none, none, none, none, rfl, hL, BfM.mark_congr (BfM.mark_id Vs) fun z => by simp⟩
    · obtain ⟨t, ht, rfl⟩ := get_map hx
      obtain ⟨q, f, u3, u4, u5, u6, u7, u8, rfl, hf, m⟩ := q
      obtain ⟨p, e1, e2⟩ := hen t (sub t (List.mem_of_getElem? ht))
      have g1 : DGet H' ea (.str t) (some (.ref p)) := by have := DGet.k (k := .inr t) (q _ _ hea); rw [e1] at this; exact this
      have m1 := ok.web.ends1 t
      have m2 := ok.web.ends2 t
      have g2 : DGet H' fo (.str (ends t).1) (some (.str (f (ends t).1))) := by have := DGet.k (k := .inr (ends t).1) hf; rw [markD_get m1] at this; exact this
      have g3 : DGet H' fo (.str (ends t).2) (some (.str (f (ends t).2))) := by have := DGet.k (k := .inr (ends t).2) hf; rw [markD_get m2] at this; exact this
      refine ⟨_, rfl, _, rfl, wb, _, dx, _, _, rfl, q _ _ hwb, X.c_Web, X.n_Web_ending, rfl, _, rfl, ea, .ref p, rfl, g1, p, _, 0, _, rfl, rfl, SqT.of (q _ _ e2), rfl, fo, _, rfl, g2, ?_⟩
      refine ⟨_, rfl, _, rfl, wb, _, dx, _, _, rfl, q _ _ hwb, X.c_Web, X.n_Web_ending, rfl, _, rfl, ea, .ref p, rfl, g1, p, _, 1, _, rfl, rfl, SqT.of (q _ _ e2), rfl, fo, _, rfl, g3, ?_⟩
      refine ⟨_, _, rfl, _, rfl, _, rfl, rfl, _, rfl, ?_⟩
      have tk : lot.take (i + 1) = lot.take i ++ [t] := take_succ_get ht
      have memt : ∀ z, z ∈ lot.take (i + 1) ↔ z ∈ lot.take i ∨ z = t := fun z => by rw [tk, List.mem_append, List.mem_singleton]
      by_cases ee : f (ends t).1 = f (ends t).2
      · rw [ee]
        simp only [decide_true, Bool.not_true]
        exact iteF ⟨q, f, _, _, _, _, _, _, rfl, hf, BfM.mark_congr (BfM.mark_same m m1 m2 ee) fun z => (memt z).symm⟩
      · have : (!decide (V.str (f (ends t).1) = V.str (f (ends t).2))) = true := by simp [ee]
        rw [this]
        refine iteT ⟨_, rfl, _, rfl, _, _, rfl, _, rfl, _, rfl, _, _, rfl, _, _, rfl, ?_⟩
        have lh := lo_hi ee
        revert lh
        generalize (if (f (ends t).2).cps.toList < (f (ends t).1).cps.toList then f (ends t).2 else f (ends t).1) = lo
        generalize (if (f (ends t).1).cps.toList < (f (ends t).2).cps.toList then f (ends t).2 else f (ends t).1) = hi
        intro lh
        refine ⟨_, rfl, wb, _, dx, _, _, rfl, q _ _ hwb, X.c_Web, X.n_Web_known, rfl, ka, rfl, ⟨_, SqT.of (q _ _ hka)⟩, ?_⟩
        refine for_row row_tup (fun j σ H'' => Same H H'' ∧ ∃ u8, σ = [some (.ref wb), some (.ref l), some (.ref fo), some (.str t), some (.str (f (ends t).1)), some (.str (f (ends t).2)), some (.str lo), some (.str hi), u8] ∧ H'' fo = some (.dK (markD Vs fun x => if x ∈ Vs.take j ∧ f x = hi then lo else f x))) ?_ (fun i σ H' _ q => SqT.of (q.1 _ _ hka)) (fun j x σ H'' hx q => ?_) (fun σ H'' q => ?_)
        · exact ⟨q, _, rfl, by rw [hf]; simp⟩
        · obtain ⟨a, ha, rfl⟩ := get_map hx
          obtain ⟨q, u8, rfl, hf⟩ := q
          have ma : a ∈ Vs := List.mem_of_getElem? ha
          obtain ⟨hlt, ep⟩ := List.getElem?_eq_some_iff.mp ha
          have nin : a ∉ Vs.take j := fun z => by
            obtain ⟨i, hi, e⟩ := List.mem_take_iff_getElem.mp z
            have := (List.getElem_inj ok.rV.nodup).mp (e.trans ep.symm)
            omega
          have g4 : DGet H'' fo (.str a) (some (.str (f a))) := by have := DGet.k (k := .inr a) hf; rw [markD_get ma, if_neg (fun z => nin z.1)] at this; exact this
          refine ⟨_, rfl, _, rfl, fo, _, rfl, g4, _, rfl, rfl, _, rfl, ?_⟩
          by_cases eh : f a = hi
          · rw [eh, decide_eq_true rfl]
            refine iteT ⟨_, rfl, _, rfl, _, rfl, fo, _, rfl, DPut.k (k := .inr a) hf (by rw [markD_len]; exact small_line (by have := ok.fewV; omega)), ?_⟩
            refine ⟨q.put hfo, _, rfl, ?_⟩
            rw [upd_same, markD_put ma]
            refine congrArg _ (congrArg _ (markD_congr fun x hx => ?_))
            by_cases xa : x = a
            · subst xa; rw [if_pos rfl, if_pos ⟨by rw [take_succ_get ha]; simp, eh⟩]
            · rw [if_neg xa, take_succ_get ha]; simp [xa]
          · have : decide (V.str (f a) = V.str hi) = false := by simp [eh]
            rw [this]
            refine iteF ⟨q, _, rfl, ?_⟩
            rw [hf]
            refine congrArg _ (congrArg _ (markD_congr fun x hx => ?_))
            by_cases xa : x = a
            · subst xa; rw [if_neg (fun z => eh z.2), if_neg (fun z => eh z.2)]
            · rw [take_succ_get ha]; simp [xa]
        · obtain ⟨q, u8, rfl, hf⟩ := q
          rw [List.length_map, List.take_length] at hf
          refine ⟨q, _, _, _, _, _, _, _, rfl, hf, BfM.mark_congr (BfM.mark_merge (lo := lo) (hi := hi) m ok.rV.nodup m1 m2 ee lh fun p hp => ?_).1 fun z => (memt z).symm⟩
          simp [hp]
    · obtain ⟨q, f, u3, u4, u5, u6, u7, u8, rfl, hf, m⟩ := q
      rw [List.length_map, List.take_length] at m
      exact ⟨_, rfl, k _ fo f q hfo hf m⟩
end
end Bf
namespace Bf
open PySem PySem.Spec PyProof.Rows L2
section
variable {P : Program} {w : World} {K : PySem.W.Frag} {mg : Str → Option Value} {base : Heap}
theorem sc_count_free : FnScope ["self", "lot", "found", "place"] ["self", "lot"] (defScope s_Web_count_free) := ⟨rfl, rfl, rfl, by decide +kernel, rfl, by decide +kernel, by decide +kernel⟩
def sp_count_free (K : PySem.W.Frag) : Sp := fun vs H Q _ => ∃ (wb l : Addr) (Vs T lot : List Str) (ends : Str → Str × Str), vs = [.ref wb, .ref l] ∧ WebAt K wb Vs T ends H ∧ H l = some (.tup (lot.map V.str)) ∧ (∀ x, x ∈ lot → x ∈ T) ∧
  ∀ H', Same H H' → Q (.int (BfM.rk ends Vs lot : Nat)) H'
theorem has_count_free (X : Txt K mg) (N : Fns K) : Has P w K mg base (He.ma K (He.ga K "Web") "count_free") 2 ["self", "lot"] (sp_count_free K) := by
  refine has_mk N.f_Web_count_free sc_count_free (fun vs H Q E h => ?_) (fun _ _ _ _ _ _ us hl => match us, hl with | [_, _], _ => rfl) (fun cdv A outer s H vs Q E hr h => ?_)
  · obtain ⟨a, b, Vs, T, lot, ends, rfl, _⟩ := h; rfl
  · obtain ⟨wb, l, Vs, T, lot, ends, rfl, hw, hl, sub, k⟩ := h
    have ok := hw.ok
    refine ⟨_, pss_cons (ps_set (i := 2) sc_count_free.nd rfl (Or.inr rfl) (pe_me (pv 0) (has_marks (Vs := Vs) (T := T) (ends := ends) X N) X.c_Web X.m_Web_marks hr (pa_cons (pv 1) pa_nil)))
      (pss_one (ps_ret (pe_b1 call_len_seq X.f_len (pe_lc (own := [("place", 3)]) (g := gName 3) (tt := tTest (tOp rNe (tDGet (tVar 2) (tVar 3)) (tVar 3))) (te := tVar 3) rfl sc_count_free.nd (pi_tup (pe_fld (pv 0) (by rfl))) (blkOk_by (N := ["self", "lot", "found", "place"]) (sc := defScope s_Web_count_free) (by decide +kernel)) (fun _ _ _ _ _ => pg_name (i := 3) sc_count_free.nd rfl (Or.inl rfl)) (fun _ _ _ _ _ => pts_one (pt_cmpR op_ne (pe_dget (hu_of hr) (pv 2) (pv 3) (fun _ _ => rfl)) (pv 3) (by rfl))) (fun _ _ _ _ _ => pv 3))))), ?_⟩
    have hw0 := hw
    obtain ⟨⟨dx, ka, ea, kve, hwb, hka, hea, kys, hen⟩, _⟩ := hw
    refine ⟨_, rfl, wb, dx, _, rfl, hwb, rfl, _, rfl, wb, l, lot, rfl, hw0, hl, sub, fun H1 fo f s1 hfo hf m => ?_⟩
    refine ⟨_, rfl, wb, _, dx, _, _, rfl, s1 _ _ hwb, X.c_Web, X.n_Web_known, rfl, ka, rfl, ⟨_, SqT.of (s1 _ _ hka)⟩, fun D hD => ?_⟩
    refine lc_pure (as := Vs) (f := V.str) (p := fun p => decide (f p ≠ p)) (out := V.str) row_tup hD (fun _ q => SqT.of (q _ _ (s1 _ _ hka))) (small_line (by have := ok.fewV; omega)) (fun c H' hc q Kt Kf k1 k2 => ?_) fun H' q hL => ?_
    · have g4 : DGet H' fo (.str c) (some (.str (f c))) := by have := DGet.k (k := .inr c) (q _ _ hf); rw [markD_get hc] at this; exact this
      refine ⟨rfl, _, rfl, _, rfl, fo, _, rfl, g4, _, rfl, rfl, _, rfl, ?_⟩
      by_cases e : f c = c
      · rw [show (!decide (V.str (f c) = V.str c)) = false by simp [e]]
        exact iteF (k2 (by simp [e]) _ (Same.refl _))
      · rw [show (!decide (V.str (f c) = V.str c)) = true by simp [e]]
        exact iteT ⟨_, rfl, k1 (by simp [e]) _ (Same.refl _)⟩
    · refine ⟨D, _, rfl, .inl (SqL.of hL), ?_⟩
      rw [List.length_map, BfM.filter_len]
      have := BfM.rk_of ok.web m
      unfold BfM.nonroots at this
      rw [this]
      exact k _ (s1.trans q)
theorem sc_rank : FnScope ["self", "lot"] ["self", "lot"] (defScope s_Family_rank_of) := ⟨rfl, rfl, rfl, by decide +kernel, rfl, by decide +kernel, by decide +kernel⟩
def sp_rank (K : PySem.W.Frag) : Sp := fun vs H Q _ => ∃ (fa d na wb l : Addr) (Vs T lot : List Str) (ends : Str → Str × Str), vs = [.ref fa, .ref l] ∧ Fam K fa d na wb Vs T ends H ∧ H l = some (.tup (lot.map V.str)) ∧ Rising lot ∧ (∀ x, x ∈ lot → x ∈ T) ∧
  ∀ H', Fk K fa d na wb Vs T ends H H' → Q (.int (BfM.rk ends Vs lot : Nat)) H'
theorem has_rank (X : Txt K mg) (N : Fns K) : Has P w K mg base (He.ma K (He.ga K "Family") "rank_of") 3 ["self", "lot"] (sp_rank K) := by
  refine has_mk N.f_Family_rank_of sc_rank (fun vs H Q E h => ?_) (fun _ _ _ _ _ _ us hl => match us, hl with | [_, _], _ => rfl) (fun cdv A outer s H vs Q E hr h => ?_)
  · obtain ⟨fa, d, na, wb, l, Vs, T, lot, ends, rfl, _⟩ := h; rfl
  · obtain ⟨fa, d, na, wb, l, Vs, T, lot, ends, rfl, hf, hl, ri, sub, k⟩ := h
    refine ⟨_, pss_cons (ps_if (pt_cmpR (op_notInK (hu_of hr)) (pv 1) (pe_fld (pv 0) (by rfl)) (by rfl)) (pss_one (ps_dput (hu_of hr) (pe_fld (pv 0) (by rfl)) (pv 1) (pe_me (pe_fld (pv 0) (by rfl)) (has_count_free X N) X.c_Web X.m_Web_count_free hr (pa_cons (pv 1) pa_nil)) (by rfl))) pss_nil)
      (pss_one (ps_ret (pe_dget (hu_of hr) (pe_fld (pv 0) (by rfl)) (pv 1) (fun _ _ => rfl)))), ?_⟩
    have hf0 := hf
    obtain ⟨⟨dx, h1⟩, h2, h3, ⟨kvs, h4, h5⟩⟩ := hf
    have hk : H l = some (.tup ((lot.map fun x => (Sum.inr x : Key)).map kV)) := by rw [strs_key]; exact hl
    refine ⟨_, rfl, _, rfl, fa, _, dx, _, _, rfl, h1, X.c_Family, X.n_Family_counted, rfl, d, _, rfl, DGet.t h4 hk, _, rfl, ?_⟩
    cases e : valV kvs (lot.map fun x => (Sum.inr x : Key)) with
    | some v =>
      refine iteF ?_
      refine ⟨_, rfl, fa, _, dx, _, _, rfl, h1, X.c_Family, X.n_Family_counted, rfl, _, rfl, d, v, rfl, by rw [← e]; exact DGet.t h4 hk, ?_⟩
      have := h5.get e
      rw [this]
      exact k _ (Fk.refl hf0)
    | none =>
      refine iteT ?_
      obtain ⟨dw, ka, ea, kve, hwb, _⟩ := h3.ex
      refine ⟨_, rfl, fa, _, dx, _, _, rfl, h1, X.c_Family, X.n_Family_source, rfl, wb, dw, _, rfl, hwb, rfl, _, rfl, wb, l, Vs, T, lot, ends, rfl, h3, hl, sub, fun H1 s1 => ?_⟩
      refine ⟨_, rfl, fa, _, dx, _, _, rfl, s1 _ _ h1, X.c_Family, X.n_Family_counted, rfl, _, rfl, d, _, rfl, DPut.t (s1 _ _ h4) (s1 _ _ hk) (small_line (by have := h5.few hf0.ok.rT hf0.ok.few; omega)), ?_⟩
      have nf : fa ≠ d := ne_of h1 h4 (by simp)
      have nl : l ≠ d := ne_of hl h4 (by simp)
      have f1 : Kp [d] H1 (upd H1 d (.dT (putK kvs (lot.map fun x => (Sum.inr x : Key)) (.int (BfM.rk ends Vs lot : Nat))))) := (Kp.refl _ _).put (.inr (by simp))
      have f2 : Fam K fa d na wb Vs T ends (upd H1 d (.dT (putK kvs (lot.map fun x => (Sum.inr x : Key)) (.int (BfM.rk ends Vs lot : Nat))))) := (hf0.same s1).keep f1 ⟨_, upd_same, h5.put e ri sub⟩
      refine ⟨_, rfl, fa, _, dx, _, _, rfl, by rw [upd_ne nf]; exact s1 _ _ h1, X.c_Family, X.n_Family_counted, rfl, _, rfl, d, .int (BfM.rk ends Vs lot : Nat), rfl, ?_, k _ ⟨(Kp.of s1).trans f1, hf0, f2⟩⟩
      have := DGet.t (a := d) (b := l) (H := upd H1 d (.dT (putK kvs (lot.map fun x => (Sum.inr x : Key)) (.int (BfM.rk ends Vs lot : Nat))))) upd_same (k := lot.map fun x => (Sum.inr x : Key)) (by rw [upd_ne nl]; exact s1 _ _ hk)
      rw [valV_put, if_pos rfl] at this
      exact this
theorem sc_len : FnScope ["self"] ["self"] (defScope s_Family_len) := ⟨rfl, rfl, rfl, by decide +kernel, rfl, by decide +kernel, by decide +kernel⟩
def sp_len (K : PySem.W.Frag) : Sp := fun vs H Q _ => ∃ (fa d na wb : Addr) (Vs T : List Str) (ends : Str → Str × Str), vs = [.ref fa] ∧ Fam K fa d na wb Vs T ends H ∧ Q (.int (T.length : Nat)) H
theorem has_len (X : Txt K mg) (N : Fns K) : Has P w K mg base (He.ma K (He.ga K "Family") "__len__") 1 ["self"] (sp_len K) := by
  refine has_mk N.f_Family_len sc_len (fun vs H Q E h => ?_) (fun _ _ _ _ _ _ us hl => match us, hl with | [_], _ => rfl) (fun cdv A outer s H vs Q E hr h => ?_)
  · obtain ⟨fa, d, na, wb, Vs, T, ends, rfl, _⟩ := h; rfl
  · obtain ⟨fa, d, na, wb, Vs, T, ends, rfl, hf, k⟩ := h
    refine ⟨_, pss_one (ps_ret (pe_b1 call_len_seq X.f_len (pe_fld (pv 0) (by rfl)))), ?_⟩
    obtain ⟨dx, h1⟩ := hf.self
    refine ⟨_, rfl, fa, _, dx, _, _, rfl, h1, X.c_Family, X.n_Family_names, rfl, na, _, rfl, .inr (SqT.of hf.names), ?_⟩
    rw [List.length_map]
    exact k
theorem sc_stuck : FnScope ["self", "thing"] ["self"] (defScope s_Family_stuck) := ⟨rfl, rfl, rfl, by decide +kernel, rfl, by decide +kernel, by decide +kernel⟩
def sp_stuck (K : PySem.W.Frag) : Sp := fun vs H Q _ => ∃ (fa d na wb : Addr) (Vs T : List Str) (ends : Str → Str × Str), vs = [.ref fa] ∧ Fam K fa d na wb Vs T ends H ∧
  ∀ H' p, Fk K fa d na wb Vs T ends H H' → H p = none → H' p = some (.lst ((T.filter fun t => decide (BfM.rk ends Vs [t] = 0)).map V.str)) → Q (.ref p) H'
theorem has_stuck (X : Txt K mg) (N : Fns K) : Has P w K mg base (He.ma K (He.ga K "Family") "stuck") 4 ["self"] (sp_stuck K) := by
  refine has_mk N.f_Family_stuck sc_stuck (fun vs H Q E h => ?_) (fun _ _ _ _ _ _ us hl => match us, hl with | [_], _ => rfl) (fun cdv A outer s H vs Q E hr h => ?_)
  · obtain ⟨fa, d, na, wb, Vs, T, ends, rfl, _⟩ := h; rfl
  · obtain ⟨fa, d, na, wb, Vs, T, ends, rfl, hf, k⟩ := h
    refine ⟨_, pss_one (ps_ret (pe_lc (own := [("thing", 1)]) (g := gName 1) (tt := tTest (tOp rEq (tMe (He.ga K "Family") "rank_of" (sp_rank K) (tVar 0) (tCons (tTup (tCons (tVar 1) tNil)) tNil)) (tC (.int 0)))) (te := tVar 1) rfl sc_stuck.nd (pi_tup (pe_fld (pv 0) (by rfl))) (blkOk_by (N := ["self", "thing"]) (sc := defScope s_Family_stuck) (by decide +kernel)) (fun _ _ _ _ _ => pg_name (i := 1) sc_stuck.nd rfl (Or.inl rfl)) (fun _ _ _ _ _ => pts_one (pt_cmpR op_eq (pe_me (pv 0) (has_rank X N) X.c_Family X.m_Family_rank_of hr (pa_cons (pe_tup (pa_cons (pv 1) pa_nil)) pa_nil)) pe_int (by rfl))) (fun _ _ _ _ _ => pv 1))), ?_⟩
    obtain ⟨dx, h1⟩ := hf.self
    refine ⟨_, rfl, fa, _, dx, _, _, rfl, h1, X.c_Family, X.n_Family_names, rfl, na, rfl, ⟨_, SqT.of hf.names⟩, fun D hD => ?_⟩
    refine lc_row row_tup (fun i acc H' => Fk K fa d na wb Vs T ends H H' ∧ acc = ((T.take i).filter fun t => decide (BfM.rk ends Vs [t] = 0)).map V.str) ⟨Fk.refl hf, rfl⟩ hD (fun i acc H' o q => ⟨q.1.put hD, q.2⟩) (fun i acc H' q => SqT.of q.1.fam.names) (small_line (by rw [List.length_map]; have := hf.ok.few; omega)) (fun i x acc H' hx q hL Kt Kf k1 k2 => ?_) fun acc H' q hL => ?_
    · obtain ⟨t, ht, rfl⟩ := get_map hx
      have mt : t ∈ T := List.mem_of_getElem? ht
      refine ⟨rfl, _, rfl, fa, dx, _, rfl, q.1.at h1, rfl, _, rfl, small_le (by simp), fun p hp => ?_⟩
      refine ⟨fa, d, na, wb, p, Vs, T, [t], ends, rfl, q.1.fam.same (Same.new hp), upd_same, List.pairwise_singleton .., fun x hx => by rw [List.mem_singleton.mp hx]; exact mt, fun H2 f2 => ?_⟩
      have f3 : Fk K fa d na wb Vs T ends H H2 := (q.1.then_ (Same.new hp)).trans f2
      have hL2 : H2 D = some (.lst acc) := f2.at (by rw [upd_ne (ne_of_none hL hp)]; exact hL)
      refine ⟨rfl, _, rfl, ?_⟩
      rw [dec_int]
      by_cases e : BfM.rk ends Vs [t] = 0
      · rw [show (((BfM.rk ends Vs [t] : Nat) : Int) == 0) = true by simp [e]]
        exact iteT ⟨_, rfl, k1 _ _ ⟨f3, by rw [take_succ_get ht, List.filter_append, q.2]; simp [e]⟩ hL2⟩
      · rw [show (((BfM.rk ends Vs [t] : Nat) : Int) == 0) = false by simp [e]]
        exact iteF (k2 _ ⟨f3, by rw [take_succ_get ht, List.filter_append, q.2]; simp [e]⟩ hL2)
    · rw [List.length_map, List.take_length] at q
      exact k _ D q.1 hD (by rw [hL, q.2])
end
end Bf
namespace BfR
open PySem PySem.Spec PyProof.Rows L2
section
variable {X : Cx}
/-- sorted(tuple of texts), fewer than 64 -/
theorem cr_sortedTup : CallR X (.builtin "sorted") (fun xs H Q => ∃ (a : Addr) (zs : List Str), xs = [.ref a] ∧ SqT X.K H a (zs.map V.str) ∧ zs.length < 64 ∧
    ∀ ys p, ys.Perm zs → sortedS ys = true → H p = none → Q (.ref p) (upd H p (.lst (ys.map V.str)))) := by
  rintro pins s σ H xs us Q I r ⟨a, zs, rfl, ht, few, q⟩
  rw [Vals.ref1 r]
  obtain ⟨its, rv, ⟨o, ho, hc, n, hd⟩, big⟩ := I.tuple ht
  have hS := rv.strs
  have same : its.length = zs.length := by rw [← rv.length, List.length_map]
  refine Calls.call_function_entry PyProof.Rows.kind_sorted PyProof.Rows.plain_sorted PyProof.Rows.entry_sorted (PyProof.Rows.args_sorted1 _) ?_
  unfold Builtin.«sorted»
  refine wpAny_bind (m := checkCount "sorted" 1 1 _) (wpAny_pure ?_)
  refine wpAny_bind (wpAny_collect_seq a (.inr rfl) ho hc hd (fun g kept => ?_) (by rw [List.size_toArray, same, sizeLine_eq]; omega))
  have I1 : Inv X pins σ H { s with heap := g } := I.kept (t' := s.toks) kept
  show wpAny _ _ (newList its >>= _) _ _ _
  refine wpAny_bind (wpAny_newList ?_ (by rw [same, sizeLine_eq]; omega))
  have at_ : (g.push (seqObj "list" its.toArray 0)).get? g.objs.size = some (seqObj "list" its.toArray 0) := Heap.get?_push_size _ rfl
  refine wpAny_bind (wpAny_holding (wpAny_call_entry PyProof.Rows.slot_list_sort ⟨_, at_, rfl⟩ PyProof.Rows.entry_list_sort
    (list_sort_treeK strKind_oneLt (s := { s with heap := g.push (seqObj "list" its.toArray 0) }) at_ hS.keysOf (fun v₁ v₂ rest e => keyKind_strs (by rw [← e]; exact hS)) (by rw [same]; exact few) fun z h1 h2 => ⟨_, rfl, ?_⟩) (PyProof.Rows.args_list_sort _)))
  obtain ⟨ys, b1, b2, b3⟩ := sorted_out_str hS h1 h2
  obtain ⟨e, he⟩ := PyProof.Rows.sortedHeap_at (vs := its) (out := (arrOf z).map (·.2)) at_
  have size : (ys.map V.str).length ≤ sizeLine := by
    rw [List.length_map, b2.length_eq, sizeLine_eq]
    omega
  have old : ∀ b u, g.get? b = some u → (PyProof.Rows.sortedHeap (g.push (seqObj "list" its.toArray 0)) g.objs.size its ((arrOf z).map (·.2))).get? b = some u := fun b u hb => by
    have lt : b < g.objs.size := Heap.lt_size hb
    rw [PyProof.Rows.sortedHeap_old (Nat.ne_of_lt lt) (by rw [size_push']; exact Nat.lt_succ_of_lt lt)]
    exact Heap.get?_push_of_some _ hb
  exact wpAny_pure ⟨_, rfl, .ref g.objs.size, upd H g.objs.size (.lst (ys.map V.str)), I1.laid (t' := s.toks) old (Nat.le_refl _)
    (show ObjOk X.prog X.w _ _ _ (.lst (ys.map V.str)) from ⟨size, ((arrOf z).map (·.2)).toList, e, vals_of_strs b1, by rw [Array.toArray_toList]; exact he⟩), rfl, q ys _ b2 b3 (I1.hok.fresh (Nat.le_refl _))⟩
end
end BfR
namespace Bf
open PySem PySem.Spec PyProof.Rows L2
def rTupleOf (K : PySem.W.Frag) : List V → Hp → VK → Prop := fun xs H Q => ∃ p ys, xs = [.ref p] ∧ ((SqL K H p ys ∧ ∀ l, H l = none → Q (.ref l) (upd H l (.tup ys))) ∨ (SqT K H p ys ∧ Q (.ref p) H))
def rSortedTup (K : PySem.W.Frag) : List V → Hp → VK → Prop := fun xs H Q => ∃ (a : Addr) (zs : List Str), xs = [.ref a] ∧ SqT K H a (zs.map V.str) ∧ zs.length < 64 ∧ ∀ ys p, ys.Perm zs → sortedS ys = true → H p = none → Q (.ref p) (upd H p (.lst (ys.map V.str)))
end Bf
namespace Bf
open PySem PySem.Spec PyProof.Rows L2
def sortP (p : Str × Str) : Str × Str := if lts p.2 p.1 = true then (p.2, p.1) else p
theorem sortP_mem {p : Str × Str} {Vs : List Str} (h1 : p.1 ∈ Vs) (h2 : p.2 ∈ Vs) : (sortP p).1 ∈ Vs ∧ (sortP p).2 ∈ Vs := by
  unfold sortP; split <;> exact ⟨by assumption, by assumption⟩
theorem sorted_pair {x y : Str} {ys : List Str} (pm : ys.Perm [x, y]) (so : sortedS ys = true) : ys = [(sortP (x, y)).1, (sortP (x, y)).2] := by
  match ys, pm.length_eq with
  | [a, b], _ =>
    have h' : (!ltCps b.cps.toList a.cps.toList && sortedS [b]) = true := so
    rw [Bool.and_eq_true] at h'
    have nb : lts b a = false := by
      have := h'.1
      rw [Bool.not_eq_true'] at this
      exact this
    have ma : a ∈ [x, y] := pm.mem_iff.mp (by simp)
    have key : (a = x ∧ b = y) ∨ (a = y ∧ b = x) := by
      rcases List.mem_cons.mp ma with e | e
      · subst e
        exact .inl ⟨rfl, by have := List.Perm.cons_inv pm; simpa using this⟩
      · rw [List.mem_singleton] at e
        subst e
        exact .inr ⟨rfl, by have := List.Perm.cons_inv (pm.trans (List.Perm.swap _ _ _)); simpa using this⟩
    unfold sortP
    rcases key with ⟨rfl, rfl⟩ | ⟨rfl, rfl⟩
    · rw [if_neg (by rw [nb]; simp)]
    · by_cases e : a = b
      · subst e; simp
      · rcases lts_total e with z | z
        · rw [if_pos z]
        · rw [nb] at z; cases z
section
variable {P : Program} {w : World} {K : PySem.W.Frag} {mg : Str → Option Value} {base : Heap}
theorem sc_finit : FnScope ["self", "names", "world"] ["self", "names", "world"] (defScope s_Family_init) := ⟨rfl, rfl, rfl, by decide +kernel, rfl, by decide +kernel, by decide +kernel⟩
def sp_finit (K : PySem.W.Frag) : Sp := fun vs H Q _ => ∃ (fa dx nl wb : Addr) (Vs T : List Str) (ends : Str → Str × Str), vs = [.ref fa, .ref nl, .ref wb] ∧ H fa = some (.ins (He.ga K "Family") dx []) ∧ H nl = some (.lst (T.map V.str)) ∧ WebAt K wb Vs T ends H ∧
  ∀ H' d na, Kp [fa] H H' → H d = none → H na = none → Fam K fa d na wb Vs T ends H' → Q .non H'
theorem Kp.web {fa wb : Addr} {Vs T : List Str} {ends : Str → Str × Str} {H H1 : Hp} {C dx : Addr} (h : WebAt K wb Vs T ends H) (hd : H fa = some (.ins C dx [])) (k : Kp [fa] H H1) : WebAt K wb Vs T ends H1 := by
  obtain ⟨⟨dw, ka, ea, kvs, h1, h2, h3, h4, h5⟩, ok⟩ := h
  refine ⟨⟨dw, ka, ea, kvs, k.kind hd h1 (by simp), k.kind hd h2 (by simp), k.kind hd h3 (by simp), h4, fun t ht => ?_⟩, ok⟩
  obtain ⟨p, e1, e2⟩ := h5 t ht
  exact ⟨p, e1, k.kind hd e2 (by simp)⟩
theorem has_finit (X : Txt K mg) (N : Fns K) : Has P w K mg base (He.ma K (He.ga K "Family") "__init__") 1 ["self", "names", "world"] (sp_finit K) := by
  refine has_mk N.f_Family_init sc_finit (fun vs H Q E h => ?_) (fun _ _ _ _ _ _ us hl => match us, hl with | [_, _, _], _ => rfl) (fun cdv A outer s H vs Q E hr h => ?_)
  · obtain ⟨fa, dx, nl, wb, Vs, T, ends, rfl, _⟩ := h; rfl
  · obtain ⟨fa, dx, nl, wb, Vs, T, ends, rfl, hfa, hnl, hw, k⟩ := h
    refine ⟨_, pss_cons (ps_fld (pv 0) (pe_t1 call_tuple_of X.f_tuple (pv 1)) (by rfl)) (pss_cons (ps_fld (pv 0) (pv 2) (by rfl)) (pss_one (ps_fld (pv 0) pe_dnewT (by rfl)))), ?_⟩
    refine ⟨_, rfl, nl, _, rfl, .inl ⟨SqL.of hnl, fun na hna => ?_⟩⟩
    have n1 : fa ≠ na := ne_of_none hfa hna
    refine ⟨_, rfl, fa, _, dx, _, rfl, by rw [upd_ne n1]; exact hfa, X.c_Family, X.n_Family_names, (by show 0 < 1000; decide), ?_⟩
    refine ⟨_, rfl, _, rfl, fa, _, dx, _, rfl, upd_same, X.c_Family, X.n_Family_source, (by show 1 < 1000; decide), fun d hd => ?_⟩
    have nd : fa ≠ d := fun z => by subst z; rw [upd_same] at hd; cases hd
    rw [upd_ne nd.symm, upd_ne nd.symm] at hd
    have nn : d ≠ na := fun z => by subst z; rw [upd_same] at hd; cases hd
    rw [upd_ne nn] at hd
    refine ⟨_, rfl, fa, _, dx, _, rfl, by rw [upd_ne nd]; exact upd_same, X.c_Family, X.n_Family_counted, (by show 2 < 1000; decide), ?_⟩
    have kp : Kp [fa] H (upd (upd (upd (upd (upd H na (.tup (T.map V.str))) fa (.ins (He.ga K "Family") dx (putF "names" (.ref na) []))) fa (.ins (He.ga K "Family") dx (putF "source" (.ref wb) (putF "names" (.ref na) [])))) d (.dT [])) fa (.ins (He.ga K "Family") dx (putF "counted" (.ref d) (putF "source" (.ref wb) (putF "names" (.ref na) []))))) :=
      (((((Kp.refl _ _).put (.inl hna)).put (.inr (by simp))).put (.inr (by simp))).put (.inl hd)).put (.inr (by simp))
    refine k _ d na kp hd hna ⟨⟨dx, upd_same⟩, ?_, Kp.web hw hfa kp, ⟨[], ?_, List.nodup_nil, fun q hq => nomatch hq⟩⟩
    · rw [upd_ne n1.symm, upd_ne nn.symm, upd_ne n1.symm, upd_ne n1.symm]; exact upd_same
    · rw [upd_ne nd.symm]; exact upd_same
theorem sc_ties_family : FnScope ["web"] ["web"] (defScope s_ties_family) := ⟨rfl, rfl, rfl, by decide +kernel, rfl, by decide +kernel, by decide +kernel⟩
def sp_ties_family (K : PySem.W.Frag) : Sp := fun vs H Q _ => ∃ (wb : Addr) (Vs T : List Str) (ends : Str → Str × Str), vs = [.ref wb] ∧ WebAt K wb Vs T ends H ∧ ∀ H' fa d na, Same H H' → H d = none → Fam K fa d na wb Vs T ends H' → Q (.ref fa) H'
theorem has_ties_family (X : Txt K mg) (N : Fns K) : Has P w K mg base (He.ga K "ties_family") 3 ["web"] (sp_ties_family K) := by
  refine has_mk N.f_ties_family sc_ties_family (fun vs H Q E h => ?_) (fun _ _ _ _ _ _ us hl => match us, hl with | [_], _ => rfl) (fun cdv A outer s H vs Q E hr h => ?_)
  · obtain ⟨wb, Vs, T, ends, rfl, _⟩ := h; rfl
  · obtain ⟨wb, Vs, T, ends, rfl, hw, k⟩ := h
    refine ⟨_, pss_one (ps_ret (pe_ma (has_finit X N) X.mk_Family X.g_Family hr (pa_cons (pe_b1 cr_sortedS X.f_sorted (pe_t1 (call_listD rfl) X.f_list (pe_fld (pv 0) (by rfl)))) (pa_cons (pv 0) pa_nil)))), ?_⟩
    have hw0 := hw
    obtain ⟨⟨dw, ka, ea, kve, hwb, hka, hea, kys, hen⟩, ok⟩ := hw
    refine ⟨_, rfl, wb, _, dw, _, _, rfl, hwb, X.c_Web, X.n_Web_ending, rfl, ea, kve, rfl, Rd.of hea, fun l1 hl1 => ?_⟩
    have ek : (kve.map fun kv => kV kv.1) = T.map V.str := by
      have : (kve.map fun kv => kV kv.1) = (kve.map (·.1)).map kV := by rw [List.map_map]; rfl
      rw [this, kys, strs_key]
    refine ⟨l1, T, rfl, SqL.of (by rw [ek]; exact upd_same), by have := ok.few; omega, fun ys nl pm so hnl => ?_⟩
    obtain rfl := sorted_of_rising pm so ok.rT
    have s1 : Same H (upd H l1 (.lst (kve.map fun kv => kV kv.1))) := Same.new hl1
    have s2 := s1.put (o := .lst (ys.map V.str)) (s1.free hnl)
    refine ⟨_, rfl, fun x dx hx hdx ne => ?_⟩
    have s3 := s2.put (o := .own x) (s2.free hdx)
    have hx3 : (upd (upd (upd H l1 (.lst (kve.map fun kv => kV kv.1))) nl (.lst (ys.map V.str))) dx (.own x)) x = none := by rw [upd_ne ne.symm]; exact hx
    have s4 := s3.put (o := .ins (He.ga K "Family") dx []) (s3.free hx3)
    have hnl2 : (upd (upd (upd (upd H l1 (.lst (kve.map fun kv => kV kv.1))) nl (.lst (ys.map V.str))) dx (.own x)) x (.ins (He.ga K "Family") dx [])) nl = some (.lst (ys.map V.str)) := by
      rw [upd_ne (fun z => by subst z; rw [upd_same] at hx; cases hx), upd_ne (fun z => by subst z; rw [upd_same] at hdx; cases hdx)]; exact upd_same
    refine ⟨x, dx, nl, wb, Vs, ys, ends, rfl, upd_same, hnl2, hw0.same s4, fun H' d na kp hd hna hf => ⟨rfl, ?_⟩⟩
    exact k H' x d na (fun b o e => kp b o (s4 b o e) (by intro z; rw [List.mem_singleton] at z; subst z; rw [s3.free hx3] at e; cases e)) (s4.free hd) hf
end
end Bf
namespace Bf
open PySem PySem.Spec PyProof.Rows L2
theorem cut_take {α : Type} {f : α → V} (xs : List α) (i : Nat) (h : i ≤ xs.length) : cutV (xs.map f) none (some (i : Int)) = (xs.take i).map f := by
  unfold cutV
  rw [HT.sIx_none, HT.sIx_nat, List.length_map, Nat.min_eq_left h, List.drop_zero, Nat.sub_zero, List.map_take]
section
variable {P : Program} {w : World} {K : PySem.W.Frag} {mg : Str → Option Value} {base : Heap}
theorem sc_is_pair : FnScope ["known", "thing", "place"] ["known", "thing"] (defScope s_is_pair) := ⟨rfl, rfl, rfl, by decide +kernel, rfl, by decide +kernel, by decide +kernel⟩
def sp_is_pair : Sp := fun vs H Q _ => ∃ (a b : Addr) (x y : Str) (ys : List Str), vs = [.ref b, .ref a] ∧ H a = some (.tup [.str x, .str y]) ∧ H b = some (.tup (ys.map V.str)) ∧ x ∈ ys ∧ y ∈ ys ∧ ∀ H', Same H H' → Q (.bl true) H'
theorem has_is_pair (T : Txt K mg) (N : Fns K) : Has P w K mg base (He.ga K "is_pair") 1 ["known", "thing"] sp_is_pair := by
  refine has_mk N.f_is_pair sc_is_pair (fun vs H Q E h => ?_) (fun _ _ _ _ _ _ us hl => match us, hl with | [_, _], _ => rfl) (fun cdv A outer s H vs Q E hr h => ?_)
  · obtain ⟨a, b, x, y, ys, rfl, _⟩ := h; rfl
  · obtain ⟨a, b, x, y, ys, rfl, ha, hb, hx, hy, k⟩ := h
    refine ⟨_, pss_cons (ps_if (PW.pt (pw_or (pt_not (pt_val (pe_isi "tuple" T.f_isinstance T.f_tuple (pv 1)))) (pw_or1 (pt_cmpR op_ne (pe_b1 call_len_seq T.f_len (pv 1)) pe_int (by rfl))))) pss_never pss_nil)
      (pss_one (ps_ret (pe_b1 (cr_all rfl) T.f_all (pe_lc (own := [("place", 2)]) (g := gName 2) (tt := tYes) (te := tAndV (tCB (rIsi K) (tCons (tVar 2) (tCons (tC (.ty "str")) tNil))) (tOp (rIn K false) (tVar 2) (tVar 0))) rfl sc_is_pair.nd (pi_tup (pv 1)) (blkOk_by (N := ["known", "thing", "place"]) (sc := defScope s_is_pair) (by decide +kernel)) (fun _ _ _ _ _ => pg_name (i := 2) sc_is_pair.nd rfl (Or.inl rfl)) (fun _ _ _ _ _ => pts_nil) (fun _ _ _ _ _ => pe_and (pe_isi "str" T.f_isinstance T.f_str (pv 2)) (pe_one (pe_cmpR op_in_seq (pv 2) (pv 0) (by rfl)))))))), ?_⟩
    refine ⟨_, rfl, .ref a, .ty "tuple", .type "tuple", .type "tuple", true, rfl, ClsV.ty _, .base (.tup ha), kit_ty (by decide +kernel), true, rfl, ?_⟩
    refine iteF ⟨_, rfl, a, _, rfl, .inr (SqT.of ha), rfl, _, rfl, iteF ?_⟩
    refine ⟨_, rfl, a, rfl, ⟨_, SqT.of ha⟩, fun D hD => ?_⟩
    refine lc_pure (as := [x, y]) (f := V.str) (p := fun _ => true) (out := fun _ => V.bl true) row_tup hD (fun _ q => SqT.of (q _ _ ha)) (small_line (by simp)) (fun c H' hc q Kt Kf k1 k2 => ?_) fun H' q hL => ?_
    · refine ⟨rfl, _, rfl, .str c, .ty "str", .type "str", .type "str", true, rfl, ClsV.ty _, .base (.str c), kit_ty (by decide +kernel), true, rfl, ?_⟩
      refine iteT ⟨_, rfl, _, rfl, b, _, rfl, .inr (SqT.of (q _ _ hb)), rfl, flat_strs _, ?_⟩
      rw [in_strs]
      have mc : c ∈ ys := by
        rcases List.mem_cons.mp hc with e | e
        · rw [e]; exact hx
        · rw [List.mem_singleton.mp e]; exact hy
      rw [decide_eq_true mc]
      exact k1 rfl _ (Same.refl _)
    · exact ⟨D, [true, true], rfl, SqL.of hL, k _ q⟩
theorem sc_need_places : FnScope ["places", "index", "name"] ["places"] (defScope s_need_places) := ⟨rfl, rfl, rfl, by decide +kernel, rfl, by decide +kernel, by decide +kernel⟩
def sp_need_places : Sp := fun vs H Q _ => ∃ (a : Addr) (xs : List Str), vs = [.ref a] ∧ H a = some (.lst (xs.map V.str)) ∧ xs.Nodup ∧ 1 ≤ xs.length ∧ xs.length ≤ 16 ∧ (∀ x, x ∈ xs → NameOk x) ∧
  ∀ H' p ys, Same H H' → H p = none → Rising ys → ys.Perm xs → H' p = some (.tup (ys.map V.str)) → Q (.ref p) H'
theorem has_need_places (T : Txt K mg) (N : Fns K) : Has P w K mg base (He.ga K "need_places") 2 ["places"] sp_need_places := by
  refine has_mk N.f_need_places sc_need_places (fun vs H Q E h => ?_) (fun _ _ _ _ _ _ us hl => match us, hl with | [_], _ => rfl) (fun cdv A outer s H vs Q E hr h => ?_)
  · obtain ⟨a, xs, rfl, _⟩ := h; rfl
  · obtain ⟨a, xs, rfl, ha, nd, l1, l2, ok, k⟩ := h
    obtain ⟨t1, e1⟩ := T.i_MOST_PLACES
    refine ⟨_, pss_cons (ps_if (pt_not (pt_chain op_le op_le pe_int (pe_b1 call_len_seq T.f_len (pv 0)) (pe_glob (v := .int 16) (by rfl) e1 ⟨t1, rfl⟩))) pss_never pss_nil)
      (pss_cons (ps_for PassesOwn.never rfl (pi_enum (by rfl) T.f_enumerate (pa_cons (pv 0) pa_nil)) (pg_tup rfl (pgs_cons (pg_name (i := 1) sc_need_places.nd rfl (Or.inl rfl)) (pgs_cons (pg_name (i := 2) sc_need_places.nd rfl (Or.inl rfl)) pgs_nil)))
        (pss_one (ps_if (PW.pt (pw_or (pt_not (pt_val (pe_ca (has_is_name T N) T.g_is_name hr (pa_cons (pv 2) pa_nil)))) (pw_or1 (pt_cmpR op_in_seq (pv 2) (pe_slice sl_list (pv 0) po_none (po_some (pv 1))) (by rfl))))) pss_never pss_nil)))
      (pss_one (ps_ret (pe_t1 call_tuple_of T.f_tuple (pe_b1 cr_sortedS T.f_sorted (pv 0)))))), ?_⟩
    have h1 : (xs.length : Int) ≤ 16 := by omega
    have h0 : (1 : Int) ≤ xs.length := by omega
    refine ⟨_, rfl, a, _, rfl, .inl (SqL.of ha), 1, _, rfl, rfl, _, rfl, ?_⟩
    rw [List.length_map, decide_eq_true h0]
    refine iteT ⟨(xs.length : Int), 16, rfl, rfl, _, rfl, ?_⟩
    rw [decide_eq_true h1]
    refine iteF ?_
    refine ⟨_, rfl, a, _, rfl, SqL.of ha, ?_⟩
    refine for_enum (fun i σ H' => Same H H' ∧ ∃ u v, σ = [some (.ref a), u, v]) ⟨Same.refl _, none, none, rfl⟩ (fun i σ H' _ q => q.1.seq (SqL.of ha)) (fun i x σ H' p hx q hp => ?_) (fun σ H' q => ?_)
    · obtain ⟨y, hy, rfl⟩ := get_map hx
      obtain ⟨q, u, v, rfl⟩ := q
      obtain ⟨hlt, ey⟩ := List.getElem?_eq_some_iff.mp hy
      have q1 := q.put (o := .tup [.int (i : Nat), .str y]) (q.free hp)
      refine ⟨_, rfl, y, rfl, ok y (List.mem_of_getElem? hy), fun H2 s2 => ⟨true, rfl, iteF ?_⟩⟩
      have q2 := q1.trans s2
      refine ⟨_, rfl, _, rfl, _, rfl, _, rfl, a, _, rfl, SqL.of (q2 _ _ ha), fun c hc => ?_⟩
      rw [cut_take xs i (by omega)]
      refine ⟨c, _, rfl, .inl (SqL.of upd_same), rfl, flat_strs _, _, rfl, ?_⟩
      have nin : y ∉ xs.take i := fun z => by
        obtain ⟨j, hj, e⟩ := List.mem_take_iff_getElem.mp z
        have := (List.getElem_inj nd).mp (e.trans ey.symm)
        omega
      rw [in_strs, decide_eq_false nin]
      exact iteF ⟨q2.put (q2.free hc), _, _, rfl⟩
    · obtain ⟨q, u, v, rfl⟩ := q
      refine ⟨_, rfl, a, xs, rfl, SqL.of (q _ _ ha), by omega, fun ys p pm so hp => ?_⟩
      refine ⟨p, _, rfl, .inl ⟨SqL.of upd_same, fun l hl => ?_⟩⟩
      have s2 := q.put (o := .lst (ys.map V.str)) (q.free hp)
      exact k _ l ys (s2.put (s2.free hl)) (s2.free hl) (sorted_is pm so nd).1 pm upd_same
end
end Bf
namespace Bf
open PySem PySem.Spec PyProof.Rows L2
theorem perm_mem {α : Type} {xs ys : List α} (h : ys.Perm xs) : ∀ z, z ∈ ys ↔ z ∈ xs := fun _ => h.mem_iff
section
variable {P : Program} {w : World} {K : PySem.W.Frag} {mg : Str → Option Value} {base : Heap}
theorem sc_winit : FnScope ["self", "places", "ties", "name"] ["self", "places", "ties"] (defScope s_Web_init) := ⟨rfl, rfl, rfl, by decide +kernel, rfl, by decide +kernel, by decide +kernel⟩
/-- drawn ties in the heap -/
structure TiesAt (H : Hp) (td : Addr) (ks : List Str) (raw : Str → Str × Str) : Prop where
  ex : ∃ kvt, H td = some (.dK kvt) ∧ kvt.map (·.1) = ks.map Sum.inr ∧ ∀ t, t ∈ ks → ∃ p, valV kvt (.inr t) = some (.ref p) ∧ H p = some (.tup [.str (raw t).1, .str (raw t).2])
  nd : ks.Nodup
theorem TiesAt.same {H H1 : Hp} {td : Addr} {ks : List Str} {raw : Str → Str × Str} (h : TiesAt H td ks raw) (k : Same H H1) : TiesAt H1 td ks raw :=
  let ⟨⟨kvt, h1, h2, h3⟩, nd⟩ := h
  ⟨⟨kvt, k _ _ h1, h2, fun t ht => let ⟨p, e1, e2⟩ := h3 t ht; ⟨p, e1, k _ _ e2⟩⟩, nd⟩
def sp_winit (K : PySem.W.Frag) : Sp := fun vs H Q _ => ∃ (wb dx pl td : Addr) (ps ks : List Str) (raw : Str → Str × Str), vs = [.ref wb, .ref pl, .ref td] ∧ H wb = some (.ins (He.ga K "Web") dx []) ∧ H pl = some (.lst (ps.map V.str)) ∧ ps.Nodup ∧ 1 ≤ ps.length ∧ ps.length ≤ 16 ∧ (∀ x, x ∈ ps → NameOk x) ∧
  TiesAt H td ks raw ∧ (∀ x, x ∈ ks → NameOk x) ∧ ks.length ≤ 8 ∧ (∀ t, (raw t).1 ∈ ps ∧ (raw t).2 ∈ ps) ∧
  ∀ H' Vs T, Kp [wb] H H' → Vs.Perm ps → T.Perm ks → WebAt K wb Vs T (fun t => sortP (raw t)) H' → Q .non H'
theorem has_winit (X : Txt K mg) (N : Fns K) : Has P w K mg base (He.ma K (He.ga K "Web") "__init__") 3 ["self", "places", "ties"] (sp_winit K) := by
  refine has_mk N.f_Web_init sc_winit (fun vs H Q E h => ?_) (fun _ _ _ _ _ _ us hl => match us, hl with | [_, _, _], _ => rfl) (fun cdv A outer s H vs Q E hr h => ?_)
  · obtain ⟨wb, dx, pl, td, ps, ks, raw, rfl, _⟩ := h; rfl
  · obtain ⟨wb, dx, pl, td, ps, ks, raw, rfl, hwb, hpl, nd, l1, l2, okp, ht, okk, lk, ine, k⟩ := h
    obtain ⟨t1, e1⟩ := X.i_MOST_THINGS
    refine ⟨_, pss_cons (ps_fld (pv 0) (pe_ca (has_need_places X N) X.g_need_places hr (pa_cons (pv 1) pa_nil)) (by rfl))
      (pss_cons (ps_for PassesOwn.never rfl (pi_list (pe_b1 cr_sortedS X.f_sorted (pe_t1 (call_listD rfl) X.f_list (pv 2)))) (pg_name (i := 3) sc_winit.nd rfl (Or.inl rfl))
        (pss_one (ps_if (PW.pt (pw_or (pt_not (pt_val (pe_ca (has_is_name X N) X.g_is_name hr (pa_cons (pv 3) pa_nil)))) (pw_or1 (pt_not (pt_val (pe_ca (has_is_pair X N) X.g_is_pair hr (pa_cons (pe_fld (pv 0) (by rfl)) (pa_cons (pe_dget (hu_of hr) (pv 2) (pv 3) (fun _ _ => rfl)) pa_nil))))))))
          pss_never pss_nil)))
      (pss_cons (ps_if (pt_cmpR op_gt (pe_b1 call_lenD X.f_len (pv 2)) (pe_glob (v := .int 24) (by rfl) e1 ⟨t1, rfl⟩) (by rfl)) pss_never pss_nil)
      (pss_one (ps_fld (pv 0) (pe_dc (own := [("name", 3)]) (g := gName 3) (tt := tYes) (tk := tVar 3) (tv := tCB (rTupleOf K) (tCons (tCB (rSortedTup K) (tCons (tDGet (tVar 2) (tVar 3)) tNil)) tNil)) rfl sc_winit.nd (pi_list (pe_b1 cr_sortedS X.f_sorted (pe_t1 (call_listD rfl) X.f_list (pv 2)))) (blkOk_by (N := ["self", "places", "ties", "name"]) (sc := defScope s_Web_init) (by decide +kernel)) (fun _ _ _ _ _ => pg_name (i := 3) sc_winit.nd rfl (Or.inl rfl)) (fun _ _ _ _ _ => pts_nil) (fun _ _ _ _ _ => pv 3)
        (fun _ _ _ _ _ => pe_t1 call_tuple_of X.f_tuple (pe_b1 BfR.cr_sortedTup X.f_sorted (pe_dget (hu_of hr) (pv 2) (pv 3) (fun _ _ => rfl))))) (by rfl))))), ?_⟩
    refine ⟨_, rfl, pl, ps, rfl, hpl, nd, l1, l2, okp, fun H1 ka Vs s1 hka rV pV hka1 => ?_⟩
    have n1 : wb ≠ ka := ne_of_none hwb hka
    refine ⟨_, rfl, wb, _, dx, _, rfl, s1 _ _ hwb, X.c_Web, X.n_Web_known, (by show 0 < 1000; decide), ?_⟩
    have kp1 : Kp [wb] H (upd H1 wb (.ins (He.ga K "Web") dx (putF "known" (.ref ka) []))) := (Kp.of s1).put (.inr (by simp))
    obtain ⟨⟨kvt, htd, kyt, hent⟩, ndk⟩ := ht
    have ek : (kvt.map fun kv => kV kv.1) = ks.map V.str := by
      have : (kvt.map fun kv => kV kv.1) = (kvt.map (·.1)).map kV := by rw [List.map_map]; rfl
      rw [this, kyt, strs_key]
    have tie : ∀ {H2 : Hp} {t : Str}, Kp [wb] H H2 → t ∈ ks → ∃ p, DGet H2 td (.str t) (some (.ref p)) ∧ H2 p = some (.tup [.str (raw t).1, .str (raw t).2]) := fun {H2 t} kp mt => by
      obtain ⟨p, e1, e2⟩ := hent t mt
      refine ⟨p, ?_, kp.kind hwb e2 (by simp)⟩
      have := DGet.k (k := .inr t) (kp.kind hwb htd (by simp))
      rw [e1] at this
      exact this
    have fr : ∀ {H2 : Hp} {q : Addr}, Kp [wb] H H2 → H2 q = none → q ≠ wb → H q = none := fun kp e n => kp.free e (by simp [n])
    refine ⟨_, rfl, td, kvt, rfl, Rd.of (kp1.kind hwb htd (by simp)), fun p1 hp1 => ?_⟩
    have nwb : ∀ {H2 : Hp} {q : Addr} {o : HO}, H2 wb = some o → H2 q = none → q ≠ wb := fun e f z => by subst z; rw [e] at f; cases f
    have kp2 := kp1.put (o := .lst (kvt.map fun kv => kV kv.1)) (.inl (fr kp1 hp1 (nwb upd_same hp1)))
    refine ⟨p1, ks, rfl, SqL.of (by rw [ek]; exact upd_same), by omega, fun T p2 pT soT hp2 => ?_⟩
    have hwb2 : (upd (upd H1 wb (.ins (He.ga K "Web") dx (putF "known" (.ref ka) []))) p1 (.lst (kvt.map fun kv => kV kv.1))) wb = some (.ins (He.ga K "Web") dx (putF "known" (.ref ka) [])) := by rw [upd_ne (nwb upd_same hp1).symm]; exact upd_same
    have kp3 := kp2.put (o := .lst (T.map V.str)) (.inl (fr kp2 hp2 (nwb hwb2 hp2)))
    have hka3 : (upd (upd (upd H1 wb (.ins (He.ga K "Web") dx (putF "known" (.ref ka) []))) p1 (.lst (kvt.map fun kv => kV kv.1))) p2 (.lst (T.map V.str))) ka = some (.tup (Vs.map V.str)) := by
      have z1 : p1 ≠ ka := fun z => by subst z; rw [upd_ne n1.symm, hka1] at hp1; cases hp1
      have z2 : p2 ≠ ka := fun z => by subst z; rw [upd_ne z1.symm, upd_ne n1.symm, hka1] at hp2; cases hp2
      rw [upd_ne z2.symm, upd_ne z1.symm, upd_ne n1.symm]; exact hka1
    have hwb3 : (upd (upd (upd H1 wb (.ins (He.ga K "Web") dx (putF "known" (.ref ka) []))) p1 (.lst (kvt.map fun kv => kV kv.1))) p2 (.lst (T.map V.str))) wb = some (.ins (He.ga K "Web") dx [("known", .ref ka)]) := by rw [upd_ne (nwb hwb2 hp2).symm]; exact hwb2
    have hp3 : (upd (upd (upd H1 wb (.ins (He.ga K "Web") dx (putF "known" (.ref ka) []))) p1 (.lst (kvt.map fun kv => kV kv.1))) p2 (.lst (T.map V.str))) p2 = some (.lst (T.map V.str)) := upd_same
    revert hka3 hwb3 hp3 kp3
    generalize (upd (upd (upd H1 wb (.ins (He.ga K "Web") dx (putF "known" (.ref ka) []))) p1 (.lst (kvt.map fun kv => kV kv.1))) p2 (.lst (T.map V.str))) = H3
    intro kp3 hka3 hwb3 hp3
    have mT : ∀ t, t ∈ T ↔ t ∈ ks := perm_mem pT
    have rT : Rising T := (sorted_is pT soT ndk).1
    have lT : T.length ≤ 8 := by rw [pT.length_eq]; exact lk
    refine ⟨p2, rfl, ⟨_, SqL.of hp3⟩, ?_⟩
    refine for_row row_list (fun i σ H' => Same H3 H' ∧ ∃ u, σ = [some (.ref wb), some (.ref pl), some (.ref td), u]) ⟨Same.refl _, none, rfl⟩ (fun i σ H' _ q => q.1.seq (SqL.of hp3)) (fun i x σ H' hx q => ?_) (fun σ H' q => ?_)
    · obtain ⟨t, ht, rfl⟩ := get_map hx
      obtain ⟨q, u, rfl⟩ := q
      have mt := (mT t).mp (List.mem_of_getElem? ht)
      refine ⟨_, rfl, t, rfl, okk t mt, fun H4 s4 => ⟨true, rfl, iteF ?_⟩⟩
      have s34 := q.trans s4
      obtain ⟨p, g1, g2⟩ := tie (kp3.trans (Kp.of s34)) mt
      refine ⟨_, rfl, wb, _, dx, _, _, rfl, s34 _ _ hwb3, X.c_Web, X.n_Web_known, rfl, _, rfl, _, rfl, td, .ref p, rfl, g1, p, ka, (raw t).1, (raw t).2, Vs, rfl, g2, s34 _ _ hka3, (perm_mem pV _).mpr (ine t).1, (perm_mem pV _).mpr (ine t).2, fun H5 s5 => ⟨true, rfl, iteF ⟨s34.trans s5, _, rfl⟩⟩⟩
    · obtain ⟨s3, u, rfl⟩ := q
      have kp4 := kp3.trans (Kp.of s3)
      have hwb4 := s3 _ _ hwb3
      have htd4 := kp4.kind hwb htd (by simp)
      have lkv : kvt.length = ks.length := by
        have := congrArg List.length kyt
        rw [List.length_map, List.length_map] at this
        exact this
      refine ⟨_, rfl, td, kvt, rfl, htd4, (kvt.length : Int), 24, rfl, rfl, _, rfl, ?_⟩
      rw [show decide ((24 : Int) < (kvt.length : Nat)) = false by rw [decide_eq_false_iff_not]; omega]
      refine iteF ?_
      refine ⟨_, rfl, td, kvt, rfl, Rd.of htd4, fun p3 hp3' => ?_⟩
      have s5 : Same H' (upd H' p3 (.lst (kvt.map fun kv => kV kv.1))) := Same.new hp3'
      refine ⟨p3, ks, rfl, SqL.of (by rw [ek]; exact upd_same), by omega, fun T2 p4 pT2 soT2 hp4 => ?_⟩
      have rT2 : Rising T2 := (sorted_is pT2 soT2 ndk).1
      obtain rfl : T2 = T := rising_ext rT2 rT fun z => by rw [perm_mem pT2, mT]
      have s6 := s5.put (o := .lst (T2.map V.str)) (s5.free hp4)
      refine ⟨p4, rfl, ⟨_, SqL.of upd_same⟩, fun L hL => ?_⟩
      have hp5 : (upd (upd H' p3 (.lst (kvt.map fun kv => kV kv.1))) p4 (.lst (T2.map V.str))) p4 = some (.lst (T2.map V.str)) := upd_same
      revert s6 hL hp5
      generalize (upd (upd H' p3 (.lst (kvt.map fun kv => kV kv.1))) p4 (.lst (T2.map V.str))) = H6
      intro s6 hL hp5
      refine dc_row row_list (fun i acc H'' => Same H6 H'' ∧ acc.map (·.1) = (T2.take i).map Sum.inr ∧ ∀ t, t ∈ T2.take i → ∃ p, p ≠ L ∧ valV acc (.inr t) = some (.ref p) ∧ H'' p = some (.tup [.str (sortP (raw t)).1, .str (sortP (raw t)).2])) ⟨Same.refl _, rfl, fun t ht => by simp at ht⟩ hL
        (fun i acc H'' o q => ⟨q.1.put hL, q.2.1, fun t ht => let ⟨p, n, e, h⟩ := q.2.2 t ht; ⟨p, n, e, by rw [upd_ne n]; exact h⟩⟩) (fun i acc H'' q => q.1.seq (SqL.of hp5)) (small_line (by rw [List.length_map]; omega)) (fun i x acc H'' hx q hL2 Kt Kf kk => ?_) fun acc H'' q hL2 => ?_
      · obtain ⟨t, ht, rfl⟩ := get_map hx
        obtain ⟨q1, q2, q3⟩ := q
        have mt := (mT t).mp (List.mem_of_getElem? ht)
        obtain ⟨p, g1, g2⟩ := tie (kp4.trans (Kp.of (s6.trans q1))) mt
        refine ⟨rfl, _, rfl, _, rfl, _, rfl, td, .ref p, rfl, g1, p, [(raw t).1, (raw t).2], rfl, SqT.of g2, (by show 2 < 64; decide), fun ys y1 pm so hy1 => ?_⟩
        obtain rfl := sorted_pair pm so
        refine ⟨y1, _, rfl, .inl ⟨SqL.of upd_same, fun y2 hy2 => ?_⟩⟩
        have z1 : Same H'' (upd H'' y1 (.lst (List.map V.str [(sortP ((raw t).1, (raw t).2)).1, (sortP ((raw t).1, (raw t).2)).2]))) := Same.new hy1
        have z2 := z1.put (o := .tup (List.map V.str [(sortP ((raw t).1, (raw t).2)).1, (sortP ((raw t).1, (raw t).2)).2])) (z1.free hy2)
        have nL : y2 ≠ L := fun z => by subst z; rw [z1 _ _ hL2] at hy2; cases hy2
        have nin : valV acc (.inr t) = none := by
          cases e : valV acc (.inr t) with
          | none => rfl
          | some v =>
            have := valV_in e
            rw [q2] at this
            obtain ⟨y, hy, e2⟩ := List.mem_map.mp this
            cases e2
            obtain ⟨hlt, ep⟩ := List.getElem?_eq_some_iff.mp ht
            obtain ⟨j, hj, e⟩ := List.mem_take_iff_getElem.mp hy
            have := (List.getElem_inj rT.nodup).mp (e.trans ep.symm)
            omega
        refine kk (.inr t) (.ref y2) _ ⟨q1.trans z2, ?_, fun t' ht' => ?_⟩ (z2 _ _ hL2)
        · rw [putK_new _ nin, List.map_append, q2, take_succ_get ht, List.map_append]; rfl
        · rw [valV_put]
          rw [take_succ_get ht, List.mem_append, List.mem_singleton] at ht'
          by_cases e : t' = t
          · subst e
            exact ⟨y2, nL, if_pos rfl, upd_same⟩
          · obtain ⟨p', n', e1, e2⟩ := q3 t' (ht'.resolve_right e)
            exact ⟨p', n', by rw [if_neg (fun z => e (Sum.inr.inj z))]; exact e1, z2 _ _ e2⟩
      · rw [List.length_map, List.take_length] at q
        obtain ⟨q1, q2, q3⟩ := q
        have s7 := s3.trans (s6.trans q1)
        have hwb7 := s7 _ _ hwb3
        refine ⟨_, rfl, wb, _, dx, _, rfl, hwb7, X.c_Web, X.n_Web_ending, (by show 1 < 1000; decide), ?_⟩
        have kp8 := (kp3.trans (Kp.of s7)).put (a := wb) (o := .ins (He.ga K "Web") dx (putF "ending" (.ref L) [("known", .ref ka)])) (.inr (by simp))
        have nn : ∀ {q : Addr} {o : HO}, H'' q = some o → (∀ C x f, o ≠ .ins C x f) → q ≠ wb := fun e f z => by subst z; rw [hwb7] at e; cases e; exact f _ _ _ rfl
        refine k _ Vs T2 kp8 pV pT ⟨⟨dx, ka, L, acc, upd_same, ?_, ?_, q2, fun t ht => ?_⟩, ⟨⟨rV.nodup, fun e => ?_, fun e => ?_⟩, rV, rT, by rw [pV.length_eq]; exact l2, lT, fun t ht => (okk t ((mT t).mp ht)).low2⟩⟩
        · rw [upd_ne (nn (s7 _ _ hka3) (by simp))]; exact s7 _ _ hka3
        · rw [upd_ne (nn hL2 (by simp))]; exact hL2
        · obtain ⟨p, _, e1, e2⟩ := q3 t ht
          exact ⟨p, e1, by rw [upd_ne (nn e2 (by simp))]; exact e2⟩
        · exact (sortP_mem ((perm_mem pV _).mpr (ine e).1) ((perm_mem pV _).mpr (ine e).2)).1
        · exact (sortP_mem ((perm_mem pV _).mpr (ine e).1) ((perm_mem pV _).mpr (ine e).2)).2
end
end Bf
namespace Bf
open PySem PySem.Spec PyProof.Rows L2
section
variable {P : Program} {w : World} {K : PySem.W.Frag} {mg : Str → Option Value} {base : Heap}
theorem sc_ring : FnScope ["family", "lot", "thing", "whole", "one"] ["family", "lot", "thing"] (defScope s_ring_within) := ⟨rfl, rfl, rfl, by decide +kernel, rfl, by decide +kernel, by decide +kernel⟩
/-- the lot without one thing -/
abbrev without1 (l : List Str) (x : Str) : List Str := l.filter fun y => decide (y ∉ [x])
abbrev ringF (ends : Str → Str × Str) (Vs whole : List Str) (n : Nat) : List Str := whole.filter fun z => decide (BfM.rk ends Vs (without1 whole z) = n)
def sp_ring (K : PySem.W.Frag) : Sp := fun vs H Q _ => ∃ (fa d na wb l : Addr) (Vs T lot : List Str) (ends : Str → Str × Str) (t : Str), vs = [.ref fa, .ref l, .str t] ∧ Fam K fa d na wb Vs T ends H ∧ H l = some (.tup (lot.map V.str)) ∧ Rising lot ∧ (∀ x, x ∈ lot → x ∈ T) ∧ t ∈ T ∧ t ∉ lot ∧
  ∀ H' whole, Fk K fa d na wb Vs T ends H H' → Rising whole → (∀ z, z ∈ whole ↔ z ∈ lot ∨ z = t) → (BfM.rk ends Vs whole = whole.length → Q .non H') ∧
    (BfM.rk ends Vs whole ≠ whole.length → ∀ H2 p, Fk K fa d na wb Vs T ends H H2 → H p = none → H2 p = some (.tup ((ringF ends Vs whole lot.length).map V.str)) → Q (.ref p) H2)
theorem has_ring (X : Txt K mg) (N : Fns K) : Has P w K mg base (He.ga K "ring_within") 4 ["family", "lot", "thing"] (sp_ring K) := by
  refine has_mk N.f_ring_within sc_ring (fun vs H Q E h => ?_) (fun _ _ _ _ _ _ us hl => match us, hl with | [_, _, _], _ => rfl) (fun cdv A outer s H vs Q E hr h => ?_)
  · obtain ⟨fa, d, na, wb, l, Vs, T, lot, ends, t, rfl, _⟩ := h; rfl
  · obtain ⟨fa, d, na, wb, l, Vs, T, lot, ends, t, rfl, hf, hl, ri, sub, mt, nt, k⟩ := h
    have few : lot.length ≤ 8 := Nat.le_trans (BfM.nodup_len ri.nodup sub) hf.ok.few
    refine ⟨_, pss_cons (ps_set (i := 3) sc_ring.nd rfl (Or.inr rfl) (pe_ca (has_with_thing X N) X.g_with_thing hr (pa_cons (pv 1) (pa_cons (pv 2) pa_nil))))
      (pss_cons (ps_if (pt_cmpR op_eq (pe_me (pv 0) (has_rank X N) X.c_Family X.m_Family_rank_of hr (pa_cons (pv 3) pa_nil)) (pe_b1 call_len_seq X.f_len (pv 3)) (by rfl)) (pss_one (ps_ret pe_non)) pss_nil)
      (pss_one (ps_ret (pe_t1 call_tuple_of X.f_tuple (pe_lc (own := [("one", 4)]) (g := gName 4) (tt := tTest (tOp rEq (tMe (He.ga K "Family") "rank_of" (sp_rank K) (tVar 0) (tCons (tCa sp_less (tCons (tVar 3) (tCons (tTup (tCons (tVar 4) tNil)) tNil))) tNil)) (tCB (fun xs H Q => ∃ p ys, xs = [.ref p] ∧ (SqL K H p ys ∨ SqT K H p ys) ∧ Q (.int ys.length) H) (tCons (tVar 1) tNil)))) (te := tVar 4) rfl sc_ring.nd (pi_tup (pv 3)) (blkOk_by (N := ["family", "lot", "thing", "whole", "one"]) (sc := defScope s_ring_within) (by decide +kernel)) (fun _ _ _ _ _ => pg_name (i := 4) sc_ring.nd rfl (Or.inl rfl))
        (fun _ _ _ _ _ => pts_one (pt_cmpR op_eq (pe_me (pv 0) (has_rank X N) X.c_Family X.m_Family_rank_of hr (pa_cons (pe_ca (has_less X N) X.g_less hr (pa_cons (pv 3) (pa_cons (pe_tup (pa_cons (pv 4) pa_nil)) pa_nil))) pa_nil)) (pe_b1 call_len_seq X.f_len (pv 1)) (by rfl))) (fun _ _ _ _ _ => pv 4)))))), ?_⟩
    obtain ⟨dx, h1⟩ := hf.self
    refine ⟨_, rfl, _, rfl, l, lot, t, rfl, hl, ri.nodup, nt, by omega, fun H1 wa whole s1 hwa rW mW hw1 => ?_⟩
    have subW : ∀ z, z ∈ whole → z ∈ T := fun z hz => by
      rcases (mW z).mp hz with q | rfl
      · exact sub z q
      · exact mt
    have fewW : whole.length ≤ 8 := Nat.le_trans (BfM.nodup_len rW.nodup subW) hf.ok.few
    have f1 : Fk K fa d na wb Vs T ends H H1 := Fk.of hf s1
    refine ⟨_, rfl, fa, dx, _, rfl, s1 _ _ h1, rfl, _, rfl, fa, d, na, wb, wa, Vs, T, whole, ends, rfl, f1.fam, hw1, rW, subW, fun H2 f2 => ?_⟩
    have f12 := f1.trans f2
    have hw2 := f2.at hw1
    refine ⟨_, rfl, wa, _, rfl, .inr (SqT.of hw2), rfl, _, rfl, ?_⟩
    rw [dec_int, List.length_map]
    by_cases e : BfM.rk ends Vs whole = whole.length
    · rw [show (((BfM.rk ends Vs whole : Nat) : Int) == (whole.length : Nat)) = true by simp [e]]
      exact iteT ((k H2 whole f12 rW mW).1 e)
    · rw [show (((BfM.rk ends Vs whole : Nat) : Int) == (whole.length : Nat)) = false by simp; omega]
      refine iteF ?_
      have kk := (k H2 whole f12 rW mW).2 e
      refine ⟨_, rfl, wa, rfl, ⟨_, SqT.of hw2⟩, fun D hD => ?_⟩
      refine lc_row row_tup (fun i acc H' => Fk K fa d na wb Vs T ends H2 H' ∧ acc = ((whole.take i).filter fun z => decide (BfM.rk ends Vs (without1 whole z) = lot.length)).map V.str) ⟨Fk.refl f12.fam, rfl⟩ hD (fun i acc H' o q => ⟨q.1.put hD, q.2⟩) (fun i acc H' q => SqT.of (q.1.at hw2)) (small_line (by rw [List.length_map]; omega)) (fun i x acc H' hx q hL Kt Kf k1 k2 => ?_) fun acc H' q hL => ?_
      · obtain ⟨z, hz, rfl⟩ := get_map hx
        refine ⟨rfl, _, rfl, fa, dx, _, rfl, q.1.at (f12.at h1), rfl, _, rfl, _, rfl, small_le (by simp), fun p hp => ?_⟩
        have s2 : Same H' (upd H' p (.tup [.str z])) := Same.new hp
        refine ⟨wa, p, whole, [z], rfl, s2 _ _ (q.1.at hw2), upd_same, by omega, fun H3 lp s3 hlp hl3 => ?_⟩
        have f3 : Fk K fa d na wb Vs T ends H' H3 := Fk.of q.1.fam (s2.trans s3)
        refine ⟨fa, d, na, wb, lp, Vs, T, without1 whole z, ends, rfl, f3.fam, hl3, rW.filter _, fun x hx => subW x ((List.mem_filter.mp hx).1), fun H4 f4 => ?_⟩
        have f14 := (q.1.trans f3).trans f4
        have hL4 : H4 D = some (.lst acc) := f4.at (f3.at hL)
        refine ⟨_, rfl, l, _, rfl, .inr (SqT.of (f14.at (f12.at hl))), rfl, _, rfl, ?_⟩
        rw [dec_int, List.length_map]
        by_cases e2 : BfM.rk ends Vs (without1 whole z) = lot.length
        · rw [show (((BfM.rk ends Vs (without1 whole z) : Nat) : Int) == (lot.length : Nat)) = true by simp only [e2]; simp]
          exact iteT ⟨_, rfl, k1 _ _ ⟨f14, by rw [take_succ_get hz, List.filter_append, q.2]; simp only [List.filter_cons, e2]; simp⟩ hL4⟩
        · rw [show (((BfM.rk ends Vs (without1 whole z) : Nat) : Int) == (lot.length : Nat)) = false by rw [beq_eq_false_iff_ne]; intro h; exact e2 (Int.ofNat.inj h)]
          exact iteF (k2 _ ⟨f14, by rw [take_succ_get hz, List.filter_append, q.2]; simp only [List.filter_cons, e2]; simp⟩ hL4)
      · rw [List.length_map, List.take_length] at q
        refine ⟨D, _, rfl, .inl ⟨SqL.of hL, fun p hp => ?_⟩⟩
        have f5 := f12.trans q.1
        exact kk _ p (f5.then_ (Same.new hp)) (f5.free hp) (by rw [q.2]; exact upd_same)
end
end Bf
set_option Elab.async false
set_option linter.all false
/-! ## The ring of one unit in a lot, by ranks -/
namespace Bf
open BfM
section
variable {T A : Type} [DecidableEq T] [DecidableEq A] {ends : T → A × A} {Vs : List A}
theorem cl_congr {P Q : T → Prop} {e : T} (h : ∀ z, P z ↔ Q z) : Cl ends P e ↔ Cl ends Q e := ⟨fun c => c.mono fun z => (h z).mp, fun c => c.mono fun z => (h z).mpr⟩
theorem ind_congr {P Q : T → Prop} (h : ∀ z, P z ↔ Q z) (i : Ind ends P) : Ind ends Q := i.mono fun z => (h z).mpr
/-- a lot and one thing more: free as far as its rank is its length -/
theorem whole_free (hw : Web ends Vs) {lot whole : List T} {t : T} (nl : lot.Nodup) (nw : whole.Nodup) (mW : ∀ z, z ∈ whole ↔ z ∈ lot ∨ z = t) (nt : t ∉ lot) (hI : Ind ends (· ∈ lot)) :
    rk ends Vs whole = whole.length ↔ ¬ Cl ends (· ∈ lot) t := by
  constructor
  · intro h c
    have i := ind_of_rk hw nw h
    refine i t ((mW t).mpr (.inr rfl)) (c.mono fun z hz => ⟨(mW z).mpr (.inl hz), fun e => nt (e ▸ hz)⟩)
  · intro n
    exact rk_ind hw nw (ind_congr (fun z => (mW z).symm) (ind_add hI n))
theorem len_more {lot whole : List T} {t : T} (nl : lot.Nodup) (nw : whole.Nodup) (mW : ∀ z, z ∈ whole ↔ z ∈ lot ∨ z = t) (nt : t ∉ lot) : whole.length = lot.length + 1 := by
  have : (t :: lot).Nodup := List.nodup_cons.mpr ⟨nt, nl⟩
  rw [nodup_eq_len nw this (fun z => by rw [mW, List.mem_cons]; exact Or.comm)]
  rfl
/-- without one of the lot: free as far as that one is on the ring -/
theorem less_free (hw : Web ends Vs) {lot whole : List T} {t x : T} (nl : lot.Nodup) (nw : whole.Nodup) (mW : ∀ z, z ∈ whole ↔ z ∈ lot ∨ z = t) (nt : t ∉ lot) (hI : Ind ends (· ∈ lot)) (hx : x ∈ lot) :
    rk ends Vs (whole.filter fun y => decide (y ∉ [x])) = lot.length ↔ ¬ Cl ends (fun z => z ∈ lot ∧ z ≠ x) t := by
  have xt : t ≠ x := fun e => nt (e ▸ hx)
  have m1 : ∀ z, z ∈ (lot.filter fun y => decide (y ∉ [x])) ↔ z ∈ lot ∧ z ≠ x := fun z => by simp
  have m2 : ∀ z, z ∈ (whole.filter fun y => decide (y ∉ [x])) ↔ z ∈ (lot.filter fun y => decide (y ∉ [x])) ∨ z = t := fun z => by
    rw [m1]
    simp only [List.mem_filter, mW, List.mem_singleton, decide_eq_true_eq]
    constructor
    · rintro ⟨h | h, n⟩
      · exact .inl ⟨h, n⟩
      · exact .inr h
    · rintro (h | h)
      · exact ⟨.inl h.1, h.2⟩
      · exact ⟨.inr h, h ▸ xt⟩
  have nl' := nl.filter fun y => decide (y ∉ [x])
  have nw' := nw.filter fun y => decide (y ∉ [x])
  have nt' : t ∉ lot.filter fun y => decide (y ∉ [x]) := fun h => nt ((m1 t).mp h).1
  have e1 : (lot.filter fun y => decide (y ∉ [x])).length + 1 = lot.length := by
    have nx : x ∉ lot.filter fun y => decide (y ∉ [x]) := fun h => ((m1 x).mp h).2 rfl
    exact (len_more nl' nl (fun z => by
      rw [m1]
      by_cases e : z = x
      · subst e; exact ⟨fun _ => .inr rfl, fun _ => hx⟩
      · exact ⟨fun h => .inl ⟨h, e⟩, fun h => h.elim (fun q => q.1) fun q => absurd q e⟩) nx).symm
  have e2 := len_more nl' nw' m2 nt'
  have key := whole_free hw nl' nw' m2 nt' (hI.mono fun z hz => ((m1 z).mp hz).1)
  rw [e2, e1] at key
  rw [key]
  exact not_congr (cl_congr m1)
end
section
variable {T A : Type} [DecidableEq T] [DecidableEq A] {ends : T → A × A} {Vs : List A} {l : List (T × Nat)} {u x : T × Nat}
/-- a unit whose thing is new to the lot -/
theorem unit_cl {lot : List T} (mL : ∀ z, z ∈ lot ↔ z ∈ l.map (·.1)) : Cl (endsU ends) (· ∈ l) u ↔ Cl ends (· ∈ lot) u.1 :=
  ⟨fun c => cl_down c fun v hv => (mL _).mpr (List.mem_map_of_mem hv), fun c => cl_up c fun t ht => by
    obtain ⟨v, hv, e⟩ := List.mem_map.mp ((mL t).mp ht)
    exact ⟨v.2, by rw [← e]; exact hv⟩⟩
theorem unit_ring {lot : List T} (mL : ∀ z, z ∈ lot ↔ z ∈ l.map (·.1)) (nd : (l.map (·.1)).Nodup) (hx : x ∈ l) : Cl (endsU ends) (fun z => z ∈ l ∧ z ≠ x) u ↔ Cl ends (fun z => z ∈ lot ∧ z ≠ x.1) u.1 := by
  constructor
  · intro c
    refine cl_down c fun v hv => ⟨(mL _).mpr (List.mem_map_of_mem hv.1), fun e => hv.2 ?_⟩
    obtain ⟨i, hi, rfl⟩ := List.mem_iff_getElem.mp hv.1
    obtain ⟨j, hj, rfl⟩ := List.mem_iff_getElem.mp hx
    have : i = j := (List.getElem_inj nd (h₀ := by simpa using hi) (h₁ := by simpa using hj)).mp (by simpa using e)
    subst this; rfl
  · intro c
    refine cl_up c fun t ht => ?_
    obtain ⟨v, hv, e⟩ := List.mem_map.mp ((mL t).mp ht.1)
    exact ⟨v.2, by rw [← e]; exact hv, fun z => ht.2 (by rw [← z])⟩
/-- another copy stands in the lot: it alone is on the ring -/
theorem copy_ring {c : Nat} (hI : Ind (endsU ends) (· ∈ l)) (h0 : (u.1, c) ∈ l) (hx : x ∈ l) : ¬ Cl (endsU ends) (fun z => z ∈ l ∧ z ≠ x) u ↔ x = (u.1, c) := by
  constructor
  · intro n
    by_cases e : x = (u.1, c)
    · exact e
    · exact absurd (cl_copy (t := u.1) (n := c) (show (u.1, c) ∈ l ∧ (u.1, c) ≠ x from ⟨h0, fun z => e z.symm⟩) rfl) n
  · rintro rfl cl
    exact hI (u.1, c) h0 cl
end
end Bf
set_option Elab.async false
set_option linter.all false
set_option maxRecDepth 100000
set_option maxHeartbeats 4000000
/-! ## Units and partings in the heap -/
namespace Bf
open PySem PySem.Spec PyProof.Rows L2
abbrev Un_ := Str × Nat
abbrev QU := Addr × Un_
def uT (u : Un_) : HO := .tup [.str u.1, .int (u.2 : Nat)]
def UAt (H : Hp) (q : QU) : Prop := H q.1 = some (uT q.2)
abbrev refs (qs : List QU) : List V := qs.map fun q => .ref q.1
abbrev uns (qs : List QU) : List Un_ := qs.map (·.2)
def keyU (u : Un_) : List Key := [.inr u.1, .inl (u.2 : Nat)]
theorem keyU_inj {u v : Un_} (h : keyU u = keyU v) : u = v := by
  unfold keyU at h
  simp only [List.cons.injEq, Sum.inr.injEq, Sum.inl.injEq, and_true] at h
  exact Prod.ext h.1 (Int.ofNat.inj h.2)
theorem key_tup (u : Un_) : uT u = .tup ((keyU u).map kV) := rfl
def uD (u : Un_) : PyData := .tuple [.str u.1, .int (u.2 : Nat)]
theorem uD_eqv (u v : Un_) : PyData.eqv (uD u) (uD v) = decide (u = v) := by
  obtain ⟨a, b⟩ := u
  obtain ⟨c, d⟩ := v
  have e : PyData.eqv (uD (a, b)) (uD (c, d)) = ((a == c) && (((b : Int) == (d : Int)) && true)) := by simp only [uD, PyData.eqv, PyData.eqvAll]
  rw [e, Bool.and_true]
  by_cases h1 : a = c
  · subst h1
    by_cases h2 : b = d
    · subst h2; simp
    · rw [beq_eq_false_iff_ne.mpr (by omega : (b : Int) ≠ d), Bool.and_false, decide_eq_false (fun z => h2 (Prod.mk.inj z).2)]
  · rw [beq_eq_false_iff_ne.mpr h1, Bool.false_and, decide_eq_false (fun z => h1 (Prod.mk.inj z).1)]
theorem uD_shaped {u : Un_} (h : PyData.strOk u.1 = true) : SeqAt.shaped (uD u) = true := by
  show ((uD u).canLay0 && decide ((uD u).depth ≤ 64)) = true
  simp [uD, PyData.canLay0, PyData.canLayAll0, PyData.depth, PyData.depthAll, h]
theorem uDs_lay : ∀ l : List Un_, (∀ u, u ∈ l → PyData.strOk u.1 = true) → PyData.canLayAll0 (l.map uD) = true
  | [], _ => by simp [PyData.canLayAll0]
  | u :: l, h => by
    have := uDs_lay l fun v hv => h v (List.mem_cons_of_mem _ hv)
    have h0 := h u (List.mem_cons_self ..)
    simp only [List.map_cons, PyData.canLayAll0, this, Bool.and_true]
    simp [uD, PyData.canLay0, PyData.canLayAll0, h0]
theorem uDs_deep : ∀ l : List Un_, PyData.depthAll (l.map uD) ≤ 1
  | [] => by simp [PyData.depthAll]
  | u :: l => by
    have := uDs_deep l
    have h : (uD u).depth ≤ 1 := by simp [uD, PyData.depth, PyData.depthAll]
    simp only [List.map_cons, PyData.depthAll]
    omega
theorem uDs_shaped {l : List Un_} (h : ∀ u, u ∈ l → PyData.strOk u.1 = true) : SeqAt.shaped (.list (l.map uD)) = true := by
  have h1 := uDs_deep l
  show (PyData.canLay0 (.list (l.map uD)) && decide (PyData.depth (.list (l.map uD)) ≤ 64)) = true
  rw [Bool.and_eq_true]
  refine ⟨by simp only [PyData.canLay0]; exact uDs_lay l h, decide_eq_true ?_⟩
  simp only [PyData.depth]
  omega
theorem uDs_any (u : Un_) (l : List Un_) : ((l.map uD).any fun z => PyData.eqv z (uD u)) = decide (u ∈ l) := by
  induction l with
  | nil => rfl
  | cons v l ih =>
    rw [List.map_cons, List.any_cons, ih, uD_eqv]
    by_cases e : v = u
    · subst e; simp
    · by_cases m : u ∈ l
      · simp [m]
      · have e' : ¬ u = v := fun z => e z.symm
        simp [m, e, e']
theorem uDp {K : PySem.W.Frag} {H : Hp} {q : QU} (h : UAt H q) : Dp K H (.ref q.1) (uD q.2) := .tup (SqT.of h) (.cons (.str _) (.cons (.int _) .nil))
theorem uDps {K : PySem.W.Frag} {H : Hp} : ∀ {qs : List QU}, (∀ q, q ∈ qs → UAt H q) → DpAll K H (refs qs) ((uns qs).map uD)
  | [], _ => .nil
  | q :: qs, h => .cons (uDp (h q (List.mem_cons_self ..))) (uDps fun z hz => h z (List.mem_cons_of_mem _ hz))
theorem mem_uns {qs : List QU} {u : Un_} : u ∈ uns qs ↔ ∃ q, q ∈ qs ∧ q.2 = u := List.mem_map
/-- lots in the heap: the addresses of the lists, and what stands in them -/
abbrev QL := Addr × List QU
def LotAt (H : Hp) (z : QL) : Prop := H z.1 = some (.lst (refs z.2)) ∧ ∀ q, q ∈ z.2 → UAt H q
structure PartAt (K : PySem.W.Frag) (pa fa : Addr) (fl ll : Addr) (ls : List QL) (H : Hp) : Prop where
  self : ∃ dx, H pa = some (.ins (He.ga K "Parting") dx [("families", .ref fl), ("lots", .ref ll)])
  fams : H fl = some (.lst (List.replicate ls.length (.ref fa)))
  lots : H ll = some (.lst (ls.map fun z => .ref z.1))
  each : ∀ z, z ∈ ls → LotAt H z
  nd : (ls.map (·.1)).Nodup
  far1 : pa ∉ ls.map (·.1) ∧ fl ∉ ls.map (·.1) ∧ ll ∉ ls.map (·.1)
abbrev unsL (ls : List QL) : List (List Un_) := ls.map fun z => uns z.2
end Bf
namespace Bf
open PySem PySem.Spec PyProof.Rows L2
/-- the dict of a lot by its things -/
def stD (qs : List QU) : List (Key × V) := qs.map fun q => ((Sum.inr q.2.1 : Key), V.ref q.1)
theorem stD_keys (qs : List QU) : (stD qs).map (·.1) = (qs.map (·.2.1)).map Sum.inr := by unfold stD; rw [List.map_map, List.map_map]; rfl
theorem stD_get : ∀ {qs : List QU} {q : QU}, (qs.map (·.2.1)).Nodup → q ∈ qs → valV (stD qs) (.inr q.2.1) = some (.ref q.1)
  | z :: qs, q, nd, h => by
    rw [List.map_cons, List.nodup_cons] at nd
    by_cases e : z.2.1 = q.2.1
    · have : q = z := by
        rcases List.mem_cons.mp h with z1 | z1
        · exact z1
        · exact absurd (List.mem_map.mpr ⟨q, z1, e.symm⟩) nd.1
      subst this
      exact valV_pos rfl
    · show valV (((Sum.inr z.2.1 : Key), V.ref z.1) :: stD qs) (.inr q.2.1) = _
      rw [valV_neg (fun w => e (Sum.inr.inj w))]
      refine stD_get nd.2 ((List.mem_cons.mp h).resolve_left fun w => e (by rw [w]))
theorem stD_none {qs : List QU} {t : Str} (h : ∀ q, q ∈ qs → q.2.1 ≠ t) : valV (stD qs) (.inr t) = none := by
  cases e : valV (stD qs) (.inr t) with
  | none => rfl
  | some v =>
    have := valV_in e
    rw [stD_keys] at this
    obtain ⟨y, hy, e2⟩ := List.mem_map.mp this
    obtain ⟨q, hq, rfl⟩ := List.mem_map.mp hy
    exact absurd (Sum.inr.inj e2) (h q hq)
theorem stD_snoc {qs : List QU} {q : QU} (nd : ((qs ++ [q]).map (·.2.1)).Nodup) : putK (stD qs) (.inr q.2.1) (.ref q.1) = stD (qs ++ [q]) := by
  rw [putK_new _ (stD_none fun z hz e => ?_)]
  · unfold stD; rw [List.map_append]; rfl
  · rw [List.map_append, List.nodup_append] at nd
    exact nd.2.2 _ (List.mem_map_of_mem hz) _ (by simp) e
/-- the one unit with that thing -/
def pickU (qs : List QU) (t : Str) : QU := (qs.find? fun q => decide (q.2.1 = t)).getD (0, (t, 0))
theorem pickU_ok {qs : List QU} {t : Str} (h : t ∈ qs.map (·.2.1)) : pickU qs t ∈ qs ∧ (pickU qs t).2.1 = t := by
  unfold pickU
  cases e : qs.find? fun q => decide (q.2.1 = t) with
  | none =>
    obtain ⟨q, hq, hqt⟩ := List.mem_map.mp h
    have := List.find?_eq_none.mp e q hq
    simp [hqt] at this
  | some q => exact ⟨List.mem_of_find?_eq_some e, of_decide_eq_true (List.find?_some (p := fun q : QU => decide (q.2.1 = t)) e)⟩
theorem by_thing {qs : List QU} {q r : QU} (nd : (qs.map (·.2.1)).Nodup) (hq : q ∈ qs) (hr : r ∈ qs) (e : q.2.1 = r.2.1) : q = r := by
  obtain ⟨i, hi, rfl⟩ := List.mem_iff_getElem.mp hq
  obtain ⟨j, hj, rfl⟩ := List.mem_iff_getElem.mp hr
  have : i = j := (List.getElem_inj nd (h₀ := by simpa using hi) (h₁ := by simpa using hj)).mp (by simpa using e)
  subst this; rfl
section
variable {P : Program} {w : World} {K : PySem.W.Frag} {mg : Str → Option Value} {base : Heap}
theorem sc_way : FnScope ["self", "index", "unit", "standing", "ring", "other", "thing"] ["self", "index", "unit"] (defScope s_Parting_in_the_way) := ⟨rfl, rfl, rfl, by decide +kernel, rfl, by decide +kernel, by decide +kernel⟩
/-- one lot as the text keeps it: free, of the family's things -/
structure LotOk (T : List Str) (ends : Str → Str × Str) (l : List Un_) : Prop where
  nd : l.Nodup
  free : BfM.Ind (BfM.endsU ends) (· ∈ l)
  sub : ∀ v, v ∈ l → v.1 ∈ T
theorem LotOk.things {T : List Str} {ends : Str → Str × Str} {l : List Un_} (h : LotOk T ends l) : (l.map (·.1)).Nodup := BfM.things_nodup h.nd h.free
theorem LotOk.few {T : List Str} {ends : Str → Str × Str} {l : List Un_} (h : LotOk T ends l) : l.length ≤ T.length := by
  rw [← List.length_map (f := (·.1))]
  exact BfM.nodup_len h.things fun x hx => let ⟨v, hv, e⟩ := List.mem_map.mp hx; e ▸ h.sub v hv
def sp_way (K : PySem.W.Frag) : Sp := fun vs H Q _ => ∃ (fa d na wb pa fl ll : Addr) (Vs T : List Str) (ends : Str → Str × Str) (ls : List QL) (i : Nat) (z : QL) (u : QU), vs = [.ref pa, .int (i : Nat), .ref u.1] ∧ Fam K fa d na wb Vs T ends H ∧ PartAt K pa fa fl ll ls H ∧ ls[i]? = some z ∧ UAt H u ∧
  LotOk T ends (uns z.2) ∧ u.2.1 ∈ T ∧ u.2 ∉ uns z.2 ∧
  (∀ H', Fk K fa d na wb Vs T ends H H' → ¬ BfM.Cl (BfM.endsU ends) (· ∈ uns z.2) u.2 → Q .non H') ∧
  (∀ H' p os, Fk K fa d na wb Vs T ends H H' → H p = none → BfM.Cl (BfM.endsU ends) (· ∈ uns z.2) u.2 → H' p = some (.lst (refs os)) → (∀ q, q ∈ os → q ∈ z.2) → (uns os).Nodup → (∀ x, x ∈ uns os ↔ x ∈ uns z.2 ∧ ¬ BfM.Cl (BfM.endsU ends) (fun v => v ∈ uns z.2 ∧ v ≠ x) u.2) → Q (.ref p) H')
theorem has_way (X : Txt K mg) (N : Fns K) : Has P w K mg base (He.ma K (He.ga K "Parting") "in_the_way") 5 ["self", "index", "unit"] (sp_way K) := by
  refine has_mk N.f_Parting_in_the_way sc_way (fun vs H Q E h => ?_) (fun _ _ _ _ _ _ us hl => match us, hl with | [_, _, _], _ => rfl) (fun cdv A outer s H vs Q E hr h => ?_)
  · obtain ⟨fa, d, na, wb, pa, fl, ll, Vs, T, ends, ls, i, z, u, rfl, _⟩ := h; rfl
  · obtain ⟨fa, d, na, wb, pa, fl, ll, Vs, T, ends, ls, i, z, u, rfl, hf, hp, hz, hu, ok, mt, nu, kN, kL⟩ := h
    obtain ⟨up, u⟩ := u
    refine ⟨_, pss_cons (ps_set (i := 3) sc_way.nd rfl (Or.inr rfl) (pe_dc (own := [("other", 5)]) (g := gName 5) (tt := tYes) (tk := tOp (rIxT K) (tVar 5) (tC (.int 0))) (tv := tVar 5) rfl sc_way.nd (pi_list (pe_ix ix_list (pe_fld (pv 0) (by rfl)) (pv 1) (fun _ _ => rfl))) (blkOk_by (N := ["self", "index", "unit", "standing", "ring", "other", "thing"]) (sc := defScope s_Parting_in_the_way) (by decide +kernel)) (fun _ _ _ _ _ => pg_name (i := 5) sc_way.nd rfl (Or.inl rfl)) (fun _ _ _ _ _ => pts_nil) (fun _ _ _ _ _ => pe_ix ix_tup (pv 5) pe_int (fun _ _ => rfl)) (fun _ _ _ _ _ => pv 5)))
      (pss_cons (ps_if (pt_cmpR (op_inK (hu_of hr)) (pe_ix ix_tup (pv 2) pe_int (fun _ _ => rfl)) (pv 3) (by rfl)) (pss_one (ps_ret (pe_lst (pa_cons (pe_dget (hu_of hr) (pv 3) (pe_ix ix_tup (pv 2) pe_int (fun _ _ => rfl)) (fun _ _ => rfl)) pa_nil)))) pss_nil)
      (pss_cons (ps_set (i := 4) sc_way.nd rfl (Or.inl rfl) (pe_ca (has_ring X N) X.g_ring_within hr (pa_cons (pe_ix ix_list (pe_fld (pv 0) (by rfl)) (pv 1) (fun _ _ => rfl)) (pa_cons (pe_t1 call_tuple_of X.f_tuple (pe_b1 cr_sortedS X.f_sorted (pe_t1 (call_listD rfl) X.f_list (pv 3)))) (pa_cons (pe_ix ix_tup (pv 2) pe_int (fun _ _ => rfl)) pa_nil)))))
      (pss_cons (ps_if (pt_cmpR op_isN (pv 4) pe_non (by rfl)) (pss_one (ps_ret pe_non)) pss_nil)
      (pss_one (ps_ret (pe_lc (own := [("thing", 6)]) (g := gName 6) (tt := tTest (tOp rNe (tVar 6) (tOp (rIxT K) (tVar 2) (tC (.int 0))))) (te := tDGet (tVar 3) (tVar 6)) rfl sc_way.nd (pi_tup (pv 4)) (blkOk_by (N := ["self", "index", "unit", "standing", "ring", "other", "thing"]) (sc := defScope s_Parting_in_the_way) (by decide +kernel)) (fun _ _ _ _ _ => pg_name (i := 6) sc_way.nd rfl (Or.inl rfl)) (fun _ _ _ _ _ => pts_one (pt_cmpR op_ne (pv 6) (pe_ix ix_tup (pv 2) pe_int (fun _ _ => rfl)) (by rfl))) (fun _ _ _ _ _ => pe_dget (hu_of hr) (pv 3) (pv 6) (fun _ _ => rfl)))))))), ?_⟩
    obtain ⟨⟨dx, hpa⟩, hfl, hll, heach, ndl, far⟩ := hp
    have hzm : z ∈ ls := List.mem_of_getElem? hz
    obtain ⟨hz1, hzu⟩ := heach z hzm
    have th : (z.2.map (·.2.1)).Nodup := by have := ok.things; rw [List.map_map] at this; exact this
    have few : z.2.length ≤ 8 := by have h1 := ok.few; rw [List.length_map] at h1; exact Nat.le_trans h1 hf.ok.few
    refine ⟨_, rfl, pa, _, dx, _, _, rfl, hpa, X.c_Parting, X.n_Parting_lots, rfl, _, rfl, ll, _, (i : Int), .ref z.1, rfl, rfl, SqL.of hll, atI_nat (by rw [List.getElem?_map, hz]; rfl), z.1, rfl, ⟨_, SqL.of hz1⟩, fun L hL => ?_⟩
    refine dc_row row_list (fun j acc H' => Same H H' ∧ acc = stD (z.2.take j)) ⟨Same.refl _, rfl⟩ hL (fun j acc H' o q => ⟨q.1.put hL, q.2⟩) (fun j acc H' q => q.1.seq (SqL.of hz1)) (small_line (by rw [List.length_map]; omega)) (fun j x acc H' hx q hL2 Kt Kf kk => ?_) fun acc H' q hL2 => ?_
    · obtain ⟨r, hr, rfl⟩ := get_map hx
      have hru := q.1 _ _ (hzu r (List.mem_of_getElem? hr))
      refine ⟨rfl, _, rfl, r.1, _, 0, _, rfl, rfl, SqT.of hru, rfl, _, rfl, kk (.inr r.2.1) _ H' ⟨q.1, ?_⟩ hL2⟩
      rw [take_succ_get hr, q.2]
      refine stD_snoc ?_
      rw [← take_succ_get hr]
      exact th.sublist ((List.take_sublist _ _).map _)
    rw [List.length_map, List.take_length] at q
    obtain ⟨s1, rfl⟩ := q
    have hu1 : H' up = some (uT u) := s1 _ _ hu
    refine ⟨_, rfl, up, _, 0, _, rfl, rfl, SqT.of hu1, rfl, _, rfl, L, _, rfl, DGet.k (k := .inr u.1) hL2, _, rfl, ?_⟩
    by_cases hc : ∃ q, q ∈ z.2 ∧ q.2.1 = u.1
    · obtain ⟨q0, hq0, e0⟩ := hc
      have ev : valV (stD z.2) (.inr u.1) = some (.ref q0.1) := by have := stD_get th hq0; rw [e0] at this; exact this
      have g0 : DGet H' L (.str u.1) (some (.ref q0.1)) := by have := DGet.k (k := .inr u.1) hL2; rw [ev] at this; exact this
      rw [ev]
      have m0 : (u.1, q0.2.2) ∈ uns z.2 := mem_uns.mpr ⟨q0, hq0, by rw [← e0]⟩
      refine iteT ⟨_, rfl, _, rfl, up, _, 0, _, rfl, rfl, SqT.of hu1, rfl, L, .ref q0.1, rfl, g0, small_le (by simp), fun p hp => ?_⟩
      refine kL _ p [q0] (Fk.of hf (s1.put (s1.free hp))) (s1.free hp) (BfM.cl_copy (n := q0.2.2) (t := u.1) m0 rfl) upd_same (fun q hq => by rw [List.mem_singleton.mp hq]; exact hq0) (by simp) fun x => ?_
      have e2 : q0.2 = (u.1, q0.2.2) := by rw [← e0]
      constructor
      · intro hx
        have hx : x = q0.2 := by simpa using hx
        subst hx
        exact ⟨mem_uns.mpr ⟨q0, hq0, rfl⟩, (copy_ring ok.free m0 (mem_uns.mpr ⟨q0, hq0, rfl⟩)).mpr e2⟩
      · rintro ⟨hx, n⟩
        have := (copy_ring ok.free m0 hx).mp n
        simp [this, e2.symm]
    · have hn : ∀ q, q ∈ z.2 → q.2.1 ≠ u.1 := fun q hq e => hc ⟨q, hq, e⟩
      rw [stD_none hn]
      refine iteF ?_
      have ek : ((stD z.2).map fun kv => kV kv.1) = (z.2.map (·.2.1)).map V.str := by unfold stD; rw [List.map_map, List.map_map]; rfl
      refine ⟨_, rfl, pa, _, dx, _, _, rfl, s1 _ _ hpa, X.c_Parting, X.n_Parting_families, rfl, _, rfl, fl, _, (i : Int), .ref fa, rfl, rfl, SqL.of (s1 _ _ hfl), atI_nat (by rw [List.getElem?_replicate, if_pos (List.getElem?_eq_some_iff.mp hz).1]), ?_⟩
      refine ⟨_, rfl, L, stD z.2, rfl, Rd.of hL2, fun l1 hl1 => ⟨l1, z.2.map (·.2.1), rfl, SqL.of (by rw [← ek]; exact upd_same), by rw [List.length_map]; omega, fun lot l2 pm so hl2 => ⟨l2, _, rfl, .inl ⟨SqL.of upd_same, fun l3 hl3 => ?_⟩⟩⟩⟩
      have s2 := s1.put (o := .lst ((stD z.2).map fun kv => kV kv.1)) (s1.free hl1)
      have s3 := s2.put (o := .lst (lot.map V.str)) (s2.free hl2)
      have s4 := s3.put (o := .tup (lot.map V.str)) (s3.free hl3)
      have t2 : Same H' (upd (upd (upd H' l1 (.lst ((stD z.2).map fun kv => kV kv.1))) l2 (.lst (lot.map V.str))) l3 (.tup (lot.map V.str))) := ((Same.new hl1).put ((Same.new hl1).free hl2)).put (((Same.new hl1).put ((Same.new hl1).free hl2)).free hl3)
      obtain ⟨rL, mL⟩ := sorted_is pm so th
      have mL2 : ∀ y, y ∈ lot ↔ y ∈ (uns z.2).map (·.1) := fun y => by rw [mL, List.map_map]; rfl
      have iL : BfM.Ind ends (· ∈ lot) := ind_congr (fun y => (mL2 y).symm) (BfM.things_ind ok.free)
      have ntl : u.1 ∉ lot := fun h => by
        obtain ⟨q, hq, e⟩ := List.mem_map.mp ((mL _).mp h)
        exact hn q hq e
      refine ⟨_, rfl, up, _, 0, _, rfl, rfl, SqT.of (s4 _ _ hu), rfl, ?_⟩
      refine ⟨fa, d, na, wb, l3, Vs, T, lot, ends, u.1, rfl, hf.same s4, upd_same, rL, fun x hx => ?_, mt, ntl, fun H5 whole f5 rW mW => ⟨fun e => ?_, fun ne H6 p f6 hp h6 => ?_⟩⟩
      · obtain ⟨q, hq, e⟩ := List.mem_map.mp ((mL _).mp hx)
        rw [← e]
        exact ok.sub _ (mem_uns.mpr ⟨q, hq, rfl⟩)
      · refine ⟨_, rfl, rfl, _, rfl, iteT (kN _ ((Fk.of hf s4).trans f5) ?_)⟩
        rw [unit_cl mL2]
        exact (whole_free hf.ok.web rL.nodup rW.nodup mW ntl iL).mp e
      · have cl : BfM.Cl (BfM.endsU ends) (· ∈ uns z.2) u := (unit_cl mL2).mpr (Classical.not_not.mp fun c => ne ((whole_free hf.ok.web rL.nodup rW.nodup mW ntl iL).mpr c))
        have f06 := (Fk.of hf s4).trans f6
        have hL6 : H6 L = some (.dK (stD z.2)) := f6.at (t2 _ _ hL2)
        refine ⟨_, rfl, rfl, _, rfl, iteF ?_⟩
        refine ⟨_, rfl, p, rfl, ⟨_, SqT.of h6⟩, fun D hD => ?_⟩
        have inR : ∀ t, t ∈ ringF ends Vs whole lot.length → t ≠ u.1 → t ∈ z.2.map (·.2.1) := fun t ht n => by
          have := (mW t).mp (List.mem_filter.mp ht).1
          exact (mL t).mp (this.resolve_right n)
        refine lc_pure (as := ringF ends Vs whole lot.length) (f := V.str) (p := fun t => decide (t ≠ u.1)) (out := fun t => .ref (pickU z.2 t).1) row_tup hD (fun _ q => SqT.of (q _ _ h6)) (small_line ?_) (fun c H7 hc q Kt Kf k1 k2 => ?_) fun H7 q hD7 => ?_
        · have h1 := List.length_filter_le (fun z => decide (BfM.rk ends Vs (without1 whole z) = lot.length)) whole
          have h2 := len_more rL.nodup rW.nodup mW ntl
          have h3 := pm.length_eq
          rw [List.length_map] at h3
          show (whole.filter _).length ≤ _
          omega
        · refine ⟨rfl, _, rfl, _, rfl, up, _, 0, _, rfl, rfl, SqT.of (q _ _ (f06.at hu)), rfl, rfl, _, rfl, ?_⟩
          by_cases e : c = u.1
          · rw [show (!decide (V.str c = V.str u.1)) = false by simp [e]]
            exact iteF (k2 (by simp [e]) _ (Same.refl _))
          · rw [show (!decide (V.str c = V.str u.1)) = true by simp [e]]
            obtain ⟨p1, p2⟩ := pickU_ok (inR c hc e)
            have g1 : DGet H7 L (.str c) (some (.ref (pickU z.2 c).1)) := by
              have := DGet.k (k := .inr c) (q _ _ hL6)
              have e3 := stD_get th p1
              rw [p2] at e3
              rw [e3] at this
              exact this
            exact iteT ⟨_, rfl, _, rfl, L, _, rfl, g1, k1 (by simp [e]) _ (Same.refl _)⟩
        · have er : (((ringF ends Vs whole lot.length).filter fun t => decide (t ≠ u.1)).map fun t => V.ref (pickU z.2 t).1) = refs (((ringF ends Vs whole lot.length).filter fun t => decide (t ≠ u.1)).map (pickU z.2)) := by unfold refs; rw [List.map_map]; rfl
          have sel : ∀ t, t ∈ ((ringF ends Vs whole lot.length).filter fun t => decide (t ≠ u.1)) → pickU z.2 t ∈ z.2 ∧ (pickU z.2 t).2.1 = t := fun t ht => by
            obtain ⟨h1, h2⟩ := List.mem_filter.mp ht
            exact pickU_ok (inR t h1 (of_decide_eq_true h2))
          refine kL H7 D _ (f06.then_ q) (f06.free hD) cl (by rw [← er]; exact hD7) (fun r hr => ?_) ?_ fun x => ?_
          · obtain ⟨t, ht, rfl⟩ := List.mem_map.mp hr
            exact (sel t ht).1
          · show ((((ringF ends Vs whole lot.length).filter fun t => decide (t ≠ u.1)).map (pickU z.2)).map (·.2)).Nodup
            rw [List.map_map]
            refine BfM.nodup_map ((rW.nodup.filter _).filter _) fun a ha b hb e => ?_
            have h1 := (sel a ha).2
            have h2 := (sel b hb).2
            have e : (pickU z.2 a).2 = (pickU z.2 b).2 := e
            rw [← h1, ← h2, e]
          · have ringmem : ∀ y, y ∈ uns z.2 → (y.1 ∈ ringF ends Vs whole lot.length ↔ ¬ BfM.Cl (BfM.endsU ends) (fun v => v ∈ uns z.2 ∧ v ≠ y) u) := fun y hy => by
              have yl : y.1 ∈ lot := (mL2 _).mpr (List.mem_map_of_mem hy)
              rw [unit_ring mL2 ok.things hy, ← less_free hf.ok.web rL.nodup rW.nodup mW ntl iL yl]
              constructor
              · intro h; exact of_decide_eq_true (List.mem_filter.mp h).2
              · intro h; exact List.mem_filter.mpr ⟨(mW _).mpr (.inl yl), decide_eq_true h⟩
            constructor
            · intro hx
              obtain ⟨r, hr, rfl⟩ := mem_uns.mp hx
              obtain ⟨t, ht, rfl⟩ := List.mem_map.mp hr
              obtain ⟨h1, h2⟩ := sel t ht
              have m := mem_uns.mpr ⟨_, h1, rfl⟩
              exact ⟨m, (ringmem _ m).mp (by rw [h2]; exact (List.mem_filter.mp ht).1)⟩
            · rintro ⟨hx, n⟩
              obtain ⟨r, hr, rfl⟩ := mem_uns.mp hx
              have h1 := (ringmem _ hx).mpr n
              have ht : r.2.1 ∈ ((ringF ends Vs whole lot.length).filter fun t => decide (t ≠ u.1)) := List.mem_filter.mpr ⟨h1, decide_eq_true (hn r hr)⟩
              obtain ⟨h2, h3⟩ := sel _ ht
              refine mem_uns.mpr ⟨_, List.mem_map_of_mem ht, ?_⟩
              rw [by_thing th h2 hr h3]
end
end Bf
namespace Bf
open PySem PySem.Spec PyProof.Rows L2
/-! ### lots as lists -/
section
variable {U : Type} {l : List (List U)} {k j : Nat} {x y : List U} {u z : U}
theorem flatten_out (h : l[k]? = some x) (p : x.Perm (u :: y)) : l.flatten.Perm (u :: (l.set k y).flatten) := by
  induction l generalizing k with
  | nil => cases h
  | cons a l ih =>
    cases k with
    | zero =>
      cases h
      show (x ++ l.flatten).Perm (u :: (y ++ l.flatten))
      exact p.append_right _
    | succ k =>
      show (a ++ l.flatten).Perm (u :: (a ++ (l.set k y).flatten))
      exact ((ih h).append_left a).trans List.perm_middle
theorem flatten_in (h : l[k]? = some x) (p : y.Perm (u :: x)) : (l.set k y).flatten.Perm (u :: l.flatten) := by
  obtain ⟨hk, e⟩ := List.getElem?_eq_some_iff.mp h
  have h2 : (l.set k y)[k]? = some y := by rw [List.getElem?_set_self hk]
  have := flatten_out h2 p
  rw [List.set_set] at this
  have e2 : l.set k x = l := by rw [← e]; exact List.set_getElem_self hk
  rw [e2] at this
  exact this
theorem LL_at (h : l[k]? = some x) : BfM.LL l k z ↔ z ∈ x := ⟨fun ⟨_, e, m⟩ => by rw [h] at e; cases e; exact m, fun m => ⟨x, h, m⟩⟩
theorem LL_set (hk : k < l.length) : BfM.LL (l.set k y) k z ↔ z ∈ y := LL_at (List.getElem?_set_self hk)
theorem LL_ne (h : j ≠ k) : BfM.LL (l.set k y) j z ↔ BfM.LL l j z := by
  unfold BfM.LL
  rw [List.getElem?_set_ne h.symm]
theorem erase_perm : ∀ {l : List U} {j : Nat} {u : U}, l[j]? = some u → l.Perm (u :: l.eraseIdx j)
  | a :: l, 0, u, h => by cases h; exact List.Perm.refl _
  | a :: l, j + 1, u, h => by
    show (a :: l).Perm (u :: a :: l.eraseIdx j)
    exact ((erase_perm (l := l) h).cons a).trans (List.Perm.swap _ _ _)
theorem erase_map {W : Type} (f : U → W) : ∀ (l : List U) (j : Nat), (l.eraseIdx j).map f = (l.map f).eraseIdx j
  | [], _ => rfl
  | _ :: _, 0 => rfl
  | a :: l, j + 1 => by
    show f a :: (l.eraseIdx j).map f = f a :: (l.map f).eraseIdx j
    rw [erase_map f l j]
theorem first_at {l : List U} (nd : l.Nodup) (h : l[j]? = some u) {m : Nat} {v : U} (hm : m < j) (hv : l[m]? = some v) : v ≠ u := by
  rintro rfl
  obtain ⟨h1, e1⟩ := List.getElem?_eq_some_iff.mp h
  obtain ⟨h2, e2⟩ := List.getElem?_eq_some_iff.mp hv
  have := (List.getElem_inj nd).mp (e1.trans e2.symm)
  omega
end
/-! ### a parting's heap, one lot changed -/
section
variable {K : PySem.W.Frag} {pa fa fl ll : Addr} {ls : List QL} {H H1 : Hp} {k : Nat} {z : QL} {qs : List QU}
theorem PartAt.out (h : PartAt K pa fa fl ll ls H) {b : Addr} {o : HO} (e : H b = some o) (n : ∀ xs, o ≠ .lst xs) : b ∉ ls.map (·.1) := by
  intro m
  obtain ⟨z, hz, rfl⟩ := List.mem_map.mp m
  have := (h.each z hz).1
  rw [e] at this
  exact n _ (Option.some.inj this)
theorem set_fst (h : ls[k]? = some z) : (ls.set k (z.1, qs)).map (·.1) = ls.map (·.1) := by
  rw [List.map_set]
  obtain ⟨hk, e⟩ := List.getElem?_eq_some_iff.mp h
  have : z.1 = (ls.map (·.1))[k]'(by rw [List.length_map]; exact hk) := by rw [List.getElem_map, e]
  show (ls.map (·.1)).set k z.1 = _
  rw [this]
  exact List.set_getElem_self _
theorem PartAt.set (h : PartAt K pa fa fl ll ls H) (hz : ls[k]? = some z) (hq : ∀ q, q ∈ qs → UAt H q) : PartAt K pa fa fl ll (ls.set k (z.1, qs)) (upd H z.1 (.lst (refs qs))) := by
  obtain ⟨⟨dx, h1⟩, h2, h3, h4, h5, h6, h7, h8⟩ := h
  have hm : z ∈ ls := List.mem_of_getElem? hz
  have mz : z.1 ∈ ls.map (·.1) := List.mem_map_of_mem hm
  have tupOk : ∀ q, UAt H q → UAt (upd H z.1 (.lst (refs qs))) q := fun q hq => by
    have : q.1 ≠ z.1 := fun e => by
      have a := (h4 z hm).1
      unfold UAt at hq
      rw [e, a] at hq
      cases hq
    unfold UAt
    rw [upd_ne this]; exact hq
  have n6 : pa ≠ z.1 := fun e => h6 (by rw [e]; exact mz)
  have n7 : fl ≠ z.1 := fun e => h7 (by rw [e]; exact mz)
  have n8 : ll ≠ z.1 := fun e => h8 (by rw [e]; exact mz)
  refine ⟨⟨dx, by rw [upd_ne n6]; exact h1⟩, by rw [upd_ne n7, List.length_set]; exact h2, ?_, fun y hy => ?_, by rw [set_fst hz]; exact h5, by rw [set_fst hz]; exact ⟨h6, h7, h8⟩⟩
  · rw [upd_ne n8, h3]
    have := set_fst (qs := qs) hz
    have e2 : ((ls.set k (z.1, qs)).map (·.1)).map V.ref = (ls.map (·.1)).map V.ref := by rw [this]
    rw [List.map_map, List.map_map] at e2
    exact congrArg _ (congrArg _ e2.symm)
  · obtain ⟨j, hj, e⟩ := List.mem_iff_getElem.mp hy
    rw [List.getElem_set] at e
    by_cases ek : k = j
    · rw [if_pos ek] at e
      subst e
      exact ⟨upd_same, fun q m => tupOk q (hq q m)⟩
    · rw [if_neg ek] at e
      rw [List.length_set] at hj
      have hjm : y ∈ ls := e ▸ List.getElem_mem hj
      have ne : y.1 ≠ z.1 := fun c => by
        obtain ⟨hk, e1⟩ := List.getElem?_eq_some_iff.mp hz
        have : j = k := (List.getElem_inj h5 (h₀ := by rw [List.length_map]; exact hj) (h₁ := by rw [List.length_map]; exact hk)).mp (by rw [List.getElem_map, List.getElem_map, e, e1]; exact c)
        exact ek this.symm
      exact ⟨by rw [upd_ne ne]; exact (h4 y hjm).1, fun q m => tupOk q ((h4 y hjm).2 q m)⟩
theorem PartAt.same (h : PartAt K pa fa fl ll ls H) (k : Same H H1) : PartAt K pa fa fl ll ls H1 :=
  let ⟨⟨dx, h1⟩, h2, h3, h4, h5, h6⟩ := h
  ⟨⟨dx, k _ _ h1⟩, k _ _ h2, k _ _ h3, fun z hz => ⟨k _ _ (h4 z hz).1, fun q hq => k _ _ ((h4 z hz).2 q hq)⟩, h5, h6⟩
end
theorem uns_set {ls : List QL} {k : Nat} {a : Addr} {qs : List QU} : unsL (ls.set k (a, qs)) = (unsL ls).set k (uns qs) := by
  unfold unsL; rw [List.map_set]
theorem uns_at {ls : List QL} {k : Nat} {z : QL} (h : ls[k]? = some z) : (unsL ls)[k]? = some (uns z.2) := by
  unfold unsL; rw [List.getElem?_map, h]; rfl
/-! ### the links -/
structure CameAt (H : Hp) (ca : Addr) (cm : Un_ → Option (Option (Un_ × Nat))) (n : Nat) : Prop where
  ex : ∃ kvs, H ca = some (.dT kvs) ∧ kvs.length ≤ n ∧ (∀ u, cm u = none → valV kvs (keyU u) = none) ∧ (∀ u, cm u = some none → valV kvs (keyU u) = some .non) ∧
    ∀ u v k, cm u = some (some (v, k)) → ∃ lk vp, valV kvs (keyU u) = some (.ref lk) ∧ H lk = some (.tup [.ref vp, .int (k : Nat)]) ∧ UAt H (vp, v)
theorem CameAt.keep {H H1 : Hp} {ca : Addr} {cm : Un_ → Option (Option (Un_ × Nat))} {n : Nat} (h : CameAt H ca cm n) (k1 : ∀ b xs, H b = some (.tup xs) → H1 b = some (.tup xs)) (k2 : ∀ kvs, H ca = some (.dT kvs) → H1 ca = some (.dT kvs)) : CameAt H1 ca cm n :=
  let ⟨kvs, e, l, a, b, c⟩ := h.ex
  ⟨kvs, k2 _ e, l, a, b, fun u v k q => let ⟨lk, vp, e1, e2, e3⟩ := c u v k q; ⟨lk, vp, e1, k1 _ _ e2, k1 _ _ e3⟩⟩
theorem hu65 {k : Nat} {A : Around} (hr : Room k A) : A.units + 65 < cLine := by have := hr.un; omega
theorem in_flat {U : Type} : ∀ {l : List (List U)} {x : List U}, x ∈ l → x.length ≤ l.flatten.length
  | a :: l, x, h => by
    rw [List.flatten_cons, List.length_append]
    rcases List.mem_cons.mp h with rfl | h
    · omega
    · have := in_flat h; omega
end Bf
namespace Bf
open PySem PySem.Spec PyProof.Rows L2
section
variable {P : Program} {w : World} {K : PySem.W.Frag} {mg : Str → Option Value} {base : Heap}
theorem sc_shift : FnScope ["self", "came", "unit", "index", "link"] ["self", "came", "unit", "index"] (defScope s_Parting_shift) := ⟨rfl, rfl, rfl, by decide +kernel, rfl, by decide +kernel, by decide +kernel⟩
abbrev eU (ends : Str → Str × Str) := BfM.endsU (T := Str) ends
def sp_shift (K : PySem.W.Frag) : Sp := fun vs H Q _ => ∃ (pa fa fl ll ca : Addr) (ends : Str → Str × Str) (ls : List QL) (cm : Un_ → Option (Option (Un_ × Nat))) (n i : Nat) (u : QU) (r : List (Un_ × Nat)) (u0 : Un_), vs = [.ref pa, .ref ca, .ref u.1, .int (i : Nat)] ∧ PartAt K pa fa fl ll ls H ∧ UAt H u ∧ CameAt H ca cm n ∧ BfM.Way cm u.2 r ∧
  (∀ j, j < ls.length → BfM.Ind (eU ends) (BfM.LL (unsL ls) j)) ∧ BfM.Aug (eU ends) ls.length (BfM.LL (unsL ls)) u.2 i r ∧ (∀ x, cm x = some none → x = u0) ∧ (u0 :: (unsL ls).flatten).Nodup ∧ (∀ v, v ∈ u0 :: (unsL ls).flatten → PyData.strOk v.1 = true) ∧ (unsL ls).flatten.length ≤ 10000 ∧ ls.length ≤ 1000 ∧
  ∀ H' ls', Kp (ls.map (·.1)) H H' → PartAt K pa fa fl ll ls' H' → ls'.map (·.1) = ls.map (·.1) → (unsL ls').flatten.Perm (u0 :: (unsL ls).flatten) → (∀ j, j < ls.length → BfM.Ind (eU ends) (BfM.LL (unsL ls') j)) →
    (∀ W, BfM.Tight (eU ends) ls.length (BfM.LL (unsL ls)) W → BfM.Tight (eU ends) ls.length (BfM.LL (unsL ls')) W ∧ ¬ W u0) → Q .non H'
theorem has_shift (X : Txt K mg) (N : Fns K) : Has P w K mg base (He.ma K (He.ga K "Parting") "shift") 1 ["self", "came", "unit", "index"] (sp_shift K) := by
  refine has_mk N.f_Parting_shift sc_shift (fun vs H Q E h => ?_) (fun _ _ _ _ _ _ us hl => match us, hl with | [_, _, _, _], _ => rfl) (fun cdv A outer s H vs Q E hr h => ?_)
  · obtain ⟨pa, fa, fl, ll, ca, ends, ls, cm, n, i, u, r, u0, rfl, _⟩ := h; rfl
  · obtain ⟨pa, fa, fl, ll, ca, ends, ls, cm, n, i, u, r, u0, rfl, hp, hu, hc, wy, hI, ag, rt, nd, low, big, many, k⟩ := h
    refine ⟨_, pss_one (ps_while PassesOwn.never (pt_cmpR op_notN (pv 2) pe_non (by rfl))
      (pss_cons (ps_set (i := 4) sc_shift.nd rfl (Or.inl rfl) (pe_dget (hu_of hr) (pv 1) (pv 2) (fun _ _ => rfl)))
      (pss_cons (ps_if (pt_cmpR op_notN (pv 4) pe_non (by rfl)) (pss_one (ps_expr (pe_bm PySem.F.plainAttrs_list PySem.F.slot_list_remove PySem.F.type_list_remove (BfR.mt_removeD (hu65 hr)) (pe_ix ix_list (pe_fld (pv 0) (by rfl)) (pe_ix ix_tup (pv 4) pe_int (fun _ _ => rfl)) (fun _ _ => rfl)) (pa_cons (pv 2) pa_nil)))) pss_nil)
      (pss_cons (ps_expr (pe_bm PySem.F.plainAttrs_list PySem.F.slot_list_append PySem.F.type_list_append mt_append (pe_ix ix_list (pe_fld (pv 0) (by rfl)) (pv 3) (fun _ _ => rfl)) (pa_cons (pv 2) pa_nil)))
      (pss_one (ps_asg (pe_ifExp (pt_cmpR op_notN (pv 4) pe_non (by rfl)) (pv 4) (pe_tup (pa_cons pe_non (pa_cons (pv 3) pa_nil)))) (pg_tup rfl (pgs_cons (pg_name (i := 2) sc_shift.nd rfl (Or.inl rfl)) (pgs_cons (pg_name (i := 3) sc_shift.nd rfl (Or.inl rfl)) pgs_nil))))))))), ?_⟩
    refine ⟨fun m σ H' => ∃ ls', Kp (ls.map (·.1)) H H' ∧ PartAt K pa fa fl ll ls' H' ∧ ls'.map (·.1) = ls.map (·.1) ∧ (∀ j, j < ls.length → BfM.Ind (eU ends) (BfM.LL (unsL ls') j)) ∧
      ((∃ (u : QU) (i : Nat) (r : List (Un_ × Nat)) (lk : Option V), m = r.length + 1 ∧ σ = [some (.ref pa), some (.ref ca), some (.ref u.1), some (.int (i : Nat)), lk] ∧ UAt H' u ∧ BfM.Way cm u.2 r ∧ BfM.Aug (eU ends) ls.length (BfM.LL (unsL ls')) u.2 i r ∧ (unsL ls').flatten.Perm (unsL ls).flatten ∧ ∀ W, BfM.Tight (eU ends) ls.length (BfM.LL (unsL ls)) W → BfM.Tight (eU ends) ls.length (BfM.LL (unsL ls')) W) ∨
       (m = 0 ∧ (∃ x y, σ = [some (.ref pa), some (.ref ca), some .non, x, y]) ∧ (unsL ls').flatten.Perm (u0 :: (unsL ls).flatten) ∧ ∀ W, BfM.Tight (eU ends) ls.length (BfM.LL (unsL ls)) W → BfM.Tight (eU ends) ls.length (BfM.LL (unsL ls')) W ∧ ¬ W u0)),
      ⟨r.length + 1, ls, Kp.refl _ _, hp, rfl, hI, .inl ⟨u, i, r, none, rfl, rfl, hu, wy, ag, List.Perm.refl _, fun _ t => t⟩⟩, fun m σ H' q => ?_⟩
    obtain ⟨ls', kp, hp', addr, hI', q⟩ := q
    have len' : ls'.length = ls.length := by have := congrArg List.length addr; rw [List.length_map, List.length_map] at this; exact this
    have hc' : CameAt H' ca cm n := hc.keep (fun b xs e => kp.at e (hp.out e (by simp))) (fun kvs e => kp.at e (hp.out e (by simp)))
    rcases q with ⟨u, i, r, lk, rfl, rfl, hu, wy, ag, pm, tg⟩ | ⟨rfl, ⟨x, y, rfl⟩, pm, tg⟩
    · obtain ⟨⟨dx, hpa⟩, hfl, hll, heach, ndl, far⟩ := hp'
      have hp' : PartAt K pa fa fl ll ls' H' := ⟨⟨dx, hpa⟩, hfl, hll, heach, ndl, far⟩
      have hilt : i < ls'.length := by rw [len']; exact ag.lt
      have zi : ls'[i]? = some ls'[i] := List.getElem?_eq_getElem hilt
      have ni : u.2 ∉ uns ls'[i].2 := fun m => ag.head (BfM.cl_mem ((LL_at (uns_at zi)).mpr m))
      have hul : u.2 ∈ u0 :: (unsL ls).flatten := by
        cases r with
        | nil => exact List.mem_cons.mpr (.inl (rt _ wy))
        | cons p r =>
          have : BfM.LL (unsL ls') p.2 u.2 := ag.links.1.2.mem
          obtain ⟨l, e, hm⟩ := this
          exact List.mem_cons_of_mem _ (pm.mem_iff.mp (List.mem_flatten.mpr ⟨l, List.mem_of_getElem? e, hm⟩))
      have few : ∀ {k : Nat} {z : QL}, ls'[k]? = some z → z.2.length ≤ 10000 := fun {k z} e => by
        have h1 := in_flat (List.mem_of_getElem? (uns_at e))
        rw [pm.length_eq, List.length_map] at h1
        omega
      refine ⟨_, rfl, rfl, _, rfl, iteT ⟨fun σ' H'' => ∃ m', m' < r.length + 1 ∧ _, fun _ _ h => h, ?_⟩⟩
      obtain ⟨kvs, e1, e2, e3, e4, e5⟩ := hc'.ex
      match r, wy, ag with
      | [], wy, ag =>
        have g : DGet H' ca (.ref u.1) (some .non) := by have := DGet.t (k := keyU u.2) e1 hu; rw [e4 _ wy] at this; exact this
        refine ⟨_, rfl, _, rfl, ca, .non, rfl, g, ?_⟩
        refine ⟨_, rfl, rfl, _, rfl, iteF ?_⟩
        have e6 : (ls'.map fun z => V.ref z.1)[i]? = some (.ref ls'[i].1) := by rw [List.getElem?_map, zi]; rfl
        have hz := heach _ (List.getElem_mem hilt)
        refine ⟨_, rfl, pa, _, dx, _, _, rfl, hpa, X.c_Parting, X.n_Parting_lots, rfl, _, rfl, ll, _, (i : Int), .ref ls'[i].1, rfl, rfl, SqL.of hll, atI_nat e6, .inl ⟨rfl, _, SqL.of hz.1⟩, _, rfl, ls'[i].1, _, _, rfl, rfl, hz.1, small_line (by rw [List.length_map]; have := few zi; omega), ?_⟩
        refine ⟨_, rfl, rfl, _, rfl, iteF ⟨_, rfl, small_le (by simp), fun p hpn => ?_⟩⟩
        refine ⟨p, _, rfl, SqT.of upd_same, rfl, _, _, rfl, _, _, rfl, rfl, ?_⟩
        have er : refs ls'[i].2 ++ [V.ref u.1] = refs (ls'[i].2 ++ [u]) := by simp
        have hq : ∀ q, q ∈ ls'[i].2 ++ [u] → UAt H' q := fun q hq => by
          rcases List.mem_append.mp hq with h | h
          · exact hz.2 q h
          · rw [List.mem_singleton.mp h]; exact hu
        have P2 := hp'.set zi hq
        rw [← er] at P2
        have mz : ls'[i].1 ∈ ls.map (·.1) := by rw [← addr]; exact List.mem_map_of_mem (List.getElem_mem hilt)
        have kp2 := kp.put (a := ls'[i].1) (o := .lst (refs ls'[i].2 ++ [V.ref u.1])) (.inr mz)
        have np : H p = none := kp2.free hpn (fun mp => by
          obtain ⟨y, hy, ey⟩ := List.mem_map.mp mp
          have := P2.nd
          have l1 := (hp.each y hy).1
          have : p ∈ (ls'.set i (ls'[i].1, ls'[i].2 ++ [u])).map (·.1) := by rw [set_fst zi, addr]; exact mp
          obtain ⟨y2, hy2, ey2⟩ := List.mem_map.mp this
          have := (P2.each y2 hy2).1
          rw [ey2, hpn] at this
          cases this)
        have hLi : ∀ z, BfM.LL (unsL (ls'.set i (ls'[i].1, ls'[i].2 ++ [u]))) i z ↔ BfM.LL (unsL ls') i z ∨ z = u.2 := fun z => by
          rw [uns_set, LL_set (by rw [List.length_map]; exact hilt), LL_at (uns_at zi)]
          simp
        have hLo : ∀ j, j ≠ i → ∀ z, BfM.LL (unsL (ls'.set i (ls'[i].1, ls'[i].2 ++ [u]))) j z ↔ BfM.LL (unsL ls') j z := fun j hj z => by rw [uns_set, LL_ne hj]
        obtain ⟨a1, a2⟩ := BfM.aug_last hI' ag hLi hLo
        have er0 := rt _ wy
        refine ⟨0, Nat.succ_pos _, ls'.set i (ls'[i].1, ls'[i].2 ++ [u]), kp2.put (.inl np), P2.same (Same.new hpn), by rw [set_fst zi, addr], a1, .inr ⟨rfl, ⟨_, _, rfl⟩, ?_, fun W t => ?_⟩⟩
        · rw [uns_set, ← er0]
          refine (flatten_in (u := u.2) (uns_at zi) ?_).trans (pm.cons _)
          rw [show uns (ls'[i].2 ++ [u]) = uns ls'[i].2 ++ [u.2] by simp]
          exact List.perm_append_comm
        · rw [← er0]; exact a2 W (tg W t)
      | (v, k) :: r, wy, ag =>
        obtain ⟨lk, vp, f1, f2, f3⟩ := e5 u.2 v k wy.1
        have g : DGet H' ca (.ref u.1) (some (.ref lk)) := by have := DGet.t (k := keyU u.2) e1 hu; rw [f1] at this; exact this
        obtain ⟨hkn, lnk⟩ := ag.links.1
        have hklt : k < ls'.length := by rw [len']; exact hkn
        have zk : ls'[k]? = some ls'[k] := List.getElem?_eq_getElem hklt
        have uk : u.2 ∈ uns ls'[k].2 := (LL_at (uns_at zk)).mp lnk.mem
        have ik : i ≠ k := fun e => by subst e; exact ni uk
        obtain ⟨j, hj, ej⟩ := List.mem_iff_getElem.mp uk
        have ej2 : (uns ls'[k].2)[j]? = some u.2 := by rw [List.getElem?_eq_getElem hj, ej]
        have hzk := heach _ (List.getElem_mem hklt)
        have e6 : (ls'.map fun z => V.ref z.1)[k]? = some (.ref ls'[k].1) := by rw [List.getElem?_map, zk]; rfl
        have ndk : (uns ls'[k].2).Nodup := BfM.flatten_nodup (pm.nodup_iff.mpr (List.nodup_cons.mp nd).2) _ (List.mem_of_getElem? (uns_at zk))
        have lowk : ∀ y, y ∈ uns ls'[k].2 → PyData.strOk y.1 = true := fun y hy => low y (List.mem_cons_of_mem _ (pm.mem_iff.mp (List.mem_flatten.mpr ⟨_, List.mem_of_getElem? (uns_at zk), hy⟩)))
        refine ⟨_, rfl, _, rfl, ca, .ref lk, rfl, g, ?_⟩
        refine ⟨_, rfl, rfl, _, rfl, iteT ?_⟩
        refine ⟨_, rfl, pa, _, dx, _, _, rfl, hpa, X.c_Parting, X.n_Parting_lots, rfl, _, rfl, lk, _, 1, _, rfl, rfl, SqT.of f2, rfl, ll, _, (k : Int), .ref ls'[k].1, rfl, rfl, SqL.of hll, atI_nat e6, .inl ⟨rfl, _, SqL.of hzk.1⟩, _, rfl, ls'[k].1, refs ls'[k].2, .ref u.1, uD u.2, (uns ls'[k].2).map uD, j, uD u.2, rfl, rfl, hzk.1, .lst (SqL.of hzk.1) (uDps hzk.2), uDp hu, uDs_shaped lowk, uD_shaped (low _ hul), by rw [List.getElem?_map, ej2]; rfl, by rw [uD_eqv]; simp, fun m z' hm hz' => ?_, ?_⟩
        · rw [List.getElem?_map] at hz'
          cases ew : (uns ls'[k].2)[m]? with
          | none => rw [ew] at hz'; cases hz'
          | some y =>
            rw [ew] at hz'
            cases hz'
            rw [uD_eqv, decide_eq_false (first_at ndk ej2 hm ew)]
        have er1 : (refs ls'[k].2).eraseIdx j = refs (ls'[k].2.eraseIdx j) := by unfold refs; rw [erase_map]
        rw [er1]
        have P1 := hp'.set (qs := ls'[k].2.eraseIdx j) zk fun q hq => hzk.2 q (List.mem_of_mem_eraseIdx hq)
        have mzk : ls'[k].1 ∈ ls.map (·.1) := by rw [← addr]; exact List.mem_map_of_mem (List.getElem_mem hklt)
        have kp1 := kp.put (a := ls'[k].1) (o := .lst (refs (ls'[k].2.eraseIdx j))) (.inr mzk)
        have zi1 : (ls'.set k (ls'[k].1, ls'[k].2.eraseIdx j))[i]? = some ls'[i] := by rw [List.getElem?_set_ne ik.symm, zi]
        obtain ⟨⟨dx1, hpa1⟩, hfl1, hll1, heach1, ndl1, far1⟩ := P1
        have P1 : PartAt K pa fa fl ll (ls'.set k (ls'[k].1, ls'[k].2.eraseIdx j)) (upd H' ls'[k].1 (.lst (refs (ls'[k].2.eraseIdx j)))) := ⟨⟨dx1, hpa1⟩, hfl1, hll1, heach1, ndl1, far1⟩
        have hzi := heach1 _ (List.mem_of_getElem? zi1)
        have e7 : ((ls'.set k (ls'[k].1, ls'[k].2.eraseIdx j)).map fun z => V.ref z.1)[i]? = some (.ref ls'[i].1) := by rw [List.getElem?_map, zi1]; rfl
        refine ⟨_, rfl, pa, _, dx1, _, _, rfl, hpa1, X.c_Parting, X.n_Parting_lots, rfl, _, rfl, ll, _, (i : Int), .ref ls'[i].1, rfl, rfl, SqL.of hll1, atI_nat e7, .inl ⟨rfl, _, SqL.of hzi.1⟩, _, rfl, ls'[i].1, _, _, rfl, rfl, hzi.1, small_line (by rw [List.length_map]; have := few zi; omega), ?_⟩
        have er : refs ls'[i].2 ++ [V.ref u.1] = refs (ls'[i].2 ++ [u]) := by simp
        have outk : ∀ {b : Addr} {o : HO}, H' b = some o → (∀ xs, o ≠ .lst xs) → upd H' ls'[k].1 (.lst (refs (ls'[k].2.eraseIdx j))) b = some o := fun {b o} e n => by
          have : b ≠ ls'[k].1 := fun z => hp'.out e n (by rw [z]; exact List.mem_map_of_mem (List.getElem_mem hklt))
          rw [upd_ne this]; exact e
        have hu1 := outk hu (by simp [uT])
        have hq : ∀ q, q ∈ ls'[i].2 ++ [u] → UAt (upd H' ls'[k].1 (.lst (refs (ls'[k].2.eraseIdx j)))) q := fun q hq => by
          rcases List.mem_append.mp hq with h | h
          · exact hzi.2 q h
          · rw [List.mem_singleton.mp h]; exact hu1
        have P2 := P1.set zi1 hq
        rw [← er] at P2
        have mz : ls'[i].1 ∈ ls.map (·.1) := by rw [← addr]; exact List.mem_map_of_mem (List.getElem_mem hilt)
        have kp2 := kp1.put (a := ls'[i].1) (o := .lst (refs ls'[i].2 ++ [V.ref u.1])) (.inr mz)
        have outi : ∀ {b : Addr} {o : HO}, H' b = some o → (∀ xs, o ≠ .lst xs) → upd (upd H' ls'[k].1 (.lst (refs (ls'[k].2.eraseIdx j)))) ls'[i].1 (.lst (refs ls'[i].2 ++ [V.ref u.1])) b = some o := fun {b o} e n => by
          have : b ≠ ls'[i].1 := fun z => hp'.out e n (by rw [z]; exact List.mem_map_of_mem (List.getElem_mem hilt))
          rw [upd_ne this]; exact outk e n
        refine ⟨_, rfl, rfl, _, rfl, iteT ⟨_, rfl, lk, _, rfl, SqT.of (outi f2 (by simp)), rfl, _, _, rfl, _, _, rfl, rfl, ?_⟩⟩
        have hLi : ∀ z, BfM.LL (unsL ((ls'.set k (ls'[k].1, ls'[k].2.eraseIdx j)).set i (ls'[i].1, ls'[i].2 ++ [u]))) i z ↔ BfM.LL (unsL ls') i z ∨ z = u.2 := fun z => by
          rw [uns_set, LL_set (by rw [List.length_map, List.length_set]; exact hilt), LL_at (uns_at zi)]
          simp
        have pk : (uns ls'[k].2).Perm (u.2 :: uns (ls'[k].2.eraseIdx j)) := by
          have := erase_perm ej2
          rw [show uns (ls'[k].2.eraseIdx j) = (uns ls'[k].2).eraseIdx j from erase_map _ _ _]
          exact this
        have hLk : ∀ z, BfM.LL (unsL ((ls'.set k (ls'[k].1, ls'[k].2.eraseIdx j)).set i (ls'[i].1, ls'[i].2 ++ [u]))) k z ↔ BfM.LL (unsL ls') k z ∧ z ≠ u.2 := fun z => by
          rw [uns_set, LL_ne ik.symm, uns_set, LL_set (by rw [List.length_map]; exact hklt), LL_at (uns_at zk)]
          have nd2 := pk.nodup_iff.mp ndk
          rw [pk.mem_iff, List.mem_cons]
          constructor
          · intro h; exact ⟨.inr h, fun e => (List.nodup_cons.mp nd2).1 (e ▸ h)⟩
          · rintro ⟨h | h, n⟩
            · exact absurd h n
            · exact h
        have hLo : ∀ j', j' ≠ i → j' ≠ k → ∀ z, BfM.LL (unsL ((ls'.set k (ls'[k].1, ls'[k].2.eraseIdx j)).set i (ls'[i].1, ls'[i].2 ++ [u]))) j' z ↔ BfM.LL (unsL ls') j' z := fun j' h1 h2 z => by rw [uns_set, LL_ne h1, uns_set, LL_ne h2]
        obtain ⟨a1, a2, a3⟩ := BfM.aug_step hI' ag hLi hLk hLo
        refine ⟨r.length + 1, by simp, (ls'.set k (ls'[k].1, ls'[k].2.eraseIdx j)).set i (ls'[i].1, ls'[i].2 ++ [u]), kp2, P2, by rw [set_fst zi1, set_fst zk, addr], a1, .inl ⟨(vp, v), k, r, some (.ref lk), rfl, rfl, outi f3 (by simp [uT]), wy.2, a2, ?_, fun W t => a3 W (tg W t)⟩⟩
        rw [uns_set, uns_set]
        have b1 := flatten_out (uns_at zk) pk
        have b2 := flatten_in (l := (unsL ls').set k (uns (ls'[k].2.eraseIdx j))) (k := i) (x := uns ls'[i].2) (y := uns (ls'[i].2 ++ [u])) (u := u.2) (by rw [List.getElem?_set_ne ik.symm]; exact uns_at zi) (by rw [show uns (ls'[i].2 ++ [u]) = uns ls'[i].2 ++ [u.2] by simp]; exact List.perm_append_comm)
        exact (b2.trans b1.symm).trans pm
    · exact ⟨_, rfl, rfl, _, rfl, iteF (k H' ls' kp hp' addr pm hI' tg)⟩
end
end Bf
namespace Bf
open PySem PySem.Spec PyProof.Rows L2
section
variable {K : PySem.W.Frag} {fa d na wb : Addr} {Vs T : List Str} {ends : Str → Str × Str} {H H1 : Hp}
theorem WebAt.mono (h : WebAt K wb Vs T ends H) (k : ∀ b o, H b = some o → (∀ xs, o ≠ .lst xs) → H1 b = some o) : WebAt K wb Vs T ends H1 := by
  obtain ⟨⟨dx, ka, ea, kvs, h1, h2, h3, h4, h5⟩, ok⟩ := h
  refine ⟨⟨dx, ka, ea, kvs, k _ _ h1 (by simp), k _ _ h2 (by simp), k _ _ h3 (by simp), h4, fun t ht => ?_⟩, ok⟩
  obtain ⟨p, e1, e2⟩ := h5 t ht
  exact ⟨p, e1, k _ _ e2 (by simp)⟩
theorem Fam.mono (h : Fam K fa d na wb Vs T ends H) (k : ∀ b o, H b = some o → (∀ xs, o ≠ .lst xs) → H1 b = some o) : Fam K fa d na wb Vs T ends H1 := by
  obtain ⟨⟨dx, h1⟩, h2, h3, ⟨kvs, h4, h5⟩⟩ := h
  exact ⟨⟨dx, k _ _ h1 (by simp)⟩, k _ _ h2 (by simp), h3.mono k, kvs, k _ _ h4 (by simp), h5⟩
theorem PartAt.fk {pa fl ll : Addr} {ls : List QL} (h : PartAt K pa fa fl ll ls H) (k : Fk K fa d na wb Vs T ends H H1) : PartAt K pa fa fl ll ls H1 :=
  let ⟨⟨dx, h1⟩, h2, h3, h4, h5, h6⟩ := h
  ⟨⟨dx, k.at h1⟩, k.at h2, k.at h3, fun z hz => ⟨k.at (h4 z hz).1, fun q hq => k.at ((h4 z hz).2 q hq) (by intro u; simp [uT])⟩, h5, h6⟩
end
/-- what the search has, in the heap: the list that waits, the links -/
structure Srch (K : PySem.W.Frag) (fa d na wb : Addr) (Vs T : List Str) (ends : Str → Str × Str) (ls : List QL) (u : Un_) (placed : List Un_) (wa ca : Addr) (H H1 : Hp) (ws : List QU) (cm : Un_ → Option (Option (Un_ × Nat))) (c : Nat) : Prop where
  fk : Fk K fa d na wb Vs T ends H H1
  wl : H1 wa = some (.lst (refs ws))
  un : ∀ q, q ∈ ws → UAt H1 q
  came : CameAt H1 ca cm ws.length
  bfs : BfM.Bfs (eU ends) ls.length (BfM.LL (unsL ls)) u (uns ws) cm c
  sub : ∀ x, x ∈ uns ws → x = u ∨ x ∈ placed
  newW : H wa = none
  newC : H ca = none
section
variable {K : PySem.W.Frag} {fa d na wb wa ca : Addr} {Vs T : List Str} {ends : Str → Str × Str} {ls : List QL} {u w x : Un_} {placed : List Un_} {H H1 H2 : Hp} {ws : List QU} {cm : Un_ → Option (Option (Un_ × Nat))} {c j : Nat}
theorem Srch.step (s : Srch K fa d na wb Vs T ends ls u placed wa ca H H1 ws cm c) (k : Fk K fa d na wb Vs T ends H1 H2) : Srch K fa d na wb Vs T ends ls u placed wa ca H H2 ws cm c := by
  have nc : ca ≠ d := s.fk.here.ne s.newC
  exact ⟨s.fk.trans k, k.at s.wl, fun q hq => k.at (s.un q hq) (by intro u; simp [uT]), s.came.keep (fun b xs e => k.at e) (fun kvs e => k.at_ne e nc), s.bfs, s.sub, s.newW, s.newC⟩
theorem Srch.few (s : Srch K fa d na wb Vs T ends ls u placed wa ca H H1 ws cm c) : ws.length ≤ placed.length + 1 := by
  have := BfM.nodup_len s.bfs.nd (m := u :: placed) fun x hx => List.mem_cons.mpr (s.sub x hx)
  rw [List.length_map, List.length_cons] at this
  exact this
theorem Srch.root (s : Srch K fa d na wb Vs T ends ls u placed wa ca H H1 ws cm c) (h : cm x = some none) : x = u := by
  have hx : x ∈ uns ws := Classical.not_not.mp fun n => by have := (s.bfs.dom x).mpr n; rw [h] at this; cases this
  obtain ⟨i, hi, e⟩ := List.mem_iff_getElem.mp hx
  have e2 : (uns ws)[i]? = some x := by rw [List.getElem?_eq_getElem hi, e]
  by_cases z : i = 0
  · subst z
    have := s.bfs.zero
    rw [e2] at this
    exact Option.some.inj this
  · obtain ⟨_, _, _, _, _, _, q, _⟩ := s.bfs.par i x (Nat.pos_of_ne_zero z) e2
    rw [h] at q; cases q
/-- one more that waits -/
theorem Srch.add {hp xp lk : Addr} {kvs : List (List Key × V)} (s : Srch K fa d na wb Vs T ends ls u placed wa ca H H1 ws cm c) (hk : H1 ca = some (.dT kvs)) (hw : (uns ws)[c]? = some w) (hj : j < ls.length) (he : BfM.Edge (eU ends) (BfM.LL (unsL ls)) j w x) (hx : x ∉ uns ws) (hpl : x ∈ placed)
    (hu : UAt H1 (hp, w)) (hux : UAt H1 (xp, x)) (hlk : H1 lk = none) :
    Srch K fa d na wb Vs T ends ls u placed wa ca H (upd (upd (upd H1 lk (.tup [.ref hp, .int (j : Nat)])) ca (.dT (putK kvs (keyU x) (.ref lk)))) wa (.lst (refs ws ++ [.ref xp]))) (ws ++ [(xp, x)]) (fun y => if y = x then some (some (w, j)) else cm y) c := by
  obtain ⟨kv2, e1, e2, e3, e4, e5⟩ := s.came.ex
  rw [hk] at e1; cases e1
  have n1 : lk ≠ ca := fun z => by subst z; rw [hk] at hlk; cases hlk
  have n2 : lk ≠ wa := fun z => by subst z; rw [s.wl] at hlk; cases hlk
  have n3 : ca ≠ wa := ne_of hk s.wl (by simp)
  have same3 : ∀ {b : Addr} {xs : List V}, H1 b = some (.tup xs) → upd (upd (upd H1 lk (.tup [.ref hp, .int (j : Nat)])) ca (.dT (putK kvs (keyU x) (.ref lk)))) wa (.lst (refs ws ++ [.ref xp])) b = some (.tup xs) := fun {b xs} e => by
    have m1 : b ≠ lk := fun z => by subst z; rw [hlk] at e; cases e
    have m2 : b ≠ ca := fun z => by subst z; rw [hk] at e; cases e
    have m3 : b ≠ wa := fun z => by subst z; rw [s.wl] at e; cases e
    rw [upd_ne m3, upd_ne m2, upd_ne m1]; exact e
  have er : refs ws ++ [V.ref xp] = refs (ws ++ [(xp, x)]) := by simp
  refine ⟨((s.fk.put (s.fk.free hlk)).put s.newC).put s.newW, by rw [upd_same, er], fun q hq => ?_, ?_, ?_, fun y hy => ?_, s.newW, s.newC⟩
  · rcases List.mem_append.mp hq with h | h
    · exact same3 (s.un q h)
    · rw [List.mem_singleton.mp h]; exact same3 hux
  · have hn : valV kvs (keyU x) = none := e3 x ((s.bfs.dom x).mpr hx)
    refine ⟨putK kvs (keyU x) (.ref lk), by rw [upd_ne n3]; exact upd_same, ?_, fun y hy => ?_, fun y hy => ?_, fun y v k hy => ?_⟩
    · have := length_putK kvs (keyU x) (.ref lk)
      rw [List.length_append]; simp; omega
    · have hy : (if y = x then some (some (w, j)) else cm y) = none := hy
      by_cases e : y = x
      · rw [if_pos e] at hy; cases hy
      · rw [if_neg e] at hy
        rw [valV_put, if_neg (fun z => e (keyU_inj z))]
        exact e3 y hy
    · have hy : (if y = x then some (some (w, j)) else cm y) = some none := hy
      by_cases e : y = x
      · rw [if_pos e] at hy; cases hy
      · rw [if_neg e] at hy
        rw [valV_put, if_neg (fun z => e (keyU_inj z))]
        exact e4 y hy
    · have hy : (if y = x then some (some (w, j)) else cm y) = some (some (v, k)) := hy
      by_cases e : y = x
      · rw [if_pos e] at hy
        cases hy
        subst e
        refine ⟨lk, hp, by rw [valV_put, if_pos rfl], ?_, same3 hu⟩
        rw [upd_ne n2, upd_ne n1]; exact upd_same
      · rw [if_neg e] at hy
        obtain ⟨lk2, vp, f1, f2, f3⟩ := e5 y v k hy
        exact ⟨lk2, vp, by rw [valV_put, if_neg (fun z => e (keyU_inj z))]; exact f1, same3 f2, same3 f3⟩
  · have := BfM.bfs_add (cm' := fun y => if y = x then some (some (w, j)) else cm y) s.bfs hw hj he hx (if_pos rfl) fun y e => if_neg e
    rw [show uns (ws ++ [(xp, x)]) = uns ws ++ [x] by simp]
    exact this
  · rw [show uns (ws ++ [(xp, x)]) = uns ws ++ [x] by simp] at hy
    rcases List.mem_append.mp hy with h | h
    · exact s.sub y h
    · rw [List.mem_singleton.mp h]; exact .inr hpl
end
theorem if_go {c : Prop} [Decidable c] {ta tb : TE} {σ : L2.St} {H : Hp} {Q : VK} (R : V → Hp → Prop) (key : ∀ v H', R v H' → Q v H') (k1 : c → ∀ Q' : VK, (∀ v H', R v H' → Q' v H') → ta σ H Q') (k2 : ¬ c → ∀ Q' : VK, (∀ v H', R v H' → Q' v H') → tb σ H Q') : if c then ta σ H Q else tb σ H Q := by
  by_cases h : c
  · rw [if_pos h]; exact k1 h Q key
  · rw [if_neg h]; exact k2 h Q key
theorem LL_get {U : Type} {l : List (List U)} {j : Nat} {z : U} : BfM.LL l j z ↔ z ∈ l.getD j [] := by
  unfold BfM.LL
  rw [List.getD_eq_getElem?_getD]
  constructor
  · rintro ⟨x, e, m⟩; rw [e]; exact m
  · intro m
    cases e : l[j]? with
    | none => rw [e] at m; cases m
    | some x => rw [e] at m; exact ⟨x, rfl, m⟩
end Bf
namespace Bf
open PySem PySem.Spec PyProof.Rows L2
section
variable {P : Program} {w : World} {K : PySem.W.Frag} {mg : Str → Option Value} {base : Heap}
theorem sc_place : FnScope ["self", "unit", "came", "waiting", "at", "here", "index", "others", "other"] ["self", "unit"] (defScope s_Parting_place) := ⟨rfl, rfl, rfl, by decide +kernel, rfl, by decide +kernel, by decide +kernel⟩
def sp_place (K : PySem.W.Frag) : Sp := fun vs H Q _ => ∃ (fa d na wb pa fl ll : Addr) (Vs T : List Str) (ends : Str → Str × Str) (ls : List QL) (u : QU) (placed : List Un_), vs = [.ref pa, .ref u.1] ∧ Fam K fa d na wb Vs T ends H ∧ PartAt K pa fa fl ll ls H ∧ UAt H u ∧
  BfM.Parts ends ls.length (unsL ls) placed ∧ u.2 ∉ placed ∧ (∀ v, v ∈ u.2 :: placed → v.1 ∈ T) ∧ placed.length ≤ 1000 ∧ ls.length ≤ 1000 ∧
  (∀ H' ls', Kp (d :: ls.map (·.1)) H H' → Fam K fa d na wb Vs T ends H' → PartAt K pa fa fl ll ls' H' → ls'.map (·.1) = ls.map (·.1) → BfM.Parts ends ls.length (unsL ls') (u.2 :: placed) →
    (∀ W, BfM.Tight (eU ends) ls.length (BfM.LL (unsL ls)) W → BfM.Tight (eU ends) ls.length (BfM.LL (unsL ls')) W ∧ ¬ W u.2) → Q .non H') ∧
  (∀ H' wa ws, Fk K fa d na wb Vs T ends H H' → H wa = none → H' wa = some (.lst (refs ws)) → (∀ q, q ∈ ws → UAt H' q) → (uns ws).Nodup → u.2 ∈ uns ws → (∀ x, x ∈ uns ws → x = u.2 ∨ x ∈ placed) →
    BfM.Tight (eU ends) ls.length (BfM.LL (unsL ls)) (· ∈ uns ws) → Q (.ref wa) H')
theorem has_place (X : Txt K mg) (N : Fns K) : Has P w K mg base (He.ma K (He.ga K "Parting") "place") 6 ["self", "unit"] (sp_place K) := by
  refine has_mk N.f_Parting_place sc_place (fun vs H Q E h => ?_) (fun _ _ _ _ _ _ us hl => match us, hl with | [_, _], _ => rfl) (fun cdv A outer s H vs Q E hr h => ?_)
  · obtain ⟨fa, d, na, wb, pa, fl, ll, Vs, T, ends, ls, u, placed, rfl, _⟩ := h; rfl
  · obtain ⟨fa, d, na, wb, pa, fl, ll, Vs, T, ends, ls, u, placed, rfl, hf, hp, hu, pt, nu, inT, big, many, kN, kL⟩ := h
    refine ⟨_, pss_cons (ps_set (i := 2) sc_place.nd rfl (Or.inl rfl) (BfR.pe_disp1T (Nat.lt_of_le_of_lt (Nat.le_add_right _ 65) (hu65 hr)) (pv 1) pe_non))
      (pss_cons (ps_set (i := 3) sc_place.nd rfl (Or.inl rfl) (pe_lst (pa_cons (pv 1) pa_nil)))
      (pss_cons (ps_set (i := 4) sc_place.nd rfl (Or.inl rfl) pe_int)
      (pss_cons (ps_while PassesOwn.never (pt_cmpR op_lt (pv 4) (pe_b1 call_len_seq X.f_len (pv 3)) (by rfl))
        (pss_cons (ps_set (i := 5) sc_place.nd rfl (Or.inl rfl) (pe_ix ix_list (pv 3) (pv 4) (fun _ _ => rfl)))
        (pss_cons (ps_aug (i := 4) sc_place.nd rfl (Or.inl rfl) pe_int ip_add)
        (pss_one (ps_for PassesOwn.never rfl (pi_range1 (by rfl) X.f_range (pa_cons (pe_b1 call_len_seq X.f_len (pe_fld (pv 0) (by rfl))) pa_nil)) (pg_name (i := 6) sc_place.nd rfl (Or.inl rfl))
          (pss_cons (ps_set (i := 7) sc_place.nd rfl (Or.inl rfl) (pe_ifExp (pt_cmpR (op_inD (hu65 hr)) (pv 5) (pe_ix ix_list (pe_fld (pv 0) (by rfl)) (pv 6) (fun _ _ => rfl)) (by rfl)) (pe_lst pa_nil) (pe_me (pv 0) (has_way X N) X.c_Parting X.m_Parting_in_the_way hr (pa_cons (pv 6) (pa_cons (pv 5) pa_nil)))))
          (pss_cons (ps_if (pt_cmpR op_isN (pv 7) pe_non (by rfl)) (pss_cons (ps_expr (pe_me (pv 0) (has_shift X N) X.c_Parting X.m_Parting_shift hr (pa_cons (pv 2) (pa_cons (pv 5) (pa_cons (pv 6) pa_nil))))) (pss_one (ps_ret pe_non))) pss_nil)
          (pss_one (ps_for PassesOwn.never rfl (pi_list (pv 7)) (pg_name (i := 8) sc_place.nd rfl (Or.inl rfl))
            (pss_one (ps_if (pt_cmpR (op_notInK (hu_of hr)) (pv 8) (pv 2) (by rfl)) (pss_cons (ps_dput (hu_of hr) (pv 2) (pv 8) (pe_tup (pa_cons (pv 5) (pa_cons (pv 6) pa_nil))) (by rfl)) (pss_one (ps_expr (pe_bm PySem.F.plainAttrs_list PySem.F.slot_list_append PySem.F.type_list_append mt_append (pv 3) (pa_cons (pv 8) pa_nil))))) pss_nil)))))))))))
      (pss_one (ps_ret (pv 3)))))), ?_⟩
    obtain ⟨up, u⟩ := u
    have ok := hf.ok
    obtain ⟨⟨dx, hpa⟩, hfl, hll, heach, ndl, far⟩ := hp
    have hp : PartAt K pa fa fl ll ls H := ⟨⟨dx, hpa⟩, hfl, hll, heach, ndl, far⟩
    have hI := pt.ind
    have hout := pt.out nu
    have lotOk : ∀ {j : Nat} {z : QL}, ls[j]? = some z → LotOk T ends (uns z.2) := fun {j z} e => by
      have m : uns z.2 ∈ unsL ls := List.mem_of_getElem? (uns_at e)
      exact ⟨pt.ndL _ m, pt.free _ m, fun v hv => inT v (List.mem_cons_of_mem _ (pt.perm.mem_iff.mp (List.mem_flatten.mpr ⟨_, m, hv⟩)))⟩
    intro ca hca
    have nup : up ≠ ca := ne_of_none hu hca
    refine ⟨_, rfl, upd_same, keyU u, up, .non, rfl, by rw [upd_ne nup]; exact hu, ?_⟩
    rw [upd_upd]
    refine ⟨_, rfl, small_le (by simp), fun wa hwa => ?_⟩
    have nwc : wa ≠ ca := fun z => by subst z; rw [upd_same] at hwa; cases hwa
    have hwa0 : H wa = none := by rw [upd_ne nwc] at hwa; exact hwa
    have S0 : Srch K fa d na wb Vs T ends ls u placed wa ca H (upd (upd H ca (.dT [(keyU u, .non)])) wa (.lst [.ref up])) [(up, u)] (fun y => if y = u then some none else none) 0 := by
      have same : ∀ {b : Addr} {o : HO}, H b = some o → upd (upd H ca (.dT [(keyU u, .non)])) wa (.lst [.ref up]) b = some o := fun {b o} e => by
        rw [upd_ne (ne_of_none e hwa0), upd_ne (ne_of_none e hca)]; exact e
      refine ⟨((Fk.refl hf).put hca).put hwa0, upd_same, fun q hq => ?_, ⟨[(keyU u, .non)], by rw [upd_ne nwc.symm]; exact upd_same, Nat.le_refl _, fun y hy => ?_, fun y hy => ?_, fun y v k hy => ?_⟩, BfM.bfs_start (if_pos rfl) (fun x hx => if_neg hx), fun x hx => .inl (by simpa using hx), hwa0, hca⟩
      · rw [List.mem_singleton.mp hq]; exact same hu
      · have hy : (if y = u then some (none : Option (Un_ × Nat)) else none) = none := hy
        by_cases e : y = u
        · rw [if_pos e] at hy; cases hy
        · rw [valV_neg (fun z => e (keyU_inj z).symm)]; rfl
      · have hy : (if y = u then some (none : Option (Un_ × Nat)) else none) = some none := hy
        by_cases e : y = u
        · subst e; exact valV_pos rfl
        · rw [if_neg e] at hy; cases hy
      · have hy : (if y = u then some (none : Option (Un_ × Nat)) else none) = some (some (v, k)) := hy
        by_cases e : y = u
        · rw [if_pos e] at hy; cases hy
        · rw [if_neg e] at hy; cases hy
    refine ⟨fun m σ H' => ∃ ws cm c h ix os ot, σ = [some (.ref pa), some (.ref up), some (.ref ca), some (.ref wa), some (.int (c : Nat)), h, ix, os, ot] ∧ Srch K fa d na wb Vs T ends ls u placed wa ca H H' ws cm c ∧ c ≤ ws.length ∧ m + c = placed.length + 1, ⟨placed.length + 1, [(up, u)], _, 0, none, none, none, none, rfl, S0, Nat.zero_le _, rfl⟩, fun m σ H' q => ?_⟩
    obtain ⟨ws, cm, c, h, ix, os, ot, rfl, s, hc, hm⟩ := q
    refine ⟨_, rfl, _, rfl, wa, _, rfl, .inl (SqL.of s.wl), (c : Int), _, rfl, rfl, _, rfl, ?_⟩
    rw [List.length_map]
    by_cases hlt : c < ws.length
    · rw [show decide ((c : Int) < (ws.length : Nat)) = true by rw [decide_eq_true_iff]; omega]
      refine iteT ⟨fun σ' H'' => ∃ m', m' < m ∧ _, fun _ _ h => h, ?_⟩
      have few := s.few
      have ew : ws[c]? = some ws[c] := List.getElem?_eq_getElem hlt
      have hwc : (uns ws)[c]? = some ws[c].2 := by rw [List.getElem?_map, ew]; rfl
      have huw := s.un _ (List.getElem_mem hlt)
      refine ⟨_, rfl, _, rfl, wa, refs ws, (c : Int), .ref ws[c].1, rfl, rfl, SqL.of s.wl, atI_nat (by rw [List.getElem?_map, ew]; rfl), ?_⟩
      refine ⟨_, rfl, (c : Int), 1, rfl, rfl, ?_⟩
      have hp1 := hp.fk s.fk
      obtain ⟨⟨dx1, hpa1⟩, hfl1, hll1, heach1, _, _⟩ := hp1
      refine ⟨_, rfl, pa, _, dx1, _, _, rfl, hpa1, X.c_Parting, X.n_Parting_lots, rfl, ll, _, rfl, .inl (SqL.of hll1), (ls.length : Int), by rw [List.length_map], by omega, by omega, ?_⟩
      revert huw hwc
      generalize ws[c] = hw
      intro hwc huw
      obtain ⟨hq, w⟩ := hw
      have wT : w.1 ∈ T := by
        rcases s.sub w (List.mem_of_getElem? hwc) with e | e
        · exact inT _ (by rw [e]; exact List.mem_cons_self ..)
        · exact inT _ (List.mem_cons_of_mem _ e)
      refine for_row (row_range (n := ls.length)) (fun j σ H'' => ∃ ws' cm' ix os ot, σ = [some (.ref pa), some (.ref up), some (.ref ca), some (.ref wa), some (.int ((c : Int) + 1)), some (.ref hq), ix, os, ot] ∧ Srch K fa d na wb Vs T ends ls u placed wa ca H H'' ws' cm' c ∧ (uns ws')[c]? = some w ∧ UAt H'' (hq, w) ∧ ∀ j', j' < j → BfM.Looked (eU ends) (BfM.LL (unsL ls)) (uns ws') w j')
        ⟨ws, cm, _, _, _, rfl, s, hwc, huw, fun j' hj' => absurd hj' (Nat.not_lt_zero _)⟩ (fun _ _ _ _ _ => trivial) (fun j x σ H'' hx q => ?_) (fun σ H'' q => ?_)
      · obtain ⟨j', hj', rfl⟩ := get_map hx
        obtain ⟨hjl, ej⟩ := List.getElem?_eq_some_iff.mp hj'
        rw [List.length_range] at hjl
        rw [List.getElem_range] at ej
        subst ej
        obtain ⟨ws', cm', ix, os, ot, rfl, s', hw', huw', lk⟩ := q
        have zj : ls[j]? = some ls[j] := List.getElem?_eq_getElem hjl
        have hp2 := hp.fk s'.fk
        obtain ⟨⟨dx2, hpa2⟩, hfl2, hll2, heach2, _, _⟩ := hp2
        have hzj := heach2 _ (List.getElem_mem hjl)
        have e7 : (ls.map fun z => V.ref z.1)[j]? = some (.ref ls[j].1) := by rw [List.getElem?_map, zj]; rfl
        have lok := lotOk zj
        refine ⟨_, rfl, _, rfl, pa, _, dx2, _, _, rfl, hpa2, X.c_Parting, X.n_Parting_lots, rfl, _, rfl, ll, _, (j : Int), .ref ls[j].1, rfl, rfl, SqL.of hll2, atI_nat e7, uD w, (uns ls[j].2).map uD, uDp huw', .lst (SqL.of hzj.1) (uDps hzj.2), uD_shaped (ok.low _ wT), uDs_shaped (fun v hv => ok.low _ (lok.sub v hv)), _, rfl, ?_⟩
        rw [uDs_any]
        refine if_go (fun v H3 => (v = .non ∧ Srch K fa d na wb Vs T ends ls u placed wa ca H H3 ws' cm' c ∧ UAt H3 (hq, w) ∧ ¬ BfM.Cl (eU ends) (BfM.LL (unsL ls) j) w) ∨
          ∃ oa os, v = .ref oa ∧ oa ≠ wa ∧ Srch K fa d na wb Vs T ends ls u placed wa ca H H3 ws' cm' c ∧ UAt H3 (hq, w) ∧ H3 oa = some (.lst (refs os)) ∧ (∀ q, q ∈ os → UAt H3 q) ∧ (uns os).length ≤ 1000 ∧ (∀ x, x ∈ uns os → BfM.Edge (eU ends) (BfM.LL (unsL ls)) j w x) ∧ ∀ wt, (∀ x, x ∈ uns os → x ∈ wt) → BfM.Looked (eU ends) (BfM.LL (unsL ls)) wt w j) (fun v H3 q => ?_) (fun hin Q' kk => ?_) (fun hin Q' kk => ?_)
        · rcases q with ⟨rfl, s3, hu3, ncl⟩ | ⟨oa, os3, rfl, noa, s3, hu3, hoa, hos, lfew, edg, look⟩
          · obtain ⟨r, wy, ag⟩ := BfM.bfs_found s3.bfs hout hw' hjl ncl
            have hp3 := hp.fk s3.fk
            obtain ⟨⟨dx3, hpa3⟩, hfl3, hll3, heach3, nd3, far3⟩ := hp3
            have hp3 : PartAt K pa fa fl ll ls H3 := ⟨⟨dx3, hpa3⟩, hfl3, hll3, heach3, nd3, far3⟩
            have nd4 : (u :: (unsL ls).flatten).Nodup := List.nodup_cons.mpr ⟨fun m => nu (pt.perm.mem_iff.mp m), pt.perm.nodup_iff.mpr pt.nd⟩
            refine ⟨_, rfl, rfl, _, rfl, iteT ?_⟩
            refine ⟨_, rfl, pa, dx3, _, rfl, hpa3, rfl, _, rfl, _, rfl, _, rfl, pa, fa, fl, ll, ca, ends, ls, cm', ws'.length, j, (hq, w), r, u, rfl, hp3, hu3, s3.came, wy, hI, ag, fun x hx => s3.root hx, nd4, fun v hv => ?_, ?_, many, fun H4 ls' kp hp' addr pm hI' tg => ?_⟩
            · rcases List.mem_cons.mp hv with e | e
              · exact ok.low _ (inT v (by rw [e]; exact List.mem_cons_self ..))
              · exact ok.low _ (inT v (List.mem_cons_of_mem _ (pt.perm.mem_iff.mp e)))
            · rw [pt.perm.length_eq]; omega
            · have out4 : ∀ b o, H3 b = some o → (∀ xs, o ≠ .lst xs) → H4 b = some o := fun b o e n => kp.at e (hp3.out e n)
              have len' : ls'.length = ls.length := by have := congrArg List.length addr; rw [List.length_map, List.length_map] at this; exact this
              refine kN H4 ls' ((s3.fk.kp.sub fun x hx => by rw [List.mem_singleton.mp hx]; exact List.mem_cons_self ..).trans (kp.sub fun x hx => List.mem_cons_of_mem _ hx)) (s3.fk.fam.mono out4) hp' addr ⟨by rw [List.length_map, len'], pm.trans (pt.perm.cons u), List.nodup_cons.mpr ⟨nu, pt.nd⟩, fun l hl => ?_⟩ tg
              obtain ⟨i, hi, e⟩ := List.mem_iff_getElem.mp hl
              rw [List.length_map, len'] at hi
              exact ind_congr (fun z => LL_at (by rw [List.getElem?_eq_getElem (by rw [List.length_map, len']; exact hi), e])) (hI' i hi)
          · refine ⟨_, rfl, rfl, _, rfl, iteF ?_⟩
            refine ⟨_, rfl, oa, rfl, ⟨_, SqL.of hoa⟩, ?_⟩
            refine for_row row_list (fun i σ H4 => ∃ ws2 cm2 ot, σ = [some (.ref pa), some (.ref up), some (.ref ca), some (.ref wa), some (.int ((c : Int) + 1)), some (.ref hq), some (.int (j : Nat)), some (.ref oa), ot] ∧ Srch K fa d na wb Vs T ends ls u placed wa ca H H4 ws2 cm2 c ∧ H4 oa = some (.lst (refs os3)) ∧ (∀ q, q ∈ os3 → UAt H4 q) ∧ UAt H4 (hq, w) ∧ (uns ws2)[c]? = some w ∧ (∀ x, x ∈ uns ws' → x ∈ uns ws2) ∧ ∀ x, x ∈ (uns os3).take i → x ∈ uns ws2)
              ⟨ws', cm', _, rfl, s3, hoa, hos, hu3, hw', fun x hx => hx, fun x hx => by simp at hx⟩ (fun i σ H4 _ q => let ⟨_, _, _, _, _, e, _⟩ := q; SqL.of e) (fun i x σ H4 hx q => ?_) (fun σ H4 q => ?_)
            · obtain ⟨o, ho, rfl⟩ := get_map hx
              obtain ⟨ws2, cm2, ot, rfl, s4, hoa4, hos4, hu4, hw4, sub4, tk⟩ := q
              have ho2 : (uns os3)[i]? = some o.2 := by rw [List.getElem?_map, ho]; rfl
              have huo := hos4 o (List.mem_of_getElem? ho)
              obtain ⟨kvs, e1, e2, e3, e4, e5⟩ := s4.came.ex
              have few4 := s4.few
              refine ⟨_, rfl, _, rfl, ca, _, rfl, DGet.t (k := keyU o.2) e1 huo, _, rfl, ?_⟩
              by_cases hin : o.2 ∈ uns ws2
              · have some_ : (valV kvs (keyU o.2)).isSome = true := by
                  cases e : cm2 o.2 with
                  | none => exact absurd hin ((s4.bfs.dom _).mp e)
                  | some y =>
                    cases y with
                    | none => rw [e4 _ e]; rfl
                    | some p => obtain ⟨lk, vp, f1, _⟩ := e5 o.2 p.1 p.2 e; rw [f1]; rfl
                rw [some_]
                refine iteF ⟨ws2, cm2, _, rfl, s4, hoa4, hos4, hu4, hw4, sub4, fun x hx => ?_⟩
                rw [take_succ_get ho2, List.mem_append, List.mem_singleton] at hx
                rcases hx with hx | hx
                · exact tk x hx
                · rw [hx]; exact hin
              · rw [e3 _ ((s4.bfs.dom _).mpr hin)]
                refine iteT ?_
                refine ⟨_, rfl, _, rfl, small_le (by simp), fun lk hlk => ?_⟩
                have n1 : ca ≠ lk := ne_of_none e1 hlk
                have n2 : o.1 ≠ lk := ne_of_none huo hlk
                have n3 : o.1 ≠ ca := ne_of huo e1 (by simp [uT])
                have n4 : wa ≠ lk := ne_of_none s4.wl hlk
                have n5 : wa ≠ ca := ne_of s4.wl e1 (by simp)
                refine ⟨_, rfl, _, rfl, ca, _, rfl, DPut.t (k := keyU o.2) (b := o.1) (by rw [upd_ne n1]; exact e1) (by rw [upd_ne n2]; exact huo) (small_line (by omega)), ?_⟩
                refine ⟨_, rfl, .inl ⟨rfl, _, SqL.of (by rw [upd_ne n5, upd_ne n4]; exact s4.wl)⟩, _, rfl, wa, _, _, rfl, rfl, by rw [upd_ne n5, upd_ne n4]; exact s4.wl, small_line (by rw [List.length_map]; omega), ?_⟩
                have ed := edg o.2 (List.mem_of_getElem? ho2)
                have inP : o.2 ∈ placed := by
                  obtain ⟨l, el, ml⟩ := ed.2.1
                  exact pt.perm.mem_iff.mp (List.mem_flatten.mpr ⟨l, List.mem_of_getElem? el, ml⟩)
                have S5 := s4.add (hp := hq) (xp := o.1) e1 hw4 hjl ed hin inP hu4 huo hlk
                have keepT : ∀ {b : Addr} {xs : List V}, H4 b = some (.tup xs) → upd (upd (upd H4 lk (.tup [.ref hq, .int (j : Nat)])) ca (.dT (putK kvs (keyU o.2) (.ref lk)))) wa (.lst (refs ws2 ++ [.ref o.1])) b = some (.tup xs) := fun {b xs} e => by
                  rw [upd_ne (fun z => by subst z; rw [s4.wl] at e; cases e), upd_ne (fun z => by subst z; rw [e1] at e; cases e), upd_ne (ne_of_none e hlk)]; exact e
                refine ⟨_, _, _, rfl, S5, ?_, fun q hq' => keepT (hos4 q hq'), keepT hu4, ?_, fun x hx => ?_, fun x hx => ?_⟩
                · rw [upd_ne noa, upd_ne (ne_of hoa4 e1 (by simp)), upd_ne (ne_of_none hoa4 hlk)]; exact hoa4
                · rw [show uns (ws2 ++ [(o.1, o.2)]) = uns ws2 ++ [o.2] by simp]
                  obtain ⟨hcl, _⟩ := List.getElem?_eq_some_iff.mp hw4
                  rw [List.getElem?_append_left hcl]; exact hw4
                · rw [show uns (ws2 ++ [(o.1, o.2)]) = uns ws2 ++ [o.2] by simp]
                  exact List.mem_append_left _ (sub4 x hx)
                · rw [take_succ_get ho2, List.mem_append, List.mem_singleton] at hx
                  rw [show uns (ws2 ++ [(o.1, o.2)]) = uns ws2 ++ [o.2] by simp]
                  rcases hx with hx | hx
                  · exact List.mem_append_left _ (tk x hx)
                  · rw [hx]; simp
            · obtain ⟨ws2, cm2, ot, rfl, s4, hoa4, hos4, hu4, hw4, sub4, tk⟩ := q
              have tk2 : ∀ x, x ∈ uns os3 → x ∈ uns ws2 := fun x hx => tk x (by rw [List.take_of_length_le (by rw [List.length_map, List.length_map]; exact Nat.le_refl _)]; exact hx)
              refine ⟨ws2, cm2, _, _, _, rfl, s4, hw4, hu4, fun j' hj' => ?_⟩
              by_cases e : j' = j
              · subst e; exact look _ tk2
              · exact (lk j' (by omega)).mono sub4
        · have hin := of_decide_eq_true hin
          have hLL : BfM.LL (unsL ls) j w := (LL_at (uns_at zj)).mpr hin
          refine ⟨small_le (by simp), fun oa hoa => kk _ _ (.inr ⟨oa, [], rfl, (fun z => by subst z; rw [s'.wl] at hoa; cases hoa), s'.step (Fk.new s'.fk.fam hoa), ?_, upd_same, (fun q hq => by cases hq), (by simp), (fun x hx => by cases hx), fun wt _ => .inl hLL⟩)⟩
          exact (Same.new hoa) _ _ huw'
        · have hin : w ∉ uns ls[j].2 := fun m => hin (decide_eq_true m)
          have nLL : ¬ BfM.LL (unsL ls) j w := fun m => hin ((LL_at (uns_at zj)).mp m)
          have cle : BfM.Cl (eU ends) (BfM.LL (unsL ls) j) w ↔ BfM.Cl (eU ends) (· ∈ uns ls[j].2) w := cl_congr fun z => LL_at (uns_at zj)
          refine ⟨_, rfl, pa, dx2, _, rfl, hpa2, rfl, _, rfl, _, rfl, fa, d, na, wb, pa, fl, ll, Vs, T, ends, ls, j, ls[j], (hq, w), rfl, s'.fk.fam, hp.fk s'.fk, zj, huw', lok, wT, hin, fun H3 f3 ncl => kk _ _ (.inl ⟨rfl, s'.step f3, f3.at huw' (by intro u; simp [uT]), fun c => ncl (cle.mp c)⟩), fun H3 p os3 f3 hpn cl hp3 sub3 nd3 mem3 => kk _ _ (.inr ⟨p, os3, rfl, (fun z => by subst z; rw [s'.wl] at hpn; cases hpn), s'.step f3, f3.at huw' (by intro u; simp [uT]), hp3, fun q hq' => f3.at (hzj.2 q (sub3 q hq')) (by intro u; simp [uT]), ?_, fun x hx => ?_, fun wt hwt => ?_⟩)⟩
          · have h1 := BfM.nodup_len nd3 fun x hx => ((mem3 x).mp hx).1
            have h2 := lok.few
            have h3 := ok.few
            omega
          · obtain ⟨h1, h2⟩ := (mem3 x).mp hx
            exact ⟨nLL, (LL_at (uns_at zj)).mpr h1, fun c => h2 ((cl_congr fun z => and_congr (LL_at (uns_at zj)) Iff.rfl).mp c)⟩
          · refine .inr ⟨nLL, cle.mpr cl, fun x e => hwt x ((mem3 x).mpr ⟨(LL_at (uns_at zj)).mp e.2.1, fun c => e.2.2 ((cl_congr fun z => and_congr (LL_at (uns_at zj)) Iff.rfl).mpr c)⟩)⟩
      · rw [List.length_map, List.length_range] at q
        obtain ⟨ws', cm', ix, os, ot, rfl, s', hw', huw', lk⟩ := q
        have hcl : c < ws'.length := by have := (List.getElem?_eq_some_iff.mp hw').1; rw [List.length_map] at this; exact this
        refine ⟨m - 1, by omega, ws', cm', c + 1, _, _, _, _, rfl, ⟨s'.fk, s'.wl, s'.un, s'.came, BfM.bfs_next s'.bfs hw' lk, s'.sub, s'.newW, s'.newC⟩, hcl, by omega⟩
    · rw [show decide ((c : Int) < (ws.length : Nat)) = false by rw [decide_eq_false_iff_not]; omega]
      refine iteF ⟨_, rfl, kL H' wa ws s.fk s.newW s.wl s.un s.bfs.nd (List.mem_of_getElem? s.bfs.zero) s.sub ?_⟩
      exact BfM.bfs_tight s.bfs hI (fun j => (unsL ls).getD j []) (fun j _ z => LL_get) (by rw [List.length_map]; omega)
end
end Bf
namespace Bf
open PySem PySem.Spec PyProof.Rows L2
section
variable {P : Program} {w : World} {K : PySem.W.Frag} {mg : Str → Option Value} {base : Heap}
theorem sc_pinit : FnScope ["self", "families", "_"] ["self", "families"] (defScope s_Parting_init) := ⟨rfl, rfl, rfl, by decide +kernel, rfl, by decide +kernel, by decide +kernel⟩
def sp_pinit (K : PySem.W.Frag) : Sp := fun vs H Q _ => ∃ (pa dx fl fa : Addr) (n : Nat), vs = [.ref pa, .ref fl] ∧ H pa = some (.ins (He.ga K "Parting") dx []) ∧ H fl = some (.lst (List.replicate n (.ref fa))) ∧ n ≤ 1000 ∧
  ∀ H' ll ls, Kp [pa] H H' → ls.length = n → (∀ z, z ∈ ls → z.2 = [] ∧ H z.1 = none) → PartAt K pa fa fl ll ls H' → Q .non H'
theorem has_pinit (X : Txt K mg) (N : Fns K) : Has P w K mg base (He.ma K (He.ga K "Parting") "__init__") 1 ["self", "families"] (sp_pinit K) := by
  refine has_mk N.f_Parting_init sc_pinit (fun vs H Q E h => ?_) (fun _ _ _ _ _ _ us hl => match us, hl with | [_, _], _ => rfl) (fun cdv A outer s H vs Q E hr h => ?_)
  · obtain ⟨pa, dx, fl, fa, n, rfl, _⟩ := h; rfl
  · obtain ⟨pa, dx, fl, fa, n, rfl, hpa, hfl, hn, k⟩ := h
    refine ⟨_, pss_cons (ps_fld (pv 0) (pv 1) (by rfl)) (pss_one (ps_fld (pv 0) (pe_lc (own := [("_", 2)]) (g := gName 2) (tt := tYes) (te := tLst tNil) rfl sc_pinit.nd (pi_list (pv 1)) (blkOk_by (N := ["self", "families", "_"]) (sc := defScope s_Parting_init) (by decide +kernel)) (fun _ _ _ _ _ => pg_name (i := 2) sc_pinit.nd rfl (Or.inl rfl)) (fun _ _ _ _ _ => pts_nil) (fun _ _ _ _ _ => pe_lst pa_nil)) (by rfl))), ?_⟩
    refine ⟨_, rfl, _, rfl, pa, _, dx, _, rfl, hpa, X.c_Parting, X.n_Parting_families, (by show 0 < 1000; decide), ?_⟩
    have n1 : fl ≠ pa := ne_of hfl hpa (by simp)
    have hfl1 : (upd H pa (.ins (He.ga K "Parting") dx (putF "families" (.ref fl) []))) fl = some (.lst (List.replicate n (.ref fa))) := by rw [upd_ne n1]; exact hfl
    have hpa1 : (upd H pa (.ins (He.ga K "Parting") dx (putF "families" (.ref fl) []))) pa = some (.ins (He.ga K "Parting") dx [("families", .ref fl)]) := upd_same
    have kp1 : Kp [pa] H (upd H pa (.ins (He.ga K "Parting") dx (putF "families" (.ref fl) []))) := (Kp.refl _ _).put (.inr (by simp))
    revert hfl1 hpa1 kp1
    generalize (upd H pa (.ins (He.ga K "Parting") dx (putF "families" (.ref fl) []))) = H1
    intro hfl1 hpa1 kp1
    have fresh : ∀ {b : Addr}, H1 b = none → H b = none := fun {b} e => kp1.free e (by intro z; rw [List.mem_singleton] at z; subst z; rw [hpa1] at e; cases e)
    refine ⟨_, rfl, fl, rfl, ⟨_, SqL.of hfl1⟩, fun L hL => ?_⟩
    refine lc_row row_list (fun i acc H' => Same H1 H' ∧ ∃ las : List Addr, acc = las.map V.ref ∧ las.length = i ∧ las.Nodup ∧ ∀ a, a ∈ las → a ≠ L ∧ H' a = some (.lst []) ∧ H1 a = none) ⟨Same.refl _, [], rfl, rfl, List.nodup_nil, fun a h => nomatch h⟩ hL
      (fun i acc H' o q => let ⟨q, las, e1, e2, e3, e4⟩ := q; ⟨q.put hL, las, e1, e2, e3, fun a ha => ⟨(e4 a ha).1, by rw [upd_ne (e4 a ha).1]; exact (e4 a ha).2.1, (e4 a ha).2.2⟩⟩) (fun i acc H' q => q.1.seq (SqL.of hfl1)) (small_line (by rw [List.length_replicate]; omega)) (fun i x acc H' hx q hLL Kt Kf k1 k2 => ?_) fun acc H' q hLL => ?_
    · obtain ⟨q, las, rfl, e2, e3, e4⟩ := q
      refine ⟨rfl, small_le (by simp), fun a ha => ?_⟩
      have nL : a ≠ L := fun z => by subst z; rw [hLL] at ha; cases ha
      have nin : a ∉ las := fun m => by have := (e4 a m).2.1; rw [ha] at this; cases this
      refine k1 _ _ ⟨q.put (q.free ha), las ++ [a], by simp, by rw [List.length_append, e2]; rfl, nd_snoc e3 nin, fun b hb => ?_⟩ (by rw [upd_ne nL.symm]; exact hLL)
      rcases List.mem_append.mp hb with h | h
      · obtain ⟨m1, m2, m3⟩ := e4 b h
        exact ⟨m1, by rw [upd_ne (ne_of_none m2 ha)]; exact m2, m3⟩
      · rw [List.mem_singleton.mp h]
        exact ⟨nL, upd_same, q.free ha⟩
    · rw [List.length_replicate] at q
      obtain ⟨q, las, rfl, e2, e3, e4⟩ := q
      refine ⟨_, rfl, pa, _, dx, _, rfl, q _ _ hpa1, X.c_Parting, X.n_Parting_lots, (by show 1 < 1000; decide), ?_⟩
      have kp2 : Kp [pa] H (upd H' pa (.ins (He.ga K "Parting") dx (putF "lots" (.ref L) [("families", .ref fl)]))) := (kp1.trans (Kp.of q)).put (.inr (by simp))
      have np : ∀ {a : Addr}, H1 a = none → a ≠ pa := fun {a} e z => by subst z; rw [hpa1] at e; cases e
      have em : (las.map fun a => ((a, []) : QL)).map (·.1) = las := by rw [List.map_map]; exact List.map_id' _
      refine k _ L (las.map fun a => (a, [])) kp2 (by rw [List.length_map, e2]) (fun z hz => ?_) ⟨⟨dx, upd_same⟩, ?_, ?_, fun z hz => ?_, by rw [em]; exact e3, ?_⟩
      · obtain ⟨a, ha, rfl⟩ := List.mem_map.mp hz
        exact ⟨rfl, fresh (e4 a ha).2.2⟩
      · rw [upd_ne n1, List.length_map, e2]; exact q _ _ hfl1
      · rw [upd_ne (np hL), hLL, List.map_map]; rfl
      · obtain ⟨a, ha, rfl⟩ := List.mem_map.mp hz
        exact ⟨by show upd H' pa _ a = _; rw [upd_ne (np (e4 a ha).2.2)]; exact (e4 a ha).2.1, fun q hq => nomatch hq⟩
      · rw [em]
        refine ⟨fun m => np (e4 _ m).2.2 rfl, fun m => ?_, fun m => (e4 _ m).1 rfl⟩
        have := (e4 _ m).2.2
        rw [hfl1] at this; cases this
theorem sc_told : FnScope ["self", "lot", "unit"] ["self"] (defScope s_Parting_told) := ⟨rfl, rfl, rfl, by decide +kernel, rfl, by decide +kernel, by decide +kernel⟩
/-- what told() tells of the lots -/
def Told (H : Hp) (ls : List QL) (ta : Addr) (ts : List (Addr × List Str)) : Prop :=
  H ta = some (.lst (ts.map fun t => .ref t.1)) ∧ ts.length = ls.length ∧ ∀ (i : Nat) (z : QL), ls[i]? = some z → ∃ t : Addr × List Str, ts[i]? = some t ∧ Rising t.2 ∧ t.2.Perm ((uns z.2).map (·.1)) ∧ H t.1 = some (.lst (t.2.map V.str))
def sp_told (K : PySem.W.Frag) : Sp := fun vs H Q _ => ∃ (pa fa fl ll : Addr) (ls : List QL), vs = [.ref pa] ∧ PartAt K pa fa fl ll ls H ∧ (∀ z, z ∈ ls → ((uns z.2).map (·.1)).Nodup ∧ z.2.length < 64) ∧ ls.length ≤ 1000 ∧
  ∀ H' ta ts, Same H H' → H ta = none → Told H' ls ta ts → Q (.ref ta) H'
/-- the scope of the outer walk of told -/
def toldIn (s : Stmt) : Scope := match defBody s with
  | [.Return (some (.ListComp _ _ sc _)) _] => sc
  | _ => defScope s
theorem has_told (X : Txt K mg) (N : Fns K) : Has P w K mg base (He.ma K (He.ga K "Parting") "told") 1 ["self"] (sp_told K) := by
  refine has_mk N.f_Parting_told sc_told (fun vs H Q E h => ?_) (fun _ _ _ _ _ _ us hl => match us, hl with | [_], _ => rfl) (fun cdv A outer s H vs Q E hr h => ?_)
  · obtain ⟨pa, fa, fl, ll, ls, rfl, _⟩ := h; rfl
  · obtain ⟨pa, fa, fl, ll, ls, rfl, hp, few, many, k⟩ := h
    refine ⟨_, pss_one (ps_ret (pe_lc (own := [("lot", 1)]) (g := gName 1) (tt := tYes) (te := tCB (rSortedS K) (tCons (tLc (iList K (tVar 1)) (gName 2) tYes (tOp (rIxT K) (tVar 2) (tC (.int 0))) [2]) tNil)) rfl sc_told.nd (pi_list (pe_fld (pv 0) (by rfl))) (blkOk_by (N := ["self", "lot", "unit"]) (sc := defScope s_Parting_told) (by decide +kernel)) (fun _ _ _ _ _ => pg_name (i := 1) sc_told.nd rfl (Or.inl rfl)) (fun _ _ _ _ _ => pts_nil)
      (fun _ _ _ _ _ => pe_b1 cr_sortedS X.f_sorted (pe_lc (own := [("unit", 2)]) (g := gName 2) (tt := tYes) (te := tOp (rIxT K) (tVar 2) (tC (.int 0))) rfl sc_told.nd (pi_list (pv 1)) (blkOk_by (N := ["self", "lot", "unit"]) (sc := toldIn s_Parting_told) (by decide +kernel)) (fun _ _ _ _ _ => pg_name (i := 2) sc_told.nd rfl (Or.inl rfl)) (fun _ _ _ _ _ => pts_nil) (fun _ _ _ _ _ => pe_ix ix_tup (pv 2) pe_int (fun _ _ => rfl)))))), ?_⟩
    obtain ⟨⟨dx, hpa⟩, hfl, hll, heach, ndl, far⟩ := hp
    refine ⟨_, rfl, pa, _, dx, _, _, rfl, hpa, X.c_Parting, X.n_Parting_lots, rfl, ll, rfl, ⟨_, SqL.of hll⟩, fun L hL => ?_⟩
    refine lc_row row_list (fun i acc H' => Same H H' ∧ ∃ ts : List (Addr × List Str), acc = ts.map (fun t => V.ref t.1) ∧ ts.length = i ∧ (∀ t, t ∈ ts → t.1 ≠ L) ∧ ∀ (j : Nat) (z : QL), j < i → ls[j]? = some z → ∃ t : Addr × List Str, ts[j]? = some t ∧ Rising t.2 ∧ t.2.Perm ((uns z.2).map (·.1)) ∧ H' t.1 = some (.lst (t.2.map V.str))) ⟨Same.refl _, [], rfl, rfl, (fun t h => nomatch h), fun j z h => absurd h (Nat.not_lt_zero _)⟩ hL
      (fun i acc H' o q => ?_) (fun i acc H' q => q.1.seq (SqL.of hll)) (small_line (by rw [List.length_map]; omega)) (fun i x acc H' hx q hLL Kt Kf k1 k2 => ?_) fun acc H' q hLL => ?_
    · obtain ⟨q, ts, e1, e2, e3, e4⟩ := q
      refine ⟨q.put hL, ts, e1, e2, e3, fun j z hj hz => ?_⟩
      obtain ⟨t, m1, m2, m3, m4⟩ := e4 j z hj hz
      exact ⟨t, m1, m2, m3, by rw [upd_ne (e3 t (List.mem_of_getElem? m1))]; exact m4⟩
    · obtain ⟨z, hz, rfl⟩ := get_map hx
      obtain ⟨q, ts, rfl, e2, e3, e4⟩ := q
      have hzm := List.mem_of_getElem? hz
      have hz1 := heach z hzm
      obtain ⟨f1, f2⟩ := few z hzm
      refine ⟨rfl, _, rfl, z.1, rfl, ⟨_, SqL.of (q _ _ hz1.1)⟩, fun D hD => ?_⟩
      refine lc_pure (as := z.2) (f := fun r => V.ref r.1) (p := fun _ => true) (out := fun r => V.str r.2.1) row_list hD (fun _ s2 => s2.seq (SqL.of (q _ _ hz1.1))) (small_line (by omega)) (fun r H2 hr s2 Kt2 Kf2 k3 k4 => ?_) fun H2 s2 hD2 => ?_
      · exact ⟨rfl, _, rfl, r.1, _, 0, _, rfl, rfl, SqT.of (s2 _ _ (q _ _ (hz1.2 r hr))), rfl, k3 rfl _ (Same.refl _)⟩
      · have er : ((z.2.filter fun _ => true).map fun r => V.str r.2.1) = ((uns z.2).map (·.1)).map V.str := by rw [List.filter_eq_self.mpr (by simp), List.map_map, List.map_map]; rfl
        rw [er] at hD2
        refine ⟨D, (uns z.2).map (·.1), rfl, SqL.of hD2, by rw [List.length_map, List.length_map]; exact f2, fun ys p pm so hp => ?_⟩
        have pL : p ≠ L := fun e => by subst e; rw [s2 _ _ hLL] at hp; cases hp
        refine k1 _ _ ⟨(q.trans s2).put ((q.trans s2).free hp), ts ++ [(p, ys)], by simp, by rw [List.length_append, e2]; rfl, fun t ht => ?_, fun j z' hj hz' => ?_⟩ (by rw [upd_ne pL.symm]; exact s2 _ _ hLL)
        · rcases List.mem_append.mp ht with h | h
          · exact e3 t h
          · rw [List.mem_singleton.mp h]; exact pL
        · by_cases e : j = i
          · subst e
            rw [hz] at hz'
            cases hz'
            refine ⟨(p, ys), by rw [List.getElem?_append_right (by omega), e2, Nat.sub_self]; rfl, (sorted_is pm so f1).1, pm, upd_same⟩
          · obtain ⟨t, m1, m2, m3, m4⟩ := e4 j z' (by omega) hz'
            have tp : t.1 ≠ p := ne_of_none (s2 _ _ m4) hp
            exact ⟨t, by rw [List.getElem?_append_left (List.getElem?_eq_some_iff.mp m1).1]; exact m1, m2, m3, by rw [upd_ne tp]; exact s2 _ _ m4⟩
    · rw [List.length_map] at q
      obtain ⟨q, ts, rfl, e2, e3, e4⟩ := q
      exact k H' L ts q hL ⟨hLL, e2, fun i z hz => e4 i z (List.getElem?_eq_some_iff.mp hz).1 hz⟩
end
end Bf
namespace Bf
open PySem PySem.Spec PyProof.Rows L2
section
variable {P : Program} {w : World} {K : PySem.W.Frag} {mg : Str → Option Value} {base : Heap}
theorem sc_copies : FnScope ["things", "many", "thing", "copy"] ["things", "many"] (defScope s_copies) := ⟨rfl, rfl, rfl, by decide +kernel, rfl, by decide +kernel, by decide +kernel⟩
def sp_copies : Sp := fun vs H Q _ => ∃ (na : Addr) (T : List Str) (q : Nat), vs = [.ref na, .int (q : Nat)] ∧ H na = some (.tup (T.map V.str)) ∧ T.length ≤ 100 ∧ q ≤ 100 ∧
  ∀ H' ca qs, Same H H' → H' ca = some (.lst (refs qs)) → (∀ u, u ∈ qs → UAt H' u) → uns qs = BfM.copiesF T q → Q (.ref ca) H'
theorem copies_snoc {T : List Str} {i q : Nat} {t : Str} (h : T[i]? = some t) : BfM.copiesF (T.take (i + 1)) q = BfM.copiesF (T.take i) q ++ (List.range q).map fun c => (t, c) := by
  unfold BfM.copiesF
  rw [take_succ_get h, List.flatMap_append]
  simp
theorem has_copies (X : Txt K mg) (N : Fns K) : Has P w K mg base (He.ga K "copies") 1 ["things", "many"] sp_copies := by
  refine has_mk N.f_copies sc_copies (fun vs H Q E h => ?_) (fun _ _ _ _ _ _ us hl => match us, hl with | [_, _], _ => rfl) (fun cdv A outer s H vs Q E hr h => ?_)
  · obtain ⟨na, T, q, rfl, _⟩ := h; rfl
  · obtain ⟨na, T, q, rfl, hna, lT, lq, k⟩ := h
    refine ⟨_, pss_one (ps_ret (pe_lc2 (own := [("thing", 2), ("copy", 3)]) (vs1 := [3]) (g := gName 2) (g1 := gName 3) (tt := tYes) (tt1 := tYes) (wi1 := iRng1 (tCons (tVar 1) tNil)) (te := tTup (tCons (tVar 2) (tCons (tVar 3) tNil))) rfl sc_copies.nd (pi_tup (pv 0)) (blkOk_by (N := ["things", "many", "thing", "copy"]) (sc := defScope s_copies) (by decide +kernel)) (by decide)
      (fun _ _ _ _ _ => pg_name (i := 2) sc_copies.nd rfl (Or.inl rfl)) (fun _ _ _ _ _ => pts_nil) (fun _ _ _ _ _ => pi_range1 (by rfl) X.f_range (pa_cons (pv 1) pa_nil)) (fun _ _ _ _ _ => pg_name (i := 3) sc_copies.nd rfl (Or.inl rfl)) (fun _ _ _ _ _ => pts_nil) (fun _ _ _ _ _ => pe_tup (pa_cons (pv 2) (pa_cons (pv 3) pa_nil))))), ?_⟩
    refine ⟨_, rfl, na, rfl, ⟨_, SqT.of hna⟩, fun D hD => ?_⟩
    let I : List Un_ → Hp → Prop := fun l H' => Same H H' ∧ l.length ≤ 100 * 100 ∧ ∃ qs, H' D = some (.lst (refs qs)) ∧ (∀ u, u ∈ qs → UAt H' u) ∧ uns qs = l
    have cl : ∀ i, (BfM.copiesF (T.take i) q).length ≤ 100 * 100 := fun i => by
      rw [BfM.copies_length]
      have := List.length_take_le' i T
      exact Nat.mul_le_mul lq (Nat.le_trans this lT)
    refine ⟨fun i m H' => i ≤ T.length ∧ m = T.length - i ∧ I (BfM.copiesF (T.take i) q) H', ⟨T.length, Nat.zero_le _, rfl, Same.new hD, cl 0, [], upd_same, (fun u hu => by cases hu), rfl⟩, fun i m H' w => ?_⟩
    obtain ⟨hi, rfl, sm, _, qs, h1, h2, h3⟩ := w
    by_cases e : i = T.length
    · subst e
      rw [List.take_length] at h3
      exact .inl ⟨⟨_, SqT.of (sm _ _ hna), by rw [List.length_map]; exact Nat.le_refl _⟩, k H' D qs sm h1 h2 h3⟩
    · have hlt : i < T.length := by omega
      have ht : T[i]? = some T[i] := List.getElem?_eq_getElem hlt
      refine .inr ⟨⟨_, .str T[i], SqT.of (sm _ _ hna), by rw [List.getElem?_map, ht]; rfl⟩, fun H'' => i + 1 ≤ T.length ∧ I (BfM.copiesF (T.take (i + 1)) q) H'', fun H'' n => ⟨_, by omega, n.1, rfl, n.2⟩, fun x H'' y => ?_⟩
      obtain ⟨rfl, hx⟩ := y
      have hx := hx _ (SqT.of (sm _ _ hna))
      rw [List.getElem?_map, ht] at hx
      cases hx
      have bound : ∀ j, j ≤ q → (BfM.copiesF (T.take i) q ++ (List.range j).map fun c => (T[i], c)).length ≤ 100 * 100 := fun j hj => by
        have h4 := cl (i + 1)
        rw [copies_snoc ht, List.length_append, List.length_map, List.length_range] at h4
        rw [List.length_append, List.length_map, List.length_range]
        omega
      refine ⟨rfl, _, rfl, (q : Int), rfl, by omega, by omega, fun j k H'' => j ≤ q ∧ k = q - j ∧ I (BfM.copiesF (T.take i) q ++ (List.range j).map fun c => (T[i], c)) H'', ⟨q, Nat.zero_le _, rfl, sm, by simpa using cl i, qs, h1, h2, by simpa using h3⟩, fun j k' H3 w => ?_⟩
      obtain ⟨hj, rfl, sm3, _, qs3, g1, g2, g3⟩ := w
      by_cases e2 : j = q
      · subst e2
        refine .inl ⟨by show ((j : Int)).toNat ≤ j; simp, hlt, sm3, cl (i + 1), qs3, g1, g2, ?_⟩
        rw [g3, copies_snoc ht]
      · have hjl : j < q := by omega
        refine .inr ⟨by show j < ((q : Int)).toNat; simpa using hjl, fun H4 => j + 1 ≤ q ∧ I (BfM.copiesF (T.take i) q ++ (List.range (j + 1)).map fun c => (T[i], c)) H4, fun H4 n => ⟨_, by omega, n.1, rfl, n.2⟩, fun x H4 y => ?_⟩
        obtain ⟨rfl, rfl⟩ := y
        refine ⟨rfl, _, rfl, _, rfl, small_le (by simp), fun p hp => ?_⟩
        have pD : p ≠ D := fun z => by subst z; rw [g1] at hp; cases hp
        refine ⟨refs qs3, by rw [upd_ne pD.symm]; exact g1, ?_, hjl, (sm3.put (sm3.free hp)).put hD, bound (j + 1) hjl, qs3 ++ [(p, (T[i], j))], ?_, fun u hu => ?_, ?_⟩
        · have := congrArg List.length g3
          have b := bound j hj
          rw [List.length_map] at this
          rw [List.length_map, this]
          exact small_line (by omega)
        · rw [upd_same]; simp
        · have uok : UAt (upd H4 p (.tup [.str T[i], .int (0 + (j : Nat))])) u := by
            rcases List.mem_append.mp hu with h | h
            · exact (Same.new hp) _ _ (g2 u h)
            · rw [List.mem_singleton.mp h]
              unfold UAt
              rw [upd_same, Int.zero_add]; rfl
          have uD : u.1 ≠ D := fun z => by
            have := uok
            unfold UAt at this
            rw [z, upd_ne pD.symm, g1] at this
            cases this
          show upd _ D _ u.1 = _
          rw [upd_ne uD]; exact uok
        · rw [show uns (qs3 ++ [(p, (T[i], j))]) = uns qs3 ++ [(T[i], j)] by simp, g3, List.range_succ, List.map_append]
          simp
end
end Bf
namespace Bf
open PySem PySem.Spec PyProof.Rows L2
section
variable {K : PySem.W.Frag} {fa d na wb : Addr} {Vs T : List Str} {ends : Str → Str × Str} {H H1 H2 : Hp} {las : List Addr}
theorem Fk.join (h : Fk K fa d na wb Vs T ends H H1) (k : Kp (d :: las) H1 H2) (f : ∀ a, a ∈ las → H a = none) (F : Fam K fa d na wb Vs T ends H2) : Fk K fa d na wb Vs T ends H H2 :=
  ⟨fun b o e n => k b o (h.kp b o e n) (by
    intro m
    rcases List.mem_cons.mp m with z | z
    · exact n (by rw [z]; simp)
    · rw [f b z] at e; cases e), h.here, F⟩
theorem parts_none {ls : List QL} {p : Nat} (hl : ls.length = p) (h : ∀ z, z ∈ ls → z.2 = []) : BfM.Parts ends p (unsL ls) [] := by
  have e : unsL ls = List.replicate ls.length [] := by
    unfold unsL
    rw [List.eq_replicate_iff]
    refine ⟨by rw [List.length_map], fun b hb => ?_⟩
    obtain ⟨z, hz, rfl⟩ := List.mem_map.mp hb
    rw [h z hz]; rfl
  refine ⟨by rw [List.length_map, hl], ?_, List.nodup_nil, fun l hl => ?_⟩
  · rw [e]
    have : (List.replicate ls.length ([] : List Un_)).flatten = [] := by
      rw [List.flatten_eq_nil_iff]
      intro l hl
      exact (List.mem_replicate.mp hl).2
    rw [this]
  · rw [e] at hl
    rw [(List.mem_replicate.mp hl).2]
    exact fun e he => nomatch he
/-- what told() may tell: lots whose things are apart, and few -/
theorem told_few {ls : List QL} {p : Nat} {pl : List Un_} (pt : BfM.Parts ends p (unsL ls) pl) (ok : WebOk Vs T ends) (inT : ∀ v, v ∈ pl → v.1 ∈ T) : ∀ z, z ∈ ls → ((uns z.2).map (·.1)).Nodup ∧ z.2.length < 64 := fun z hz => by
  have m : uns z.2 ∈ unsL ls := List.mem_map_of_mem hz
  have lo : LotOk T ends (uns z.2) := ⟨pt.ndL _ m, pt.free _ m, fun v hv => inT v (pt.perm.mem_iff.mp (List.mem_flatten.mpr ⟨_, m, hv⟩))⟩
  have h1 := lo.few
  have h2 := ok.few
  rw [List.length_map] at h1
  exact ⟨lo.things, by omega⟩
end
section
variable {P : Program} {w : World} {K : PySem.W.Frag} {mg : Str → Option Value} {base : Heap}
theorem sc_all_placed : FnScope ["families", "units", "parting", "unit", "pushed", "one"] ["families", "units"] (defScope s_all_placed) := ⟨rfl, rfl, rfl, by decide +kernel, rfl, by decide +kernel, by decide +kernel⟩
def sp_all_placed (K : PySem.W.Frag) : Sp := fun vs H Q _ => ∃ (fa d na wb fl ul : Addr) (Vs T : List Str) (ends : Str → Str × Str) (p q : Nat) (qs : List QU), vs = [.ref fl, .ref ul] ∧ Fam K fa d na wb Vs T ends H ∧ H fl = some (.lst (List.replicate p (.ref fa))) ∧ H ul = some (.lst (refs qs)) ∧ (∀ u, u ∈ qs → UAt H u) ∧ uns qs = BfM.copiesF T q ∧ p ≤ 100 ∧ q ≤ 100 ∧
  (∀ H' r fo S, Fk K fa d na wb Vs T ends H H' → H' r = some (.tup [.non, .ref fo]) → H' fo = some (.lst (S.map V.str)) → Rising S → (∀ t, t ∈ S → t ∈ T) → p * BfM.rk ends Vs S + 1 ≤ q * S.length → Q (.ref r) H') ∧
  (∀ H' r ta ts ls pl, Fk K fa d na wb Vs T ends H H' → H' r = some (.tup [.ref ta, .non]) → Told H' ls ta ts → ls.length = p → BfM.Parts ends p (unsL ls) pl → pl.Perm (BfM.copiesF T q) → Q (.ref r) H')
theorem has_all_placed (X : Txt K mg) (N : Fns K) : Has P w K mg base (He.ga K "all_placed") 7 ["families", "units"] (sp_all_placed K) := by
  refine has_mk N.f_all_placed sc_all_placed (fun vs H Q E h => ?_) (fun _ _ _ _ _ _ us hl => match us, hl with | [_, _], _ => rfl) (fun cdv A outer s H vs Q E hr h => ?_)
  · obtain ⟨fa, d, na, wb, fl, ul, Vs, T, ends, p, q, qs, rfl, _⟩ := h; rfl
  · obtain ⟨fa, d, na, wb, fl, ul, Vs, T, ends, p, q, qs, rfl, hf, hfl, hul, hqs, eqs, lp, lq, kF, kO⟩ := h
    refine ⟨_, pss_cons (ps_set (i := 2) sc_all_placed.nd rfl (Or.inl rfl) (pe_ma (has_pinit X N) X.mk_Parting X.g_Parting hr (pa_cons (pv 0) pa_nil)))
      (pss_cons (ps_for PassesOwn.never rfl (pi_list (pv 1)) (pg_name (i := 3) sc_all_placed.nd rfl (Or.inl rfl))
        (pss_cons (ps_set (i := 4) sc_all_placed.nd rfl (Or.inl rfl) (pe_me (pv 2) (has_place X N) X.c_Parting X.m_Parting_place hr (pa_cons (pv 3) pa_nil)))
        (pss_one (ps_if (pt_cmpR op_notN (pv 4) pe_non (by rfl)) (pss_one (ps_ret (pe_tup (pa_cons pe_non (pa_cons (pe_b1 (BfS.cr_sortedT rfl) X.f_sorted (BfS.pe_setc (own := [("one", 5)]) (g := gName 5) (tt := tYes) (te := tOp (rIxT K) (tVar 5) (tC (.int 0))) rfl sc_all_placed.nd (pi_list (pv 4)) (blkOk_by (N := ["families", "units", "parting", "unit", "pushed", "one"]) (sc := defScope s_all_placed) (by decide +kernel)) (fun _ _ _ _ _ => pg_name (i := 5) sc_all_placed.nd rfl (Or.inl rfl)) (fun _ _ _ _ _ => pts_nil) (fun _ _ _ _ _ => pe_ix ix_tup (pv 5) pe_int (fun _ _ => rfl)))) pa_nil))))) pss_nil))))
      (pss_one (ps_ret (pe_tup (pa_cons (pe_me0 (pv 2) (has_told X N) X.c_Parting X.m_Parting_told hr) (pa_cons pe_non pa_nil)))))), ?_⟩
    have ok := hf.ok
    have nd : (uns qs).Nodup := by rw [eqs]; exact BfM.copies_nodup ok.rT.nodup
    have inT : ∀ u, u ∈ uns qs → u.1 ∈ T ∧ u.2 < q := fun u hu => by rw [eqs] at hu; exact BfM.mem_copies.mp hu
    have lqs : qs.length ≤ 800 := by
      have := congrArg List.length eqs
      rw [List.length_map, BfM.copies_length] at this
      rw [this]
      exact Nat.le_trans (Nat.mul_le_mul lq ok.few) (by decide)
    refine ⟨_, rfl, fun pa dx hpa hdx ne => ?_⟩
    have s1 : Same H (upd (upd H dx (.own pa)) pa (.ins (He.ga K "Parting") dx [])) := (Same.new hdx).put hpa
    refine ⟨pa, dx, fl, fa, p, rfl, upd_same, s1 _ _ hfl, by omega, fun H1 ll ls kp l1 h1 P1 => ⟨rfl, ?_⟩⟩
    have s2 : Same H H1 := fun b o e => kp b o (s1 b o e) (by intro z; rw [List.mem_singleton] at z; subst z; rw [hpa] at e; cases e)
    have fresh : ∀ a, a ∈ ls.map (·.1) → H a = none := fun a ha => by
      obtain ⟨z, hz, rfl⟩ := List.mem_map.mp ha
      exact s1.free (h1 z hz).2
    refine ⟨_, rfl, ul, rfl, ⟨_, SqL.of (s2 _ _ hul)⟩, ?_⟩
    refine for_row row_list (fun i σ H' => Fk K fa d na wb Vs T ends H H' ∧ ∃ ls' pl u3 u4 u5, σ = [some (.ref fl), some (.ref ul), some (.ref pa), u3, u4, u5] ∧ PartAt K pa fa fl ll ls' H' ∧ ls'.map (·.1) = ls.map (·.1) ∧ BfM.Parts ends p (unsL ls') pl ∧ pl.Perm (uns (qs.take i)))
      ⟨Fk.of hf s2, ls, [], none, none, none, rfl, P1, rfl, parts_none l1 fun z hz => (h1 z hz).1, by simp⟩ (fun i σ H' _ q => SqL.of (q.1.at hul)) (fun i x σ H' hx w' => ?_) (fun σ H' w' => ?_)
    · obtain ⟨u, hu, rfl⟩ := get_map hx
      obtain ⟨f, ls', pl, u3, u4, u5, rfl, hp, addr, pt, pm⟩ := w'
      have len' : ls'.length = p := by have := congrArg List.length addr; rw [List.length_map, List.length_map] at this; omega
      have hu2 : (uns qs)[i]? = some u.2 := by rw [List.getElem?_map, hu]; rfl
      have tk : uns (qs.take (i + 1)) = uns (qs.take i) ++ [u.2] := by rw [take_succ_get hu]; simp
      have nu : u.2 ∉ pl := fun m => by
        have m2 := pm.mem_iff.mp m
        rw [show uns (qs.take i) = (uns qs).take i by unfold uns; rw [List.map_take]] at m2
        obtain ⟨j, hj, e⟩ := List.mem_take_iff_getElem.mp m2
        obtain ⟨hi, e2⟩ := List.getElem?_eq_some_iff.mp hu2
        have := (List.getElem_inj nd).mp (e.trans e2.symm)
        omega
      have plT : ∀ v, v ∈ pl → v.1 ∈ T ∧ v.2 < q := fun v hv => inT v (by
        have := pm.mem_iff.mp hv
        obtain ⟨r, hr, e⟩ := mem_uns.mp this
        exact mem_uns.mpr ⟨r, List.mem_of_mem_take hr, e⟩)
      have lpl : pl.length ≤ 1000 := by
        rw [pm.length_eq, List.length_map]
        have := List.length_take_le' i qs
        omega
      obtain ⟨dx2, hpa2⟩ := hp.self
      have huT := inT _ (List.mem_of_getElem? hu2)
      refine ⟨_, rfl, pa, dx2, _, rfl, hpa2, rfl, _, rfl, fa, d, na, wb, pa, fl, ll, Vs, T, ends, ls', u, pl, rfl, f.fam, hp, f.at (hqs u (List.mem_of_getElem? hu)) (by intro u; simp [uT]), by rw [len']; exact pt, nu, fun v hv => ?_, lpl, by omega, fun H2 ls2 kp2 F2 hp2 addr2 pt2 tg2 => ?_, fun H2 wa ws f2 hwa hwa2 hws ndw uw subw tg => ?_⟩
      · rcases List.mem_cons.mp hv with e | e
        · rw [e]; exact huT.1
        · exact (plT v e).1
      · rw [len'] at pt2
        refine ⟨_, rfl, rfl, _, rfl, iteF ?_⟩
        refine ⟨f.join kp2 (fun a ha => fresh a (by rw [← addr]; exact ha)) F2, ls2, u.2 :: pl, _, _, _, rfl, hp2, by rw [addr2, addr], pt2, ?_⟩
        rw [tk]
        exact (pm.cons u.2).trans (List.perm_append_comm (l₁ := [u.2]))
      · have f12 := f.trans f2
        refine ⟨_, rfl, rfl, _, rfl, iteT ?_⟩
        refine ⟨_, rfl, wa, rfl, ⟨_, SqL.of hwa2⟩, fun D hD => ?_⟩
        have wsT : ∀ v, v ∈ uns ws → v.1 ∈ T ∧ v.2 < q := fun v hv => by
          rcases subw v hv with e | e
          · rw [e]; exact huT
          · exact plT v e
        have sb : ∀ n : Nat, n ≤ 10 → n < scanBound := fun n h => Nat.lt_of_le_of_lt h (by decide +kernel)
        refine BfS.setc_list (fun i H' => Same H2 H' ∧ ∃ l, H' D = some (BfS.SetO P w D l) ∧ l.Nodup ∧ ∀ t, t ∈ l ↔ t ∈ ((uns ws).take i).map (·.1)) ⟨Same.new hD, [], upd_same, List.nodup_nil, fun t => by simp⟩ (fun i H' _ q => q.1.seq (SqL.of hwa2)) (fun i x H' hx q => ?_) fun H' q => ?_
        · obtain ⟨o, ho, rfl⟩ := get_map hx
          obtain ⟨s3, l, hl, ndl, ml⟩ := q
          have ho2 : (uns ws)[i]? = some o.2 := by rw [List.getElem?_map, ho]; rfl
          have lfew : l.length ≤ 8 := Nat.le_trans (BfM.nodup_len ndl fun t ht => by
            obtain ⟨v, hv, e⟩ := List.mem_map.mp ((ml t).mp ht)
            exact e ▸ (wsT v (List.mem_of_mem_take hv)).1) ok.few
          refine ⟨rfl, _, rfl, o.1, _, 0, _, rfl, rfl, SqT.of (s3 _ _ (hws o (List.mem_of_getElem? ho))), rfl, o.2.1, l, rfl, hl, sb _ (by omega), s3.put hD, _, upd_same, ?_, fun t => ?_⟩
          · by_cases m : o.2.1 ∈ l
            · rw [if_pos m]; exact ndl
            · rw [if_neg m]; exact List.nodup_cons.mpr ⟨m, ndl⟩
          · rw [take_succ_get ho2, List.map_append, List.mem_append, ← ml]
            by_cases m : o.2.1 ∈ l
            · rw [if_pos m]
              constructor
              · exact .inl
              · rintro (h | h)
                · exact h
                · have : t = o.2.1 := by simpa using h
                  rw [this]; exact m
            · rw [if_neg m, List.mem_cons]
              simp [or_comm]
        · obtain ⟨s3, l, hl, ndl, ml⟩ := q
          rw [List.length_map, List.take_of_length_le (by rw [List.length_map]; exact Nat.le_refl _)] at ml
          have lT : ∀ t, t ∈ l → t ∈ T := fun t ht => by
            obtain ⟨v, hv, e⟩ := List.mem_map.mp ((ml t).mp ht)
            exact e ▸ (wsT v hv).1
          have lfew : l.length ≤ 8 := Nat.le_trans (BfM.nodup_len ndl lT) ok.few
          refine ⟨D, l, rfl, hl, by omega, fun S fo pS soS hfo => ?_⟩
          obtain ⟨rS, mS⟩ := sorted_is pS soS ndl
          have f3 := f12.then_ s3
          have f4 := f3.put (o := .lst (S.map V.str)) (f3.free hfo)
          refine ⟨small_le (by simp), fun r hr => ?_⟩
          have f5 := f4.put (o := .tup [.non, .ref fo]) (f4.free hr)
          have rf : fo ≠ r := fun z => by subst z; rw [upd_same] at hr; cases hr
          refine kF _ r fo S f5 upd_same (by rw [upd_ne rf]; exact upd_same) rS (fun t ht => lT t ((mS t).mp ht)) ?_
          refine BfM.stuck_count ok.web pt nu (by rw [← len']; exact tg) ndw uw subw (fun v hv => (wsT v hv).2) rS.nodup fun t => ?_
          rw [mS, ml]
          constructor
          · intro h
            obtain ⟨v, hv, e⟩ := List.mem_map.mp h
            exact ⟨v.2, by rw [← e]; exact hv⟩
          · rintro ⟨c, hc⟩
            exact List.mem_map.mpr ⟨_, hc, rfl⟩
    · obtain ⟨f, ls', pl, u3, u4, u5, rfl, hp, addr, pt, pm⟩ := w'
      have len' : ls'.length = p := by have := congrArg List.length addr; rw [List.length_map, List.length_map] at this; omega
      rw [List.length_map, List.take_length, eqs] at pm
      obtain ⟨dx2, hpa2⟩ := hp.self
      refine ⟨_, rfl, pa, dx2, _, rfl, hpa2, rfl, pa, fa, fl, ll, ls', rfl, hp, told_few pt ok fun v hv => (BfM.mem_copies.mp (pm.mem_iff.mp hv)).1, by omega, fun H3 ta ts s3 hta told => ⟨small_le (by simp), fun r hr => ?_⟩⟩
      have f3 := f.then_ s3
      refine kO _ r ta ts ls' pl (f3.put (f3.free hr)) upd_same ?_ len' pt pm
      obtain ⟨t1, t2, t3⟩ := told
      refine ⟨(Same.new hr) _ _ t1, t2, fun i z hz => ?_⟩
      obtain ⟨t, m1, m2, m3, m4⟩ := t3 i z hz
      exact ⟨t, m1, m2, m3, (Same.new hr) _ _ m4⟩
end
end Bf
namespace Bf
open PySem PySem.Spec PyProof.Rows L2
/-- a dict of texts, all to True -/
def DSet (H : Hp) (td : Addr) (S : List Str) : Prop := ∃ kvs, H td = some (.dK kvs) ∧ kvs.map (·.1) = S.map Sum.inr
theorem dset_put {kvs : List (Key × V)} {S : List Str} {t : Str} {v : V} (h : kvs.map (·.1) = S.map Sum.inr) : (putK kvs (.inr t) v).map (·.1) = (if t ∈ S then S else S ++ [t]).map Sum.inr := by
  have mem : (Sum.inr t : Key) ∈ kvs.map (·.1) ↔ t ∈ S := by
    rw [h]
    exact ⟨fun m => let ⟨x, hx, e⟩ := List.mem_map.mp m; (Sum.inr.inj e) ▸ hx, fun m => List.mem_map_of_mem m⟩
  cases e : valV kvs (.inr t) with
  | none =>
    have n : t ∉ S := fun m => valV_not e (mem.mpr m)
    rw [putK_new _ e, if_neg n, List.map_append, List.map_append, h]; rfl
  | some y =>
    have m : t ∈ S := mem.mp (valV_in e)
    rw [if_pos m]
    unfold putK
    have : (kvs.any fun kv => decide (kv.1 = (Sum.inr t : Key))) = true := by rw [valV_any, e]; rfl
    rw [if_pos this, List.map_map, ← h]
    refine List.map_congr_left fun kv _ => ?_
    show (if kv.1 = Sum.inr t then (kv.1, v) else kv).1 = kv.1
    split <;> rfl
section
variable {P : Program} {w : World} {K : PySem.W.Frag} {mg : Str → Option Value} {base : Heap}
theorem sc_most_placed : FnScope ["families", "units", "parting", "left", "unit", "things", "one"] ["families", "units"] (defScope s_most_placed) := ⟨rfl, rfl, rfl, by decide +kernel, rfl, by decide +kernel, by decide +kernel⟩
def sp_most_placed (K : PySem.W.Frag) : Sp := fun vs H Q _ => ∃ (fa d na wb fl ul : Addr) (Vs T : List Str) (ends : Str → Str × Str) (p q : Nat) (qs : List QU), vs = [.ref fl, .ref ul] ∧ Fam K fa d na wb Vs T ends H ∧ H fl = some (.lst (List.replicate p (.ref fa))) ∧ H ul = some (.lst (refs qs)) ∧ (∀ u, u ∈ qs → UAt H u) ∧ uns qs = BfM.copiesF T q ∧ p ≤ 100 ∧ q ≤ 100 ∧
  (∀ H' r ta fo ts ls pl lf S, Fk K fa d na wb Vs T ends H H' → H' r = some (.tup [.ref ta, .int (pl.length : Nat), .ref fo]) → Told H' ls ta ts → H' fo = some (.lst (S.map V.str)) → Rising S → (∀ t, t ∈ S → t ∈ T) → ls.length = p → BfM.Parts ends p (unsL ls) pl → (pl ++ lf).Perm (BfM.copiesF T q) →
    pl.length + q * S.length = p * BfM.rk ends Vs S + q * T.length → Q (.ref r) H')
theorem has_most_placed (X : Txt K mg) (N : Fns K) : Has P w K mg base (He.ga K "most_placed") 7 ["families", "units"] (sp_most_placed K) := by
  refine has_mk N.f_most_placed sc_most_placed (fun vs H Q E h => ?_) (fun _ _ _ _ _ _ us hl => match us, hl with | [_, _], _ => rfl) (fun cdv A outer s H vs Q E hr h => ?_)
  · obtain ⟨fa, d, na, wb, fl, ul, Vs, T, ends, p, q, qs, rfl, _⟩ := h; rfl
  · obtain ⟨fa, d, na, wb, fl, ul, Vs, T, ends, p, q, qs, rfl, hf, hfl, hul, hqs, eqs, lp, lq, k⟩ := h
    refine ⟨_, pss_cons (ps_set (i := 2) sc_most_placed.nd rfl (Or.inl rfl) (pe_ma (has_pinit X N) X.mk_Parting X.g_Parting hr (pa_cons (pv 0) pa_nil)))
      (pss_cons (ps_set (i := 3) sc_most_placed.nd rfl (Or.inl rfl) (pe_lst pa_nil))
      (pss_cons (ps_for PassesOwn.never rfl (pi_list (pv 1)) (pg_name (i := 4) sc_most_placed.nd rfl (Or.inl rfl))
        (pss_one (ps_if (pt_cmpR op_notN (pe_me (pv 2) (has_place X N) X.c_Parting X.m_Parting_place hr (pa_cons (pv 4) pa_nil)) pe_non (by rfl)) (pss_one (ps_expr (pe_bm PySem.F.plainAttrs_list PySem.F.slot_list_append PySem.F.type_list_append mt_append (pv 3) (pa_cons (pv 4) pa_nil)))) pss_nil)))
      (pss_cons (ps_set (i := 5) sc_most_placed.nd rfl (Or.inl rfl) pe_dnewK)
      (pss_cons (ps_for PassesOwn.never rfl (pi_list (pv 3)) (pg_name (i := 4) sc_most_placed.nd rfl (Or.inl rfl))
        (pss_one (ps_for PassesOwn.never rfl (pi_list (pe_me (pv 2) (has_place X N) X.c_Parting X.m_Parting_place hr (pa_cons (pv 4) pa_nil))) (pg_name (i := 6) sc_most_placed.nd rfl (Or.inl rfl))
          (pss_one (ps_dput (hu_of hr) (pv 5) (pe_ix ix_tup (pv 6) pe_int (fun _ _ => rfl)) pe_bl (by rfl))))))
      (pss_one (ps_ret (pe_tup (pa_cons (pe_me0 (pv 2) (has_told X N) X.c_Parting X.m_Parting_told hr) (pa_cons (pe_op op_sub (pe_b1 call_len_seq X.f_len (pv 1)) (pe_b1 call_len_seq X.f_len (pv 3))) (pa_cons (pe_b1 cr_sortedS X.f_sorted (pe_t1 (call_listD rfl) X.f_list (pv 5))) pa_nil)))))))))), ?_⟩
    have ok := hf.ok
    have nd : (uns qs).Nodup := by rw [eqs]; exact BfM.copies_nodup ok.rT.nodup
    have inT : ∀ u, u ∈ uns qs → u.1 ∈ T ∧ u.2 < q := fun u hu => by rw [eqs] at hu; exact BfM.mem_copies.mp hu
    have lqs : qs.length ≤ 800 := by
      have := congrArg List.length eqs
      rw [List.length_map, BfM.copies_length] at this
      rw [this]
      exact Nat.le_trans (Nat.mul_le_mul lq ok.few) (by decide)
    refine ⟨_, rfl, fun pa dx hpa hdx ne => ?_⟩
    have s1 : Same H (upd (upd H dx (.own pa)) pa (.ins (He.ga K "Parting") dx [])) := (Same.new hdx).put hpa
    refine ⟨pa, dx, fl, fa, p, rfl, upd_same, s1 _ _ hfl, by omega, fun H1 ll ls kp l1 h1 P1 => ⟨rfl, ?_⟩⟩
    have s2 : Same H H1 := fun b o e => kp b o (s1 b o e) (by intro z; rw [List.mem_singleton] at z; subst z; rw [hpa] at e; cases e)
    have fresh : ∀ a, a ∈ ls.map (·.1) → H a = none := fun a ha => by
      obtain ⟨z, hz, rfl⟩ := List.mem_map.mp ha
      exact s1.free (h1 z hz).2
    refine ⟨small_le (by simp), fun la hla => ?_⟩
    have nla : la ∉ ls.map (·.1) := fun m => by
      obtain ⟨z, hz, e⟩ := List.mem_map.mp m
      have := (P1.each z hz).1
      rw [e, hla] at this; cases this
    have hla0 : H la = none := s2.free hla
    refine ⟨_, rfl, ul, rfl, ⟨_, SqL.of ((s2.put hla0) _ _ hul)⟩, ?_⟩
    refine for_row row_list (fun i σ H' => Fk K fa d na wb Vs T ends H H' ∧ ∃ ls' pl lf u4 u5 u6, σ = [some (.ref fl), some (.ref ul), some (.ref pa), some (.ref la), u4, u5, u6] ∧ PartAt K pa fa fl ll ls' H' ∧ ls'.map (·.1) = ls.map (·.1) ∧ BfM.Parts ends p (unsL ls') pl ∧ H' la = some (.lst (refs lf)) ∧ (∀ r, r ∈ lf → r ∈ qs) ∧ (pl ++ uns lf).Perm (uns (qs.take i)) ∧
        ∀ v, v ∈ uns lf → ∃ W : Un_ → Prop, BfM.Tight (eU ends) p (BfM.LL (unsL ls')) W ∧ W v)
      ⟨(Fk.of hf s2).put hla0, ls, [], [], none, none, none, rfl, P1.same (Same.new hla), rfl, parts_none l1 fun z hz => (h1 z hz).1, upd_same, (fun r hr => by cases hr), by simp, fun v hv => by cases hv⟩ (fun i σ H' _ q => SqL.of (q.1.at hul)) (fun i x σ H' hx w' => ?_) (fun σ H' w' => ?_)
    · obtain ⟨u, hu, rfl⟩ := get_map hx
      obtain ⟨f, ls', pl, lf, u4, u5, u6, rfl, hp, addr, pt, hl, inq, pm, tgs⟩ := w'
      have len' : ls'.length = p := by have := congrArg List.length addr; rw [List.length_map, List.length_map] at this; omega
      have hu2 : (uns qs)[i]? = some u.2 := by rw [List.getElem?_map, hu]; rfl
      have tk : uns (qs.take (i + 1)) = uns (qs.take i) ++ [u.2] := by rw [take_succ_get hu]; simp
      have nin : ∀ v, v ∈ uns (qs.take i) → v ≠ u.2 := fun v hv e => by
        subst e
        rw [show uns (qs.take i) = (uns qs).take i by unfold uns; rw [List.map_take]] at hv
        obtain ⟨j, hj, e⟩ := List.mem_take_iff_getElem.mp hv
        obtain ⟨hi, e2⟩ := List.getElem?_eq_some_iff.mp hu2
        have := (List.getElem_inj nd).mp (e.trans e2.symm)
        omega
      have plk : ∀ v, v ∈ pl → v ∈ uns (qs.take i) := fun v hv => pm.mem_iff.mp (List.mem_append_left _ hv)
      have nu : u.2 ∉ pl := fun m => nin _ (plk _ m) rfl
      have plT : ∀ v, v ∈ pl → v.1 ∈ T ∧ v.2 < q := fun v hv => inT v (by
        obtain ⟨r, hr, e⟩ := mem_uns.mp (plk v hv)
        exact mem_uns.mpr ⟨r, List.mem_of_mem_take hr, e⟩)
      have lpl : pl.length ≤ 1000 ∧ lf.length ≤ 1000 := by
        have := pm.length_eq
        rw [List.length_append, List.length_map, List.length_map] at this
        have := List.length_take_le' i qs
        omega
      obtain ⟨dx2, hpa2⟩ := hp.self
      have huT := inT _ (List.mem_of_getElem? hu2)
      refine ⟨_, rfl, pa, dx2, _, rfl, hpa2, rfl, _, rfl, fa, d, na, wb, pa, fl, ll, Vs, T, ends, ls', u, pl, rfl, f.fam, hp, f.at (hqs u (List.mem_of_getElem? hu)) (by intro u; simp [uT]), by rw [len']; exact pt, nu, fun v hv => ?_, lpl.1, by omega, fun H2 ls2 kp2 F2 hp2 addr2 pt2 tg2 => ?_, fun H2 wa ws f2 hwa hwa2 hws ndw uw subw tg => ?_⟩
      · rcases List.mem_cons.mp hv with e | e
        · rw [e]; exact huT.1
        · exact (plT v e).1
      · rw [len'] at pt2 tg2
        refine ⟨rfl, _, rfl, iteF ?_⟩
        refine ⟨f.join kp2 (fun a ha => fresh a (by rw [← addr]; exact ha)) F2, ls2, u.2 :: pl, lf, _, _, _, rfl, hp2, by rw [addr2, addr], pt2, ?_, inq, ?_, fun v hv => ?_⟩
        · refine kp2.at hl fun m => ?_
          rcases List.mem_cons.mp m with z | z
          · obtain ⟨kvs, hd, _⟩ := f.fam.cache
            rw [z, hd] at hl; cases hl
          · rw [addr] at z; exact nla z
        · rw [tk]
          exact (List.Perm.cons u.2 pm).trans (List.perm_append_comm (l₁ := [u.2]))
        · obtain ⟨W, t, hW⟩ := tgs v hv
          exact ⟨W, (tg2 W t).1, hW⟩
      · rw [len'] at tg
        have hl2 := f2.at hl
        refine ⟨rfl, _, rfl, iteT ?_⟩
        refine ⟨_, rfl, .inl ⟨rfl, _, SqL.of hl2⟩, _, rfl, la, _, _, rfl, rfl, hl2, small_line (by rw [List.length_map]; omega), ?_⟩
        have er : refs lf ++ [V.ref u.1] = refs (lf ++ [u]) := by simp
        have eu : uns (lf ++ [u]) = uns lf ++ [u.2] := by simp
        have f3 := (f.trans f2).put (p := la) (o := .lst (refs lf ++ [V.ref u.1])) hla0
        obtain ⟨⟨dx3, g1⟩, g2, g3, g4, g5, g6⟩ := hp.fk f2
        have nl : ∀ b o, H2 b = some o → (o ≠ .lst (refs lf)) → upd H2 la (.lst (refs lf ++ [V.ref u.1])) b = some o := fun b o e n => by
          rw [upd_ne (fun z => by subst z; rw [hl2] at e; cases e; exact n rfl)]; exact e
        have nfl : fl ≠ la := fun z => by rw [z, hla0] at hfl; cases hfl
        have nll : ll ≠ la := fun z => by
          have := P1.lots
          rw [z, hla] at this; cases this
        refine ⟨f3, ls', pl, lf ++ [u], _, _, _, rfl, ⟨⟨dx3, nl _ _ g1 (by simp)⟩, by rw [upd_ne nfl]; exact g2, by rw [upd_ne nll]; exact g3, fun z hz => ⟨?_, fun r hr => nl _ _ (g4 z hz |>.2 r hr) (by simp [uT])⟩, g5, g6⟩, addr, pt, by rw [upd_same, er], fun r hr => ?_, ?_, fun v hv => ?_⟩
        · have : z.1 ≠ la := fun e => nla (by rw [← addr, ← e]; exact List.mem_map_of_mem hz)
          rw [upd_ne this]; exact (g4 z hz).1
        · rcases List.mem_append.mp hr with e | e
          · exact inq r e
          · rw [List.mem_singleton.mp e]; exact List.mem_of_getElem? hu
        · rw [tk, eu, ← List.append_assoc]
          exact pm.append_right _
        · rw [eu] at hv
          rcases List.mem_append.mp hv with e | e
          · exact tgs v e
          · rw [List.mem_singleton.mp e]
            exact ⟨_, tg, uw⟩
    · obtain ⟨f, ls', pl, lf, u4, u5, u6, rfl, hp, addr, pt, hl, inq, pm, tgs⟩ := w'
      have len' : ls'.length = p := by have := congrArg List.length addr; rw [List.length_map, List.length_map] at this; omega
      rw [List.length_map, List.take_length] at pm
      have plT : ∀ v, v ∈ pl → v.1 ∈ T ∧ v.2 < q := fun v hv => inT v (pm.mem_iff.mp (List.mem_append_left _ hv))
      have lfT : ∀ v, v ∈ uns lf → v.1 ∈ T ∧ v.2 < q := fun v hv => inT v (pm.mem_iff.mp (List.mem_append_right _ hv))
      have ndpl := pm.nodup_iff.mpr nd
      have lsum := pm.length_eq
      rw [List.length_append, List.length_map, List.length_map] at lsum
      intro td htd
      have f1 := f.put (p := td) (o := .dK []) (f.free htd)
      have htd0 : H td = none := f.free htd
      have hl1 : (upd H' td (.dK [])) la = some (.lst (refs lf)) := by rw [upd_ne (ne_of_none hl htd)]; exact hl
      have hp1 := hp.same (Same.new (o := .dK []) htd)
      revert f1 hl1 hp1
      have htd1 : (upd H' td (.dK [])) td = some (.dK []) := upd_same
      revert htd1
      generalize (upd H' td (.dK [])) = H2
      intro htd1 f1 hl1 hp1
      refine ⟨_, rfl, la, rfl, ⟨_, SqL.of hl1⟩, ?_⟩
      refine for_row row_list (fun i σ H3 => Fk K fa d na wb Vs T ends H H3 ∧ ∃ S u4 u6, σ = [some (.ref fl), some (.ref ul), some (.ref pa), some (.ref la), u4, some (.ref td), u6] ∧ PartAt K pa fa fl ll ls' H3 ∧ H3 la = some (.lst (refs lf)) ∧ DSet H3 td S ∧ S.Nodup ∧ (∀ t, t ∈ S → t ∈ T) ∧ (∀ v, v ∈ (uns lf).take i → v.1 ∈ S) ∧
          ∀ t, t ∈ S → ∃ W : Un_ → Prop, BfM.Tight (eU ends) p (BfM.LL (unsL ls')) W ∧ (∀ v, W v → v.1 ∈ S) ∧ ∃ c, W (t, c))
        ⟨f1, [], _, _, rfl, hp1, hl1, ⟨[], htd1, rfl⟩, List.nodup_nil, (fun t ht => by cases ht), (fun v hv => by simp at hv), fun t ht => by cases ht⟩ (fun i σ H3 _ q => let ⟨_, _, _, _, _, _, e, _⟩ := q; SqL.of e) (fun i x σ H3 hx w' => ?_) (fun σ H3 w' => ?_)
      · obtain ⟨u, hu, rfl⟩ := get_map hx
        obtain ⟨f3, S, u4, u6, rfl, hp3, hl3, ds, ndS, ST, took, tight⟩ := w'
        have hu2 : (uns lf)[i]? = some u.2 := by rw [List.getElem?_map, hu]; rfl
        have uin := List.mem_of_getElem? hu2
        have nu : u.2 ∉ pl := fun m => (List.nodup_append.mp ndpl).2.2 _ m _ uin rfl
        obtain ⟨W0, tW0, hW0⟩ := tgs _ uin
        obtain ⟨dx2, hpa2⟩ := hp3.self
        refine ⟨_, rfl, pa, dx2, _, rfl, hpa2, rfl, _, rfl, fa, d, na, wb, pa, fl, ll, Vs, T, ends, ls', u, pl, rfl, f3.fam, hp3, f3.at (hqs u (inq u (List.mem_of_getElem? hu))) (by intro u; simp [uT]), by rw [len']; exact pt, nu, fun v hv => ?_, by omega, by omega, fun H4 ls2 kp2 F2 hp2 addr2 pt2 tg2 => ?_, fun H4 wa ws f4 hwa hwa2 hws ndw uw subw tg => ?_⟩
        · rcases List.mem_cons.mp hv with e | e
          · rw [e]; exact (lfT _ uin).1
          · exact (plT v e).1
        · rw [len'] at tg2
          exact absurd hW0 (tg2 W0 tW0).2
        · rw [len'] at tg
          have wsT : ∀ v, v ∈ uns ws → v.1 ∈ T := fun v hv => by
            rcases subw v hv with e | e
            · rw [e]; exact (lfT _ uin).1
            · exact (plT v e).1
          have ntd : wa ≠ td := fun z => by
            obtain ⟨kvs, e, _⟩ := ds
            subst z; rw [e] at hwa; cases hwa
          refine ⟨wa, rfl, ⟨_, SqL.of hwa2⟩, ?_⟩
          refine for_row row_list (fun j σ H5 => Fk K fa d na wb Vs T ends H H5 ∧ ∃ S2 u6, σ = [some (.ref fl), some (.ref ul), some (.ref pa), some (.ref la), some (.ref u.1), some (.ref td), u6] ∧ PartAt K pa fa fl ll ls' H5 ∧ H5 la = some (.lst (refs lf)) ∧ H5 wa = some (.lst (refs ws)) ∧ (∀ r, r ∈ ws → UAt H5 r) ∧ DSet H5 td S2 ∧ S2.Nodup ∧ ∀ t, t ∈ S2 ↔ t ∈ S ∨ t ∈ ((uns ws).take j).map (·.1))
            ⟨f3.trans f4, S, _, rfl, hp3.fk f4, f4.at hl3, hwa2, hws, let ⟨kvs, e1, e2⟩ := ds; ⟨kvs, f4.at e1, e2⟩, ndS, fun t => by simp⟩ (fun j σ H5 _ q => let ⟨_, _, _, _, _, _, e, _⟩ := q; SqL.of e) (fun j x σ H5 hx w' => ?_) (fun σ H5 w' => ?_)
          · obtain ⟨o, ho, rfl⟩ := get_map hx
            obtain ⟨f5, S2, u6, rfl, hp5, hl5, hwa5, hws5, ⟨kvs, e1, e2⟩, ndS2, m2⟩ := w'
            have ho2 : (uns ws)[j]? = some o.2 := by rw [List.getElem?_map, ho]; rfl
            have S2T : ∀ t, t ∈ S2 → t ∈ T := fun t ht => by
              rcases (m2 t).mp ht with e | e
              · exact ST t e
              · obtain ⟨v, hv, e⟩ := List.mem_map.mp e
                exact e ▸ wsT v (List.mem_of_mem_take hv)
            have lk : kvs.length ≤ 8 := by
              have h := congrArg List.length e2
              rw [List.length_map, List.length_map] at h
              rw [h]
              exact Nat.le_trans (BfM.nodup_len ndS2 S2T) ok.few
            refine ⟨_, rfl, _, rfl, o.1, _, 0, _, rfl, rfl, SqT.of (hws5 o (List.mem_of_getElem? ho)), rfl, td, _, rfl, DPut.k (k := .inr o.2.1) e1 (small_line (by omega)), ?_⟩
            have nk : ∀ b o', H5 b = some o' → o' ≠ .dK kvs → upd H5 td (.dK (putK kvs (.inr o.2.1) (.bl true))) b = some o' := fun b o' e n => by
              rw [upd_ne (ne_of e e1 n)]; exact e
            obtain ⟨⟨dx3, g1⟩, g2, g3, g4, g5, g6⟩ := hp5
            refine ⟨f5.put htd0, _, _, rfl, ⟨⟨dx3, nk _ _ g1 (by simp)⟩, nk _ _ g2 (by simp), nk _ _ g3 (by simp), fun z hz => ⟨nk _ _ (g4 z hz).1 (by simp), fun r hr => nk _ _ ((g4 z hz).2 r hr) (by simp [uT])⟩, g5, g6⟩, nk _ _ hl5 (by simp), nk _ _ hwa5 (by simp), fun r hr => nk _ _ (hws5 r hr) (by simp [uT]), ⟨_, upd_same, dset_put e2⟩, ?_, fun t => ?_⟩
            · by_cases m : o.2.1 ∈ S2
              · rw [if_pos m]; exact ndS2
              · rw [if_neg m]; exact nd_snoc ndS2 m
            · rw [take_succ_get ho2, List.map_append, List.mem_append, ← or_assoc, ← m2]
              by_cases m : o.2.1 ∈ S2
              · rw [if_pos m]
                constructor
                · exact .inl
                · rintro (h | h)
                  · exact h
                  · have : t = o.2.1 := by simpa using h
                    rw [this]; exact m
              · rw [if_neg m, List.mem_append]; simp
          · obtain ⟨f5, S2, u6, rfl, hp5, hl5, hwa5, hws5, ds5, ndS2, m2⟩ := w'
            rw [List.length_map, List.take_of_length_le (by rw [List.length_map]; exact Nat.le_refl _)] at m2
            refine ⟨f5, S2, _, _, rfl, hp5, hl5, ds5, ndS2, fun t ht => ?_, fun v hv => ?_, fun t ht => ?_⟩
            · rcases (m2 t).mp ht with e | e
              · exact ST t e
              · obtain ⟨v, hv, e⟩ := List.mem_map.mp e
                exact e ▸ wsT v hv
            · rw [take_succ_get hu2] at hv
              rcases List.mem_append.mp hv with e | e
              · exact (m2 _).mpr (.inl (took v e))
              · rw [List.mem_singleton.mp e]
                exact (m2 _).mpr (.inr (List.mem_map_of_mem uw))
            · rcases (m2 t).mp ht with e | e
              · obtain ⟨W, t1, t2, t3⟩ := tight t e
                exact ⟨W, t1, fun v hv => (m2 _).mpr (.inl (t2 v hv)), t3⟩
              · obtain ⟨v, hv, e⟩ := List.mem_map.mp e
                exact ⟨_, tg, fun y hy => (m2 _).mpr (.inr (List.mem_map_of_mem hy)), v.2, by rw [← e]; exact hv⟩
      · obtain ⟨f3, S, u4, u6, rfl, hp3, hl3, ds, ndS, ST, took, tight⟩ := w'
        rw [List.length_map, List.take_of_length_le (by rw [List.length_map]; exact Nat.le_refl _)] at took
        obtain ⟨dx2, hpa2⟩ := hp3.self
        refine ⟨_, rfl, pa, dx2, _, rfl, hpa2, rfl, pa, fa, fl, ll, ls', rfl, hp3, told_few pt ok fun v hv => (plT v hv).1, by omega, fun H4 ta ts s4 hta told => ?_⟩
        have f4 := f3.then_ s4
        obtain ⟨kvs, e1, e2⟩ := ds
        refine ⟨_, rfl, ul, _, rfl, .inl (SqL.of (f4.at hul)), _, rfl, la, _, rfl, .inl (SqL.of (s4 _ _ hl3)), _, _, rfl, rfl, ?_⟩
        refine ⟨_, rfl, td, kvs, rfl, Rd.of (s4 _ _ e1), fun l1 hl1 => ?_⟩
        have ek : (kvs.map fun kv => kV kv.1) = S.map V.str := by
          have : (kvs.map fun kv => kV kv.1) = (kvs.map (·.1)).map kV := by rw [List.map_map]; rfl
          rw [this, e2, strs_key]
        have lS : S.length ≤ 8 := Nat.le_trans (BfM.nodup_len ndS ST) ok.few
        have f5 := f4.put (o := .lst (kvs.map fun kv => kV kv.1)) (f4.free hl1)
        refine ⟨l1, S, rfl, SqL.of (by rw [ek]; exact upd_same), by omega, fun S' fo pS soS hfo => ?_⟩
        obtain ⟨rS, mS⟩ := sorted_is pS soS ndS
        have f6 := f5.put (o := .lst (S'.map V.str)) (f5.free hfo)
        refine ⟨small_le (by simp), fun r hr => ?_⟩
        have rf : fo ≠ r := fun z => by subst z; rw [upd_same] at hr; cases hr
        have sT : Same H4 (upd (upd (upd H4 l1 (.lst (kvs.map fun kv => kV kv.1))) fo (.lst (S'.map V.str))) r (.tup [.ref ta, .int (((refs qs).length : Nat) - ((refs lf).length : Nat)), .ref fo])) := ((Same.new hl1).put ((Same.new hl1).free hfo)).put (((Same.new hl1).put ((Same.new hl1).free hfo)).free hr)
        have en : (((refs qs).length : Nat) : Int) - ((refs lf).length : Nat) = (pl.length : Nat) := by rw [List.length_map, List.length_map]; omega
        have f7 := f6.put (o := .tup [.ref ta, .int (((refs qs).length : Nat) - ((refs lf).length : Nat)), .ref fo]) (f6.free hr)
        refine k _ r ta fo ts ls' pl (uns lf) S' f7 (by rw [upd_same]; exact congrArg (fun z => some (HO.tup [V.ref ta, V.int z, V.ref fo])) en) ?_ (by rw [upd_ne rf]; exact upd_same) rS (fun t ht => ST t ((mS t).mp ht)) len' pt (by rw [← eqs]; exact pm) ?_
        · obtain ⟨t1, t2, t3⟩ := told
          refine ⟨sT _ _ t1, t2, fun i z hz => ?_⟩
          obtain ⟨t, m1, m2, m3, m4⟩ := t3 i z hz
          exact ⟨t, m1, m2, m3, sT _ _ m4⟩
        · refine BfM.most_count ok.web pt (left := uns lf) (by rw [← eqs]; exact pm) rS.nodup (fun t ht => ST t ((mS t).mp ht)) ok.rT.nodup (fun v hv => (mS _).mpr (took v hv)) fun t ht => ?_
          obtain ⟨W, t1, t2, t3⟩ := tight t ((mS t).mp ht)
          exact ⟨W, t1, fun v hv => (mS _).mpr (t2 v hv), t3⟩
end
end Bf
namespace Bf
open PySem PySem.Spec PyProof.Rows L2
section
variable {P : Program} {w : World} {K : PySem.W.Frag} {mg : Str → Option Value} {base : Heap}
theorem sc_common_divisor : FnScope ["one", "other"] ["one", "other"] (defScope s_common_divisor) := ⟨rfl, rfl, rfl, by decide +kernel, rfl, by decide +kernel, by decide +kernel⟩
def sp_common_divisor : Sp := fun vs H Q _ => ∃ a b : Nat, vs = [.int (a : Nat), .int (b : Nat)] ∧ Q (.int (Nat.gcd a b : Nat)) H
theorem has_common_divisor (X : Txt K mg) (N : Fns K) : Has P w K mg base (He.ga K "common_divisor") 1 ["one", "other"] sp_common_divisor := by
  refine has_mk N.f_common_divisor sc_common_divisor (fun vs H Q E h => ?_) (fun _ _ _ _ _ _ us hl => match us, hl with | [_, _], _ => rfl) (fun cdv A outer s H vs Q E hr h => ?_)
  · obtain ⟨a, b, rfl, _⟩ := h; rfl
  · obtain ⟨a, b, rfl, k⟩ := h
    refine ⟨_, pss_cons (ps_while PassesOwn.never (pt_cmpR op_ne (pv 1) pe_int (by rfl)) (pss_one (ps_par (i := 0) (j := 1) rfl sc_common_divisor.nd rfl rfl (by decide) rfl rfl (pa_cons (pv 1) (pa_cons (pe_op op_mod (pv 0) (pv 1)) pa_nil)) (by rfl)))) (pss_one (ps_ret (pv 0))), ?_⟩
    refine ⟨fun m σ H' => H' = H ∧ ∃ x : Nat, σ = [some (.int (x : Nat)), some (.int (m : Nat))] ∧ Nat.gcd x m = Nat.gcd a b, ⟨b, rfl, a, rfl, rfl⟩, fun m σ H' q => ?_⟩
    obtain ⟨rfl, x, rfl, e⟩ := q
    refine ⟨_, rfl, rfl, _, rfl, ?_⟩
    rw [dec_int]
    by_cases h0 : m = 0
    · subst h0
      rw [show (!((((0 : Nat) : Int)) == 0)) = false by rfl]
      refine iteF ⟨_, rfl, ?_⟩
      rw [Nat.gcd_zero_right] at e
      rw [e]; exact k
    · rw [show (!(((m : Nat) : Int) == 0)) = true by simp [h0]]
      refine iteT ⟨fun σ' H'' => ∃ m', m' < m ∧ _, fun _ _ h => h, ?_⟩
      refine ⟨_, rfl, _, rfl, _, rfl, (x : Int), (m : Int), rfl, rfl, by omega, ?_⟩
      refine ⟨_, _, rfl, x % m, Nat.mod_lt _ (by omega), rfl, m, ?_, ?_⟩
      · show [some (V.int (m : Nat)), some (V.int ((x : Int) % (m : Int)))] = _
        rw [show ((x : Int) % (m : Int)) = ((x % m : Nat) : Int) from (Int.natCast_emod _ _).symm]
      · rw [← e, Nat.gcd_comm m, ← Nat.gcd_rec, Nat.gcd_comm]
theorem sc_lowest : FnScope ["p", "q", "divisor"] ["p", "q"] (defScope s_lowest) := ⟨rfl, rfl, rfl, by decide +kernel, rfl, by decide +kernel, by decide +kernel⟩
def sp_lowest : Sp := fun vs H Q _ => ∃ a b : Nat, vs = [.int (a : Nat), .int (b : Nat)] ∧ 0 < Nat.gcd a b ∧ Nat.gcd a b ≤ 1000 ∧ ∀ H' r, Same H H' → H r = none → H' r = some (.tup [.int (a / Nat.gcd a b : Nat), .int (b / Nat.gcd a b : Nat)]) → Q (.ref r) H'
theorem has_lowest (X : Txt K mg) (N : Fns K) : Has P w K mg base (He.ga K "lowest") 2 ["p", "q"] sp_lowest := by
  refine has_mk N.f_lowest sc_lowest (fun vs H Q E h => ?_) (fun _ _ _ _ _ _ us hl => match us, hl with | [_, _], _ => rfl) (fun cdv A outer s H vs Q E hr h => ?_)
  · obtain ⟨a, b, rfl, _⟩ := h; rfl
  · obtain ⟨a, b, rfl, g0, g1, k⟩ := h
    refine ⟨_, pss_cons (ps_set (i := 2) sc_lowest.nd rfl (Or.inl rfl) (pe_ca (has_common_divisor X N) X.g_common_divisor hr (pa_cons (pv 0) (pa_cons (pv 1) pa_nil)))) (pss_one (ps_ret (pe_tup (pa_cons (pe_op op_fdiv (pv 0) (pv 2)) (pa_cons (pe_op op_fdiv (pv 1) (pv 2)) pa_nil))))), ?_⟩
    have gg : CDiv (a : Int) (Nat.gcd a b : Nat) ∧ CDiv (b : Int) (Nat.gcd a b : Nat) := ⟨⟨by omega, by omega⟩, ⟨by omega, by omega⟩⟩
    refine ⟨_, rfl, _, rfl, a, b, rfl, ?_⟩
    refine ⟨_, rfl, _, rfl, _, _, rfl, rfl, gg.1, _, rfl, _, rfl, _, _, rfl, rfl, gg.2, small_le (by simp), fun r hr => k _ r (Same.new hr) hr ?_⟩
    rw [upd_same]
    show some (HO.tup [V.int ((a : Int) / (Nat.gcd a b : Nat)), V.int ((b : Int) / (Nat.gcd a b : Nat))]) = _
    rw [show ((a : Int) / (Nat.gcd a b : Nat)) = ((a / Nat.gcd a b : Nat) : Int) from (Int.natCast_ediv _ _).symm, show ((b : Int) / (Nat.gcd a b : Nat)) = ((b / Nat.gcd a b : Nat) : Int) from (Int.natCast_ediv _ _).symm]
theorem sc_need_lots : FnScope ["k"] ["k"] (defScope s_need_lots) := ⟨rfl, rfl, rfl, by decide +kernel, rfl, by decide +kernel, by decide +kernel⟩
def sp_need_lots : Sp := fun vs H Q _ => ∃ k : Nat, vs = [.int (k : Nat)] ∧ k ≤ 24 ∧ Q .non H
theorem has_need_lots (X : Txt K mg) (N : Fns K) : Has P w K mg base (He.ga K "need_lots") 2 ["k"] sp_need_lots := by
  refine has_mk N.f_need_lots sc_need_lots (fun vs H Q E h => ?_) (fun _ _ _ _ _ _ us hl => match us, hl with | [_], _ => rfl) (fun cdv A outer s H vs Q E hr h => ?_)
  · obtain ⟨k, rfl, _⟩ := h; rfl
  · obtain ⟨m, rfl, lm, k⟩ := h
    obtain ⟨t1, e1⟩ := X.i_MOST_LOTS
    refine ⟨_, pss_one (ps_if (PW.pt (pw_or (pt_not (pt_val (pe_ca (has_is_integer X N) X.g_is_integer hr (pa_cons (pv 0) pa_nil)))) (pw_or1 (pt_not (pt_chain op_le op_le pe_int (pv 0) (pe_glob (v := .int 24) (by rfl) e1 ⟨t1, rfl⟩)))))) pss_never pss_nil), ?_⟩
    refine ⟨_, rfl, (m : Int), rfl, true, rfl, iteF ?_⟩
    refine ⟨_, rfl, 0, (m : Int), rfl, rfl, _, rfl, ?_⟩
    rw [show decide ((0 : Int) ≤ (m : Nat)) = true by rw [decide_eq_true_iff]; omega]
    refine iteT ⟨(m : Int), 24, rfl, rfl, _, rfl, ?_⟩
    rw [show decide (((m : Nat) : Int) ≤ 24) = true by rw [decide_eq_true_iff]; omega]
    exact iteF k
theorem sc_times_in : FnScope ["lots", "thing", "lot"] ["lots", "thing"] (defScope s_times_in) := ⟨rfl, rfl, rfl, by decide +kernel, rfl, by decide +kernel, by decide +kernel⟩
/-- a list of lists of texts -/
def LLs (H : Hp) (ta : Addr) (ts : List (Addr × List Str)) : Prop := H ta = some (.lst (ts.map fun t => .ref t.1)) ∧ ∀ t, t ∈ ts → H t.1 = some (.lst (t.2.map V.str))
theorem LLs.same {H H1 : Hp} {ta : Addr} {ts : List (Addr × List Str)} (h : LLs H ta ts) (k : Same H H1) : LLs H1 ta ts := ⟨k _ _ h.1, fun t ht => k _ _ (h.2 t ht)⟩
def sp_times_in : Sp := fun vs H Q _ => ∃ (ta : Addr) (ts : List (Addr × List Str)) (x : Str), vs = [.ref ta, .str x] ∧ LLs H ta ts ∧ ts.length ≤ 1000 ∧ ∀ H', Same H H' → Q (.int (ts.countP fun t => decide (x ∈ t.2) : Nat)) H'
theorem has_times_in (X : Txt K mg) (N : Fns K) : Has P w K mg base (He.ga K "times_in") 1 ["lots", "thing"] sp_times_in := by
  refine has_mk N.f_times_in sc_times_in (fun vs H Q E h => ?_) (fun _ _ _ _ _ _ us hl => match us, hl with | [_, _], _ => rfl) (fun cdv A outer s H vs Q E hr h => ?_)
  · obtain ⟨ta, ts, x, rfl, _⟩ := h; rfl
  · obtain ⟨ta, ts, x, rfl, h1, lt, k⟩ := h
    refine ⟨_, pss_one (ps_ret (pe_b1 call_len_seq X.f_len (pe_lc (own := [("lot", 2)]) (g := gName 2) (tt := tTest (tOp (rIn K false) (tVar 1) (tVar 2))) (te := tVar 2) rfl sc_times_in.nd (pi_list (pv 0)) (blkOk_by (N := ["lots", "thing", "lot"]) (sc := defScope s_times_in) (by decide +kernel)) (fun _ _ _ _ _ => pg_name (i := 2) sc_times_in.nd rfl (Or.inl rfl)) (fun _ _ _ _ _ => pts_one (pt_cmpR op_in_seq (pv 1) (pv 2) (by rfl))) (fun _ _ _ _ _ => pv 2)))), ?_⟩
    refine ⟨_, rfl, ta, rfl, ⟨_, SqL.of h1.1⟩, fun D hD => ?_⟩
    refine lc_pure (as := ts) (f := fun t => V.ref t.1) (p := fun t => decide (x ∈ t.2)) (out := fun t => V.ref t.1) row_list hD (fun _ q => q.seq (SqL.of h1.1)) (small_line (by omega)) (fun t H' ht q Kt Kf k1 k2 => ?_) fun H' q hL => ?_
    · refine ⟨rfl, _, rfl, _, rfl, t.1, _, rfl, .inl (SqL.of (q _ _ (h1.2 t ht))), rfl, flat_strs _, _, rfl, ?_⟩
      rw [in_strs]
      by_cases m : x ∈ t.2
      · rw [decide_eq_true m]
        exact iteT ⟨_, rfl, k1 (decide_eq_true m) _ (Same.refl _)⟩
      · rw [decide_eq_false m]
        exact iteF (k2 (decide_eq_false m) _ (Same.refl _))
    · refine ⟨D, _, rfl, .inl (SqL.of hL), ?_⟩
      rw [List.length_map, BfM.filter_len]
      exact k _ q
theorem sc_missing : FnScope ["family", "lot", "rank"] ["family", "lot"] (defScope s_missing) := ⟨rfl, rfl, rfl, by decide +kernel, rfl, by decide +kernel, by decide +kernel⟩
def sp_missing (K : PySem.W.Frag) : Sp := fun vs H Q _ => ∃ (fa d na wb l : Addr) (Vs T lot : List Str) (ends : Str → Str × Str), vs = [.ref fa, .ref l] ∧ Fam K fa d na wb Vs T ends H ∧ H l = some (.lst (lot.map V.str)) ∧ Rising lot ∧ (∀ x, x ∈ lot → x ∈ T) ∧
  ∀ H' r, Fk K fa d na wb Vs T ends H H' → H' r = some (.tup [.int ((T.length : Nat) - (lot.length : Nat)), .int ((BfM.rk ends Vs T : Nat) - (BfM.rk ends Vs lot : Nat))]) → Q (.ref r) H'
theorem has_missing (X : Txt K mg) (N : Fns K) : Has P w K mg base (He.ga K "missing") 4 ["family", "lot"] (sp_missing K) := by
  refine has_mk N.f_missing sc_missing (fun vs H Q E h => ?_) (fun _ _ _ _ _ _ us hl => match us, hl with | [_, _], _ => rfl) (fun cdv A outer s H vs Q E hr h => ?_)
  · obtain ⟨fa, d, na, wb, l, Vs, T, lot, ends, rfl, _⟩ := h; rfl
  · obtain ⟨fa, d, na, wb, l, Vs, T, lot, ends, rfl, hf, hl, ri, sub, k⟩ := h
    obtain ⟨fd, FL, bL⟩ := (has_len (P := P) (w := w) (base := base) X N).ex
    refine ⟨_, pss_cons (ps_set (i := 2) sc_missing.nd rfl (Or.inl rfl) (pe_me (pv 0) (has_rank X N) X.c_Family X.m_Family_rank_of hr (pa_cons (pe_t1 call_tuple_of X.f_tuple (pe_b1 cr_sortedS X.f_sorted (pv 1))) pa_nil)))
      (pss_one (ps_ret (pe_tup (pa_cons (pe_op op_sub (pe_b1 (BfR.call_lenO (C := He.ga K "Family") FL (hr.mono (by decide)) X.m_Family_len.at_ X.m_Family_len.fn bL) X.f_len (pv 0)) (pe_b1 call_len_seq X.f_len (pv 1))) (pa_cons (pe_op op_sub (pe_me (pv 0) (has_rank X N) X.c_Family X.m_Family_rank_of hr (pa_cons (pe_fld (pv 0) (by rfl)) pa_nil)) (pv 2)) pa_nil))))), ?_⟩
    have few : lot.length ≤ 8 := Nat.le_trans (BfM.nodup_len ri.nodup sub) hf.ok.few
    obtain ⟨dx, h1⟩ := hf.self
    refine ⟨_, rfl, fa, dx, _, rfl, h1, rfl, _, rfl, l, lot, rfl, SqL.of hl, by omega, fun ys p pm so hp => ?_⟩
    obtain rfl := sorted_of_rising pm so ri
    refine ⟨p, _, rfl, .inl ⟨SqL.of upd_same, fun q hq => ?_⟩⟩
    have s2 : Same H (upd (upd H p (.lst (ys.map V.str))) q (.tup (ys.map V.str))) := (Same.new hp).put ((Same.new hp).free hq)
    refine ⟨fa, d, na, wb, q, Vs, T, ys, ends, rfl, hf.same s2, upd_same, ri, sub, fun H2 f2 => ?_⟩
    have f3 := (Fk.of hf s2).trans f2
    refine ⟨_, rfl, fa, dx, _, rfl, f3.at h1, fa, d, na, wb, Vs, T, ends, rfl, f3.fam, T.length, rfl, Nat.lt_of_le_of_lt hf.ok.few (by decide), ?_⟩
    refine ⟨_, rfl, l, _, rfl, .inl (SqL.of (f3.at hl)), _, _, rfl, rfl, ?_⟩
    refine ⟨_, rfl, fa, dx, _, rfl, f3.at h1, rfl, _, rfl, fa, _, dx, _, _, rfl, f3.at h1, X.c_Family, X.n_Family_names, rfl, fa, d, na, wb, na, Vs, T, T, ends, rfl, f3.fam, f3.fam.names, hf.ok.rT, (fun x hx => hx), fun H4 f4 => ?_⟩
    refine ⟨_, rfl, _, _, rfl, rfl, small_le (by simp), fun r hr => ?_⟩
    have f5 := f3.trans f4
    refine k _ r (f5.put (f5.free hr)) ?_
    rw [upd_same, List.length_map]
end
end Bf
namespace Bf
open PySem PySem.Spec PyProof.Rows L2
theorem rep_flat {v : V} : ∀ n : Nat, (List.replicate n [v]).flatten = List.replicate n v
  | 0 => rfl
  | n + 1 => by
    rw [List.replicate_succ, List.flatten_cons, rep_flat n]; rfl
section
variable {P : Program} {w : World} {K : PySem.W.Frag} {mg : Str → Option Value} {base : Heap}
theorem sc_covered : FnScope ["family", "k"] ["family", "k"] (defScope s_covered) := ⟨rfl, rfl, rfl, by decide +kernel, rfl, by decide +kernel, by decide +kernel⟩
def sp_covered (K : PySem.W.Frag) : Sp := fun vs H Q _ => ∃ (fa d na wb : Addr) (Vs T : List Str) (ends : Str → Str × Str) (m : Nat), vs = [.ref fa, .int (m : Nat)] ∧ Fam K fa d na wb Vs T ends H ∧ m ≤ 24 ∧
  (∀ H' S, Fk K fa d na wb Vs T ends H H' → Rising S → (∀ t, t ∈ S → t ∈ T) → m * BfM.rk ends Vs S + 1 ≤ S.length → Q .non H') ∧
  (∀ H' ta ls pl, Fk K fa d na wb Vs T ends H H' → BfM.Parts ends m ls pl → pl.Perm (BfM.copiesF T 1) → Q (.ref ta) H')
theorem has_covered (X : Txt K mg) (N : Fns K) : Has P w K mg base (He.ga K "covered") 8 ["family", "k"] (sp_covered K) := by
  refine has_mk N.f_covered sc_covered (fun vs H Q E h => ?_) (fun _ _ _ _ _ _ us hl => match us, hl with | [_, _], _ => rfl) (fun cdv A outer s H vs Q E hr h => ?_)
  · obtain ⟨fa, d, na, wb, Vs, T, ends, m, rfl, _⟩ := h; rfl
  · obtain ⟨fa, d, na, wb, Vs, T, ends, m, rfl, hf, lm, kF, kO⟩ := h
    refine ⟨_, pss_cons (ps_expr (pe_ca (has_need_lots X N) X.g_need_lots hr (pa_cons (pv 1) pa_nil))) (pss_one (ps_ret (pe_ix ix_tup (pe_ca (has_all_placed X N) X.g_all_placed hr (pa_cons (pe_op op_rep (pe_lst (pa_cons (pv 0) pa_nil)) (pv 1)) (pa_cons (pe_ca (has_copies X N) X.g_copies hr (pa_cons (pe_fld (pv 0) (by rfl)) (pa_cons pe_int pa_nil))) pa_nil))) pe_int (fun _ _ => rfl)))), ?_⟩
    have ok := hf.ok
    obtain ⟨dx, h1⟩ := hf.self
    refine ⟨_, rfl, m, rfl, lm, ?_⟩
    refine ⟨_, rfl, small_le (by simp), fun l1 hl1 => ⟨_, rfl, l1, (m : Int), [.ref fa], rfl, rfl, upd_same, by omega, by omega, ?_, fun fl hfl => ?_⟩⟩
    · simp only [List.length_singleton, Nat.one_mul, Int.toNat_natCast]; exact small_le (by omega)
    have s1 : Same H (upd H l1 (.lst [V.ref fa])) := Same.new hl1
    have s2 := s1.put (o := .lst (List.replicate ((m : Nat) : Int).toNat [V.ref fa]).flatten) (s1.free hfl)
    have hfl2 : (upd (upd H l1 (.lst [V.ref fa])) fl (.lst (List.replicate ((m : Nat) : Int).toNat [V.ref fa]).flatten)) fl = some (.lst (List.replicate m (.ref fa))) := by rw [upd_same, rep_flat, Int.toNat_natCast]
    refine ⟨_, rfl, fa, _, dx, _, _, rfl, s2 _ _ h1, X.c_Family, X.n_Family_names, rfl, na, T, 1, rfl, s2 _ _ hf.names, Nat.le_trans ok.few (by decide), by decide, fun H3 ul qs s3 hul hqs eqs => ?_⟩
    have s23 := s2.trans s3
    refine ⟨fa, d, na, wb, fl, ul, Vs, T, ends, m, 1, qs, rfl, hf.same s23, s3 _ _ hfl2, hul, hqs, eqs, by omega, by decide, fun H4 r fo S f4 hr4 hfo rS sS st => ?_, fun H4 r ta ts ls pl f4 hr4 told len pt pm => ?_⟩
    · rw [Nat.one_mul] at st
      exact ⟨r, _, 0, .non, rfl, rfl, SqT.of hr4, rfl, kF H4 S ((Fk.of hf s23).trans f4) rS sS st⟩
    · exact ⟨r, _, 0, .ref ta, rfl, rfl, SqT.of hr4, rfl, kO H4 ta (unsL ls) pl ((Fk.of hf s23).trans f4) pt pm⟩
theorem sc_packed : FnScope ["family", "k", "lots", "many", "_"] ["family", "k"] (defScope s_packed) := ⟨rfl, rfl, rfl, by decide +kernel, rfl, by decide +kernel, by decide +kernel⟩
def sp_packed (K : PySem.W.Frag) : Sp := fun vs H Q _ => ∃ (fa d na wb : Addr) (Vs T : List Str) (ends : Str → Str × Str) (m : Nat), vs = [.ref fa, .int (m : Nat)] ∧ Fam K fa d na wb Vs T ends H ∧ m ≤ 24 ∧
  (∀ H' ls pl lf S, Fk K fa d na wb Vs T ends H H' → Rising S → (∀ t, t ∈ S → t ∈ T) → BfM.Parts ends m ls pl → (pl ++ lf).Perm (BfM.copiesF T 1) → pl.length + 1 * S.length = m * BfM.rk ends Vs S + 1 * T.length →
    (pl.length = m * BfM.rk ends Vs T → ∀ ta, Q (.ref ta) H') ∧ (pl.length ≠ m * BfM.rk ends Vs T → Q .non H'))
theorem has_packed (X : Txt K mg) (N : Fns K) : Has P w K mg base (He.ga K "packed") 8 ["family", "k"] (sp_packed K) := by
  refine has_mk N.f_packed sc_packed (fun vs H Q E h => ?_) (fun _ _ _ _ _ _ us hl => match us, hl with | [_, _], _ => rfl) (fun cdv A outer s H vs Q E hr h => ?_)
  · obtain ⟨fa, d, na, wb, Vs, T, ends, m, rfl, _⟩ := h; rfl
  · obtain ⟨fa, d, na, wb, Vs, T, ends, m, rfl, hf, lm, kk⟩ := h
    refine ⟨_, pss_cons (ps_expr (pe_ca (has_need_lots X N) X.g_need_lots hr (pa_cons (pv 1) pa_nil)))
      (pss_cons (ps_asg (pe_ca (has_most_placed X N) X.g_most_placed hr (pa_cons (pe_op op_rep (pe_lst (pa_cons (pv 0) pa_nil)) (pv 1)) (pa_cons (pe_ca (has_copies X N) X.g_copies hr (pa_cons (pe_fld (pv 0) (by rfl)) (pa_cons pe_int pa_nil))) pa_nil))) (pg_tup rfl (pgs_cons (pg_name (i := 2) sc_packed.nd rfl (Or.inl rfl)) (pgs_cons (pg_name (i := 3) sc_packed.nd rfl (Or.inl rfl)) (pgs_cons (pg_name (i := 4) sc_packed.nd rfl (Or.inl rfl)) pgs_nil)))))
      (pss_one (ps_ret (pe_ifExp (pt_cmpR op_eq (pv 3) (pe_op op_mul (pv 1) (pe_me (pv 0) (has_rank X N) X.c_Family X.m_Family_rank_of hr (pa_cons (pe_fld (pv 0) (by rfl)) pa_nil))) (by rfl)) (pv 2) pe_non)))), ?_⟩
    have ok := hf.ok
    obtain ⟨dx, h1⟩ := hf.self
    refine ⟨_, rfl, m, rfl, lm, ?_⟩
    refine ⟨_, rfl, small_le (by simp), fun l1 hl1 => ⟨_, rfl, l1, (m : Int), [.ref fa], rfl, rfl, upd_same, by omega, by omega, ?_, fun fl hfl => ?_⟩⟩
    · simp only [List.length_singleton, Nat.one_mul, Int.toNat_natCast]; exact small_le (by omega)
    have s1 : Same H (upd H l1 (.lst [V.ref fa])) := Same.new hl1
    have s2 := s1.put (o := .lst (List.replicate ((m : Nat) : Int).toNat [V.ref fa]).flatten) (s1.free hfl)
    have hfl2 : (upd (upd H l1 (.lst [V.ref fa])) fl (.lst (List.replicate ((m : Nat) : Int).toNat [V.ref fa]).flatten)) fl = some (.lst (List.replicate m (.ref fa))) := by rw [upd_same, rep_flat, Int.toNat_natCast]
    refine ⟨_, rfl, fa, _, dx, _, _, rfl, s2 _ _ h1, X.c_Family, X.n_Family_names, rfl, na, T, 1, rfl, s2 _ _ hf.names, Nat.le_trans ok.few (by decide), by decide, fun H3 ul qs s3 hul hqs eqs => ?_⟩
    have s23 := s2.trans s3
    refine ⟨fa, d, na, wb, fl, ul, Vs, T, ends, m, 1, qs, rfl, hf.same s23, s3 _ _ hfl2, hul, hqs, eqs, by omega, by decide, fun H4 r ta fo ts ls pl lf S f4 hr4 told hfo rS sS len pt pm cnt => ?_⟩
    have f34 := (Fk.of hf s23).trans f4
    refine ⟨r, _, rfl, SqT.of hr4, rfl, _, _, rfl, _, _, rfl, _, _, rfl, rfl, ?_⟩
    refine ⟨_, rfl, _, rfl, _, rfl, fa, dx, _, rfl, f34.at h1, rfl, _, rfl, fa, _, dx, _, _, rfl, f34.at h1, X.c_Family, X.n_Family_names, rfl, fa, d, na, wb, na, Vs, T, T, ends, rfl, f34.fam, f34.fam.names, ok.rT, (fun x hx => hx), fun H5 f5 => ?_⟩
    have f35 := f34.trans f5
    obtain ⟨k1, k2⟩ := kk H5 (unsL ls) pl lf S f35 rS sS pt pm cnt
    refine ⟨(m : Int), _, rfl, rfl, .inl ⟨by omega, by omega⟩, rfl, _, rfl, ?_⟩
    rw [dec_int]
    by_cases e : pl.length = m * BfM.rk ends Vs T
    · rw [show (((pl.length : Nat) : Int) == (m : Int) * (BfM.rk ends Vs T : Nat)) = true by rw [beq_iff_eq, e]; exact Int.natCast_mul _ _]
      exact iteT ⟨_, rfl, k1 e ta⟩
    · rw [show (((pl.length : Nat) : Int) == (m : Int) * (BfM.rk ends Vs T : Nat)) = false by
        rw [beq_eq_false_iff_ne, ← Int.natCast_mul]
        intro z; exact e (Int.ofNat.inj z)]
      exact iteF (k2 e)
end
end Bf
namespace Bf
open PySem PySem.Spec PyProof.Rows L2
theorem hu64 {k : Nat} {A : Around} (hr : Room k A) : A.units + 64 < cLine := by have := hr.un; omega
theorem strs_lay : ∀ {l : List Str}, (∀ t, t ∈ l → PyData.strOk t = true) → PyData.canLayAll0 (l.map PyData.str) = true
  | [], _ => by simp [PyData.canLayAll0]
  | t :: l, h => by
    have h1 := strs_lay fun x hx => h x (List.mem_cons_of_mem t hx)
    have h2 := h t (List.mem_cons_self ..)
    simp [PyData.canLayAll0, PyData.canLay0, h1, h2]
theorem strs_deep : ∀ l : List Str, PyData.depthAll (l.map PyData.str) ≤ 0
  | [] => by simp [PyData.depthAll]
  | t :: l => by
    have h1 := strs_deep l
    simp only [List.map_cons, PyData.depthAll, PyData.depth]
    omega
theorem strs_shaped {l : List Str} (h : ∀ t, t ∈ l → PyData.strOk t = true) : SeqAt.shaped (.list (l.map PyData.str)) = true := by
  have h1 := strs_deep l
  show (PyData.canLay0 (.list (l.map PyData.str)) && decide (PyData.depth (.list (l.map PyData.str)) ≤ 64)) = true
  rw [Bool.and_eq_true]
  refine ⟨by simp only [PyData.canLay0]; exact strs_lay h, decide_eq_true ?_⟩
  simp only [PyData.depth]
  omega
theorem strs_dp {K : PySem.W.Frag} {H : Hp} : ∀ l : List Str, DpAll K H (l.map V.str) (l.map PyData.str)
  | [] => .nil
  | t :: l => .cons (.str t) (strs_dp l)
/-- stuck() != [] -/
theorem stuck_run {K : PySem.W.Frag} {H : Hp} {p : Addr} {l : List Str} {σ : L2.St} {Q : VK} (hp : H p = some (.lst (l.map V.str))) (low : ∀ t, t ∈ l → PyData.strOk t = true) (h : ∀ q, H q = none → Q (.bl (!decide (l = []))) (upd H q (.lst []))) : tLst tNil σ H fun y H2 => rNeD K (.ref p) y H2 Q := by
  refine ⟨small_le (by simp), fun q hq => ⟨.list (l.map PyData.str), .list [], .lst (SqL.of (by rw [upd_ne (ne_of_none hp hq)]; exact hp)) (strs_dp l), .lst (SqL.of upd_same) .nil, strs_shaped low, rfl, ?_⟩⟩
  have := h q hq
  cases l with
  | nil => exact this
  | cons t l => exact this
section
variable {P : Program} {w : World} {K : PySem.W.Frag} {mg : Str → Option Value} {base : Heap}
theorem sc_fewest : FnScope ["family", "k"] ["family"] (defScope s_fewest) := ⟨rfl, rfl, rfl, by decide +kernel, rfl, by decide +kernel, by decide +kernel⟩
def sp_fewest (K : PySem.W.Frag) : Sp := fun vs H Q _ => ∃ (fa d na wb : Addr) (Vs T : List Str) (ends : Str → Str × Str) (m : Nat), vs = [.ref fa] ∧ Fam K fa d na wb Vs T ends H ∧ m ≤ 24 ∧ (∀ t, t ∈ T → BfM.rk ends Vs [t] ≠ 0) ∧
  (∀ k, k < m → ∀ ls pl, BfM.Parts ends k ls pl → ¬ pl.Perm (BfM.copiesF T 1)) ∧ (∀ S, Rising S → (∀ t, t ∈ S → t ∈ T) → S.length ≤ m * BfM.rk ends Vs S) ∧
  ∀ H', Fk K fa d na wb Vs T ends H H' → Q (.int (m : Nat)) H'
theorem has_fewest (X : Txt K mg) (N : Fns K) : Has P w K mg base (He.ga K "fewest") 9 ["family"] (sp_fewest K) := by
  refine has_mk N.f_fewest sc_fewest (fun vs H Q E h => ?_) (fun _ _ _ _ _ _ us hl => match us, hl with | [_], _ => rfl) (fun cdv A outer s H vs Q E hr h => ?_)
  · obtain ⟨fa, d, na, wb, Vs, T, ends, m, rfl, _⟩ := h; rfl
  · obtain ⟨fa, d, na, wb, Vs, T, ends, m, rfl, hf, lm, ns, lo, hi, k⟩ := h
    refine ⟨_, pss_cons (ps_if (pt_cmpR (op_neD (hu64 hr)) (pe_me0 (pv 0) (has_stuck X N) X.c_Family X.m_Family_stuck hr) (pe_lst pa_nil) (by rfl)) pss_never pss_nil)
      (pss_cons (ps_set (i := 1) sc_fewest.nd rfl (Or.inl rfl) pe_int)
      (pss_cons (ps_while PassesOwn.never (pt_cmpR op_isN (pe_ca (has_covered X N) X.g_covered hr (pa_cons (pv 0) (pa_cons (pv 1) pa_nil))) pe_non (by rfl)) (pss_one (ps_aug (i := 1) sc_fewest.nd rfl (Or.inl rfl) pe_int ip_add)))
      (pss_one (ps_ret (pv 1))))), ?_⟩
    obtain ⟨dx, h1⟩ := hf.self
    have e0 : (T.filter fun t => decide (BfM.rk ends Vs [t] = 0)) = [] := by
      rw [List.filter_eq_nil_iff]
      intro t ht
      simp [ns t ht]
    refine ⟨_, rfl, fa, dx, _, rfl, h1, rfl, fa, d, na, wb, Vs, T, ends, rfl, hf, fun H1 p f1 hp hp1 => ?_⟩
    rw [e0] at hp1
    refine stuck_run (l := []) hp1 (fun t ht => nomatch ht) fun q hq => ⟨_, rfl, iteF ?_⟩
    have f2 := f1.then_ (Same.new (o := .lst []) hq)
    refine ⟨fun m' σ H' => ∃ k : Nat, m' + k = m ∧ σ = [some (.ref fa), some (.int (k : Nat))] ∧ Fk K fa d na wb Vs T ends H H', ⟨m, 0, rfl, rfl, f2⟩, fun m' σ H' q => ?_⟩
    obtain ⟨j, ej, rfl, f⟩ := q
    refine ⟨_, rfl, _, rfl, fa, d, na, wb, Vs, T, ends, j, rfl, f.fam, by omega, fun H2 S f3 rS sS st => ?_, fun H2 ta ls pl f3 pt pm => ?_⟩
    · have hlt : j < m := by
        rcases Nat.lt_or_ge j m with h | h
        · exact h
        · have : j = m := by omega
          subst this
          have := hi S rS sS
          omega
      refine ⟨rfl, _, rfl, iteT ⟨fun σ' H'' => ∃ m2, m2 < m' ∧ _, fun _ _ h => h, ?_⟩⟩
      exact ⟨_, rfl, (j : Int), 1, rfl, rfl, m' - 1, by omega, j + 1, by omega, rfl, f.trans f3⟩
    · have he : j = m := by
        rcases Nat.lt_or_ge j m with h | h
        · exact absurd pm (lo j h ls pl pt)
        · omega
      subst he
      exact ⟨rfl, _, rfl, iteF ⟨_, rfl, k H2 (f.trans f3)⟩⟩
theorem sc_most : FnScope ["family", "k"] ["family"] (defScope s_most) := ⟨rfl, rfl, rfl, by decide +kernel, rfl, by decide +kernel, by decide +kernel⟩
def sp_most (K : PySem.W.Frag) : Sp := fun vs H Q _ => ∃ (fa d na wb : Addr) (Vs T : List Str) (ends : Str → Str × Str) (m : Nat), vs = [.ref fa] ∧ Fam K fa d na wb Vs T ends H ∧ 1 ≤ m ∧ m ≤ 23 ∧ 0 < BfM.rk ends Vs T ∧
  (∀ k, k ≤ m → ∀ S, Rising S → (∀ t, t ∈ S → t ∈ T) → k * BfM.rk ends Vs T + S.length ≤ k * BfM.rk ends Vs S + T.length) ∧
  (∃ S, S.Nodup ∧ (∀ t, t ∈ S → t ∈ T) ∧ (m + 1) * BfM.rk ends Vs S + T.length < (m + 1) * BfM.rk ends Vs T + S.length) ∧
  ∀ H', Fk K fa d na wb Vs T ends H H' → Q (.int (m : Nat)) H'
theorem has_most (X : Txt K mg) (N : Fns K) : Has P w K mg base (He.ga K "most") 9 ["family"] (sp_most K) := by
  refine has_mk N.f_most sc_most (fun vs H Q E h => ?_) (fun _ _ _ _ _ _ us hl => match us, hl with | [_], _ => rfl) (fun cdv A outer s H vs Q E hr h => ?_)
  · obtain ⟨fa, d, na, wb, Vs, T, ends, m, rfl, _⟩ := h; rfl
  · obtain ⟨fa, d, na, wb, Vs, T, ends, m, rfl, hf, m1, m2, rT, lo, ⟨S0, n0, s0, hi⟩, k⟩ := h
    obtain ⟨t1, e1⟩ := X.i_MOST_LOTS
    have ok := hf.ok
    refine ⟨_, pss_cons (ps_if (pt_cmpR op_eq (pe_me (pv 0) (has_rank X N) X.c_Family X.m_Family_rank_of hr (pa_cons (pe_fld (pv 0) (by rfl)) pa_nil)) pe_int (by rfl)) pss_never pss_nil)
      (pss_cons (ps_set (i := 1) sc_most.nd rfl (Or.inl rfl) pe_int)
      (pss_cons (ps_while PassesOwn.never (PW.pt (pw_and (pt_cmpR op_lt (pv 1) (pe_glob (v := .int 24) (by rfl) e1 ⟨t1, rfl⟩) (by rfl)) (pw_and1 (pt_cmpR op_notN (pe_ca (has_packed X N) X.g_packed hr (pa_cons (pv 0) (pa_cons (pe_op op_add (pv 1) pe_int) pa_nil))) pe_non (by rfl))))) (pss_one (ps_aug (i := 1) sc_most.nd rfl (Or.inl rfl) pe_int ip_add)))
      (pss_one (ps_ret (pv 1))))), ?_⟩
    obtain ⟨dx, h1⟩ := hf.self
    refine ⟨_, rfl, fa, dx, _, rfl, h1, rfl, _, rfl, fa, _, dx, _, _, rfl, h1, X.c_Family, X.n_Family_names, rfl, fa, d, na, wb, na, Vs, T, T, ends, rfl, hf, hf.names, ok.rT, (fun x hx => hx), fun H1 f1 => ?_⟩
    refine ⟨rfl, _, rfl, ?_⟩
    rw [dec_int, show (((BfM.rk ends Vs T : Nat) : Int) == 0) = false by rw [beq_eq_false_iff_ne]; omega]
    refine iteF ?_
    refine ⟨fun m' σ H' => ∃ k : Nat, 1 ≤ k ∧ m' + k = m ∧ σ = [some (.ref fa), some (.int (k : Nat))] ∧ Fk K fa d na wb Vs T ends H H', ⟨m - 1, 1, by omega, by omega, rfl, f1⟩, fun m' σ H' q => ?_⟩
    obtain ⟨j, j1, ej, rfl, f⟩ := q
    refine ⟨_, rfl, (j : Int), 24, rfl, rfl, _, rfl, ?_⟩
    rw [show decide ((j : Int) < 24) = true by rw [decide_eq_true_iff]; omega]
    refine iteT ?_
    refine ⟨_, rfl, _, rfl, (j : Int), 1, rfl, rfl, fa, d, na, wb, Vs, T, ends, j + 1, rfl, f.fam, by omega, fun H2 ls pl lf S f2 rS sS pt pm cnt => ⟨fun e ta => ?_, fun e => ?_⟩⟩
    · have hlt : j < m := by
        rcases Nat.lt_or_ge j m with h | h
        · exact h
        · have : j = m := by omega
          subst this
          have := BfM.pack_le ok.web pt pm n0 s0 ok.rT.nodup
          omega
      refine ⟨rfl, _, rfl, iteT ⟨fun σ' H'' => ∃ m2, m2 < m' ∧ _, fun _ _ h => h, ?_⟩⟩
      exact ⟨_, rfl, (j : Int), 1, rfl, rfl, m' - 1, by omega, j + 1, by omega, by omega, rfl, f.trans f2⟩
    · have he : j = m := by
        rcases Nat.lt_or_ge j m with h | h
        · have h2 := lo (j + 1) h S rS sS
          have h3 := BfM.most_le ok.web pt fun u hu => (BfM.mem_copies.mp (pm.mem_iff.mp (List.mem_append_left lf hu))).1
          omega
        · omega
      subst he
      exact ⟨rfl, _, rfl, iteF ⟨_, rfl, k H2 (f.trans f2)⟩⟩
end
end Bf
namespace Bf
open PySem PySem.Spec PyProof.Rows L2
theorem Fk.told {K : PySem.W.Frag} {fa d na wb : Addr} {Vs T : List Str} {ends : Str → Str × Str} {H H1 : Hp} {ls : List QL} {ta : Addr} {ts : List (Addr × List Str)} (h : Told H ls ta ts) (f : Fk K fa d na wb Vs T ends H H1) : Told H1 ls ta ts :=
  let ⟨t1, t2, t3⟩ := h
  ⟨f.at t1, t2, fun i z hz => let ⟨t, m1, m2, m3, m4⟩ := t3 i z hz; ⟨t, m1, m2, m3, f.at m4⟩⟩
theorem rk_some {Vs T S : List Str} {ends : Str → Str × Str} (ok : WebOk Vs T ends) (ns : ∀ t, t ∈ T → BfM.rk ends Vs [t] ≠ 0) (sub : ∀ t, t ∈ S → t ∈ T) (ne : 0 < S.length) : 0 < BfM.rk ends Vs S := by
  cases S with
  | nil => simp at ne
  | cons t S =>
    have h1 := ns t (sub t (List.mem_cons_self ..))
    have h2 := BfM.rk_mono (X := [t]) (Y := t :: S) ok.web fun e he => by rw [List.mem_singleton.mp he]; exact List.mem_cons_self ..
    omega
section
variable {P : Program} {w : World} {K : PySem.W.Frag} {mg : Str → Option Value} {base : Heap}
theorem sc_thickness : FnScope ["family", "lot", "p", "q", "lots", "found"] ["family"] (defScope s_thickness) := ⟨rfl, rfl, rfl, by decide +kernel, rfl, by decide +kernel, by decide +kernel⟩
/-- what thickness has found -/
structure ThickOk (Vs T : List Str) (ends : Str → Str × Str) (p q : Nat) (S : List Str) (ls : List QL) (pl : List Un_) : Prop where
  rS : Rising S
  sub : ∀ t, t ∈ S → t ∈ T
  pos : 0 < BfM.rk ends Vs S
  eq : q * S.length = p * BfM.rk ends Vs S
  one : Nat.gcd p q = 1
  p1 : 1 ≤ p
  p8 : p ≤ 8
  q1 : 1 ≤ q
  q8 : q ≤ 8
  len : ls.length = p
  pt : BfM.Parts ends p (unsL ls) pl
  pm : pl.Perm (BfM.copiesF T q)
  ns : ∀ t, t ∈ T → BfM.rk ends Vs [t] ≠ 0
def sp_thickness (K : PySem.W.Frag) : Sp := fun vs H Q _ => ∃ (fa d na wb : Addr) (Vs T : List Str) (ends : Str → Str × Str), vs = [.ref fa] ∧ Fam K fa d na wb Vs T ends H ∧
  ((T = [] ∨ ∃ t, t ∈ T ∧ BfM.rk ends Vs [t] = 0) → ∀ H', Fk K fa d na wb Vs T ends H H' → Q .non H') ∧
  (∀ H' r la ta p q S ts ls pl, Fk K fa d na wb Vs T ends H H' → H' r = some (.tup [.int (p : Nat), .int (q : Nat), .ref la, .ref ta]) → H' la = some (.lst (S.map V.str)) → Told H' ls ta ts → ThickOk Vs T ends p q S ls pl → Q (.ref r) H')
theorem has_thickness (X : Txt K mg) (N : Fns K) : Has P w K mg base (He.ga K "thickness") 8 ["family"] (sp_thickness K) := by
  refine has_mk N.f_thickness sc_thickness (fun vs H Q E h => ?_) (fun _ _ _ _ _ _ us hl => match us, hl with | [_], _ => rfl) (fun cdv A outer s H vs Q E hr h => ?_)
  · obtain ⟨fa, d, na, wb, Vs, T, ends, rfl, _⟩ := h; rfl
  · obtain ⟨fa, d, na, wb, Vs, T, ends, rfl, hf, kN, kS⟩ := h
    obtain ⟨fd, FL, bL⟩ := (has_len (P := P) (w := w) (base := base) X N).ex
    have ok := hf.ok
    refine ⟨_, pss_cons (ps_if (PW.pt (pw_or (pt_cmpR op_eq (pe_b1 (BfR.call_lenO (C := He.ga K "Family") FL (hr.mono (by decide)) X.m_Family_len.at_ X.m_Family_len.fn bL) X.f_len (pv 0)) pe_int (by rfl)) (pw_or1 (pt_cmpR (op_neD (hu64 hr)) (pe_me0 (pv 0) (has_stuck X N) X.c_Family X.m_Family_stuck hr) (pe_lst pa_nil) (by rfl))))) (pss_one (ps_ret pe_non)) pss_nil)
      (pss_cons (ps_set (i := 1) sc_thickness.nd rfl (Or.inl rfl) (pe_t1 call_list_of X.f_list (pe_fld (pv 0) (by rfl))))
      (pss_one (ps_while PassesOwn.never (pt_val pe_bl)
        (pss_cons (ps_asg (pe_ca (has_lowest X N) X.g_lowest hr (pa_cons (pe_b1 call_len_seq X.f_len (pv 1)) (pa_cons (pe_me (pv 0) (has_rank X N) X.c_Family X.m_Family_rank_of hr (pa_cons (pe_t1 call_tuple_of X.f_tuple (pv 1)) pa_nil)) pa_nil))) (pg_tup rfl (pgs_cons (pg_name (i := 2) sc_thickness.nd rfl (Or.inl rfl)) (pgs_cons (pg_name (i := 3) sc_thickness.nd rfl (Or.inl rfl)) pgs_nil))))
        (pss_cons (ps_asg (pe_ca (has_all_placed X N) X.g_all_placed hr (pa_cons (pe_op op_rep (pe_lst (pa_cons (pv 0) pa_nil)) (pv 2)) (pa_cons (pe_ca (has_copies X N) X.g_copies hr (pa_cons (pe_fld (pv 0) (by rfl)) (pa_cons (pv 3) pa_nil))) pa_nil))) (pg_tup rfl (pgs_cons (pg_name (i := 4) sc_thickness.nd rfl (Or.inl rfl)) (pgs_cons (pg_name (i := 5) sc_thickness.nd rfl (Or.inl rfl)) pgs_nil))))
        (pss_cons (ps_if (pt_cmpR op_isN (pv 5) pe_non (by rfl)) (pss_one (ps_ret (pe_tup (pa_cons (pv 2) (pa_cons (pv 3) (pa_cons (pv 1) (pa_cons (pv 4) pa_nil))))))) pss_nil)
        (pss_one (ps_set (i := 1) sc_thickness.nd rfl (Or.inl rfl) (pv 5))))))))), ?_⟩
    obtain ⟨dx, h1⟩ := hf.self
    refine ⟨_, rfl, fa, dx, _, rfl, h1, fa, d, na, wb, Vs, T, ends, rfl, hf, T.length, rfl, Nat.lt_of_le_of_lt ok.few (by decide), rfl, _, rfl, ?_⟩
    rw [dec_int]
    by_cases e0 : T.length = 0
    · rw [show (((T.length : Nat) : Int) == 0) = true by simp [e0]]
      exact iteT (iteT (kN (.inl (List.eq_nil_of_length_eq_zero e0)) _ (Fk.refl hf)))
    · rw [show (((T.length : Nat) : Int) == 0) = false by rw [beq_eq_false_iff_ne]; omega]
      refine iteF ⟨_, rfl, fa, dx, _, rfl, h1, rfl, fa, d, na, wb, Vs, T, ends, rfl, hf, fun H1 p f1 hp hp1 => ?_⟩
      refine stuck_run hp1 (fun t ht => ok.low t (List.mem_filter.mp ht).1) fun q hq => ⟨_, rfl, ?_⟩
      have f2 := f1.then_ (Same.new (o := .lst []) hq)
      by_cases e1 : (T.filter fun t => decide (BfM.rk ends Vs [t] = 0)) = []
      · rw [show (!decide ((T.filter fun t => decide (BfM.rk ends Vs [t] = 0)) = [])) = false by simp only [e1]; rfl]
        have ns : ∀ t, t ∈ T → BfM.rk ends Vs [t] ≠ 0 := fun t ht e => by
          have := List.filter_eq_nil_iff.mp e1 t ht
          simp [e] at this
        refine iteF ?_
        refine ⟨_, rfl, fa, _, dx, _, _, rfl, f2.at h1, X.c_Family, X.n_Family_names, rfl, na, _, rfl, .inr (SqT.of f2.fam.names), fun la hla => ?_⟩
        refine ⟨fun m σ H' => ∃ (S : List Str) (la : Addr) (u2 u3 u4 u5 : Option V), m = mu S.length (BfM.rk ends Vs S) ∧ σ = [some (.ref fa), some (.ref la), u2, u3, u4, u5] ∧ Fk K fa d na wb Vs T ends H H' ∧ H' la = some (.lst (S.map V.str)) ∧ Rising S ∧ (∀ t, t ∈ S → t ∈ T) ∧ 0 < BfM.rk ends Vs S,
          ⟨_, T, la, none, none, none, none, rfl, rfl, f2.then_ (Same.new hla), upd_same, ok.rT, (fun t ht => ht), rk_some ok ns (fun t ht => ht) (by omega)⟩, fun m σ H' w' => ?_⟩
        obtain ⟨S, la, u2, u3, u4, u5, rfl, rfl, f, hl, rS, sS, pos⟩ := w'
        have lS : S.length ≤ 8 := Nat.le_trans (BfM.nodup_len rS.nodup sS) ok.few
        have rle := BfM.rk_le_len (V := Vs) ok.web S
        have gp : 0 < Nat.gcd S.length (BfM.rk ends Vs S) := Nat.gcd_pos_of_pos_right _ pos
        have gl : Nat.gcd S.length (BfM.rk ends Vs S) ≤ 8 := Nat.le_trans (Nat.le_of_dvd (by omega) (Nat.gcd_dvd_left ..)) lS
        refine ⟨true, rfl, iteT ⟨fun σ' H'' => ∃ m2, m2 < mu S.length (BfM.rk ends Vs S) ∧ _, fun _ _ h => h, ?_⟩⟩
        refine ⟨_, rfl, la, _, rfl, .inl (SqL.of hl), ?_⟩
        refine ⟨_, rfl, fa, dx, _, rfl, f.at h1, rfl, _, rfl, la, _, rfl, .inl ⟨SqL.of hl, fun tp htp => ?_⟩⟩
        refine ⟨fa, d, na, wb, tp, Vs, T, S, ends, rfl, f.fam.same (Same.new htp), upd_same, rS, sS, fun H2 f3 => ?_⟩
        have f4 := (f.then_ (Same.new htp)).trans f3
        have hl2 : H2 la = some (.lst (S.map V.str)) := f3.at ((Same.new htp) _ _ hl)
        refine ⟨S.length, BfM.rk ends Vs S, by rw [List.length_map], gp, by omega, fun H3 r s3 hr hr3 => ?_⟩
        refine ⟨r, _, rfl, SqT.of hr3, rfl, _, _, rfl, _, _, rfl, rfl, ?_⟩
        have hp8 := low_pos (a := S.length) (b := BfM.rk ends Vs S) (by omega)
        have hq8 := low_pos2 (a := S.length) (b := BfM.rk ends Vs S) pos
        have le := low_eq S.length (BfM.rk ends Vs S)
        have l1 := low_one gp
        have ll := fun x y => low_lt (x := x) (y := y) gp
        revert hp8 hq8 le l1 ll
        generalize S.length / Nat.gcd S.length (BfM.rk ends Vs S) = p
        generalize BfM.rk ends Vs S / Nat.gcd S.length (BfM.rk ends Vs S) = q
        intro hp8 hq8 le l1 ll
        have f5 := f4.then_ s3
        have hl3 := s3 _ _ hl2
        refine ⟨_, rfl, small_le (by simp), fun a1 ha1 => ⟨_, rfl, a1, (p : Int), [.ref fa], rfl, rfl, upd_same, by omega, by omega, ?_, fun fl hfl => ?_⟩⟩
        · simp only [List.length_singleton, Nat.one_mul, Int.toNat_natCast]; exact small_le (by omega)
        have t1 : Same H3 (upd H3 a1 (.lst [V.ref fa])) := Same.new ha1
        have t2 := t1.put (o := .lst (List.replicate ((p : Nat) : Int).toNat [V.ref fa]).flatten) (t1.free hfl)
        have hfl2 : (upd (upd H3 a1 (.lst [V.ref fa])) fl (.lst (List.replicate ((p : Nat) : Int).toNat [V.ref fa]).flatten)) fl = some (.lst (List.replicate p (.ref fa))) := by rw [upd_same, rep_flat, Int.toNat_natCast]
        have f6 := f5.then_ t2
        refine ⟨_, rfl, fa, _, dx, _, _, rfl, f6.at h1, X.c_Family, X.n_Family_names, rfl, _, rfl, na, T, q, rfl, f6.fam.names, Nat.le_trans ok.few (by decide), by omega, fun H4 ul qs s4 hul hqs eqs => ?_⟩
        have f7 := f6.then_ s4
        have hl4 := s4 _ _ (t2 _ _ hl3)
        refine ⟨fa, d, na, wb, fl, ul, Vs, T, ends, p, q, qs, rfl, f7.fam, s4 _ _ hfl2, hul, hqs, eqs, by omega, by omega, fun H5 r5 fo S5 f8 hr5 hfo rS5 sS5 st => ?_, fun H5 r5 ta ts ls pl f8 hr5 told len pt pm => ?_⟩
        · refine ⟨r5, _, rfl, SqT.of hr5, rfl, _, _, rfl, _, _, rfl, rfl, ?_⟩
          refine ⟨_, rfl, rfl, _, rfl, iteF ⟨_, rfl, ?_⟩⟩
          have l5 : 0 < S5.length := by
            rcases Nat.eq_zero_or_pos S5.length with e | e
            · rw [e] at st; simp at st
            · exact e
          have lS5 : S5.length ≤ 8 := Nat.le_trans (BfM.nodup_len rS5.nodup sS5) ok.few
          have pos5 := rk_some ok ns sS5 l5
          have rle5 := BfM.rk_le_len (V := Vs) ok.web S5
          exact ⟨_, mu_lt lS5 (Nat.le_trans rle5 lS5) pos5 (ll _ _ st), S5, fo, _, _, _, _, rfl, rfl, f7.trans f8, hfo, rS5, sS5, pos5⟩
        · refine ⟨r5, _, rfl, SqT.of hr5, rfl, _, _, rfl, _, _, rfl, rfl, ?_⟩
          refine ⟨_, rfl, rfl, _, rfl, iteT ?_⟩
          refine ⟨_, rfl, _, rfl, _, rfl, _, rfl, small_le (by simp), fun r6 hr6 => ?_⟩
          have f9 := f7.trans f8
          refine kS _ r6 la ta p q S ts ls pl (f9.put (f9.free hr6)) upd_same ((Same.new hr6) _ _ (f8.at hl4)) ?_ ⟨rS, sS, pos, le, l1, hp8.1, by omega, hq8.1, by omega, len, pt, pm, ns⟩
          obtain ⟨t1, t2, t3⟩ := told
          refine ⟨(Same.new hr6) _ _ t1, t2, fun i z hz => ?_⟩
          obtain ⟨t, m1, m2, m3, m4⟩ := t3 i z hz
          exact ⟨t, m1, m2, m3, (Same.new hr6) _ _ m4⟩
      · rw [show (!decide ((T.filter fun t => decide (BfM.rk ends Vs [t] = 0)) = [])) = true by simp only [e1]; rfl]
        refine iteT (kN (.inr ?_) _ f2)
        cases e2 : (T.filter fun t => decide (BfM.rk ends Vs [t] = 0)) with
        | nil => exact absurd e2 e1
        | cons t l =>
          have m : t ∈ T.filter fun t => decide (BfM.rk ends Vs [t] = 0) := by rw [e2]; exact List.mem_cons_self ..
          obtain ⟨m1, m2⟩ := List.mem_filter.mp m
          exact ⟨t, m1, of_decide_eq_true m2⟩
end
end Bf
namespace Bf
open PySem PySem.Spec PyProof.Rows L2
section
variable {P : Program} {w : World} {K : PySem.W.Frag} {mg : Str → Option Value} {base : Heap}
theorem sc_strength : FnScope ["family", "whole", "lot", "rest", "lacks", "p", "q", "lots", "many", "found"] ["family"] (defScope s_strength) := ⟨rfl, rfl, rfl, by decide +kernel, rfl, by decide +kernel, by decide +kernel⟩
/-- what strength has found -/
structure StrongOk (Vs T : List Str) (ends : Str → Str × Str) (p q : Nat) (S : List Str) (ls : List QL) (pl lf : List Un_) : Prop where
  rS : Rising S
  sub : ∀ t, t ∈ S → t ∈ T
  less : BfM.rk ends Vs S < BfM.rk ends Vs T
  eq : q * (T.length - S.length) = p * (BfM.rk ends Vs T - BfM.rk ends Vs S)
  one : Nat.gcd p q = 1
  p1 : 1 ≤ p
  p8 : p ≤ 8
  q1 : 1 ≤ q
  q8 : q ≤ 8
  len : ls.length = p
  pt : BfM.Parts ends p (unsL ls) pl
  pm : (pl ++ lf).Perm (BfM.copiesF T q)
  full : pl.length = p * BfM.rk ends Vs T
def sp_strength (K : PySem.W.Frag) : Sp := fun vs H Q _ => ∃ (fa d na wb : Addr) (Vs T : List Str) (ends : Str → Str × Str), vs = [.ref fa] ∧ Fam K fa d na wb Vs T ends H ∧
  (BfM.rk ends Vs T = 0 → ∀ H', Fk K fa d na wb Vs T ends H H' → Q .non H') ∧
  (∀ H' r la ta p q S ts ls pl lf, Fk K fa d na wb Vs T ends H H' → H' r = some (.tup [.int (p : Nat), .int (q : Nat), .ref la, .ref ta]) → H' la = some (.lst (S.map V.str)) → Told H' ls ta ts → StrongOk Vs T ends p q S ls pl lf → Q (.ref r) H')
theorem has_strength (X : Txt K mg) (N : Fns K) : Has P w K mg base (He.ga K "strength") 8 ["family"] (sp_strength K) := by
  refine has_mk N.f_strength sc_strength (fun vs H Q E h => ?_) (fun _ _ _ _ _ _ us hl => match us, hl with | [_], _ => rfl) (fun cdv A outer s H vs Q E hr h => ?_)
  · obtain ⟨fa, d, na, wb, Vs, T, ends, rfl, _⟩ := h; rfl
  · obtain ⟨fa, d, na, wb, Vs, T, ends, rfl, hf, kN, kS⟩ := h
    have ok := hf.ok
    refine ⟨_, pss_cons (ps_set (i := 1) sc_strength.nd rfl (Or.inl rfl) (pe_me (pv 0) (has_rank X N) X.c_Family X.m_Family_rank_of hr (pa_cons (pe_fld (pv 0) (by rfl)) pa_nil)))
      (pss_cons (ps_if (pt_cmpR op_eq (pv 1) pe_int (by rfl)) (pss_one (ps_ret pe_non)) pss_nil)
      (pss_cons (ps_set (i := 2) sc_strength.nd rfl (Or.inl rfl) (pe_lst pa_nil))
      (pss_one (ps_while PassesOwn.never (pt_val pe_bl)
        (pss_cons (ps_asg (pe_ca (has_missing X N) X.g_missing hr (pa_cons (pv 0) (pa_cons (pv 2) pa_nil))) (pg_tup rfl (pgs_cons (pg_name (i := 3) sc_strength.nd rfl (Or.inl rfl)) (pgs_cons (pg_name (i := 4) sc_strength.nd rfl (Or.inl rfl)) pgs_nil))))
        (pss_cons (ps_asg (pe_ca (has_lowest X N) X.g_lowest hr (pa_cons (pv 3) (pa_cons (pv 4) pa_nil))) (pg_tup rfl (pgs_cons (pg_name (i := 5) sc_strength.nd rfl (Or.inl rfl)) (pgs_cons (pg_name (i := 6) sc_strength.nd rfl (Or.inl rfl)) pgs_nil))))
        (pss_cons (ps_asg (pe_ca (has_most_placed X N) X.g_most_placed hr (pa_cons (pe_op op_rep (pe_lst (pa_cons (pv 0) pa_nil)) (pv 5)) (pa_cons (pe_ca (has_copies X N) X.g_copies hr (pa_cons (pe_fld (pv 0) (by rfl)) (pa_cons (pv 6) pa_nil))) pa_nil))) (pg_tup rfl (pgs_cons (pg_name (i := 7) sc_strength.nd rfl (Or.inl rfl)) (pgs_cons (pg_name (i := 8) sc_strength.nd rfl (Or.inl rfl)) (pgs_cons (pg_name (i := 9) sc_strength.nd rfl (Or.inl rfl)) pgs_nil)))))
        (pss_cons (ps_if (pt_cmpR op_eq (pv 8) (pe_op op_mul (pv 5) (pv 1)) (by rfl)) (pss_one (ps_ret (pe_tup (pa_cons (pv 5) (pa_cons (pv 6) (pa_cons (pv 2) (pa_cons (pv 7) pa_nil))))))) pss_nil)
        (pss_one (ps_set (i := 2) sc_strength.nd rfl (Or.inl rfl) (pv 9))))))))))), ?_⟩
    obtain ⟨dx, h1⟩ := hf.self
    refine ⟨_, rfl, fa, dx, _, rfl, h1, rfl, _, rfl, fa, _, dx, _, _, rfl, h1, X.c_Family, X.n_Family_names, rfl, fa, d, na, wb, na, Vs, T, T, ends, rfl, hf, hf.names, ok.rT, (fun x hx => hx), fun H1 f1 => ?_⟩
    refine ⟨_, rfl, rfl, _, rfl, ?_⟩
    rw [dec_int]
    by_cases e0 : BfM.rk ends Vs T = 0
    · rw [show (((BfM.rk ends Vs T : Nat) : Int) == 0) = true by simp [e0]]
      exact iteT (kN e0 _ f1)
    · rw [show (((BfM.rk ends Vs T : Nat) : Int) == 0) = false by rw [beq_eq_false_iff_ne]; omega]
      refine iteF ⟨small_le (by simp), fun la hla => ?_⟩
      have rT8 : BfM.rk ends Vs T ≤ 8 := Nat.le_trans (BfM.rk_le_len ok.web T) ok.few
      have T8 := ok.few
      refine ⟨fun m σ H' => ∃ (S : List Str) (la : Addr) (u3 u4 u5 u6 u7 u8 u9 : Option V), m = mu (BfM.rk ends Vs T - BfM.rk ends Vs S) (T.length - S.length) ∧ σ = [some (.ref fa), some (.int (BfM.rk ends Vs T : Nat)), some (.ref la), u3, u4, u5, u6, u7, u8, u9] ∧ Fk K fa d na wb Vs T ends H H' ∧ H' la = some (.lst (S.map V.str)) ∧ Rising S ∧ (∀ t, t ∈ S → t ∈ T) ∧ BfM.rk ends Vs S < BfM.rk ends Vs T,
        ⟨_, [], la, none, none, none, none, none, none, none, rfl, rfl, f1.then_ (Same.new hla), upd_same, .nil, (fun t ht => by cases ht), by rw [BfM.rk_nil]; omega⟩, fun m σ H' w' => ?_⟩
      obtain ⟨S, la, u3, u4, u5, u6, u7, u8, u9, rfl, rfl, f, hl, rS, sS, les⟩ := w'
      have lS : S.length ≤ T.length := BfM.nodup_len rS.nodup sS
      have rr := rk_rest ok.web rS.nodup ok.rT.nodup sS
      refine ⟨true, rfl, iteT ⟨fun σ' H'' => ∃ m2, m2 < mu (BfM.rk ends Vs T - BfM.rk ends Vs S) (T.length - S.length) ∧ _, fun _ _ h => h, ?_⟩⟩
      refine ⟨_, rfl, _, rfl, fa, d, na, wb, la, Vs, T, S, ends, rfl, f.fam, hl, rS, sS, fun H2 r0 f3 hr0 => ?_⟩
      have en1 : ((T.length : Nat) : Int) - (S.length : Nat) = ((T.length - S.length : Nat) : Int) := by omega
      have en2 : ((BfM.rk ends Vs T : Nat) : Int) - (BfM.rk ends Vs S : Nat) = ((BfM.rk ends Vs T - BfM.rk ends Vs S : Nat) : Int) := by omega
      rw [en1, en2] at hr0
      have pl0 : 0 < BfM.rk ends Vs T - BfM.rk ends Vs S := by omega
      have pl1 : 0 < T.length - S.length := by omega
      have gp : 0 < Nat.gcd (T.length - S.length) (BfM.rk ends Vs T - BfM.rk ends Vs S) := Nat.gcd_pos_of_pos_right _ pl0
      have gl : Nat.gcd (T.length - S.length) (BfM.rk ends Vs T - BfM.rk ends Vs S) ≤ 8 := Nat.le_trans (Nat.le_of_dvd pl1 (Nat.gcd_dvd_left ..)) (by omega)
      refine ⟨r0, _, rfl, SqT.of hr0, rfl, _, _, rfl, _, _, rfl, rfl, ?_⟩
      refine ⟨_, rfl, _, rfl, T.length - S.length, BfM.rk ends Vs T - BfM.rk ends Vs S, rfl, gp, by omega, fun H3 r s3 hr hr3 => ?_⟩
      refine ⟨r, _, rfl, SqT.of hr3, rfl, _, _, rfl, _, _, rfl, rfl, ?_⟩
      have f4 := f.trans f3
      have hl2 := f3.at hl
      have hp8 := low_pos (a := T.length - S.length) (b := BfM.rk ends Vs T - BfM.rk ends Vs S) pl1
      have hq8 := low_pos2 (a := T.length - S.length) (b := BfM.rk ends Vs T - BfM.rk ends Vs S) pl0
      have le := low_eq (T.length - S.length) (BfM.rk ends Vs T - BfM.rk ends Vs S)
      have l1 := low_one gp
      have ll := fun x y => low_lt2 (x := x) (y := y) gp
      revert hp8 hq8 le l1 ll
      generalize (T.length - S.length) / Nat.gcd (T.length - S.length) (BfM.rk ends Vs T - BfM.rk ends Vs S) = p
      generalize (BfM.rk ends Vs T - BfM.rk ends Vs S) / Nat.gcd (T.length - S.length) (BfM.rk ends Vs T - BfM.rk ends Vs S) = q
      intro hp8 hq8 le l1 ll
      have f5 := f4.then_ s3
      have hl3 := s3 _ _ hl2
      refine ⟨_, rfl, small_le (by simp), fun a1 ha1 => ⟨_, rfl, a1, (p : Int), [.ref fa], rfl, rfl, upd_same, by omega, by omega, ?_, fun fl hfl => ?_⟩⟩
      · simp only [List.length_singleton, Nat.one_mul, Int.toNat_natCast]; exact small_le (by omega)
      have t1 : Same H3 (upd H3 a1 (.lst [V.ref fa])) := Same.new ha1
      have t2 := t1.put (o := .lst (List.replicate ((p : Nat) : Int).toNat [V.ref fa]).flatten) (t1.free hfl)
      have hfl2 : (upd (upd H3 a1 (.lst [V.ref fa])) fl (.lst (List.replicate ((p : Nat) : Int).toNat [V.ref fa]).flatten)) fl = some (.lst (List.replicate p (.ref fa))) := by rw [upd_same, rep_flat, Int.toNat_natCast]
      have f6 := f5.then_ t2
      refine ⟨_, rfl, fa, _, dx, _, _, rfl, f6.at h1, X.c_Family, X.n_Family_names, rfl, _, rfl, na, T, q, rfl, f6.fam.names, Nat.le_trans ok.few (by decide), by omega, fun H4 ul qs s4 hul hqs eqs => ?_⟩
      have f7 := f6.then_ s4
      have hl4 := s4 _ _ (t2 _ _ hl3)
      refine ⟨fa, d, na, wb, fl, ul, Vs, T, ends, p, q, qs, rfl, f7.fam, s4 _ _ hfl2, hul, hqs, eqs, by omega, by omega, fun H5 r5 ta fo ts ls pl lf S5 f8 hr5 told hfo rS5 sS5 len pt pm cnt => ?_⟩
      have f9 := f7.trans f8
      refine ⟨r5, _, rfl, SqT.of hr5, rfl, _, _, rfl, _, _, rfl, _, _, rfl, rfl, ?_⟩
      refine ⟨_, rfl, _, rfl, _, rfl, (p : Int), _, rfl, rfl, .inl ⟨by omega, by omega⟩, rfl, _, rfl, ?_⟩
      rw [dec_int]
      by_cases e : pl.length = p * BfM.rk ends Vs T
      · rw [show (((pl.length : Nat) : Int) == (p : Int) * (BfM.rk ends Vs T : Nat)) = true by rw [beq_iff_eq, e]; exact Int.natCast_mul _ _]
        refine iteT ⟨_, rfl, _, rfl, _, rfl, _, rfl, small_le (by simp), fun r6 hr6 => ?_⟩
        refine kS _ r6 la ta p q S ts ls pl lf (f9.put (f9.free hr6)) upd_same ((Same.new hr6) _ _ (f8.at hl4)) ?_ ⟨rS, sS, les, le, l1, hp8.1, by omega, hq8.1, by omega, len, pt, pm, e⟩
        obtain ⟨t1, t2, t3⟩ := told
        refine ⟨(Same.new hr6) _ _ t1, t2, fun i z hz => ?_⟩
        obtain ⟨t, m1, m2, m3, m4⟩ := t3 i z hz
        exact ⟨t, m1, m2, m3, (Same.new hr6) _ _ m4⟩
      · rw [show (((pl.length : Nat) : Int) == (p : Int) * (BfM.rk ends Vs T : Nat)) = false by
          rw [beq_eq_false_iff_ne, ← Int.natCast_mul]
          intro z; exact e (Int.ofNat.inj z)]
        refine iteF ⟨_, rfl, ?_⟩
        have mle := BfM.most_le ok.web pt fun u hu => (BfM.mem_copies.mp (pm.mem_iff.mp (List.mem_append_left lf hu))).1
        have lS5 : S5.length ≤ T.length := BfM.nodup_len rS5.nodup sS5
        have rr5 := rk_rest ok.web rS5.nodup ok.rT.nodup sS5
        have mono := BfM.rk_mono (X := S5) (Y := T) ok.web sS5
        have lt5 : pl.length < p * BfM.rk ends Vs T := by omega
        have d1 : q * (T.length - S5.length) + q * S5.length = q * T.length := by rw [← Nat.mul_add]; congr 1; omega
        have d2 : p * (BfM.rk ends Vs T - BfM.rk ends Vs S5) + p * BfM.rk ends Vs S5 = p * BfM.rk ends Vs T := by rw [← Nat.mul_add]; congr 1; omega
        have key : q * (T.length - S5.length) < p * (BfM.rk ends Vs T - BfM.rk ends Vs S5) := by omega
        have les5 : BfM.rk ends Vs S5 < BfM.rk ends Vs T := by
          rcases Nat.lt_or_ge (BfM.rk ends Vs S5) (BfM.rk ends Vs T) with h | h
          · exact h
          · rw [Nat.sub_eq_zero_of_le h, Nat.mul_zero] at key
            omega
        exact ⟨_, mu_lt (by omega) (by omega) (by omega) (ll _ _ key), S5, fo, _, _, _, _, _, _, _, rfl, rfl, f9, hfo, rS5, sS5, les5⟩
end
end Bf
namespace Bf
open PySem PySem.Spec PyProof.Rows L2
section
variable {K : PySem.W.Frag} {Vs T : List Str} {ends : Str → Str × Str} {H : Hp} {ls : List QL} {ta : Addr} {ts : List (Addr × List Str)} {p : Nat} {pl : List Un_}
theorem told_at (h : Told H ls ta ts) {t : Addr × List Str} (ht : t ∈ ts) : ∃ z, z ∈ ls ∧ Rising t.2 ∧ t.2.Perm ((uns z.2).map (·.1)) ∧ H t.1 = some (.lst (t.2.map V.str)) := by
  obtain ⟨h1, h2, h3⟩ := h
  obtain ⟨i, hi, e⟩ := List.mem_iff_getElem.mp ht
  have hz : ls[i]? = some (ls[i]'(by omega)) := List.getElem?_eq_getElem _
  obtain ⟨t', m1, m2, m3, m4⟩ := h3 i _ hz
  have : t' = t := by
    rw [List.getElem?_eq_getElem hi, e] at m1
    exact (Option.some.inj m1).symm
  subst this
  exact ⟨_, List.mem_of_getElem? hz, m2, m3, m4⟩
theorem told_lls (h : Told H ls ta ts) : LLs H ta ts := ⟨h.1, fun t ht => let ⟨_, _, _, _, e⟩ := told_at h ht; e⟩
theorem told_free (h : Told H ls ta ts) (ok : WebOk Vs T ends) (pt : BfM.Parts ends p (unsL ls) pl) (inT : ∀ v, v ∈ pl → v.1 ∈ T) {t : Addr × List Str} (ht : t ∈ ts) : Rising t.2 ∧ (∀ x, x ∈ t.2 → x ∈ T) ∧ BfM.rk ends Vs t.2 = t.2.length ∧ ∃ l, l ∈ unsL ls ∧ t.2.length = l.length := by
  obtain ⟨z, hz, r, pm, _⟩ := told_at h ht
  have m : uns z.2 ∈ unsL ls := List.mem_map_of_mem hz
  have lo : LotOk T ends (uns z.2) := ⟨pt.ndL _ m, pt.free _ m, fun v hv => inT v (pt.perm.mem_iff.mp (List.mem_flatten.mpr ⟨_, m, hv⟩))⟩
  refine ⟨r, fun x hx => ?_, BfM.rk_ind ok.web r.nodup (ind_congr (fun x => (pm.mem_iff).symm) (BfM.things_ind lo.free)), uns z.2, m, by rw [pm.length_eq, List.length_map]⟩
  obtain ⟨v, hv, e⟩ := List.mem_map.mp (pm.mem_iff.mp hx)
  exact e ▸ lo.sub v hv
theorem count_map {α β : Type} {f : α → Bool} {g : β → Bool} : ∀ {l : List α} {m : List β}, l.map f = m.map g → l.countP f = m.countP g
  | [], [], _ => rfl
  | [], _ :: _, h => by simp at h
  | _ :: _, [], h => by simp at h
  | a :: l, b :: m, h => by
    simp only [List.map_cons, List.cons.injEq] at h
    rw [List.countP_cons, List.countP_cons, count_map h.2, h.1]
theorem told_times (h : Told H ls ta ts) (pt : BfM.Parts ends p (unsL ls) pl) (x : Str) : (ts.countP fun t => decide (x ∈ t.2)) = pl.countP fun u => decide (u.1 = x) := by
  rw [← BfM.times_count pt x]
  refine count_map (List.ext_getElem? fun i => ?_)
  obtain ⟨h1, h2, h3⟩ := h
  rw [List.getElem?_map, List.getElem?_map]
  cases e : ls[i]? with
  | none =>
    have e1 : ts[i]? = none := by rw [List.getElem?_eq_none_iff] at e ⊢; omega
    have e2 : (unsL ls)[i]? = none := by rw [List.getElem?_map, e]; rfl
    rw [e1, e2]; rfl
  | some z =>
    obtain ⟨t, m1, _, m3, _⟩ := h3 i z e
    rw [m1, uns_at e]
    show some (decide (x ∈ t.2)) = some (decide (x ∈ (uns z.2).map (·.1)))
    rw [decide_eq_decide.mpr m3.mem_iff]
end
section
variable {P : Program} {w : World} {K : PySem.W.Frag} {mg : Str → Option Value} {base : Heap}
theorem sc_isll : FnScope ["thing", "many", "lot", "item"] ["thing", "many"] (defScope s_is_list_of_lists) := ⟨rfl, rfl, rfl, by decide +kernel, rfl, by decide +kernel, by decide +kernel⟩
def sp_isll : Sp := fun vs H Q _ => ∃ (ta : Addr) (ts : List (Addr × List Str)), vs = [.ref ta, .int (ts.length : Nat)] ∧ LLs H ta ts ∧ ts.length ≤ 100 ∧ (∀ t, t ∈ ts → t.2.length ≤ 100) ∧ ∀ H', Same H H' → Q (.bl true) H'
theorem has_isll (X : Txt K mg) (N : Fns K) : Has P w K mg base (He.ga K "is_list_of_lists") 1 ["thing", "many"] sp_isll := by
  refine has_mk N.f_is_list_of_lists sc_isll (fun vs H Q E h => ?_) (fun _ _ _ _ _ _ us hl => match us, hl with | [_, _], _ => rfl) (fun cdv A outer s H vs Q E hr h => ?_)
  · obtain ⟨ta, ts, rfl, _⟩ := h; rfl
  · obtain ⟨ta, ts, rfl, ⟨h1, h2⟩, l1, l2, k⟩ := h
    refine ⟨_, pss_cons (ps_if (PW.pt (pw_or (pt_not (pt_val (pe_isi "list" X.f_isinstance X.f_list (pv 0)))) (pw_or (pt_cmpR op_ne (pe_b1 call_len_seq X.f_len (pv 0)) (pv 1) (by rfl)) (pw_or1 (pt_not (pt_val (pe_b1 (cr_all rfl) X.f_all (pe_lc (own := [("lot", 2)]) (g := gName 2) (tt := tYes) (te := tCB (rIsi K) (tCons (tVar 2) (tCons (tC (.ty "list")) tNil))) rfl sc_isll.nd (pi_list (pv 0)) (blkOk_by (N := ["thing", "many", "lot", "item"]) (sc := defScope s_is_list_of_lists) (by decide +kernel)) (fun _ _ _ _ _ => pg_name (i := 2) sc_isll.nd rfl (Or.inl rfl)) (fun _ _ _ _ _ => pts_nil) (fun _ _ _ _ _ => pe_isi "list" X.f_isinstance X.f_list (pv 2)))))))))) pss_never pss_nil)
      (pss_one (ps_ret (pe_b1 (cr_all rfl) X.f_all (pe_lc2 (own := [("lot", 2), ("item", 3)]) (vs1 := [3]) (g := gName 2) (g1 := gName 3) (tt := tYes) (tt1 := tYes) (wi1 := iList K (tVar 2)) (te := tCB (rIsi K) (tCons (tVar 3) (tCons (tC (.ty "str")) tNil))) rfl sc_isll.nd (pi_list (pv 0)) (blkOk_by (N := ["thing", "many", "lot", "item"]) (sc := defScope s_is_list_of_lists) (by decide +kernel)) (by decide) (fun _ _ _ _ _ => pg_name (i := 2) sc_isll.nd rfl (Or.inl rfl)) (fun _ _ _ _ _ => pts_nil) (fun _ _ _ _ _ => pi_list (pv 2)) (fun _ _ _ _ _ => pg_name (i := 3) sc_isll.nd rfl (Or.inl rfl)) (fun _ _ _ _ _ => pts_nil) (fun _ _ _ _ _ => pe_isi "str" X.f_isinstance X.f_str (pv 3)))))), ?_⟩
    refine ⟨_, rfl, .ref ta, .ty "list", .type "list", .type "list", true, rfl, ClsV.ty _, .base (.lst h1), kit_ty (by decide +kernel), true, rfl, iteF ?_⟩
    refine ⟨_, rfl, ta, _, rfl, .inl (SqL.of h1), _, rfl, rfl, _, rfl, ?_⟩
    rw [dec_int, List.length_map, show (!(((ts.length : Nat) : Int) == (ts.length : Nat))) = false by simp]
    refine iteF ⟨_, rfl, ta, rfl, ⟨_, SqL.of h1⟩, fun D hD => ?_⟩
    refine lc_pure (as := ts) (f := fun t => V.ref t.1) (p := fun _ => true) (out := fun _ => V.bl true) row_list hD (fun _ q => q.seq (SqL.of h1)) (small_line (by omega)) (fun t H' ht q Kt Kf k1 k2 => ?_) fun H' q hL => ?_
    · exact ⟨rfl, _, rfl, .ref t.1, .ty "list", .type "list", .type "list", true, rfl, ClsV.ty _, .base (.lst (q _ _ (h2 t ht))), kit_ty (by decide +kernel), k1 rfl _ (Same.refl _)⟩
    · refine ⟨D, ts.map fun _ => true, rfl, SqL.of (by rw [hL, List.filter_eq_self.mpr (by simp)]; simp [List.map_map]), ?_⟩
      rw [show ((ts.map fun _ => true).all id) = true by simp]
      refine ⟨true, rfl, iteF ?_⟩
      refine ⟨_, rfl, ta, rfl, ⟨_, SqL.of (q _ _ h1)⟩, fun D2 hD2 => ?_⟩
      let I : Nat → Hp → Prop := fun n H3 => Same H' H3 ∧ ∃ m, m ≤ n ∧ H3 D2 = some (.lst ((List.replicate m true).map V.bl))
      refine ⟨fun i m H3 => i ≤ ts.length ∧ m = ts.length - i ∧ I (i * 100) H3, ⟨ts.length, Nat.zero_le _, rfl, Same.new hD2, 0, Nat.zero_le _, upd_same⟩, fun i m H3 w' => ?_⟩
      obtain ⟨hi, rfl, sm, n, hn, hd⟩ := w'
      by_cases e : i = ts.length
      · refine .inl ⟨⟨_, SqL.of (sm _ _ (q _ _ h1)), by rw [List.length_map]; omega⟩, D2, List.replicate n true, rfl, SqL.of hd, ?_⟩
        rw [show ((List.replicate n true).all id) = true by simp]
        exact k _ (q.trans sm)
      · have hlt : i < ts.length := by omega
        have ht : ts[i]? = some ts[i] := List.getElem?_eq_getElem hlt
        have hm := List.getElem_mem hlt
        refine .inr ⟨⟨_, .ref ts[i].1, SqL.of (sm _ _ (q _ _ h1)), by rw [List.getElem?_map, ht]; rfl⟩, fun H4 => i + 1 ≤ ts.length ∧ I ((i + 1) * 100) H4, fun H4 n => ⟨_, by omega, n.1, rfl, n.2⟩, fun x H4 y => ?_⟩
        obtain ⟨rfl, hx⟩ := y
        have hx := hx _ (SqL.of (sm _ _ (q _ _ h1)))
        rw [List.getElem?_map, ht] at hx
        cases hx
        have hl := q _ _ (h2 _ hm)
        have l3 := l2 _ hm
        refine ⟨rfl, _, rfl, ts[i].1, rfl, ⟨_, SqL.of (sm _ _ hl)⟩, fun j k H5 => j ≤ ts[i].2.length ∧ k = ts[i].2.length - j ∧ I (i * 100 + j) H5, ⟨_, Nat.zero_le _, rfl, sm, n, hn, hd⟩, fun j k' H5 w' => ?_⟩
        obtain ⟨hj, rfl, sm5, n5, hn5, hd5⟩ := w'
        by_cases e2 : j = ts[i].2.length
        · exact .inl ⟨⟨_, SqL.of (sm5 _ _ hl), by rw [List.length_map]; omega⟩, hlt, sm5, n5, by omega, hd5⟩
        · have hjl : j < ts[i].2.length := by omega
          have hy : ts[i].2[j]? = some ts[i].2[j] := List.getElem?_eq_getElem hjl
          refine .inr ⟨⟨_, .str ts[i].2[j], SqL.of (sm5 _ _ hl), by rw [List.getElem?_map, hy]; rfl⟩, fun H6 => j + 1 ≤ ts[i].2.length ∧ I (i * 100 + (j + 1)) H6, fun H6 n => ⟨_, by omega, n.1, rfl, n.2⟩, fun x H6 y => ?_⟩
          obtain ⟨rfl, hx⟩ := y
          have hx := hx _ (SqL.of (sm5 _ _ hl))
          rw [List.getElem?_map, hy] at hx
          cases hx
          refine ⟨rfl, _, rfl, .str _, .ty "str", .type "str", .type "str", true, rfl, ClsV.ty _, .base (.str _), kit_ty (by decide +kernel), _, hd5, ?_, hjl, sm5.put hD2, n5 + 1, by omega, ?_⟩
          · rw [List.length_map, List.length_replicate]
            exact small_line (by omega)
          · rw [upd_same]
            refine congrArg _ (congrArg _ ?_)
            rw [show [V.bl true] = [true].map V.bl from rfl, ← List.map_append, ← List.replicate_succ']
theorem sc_iff : FnScope ["thing", "p", "q", "lot", "lots", "number"] ["thing"] (defScope s_is_fraction_form) := ⟨rfl, rfl, rfl, by decide +kernel, rfl, by decide +kernel, by decide +kernel⟩
def sp_iff : Sp := fun vs H Q _ => ∃ (r la ta : Addr) (p q : Nat) (S : List Str) (ts : List (Addr × List Str)), vs = [.ref r] ∧ H r = some (.tup [.int (p : Nat), .int (q : Nat), .ref la, .ref ta]) ∧ H la = some (.lst (S.map V.str)) ∧ LLs H ta ts ∧ ts.length = p ∧ 1 ≤ p ∧ p ≤ 24 ∧ 1 ≤ q ∧ q ≤ 24 ∧ Nat.gcd p q = 1 ∧ S.length ≤ 100 ∧ (∀ t, t ∈ ts → t.2.length ≤ 100) ∧ ∀ H', Same H H' → Q (.bl true) H'
theorem has_iff (X : Txt K mg) (N : Fns K) : Has P w K mg base (He.ga K "is_fraction_form") 2 ["thing"] sp_iff := by
  refine has_mk N.f_is_fraction_form sc_iff (fun vs H Q E h => ?_) (fun _ _ _ _ _ _ us hl => match us, hl with | [_], _ => rfl) (fun cdv A outer s H vs Q E hr h => ?_)
  · obtain ⟨r, la, ta, p, q, S, ts, rfl, _⟩ := h; rfl
  · obtain ⟨r, la, ta, p, q, S, ts, rfl, h1, h2, h3, len, p1, p2, q1, q2, g1, lS, lt, k⟩ := h
    obtain ⟨t1, e1⟩ := X.i_MOST_LOTS
    refine ⟨_, pss_cons (ps_if (PW.pt (pw_or (pt_not (pt_val (pe_isi "tuple" X.f_isinstance X.f_tuple (pv 0)))) (pw_or1 (pt_cmpR op_ne (pe_b1 call_len_seq X.f_len (pv 0)) pe_int (by rfl))))) pss_never pss_nil)
      (pss_cons (ps_asg (pv 0) (pg_tup rfl (pgs_cons (pg_name (i := 1) sc_iff.nd rfl (Or.inl rfl)) (pgs_cons (pg_name (i := 2) sc_iff.nd rfl (Or.inl rfl)) (pgs_cons (pg_name (i := 3) sc_iff.nd rfl (Or.inl rfl)) (pgs_cons (pg_name (i := 4) sc_iff.nd rfl (Or.inl rfl)) pgs_nil))))))
      (pss_cons (ps_if (pt_not (pt_val (pe_b1 (cr_all rfl) X.f_all (pe_lc (own := [("number", 5)]) (g := gName 5) (tt := tYes) (te := tAndV (tCa sp_is_integer (tCons (tVar 5) tNil)) (tChain (rI0 fun i j => .bl (decide (i ≤ j))) (rI0 fun i j => .bl (decide (i ≤ j))) (tC (.int 1)) (tVar 5) (tC (.int 24)))) rfl sc_iff.nd (pi_tup (pe_tup (pa_cons (pv 1) (pa_cons (pv 2) pa_nil)))) (blkOk_by (N := ["thing", "p", "q", "lot", "lots", "number"]) (sc := defScope s_is_fraction_form) (by decide +kernel)) (fun _ _ _ _ _ => pg_name (i := 5) sc_iff.nd rfl (Or.inl rfl)) (fun _ _ _ _ _ => pts_nil) (fun _ _ _ _ _ => pe_and (pe_ca (has_is_integer X N) X.g_is_integer hr (pa_cons (pv 5) pa_nil)) (pe_one (pe_chain op_le op_le pe_int (pv 5) (pe_glob (v := .int 24) (by rfl) e1 ⟨t1, rfl⟩)))))))) pss_never pss_nil)
      (pss_one (ps_ret (pe_and (pe_cmpR op_eq (pe_ca (has_common_divisor X N) X.g_common_divisor hr (pa_cons (pv 1) (pa_cons (pv 2) pa_nil))) pe_int (by rfl)) (pe_and (pe_ca (has_isll X N) X.g_is_list_of_lists hr (pa_cons (pe_lst (pa_cons (pv 3) pa_nil)) (pa_cons pe_int pa_nil))) (pe_one (pe_ca (has_isll X N) X.g_is_list_of_lists hr (pa_cons (pv 4) (pa_cons (pv 1) pa_nil)))))))))), ?_⟩
    refine ⟨_, rfl, .ref r, .ty "tuple", .type "tuple", .type "tuple", true, rfl, ClsV.ty _, .base (.tup h1), kit_ty (by decide +kernel), true, rfl, iteF ?_⟩
    refine ⟨_, rfl, r, _, rfl, .inr (SqT.of h1), rfl, _, rfl, iteF ?_⟩
    refine ⟨_, rfl, r, _, rfl, SqT.of h1, rfl, _, _, rfl, _, _, rfl, _, _, rfl, _, _, rfl, rfl, ?_⟩
    refine ⟨_, rfl, _, rfl, small_le (by simp), fun c hc => ⟨c, rfl, ⟨_, SqT.of upd_same⟩, fun D hD => ?_⟩⟩
    have s1 : Same H (upd H c (.tup [.int (p : Nat), .int (q : Nat)])) := Same.new hc
    refine lc_pure (as := [p, q]) (f := fun n : Nat => V.int (n : Nat)) (p := fun _ => true) (out := fun _ => V.bl true) row_tup hD (fun _ q => SqT.of (q _ _ upd_same)) (small_line (by simp)) (fun n H' hn q' Kt Kf k1 k2 => ?_) fun H' q' hL => ?_
    · have nb : 1 ≤ n ∧ n ≤ 24 := by
        rcases List.mem_cons.mp hn with e | e
        · subst e; exact ⟨p1, p2⟩
        · rw [List.mem_singleton.mp e]; exact ⟨q1, q2⟩
      refine ⟨rfl, _, rfl, (n : Int), rfl, true, rfl, iteT ?_⟩
      refine ⟨_, rfl, 1, (n : Int), rfl, rfl, _, rfl, ?_⟩
      rw [show decide ((1 : Int) ≤ (n : Nat)) = true by rw [decide_eq_true_iff]; omega]
      refine iteT ⟨(n : Int), 24, rfl, rfl, ?_⟩
      show Kt (V.bl (decide (((n : Nat) : Int) ≤ 24))) H'
      rw [show decide (((n : Nat) : Int) ≤ 24) = true by rw [decide_eq_true_iff]; omega]
      exact k1 rfl _ (Same.refl _)
    · refine ⟨D, [true, true], rfl, SqL.of hL, true, rfl, iteF ?_⟩
      refine ⟨_, rfl, _, rfl, p, q, rfl, rfl, true, ?_, iteT ?_⟩
      · rw [g1]; rfl
      have s2 := s1.trans q'
      refine ⟨_, rfl, small_le (by simp), fun a ha => ⟨a, [(la, S)], rfl, ⟨upd_same, fun t ht => ?_⟩, by simp, fun t ht => ?_, fun H4 s4 => ⟨true, rfl, iteT ?_⟩⟩⟩
      · rw [List.mem_singleton.mp ht]; exact (Same.new ha) _ _ (s2 _ _ h2)
      · rw [List.mem_singleton.mp ht]; exact lS
      · have s5 := (s2.put (o := .lst [.ref la]) (s2.free ha)).trans s4
        refine ⟨_, rfl, _, rfl, ta, ts, by rw [len], h3.same s5, by omega, lt, fun H6 s6 => k _ (s5.trans s6)⟩
end
end Bf
namespace Bf
open PySem PySem.Spec PyProof.Rows L2
theorem LLs.fk {K : PySem.W.Frag} {fa d na wb : Addr} {Vs T : List Str} {ends : Str → Str × Str} {H H1 : Hp} {ta : Addr} {ts : List (Addr × List Str)} (h : LLs H ta ts) (f : Fk K fa d na wb Vs T ends H H1) : LLs H1 ta ts := ⟨f.at h.1, fun t ht => f.at (h.2 t ht)⟩
section
variable {P : Program} {w : World} {K : PySem.W.Frag} {mg : Str → Option Value} {base : Heap}
theorem sc_lot_fault : FnScope ["family", "lots", "word", "index", "lot", "rank"] ["family", "lots", "word"] (defScope s_lot_fault) := ⟨rfl, rfl, rfl, by decide +kernel, rfl, by decide +kernel, by decide +kernel⟩
def sp_lot_fault (K : PySem.W.Frag) : Sp := fun vs H Q _ => ∃ (fa d na wb ta : Addr) (Vs T : List Str) (ends : Str → Str × Str) (ts : List (Addr × List Str)) (word : Str), vs = [.ref fa, .ref ta, .str word] ∧ Fam K fa d na wb Vs T ends H ∧ LLs H ta ts ∧ ts.length ≤ 1000 ∧
  (∀ t, t ∈ ts → Rising t.2 ∧ (∀ x, x ∈ t.2 → x ∈ T) ∧ BfM.rk ends Vs t.2 = t.2.length ∧ (word = ("base" : Str) → BfM.rk ends Vs t.2 = BfM.rk ends Vs T)) ∧ ∀ H', Fk K fa d na wb Vs T ends H H' → Q .non H'
theorem has_lot_fault (X : Txt K mg) (N : Fns K) : Has P w K mg base (He.ga K "lot_fault") 4 ["family", "lots", "word"] (sp_lot_fault K) := by
  refine has_mk N.f_lot_fault sc_lot_fault (fun vs H Q E h => ?_) (fun _ _ _ _ _ _ us hl => match us, hl with | [_, _, _], _ => rfl) (fun cdv A outer s H vs Q E hr h => ?_)
  · obtain ⟨fa, d, na, wb, ta, Vs, T, ends, ts, word, rfl, _⟩ := h; rfl
  · obtain ⟨fa, d, na, wb, ta, Vs, T, ends, ts, word, rfl, hf, hts, lt, good, k⟩ := h
    have ok := hf.ok
    refine ⟨_, pss_cons (ps_for PassesOwn.never rfl (pi_enum (by rfl) X.f_enumerate (pa_cons (pv 1) pa_nil)) (pg_tup rfl (pgs_cons (pg_name (i := 3) sc_lot_fault.nd rfl (Or.inl rfl)) (pgs_cons (pg_name (i := 4) sc_lot_fault.nd rfl (Or.inl rfl)) pgs_nil)))
        (pss_one (ps_if (pt_not (pt_val (pe_ca (has_is_lot X N) X.g_is_lot hr (pa_cons (pe_fld (pv 0) (by rfl)) (pa_cons (pv 4) pa_nil))))) pss_never pss_nil)))
      (pss_cons (ps_for PassesOwn.never rfl (pi_enum (by rfl) X.f_enumerate (pa_cons (pv 1) pa_nil)) (pg_tup rfl (pgs_cons (pg_name (i := 3) sc_lot_fault.nd rfl (Or.inl rfl)) (pgs_cons (pg_name (i := 4) sc_lot_fault.nd rfl (Or.inl rfl)) pgs_nil)))
        (pss_cons (ps_set (i := 5) sc_lot_fault.nd rfl (Or.inl rfl) (pe_me (pv 0) (has_rank X N) X.c_Family X.m_Family_rank_of hr (pa_cons (pe_t1 call_tuple_of X.f_tuple (pe_b1 cr_sortedS X.f_sorted (pv 4))) pa_nil)))
        (pss_one (ps_if (PW.pt (pw_or (pt_cmpR op_lt (pv 5) (pe_b1 call_len_seq X.f_len (pv 4)) (by rfl)) (pw_or1 (PW.pt (pw_and (pt_cmpR op_eq (pv 2) pe_str (by rfl)) (pw_and1 (pt_cmpR op_lt (pv 5) (pe_me (pv 0) (has_rank X N) X.c_Family X.m_Family_rank_of hr (pa_cons (pe_fld (pv 0) (by rfl)) pa_nil)) (by rfl)))))))) pss_never pss_nil))))
      (pss_one (ps_ret pe_non))), ?_⟩
    obtain ⟨dx, h1⟩ := hf.self
    have few : ∀ t, t ∈ ts → t.2.length ≤ 8 := fun t ht => Nat.le_trans (BfM.nodup_len (good t ht).1.nodup (good t ht).2.1) ok.few
    refine ⟨_, rfl, ta, _, rfl, SqL.of hts.1, ?_⟩
    refine for_enum (fun i σ H' => Fk K fa d na wb Vs T ends H H' ∧ ∃ u3 u4 u5, σ = [some (.ref fa), some (.ref ta), some (.str word), u3, u4, u5]) ⟨Fk.refl hf, none, none, none, rfl⟩ (fun i σ H' _ q => SqL.of (hts.fk q.1).1) (fun i x σ H' p hx q hp => ?_) (fun σ H' q => ?_)
    · obtain ⟨t, ht, rfl⟩ := get_map hx
      obtain ⟨f, u3, u4, u5, rfl⟩ := q
      have m := List.mem_of_getElem? ht
      obtain ⟨g1, g2, g3, g4⟩ := good t m
      have f1 := f.then_ (Same.new (o := .tup [.int (i : Nat), .ref t.1]) hp)
      refine ⟨_, rfl, fa, _, dx, _, _, rfl, f1.at h1, X.c_Family, X.n_Family_names, rfl, _, rfl, t.1, na, t.2, rfl, (hts.fk f1).2 t m, .inl ⟨T, f1.fam.names, g2⟩, g1.nodup, Nat.le_trans (few t m) (by decide), fun H2 s2 => ⟨true, rfl, iteF ⟨f1.then_ s2, _, _, _, rfl⟩⟩⟩
    · obtain ⟨f, u3, u4, u5, rfl⟩ := q
      refine ⟨_, rfl, ta, _, rfl, SqL.of (hts.fk f).1, ?_⟩
      refine for_enum (fun i σ H' => Fk K fa d na wb Vs T ends H H' ∧ ∃ u3 u4 u5, σ = [some (.ref fa), some (.ref ta), some (.str word), u3, u4, u5]) ⟨f, _, _, _, rfl⟩ (fun i σ H' _ q => SqL.of (hts.fk q.1).1) (fun i x σ H' p hx q hp => ?_) (fun σ H' q => ?_)
      · obtain ⟨t, ht, rfl⟩ := get_map hx
        obtain ⟨f, u3, u4, u5, rfl⟩ := q
        have m := List.mem_of_getElem? ht
        obtain ⟨g1, g2, g3, g4⟩ := good t m
        have f1 := f.then_ (Same.new (o := .tup [.int (i : Nat), .ref t.1]) hp)
        refine ⟨_, rfl, fa, dx, _, rfl, f1.at h1, rfl, _, rfl, t.1, t.2, rfl, SqL.of ((hts.fk f1).2 t m), Nat.lt_of_le_of_lt (few t m) (by decide), fun ys p2 pm so hp2 => ?_⟩
        obtain rfl := sorted_of_rising pm so g1
        refine ⟨p2, _, rfl, .inl ⟨SqL.of upd_same, fun q hq => ?_⟩⟩
        have f2 := (f1.then_ (Same.new (o := .lst (t.2.map V.str)) hp2)).then_ (Same.new (o := .tup (t.2.map V.str)) hq)
        refine ⟨fa, d, na, wb, q, Vs, T, t.2, ends, rfl, f2.fam, upd_same, g1, g2, fun H3 f3 => ?_⟩
        have f4 := f2.trans f3
        refine ⟨_, rfl, _, rfl, t.1, _, rfl, .inl (SqL.of ((hts.fk f4).2 t m)), _, _, rfl, rfl, _, rfl, ?_⟩
        rw [List.length_map, g3, show decide (((t.2.length : Nat) : Int) < (t.2.length : Nat)) = false by rw [decide_eq_false_iff_not]; omega]
        refine iteF ⟨_, rfl, rfl, _, rfl, ?_⟩
        by_cases e : word = ("base" : Str)
        · rw [show decide (V.str word = V.str "base") = true by rw [e]; exact decide_eq_true rfl]
          refine iteT ⟨_, rfl, _, rfl, fa, dx, _, rfl, f4.at h1, rfl, _, rfl, fa, _, dx, _, _, rfl, f4.at h1, X.c_Family, X.n_Family_names, rfl, fa, d, na, wb, na, Vs, T, T, ends, rfl, f4.fam, f4.fam.names, ok.rT, (fun x hx => hx), fun H5 f5 => ⟨_, _, rfl, rfl, _, rfl, ?_⟩⟩
          rw [← g4 e, g3, show decide (((t.2.length : Nat) : Int) < (t.2.length : Nat)) = false by rw [decide_eq_false_iff_not]; omega]
          exact iteF ⟨f4.trans f5, _, _, _, rfl⟩
        · rw [show decide (V.str word = V.str "base") = false by rw [decide_eq_false_iff_not]; intro z; exact e (by injection z)]
          exact iteF (iteF ⟨f4, _, _, _, rfl⟩)
      · obtain ⟨f, u3, u4, u5, rfl⟩ := q
        exact k _ f
theorem sc_tfault : FnScope ["family", "thing", "p", "q", "lot", "lots", "rank", "found", "name"] ["family", "thing"] (defScope s_thickness_fault) := ⟨rfl, rfl, rfl, by decide +kernel, rfl, by decide +kernel, by decide +kernel⟩
def sp_tfault (K : PySem.W.Frag) : Sp := fun vs H Q _ => ∃ (fa d na wb r la ta : Addr) (Vs T : List Str) (ends : Str → Str × Str) (p q : Nat) (S : List Str) (ts : List (Addr × List Str)) (ls : List QL) (pl : List Un_), vs = [.ref fa, .ref r] ∧ Fam K fa d na wb Vs T ends H ∧ H r = some (.tup [.int (p : Nat), .int (q : Nat), .ref la, .ref ta]) ∧ H la = some (.lst (S.map V.str)) ∧ Told H ls ta ts ∧
  ThickOk Vs T ends p q S ls pl ∧ ∀ H', Fk K fa d na wb Vs T ends H H' → Q .non H'
theorem has_tfault (X : Txt K mg) (N : Fns K) : Has P w K mg base (He.ga K "thickness_fault") 5 ["family", "thing"] (sp_tfault K) := by
  refine has_mk N.f_thickness_fault sc_tfault (fun vs H Q E h => ?_) (fun _ _ _ _ _ _ us hl => match us, hl with | [_, _], _ => rfl) (fun cdv A outer s H vs Q E hr h => ?_)
  · obtain ⟨fa, d, na, wb, r, la, ta, Vs, T, ends, p, q, S, ts, ls, pl, rfl, _⟩ := h; rfl
  · obtain ⟨fa, d, na, wb, r, la, ta, Vs, T, ends, p, q, S, ts, ls, pl, rfl, hf, h1, h2, h3, th, k⟩ := h
    have ok := hf.ok
    refine ⟨_, pss_cons (ps_if (pt_not (pt_val (pe_ca (has_iff X N) X.g_is_fraction_form hr (pa_cons (pv 1) pa_nil)))) pss_never pss_nil)
      (pss_cons (ps_asg (pv 1) (pg_tup rfl (pgs_cons (pg_name (i := 2) sc_tfault.nd rfl (Or.inl rfl)) (pgs_cons (pg_name (i := 3) sc_tfault.nd rfl (Or.inl rfl)) (pgs_cons (pg_name (i := 4) sc_tfault.nd rfl (Or.inl rfl)) (pgs_cons (pg_name (i := 5) sc_tfault.nd rfl (Or.inl rfl)) pgs_nil))))))
      (pss_cons (ps_if (pt_not (pt_val (pe_ca (has_is_lot X N) X.g_is_lot hr (pa_cons (pe_fld (pv 0) (by rfl)) (pa_cons (pv 4) pa_nil))))) pss_never pss_nil)
      (pss_cons (ps_set (i := 6) sc_tfault.nd rfl (Or.inl rfl) (pe_me (pv 0) (has_rank X N) X.c_Family X.m_Family_rank_of hr (pa_cons (pe_t1 call_tuple_of X.f_tuple (pe_b1 cr_sortedS X.f_sorted (pv 4))) pa_nil)))
      (pss_cons (ps_if (PW.pt (pw_or (pt_cmpR op_eq (pv 6) pe_int (by rfl)) (pw_or1 (pt_cmpR op_ne (pe_op op_mul (pe_b1 call_len_seq X.f_len (pv 4)) (pv 3)) (pe_op op_mul (pv 2) (pv 6)) (by rfl))))) pss_never pss_nil)
      (pss_cons (ps_set (i := 7) sc_tfault.nd rfl (Or.inl rfl) (pe_ca (has_lot_fault X N) X.g_lot_fault hr (pa_cons (pv 0) (pa_cons (pv 5) (pa_cons pe_str pa_nil)))))
      (pss_cons (ps_if (pt_cmpR op_notN (pv 7) pe_non (by rfl)) pss_never pss_nil)
      (pss_cons (ps_for PassesOwn.never rfl (pi_tup (pe_fld (pv 0) (by rfl))) (pg_name (i := 8) sc_tfault.nd rfl (Or.inl rfl)) (pss_one (ps_if (pt_cmpR op_ne (pe_ca (has_times_in X N) X.g_times_in hr (pa_cons (pv 5) (pa_cons (pv 8) pa_nil))) (pv 3) (by rfl)) pss_never pss_nil)))
      (pss_one (ps_ret pe_non))))))))), ?_⟩
    obtain ⟨dx, hfa⟩ := hf.self
    have inT : ∀ v, v ∈ pl → v.1 ∈ T := fun v hv => (BfM.mem_copies.mp (th.pm.mem_iff.mp hv)).1
    have lS : S.length ≤ 8 := Nat.le_trans (BfM.nodup_len th.rS.nodup th.sub) ok.few
    have free := fun t ht => told_free (t := t) h3 ok th.pt inT ht
    have lts : ts.length = p := by rw [h3.2.1, th.len]
    have p8 := th.p8
    have lt8 : ∀ t, t ∈ ts → t.2.length ≤ 8 := fun t ht => Nat.le_trans (BfM.nodup_len (free t ht).1.nodup (free t ht).2.1) ok.few
    refine ⟨_, rfl, r, la, ta, p, q, S, ts, rfl, h1, h2, told_lls h3, lts, th.p1, by omega, th.q1, by have := th.q8; omega, th.one, by omega, (fun t ht => Nat.le_trans (lt8 t ht) (by decide)), fun H2 s2 => ⟨true, rfl, iteF ?_⟩⟩
    have f2 := Fk.of hf s2
    refine ⟨_, rfl, r, _, rfl, SqT.of (s2 _ _ h1), rfl, _, _, rfl, _, _, rfl, _, _, rfl, _, _, rfl, rfl, ?_⟩
    refine ⟨_, rfl, fa, _, dx, _, _, rfl, f2.at hfa, X.c_Family, X.n_Family_names, rfl, _, rfl, la, na, S, rfl, s2 _ _ h2, .inl ⟨T, f2.fam.names, th.sub⟩, th.rS.nodup, by omega, fun H3 s3 => ⟨true, rfl, iteF ?_⟩⟩
    have f3 := f2.then_ s3
    refine ⟨_, rfl, fa, dx, _, rfl, f3.at hfa, rfl, _, rfl, la, S, rfl, SqL.of (f3.at h2), by omega, fun ys p2 pm so hp2 => ?_⟩
    obtain rfl := sorted_of_rising pm so th.rS
    refine ⟨p2, _, rfl, .inl ⟨SqL.of upd_same, fun tp htp => ?_⟩⟩
    have f4 := (f3.then_ (Same.new (o := .lst (ys.map V.str)) hp2)).then_ (Same.new (o := .tup (ys.map V.str)) htp)
    refine ⟨fa, d, na, wb, tp, Vs, T, ys, ends, rfl, f4.fam, upd_same, th.rS, th.sub, fun H5 f5 => ?_⟩
    have f6 := f4.trans f5
    have pos := th.pos
    refine ⟨_, rfl, rfl, _, rfl, ?_⟩
    rw [dec_int, show (((BfM.rk ends Vs ys : Nat) : Int) == 0) = false by rw [beq_eq_false_iff_ne]; omega]
    refine iteF ?_
    have q8 := th.q8
    refine ⟨_, rfl, la, _, rfl, .inl (SqL.of (f6.at h2)), _, rfl, _, _, rfl, rfl, .inr ⟨by omega, by omega⟩, ?_⟩
    refine ⟨_, rfl, _, rfl, _, _, rfl, rfl, .inl ⟨by omega, by omega⟩, rfl, _, rfl, ?_⟩
    rw [dec_int, List.length_map]
    have eqn : ((ys.length : Nat) : Int) * (q : Nat) = (p : Int) * (BfM.rk ends Vs ys : Nat) := by
      rw [← Int.natCast_mul, ← Int.natCast_mul, Nat.mul_comm, th.eq]
    rw [show (!(((ys.length : Nat) : Int) * (q : Nat) == (p : Int) * (BfM.rk ends Vs ys : Nat))) = false by rw [eqn]; simp]
    refine iteF ?_
    refine ⟨_, rfl, _, rfl, fa, d, na, wb, ta, Vs, T, ends, ts, "free", rfl, f6.fam, (told_lls h3).fk f6, by omega, fun t ht => ⟨(free t ht).1, (free t ht).2.1, (free t ht).2.2.1, fun e => absurd e (by decide)⟩, fun H7 f7 => ?_⟩
    have f8 := f6.trans f7
    refine ⟨_, rfl, rfl, _, rfl, iteF ?_⟩
    refine ⟨_, rfl, fa, _, dx, _, _, rfl, f8.at hfa, X.c_Family, X.n_Family_names, rfl, na, rfl, ⟨_, SqT.of f8.fam.names⟩, ?_⟩
    refine for_row row_tup (fun i σ H' => Fk K fa d na wb Vs T ends H H' ∧ ∃ u8, σ = [some (.ref fa), some (.ref r), some (.int (p : Nat)), some (.int (q : Nat)), some (.ref la), some (.ref ta), some (.int (BfM.rk ends Vs ys : Nat)), some .non, u8]) ⟨f8, none, rfl⟩ (fun i σ H' _ q => SqT.of q.1.fam.names) (fun i x σ H' hx w' => ?_) (fun σ H' w' => ?_)
    · obtain ⟨t, ht, rfl⟩ := get_map hx
      obtain ⟨f, u8, rfl⟩ := w'
      refine ⟨_, rfl, _, rfl, ta, ts, t, rfl, (told_lls h3).fk f, by omega, fun H9 s9 => ⟨_, rfl, rfl, _, rfl, ?_⟩⟩
      rw [told_times h3 th.pt t, BfM.times_all ok.rT.nodup th.pm (List.mem_of_getElem? ht), dec_int, show (!(((q : Nat) : Int) == (q : Nat))) = false by simp]
      exact iteF ⟨f.then_ s9, _, rfl⟩
    · obtain ⟨f, u8, rfl⟩ := w'
      exact k _ f
theorem sc_sfault : FnScope ["family", "thing", "p", "q", "lot", "lots", "rest", "lacks", "found", "name"] ["family", "thing"] (defScope s_strength_fault) := ⟨rfl, rfl, rfl, by decide +kernel, rfl, by decide +kernel, by decide +kernel⟩
def sp_sfault (K : PySem.W.Frag) : Sp := fun vs H Q _ => ∃ (fa d na wb r la ta : Addr) (Vs T : List Str) (ends : Str → Str × Str) (p q : Nat) (S : List Str) (ts : List (Addr × List Str)) (ls : List QL) (pl lf : List Un_), vs = [.ref fa, .ref r] ∧ Fam K fa d na wb Vs T ends H ∧ H r = some (.tup [.int (p : Nat), .int (q : Nat), .ref la, .ref ta]) ∧ H la = some (.lst (S.map V.str)) ∧ Told H ls ta ts ∧
  StrongOk Vs T ends p q S ls pl lf ∧ ∀ H', Fk K fa d na wb Vs T ends H H' → Q .non H'
theorem has_sfault (X : Txt K mg) (N : Fns K) : Has P w K mg base (He.ga K "strength_fault") 5 ["family", "thing"] (sp_sfault K) := by
  refine has_mk N.f_strength_fault sc_sfault (fun vs H Q E h => ?_) (fun _ _ _ _ _ _ us hl => match us, hl with | [_, _], _ => rfl) (fun cdv A outer s H vs Q E hr h => ?_)
  · obtain ⟨fa, d, na, wb, r, la, ta, Vs, T, ends, p, q, S, ts, ls, pl, lf, rfl, _⟩ := h; rfl
  · obtain ⟨fa, d, na, wb, r, la, ta, Vs, T, ends, p, q, S, ts, ls, pl, lf, rfl, hf, h1, h2, h3, th, k⟩ := h
    have ok := hf.ok
    refine ⟨_, pss_cons (ps_if (pt_not (pt_val (pe_ca (has_iff X N) X.g_is_fraction_form hr (pa_cons (pv 1) pa_nil)))) pss_never pss_nil)
      (pss_cons (ps_asg (pv 1) (pg_tup rfl (pgs_cons (pg_name (i := 2) sc_sfault.nd rfl (Or.inl rfl)) (pgs_cons (pg_name (i := 3) sc_sfault.nd rfl (Or.inl rfl)) (pgs_cons (pg_name (i := 4) sc_sfault.nd rfl (Or.inl rfl)) (pgs_cons (pg_name (i := 5) sc_sfault.nd rfl (Or.inl rfl)) pgs_nil))))))
      (pss_cons (ps_if (pt_not (pt_val (pe_ca (has_is_lot X N) X.g_is_lot hr (pa_cons (pe_fld (pv 0) (by rfl)) (pa_cons (pv 4) pa_nil))))) pss_never pss_nil)
      (pss_cons (ps_asg (pe_ca (has_missing X N) X.g_missing hr (pa_cons (pv 0) (pa_cons (pv 4) pa_nil))) (pg_tup rfl (pgs_cons (pg_name (i := 6) sc_sfault.nd rfl (Or.inl rfl)) (pgs_cons (pg_name (i := 7) sc_sfault.nd rfl (Or.inl rfl)) pgs_nil))))
      (pss_cons (ps_if (PW.pt (pw_or (pt_cmpR op_eq (pv 7) pe_int (by rfl)) (pw_or1 (pt_cmpR op_ne (pe_op op_mul (pv 6) (pv 3)) (pe_op op_mul (pv 2) (pv 7)) (by rfl))))) pss_never pss_nil)
      (pss_cons (ps_set (i := 8) sc_sfault.nd rfl (Or.inl rfl) (pe_ca (has_lot_fault X N) X.g_lot_fault hr (pa_cons (pv 0) (pa_cons (pv 5) (pa_cons pe_str pa_nil)))))
      (pss_cons (ps_if (pt_cmpR op_notN (pv 8) pe_non (by rfl)) pss_never pss_nil)
      (pss_cons (ps_for PassesOwn.never rfl (pi_tup (pe_fld (pv 0) (by rfl))) (pg_name (i := 9) sc_sfault.nd rfl (Or.inl rfl)) (pss_one (ps_if (pt_cmpR op_gt (pe_ca (has_times_in X N) X.g_times_in hr (pa_cons (pv 5) (pa_cons (pv 9) pa_nil))) (pv 3) (by rfl)) pss_never pss_nil)))
      (pss_one (ps_ret pe_non))))))))), ?_⟩
    obtain ⟨dx, hfa⟩ := hf.self
    have inT : ∀ v, v ∈ pl → v.1 ∈ T := fun v hv => (BfM.mem_copies.mp (th.pm.mem_iff.mp (List.mem_append_left lf hv))).1
    have lS : S.length ≤ T.length := BfM.nodup_len th.rS.nodup th.sub
    have T8 := ok.few
    have free := fun t ht => told_free (t := t) h3 ok th.pt inT ht
    have lts : ts.length = p := by rw [h3.2.1, th.len]
    have p8 := th.p8
    have lt8 : ∀ t, t ∈ ts → t.2.length ≤ 8 := fun t ht => Nat.le_trans (BfM.nodup_len (free t ht).1.nodup (free t ht).2.1) ok.few
    refine ⟨_, rfl, r, la, ta, p, q, S, ts, rfl, h1, h2, told_lls h3, lts, th.p1, by omega, th.q1, by have := th.q8; omega, th.one, by omega, (fun t ht => Nat.le_trans (lt8 t ht) (by decide)), fun H2 s2 => ⟨true, rfl, iteF ?_⟩⟩
    have f2 := Fk.of hf s2
    refine ⟨_, rfl, r, _, rfl, SqT.of (s2 _ _ h1), rfl, _, _, rfl, _, _, rfl, _, _, rfl, _, _, rfl, rfl, ?_⟩
    refine ⟨_, rfl, fa, _, dx, _, _, rfl, f2.at hfa, X.c_Family, X.n_Family_names, rfl, _, rfl, la, na, S, rfl, s2 _ _ h2, .inl ⟨T, f2.fam.names, th.sub⟩, th.rS.nodup, by omega, fun H3 s3 => ⟨true, rfl, iteF ?_⟩⟩
    have f3 := f2.then_ s3
    refine ⟨_, rfl, _, rfl, fa, d, na, wb, la, Vs, T, S, ends, rfl, f3.fam, f3.at h2, th.rS, th.sub, fun H5 r0 f5 hr0 => ?_⟩
    have f6 := f3.trans f5
    have les := th.less
    have en1 : ((T.length : Nat) : Int) - (S.length : Nat) = ((T.length - S.length : Nat) : Int) := by omega
    have en2 : ((BfM.rk ends Vs T : Nat) : Int) - (BfM.rk ends Vs S : Nat) = ((BfM.rk ends Vs T - BfM.rk ends Vs S : Nat) : Int) := by omega
    rw [en1, en2] at hr0
    refine ⟨r0, _, rfl, SqT.of hr0, rfl, _, _, rfl, _, _, rfl, rfl, ?_⟩
    refine ⟨_, rfl, rfl, _, rfl, ?_⟩
    rw [dec_int, show (((BfM.rk ends Vs T - BfM.rk ends Vs S : Nat) : Int) == 0) = false by rw [beq_eq_false_iff_ne]; omega]
    refine iteF ?_
    have q8 := th.q8
    refine ⟨_, rfl, _, rfl, _, _, rfl, rfl, .inr ⟨by omega, by omega⟩, ?_⟩
    refine ⟨_, rfl, _, rfl, _, _, rfl, rfl, .inl ⟨by omega, by omega⟩, rfl, _, rfl, ?_⟩
    rw [dec_int]
    have eqn : ((T.length - S.length : Nat) : Int) * (q : Nat) = (p : Int) * (BfM.rk ends Vs T - BfM.rk ends Vs S : Nat) := by
      rw [← Int.natCast_mul, ← Int.natCast_mul, Nat.mul_comm, th.eq]
    rw [show (!(((T.length - S.length : Nat) : Int) * (q : Nat) == (p : Int) * (BfM.rk ends Vs T - BfM.rk ends Vs S : Nat))) = false by rw [eqn]; simp]
    refine iteF ?_
    have fullL := BfM.most_full ok.web th.pt inT th.full
    refine ⟨_, rfl, _, rfl, fa, d, na, wb, ta, Vs, T, ends, ts, "base", rfl, f6.fam, (told_lls h3).fk f6, by omega, fun t ht => ⟨(free t ht).1, (free t ht).2.1, (free t ht).2.2.1, fun _ => by obtain ⟨l, m1, m2⟩ := (free t ht).2.2.2; rw [(free t ht).2.2.1, m2, fullL l m1]⟩, fun H7 f7 => ?_⟩
    have f8 := f6.trans f7
    refine ⟨_, rfl, rfl, _, rfl, iteF ?_⟩
    refine ⟨_, rfl, fa, _, dx, _, _, rfl, f8.at hfa, X.c_Family, X.n_Family_names, rfl, na, rfl, ⟨_, SqT.of f8.fam.names⟩, ?_⟩
    refine for_row row_tup (fun i σ H' => Fk K fa d na wb Vs T ends H H' ∧ ∃ u8, σ = [some (.ref fa), some (.ref r), some (.int (p : Nat)), some (.int (q : Nat)), some (.ref la), some (.ref ta), some (.int (T.length - S.length : Nat)), some (.int (BfM.rk ends Vs T - BfM.rk ends Vs S : Nat)), some .non, u8]) ⟨f8, none, rfl⟩ (fun i σ H' _ q => SqT.of q.1.fam.names) (fun i x σ H' hx w' => ?_) (fun σ H' w' => ?_)
    · obtain ⟨t, ht, rfl⟩ := get_map hx
      obtain ⟨f, u8, rfl⟩ := w'
      refine ⟨_, rfl, _, rfl, ta, ts, t, rfl, (told_lls h3).fk f, by omega, fun H9 s9 => ⟨_, rfl, _, _, rfl, rfl, _, rfl, ?_⟩⟩
      have tm : (pl.countP fun u => decide (u.1 = t)) ≤ q := BfM.times_most ok.rT.nodup th.pm (List.mem_of_getElem? ht)
      rw [told_times h3 th.pt t]
      revert tm
      generalize (pl.countP fun u => decide (u.1 = t)) = tn
      intro tm
      rw [show decide (((q : Nat) : Int) < ((tn : Nat) : Int)) = false by rw [decide_eq_false_iff_not]; omega]
      exact iteF ⟨f.then_ s9, _, rfl⟩
    · obtain ⟨f, u8, rfl⟩ := w'
      exact k _ f
end
end Bf
namespace Bf
open PySem PySem.Spec PyProof.Rows L2
/-- the law's well: three numbers -/
def WellAt (H : Hp) (wl : Addr) : Prop := ∃ a b c : Int, H wl = some (.lst [.int a, .int b, .int c])
/-- one draws: all stays but the well -/
structure Dr (wl : Addr) (H H1 : Hp) : Prop where
  kp : Kp [wl] H H1
  here : WellAt H wl
  well : WellAt H1 wl
section
variable {wl a p : Addr} {H H1 H2 : Hp} {o : HO}
theorem Dr.refl (h : WellAt H wl) : Dr wl H H := ⟨Kp.refl _ _, h, h⟩
theorem Dr.trans (h : Dr wl H H1) (k : Dr wl H1 H2) : Dr wl H H2 := ⟨h.kp.trans k.kp, h.here, k.well⟩
theorem Dr.free (h : Dr wl H H1) (q : H1 p = none) : H p = none := h.kp.free q (by
  intro z; rw [List.mem_singleton] at z; subst z
  obtain ⟨a, b, c, e⟩ := h.well
  rw [e] at q; cases q)
theorem Dr.at (h : Dr wl H H1) (e : H a = some o) (n : a ≠ wl) : H1 a = some o := h.kp.one e n
theorem Dr.ne (h : WellAt H wl) (q : H p = none) : p ≠ wl := fun z => by
  obtain ⟨a, b, c, e⟩ := h
  subst z; rw [e] at q; cases q
theorem Dr.put (h : Dr wl H H1) (q : H p = none) : Dr wl H (upd H1 p o) := ⟨h.kp.put (.inl q), h.here, by
  obtain ⟨a, b, c, e⟩ := h.well
  exact ⟨a, b, c, by rw [upd_ne (Dr.ne h.here q).symm]; exact e⟩⟩
theorem WellAt.same (h : WellAt H wl) (k : Same H H1) : WellAt H1 wl := let ⟨a, b, c, e⟩ := h; ⟨a, b, c, k _ _ e⟩
theorem Dr.then_ (h : Dr wl H H1) (k : Same H1 H2) : Dr wl H H2 := ⟨h.kp.trans (Kp.of k), h.here, h.well.same k⟩
end
section
variable {P : Program} {w : World} {K : PySem.W.Frag} {mg : Str → Option Value} {base : Heap}
theorem sc_source : FnScope ["_law_cell", "_law_number"] ["_law_cell"] (defScope s_L_source) := ⟨rfl, rfl, rfl, by decide +kernel, rfl, by decide +kernel, by decide +kernel⟩
def sp_source : Sp := fun vs H Q _ => ∃ c : Int, vs = [.int c] ∧ ∀ H' wl, Same H H' → H wl = none → WellAt H' wl → Q (.ref wl) H'
theorem has_source (X : Txt K mg) (N : Fns K) : Has P w K mg base (He.ga K "_law_source") 1 ["_law_cell"] sp_source := by
  refine has_mk N.f_L_source sc_source (fun vs H Q E h => ?_) (fun _ _ _ _ _ _ us hl => match us, hl with | [_], _ => rfl) (fun cdv A outer s H vs Q E hr h => ?_)
  · obtain ⟨c, rfl, _⟩ := h; rfl
  · obtain ⟨c, rfl, k⟩ := h
    refine ⟨_, pss_cons (ps_set (i := 1) sc_source.nd rfl (Or.inl rfl) (pe_ifExp (pt_cmpR op_ge (pv 0) pe_int (by rfl)) (pv 0) (pe_op op_sub (pe_op op_sub pe_int (pe_op op_mul pe_int (pv 0))) pe_int)))
      (pss_one (ps_ret (pe_lst (pa_cons (pe_op op_mul (pv 1) (pe_t1 call_int1 X.f_int (pe_cmpR op_ge (pv 1) (pe_op op_pow pe_int pe_int) (by rfl)))) (pa_cons (pe_op op_mod (pe_t1 call_int1 X.f_int (pv 1)) pe_int) (pa_cons pe_int pa_nil)))))), ?_⟩
    refine ⟨_, rfl, c, 0, rfl, rfl, _, rfl, ?_⟩
    refine if_go (fun v H3 => H3 = H ∧ ∃ n : Int, v = .int n) (fun v H3 q => ?_) (fun _ Q' kk => ⟨_, rfl, kk _ _ ⟨rfl, c, rfl⟩⟩) (fun _ Q' kk => ?_)
    · obtain ⟨rfl, n, rfl⟩ := q
      refine ⟨_, rfl, _, rfl, 10, 18, rfl, rfl, ⟨by decide, by decide, by decide⟩, n, _, rfl, rfl, .inr ⟨_, rfl, n, _, rfl, rfl, .inr ?_, ?_⟩⟩
      · split <;> decide
      · refine ⟨_, rfl, .inl ⟨n, rfl, n, 2147483629, rfl, rfl, (by show (0 : Int) < 2147483629; decide), small_le (by simp), fun p hp => k _ p (Same.new hp) hp ⟨_, _, _, upd_same⟩⟩⟩
    · exact ⟨_, rfl, 3, c, rfl, rfl, .inl (by decide), 0, _, rfl, rfl, _, 1, rfl, rfl, kk _ _ ⟨rfl, _, rfl⟩⟩
theorem sc_draw : FnScope ["_law_well", "_law_many", "_law_found", "_law_number"] ["_law_well", "_law_many"] (defScope s_L_draw) := ⟨rfl, rfl, rfl, by decide +kernel, rfl, by decide +kernel, by decide +kernel⟩
def sp_draw : Sp := fun vs H Q _ => ∃ (wl : Addr) (m : Nat), vs = [.ref wl, .int (m : Nat)] ∧ WellAt H wl ∧ 0 < m ∧ m ≤ 1000 ∧ ∀ H' (r : Nat), Dr wl H H' → r < m → Q (.int (r : Nat)) H'
theorem mod_nat (x : Int) {m : Nat} (h : 0 < m) : ∃ r : Nat, r < m ∧ x % (m : Int) = (r : Int) := by
  have h1 := Int.emod_nonneg x (b := (m : Int)) (by omega)
  have h2 := Int.emod_lt_of_pos x (b := (m : Int)) (by omega)
  exact ⟨(x % (m : Int)).toNat, by omega, by omega⟩
theorem mod_small {x m : Int} (h : 0 < m) (h2 : m < 2 ^ 64) : -(2 ^ 64) < x % m ∧ x % m < 2 ^ 64 := by
  have h1 := Int.emod_nonneg x (b := m) (by omega)
  have h3 := Int.emod_lt_of_pos x h
  omega
theorem has_draw (X : Txt K mg) (N : Fns K) : Has P w K mg base (He.ga K "_law_draw") 1 ["_law_well", "_law_many"] sp_draw := by
  refine has_mk N.f_L_draw sc_draw (fun vs H Q E h => ?_) (fun _ _ _ _ _ _ us hl => match us, hl with | [_, _], _ => rfl) (fun cdv A outer s H vs Q E hr h => ?_)
  · obtain ⟨wl, m, rfl, _⟩ := h; rfl
  · obtain ⟨wl, m, rfl, ⟨a, b, c, hw⟩, m0, m1, k⟩ := h
    refine ⟨_, pss_cons (ps_if (pt_cmpR op_gt (pe_ix ix_list (pv 0) pe_int (fun _ _ => rfl)) pe_int (by rfl))
        (pss_cons (ps_set (i := 2) sc_draw.nd rfl (Or.inl rfl) (pe_op op_mod (pe_t1 call_int1 X.f_int (pe_ix ix_list (pv 0) pe_int (fun _ _ => rfl))) (pv 1)))
        (pss_cons (ps_asg (pe_op op_fdiv (pe_ix ix_list (pv 0) pe_int (fun _ _ => rfl)) (pv 1)) (pg_sub (pv 0) pe_int set_list))
        (pss_one (ps_ret (pv 2))))) pss_nil)
      (pss_cons (ps_asg (pe_op op_add (pe_ix ix_list (pv 0) pe_int (fun _ _ => rfl)) pe_int) (pg_sub (pv 0) pe_int set_list))
      (pss_cons (ps_set (i := 3) sc_draw.nd rfl (Or.inl rfl) (pe_op op_mod (pe_t1 call_int1 X.f_int (pe_op op_mul (pe_op op_add (pe_op op_add (pe_ix ix_list (pv 0) pe_int (fun _ _ => rfl)) (pe_op op_mul pe_int (pe_ix ix_list (pv 0) pe_int (fun _ _ => rfl)))) pe_int) pe_int)) pe_int))
      (pss_cons (ps_set (i := 3) sc_draw.nd rfl (Or.inl rfl) (pe_op op_mod (pe_t1 call_int1 X.f_int (pe_op op_mul (pv 3) (pe_op op_add (pe_op op_add (pe_op op_fdiv (pv 3) pe_int) pe_int) (pe_ix ix_list (pv 0) pe_int (fun _ _ => rfl))))) pe_int))
      (pss_one (ps_ret (pe_op op_mod (pe_t1 call_int1 X.f_int (pe_op op_fdiv (pe_op op_mod (pe_t1 call_int1 X.f_int (pe_op op_mul (pv 3) (pe_op op_add (pe_op op_fdiv (pv 3) pe_int) pe_int))) pe_int) pe_int)) (pv 1))))))), ?_⟩
    have mm : CDiv a (m : Int) := ⟨by omega, by omega⟩
    refine ⟨_, rfl, wl, _, 0, .int a, rfl, rfl, SqL.of hw, rfl, a, 0, rfl, rfl, _, rfl, ?_⟩
    by_cases h0 : (0 : Int) < a
    · rw [decide_eq_true h0]
      refine iteT ?_
      obtain ⟨r, r1, r2⟩ := mod_nat a m0
      refine ⟨_, rfl, wl, _, 0, .int a, rfl, rfl, SqL.of hw, rfl, .inl ⟨a, rfl, _, rfl, a, (m : Int), rfl, rfl, by omega, ?_⟩⟩
      refine ⟨_, rfl, wl, _, 0, .int a, rfl, rfl, SqL.of hw, rfl, _, rfl, a, (m : Int), rfl, rfl, mm, ?_⟩
      refine ⟨_, rfl, wl, _, 0, 0, rfl, rfl, hw, rfl, _, rfl, ?_⟩
      rw [show (fun i j : Int => V.int (i % j)) a (m : Int) = V.int (r : Int) from congrArg V.int r2]
      exact k _ r ⟨(Kp.refl _ _).put (.inr (by simp)), ⟨a, b, c, hw⟩, _, _, _, upd_same⟩ r1
    · rw [decide_eq_false h0]
      refine iteF ?_
      refine ⟨_, rfl, wl, _, 2, .int c, rfl, rfl, SqL.of hw, rfl, c, 1, rfl, rfl, ?_⟩
      refine ⟨_, rfl, wl, _, 2, 2, rfl, rfl, hw, rfl, ?_⟩
      have hw1 : (upd H wl (.lst ([V.int a, V.int b, V.int c].set 2 (V.int (c + 1))))) wl = some (.lst [.int a, .int b, .int (c + 1)]) := upd_same
      have D1 : Dr wl H (upd H wl (.lst ([V.int a, V.int b, V.int c].set 2 (V.int (c + 1))))) := ⟨(Kp.refl _ _).put (.inr (by simp)), ⟨a, b, c, hw⟩, _, _, _, hw1⟩
      revert hw1 D1
      generalize (upd H wl (.lst ([V.int a, V.int b, V.int c].set 2 (V.int (c + 1))))) = H1
      intro hw1 D1
      refine ⟨_, rfl, wl, _, 1, .int b, rfl, rfl, SqL.of hw1, rfl, _, rfl, wl, _, 2, .int (c + 1), rfl, rfl, SqL.of hw1, rfl, 104729, c + 1, rfl, rfl, .inl (by decide), b, _, rfl, rfl, _, 11, rfl, rfl, _, 48271, rfl, rfl, .inr (by decide), .inl ⟨_, rfl, _, 2147483647, rfl, rfl, (by show (0 : Int) < 2147483647; decide), ?_⟩⟩
      refine ⟨_, rfl, _, rfl, _, 1009, rfl, rfl, ⟨by decide, by decide⟩, _, 69621, rfl, rfl, _, rfl, wl, _, 2, .int (c + 1), rfl, rfl, SqL.of hw1, rfl, _, _, rfl, rfl, _, _, rfl, rfl, .inl (mod_small (by decide) (by decide)), .inl ⟨_, rfl, _, 2147483587, rfl, rfl, (by show (0 : Int) < 2147483587; decide), ?_⟩⟩
      refine ⟨_, rfl, _, rfl, _, 2003, rfl, rfl, ⟨by decide, by decide⟩, _, 40692, rfl, rfl, _, _, rfl, rfl, .inl (mod_small (by decide) (by decide)), .inl ⟨_, rfl, _, 2147483563, rfl, rfl, (by show (0 : Int) < 2147483563; decide), _, 3, rfl, rfl, ⟨by decide, by decide⟩, .inl ⟨_, rfl, _, rfl, _, (m : Int), rfl, rfl, (by show (0 : Int) < m; omega), ?_⟩⟩⟩
      obtain ⟨r, r1, r2⟩ := mod_nat (((((((b + 104729 * (c + 1) + 11) * 48271) % 2147483647 * (((b + 104729 * (c + 1) + 11) * 48271) % 2147483647 / 1009 + 69621 + (c + 1))) % 2147483587) * ((((b + 104729 * (c + 1) + 11) * 48271) % 2147483647 * (((b + 104729 * (c + 1) + 11) * 48271) % 2147483647 / 1009 + 69621 + (c + 1))) % 2147483587 / 2003 + 40692)) % 2147483563 / 3)) m0
      have := k H1 r D1 r1
      rw [← r2] at this
      exact this
end
end Bf
namespace Bf
open PySem PySem.Spec PyProof.Rows L2
abbrev abcS : Str := "abcdefghijklmnopqrstuvwxyz"
theorem abc_len : abcS.cps.toList.length = 26 := by decide +kernel
theorem abc_nd : abcS.cps.toList.Nodup := by decide +kernel
/-- a drawn name: seven letters at most -/
structure WordOk (x : Str) : Prop where
  ok : NameOk x
  short : x.length ≤ 7
theorem one_inj {a b : Nat} (h : (⟨#[a]⟩ : Str) = ⟨#[b]⟩) : a = b := by
  have : (⟨#[a]⟩ : Str).cps.toList = (⟨#[b]⟩ : Str).cps.toList := by rw [h]
  simpa using this
theorem joinL_one : ∀ cs : List Nat, TL.joinL [] (cs.map fun c => [c]) = cs
  | [] => rfl
  | [c] => rfl
  | c :: d :: cs => by
    show [c] ++ ([] ++ TL.joinL [] ((d :: cs).map fun c => [c])) = _
    rw [joinL_one (d :: cs)]; rfl
theorem join_one (cs : List Nat) : Txt.join "" (cs.map fun c => (⟨#[c]⟩ : Str)) = ⟨cs.toArray⟩ := by
  refine TL.ext_tl ?_
  rw [TL.join_eq, TL.tl_join, TL.tl_mk, List.map_map]
  have e1 : ("" : Str).cps.toList = [] := by decide +kernel
  rw [e1]
  exact joinL_one cs
theorem ones_sum : ∀ cs : List Nat, ((cs.map fun c => (⟨#[c]⟩ : Str)).map (·.length)).sum = cs.length
  | [] => rfl
  | c :: cs => by
    rw [List.map_cons, List.map_cons, List.sum_cons, ones_sum cs, List.length_cons]
    show 1 + cs.length = _
    omega
theorem cut8 {z : Str} (h : z.length ≤ 8) : cutS z none (some 8) = z := by
  have e : z.length = z.cps.toList.length := TL.len_tl z
  unfold cutS
  rw [HT.sIx_none, show (8 : Int) = ((8 : Nat) : Int) from rfl, HT.sIx_nat, List.drop_zero, Nat.min_eq_right h, Nat.sub_zero, List.take_of_length_le (by omega)]
theorem word_ok {cs : List Nat} (h1 : 1 ≤ cs.length) (h2 : cs.length ≤ 7) (h : ∀ c, c ∈ cs → c ∈ abcS.cps.toList) : WordOk ⟨cs.toArray⟩ := by
  have e : (⟨cs.toArray⟩ : Str).length = cs.length := by rw [TL.len_tl, TL.tl_mk]
  exact ⟨⟨by omega, by omega, fun c hc => h c (by simpa using hc)⟩, by omega⟩
section
variable {P : Program} {w : World} {K : PySem.W.Frag} {mg : Str → Option Value} {base : Heap}
theorem sc_pick : FnScope ["_law_well", "_law_some"] ["_law_well", "_law_some"] (defScope s_L_pick) := ⟨rfl, rfl, rfl, by decide +kernel, rfl, by decide +kernel, by decide +kernel⟩
def sp_pick : Sp := fun vs H Q _ => ∃ wl : Addr, WellAt H wl ∧ ((∃ z : Str, vs = [.ref wl, .str z] ∧ 0 < z.length ∧ z.length ≤ 1000 ∧ ∀ H' c, Dr wl H H' → c ∈ z.cps.toList → Q (.str ⟨#[c]⟩) H') ∨
  ∃ (a : Addr) (xs : List V), vs = [.ref wl, .ref a] ∧ H a = some (.lst xs) ∧ a ≠ wl ∧ 0 < xs.length ∧ xs.length ≤ 1000 ∧ ∀ H' v, Dr wl H H' → v ∈ xs → Q v H')
theorem has_pick (X : Txt K mg) (N : Fns K) : Has P w K mg base (He.ga K "_law_pick") 2 ["_law_well", "_law_some"] sp_pick := by
  refine has_mk N.f_L_pick sc_pick (fun vs H Q E h => ?_) (fun _ _ _ _ _ _ us hl => match us, hl with | [_, _], _ => rfl) (fun cdv A outer s H vs Q E hr h => ?_)
  · obtain ⟨wl, _, ⟨z, rfl, _⟩ | ⟨a, xs, rfl, _⟩⟩ := h <;> rfl
  · obtain ⟨wl, hw, h⟩ := h
    refine ⟨_, pss_one (ps_ret (pe_ix ix_seq (pv 1) (pe_ca (has_draw X N) X.g_L_draw hr (pa_cons (pv 0) (pa_cons (pe_b1 call_len X.f_len (pv 1)) pa_nil))) (fun _ _ => rfl))), ?_⟩
    rcases h with ⟨z, rfl, z0, z1, k⟩ | ⟨a, xs, rfl, ha, na, z0, z1, k⟩
    · refine ⟨_, rfl, _, rfl, _, rfl, .str z, z.length, rfl, ⟨small_le (by omega), rfl⟩, wl, z.length, rfl, hw, z0, z1, fun H1 r d1 lt => ?_⟩
      have e : z.length = z.cps.toList.length := TL.len_tl z
      have hz : z.cps.toList[r]? = some (z.cps.toList[r]'(by omega)) := List.getElem?_eq_getElem _
      exact .inr (.inr ⟨z, (r : Int), _, rfl, rfl, small_le (by omega), atI_nat hz, k H1 _ d1 (List.getElem_mem _)⟩)
    · refine ⟨_, rfl, _, rfl, _, rfl, .ref a, xs.length, rfl, .inl ⟨xs, SqL.of ha, rfl⟩, wl, xs.length, rfl, hw, z0, z1, fun H1 r d1 lt => ?_⟩
      have hz : xs[r]? = some (xs[r]'lt) := List.getElem?_eq_getElem _
      exact .inl ⟨a, xs, (r : Int), _, rfl, rfl, SqL.of (d1.at ha na), atI_nat hz, k H1 _ d1 (List.getElem_mem _)⟩
theorem sc_names : FnScope ["_law_well", "_law_many", "_law_letters", "_law_found", "_law_k", "_law_word", "_law_letter", "_law_j"] ["_law_well", "_law_many"] (defScope s_L_names) := ⟨rfl, rfl, rfl, by decide +kernel, rfl, by decide +kernel, by decide +kernel⟩
def sp_names : Sp := fun vs H Q _ => ∃ (wl : Addr) (m : Nat), vs = [.ref wl, .int (m : Nat)] ∧ WellAt H wl ∧ m ≤ 20 ∧ ∀ H' fo (ns : List Str), Dr wl H H' → H fo = none → H' fo = some (.lst (ns.map V.str)) → ns.Nodup → ns.length = m → (∀ x, x ∈ ns → WordOk x) → Q (.ref fo) H'
theorem has_names (X : Txt K mg) (N : Fns K) : Has P w K mg base (He.ga K "_law_names") 3 ["_law_well", "_law_many"] sp_names := by
  refine has_mk N.f_L_names sc_names (fun vs H Q E h => ?_) (fun _ _ _ _ _ _ us hl => match us, hl with | [_, _], _ => rfl) (fun cdv A outer s H vs Q E hr h => ?_)
  · obtain ⟨wl, m, rfl, _⟩ := h; rfl
  · obtain ⟨wl, m, rfl, hw, lm, k⟩ := h
    refine ⟨_, pss_cons (ps_set (i := 2) sc_names.nd rfl (Or.inr rfl) pe_str) (pss_cons (ps_set (i := 3) sc_names.nd rfl (Or.inl rfl) (pe_lst pa_nil))
      (pss_cons (ps_for PassesOwn.never rfl (pi_range1 (by rfl) X.f_range (pa_cons (pv 1) pa_nil)) (pg_name (i := 4) sc_names.nd rfl (Or.inl rfl))
        (pss_cons (ps_set (i := 5) sc_names.nd rfl (Or.inl rfl) (pe_slice sl_str (pe_join pe_str (pe_lc (own := [("_law_j", 7)]) (g := gName 7) (tt := tYes) (te := tCa sp_pick (tCons (tVar 0) (tCons (tVar 2) tNil))) rfl sc_names.nd
            (pi_range1 (by rfl) X.f_range (pa_cons (pe_op op_add pe_int (pe_op op_mul (pe_ca (has_draw X N) X.g_L_draw hr (pa_cons (pv 0) (pa_cons pe_int pa_nil))) (pe_ca (has_draw X N) X.g_L_draw hr (pa_cons (pv 0) (pa_cons pe_int pa_nil))))) pa_nil))
            (blkOk_by (N := ["_law_well", "_law_many", "_law_letters", "_law_found", "_law_k", "_law_word", "_law_letter", "_law_j"]) (sc := defScope s_L_names) (by decide +kernel)) (fun _ _ _ _ _ => pg_name (i := 7) sc_names.nd rfl (Or.inl rfl)) (fun _ _ _ _ _ => pts_nil) (fun _ _ _ _ _ => pe_ca (has_pick X N) X.g_L_pick hr (pa_cons (pv 0) (pa_cons (pv 2) pa_nil))))) po_none (po_some pe_int)))
        (pss_cons (ps_for PassesOwn.never rfl (pi_str (pv 2)) (pg_name (i := 6) sc_names.nd rfl (Or.inl rfl)) (pss_one (ps_if (PW.pt (pw_and (pt_cmpR op_in_seq (pv 5) (pv 3) (by rfl)) (pw_and1 (pt_cmpR op_notIn_seq (pv 6) (pv 3) (by rfl))))) (pss_one (ps_set (i := 5) sc_names.nd rfl (Or.inl rfl) (pv 6))) pss_nil)))
        (pss_one (ps_expr (pe_bm PySem.F.plainAttrs_list PySem.F.slot_list_append PySem.F.type_list_append mt_append (pv 3) (pa_cons (pv 5) pa_nil)))))))
      (pss_one (ps_ret (pv 3))))), ?_⟩
    refine ⟨small_le (by simp), fun fo hfo => ?_⟩
    have nfo : fo ≠ wl := Dr.ne hw hfo
    refine ⟨_, rfl, (m : Int), rfl, by omega, by omega, ?_⟩
    refine for_row (row_range (n := m)) (fun i σ H' => Dr wl H H' ∧ ∃ (ns : List Str) (u4 u5 u6 u7 : Option V), σ = [some (.ref wl), some (.int (m : Nat)), some (.str abcS), some (.ref fo), u4, u5, u6, u7] ∧ H' fo = some (.lst (ns.map V.str)) ∧ ns.Nodup ∧ ns.length = i ∧ ∀ x, x ∈ ns → WordOk x)
      ⟨(Dr.refl hw).put hfo, [], none, none, none, none, rfl, upd_same, List.nodup_nil, rfl, fun x hx => by cases hx⟩ (fun _ _ _ _ _ => trivial) (fun i x σ H' hx q => ?_) (fun σ H' q => ?_)
    · obtain ⟨d, ns, u4, u5, u6, u7, rfl, hf, ndn, ln, okn⟩ := q
      obtain ⟨i', hi', rfl⟩ := get_map hx
      obtain ⟨hi, h2⟩ := List.getElem?_eq_some_iff.mp hi'
      rw [List.length_range] at hi
      rw [List.getElem_range] at h2
      subst h2
      refine ⟨⟨_, rfl⟩, _, rfl, wl, 3, rfl, d.well, by decide, by decide, fun H1 r1 d1 lt1 => ?_⟩
      refine ⟨_, rfl, wl, 4, rfl, d1.well, by decide, by decide, fun H2 r2 d2 lt2 => ?_⟩
      refine ⟨_, _, rfl, rfl, .inl ⟨by omega, by omega⟩, 1, _, rfl, rfl, ?_⟩
      have d02 := (d.trans d1).trans d2
      have l7 : 1 + r1 * r2 ≤ 7 := by
        have : r1 * r2 ≤ 2 * 3 := Nat.mul_le_mul (by omega) (by omega)
        omega
      have en : (1 : Int) + (r1 : Int) * (r2 : Int) = ((1 + r1 * r2 : Nat) : Int) := by rw [Int.natCast_add, Int.natCast_mul]; rfl
      refine ⟨((1 + r1 * r2 : Nat) : Int), by rw [← en], by omega, by omega, fun D hD => ?_⟩
      have n1 : 1 ≤ 1 + r1 * r2 := by omega
      revert l7 en n1
      generalize 1 + r1 * r2 = n
      intro l7 en n1
      have nD : D ≠ wl := Dr.ne d2.well hD
      have al : abcS.length = 26 := by rw [TL.len_tl]; exact abc_len
      refine lc_row (row_range (n := n)) (fun j acc H3 => Dr wl H2 H3 ∧ ∃ cs : List Nat, acc = cs.map (fun c => V.str ⟨#[c]⟩) ∧ cs.length = j ∧ ∀ c, c ∈ cs → c ∈ abcS.cps.toList) ⟨Dr.refl d2.well, [], rfl, rfl, fun c hc => by cases hc⟩ hD (fun j acc H3 o q => ⟨q.1.put hD, q.2⟩) (fun _ _ _ _ => trivial) (small_line (by rw [List.length_map, List.length_range]; omega)) (fun j x acc H3 hx q hL Kt Kf k1 k2 => ?_) fun acc H3 q hL => ?_
      · obtain ⟨d3, cs, rfl, lc, okc⟩ := q
        refine ⟨rfl, _, rfl, _, rfl, wl, d3.well, .inl ⟨abcS, rfl, by omega, by omega, fun H4 c d4 mc => k1 _ _ ⟨d3.trans d4, cs ++ [c], by simp, by rw [List.length_append, lc]; rfl, fun y hy => ?_⟩ (d4.at hL nD)⟩⟩
        rcases List.mem_append.mp hy with h | h
        · exact okc y h
        · rw [List.mem_singleton.mp h]; exact mc
      · rw [List.length_map, List.length_range] at q
        obtain ⟨d3, cs, rfl, lc, okc⟩ := q
        have wok := word_ok (cs := cs) (by omega) (by omega) okc
        refine ⟨"", D, cs.map fun c => ⟨#[c]⟩, rfl, rfl, .inl (SqL.of (by rw [hL, List.map_map]; rfl)), ?_, 8, rfl, Txt.join "" (cs.map fun c => ⟨#[c]⟩), rfl, ?_, ?_⟩
        · rw [ones_sum, show ("" : Str).length = 0 from rfl, Nat.mul_zero]; omega
        · rw [join_one]; exact small_le (by have := wok.short; omega)
        · rw [join_one, cut8 (by have := wok.short; omega)]
          have d03 := d02.trans d3
          have hf3 : H3 fo = some (.lst (ns.map V.str)) := d3.at (d2.at (d1.at hf nfo) nfo) nfo
          revert wok
          generalize (⟨cs.toArray⟩ : Str) = w0
          intro wok
          refine ⟨_, rfl, abcS, rfl, ?_⟩
          refine for_row row_str (fun j σ H4 => H4 = H3 ∧ ∃ (wd : Str) (u6 u7 : Option V), σ = [some (.ref wl), some (.int (m : Nat)), some (.str abcS), some (.ref fo), some (.int (i : Nat)), some (.str wd), u6, u7] ∧ WordOk wd ∧ (wd ∈ ns → ∀ c, c ∈ abcS.cps.toList.take j → (⟨#[c]⟩ : Str) ∈ ns)) ⟨rfl, w0, _, _, rfl, wok, fun _ c hc => by simp at hc⟩ (fun _ _ _ _ _ => trivial) (fun j x σ H4 hx q => ?_) (fun σ H4 q => ?_)
          · obtain ⟨c, hc, rfl⟩ := get_map hx
            obtain ⟨rfl, wd, u6, u7, rfl, wok, hall⟩ := q
            have mc : c ∈ abcS.cps.toList := List.mem_of_getElem? hc
            refine ⟨_, rfl, _, rfl, fo, _, rfl, .inl (SqL.of hf3), rfl, flat_strs _, _, rfl, ?_⟩
            rw [in_strs]
            by_cases m1 : wd ∈ ns
            · rw [decide_eq_true m1]
              refine iteT ⟨_, rfl, _, rfl, fo, _, rfl, .inl (SqL.of hf3), rfl, flat_strs _, _, rfl, ?_⟩
              rw [in_strs]
              by_cases m2 : (⟨#[c]⟩ : Str) ∈ ns
              · rw [decide_eq_true m2]
                refine iteF ⟨rfl, wd, _, _, rfl, wok, fun _ y hy => ?_⟩
                rw [take_succ_get hc, List.mem_append, List.mem_singleton] at hy
                rcases hy with hy | hy
                · exact hall m1 y hy
                · rw [hy]; exact m2
              · rw [decide_eq_false m2]
                refine iteT ⟨_, rfl, rfl, ⟨#[c]⟩, _, _, rfl, ?_, fun h => absurd h m2⟩
                exact word_ok (cs := [c]) (by simp) (by simp) fun y hy => by rw [List.mem_singleton.mp hy]; exact mc
            · rw [decide_eq_false m1]
              exact iteF (iteF ⟨rfl, wd, _, _, rfl, wok, fun h => absurd h m1⟩)
          · obtain ⟨rfl, wd, u6, u7, rfl, wok, hall⟩ := q
            rw [List.length_map, List.take_length] at hall
            have nin : wd ∉ ns := fun h => by
              have h1 := BfM.nodup_len (l := abcS.cps.toList.map fun c => (⟨#[c]⟩ : Str)) (m := ns) (BfM.nodup_map abc_nd fun a _ b _ e => one_inj e) fun x hx => by
                obtain ⟨c, hc, e⟩ := List.mem_map.mp hx
                exact e ▸ hall h c hc
              rw [List.length_map, abc_len] at h1
              omega
            refine ⟨_, rfl, .inl ⟨rfl, _, SqL.of hf3⟩, _, rfl, fo, _, _, rfl, rfl, hf3, small_line (by rw [List.length_map]; omega), ?_⟩
            refine ⟨d03.put hfo, ns ++ [wd], _, _, _, _, rfl, by rw [upd_same, List.map_append]; rfl, nd_snoc ndn nin, by rw [List.length_append, ln]; rfl, fun x hx => ?_⟩
            rcases List.mem_append.mp hx with h | h
            · exact okn x h
            · rw [List.mem_singleton.mp h]; exact wok
    · rw [List.length_map, List.length_range] at q
      obtain ⟨d, ns, u4, u5, u6, u7, rfl, hf, ndn, ln, okn⟩ := q
      exact ⟨_, rfl, k H' fo ns d hfo hf ndn ln okn⟩
end
end Bf
namespace Bf
open PySem PySem.Spec PyProof.Rows L2
section
variable {P : Program} {w : World} {K : PySem.W.Frag} {mg : Str → Option Value} {base : Heap}
theorem sc_drawn : FnScope ["_law_well", "_law_upto", "_law_places", "_law_ties", "_law_name"] ["_law_well", "_law_upto"] (defScope s_L_web_drawn) := ⟨rfl, rfl, rfl, by decide +kernel, rfl, by decide +kernel, by decide +kernel⟩
/-- a drawn web: places and ties -/
structure WebDr (H : Hp) (pl td : Addr) (ps ks : List Str) (raw : Str → Str × Str) : Prop where
  places : H pl = some (.lst (ps.map V.str))
  ties : TiesAt H td ks raw
  nd : ps.Nodup
  one : 1 ≤ ps.length
  five : ps.length ≤ 5
  okp : ∀ x, x ∈ ps → WordOk x
  six : ks.length ≤ 6
  okk : ∀ x, x ∈ ks → WordOk x
  inp : ∀ t, (raw t).1 ∈ ps ∧ (raw t).2 ∈ ps
def sp_drawn : Sp := fun vs H Q _ => ∃ wl : Addr, vs = [.ref wl, .int 6] ∧ WellAt H wl ∧ ∀ H' r pl td ps ks raw, Dr wl H H' → H' r = some (.tup [.ref pl, .ref td]) → WebDr H' pl td ps ks raw → Q (.ref r) H'
theorem has_drawn (X : Txt K mg) (N : Fns K) : Has P w K mg base (He.ga K "_law_web_drawn") 4 ["_law_well", "_law_upto"] sp_drawn := by
  refine has_mk N.f_L_web_drawn sc_drawn (fun vs H Q E h => ?_) (fun _ _ _ _ _ _ us hl => match us, hl with | [_, _], _ => rfl) (fun cdv A outer s H vs Q E hr h => ?_)
  · obtain ⟨wl, rfl, _⟩ := h; rfl
  · obtain ⟨wl, rfl, hw, k⟩ := h
    refine ⟨_, pss_cons (ps_set (i := 2) sc_drawn.nd rfl (Or.inl rfl) (pe_ca (has_names X N) X.g_L_names hr (pa_cons (pv 0) (pa_cons (pe_op op_add pe_int (pe_ca (has_draw X N) X.g_L_draw hr (pa_cons (pv 0) (pa_cons pe_int pa_nil)))) pa_nil))))
      (pss_cons (ps_set (i := 3) sc_drawn.nd rfl (Or.inl rfl) pe_dnewK)
      (pss_cons (ps_for PassesOwn.never rfl (pi_list (pe_ca (has_names X N) X.g_L_names hr (pa_cons (pv 0) (pa_cons (pe_ca (has_draw X N) X.g_L_draw hr (pa_cons (pv 0) (pa_cons (pe_op op_add (pv 1) pe_int) pa_nil))) pa_nil)))) (pg_name (i := 4) sc_drawn.nd rfl (Or.inl rfl))
        (pss_one (ps_dput (hu_of hr) (pv 3) (pv 4) (pe_tup (pa_cons (pe_ca (has_pick X N) X.g_L_pick hr (pa_cons (pv 0) (pa_cons (pv 2) pa_nil))) (pa_cons (pe_ca (has_pick X N) X.g_L_pick hr (pa_cons (pv 0) (pa_cons (pv 2) pa_nil))) pa_nil))) (by rfl))))
      (pss_one (ps_ret (pe_tup (pa_cons (pv 2) (pa_cons (pv 3) pa_nil))))))), ?_⟩
    refine ⟨_, rfl, _, rfl, wl, 5, rfl, hw, by decide, by decide, fun H1 r1 d1 lt1 => ⟨1, _, rfl, rfl, wl, 1 + r1, by rw [Int.natCast_add]; rfl, d1.well, by omega, fun H2 pl ps d2 hpl hps ndp lps okp => ?_⟩⟩
    have d02 := d1.trans d2
    have npl : pl ≠ wl := Dr.ne d1.well hpl
    intro td htd
    have ntd : td ≠ wl := Dr.ne d02.well htd
    have d3 : Dr wl H2 (upd H2 td (.dK [])) := (Dr.refl d02.well).put htd
    refine ⟨_, rfl, _, rfl, _, rfl, 6, 1, rfl, rfl, wl, 7, rfl, d3.well, by decide, by decide, fun H3 r2 d4 lt2 => ⟨wl, r2, rfl, d4.well, by omega, fun H4 nl ns d5 hnl hns ndn lns okn => ?_⟩⟩
    have d24 := (d3.trans d4).trans d5
    have hpl4 : H4 pl = some (.lst (ps.map V.str)) := d24.at hps npl
    have htd4 : H4 td = some (.dK []) := d5.at (d4.at upd_same ntd) ntd
    have nnl : nl ≠ wl := Dr.ne d4.well hnl
    have p0 : ∃ x, x ∈ ps := by
      cases ps with
      | nil => simp at lps; omega
      | cons x _ => exact ⟨x, List.mem_cons_self ..⟩
    obtain ⟨x0, hx0⟩ := p0
    refine ⟨nl, rfl, ⟨_, SqL.of hns⟩, ?_⟩
    refine for_row row_list (fun i σ H' => Dr wl H H' ∧ ∃ (raw : Str → Str × Str) (u4 : Option V) (kvt : List (Key × V)), σ = [some (.ref wl), some (.int 6), some (.ref pl), some (.ref td), u4] ∧ H' pl = some (.lst (ps.map V.str)) ∧ H' nl = some (.lst (ns.map V.str)) ∧ H' td = some (.dK kvt) ∧ kvt.map (·.1) = (ns.take i).map Sum.inr ∧ (∀ t, (raw t).1 ∈ ps ∧ (raw t).2 ∈ ps) ∧ ∀ t, t ∈ ns.take i → ∃ p, valV kvt (.inr t) = some (.ref p) ∧ H' p = some (.tup [.str (raw t).1, .str (raw t).2]))
      ⟨d02.trans d24, fun _ => (x0, x0), none, [], rfl, hpl4, hns, htd4, rfl, fun _ => ⟨hx0, hx0⟩, fun t ht => by simp at ht⟩ (fun i σ H' _ q => let ⟨_, _, _, _, _, _, e, _⟩ := q; SqL.of e) (fun i x σ H' hx q => ?_) (fun σ H' q => ?_)
    · obtain ⟨t, ht, rfl⟩ := get_map hx
      obtain ⟨d, raw, u4, kvt, rfl, hp, hn, hd, kys, ine, ens⟩ := q
      have lk : kvt.length ≤ 20 := by
        have := congrArg List.length kys
        rw [List.length_map, List.length_map] at this
        have := List.length_take_le' i ns
        omega
      refine ⟨_, rfl, _, rfl, wl, d.well, .inr ⟨pl, _, rfl, hp, npl, by rw [List.length_map]; omega, by rw [List.length_map]; omega, fun H5 v1 d5 m1 => ?_⟩⟩
      refine ⟨_, rfl, _, rfl, wl, d5.well, .inr ⟨pl, _, rfl, d5.at hp npl, npl, by rw [List.length_map]; omega, by rw [List.length_map]; omega, fun H6 v2 d6 m2 => ⟨small_le (by simp), fun p hpn => ?_⟩⟩⟩
      obtain ⟨a, ha, rfl⟩ := List.mem_map.mp m1
      obtain ⟨b, hb, rfl⟩ := List.mem_map.mp m2
      have d56 := d5.trans d6
      have hd6 := d56.at hd ntd
      have ptd : p ≠ td := fun z => by subst z; rw [hd6] at hpn; cases hpn
      have nin : valV kvt (.inr t) = none := by
        cases e : valV kvt (.inr t) with
        | none => rfl
        | some v =>
          have := valV_in e
          rw [kys] at this
          obtain ⟨y, hy, e2⟩ := List.mem_map.mp this
          cases e2
          obtain ⟨hlt, ep⟩ := List.getElem?_eq_some_iff.mp ht
          obtain ⟨j, hj, e⟩ := List.mem_take_iff_getElem.mp hy
          have := (List.getElem_inj ndn).mp (e.trans ep.symm)
          omega
      have htd0 : H td = none := d02.free htd
      refine ⟨_, rfl, _, rfl, td, _, rfl, DPut.k (k := .inr t) (by rw [upd_ne ptd.symm]; exact hd6) (small_line (by omega)), ?_⟩
      have d7 := ((d.trans d56).put (o := .tup [.str a, .str b]) ((d.trans d56).free hpn)).put (p := td) (o := .dK (putK kvt (.inr t) (.ref p))) htd0
      have keep : ∀ {c : Addr} {o : HO}, H' c = some o → c ≠ wl → (∀ kv, o ≠ .dK kv) → upd (upd H6 p (.tup [.str a, .str b])) td (.dK (putK kvt (.inr t) (.ref p))) c = some o := fun {c o} e n n2 => by
        have h6 := d56.at e n
        rw [upd_ne (fun z => by subst z; rw [hd6] at h6; cases h6; exact n2 _ rfl), upd_ne (ne_of_none h6 hpn)]; exact h6
      refine ⟨d7, fun y => if y = t then (a, b) else raw y, _, _, rfl, keep hp npl (by simp), keep hn nnl (by simp), upd_same, ?_, fun y => ?_, fun y hy => ?_⟩
      · rw [putK_new _ nin, List.map_append, kys, take_succ_get ht, List.map_append]; rfl
      · by_cases e : y = t
        · simp only [e, if_true]; exact ⟨ha, hb⟩
        · simp only [e, if_false]; exact ine y
      · rw [take_succ_get ht, List.mem_append, List.mem_singleton] at hy
        by_cases e : y = t
        · subst e
          exact ⟨p, by rw [valV_put, if_pos rfl], by rw [upd_ne ptd, upd_same]; simp⟩
        · obtain ⟨p', e1, e2⟩ := ens y (hy.resolve_right e)
          refine ⟨p', by rw [valV_put, if_neg (fun z => e (Sum.inr.inj z))]; exact e1, ?_⟩
          have np' : p' ≠ wl := fun z => by
            obtain ⟨a', b', c', ew⟩ := d.well
            subst z; rw [ew] at e2; cases e2
          simp only [e, if_false]
          exact keep e2 np' (by simp)
    · rw [List.length_map, List.take_length] at q
      obtain ⟨d, raw, u4, kvt, rfl, hp, hn, hd, kys, ine, ens⟩ := q
      refine ⟨_, rfl, _, rfl, small_le (by simp), fun r hr => ?_⟩
      have s1 : Same H' (upd H' r (.tup [.ref pl, .ref td])) := Same.new hr
      exact k _ r pl td ps ns raw (d.then_ s1) upd_same ⟨s1 _ _ hp, ⟨⟨kvt, s1 _ _ hd, kys, fun t ht => let ⟨p, e1, e2⟩ := ens t ht; ⟨p, e1, s1 _ _ e2⟩⟩, ndn⟩, ndp, by omega, by omega, okp, by omega, okn, ine⟩
theorem sc_same : FnScope ["_law_told", "_law_due"] ["_law_told", "_law_due"] (defScope s_L_same) := ⟨rfl, rfl, rfl, by decide +kernel, rfl, by decide +kernel, by decide +kernel⟩
def sp_same : Sp := fun vs H Q _ => (vs = [.non, .non] ∧ Q (.bl true) H) ∨ ∃ (r s : Addr) (p q a b : Nat) (xs : List V), vs = [.ref r, .ref s] ∧ H r = some (.tup (.int (p : Nat) :: .int (q : Nat) :: xs)) ∧ H s = some (.tup [.int (a : Nat), .int (b : Nat)]) ∧ p ≤ 1000 ∧ q ≤ 1000 ∧ p * b = a * q ∧ Q (.bl true) H
theorem has_same (X : Txt K mg) (N : Fns K) : Has P w K mg base (He.ga K "_law_same") 1 ["_law_told", "_law_due"] sp_same := by
  refine has_mk N.f_L_same sc_same (fun vs H Q E h => ?_) (fun _ _ _ _ _ _ us hl => match us, hl with | [_, _], _ => rfl) (fun cdv A outer s H vs Q E hr h => ?_)
  · rcases h with ⟨rfl, _⟩ | ⟨r, s, p, q, a, b, xs, rfl, _⟩ <;> rfl
  · refine ⟨_, pss_cons (ps_if (PW.pt (pw_or (pt_cmpR op_isN (pv 0) pe_non (by rfl)) (pw_or1 (pt_cmpR op_isN (pv 1) pe_non (by rfl))))) (pss_one (ps_ret (pe_and (pe_cmpR op_isN (pv 0) pe_non (by rfl)) (pe_one (pe_cmpR op_isN (pv 1) pe_non (by rfl)))))) pss_nil)
      (pss_one (ps_ret (pe_cmpR op_eq (pe_op op_mul (pe_ix ix_tup (pv 0) pe_int (fun _ _ => rfl)) (pe_ix ix_tup (pv 1) pe_int (fun _ _ => rfl))) (pe_op op_mul (pe_ix ix_tup (pv 1) pe_int (fun _ _ => rfl)) (pe_ix ix_tup (pv 0) pe_int (fun _ _ => rfl))) (by rfl)))), ?_⟩
    rcases h with ⟨rfl, k⟩ | ⟨r, s, p, q, a, b, xs, rfl, h1, h2, lp, lq, e, k⟩
    · exact ⟨_, rfl, rfl, _, rfl, iteT (iteT ⟨_, rfl, rfl, _, rfl, iteT ⟨_, rfl, rfl, k⟩⟩)⟩
    · refine ⟨_, rfl, rfl, _, rfl, iteF ⟨_, rfl, rfl, _, rfl, iteF ?_⟩⟩
      refine ⟨_, rfl, r, _, 0, .int (p : Nat), rfl, rfl, SqT.of h1, atI_nat (j := 0) rfl, _, rfl, s, _, 1, .int (b : Nat), rfl, rfl, SqT.of h2, rfl, (p : Int), (b : Int), rfl, rfl, .inl ⟨by omega, by omega⟩, ?_⟩
      refine ⟨_, rfl, s, _, 0, .int (a : Nat), rfl, rfl, SqT.of h2, rfl, _, rfl, r, _, 1, .int (q : Nat), rfl, rfl, SqT.of h1, atI_nat (j := 1) rfl, (a : Int), (q : Int), rfl, rfl, .inr ⟨by omega, by omega⟩, rfl, ?_⟩
      rw [dec_int, show (((p : Nat) : Int) * (b : Nat) == ((a : Nat) : Int) * (q : Nat)) = true by rw [beq_iff_eq, ← Int.natCast_mul, ← Int.natCast_mul, e]]
      exact k
theorem sc_within : FnScope ["_law_part", "_law_piece", "_law_place"] ["_law_part", "_law_piece"] (defScope s_L_within) := ⟨rfl, rfl, rfl, by decide +kernel, rfl, by decide +kernel, by decide +kernel⟩
def sp_within : Sp := fun vs H Q _ => ∃ (a b : Addr) (xs ys : List Str), vs = [.ref a, .ref b] ∧ H a = some (.lst (xs.map V.str)) ∧ H b = some (.lst (ys.map V.str)) ∧ xs.length ≤ 1000 ∧ ∀ H', Same H H' → Q (.bl (xs.all fun x => decide (x ∈ ys))) H'
theorem has_within (X : Txt K mg) (N : Fns K) : Has P w K mg base (He.ga K "_law_within") 1 ["_law_part", "_law_piece"] sp_within := by
  refine has_mk N.f_L_within sc_within (fun vs H Q E h => ?_) (fun _ _ _ _ _ _ us hl => match us, hl with | [_, _], _ => rfl) (fun cdv A outer s H vs Q E hr h => ?_)
  · obtain ⟨a, b, xs, ys, rfl, _⟩ := h; rfl
  · obtain ⟨a, b, xs, ys, rfl, ha, hb, lx, k⟩ := h
    refine ⟨_, pss_one (ps_ret (pe_b1 (cr_all rfl) X.f_all (pe_lc (own := [("_law_place", 2)]) (g := gName 2) (tt := tYes) (te := tOp (rIn K false) (tVar 2) (tVar 1)) rfl sc_within.nd (pi_list (pv 0)) (blkOk_by (N := ["_law_part", "_law_piece", "_law_place"]) (sc := defScope s_L_within) (by decide +kernel)) (fun _ _ _ _ _ => pg_name (i := 2) sc_within.nd rfl (Or.inl rfl)) (fun _ _ _ _ _ => pts_nil) (fun _ _ _ _ _ => pe_cmpR op_in_seq (pv 2) (pv 1) (by rfl))))), ?_⟩
    refine ⟨_, rfl, a, rfl, ⟨_, SqL.of ha⟩, fun D hD => ?_⟩
    refine lc_pure (as := xs) (f := V.str) (p := fun _ => true) (out := fun x => V.bl (decide (x ∈ ys))) row_list hD (fun _ q => q.seq (SqL.of ha)) (small_line (by omega)) (fun x H' hx q Kt Kf k1 k2 => ?_) fun H' q hL => ?_
    · refine ⟨rfl, _, rfl, _, rfl, b, _, rfl, .inl (SqL.of (q _ _ hb)), rfl, flat_strs _, ?_⟩
      rw [in_strs]
      exact k1 rfl _ (Same.refl _)
    · refine ⟨D, xs.map fun x => decide (x ∈ ys), rfl, SqL.of (by rw [hL, List.filter_eq_self.mpr (by simp), List.map_map]; rfl), ?_⟩
      rw [show ((xs.map fun x => decide (x ∈ ys)).all id) = xs.all fun x => decide (x ∈ ys) by rw [List.all_map]; rfl]
      exact k _ q
end
end Bf
namespace Bf
open PySem PySem.Spec PyProof.Rows L2
/-- a list of tuples of texts -/
def TLs (H : Hp) (a : Addr) (qs : List (Addr × List Str)) : Prop := H a = some (.lst (qs.map fun q => .ref q.1)) ∧ ∀ q, q ∈ qs → H q.1 = some (.tup (q.2.map V.str))
theorem TLs.same {H H1 : Hp} {a : Addr} {qs : List (Addr × List Str)} (h : TLs H a qs) (k : Same H H1) : TLs H1 a qs := ⟨k _ _ h.1, fun q hq => k _ _ (h.2 q hq)⟩
theorem tups_shaped {l : List Str} (h : ∀ t, t ∈ l → PyData.strOk t = true) : SeqAt.shaped (.tuple (l.map PyData.str)) = true := by
  have h1 := strs_deep l
  show (PyData.canLay0 (.tuple (l.map PyData.str)) && decide (PyData.depth (.tuple (l.map PyData.str)) ≤ 64)) = true
  rw [Bool.and_eq_true]
  refine ⟨by simp only [PyData.canLay0]; exact strs_lay h, decide_eq_true ?_⟩
  simp only [PyData.depth]
  omega
theorem lotsK_len (lt : Str → Str → Bool) (S : List Str) : ∀ k, (BfM.lotsK lt S k).length ≤ S.length ^ k
  | 0 => Nat.le_refl _
  | k + 1 => by
    have ih := lotsK_len lt S k
    have one : ∀ l : List (List Str), (l.flatMap (BfM.lotOne lt S)).length ≤ l.length * S.length := fun l => by
      induction l with
      | nil => simp
      | cons a l ih =>
        rw [List.flatMap_cons, List.length_append, List.length_cons, Nat.add_mul, Nat.one_mul]
        have : (BfM.lotOne lt S a).length ≤ S.length := by
          unfold BfM.lotOne
          rw [List.length_map]
          exact List.length_filter_le _ _
        omega
    rw [Nat.pow_succ]
    exact Nat.le_trans (one _) (Nat.mul_le_mul_right _ ih)
theorem lotOne_len (lt : Str → Str → Bool) (S : List Str) (a : List Str) : (BfM.lotOne lt S a).length ≤ S.length := by
  unfold BfM.lotOne
  rw [List.length_map]
  exact List.length_filter_le _ _
section
variable {P : Program} {w : World} {K : PySem.W.Frag} {mg : Str → Option Value} {base : Heap}
theorem sc_lots : FnScope ["_law_things", "_law_many", "_law_found", "_law_k", "_law_longer", "_law_lot", "_law_thing"] ["_law_things", "_law_many"] (defScope s_L_lots) := ⟨rfl, rfl, rfl, by decide +kernel, rfl, by decide +kernel, by decide +kernel⟩
def sp_lots : Sp := fun vs H Q _ => ∃ (pl : Addr) (ps S : List Str) (k : Nat), vs = [.ref pl, .int (k : Nat)] ∧ H pl = some (.lst (ps.map V.str)) ∧ ps.Nodup ∧ ps.length ≤ 5 ∧ k ≤ 5 ∧ (∀ t, t ∈ ps → PyData.strOk t = true) ∧ Rising S ∧ (∀ t, t ∈ S ↔ t ∈ ps) ∧
  ∀ H' a qs, Same H H' → TLs H' a qs → qs.map (·.2) = BfM.lotsK lts S k → Q (.ref a) H'
theorem has_lots (X : Txt K mg) (N : Fns K) : Has P w K mg base (He.ga K "_law_lots") 1 ["_law_things", "_law_many"] sp_lots := by
  refine has_mk N.f_L_lots sc_lots (fun vs H Q E h => ?_) (fun _ _ _ _ _ _ us hl => match us, hl with | [_, _], _ => rfl) (fun cdv A outer s H vs Q E hr h => ?_)
  · obtain ⟨pl, ps, S, k, rfl, _⟩ := h; rfl
  · obtain ⟨pl, ps, S, m, rfl, hp, ndp, lp, lm, low, rS, mS, k⟩ := h
    refine ⟨_, pss_cons (ps_set (i := 2) sc_lots.nd rfl (Or.inl rfl) (pe_lst (pa_cons (pe_tup pa_nil) pa_nil)))
      (pss_cons (ps_for PassesOwn.never rfl (pi_range1 (by rfl) X.f_range (pa_cons (pv 1) pa_nil)) (pg_name (i := 3) sc_lots.nd rfl (Or.inl rfl))
        (pss_cons (ps_set (i := 4) sc_lots.nd rfl (Or.inl rfl) (pe_lst pa_nil))
        (pss_cons (ps_for PassesOwn.never rfl (pi_list (pv 2)) (pg_name (i := 5) sc_lots.nd rfl (Or.inr rfl))
          (pss_one (ps_set (i := 4) sc_lots.nd rfl (Or.inl rfl) (pe_op op_cat (pv 4) (pe_lc (own := [("_law_thing", 6)]) (g := gName 6) (tt := tOr (tTest (tOp (rEqD K) (tVar 5) (tTup tNil))) (tTest (tOp (fun x y H Q => ∃ i j, x = .str i ∧ y = .str j ∧ Q (.bl (decide (j.cps.toList < i.cps.toList))) H) (tVar 6) (tOp (rIxT K) (tVar 5) (tUn (rU fun i => .int (-i)) (tC (.int 1))))))) (te := tOp (rCatA K) (tVar 5) (tTup (tCons (tVar 6) tNil))) rfl sc_lots.nd (pi_list (pe_b1 cr_sortedS X.f_sorted (pv 0))) (blkOk_by (N := ["_law_things", "_law_many", "_law_found", "_law_k", "_law_longer", "_law_lot", "_law_thing"]) (sc := defScope s_L_lots) (by decide +kernel)) (fun _ _ _ _ _ => pg_name (i := 6) sc_lots.nd rfl (Or.inl rfl))
            (fun _ _ _ _ _ => pts_one (PW.pt (pw_or (pt_cmpR (op_eqD (hu64 hr)) (pv 5) (pe_tup pa_nil) (by rfl)) (pw_or1 (pt_cmpR op_gt_str (pv 6) (pe_ix ix_tup (pv 5) (pe_un un_neg pe_int) (fun _ _ => rfl)) (by rfl)))))) (fun _ _ _ _ _ => pe_op op_catA (pv 5) (pe_tup (pa_cons (pv 6) pa_nil))))))))
        (pss_one (ps_set (i := 2) sc_lots.nd rfl (Or.inl rfl) (pv 4))))))
      (pss_one (ps_ret (pv 2)))), ?_⟩
    refine ⟨small_le (by simp), fun e0 he0 => ⟨small_le (by simp), fun f0 hf0 => ?_⟩⟩
    have s0 : Same H (upd (upd H e0 (.tup [])) f0 (.lst [.ref e0])) := (Same.new he0).put ((Same.new he0).free hf0)
    have ne0 : e0 ≠ f0 := fun z => by subst z; rw [upd_same] at hf0; cases hf0
    have lS : S.length ≤ 5 := by
      have := BfM.nodup_len rS.nodup (m := ps) fun t ht => (mS t).mp ht
      omega
    have lowS : ∀ t, t ∈ S → PyData.strOk t = true := fun t ht => low t ((mS t).mp ht)
    have lk : ∀ j, j ≤ 5 → (BfM.lotsK lts S j).length ≤ 3125 := fun j hj => by
      refine Nat.le_trans (lotsK_len lts S j) ?_
      refine Nat.le_trans (Nat.pow_le_pow_left lS j) ?_
      exact Nat.le_trans (Nat.pow_le_pow_right (n := 5) (by decide) hj) (by decide)
    refine ⟨_, rfl, (m : Int), rfl, by omega, by omega, ?_⟩
    refine for_row (row_range (n := m)) (fun i σ H' => Same H H' ∧ ∃ (fo : Addr) (qs : List (Addr × List Str)) (u3 u4 u5 u6 : Option V), σ = [some (.ref pl), some (.int (m : Nat)), some (.ref fo), u3, u4, u5, u6] ∧ TLs H' fo qs ∧ qs.map (·.2) = BfM.lotsK lts S i)
      ⟨s0, f0, [(e0, [])], none, none, none, none, rfl, ⟨upd_same, fun q hq => by rw [List.mem_singleton.mp hq, upd_ne ne0]; exact upd_same⟩, rfl⟩ (fun _ _ _ _ _ => trivial) (fun i x σ H' hx q => ?_) (fun σ H' q => ?_)
    · obtain ⟨i', hi', rfl⟩ := get_map hx
      obtain ⟨hi, h2⟩ := List.getElem?_eq_some_iff.mp hi'
      rw [List.length_range] at hi
      obtain ⟨s1, fo, qs, u3, u4, u5, u6, rfl, hq, eqs⟩ := q
      have lq : qs.length ≤ 3125 := by
        have := congrArg List.length eqs
        rw [List.length_map] at this
        have := lk i (by omega)
        omega
      refine ⟨small_le (by simp), fun l0 hl0 => ?_⟩
      have s2 := s1.put (o := .lst []) (s1.free hl0)
      have hq2 := hq.same (Same.new (o := .lst []) hl0)
      refine ⟨_, rfl, fo, rfl, ⟨_, SqL.of hq2.1⟩, ?_⟩
      refine for_row row_list (fun j σ H2 => Same H H2 ∧ TLs H2 fo qs ∧ ∃ (la : Addr) (rs : List (Addr × List Str)) (u5 u6 : Option V), σ = [some (.ref pl), some (.int (m : Nat)), some (.ref fo), some (.int (i' : Nat)), some (.ref la), u5, u6] ∧ TLs H2 la rs ∧ rs.map (·.2) = ((qs.map (·.2)).take j).flatMap (BfM.lotOne lts S) ∧ rs.length ≤ 5 * j)
        ⟨s2, hq2, l0, [], _, _, rfl, ⟨upd_same, fun q hq => by cases hq⟩, by simp, Nat.le_refl _⟩ (fun j σ H2 _ q => SqL.of q.2.1.1) (fun j x σ H2 hx q => ?_) (fun σ H2 q => ?_)
      · obtain ⟨lo, hlo, rfl⟩ := get_map hx
        obtain ⟨s3, hq3, la, rs, u5, u6, rfl, hr3, ers, lrs⟩ := q
        have hlt : j < qs.length := (List.getElem?_eq_some_iff.mp hlo).1
        have hlot := hq3.2 lo (List.mem_of_getElem? hlo)
        have hsub : ∀ t, t ∈ lo.2 → t ∈ S := by
          have : lo.2 ∈ BfM.lotsK lts S i := by rw [← eqs]; exact List.mem_map_of_mem (List.mem_of_getElem? hlo)
          exact (BfM.lots_sound (lt := lts) (fun x y z h1 h2 => lts_trans h1 h2) i lo.2 this).2.2
        have llo : lo.2.length ≤ 5 := by
          have : lo.2 ∈ BfM.lotsK lts S i := by rw [← eqs]; exact List.mem_map_of_mem (List.mem_of_getElem? hlo)
          have := (BfM.lots_sound (lt := lts) (fun x y z h1 h2 => lts_trans h1 h2) i lo.2 this).1
          omega
        refine ⟨_, rfl, _, rfl, pl, ps, rfl, SqL.of (s3 _ _ hp), by omega, fun S' so pmS sortS hso => ?_⟩
        obtain rfl : S' = S := rising_ext (sorted_is pmS sortS ndp).1 rS fun z => by rw [perm_mem pmS, mS]
        have s4 : Same H2 (upd H2 so (.lst (S'.map V.str))) := Same.new hso
        refine ⟨so, rfl, ⟨_, SqL.of upd_same⟩, fun D hD => ?_⟩
        refine lc_row row_list (fun n acc H3 => Same (upd H2 so (.lst (S'.map V.str))) H3 ∧ ∃ ns : List (Addr × List Str), acc = ns.map (fun q => V.ref q.1) ∧ (∀ q, q ∈ ns → q.1 ≠ D ∧ H3 q.1 = some (.tup (q.2.map V.str))) ∧ ns.map (·.2) = BfM.lotOne lts (S'.take n) lo.2) ⟨Same.refl _, [], rfl, (fun q hq => by cases hq), rfl⟩ hD
          (fun n acc H3 o q => let ⟨q, ns, e1, e2, e3⟩ := q; ⟨q.put hD, ns, e1, fun r hr => ⟨(e2 r hr).1, by rw [upd_ne (e2 r hr).1]; exact (e2 r hr).2⟩, e3⟩) (fun n acc H3 q => q.1.seq (SqL.of upd_same)) (small_line (by rw [List.length_map]; omega)) (fun n x acc H3 hx q hL Kt Kf k1 k2 => ?_) fun acc H3 q hL => ?_
        · obtain ⟨t, ht, rfl⟩ := get_map hx
          obtain ⟨s5, ns, rfl, hns, ens⟩ := q
          have hlot3 := s5 _ _ (s4 _ _ hlot)
          have take1 : BfM.lotOne lts (S'.take (n + 1)) lo.2 = BfM.lotOne lts (S'.take n) lo.2 ++ BfM.lotOne lts [t] lo.2 := by
            unfold BfM.lotOne
            rw [take_succ_get ht, List.filter_append, List.map_append]
          have made : ∀ H4 q, Same H3 H4 → q ≠ D → H4 q = some (.tup ((lo.2 ++ [t]).map V.str)) → BfM.lotOne lts [t] lo.2 = [lo.2 ++ [t]] → Kt (.ref q) H4 := fun H4 q s6 nq hq e => by
            refine k1 _ _ ⟨s5.trans s6, ns ++ [(q, lo.2 ++ [t])], by simp, fun r hr => ?_, by rw [take1, e, List.map_append, ens]; rfl⟩ (s6 _ _ hL)
            rcases List.mem_append.mp hr with h | h
            · exact ⟨(hns r h).1, s6 _ _ (hns r h).2⟩
            · rw [List.mem_singleton.mp h]; exact ⟨nq, hq⟩
          have skip : ∀ H4, Same H3 H4 → BfM.lotOne lts [t] lo.2 = [] → Kf H4 := fun H4 s6 e =>
            k2 _ ⟨s5.trans s6, ns, rfl, fun r hr => ⟨(hns r hr).1, s6 _ _ (hns r hr).2⟩, by rw [take1, e, List.append_nil, ens]⟩ (s6 _ _ hL)
          refine ⟨rfl, _, rfl, small_le (by simp), fun e1 he1 => ?_⟩
          have s6 : Same H3 (upd H3 e1 (.tup [])) := Same.new he1
          refine ⟨.tuple (lo.2.map PyData.str), .tuple [], .tup (SqT.of (s6 _ _ hlot3)) (strs_dp _), .tup (SqT.of upd_same) .nil, tups_shaped (fun y hy => lowS y (hsub y hy)), rfl, ?_⟩
          cases elo : lo.2 with
          | nil =>
            refine ⟨true, rfl, iteT (iteT ?_)⟩
            rw [elo] at made hlot3
            refine ⟨_, rfl, _, rfl, small_le (by simp), fun e2 he2 => ?_⟩
            have s7 := s6.put (o := .tup [.str t]) (s6.free he2)
            refine ⟨lo.1, e2, [], [.str t], rfl, rfl, SqT.of (s7 _ _ hlot3), SqT.of upd_same, small_le (by simp), fun _ => ?_, fun h => absurd rfl h, fun h => absurd rfl h⟩
            exact made _ e2 s7 (fun z => by subst z; rw [s6 _ _ hL] at he2; cases he2) upd_same rfl
          | cons y0 ys =>
            have hy : ∃ pre y, lo.2 = pre ++ [y] := ⟨lo.2.dropLast, lo.2.getLast (by rw [elo]; simp), (List.dropLast_concat_getLast _).symm⟩
            obtain ⟨pre, y, epy⟩ := hy
            refine ⟨false, rfl, iteF ?_⟩
            refine ⟨_, rfl, _, rfl, 1, rfl, lo.1, _, (-1 : Int), .str y, rfl, rfl, SqT.of (s6 _ _ hlot3), by rw [epy, List.map_append]; exact atI_last _ _, t, y, rfl, rfl, _, rfl, ?_⟩
            rw [lts_dec]
            have last : lo.2.getLast? = some y := by rw [epy]; simp
            by_cases ly : lts y t = true
            · rw [ly]
              have e1' : BfM.lotOne lts [t] lo.2 = [lo.2 ++ [t]] := by unfold BfM.lotOne; rw [last]; simp [ly]
              refine iteT ⟨_, rfl, _, rfl, small_le (by simp), fun e2 he2 => ?_⟩
              have s7 := s6.put (o := .tup [.str t]) (s6.free he2)
              refine ⟨lo.1, e2, lo.2.map V.str, [.str t], rfl, rfl, SqT.of (s7 _ _ hlot3), SqT.of upd_same, small_le (by rw [List.length_map]; simp; omega), fun h => absurd h (by rw [elo]; simp), fun _ h => absurd h (by simp), fun _ _ p hp => ?_⟩
              have s8 := s7.put (o := .tup (lo.2.map V.str ++ [.str t])) (s7.free hp)
              exact made _ p s8 (fun z => by subst z; rw [s7 _ _ hL] at hp; cases hp) (by rw [upd_same, List.map_append]; rfl) e1'
            · have ly : lts y t = false := by simpa using ly
              rw [ly]
              exact iteF (skip _ s6 (by unfold BfM.lotOne; rw [last]; simp [ly]))
        · rw [List.length_map] at q
          obtain ⟨s5, ns, rfl, hns, ens⟩ := q
          rw [List.take_length] at ens
          have s45 := s4.trans s5
          have lns : ns.length ≤ 5 := by
            have := congrArg List.length ens
            rw [List.length_map] at this
            have := lotOne_len lts S' lo.2
            omega
          refine ⟨la, D, _, _, rfl, rfl, s45 _ _ hr3.1, hL, small_le (by rw [List.length_map, List.length_map]; omega), fun p hp => ?_⟩
          have s6 := s45.put (o := .lst (rs.map (fun q => V.ref q.1) ++ ns.map fun q => V.ref q.1)) (s45.free hp)
          have s7 : Same H3 (upd H3 p (.lst (rs.map (fun q => V.ref q.1) ++ ns.map fun q => V.ref q.1))) := Same.new hp
          refine ⟨s3.trans s6, hq3.same s6, p, rs ++ ns, _, _, rfl, ⟨by rw [upd_same, List.map_append], fun q hq => ?_⟩, ?_, by rw [List.length_append]; omega⟩
          · rcases List.mem_append.mp hq with h | h
            · exact s6 _ _ (hr3.2 q h)
            · exact s7 _ _ (hns q h).2
          · have h2 : (qs.map (·.2))[j]? = some lo.2 := by rw [List.getElem?_map, hlo]; rfl
            rw [List.map_append, ers, ens, take_succ_get h2, List.flatMap_append]
            simp
      · rw [List.length_map] at q
        obtain ⟨s3, hq3, la, rs, u5, u6, rfl, hr3, ers, lrs⟩ := q
        refine ⟨_, rfl, s3, la, rs, _, _, _, _, rfl, hr3, ?_⟩
        rw [ers, List.take_of_length_le (by rw [List.length_map]; exact Nat.le_refl _), eqs]
        rfl
    · rw [List.length_map, List.length_range] at q
      obtain ⟨s1, fo, qs, u3, u4, u5, u6, rfl, hq, eqs⟩ := q
      exact ⟨_, rfl, k H' fo qs s1 hq eqs⟩
end
end Bf
namespace Bf
open PySem PySem.Spec PyProof.Rows L2
/-- all lots of places, up to k things -/
def lotsTo (S : List Str) (k : Nat) : List (List Str) := (List.range k).flatMap fun j => BfM.lotsK lts S j
/-- a list of partings: lists of lists of texts -/
def Ps (H : Hp) (a : Addr) (gs : List (Addr × List (Addr × List Str))) : Prop := H a = some (.lst (gs.map fun g => .ref g.1)) ∧ ∀ g, g ∈ gs → LLs H g.1 g.2
theorem Ps.same {H H1 : Hp} {a : Addr} {gs : List (Addr × List (Addr × List Str))} (h : Ps H a gs) (k : Same H H1) : Ps H1 a gs := ⟨k _ _ h.1, fun g hg => (h.2 g hg).same k⟩
abbrev valP (gs : List (Addr × List (Addr × List Str))) : List (List (List Str)) := gs.map fun g => g.2.map (·.2)
theorem cut_drop {α : Type} {f : α → V} (xs : List α) (i : Nat) (h : i + 1 ≤ xs.length) : cutV (xs.map f) (some ((i : Int) + 1)) none = (xs.drop (i + 1)).map f := by
  unfold cutV
  rw [HT.sIx_none, show ((i : Int) + 1) = ((i + 1 : Nat) : Int) by rw [Int.natCast_add]; rfl, HT.sIx_nat, List.length_map, Nat.min_eq_left h, List.map_drop, List.take_of_length_le (by rw [List.length_drop, List.length_map]; exact Nat.le_refl _)]
theorem Ps.add {H0 H1 H2 : Hp} {l0 : Addr} {rs : List (Addr × List (Addr × List Str))} {g : Addr × List (Addr × List Str)} (s : Same H0 H1) (n : H0 l0 = none) (h : Ps H1 l0 rs) (far : ∀ r, r ∈ rs → r.1 ≠ l0 ∧ ∀ t, t ∈ r.2 → t.1 ≠ l0) (k : Same H1 H2) (hg : LLs H2 g.1 g.2) (fg : g.1 ≠ l0 ∧ ∀ t, t ∈ g.2 → t.1 ≠ l0) :
    Same H0 (upd H2 l0 (.lst (rs.map (fun g => V.ref g.1) ++ [.ref g.1]))) ∧ Ps (upd H2 l0 (.lst (rs.map (fun g => V.ref g.1) ++ [.ref g.1]))) l0 (rs ++ [g]) := by
  refine ⟨(s.trans k).put n, by rw [upd_same, List.map_append]; rfl, fun r hr => ?_⟩
  have up : ∀ r : Addr × List (Addr × List Str), LLs H2 r.1 r.2 → r.1 ≠ l0 → (∀ t, t ∈ r.2 → t.1 ≠ l0) → LLs (upd H2 l0 (.lst (rs.map (fun g => V.ref g.1) ++ [.ref g.1]))) r.1 r.2 := fun r hr n1 n2 => ⟨by rw [upd_ne n1]; exact hr.1, fun t ht => by rw [upd_ne (n2 t ht)]; exact hr.2 t ht⟩
  rcases List.mem_append.mp hr with e | e
  · exact up r ((h.2 r e).same k) (far r e).1 (far r e).2
  · rw [List.mem_singleton.mp e]; exact up g hg fg.1 fg.2
theorem set_cut {α : Type} {l : List α} {n : Nat} {x : α} (h : n < l.length) : l.take n ++ [x] ++ l.drop (n + 1) = l.set n x := by
  rw [List.set_eq_take_append_cons_drop, if_pos h, List.append_assoc]; rfl
section
variable {P : Program} {w : World} {K : PySem.W.Frag} {mg : Str → Option Value} {base : Heap}
theorem sc_all_lots : FnScope ["_law_things", "_law_found", "_law_many"] ["_law_things"] (defScope s_L_all_lots) := ⟨rfl, rfl, rfl, by decide +kernel, rfl, by decide +kernel, by decide +kernel⟩
def sp_all_lots : Sp := fun vs H Q _ => ∃ (pl : Addr) (ps S : List Str), vs = [.ref pl] ∧ H pl = some (.lst (ps.map V.str)) ∧ ps.Nodup ∧ ps.length ≤ 5 ∧ (∀ t, t ∈ ps → PyData.strOk t = true) ∧ Rising S ∧ (∀ t, t ∈ S ↔ t ∈ ps) ∧
  ∀ H' a qs, Same H H' → TLs H' a qs → qs.map (·.2) = lotsTo S (ps.length + 1) → qs.length ≤ 100000 → Q (.ref a) H'
theorem has_all_lots (X : Txt K mg) (N : Fns K) : Has P w K mg base (He.ga K "_law_all_lots") 2 ["_law_things"] sp_all_lots := by
  refine has_mk N.f_L_all_lots sc_all_lots (fun vs H Q E h => ?_) (fun _ _ _ _ _ _ us hl => match us, hl with | [_], _ => rfl) (fun cdv A outer s H vs Q E hr h => ?_)
  · obtain ⟨pl, ps, S, rfl, _⟩ := h; rfl
  · obtain ⟨pl, ps, S, rfl, hp, ndp, lp, low, rS, mS, k⟩ := h
    refine ⟨_, pss_cons (ps_set (i := 1) sc_all_lots.nd rfl (Or.inl rfl) (pe_lst pa_nil))
      (pss_cons (ps_for PassesOwn.never rfl (pi_range1 (by rfl) X.f_range (pa_cons (pe_op op_add (pe_b1 call_len_seq X.f_len (pv 0)) pe_int) pa_nil)) (pg_name (i := 2) sc_all_lots.nd rfl (Or.inl rfl)) (pss_one (ps_set (i := 1) sc_all_lots.nd rfl (Or.inl rfl) (pe_op op_cat (pv 1) (pe_ca (has_lots X N) X.g_L_lots hr (pa_cons (pv 0) (pa_cons (pv 2) pa_nil)))))))
      (pss_one (ps_ret (pv 1)))), ?_⟩
    refine ⟨small_le (by simp), fun l0 hl0 => ?_⟩
    have lS : S.length ≤ 5 := by
      have := BfM.nodup_len rS.nodup (m := ps) fun t ht => (mS t).mp ht
      omega
    have lk : ∀ j, j ≤ 5 → (BfM.lotsK lts S j).length ≤ 3125 := fun j hj => by
      refine Nat.le_trans (lotsK_len lts S j) ?_
      refine Nat.le_trans (Nat.pow_le_pow_left lS j) ?_
      exact Nat.le_trans (Nat.pow_le_pow_right (n := 5) (by decide) hj) (by decide)
    refine ⟨_, rfl, pl, _, rfl, .inl (SqL.of ((Same.new hl0) _ _ hp)), _, 1, rfl, rfl, ((ps.length + 1 : Nat) : Int), by rw [List.length_map, Int.natCast_add]; rfl, by omega, by omega, ?_⟩
    refine for_row (row_range (n := ps.length + 1)) (fun i σ H' => Same H H' ∧ ∃ (a : Addr) (qs : List (Addr × List Str)) (u2 : Option V), σ = [some (.ref pl), some (.ref a), u2] ∧ TLs H' a qs ∧ qs.map (·.2) = lotsTo S i ∧ qs.length ≤ 3125 * i)
      ⟨Same.new hl0, l0, [], none, rfl, ⟨upd_same, fun q hq => by cases hq⟩, rfl, Nat.zero_le _⟩ (fun _ _ _ _ _ => trivial) (fun i x σ H' hx q => ?_) (fun σ H' q => ?_)
    · obtain ⟨i', hi', rfl⟩ := get_map hx
      obtain ⟨hi, h2⟩ := List.getElem?_eq_some_iff.mp hi'
      rw [List.length_range] at hi
      rw [List.getElem_range] at h2
      subst h2
      obtain ⟨s1, a, qs, u2, rfl, hq, eqs, lq⟩ := q
      refine ⟨_, rfl, _, rfl, _, rfl, pl, ps, S, i, rfl, s1 _ _ hp, ndp, lp, by omega, low, rS, mS, fun H2 b rs s2 hr er => ?_⟩
      have lr : rs.length ≤ 3125 := by
        have := congrArg List.length er
        rw [List.length_map] at this
        have := lk i (by omega)
        omega
      refine ⟨a, b, _, _, rfl, rfl, s2 _ _ hq.1, hr.1, small_le (by rw [List.length_map, List.length_map]; omega), fun p hp2 => ?_⟩
      have s3 := s2.put (o := .lst (qs.map (fun q => V.ref q.1) ++ rs.map fun q => V.ref q.1)) (s2.free hp2)
      have s4 : Same H2 (upd H2 p (.lst (qs.map (fun q => V.ref q.1) ++ rs.map fun q => V.ref q.1))) := Same.new hp2
      refine ⟨s1.trans s3, p, qs ++ rs, _, rfl, ⟨by rw [upd_same, List.map_append], fun q hq' => ?_⟩, ?_, by rw [List.length_append]; omega⟩
      · rcases List.mem_append.mp hq' with h | h
        · exact s3 _ _ (hq.2 q h)
        · exact s4 _ _ (hr.2 q h)
      · unfold lotsTo
        rw [List.map_append, eqs, er, List.range_succ, List.flatMap_append]
        simp [lotsTo]
    · rw [List.length_map, List.length_range] at q
      obtain ⟨s1, a, qs, u2, rfl, hq, eqs, lq⟩ := q
      exact ⟨_, rfl, k H' a qs s1 hq eqs (by omega)⟩
theorem sc_partings : FnScope ["_law_places", "_law_found", "_law_place", "_law_longer", "_law_parts", "_law_k"] ["_law_places"] (defScope s_L_partings) := ⟨rfl, rfl, rfl, by decide +kernel, rfl, by decide +kernel, by decide +kernel⟩
def sp_partings : Sp := fun vs H Q _ => ∃ (pl : Addr) (ps : List Str), vs = [.ref pl] ∧ H pl = some (.lst (ps.map V.str)) ∧ ps.length ≤ 5 ∧
  ∀ H' a gs, Same H H' → Ps H' a gs → valP gs = BfM.partings ps → gs.length ≤ 100000 → (∀ g, g ∈ gs → g.2.length ≤ 5 ∧ ∀ t, t ∈ g.2 → t.2.length ≤ 5) → Q (.ref a) H'
theorem has_partings (X : Txt K mg) (N : Fns K) : Has P w K mg base (He.ga K "_law_partings") 1 ["_law_places"] sp_partings := by
  refine has_mk N.f_L_partings sc_partings (fun vs H Q E h => ?_) (fun _ _ _ _ _ _ us hl => match us, hl with | [_], _ => rfl) (fun cdv A outer s H vs Q E hr h => ?_)
  · obtain ⟨pl, ps, rfl, _⟩ := h; rfl
  · obtain ⟨pl, ps, rfl, hp, lp, k⟩ := h
    refine ⟨_, pss_cons (ps_set (i := 1) sc_partings.nd rfl (Or.inl rfl) (pe_lst (pa_cons (pe_lst pa_nil) pa_nil)))
      (pss_cons (ps_for PassesOwn.never rfl (pi_list (pv 0)) (pg_name (i := 2) sc_partings.nd rfl (Or.inl rfl))
        (pss_cons (ps_set (i := 3) sc_partings.nd rfl (Or.inl rfl) (pe_lst pa_nil))
        (pss_cons (ps_for PassesOwn.never rfl (pi_list (pv 1)) (pg_name (i := 4) sc_partings.nd rfl (Or.inl rfl))
          (pss_cons (ps_expr (pe_bm PySem.F.plainAttrs_list PySem.F.slot_list_append PySem.F.type_list_append mt_append (pv 3) (pa_cons (pe_op op_cat (pv 4) (pe_lst (pa_cons (pe_lst (pa_cons (pv 2) pa_nil)) pa_nil))) pa_nil)))
          (pss_one (ps_for PassesOwn.never rfl (pi_range1 (by rfl) X.f_range (pa_cons (pe_b1 call_len_seq X.f_len (pv 4)) pa_nil)) (pg_name (i := 5) sc_partings.nd rfl (Or.inl rfl))
            (pss_one (ps_expr (pe_bm PySem.F.plainAttrs_list PySem.F.slot_list_append PySem.F.type_list_append mt_append (pv 3) (pa_cons (pe_op op_cat (pe_op op_cat (pe_slice sl_list (pv 4) po_none (po_some (pv 5))) (pe_lst (pa_cons (pe_op op_cat (pe_ix ix_list (pv 4) (pv 5) (fun _ _ => rfl)) (pe_lst (pa_cons (pv 2) pa_nil))) pa_nil))) (pe_slice sl_list (pv 4) (po_some (pe_op op_add (pv 5) pe_int)) po_none)) pa_nil))))))))
        (pss_one (ps_set (i := 1) sc_partings.nd rfl (Or.inl rfl) (pv 3))))))
      (pss_one (ps_ret (pv 1)))), ?_⟩
    refine ⟨small_le (by simp), fun e0 he0 => ⟨small_le (by simp), fun f0 hf0 => ?_⟩⟩
    have s0 : Same H (upd (upd H e0 (.lst [])) f0 (.lst [.ref e0])) := (Same.new he0).put ((Same.new he0).free hf0)
    have ne0 : e0 ≠ f0 := fun z => by subst z; rw [upd_same] at hf0; cases hf0
    refine ⟨_, rfl, pl, rfl, ⟨_, SqL.of (s0 _ _ hp)⟩, ?_⟩
    refine for_row row_list (fun i σ H' => Same H H' ∧ ∃ (fo : Addr) (gs : List (Addr × List (Addr × List Str))) (u2 u3 u4 u5 : Option V), σ = [some (.ref pl), some (.ref fo), u2, u3, u4, u5] ∧ Ps H' fo gs ∧ valP gs = BfM.partings (ps.take i) ∧ gs.length ≤ 6 ^ i ∧ ∀ g, g ∈ gs → g.2.length ≤ i ∧ ∀ t, t ∈ g.2 → t.2.length ≤ i)
      ⟨s0, f0, [(e0, [])], none, none, none, none, rfl, ⟨upd_same, fun g hg => by rw [List.mem_singleton.mp hg]; exact ⟨by rw [upd_ne ne0]; exact upd_same, fun t ht => by cases ht⟩⟩, rfl, Nat.le_refl _, fun g hg => by rw [List.mem_singleton.mp hg]; exact ⟨Nat.le_refl _, fun t ht => by cases ht⟩⟩ (fun i σ H' _ q => q.1.seq (SqL.of hp)) (fun i x σ H' hx q => ?_) (fun σ H' q => ?_)
    · obtain ⟨pc, hpc, rfl⟩ := get_map hx
      obtain ⟨s1, fo, gs, u2, u3, u4, u5, rfl, hg, egs, lg, bg⟩ := q
      have hi : i < 5 := Nat.lt_of_lt_of_le (List.getElem?_eq_some_iff.mp hpc).1 lp
      have l6 : 6 ^ i ≤ 1296 := Nat.le_trans (Nat.pow_le_pow_right (by decide) (by omega : i ≤ 4)) (by decide)
      refine ⟨small_le (by simp), fun l0 hl0 => ?_⟩
      have s2 := s1.put (o := .lst []) (s1.free hl0)
      have hl00 := s1.free hl0
      refine ⟨_, rfl, fo, rfl, ⟨_, SqL.of ((Same.new hl0) _ _ hg.1)⟩, ?_⟩
      refine for_row row_list (fun j σ H2 => Same H' H2 ∧ ∃ (rs : List (Addr × List (Addr × List Str))) (u4 u5 : Option V), σ = [some (.ref pl), some (.ref fo), some (.str pc), some (.ref l0), u4, u5] ∧ Ps H2 l0 rs ∧ valP rs = ((valP gs).take j).flatMap (fun parts => BfM.partsOne parts pc) ∧ rs.length ≤ 6 * j ∧ (∀ g, g ∈ rs → g.1 ≠ l0 ∧ (∀ t, t ∈ g.2 → t.1 ≠ l0) ∧ g.2.length ≤ i + 1 ∧ ∀ t, t ∈ g.2 → t.2.length ≤ i + 1))
        ⟨Same.new hl0, [], _, _, rfl, ⟨upd_same, fun g hg => by cases hg⟩, by simp, Nat.le_refl _, fun g hg => by cases hg⟩ (fun j σ H2 _ q => q.1.seq (SqL.of hg.1)) (fun j x σ H2 hx q => ?_) (fun σ H2 q => ?_)
      · obtain ⟨g, hgj, rfl⟩ := get_map hx
        obtain ⟨s3, rs, u4, u5, rfl, hr3, ers, lrs, brs⟩ := q
        have hjl : j < gs.length := (List.getElem?_eq_some_iff.mp hgj).1
        have hgm := List.mem_of_getElem? hgj
        have hgp0 := hg.2 g hgm
        have bgg := bg g hgm
        have far : ∀ r, r ∈ rs → r.1 ≠ l0 ∧ ∀ t, t ∈ r.2 → t.1 ≠ l0 := fun r hr => ⟨(brs r hr).1, (brs r hr).2.1⟩
        have gl : g.1 ≠ l0 ∧ ∀ t, t ∈ g.2 → t.1 ≠ l0 := ⟨ne_of_none hgp0.1 hl0, fun t ht => ne_of_none (hgp0.2 t ht) hl0⟩
        have hgp := hgp0.same s3
        refine ⟨_, rfl, .inl ⟨rfl, _, SqL.of hr3.1⟩, _, rfl, _, rfl, small_le (by simp), fun a1 ha1 => ⟨small_le (by simp), fun a2 ha2 => ?_⟩⟩
        have t1 : Same H2 (upd H2 a1 (.lst [.str pc])) := Same.new ha1
        have t2 := t1.put (o := .lst [.ref a1]) (t1.free ha2)
        refine ⟨g.1, a2, _, _, rfl, rfl, t2 _ _ hgp.1, upd_same, small_le (by rw [List.length_map]; simp; omega), fun p hpn => ?_⟩
        have t3 := t2.put (o := .lst (g.2.map (fun t => V.ref t.1) ++ [.ref a1])) (t2.free hpn)
        have ha1' : (upd (upd (upd H2 a1 (.lst [.str pc])) a2 (.lst [.ref a1])) p (.lst (g.2.map (fun t => V.ref t.1) ++ [.ref a1]))) a1 = some (.lst [.str pc]) := by
          have n1 : a1 ≠ a2 := fun z => by subst z; rw [upd_same] at ha2; cases ha2
          have n2 : a1 ≠ p := fun z => by subst z; rw [upd_ne n1, upd_same] at hpn; cases hpn
          rw [upd_ne n2, upd_ne n1]; exact upd_same
        refine ⟨l0, _, _, rfl, rfl, t3 _ _ hr3.1, small_line (by rw [List.length_map]; omega), ?_⟩
        have L1 : LLs (upd (upd (upd H2 a1 (.lst [.str pc])) a2 (.lst [.ref a1])) p (.lst (g.2.map (fun t => V.ref t.1) ++ [.ref a1]))) p (g.2 ++ [(a1, [pc])]) := ⟨by rw [upd_same, List.map_append]; rfl, fun t ht => by
          rcases List.mem_append.mp ht with h | h
          · exact t3 _ _ (hgp.2 t h)
          · rw [List.mem_singleton.mp h]; exact ha1'⟩
        have pl0 : p ≠ l0 := fun z => by subst z; rw [t2 _ _ hr3.1] at hpn; cases hpn
        have al0 : a1 ≠ l0 := fun z => by subst z; rw [hr3.1] at ha1; cases ha1
        obtain ⟨A1, A2⟩ := Ps.add s3 hl0 hr3 far t3 (g := (p, g.2 ++ [(a1, [pc])])) L1 ⟨pl0, fun t ht => by
          rcases List.mem_append.mp ht with h | h
          · exact gl.2 t h
          · rw [List.mem_singleton.mp h]; exact al0⟩
        revert A1 A2
        generalize (upd (upd (upd (upd H2 a1 (.lst [.str pc])) a2 (.lst [.ref a1])) p (.lst (g.2.map (fun t => V.ref t.1) ++ [.ref a1]))) l0 (.lst (rs.map (fun g => V.ref g.1) ++ [.ref p]))) = H3
        intro A1 A2
        have gj : (valP gs)[j]? = some (g.2.map (·.2)) := by rw [List.getElem?_map, hgj]; rfl
        refine ⟨_, rfl, g.1, _, rfl, .inl (SqL.of (hgp0.same A1).1), (g.2.length : Int), by rw [List.length_map], by omega, by omega, ?_⟩
        refine for_row (row_range (n := g.2.length)) (fun n σ H4 => Same H' H4 ∧ ∃ (rs' : List (Addr × List (Addr × List Str))) (u5 : Option V), σ = [some (.ref pl), some (.ref fo), some (.str pc), some (.ref l0), some (.ref g.1), u5] ∧ Ps H4 l0 rs' ∧ valP rs' = valP rs ++ ((g.2.map (·.2) ++ [[pc]]) :: (List.range n).map fun k => (g.2.map (·.2)).set k ((g.2.map (·.2)).getD k [] ++ [pc])) ∧ rs'.length ≤ 6 * j + 1 + n ∧ (∀ g, g ∈ rs' → g.1 ≠ l0 ∧ (∀ t, t ∈ g.2 → t.1 ≠ l0) ∧ g.2.length ≤ i + 1 ∧ ∀ t, t ∈ g.2 → t.2.length ≤ i + 1))
          ⟨A1, rs ++ [(p, g.2 ++ [(a1, [pc])])], _, rfl, A2, by simp, by rw [List.length_append]; simp; omega, fun r hr => ?_⟩ (fun _ _ _ _ _ => trivial) (fun n x σ H4 hx q => ?_) (fun σ H4 q => ?_)
        · rcases List.mem_append.mp hr with h | h
          · exact brs r h
          · rw [List.mem_singleton.mp h]
            refine ⟨pl0, fun t ht => ?_, by rw [List.length_append]; simp; omega, fun t ht => ?_⟩
            · rcases List.mem_append.mp ht with h | h
              · exact gl.2 t h
              · rw [List.mem_singleton.mp h]; exact al0
            · rcases List.mem_append.mp ht with h | h
              · have := bgg.2 t h; omega
              · rw [List.mem_singleton.mp h]; simp
        · obtain ⟨n', hn', rfl⟩ := get_map hx
          obtain ⟨hn, h2⟩ := List.getElem?_eq_some_iff.mp hn'
          rw [List.length_range] at hn
          rw [List.getElem_range] at h2
          subst h2
          obtain ⟨s4, rs', u5, rfl, hr4, er4, lr4, br4⟩ := q
          have hgp4 := hgp0.same s4
          have htn : g.2[n]? = some g.2[n] := List.getElem?_eq_getElem hn
          have htm := List.getElem_mem hn
          have ht4 := hgp4.2 _ htm
          have lt4 := bgg.2 _ htm
          refine ⟨_, rfl, .inl ⟨rfl, _, SqL.of hr4.1⟩, _, rfl, _, rfl, (n : Int), rfl, g.1, _, rfl, SqL.of hgp4.1, fun b1 hb1 => ?_⟩
          rw [cut_take g.2 n (by omega)] 
          have k1 : Same H4 (upd H4 b1 (.lst ((g.2.take n).map fun t => V.ref t.1))) := Same.new hb1
          refine ⟨_, rfl, _, rfl, g.1, _, (n : Int), .ref g.2[n].1, rfl, rfl, SqL.of (k1 _ _ hgp4.1), atI_nat (by rw [List.getElem?_map, htn]; rfl), _, rfl, small_le (by simp), fun b2 hb2 => ?_⟩
          have k2 := k1.put (o := .lst [.str pc]) (k1.free hb2)
          refine ⟨g.2[n].1, b2, _, _, rfl, rfl, k2 _ _ ht4, upd_same, small_le (by rw [List.length_map]; simp; omega), fun b3 hb3 => ?_⟩
          have k3 := k2.put (o := .lst (g.2[n].2.map V.str ++ [.str pc])) (k2.free hb3)
          refine ⟨small_le (by simp), fun b4 hb4 => ?_⟩
          have k4 := k3.put (o := .lst [.ref b3]) (k3.free hb4)
          have w12 := Same.new (o := .lst [.str pc]) hb2
          have w13 := w12.put (o := .lst (g.2[n].2.map V.str ++ [.str pc])) (w12.free hb3)
          have w14 := w13.put (o := .lst [.ref b3]) (w13.free hb4)
          refine ⟨b1, b4, _, _, rfl, rfl, w14 _ _ upd_same, upd_same, small_le (by rw [List.length_map]; have := List.length_take_le' n g.2; simp; omega), fun b5 hb5 => ?_⟩
          have k5 := k4.put (o := .lst ((g.2.take n).map (fun t => V.ref t.1) ++ [.ref b3])) (k4.free hb5)
          refine ⟨_, rfl, _, rfl, (n : Int), 1, rfl, rfl, _, rfl, g.1, _, rfl, SqL.of (k5 _ _ hgp4.1), fun b6 hb6 => ?_⟩
          rw [cut_drop g.2 n (by omega)]
          have k6 := k5.put (o := .lst ((g.2.drop (n + 1)).map fun t => V.ref t.1)) (k5.free hb6)
          have v56 := Same.new (o := .lst ((g.2.drop (n + 1)).map fun t => V.ref t.1)) hb6
          refine ⟨b5, b6, _, _, rfl, rfl, v56 _ _ upd_same, upd_same, small_le (by rw [List.length_append, List.length_map, List.length_map, List.length_drop]; have := List.length_take_le' n g.2; simp; omega), fun b7 hb7 => ?_⟩
          have k7 := k6.put (o := .lst ((g.2.take n).map (fun t => V.ref t.1) ++ [.ref b3] ++ (g.2.drop (n + 1)).map fun t => V.ref t.1)) (k6.free hb7)
          refine ⟨l0, _, _, rfl, rfl, k7 _ _ hr4.1, small_line (by rw [List.length_map]; omega), ?_⟩
          have h3 : (upd (upd (upd (upd (upd (upd (upd H4 b1 (.lst ((g.2.take n).map fun t => V.ref t.1))) b2 (.lst [.str pc])) b3 (.lst (g.2[n].2.map V.str ++ [.str pc]))) b4 (.lst [.ref b3])) b5 (.lst ((g.2.take n).map (fun t => V.ref t.1) ++ [.ref b3]))) b6 (.lst ((g.2.drop (n + 1)).map fun t => V.ref t.1))) b7 (.lst ((g.2.take n).map (fun t => V.ref t.1) ++ [.ref b3] ++ (g.2.drop (n + 1)).map fun t => V.ref t.1))) b3 = some (.lst ((g.2[n].2 ++ [pc]).map V.str)) := by
            have x4 := Same.new (o := .lst [.ref b3]) hb4
            have x5 := x4.put (o := .lst ((g.2.take n).map (fun t => V.ref t.1) ++ [.ref b3])) (x4.free hb5)
            have x6 := x5.put (o := .lst ((g.2.drop (n + 1)).map fun t => V.ref t.1)) (x5.free hb6)
            have x7 := x6.put (o := .lst ((g.2.take n).map (fun t => V.ref t.1) ++ [.ref b3] ++ (g.2.drop (n + 1)).map fun t => V.ref t.1)) (x6.free hb7)
            refine x7 _ _ ?_
            rw [upd_same, List.map_append]; rfl
          have b7l : b7 ≠ l0 := fun z => by subst z; rw [k6 _ _ hr4.1] at hb7; cases hb7
          have b3l : b3 ≠ l0 := fun z => by subst z; rw [k2 _ _ hr4.1] at hb3; cases hb3
          have mem3 : ∀ t, t ∈ g.2.take n ++ [(b3, g.2[n].2 ++ [pc])] ++ g.2.drop (n + 1) → t ∈ g.2 ∨ t = (b3, g.2[n].2 ++ [pc]) := fun t ht => by
            rcases List.mem_append.mp ht with h | h
            · rcases List.mem_append.mp h with h | h
              · exact .inl (List.mem_of_mem_take h)
              · exact .inr (List.mem_singleton.mp h)
            · exact .inl (List.mem_of_mem_drop h)
          have far4 : ∀ t, t ∈ g.2.take n ++ [(b3, g.2[n].2 ++ [pc])] ++ g.2.drop (n + 1) → t.1 ≠ l0 := fun t ht => by
            rcases mem3 t ht with h | h
            · exact gl.2 t h
            · rw [h]; exact b3l
          obtain ⟨B1, B2⟩ := Ps.add s4 hl0 hr4 (fun r hr => ⟨(br4 r hr).1, (br4 r hr).2.1⟩) k7 (g := (b7, g.2.take n ++ [(b3, g.2[n].2 ++ [pc])] ++ g.2.drop (n + 1))) ⟨by rw [upd_same, List.map_append, List.map_append]; rfl, fun t ht => by
            rcases mem3 t ht with h | h
            · exact k7 _ _ (hgp4.2 t h)
            · rw [h]; exact h3⟩ ⟨b7l, far4⟩
          refine ⟨B1, _, _, rfl, B2, ?_, by rw [List.length_append]; simp; omega, fun r hr => ?_⟩
          · have e0 : ∀ z : Addr × List (Addr × List Str), valP (rs' ++ [z]) = valP rs' ++ [z.2.map fun t => t.2] := fun z => List.map_append
            have hn2 : n < (g.2.map fun t : Addr × List Str => t.2).length := by rw [List.length_map]; exact hn
            have hXY : ((g.2.take n ++ [(b3, g.2[n].2 ++ [pc])] ++ g.2.drop (n + 1)).map fun t : Addr × List Str => t.2) = (g.2.map fun t : Addr × List Str => t.2).set n ((g.2.map fun t : Addr × List Str => t.2).getD n [] ++ [pc]) := by
              rw [← set_cut hn2, List.map_append, List.map_append, List.map_take, List.map_drop, List.getD_eq_getElem?_getD, List.getElem?_map, htn]
              rfl
            rw [e0, hXY, er4, List.range_succ, List.append_assoc, List.cons_append, List.map_append]
            rfl
          · rcases List.mem_append.mp hr with h | h
            · exact br4 r h
            · rw [List.mem_singleton.mp h]
              refine ⟨b7l, far4, ?_, fun t ht => ?_⟩
              · rw [List.length_append, List.length_append, List.length_take, List.length_drop]
                have := bgg.1
                simp; omega
              · rcases mem3 t ht with h | h
                · have := bgg.2 t h; omega
                · rw [h, List.length_append]; simp; omega
        · rw [List.length_map, List.length_range] at q
          obtain ⟨s4, rs', u5, rfl, hr4, er4, lr4, br4⟩ := q
          refine ⟨s4, rs', _, _, rfl, hr4, ?_, by have := bgg.1; omega, br4⟩
          rw [er4, ers, take_succ_get gj, List.flatMap_append]
          simp [BfM.partsOne]
      · rw [List.length_map] at q
        obtain ⟨s3, rs, u4, u5, rfl, hr3, ers, lrs, brs⟩ := q
        refine ⟨_, rfl, s1.trans s3, l0, rs, _, _, _, _, rfl, hr3, ?_, ?_, fun g hg => ⟨(brs g hg).2.2.1, (brs g hg).2.2.2⟩⟩
        · rw [ers, List.take_of_length_le (by rw [List.length_map]; exact Nat.le_refl _), egs, take_succ_get hpc]
          unfold BfM.partings
          rw [List.foldl_append]
          rfl
        · rw [Nat.pow_succ]; omega
    · rw [List.length_map, List.take_length] at q
      obtain ⟨s1, fo, gs, u2, u3, u4, u5, rfl, hg, egs, lg, bg⟩ := q
      have l6 : 6 ^ ps.length ≤ 7776 := Nat.le_trans (Nat.pow_le_pow_right (by decide) lp) (by decide)
      exact ⟨_, rfl, k H' fo gs s1 hg egs (by omega) fun g hg => ⟨by have := (bg g hg).1; omega, fun t ht => by have := (bg g hg).2 t ht; omega⟩⟩
end
end Bf
namespace Bf
open PySem PySem.Spec PyProof.Rows L2
theorem lls_dp {K : PySem.W.Frag} {H : Hp} : ∀ {ts : List (Addr × List Str)}, (∀ t, t ∈ ts → H t.1 = some (.lst (t.2.map V.str))) → DpAll K H (ts.map fun t => V.ref t.1) (ts.map fun t => PyData.list (t.2.map PyData.str))
  | [], _ => .nil
  | t :: ts, h => .cons (.lst (SqL.of (h t (List.mem_cons_self ..))) (strs_dp _)) (lls_dp fun x hx => h x (List.mem_cons_of_mem _ hx))
theorem lls_lay : ∀ {ts : List (List Str)}, (∀ t, t ∈ ts → ∀ x, x ∈ t → PyData.strOk x = true) → PyData.canLayAll0 (ts.map fun t => PyData.list (t.map PyData.str)) = true
  | [], _ => by simp [PyData.canLayAll0]
  | t :: ts, h => by
    have h1 := lls_lay fun x hx => h x (List.mem_cons_of_mem t hx)
    have h2 := strs_lay (h t (List.mem_cons_self ..))
    simp [PyData.canLayAll0, PyData.canLay0, h1, h2]
theorem lls_deep : ∀ ts : List (List Str), PyData.depthAll (ts.map fun t => PyData.list (t.map PyData.str)) ≤ 1
  | [] => by simp [PyData.depthAll]
  | t :: ts => by
    have h1 := lls_deep ts
    have h2 := strs_deep t
    simp only [List.map_cons, PyData.depthAll, PyData.depth]
    omega
theorem lls_shaped {ts : List (List Str)} (h : ∀ t, t ∈ ts → ∀ x, x ∈ t → PyData.strOk x = true) : SeqAt.shaped (.list (ts.map fun t => PyData.list (t.map PyData.str))) = true := by
  have h1 := lls_deep ts
  show (PyData.canLay0 (.list (ts.map fun t => PyData.list (t.map PyData.str))) && decide (PyData.depth (.list (ts.map fun t => PyData.list (t.map PyData.str))) ≤ 64)) = true
  rw [Bool.and_eq_true]
  refine ⟨by simp only [PyData.canLay0]; exact lls_lay h, decide_eq_true ?_⟩
  simp only [PyData.depth]
  omega
/-- while a loop walks the dict -/
theorem Same.unlock {H H1 : Hp} {d : Addr} {o : Obj} {u : HO} (hd : H d = some u) (s : Same (upd H d (.frz o u)) H1) : Same H (upd H1 d u) := fun b x e => by
  by_cases z : b = d
  · subst z; rw [hd] at e; cases e; exact upd_same
  · rw [upd_ne z]; exact s b x (by rw [upd_ne z]; exact e)
section
variable {P : Program} {w : World} {K : PySem.W.Frag} {mg : Str → Option Value} {base : Heap}
theorem sc_between : FnScope ["_law_parts", "_law_ties", "_law_found", "_law_tie", "_law_homes", "_law_part"] ["_law_parts", "_law_ties"] (defScope s_L_between) := ⟨rfl, rfl, rfl, by decide +kernel, rfl, by decide +kernel, by decide +kernel⟩
def sp_between : Sp := fun vs H Q _ => ∃ (a td : Addr) (ts : List (Addr × List Str)) (ks : List Str) (raw : Str → Str × Str), vs = [.ref a, .ref td] ∧ LLs H a ts ∧ ts.length ≤ 1000 ∧ (∀ t, t ∈ ts → ∀ x, x ∈ t.2 → PyData.strOk x = true) ∧ TiesAt H td ks raw ∧
  ∀ H', Same H H' → Q (.int (BfM.betwF raw ks (ts.map (·.2)) : Nat)) H'
theorem has_between (X : Txt K mg) (N : Fns K) : Has P w K mg base (He.ga K "_law_between") 1 ["_law_parts", "_law_ties"] sp_between := by
  refine has_mk N.f_L_between sc_between (fun vs H Q E h => ?_) (fun _ _ _ _ _ _ us hl => match us, hl with | [_, _], _ => rfl) (fun cdv A outer s H vs Q E hr h => ?_)
  · obtain ⟨a, td, ts, ks, raw, rfl, _⟩ := h; rfl
  · obtain ⟨a, td, ts, ks, raw, rfl, ha, lt, low, ht, k⟩ := h
    refine ⟨_, pss_cons (ps_set (i := 2) sc_between.nd rfl (Or.inl rfl) pe_int)
      (pss_cons (ps_lock (ps_for PassesOwn.never rfl (pi_keys (pv 1)) (pg_name (i := 3) sc_between.nd rfl (Or.inr rfl))
        (pss_cons (ps_setLc (i := 4) (own := [("_law_part", 5)]) (g := gName 5) (tt := tAnd (tTest (tOp (rIn K false) (tOp (rIxT K) (tDGet (tVar 1) (tVar 3)) (tC (.int 0))) (tVar 5))) (tTest (tOp (rIn K false) (tOp (rIxT K) (tDGet (tVar 1) (tVar 3)) (tC (.int 1))) (tVar 5)))) (te := tVar 5) rfl sc_between.nd rfl rfl (sw_true rfl rfl (by rfl) (by decide +kernel)) (pi_list (pv 0)) (blkOk_by (N := ["_law_parts", "_law_ties", "_law_found", "_law_tie", "_law_homes", "_law_part"]) (sc := defScope s_L_between) (by decide +kernel)) (fun _ _ _ _ _ => pg_name (i := 5) sc_between.nd rfl (Or.inl rfl))
            (fun _ _ _ _ _ => pts_one (PW.pt (pw_and (pt_cmpR op_in_seq (pe_ix ix_tup (pe_dget (hu_of hr) (pv 1) (pv 3) (fun _ _ => rfl)) pe_int (fun _ _ => rfl)) (pv 5) (by rfl)) (pw_and1 (pt_cmpR op_in_seq (pe_ix ix_tup (pe_dget (hu_of hr) (pv 1) (pv 3) (fun _ _ => rfl)) pe_int (fun _ _ => rfl)) (pv 5) (by rfl)))))) (fun _ _ _ _ _ => pv 5))
        (pss_one (ps_set (i := 2) sc_between.nd rfl (Or.inl rfl) (pe_op op_add (pv 2) (pe_t1 call_int1 X.f_int (pe_cmpR (op_eqD (hu64 hr)) (pv 4) (pe_lst pa_nil) (by rfl)))))))))
      (pss_one (ps_ret (pv 2)))), ?_⟩
    obtain ⟨⟨kvt, htd, kyt, hent⟩, ndk⟩ := ht
    have ek : (kvt.map fun kv => kV kv.1) = ks.map V.str := by
      have : (kvt.map fun kv => kV kv.1) = (kvt.map (·.1)).map kV := by rw [List.map_map]; rfl
      rw [this, kyt, strs_key]
    refine ⟨td, .dK kvt, htd, trivial, fun od => ?_⟩
    have st1 : ∀ {b : Addr} {o : HO}, H b = some o → (∀ kv, o ≠ .dK kv) → upd H td (.frz od (.dK kvt)) b = some o := fun {b o} e n => by
      rw [upd_ne (fun z => by subst z; rw [htd] at e; cases e; exact n _ rfl)]; exact e
    have htd1 : (upd H td (.frz od (.dK kvt))) td = some (.frz od (.dK kvt)) := upd_same
    have back : ∀ H', Same (upd H td (.frz od (.dK kvt))) H' → Same H (upd H' td (.dK kvt)) := fun H' s => Same.unlock htd s
    have ha1 : LLs (upd H td (.frz od (.dK kvt))) a ts := ⟨st1 ha.1 (by simp), fun t ht => st1 (ha.2 t ht) (by simp)⟩
    have hen1 : ∀ t, t ∈ ks → ∃ p, valV kvt (.inr t) = some (.ref p) ∧ upd H td (.frz od (.dK kvt)) p = some (.tup [.str (raw t).1, .str (raw t).2]) := fun t ht => let ⟨p, e1, e2⟩ := hent t ht; ⟨p, e1, st1 e2 (by simp)⟩
    revert st1 htd1 back ha1 hen1
    generalize upd H td (.frz od (.dK kvt)) = H1
    intro st1 htd1 back ha1 hen1
    refine ⟨_, rfl, td, od, rfl, .inl ⟨kvt, htd1, ?_⟩⟩
    refine for_row row_keys (fun i σ H' => Same H1 H' ∧ ∃ u3 u4 u5, σ = [some (.ref a), some (.ref td), some (.int ((ks.take i).countP fun t => decide (∀ m, m ∈ ts.map (·.2) → ¬ ((raw t).1 ∈ m ∧ (raw t).2 ∈ m)) : Nat)), u3, u4, u5]) ⟨Same.refl _, none, none, none, rfl⟩ (fun i σ H' _ q => q.1 _ _ htd1) (fun i x σ H' hx q => ?_) (fun σ H' q => ?_)
    · rw [ek] at hx
      obtain ⟨t, ht, rfl⟩ := get_map hx
      obtain ⟨s1, u3, u4, u5, rfl⟩ := q
      obtain ⟨p, e1, e2⟩ := hen1 t (List.mem_of_getElem? ht)
      refine ⟨_, rfl, a, rfl, ⟨_, SqL.of (s1 _ _ ha1.1)⟩, fun D hD => ?_⟩
      refine lc_pure (as := ts) (f := fun m => V.ref m.1) (p := fun m => decide ((raw t).1 ∈ m.2 ∧ (raw t).2 ∈ m.2)) (out := fun m => V.ref m.1) row_list hD (fun _ q => q.seq (SqL.of (s1 _ _ ha1.1))) (small_line (by omega)) (fun m H2 hm q Kt Kf k1 k2 => ?_) fun H2 q hL => ?_
      · have s2 := s1.trans q
        have hm2 := s2 _ _ (ha1.2 m hm)
        have g1 : DGet H2 td (.str t) (some (.ref p)) := .inl ⟨kvt, .inr t, .inr ⟨od, s2 _ _ htd1⟩, rfl, e1.symm⟩
        refine ⟨rfl, _, rfl, _, rfl, td, .ref p, rfl, g1, p, _, 0, _, rfl, rfl, SqT.of (s2 _ _ e2), rfl, _, rfl, m.1, _, rfl, .inl (SqL.of hm2), rfl, flat_strs _, _, rfl, ?_⟩
        rw [in_strs]
        by_cases m1 : (raw t).1 ∈ m.2
        · rw [decide_eq_true m1]
          refine iteT ⟨_, rfl, _, rfl, td, .ref p, rfl, g1, p, _, 1, _, rfl, rfl, SqT.of (s2 _ _ e2), rfl, _, rfl, m.1, _, rfl, .inl (SqL.of hm2), rfl, flat_strs _, _, rfl, ?_⟩
          rw [in_strs]
          by_cases m2 : (raw t).2 ∈ m.2
          · rw [decide_eq_true m2]
            exact iteT ⟨_, rfl, k1 (decide_eq_true ⟨m1, m2⟩) _ (Same.refl _)⟩
          · rw [decide_eq_false m2]
            exact iteF (k2 (decide_eq_false fun z => m2 z.2) _ (Same.refl _))
        · rw [decide_eq_false m1]
          exact iteF (iteF (k2 (decide_eq_false fun z => m1 z.1) _ (Same.refl _)))
      · have s2 := s1.trans q
        refine ⟨_, rfl, _, rfl, small_le (by simp), fun e0 he0 => ?_⟩
        have s3 : Same H2 (upd H2 e0 (.lst [])) := Same.new he0
        refine ⟨.list ((ts.filter fun m => decide ((raw t).1 ∈ m.2 ∧ (raw t).2 ∈ m.2)).map fun m => PyData.list (m.2.map PyData.str)), .list [], .lst (SqL.of (s3 _ _ hL)) (lls_dp fun m hm => s3 _ _ (s2 _ _ (ha1.2 m (List.mem_filter.mp hm).1))), .lst (SqL.of upd_same) .nil, ?_, rfl, ?_⟩
        · have := lls_shaped (ts := (ts.filter fun m => decide ((raw t).1 ∈ m.2 ∧ (raw t).2 ∈ m.2)).map (·.2)) fun m hm => by
            obtain ⟨y, hy, e⟩ := List.mem_map.mp hm
            exact e ▸ low y (List.mem_filter.mp hy).1
          rw [List.map_map] at this
          exact this
        · have eb : PyData.eqv (.list ((ts.filter fun m => decide ((raw t).1 ∈ m.2 ∧ (raw t).2 ∈ m.2)).map fun m => PyData.list (m.2.map PyData.str))) (.list []) = decide (∀ m, m ∈ ts.map (·.2) → ¬ ((raw t).1 ∈ m ∧ (raw t).2 ∈ m)) := by
            cases ef : ts.filter fun m => decide ((raw t).1 ∈ m.2 ∧ (raw t).2 ∈ m.2) with
            | nil =>
              have h0 := List.filter_eq_nil_iff.mp ef
              rw [decide_eq_true]
              · rfl
              · intro m hm
                obtain ⟨y, hy, e⟩ := List.mem_map.mp hm
                have := h0 y hy
                rw [decide_eq_true_iff] at this
                exact e ▸ this
            | cons y ys =>
              have my : y ∈ ts.filter fun m => decide ((raw t).1 ∈ m.2 ∧ (raw t).2 ∈ m.2) := by rw [ef]; exact List.mem_cons_self ..
              obtain ⟨m1, m2⟩ := List.mem_filter.mp my
              rw [decide_eq_false]
              · rfl
              · intro h
                exact h _ (List.mem_map_of_mem m1) (of_decide_eq_true m2)
          rw [eb]
          refine .inr ⟨_, rfl, _, _, rfl, rfl, s2.trans s3, some (.str t), some (.ref D), u5, ?_⟩
          have ec : (((ks.take (i + 1)).countP fun t => decide (∀ m, m ∈ ts.map (·.2) → ¬ ((raw t).1 ∈ m ∧ (raw t).2 ∈ m)) : Nat) : Int) = ((ks.take i).countP fun t => decide (∀ m, m ∈ ts.map (·.2) → ¬ ((raw t).1 ∈ m ∧ (raw t).2 ∈ m)) : Nat) + (if decide (∀ m, m ∈ ts.map (·.2) → ¬ ((raw t).1 ∈ m ∧ (raw t).2 ∈ m)) = true then 1 else 0) := by
            rw [take_succ_get ht, List.countP_append, List.countP_singleton, Int.natCast_add]
            split <;> rfl
          rw [ec]
          rfl
    · rw [List.length_map] at q
      obtain ⟨s1, u3, u4, u5, rfl⟩ := q
      refine ⟨s1 _ _ htd1, ?_⟩
      have lk : kvt.length = ks.length := by
        have := congrArg List.length kyt
        rw [List.length_map, List.length_map] at this
        exact this
      have : (ks.take kvt.length) = ks := by rw [lk, List.take_length]
      rw [this]
      exact ⟨_, rfl, k _ (back _ s1)⟩
end
end Bf
namespace Bf
open PySem PySem.Spec PyProof.Rows L2
/-- the best of the lots so far -/
def BestT (raw : Str → Str × Str) (ks : List Str) (Ls : List (List Str)) : Option (Nat × Nat) → Prop
  | none => ∀ L, L ∈ Ls → 2 ≤ L.length → BfM.innerF raw ks L = 0
  | some (a, b) => (∃ L, L ∈ Ls ∧ 2 ≤ L.length ∧ a = BfM.innerF raw ks L ∧ b + 1 = L.length) ∧ 0 < a ∧ ∀ L, L ∈ Ls → 2 ≤ L.length → 0 < BfM.innerF raw ks L → BfM.innerF raw ks L * b ≤ a * (L.length - 1)
theorem better {a b x y n l : Nat} (hb : 0 < b) (h : a * y < x * b) (h2 : n * b ≤ a * l) : n * y ≤ x * l := by
  refine BfM.mul_cancel hb ?_
  calc b * (n * y) = (n * b) * y := by rw [← Nat.mul_assoc, Nat.mul_comm b n]
    _ ≤ (a * l) * y := Nat.mul_le_mul_right _ h2
    _ = (a * y) * l := by rw [Nat.mul_assoc, Nat.mul_comm l, ← Nat.mul_assoc]
    _ ≤ (x * b) * l := Nat.mul_le_mul_right _ (Nat.le_of_lt h)
    _ = b * (x * l) := by rw [Nat.mul_comm x b, Nat.mul_assoc]
section
variable {raw : Str → Str × Str} {ks : List Str} {Ls : List (List Str)} {L : List Str} {o : Option (Nat × Nat)}
theorem bestT_keep (h : BestT raw ks Ls o) (n : ¬ (2 ≤ L.length ∧ 0 < BfM.innerF raw ks L)) : BestT raw ks (Ls ++ [L]) o := by
  match o, h with
  | none, h =>
    intro M hM l2
    rcases List.mem_append.mp hM with e | e
    · exact h M e l2
    · rw [List.mem_singleton.mp e] at l2 ⊢
      rcases Nat.eq_zero_or_pos (BfM.innerF raw ks L) with z | z
      · exact z
      · exact absurd ⟨l2, z⟩ n
  | some (a, b), ⟨⟨M0, m1, m2, m3, m4⟩, h1, h2⟩ =>
    refine ⟨⟨M0, List.mem_append_left _ m1, m2, m3, m4⟩, h1, fun M hM l2 i0 => ?_⟩
    rcases List.mem_append.mp hM with e | e
    · exact h2 M e l2 i0
    · rw [List.mem_singleton.mp e] at l2 i0
      exact absurd ⟨l2, i0⟩ n
theorem bestT_stay {a b : Nat} (h : BestT raw ks Ls (some (a, b))) (n : BfM.innerF raw ks L * b ≤ a * (L.length - 1)) : BestT raw ks (Ls ++ [L]) (some (a, b)) := by
  obtain ⟨⟨M0, m1, m2, m3, m4⟩, h1, h2⟩ := h
  refine ⟨⟨M0, List.mem_append_left _ m1, m2, m3, m4⟩, h1, fun M hM l2 i0 => ?_⟩
  rcases List.mem_append.mp hM with e | e
  · exact h2 M e l2 i0
  · rw [List.mem_singleton.mp e]; exact n
theorem bestT_new (h : BestT raw ks Ls o) (l2 : 2 ≤ L.length) (i0 : 0 < BfM.innerF raw ks L) (n : ∀ a b, o = some (a, b) → a * (L.length - 1) < BfM.innerF raw ks L * b) : BestT raw ks (Ls ++ [L]) (some (BfM.innerF raw ks L, L.length - 1)) := by
  refine ⟨⟨L, by simp, l2, rfl, by omega⟩, i0, fun M hM m2 j0 => ?_⟩
  rcases List.mem_append.mp hM with e | e
  · match o, h, n with
    | none, h, _ => have := h M e m2; omega
    | some (a, b), ⟨⟨M0, m1, mm, m3, m4⟩, h1, h2⟩, n =>
      exact better (by omega) (n a b rfl) (h2 M e m2 j0)
  · rw [List.mem_singleton.mp e]; exact Nat.le_refl _
end
section
variable {P : Program} {w : World} {K : PySem.W.Frag} {mg : Str → Option Value} {base : Heap}
theorem sc_thick : FnScope ["_law_places", "_law_ties", "_law_best", "_law_lot", "_law_inner", "_law_tie"] ["_law_places", "_law_ties"] (defScope s_L_thick) := ⟨rfl, rfl, rfl, by decide +kernel, rfl, by decide +kernel, by decide +kernel⟩
def sp_thick : Sp := fun vs H Q _ => ∃ (pl td : Addr) (ps S ks : List Str) (raw : Str → Str × Str), vs = [.ref pl, .ref td] ∧ H pl = some (.lst (ps.map V.str)) ∧ ps.Nodup ∧ ps.length ≤ 5 ∧ (∀ t, t ∈ ps → PyData.strOk t = true) ∧ Rising S ∧ (∀ t, t ∈ S ↔ t ∈ ps) ∧ TiesAt H td ks raw ∧ ks.length ≤ 1000 ∧
  (∀ H', Same H H' → BestT raw ks (lotsTo S (ps.length + 1)) none → Q .non H') ∧
  (∀ H' r a b, Same H H' → H' r = some (.tup [.int (a : Nat), .int (b : Nat)]) → BestT raw ks (lotsTo S (ps.length + 1)) (some (a, b)) → Q (.ref r) H')
/-- what stands for the best -/
def BestV (H : Hp) (v : V) : Option (Nat × Nat) → Prop
  | none => v = .non
  | some (a, b) => ∃ r, v = .ref r ∧ H r = some (.tup [.int (a : Nat), .int (b : Nat)])
theorem BestV.same {H H1 : Hp} {v : V} {o : Option (Nat × Nat)} (h : BestV H v o) (k : Same H H1) : BestV H1 v o := by
  match o, h with
  | none, h => exact h
  | some (a, b), ⟨r, e, h⟩ => exact ⟨r, e, k _ _ h⟩
theorem has_thick (X : Txt K mg) (N : Fns K) : Has P w K mg base (He.ga K "_law_thick") 3 ["_law_places", "_law_ties"] sp_thick := by
  refine has_mk N.f_L_thick sc_thick (fun vs H Q E h => ?_) (fun _ _ _ _ _ _ us hl => match us, hl with | [_, _], _ => rfl) (fun cdv A outer s H vs Q E hr h => ?_)
  · obtain ⟨pl, td, ps, S, ks, raw, rfl, _⟩ := h; rfl
  · obtain ⟨pl, td, ps, S, ks, raw, rfl, hp, ndp, lp, low, rS, mS, ht, lk, kN, kS⟩ := h
    refine ⟨_, pss_cons (ps_set (i := 2) sc_thick.nd rfl (Or.inl rfl) pe_non)
      (pss_cons (ps_for PassesOwn.never rfl (pi_list (pe_ca (has_all_lots X N) X.g_L_all_lots hr (pa_cons (pv 0) pa_nil))) (pg_name (i := 3) sc_thick.nd rfl (Or.inr rfl))
        (pss_cons (ps_set (i := 4) sc_thick.nd rfl (Or.inl rfl) (pe_b1 call_len_seq X.f_len (pe_lock (pe_lc (own := [("_law_tie", 5)]) (g := gName 5) (tt := tAnd (tTest (tOp (rIn K false) (tOp (rIxT K) (tDGet (tVar 1) (tVar 5)) (tC (.int 0))) (tVar 3))) (tTest (tOp (rIn K false) (tOp (rIxT K) (tDGet (tVar 1) (tVar 5)) (tC (.int 1))) (tVar 3)))) (te := tVar 5) rfl sc_thick.nd (pi_keys (pv 1)) (blkOk_by (N := ["_law_places", "_law_ties", "_law_best", "_law_lot", "_law_inner", "_law_tie"]) (sc := defScope s_L_thick) (by decide +kernel)) (fun _ _ _ _ _ => pg_name (i := 5) sc_thick.nd rfl (Or.inl rfl))
            (fun _ _ _ _ _ => pts_one (PW.pt (pw_and (pt_cmpR op_in_seq (pe_ix ix_tup (pe_dget (hu_of hr) (pv 1) (pv 5) (fun _ _ => rfl)) pe_int (fun _ _ => rfl)) (pv 3) (by rfl)) (pw_and1 (pt_cmpR op_in_seq (pe_ix ix_tup (pe_dget (hu_of hr) (pv 1) (pv 5) (fun _ _ => rfl)) pe_int (fun _ _ => rfl)) (pv 3) (by rfl)))))) (fun _ _ _ _ _ => pv 5)))))
        (pss_one (ps_if (PW.pt (pw_and (pt_cmpR op_gt (pe_b1 call_len_seq X.f_len (pv 3)) pe_int (by rfl)) (pw_and (pt_cmpR op_gt (pv 4) pe_int (by rfl)) (pw_and1 (PW.pt (pw_or (pt_cmpR op_isN (pv 2) pe_non (by rfl)) (pw_or1 (pt_cmpR op_gt (pe_op op_mul (pv 4) (pe_ix ix_tup (pv 2) pe_int (fun _ _ => rfl))) (pe_op op_mul (pe_ix ix_tup (pv 2) pe_int (fun _ _ => rfl)) (pe_op op_sub (pe_b1 call_len_seq X.f_len (pv 3)) pe_int)) (by rfl)))))))))
          (pss_one (ps_set (i := 2) sc_thick.nd rfl (Or.inl rfl) (pe_tup (pa_cons (pv 4) (pa_cons (pe_op op_sub (pe_b1 call_len_seq X.f_len (pv 3)) pe_int) pa_nil))))) pss_nil))))
      (pss_one (ps_ret (pv 2)))), ?_⟩
    obtain ⟨⟨kvt, htd, kyt, hent⟩, ndk⟩ := ht
    have ek : (kvt.map fun kv => kV kv.1) = ks.map V.str := by
      have : (kvt.map fun kv => kV kv.1) = (kvt.map (·.1)).map kV := by rw [List.map_map]; rfl
      rw [this, kyt, strs_key]
    have lkv : kvt.length = ks.length := by
      have := congrArg List.length kyt
      rw [List.length_map, List.length_map] at this
      exact this
    refine ⟨_, rfl, pl, ps, S, rfl, hp, ndp, lp, low, rS, mS, fun H1 al qs s1 hq eqs lq => ?_⟩
    refine ⟨al, rfl, ⟨_, SqL.of hq.1⟩, ?_⟩
    refine for_row row_list (fun i σ H' => Same H1 H' ∧ ∃ (v : V) (o : Option (Nat × Nat)) (u3 u4 u5 : Option V), σ = [some (.ref pl), some (.ref td), some v, u3, u4, u5] ∧ BestV H' v o ∧ BestT raw ks ((qs.take i).map (·.2)) o) ⟨Same.refl _, .non, none, none, none, none, rfl, rfl, fun L hL => by simp at hL⟩ (fun i σ H' _ q => q.1.seq (SqL.of hq.1)) (fun i x σ H' hx q => ?_) (fun σ H' q => ?_)
    · obtain ⟨L, hL, rfl⟩ := get_map hx
      obtain ⟨s2, v, o, u3, u4, u5, rfl, bv, bt⟩ := q
      have s12 := s1.trans s2
      have hLt := hq.2 L (List.mem_of_getElem? hL)
      refine ⟨td, .dK kvt, s12 _ _ htd, trivial, fun od => ?_⟩
      have htdH := s12 _ _ htd
      have st1 : ∀ {b : Addr} {o : HO}, H' b = some o → (∀ kv, o ≠ .dK kv) → upd H' td (.frz od (.dK kvt)) b = some o := fun {b o} e n => by
        rw [upd_ne (fun z => by subst z; rw [htdH] at e; cases e; exact n _ rfl)]; exact e
      have htd1 : (upd H' td (.frz od (.dK kvt))) td = some (.frz od (.dK kvt)) := upd_same
      have back : ∀ H2, Same (upd H' td (.frz od (.dK kvt))) H2 → Same H' (upd H2 td (.dK kvt)) := fun H2 s => Same.unlock htdH s
      have hen1 : ∀ t, t ∈ ks → ∃ p, valV kvt (.inr t) = some (.ref p) ∧ upd H' td (.frz od (.dK kvt)) p = some (.tup [.str (raw t).1, .str (raw t).2]) := fun t ht => let ⟨p, e1, e2⟩ := hent t ht; ⟨p, e1, st1 (s12 _ _ e2) (by simp)⟩
      have hL1 := st1 (s2 _ _ hLt) (by simp)
      revert st1 htd1 back hen1 hL1
      generalize upd H' td (.frz od (.dK kvt)) = H2
      intro st1 htd1 back hen1 hL1
      refine ⟨_, rfl, td, od, rfl, .inl ⟨kvt, htd1, fun D hD => ?_⟩⟩
      have rk := row_keys (d := td) (o := od) (kvs := kvt)
      rw [ek] at rk
      refine lc_pure (as := ks) (f := V.str) (p := fun t => decide ((raw t).1 ∈ L.2 ∧ (raw t).2 ∈ L.2)) (out := V.str) rk hD (fun _ q => q _ _ htd1) (small_line (by omega)) (fun t H3 ht q Kt Kf k1 k2 => ?_) fun H3 q hLD => ?_
      · obtain ⟨p, e1, e2⟩ := hen1 t ht
        have g1 : DGet H3 td (.str t) (some (.ref p)) := .inl ⟨kvt, .inr t, .inr ⟨od, q _ _ htd1⟩, rfl, e1.symm⟩
        refine ⟨rfl, _, rfl, _, rfl, td, .ref p, rfl, g1, p, _, 0, _, rfl, rfl, SqT.of (q _ _ e2), rfl, _, rfl, L.1, _, rfl, .inr (SqT.of (q _ _ hL1)), rfl, flat_strs _, _, rfl, ?_⟩
        rw [in_strs]
        by_cases m1 : (raw t).1 ∈ L.2
        · rw [decide_eq_true m1]
          refine iteT ⟨_, rfl, _, rfl, td, .ref p, rfl, g1, p, _, 1, _, rfl, rfl, SqT.of (q _ _ e2), rfl, _, rfl, L.1, _, rfl, .inr (SqT.of (q _ _ hL1)), rfl, flat_strs _, _, rfl, ?_⟩
          rw [in_strs]
          by_cases m2 : (raw t).2 ∈ L.2
          · rw [decide_eq_true m2]
            exact iteT ⟨_, rfl, k1 (decide_eq_true ⟨m1, m2⟩) _ (Same.refl _)⟩
          · rw [decide_eq_false m2]
            exact iteF (k2 (decide_eq_false fun z => m2 z.2) _ (Same.refl _))
        · rw [decide_eq_false m1]
          exact iteF (iteF (k2 (decide_eq_false fun z => m1 z.1) _ (Same.refl _)))
      · have nD : D ≠ td := fun z => by subst z; rw [htd1] at hD; cases hD
        refine ⟨q _ _ htd1, D, _, rfl, .inl (SqL.of (by rw [upd_ne nD]; exact hLD)), ?_⟩
        have s3 := back _ q
        revert s3
        generalize upd H3 td (.dK kvt) = H4
        intro s3
        have s14 := s2.trans s3
        have hL4 := s14 _ _ hLt
        have einn : (((ks.filter fun t => decide ((raw t).1 ∈ L.2 ∧ (raw t).2 ∈ L.2)).map V.str).length : Nat) = BfM.innerF raw ks L.2 := by rw [List.length_map, BfM.filter_len]; rfl
        rw [einn]
        have tkL : (qs.take (i + 1)).map (·.2) = (qs.take i).map (·.2) ++ [L.2] := by rw [take_succ_get hL, List.map_append]; rfl
        have lI : BfM.innerF raw ks L.2 ≤ 1000 := Nat.le_trans List.countP_le_length lk
        have bv4 := bv.same s3
        refine ⟨_, rfl, L.1, _, rfl, .inr (SqT.of hL4), _, 1, rfl, rfl, _, rfl, ?_⟩
        rw [List.length_map]
        have stay : ∀ o2, BestT raw ks ((qs.take i).map (·.2)) o2 → ¬ (2 ≤ L.2.length ∧ 0 < BfM.innerF raw ks L.2) → BestT raw ks ((qs.take (i + 1)).map (·.2)) o2 := fun o2 h n => by rw [tkL]; exact bestT_keep h n
        by_cases l2 : 2 ≤ L.2.length
        · rw [show decide ((1 : Int) < (L.2.length : Nat)) = true by rw [decide_eq_true_iff]; omega]
          refine iteT ⟨_, rfl, _, 0, rfl, rfl, _, rfl, ?_⟩
          by_cases i0 : 0 < BfM.innerF raw ks L.2
          · rw [show decide ((0 : Int) < (BfM.innerF raw ks L.2 : Nat)) = true by rw [decide_eq_true_iff]; omega]
            refine iteT ?_
            have en : ((L.2.length : Nat) : Int) - 1 = ((L.2.length - 1 : Nat) : Int) := by omega
            have newb : ∀ (H5 : Hp), Same H4 H5 → (∀ a b, o = some (a, b) → a * (L.2.length - 1) < BfM.innerF raw ks L.2 * b) → ∀ p, H5 p = none → Same H1 (upd H5 p (.tup [.int (BfM.innerF raw ks L.2 : Nat), .int (((L.2.length : Nat) : Int) - 1)])) ∧ BestV (upd H5 p (.tup [.int (BfM.innerF raw ks L.2 : Nat), .int (((L.2.length : Nat) : Int) - 1)])) (.ref p) (some (BfM.innerF raw ks L.2, L.2.length - 1)) ∧ BestT raw ks ((qs.take (i + 1)).map (·.2)) (some (BfM.innerF raw ks L.2, L.2.length - 1)) := fun H5 s5 hn p hp => by
              refine ⟨(s14.trans s5).put ((s14.trans s5).free hp), ⟨p, rfl, by rw [upd_same, en]⟩, ?_⟩
              rw [tkL]
              exact bestT_new bt l2 i0 hn
            match o, bv4, bt, newb with
            | none, bv4, bt, newb =>
              have bv4 : v = .non := bv4
              subst bv4
              refine ⟨_, rfl, rfl, _, rfl, iteT (iteT ?_)⟩
              refine ⟨_, rfl, _, rfl, L.1, _, rfl, .inr (SqT.of hL4), _, 1, rfl, rfl, small_le (by simp), fun p hp => ?_⟩
              obtain ⟨n1, n2, n3⟩ := newb H4 (Same.refl _) (fun a b e => by cases e) p hp
              rw [List.length_map]
              exact ⟨n1, .ref p, _, _, _, _, rfl, n2, n3⟩
            | some (a, b), ⟨r, e, hr4⟩, bt, newb =>
              subst e
              have hb : b ≤ 1000000 ∧ a ≤ 1000 := by
                obtain ⟨⟨M, m1, m2, m3, m4⟩, _⟩ := bt
                refine ⟨?_, m3 ▸ Nat.le_trans List.countP_le_length lk⟩
                obtain ⟨y, hy, e⟩ := List.mem_map.mp m1
                have hy2 : y.2 ∈ lotsTo S (ps.length + 1) := by rw [← eqs]; exact List.mem_map_of_mem (List.mem_of_mem_take hy)
                obtain ⟨jj, hj, hm⟩ := List.mem_flatMap.mp hy2
                have := (BfM.lots_sound (lt := lts) (fun x y z h1 h2 => lts_trans h1 h2) jj y.2 hm).1
                rw [List.mem_range] at hj
                rw [← e] at m4
                omega
              refine ⟨_, rfl, rfl, _, rfl, iteF ?_⟩
              refine ⟨_, rfl, _, rfl, r, _, 1, .int (b : Nat), rfl, rfl, SqT.of hr4, rfl, _, _, rfl, rfl, .inl ⟨by omega, by omega⟩, ?_⟩
              refine ⟨_, rfl, r, _, 0, .int (a : Nat), rfl, rfl, SqT.of hr4, rfl, _, rfl, L.1, _, rfl, .inr (SqT.of hL4), _, 1, rfl, rfl, _, _, rfl, rfl, .inl ⟨by omega, by omega⟩, _, _, rfl, rfl, _, rfl, ?_⟩
              rw [List.length_map, en, ← Int.natCast_mul, ← Int.natCast_mul]
              by_cases hlt : a * (L.2.length - 1) < BfM.innerF raw ks L.2 * b
              · rw [show decide (((a * (L.2.length - 1) : Nat) : Int) < ((BfM.innerF raw ks L.2 * b : Nat) : Int)) = true by rw [decide_eq_true_iff]; omega]
                refine iteT ⟨_, rfl, _, rfl, L.1, _, rfl, .inr (SqT.of hL4), _, 1, rfl, rfl, small_le (by simp), fun p hp => ?_⟩
                obtain ⟨n1, n2, n3⟩ := newb H4 (Same.refl _) (fun a' b' e => by cases e; exact hlt) p hp
                rw [List.length_map]
                exact ⟨n1, .ref p, _, _, _, _, rfl, n2, n3⟩
              · rw [show decide (((a * (L.2.length - 1) : Nat) : Int) < ((BfM.innerF raw ks L.2 * b : Nat) : Int)) = false by rw [decide_eq_false_iff_not]; omega]
                exact iteF ⟨s14, .ref r, some (a, b), _, _, _, rfl, ⟨r, rfl, hr4⟩, by rw [tkL]; exact bestT_stay bt (Nat.le_of_not_lt hlt)⟩
          · rw [show decide ((0 : Int) < (BfM.innerF raw ks L.2 : Nat)) = false by rw [decide_eq_false_iff_not]; omega]
            exact iteF (iteF ⟨s14, v, o, _, _, _, rfl, bv4, stay o bt fun z => i0 z.2⟩)
        · rw [show decide ((1 : Int) < (L.2.length : Nat)) = false by rw [decide_eq_false_iff_not]; omega]
          exact iteF (iteF ⟨s14, v, o, _, _, _, rfl, bv4, stay o bt fun z => l2 z.1⟩)
    · rw [List.length_map] at q
      obtain ⟨s2, v, o, u3, u4, u5, rfl, bv, bt⟩ := q
      rw [List.take_length, eqs] at bt
      have s12 := s1.trans s2
      match o, bv, bt with
      | none, bv, bt =>
        have bv : v = .non := bv
        subst bv
        exact ⟨_, rfl, kN H' s12 bt⟩
      | some (a, b), ⟨r, e, hr2⟩, bt =>
        subst e
        exact ⟨_, rfl, kS H' r a b s12 hr2 bt⟩
end
end Bf
namespace Bf
open PySem PySem.Spec PyProof.Rows L2
/-- each part lies within one piece -/
def fitF (wh : List (List Str)) (parts : List (List Str)) : Bool := parts.all fun m => wh.any fun pc => m.all fun x => decide (x ∈ pc)
/-- the best of the partings so far -/
def BestS (raw : Str → Str × Str) (ks : List Str) (wh : List (List Str)) (Pl : List (List (List Str))) : Option (Nat × Nat) → Prop
  | none => ∀ M, M ∈ Pl → fitF wh M = true → M.length ≤ wh.length
  | some (a, b) => (∃ M, M ∈ Pl ∧ a = BfM.betwF raw ks M ∧ M.length = wh.length + b) ∧ 0 < b ∧ ∀ M, M ∈ Pl → fitF wh M = true → wh.length < M.length → a * (M.length - wh.length) ≤ BfM.betwF raw ks M * b
theorem better2 {a b x y n l : Nat} (hb : 0 < b) (h : x * b < a * y) (h2 : a * l ≤ n * b) : x * l ≤ n * y := by
  refine BfM.mul_cancel hb ?_
  calc b * (x * l) = (x * b) * l := by rw [← Nat.mul_assoc, Nat.mul_comm b x]
    _ ≤ (a * y) * l := Nat.mul_le_mul_right _ (Nat.le_of_lt h)
    _ = (a * l) * y := by rw [Nat.mul_assoc, Nat.mul_comm y, ← Nat.mul_assoc]
    _ ≤ (n * b) * y := Nat.mul_le_mul_right _ h2
    _ = b * (n * y) := by rw [Nat.mul_comm n b, Nat.mul_assoc]
section
variable {raw : Str → Str × Str} {ks : List Str} {wh M : List (List Str)} {Pl : List (List (List Str))} {o : Option (Nat × Nat)}
theorem bestS_keep (h : BestS raw ks wh Pl o) (n : ¬ (fitF wh M = true ∧ wh.length < M.length)) : BestS raw ks wh (Pl ++ [M]) o := by
  match o, h with
  | none, h =>
    intro L hL f
    rcases List.mem_append.mp hL with e | e
    · exact h L e f
    · rw [List.mem_singleton.mp e] at f ⊢
      rcases Nat.lt_or_ge wh.length M.length with z | z
      · exact absurd ⟨f, z⟩ n
      · exact z
  | some (a, b), ⟨⟨M0, m1, m2, m3⟩, h1, h2⟩ =>
    refine ⟨⟨M0, List.mem_append_left _ m1, m2, m3⟩, h1, fun L hL f l => ?_⟩
    rcases List.mem_append.mp hL with e | e
    · exact h2 L e f l
    · rw [List.mem_singleton.mp e] at f l
      exact absurd ⟨f, l⟩ n
theorem bestS_stay {a b : Nat} (h : BestS raw ks wh Pl (some (a, b))) (n : a * (M.length - wh.length) ≤ BfM.betwF raw ks M * b) : BestS raw ks wh (Pl ++ [M]) (some (a, b)) := by
  obtain ⟨⟨M0, m1, m2, m3⟩, h1, h2⟩ := h
  refine ⟨⟨M0, List.mem_append_left _ m1, m2, m3⟩, h1, fun L hL f l => ?_⟩
  rcases List.mem_append.mp hL with e | e
  · exact h2 L e f l
  · rw [List.mem_singleton.mp e]; exact n
theorem bestS_new (h : BestS raw ks wh Pl o) (l : wh.length < M.length) (n : ∀ a b, o = some (a, b) → BfM.betwF raw ks M * b < a * (M.length - wh.length)) : BestS raw ks wh (Pl ++ [M]) (some (BfM.betwF raw ks M, M.length - wh.length)) := by
  refine ⟨⟨M, by simp, rfl, by omega⟩, by omega, fun L hL f l2 => ?_⟩
  rcases List.mem_append.mp hL with e | e
  · match o, h, n with
    | none, h, _ => have := h L e f; omega
    | some (a, b), ⟨⟨M0, m1, m2, m3⟩, h1, h2⟩, n => exact better2 h1 (n a b rfl) (h2 L e f l2)
  · rw [List.mem_singleton.mp e]; exact Nat.le_refl _
end
section
variable {P : Program} {w : World} {K : PySem.W.Frag} {mg : Str → Option Value} {base : Heap}
theorem sc_strong : FnScope ["_law_places", "_law_ties", "_law_whole", "_law_best", "_law_parts", "_law_fits", "_law_more", "_law_some", "_law_part", "_law_piece"] ["_law_places", "_law_ties", "_law_whole"] (defScope s_L_strong) := ⟨rfl, rfl, rfl, by decide +kernel, rfl, by decide +kernel, by decide +kernel⟩
/-- the scope of the outer walk of strong -/
def strongIn (s : Stmt) : Scope := match defBody s with
  | [_, .For _ _ (.Assign _ (.Call _ [.ListComp _ _ sc _] _ _) _ :: _) _ _, _] => sc
  | _ => defScope s
def sp_strong : Sp := fun vs H Q _ => ∃ (pl td wa : Addr) (ps ks : List Str) (raw : Str → Str × Str) (wh : List (Addr × List Str)), vs = [.ref pl, .ref td, .ref wa] ∧ H pl = some (.lst (ps.map V.str)) ∧ ps.Nodup ∧ ps.length ≤ 5 ∧ (∀ t, t ∈ ps → PyData.strOk t = true) ∧ LLs H wa wh ∧ wh.length ≤ 100 ∧ TiesAt H td ks raw ∧ ks.length ≤ 1000 ∧
  (∀ H', Same H H' → BestS raw ks (wh.map (·.2)) (BfM.partings ps) none → Q .non H') ∧
  (∀ H' r a b, Same H H' → H' r = some (.tup [.int (a : Nat), .int (b : Nat)]) → BestS raw ks (wh.map (·.2)) (BfM.partings ps) (some (a, b)) → Q (.ref r) H')
theorem has_strong (X : Txt K mg) (N : Fns K) : Has P w K mg base (He.ga K "_law_strong") 2 ["_law_places", "_law_ties", "_law_whole"] sp_strong := by
  refine has_mk N.f_L_strong sc_strong (fun vs H Q E h => ?_) (fun _ _ _ _ _ _ us hl => match us, hl with | [_, _, _], _ => rfl) (fun cdv A outer s H vs Q E hr h => ?_)
  · obtain ⟨pl, td, wa, ps, ks, raw, wh, rfl, _⟩ := h; rfl
  · obtain ⟨pl, td, wa, ps, ks, raw, wh, rfl, hp, ndp, lp, low, hw, lw, ht, lk, kN, kS⟩ := h
    refine ⟨_, pss_cons (ps_set (i := 3) sc_strong.nd rfl (Or.inl rfl) pe_non)
      (pss_cons (ps_for PassesOwn.never rfl (pi_list (pe_ca (has_partings X N) X.g_L_partings hr (pa_cons (pv 0) pa_nil))) (pg_name (i := 4) sc_strong.nd rfl (Or.inl rfl))
        (pss_cons (ps_set (i := 5) sc_strong.nd rfl (Or.inl rfl) (pe_b1 (cr_all rfl) X.f_all (pe_lc (own := [("_law_part", 8)]) (g := gName 8) (tt := tYes) (te := tCB (rAny K) (tCons (tLc (iList K (tVar 2)) (gName 9) tYes (tCa sp_within (tCons (tVar 8) (tCons (tVar 9) tNil))) [9]) tNil)) rfl sc_strong.nd (pi_list (pv 4)) (blkOk_by (N := ["_law_places", "_law_ties", "_law_whole", "_law_best", "_law_parts", "_law_fits", "_law_more", "_law_some", "_law_part", "_law_piece"]) (sc := defScope s_L_strong) (by decide +kernel)) (fun _ _ _ _ _ => pg_name (i := 8) sc_strong.nd rfl (Or.inr rfl)) (fun _ _ _ _ _ => pts_nil)
          (fun _ _ _ _ _ => pe_b1 (cr_any rfl) X.f_any (pe_lc (own := [("_law_piece", 9)]) (g := gName 9) (tt := tYes) (te := tCa sp_within (tCons (tVar 8) (tCons (tVar 9) tNil))) rfl sc_strong.nd (pi_list (pv 2)) (blkOk_by (N := ["_law_places", "_law_ties", "_law_whole", "_law_best", "_law_parts", "_law_fits", "_law_more", "_law_some", "_law_part", "_law_piece"]) (sc := relS (strongIn s_L_strong) (defScope s_L_strong)) (by decide +kernel)) (fun _ _ _ _ _ => pg_name (i := 9) sc_strong.nd rfl (Or.inl rfl)) (fun _ _ _ _ _ => pts_nil) (fun _ _ _ _ _ => pe_ca (has_within X N) X.g_L_within hr (pa_cons (pv 8) (pa_cons (pv 9) pa_nil))))))))
        (pss_cons (ps_set (i := 6) sc_strong.nd rfl (Or.inl rfl) (pe_op op_sub (pe_b1 call_len_seq X.f_len (pv 4)) (pe_b1 call_len_seq X.f_len (pv 2))))
        (pss_one (ps_if (PW.pt (pw_and (pt_val (pv 5)) (pw_and1 (pt_cmpR op_gt (pv 6) pe_int (by rfl)))))
          (pss_cons (ps_set (i := 7) sc_strong.nd rfl (Or.inl rfl) (pe_ca (has_between X N) X.g_L_between hr (pa_cons (pv 4) (pa_cons (pv 1) pa_nil))))
          (pss_one (ps_if (PW.pt (pw_or (pt_cmpR op_isN (pv 3) pe_non (by rfl)) (pw_or1 (pt_cmpR op_lt (pe_op op_mul (pv 7) (pe_ix ix_tup (pv 3) pe_int (fun _ _ => rfl))) (pe_op op_mul (pe_ix ix_tup (pv 3) pe_int (fun _ _ => rfl)) (pv 6)) (by rfl))))) (pss_one (ps_set (i := 3) sc_strong.nd rfl (Or.inl rfl) (pe_tup (pa_cons (pv 7) (pa_cons (pv 6) pa_nil))))) pss_nil))) pss_nil)))))
      (pss_one (ps_ret (pv 3)))), ?_⟩
    refine ⟨_, rfl, pl, ps, rfl, hp, lp, fun H1 al gs s1 hg egs lg bg => ?_⟩
    have hw1 := hw.same s1
    refine ⟨al, rfl, ⟨_, SqL.of hg.1⟩, ?_⟩
    refine for_row row_list (fun i σ H' => Same H1 H' ∧ ∃ (v : V) (o : Option (Nat × Nat)) (u4 u5 u6 u7 u8 u9 : Option V), σ = [some (.ref pl), some (.ref td), some (.ref wa), some v, u4, u5, u6, u7, u8, u9] ∧ BestV H' v o ∧ BestS raw ks (wh.map (·.2)) (valP (gs.take i)) o) ⟨Same.refl _, .non, none, none, none, none, none, none, none, rfl, rfl, fun L hL => by simp at hL⟩ (fun i σ H' _ q => q.1.seq (SqL.of hg.1)) (fun i x σ H' hx q => ?_) (fun σ H' q => ?_)
    · obtain ⟨G, hG, rfl⟩ := get_map hx
      obtain ⟨s2, v, o, u4, u5, u6, u7, u8, u9, rfl, bv, bt⟩ := q
      have Gm := List.mem_of_getElem? hG
      have hGt := (hg.2 G Gm).same s2
      obtain ⟨lG, lGt⟩ := bg G Gm
      refine ⟨_, rfl, G.1, rfl, ⟨_, SqL.of hGt.1⟩, fun D hD => ?_⟩
      refine lc_pure (as := G.2) (f := fun t => V.ref t.1) (p := fun _ => true) (out := fun t => V.bl ((wh.map (·.2)).any fun pc => t.2.all fun x => decide (x ∈ pc))) row_list hD (fun _ q => q.seq (SqL.of hGt.1)) (small_line (by omega)) (fun t H2 htm q Kt Kf k1 k2 => ?_) fun H2 q hL => ?_
      · have hw2 := hw1.same (s2.trans q)
        refine ⟨rfl, _, rfl, wa, rfl, ⟨_, SqL.of hw2.1⟩, fun D2 hD2 => ?_⟩
        refine lc_pure (as := wh) (f := fun t => V.ref t.1) (p := fun _ => true) (out := fun pc => V.bl (t.2.all fun x => decide (x ∈ pc.2))) row_list hD2 (fun _ q => q.seq (SqL.of hw2.1)) (small_line (by omega)) (fun pc H3 hpc q3 Kt3 Kf3 k3 k4 => ?_) fun H3 q3 hL3 => ?_
        · refine ⟨rfl, _, rfl, _, rfl, t.1, pc.1, t.2, pc.2, rfl, q3 _ _ (q _ _ (hGt.2 t htm)), q3 _ _ (hw2.2 pc hpc), by have := lGt t htm; omega, fun H4 s4 => k3 rfl _ s4⟩
        · refine ⟨D2, wh.map fun pc => t.2.all fun x => decide (x ∈ pc.2), rfl, SqL.of (by rw [hL3, List.filter_eq_self.mpr (by simp), List.map_map]; rfl), ?_⟩
          rw [show ((wh.map fun pc => t.2.all fun x => decide (x ∈ pc.2)).any id) = (wh.map (·.2)).any fun pc => t.2.all fun x => decide (x ∈ pc) by rw [List.any_map, List.any_map]; rfl]
          exact k1 rfl _ q3
      · refine ⟨D, G.2.map fun t => (wh.map (·.2)).any fun pc => t.2.all fun x => decide (x ∈ pc), rfl, SqL.of (by rw [hL, List.filter_eq_self.mpr (by simp), List.map_map]; rfl), ?_⟩
        rw [show ((G.2.map fun t => (wh.map (·.2)).any fun pc => t.2.all fun x => decide (x ∈ pc)).all id) = fitF (wh.map (·.2)) (G.2.map (·.2)) by unfold fitF; rw [List.all_map, List.all_map]; rfl]
        have s12 := s2.trans q
        have hw2 := hw1.same s12
        have hG2 := hGt.same q
        refine ⟨_, rfl, G.1, _, rfl, .inl (SqL.of hG2.1), _, rfl, wa, _, rfl, .inl (SqL.of hw2.1), _, _, rfl, rfl, ?_⟩
        rw [List.length_map, List.length_map]
        have tkG : valP (gs.take (i + 1)) = valP (gs.take i) ++ [G.2.map (·.2)] := by rw [take_succ_get hG]; exact List.map_append
        have bv2 := bv.same q
        have keep : ¬ (fitF (wh.map (·.2)) (G.2.map (·.2)) = true ∧ (wh.map (·.2)).length < (G.2.map (·.2)).length) → BestS raw ks (wh.map (·.2)) (valP (gs.take (i + 1))) o := fun n => by rw [tkG]; exact bestS_keep bt n
        refine ⟨_, rfl, _, rfl, ?_⟩
        by_cases hf : fitF (wh.map (·.2)) (G.2.map (·.2)) = true
        · rw [hf]
          refine iteT ⟨_, rfl, _, 0, rfl, rfl, _, rfl, ?_⟩
          by_cases hl : wh.length < G.2.length
          · rw [show decide ((0 : Int) < ((G.2.length : Nat) : Int) - (wh.length : Nat)) = true by rw [decide_eq_true_iff]; omega]
            refine iteT ?_
            have lowG : ∀ t, t ∈ G.2 → ∀ x, x ∈ t.2 → PyData.strOk x = true := fun t htm x hx => by
              have hP : G.2.map (·.2) ∈ BfM.partings ps := by rw [← egs]; exact List.mem_map_of_mem Gm
              exact low x (((BfM.partings_sound ndp _ hP).mem x).mpr ⟨t.2, List.mem_map_of_mem htm, hx⟩)
            refine ⟨_, rfl, _, rfl, G.1, td, G.2, ks, raw, rfl, hG2, by omega, lowG, ht.same (s1.trans s12), fun H3 s3 => ?_⟩
            have en : ((G.2.length : Nat) : Int) - (wh.length : Nat) = ((G.2.length - wh.length : Nat) : Int) := by omega
            have s13 := s12.trans s3
            have bv3 := bv2.same s3
            have lB : BfM.betwF raw ks (G.2.map (·.2)) ≤ 1000 := Nat.le_trans List.countP_le_length lk
            have elen : (G.2.map (·.2)).length - (wh.map (·.2)).length = G.2.length - wh.length := by rw [List.length_map, List.length_map]
            have newb : (∀ a b, o = some (a, b) → BfM.betwF raw ks (G.2.map (·.2)) * b < a * (G.2.length - wh.length)) → BestS raw ks (wh.map (·.2)) (valP (gs.take (i + 1))) (some (BfM.betwF raw ks (G.2.map (·.2)), G.2.length - wh.length)) := fun hn => by
              rw [tkG, ← elen]
              exact bestS_new bt (by rw [List.length_map, List.length_map]; exact hl) (by rw [elen]; exact hn)
            match o, bv3, bt, newb with
            | none, bv3, bt, newb =>
              have bv3 : v = .non := bv3
              subst bv3
              refine ⟨_, rfl, rfl, _, rfl, iteT ?_⟩
              refine ⟨_, rfl, _, rfl, small_le (by simp), fun p hpn => ?_⟩
              exact ⟨s13.put (s13.free hpn), .ref p, some (BfM.betwF raw ks (G.2.map (·.2)), G.2.length - wh.length), _, _, _, _, _, _, rfl, ⟨p, rfl, by rw [upd_same]; exact congrArg (fun z => some (HO.tup [V.int (BfM.betwF raw ks (G.2.map (·.2)) : Nat), V.int z])) en⟩, newb fun a b e => by cases e⟩
            | some (a, b), ⟨r, e, hr4⟩, bt, newb =>
              subst e
              have la : a ≤ 1000 := by
                obtain ⟨⟨M, m1, m2, m3⟩, _⟩ := bt
                exact m2 ▸ Nat.le_trans List.countP_le_length lk
              refine ⟨_, rfl, rfl, _, rfl, iteF ?_⟩
              refine ⟨_, rfl, _, rfl, r, _, 1, .int (b : Nat), rfl, rfl, SqT.of hr4, rfl, _, _, rfl, rfl, .inl ⟨by omega, by omega⟩, ?_⟩
              refine ⟨_, rfl, r, _, 0, .int (a : Nat), rfl, rfl, SqT.of hr4, rfl, _, rfl, _, _, rfl, rfl, .inl ⟨by omega, by omega⟩, _, _, rfl, rfl, _, rfl, ?_⟩
              rw [en, ← Int.natCast_mul, ← Int.natCast_mul]
              by_cases hlt : BfM.betwF raw ks (G.2.map (·.2)) * b < a * (G.2.length - wh.length)
              · rw [show decide (((BfM.betwF raw ks (G.2.map (·.2)) * b : Nat) : Int) < ((a * (G.2.length - wh.length) : Nat) : Int)) = true by rw [decide_eq_true_iff]; omega]
                refine iteT ⟨_, rfl, _, rfl, small_le (by simp), fun p hpn => ?_⟩
                exact ⟨s13.put (s13.free hpn), .ref p, some (BfM.betwF raw ks (G.2.map (·.2)), G.2.length - wh.length), _, _, _, _, _, _, rfl, ⟨p, rfl, by rw [upd_same]; exact congrArg (fun z => some (HO.tup [V.int (BfM.betwF raw ks (G.2.map (·.2)) : Nat), V.int z])) en⟩, newb fun a' b' e => by cases e; exact hlt⟩
              · rw [show decide (((BfM.betwF raw ks (G.2.map (·.2)) * b : Nat) : Int) < ((a * (G.2.length - wh.length) : Nat) : Int)) = false by rw [decide_eq_false_iff_not]; omega]
                exact iteF ⟨s13, .ref r, some (a, b), _, _, _, _, _, _, rfl, ⟨r, rfl, hr4⟩, by rw [tkG]; exact bestS_stay bt (by rw [elen]; omega)⟩
          · rw [show decide ((0 : Int) < ((G.2.length : Nat) : Int) - (wh.length : Nat)) = false by rw [decide_eq_false_iff_not]; omega]
            exact iteF ⟨s12, v, o, _, _, _, _, _, _, rfl, bv2, keep fun z => hl (by have := z.2; rw [List.length_map, List.length_map] at this; exact this)⟩
        · have hf2 : fitF (wh.map (·.2)) (G.2.map (·.2)) = false := by simpa using hf
          rw [hf2]
          exact iteF (iteF ⟨s12, v, o, _, _, _, _, _, _, rfl, bv2, keep fun z => hf z.1⟩)
    · rw [List.length_map] at q
      obtain ⟨s2, v, o, u4, u5, u6, u7, u8, u9, rfl, bv, bt⟩ := q
      rw [List.take_length, egs] at bt
      have s12 := s1.trans s2
      match o, bv, bt with
      | none, bv, bt =>
        have bv : v = .non := bv
        subst bv
        exact ⟨_, rfl, kN H' s12 bt⟩
      | some (a, b), ⟨r, e, hr2⟩, bt =>
        subst e
        exact ⟨_, rfl, kS H' r a b s12 hr2 bt⟩
end
end Bf
namespace Bf
open PySem PySem.Spec PyProof.Rows L2
section
variable {P : Program} {w : World} {K : PySem.W.Frag} {mg : Str → Option Value} {base : Heap}
theorem sc_pieces : FnScope ["web", "lot", "found", "firsts", "place", "first"] ["web", "lot"] (defScope s_pieces) := ⟨rfl, rfl, rfl, by decide +kernel, rfl, by decide +kernel, by decide +kernel⟩
/-- the scope of the outer walk of pieces -/
def piecesIn (s : Stmt) : Scope := match defBody s with
  | [_, _, .Return (some (.ListComp _ _ sc _)) _] => sc
  | _ => defScope s
def sp_pieces (K : PySem.W.Frag) : Sp := fun vs H Q _ => ∃ (wb la : Addr) (Vs T : List Str) (ends : Str → Str × Str), vs = [.ref wb, .ref la] ∧ WebAt K wb Vs T ends H ∧ H la = some (.lst (T.map V.str)) ∧
  ∀ H' ra ts f, Same H H' → LLs H' ra ts → BfM.MarkOk ends Vs (· ∈ T) f → ts.map (·.2) = (Vs.filter fun p => decide (f p = p)).map (fun r => Vs.filter fun p => decide (f p = r)) → Q (.ref ra) H'
theorem has_pieces (X : Txt K mg) (N : Fns K) : Has P w K mg base (He.ga K "pieces") 3 ["web", "lot"] (sp_pieces K) := by
  refine has_mk N.f_pieces sc_pieces (fun vs H Q E h => ?_) (fun _ _ _ _ _ _ us hl => match us, hl with | [_, _], _ => rfl) (fun cdv A outer s H vs Q E hr h => ?_)
  · obtain ⟨wb, la, Vs, T, ends, rfl, _⟩ := h; rfl
  · obtain ⟨wb, la, Vs, T, ends, rfl, hw, hla, k⟩ := h
    have ok := hw.ok
    refine ⟨_, pss_cons (ps_set (i := 2) sc_pieces.nd rfl (Or.inr rfl) (pe_me (pv 0) (has_marks (Vs := Vs) (T := T) (ends := ends) X N) X.c_Web X.m_Web_marks hr (pa_cons (pe_ca (has_need_lot X N) X.g_need_lot hr (pa_cons (pe_fld (pv 0) (by rfl)) (pa_cons (pv 1) pa_nil))) pa_nil)))
      (pss_cons (ps_setLc (i := 3) (own := [("place", 4)]) (g := gName 4) (tt := tTest (tOp rEq (tDGet (tVar 2) (tVar 4)) (tVar 4))) (te := tVar 4) rfl sc_pieces.nd rfl rfl (sw_true rfl rfl (by rfl) (by decide +kernel)) (pi_tup (pe_fld (pv 0) (by rfl))) (blkOk_by (N := ["web", "lot", "found", "firsts", "place", "first"]) (sc := defScope s_pieces) (by decide +kernel)) (fun _ _ _ _ _ => pg_name (i := 4) sc_pieces.nd rfl (Or.inl rfl)) (fun _ _ _ _ _ => pts_one (pt_cmpR op_eq (pe_dget (hu_of hr) (pv 2) (pv 4) (fun _ _ => rfl)) (pv 4) (by rfl))) (fun _ _ _ _ _ => pv 4))
      (pss_one (ps_ret (pe_lc (own := [("first", 5)]) (g := gName 5) (tt := tYes) (te := tLc (iTup K (tFld K (tVar 0) "known")) (gName 4) (tTest (tOp rEq (tDGet (tVar 2) (tVar 4)) (tVar 5))) (tVar 4) [4]) rfl sc_pieces.nd (pi_list (pv 3)) (blkOk_by (N := ["web", "lot", "found", "firsts", "place", "first"]) (sc := defScope s_pieces) (by decide +kernel)) (fun _ _ _ _ _ => pg_name (i := 5) sc_pieces.nd rfl (Or.inr rfl)) (fun _ _ _ _ _ => pts_nil)
        (fun _ _ _ _ _ => pe_lc (own := [("place", 4)]) (g := gName 4) (tt := tTest (tOp rEq (tDGet (tVar 2) (tVar 4)) (tVar 5))) (te := tVar 4) rfl sc_pieces.nd (pi_tup (pe_fld (pv 0) (by rfl))) (blkOk_by (N := ["web", "lot", "found", "firsts", "place", "first"]) (sc := relS (piecesIn s_pieces) (defScope s_pieces)) (by decide +kernel)) (fun _ _ _ _ _ => pg_name (i := 4) sc_pieces.nd rfl (Or.inl rfl)) (fun _ _ _ _ _ => pts_one (pt_cmpR op_eq (pe_dget (hu_of hr) (pv 2) (pv 4) (fun _ _ => rfl)) (pv 5) (by rfl))) (fun _ _ _ _ _ => pv 4)))))), ?_⟩
    have hw0 := hw
    obtain ⟨⟨dx, ka, ea, kve, hwb, hka, hea, kys, hen⟩, _⟩ := hw
    refine ⟨_, rfl, wb, dx, _, rfl, hwb, rfl, _, rfl, wb, _, dx, _, _, rfl, hwb, X.c_Web, X.n_Web_ending, rfl, _, rfl, la, ea, T, rfl, SqL.of hla, .inr ⟨kve, hea, fun x hx => by obtain ⟨p, e, _⟩ := hen x hx; rw [e]; rfl⟩, ok.rT, by have := ok.few; omega, fun H1 tp s1 htp htp1 => ?_⟩
    refine ⟨wb, tp, T, rfl, hw0.same s1, htp1, (fun x hx => hx), fun H2 fo f s2 hfo hf m => ?_⟩
    have s12 := s1.trans s2
    have g4 : ∀ {H3 : Hp} {c : Str}, Same H2 H3 → c ∈ Vs → DGet H3 fo (.str c) (some (.str (f c))) := fun {H3 c} s3 hc => by
      have := DGet.k (k := .inr c) (s3 _ _ hf); rw [markD_get hc] at this; exact this
    refine ⟨_, rfl, wb, _, dx, _, _, rfl, s12 _ _ hwb, X.c_Web, X.n_Web_known, rfl, ka, rfl, ⟨_, SqT.of (s12 _ _ hka)⟩, fun D hD => ?_⟩
    refine lc_pure (as := Vs) (f := V.str) (p := fun p => decide (f p = p)) (out := V.str) row_tup hD (fun _ q => SqT.of (q _ _ (s12 _ _ hka))) (small_line (by have := ok.fewV; omega)) (fun c H3 hc q Kt Kf k1 k2 => ?_) fun H3 q hL => ?_
    · refine ⟨rfl, _, rfl, _, rfl, fo, _, rfl, g4 q hc, _, rfl, rfl, _, rfl, ?_⟩
      by_cases e : f c = c
      · rw [show decide (V.str (f c) = V.str c) = true by simp [e]]
        exact iteT ⟨_, rfl, k1 (by simp [e]) _ (Same.refl _)⟩
      · rw [show decide (V.str (f c) = V.str c) = false by simp [e]]
        exact iteF (k2 (by simp [e]) _ (Same.refl _))
    · have s13 := s12.trans q
      refine ⟨_, rfl, D, rfl, ⟨_, SqL.of hL⟩, fun L hL2 => ?_⟩
      have lF : (Vs.filter fun p => decide (f p = p)).length ≤ 16 := Nat.le_trans (List.length_filter_le _ _) ok.fewV
      refine lc_row row_list (fun i acc H4 => Same H3 H4 ∧ ∃ ts : List (Addr × List Str), acc = ts.map (fun t => V.ref t.1) ∧ (∀ t, t ∈ ts → t.1 ≠ L ∧ H4 t.1 = some (.lst (t.2.map V.str))) ∧ ts.map (·.2) = ((Vs.filter fun p => decide (f p = p)).take i).map (fun r => Vs.filter fun p => decide (f p = r))) ⟨Same.refl _, [], rfl, (fun t ht => by cases ht), rfl⟩ hL2
        (fun i acc H4 o q => let ⟨q, ts, e1, e2, e3⟩ := q; ⟨q.put hL2, ts, e1, fun t ht => ⟨(e2 t ht).1, by rw [upd_ne (e2 t ht).1]; exact (e2 t ht).2⟩, e3⟩) (fun i acc H4 q => q.1.seq (SqL.of hL)) (small_line (by rw [List.length_map]; omega)) (fun i x acc H4 hx q4 hLL Kt Kf k1 k2 => ?_) fun acc H4 q4 hLL => ?_
      · obtain ⟨r, hr1, rfl⟩ := get_map hx
        obtain ⟨s4, ts, rfl, hts, ets⟩ := q4
        have s14 := s13.trans s4
        refine ⟨rfl, _, rfl, wb, _, dx, _, _, rfl, s14 _ _ hwb, X.c_Web, X.n_Web_known, rfl, ka, rfl, ⟨_, SqT.of (s14 _ _ hka)⟩, fun D2 hD2 => ?_⟩
        have nL : D2 ≠ L := fun z => by subst z; rw [hLL] at hD2; cases hD2
        refine lc_pure (as := Vs) (f := V.str) (p := fun p => decide (f p = r)) (out := V.str) row_tup hD2 (fun _ q => SqT.of (q _ _ (s14 _ _ hka))) (small_line (by have := ok.fewV; omega)) (fun c H5 hc q5 Kt2 Kf2 k3 k4 => ?_) fun H5 q5 hL5 => ?_
        · refine ⟨rfl, _, rfl, _, rfl, fo, _, rfl, g4 ((q.trans s4).trans q5) hc, _, rfl, rfl, _, rfl, ?_⟩
          by_cases e : f c = r
          · rw [show decide (V.str (f c) = V.str r) = true by simp [e]]
            exact iteT ⟨_, rfl, k3 (by simp [e]) _ (Same.refl _)⟩
          · rw [show decide (V.str (f c) = V.str r) = false by simp [e]]
            exact iteF (k4 (by simp [e]) _ (Same.refl _))
        · refine k1 _ _ ⟨s4.trans q5, ts ++ [(D2, Vs.filter fun p => decide (f p = r))], by simp, fun t ht => ?_, ?_⟩ (q5 _ _ hLL)
          · rcases List.mem_append.mp ht with h | h
            · exact ⟨(hts t h).1, q5 _ _ (hts t h).2⟩
            · rw [List.mem_singleton.mp h]; exact ⟨nL, hL5⟩
          · rw [List.map_append, ets, take_succ_get hr1, List.map_append]; rfl
      · rw [List.length_map, List.take_length] at q4
        obtain ⟨s4, ts, rfl, hts, ets⟩ := q4
        exact k H4 L ts f (s13.trans s4) ⟨hLL, fun t ht => (hts t ht).2⟩ m ets
end
end Bf
namespace Bf
open PySem PySem.Spec PyProof.Rows L2
/-! ## The plain law of the end -/
section
variable {Vs T ps mk S X L : List Str} {raw : Str → Str × Str} {p q a b : Nat} {ls : List QL} {pl lf : List Un_}
abbrev endsOf (raw : Str → Str × Str) : Str → Str × Str := fun t => sortP (raw t)
theorem sortP_in {x : Str × Str} {L : List Str} : ((sortP x).1 ∈ L ∧ (sortP x).2 ∈ L) ↔ (x.1 ∈ L ∧ x.2 ∈ L) := by
  unfold sortP; split <;> simp [and_comm]
theorem sortP_eq {x : Str × Str} : (sortP x).1 = (sortP x).2 ↔ x.1 = x.2 := by
  unfold sortP; split
  · exact ⟨fun h => h.symm, fun h => h.symm⟩
  · exact Iff.rfl
theorem inner_eq (pT : T.Perm mk) (h : ∀ x, x ∈ L ↔ x ∈ X) : BfM.innerF (endsOf raw) T L = BfM.innerF raw mk X := by
  unfold BfM.innerF
  rw [pT.countP_eq]
  refine List.countP_congr fun t _ => ?_
  rw [decide_eq_true_iff, decide_eq_true_iff, sortP_in, h, h]
theorem betw_eq (pT : T.Perm mk) {P : List (List Str)} : BfM.betwF (endsOf raw) T P = BfM.betwF raw mk P := by
  unfold BfM.betwF
  rw [pT.countP_eq]
  refine List.countP_congr fun t _ => ?_
  rw [decide_eq_true_iff, decide_eq_true_iff]
  exact forall_congr' fun m => forall_congr' fun _ => not_congr sortP_in
/-- the sorted copy of a lot stands among all lots -/
theorem lot_in (rV : Rising Vs) (pV : Vs.Perm ps) (nL : L.Nodup) (sL : ∀ x, x ∈ L → x ∈ Vs) : (Vs.filter fun x => decide (x ∈ L)) ∈ lotsTo Vs (ps.length + 1) ∧ (Vs.filter fun x => decide (x ∈ L)).length = L.length ∧ ∀ x, x ∈ (Vs.filter fun x => decide (x ∈ L)) ↔ x ∈ L := by
  have mem : ∀ x, x ∈ (Vs.filter fun x => decide (x ∈ L)) ↔ x ∈ L := fun x => by
    rw [List.mem_filter, decide_eq_true_iff]
    exact ⟨fun h => h.2, fun h => ⟨sL x h, h⟩⟩
  have len := BfM.nodup_eq_len (rV.nodup.filter fun x => decide (x ∈ L)) nL mem
  refine ⟨List.mem_flatMap.mpr ⟨L.length, List.mem_range.mpr ?_, BfM.lots_whole L.length _ len (rV.filter _) fun x hx => (List.mem_filter.mp hx).1⟩, len, mem⟩
  have := BfM.nodup_len nL sL
  rw [pV.length_eq] at this
  omega
theorem lot_out (h : L ∈ lotsTo Vs (ps.length + 1)) : Rising L ∧ ∀ x, x ∈ L → x ∈ Vs := by
  obtain ⟨j, _, hm⟩ := List.mem_flatMap.mp h
  exact (BfM.lots_sound (lt := lts) (fun x y z h1 h2 => lts_trans h1 h2) j L hm).2
/-- thickness and the law's best agree -/
theorem thick_agree (ok : WebOk Vs T (endsOf raw)) (pV : Vs.Perm ps) (pT : T.Perm mk) (th : ThickOk Vs T (endsOf raw) p q S ls pl) (loops : ∀ t, t ∈ T → (endsOf raw t).1 ≠ (endsOf raw t).2) (bt : BestT raw mk (lotsTo Vs (ps.length + 1)) (some (a, b))) : p * b = a * q := by
  obtain ⟨⟨L, m1, m2, m3, m4⟩, _, best⟩ := bt
  obtain ⟨rL, sL⟩ := lot_out m1
  refine BfM.thick_end ok.web ok.rT.nodup loops (fun X nX sX => BfM.cover_le ok.web th.pt th.pm nX sX ok.rT.nodup) th.rS.nodup th.sub th.pos th.eq ⟨L, rL.nodup, sL, m2, by rw [m3, ← inner_eq pT (fun x => Iff.rfl)], m4⟩ fun L nL sL l2 i0 => ?_
  obtain ⟨h1, h2, h3⟩ := lot_in ok.rV pV nL sL
  have e := inner_eq (raw := raw) (L := L) (X := Vs.filter fun x => decide (x ∈ L)) pT (fun x => (h3 x).symm)
  rw [e] at i0 ⊢
  rw [← h2]
  exact best _ h1 (by rw [h2]; exact l2) i0
/-- ties without loops: some lot holds one -/
theorem thick_some (ok : WebOk Vs T (endsOf raw)) (pV : Vs.Perm ps) (pT : T.Perm mk) (ne : T ≠ []) (loops : ∀ t, t ∈ T → (endsOf raw t).1 ≠ (endsOf raw t).2) : ¬ BestT raw mk (lotsTo Vs (ps.length + 1)) none := by
  intro h
  obtain ⟨t, ht⟩ := List.exists_mem_of_ne_nil T ne
  have nL : [(endsOf raw t).1, (endsOf raw t).2].Nodup := by simp [loops t ht]
  have sL : ∀ x, x ∈ [(endsOf raw t).1, (endsOf raw t).2] → x ∈ Vs := fun x hx => by
    rcases List.mem_cons.mp hx with e | e
    · rw [e]; exact ok.web.ends1 t
    · rw [List.mem_singleton.mp e]; exact ok.web.ends2 t
  obtain ⟨h1, h2, h3⟩ := lot_in ok.rV pV nL sL
  have z := h _ h1 (by rw [h2]; exact Nat.le_refl _)
  rw [← inner_eq (raw := raw) (L := [(endsOf raw t).1, (endsOf raw t).2]) pT (fun x => (h3 x).symm)] at z
  unfold BfM.innerF at z
  have := List.countP_eq_zero.mp z t ht
  simp at this
theorem thick_none (e : mk = []) : ¬ BestT raw mk (lotsTo Vs (ps.length + 1)) (some (a, b)) := by
  rintro ⟨⟨L, m1, m2, m3, m4⟩, h0, _⟩
  subst e
  unfold BfM.innerF at m3
  simp at m3
  omega
/-- a thing alone has rank 0 just as a loop -/
theorem rk_loop (ok : WebOk Vs T (endsOf raw)) (t : Str) : BfM.rk (endsOf raw) Vs [t] = 0 ↔ (endsOf raw t).1 = (endsOf raw t).2 := by
  have key : BfM.Cl (endsOf raw) (fun z => z ∈ ([] : List Str)) t ↔ (endsOf raw t).1 = (endsOf raw t).2 := by
    constructor
    · intro h
      have : ∀ {u v : Str}, BfM.Conn (endsOf raw) (fun z => z ∈ ([] : List Str)) u v → u = v := fun {u v} h => by
        induction h with
        | refl => rfl
        | fwd e _ m => cases m
        | bwd e _ m => cases m
      exact this h
    · intro h
      show BfM.Conn _ _ _ _
      rw [h]; exact .refl _
  by_cases c : BfM.Cl (endsOf raw) (fun z => z ∈ ([] : List Str)) t
  · rw [BfM.rk_cons_in ok.web c, BfM.rk_nil]
    exact ⟨fun _ => key.mp c, fun _ => rfl⟩
  · rw [BfM.rk_cons_out ok.web c, BfM.rk_nil]
    exact ⟨fun h => by omega, fun h => absurd (key.mpr h) c⟩
end
section
variable {Vs T ps mk S : List Str} {raw : Str → Str × Str} {p q a b : Nat} {ls : List QL} {pl lf : List Un_} {f : Str → Str} {wh : List (List Str)}
/-- the pieces of a web: the classes of its marks -/
structure PiecesOf (Vs T : List Str) (raw : Str → Str × Str) (f : Str → Str) (wh : List (List Str)) : Prop where
  mark : BfM.MarkOk (endsOf raw) Vs (· ∈ T) f
  eq : wh = (Vs.filter fun p => decide (f p = p)).map fun r => Vs.filter fun p => decide (f p = r)
theorem pieces_len (ok : WebOk Vs T (endsOf raw)) (h : PiecesOf Vs T raw f wh) : wh.length + BfM.rk (endsOf raw) Vs T = Vs.length := by
  rw [h.eq, List.length_map, BfM.filter_len, ← BfM.rk_of ok.web h.mark]
  exact BfM.roots_add Vs f
theorem fit_of (h : PiecesOf Vs T raw f wh) {M : List (List Str)} (hM : BfM.IsPart Vs M) (c : ∀ m, m ∈ M → ∀ x, x ∈ m → ∀ y, y ∈ m → BfM.Conn (endsOf raw) (· ∈ T) x y) : fitF wh M = true := by
  unfold fitF
  rw [List.all_eq_true]
  intro m hm
  rw [List.any_eq_true]
  obtain ⟨x, hx⟩ := List.exists_mem_of_ne_nil m (hM.ne m hm)
  have xV := (hM.mem x).mpr ⟨m, hm, hx⟩
  refine ⟨Vs.filter fun p => decide (f p = f x), ?_, ?_⟩
  · rw [h.eq]
    exact List.mem_map.mpr ⟨f x, List.mem_filter.mpr ⟨h.mark.inV x xV, decide_eq_true (h.mark.idem x xV)⟩, rfl⟩
  · rw [List.all_eq_true]
    intro y hy
    have yV := (hM.mem y).mpr ⟨m, hm, hy⟩
    exact decide_eq_true (List.mem_filter.mpr ⟨yV, decide_eq_true ((h.mark.conn y yV x xV).mpr (c m hm y hy x hx))⟩)
theorem part_le (ok : WebOk Vs T (endsOf raw)) {M : List (List Str)} (hM : BfM.IsPart Vs M) : M.length ≤ Vs.length := by
  have := BfM.rk_parts (X := []) ok.web M hM.ne (fun m hm a ha => (hM.mem a).mpr ⟨m, hm, ha⟩) hM.dis (fun e he => by cases he)
  omega
theorem parts_of (pV : Vs.Perm ps) (ndp : ps.Nodup) {M : List (List Str)} (hM : M ∈ BfM.partings ps) : BfM.IsPart Vs M := (BfM.partings_sound ndp M hM).to fun a => pV.mem_iff.symm
/-- strength and the law's best agree -/
theorem strong_agree (ok : WebOk Vs T (endsOf raw)) (pV : Vs.Perm ps) (ndp : ps.Nodup) (pT : T.Perm mk) (h : PiecesOf Vs T raw f wh) (th : StrongOk Vs T (endsOf raw) p q S ls pl lf) (bs : BestS raw mk wh (BfM.partings ps) (some (a, b))) : p * b = a * q := by
  obtain ⟨⟨M, m1, m2, m3⟩, b0, best⟩ := bs
  refine BfM.strong_end ok.web ok.rT.nodup (fun X nX sX => ?_) th.rS.nodup th.sub th.less th.eq (pieces_len ok h) (BfM.partings ps) (fun M hM => parts_of pV ndp hM) (fun g => ?_) ⟨M, m1, by rw [m2, betw_eq pT], m3⟩ fun M hM c l => ?_
  · have := BfM.pack_le ok.web th.pt th.pm nX sX ok.rT.nodup
    rw [th.full] at this
    exact this
  · obtain ⟨M, h1, h2⟩ := BfM.partings_whole ndp g
    exact ⟨M, h1, h2.to fun a => pV.mem_iff.symm⟩
  · rw [betw_eq pT]
    exact best M hM (fit_of h (parts_of pV ndp hM) c) l
theorem strong_some (ok : WebOk Vs T (endsOf raw)) (pV : Vs.Perm ps) (ndp : ps.Nodup) (h : PiecesOf Vs T raw f wh) (pos : 0 < BfM.rk (endsOf raw) Vs T) : ¬ BestS raw mk wh (BfM.partings ps) none := by
  intro hn
  obtain ⟨M, h1, h2⟩ := BfM.partings_whole ndp (fun x : Str => x)
  have h2 := h2.to (W := Vs) fun a => pV.mem_iff.symm
  have len := BfM.class_len ok.rV.nodup (BfM.mark_id (ends := endsOf raw) Vs) h2
  have fit := fit_of h h2.toIsPart fun m hm x hx y hy => by rw [h2.same m hm x hx y hy]; exact .refl _
  have := hn M h1 fit
  have e : BfM.roots Vs (fun x : Str => x) = Vs.length := by
    unfold BfM.roots
    exact List.countP_eq_length.mpr fun x _ => decide_eq_true rfl
  have := pieces_len ok h
  omega
theorem strong_none (ok : WebOk Vs T (endsOf raw)) (pV : Vs.Perm ps) (ndp : ps.Nodup) (h : PiecesOf Vs T raw f wh) (z : BfM.rk (endsOf raw) Vs T = 0) : ¬ BestS raw mk wh (BfM.partings ps) (some (a, b)) := by
  rintro ⟨⟨M, m1, m2, m3⟩, b0, _⟩
  have h1 := part_le ok (parts_of pV ndp m1)
  have h2 := pieces_len ok h
  omega
end
/-! ### fewest, most -/
section
variable {Vs T S : List Str} {ends : Str → Str × Str} {p q : Nat} {ls : List QL} {pl lf : List Un_}
theorem ceil_lt {m k : Nat} (hq : 0 < q) (hm : m = (p + q - 1) / q) (h : k < m) : k * q < p := by
  have h1 : (k + 1) * q ≤ p + q - 1 := by
    rw [hm] at h
    exact (Nat.le_div_iff_mul_le hq).mp h
  rw [Nat.add_mul, Nat.one_mul] at h1
  omega
theorem ceil_ge {m : Nat} (hq : 0 < q) (hm : m = (p + q - 1) / q) : p ≤ m * q := by
  have h1 := Nat.lt_div_mul_add (a := p + q - 1) hq
  rw [← hm] at h1
  omega
theorem few_lo (ok : WebOk Vs T ends) (th : ThickOk Vs T ends p q S ls pl) {k m : Nat} (hm : m = (p + q - 1) / q) (h : k < m) (lots : List (List Un_)) (pl2 : List Un_) (pt : BfM.Parts ends k lots pl2) : ¬ pl2.Perm (BfM.copiesF T 1) := by
  intro pm
  have h1 := BfM.cover_le ok.web pt pm th.rS.nodup th.sub ok.rT.nodup
  have h2 := ceil_lt th.q1 hm h
  have e := th.eq
  have pos := th.pos
  rw [Nat.one_mul] at h1
  have : q * S.length ≤ (k * q) * BfM.rk ends Vs S := by
    calc q * S.length ≤ q * (k * BfM.rk ends Vs S) := Nat.mul_le_mul_left q h1
      _ = (k * q) * BfM.rk ends Vs S := by rw [← Nat.mul_assoc, Nat.mul_comm q k]
  have h3 : (k * q) * BfM.rk ends Vs S < p * BfM.rk ends Vs S := Nat.mul_lt_mul_of_pos_right h2 pos
  omega
theorem few_hi (ok : WebOk Vs T ends) (th : ThickOk Vs T ends p q S ls pl) {m : Nat} (hm : m = (p + q - 1) / q) (X : List Str) (rX : Rising X) (sX : ∀ t, t ∈ X → t ∈ T) : X.length ≤ m * BfM.rk ends Vs X := by
  have h1 := BfM.cover_le ok.web th.pt th.pm rX.nodup sX ok.rT.nodup
  have h2 := ceil_ge th.q1 hm
  refine BfM.mul_cancel th.q1 ?_
  calc q * X.length ≤ p * BfM.rk ends Vs X := h1
    _ ≤ (m * q) * BfM.rk ends Vs X := Nat.mul_le_mul_right _ h2
    _ = q * (m * BfM.rk ends Vs X) := by rw [Nat.mul_comm m q, Nat.mul_assoc]
theorem most_one (ok : WebOk Vs T ends) (th : StrongOk Vs T ends p q S ls pl lf) : 1 ≤ p / q := by
  have rr := rk_rest ok.web th.rS.nodup ok.rT.nodup th.sub
  have les := th.less
  have e := th.eq
  refine (Nat.le_div_iff_mul_le th.q1).mpr ?_
  rw [Nat.one_mul]
  rcases Nat.lt_or_ge p q with h | h
  · have h1 : p * (BfM.rk ends Vs T - BfM.rk ends Vs S) < q * (BfM.rk ends Vs T - BfM.rk ends Vs S) := Nat.mul_lt_mul_of_pos_right h (by omega)
    have h2 : q * (BfM.rk ends Vs T - BfM.rk ends Vs S) ≤ q * (T.length - S.length) := Nat.mul_le_mul_left q (by omega)
    omega
  · exact h
theorem most_lo (ok : WebOk Vs T ends) (th : StrongOk Vs T ends p q S ls pl lf) {k : Nat} (hk : k ≤ p / q) (X : List Str) (rX : Rising X) (sX : ∀ t, t ∈ X → t ∈ T) : k * BfM.rk ends Vs T + X.length ≤ k * BfM.rk ends Vs X + T.length := by
  have h1 := BfM.pack_le ok.web th.pt th.pm rX.nodup sX ok.rT.nodup
  rw [th.full] at h1
  have h2 : k * q ≤ p := (Nat.le_div_iff_mul_le th.q1).mp hk
  have mono := BfM.rk_mono (X := X) (Y := T) ok.web sX
  have len := BfM.nodup_len rX.nodup sX
  obtain ⟨d, hd⟩ := Nat.exists_eq_add_of_le mono
  obtain ⟨e, he⟩ := Nat.exists_eq_add_of_le len
  rw [hd, he] at h1 ⊢
  rw [Nat.mul_add, Nat.mul_add] at h1
  have h3 : p * d ≤ q * e := by omega
  have h4 : q * (k * d) ≤ q * e := by
    calc q * (k * d) = (k * q) * d := by rw [← Nat.mul_assoc, Nat.mul_comm q k]
      _ ≤ p * d := Nat.mul_le_mul_right d h2
      _ ≤ q * e := h3
  have h5 := BfM.mul_cancel th.q1 h4
  rw [Nat.mul_add]
  omega
theorem most_hi (ok : WebOk Vs T ends) (th : StrongOk Vs T ends p q S ls pl lf) : (p / q + 1) * BfM.rk ends Vs S + T.length < (p / q + 1) * BfM.rk ends Vs T + S.length := by
  have h2 : p < (p / q + 1) * q := by rw [Nat.add_mul, Nat.one_mul]; exact Nat.lt_div_mul_add th.q1
  have les := th.less
  have len := BfM.nodup_len th.rS.nodup th.sub
  have e := th.eq
  obtain ⟨d, hd⟩ := Nat.exists_eq_add_of_le (Nat.le_of_lt les)
  obtain ⟨f, hf⟩ := Nat.exists_eq_add_of_le len
  rw [hd, hf, Nat.add_sub_cancel_left, Nat.add_sub_cancel_left] at e
  rw [hd, hf, Nat.mul_add]
  have d0 : 0 < d := by omega
  generalize p / q + 1 = m at h2 ⊢
  have h3 : q * f < q * (m * d) := by
    calc q * f = p * d := e
      _ < (m * q) * d := Nat.mul_lt_mul_of_pos_right h2 d0
      _ = q * (m * d) := by rw [Nat.mul_comm m q, Nat.mul_assoc]
  have h4 : f < m * d := Nat.lt_of_mul_lt_mul_left h3
  omega
end
end Bf
namespace Bf
open PySem PySem.Spec PyProof.Rows L2
/-! ## ties twice: the second names -/
abbrev dxS : Str := "doublex"
def abcd (j : Nat) : Nat := ([97, 98, 99, 100] : List Nat).getD j 0
theorem abcd_at : (("abcd" : Str).cps.toList) = [97, 98, 99, 100] := by decide +kernel
theorem dx_tl : dxS.cps.toList = [100, 111, 117, 98, 108, 101, 120] := by decide +kernel
def dblJ (j : Nat) : Str := dxS ++ ⟨#[abcd j]⟩
def dbl (S : List Str) (t : Str) : Str := dblJ (S.idxOf t)
theorem dblJ_tl (j : Nat) : (dblJ j).cps.toList = [100, 111, 117, 98, 108, 101, 120] ++ [abcd j] := by
  have := TL.tl_append dxS ⟨#[abcd j]⟩
  show TL.tl (dxS ++ ⟨#[abcd j]⟩) = _
  rw [this]
  show dxS.cps.toList ++ [abcd j] = _
  rw [dx_tl]
theorem dblJ_len (j : Nat) : (dblJ j).length = 8 := by rw [TL.len_tl]; show (dblJ j).cps.toList.length = 8; rw [dblJ_tl]; rfl
theorem dblJ_inj {i j : Nat} (hi : i < 4) (hj : j < 4) (h : dblJ i = dblJ j) : i = j := by
  have e : (dblJ i).cps.toList = (dblJ j).cps.toList := by rw [h]
  rw [dblJ_tl, dblJ_tl] at e
  have e2 : abcd i = abcd j := by simpa using e
  match i, hi, j, hj, e2 with
  | 0, _, 0, _, _ => rfl
  | 1, _, 1, _, _ => rfl
  | 2, _, 2, _, _ => rfl
  | 3, _, 3, _, _ => rfl
  | 0, _, 1, _, h => cases h
  | 0, _, 2, _, h => cases h
  | 0, _, 3, _, h => cases h
  | 1, _, 0, _, h => cases h
  | 1, _, 2, _, h => cases h
  | 1, _, 3, _, h => cases h
  | 2, _, 0, _, h => cases h
  | 2, _, 1, _, h => cases h
  | 2, _, 3, _, h => cases h
  | 3, _, 0, _, h => cases h
  | 3, _, 1, _, h => cases h
  | 3, _, 2, _, h => cases h
theorem dblJ_ok {j : Nat} (hj : j < 4) : NameOk (dblJ j) := by
  refine ⟨by rw [dblJ_len]; decide, by rw [dblJ_len]; decide, fun c hc => ?_⟩
  rw [dblJ_tl] at hc
  have all : ∀ j, j < 4 → ∀ c, c ∈ [100, 111, 117, 98, 108, 101, 120] ++ [abcd j] → c ∈ abcS.cps.toList := by decide +kernel
  exact all j hj c hc
section
variable {S ks : List Str} {t u : Str}
theorem dbl_inj (lS : S.length ≤ 4) (ht : t ∈ S) (hu : u ∈ S) (h : dbl S t = dbl S u) : t = u := by
  have h1 := List.idxOf_lt_length_iff.mpr ht
  have h2 := List.idxOf_lt_length_iff.mpr hu
  have e := dblJ_inj (by omega) (by omega) h
  have e1 := List.getElem_idxOf h1
  have e2 := List.getElem_idxOf h2
  rw [← e1, ← e2]
  congr 1
theorem dbl_out (ok : ∀ x, x ∈ ks → WordOk x) : dbl S t ∉ ks := fun h => by
  have := (ok _ h).short
  unfold dbl at this
  rw [dblJ_len] at this
  omega
/-- the names of the ties, once or twice -/
def mkF (n : Nat) (S l : List Str) : List Str := l.flatMap fun t => if n = 2 then [t, dbl S t] else [t]
/-- whose tie a name is -/
def owner (n : Nat) (S ks : List Str) (x : Str) : Str := if x ∈ ks then x else (ks.find? fun t => decide (dbl S t = x)).getD x
theorem mem_mkF {n : Nat} {l : List Str} {x : Str} : x ∈ mkF n S l ↔ ∃ t, t ∈ l ∧ (x = t ∨ (n = 2 ∧ x = dbl S t)) := by
  unfold mkF
  rw [List.mem_flatMap]
  refine exists_congr fun t => and_congr_right fun _ => ?_
  by_cases e : n = 2
  · rw [if_pos e]; simp [e]
  · rw [if_neg e]; simp [e]
theorem owner_self {n : Nat} (h : t ∈ ks) : owner n S ks t = t := if_pos h
theorem owner_dbl {n : Nat} (ok : ∀ x, x ∈ ks → WordOk x) (lS : S.length ≤ 4) (mS : ∀ x, x ∈ S ↔ x ∈ ks) (h : t ∈ ks) : owner n S ks (dbl S t) = t := by
  unfold owner
  rw [if_neg (dbl_out ok)]
  cases e : ks.find? fun u => decide (dbl S u = dbl S t) with
  | none =>
    have := List.find?_eq_none.mp e t h
    simp at this
  | some u =>
    have h1 := List.mem_of_find?_eq_some e
    have h2 : dbl S u = dbl S t := of_decide_eq_true (List.find?_some (p := fun u : Str => decide (dbl S u = dbl S t)) e)
    exact dbl_inj lS ((mS u).mpr h1) ((mS t).mpr h) h2
theorem mkF_nodup {n : Nat} (ok : ∀ x, x ∈ ks → WordOk x) (hn : n = 2 → S.length ≤ 4) (mS : ∀ x, x ∈ S ↔ x ∈ ks) : ∀ {l : List Str}, l.Nodup → (∀ x, x ∈ l → x ∈ ks) → (mkF n S l).Nodup
  | [], _, _ => List.nodup_nil
  | t :: l, nd, sub => by
    obtain ⟨n1, n2⟩ := List.nodup_cons.mp nd
    have ih := mkF_nodup ok hn mS n2 fun x hx => sub x (List.mem_cons_of_mem _ hx)
    have ht := sub t (List.mem_cons_self ..)
    have notT : t ∉ mkF n S l := fun h => by
      obtain ⟨u, hu, e | ⟨_, e⟩⟩ := mem_mkF.mp h
      · exact n1 (e ▸ hu)
      · exact dbl_out (S := S) (t := u) ok (e ▸ ht)
    show ((if n = 2 then [t, dbl S t] else [t]) ++ mkF n S l).Nodup
    by_cases e : n = 2
    · rw [if_pos e]
      refine List.nodup_cons.mpr ⟨fun h => ?_, List.nodup_cons.mpr ⟨fun h => ?_, ih⟩⟩
      · rcases List.mem_cons.mp h with z | z
        · exact dbl_out (S := S) (t := t) ok (z ▸ ht)
        · exact notT z
      · obtain ⟨u, hu, z | ⟨_, z⟩⟩ := mem_mkF.mp h
        · exact dbl_out (S := S) (t := t) ok (z ▸ sub u (List.mem_cons_of_mem _ hu))
        · have := dbl_inj (hn e) ((mS t).mpr ht) ((mS u).mpr (sub u (List.mem_cons_of_mem _ hu))) z
          exact n1 (this ▸ hu)
    · rw [if_neg e]
      exact List.nodup_cons.mpr ⟨notT, ih⟩
theorem mkF_len {n : Nat} : ∀ l : List Str, (mkF n S l).length ≤ (if n = 2 then 2 else 1) * l.length
  | [] => by simp [mkF]
  | t :: l => by
    have ih := mkF_len (n := n) l
    show ((if n = 2 then [t, dbl S t] else [t]) ++ mkF n S l).length ≤ _
    rw [List.length_append, List.length_cons]
    by_cases e : n = 2
    · rw [if_pos e] at ih ⊢
      rw [if_pos e]
      simp only [List.length_cons, List.length_nil]
      omega
    · rw [if_neg e] at ih ⊢
      rw [if_neg e]
      simp only [List.length_cons, List.length_nil]
      omega
end
theorem sorted_ex : ∀ ks : List Str, ks.Nodup → ∃ S, Rising S ∧ ∀ x, x ∈ S ↔ x ∈ ks
  | [], _ => ⟨[], .nil, fun x => Iff.rfl⟩
  | k :: ks, nd => by
    obtain ⟨n1, n2⟩ := List.nodup_cons.mp nd
    obtain ⟨S, r, m⟩ := sorted_ex ks n2
    have nk : k ∉ S := fun h => n1 ((m k).mp h)
    refine ⟨S.filter (fun x => lts x k) ++ k :: S.filter (fun x => lts k x), ?_, fun x => ?_⟩
    · refine List.pairwise_append.mpr ⟨r.filter _, List.pairwise_cons.mpr ⟨fun y hy => (List.mem_filter.mp hy).2, r.filter _⟩, fun a ha b hb => ?_⟩
      have h1 := (List.mem_filter.mp ha).2
      rcases List.mem_cons.mp hb with e | e
      · rw [e]; exact h1
      · exact lts_trans h1 (List.mem_filter.mp e).2
    · rw [List.mem_append, List.mem_cons, List.mem_cons, List.mem_filter, List.mem_filter, m]
      constructor
      · rintro (h | h | h)
        · exact .inr h.1
        · exact .inl h
        · exact .inr h.1
      · rintro (h | h)
        · exact .inr (.inl h)
        · have ne : x ≠ k := fun e => n1 (e ▸ h)
          rcases lts_total ne with e | e
          · exact .inl ⟨h, e⟩
          · exact .inr (.inr ⟨h, e⟩)
end Bf
namespace Bf
open PySem PySem.Spec PyProof.Rows L2
section
variable {K : PySem.W.Frag} {fa d na wb : Addr} {Vs T : List Str} {ends : Str → Str × Str} {H H1 : Hp} {Q : VK} {E : XK}
/-- what thickness tells -/
def RT (Vs T : List Str) (ends : Str → Str × Str) (H : Hp) (v : V) : Prop := (v = .non ∧ (T = [] ∨ ∃ t, t ∈ T ∧ BfM.rk ends Vs [t] = 0)) ∨
  ∃ r la ta p q S ts ls pl, v = .ref r ∧ H r = some (.tup [.int (p : Nat), .int (q : Nat), .ref la, .ref ta]) ∧ H la = some (.lst (S.map V.str)) ∧ Told H ls ta ts ∧ ThickOk Vs T ends p q S ls pl
/-- what strength tells -/
def RS (Vs T : List Str) (ends : Str → Str × Str) (H : Hp) (v : V) : Prop := (v = .non ∧ BfM.rk ends Vs T = 0) ∨
  ∃ r la ta p q S ts ls pl lf, v = .ref r ∧ H r = some (.tup [.int (p : Nat), .int (q : Nat), .ref la, .ref ta]) ∧ H la = some (.lst (S.map V.str)) ∧ Told H ls ta ts ∧ StrongOk Vs T ends p q S ls pl lf
theorem thick_use (hF : Fam K fa d na wb Vs T ends H) (k : ∀ v H', Fk K fa d na wb Vs T ends H H' → RT Vs T ends H' v → Q v H') : sp_thickness K [.ref fa] H Q E :=
  ⟨fa, d, na, wb, Vs, T, ends, rfl, hF, fun h H' f => k .non H' f (.inl ⟨rfl, h⟩), fun H' r la ta p q S ts ls pl f h1 h2 h3 h4 => k (.ref r) H' f (.inr ⟨r, la, ta, p, q, S, ts, ls, pl, rfl, h1, h2, h3, h4⟩)⟩
theorem strong_use (hF : Fam K fa d na wb Vs T ends H) (k : ∀ v H', Fk K fa d na wb Vs T ends H H' → RS Vs T ends H' v → Q v H') : sp_strength K [.ref fa] H Q E :=
  ⟨fa, d, na, wb, Vs, T, ends, rfl, hF, fun h H' f => k .non H' f (.inl ⟨rfl, h⟩), fun H' r la ta p q S ts ls pl lf f h1 h2 h3 h4 => k (.ref r) H' f (.inr ⟨r, la, ta, p, q, S, ts, ls, pl, lf, rfl, h1, h2, h3, h4⟩)⟩
theorem RT.fk {v : V} (h : RT Vs T ends H v) (f : Fk K fa d na wb Vs T ends H H1) : RT Vs T ends H1 v := by
  rcases h with h | ⟨r, la, ta, p, q, S, ts, ls, pl, e, h1, h2, h3, h4⟩
  · exact .inl h
  · exact .inr ⟨r, la, ta, p, q, S, ts, ls, pl, e, f.at h1, f.at h2, Fk.told h3 f, h4⟩
theorem RS.fk {v : V} (h : RS Vs T ends H v) (f : Fk K fa d na wb Vs T ends H H1) : RS Vs T ends H1 v := by
  rcases h with h | ⟨r, la, ta, p, q, S, ts, ls, pl, lf, e, h1, h2, h3, h4⟩
  · exact .inl h
  · exact .inr ⟨r, la, ta, p, q, S, ts, ls, pl, lf, e, f.at h1, f.at h2, Fk.told h3 f, h4⟩
theorem best_thick {pl td : Addr} {ps ks : List Str} {raw : Str → Str × Str} (rV : Rising Vs) (mV : ∀ t, t ∈ Vs ↔ t ∈ ps) (hp : H pl = some (.lst (ps.map V.str))) (ndp : ps.Nodup) (lp : ps.length ≤ 5) (low : ∀ t, t ∈ ps → PyData.strOk t = true) (ht : TiesAt H td ks raw) (lk : ks.length ≤ 1000)
    (k : ∀ v H' o, Same H H' → BestV H' v o → BestT raw ks (lotsTo Vs (ps.length + 1)) o → Q v H') : sp_thick [.ref pl, .ref td] H Q E :=
  ⟨pl, td, ps, Vs, ks, raw, rfl, hp, ndp, lp, low, rV, mV, ht, lk, fun H' s b => k .non H' none s rfl b, fun H' r a b s h1 h2 => k (.ref r) H' (some (a, b)) s ⟨r, rfl, h1⟩ h2⟩
theorem best_strong {pl td wa : Addr} {ps ks : List Str} {raw : Str → Str × Str} {wh : List (Addr × List Str)} (hp : H pl = some (.lst (ps.map V.str))) (ndp : ps.Nodup) (lp : ps.length ≤ 5) (low : ∀ t, t ∈ ps → PyData.strOk t = true) (hw : LLs H wa wh) (lw : wh.length ≤ 100) (ht : TiesAt H td ks raw) (lk : ks.length ≤ 1000)
    (k : ∀ v H' o, Same H H' → BestV H' v o → BestS raw ks (wh.map (·.2)) (BfM.partings ps) o → Q v H') : sp_strong [.ref pl, .ref td, .ref wa] H Q E :=
  ⟨pl, td, wa, ps, ks, raw, wh, rfl, hp, ndp, lp, low, hw, lw, ht, lk, fun H' s b => k .non H' none s rfl b, fun H' r a b s h1 h2 => k (.ref r) H' (some (a, b)) s ⟨r, rfl, h1⟩ h2⟩
end
end Bf
namespace Bf
open PySem PySem.Spec PyProof.Rows L2
section
variable {Vs T ps mk : List Str} {raw : Str → Str × Str} {H : Hp} {Q : VK} {E : XK} {v6 v7 v8 : V} {f : Str → Str} {wh : List (List Str)}
theorem due_same (ok : WebOk Vs T (endsOf raw)) (pV : Vs.Perm ps) (pT : T.Perm mk) (r6 : RT Vs T (endsOf raw) H v6)
    (due : (v8 = .non ∧ ∃ t, t ∈ mk ∧ (raw t).1 = (raw t).2) ∨ ((∀ t, t ∈ mk → (raw t).1 ≠ (raw t).2) ∧ ∃ o, BestV H v8 o ∧ BestT raw mk (lotsTo Vs (ps.length + 1)) o)) (q : Q (.bl true) H) : sp_same [v6, v8] H Q E := by
  have lp : (∀ t, t ∈ mk → (raw t).1 ≠ (raw t).2) → ∀ t, t ∈ T → (endsOf raw t).1 ≠ (endsOf raw t).2 := fun h t ht e => h t (pT.mem_iff.mp ht) (sortP_eq.mp e)
  rcases r6 with ⟨rfl, h6⟩ | ⟨r, la, ta, p, q', S, ts, ls, pl, rfl, h1, h2, h3, th⟩
  · rcases due with ⟨rfl, _⟩ | ⟨no, o, bv, bt⟩
    · exact .inl ⟨rfl, q⟩
    · have eT : T = [] := by
        rcases h6 with h | ⟨t, ht, z⟩
        · exact h
        · exact absurd ((rk_loop ok t).mp z) (lp no t ht)
      have eM : mk = [] := by
        have := pT.length_eq
        rw [eT] at this
        exact List.eq_nil_of_length_eq_zero this.symm
      match o, bv, bt with
      | none, bv, bt =>
        have bv : v8 = .non := bv
        subst bv
        exact .inl ⟨rfl, q⟩
      | some (a, b), bv, bt => exact absurd bt (thick_none eM)
  · have nl : ∀ t, t ∈ T → (endsOf raw t).1 ≠ (endsOf raw t).2 := fun t ht e => th.ns t ht ((rk_loop ok t).mpr e)
    have ne : T ≠ [] := fun e => by
      have pos := th.pos
      have le := BfM.rk_le_len (V := Vs) ok.web S
      cases S with
      | nil => simp at le; omega
      | cons s _ =>
        have := th.sub s (List.mem_cons_self ..)
        rw [e] at this; cases this
    rcases due with ⟨rfl, t, ht, e⟩ | ⟨no, o, bv, bt⟩
    · exact absurd (sortP_eq.mpr e) (nl t (pT.mem_iff.mpr ht))
    · match o, bv, bt with
      | none, bv, bt => exact absurd bt (thick_some ok pV pT ne nl)
      | some (a, b), ⟨s, e, hs⟩, bt =>
        subst e
        refine .inr ⟨r, s, p, q', a, b, _, rfl, h1, hs, by have := th.p8; omega, by have := th.q8; omega, thick_agree ok pV pT th nl bt, q⟩
theorem strong_same (ok : WebOk Vs T (endsOf raw)) (pV : Vs.Perm ps) (ndp : ps.Nodup) (pT : T.Perm mk) (pc : PiecesOf Vs T raw f wh) (r7 : RS Vs T (endsOf raw) H v7) (due : ∃ o, BestV H v8 o ∧ BestS raw mk wh (BfM.partings ps) o) (q : Q (.bl true) H) : sp_same [v7, v8] H Q E := by
  obtain ⟨o, bv, bs⟩ := due
  rcases r7 with ⟨rfl, h7⟩ | ⟨r, la, ta, p, q', S, ts, ls, pl, lf, rfl, h1, h2, h3, th⟩
  · match o, bv, bs with
    | none, bv, bs =>
      have bv : v8 = .non := bv
      subst bv
      exact .inl ⟨rfl, q⟩
    | some (a, b), bv, bs => exact absurd bs (strong_none ok pV ndp pc h7)
  · have pos : 0 < BfM.rk (endsOf raw) Vs T := by have := th.less; omega
    match o, bv, bs with
    | none, bv, bs => exact absurd bs (strong_some ok pV ndp pc pos)
    | some (a, b), ⟨s, e, hs⟩, bs =>
      subst e
      refine .inr ⟨r, s, p, q', a, b, _, rfl, h1, hs, by have := th.p8; omega, by have := th.q8; omega, strong_agree ok pV ndp pT pc th bs, q⟩
end
theorem if_never {c : TT} {t u : TS} {D : Ends} {σ : L2.St} {H : Hp} (R : Hp → Prop) (key : ∀ H1, R H1 → u D σ H1) (h : ∀ Q' : Bool → Hp → Prop, (∀ H1, R H1 → Q' false H1) → c σ H Q') : tIfS c t u D σ H :=
  h _ fun H1 r => iteF (key H1 r)
theorem neg_ceil {p q : Nat} (hq : 0 < q) : -(-(p : Int) / (q : Int)) = (((p + q - 1) / q : Nat) : Int) := by
  have h1 := ceil_ge (p := p) hq rfl
  have h2 : ((p + q - 1) / q) * q ≤ p + q - 1 := Nat.div_mul_le_self _ _
  generalize (p + q - 1) / q = m at h1 h2
  have e : -(p : Int) / (q : Int) = -(m : Int) := by
    have k1 : -(m : Int) ≤ -(p : Int) / (q : Int) := by
      refine (Int.le_ediv_iff_mul_le (by omega)).mpr ?_
      rw [Int.neg_mul]
      have : ((p : Nat) : Int) ≤ ((m * q : Nat) : Int) := by omega
      rw [Int.natCast_mul] at this
      omega
    have k2 : -(p : Int) / (q : Int) < -(m : Int) + 1 := (Int.ediv_lt_iff_lt_mul (by omega)).mpr (by
      rw [Int.add_mul, Int.neg_mul, Int.one_mul]
      have : ((m * q : Nat) : Int) ≤ ((p + q - 1 : Nat) : Int) := by omega
      rw [Int.natCast_mul] at this
      omega)
    omega
  rw [e]; omega
end Bf
namespace Bf
open PySem PySem.Spec PyProof.Rows L2
section
variable {P : Program} {w : World} {K : PySem.W.Frag} {mg : Str → Option Value} {base : Heap}
theorem sc_wr : FnScope ["_law_places", "_law_ties", "_law_times", "_law_more", "_law_tie", "_law_family", "_law_thick_here", "_law_strong_here", "_law_due"] ["_law_places", "_law_ties", "_law_times"] (defScope s_L_web_right) := ⟨rfl, rfl, rfl, by decide +kernel, rfl, by decide +kernel, by decide +kernel⟩
def sp_wr : Sp := fun vs H Q _ => ∃ (pl td : Addr) (ps ks : List Str) (raw : Str → Str × Str) (n : Nat), vs = [.ref pl, .ref td, .int (n : Nat)] ∧ WebDr H pl td ps ks raw ∧ (n = 1 ∨ (n = 2 ∧ ks.length ≤ 4)) ∧ ∀ H', Same H H' → Q (.bl true) H'
theorem has_wr (X : Txt K mg) (N : Fns K) : Has P w K mg base (He.ga K "_law_web_right") 10 ["_law_places", "_law_ties", "_law_times"] sp_wr := by
  refine has_mk N.f_L_web_right sc_wr (fun vs H Q E h => ?_) (fun _ _ _ _ _ _ us hl => match us, hl with | [_, _, _], _ => rfl) (fun cdv A outer s H vs Q E hr h => ?_)
  · obtain ⟨pl, td, ps, ks, raw, n, rfl, _⟩ := h; rfl
  · obtain ⟨pl, td, ps, ks, raw, n, rfl, hd, hn, k⟩ := h
    refine ⟨_, pss_cons (ps_set (i := 3) sc_wr.nd rfl (Or.inl rfl) pe_dnewK)
      (pss_cons (ps_lock (ps_for PassesOwn.never rfl (pi_keys (pv 1)) (pg_name (i := 4) sc_wr.nd rfl (Or.inl rfl))
        (pss_cons (ps_dput (hu_of hr) (pv 3) (pv 4) (pe_dget (hu_of hr) (pv 1) (pv 4) (fun _ _ => rfl)) (by rfl))
        (pss_one (ps_if (pt_cmpR op_eq (pv 2) pe_int (by rfl)) (pss_one (ps_dput (hu_of hr) (pv 3) (pe_op op_add_str pe_str (pe_ix ix_str pe_str (pe_bm PySem.F.plainAttrs_list PySem.F.slot_list_index PySem.F.type_list_index mt_index (pe_b1 (call_sortedD rfl) X.f_sorted (pv 1)) (pa_cons (pv 4) pa_nil)) (fun _ _ => rfl))) (pe_dget (hu_of hr) (pv 1) (pv 4) (fun _ _ => rfl)) (by rfl))) pss_nil)))))
      (pss_cons (ps_set (i := 5) sc_wr.nd rfl (Or.inl rfl) (pe_ca (has_ties_family X N) X.g_ties_family hr (pa_cons (pe_ma (has_winit X N) X.mk_Web X.g_Web hr (pa_cons (pv 0) (pa_cons (pv 3) pa_nil))) pa_nil)))
      (pss_cons (ps_par (i := 6) (j := 7) rfl sc_wr.nd rfl rfl (by decide) rfl rfl (pa_cons (pe_ca (has_thickness X N) X.g_thickness hr (pa_cons (pv 5) pa_nil)) (pa_cons (pe_ca (has_strength X N) X.g_strength hr (pa_cons (pv 5) pa_nil)) pa_nil)) (by rfl))
      (pss_cons (ps_set (i := 8) sc_wr.nd rfl (Or.inl rfl) (pe_ifExp (pt_cmpR op_gt (pe_b1 call_len_seq X.f_len (pe_lock (pe_lc (own := [("_law_tie", 4)]) (g := gName 4) (tt := tTest (tOp rEq (tOp (rIxT K) (tDGet (tVar 1) (tVar 4)) (tC (.int 0))) (tOp (rIxT K) (tDGet (tVar 1) (tVar 4)) (tC (.int 1))))) (te := tVar 4) rfl sc_wr.nd (pi_keys (pv 1)) (blkOk_by (N := ["_law_places", "_law_ties", "_law_times", "_law_more", "_law_tie", "_law_family", "_law_thick_here", "_law_strong_here", "_law_due"]) (sc := defScope s_L_web_right) (by decide +kernel)) (fun _ _ _ _ _ => pg_name (i := 4) sc_wr.nd rfl (Or.inl rfl))
          (fun _ _ _ _ _ => pts_one (pt_cmpR op_eq (pe_ix ix_tup (pe_dget (hu_of hr) (pv 1) (pv 4) (fun _ _ => rfl)) pe_int (fun _ _ => rfl)) (pe_ix ix_tup (pe_dget (hu_of hr) (pv 1) (pv 4) (fun _ _ => rfl)) pe_int (fun _ _ => rfl)) (by rfl))) (fun _ _ _ _ _ => pv 4)))) pe_int (by rfl)) pe_non (pe_ca (has_thick X N) X.g_L_thick hr (pa_cons (pv 0) (pa_cons (pv 3) pa_nil)))))
      (pss_cons (ps_if (PW.pt (pw_or (pt_not (pt_val (pe_ca (has_same X N) X.g_L_same hr (pa_cons (pv 6) (pa_cons (pv 8) pa_nil))))) (pw_or1 (pt_not (pt_val (pe_ca (has_same X N) X.g_L_same hr (pa_cons (pv 7) (pa_cons (pe_ca (has_strong X N) X.g_L_strong hr (pa_cons (pv 0) (pa_cons (pv 3) (pa_cons (pe_ca (has_pieces X N) X.g_pieces hr (pa_cons (pe_ma (has_winit X N) X.mk_Web X.g_Web hr (pa_cons (pv 0) (pa_cons (pv 3) pa_nil))) (pa_cons (pe_b1 (call_sortedD rfl) X.f_sorted (pv 3)) pa_nil))) pa_nil)))) pa_nil)))))))) pss_never pss_nil)
      (pss_cons (ps_if (PW.pt (pw_and (pt_cmpR op_notN (pv 6) pe_non (by rfl)) (pw_and1 (PW.pt (pw_or (pt_cmpR op_notN (pe_ca (has_tfault X N) X.g_thickness_fault hr (pa_cons (pv 5) (pa_cons (pv 6) pa_nil))) pe_non (by rfl)) (pw_or1 (pt_cmpR op_ne (pe_ca (has_fewest X N) X.g_fewest hr (pa_cons (pv 5) pa_nil)) (pe_un un_neg (pe_op op_fdiv (pe_un un_neg (pe_ix ix_tup (pv 6) pe_int (fun _ _ => rfl))) (pe_ix ix_tup (pv 6) pe_int (fun _ _ => rfl)))) (by rfl)))))))) pss_never pss_nil)
      (pss_one (ps_ret (pe_or (pe_cmpR op_isN (pv 7) pe_non (by rfl)) (pe_one (pe_and (pe_cmpR op_isN (pe_ca (has_sfault X N) X.g_strength_fault hr (pa_cons (pv 5) (pa_cons (pv 7) pa_nil))) pe_non (by rfl)) (pe_one (pe_cmpR op_eq (pe_ca (has_most X N) X.g_most hr (pa_cons (pv 5) pa_nil)) (pe_op op_fdiv (pe_ix ix_tup (pv 7) pe_int (fun _ _ => rfl)) (pe_ix ix_tup (pv 7) pe_int (fun _ _ => rfl))) (by rfl)))))))))))))), ?_⟩
    obtain ⟨hpl, ⟨⟨kvt, htd, kyt, hent⟩, ndk⟩, ndp, p1, p5, okp, k6, okk, inp⟩ := hd
    obtain ⟨S, rS, mS⟩ := sorted_ex ks ndk
    have lS : S.length = ks.length := BfM.nodup_eq_len rS.nodup ndk mS
    have h4 : n = 2 → S.length ≤ 4 := fun e => by rcases hn with h | ⟨_, h⟩ <;> omega
    have ek : (kvt.map fun kv => kV kv.1) = ks.map V.str := by
      have : (kvt.map fun kv => kV kv.1) = (kvt.map (·.1)).map kV := by rw [List.map_map]; rfl
      rw [this, kyt, strs_key]
    have lkv : kvt.length = ks.length := by
      have := congrArg List.length kyt
      rw [List.length_map, List.length_map] at this
      exact this
    intro md hmd
    have nmt : td ≠ md := ne_of_none htd hmd
    refine ⟨td, .dK kvt, by rw [upd_ne nmt]; exact htd, trivial, fun od => ?_⟩
    refine ⟨_, rfl, td, od, rfl, .inl ⟨kvt, upd_same, ?_⟩⟩
    refine for_row row_keys (fun i σ H' => (∀ b o, H b = some o → b ≠ td → H' b = some o) ∧ H' td = some (.frz od (.dK kvt)) ∧ ∃ (kvm : List (Key × V)) (u4 : Option V), σ = [some (.ref pl), some (.ref td), some (.int (n : Nat)), some (.ref md), u4, none, none, none, none] ∧ H' md = some (.dK kvm) ∧ kvm.map (·.1) = (mkF n S (ks.take i)).map Sum.inr ∧
        ∀ x, x ∈ mkF n S (ks.take i) → ∃ p, valV kvm (.inr x) = some (.ref p) ∧ H' p = some (.tup [.str (raw (owner n S ks x)).1, .str (raw (owner n S ks x)).2]))
      ⟨fun b o e n => by rw [upd_ne n, upd_ne (ne_of_none e hmd)]; exact e, upd_same, [], none, rfl, by rw [upd_ne nmt.symm]; exact upd_same, rfl, fun x hx => by simp [mkF] at hx⟩ (fun i σ H' _ q => q.2.1) (fun i x σ H' hx q => ?_) (fun σ H' q => ?_)
    · rw [ek] at hx
      obtain ⟨t, ht, rfl⟩ := get_map hx
      obtain ⟨kp, htd', kvm, u4, rfl, hmd', kym, enm⟩ := q
      have mt := List.mem_of_getElem? ht
      obtain ⟨p, e1, e2⟩ := hent t mt
      have npt : p ≠ td := fun z => by subst z; rw [htd] at e2; cases e2
      have hp' := kp _ _ e2 npt
      have g1 : ∀ {H2 : Hp}, H2 td = some (.frz od (.dK kvt)) → DGet H2 td (.str t) (some (.ref p)) := fun {H2} h => .inl ⟨kvt, .inr t, .inr ⟨od, h⟩, rfl, e1.symm⟩
      have lkm : kvm.length ≤ 12 := by
        have h := congrArg List.length kym
        rw [List.length_map, List.length_map] at h
        have h2 := mkF_len (n := n) (S := S) (ks.take i)
        have h3 := List.length_take_le' i ks
        have h5 : (if n = 2 then 2 else 1) ≤ 2 := by split <;> decide
        have h6 : (if n = 2 then 2 else 1) * (ks.take i).length ≤ 2 * 6 := Nat.mul_le_mul h5 (by omega)
        omega
      have tk : mkF n S (ks.take (i + 1)) = mkF n S (ks.take i) ++ (if n = 2 then [t, dbl S t] else [t]) := by
        unfold mkF
        rw [take_succ_get ht, List.flatMap_append]
        simp
      have ndm : (mkF n S (ks.take (i + 1))).Nodup := mkF_nodup okk h4 mS (ndk.sublist (List.take_sublist _ _)) fun x hx => List.mem_of_mem_take hx
      have nin1 : t ∉ mkF n S (ks.take i) := fun h => by
        rw [tk] at ndm
        refine (List.nodup_append.mp ndm).2.2 _ h t ?_ rfl
        split <;> simp
      have none_ : ∀ {x : Str}, x ∉ mkF n S (ks.take i) → valV kvm (.inr x) = none := fun {x} nx => by
        cases e : valV kvm (.inr x) with
        | none => rfl
        | some v =>
          have := valV_in e
          rw [kym] at this
          obtain ⟨y, hy, e2⟩ := List.mem_map.mp this
          cases e2
          exact absurd hy nx
      have npm : p ≠ md := ne_of hp' hmd' (by simp)
      refine ⟨_, rfl, _, rfl, td, .ref p, rfl, g1 htd', _, rfl, _, rfl, md, _, rfl, DPut.k (k := .inr t) hmd' (small_line (by omega)), ?_⟩
      rw [putK_new _ (none_ nin1)]
      refine ⟨_, rfl, rfl, _, rfl, ?_⟩
      rw [dec_int]
      have keep1 : ∀ {b : Addr} {o : HO}, H' b = some o → (∀ kv, o ≠ .dK kv) → upd H' md (.dK (kvm ++ [((.inr t : Key), .ref p)])) b = some o := fun {b o} e n2 => by
        rw [upd_ne (fun z => by subst z; rw [hmd'] at e; cases e; exact n2 _ rfl)]; exact e
      have kp1 : ∀ b o, H b = some o → b ≠ td → upd H' md (.dK (kvm ++ [((.inr t : Key), .ref p)])) b = some o := fun b o e n => by rw [upd_ne (ne_of_none e hmd)]; exact kp b o e n
      have val1 : ∀ x, x ∈ mkF n S (ks.take i) ∨ x = t → ∃ p', valV (kvm ++ [((.inr t : Key), .ref p)]) (.inr x) = some (.ref p') ∧ H' p' = some (.tup [.str (raw (owner n S ks x)).1, .str (raw (owner n S ks x)).2]) := fun x hx => by
        rw [valV_snoc _ _ _ _ (none_ nin1)]
        by_cases e : x = t
        · subst e
          exact ⟨p, if_pos rfl, by rw [owner_self mt]; exact hp'⟩
        · obtain ⟨p', a1, a2⟩ := enm x (hx.resolve_right e)
          exact ⟨p', by rw [if_neg (fun z => e (Sum.inr.inj z))]; exact a1, a2⟩
      by_cases n2 : n = 2
      · rw [if_pos n2] at tk
        rw [show (((n : Nat) : Int) == 2) = true by rw [n2]; rfl]
        refine iteT ?_
        refine ⟨_, rfl, _, rfl, td, .ref p, rfl, g1 (keep1 htd' (by simp)), _, rfl, ?_⟩
        refine ⟨_, rfl, td, kvt, ks, rfl, .inr ⟨od, keep1 htd' (by simp)⟩, kyt, by omega, fun ys sp pm so hsp => ?_⟩
        obtain rfl : ys = S := rising_ext (sorted_is pm so ndk).1 rS fun z => by rw [perm_mem pm, mS]
        have mt2 := (mS t).mpr mt
        have il := List.idxOf_lt_length_iff.mpr mt2
        have iat : ys[ys.idxOf t]? = some t := by rw [List.getElem?_eq_getElem il, List.getElem_idxOf il]
        have l4 := h4 n2
        refine ⟨.inl ⟨rfl, _, SqL.of upd_same⟩, _, rfl, sp, ys.map V.str, .str t, ys.idxOf t, .str t, rfl, rfl, SqL.of upd_same, rfl, flat_strs _, by rw [List.getElem?_map, iat]; rfl, by show (t == t) = true; simp, fun m z hm hz => ?_, ?_⟩
        · obtain ⟨y, hy, rfl⟩ := get_map hz
          show (y == t) = false
          rw [beq_eq_false_iff_ne]
          rintro rfl
          obtain ⟨h1, h2⟩ := List.getElem?_eq_some_iff.mp hy
          have := (List.getElem_inj rS.nodup).mp (h2.trans (List.getElem_idxOf il).symm)
          omega
        have c1 : (("abcd" : Str).cps.toList)[ys.idxOf t]? = some (abcd (ys.idxOf t)) := by
          rw [abcd_at]
          unfold abcd
          rw [List.getD_eq_getElem?_getD]
          have : ys.idxOf t < ([97, 98, 99, 100] : List Nat).length := by show _ < 4; omega
          rw [List.getElem?_eq_getElem this]; rfl
        refine ⟨"abcd", ((ys.idxOf t : Nat) : Int), abcd (ys.idxOf t), rfl, rfl, small_le (by decide), atI_nat c1, dxS, ⟨#[abcd (ys.idxOf t)]⟩, rfl, rfl, small_le (by have : dxS.length = 7 := (by rw [TL.len_tl]; show dxS.cps.toList.length = 7; rw [dx_tl]; rfl); show dxS.length + 1 ≤ 1000000; omega), ?_⟩
        have nsm : md ≠ sp := fun z => by subst z; rw [upd_same] at hsp; cases hsp
        have nin2 : dbl ys t ∉ mkF n ys (ks.take i) := fun h => by
          rw [tk] at ndm
          exact (List.nodup_append.mp ndm).2.2 _ h (dbl ys t) (by simp) rfl
        have ntd : dbl ys t ≠ t := fun e => dbl_out (S := ys) (t := t) okk (e.symm ▸ mt)
        have none2 : valV (kvm ++ [((.inr t : Key), V.ref p)]) (.inr (dbl ys t)) = none := by
          rw [valV_snoc _ _ _ _ (none_ nin1), if_neg (fun z => ntd (Sum.inr.inj z))]
          exact none_ nin2
        refine ⟨md, _, rfl, DPut.k (k := .inr (dbl ys t)) (by rw [upd_ne nsm]; exact upd_same) (small_line (by rw [List.length_append]; simp; omega)), ?_⟩
        rw [putK_new _ none2]
        have keep2 : ∀ {b : Addr} {o : HO}, H' b = some o → (∀ kv, o ≠ .dK kv) → upd (upd (upd H' md (.dK (kvm ++ [((.inr t : Key), .ref p)]))) sp (.lst (ys.map V.str))) md (.dK (kvm ++ [((.inr t : Key), .ref p)] ++ [((.inr (dbl ys t) : Key), .ref p)])) b = some o := fun {b o} e n2 => by
          have h1 := keep1 e n2
          rw [upd_ne (fun z => by subst z; rw [hmd'] at e; cases e; exact n2 _ rfl), upd_ne (ne_of_none h1 hsp)]; exact h1
        refine ⟨fun b o e nb => by rw [upd_ne (ne_of_none e hmd), upd_ne (ne_of_none (kp1 b o e nb) hsp)]; exact kp1 b o e nb, keep2 htd' (by simp), _, _, rfl, upd_same, by rw [tk, List.map_append, List.map_append, List.map_append, kym, List.append_assoc]; rfl, fun x hx => ?_⟩
        rw [tk, List.mem_append] at hx
        rw [valV_snoc _ _ _ _ none2]
        by_cases e : x = dbl ys t
        · subst e
          exact ⟨p, if_pos rfl, by rw [owner_dbl okk l4 mS mt]; exact keep2 hp' (by simp)⟩
        · obtain ⟨p', a1, a2⟩ := val1 x (by
            rcases hx with h | h
            · exact .inl h
            · rcases List.mem_cons.mp h with h | h
              · exact .inr h
              · exact absurd (List.mem_singleton.mp h) e)
          exact ⟨p', by rw [if_neg (fun z => e (Sum.inr.inj z))]; exact a1, keep2 a2 (by simp)⟩
      · rw [if_neg n2] at tk
        rw [show (((n : Nat) : Int) == 2) = false by rw [beq_eq_false_iff_ne]; omega]
        refine iteF ⟨kp1, keep1 htd' (by simp), _, _, rfl, upd_same, by rw [tk, List.map_append, List.map_append, kym]; rfl, fun x hx => ?_⟩
        rw [tk, List.mem_append, List.mem_singleton] at hx
        obtain ⟨p', a1, a2⟩ := val1 x hx
        exact ⟨p', a1, keep1 a2 (by simp)⟩
    · rw [List.length_map] at q
      obtain ⟨kp, htd', kvm, u4, rfl, hmd', kym, enm⟩ := q
      rw [lkv, List.take_length] at kym enm
      have sm : Same H (upd H' td (.dK kvt)) := fun b o e => by
        by_cases z : b = td
        · subst z; rw [htd] at e; cases e; exact upd_same
        · rw [upd_ne z]; exact kp b o e z
      have TM : TiesAt (upd H' td (.dK kvt)) md (mkF n S ks) (fun x => raw (owner n S ks x)) := by
        refine ⟨⟨kvm, by rw [upd_ne nmt.symm]; exact hmd', kym, fun x hx => ?_⟩, mkF_nodup okk h4 mS ndk fun x hx => hx⟩
        obtain ⟨p, a1, a2⟩ := enm x hx
        exact ⟨p, a1, by rw [upd_ne (fun z => by subst z; rw [htd'] at a2; cases a2)]; exact a2⟩
      refine ⟨htd', ?_⟩
      revert sm TM
      generalize upd H' td (.dK kvt) = H2
      intro sm TM
      obtain ⟨mk, raw2, TM, okm, lm, in2, loops⟩ : ∃ (mk : List Str) (raw2 : Str → Str × Str), TiesAt H2 md mk raw2 ∧ (∀ x, x ∈ mk → NameOk x) ∧ mk.length ≤ 8 ∧ (∀ t, (raw2 t).1 ∈ ps ∧ (raw2 t).2 ∈ ps) ∧ ((∀ t, t ∈ mk → (raw2 t).1 ≠ (raw2 t).2) ↔ ∀ t, t ∈ ks → (raw t).1 ≠ (raw t).2) := by
        refine ⟨_, _, TM, fun x hx => ?_, ?_, fun t => inp _, ?_, ?_⟩
        · obtain ⟨t, ht, e | ⟨e2, e⟩⟩ := mem_mkF.mp hx
          · rw [e]; exact (okk t ht).ok
          · rw [e]
            refine dblJ_ok ?_
            have := List.idxOf_lt_length_iff.mpr ((mS t).mpr ht)
            have := h4 e2
            omega
        · have h := mkF_len (n := n) (S := S) ks
          by_cases e : n = 2
          · rw [if_pos e] at h; have := h4 e; omega
          · rw [if_neg e] at h; omega
        · intro h t ht
          have := h t (mem_mkF.mpr ⟨t, ht, .inl rfl⟩)
          rw [owner_self ht] at this
          exact this
        · intro h x hx
          obtain ⟨t, ht, e | ⟨e2, e⟩⟩ := mem_mkF.mp hx
          · rw [e, owner_self ht]; exact h t ht
          · rw [e, owner_dbl okk (h4 e2) mS ht]; exact h t ht
      have low : ∀ t, t ∈ ps → PyData.strOk t = true := fun t ht => (okp t ht).ok.low2
      have hpl2 := sm _ _ hpl
      refine ⟨_, rfl, _, rfl, fun w1 dx hw1 hdx ne => ?_⟩
      have z1 : Same H2 (upd (upd H2 dx (.own w1)) w1 (.ins (He.ga K "Web") dx [])) := (Same.new hdx).put hw1
      refine ⟨w1, dx, pl, md, ps, mk, raw2, rfl, upd_same, z1 _ _ hpl2, ndp, p1, by omega, (fun x hx => (okp x hx).ok), TM.same z1, okm, lm, in2, fun H3 Vs T kp3 pV pT hW => ⟨rfl, ?_⟩⟩
      have s23 : Same H2 H3 := fun b o e => kp3 b o (z1 b o e) (by intro z; rw [List.mem_singleton] at z; subst z; rw [hw1] at e; cases e)
      have ok := hW.ok
      refine ⟨w1, Vs, T, endsOf raw2, rfl, hW, fun H4 fa d na s34 hd hF => ?_⟩
      have s24 := s23.trans s34
      have TM4 := TM.same s24
      have hpl4 := s24 _ _ hpl2
      refine ⟨_, rfl, ?_⟩
      dsimp only [tNil]
      refine thick_use hF fun v6 H5 f5 r6 => ?_
      dsimp only [tCons, tCa, tNil]
      refine ⟨_, rfl, ?_⟩
      dsimp only [tNil]
      refine strong_use f5.fam fun v7 H6 f6 r7 => ?_
      refine ⟨_, _, rfl, ?_⟩
      have f46 := f5.trans f6
      have r6 := r6.fk f6
      have keepT : ∀ {H8 H9 : Hp} {x : Addr} {l : List Str} {rw_ : Str → Str × Str}, Fk K fa d na w1 Vs T (endsOf raw2) H8 H9 → TiesAt H8 x l rw_ → TiesAt H9 x l rw_ := fun f h =>
        let ⟨⟨kvt, a1, a2, a3⟩, nd⟩ := h
        ⟨⟨kvt, f.at a1, a2, fun t ht => let ⟨p, b1, b2⟩ := a3 t ht; ⟨p, b1, f.at b2⟩⟩, nd⟩
      have TM6 := keepT f46 TM4
      have hpl6 := f46.at hpl4
      have htd6 := f46.at (s24 _ _ (sm _ _ htd))
      have hen6 : ∀ t, t ∈ ks → ∃ p, valV kvt (.inr t) = some (.ref p) ∧ H6 p = some (.tup [.str (raw t).1, .str (raw t).2]) := fun t ht => let ⟨p, a1, a2⟩ := hent t ht; ⟨p, a1, f46.at (s24 _ _ (sm _ _ a2))⟩
      refine ⟨td, .dK kvt, htd6, trivial, fun od2 => ?_⟩
      have st1 : ∀ {b : Addr} {o : HO}, H6 b = some o → (∀ kv, o ≠ .dK kv) → upd H6 td (.frz od2 (.dK kvt)) b = some o := fun {b o} e n => by
        rw [upd_ne (fun z => by subst z; rw [htd6] at e; cases e; exact n _ rfl)]; exact e
      have htd7 : (upd H6 td (.frz od2 (.dK kvt))) td = some (.frz od2 (.dK kvt)) := upd_same
      have back : ∀ H7, Same (upd H6 td (.frz od2 (.dK kvt))) H7 → Same H6 (upd H7 td (.dK kvt)) := fun H7 s => Same.unlock htd6 s
      have hen7 : ∀ t, t ∈ ks → ∃ p, valV kvt (.inr t) = some (.ref p) ∧ upd H6 td (.frz od2 (.dK kvt)) p = some (.tup [.str (raw t).1, .str (raw t).2]) := fun t ht => let ⟨p, e1, e2⟩ := hen6 t ht; ⟨p, e1, st1 e2 (by simp)⟩
      revert st1 htd7 back hen7
      generalize upd H6 td (.frz od2 (.dK kvt)) = H7
      intro st1 htd7 back hen7
      refine ⟨_, rfl, td, od2, rfl, .inl ⟨kvt, htd7, fun D hD => ?_⟩⟩
      have rk := row_keys (d := td) (o := od2) (kvs := kvt)
      rw [ek] at rk
      refine lc_pure (as := ks) (f := V.str) (p := fun t => decide ((raw t).1 = (raw t).2)) (out := V.str) rk hD (fun _ q => q _ _ htd7) (small_line (by omega)) (fun t H8 ht q Kt Kf k1 k2 => ?_) fun H8 q hLD => ?_
      · obtain ⟨p, e1, e2⟩ := hen7 t ht
        have g1 : DGet H8 td (.str t) (some (.ref p)) := .inl ⟨kvt, .inr t, .inr ⟨od2, q _ _ htd7⟩, rfl, e1.symm⟩
        refine ⟨rfl, _, rfl, _, rfl, td, .ref p, rfl, g1, p, _, 0, _, rfl, rfl, SqT.of (q _ _ e2), rfl, _, rfl, _, rfl, td, .ref p, rfl, g1, p, _, 1, _, rfl, rfl, SqT.of (q _ _ e2), rfl, rfl, _, rfl, ?_⟩
        by_cases e : (raw t).1 = (raw t).2
        · rw [show decide (V.str (raw t).1 = V.str (raw t).2) = true by simp [e]]
          exact iteT ⟨_, rfl, k1 (by simp [e]) _ (Same.refl _)⟩
        · rw [show decide (V.str (raw t).1 = V.str (raw t).2) = false by simp [e]]
          exact iteF (k2 (by simp [e]) _ (Same.refl _))
      · have nD : D ≠ td := fun z => by subst z; rw [htd7] at hD; cases hD
        refine ⟨q _ _ htd7, D, _, rfl, .inl (SqL.of (by rw [upd_ne nD]; exact hLD)), ?_⟩
        have s69 := back _ q
        revert s69
        generalize upd H8 td (.dK kvt) = H9
        intro s69
        refine ⟨_, 0, rfl, rfl, _, rfl, ?_⟩
        rw [List.length_map]
        refine if_go (fun v H10 => Same H6 H10 ∧ ((v = .non ∧ ∃ t, t ∈ mk ∧ (raw2 t).1 = (raw2 t).2) ∨ ((∀ t, t ∈ mk → (raw2 t).1 ≠ (raw2 t).2) ∧ ∃ o, BestV H10 v o ∧ BestT raw2 mk (lotsTo Vs (ps.length + 1)) o))) (fun v8 H10 r8 => ?_) (fun hc Q' kk => ?_) (fun hc Q' kk => ?_)
        · obtain ⟨s610, due⟩ := r8
          have f10 := f46.then_ s610
          have r6 := r6.fk (Fk.of f46.fam s610)
          have r7 := r7.fk (Fk.of f46.fam s610)
          have TM10 := TM6.same s610
          have hpl10 := s610 _ _ hpl6
          refine ⟨_, rfl, _, rfl, ?_⟩
          dsimp only [tNil]
          refine due_same ok pV pT r6 due ⟨true, rfl, iteF ?_⟩
          refine ⟨_, rfl, _, rfl, _, rfl, _, rfl, _, rfl, fun w2 dx2 hw2 hdx2 ne2 => ?_⟩
          have y1 : Same H10 (upd (upd H10 dx2 (.own w2)) w2 (.ins (He.ga K "Web") dx2 [])) := (Same.new hdx2).put hw2
          refine ⟨w2, dx2, pl, md, ps, mk, raw2, rfl, upd_same, y1 _ _ hpl10, ndp, p1, by omega, (fun x hx => (okp x hx).ok), TM10.same y1, okm, lm, in2, fun H11 Vs2 T2 kp11 pV2 pT2 hW2 => ⟨rfl, ?_⟩⟩
          have s11 : Same H10 H11 := fun b o e => kp11 b o (y1 b o e) (by intro z; rw [List.mem_singleton] at z; subst z; rw [hw2] at e; cases e)
          obtain rfl : Vs2 = Vs := rising_ext hW2.ok.rV ok.rV fun z => by rw [perm_mem pV2, perm_mem pV]
          obtain rfl : T2 = T := rising_ext hW2.ok.rT ok.rT fun z => by rw [perm_mem pT2, perm_mem pT]
          obtain ⟨⟨kvm2, m1, m2, m3⟩, ndm2⟩ := TM10.same s11
          refine ⟨_, rfl, md, kvm2, mk, rfl, Rd.of m1, m2, by omega, fun ys sp pm so hsp => ?_⟩
          obtain rfl : ys = T2 := rising_ext (sorted_is pm so ndm2).1 ok.rT fun z => by rw [perm_mem pm, perm_mem pT]
          have s12 := s11.put (o := .lst (ys.map V.str)) (s11.free hsp)
          refine ⟨w2, sp, Vs2, ys, endsOf raw2, rfl, hW2.same (Same.new hsp), upd_same, fun H13 ra ts fm s13 hts hmark ets => ?_⟩
          have s103 := s12.trans s13
          have pcs : PiecesOf Vs2 ys raw2 fm (ts.map (·.2)) := ⟨hmark, ets⟩
          have lts : ts.length ≤ 100 := by
            have h1 := pieces_len ok pcs
            have h2 := ok.fewV
            rw [List.length_map] at h1
            omega
          dsimp only [tNil]
          refine best_strong (s103 _ _ hpl10) ndp p5 low hts lts (TM10.same s103) (by omega) fun v9 H14 o9 s14 bv bs => ?_
          have f14 := f10.then_ (s103.trans s14)
          have r6 := r6.fk (Fk.of f10.fam (s103.trans s14))
          have r7 := r7.fk (Fk.of f10.fam (s103.trans s14))
          refine strong_same ok pV ndp pT pcs r7 ⟨o9, bv, bs⟩ ⟨true, rfl, iteF ?_⟩
          have SM : ∀ H15, Fk K fa d na w1 Vs2 ys (endsOf raw2) H14 H15 → Same H H15 := fun H15 f15 b o e => (f14.trans f15).kp b o (s24 b o (sm b o e)) (by
            intro z; rw [List.mem_singleton] at z; subst z
            rw [(sm.trans s23).free hd] at e; cases e)
          dsimp only [tNext, tSeq]
          refine if_never (fun H15 => Fk K fa d na w1 Vs2 ys (endsOf raw2) H14 H15) (fun H15 f15 => ?_) fun Q' kk => ?_
          · have r7 := r7.fk f15
            rcases r7 with ⟨rfl, _⟩ | ⟨r, la, ta, p, q, S', ts', ls, pl', lf, rfl, g1, g2, g3, th⟩
            · exact ⟨_, rfl, rfl, true, rfl, k H15 (SM _ f15)⟩
            · refine ⟨_, rfl, rfl, false, rfl, iteF ?_⟩
              refine ⟨_, rfl, _, rfl, ?_⟩
              dsimp only [tNil]
              have tp8 := th.p8
              have tq1 := th.q1
              have tq8 := th.q8
              refine ⟨fa, d, na, w1, r, la, ta, Vs2, ys, endsOf raw2, p, q, S', ts', ls, pl', lf, rfl, f15.fam, g1, g2, g3, th, fun H16 f16 => ⟨rfl, true, rfl, iteT ?_⟩⟩
              refine ⟨_, rfl, ?_⟩
              dsimp only [tNil]
              refine ⟨fa, d, na, w1, Vs2, ys, endsOf raw2, p / q, rfl, f16.fam, most_one ok th, Nat.le_trans (Nat.div_le_self _ _) (by omega), by have := th.less; omega, fun k hk X rX sX => most_lo ok th hk X rX sX, ⟨S', th.rS.nodup, th.sub, most_hi ok th⟩, fun H17 f17 => ?_⟩
              have g17 := f17.at (f16.at g1)
              refine ⟨_, rfl, r, _, 0, .int (p : Nat), rfl, rfl, SqT.of g17, rfl, _, rfl, r, _, 1, .int (q : Nat), rfl, rfl, SqT.of g17, rfl, (p : Int), (q : Int), rfl, rfl, ⟨by omega, by omega⟩, rfl, ?_⟩
              rw [dec_int, show (((p / q : Nat) : Int) == (p : Int) / (q : Int)) = true by rw [beq_iff_eq]; exact Int.natCast_ediv _ _]
              exact k H17 (SM _ ((f15.trans f16).trans f17))
          · rcases r6 with ⟨rfl, _⟩ | ⟨r, la, ta, p, q, S', ts', ls, pl', rfl, g1, g2, g3, th⟩
            · exact ⟨_, rfl, rfl, _, rfl, iteF (kk _ (Fk.refl f14.fam))⟩
            · refine ⟨_, rfl, rfl, _, rfl, iteT ?_⟩
              refine ⟨_, rfl, _, rfl, ?_⟩
              dsimp only [tNil]
              have tp8 := th.p8
              have tq1 := th.q1
              have tq8 := th.q8
              refine ⟨fa, d, na, w1, r, la, ta, Vs2, ys, endsOf raw2, p, q, S', ts', ls, pl', rfl, f14.fam, g1, g2, g3, th, fun H15 f15 => ⟨rfl, _, rfl, iteF ?_⟩⟩
              refine ⟨_, rfl, ?_⟩
              dsimp only [tNil]
              refine ⟨fa, d, na, w1, Vs2, ys, endsOf raw2, (p + q - 1) / q, rfl, f15.fam, Nat.le_trans (Nat.div_le_self _ _) (by omega), th.ns, fun k hk lots pl2 pt => few_lo ok th rfl hk lots pl2 pt, fun X rX sX => few_hi ok th rfl X rX sX, fun H16 f16 => ?_⟩
              have g16 := f16.at (f15.at g1)
              refine ⟨_, rfl, r, _, 0, .int (p : Nat), rfl, rfl, SqT.of g16, rfl, (p : Int), rfl, _, rfl, r, _, 1, .int (q : Nat), rfl, rfl, SqT.of g16, rfl, _, (q : Int), rfl, rfl, ⟨by omega, by omega⟩, _, rfl, rfl, _, rfl, ?_⟩
              rw [dec_int, neg_ceil tq1, show (!((((p + q - 1) / q : Nat) : Int) == (((p + q - 1) / q : Nat) : Int))) = false by simp]
              exact kk _ (f15.trans f16)
        · have hc := of_decide_eq_true hc
          refine kk _ _ ⟨s69, .inl ⟨rfl, ?_⟩⟩
          refine Classical.byContradiction fun hno => ?_
          have h1 : ∀ t, t ∈ mk → (raw2 t).1 ≠ (raw2 t).2 := fun t ht e => hno ⟨t, ht, e⟩
          have h2 := loops.mp h1
          have : (ks.filter fun t => decide ((raw t).1 = (raw t).2)) = [] := by
            rw [List.filter_eq_nil_iff]
            intro t ht
            simp [h2 t ht]
          rw [this] at hc
          simp at hc
        · have hc : ¬ ((0 : Int) < ((ks.filter fun t => decide ((raw t).1 = (raw t).2)).length : Nat)) := fun z => hc (decide_eq_true z)
          have e0 : (ks.filter fun t => decide ((raw t).1 = (raw t).2)) = [] := List.eq_nil_of_length_eq_zero (by omega)
          have no : ∀ t, t ∈ mk → (raw2 t).1 ≠ (raw2 t).2 := loops.mpr fun t ht e => by
            have := List.filter_eq_nil_iff.mp e0 t ht
            simp [e] at this
          refine ⟨_, rfl, _, rfl, ?_⟩
          dsimp only [tNil]
          exact best_thick ok.rV (fun t => perm_mem pV t) (s69 _ _ hpl6) ndp p5 low (TM6.same s69) (by omega) fun v H10 o s10 bv bt => kk v H10 ⟨s69.trans s10, .inr ⟨no, o, bv, bt⟩⟩
end
end Bf
namespace Bf
open PySem PySem.Spec PyProof.Rows L2
theorem cut4 {xs : List Str} : cutV (xs.map V.str) none (some 4) = (xs.take 4).map V.str := by
  unfold cutV
  rw [HT.sIx_none, show (4 : Int) = ((4 : Nat) : Int) from rfl, HT.sIx_nat, List.drop_zero, Nat.sub_zero, List.map_take, List.length_map]
  rcases Nat.le_total 4 xs.length with h | h
  · rw [Nat.min_eq_left h]
  · rw [Nat.min_eq_right h, List.take_of_length_le (by rw [List.length_map]; exact Nat.le_refl _), List.take_of_length_le (by rw [List.length_map]; exact h)]
theorem paired_map {α β γ : Type} {R : β → γ → Prop} {f : α → β} {g : α → γ} : ∀ {zs : List α}, (∀ z, z ∈ zs → R (f z) (g z)) → Paired R (zs.map f) (zs.map g)
  | [], _ => .nil
  | z :: zs, h => .cons (h z (List.mem_cons_self ..)) (paired_map fun y hy => h y (List.mem_cons_of_mem _ hy))
theorem merge_nd : ∀ {more kvs : List (Key × V)}, ((kvs ++ more).map (·.1)).Nodup → mergeK kvs more = kvs ++ more
  | [], kvs, _ => by simp [mergeK]
  | kv :: more, kvs, nd => by
    have hn : valV kvs kv.1 = none := by
      cases e : valV kvs kv.1 with
      | none => rfl
      | some v =>
        have := valV_in e
        rw [List.map_append, List.nodup_append] at nd
        exact absurd rfl (nd.2.2 _ this _ (by simp))
    show mergeK (putK kvs kv.1 kv.2) more = _
    rw [putK_new _ hn, merge_nd (by rw [List.append_assoc]; exact nd), List.append_assoc]
    rfl
theorem some_nox {X : Cx} {b : List Stmt} {p : TS → Prop} (h : ∃ t, PSs X.nox b t ∧ p t) : ∃ t, PSs X b t ∧ p t :=
  let ⟨t, a, q⟩ := h; ⟨t, a.nox, q⟩
section
variable {P : Program} {w : World} {K : PySem.W.Frag} {mg : Str → Option Value} {base : Heap}
theorem sc_right : FnScope ["_law_well", "_law_places", "_law_ties", "_law_few", "_law_tie"] ["_law_well"] (defScope s_L_right) := ⟨rfl, rfl, rfl, by decide +kernel, rfl, by decide +kernel, by decide +kernel⟩
def sp_right : Sp := fun vs H Q _ => ∃ wl : Addr, vs = [.ref wl] ∧ WellAt H wl ∧ ∀ H', Dr wl H H' → Q (.bl true) H'
theorem has_right (X : Txt K mg) (N : Fns K) : Has P w K mg base (He.ga K "_law_right") 11 ["_law_well"] sp_right := by
  refine has_mk N.f_L_right sc_right (fun vs H Q E h => ?_) (fun _ _ _ _ _ _ us hl => match us, hl with | [_], _ => rfl) (fun cdv A outer s H vs Q E hr h => ?_)
  · obtain ⟨wl, rfl, _⟩ := h; rfl
  · obtain ⟨wl, rfl, hw, k⟩ := h
    refine ⟨_, pss_cons (ps_asg (pe_ca (has_drawn X N) X.g_L_web_drawn hr (pa_cons (pv 0) (pa_cons pe_int pa_nil))) (pg_tup rfl (pgs_cons (pg_name (i := 1) sc_right.nd rfl (Or.inl rfl)) (pgs_cons (pg_name (i := 2) sc_right.nd rfl (Or.inr rfl)) pgs_nil))))
      (pss_cons (ps_if (pt_not (pt_val (pe_ca (has_wr X N) X.g_L_web_right hr (pa_cons (pv 1) (pa_cons (pv 2) (pa_cons pe_int pa_nil)))))) pss_never pss_nil)
      (pss_cons (ps_set (i := 3) sc_right.nd rfl (Or.inl rfl) (pe_t1 (call_dictP rfl) X.f_dict (pe_lc (own := [("_law_tie", 4)]) (g := gName 4) (tt := tYes) (te := tTup (tCons (tVar 4) (tCons (tDGet (tVar 2) (tVar 4)) tNil))) rfl sc_right.nd (pi_list (pe_slice sl_list (pe_b1 (call_sortedD rfl) X.f_sorted (pv 2)) po_none (po_some pe_int))) (blkOk_by (N := ["_law_well", "_law_places", "_law_ties", "_law_few", "_law_tie"]) (sc := defScope s_L_right) (by decide +kernel)) (fun _ _ _ _ _ => pg_name (i := 4) sc_right.nd rfl (Or.inl rfl)) (fun _ _ _ _ _ => pts_nil) (fun _ _ _ _ _ => pe_tup (pa_cons (pv 4) (pa_cons (pe_dget (hu_of hr) (pv 2) (pv 4) (fun _ _ => rfl)) pa_nil))))))
      (pss_one (ps_ret (pe_ca (has_wr X N) X.g_L_web_right hr (pa_cons (pv 1) (pa_cons (pv 3) (pa_cons pe_int pa_nil)))))))), ?_⟩
    refine ⟨_, rfl, wl, rfl, hw, fun H1 r pl td ps ks raw d1 hr1 hd => ?_⟩
    refine ⟨r, _, rfl, SqT.of hr1, rfl, _, _, rfl, _, _, rfl, rfl, ?_⟩
    refine ⟨_, rfl, _, rfl, pl, td, ps, ks, raw, 1, rfl, hd, .inl rfl, fun H2 s2 => ⟨true, rfl, iteF ?_⟩⟩
    obtain ⟨hpl, ⟨⟨kvt, htd, kyt, hent⟩, ndk⟩, ndp, p1, p5, okp, k6, okk, inp⟩ := hd
    have htd2 := s2 _ _ htd
    refine ⟨_, rfl, td, kvt, ks, rfl, Rd.of htd2, kyt, by omega, fun S sp pm so hsp => ?_⟩
    have s3 : Same H2 (upd H2 sp (.lst (S.map V.str))) := Same.new hsp
    refine ⟨4, rfl, sp, _, rfl, SqL.of upd_same, fun c hc => ?_⟩
    rw [cut4]
    have s4 := s3.put (o := .lst ((S.take 4).map V.str)) (s3.free hc)
    have hc4 : (upd (upd H2 sp (.lst (S.map V.str))) c (.lst ((S.take 4).map V.str))) c = some (.lst ((S.take 4).map V.str)) := upd_same
    revert s4 hc4
    generalize (upd (upd H2 sp (.lst (S.map V.str))) c (.lst ((S.take 4).map V.str))) = H3
    intro s4 hc4
    have ndS : S.Nodup := pm.nodup_iff.mpr ndk
    have nd4 : (S.take 4).Nodup := ndS.sublist (List.take_sublist _ _)
    have l4 : (S.take 4).length ≤ 4 := List.length_take_le 4 S
    have sub4 : ∀ t, t ∈ S.take 4 → t ∈ ks := fun t ht => pm.mem_iff.mp (List.mem_of_mem_take ht)
    refine ⟨c, rfl, ⟨_, SqL.of hc4⟩, fun D hD => ?_⟩
    refine lc_row row_list (fun i acc H' => Same H3 H' ∧ ∃ zs : List (Addr × (Str × Addr)), acc = zs.map (fun z => V.ref z.1) ∧ zs.map (·.2.1) = (S.take 4).take i ∧ ∀ z, z ∈ zs → z.1 ≠ D ∧ H' z.1 = some (.tup [.str z.2.1, .ref z.2.2]) ∧ valV kvt (.inr z.2.1) = some (.ref z.2.2)) ⟨Same.refl _, [], rfl, rfl, fun z hz => by cases hz⟩ hD
      (fun i acc H' o q => let ⟨q, zs, e1, e2, e3⟩ := q; ⟨q.put hD, zs, e1, e2, fun z hz => ⟨(e3 z hz).1, by rw [upd_ne (e3 z hz).1]; exact (e3 z hz).2.1, (e3 z hz).2.2⟩⟩) (fun i acc H' q => q.1.seq (SqL.of hc4)) (small_line (by rw [List.length_map]; omega)) (fun i x acc H' hx q hL Kt Kf k1 k2 => ?_) fun acc H' q hL => ?_
    · obtain ⟨t, ht, rfl⟩ := get_map hx
      obtain ⟨q, zs, rfl, e2, e3⟩ := q
      obtain ⟨p, a1, a2⟩ := hent t (sub4 t (List.mem_of_getElem? ht))
      have g1 : DGet H' td (.str t) (some (.ref p)) := by have := DGet.k (k := .inr t) (q _ _ (s4 _ _ htd2)); rw [a1] at this; exact this
      refine ⟨rfl, _, rfl, _, rfl, _, rfl, td, .ref p, rfl, g1, small_le (by simp), fun y hy => ?_⟩
      have nD : y ≠ D := fun z => by subst z; rw [hL] at hy; cases hy
      refine k1 _ _ ⟨q.put (q.free hy), zs ++ [(y, (t, p))], by simp, by rw [List.map_append, e2, take_succ_get ht]; rfl, fun z hz => ?_⟩ (by rw [upd_ne nD.symm]; exact hL)
      rcases List.mem_append.mp hz with h | h
      · obtain ⟨b1, b2, b3⟩ := e3 z h
        exact ⟨b1, by rw [upd_ne (ne_of_none b2 hy)]; exact b2, b3⟩
      · rw [List.mem_singleton.mp h]; exact ⟨nD, upd_same, a1⟩
    · rw [List.length_map, List.take_length] at q
      obtain ⟨q, zs, rfl, e2, e3⟩ := q
      refine ⟨D, zs.map (·.1), zs.map (fun z => ((Sum.inr z.2.1 : Key), V.ref z.2.2)), rfl, SqL.of (by rw [hL, List.map_map]; rfl), paired_map fun z hz => SqT.of (e3 z hz).2.1, fun fd hfd => ?_⟩
      have kyz : (zs.map fun z => ((Sum.inr z.2.1 : Key), V.ref z.2.2)).map (·.1) = (S.take 4).map Sum.inr := by
        rw [← e2, List.map_map, List.map_map]; rfl
      have ndz : ((zs.map fun z => ((Sum.inr z.2.1 : Key), V.ref z.2.2)).map (·.1)).Nodup := by
        rw [kyz]
        exact BfM.nodup_map nd4 fun a _ b _ e => Sum.inr.inj e
      rw [merge_nd (kvs := []) ndz, List.nil_append]
      have s5 : Same H2 (upd H' fd (.dK (zs.map fun z => ((Sum.inr z.2.1 : Key), V.ref z.2.2)))) := (s4.trans q).put ((s4.trans q).free hfd)
      have TF : TiesAt (upd H' fd (.dK (zs.map fun z => ((Sum.inr z.2.1 : Key), V.ref z.2.2)))) fd (S.take 4) raw := by
        refine ⟨⟨_, upd_same, kyz, fun t ht => ?_⟩, nd4⟩
        obtain ⟨p, a1, a2⟩ := hent t (sub4 t ht)
        refine ⟨p, ?_, s5 _ _ (s2 _ _ a2)⟩
        rw [← e2] at ht
        obtain ⟨z, hz, ez⟩ := List.mem_map.mp ht
        have v1 := val_nodup ndz ((Sum.inr z.2.1 : Key), V.ref z.2.2) (List.mem_map_of_mem (f := fun z : Addr × (Str × Addr) => ((Sum.inr z.2.1 : Key), V.ref z.2.2)) hz)
        have b3 := (e3 z hz).2.2
        have ez : z.2.1 = t := ez
        rw [ez] at v1 b3
        rw [b3] at a1
        cases a1
        exact v1
      refine ⟨_, rfl, _, rfl, pl, fd, ps, S.take 4, raw, 2, rfl, ⟨s5 _ _ (s2 _ _ hpl), TF, ndp, p1, p5, okp, by omega, fun x hx => okk x (sub4 x hx), inp⟩, .inr ⟨rfl, l4⟩, fun H6 s6 => ?_⟩
      exact k H6 (d1.then_ (s2.trans (s5.trans s6)))
theorem sc_law : FnScope ["_law_script", "_law_cell"] ["_law_script"] (defScope s_law) := ⟨rfl, rfl, rfl, by decide +kernel, rfl, by decide +kernel, by decide +kernel⟩
def sp_law (K : PySem.W.Frag) : Sp := fun vs H Q _ => ∃ (a : Addr) (ns : List Int), vs = [.ref a] ∧ SqL K H a (ns.map V.int) ∧ ns.length ≤ 63 ∧ ∀ H', Q (.bl true) H'
theorem law_ok (X : Txt K mg) (N : Fns K) {fd : FuncData} (F : FunD K "law" "law" (defArgs s_law) (defBody s_law) (defScope s_law) [] [] (He.ga K "law") fd) : FnOk P w K mg base CX0 (11 + 1) (He.ga K "law") fd ["_law_script"] (sp_law K) := by
  refine F.ok sc_law (fun vs H Q E h => ?_) fun cdv A outer s H vs Q E hr h => some_nox ?_
  · obtain ⟨a, ns, rfl, _⟩ := h; rfl
  · obtain ⟨a, ns, rfl, ha, ln, k⟩ := h
    refine ⟨_, pss_one (ps_ret (pe_b1 (cr_all rfl) X.f_all (pe_lc (own := [("_law_cell", 1)]) (g := gName 1) (tt := tYes) (te := tCa sp_right (tCons (tCa sp_source (tCons (tVar 1) tNil)) tNil)) rfl sc_law.nd (pi_list (pe_op op_cat (pe_slice sl_list (pv 0) po_none (po_some pe_int)) (pe_lst (pa_cons pe_int pa_nil)))) (blkOk_by (N := ["_law_script", "_law_cell"]) (sc := defScope s_law) (by decide +kernel)) (fun _ _ _ _ _ => pg_name (i := 1) sc_law.nd rfl (Or.inl rfl)) (fun _ _ _ _ _ => pts_nil) (fun _ _ _ _ _ => pe_ca (has_right X N) X.g_L_right hr (pa_cons (pe_ca (has_source X N) X.g_L_source hr (pa_cons (pv 1) pa_nil)) pa_nil))))), ?_⟩
    refine ⟨_, rfl, 2, rfl, a, _, rfl, ha, fun c hc => ⟨small_le (by simp), fun z hz => ?_⟩⟩
    have s1 : Same H (upd H c (.lst (cutV (ns.map V.int) none (some 2)))) := Same.new hc
    have lc := cutV_length (ns.map V.int) none (some 2)
    have lc2 : (cutV (ns.map V.int) none (some 2)).length ≤ 63 := by rw [List.length_map] at lc; omega
    refine ⟨c, z, _, _, rfl, rfl, (Same.new hz) _ _ upd_same, upd_same, small_le (by simp; omega), fun b hb => ?_⟩
    have hms : ∃ ms : List Int, cutV (ns.map V.int) none (some 2) ++ [V.int 0] = ms.map V.int ∧ ms.length ≤ 64 := by
      unfold cutV
      rw [← List.map_drop, ← List.map_take]
      exact ⟨_ ++ [0], by rw [List.map_append]; rfl, by rw [List.length_append]; have := List.length_take_le' (HT.sIx (ns.map V.int).length (ns.map V.int).length (some 2) - HT.sIx (ns.map V.int).length 0 none) (ns.drop (HT.sIx (ns.map V.int).length 0 none)); rw [List.length_drop] at this; simp only [List.length_singleton]; omega⟩
    obtain ⟨ms, ems, lms⟩ := hms
    rw [ems]
    refine ⟨b, rfl, ⟨_, SqL.of upd_same⟩, fun D hD => ?_⟩
    refine lc_pure (as := ms) (f := V.int) (p := fun _ => true) (out := fun _ => V.bl true) row_list hD (fun _ q => q.seq (SqL.of upd_same)) (small_line (by omega)) (fun m H' hm q Kt Kf k1 k2 => ?_) fun H' q hL => ?_
    · refine ⟨rfl, _, rfl, m, rfl, fun H2 wl s2 hwl hw => ?_⟩
      refine ⟨wl, rfl, hw, fun H3 d3 => k1 rfl _ fun b o e => d3.kp b o (s2 b o e) ?_⟩
      intro z
      rw [List.mem_singleton] at z
      subst z
      rw [hwl] at e
      cases e
    · refine ⟨D, ms.map fun _ => true, rfl, SqL.of (by rw [hL, List.filter_eq_self.mpr (by simp)]; simp [List.map_map]), ?_⟩
      rw [show ((ms.map fun _ => true).all id) = true by simp]
      exact k H'
end
end Bf
namespace Bf
open PySem PySem.Spec PyProof.Rows L2
theorem all_ok {P : Program} {w : World} {K : PySem.W.Frag} {mg : Str → Option Value} (T : Txt K mg) (c : He.SaysD fal fnl K) : ∃ fd : FuncData, (∀ (s : Shared) (v : Value), BindsTo s fd ⟨[v], []⟩ [("_law_script", v)]) ∧ ∀ base : Heap, FnOk P w K mg base CX0 30 (He.ga K "law") fd ["_law_script"] (sp_law K) := by
  have N := fns_of c
  obtain ⟨fd, F⟩ := N.f_law
  exact ⟨fd, fun s v => F.bindsA (ps := ["_law_script"]) (fun _ _ _ _ _ _ us hl => match us, hl with | [_], _ => rfl) s [v] rfl, fun base => (law_ok T N F).mono (by decide)⟩
end Bf
set_option Elab.async false
set_option linter.all false
set_option maxRecDepth 100000
set_option maxHeartbeats 0
open PySem PySem.W PySem.Calls PyProof.Rows
theorem PySem.Challenge.cw_bothfree_k90_whole_webs_parted_holds : PySem.Challenge.rw_bothfree_k90_whole_webs_parted.Holds := by
  w_on; o_law
  refine HandSHeadRun.head_any (r := OpenLaw.row PySem.Challenge.rw_bothfree_k90_whole_webs_parted) (q := view (OpenLaw.row PySem.Challenge.rw_bothfree_k90_whole_webs_parted).prog [69]) (H := Bf.hk) (ob := Bf.ob) (M := 5200) (loose := Bf.loose) (d := HandSHeadRun.topDef (OpenLaw.row PySem.Challenge.rw_bothfree_k90_whole_webs_parted).prog 69) (kwd := []) Bf.ob_eq
    (by kernel_rfl) (fun s => by kernel_rfl) Bf.run (by kernel_rfl) (by kernel_rfl) (by kernel_rfl) (by rfl) (by first | assumption | decide +kernel) (by decide +kernel) ⟨rfl, rfl, rfl, rfl, rfl, by decide +kernel⟩ ?hw ?hc
  case hw => w_witness2
  case hc =>
    refine L2.walk_ofE (l := PySem.Challenge.rw_bothfree_k90_whole_webs_parted) (n := 63) (k := 30) (x := "_law_script") (CX := L2.CX0) rfl (by decide) (by kernel_rfl) ⟨rfl, by decide, by decide⟩ ?F (fun _ _ _ _ z => z)
    intro w mg fa h Y G hmg0
    obtain ⟨K, KX, c⟩ := Y
    have hmg : mg ("law" : PySem.Str) = some (.ref fa) := by
      have e : (HandSHeadRun.topDef (OpenLaw.row PySem.Challenge.rw_bothfree_k90_whole_webs_parted).prog 69).name = ("law" : PySem.Str) := by kernel_rfl
      rw [← e]
      exact hmg0
    have T := Bf.txt_of KX G c
    have e := hmg.symm.trans T.g_law
    cases e
    obtain ⟨fd, hb, hF⟩ := Bf.all_ok (P := (PySem.Challenge.rw_bothfree_k90_whole_webs_parted).prog) (w := w) T c
    exact ⟨K, fd, Bf.sp_law K, KX, hb, fun H a ns hl _ hS => ⟨a, ns, rfl, hS, hl, fun _ => rfl⟩, fun base _ _ => hF base⟩
