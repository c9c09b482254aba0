import PyProof.Rows.All
import HandS.ForMost
import HandS.Walk
import HandS.Zip
import HandS.TupAny
import HandS.TupMul
import HandS.Deep
import HandS.IsInst
import HandS.Wide
import HandS.EndBits
import HandS.GenList
import KE.SortData
import HandS.Sort
import PySem.Challenge.RW_algebraparts_k04_whole_spaces
section
/-! K04Lin: rows over a commutative ring: spans, tables in form, their uniqueness, products. Plain Lean, no program. -/
set_option linter.all false
namespace K04
open Lean.Grind
section
variable {F : Type} [CommRing F]

/-- the rows that are sums of multiples -/
def Sp : List (Nat → F) → (Nat → F) → Prop
  | [], v => ∀ j, v j = 0
  | r :: T, v => ∃ a : F, Sp T (fun j => v j - a * r j)

theorem sp_congr {T : List (Nat → F)} {v w : Nat → F} (h : ∀ j, v j = w j) (hv : Sp T v) : Sp T w := by
  obtain rfl := funext h
  exact hv
theorem sp_zero : ∀ T : List (Nat → F), Sp T (fun _ => 0)
  | [] => fun _ => rfl
  | r :: T => ⟨0, sp_congr (fun j => by grind) (sp_zero T)⟩
theorem sp_add : ∀ {T : List (Nat → F)} {v w : Nat → F}, Sp T v → Sp T w → Sp T (fun j => v j + w j)
  | [], v, w, h1, h2 => fun j => by
    show v j + w j = 0
    rw [h1 j, h2 j]; grind
  | r :: T, v, w, ⟨a, h1⟩, ⟨b, h2⟩ => ⟨a + b, sp_congr (fun j => by grind) (sp_add h1 h2)⟩
theorem sp_smul (c : F) : ∀ {T : List (Nat → F)} {v : Nat → F}, Sp T v → Sp T (fun j => c * v j)
  | [], v, h1 => fun j => by
    show c * v j = 0
    rw [h1 j]; grind
  | r :: T, v, ⟨a, h1⟩ => ⟨c * a, sp_congr (fun j => by grind) (sp_smul c h1)⟩
theorem sp_sub {T : List (Nat → F)} {v w : Nat → F} (h1 : Sp T v) (h2 : Sp T w) : Sp T (fun j => v j - w j) :=
  sp_congr (fun j => by grind) (sp_add h1 (sp_smul (-1) h2))
theorem sp_axpy {T : List (Nat → F)} {v w : Nat → F} (a : F) (h1 : Sp T v) (h2 : Sp T w) : Sp T (fun j => v j - a * w j) := sp_sub h1 (sp_smul a h2)
theorem sp_mem : ∀ {T : List (Nat → F)} {r : Nat → F}, r ∈ T → Sp T r
  | t :: T, r, h => by
    rcases List.mem_cons.mp h with rfl | h
    · exact ⟨1, sp_congr (fun j => by grind) (sp_zero T)⟩
    · exact ⟨0, sp_congr (fun j => by grind) (sp_mem h)⟩
/-- the least set of its kind -/
theorem sp_min (S : (Nat → F) → Prop) (h0 : S fun _ => 0) (h1 : ∀ v w (a : F), S v → S w → S (fun j => v j + a * w j)) : ∀ {T : List (Nat → F)} {v : Nat → F}, (∀ r ∈ T, S r) → Sp T v → S v
  | [], v, _, hv => by
    have e : v = fun _ => 0 := funext hv
    rw [e]; exact h0
  | r :: T, v, hT, ⟨a, hv⟩ => by
    have h := h1 _ r a (sp_min S h0 h1 (fun r hr => hT r (List.mem_cons_of_mem _ hr)) hv) (hT r List.mem_cons_self)
    have e : v = fun j => v j - a * r j + a * r j := funext fun j => by grind
    rw [e]; exact h
theorem sp_le {T U : List (Nat → F)} {v : Nat → F} (h : ∀ r ∈ T, Sp U r) (hv : Sp T v) : Sp U v :=
  sp_min (Sp U) (sp_zero U) (fun _ _ a h1 h2 => sp_add h1 (sp_smul a h2)) h hv
theorem sp_eqv {T U : List (Nat → F)} (h : ∀ r ∈ T, Sp U r) (h' : ∀ r ∈ U, Sp T r) (v : Nat → F) : Sp T v ↔ Sp U v := ⟨sp_le h, sp_le h'⟩
theorem sp_zero_at {T : List (Nat → F)} {v : Nat → F} {j : Nat} (h : ∀ r ∈ T, r j = 0) (hv : Sp T v) : v j = 0 :=
  sp_min (fun v => v j = 0) rfl (fun v w a h1 h2 => by dsimp only; rw [h1, h2]; grind) h hv
theorem sp_snoc {T : List (Nat → F)} {r v : Nat → F} : Sp (T ++ [r]) v ↔ ∃ a : F, Sp T (fun j => v j - a * r j) := by
  constructor
  · intro h
    refine sp_min (fun v => ∃ a : F, Sp T (fun j => v j - a * r j)) ⟨0, sp_congr (fun j => by grind) (sp_zero T)⟩ (fun v w b ⟨a, h1⟩ ⟨a', h2⟩ => ⟨a + b * a', sp_congr (fun j => by grind) (sp_add h1 (sp_smul b h2))⟩) (fun t ht => ?_) h
    rcases List.mem_append.mp ht with ht | ht
    · exact ⟨0, sp_congr (fun j => by grind) (sp_mem ht)⟩
    · rw [List.mem_singleton.mp ht]
      exact ⟨1, sp_congr (fun j => by grind) (sp_zero T)⟩
  · rintro ⟨a, h⟩
    have h1 : Sp (T ++ [r]) (fun j => v j - a * r j) := sp_le (fun t ht => sp_mem (List.mem_append_left _ ht)) h
    have h2 : Sp (T ++ [r]) r := sp_mem (List.mem_append_right _ List.mem_cons_self)
    exact sp_congr (fun j => by grind) (sp_add h1 (sp_smul a h2))
theorem sp_append {T U : List (Nat → F)} {v : Nat → F} : Sp (T ++ U) v ↔ ∃ x y, Sp T x ∧ Sp U y ∧ ∀ j, v j = x j + y j := by
  constructor
  · intro h
    refine sp_min (fun v => ∃ x y, Sp T x ∧ Sp U y ∧ ∀ j, v j = x j + y j) ⟨_, _, sp_zero T, sp_zero U, fun j => by grind⟩
      (fun v w a ⟨x, y, hx, hy, e⟩ ⟨x', y', hx', hy', e'⟩ => ⟨_, _, sp_add hx (sp_smul a hx'), sp_add hy (sp_smul a hy'), fun j => by dsimp only; rw [e j, e' j]; grind⟩) (fun t ht => ?_) h
    rcases List.mem_append.mp ht with ht | ht
    · exact ⟨t, _, sp_mem ht, sp_zero U, fun j => by grind⟩
    · exact ⟨_, t, sp_zero T, sp_mem ht, fun j => by grind⟩
  · rintro ⟨x, y, hx, hy, e⟩
    exact sp_congr (fun j => (e j).symm) (sp_add (sp_le (fun t ht => sp_mem (List.mem_append_left _ ht)) hx) (sp_le (fun t ht => sp_mem (List.mem_append_right _ ht)) hy))

/-! ### tables with a place for each row -/
abbrev Tb (F : Type) := List (Nat × (Nat → F))
abbrev Tb.rows (L : Tb F) : List (Nat → F) := L.map (·.2)
def InF (L : Tb F) : Prop := L.Pairwise (fun x y => x.1 < y.1 ∧ x.2 y.1 = 0) ∧ ∀ x ∈ L, x.2 x.1 = 1 ∧ ∀ j, j < x.1 → x.2 j = 0
def Dual (L : Tb F) : Prop := L.Pairwise (fun x y => x.2 y.1 = 0 ∧ y.2 x.1 = 0) ∧ ∀ x ∈ L, x.2 x.1 = 1
theorem InF.dual {L : Tb F} (h : InF L) : Dual L := by
  refine ⟨?_, fun x hx => (h.2 x hx).1⟩
  refine List.Pairwise.imp_of_mem (fun {x y} hx hy r => ⟨r.2, (h.2 y hy).2 _ r.1⟩) h.1
theorem pw_cases {α : Type} {R : α → α → Prop} : ∀ {l : List α}, l.Pairwise R → ∀ {x y : α}, x ∈ l → y ∈ l → x = y ∨ R x y ∨ R y x
  | a :: l, h, x, y, hx, hy => by
    obtain ⟨h1, h2⟩ := List.pairwise_cons.mp h
    rcases List.mem_cons.mp hx with rfl | hx
    · rcases List.mem_cons.mp hy with rfl | hy
      · exact .inl rfl
      · exact .inr (.inl (h1 y hy))
    · rcases List.mem_cons.mp hy with e | hy
      · exact .inr (.inr (e ▸ h1 x hx))
      · exact pw_cases h2 hx hy
theorem InF.zero {L : Tb F} (h : InF L) {x y : Nat × (Nat → F)} (hx : x ∈ L) (hy : y ∈ L) (hne : x.1 ≠ y.1) : x.2 y.1 = 0 := by
  rcases pw_cases h.1 hx hy with rfl | r | r
  · exact absurd rfl hne
  · exact r.2
  · exact (h.2 x hx).2 _ r.1
/-- the sum of the rows, each by what stands in v at its place -/
def lcP (v : Nat → F) : Tb F → (Nat → F)
  | [] => fun _ => 0
  | x :: L => fun j => v x.1 * x.2 j + lcP v L j
theorem lcP_sp (v : Nat → F) : ∀ L : Tb F, Sp L.rows (lcP v L)
  | [] => fun _ => rfl
  | x :: L => ⟨v x.1, sp_congr (fun j => by simp only [lcP]; grind) (lcP_sp v L)⟩
theorem lcP_zero {v : Nat → F} {j : Nat} : ∀ {L : Tb F}, (∀ x ∈ L, x.2 j = 0) → lcP v L j = 0
  | [], _ => rfl
  | x :: L, h => by
    show v x.1 * x.2 j + lcP v L j = 0
    rw [h x List.mem_cons_self, lcP_zero fun y hy => h y (List.mem_cons_of_mem _ hy)]
    grind
theorem Dual.tail {x : Nat × (Nat → F)} {L : Tb F} (h : Dual (x :: L)) : Dual L := ⟨(List.pairwise_cons.mp h.1).2, fun y hy => h.2 y (List.mem_cons_of_mem _ hy)⟩
theorem InF.tail {x : Nat × (Nat → F)} {L : Tb F} (h : InF (x :: L)) : InF L := ⟨(List.pairwise_cons.mp h.1).2, fun y hy => h.2 y (List.mem_cons_of_mem _ hy)⟩
theorem lcP_at {v : Nat → F} : ∀ {L : Tb F}, Dual L → ∀ {x : Nat × (Nat → F)}, x ∈ L → lcP v L x.1 = v x.1
  | y :: L, h, x, hx => by
    have hp := (List.pairwise_cons.mp h.1).1
    show v y.1 * y.2 x.1 + lcP v L x.1 = v x.1
    rcases List.mem_cons.mp hx with rfl | hx
    · rw [h.2 x List.mem_cons_self, lcP_zero fun z hz => (hp z hz).2]
      grind
    · rw [(hp x hx).1, lcP_at h.tail hx]
      grind
theorem sp_dual_zero : ∀ {L : Tb F}, Dual L → ∀ {v : Nat → F}, Sp L.rows v → (∀ x ∈ L, v x.1 = 0) → ∀ j, v j = 0
  | [], _, v, hv, _, j => hv j
  | y :: L, h, v, ⟨a, hv⟩, h0, j => by
    have hp := (List.pairwise_cons.mp h.1).1
    have e : v y.1 - a * y.2 y.1 = 0 := sp_zero_at (T := Tb.rows L) (v := fun j => v j - a * y.2 j) (fun r hr => by
      obtain ⟨z, hz, rfl⟩ := List.mem_map.mp hr
      exact (hp z hz).2) hv
    rw [h0 y List.mem_cons_self, h.2 y List.mem_cons_self] at e
    have ea : a = 0 := by grind
    subst ea
    exact sp_dual_zero h.tail (sp_congr (fun j => by grind) hv) (fun x hx => h0 x (List.mem_cons_of_mem _ hx)) j
theorem sp_dual_eq {L : Tb F} (h : Dual L) {v : Nat → F} (hv : Sp L.rows v) (j : Nat) : v j = lcP v L j := by
  have e := sp_dual_zero h (sp_sub hv (lcP_sp v L)) (fun x hx => by rw [lcP_at h hx]; grind) j
  grind
/-- a first place that isn't 0 is a place of the table -/
theorem lead_mem : ∀ {L : Tb F}, InF L → ∀ {v : Nat → F}, Sp L.rows v → ∀ {j : Nat}, v j ≠ 0 → (∀ i, i < j → v i = 0) → j ∈ L.map (·.1)
  | [], _, v, hv, j, hj, _ => absurd (hv j) hj
  | y :: L, h, v, ⟨a, hv⟩, j, hj, h0 => by
    have hp := (List.pairwise_cons.mp h.1).1
    have hy := h.2 y List.mem_cons_self
    have low : ∀ i, i ≤ y.1 → v i = a * y.2 i := fun i hi => by
      have e : v i - a * y.2 i = 0 := sp_zero_at (T := Tb.rows L) (v := fun j => v j - a * y.2 j) (fun r hr => by
        obtain ⟨z, hz, rfl⟩ := List.mem_map.mp hr
        exact (h.2 z (List.mem_cons_of_mem _ hz)).2 _ (Nat.lt_of_le_of_lt hi (hp z hz).1)) hv
      grind
    by_cases hjy : j = y.1
    · rw [hjy]; exact List.mem_cons_self
    · by_cases hlt : j < y.1
      · exact absurd (by rw [low j (Nat.le_of_lt hlt), hy.2 j hlt]; grind) hj
      · have ea : a = 0 := by
          have e := low y.1 (Nat.le_refl _)
          rw [hy.1, h0 y.1 (by omega)] at e
          grind
        subst ea
        exact List.mem_cons_of_mem _ (lead_mem h.tail (sp_congr (fun j => by grind) hv) hj h0)
theorem inF_places {L M : Tb F} (hL : InF L) (hM : InF M) (h : ∀ v, Sp L.rows v → Sp M.rows v) (h1 : (1 : F) ≠ 0) : ∀ x ∈ L, x.1 ∈ M.map (·.1) := fun x hx =>
  lead_mem hM (h _ (sp_mem (List.mem_map.mpr ⟨x, hx, rfl⟩))) (by rw [(hL.2 x hx).1]; exact h1) (hL.2 x hx).2
/-- each set of rows has one table -/
theorem inF_unique {L M : Tb F} (hL : InF L) (hM : InF M) (h : ∀ v, Sp L.rows v ↔ Sp M.rows v) (h1 : (1 : F) ≠ 0) : L = M := by
  have sL : (L.map (·.1)).Pairwise (· < ·) := List.pairwise_map.mpr (hL.1.imp fun r => r.1)
  have sM : (M.map (·.1)).Pairwise (· < ·) := List.pairwise_map.mpr (hM.1.imp fun r => r.1)
  have nd : ∀ {l : List Nat}, l.Pairwise (· < ·) → l.Nodup := fun hl => hl.imp fun r => Nat.ne_of_lt r
  have pe : (L.map (·.1)) = (M.map (·.1)) := by
    refine List.Perm.eq_of_pairwise (le := (· < ·)) (fun a b _ _ r r' => absurd (Nat.lt_trans r r') (Nat.lt_irrefl _)) sL sM ?_
    refine (List.perm_ext_iff_of_nodup (nd sL) (nd sM)).mpr fun a => ⟨fun ha => ?_, fun ha => ?_⟩
    · obtain ⟨x, hx, rfl⟩ := List.mem_map.mp ha
      exact inF_places hL hM (fun v => (h v).mp) h1 x hx
    · obtain ⟨x, hx, rfl⟩ := List.mem_map.mp ha
      exact inF_places hM hL (fun v => (h v).mpr) h1 x hx
  have row : ∀ x ∈ L, ∀ y ∈ M, x.1 = y.1 → x.2 = y.2 := fun x hx y hy e => by
    funext j
    have hw : Sp M.rows (fun j => x.2 j - y.2 j) := sp_sub ((h _).mp (sp_mem (List.mem_map.mpr ⟨x, hx, rfl⟩))) (sp_mem (List.mem_map.mpr ⟨y, hy, rfl⟩))
    have z := sp_dual_zero hM.dual hw (fun z hz => by
      by_cases hzy : y.1 = z.1
      · rw [← hzy, (hM.2 y hy).1, ← e, (hL.2 x hx).1]; grind
      · rw [hM.zero hy hz hzy]
        have hzL : z.1 ∈ L.map (·.1) := by rw [pe]; exact List.mem_map.mpr ⟨z, hz, rfl⟩
        obtain ⟨x', hx', ex'⟩ := List.mem_map.mp hzL
        rw [← ex', hL.zero hx hx' (by rw [ex', e]; exact hzy)]; grind) j
    grind
  have len : L.length = M.length := by
    have := congrArg List.length pe
    simpa using this
  refine List.ext_getElem len fun i h1 h2 => ?_
  have e1 : (L[i]).1 = (M[i]).1 := by
    have a : (L.map (·.1))[i]'(by simpa using h1) = (M.map (·.1))[i]'(by simpa using h2) := by simp only [pe]
    simpa using a
  exact Prod.ext e1 (row _ (List.getElem_mem h1) _ (List.getElem_mem h2) e1)

/-! ### one step of the reduction -/
/-- the state ahead of the place c -/
def RInv (c : Nat) (left : List (Nat → F)) (fp : Tb F) : Prop := (∀ r ∈ left, ∀ j, j < c → r j = 0) ∧ InF fp ∧ ∀ x ∈ fp, x.1 < c
abbrev clrV (c : Nat) (h r : Nat → F) : Nat → F := fun j => r j - r c * h j
theorem rinv_skip {c : Nat} {left : List (Nat → F)} {fp : Tb F} (h : RInv c left fp) (h0 : ∀ r ∈ left, r c = 0) : RInv (c + 1) left fp :=
  ⟨fun r hr j hj => by
    rcases Nat.lt_succ_iff_lt_or_eq.mp hj with e | e
    · exact h.1 r hr j e
    · rw [e]; exact h0 r hr, h.2.1, fun x hx => Nat.lt_succ_of_lt (h.2.2 x hx)⟩
theorem rinv_step {c : Nat} {left left' : List (Nat → F)} {fp : Tb F} {hd : Nat → F} (h : RInv c left fp) (hs : ∀ r ∈ left', r ∈ left) (hl : ∀ j, j < c → hd j = 0) (h1 : hd c = 1) :
    RInv (c + 1) (left'.map (clrV c hd)) (fp.map (fun x => (x.1, clrV c hd x.2)) ++ [(c, hd)]) := by
  refine ⟨fun r hr j hj => ?_, ⟨List.pairwise_append.mpr ⟨List.pairwise_map.mpr ?_, List.pairwise_singleton _ _, fun x hx y hy => ?_⟩, fun x hx => ?_⟩, fun x hx => ?_⟩
  · obtain ⟨q, hq, rfl⟩ := List.mem_map.mp hr
    show q j - q c * hd j = 0
    rcases Nat.lt_succ_iff_lt_or_eq.mp hj with e | e
    · rw [h.1 q (hs q hq) j e, hl j e]; grind
    · rw [e, h1]; grind
  · refine List.Pairwise.imp_of_mem (fun {x y} hx hy r => ⟨r.1, ?_⟩) h.2.1.1
    show x.2 y.1 - x.2 c * hd y.1 = 0
    rw [r.2, hl y.1 (h.2.2 y hy)]; grind
  · obtain ⟨z, hz, rfl⟩ := List.mem_map.mp hx
    rw [List.mem_singleton.mp hy]
    refine ⟨h.2.2 z hz, ?_⟩
    show z.2 c - z.2 c * hd c = 0
    rw [h1]; grind
  · rcases List.mem_append.mp hx with hx | hx
    · obtain ⟨z, hz, rfl⟩ := List.mem_map.mp hx
      refine ⟨?_, fun j hj => ?_⟩
      · show z.2 z.1 - z.2 c * hd z.1 = 1
        rw [(h.2.1.2 z hz).1, hl z.1 (h.2.2 z hz)]; grind
      · show z.2 j - z.2 c * hd j = 0
        have hj : j < z.1 := hj
        rw [(h.2.1.2 z hz).2 j hj, hl j (Nat.lt_trans hj (h.2.2 z hz))]; grind
    · rw [List.mem_singleton.mp hx]
      exact ⟨h1, hl⟩
  · rcases List.mem_append.mp hx with hx | hx
    · obtain ⟨z, hz, rfl⟩ := List.mem_map.mp hx
      exact Nat.lt_succ_of_lt (h.2.2 z hz)
    · rw [List.mem_singleton.mp hx]
      exact Nat.lt_succ_self _
theorem step_span {c : Nat} {left left' : List (Nat → F)} {fp : Tb F} {hd r0 : Nat → F} {a b : F} (hs : ∀ r, r ∈ left ↔ r = r0 ∨ r ∈ left') (e : ∀ j, hd j = r0 j * a) (eb : ∀ j, r0 j = hd j * b) (v : Nat → F) :
    Sp (left'.map (clrV c hd) ++ Tb.rows (fp.map (fun x => (x.1, clrV c hd x.2)) ++ [(c, hd)])) v ↔ Sp (left ++ fp.rows) v := by
  have h0 : Sp (left ++ fp.rows) hd := sp_congr (fun j => by rw [e j]; grind) (sp_smul a (sp_mem (List.mem_append_left _ ((hs r0).mpr (.inl rfl)))))
  have hN : Sp (left'.map (clrV c hd) ++ Tb.rows (fp.map (fun x => (x.1, clrV c hd x.2)) ++ [(c, hd)])) hd :=
    sp_mem (List.mem_append_right _ (List.mem_map.mpr ⟨(c, hd), List.mem_append_right _ List.mem_cons_self, rfl⟩))
  refine sp_eqv (fun r hr => ?_) (fun r hr => ?_) v
  · rcases List.mem_append.mp hr with hr | hr
    · obtain ⟨q, hq, rfl⟩ := List.mem_map.mp hr
      exact sp_axpy _ (sp_mem (List.mem_append_left _ ((hs q).mpr (.inr hq)))) h0
    · obtain ⟨x, hx, rfl⟩ := List.mem_map.mp hr
      rcases List.mem_append.mp hx with hx | hx
      · obtain ⟨z, hz, rfl⟩ := List.mem_map.mp hx
        exact sp_axpy _ (sp_mem (List.mem_append_right _ (List.mem_map.mpr ⟨z, hz, rfl⟩))) h0
      · rw [List.mem_singleton.mp hx]; exact h0
  · rcases List.mem_append.mp hr with hr | hr
    · rcases (hs r).mp hr with rfl | hr
      · exact sp_congr (fun j => by rw [eb j]; grind) (sp_smul b hN)
      · have h2 := sp_mem (T := left'.map (clrV c hd) ++ Tb.rows (fp.map (fun x => (x.1, clrV c hd x.2)) ++ [(c, hd)])) (List.mem_append_left _ (List.mem_map.mpr ⟨r, hr, rfl⟩))
        exact sp_congr (fun j => by grind) (sp_add h2 (sp_smul (r c) hN))
    · obtain ⟨x, hx, rfl⟩ := List.mem_map.mp hr
      have h2 := sp_mem (T := left'.map (clrV c hd) ++ Tb.rows (fp.map (fun x => (x.1, clrV c hd x.2)) ++ [(c, hd)])) (r := clrV c hd x.2)
        (List.mem_append_right _ (List.mem_map.mpr ⟨(x.1, clrV c hd x.2), List.mem_append_left _ (List.mem_map.mpr ⟨x, hx, rfl⟩), rfl⟩))
      exact sp_congr (fun j => by grind) (sp_add h2 (sp_smul (x.2 c) hN))
/-- behind the last place -/
theorem rinv_end {n : Nat} {left : List (Nat → F)} {fp : Tb F} (h : RInv n left fp) (hn : ∀ r ∈ left, ∀ j, n ≤ j → r j = 0) (v : Nat → F) : Sp (left ++ fp.rows) v ↔ Sp fp.rows v := by
  refine sp_eqv (fun r hr => ?_) (fun r hr => sp_mem (List.mem_append_right _ hr)) v
  rcases List.mem_append.mp hr with hr | hr
  · refine sp_congr (fun j => ?_) (sp_zero _)
    by_cases hj : j < n
    · exact (h.1 r hr j hj).symm
    · exact (hn r hr j (by omega)).symm
  · exact sp_mem hr

/-! ### products -/
def dot (v w : Nat → F) : Nat → F
  | 0 => 0
  | n + 1 => dot v w n + v n * w n
theorem dot_axpy {u v w : Nat → F} (a : F) : ∀ n, dot u (fun j => v j + a * w j) n = dot u v n + a * dot u w n
  | 0 => by simp only [dot]; grind
  | n + 1 => by simp only [dot, dot_axpy a n]; grind
theorem dot_zero {u : Nat → F} : ∀ n, dot u (fun _ => 0) n = 0
  | 0 => rfl
  | n + 1 => by simp only [dot, dot_zero n]; grind
theorem dot_comm {u v : Nat → F} : ∀ n, dot u v n = dot v u n
  | 0 => rfl
  | n + 1 => by simp only [dot, dot_comm n]; grind
theorem dot_congr {u v w : Nat → F} : ∀ {n}, (∀ j, j < n → v j = w j) → dot u v n = dot u w n
  | 0, _ => rfl
  | n + 1, h => by simp only [dot]; rw [dot_congr fun j hj => h j (Nat.lt_succ_of_lt hj), h n (Nat.lt_succ_self n)]
theorem dot_sp {T : List (Nat → F)} {u v : Nat → F} {n : Nat} (h : ∀ r ∈ T, dot u r n = 0) (hv : Sp T v) : dot u v n = 0 :=
  sp_min (fun v => dot u v n = 0) (dot_zero n) (fun v w a h1 h2 => by rw [dot_axpy, h1, h2]; grind) h hv
theorem dot_single {u w : Nat → F} {P : Nat} : ∀ {n}, P < n → (∀ j, j < n → j ≠ P → u j * w j = 0) → dot u w n = u P * w P
  | n + 1, hP, h => by
    have none : ∀ m, m ≤ n → P ≥ m → dot u w m = 0 := by
      intro m
      induction m with
      | zero => intro _ _; rfl
      | succ m ih =>
        intro hm hPm
        simp only [dot]
        rw [ih (by omega) (by omega), h m (by omega) (by omega)]; grind
    simp only [dot]
    by_cases e : P = n
    · subst e
      rw [none P (Nat.le_refl _) (Nat.le_refl _)]; grind
    · rw [dot_single (n := n) (by omega) (fun j hj hne => h j (by omega) hne), h n (by omega) (fun z => e z.symm)]; grind
def updV (w : Nat → F) (P : Nat) (x : F) : Nat → F := fun j => if j = P then x else w j
theorem dot_upd {v w : Nat → F} {P : Nat} {x : F} {n : Nat} (hP : P < n) : dot v (updV w P x) n = dot v w n + v P * (x - w P) := by
  have e : dot v (updV w P x) n = dot v (fun j => w j + (x - w P) * (if j = P then 1 else 0)) n := dot_congr fun j _ => by
    unfold updV
    split
    · rename_i z; subst z; grind
    · grind
  rw [e, dot_axpy]
  have e2 : dot v (fun j => if j = P then (1 : F) else 0) n = v P := by
    rw [dot_single hP fun j _ hne => by rw [if_neg hne]; grind]
    rw [if_pos rfl]; grind
  rw [e2]; grind

/-! ### the rows whose products are 0 -/
/-- the row of a free place -/
def kvV (L : Tb F) (f : Nat) (w : Nat → F) : Nat → F := L.foldl (fun w x => updV w x.1 (-(x.2 f))) w
theorem kvV_other {f : Nat} {j : Nat} : ∀ {L : Tb F} {w : Nat → F}, j ∉ L.map (·.1) → kvV L f w j = w j
  | [], _, _ => rfl
  | x :: L, w, h => by
    have h1 : j ≠ x.1 := fun e => h (by rw [e]; exact List.mem_cons_self)
    have h2 : j ∉ L.map (·.1) := fun e => h (List.mem_cons_of_mem _ e)
    show kvV L f (updV w x.1 _) j = w j
    rw [kvV_other h2]
    exact if_neg h1
theorem dot_kvV {v : Nat → F} {f n : Nat} : ∀ {L : Tb F} {w : Nat → F}, (L.map (·.1)).Nodup → (∀ x ∈ L, x.1 < n) → (∀ x ∈ L, w x.1 = 0) → dot v (kvV L f w) n = dot v w n - lcP v L f
  | [], w, _, _, _ => by
    show dot v w n = dot v w n - 0
    grind
  | x :: L, w, hnd, hlt, h0 => by
    obtain ⟨h1, h2⟩ := List.nodup_cons.mp hnd
    show dot v (kvV L f (updV w x.1 (-(x.2 f)))) n = dot v w n - (v x.1 * x.2 f + lcP v L f)
    rw [dot_kvV h2 (fun y hy => hlt y (List.mem_cons_of_mem _ hy)) (fun y hy => ?_), dot_upd (hlt x List.mem_cons_self), h0 x List.mem_cons_self]
    · grind
    · unfold updV
      rw [if_neg (fun e => h1 (List.mem_map.mpr ⟨y, hy, e⟩))]
      exact h0 y (List.mem_cons_of_mem _ hy)
def eV (f : Nat) : Nat → F := fun j => if j = f then 1 else 0
def freeOf (L : Tb F) (n : Nat) : List Nat := (List.range n).filter (fun f => !(L.map (·.1)).contains f)
def kerV (L : Tb F) (n : Nat) : Tb F := (freeOf L n).map fun f => (f, kvV L f (eV f))
theorem mem_freeOf {L : Tb F} {n f : Nat} : f ∈ freeOf L n ↔ f < n ∧ f ∉ L.map (·.1) := by
  unfold freeOf
  rw [List.mem_filter, List.mem_range]
  simp
theorem kerV_dual {L : Tb F} {n : Nat} : Dual (kerV L n) := by
  have at' : ∀ f g, g ∉ L.map (·.1) → kvV L f (eV f) g = if g = f then 1 else 0 := fun f g hg => kvV_other hg
  refine ⟨List.pairwise_map.mpr ?_, fun x hx => ?_⟩
  · have hp : (freeOf L n).Pairwise (· < ·) := List.Pairwise.filter _ List.pairwise_lt_range
    refine List.Pairwise.imp_of_mem (fun {f g} hf hg r => ⟨?_, ?_⟩) hp
    · show kvV L f (eV f) g = 0
      rw [at' f g (mem_freeOf.mp hg).2, if_neg (by omega)]
    · show kvV L g (eV g) f = 0
      rw [at' g f (mem_freeOf.mp hf).2, if_neg (by omega)]
  · obtain ⟨f, hf, rfl⟩ := List.mem_map.mp hx
    show kvV L f (eV f) f = 1
    rw [at' f f (mem_freeOf.mp hf).2, if_pos rfl]
theorem dot_ker {L : Tb F} {n : Nat} (h : InF L) (hn : ∀ x ∈ L, x.1 < n) {f : Nat} (hf : f ∈ freeOf L n) (v : Nat → F) : dot v (kvV L f (eV f)) n = v f - lcP v L f := by
  obtain ⟨h1, h2⟩ := mem_freeOf.mp hf
  have nd : (L.map (·.1)).Nodup := (List.pairwise_map.mpr (h.1.imp fun r => r.1) : (L.map (·.1)).Pairwise (· < ·)).imp fun r => Nat.ne_of_lt r
  rw [dot_kvV nd hn fun x hx => if_neg fun e => h2 (List.mem_map.mpr ⟨x, hx, e⟩)]
  have e : dot v (eV f) n = v f := by
    rw [dot_single h1 fun j _ hne => by unfold eV; rw [if_neg hne]; grind]
    unfold eV
    rw [if_pos rfl]; grind
  rw [e]
def Supp (n : Nat) (v : Nat → F) : Prop := ∀ j, n ≤ j → v j = 0
theorem kerV_supp {L : Tb F} {n : Nat} (hn : ∀ x ∈ L, x.1 < n) : ∀ x ∈ kerV L n, Supp n x.2 := fun x hx j hj => by
  obtain ⟨f, hf, rfl⟩ := List.mem_map.mp hx
  show kvV L f (eV f) j = 0
  rw [kvV_other (fun z => ?_)]
  · exact if_neg (by have := (mem_freeOf.mp hf).1; omega)
  · obtain ⟨x, hx, e⟩ := List.mem_map.mp z
    have := hn x hx
    omega
theorem sp_supp {T : List (Nat → F)} {n : Nat} {v : Nat → F} (h : ∀ r ∈ T, Supp n r) (hv : Sp T v) : Supp n v := fun j hj => sp_zero_at (fun r hr => h r hr j hj) hv
/-- the rows of the free places span all rows whose products with the table are 0 -/
theorem ker_iff {L : Tb F} {n : Nat} (h : InF L) (hn : ∀ x ∈ L, x.1 < n) {v : Nat → F} (hv : Supp n v) : Sp (kerV L n).rows v ↔ ∀ x ∈ L, dot v x.2 n = 0 := by
  have orth : ∀ x ∈ L, ∀ r ∈ (kerV L n).rows, dot x.2 r n = 0 := fun x hx r hr => by
    obtain ⟨y, hy, rfl⟩ := List.mem_map.mp hr
    obtain ⟨f, hf, rfl⟩ := List.mem_map.mp hy
    show dot x.2 (kvV L f (eV f)) n = 0
    rw [dot_ker h hn hf, ← sp_dual_eq h.dual (sp_mem (List.mem_map.mpr ⟨x, hx, rfl⟩)) f]
    grind
  constructor
  · intro hs x hx
    rw [dot_comm]
    exact dot_sp (orth x hx) hs
  · intro h0
    have hl := lcP_sp v (kerV L n)
    have z : ∀ j, v j - lcP v (kerV L n) j = 0 := fun j => by
      by_cases hj : j < n
      · by_cases hp : j ∈ L.map (·.1)
        · obtain ⟨x, hx, rfl⟩ := List.mem_map.mp hp
          have hfree : ∀ i, i < n → i ≠ x.1 → (v i - lcP v (kerV L n) i) * x.2 i = 0 := fun i hi hne => by
            by_cases hip : i ∈ L.map (·.1)
            · obtain ⟨y, hy, rfl⟩ := List.mem_map.mp hip
              rw [h.zero hx hy (fun z => hne z.symm)]; grind
            · have hf : i ∈ freeOf L n := mem_freeOf.mpr ⟨hi, hip⟩
              rw [lcP_at (x := (i, kvV L i (eV i))) kerV_dual (List.mem_map.mpr ⟨i, hf, rfl⟩)]; grind
          have e1 := dot_single (u := fun j => v j - lcP v (kerV L n) j) (w := x.2) (hn x hx) hfree
          have e2 : dot (fun j => v j - lcP v (kerV L n) j) x.2 n = 0 := by
            rw [dot_comm]
            have e3 := dot_axpy (u := x.2) (v := v) (w := lcP v (kerV L n)) (-1) n
            rw [dot_congr (w := fun j => v j + -1 * lcP v (kerV L n) j) (fun j _ => by grind), e3, dot_comm (u := x.2) (v := v), h0 x hx, dot_sp (orth x hx) hl]
            grind
          rw [e2, (h.2 x hx).1] at e1
          grind
        · have hf : j ∈ freeOf L n := mem_freeOf.mpr ⟨hj, hp⟩
          rw [lcP_at (x := (j, kvV L j (eV j))) kerV_dual (List.mem_map.mpr ⟨j, hf, rfl⟩)]; grind
      · have hs := sp_supp (fun r hr => by
          obtain ⟨x, hx, rfl⟩ := List.mem_map.mp hr
          exact kerV_supp hn x hx) hl
        rw [hv j (by omega), hs j (by omega)]; grind
    exact sp_congr (fun j => by have := z j; grind) hl
/-- .. and back -/
theorem ker_ker {L : Tb F} {n : Nat} (h : InF L) (hn : ∀ x ∈ L, x.1 < n) (hL : ∀ x ∈ L, Supp n x.2) {v : Nat → F} (hv : Supp n v) : (∀ x ∈ kerV L n, dot v x.2 n = 0) ↔ Sp L.rows v := by
  constructor
  · intro h0
    have hl := lcP_sp v L
    refine sp_congr (fun j => ?_) hl
    by_cases hj : j < n
    · by_cases hp : j ∈ L.map (·.1)
      · obtain ⟨x, hx, rfl⟩ := List.mem_map.mp hp
        exact lcP_at h.dual hx
      · have hf : j ∈ freeOf L n := mem_freeOf.mpr ⟨hj, hp⟩
        have e := h0 (j, kvV L j (eV j)) (List.mem_map.mpr ⟨j, hf, rfl⟩)
        rw [dot_ker h hn hf] at e
        grind
    · have hs := sp_supp (fun r hr => by
        obtain ⟨x, hx, rfl⟩ := List.mem_map.mp hr
        exact hL x hx) hl
      rw [hv j (by omega), hs j (by omega)]
  · intro hs x hx
    have hk : Sp (kerV L n).rows x.2 := sp_mem (List.mem_map.mpr ⟨x, hx, rfl⟩)
    have o := (ker_iff h hn (kerV_supp hn x hx)).mp hk
    rw [dot_comm]
    exact dot_sp (fun r hr => by
      obtain ⟨y, hy, rfl⟩ := List.mem_map.mp hr
      exact o y hy) hs
end
end K04
end

section
/-! K04Rows: what the program's functions compute, on lists of ints, and what that is as rows over the numbers modulo p. -/
set_option linter.all false
namespace K04
open Lean.Grind
abbrev RowI := List Int
section
variable (p : Nat)
def addR (v w : RowI) : RowI := List.zipWith (fun x y => (x + y) % (p : Int)) v w
def sclR (v : RowI) (a : Int) : RowI := v.map fun x => x * a % (p : Int)
def clrR (h : RowI) (c : Nat) (r : RowI) : RowI := if r.getD c 0 = 0 then r else List.zipWith (fun x y => (x - r.getD c 0 * y) % (p : Int)) r h
def invR (a : Int) : Int := match (List.range (p - 1)).find? (fun i : Nat => decide (a * (1 + (i : Int)) % (p : Int) = 1)) with | some i => 1 + (i : Int) | none => 0
def headsR (left : List RowI) (c : Nat) : List Nat := (List.range left.length).filter fun k => !decide ((left.getD k []).getD c 0 = 0)
def headR (left : List RowI) (c k : Nat) : RowI := sclR p (left.getD k []) (invR p ((left.getD k []).getD c 0))
abbrev RS := List RowI × List (Nat × RowI)
def redStep (S : RS) (c : Nat) : RS := match headsR S.1 c with
  | [] => S
  | k :: _ => ((S.1.eraseIdx k).map (clrR p (headR p S.1 c k) c), S.2.map (fun x => (x.1, clrR p (headR p S.1 c k) c x.2)) ++ [(c, headR p S.1 c k)])
def redTo (rows : List RowI) (m : Nat) : RS := (List.range m).foldl (redStep p) (rows, [])
def tabR (n : Nat) (rows : List RowI) : List (Nat × RowI) := (redTo p rows n).2
def spanR (n : Nat) (rows : List RowI) : List RowI := (tabR p n rows).map (·.2)
def kvR (L : List (Nat × RowI)) (f : Nat) (w : RowI) : RowI := L.foldl (fun w x => w.set x.1 (-(x.2.getD f 0) % (p : Int))) w
def eR (n f : Nat) : RowI := (List.range n).map fun j => if j = f then 1 else 0
def freeR (L : List (Nat × RowI)) (n : Nat) : List Nat := (List.range n).filter (fun f => !(L.map (·.1)).contains f)
def kerRows (n : Nat) (L : List (Nat × RowI)) : List RowI := (freeR L n).map fun f => kvR p L f (eR n f)
def kernelR (n : Nat) (rows : List RowI) : List RowI := spanR p n (kerRows p n (tabR p n rows))
def commonR (n : Nat) (a b : List RowI) : List RowI := kernelR p n (kernelR p n a ++ kernelR p n b)
def zeroR (n : Nat) : RowI := List.replicate n 0
def growR (found : List RowI) (r : RowI) : List RowI := found.flatMap fun w => (List.range p).map fun a : Nat => addR p w (sclR p r (a : Int))
def memR (n : Nat) (space : List RowI) : List RowI := space.foldl (growR p) [zeroR n]
def lawStep (found : List RowI) (r : RowI) : List RowI := if r ∈ found then found else growR p found r
def lawR (n : Nat) (rows : List RowI) : List RowI := rows.foldl (lawStep p) [zeroR n]

theorem at_lt {r : RowI} {j : Nat} (h : j < r.length) : r.getD j 0 = r[j] := by simp [List.getD_eq_getElem?_getD, h]
theorem at_ge {r : RowI} {j : Nat} (h : r.length ≤ j) : r.getD j 0 = 0 := by simp [List.getD_eq_getElem?_getD, h]
/-- a number as an element of F -/
def cz (F : Type) [CommRing F] (x : Int) : F := @IntCast.intCast F Ring.intCast x
section
variable {F : Type} [CommRing F]
theorem cz_zero : cz F 0 = 0 := Ring.intCast_zero
theorem cz_one : cz F 1 = 1 := Ring.intCast_one
theorem cz_add (x y : Int) : cz F (x + y) = cz F x + cz F y := Ring.intCast_add x y
theorem cz_sub (x y : Int) : cz F (x - y) = cz F x - cz F y := Ring.intCast_sub x y
theorem cz_mul (x y : Int) : cz F (x * y) = cz F x * cz F y := Ring.intCast_mul x y
theorem cz_neg (x : Int) : cz F (-x) = -cz F x := Ring.intCast_neg x
theorem cz_iff {p : Nat} [IsCharP F p] {x y : Int} : cz F x = cz F y ↔ x % (p : Int) = y % (p : Int) := IsCharP.intCast_ext_iff (α := F) p
end
/-- a row of the length n modulo p -/
def Can (n : Nat) (r : RowI) : Prop := r.length = n ∧ ∀ x ∈ r, 0 ≤ x ∧ x < (p : Int)
end

section
variable {p n : Nat}
theorem Can.at {r : RowI} (h : Can p n r) (hp : 0 < p) (j : Nat) : 0 ≤ r.getD j 0 ∧ r.getD j 0 < (p : Int) := by
  by_cases hj : j < r.length
  · rw [at_lt (r := r) hj]
    exact h.2 _ (List.getElem_mem hj)
  · rw [at_ge (r := r) (by omega)]
    omega
theorem can_map {r : RowI} (hp : 0 < p) (f : Int → Int) (hl : r.length = n) : Can p n (r.map fun x => f x % (p : Int)) := by
  refine ⟨by rw [List.length_map, hl], fun x hx => ?_⟩
  obtain ⟨y, _, rfl⟩ := List.mem_map.mp hx
  exact ⟨Int.emod_nonneg _ (by omega), Int.emod_lt_of_pos _ (by omega)⟩
theorem can_zip {v w : RowI} (hp : 0 < p) (f : Int → Int → Int) (hv : v.length = n) (hw : w.length = n) : Can p n (List.zipWith (fun x y => f x y % (p : Int)) v w) := by
  refine ⟨by rw [List.length_zipWith, hv, hw, Nat.min_self], fun x hx => ?_⟩
  obtain ⟨i, hi, rfl⟩ := List.getElem_of_mem hx
  rw [List.getElem_zipWith]
  exact ⟨Int.emod_nonneg _ (by omega), Int.emod_lt_of_pos _ (by omega)⟩
theorem can_scl {r : RowI} (hp : 0 < p) (a : Int) (h : Can p n r) : Can p n (sclR p r a) := can_map hp (fun x => x * a) h.1
theorem can_add {v w : RowI} (hp : 0 < p) (hv : Can p n v) (hw : Can p n w) : Can p n (addR p v w) := can_zip hp (fun x y => x + y) hv.1 hw.1
theorem can_clr {r h : RowI} {c : Nat} (hp : 0 < p) (hr : Can p n r) (hh : Can p n h) : Can p n (clrR p h c r) := by
  unfold clrR
  split
  · exact hr
  · exact can_zip hp (fun x y => x - r.getD c 0 * y) hr.1 hh.1
theorem can_zero (hp : 0 < p) : Can p n (zeroR n) := by
  refine ⟨List.length_replicate, fun x hx => ?_⟩
  rw [(List.mem_replicate.mp hx).2]
  omega
theorem can_e {f : Nat} (hp : 1 < p) : Can p n (eR n f) := by
  refine ⟨by unfold eR; rw [List.length_map, List.length_range], fun x hx => ?_⟩
  unfold eR at hx
  obtain ⟨y, _, rfl⟩ := List.mem_map.mp hx
  split <;> omega
theorem can_kv {f : Nat} (hp : 0 < p) : ∀ {L : List (Nat × RowI)} {w : RowI}, Can p n w → Can p n (kvR p L f w)
  | [], _, h => h
  | x :: L, w, h => by
    refine can_kv (L := L) hp (w := w.set x.1 (-(x.2.getD f 0) % (p : Int))) ⟨by rw [List.length_set]; exact h.1, fun y hy => ?_⟩
    rcases List.mem_or_eq_of_mem_set hy with hy | rfl
    · exact h.2 y hy
    · exact ⟨Int.emod_nonneg _ (by omega), Int.emod_lt_of_pos _ (by omega)⟩

/-! ### as rows over F -/
variable {F : Type} [CommRing F]
def vec (F : Type) [CommRing F] (r : RowI) : Nat → F := fun j => cz F (r.getD j 0)
theorem cast_mod [IsCharP F p] (x : Int) : cz F (x % (p : Int)) = cz F x := (cz_iff (F := F) (p := p)).mpr (Int.emod_emod_of_dvd x (Int.dvd_refl _))
theorem vec_inj [IsCharP F p] {v w : RowI} (hp : 0 < p) (hv : Can p n v) (hw : Can p n w) (e : ∀ j, vec F v j = vec F w j) : v = w := by
  refine List.ext_getElem (hv.1.trans hw.1.symm) fun i h1 h2 => ?_
  have h := (cz_iff (F := F) (p := p)).mp (e i)
  rw [at_lt (r := v) h1, at_lt (r := w) h2] at h
  have a := hv.2 _ (List.getElem_mem h1)
  have b := hw.2 _ (List.getElem_mem h2)
  rwa [Int.emod_eq_of_lt a.1 a.2, Int.emod_eq_of_lt b.1 b.2] at h
theorem vec_zero_iff [IsCharP F p] {r : RowI} {j : Nat} (hp : 0 < p) (h : Can p n r) : vec F r j = 0 ↔ r.getD j 0 = 0 := by
  have a := h.at hp j
  constructor
  · intro e
    have e1 : cz F (r.getD j 0) = cz F (0) := by rw [cz_zero]; exact e
    have e2 := (cz_iff (F := F) (p := p)).mp e1
    rwa [Int.emod_eq_of_lt a.1 a.2, Int.zero_emod] at e2
  · intro e
    show cz F (r.getD j 0) = 0
    rw [e, cz_zero]
theorem vec_supp {r : RowI} (h : r.length = n) : Supp n (vec F r) := fun j hj => by
  show cz F (r.getD j 0) = 0
  rw [at_ge (r := r) (by omega), cz_zero]
theorem vec_map [IsCharP F p] {r : RowI} {f : Int → Int} (h0 : f 0 = 0) (j : Nat) : vec F (r.map fun x => f x % (p : Int)) j = cz F (f (r.getD j 0)) := by
  show cz F ((r.map fun x => f x % (p : Int)).getD j 0) = _
  by_cases hj : j < r.length
  · rw [at_lt (r := _) (by rw [List.length_map]; exact hj), List.getElem_map, cast_mod, at_lt (r := r) hj]
  · rw [at_ge (r := _) (by rw [List.length_map]; omega), at_ge (r := r) (by omega), h0]
theorem vec_zip [IsCharP F p] {v w : RowI} {f : Int → Int → Int} (h0 : f 0 0 = 0) (hv : v.length = n) (hw : w.length = n) (j : Nat) :
    vec F (List.zipWith (fun x y => f x y % (p : Int)) v w) j = cz F (f (v.getD j 0) (w.getD j 0)) := by
  show cz F ((List.zipWith (fun x y => f x y % (p : Int)) v w).getD j 0) = _
  have hl : (List.zipWith (fun x y => f x y % (p : Int)) v w).length = n := by rw [List.length_zipWith, hv, hw, Nat.min_self]
  by_cases hj : j < n
  · rw [at_lt (r := _) (by omega), List.getElem_zipWith, cast_mod, at_lt (r := v) (by omega), at_lt (r := w) (by omega)]
  · rw [at_ge (r := _) (by omega), at_ge (r := v) (by omega), at_ge (r := w) (by omega), h0]
theorem vec_scl [IsCharP F p] {r : RowI} {a : Int} (j : Nat) : vec F (sclR p r a) j = vec F r j * cz F a := by
  unfold sclR
  rw [vec_map (f := fun x => x * a) (Int.zero_mul a), cz_mul]
  rfl
theorem vec_add [IsCharP F p] {v w : RowI} (hv : v.length = n) (hw : w.length = n) (j : Nat) : vec F (addR p v w) j = vec F v j + vec F w j := by
  unfold addR
  rw [vec_zip (f := fun x y => x + y) rfl hv hw, cz_add]
  rfl
theorem vec_clr [IsCharP F p] {r h : RowI} {c : Nat} (hr : r.length = n) (hh : h.length = n) (j : Nat) : vec F (clrR p h c r) j = clrV c (vec F h) (vec F r) j := by
  unfold clrR
  split
  · rename_i e
    show vec F r j = vec F r j - cz F (r.getD c 0) * vec F h j
    rw [e, cz_zero]
    grind
  · rw [vec_zip (f := fun x y => x - r.getD c 0 * y) (by simp) hr hh, cz_sub, cz_mul]
    rfl
theorem vec_zero (j : Nat) : vec F (zeroR n) j = 0 := by
  show cz F ((zeroR n).getD j 0) = 0
  have e : (zeroR n).getD j 0 = 0 := by
    unfold zeroR
    by_cases hj : j < n
    · rw [at_lt (r := _) (by rw [List.length_replicate]; exact hj), List.getElem_replicate]
    · rw [at_ge (r := _) (by rw [List.length_replicate]; omega)]
  rw [e, cz_zero]
theorem vec_e {f : Nat} (hf : f < n) (j : Nat) : vec F (eR n f) j = eV f j := by
  show cz F ((eR n f).getD j 0) = _
  unfold eR eV
  by_cases hj : j < n
  · rw [at_lt (r := _) (by rw [List.length_map, List.length_range]; exact hj), List.getElem_map, List.getElem_range]
    by_cases e : j = f
    · rw [if_pos e, if_pos e]; exact cz_one
    · rw [if_neg e, if_neg e]; exact cz_zero
  · rw [at_ge (r := _) (by rw [List.length_map, List.length_range]; omega), if_neg (by omega)]
    exact cz_zero
theorem vec_set [IsCharP F p] {w : RowI} {P : Nat} {x : Int} (hP : P < w.length) (j : Nat) : vec F (w.set P (x % (p : Int))) j = updV (vec F w) P (cz F x) j := by
  show cz F ((w.set P (x % (p : Int))).getD j 0) = _
  unfold updV
  by_cases e : j = P
  · subst e
    rw [if_pos rfl, at_lt (r := _) (by rw [List.length_set]; exact hP), List.getElem_set_self, cast_mod]
  · rw [if_neg e]
    show _ = cz F (w.getD j 0)
    rw [List.getD_eq_getElem?_getD, List.getD_eq_getElem?_getD, List.getElem?_set_ne (fun z => e z.symm)]
/-- a table of rows, over F -/
def tbV (F : Type) [CommRing F] (L : List (Nat × RowI)) : Tb F := L.map fun x => (x.1, vec F x.2)
theorem tbV_places (L : List (Nat × RowI)) : (tbV F L).map (·.1) = L.map (·.1) := by
  unfold tbV
  rw [List.map_map]; rfl
theorem tbV_rows (L : List (Nat × RowI)) : (tbV F L).rows = (L.map (·.2)).map (vec F) := by
  unfold tbV Tb.rows
  rw [List.map_map, List.map_map]; rfl
theorem vec_kv [IsCharP F p] {f : Nat} : ∀ {L : List (Nat × RowI)} {w : RowI}, (∀ x ∈ L, x.1 < w.length) → ∀ j, vec F (kvR p L f w) j = kvV (tbV F L) f (vec F w) j
  | [], _, _, _ => rfl
  | x :: L, w, h, j => by
    show vec F (kvR p L f (w.set x.1 (-(x.2.getD f 0) % (p : Int)))) j = kvV (tbV F L) f (updV (vec F w) x.1 (-(vec F x.2 f))) j
    rw [vec_kv (L := L) (fun y hy => by rw [List.length_set]; exact h y (List.mem_cons_of_mem _ hy)) j]
    have e : vec F (w.set x.1 (-(x.2.getD f 0) % (p : Int))) = updV (vec F w) x.1 (-(vec F x.2 f)) := funext fun i => by
      rw [vec_set (h x List.mem_cons_self), cz_neg]
      rfl
    rw [e]
end
end K04
end

section
/-! K04Law: what the functions compute answers as the law asks. Plain Lean, no program. -/
set_option linter.all false
namespace K04
open Lean.Grind
def Pr4 (p : Nat) : Prop := p = 2 ∨ p = 3 ∨ p = 5 ∨ p = 7
theorem Pr4.pos {p : Nat} (h : Pr4 p) : 1 < p := by unfold Pr4 at h; omega
theorem invR_all : ∀ p ∈ [2, 3, 5, 7], ∀ a ∈ List.range p, a ≠ 0 → 0 ≤ invR p (a : Int) ∧ invR p (a : Int) < (p : Int) ∧ (a : Int) * invR p (a : Int) % (p : Int) = 1 := by decide
theorem invR_spec {p : Nat} (hp : Pr4 p) {a : Int} (h0 : 0 < a) (h1 : a < (p : Int)) : 0 ≤ invR p a ∧ invR p a < (p : Int) ∧ a * invR p a % (p : Int) = 1 := by
  have h := invR_all p (by unfold Pr4 at hp; simp; exact hp) a.toNat (List.mem_range.mpr (by omega)) (by omega)
  rwa [Int.toNat_of_nonneg (by omega)] at h
section
variable {p n : Nat} {F : Type} [CommRing F] [IsCharP F p]
theorem one_ne (hp : Pr4 p) : (1 : F) ≠ 0 := fun e => by
  rw [← cz_one, ← cz_zero] at e
  have := (cz_iff (F := F) (p := p)).mp e
  have h := hp.pos
  rw [Int.emod_eq_of_lt (by omega) (by omega), Int.zero_emod] at this
  omega
theorem cz_inv (hp : Pr4 p) {a : Int} (h : cz F a ≠ 0) : ∃ b : F, cz F a * b = 1 := by
  have e : cz F (a % (p : Int)) = cz F a := cast_mod a
  have hp0 := hp.pos
  have h0 : a % (p : Int) ≠ 0 := fun z => h (by rw [← e, z, cz_zero])
  have l0 := Int.emod_nonneg a (show (p : Int) ≠ 0 by omega)
  have l1 := Int.emod_lt_of_pos a (show (0 : Int) < p by omega)
  have hs := invR_spec hp (a := a % (p : Int)) (by omega) l1
  refine ⟨cz F (invR p (a % (p : Int))), ?_⟩
  rw [← e, ← cz_mul, ← cz_one]
  refine (cz_iff (F := F) (p := p)).mpr ?_
  rw [hs.2.2, Int.emod_eq_of_lt (by omega) (by omega)]

/-! ### the reduction -/
structure RedOk (F : Type) [CommRing F] (p n m : Nat) (rows : List RowI) (S : RS) : Prop where
  left : ∀ r ∈ S.1, Can p n r
  tab : ∀ x ∈ S.2, Can p n x.2
  inv : RInv m (S.1.map (vec F)) (tbV F S.2)
  span : ∀ v, Sp (S.1.map (vec F) ++ (tbV F S.2).rows) v ↔ Sp (rows.map (vec F)) v
theorem headsR_nil {left : List RowI} {c : Nat} (h : headsR left c = []) : ∀ r ∈ left, r.getD c 0 = 0 := fun r hr => by
  obtain ⟨k, hk, rfl⟩ := List.getElem_of_mem hr
  unfold headsR at h
  have := List.filter_eq_nil_iff.mp h k (List.mem_range.mpr hk)
  simp [List.getD_eq_getElem?_getD, hk] at this
  simpa [List.getD_eq_getElem?_getD] using this
theorem headsR_cons {left : List RowI} {c k : Nat} {ks : List Nat} (h : headsR left c = k :: ks) : ∃ hk : k < left.length, left.getD k [] = left[k] ∧ (left[k]).getD c 0 ≠ 0 := by
  have hm : k ∈ headsR left c := by rw [h]; exact List.mem_cons_self
  unfold headsR at hm
  obtain ⟨h1, h2⟩ := List.mem_filter.mp hm
  have hk := List.mem_range.mp h1
  have e : left.getD k [] = left[k] := by simp [List.getD_eq_getElem?_getD, hk]
  refine ⟨hk, e, ?_⟩
  rw [e] at h2
  simpa using h2
theorem mem_erase {α : Type} {l : List α} {k : Nat} (hk : k < l.length) (x : α) : x ∈ l ↔ x = l[k] ∨ x ∈ l.eraseIdx k := by
  have e : l = l.take k ++ l[k] :: l.drop (k + 1) := by
    rw [List.getElem_cons_drop]; exact (List.take_append_drop k l).symm
  rw [List.eraseIdx_eq_take_drop_succ]
  constructor
  · intro h
    rw [e] at h
    simp only [List.mem_append, List.mem_cons] at h ⊢
    rcases h with h | h | h
    · exact .inr (.inl h)
    · exact .inl h
    · exact .inr (.inr h)
  · rintro (h | h)
    · rw [h]; exact List.getElem_mem hk
    · rcases List.mem_append.mp h with h | h
      · exact List.mem_of_mem_take h
      · exact List.mem_of_mem_drop h
theorem red_step (hp : Pr4 p) {m : Nat} {rows : List RowI} {S : RS} (h : RedOk F p n m rows S) : RedOk F p n (m + 1) rows (redStep p S m) := by
  have hp0 : 0 < p := by have := hp.pos; omega
  unfold redStep
  cases hh : headsR S.1 m with
  | nil =>
    refine ⟨h.left, h.tab, rinv_skip h.inv fun r hr => ?_, h.span⟩
    obtain ⟨r, hr', rfl⟩ := List.mem_map.mp hr
    exact (vec_zero_iff hp0 (h.left r hr')).mpr (headsR_nil hh r hr')
  | cons k ks =>
    obtain ⟨hk, e0, hne⟩ := headsR_cons hh
    have cr := h.left _ (List.getElem_mem hk)
    have ca := cr.at hp0 m
    have hi := invR_spec hp (a := (S.1[k]).getD m 0) (by omega) ca.2
    have ehd : headR p S.1 m k = sclR p S.1[k] (invR p ((S.1[k]).getD m 0)) := by unfold headR; rw [e0]
    have chd : Can p n (headR p S.1 m k) := by rw [ehd]; exact can_scl hp0 _ cr
    have ev : ∀ j, vec F (headR p S.1 m k) j = vec F S.1[k] j * cz F (invR p ((S.1[k]).getD m 0)) := fun j => by rw [ehd, vec_scl]
    have e1 : cz F ((S.1[k]).getD m 0) * cz F (invR p ((S.1[k]).getD m 0)) = 1 := by
      rw [← cz_mul, ← cz_one]
      refine (cz_iff (F := F) (p := p)).mpr ?_
      rw [hi.2.2, Int.emod_eq_of_lt (by omega) (by have := hp.pos; omega)]
    have ml : ∀ r, r ∈ S.1.map (vec F) ↔ r = vec F S.1[k] ∨ r ∈ (S.1.eraseIdx k).map (vec F) := fun r => by
      simp only [List.mem_map]
      constructor
      · rintro ⟨x, hx, rfl⟩
        rcases (mem_erase hk x).mp hx with rfl | hx
        · exact .inl rfl
        · exact .inr ⟨x, hx, rfl⟩
      · rintro (rfl | ⟨x, hx, rfl⟩)
        · exact ⟨_, List.getElem_mem hk, rfl⟩
        · exact ⟨x, (mem_erase hk x).mpr (.inr hx), rfl⟩
    have eL : ((S.1.eraseIdx k).map (clrR p (headR p S.1 m k) m)).map (vec F) = ((S.1.eraseIdx k).map (vec F)).map (clrV m (vec F (headR p S.1 m k))) := by
      rw [List.map_map, List.map_map]
      refine List.map_congr_left fun r hr => funext fun j => ?_
      exact vec_clr (h.left r ((mem_erase hk r).mpr (.inr hr))).1 chd.1 j
    have eT : tbV F (S.2.map (fun x => (x.1, clrR p (headR p S.1 m k) m x.2)) ++ [(m, headR p S.1 m k)]) = (tbV F S.2).map (fun x => (x.1, clrV m (vec F (headR p S.1 m k)) x.2)) ++ [(m, vec F (headR p S.1 m k))] := by
      unfold tbV
      rw [List.map_append, List.map_map, List.map_map]
      refine congrArg (· ++ _) (List.map_congr_left fun x hx => ?_)
      refine Prod.ext rfl (funext fun j => ?_)
      exact vec_clr (h.tab x hx).1 chd.1 j
    refine ⟨fun r hr => ?_, fun x hx => ?_, ?_, fun v => ?_⟩
    · obtain ⟨q, hq, rfl⟩ := List.mem_map.mp hr
      exact can_clr hp0 (h.left q ((mem_erase hk q).mpr (.inr hq))) chd
    · rcases List.mem_append.mp hx with hx | hx
      · obtain ⟨q, hq, rfl⟩ := List.mem_map.mp hx
        exact can_clr hp0 (h.tab q hq) chd
      · rw [List.mem_singleton.mp hx]; exact chd
    · show RInv (m + 1) _ _
      rw [eL, eT]
      refine rinv_step h.inv (fun r hr => (ml r).mpr (.inr hr)) (fun j hj => ?_) ?_
      · rw [ev j, h.inv.1 _ ((ml _).mpr (.inl rfl)) j hj]; grind
      · rw [ev m]; exact e1
    · show Sp (_ ++ Tb.rows (tbV F _)) v ↔ _
      rw [eL, eT]
      refine (step_span (a := cz F (invR p ((S.1[k]).getD m 0))) (b := cz F ((S.1[k]).getD m 0)) ml ev (fun j => ?_) v).trans (h.span v)
      rw [ev j]; grind
theorem red_to (hp : Pr4 p) {rows : List RowI} (hr : ∀ r ∈ rows, Can p n r) : ∀ m, RedOk F p n m rows (redTo p rows m)
  | 0 => ⟨hr, fun x hx => (by cases hx), ⟨fun r hr j hj => by omega, ⟨List.Pairwise.nil, fun x hx => (by cases hx)⟩, fun x hx => (by cases hx)⟩, fun v => by
      show Sp (rows.map (vec F) ++ []) v ↔ _
      rw [List.append_nil]⟩
  | m + 1 => by
    have e : redTo p rows (m + 1) = redStep p (redTo p rows m) m := by
      unfold redTo
      rw [List.range_succ, List.foldl_append]; rfl
    rw [e]
    exact red_step hp (red_to hp hr m)
/-- what the reduced table is -/
structure TabOk (F : Type) [CommRing F] (p n : Nat) (rows : List RowI) (L : List (Nat × RowI)) : Prop where
  can : ∀ x ∈ L, Can p n x.2
  inf : InF (tbV F L)
  lt : ∀ x ∈ L, x.1 < n
  span : ∀ v, Sp (tbV F L).rows v ↔ Sp (rows.map (vec F)) v
theorem tab_ok (hp : Pr4 p) {rows : List RowI} (hr : ∀ r ∈ rows, Can p n r) : TabOk F p n rows (tabR p n rows) := by
  have h := red_to (F := F) hp hr n
  refine ⟨h.tab, h.inv.2.1, fun x hx => h.inv.2.2 (x.1, vec F x.2) (List.mem_map.mpr ⟨x, hx, rfl⟩), fun v => ?_⟩
  refine (rinv_end h.inv (fun r hr j hj => ?_) v).symm.trans (h.span v)
  obtain ⟨q, hq, rfl⟩ := List.mem_map.mp hr
  exact vec_supp (h.left q hq).1 j hj
theorem TabOk.ltV {rows : List RowI} {L : List (Nat × RowI)} (h : TabOk F p n rows L) : ∀ x ∈ tbV F L, x.1 < n := fun x hx => by
  obtain ⟨y, hy, rfl⟩ := List.mem_map.mp hx
  exact h.lt y hy
theorem TabOk.supp {rows : List RowI} {L : List (Nat × RowI)} (h : TabOk F p n rows L) : ∀ x ∈ tbV F L, Supp n x.2 := fun x hx => by
  obtain ⟨y, hy, rfl⟩ := List.mem_map.mp hx
  exact vec_supp (h.can y hy).1
theorem TabOk.rows_can {rows : List RowI} {L : List (Nat × RowI)} (h : TabOk F p n rows L) : ∀ r ∈ L.map (·.2), Can p n r := fun r hr => by
  obtain ⟨y, hy, rfl⟩ := List.mem_map.mp hr
  exact h.can y hy
/-- two tables of one set are one -/
theorem TabOk.unique (hp : Pr4 p) {rows rows' : List RowI} {L M : List (Nat × RowI)} (h : TabOk F p n rows L) (h' : TabOk F p n rows' M) (e : ∀ v, Sp (rows.map (vec F)) v ↔ Sp (rows'.map (vec F)) v) : L = M := by
  have hp0 : 0 < p := by have := hp.pos; omega
  have eV : tbV F L = tbV F M := inF_unique h.inf h'.inf (fun v => (h.span v).trans ((e v).trans (h'.span v).symm)) (one_ne hp)
  have len : L.length = M.length := by
    have := congrArg List.length eV
    unfold tbV at this
    simpa using this
  refine List.ext_getElem len fun i h1 h2 => ?_
  have ei : (tbV F L)[i]'(by unfold tbV; simpa using h1) = (tbV F M)[i]'(by unfold tbV; simpa using h2) := by simp only [eV]
  unfold tbV at ei
  rw [List.getElem_map, List.getElem_map] at ei
  obtain ⟨ei1, ei2⟩ := Prod.mk.inj ei
  exact Prod.ext ei1 (vec_inj hp0 (h.can _ (List.getElem_mem h1)) (h'.can _ (List.getElem_mem h2)) fun j => congrFun ei2 j)

/-! ### the rows of the free places -/
theorem free_eq (L : List (Nat × RowI)) : freeR L n = freeOf (tbV F L) n := by
  unfold freeR freeOf
  rw [tbV_places]
theorem ker_vec {rows : List RowI} {L : List (Nat × RowI)} (h : TabOk F p n rows L) : (kerRows p n L).map (vec F) = (kerV (tbV F L) n).rows := by
  unfold kerRows kerV Tb.rows
  rw [List.map_map, List.map_map, ← free_eq]
  refine List.map_congr_left fun f hf => funext fun j => ?_
  have hf' : f < n := by
    unfold freeR at hf
    exact List.mem_range.mp (List.mem_filter.mp hf).1
  show vec F (kvR p L f (eR n f)) j = kvV (tbV F L) f (eV f) j
  rw [vec_kv (fun x hx => by unfold eR; rw [List.length_map, List.length_range]; exact h.lt x hx) j]
  have e : vec F (eR n f) = eV f := funext (vec_e hf')
  rw [e]
theorem ker_can (hp : Pr4 p) {L : List (Nat × RowI)} : ∀ r ∈ kerRows p n L, Can p n r := fun r hr => by
  unfold kerRows at hr
  obtain ⟨f, _, rfl⟩ := List.mem_map.mp hr
  exact can_kv (by have := hp.pos; omega) (can_e hp.pos)
theorem spanR_can (F : Type) [CommRing F] [IsCharP F p] (hp : Pr4 p) {rows : List RowI} (hr : ∀ r ∈ rows, Can p n r) : ∀ r ∈ spanR p n rows, Can p n r := (tab_ok (F := F) hp hr).rows_can
theorem kernelR_can (F : Type) [CommRing F] [IsCharP F p] (hp : Pr4 p) {rows : List RowI} : ∀ r ∈ kernelR p n rows, Can p n r := spanR_can F hp (ker_can hp)
theorem span_sp (hp : Pr4 p) {rows : List RowI} (hr : ∀ r ∈ rows, Can p n r) (v : Nat → F) : Sp ((spanR p n rows).map (vec F)) v ↔ Sp (rows.map (vec F)) v := by
  unfold spanR
  rw [← tbV_rows]
  exact (tab_ok hp hr).span v
theorem perp_iff {T U : List (Nat → F)} (h : ∀ v, Sp T v ↔ Sp U v) (u : Nat → F) : (∀ r ∈ T, dot u r n = 0) ↔ ∀ r ∈ U, dot u r n = 0 :=
  ⟨fun q r hr => dot_sp q ((h r).mpr (sp_mem hr)), fun q r hr => dot_sp q ((h r).mp (sp_mem hr))⟩
/-- kernel: all rows whose products with the rows are 0 -/
theorem kernel_sp (hp : Pr4 p) {rows : List RowI} (hr : ∀ r ∈ rows, Can p n r) {v : Nat → F} (hv : Supp n v) : Sp ((kernelR p n rows).map (vec F)) v ↔ ∀ r ∈ rows.map (vec F), dot v r n = 0 := by
  have t := tab_ok (F := F) hp hr
  unfold kernelR
  rw [span_sp hp (ker_can hp), ker_vec t, ker_iff t.inf t.ltV hv]
  refine Iff.trans ?_ (perp_iff t.span v)
  exact ⟨fun q r hr => by
    obtain ⟨x, hx, rfl⟩ := List.mem_map.mp hr
    exact q x hx, fun q x hx => q _ (List.mem_map.mpr ⟨x, hx, rfl⟩)⟩
/-- .. and back -/
theorem kernel_back (hp : Pr4 p) {rows : List RowI} (hr : ∀ r ∈ rows, Can p n r) {v : Nat → F} (hv : Supp n v) : (∀ r ∈ (kernelR p n rows).map (vec F), dot v r n = 0) ↔ Sp (rows.map (vec F)) v := by
  have t := tab_ok (F := F) hp hr
  refine Iff.trans (perp_iff (U := (kerV (tbV F (tabR p n rows)) n).rows) (fun u => ?_) v) (Iff.trans ?_ ((ker_ker t.inf t.ltV t.supp hv).trans (t.span v)))
  · unfold kernelR
    rw [span_sp hp (ker_can hp), ker_vec t]
  · exact ⟨fun q x hx => q _ (List.mem_map.mpr ⟨x, hx, rfl⟩), fun q r hr => by
      obtain ⟨x, hx, rfl⟩ := List.mem_map.mp hr
      exact q x hx⟩
theorem common_sp (hp : Pr4 p) {a b : List RowI} (ha : ∀ r ∈ a, Can p n r) (hb : ∀ r ∈ b, Can p n r) {v : Nat → F} (hv : Supp n v) : Sp ((commonR p n a b).map (vec F)) v ↔ Sp (a.map (vec F)) v ∧ Sp (b.map (vec F)) v := by
  unfold commonR
  rw [kernel_sp hp (fun r hr => (List.mem_append.mp hr).elim (kernelR_can F hp r) (kernelR_can F hp r)) hv, ← kernel_back hp ha hv, ← kernel_back hp hb hv, List.map_append]
  exact ⟨fun q => ⟨fun r hr => q r (List.mem_append_left _ hr), fun r hr => q r (List.mem_append_right _ hr)⟩, fun q r hr => (List.mem_append.mp hr).elim (q.1 r) (q.2 r)⟩

/-! ### all rows of a set -/
def InS (F : Type) [CommRing F] (T : List RowI) (r : RowI) : Prop := Sp (T.map (vec F)) (vec F r)
/-- a list of all the rows of a set, each once -/
structure Full (F : Type) [CommRing F] (p n : Nat) (T : List RowI) (l : List RowI) : Prop where
  nd : l.Nodup
  mem : ∀ r, r ∈ l ↔ Can p n r ∧ InS F T r
theorem full_zero (hp : Pr4 p) : Full F p n [] [zeroR n] := by
  have hp0 : 0 < p := by have := hp.pos; omega
  refine ⟨by simp, fun r => ?_⟩
  rw [List.mem_singleton]
  constructor
  · rintro rfl
    exact ⟨can_zero hp0, fun j => vec_zero j⟩
  · rintro ⟨h1, h2⟩
    exact vec_inj (F := F) hp0 h1 (can_zero hp0) fun j => (h2 j).trans (vec_zero j).symm
theorem grow_inj (hp : Pr4 p) {T : List RowI} {row w w' : RowI} {a a' : Nat} (hr : Can p n row) (hw : Can p n w) (hw' : Can p n w') (hs : InS F T w) (hs' : InS F T w') (hn : ¬ InS F T row) (ha : a < p) (ha' : a' < p)
    (e : addR p w (sclR p row (a : Int)) = addR p w' (sclR p row (a' : Int))) : a = a' ∧ w = w' := by
  have hp0 : 0 < p := by have := hp.pos; omega
  have ev : ∀ j, vec F w j + vec F row j * cz F (a : Int) = vec F w' j + vec F row j * cz F (a' : Int) := fun j => by
    have := congrArg (fun r => vec F r j) e
    simp only [vec_add hw.1 (can_scl hp0 _ hr).1, vec_add hw'.1 (can_scl hp0 _ hr).1, vec_scl] at this
    exact this
  by_cases ea : a = a'
  · subst ea
    exact ⟨rfl, vec_inj (F := F) hp0 hw hw' fun j => by have := ev j; grind⟩
  · have hd : cz F ((a : Int) - (a' : Int)) ≠ 0 := fun z => by
      rw [← cz_zero] at z
      have h := (cz_iff (F := F) (p := p)).mp z
      rw [Int.zero_emod] at h
      have hdv := Int.dvd_of_emod_eq_zero h
      obtain ⟨k, hk⟩ := hdv
      have : k = 0 := by
        rcases Int.lt_trichotomy k 0 with h | h | h
        · have : (p : Int) * k ≤ (p : Int) * (-1) := Int.mul_le_mul_of_nonneg_left (by omega) (by omega)
          omega
        · exact h
        · have : (p : Int) * 1 ≤ (p : Int) * k := Int.mul_le_mul_of_nonneg_left (by omega) (by omega)
          omega
      rw [this] at hk
      omega
    obtain ⟨b, hb⟩ := cz_inv hp hd
    rw [cz_sub] at hb
    exfalso
    apply hn
    unfold InS
    refine sp_congr (fun j => ?_) (sp_smul b (sp_sub hs' hs))
    have := ev j
    grind
theorem full_grow (hp : Pr4 p) (hsurj : ∀ a : F, ∃ k : Nat, k < p ∧ a = cz F (k : Int)) {T found : List RowI} {row : RowI} (h : Full F p n T found) (hr : Can p n row) (hn : ¬ InS F T row) : Full F p n (T ++ [row]) (growR p found row) := by
  have hp0 : 0 < p := by have := hp.pos; omega
  have hsn : ∀ r, InS F (T ++ [row]) r ↔ ∃ a : F, Sp (T.map (vec F)) (fun j => vec F r j - a * vec F row j) := fun r => by
    unfold InS
    rw [List.map_append]
    exact sp_snoc
  refine ⟨?_, fun r => ?_⟩
  · unfold growR
    refine List.pairwise_flatMap.mpr ⟨fun w hw => List.pairwise_map.mpr ?_, List.Pairwise.imp_of_mem (fun {w w'} hw hw' hne x hx y hy e => ?_) h.nd⟩
    · refine List.Pairwise.imp_of_mem (fun {a a'} ha ha' hlt e => ?_) List.pairwise_lt_range
      have hw' := (h.mem w).mp hw
      have := (grow_inj hp hr hw'.1 hw'.1 hw'.2 hw'.2 hn (List.mem_range.mp ha) (List.mem_range.mp ha') e).1
      omega
    · obtain ⟨a, ha, rfl⟩ := List.mem_map.mp hx
      obtain ⟨a', ha', rfl⟩ := List.mem_map.mp hy
      have q := (h.mem w).mp hw
      have q' := (h.mem w').mp hw'
      exact hne (grow_inj hp hr q.1 q'.1 q.2 q'.2 hn (List.mem_range.mp ha) (List.mem_range.mp ha') e).2
  · unfold growR
    rw [List.mem_flatMap]
    constructor
    · rintro ⟨w, hw, hx⟩
      obtain ⟨a, ha, rfl⟩ := List.mem_map.mp hx
      have q := (h.mem w).mp hw
      have cs := can_scl hp0 (a : Int) hr
      refine ⟨can_add hp0 q.1 cs, (hsn _).mpr ⟨cz F (a : Int), sp_congr (fun j => ?_) q.2⟩⟩
      rw [vec_add q.1.1 cs.1, vec_scl]; grind
    · rintro ⟨hc, hs⟩
      obtain ⟨a, ha⟩ := (hsn r).mp hs
      obtain ⟨k, hk, rfl⟩ := hsurj a
      have cs := can_scl hp0 (-(k : Int)) hr
      have cw := can_add hp0 hc cs
      have ew : ∀ j, vec F (addR p r (sclR p row (-(k : Int)))) j = vec F r j - cz F (k : Int) * vec F row j := fun j => by
        rw [vec_add hc.1 cs.1, vec_scl, cz_neg]; grind
      refine ⟨_, (h.mem _).mpr ⟨cw, sp_congr (fun j => (ew j).symm) ha⟩, List.mem_map.mpr ⟨k, List.mem_range.mpr hk, ?_⟩⟩
      have ck := can_scl hp0 (k : Int) hr
      refine vec_inj (F := F) hp0 (can_add hp0 cw ck) hc fun j => ?_
      rw [vec_add cw.1 ck.1, ew j, vec_scl]; grind
theorem full_same {T : List RowI} {found : List RowI} {row : RowI} (h : Full F p n T found) (hn : InS F T row) : Full F p n (T ++ [row]) found := by
  refine ⟨h.nd, fun r => (h.mem r).trans (and_congr_right fun _ => ?_)⟩
  unfold InS
  refine sp_eqv (fun x hx => sp_mem (by rw [List.map_append]; exact List.mem_append_left _ hx)) (fun x hx => ?_) _
  rw [List.map_append] at hx
  rcases List.mem_append.mp hx with hx | hx
  · exact sp_mem hx
  · rw [List.mem_singleton.mp hx]; exact hn
theorem law_full (hp : Pr4 p) (hsurj : ∀ a : F, ∃ k : Nat, k < p ∧ a = cz F (k : Int)) : ∀ {rows T found : List RowI}, Full F p n T found → (∀ r ∈ rows, Can p n r) → Full F p n (T ++ rows) (rows.foldl (lawStep p) found)
  | [], T, found, h, _ => by rw [List.append_nil]; exact h
  | row :: rows, T, found, h, hr => by
    have hs : Full F p n (T ++ [row]) (lawStep p found row) := by
      unfold lawStep
      split
      · rename_i hm
        exact full_same h ((h.mem row).mp hm).2
      · rename_i hm
        exact full_grow hp hsurj h (hr row List.mem_cons_self) fun z => hm ((h.mem row).mpr ⟨hr row List.mem_cons_self, z⟩)
    have := law_full hp hsurj hs fun r hr' => hr r (List.mem_cons_of_mem _ hr')
    rw [List.append_assoc] at this
    exact this
/-- the rows of a table in form: each step makes p times as many -/
theorem grow_len {found : List RowI} {row : RowI} : (growR p found row).length = found.length * p := by
  unfold growR
  induction found with
  | nil => simp
  | cons w l ih => rw [List.flatMap_cons, List.length_append, List.length_map, List.length_range, ih, List.length_cons, Nat.succ_mul, Nat.add_comm]
theorem mem_full (hp : Pr4 p) (hsurj : ∀ a : F, ∃ k : Nat, k < p ∧ a = cz F (k : Int)) : ∀ {M L : List (Nat × RowI)} {found : List RowI}, InF (tbV F (L ++ M)) → (∀ x ∈ L ++ M, Can p n x.2) → Full F p n (L.map (·.2)) found →
    Full F p n ((L ++ M).map (·.2)) ((M.map (·.2)).foldl (growR p) found) ∧ ((M.map (·.2)).foldl (growR p) found).length = found.length * p ^ M.length
  | [], L, found, _, _, h => by
    rw [List.append_nil]
    exact ⟨h, by simp⟩
  | x :: M, L, found, hi, hc, h => by
    have hn : ¬ InS F (L.map (·.2)) x.2 := fun z => by
      have z' : Sp ((L.map (·.2)).map (vec F)) (vec F x.2) := z
      have e0 : vec F x.2 x.1 = 0 := sp_zero_at (fun r hr => by
        obtain ⟨q, hq, rfl⟩ := List.mem_map.mp hr
        obtain ⟨y, hy, rfl⟩ := List.mem_map.mp hq
        have hp' := hi.1
        unfold tbV at hp'
        rw [List.map_append, List.map_cons] at hp'
        exact ((List.pairwise_append.mp hp').2.2 _ (List.mem_map.mpr ⟨y, hy, rfl⟩) _ List.mem_cons_self).2) z'
      have e1 : vec F x.2 x.1 = 1 := (hi.2 (x.1, vec F x.2) (List.mem_map.mpr ⟨x, List.mem_append_right _ List.mem_cons_self, rfl⟩)).1
      rw [e0] at e1
      exact one_ne (F := F) hp e1.symm
    have hg := full_grow hp hsurj h (hc x (List.mem_append_right _ List.mem_cons_self)) hn
    have eL : L ++ x :: M = (L ++ [x]) ++ M := by rw [List.append_assoc]; rfl
    have eR : L.map (·.2) ++ [x.2] = (L ++ [x]).map (·.2) := by rw [List.map_append]; rfl
    rw [eR] at hg
    rw [eL] at hi hc ⊢
    obtain ⟨h1, h2⟩ := mem_full hp hsurj (M := M) hi hc hg
    refine ⟨h1, ?_⟩
    rw [List.map_cons, List.foldl_cons, h2, grow_len, List.length_cons, Nat.pow_succ, Nat.mul_assoc, Nat.mul_comm p]
theorem memR_full (hp : Pr4 p) (hsurj : ∀ a : F, ∃ k : Nat, k < p ∧ a = cz F (k : Int)) {rows : List RowI} (hr : ∀ r ∈ rows, Can p n r) :
    Full F p n rows (memR p n (spanR p n rows)) ∧ (memR p n (spanR p n rows)).length = p ^ (spanR p n rows).length := by
  have t := tab_ok (F := F) hp hr
  obtain ⟨h1, h2⟩ := mem_full (L := []) (M := tabR p n rows) hp hsurj t.inf t.can (full_zero hp)
  refine ⟨⟨h1.nd, fun r => (h1.mem r).trans (and_congr_right fun _ => ?_)⟩, ?_⟩
  · show Sp (((tabR p n rows).map (·.2)).map (vec F)) _ ↔ _
    rw [← tbV_rows]
    exact t.span _
  · show (((tabR p n rows).map (·.2)).foldl (growR p) [zeroR n]).length = p ^ ((tabR p n rows).map (·.2)).length
    rw [h2, List.length_map]
    simp
theorem lawR_full (hp : Pr4 p) (hsurj : ∀ a : F, ∃ k : Nat, k < p ∧ a = cz F (k : Int)) {rows : List RowI} (hr : ∀ r ∈ rows, Can p n r) : Full F p n rows (lawR p n rows) :=
  law_full (T := []) hp hsurj (full_zero hp) hr
theorem Full.perm {T U l m : List RowI} (h : Full F p n T l) (h' : Full F p n U m) (e : ∀ r, Can p n r → (InS F T r ↔ InS F U r)) : l.Perm m :=
  (List.perm_ext_iff_of_nodup h.nd h'.nd).mpr fun r => (h.mem r).trans ((and_congr_right fun hc => e r hc).trans (h'.mem r).symm)

/-! ### the dimensions -/
def prod2 (l m : List RowI) : List (RowI × RowI) := l.flatMap fun x => m.map fun y => (x, y)
theorem mem_prod2 {l m : List RowI} {x y : RowI} : (x, y) ∈ prod2 l m ↔ x ∈ l ∧ y ∈ m := by
  unfold prod2
  rw [List.mem_flatMap]
  constructor
  · rintro ⟨a, ha, h⟩
    obtain ⟨b, hb, e⟩ := List.mem_map.mp h
    cases e
    exact ⟨ha, hb⟩
  · rintro ⟨h1, h2⟩
    exact ⟨x, h1, List.mem_map.mpr ⟨y, h2, rfl⟩⟩
theorem nd_prod2 {l m : List RowI} (hl : l.Nodup) (hm : m.Nodup) : (prod2 l m).Nodup := by
  unfold prod2
  refine List.pairwise_flatMap.mpr ⟨fun x _ => List.pairwise_map.mpr (hm.imp fun h e => h (Prod.mk.inj e).2), hl.imp fun h a ha b hb e => ?_⟩
  obtain ⟨y, _, rfl⟩ := List.mem_map.mp ha
  obtain ⟨z, _, rfl⟩ := List.mem_map.mp hb
  exact h (Prod.mk.inj e).1
theorem len_prod2 {l m : List RowI} : (prod2 l m).length = l.length * m.length := by
  unfold prod2
  induction l with
  | nil => simp
  | cons x l ih => rw [List.flatMap_cons, List.length_append, List.length_map, ih, List.length_cons, Nat.succ_mul, Nat.add_comm]
theorem dims (hp : Pr4 p) {A B W P la lb lw lp : List RowI} (ha : Full F p n A la) (hb : Full F p n B lb) (hw : Full F p n W lw) (hq : Full F p n P lp) (eW : ∀ v : Nat → F, Sp (W.map (vec F)) v ↔ Sp ((A ++ B).map (vec F)) v)
    (hA : ∀ r ∈ A, Can p n r) (hB : ∀ r ∈ B, Can p n r) (hsurj : ∀ a : F, ∃ k : Nat, k < p ∧ a = cz F (k : Int))
    (eP : ∀ r, Can p n r → (InS F P r ↔ InS F A r ∧ InS F B r)) (hlift : ∀ v : Nat → F, Supp n v → ∃ r, Can p n r ∧ ∀ j, vec F r j = v j) : lw.length * lp.length = la.length * lb.length := by
  have hp0 : 0 < p := by have := hp.pos; omega
  have split : ∀ w, w ∈ lw → ∃ xy : RowI × RowI, xy.1 ∈ la ∧ xy.2 ∈ lb ∧ ∀ j, vec F w j = vec F xy.1 j + vec F xy.2 j := fun w hw' => by
    have h := (eW _).mp ((hw.mem w).mp hw').2
    rw [List.map_append] at h
    obtain ⟨x, y, hx, hy, e⟩ := sp_append.mp h
    obtain ⟨rx, cx, ex⟩ := hlift x (sp_supp (fun r hr => by
      obtain ⟨q, hq, rfl⟩ := List.mem_map.mp hr
      exact vec_supp (hA q hq).1) hx)
    obtain ⟨ry, cy, ey⟩ := hlift y (sp_supp (fun r hr => by
      obtain ⟨q, hq, rfl⟩ := List.mem_map.mp hr
      exact vec_supp (hB q hq).1) hy)
    refine ⟨(rx, ry), (ha.mem rx).mpr ⟨cx, sp_congr (fun j => (ex j).symm) hx⟩, (hb.mem ry).mpr ⟨cy, sp_congr (fun j => (ey j).symm) hy⟩, fun j => ?_⟩
    rw [e j, ex j, ey j]
  let cho : RowI → RowI × RowI := fun w => open Classical in if h : w ∈ lw then Classical.choose (split w h) else ([], [])
  have hcho : ∀ w, w ∈ lw → (cho w).1 ∈ la ∧ (cho w).2 ∈ lb ∧ ∀ j, vec F w j = vec F (cho w).1 j + vec F (cho w).2 j := fun w h => by
    have e : cho w = Classical.choose (split w h) := dif_pos h
    rw [e]
    exact Classical.choose_spec (split w h)
  let f : RowI × RowI → RowI × RowI := fun z => (addR p (cho z.1).1 z.2, addR p (cho z.1).2 (sclR p z.2 (-1)))
  have hm : ∀ w d, w ∈ lw → d ∈ lp → (∀ j, vec F (f (w, d)).1 j = vec F (cho w).1 j + vec F d j) ∧ (∀ j, vec F (f (w, d)).2 j = vec F (cho w).2 j - vec F d j) ∧ (f (w, d)).1 ∈ la ∧ (f (w, d)).2 ∈ lb := fun w d hw' hd => by
    obtain ⟨h1, h2, _⟩ := hcho w hw'
    have q1 := (ha.mem _).mp h1
    have q2 := (hb.mem _).mp h2
    have qd := (hq.mem d).mp hd
    have qd' := (eP d qd.1).mp qd.2
    have cs := can_scl hp0 (-1) qd.1
    have e1 : ∀ j, vec F (f (w, d)).1 j = vec F (cho w).1 j + vec F d j := fun j => vec_add q1.1.1 qd.1.1 j
    have e2 : ∀ j, vec F (f (w, d)).2 j = vec F (cho w).2 j - vec F d j := fun j => by
      show vec F (addR p (cho w).2 (sclR p d (-1))) j = _
      rw [vec_add q2.1.1 cs.1, vec_scl, cz_neg, cz_one]; grind
    refine ⟨e1, e2, (ha.mem _).mpr ⟨can_add hp0 q1.1 qd.1, sp_congr (fun j => (e1 j).symm) (sp_add q1.2 qd'.1)⟩, (hb.mem _).mpr ⟨can_add hp0 q2.1 cs, sp_congr (fun j => (e2 j).symm) (sp_sub q2.2 qd'.2)⟩⟩
  have hnd : ((prod2 lw lp).map f).Nodup := by
    refine List.pairwise_map.mpr (List.Pairwise.imp_of_mem (fun {z z'} hz hz' hne e => hne ?_) (nd_prod2 hw.nd hq.nd))
    obtain ⟨w, d⟩ := z
    obtain ⟨w', d'⟩ := z'
    obtain ⟨hw1, hd1⟩ := mem_prod2.mp hz
    obtain ⟨hw2, hd2⟩ := mem_prod2.mp hz'
    obtain ⟨a1, a2, _, _⟩ := hm w d hw1 hd1
    obtain ⟨b1, b2, _, _⟩ := hm w' d' hw2 hd2
    have c1 := (hcho w hw1).2.2
    have c2 := (hcho w' hw2).2.2
    obtain ⟨e1, e2⟩ := Prod.mk.inj (show ((f (w, d)).1, (f (w, d)).2) = ((f (w', d')).1, (f (w', d')).2) from e)
    have ew : w = w' := vec_inj (F := F) hp0 ((hw.mem w).mp hw1).1 ((hw.mem w').mp hw2).1 fun j => by
      have x1 := a1 j; have x2 := a2 j; have y1 := b1 j; have y2 := b2 j
      rw [e1] at x1
      rw [e2] at x2
      rw [c1 j, c2 j]
      grind
    subst ew
    have ed : d = d' := vec_inj (F := F) hp0 ((hq.mem d).mp hd1).1 ((hq.mem d').mp hd2).1 fun j => by
      have x1 := a1 j; have y1 := b1 j
      rw [e1] at x1
      grind
    rw [ed]
  have hperm : ((prod2 lw lp).map f).Perm (prod2 la lb) := by
    refine (List.perm_ext_iff_of_nodup hnd (nd_prod2 ha.nd hb.nd)).mpr fun z => ⟨fun hz => ?_, fun hz => ?_⟩
    · obtain ⟨⟨w, d⟩, hwd, rfl⟩ := List.mem_map.mp hz
      obtain ⟨hw1, hd1⟩ := mem_prod2.mp hwd
      obtain ⟨_, _, h3, h4⟩ := hm w d hw1 hd1
      exact mem_prod2.mpr ⟨h3, h4⟩
    · obtain ⟨x, y⟩ := z
      obtain ⟨hx, hy⟩ := mem_prod2.mp hz
      have qx := (ha.mem x).mp hx
      have qy := (hb.mem y).mp hy
      have cw := can_add hp0 qx.1 qy.1
      have ew : ∀ j, vec F (addR p x y) j = vec F x j + vec F y j := vec_add qx.1.1 qy.1.1
      have hwm : addR p x y ∈ lw := (hw.mem _).mpr ⟨cw, (eW _).mpr (by rw [List.map_append]; exact sp_append.mpr ⟨_, _, qx.2, qy.2, ew⟩)⟩
      obtain ⟨h1, h2, h3⟩ := hcho _ hwm
      have q1 := (ha.mem _).mp h1
      have q2 := (hb.mem _).mp h2
      have cs := can_scl hp0 (-1) q1.1
      have cd := can_add hp0 qx.1 cs
      have ed : ∀ j, vec F (addR p x (sclR p (cho (addR p x y)).1 (-1))) j = vec F x j - vec F (cho (addR p x y)).1 j := fun j => by
        rw [vec_add qx.1.1 cs.1, vec_scl, cz_neg, cz_one]; grind
      have hdm : addR p x (sclR p (cho (addR p x y)).1 (-1)) ∈ lp := (hq.mem _).mpr ⟨cd, (eP _ cd).mpr ⟨sp_congr (fun j => (ed j).symm) (sp_sub qx.2 q1.2), sp_congr (fun j => by
        have := h3 j
        rw [ew j] at this
        rw [ed j]; grind) (sp_sub q2.2 qy.2)⟩⟩
      obtain ⟨m1, m2, m3, m4⟩ := hm _ _ hwm hdm
      refine List.mem_map.mpr ⟨(_, _), mem_prod2.mpr ⟨hwm, hdm⟩, Prod.ext ?_ ?_⟩
      · refine vec_inj (F := F) hp0 ((ha.mem _).mp m3).1 qx.1 fun j => ?_
        rw [m1 j, ed j]; grind
      · refine vec_inj (F := F) hp0 ((hb.mem _).mp m4).1 qy.1 fun j => ?_
        have := h3 j
        rw [ew j] at this
        rw [m2 j, ed j]; grind
  have hlen := hperm.length_eq
  rw [List.length_map, len_prod2, len_prod2] at hlen
  exact hlen
end
/-! ### the law's facts -/
/-- a table in form, on the rows themselves -/
structure FormR (p n : Nat) (L : List (Nat × RowI)) : Prop where
  can : ∀ x ∈ L, Can p n x.2
  lt : ∀ x ∈ L, x.1 < n
  inc : L.Pairwise fun x y => x.1 < y.1
  one : ∀ x ∈ L, x.2.getD x.1 0 = 1
  low : ∀ x ∈ L, ∀ j, j < x.1 → x.2.getD j 0 = 0
  oth : ∀ x ∈ L, ∀ y ∈ L, x.1 ≠ y.1 → x.2.getD y.1 0 = 0
theorem formR (hp : Pr4 p) {rows : List RowI} {L : List (Nat × RowI)} {F : Type} [CommRing F] [IsCharP F p] (t : TabOk F p n rows L) : FormR p n L := by
  have hp0 : 0 < p := by have := hp.pos; omega
  have mt : ∀ x ∈ L, (x.1, vec F x.2) ∈ tbV F L := fun x hx => List.mem_map.mpr ⟨x, hx, rfl⟩
  refine ⟨t.can, t.lt, ?_, fun x hx => ?_, fun x hx j hj => (vec_zero_iff hp0 (t.can x hx)).mp ((t.inf.2 _ (mt x hx)).2 j hj), fun x hx y hy hne => (vec_zero_iff hp0 (t.can x hx)).mp (t.inf.zero (mt x hx) (mt y hy) hne)⟩
  · have h := t.inf.1
    unfold tbV at h
    exact (List.pairwise_map.mp h).imp fun r => r.1
  · have e : cz F (x.2.getD x.1 0) = cz F 1 := ((t.inf.2 _ (mt x hx)).1).trans cz_one.symm
    have e2 := (cz_iff (F := F) (p := p)).mp e
    have a := (t.can x hx).at hp0 x.1
    rwa [Int.emod_eq_of_lt a.1 a.2, Int.emod_eq_of_lt (by omega) (by have := hp.pos; omega)] at e2
/-- all that the law asks -/
structure LawOk (p n : Nat) (first second : List RowI) : Prop where
  fw : ∃ L, FormR p n L ∧ L.map (·.2) = spanR p n (spanR p n first ++ spanR p n second)
  fp : ∃ L, FormR p n L ∧ L.map (·.2) = commonR p n (spanR p n first) (spanR p n second)
  wide : (lawR p n (spanR p n (spanR p n first ++ spanR p n second))).Perm (lawR p n (first ++ second))
  part : ∀ one two : List RowI, one.Perm (lawR p n first) → two.Perm (lawR p n second) → (lawR p n (commonR p n (spanR p n first) (spanR p n second))).Perm (one.filter fun v => decide (v ∈ two))
  dim : (spanR p n (spanR p n first ++ spanR p n second)).length + (commonR p n (spanR p n first) (spanR p n second)).length = (spanR p n first).length + (spanR p n second).length
  wcomm : spanR p n (spanR p n second ++ spanR p n first) = spanR p n (spanR p n first ++ spanR p n second)
  pcomm : commonR p n (spanR p n second) (spanR p n first) = commonR p n (spanR p n first) (spanR p n second)
  memA : (memR p n (spanR p n first)).Perm (lawR p n first)
  memB : (memR p n (spanR p n second)).Perm (lawR p n second)
theorem fin_cz {p : Nat} [NeZero p] (a : Fin p) : cz (Fin p) (a.val : Int) = a := by
  have e : cz (Fin p) (a.val : Int) = Fin.ofNat p a.val := Ring.intCast_natCast (α := Fin p) a.val
  rw [e]
  exact Fin.ext (Nat.mod_eq_of_lt a.isLt)
theorem fin_surj {p : Nat} [NeZero p] (a : Fin p) : ∃ k : Nat, k < p ∧ a = cz (Fin p) (k : Int) := ⟨a.val, a.isLt, (fin_cz a).symm⟩
theorem fin_lift {p n : Nat} [NeZero p] (v : Nat → Fin p) (hv : Supp n v) : ∃ r, Can p n r ∧ ∀ j, vec (Fin p) r j = v j := by
  refine ⟨(List.range n).map fun j => ((v j).val : Int), ⟨by rw [List.length_map, List.length_range], fun x hx => ?_⟩, fun j => ?_⟩
  · obtain ⟨j, _, rfl⟩ := List.mem_map.mp hx
    have := (v j).isLt
    omega
  · show cz (Fin p) (((List.range n).map fun j => ((v j).val : Int)).getD j 0) = v j
    by_cases hj : j < n
    · rw [at_lt (by rw [List.length_map, List.length_range]; exact hj), List.getElem_map, List.getElem_range]
      exact fin_cz (v j)
    · rw [at_ge (by rw [List.length_map, List.length_range]; omega), cz_zero, hv j (by omega)]
theorem law_ok {p n : Nat} (hp : Pr4 p) {first second : List RowI} (h1 : ∀ r ∈ first, Can p n r) (h2 : ∀ r ∈ second, Can p n r) : LawOk p n first second := by
  have hp1 := hp.pos
  haveI : NeZero p := ⟨by omega⟩
  have sj : ∀ a : Fin p, ∃ k : Nat, k < p ∧ a = cz (Fin p) (k : Int) := fin_surj
  have cA : ∀ r ∈ spanR p n first, Can p n r := spanR_can (Fin p) hp h1
  have cB : ∀ r ∈ spanR p n second, Can p n r := spanR_can (Fin p) hp h2
  have cAB : ∀ r ∈ spanR p n first ++ spanR p n second, Can p n r := fun r hr => (List.mem_append.mp hr).elim (cA r) (cB r)
  have cBA : ∀ r ∈ spanR p n second ++ spanR p n first, Can p n r := fun r hr => (List.mem_append.mp hr).elim (cB r) (cA r)
  have c12 : ∀ r ∈ first ++ second, Can p n r := fun r hr => (List.mem_append.mp hr).elim (h1 r) (h2 r)
  have cW : ∀ r ∈ spanR p n (spanR p n first ++ spanR p n second), Can p n r := spanR_can (Fin p) hp cAB
  have cP : ∀ r ∈ commonR p n (spanR p n first) (spanR p n second), Can p n r := kernelR_can (Fin p) hp
  have sA := span_sp (F := Fin p) (n := n) hp h1
  have sB := span_sp (F := Fin p) (n := n) hp h2
  have sW := span_sp (F := Fin p) (n := n) hp cAB
  have sP := fun (v : Nat → Fin p) (hv : Supp n v) => common_sp (F := Fin p) hp cA cB hv
  have sApp : ∀ v : Nat → Fin p, Sp ((spanR p n first ++ spanR p n second).map (vec (Fin p))) v ↔ Sp ((first ++ second).map (vec (Fin p))) v := fun v => by
    rw [List.map_append, List.map_append]
    constructor
    · intro h
      obtain ⟨x, y, hx, hy, e⟩ := sp_append.mp h
      exact sp_append.mpr ⟨x, y, (sA x).mp hx, (sB y).mp hy, e⟩
    · intro h
      obtain ⟨x, y, hx, hy, e⟩ := sp_append.mp h
      exact sp_append.mpr ⟨x, y, (sA x).mpr hx, (sB y).mpr hy, e⟩
  have fa := lawR_full (F := Fin p) (n := n) hp sj h1
  have fb := lawR_full (F := Fin p) (n := n) hp sj h2
  have fW := lawR_full (F := Fin p) (n := n) hp sj cW
  have fP := lawR_full (F := Fin p) (n := n) hp sj cP
  have f12 := lawR_full (F := Fin p) (n := n) hp sj c12
  have mA := memR_full (F := Fin p) (n := n) hp sj h1
  have mB := memR_full (F := Fin p) (n := n) hp sj h2
  have tW := tab_ok (F := Fin p) (n := n) hp cAB
  have cK : ∀ r ∈ kernelR p n (spanR p n first) ++ kernelR p n (spanR p n second), Can p n r := fun r hr => (List.mem_append.mp hr).elim (kernelR_can (Fin p) hp r) (kernelR_can (Fin p) hp r)
  have tP := tab_ok (F := Fin p) (n := n) hp (ker_can (p := p) (n := n) hp (L := tabR p n (kernelR p n (spanR p n first) ++ kernelR p n (spanR p n second))))
  have mW := memR_full (F := Fin p) (n := n) hp sj cAB
  have mP := memR_full (F := Fin p) (n := n) hp sj (ker_can (p := p) (n := n) hp (L := tabR p n (kernelR p n (spanR p n first) ++ kernelR p n (spanR p n second))))
  refine ⟨⟨_, formR hp tW, rfl⟩, ⟨_, formR hp tP, rfl⟩, fW.perm f12 fun r _ => (sW _).trans (sApp _), fun one two e1 e2 => ?_, ?_, ?_, ?_, mA.1.perm fa fun r _ => Iff.rfl, mB.1.perm fb fun r _ => Iff.rfl⟩
  · refine (List.perm_ext_iff_of_nodup fP.nd (List.Pairwise.filter _ (e1.nodup_iff.mpr fa.nd))).mpr fun r => ?_
    rw [fP.mem, List.mem_filter, e1.mem_iff, decide_eq_true_eq, e2.mem_iff, fa.mem, fb.mem]
    constructor
    · rintro ⟨hc, hs⟩
      have h := (sP _ (vec_supp hc.1)).mp hs
      exact ⟨⟨hc, (sA _).mp h.1⟩, hc, (sB _).mp h.2⟩
    · rintro ⟨⟨hc, q1⟩, _, q2⟩
      exact ⟨hc, (sP _ (vec_supp hc.1)).mpr ⟨(sA _).mpr q1, (sB _).mpr q2⟩⟩
  · have d := dims (F := Fin p) hp mA.1 mB.1 mW.1 mP.1 (fun v => sApp v) h1 h2 sj (fun r hc => ?_) (fun v hv => fin_lift v hv)
    · rw [mA.2, mB.2, mW.2, mP.2, ← Nat.pow_add, ← Nat.pow_add] at d
      exact (Nat.pow_right_inj hp1).mp d
    · refine Iff.trans (span_sp (F := Fin p) (n := n) hp (ker_can hp) _).symm ((sP _ (vec_supp hc.1)).trans ?_)
      exact and_congr (sA _) (sB _)
  · show (tabR p n _).map (·.2) = (tabR p n _).map (·.2)
    rw [TabOk.unique (F := Fin p) hp (tab_ok hp cBA) tW fun v => ?_]
    refine sp_eqv (fun r hr => sp_mem ?_) (fun r hr => sp_mem ?_) v
    · rw [List.map_append] at hr ⊢; exact List.mem_append.mpr (List.mem_append.mp hr).symm
    · rw [List.map_append] at hr ⊢; exact List.mem_append.mpr (List.mem_append.mp hr).symm
  · show kernelR p n (kernelR p n _ ++ kernelR p n _) = kernelR p n (kernelR p n _ ++ kernelR p n _)
    unfold kernelR
    have e : tabR p n (kernelR p n (spanR p n second) ++ kernelR p n (spanR p n first)) = tabR p n (kernelR p n (spanR p n first) ++ kernelR p n (spanR p n second)) := by
      refine TabOk.unique (F := Fin p) hp (tab_ok hp fun r hr => cK r (List.mem_append.mpr (List.mem_append.mp hr).symm)) (tab_ok hp cK) fun v => ?_
      refine sp_eqv (fun r hr => sp_mem ?_) (fun r hr => sp_mem ?_) v
      · rw [List.map_append] at hr ⊢; exact List.mem_append.mpr (List.mem_append.mp hr).symm
      · rw [List.map_append] at hr ⊢; exact List.mem_append.mpr (List.mem_append.mp hr).symm
    unfold kernelR at e
    rw [e]
/-! ### sizes, and the parts of a step -/
theorem red_can {p n : Nat} (hp : Pr4 p) {rows : List RowI} (hr : ∀ r ∈ rows, Can p n r) (m : Nat) : (∀ r ∈ (redTo p rows m).1, Can p n r) ∧ ∀ x ∈ (redTo p rows m).2, Can p n x.2 := by
  have hp1 := hp.pos
  haveI : NeZero p := ⟨by omega⟩
  have h := red_to (F := Fin p) hp hr m
  exact ⟨h.left, h.tab⟩
theorem tab_can {p n : Nat} (hp : Pr4 p) {rows : List RowI} (hr : ∀ r ∈ rows, Can p n r) : ∀ r ∈ spanR p n rows, Can p n r := by
  have hp1 := hp.pos
  haveI : NeZero p := ⟨by omega⟩
  exact spanR_can (Fin p) hp hr
theorem kernel_can {p n : Nat} (hp : Pr4 p) {rows : List RowI} : ∀ r ∈ kernelR p n rows, Can p n r := by
  have hp1 := hp.pos
  haveI : NeZero p := ⟨by omega⟩
  exact kernelR_can (Fin p) hp
theorem redTo_succ {p : Nat} {rows : List RowI} {m : Nat} : redTo p rows (m + 1) = redStep p (redTo p rows m) m := by
  unfold redTo
  rw [List.range_succ, List.foldl_append]; rfl
theorem step_nil {p : Nat} {S : RS} {m : Nat} (h : headsR S.1 m = []) : redStep p S m = S := by
  unfold redStep
  rw [h]
theorem step_cons {p : Nat} {S : RS} {m k : Nat} {ks : List Nat} (h : headsR S.1 m = k :: ks) :
    redStep p S m = ((S.1.eraseIdx k).map (clrR p (headR p S.1 m k) m), S.2.map (fun x => (x.1, clrR p (headR p S.1 m k) m x.2)) ++ [(m, headR p S.1 m k)]) := by
  unfold redStep
  rw [h]
theorem red_len {p : Nat} {rows : List RowI} : ∀ m, (redTo p rows m).1.length + (redTo p rows m).2.length = rows.length
  | 0 => rfl
  | m + 1 => by
    have ih := red_len (p := p) (rows := rows) m
    rw [redTo_succ]
    cases h : headsR (redTo p rows m).1 m with
    | nil => rw [step_nil h]; exact ih
    | cons k ks =>
      obtain ⟨hk, _⟩ := headsR_cons h
      rw [step_cons h, List.length_map, List.length_eraseIdx_of_lt hk, List.length_append, List.length_map, List.length_singleton]
      omega
theorem span_len {p n : Nat} {rows : List RowI} : (spanR p n rows).length ≤ rows.length := by
  have h := red_len (p := p) (rows := rows) n
  unfold spanR tabR
  rw [List.length_map]
  omega
theorem can_bd {p n : Nat} (hp : Pr4 p) {r : RowI} (h : Can p n r) : ∀ x ∈ r, -1000 < x ∧ x < 1000 := fun x hx => by
  have := h.2 x hx
  unfold Pr4 at hp
  omega
/-! ### the law's list of all rows, step by step -/
def lawTo (p n : Nat) (rows : List RowI) (i : Nat) : List RowI := (rows.take i).foldl (lawStep p) [zeroR n]
theorem lawTo_zero {p n : Nat} {rows : List RowI} : lawTo p n rows 0 = [zeroR n] := by unfold lawTo; rw [List.take_zero]; rfl
theorem lawTo_succ {p n i : Nat} {rows : List RowI} {r : RowI} (h : rows[i]? = some r) : lawTo p n rows (i + 1) = lawStep p (lawTo p n rows i) r := by
  unfold lawTo
  rw [List.take_add_one, h, List.foldl_append]; rfl
theorem lawTo_all {p n : Nat} {rows : List RowI} : lawTo p n rows rows.length = lawR p n rows := by unfold lawTo; rw [List.take_length]; rfl
theorem grow_can {p n : Nat} (hp : Pr4 p) {found : List RowI} {r : RowI} (h : ∀ x ∈ found, Can p n x) (hr : Can p n r) : ∀ x ∈ growR p found r, Can p n x := fun x hx => by
  have hp0 : 0 < p := by have := hp.pos; omega
  unfold growR at hx
  obtain ⟨w, hw, hx⟩ := List.mem_flatMap.mp hx
  obtain ⟨a, _, rfl⟩ := List.mem_map.mp hx
  exact can_add hp0 (h w hw) (can_scl hp0 _ hr)
theorem lawTo_can {p n : Nat} (hp : Pr4 p) {rows : List RowI} (hr : ∀ r ∈ rows, Can p n r) : ∀ i, ∀ x ∈ lawTo p n rows i, Can p n x
  | 0 => fun x hx => by
    rw [lawTo_zero] at hx
    rw [List.mem_singleton.mp hx]
    exact can_zero (by have := hp.pos; omega)
  | i + 1 => fun x hx => by
    by_cases hi : i < rows.length
    · rw [lawTo_succ (List.getElem?_eq_getElem hi)] at hx
      unfold lawStep at hx
      split at hx
      · exact lawTo_can hp hr i x hx
      · exact grow_can hp (lawTo_can hp hr i) (hr _ (List.getElem_mem hi)) x hx
    · have e : lawTo p n rows (i + 1) = lawTo p n rows i := by
        unfold lawTo
        rw [List.take_of_length_le (by omega), List.take_of_length_le (by omega)]
      rw [e] at hx
      exact lawTo_can hp hr i x hx
theorem lawTo_len {p n : Nat} (hp : Pr4 p) {rows : List RowI} : ∀ i, (lawTo p n rows i).length ≤ p ^ i
  | 0 => by rw [lawTo_zero]; exact Nat.le_refl 1
  | i + 1 => by
    have ih := lawTo_len (n := n) hp (rows := rows) i
    have hp1 := hp.pos
    have hm : (lawTo p n rows i).length ≤ p ^ (i + 1) := by
      rw [Nat.pow_succ]
      exact Nat.le_trans ih (Nat.le_mul_of_pos_right _ (by omega))
    by_cases hi : i < rows.length
    · rw [lawTo_succ (List.getElem?_eq_getElem hi)]
      unfold lawStep
      split
      · exact hm
      · rw [grow_len, Nat.pow_succ]
        exact Nat.mul_le_mul_right _ ih
    · have e : lawTo p n rows (i + 1) = lawTo p n rows i := by
        unfold lawTo
        rw [List.take_of_length_le (by omega), List.take_of_length_le (by omega)]
      rw [e]; exact hm
theorem pow_le {p i : Nat} (hp : Pr4 p) (hi : i ≤ 5) : p ^ i ≤ 16807 := by
  have h1 : p ^ i ≤ 7 ^ i := Nat.pow_le_pow_left (by unfold Pr4 at hp; omega) i
  have h2 : 7 ^ i ≤ 7 ^ 5 := Nat.pow_le_pow_right (by decide) hi
  exact Nat.le_trans h1 (Nat.le_trans h2 (by decide))
theorem grow_take {p j : Nat} {found : List RowI} {r w : RowI} (h : found[j]? = some w) : growR p (found.take (j + 1)) r = growR p (found.take j) r ++ (List.range p).map (fun a : Nat => addR p w (sclR p r (a : Int))) := by
  unfold growR
  rw [List.take_add_one, h, List.flatMap_append]
  simp
theorem short_or {p n : Nat} {l : List RowI} (hn : l.Nodup) (hc : ∀ r ∈ l, Can p n r) : l.length ≤ 1 ∨ ∀ r ∈ l, r ≠ [] := by
  by_cases h0 : n = 0
  · left
    match l, hn, hc with
    | [], _, _ => exact Nat.zero_le _
    | [x], _, _ => exact Nat.le_refl _
    | x :: y :: l, hn, hc =>
      have hx := (hc x List.mem_cons_self).1
      have hy := (hc y (List.mem_cons_of_mem _ List.mem_cons_self)).1
      have ex : x = [] := List.eq_nil_of_length_eq_zero (by omega)
      have ey : y = [] := List.eq_nil_of_length_eq_zero (by omega)
      subst ex; subst ey
      exact absurd List.mem_cons_self (List.nodup_cons.mp hn).1
  · right
    intro r hr e
    have := (hc r hr).1
    rw [e] at this
    exact h0 this.symm
theorem law_nd {p n : Nat} (hp : Pr4 p) {rows : List RowI} (hr : ∀ r ∈ rows, Can p n r) : (lawR p n rows).Nodup := by
  have hp1 := hp.pos
  haveI : NeZero p := ⟨by omega⟩
  exact (lawR_full (F := Fin p) hp fin_surj hr).nd
theorem mem_nd {p n : Nat} (hp : Pr4 p) {rows : List RowI} (hr : ∀ r ∈ rows, Can p n r) : (memR p n (spanR p n rows)).Nodup := by
  have hp1 := hp.pos
  haveI : NeZero p := ⟨by omega⟩
  exact (memR_full (F := Fin p) hp fin_surj hr).1.nd
/-- the places where a row isn't 0: its own place first -/
theorem heads_first {n P : Nat} {r : RowI} (hP : P < n) (h1 : r.getD P 0 ≠ 0) (h0 : ∀ j, j < P → r.getD j 0 = 0) : ∃ ks, (List.range n).filter (fun j => !decide (r.getD j 0 = 0)) = P :: ks := by
  obtain ⟨m, rfl⟩ : ∃ m, n = P + (m + 1) := ⟨n - P - 1, by omega⟩
  rw [List.range_add, List.filter_append, List.range_succ_eq_map, List.map_cons, List.filter_cons]
  have e1 : (List.range P).filter (fun j => !decide (r.getD j 0 = 0)) = [] := List.filter_eq_nil_iff.mpr fun j hj => by
    rw [h0 j (List.mem_range.mp hj)]; simp
  rw [e1, if_pos (by rw [Nat.add_zero, decide_eq_false h1]; rfl)]
  exact ⟨_, rfl⟩
end K04
end

section
set_option Elab.async false
set_option linter.all false
set_option maxRecDepth 100000
set_option maxHeartbeats 4000000
/-! K04Kit: rows in the heap; comprehensions; operators that the layer lacks. -/
namespace K04W
open PySem PySem.Spec PyProof.Rows L2 K04

/-! ### rows in the heap -/
def IsRow (H : Hp) (v : V) (r : RowI) : Prop := ∃ a, v = .ref a ∧ H a = some (.tup (r.map V.int))
abbrev Rws (H : Hp) : List V → List RowI → Prop := Paired (IsRow H)
/-- the tuples stay -/
def Tm (H H' : Hp) : Prop := ∀ b xs, H b = some (.tup xs) → H' b = some (.tup xs)
theorem Tm.refl (H : Hp) : Tm H H := fun _ _ h => h
theorem Tm.trans {H H1 H2 : Hp} (a : Tm H H1) (b : Tm H1 H2) : Tm H H2 := fun c xs h => b c xs (a c xs h)
theorem tm_of {H H' : Hp} (e : Same H H') : Tm H H' := fun b xs h => e b _ h
theorem tm_upd {H : Hp} {p : Addr} {o : HO} (h : ∀ xs, H p ≠ some (.tup xs)) : Tm H (upd H p o) := fun b xs e => by
  rw [upd_ne (fun z => h xs (by rw [← z]; exact e))]
  exact e
theorem tm_lst {H : Hp} {p : Addr} {o : HO} {ys : List V} (h : H p = some (.lst ys)) : Tm H (upd H p o) := tm_upd fun xs e => by rw [h] at e; cases e
theorem tm_new {H : Hp} {p : Addr} {o : HO} (h : H p = none) : Tm H (upd H p o) := tm_upd fun xs e => by rw [h] at e; cases e
theorem same_new {H : Hp} {p : Addr} {o : HO} (h : H p = none) : Same H (upd H p o) := fun b x e => by
  rw [upd_ne (ne_of_none e h)]
  exact e
/-- an own object, younger than H, may change -/
theorem same_mut {H H' : Hp} {p : Addr} {o : HO} (e : Same H H') (h : H p = none) : Same H (upd H' p o) := fun b x hb => by
  rw [upd_ne (ne_of_none hb h)]
  exact e b x hb
theorem IsRow.tm {H H' : Hp} {v : V} {r : RowI} (h : IsRow H v r) (e : Tm H H') : IsRow H' v r := let ⟨a, ev, ea⟩ := h; ⟨a, ev, e _ _ ea⟩
theorem Rws.tm {H H' : Hp} (e : Tm H H') : ∀ {vs : List V} {rs : List RowI}, Rws H vs rs → Rws H' vs rs
  | _, _, .nil => .nil
  | _, _, .cons h t => .cons (h.tm e) (Rws.tm e t)
theorem Rws.length {H : Hp} {vs : List V} {rs : List RowI} (h : Rws H vs rs) : vs.length = rs.length := Paired.length h
theorem Rws.get {H : Hp} : ∀ {vs : List V} {rs : List RowI} {i : Nat} {v : V}, Rws H vs rs → vs[i]? = some v → ∃ r, rs[i]? = some r ∧ IsRow H v r
  | _, _, _, _, .nil, e => by simp at e
  | _, _, 0, _, .cons h _, e => by simp at e; subst e; exact ⟨_, rfl, h⟩
  | _, _, i + 1, v, .cons _ t, e => by
    obtain ⟨r, h1, h2⟩ := Rws.get (i := i) (v := v) t (by simpa using e)
    exact ⟨r, by simpa using h1, h2⟩
theorem Rws.get' {H : Hp} {vs : List V} {rs : List RowI} (h : Rws H vs rs) {i : Nat} {r : RowI} (e : rs[i]? = some r) : ∃ v, vs[i]? = some v ∧ IsRow H v r := by
  have hi : i < rs.length := (List.getElem?_eq_some_iff.mp e).1
  have hv : i < vs.length := by rw [h.length]; exact hi
  obtain ⟨r', h1, h2⟩ := h.get (List.getElem?_eq_getElem hv)
  rw [e] at h1
  cases h1
  exact ⟨_, List.getElem?_eq_getElem hv, h2⟩
theorem Rws.append {H : Hp} : ∀ {vs ws : List V} {rs qs : List RowI}, Rws H vs rs → Rws H ws qs → Rws H (vs ++ ws) (rs ++ qs)
  | _, _, _, _, .nil, h => h
  | _, _, _, _, .cons h t, h' => .cons h (Rws.append t h')
theorem Rws.erase {H : Hp} : ∀ {vs : List V} {rs : List RowI} (k : Nat), Rws H vs rs → Rws H (vs.eraseIdx k) (rs.eraseIdx k)
  | _, _, _, .nil => .nil
  | _, _, 0, .cons _ t => t
  | _, _, k + 1, .cons h t => .cons h (Rws.erase k t)
theorem Rws.take {H : Hp} : ∀ {vs : List V} {rs : List RowI} (k : Nat), Rws H vs rs → Rws H (vs.take k) (rs.take k)
  | _, _, _, .nil => by simp; exact .nil
  | _, _, 0, .cons _ t => .nil
  | _, _, k + 1, .cons h t => .cons h (Rws.take k t)
theorem Rws.of_get {H : Hp} : ∀ {vs : List V} {rs : List RowI}, vs.length = rs.length → (∀ (i : Nat) v, vs[i]? = some v → ∃ r, rs[i]? = some r ∧ IsRow H v r) → Rws H vs rs
  | [], [], _, _ => .nil
  | [], _ :: _, e, _ => by simp at e
  | _ :: _, [], e, _ => by simp at e
  | v :: vs, r :: rs, e, h => by
    refine .cons ?_ (Rws.of_get (by simpa using e) fun i w hw => ?_)
    · obtain ⟨r', h1, h2⟩ := h 0 v rfl
      cases h1
      exact h2
    · obtain ⟨r', h1, h2⟩ := h (i + 1) w (by simpa using hw)
      exact ⟨r', by simpa using h1, h2⟩
/-- the item of a row -/
theorem row_at {r : RowI} {j : Nat} (h : j < r.length) : (r.map V.int)[j]? = some (.int (r.getD j 0)) := by
  rw [List.getElem?_map, List.getElem?_eq_getElem h, at_lt h]; rfl
theorem atI_row {r : RowI} {j : Nat} (h : j < r.length) : atI (r.map V.int) (j : Int) = some (.int (r.getD j 0)) := atI_nat (row_at h)
theorem sz {n : Nat} (h : n ≤ 100000) : n ≤ sizeLine := Nat.le_trans h (by decide)
theorem sz' {n : Nat} (h : n < 100000) : n < sizeLine := Nat.lt_of_lt_of_le h (by decide)

/-! ### what a def hands back -/
abbrev RetRow (H : Hp) (Q : VK) (r : RowI) : Prop := ∀ H' v, Same H H' → IsRow H' v r → Q v H'
abbrev RetList (H : Hp) (Q : VK) (rs : List RowI) : Prop := ∀ H' l xs, Same H H' → H l = none → H' l = some (.lst xs) → Rws H' xs rs → Q (.ref l) H'
abbrev RetTab (H : Hp) (Q : VK) (rs : List RowI) : Prop := ∀ H' t xs, Same H H' → H' t = some (.tup xs) → Rws H' xs rs → Q (.ref t) H'

/-! ### walks -/
theorem PI.orI {X : Cx} {tg e : Expr} {t u : TI} (h1 : PI X tg e t) (h2 : PI X tg e u) : PI X tg e (fun σ H R => t σ H R ∨ u σ H R) :=
  ⟨fun pins s σ H R I h => h.elim (h1.run pins s σ H R I) (h2.run pins s σ H R I)⟩
theorem walk_zipT {K : PySem.W.Frag} {a b : Addr} {xs ys : List V} {n : Nat} (hx : xs.length = n) (hy : ys.length = n) :
    Walk (RZ.ItzT K a b) n (fun H => SqT K H a xs ∧ SqT K H b ys) (YPair (fun i => xs[i]?) (fun i => ys[i]?)) := by
  refine ⟨fun i _ hi q => ?_, fun _ q => ⟨xs, ys, q.1, q.2, .inl (by omega)⟩, fun i H v H' _ q y => ?_⟩
  · have h1 : i < xs.length := by omega
    have h2 : i < ys.length := by omega
    exact ⟨xs, ys, xs[i], ys[i], q.1, q.2, List.getElem?_eq_getElem h1, List.getElem?_eq_getElem h2⟩
  · obtain ⟨T, x, z, h1, h2, h3, h4, h5⟩ := y
    exact ⟨T, x, z, h1, h2, h3, h4 xs q.1, h5 ys q.2⟩
section
variable {J : It} {n : Nat} {G : Hp → Prop} {Y : Nat → Hp → V → Hp → Prop}
/-- a comprehension without a test: each item by its own -/
theorem lc_all (w : Walk J n G Y) {g : TG} {te : TE} {vs : List Nat} {σ : L2.St} {H1 : Hp} {D : Addr} {Qd : Hp → Prop} (hn : n < 100000) (R : Nat → V → Hp → Prop) (hR : ∀ i y H H', Tm H H' → R i y H → R i y H')
    (hD : H1 D = none) (hG : ∀ H, Same H1 H → G H) (hY : ∀ i H x H', Y i H x H' → Same H H')
    (hs : ∀ i x H H', i < n → Same H1 H → Y i H x H' → g x (wipe σ vs) H' fun σ2 H2 => wipe σ2 vs = wipe σ vs ∧ ∀ Q : VK, (∀ y H4, Same H' H4 → R i y H4 → Q y H4) → te σ2 H2 Q)
    (hg : ∀ x σ' H' (P P' : L2.St → Hp → Prop), (∀ a b, P a b → P' a b) → g x σ' H' P → g x σ' H' P')
    (hd : ∀ H xs, Same H1 H → H D = some (.lst xs) → xs.length = n → (∀ (i : Nat) y, xs[i]? = some y → R i y H) → Qd H) :
    ∃ W : Nat → Nat → Hp → Prop, (∃ m, W 0 m (upd H1 D (.lst []))) ∧ ∀ i m H, W i m H →
      (J.stop i H ∧ Qd H) ∨ (J.go i H ∧ ∃ Nx : Hp → Prop, (∀ H', Nx H' → ∃ m', m' < m ∧ W (i + 1) m' H') ∧ ∀ x H', J.yld i H x H' → g x (wipe σ vs) H' fun σ2 H2 => wipe σ2 vs = wipe σ vs ∧ tYes σ2 H2 fun b H3 =>
        if b = true then te σ2 H3 fun y H4 => ∃ acc, H4 D = some (.lst acc) ∧ acc.length < sizeLine ∧ Nx (upd H4 D (.lst (acc ++ [y]))) else Nx H3) := by
  refine lc_it w (fun i H => Same H1 H ∧ ∃ acc, H D = some (.lst acc) ∧ acc.length = i ∧ ∀ (k : Nat) y, acc[k]? = some y → R k y H) ⟨same_new hD, [], upd_same, rfl, fun k y e => by simp at e⟩ (fun i H _ p => hG H p.1) (fun i x H H' hi p hyy => ?_) (fun H p => ?_)
  · obtain ⟨p1, acc, p2, p3, p4⟩ := p
    refine hg _ _ _ _ _ (fun σ2 H2 h => ⟨h.1, ?_⟩) (hs i x H H' hi p1 hyy)
    refine h.2 (fun y H4 => ∃ acc, H4 D = some (.lst acc) ∧ acc.length < sizeLine ∧ (Same H1 (upd H4 D (.lst (acc ++ [y]))) ∧ ∃ acc', (upd H4 D (.lst (acc ++ [y]))) D = some (.lst acc') ∧ acc'.length = i + 1 ∧ ∀ (k : Nat) y', acc'[k]? = some y' → R k y' (upd H4 D (.lst (acc ++ [y]))))) fun y H4 e4 r4 => ?_
    have e5 : Same H H4 := (hY _ _ _ _ hyy).trans e4
    have hD4 := e5 D _ p2
    have t5 : Tm H4 (upd H4 D (.lst (acc ++ [y]))) := tm_lst hD4
    refine ⟨acc, hD4, sz' (by omega), same_mut (p1.trans e5) hD, acc ++ [y], upd_same, by simp [p3], fun k y' hk => ?_⟩
    by_cases hk' : k < acc.length
    · rw [List.getElem?_append_left hk'] at hk
      exact hR _ _ _ _ ((tm_of e5).trans t5) (p4 k y' hk)
    · have hkl : k < (acc ++ [y]).length := (List.getElem?_eq_some_iff.mp hk).1
      have ek : k = acc.length := by rw [List.length_append, List.length_singleton] at hkl; omega
      subst ek
      rw [List.getElem?_append_right (Nat.le_refl _)] at hk
      simp at hk
      subst hk
      rw [p3]
      exact hR _ _ _ _ t5 r4
  · obtain ⟨p1, acc, p2, p3, p4⟩ := p
    exact hd H acc p1 p2 p3 p4
/-- a comprehension with a test: the kept ones -/
theorem lc_fil (w : Walk J n G Y) {g : TG} {tt : TT} {te : TE} {vs : List Nat} {σ : L2.St} {H1 : Hp} {D : Addr} {Qd : Hp → Prop} (hn : n < 100000) (f : Nat → Bool) (val : Nat → V)
    (hD : H1 D = none) (hG : ∀ H, Same H1 H → G H) (hY : ∀ i H x H', Y i H x H' → Same H H')
    (hs : ∀ i x H H', i < n → Same H1 H → Y i H x H' → g x (wipe σ vs) H' fun σ2 H2 => wipe σ2 vs = wipe σ vs ∧ (∀ (Q' : VK) H3, Q' (val i) H3 → te σ2 H3 Q') ∧ ∀ Q : Bool → Hp → Prop, (∀ H3, Same H' H3 → Q (f i) H3) → tt σ2 H2 Q)
    (hg : ∀ x σ' H' (P P' : L2.St → Hp → Prop), (∀ a b, P a b → P' a b) → g x σ' H' P → g x σ' H' P')
    (hd : ∀ H, Same H1 H → H D = some (.lst (((List.range n).filter f).map val)) → Qd H) :
    ∃ W : Nat → Nat → Hp → Prop, (∃ m, W 0 m (upd H1 D (.lst []))) ∧ ∀ i m H, W i m H →
      (J.stop i H ∧ Qd H) ∨ (J.go i H ∧ ∃ Nx : Hp → Prop, (∀ H', Nx H' → ∃ m', m' < m ∧ W (i + 1) m' H') ∧ ∀ x H', J.yld i H x H' → g x (wipe σ vs) H' fun σ2 H2 => wipe σ2 vs = wipe σ vs ∧ tt σ2 H2 fun b H3 =>
        if b = true then te σ2 H3 fun y H4 => ∃ acc, H4 D = some (.lst acc) ∧ acc.length < sizeLine ∧ Nx (upd H4 D (.lst (acc ++ [y]))) else Nx H3) := by
  have lenle : ∀ i, (((List.range i).filter f).map val).length ≤ i := fun i => by
    rw [List.length_map]
    exact Nat.le_trans (List.length_filter_le _ _) (by rw [List.length_range]; exact Nat.le_refl _)
  refine lc_it w (fun i H => Same H1 H ∧ H D = some (.lst (((List.range i).filter f).map val))) ⟨same_new hD, upd_same⟩ (fun i H _ p => hG H p.1) (fun i x H H' hi p y => ?_) (fun H p => hd H p.1 p.2)
  obtain ⟨p1, p2⟩ := p
  have e1 := hY _ _ _ _ y
  refine hg _ _ _ _ _ (fun σ2 H2 h => ?_) (hs i x H H' hi p1 y)
  obtain ⟨h1, h2, h3⟩ := h
  refine ⟨h1, h3 _ fun H3 e3 => ?_⟩
  have e4 : Same H H3 := e1.trans e3
  refine ite2 (fun hf => ?_) (fun hf => ?_)
  · refine h2 _ _ ⟨_, e4 D _ p2, sz' (Nat.lt_of_le_of_lt (lenle i) (by omega)), same_mut (p1.trans e4) hD, ?_⟩
    rw [upd_same, List.range_succ, List.filter_append, List.map_append, List.filter_cons, if_pos hf]
    rfl
  · refine ⟨p1.trans e4, ?_⟩
    rw [List.range_succ, List.filter_append, List.map_append, List.filter_cons, if_neg hf]
    show H3 D = some (.lst (_ ++ []))
    rw [List.append_nil]
    exact e4 D _ p2
end
theorem gName_mono {i : Nat} : ∀ x σ' H' (P P' : L2.St → Hp → Prop), (∀ a b, P a b → P' a b) → gName i x σ' H' P → gName i x σ' H' P' := fun _ _ _ _ _ h p => h _ _ p
theorem gPair_mono {K : PySem.W.Frag} {i j : Nat} : ∀ x σ' H' (P P' : L2.St → Hp → Prop), (∀ a b, P a b → P' a b) → gTup K 2 (gCons (gName i) (gCons (gName j) gNil)) x σ' H' P → gTup K 2 (gCons (gName i) (gCons (gName j) gNil)) x σ' H' P' := by
  rintro _ _ _ _ _ h ⟨a, xs, h1, h2, h3, v, r, h4, v', r', h5, h6, h7⟩
  exact ⟨a, xs, h1, h2, h3, v, r, h4, v', r', h5, h6, h _ _ h7⟩
theorem yat_same {xs : List V} : ∀ i H x H', YAt xs i H x H' → Same H H' := fun _ _ _ _ h => by rw [h.1]; exact Same.refl _
theorem yfn_same {f : Nat → V} : ∀ i H x H', YFn f i H x H' → Same H H' := fun _ _ _ _ h => by rw [h.1]; exact Same.refl _
theorem ypair_same {xs ys : Nat → Option V} : ∀ i H x H', YPair xs ys i H x H' → Same H H' := fun _ H _ _ ⟨T, x, y, _, h2, h3, _⟩ => by rw [h3]; exact same_new h2
/-- the i-th place of a row; of a list; tuple(..): the same at a block within -/
theorem ixT {X : Cx} {K : PySem.W.Frag} (h : X.K = K := by rfl) : IxR X (rIxT K) := by subst h; exact ix_tup
theorem ixL {X : Cx} {K : PySem.W.Frag} (h : X.K = K := by rfl) : IxR X (rIxL K) := by subst h; exact ix_list
/-- a list or a tuple of the def's own slot, walked -/
def iSeqV (i : Nat) : TI := fun σ H R => ∃ v a xs, σ[i]? = some (some v) ∧ v = .ref a ∧ (H a = some (.lst xs) ∨ H a = some (.tup xs)) ∧ ∀ J, Walk J xs.length (fun H' => Same H H') (YAt xs) → R J H
theorem pi_seqV {X : Cx} {tg : Expr} (i : Nat) {x : Str} {pos : Pos} (hN : X.N[i]? = some x := by rfl) (hv : Vis X.env.scope x := by first | exact Or.inl rfl | exact Or.inr (Or.inl rfl) | exact Or.inr (Or.inr rfl))
    (hd : (x == ("__debug__" : Str)) = false := by decide) (hcd : (x == ("__classdict__" : Str)) = false := by decide) : PI X tg (.Name x pos) (iSeqV i) := by
  refine ⟨fun pins s σ H R I h => ?_⟩
  obtain ⟨v, a, xs, h1, rfl, h2, h3⟩ := h
  rcases h2 with h2 | h2
  · exact (pi_list (pe_var hN hv hd hcd)).run pins s σ H R I ⟨_, h1, a, rfl, ⟨xs, SqL.of h2⟩, h3 _ (walk_list.mono (fun H' e => e.seq (SqL.of h2)) fun _ _ _ _ _ _ y => y)⟩
  · exact (pi_tup (pe_var hN hv hd hcd)).run pins s σ H R I ⟨_, h1, a, rfl, ⟨xs, SqT.of h2⟩, h3 _ (walk_tup.mono (fun H' e => SqT.of (e _ _ h2)) fun _ _ _ _ _ _ y => y)⟩
def rTup (K : PySem.W.Frag) : List V → Hp → VK → Prop := fun xs H Q => ∃ p ys, xs = [.ref p] ∧ ((SqL K H p ys ∧ ∀ l, H l = none → Q (.ref l) (upd H l (.tup ys))) ∨ (SqT K H p ys ∧ Q (.ref p) H))
theorem ctup {X : Cx} {K : PySem.W.Frag} (h : X.K = K := by rfl) : CallR X (.type "tuple") (rTup K) := by subst h; exact call_tuple_of
end K04W
end

section
set_option Elab.async false
set_option linter.all false
set_option maxRecDepth 100000
set_option maxHeartbeats 4000000
/-! K04Kit2: rows as data: ==, in, sorted. -/
namespace K04W
open PySem PySem.Spec PyProof.Rows L2 K04
/-! ### a row, a list of rows as data -/
def rowD (r : RowI) : PyData := .tuple (r.map PyData.int)
theorem eqv_ints : ∀ xs ys : List Int, PyData.eqvAll (xs.map PyData.int) (ys.map PyData.int) = decide (xs = ys)
  | [], [] => by simp [PyData.eqvAll]
  | [], y :: ys => by simp [PyData.eqvAll]
  | x :: xs, [] => by simp [PyData.eqvAll]
  | x :: xs, y :: ys => by
    have ih := eqv_ints xs ys
    simp only [List.map_cons, PyData.eqvAll, PyData.eqv, ih]
    by_cases h1 : x = y <;> by_cases h2 : xs = ys <;> simp [h1, h2]
theorem rowD_eqv (r q : RowI) : PyData.eqv (rowD r) (rowD q) = decide (r = q) := by
  unfold rowD
  simp only [PyData.eqv]
  exact eqv_ints r q
theorem rowsD_eqvAll : ∀ xs ys : List RowI, PyData.eqvAll (xs.map rowD) (ys.map rowD) = decide (xs = ys)
  | [], [] => by simp [PyData.eqvAll]
  | [], y :: ys => by simp [PyData.eqvAll]
  | x :: xs, [] => by simp [PyData.eqvAll]
  | x :: xs, y :: ys => by
    have ih := rowsD_eqvAll xs ys
    simp only [List.map_cons, PyData.eqvAll, rowD_eqv, ih]
    by_cases h1 : x = y <;> by_cases h2 : xs = ys <;> simp [h1, h2]
theorem rowsD_eqvL (xs ys : List RowI) : PyData.eqv (.list (xs.map rowD)) (.list (ys.map rowD)) = decide (xs = ys) := by
  simp only [PyData.eqv]
  exact rowsD_eqvAll xs ys
theorem rowsD_eqvT (xs ys : List RowI) : PyData.eqv (.tuple (xs.map rowD)) (.tuple (ys.map rowD)) = decide (xs = ys) := by
  simp only [PyData.eqv]
  exact rowsD_eqvAll xs ys
theorem ints_lay : ∀ xs : List Int, PyData.canLayAll0 (xs.map PyData.int) = true
  | [] => by simp [PyData.canLayAll0]
  | x :: xs => by simp [PyData.canLayAll0, PyData.canLay0, ints_lay xs]
theorem ints_depth : ∀ xs : List Int, PyData.depthAll (xs.map PyData.int) = 0
  | [] => by simp [PyData.depthAll]
  | x :: xs => by simp [PyData.depthAll, PyData.depth, ints_depth xs]
theorem rowD_lay (r : RowI) : (rowD r).canLay0 = true := by
  unfold rowD
  simp only [PyData.canLay0]
  exact ints_lay r
theorem rowD_depth (r : RowI) : (rowD r).depth = 1 := by
  unfold rowD
  simp only [PyData.depth]
  rw [ints_depth]
theorem rowD_shaped (r : RowI) : SeqAt.shaped (rowD r) = true := by
  unfold SeqAt.shaped
  rw [rowD_lay, rowD_depth]; rfl
theorem rowsD_lay : ∀ rs : List RowI, PyData.canLayAll0 (rs.map rowD) = true
  | [] => by simp [PyData.canLayAll0]
  | r :: rs => by simp [PyData.canLayAll0, rowD_lay r, rowsD_lay rs]
theorem rowsD_depth : ∀ rs : List RowI, PyData.depthAll (rs.map rowD) ≤ 1
  | [] => by simp [PyData.depthAll]
  | r :: rs => by
    have h1 := rowsD_depth rs
    have h2 := rowD_depth r
    simp only [List.map_cons, PyData.depthAll]
    omega
theorem rowsL_shaped (rs : List RowI) : SeqAt.shaped (.list (rs.map rowD)) = true := by
  have h := rowsD_depth rs
  exact Bool.and_eq_true_iff.mpr ⟨by simp only [PyData.canLay0]; exact rowsD_lay rs, decide_eq_true (by simp only [PyData.depth]; omega)⟩
theorem rowsT_shaped (rs : List RowI) : SeqAt.shaped (.tuple (rs.map rowD)) = true := by
  have h := rowsD_depth rs
  exact Bool.and_eq_true_iff.mpr ⟨by simp only [PyData.canLay0]; exact rowsD_lay rs, decide_eq_true (by simp only [PyData.depth]; omega)⟩
theorem ints_dp {K : PySem.W.Frag} {H : Hp} : ∀ xs : List Int, DpAll K H (xs.map V.int) (xs.map PyData.int)
  | [] => .nil
  | x :: xs => .cons (.int x) (ints_dp xs)
theorem row_dp {K : PySem.W.Frag} {H : Hp} {v : V} {r : RowI} (h : IsRow H v r) : Dp K H v (rowD r) := by
  obtain ⟨a, rfl, ha⟩ := h
  exact .tup (SqT.of ha) (ints_dp r)
theorem rows_dp {K : PySem.W.Frag} {H : Hp} : ∀ {vs : List V} {rs : List RowI}, Rws H vs rs → DpAll K H vs (rs.map rowD)
  | _, _, .nil => .nil
  | _, _, .cons h t => .cons (row_dp h) (rows_dp t)
theorem list_dp {K : PySem.W.Frag} {H : Hp} {l : Addr} {vs : List V} {rs : List RowI} (hl : H l = some (.lst vs)) (h : Rws H vs rs) : Dp K H (.ref l) (.list (rs.map rowD)) := .lst (SqL.of hl) (rows_dp h)
theorem tab_dp {K : PySem.W.Frag} {H : Hp} {l : Addr} {vs : List V} {rs : List RowI} (hl : H l = some (.tup vs)) (h : Rws H vs rs) : Dp K H (.ref l) (.tuple (rs.map rowD)) := .tup (SqT.of hl) (rows_dp h)
theorem any_mem (r : RowI) : ∀ rs : List RowI, ((rs.map rowD).any fun z => PyData.eqv z (rowD r)) = decide (r ∈ rs)
  | [] => by simp
  | q :: rs => by
    rw [List.map_cons, List.any_cons, any_mem r rs, rowD_eqv]
    by_cases h1 : q = r
    · subst h1; simp
    · have h2 : ¬ r = q := fun e => h1 e.symm
      by_cases h3 : r ∈ rs <;> simp [h1, h2, h3]
section
variable {X : Cx} {K : PySem.W.Frag}
def rInR (K : PySem.W.Frag) : R2 := fun x y H Q => ∃ (r : RowI) (l : Addr) (vs : List V) (rs : List RowI), IsRow H x r ∧ y = .ref l ∧ H l = some (.lst vs) ∧ Rws H vs rs ∧ Q (.bl (decide (r ∈ rs))) H
def rNiR (K : PySem.W.Frag) : R2 := fun x y H Q => ∃ (r : RowI) (l : Addr) (vs : List V) (rs : List RowI), IsRow H x r ∧ y = .ref l ∧ H l = some (.lst vs) ∧ Rws H vs rs ∧ Q (.bl (!decide (r ∈ rs))) H
theorem op_inR (hu : X.A.units + 65 < cLine) : OpR X (compareOp .In) (rInR X.K) := by
  intro pins s σ H x y v u Q I rx ry h
  obtain ⟨r, l, vs, rs, hx, rfl, hl, hv, q⟩ := h
  refine op_inD hu pins s σ H x (.ref l) v u Q I rx ry ⟨rowD r, rs.map rowD, row_dp hx, list_dp hl hv, rowD_shaped r, rowsL_shaped rs, ?_⟩
  rw [any_mem]
  exact q
theorem op_niR (hu : X.A.units + 65 < cLine) : OpR X (compareOp .NotIn) (rNiR X.K) := by
  intro pins s σ H x y v u Q I rx ry h
  obtain ⟨r, l, vs, rs, hx, rfl, hl, hv, q⟩ := h
  refine op_notInD hu pins s σ H x (.ref l) v u Q I rx ry ⟨rowD r, rs.map rowD, row_dp hx, list_dp hl hv, rowD_shaped r, rowsL_shaped rs, ?_⟩
  rw [any_mem]
  exact q
def rEqL : R2 := fun x y H Q => ∃ (a b : Addr) (xs ys : List V) (ra rb : List RowI), x = .ref a ∧ y = .ref b ∧ H a = some (.lst xs) ∧ Rws H xs ra ∧ H b = some (.lst ys) ∧ Rws H ys rb ∧ Q (.bl (decide (ra = rb))) H
def rNeT : R2 := fun x y H Q => ∃ (a b : Addr) (xs ys : List V) (ra rb : List RowI), x = .ref a ∧ y = .ref b ∧ H a = some (.tup xs) ∧ Rws H xs ra ∧ H b = some (.tup ys) ∧ Rws H ys rb ∧ Q (.bl (!decide (ra = rb))) H
theorem op_eqL (hu : X.A.units + 64 < cLine) : OpR X (compareOp .Eq) rEqL := by
  intro pins s σ H x y v u Q I rx ry h
  obtain ⟨a, b, xs, ys, ra, rb, rfl, rfl, ha, hx, hb, hy, q⟩ := h
  refine op_eqD hu pins s σ H _ _ v u Q I rx ry ⟨_, _, list_dp ha hx, list_dp hb hy, rowsL_shaped ra, rowsL_shaped rb, ?_⟩
  rw [rowsD_eqvL]
  exact q
theorem op_neT (hu : X.A.units + 64 < cLine) : OpR X (compareOp .NotEq) rNeT := by
  intro pins s σ H x y v u Q I rx ry h
  obtain ⟨a, b, xs, ys, ra, rb, rfl, rfl, ha, hx, hb, hy, q⟩ := h
  refine op_neD hu pins s σ H _ _ v u Q I rx ry ⟨_, _, tab_dp ha hx, tab_dp hb hy, rowsT_shaped ra, rowsT_shaped rb, ?_⟩
  rw [rowsD_eqvT]
  exact q
theorem op_inRK (hu : X.A.units + 65 < cLine) (h : X.K = K := by rfl) : OpR X (compareOp .In) (rInR K) := by subst h; exact op_inR hu
end
/-! ### sorted -/
theorem dataLe_tups {β : Type} (x : β → List Int) : PySem.W.dataLe false (fun b => PyData.tuple ((x b).map PyData.int)) = fun p q => decide (x p ≤ x q) := by
  funext p q
  show (!PySem.W.dataLt (.tuple ((x q).map .int)) (.tuple ((x p).map .int))) = _
  rw [PySem.W.dataLt_tuple]
  show (!PySem.W.rowLt ((x q).map .int) ((x p).map .int)) = _
  rw [PySem.W.dataLt_ints]
  by_cases h : x q < x p
  · have h' : ¬ x p ≤ x q := fun r => List.not_lt.mpr r h
    simp [h, h']
  · have h' : x p ≤ x q := List.not_lt.mp h
    simp [h, h']
abbrev Sorted (rs : List RowI) : Prop := rs.Pairwise (fun x y => x ≤ y)
theorem sorted_uniq {l m : List RowI} (hl : Sorted l) (hm : Sorted m) (h : l.Perm m) : l = m :=
  List.Perm.eq_of_pairwise (le := fun x y : RowI => x ≤ y) (fun a b _ _ h1 h2 => List.le_antisymm h1 h2) hl hm h
def rSrt (K : PySem.W.Frag) : List V → Hp → VK → Prop := fun vs H Q => ∃ (a : Addr) (xs : List V) (rs : List RowI), vs = [.ref a] ∧ H a = some (.lst xs) ∧ Rws H xs rs ∧ (rs.length ≤ 1 ∨ ∀ r ∈ rs, r ≠ []) ∧
  ∀ p ys rs', H p = none → Rws H ys rs' → rs'.Perm rs → Sorted rs' → Q (.ref p) (upd H p (.lst ys))
section
variable {X : Cx}
theorem rw_refs {H : Hp} : ∀ {xs : List V} {rs : List RowI}, Rws H xs rs → ∃ as : List Addr, xs = as.map V.ref ∧ Paired (fun a r => H a = some (.tup (r.map V.int))) as rs
  | _, _, .nil => ⟨[], rfl, .nil⟩
  | _, _, .cons ⟨a, e, h⟩ t => by
    obtain ⟨as, e2, h2⟩ := rw_refs t
    exact ⟨a :: as, by rw [e, e2]; rfl, .cons h h2⟩
theorem vals_refs : ∀ {as : List Addr} {us : List Value}, Vals (as.map V.ref) us → us = as.map Value.ref
  | [], _, .nil => rfl
  | a :: as, _, .cons r t => by
    cases r
    rw [vals_refs t]; rfl
theorem refs_vals : ∀ as : List Addr, Vals (as.map V.ref) (as.map Value.ref)
  | [] => .nil
  | a :: as => .cons rfl (refs_vals as)
theorem each_of {H : Hp} {R : Value → Addr × RowI → Prop} (hR : ∀ a r, H a = some (.tup (r.map V.int)) → R (.ref a) (a, r)) : ∀ {as : List Addr} {rs : List RowI}, Paired (fun a r => H a = some (.tup (r.map V.int))) as rs → PySem.W.EachIs R (as.map Value.ref) (as.zip rs)
  | _, _, .nil => .nil
  | _, _, .cons h t => .cons (hR _ _ h) (each_of hR t)
theorem each_refs {R : Value → Addr × RowI → Prop} (hR : ∀ v b, R v b → v = Value.ref b.1) : ∀ {out : List Value} {bs : List (Addr × RowI)}, PySem.W.EachIs R out bs → out = bs.map fun b => Value.ref b.1
  | _, _, .nil => rfl
  | _, _, .cons h t => by
    rw [hR _ _ h, each_refs hR t]; rfl
theorem rws_zip {H : Hp} : ∀ {bs : List (Addr × RowI)}, (∀ b ∈ bs, H b.1 = some (.tup (b.2.map V.int))) → Rws H (bs.map fun b => V.ref b.1) (bs.map (·.2))
  | [], _ => .nil
  | b :: bs, h => .cons ⟨b.1, rfl, h b List.mem_cons_self⟩ (rws_zip fun c hc => h c (List.mem_cons_of_mem _ hc))
theorem zip_of {H : Hp} : ∀ {as : List Addr} {rs : List RowI}, Paired (fun a r => H a = some (.tup (r.map V.int))) as rs → (∀ b ∈ as.zip rs, H b.1 = some (.tup (b.2.map V.int))) ∧ (as.zip rs).map (·.2) = rs
  | _, _, .nil => ⟨fun b hb => by simp at hb, rfl⟩
  | _, _, .cons h t => by
    obtain ⟨h1, h2⟩ := zip_of t
    refine ⟨fun b hb => ?_, by rw [List.zip_cons_cons, List.map_cons, h2]⟩
    rw [List.zip_cons_cons] at hb
    rcases List.mem_cons.mp hb with rfl | hb
    · exact h
    · exact h1 b hb
theorem le_trans' : ∀ (a b c : Addr × RowI), decide (a.2 ≤ b.2) = true → decide (b.2 ≤ c.2) = true → decide (a.2 ≤ c.2) = true := fun a b c h1 h2 =>
  decide_eq_true (List.le_trans (of_decide_eq_true h1) (of_decide_eq_true h2))
theorem le_total' : ∀ (a b : Addr × RowI), (decide (a.2 ≤ b.2) || decide (b.2 ≤ a.2)) = true := fun a b => by
  rcases List.le_total a.2 b.2 with h | h
  · rw [decide_eq_true h]; rfl
  · rw [decide_eq_true h, Bool.or_true]
theorem cr_srt (hu : X.A.units + 4 < cLine) : CallR X (.builtin "sorted") (rSrt X.K) := by
  intro pins s σ H vs us Q I r h
  obtain ⟨a, xs, rs, rfl, ha, hx, hcase, q⟩ := h
  obtain ⟨its, rv, hl, hz⟩ := I.list (SqL.of ha)
  obtain ⟨u, rfl, ru⟩ := vals1 r
  obtain rfl : u = Value.ref a := ru
  obtain ⟨as, rfl, hp⟩ := rw_refs hx
  have ei := vals_refs rv
  subst ei
  obtain ⟨hz1, hz2⟩ := zip_of hp
  have hlen := hx.length
  rw [List.length_map] at hlen hz
  have zlen : (as.zip rs).length = rs.length := by rw [List.length_zip]; omega
  have fst : (as.zip rs).map (·.1) = as := List.map_fst_zip (by omega)
  have done : ∀ (out : List Value) (bs : List (Addr × RowI)), out = bs.map (fun b => Value.ref b.1) → bs.Perm (as.zip rs) → Sorted (bs.map (·.2)) →
      EP X pins σ Q (.ref (s.heap.objs.size + 1)) { s with heap := sortedAll s.heap (as.map Value.ref) out.toArray } := fun out bs eo pb sb => by
    obtain ⟨ep, he'⟩ := PyProof.Rows.sortedAll_at s.heap (as.map Value.ref) out.toArray
    have hb : ∀ b ∈ bs, H b.1 = some (.tup (b.2.map V.int)) := fun b hb => hz1 b (pb.mem_iff.mp hb)
    have ol : (bs.map fun b => V.ref b.1).length ≤ sizeLine := by rw [List.length_map, pb.length_eq]; omega
    have vv : Vals (bs.map fun b => V.ref b.1) out := by
      have := refs_vals (bs.map (·.1))
      rw [List.map_map, List.map_map] at this
      rw [eo]
      exact this
    refine ⟨.ref _, upd H (s.heap.objs.size + 1) (.lst (bs.map fun b => V.ref b.1)), I.laid (t' := s.toks) (fun _ _ => PyProof.Rows.sortedAll_old) (Nat.le_succ _) ⟨ol, out, ep, vv, he'⟩, rfl, ?_⟩
    refine q _ _ _ (I.hok.fresh (Nat.le_succ _)) (rws_zip hb) ?_ sb
    have := pb.map (·.2)
    rw [hz2] at this
    exact this
  by_cases h1 : rs.length ≤ 1
  · refine Srt.sorted_any hl.isList (by rw [List.length_map]; exact hz) (fun h2 => absurd h2 (by rw [List.length_map]; omega)) fun out hperm => ?_
    have eo : out = (as.zip rs).map fun b => Value.ref b.1 := by
      have e1 : (as.zip rs).map (fun b => Value.ref b.1) = as.map Value.ref := by
        have e2 : ((as.zip rs).map (·.1)).map Value.ref = as.map Value.ref := by rw [fst]
        rw [List.map_map] at e2
        exact e2
      rw [e1]
      have hl1 : (as.map Value.ref).length ≤ 1 := by rw [List.length_map]; omega
      match hm : as.map Value.ref, hl1 with
      | [], _ => rw [hm] at hperm; exact hperm.eq_nil
      | [x], _ => rw [hm] at hperm; exact List.perm_singleton.mp hperm
    refine done out (as.zip rs) eo (List.Perm.refl _) ?_
    rw [hz2]
    match rs, h1 with
    | [], _ => exact List.Pairwise.nil
    | [x], _ => exact List.pairwise_singleton _ _
  · have hne : ∀ r ∈ rs, r ≠ [] := hcase.resolve_left h1
    have hrd : ∀ a r, H a = some (.tup (r.map V.int)) → ∃ as, Reads s.heap (.ref a) (rowD r) as := fun a r h => Dp.reads I (rowD r) (.ref a) (.ref a) (row_dp (K := X.K) ⟨a, rfl, h⟩) rfl
    have hmem : ∀ b ∈ as.zip rs, b.2 ∈ rs := fun b hb => by
      have : b.2 ∈ (as.zip rs).map (·.2) := List.mem_map.mpr ⟨b, hb, rfl⟩
      rwa [hz2] at this
    refine PySem.W.sorted_data (bs := as.zip rs) (enc := fun b => PyData.tuple (b.2.map PyData.int)) (R := fun v b => v = Value.ref b.1) hl.isList (each_of (fun a r h => rfl) hp) (each_of (fun a r h => hrd a r h) hp)
      (fun d hd d' hd' => ?_) (.inl fun d hd => ?_) (by omega) (fun b hb => ?_) fun out ho eo => ?_
    · obtain ⟨b, _, rfl⟩ := List.mem_map.mp hd
      obtain ⟨b', _, rfl⟩ := List.mem_map.mp hd'
      simp only [PySem.W.alike]
      exact PySem.W.alike_ints _ _
    · obtain ⟨b, hb, rfl⟩ := List.mem_map.mp hd
      have := hne b.2 (hmem b hb)
      cases hbr : b.2 with
      | nil => exact absurd hbr this
      | cons x r => exact ⟨_, _, by rw [List.map_cons]⟩
    · have := rowD_depth b.2
      unfold rowD at this
      rw [this]
      omega
    · rw [dataLe_tups (fun b : Addr × RowI => b.2)] at eo
      refine done out _ (each_refs (fun v b h => h) eo) (List.mergeSort_perm _ _) ?_
      exact List.pairwise_map.mpr ((List.pairwise_mergeSort le_trans' le_total' _).imp fun h => of_decide_eq_true h)
end
end K04W
end

section
set_option Elab.async false
set_option linter.all false
set_option maxRecDepth 100000
set_option maxHeartbeats 4000000
/-! K04A: inverse, add, scaled, cleared. -/
namespace K04W
open PySem PySem.Spec PyProof.Rows L2 K04
/-! ### the text -/
def topS (i : Nat) : Stmt := PySem.Challenge.pw_algebraparts_k04_whole_spaces.main.body.getD i (.Pass ⟨0, 0, 0, 0⟩)
abbrev sInv : Stmt := topS 4
abbrev sAdd : Stmt := topS 6
abbrev sScl : Stmt := topS 7
abbrev sClr : Stmt := topS 8
/-- the built-in names that the text does not bind -/
structure NoG (mg : Str → Option Value) : Prop where
  zip : mg "zip" = none
  tuple : mg "tuple" = none
  range : mg "range" = none
  len : mg "len" = none
  int : mg "int" = none
  list : mg "list" = none
  sorted : mg "sorted" = none
  isin : mg "isinstance" = none
  abs : mg "abs" = none
abbrev nAdd : List Str := ["v", "w", "p", "x", "y"]
theorem scAdd : FnScope nAdd ["v", "w", "p"] (defScope sAdd) := ⟨rfl, rfl, rfl, by decide +kernel, rfl, by decide +kernel, by decide +kernel⟩
abbrev nScl : List Str := ["v", "a", "p", "x"]
theorem scScl : FnScope nScl ["v", "a", "p"] (defScope sScl) := ⟨rfl, rfl, rfl, by decide +kernel, rfl, by decide +kernel, by decide +kernel⟩
abbrev nClr : List Str := ["row", "head", "at", "p", "x", "y"]
theorem scClr : FnScope nClr ["row", "head", "at", "p"] (defScope sClr) := ⟨rfl, rfl, rfl, by decide +kernel, rfl, by decide +kernel, by decide +kernel⟩
abbrev nInv : List Str := ["a", "p", "k"]
theorem scInv : FnScope nInv ["a", "p"] (defScope sInv) := ⟨rfl, rfl, rfl, by decide +kernel, rfl, by decide +kernel, by decide +kernel⟩

/-- a list of ints, by what each is -/
theorem ints_eq {n : Nat} {r : RowI} {xs : List V} (hl : xs.length = n) (hr : r.length = n) (h : ∀ (i : Nat) y, xs[i]? = some y → y = .int (r.getD i 0)) : xs = r.map V.int := by
  refine List.ext_getElem (by rw [List.length_map]; omega) fun i h1 h2 => ?_
  rw [h i _ (List.getElem?_eq_getElem h1), List.getElem_map, at_lt (by omega)]
theorem zip_get {f : Int → Int → Int} {v w : RowI} {i : Nat} (h1 : i < v.length) (h2 : i < w.length) : (List.zipWith f v w).getD i 0 = f (v.getD i 0) (w.getD i 0) := by
  have h3 : i < (List.zipWith f v w).length := by rw [List.length_zipWith]; omega
  rw [at_lt h3, List.getElem_zipWith, at_lt h1, at_lt h2]
theorem map_get {f : Int → Int} {v : RowI} {i : Nat} (h1 : i < v.length) : (v.map f).getD i 0 = f (v.getD i 0) := by
  rw [at_lt (by rw [List.length_map]; exact h1), List.getElem_map, at_lt h1]
theorem row_get {r : RowI} {i : Nat} {x : V} (h : (r.map V.int)[i]? = some x) : i < r.length ∧ x = .int (r.getD i 0) := by
  have hi : i < r.length := by
    have := (List.getElem?_eq_some_iff.mp h).1
    rwa [List.length_map] at this
  rw [row_at hi] at h
  exact ⟨hi, (Option.some.inj h).symm⟩
theorem row_bd {r : RowI} {i : Nat} (hb : ∀ x ∈ r, -1000 < x ∧ x < 1000) (h : i < r.length) : -1000 < r.getD i 0 ∧ r.getD i 0 < 1000 := hb _ (by rw [at_lt h]; exact List.getElem_mem h)
section
variable {P : Program} {w : World} {K : PySem.W.Frag} {mg : Str → Option Value} {base : Heap}

/-! ### add -/
def spAdd : Sp := fun vs H Q _ => ∃ (v u : V) (rv ru : RowI) (p n : Nat), vs = [v, u, .int (p : Int)] ∧ IsRow H v rv ∧ IsRow H u ru ∧ rv.length = n ∧ ru.length = n ∧ n ≤ 1000 ∧ 0 < p ∧ RetRow H Q (addR p rv ru)
theorem ok_add {f : Addr} {fd : FuncData} {k : Nat} (F : Fun K "add" "add" sAdd f fd) (N : NoG mg) : FnOk P w K mg base CX0 (k + 1) f fd ["v", "w", "p"] spAdd := by
  refine F.ok scAdd (fun vs H Q E h => ?_) (fun cdv A outer s H vs Q E hr h => ?_)
  · obtain ⟨v, u, rv, ru, p, n, rfl, _⟩ := h
    rfl
  · obtain ⟨v, u, rv, ru, p, n, rfl, ⟨a, rfl, ha⟩, ⟨b, rfl, hb⟩, hn1, hn2, hn, hp, q⟩ := h
    refine ⟨_, pss_one (ps_ret (pe_callTy call_tuple_of (by rfl) N.tuple (by decide +kernel) (pa_cons
      (pe_lc (own := [("x", 3), ("y", 4)]) (g := gTup K 2 (gCons (gName 3) (gCons (gName 4) gNil))) (tt := tYes) rfl scAdd.nd
        (RZ.pi_zipA (by rfl) N.zip (pa_cons (pv 0) (pa_cons (pv 1) pa_nil))) (blkOk_by (N := nAdd) (sc := defScope sAdd) (by decide +kernel))
        (fun _ _ _ _ _ => pg_tup rfl (pgs_cons (pg_name (i := 3) scAdd.nd rfl (Or.inl rfl)) (pgs_cons (pg_name (i := 4) scAdd.nd rfl (Or.inl rfl)) pgs_nil)))
        (fun _ _ _ _ _ => pts_nil) (fun _ _ _ _ _ => pe_op op_mod (pe_op op_add (pv 3) (pv 4)) (pv 2))) pa_nil))), ?_⟩
    have sa : SqT K H a (rv.map V.int) := SqT.of ha
    have sb : SqT K H b (ru.map V.int) := SqT.of hb
    have la : (rv.map V.int).length = n := by rw [List.length_map]; exact hn1
    have lb : (ru.map V.int).length = n := by rw [List.length_map]; exact hn2
    refine ⟨.ref a, rfl, .ref b, rfl, a, b, _, _, rfl, .inr ⟨sa, sb, fun D hD => ?_⟩⟩
    refine lc_all (walk_zipT la lb) (by omega) (fun i y _ => y = .int ((addR p rv ru).getD i 0)) (fun _ _ _ _ _ e => e) hD (fun H' e => ⟨SqT.of (e _ _ ha), SqT.of (e _ _ hb)⟩) ypair_same (fun i x H1 H2 hi e y => ?_) gPair_mono (fun H' xs e hD' hl hx => ?_)
    · obtain ⟨T, x1, x2, rfl, nT, rfl, g1, g2⟩ := y
      obtain ⟨l1, rfl⟩ := row_get g1
      obtain ⟨l2, rfl⟩ := row_get g2
      refine ⟨T, _, rfl, SqT.of upd_same, rfl, _, _, rfl, _, _, rfl, rfl, rfl, fun Q' k => ?_⟩
      refine ⟨_, rfl, _, rfl, _, _, rfl, rfl, _, rfl, _, _, rfl, rfl, (by show (0 : Int) < p; omega), k _ _ (Same.refl _) ?_⟩
      unfold addR
      rw [zip_get l1 l2]
    · refine ⟨D, xs, rfl, .inl ⟨SqL.of hD', fun l nl => ?_⟩⟩
      have ex : xs = (addR p rv ru).map V.int := ints_eq hl (by unfold addR; rw [List.length_zipWith]; omega) hx
      exact q _ _ (e.trans (same_new nl)) ⟨l, rfl, by rw [ex]; exact upd_same⟩

/-! ### scaled -/
def spScl : Sp := fun vs H Q _ => ∃ (v : V) (rv : RowI) (a : Int) (p : Nat), vs = [v, .int a, .int (p : Int)] ∧ IsRow H v rv ∧ rv.length ≤ 1000 ∧ (∀ x ∈ rv, -1000 < x ∧ x < 1000) ∧ 0 < p ∧ RetRow H Q (sclR p rv a)
theorem ok_scl {f : Addr} {fd : FuncData} {k : Nat} (F : Fun K "scaled" "scaled" sScl f fd) (N : NoG mg) : FnOk P w K mg base CX0 (k + 1) f fd ["v", "a", "p"] spScl := by
  refine F.ok scScl (fun vs H Q E h => ?_) (fun cdv A outer s H vs Q E hr h => ?_)
  · obtain ⟨v, rv, a, p, rfl, _⟩ := h
    rfl
  · obtain ⟨v, rv, c, p, rfl, ⟨a, rfl, ha⟩, hn, hb, hp, q⟩ := h
    refine ⟨_, pss_one (ps_ret (pe_callTy call_tuple_of (by rfl) N.tuple (by decide +kernel) (pa_cons
      (pe_lc (own := [("x", 3)]) (g := gName 3) (tt := tYes) rfl scScl.nd (pi_tup (pv 0)) (blkOk_by (N := nScl) (sc := defScope sScl) (by decide +kernel))
        (fun _ _ _ _ _ => pg_name (i := 3) scScl.nd rfl (Or.inl rfl)) (fun _ _ _ _ _ => pts_nil) (fun _ _ _ _ _ => pe_op op_mod (pe_op op_mul (pv 3) (pv 1)) (pv 2))) pa_nil))), ?_⟩
    refine ⟨.ref a, rfl, a, rfl, ⟨_, SqT.of ha⟩, fun D hD => ?_⟩
    refine lc_all (n := rv.length) (walk_tup.mono (fun _ h => h) (fun _ _ _ _ _ _ h => h) |> fun w => (by rw [List.length_map] at w; exact w) : Walk _ rv.length (fun H => SqT K H a (rv.map V.int)) _) (by omega) (fun i y _ => y = .int ((sclR p rv c).getD i 0)) (fun _ _ _ _ _ e => e) hD (fun H' e => SqT.of (e _ _ ha)) yat_same (fun i x H1 H2 hi e y => ?_) gName_mono (fun H' xs e hD' hl hx => ?_)
    · obtain ⟨rfl, g1⟩ := y
      obtain ⟨l1, rfl⟩ := row_get g1
      have hx := row_bd hb l1
      refine ⟨rfl, fun Q' k => ?_⟩
      refine ⟨_, rfl, _, rfl, _, _, rfl, rfl, .inl ⟨by omega, by omega⟩, _, rfl, _, _, rfl, rfl, (by show (0 : Int) < p; omega), k _ _ (Same.refl _) ?_⟩
      unfold sclR
      rw [map_get l1]
    · refine ⟨D, xs, rfl, .inl ⟨SqL.of hD', fun l nl => ?_⟩⟩
      have ex : xs = (sclR p rv c).map V.int := ints_eq hl (by unfold sclR; rw [List.length_map]) hx
      exact q _ _ (e.trans (same_new nl)) ⟨l, rfl, by rw [ex]; exact upd_same⟩

/-! ### cleared -/
def spClr : Sp := fun vs H Q _ => ∃ (v u : V) (rv ru : RowI) (c p n : Nat), vs = [v, u, .int (c : Int), .int (p : Int)] ∧ IsRow H v rv ∧ IsRow H u ru ∧ rv.length = n ∧ ru.length = n ∧ c < n ∧ n ≤ 1000 ∧ (∀ x ∈ rv, -1000 < x ∧ x < 1000) ∧ 0 < p ∧ RetRow H Q (clrR p ru c rv)
theorem ok_clr {f : Addr} {fd : FuncData} {k : Nat} (F : Fun K "cleared" "cleared" sClr f fd) (N : NoG mg) : FnOk P w K mg base CX0 (k + 1) f fd ["row", "head", "at", "p"] spClr := by
  refine F.ok scClr (fun vs H Q E h => ?_) (fun cdv A outer s H vs Q E hr h => ?_)
  · obtain ⟨v, u, rv, ru, c, p, n, rfl, _⟩ := h
    rfl
  · obtain ⟨v, u, rv, ru, c, p, n, rfl, ⟨a, rfl, ha⟩, ⟨b, rfl, hb⟩, hn1, hn2, hc, hn, hbd, hp, q⟩ := h
    refine ⟨_, pss_cons (ps_if (pt_cmpR op_eq (pe_ix (ixT (K := K)) (pv 0) (pv 2) (fun _ _ => rfl)) pe_int (nomark _)) (pss_one (ps_ret (pv 0))) pss_nil) (pss_one (ps_ret (pe_callTy call_tuple_of (by rfl) N.tuple (by decide +kernel) (pa_cons
      (pe_lc (own := [("x", 4), ("y", 5)]) (g := gTup K 2 (gCons (gName 4) (gCons (gName 5) gNil))) (tt := tYes) rfl scClr.nd
        (RZ.pi_zipA (by rfl) N.zip (pa_cons (pv 0) (pa_cons (pv 1) pa_nil))) (blkOk_by (N := nClr) (sc := defScope sClr) (by decide +kernel))
        (fun _ _ _ _ _ => pg_tup rfl (pgs_cons (pg_name (i := 4) scClr.nd rfl (Or.inl rfl)) (pgs_cons (pg_name (i := 5) scClr.nd rfl (Or.inl rfl)) pgs_nil)))
        (fun _ _ _ _ _ => pts_nil) (fun _ _ _ _ _ => pe_op op_mod (pe_op op_sub (pv 4) (pe_op op_mul (pe_ix (ixT (K := K)) (pv 0) (pv 2) (fun _ _ => rfl)) (pv 5))) (pv 3))) pa_nil)))), ?_⟩
    have la : (rv.map V.int).length = n := by rw [List.length_map]; exact hn1
    have lb : (ru.map V.int).length = n := by rw [List.length_map]; exact hn2
    have hx := row_bd (i := c) hbd (by omega)
    refine ⟨_, rfl, _, rfl, a, _, _, _, rfl, rfl, SqT.of ha, atI_row (by omega), rfl, _, rfl, ite2 (fun e => ?_) (fun e => ?_)⟩
    · have e0 : rv.getD c 0 = 0 := V.int.inj (of_decide_eq_true e)
      refine ⟨.ref a, rfl, q _ _ (Same.refl _) ⟨a, rfl, ?_⟩⟩
      unfold clrR
      rw [if_pos e0]
      exact ha
    · have e0 : ¬ rv.getD c 0 = 0 := fun z => e (decide_eq_true (by rw [z]))
      refine ⟨.ref a, rfl, .ref b, rfl, a, b, _, _, rfl, .inr ⟨SqT.of ha, SqT.of hb, fun D hD => ?_⟩⟩
      refine lc_all (walk_zipT la lb) (by omega) (fun i y _ => y = .int ((clrR p ru c rv).getD i 0)) (fun _ _ _ _ _ e => e) hD (fun H' e => ⟨SqT.of (e _ _ ha), SqT.of (e _ _ hb)⟩) ypair_same (fun i x H1 H2 hi e y => ?_) gPair_mono (fun H' xs e hD' hl hx => ?_)
      · obtain ⟨T, x1, x2, rfl, nT, rfl, g1, g2⟩ := y
        obtain ⟨l1, rfl⟩ := row_get g1
        obtain ⟨l2, rfl⟩ := row_get g2
        refine ⟨T, _, rfl, SqT.of upd_same, rfl, _, _, rfl, _, _, rfl, rfl, rfl, fun Q' k => ?_⟩
        refine ⟨_, rfl, .ref a, rfl, _, rfl, a, _, _, _, rfl, rfl, SqT.of ((e.trans (same_new nT)) _ _ ha), atI_row (by omega), _, rfl, _, _, rfl, rfl, .inl ⟨by omega, by omega⟩, _, _, rfl, rfl, _, rfl, _, _, rfl, rfl, (by show (0 : Int) < p; omega), k _ _ (Same.refl _) ?_⟩
        unfold clrR
        rw [if_neg e0, zip_get l1 l2]
      · refine ⟨D, xs, rfl, .inl ⟨SqL.of hD', fun l nl => ?_⟩⟩
        have ex : xs = (clrR p ru c rv).map V.int := ints_eq hl (by unfold clrR; rw [if_neg e0, List.length_zipWith]; omega) hx
        exact q _ _ (e.trans (same_new nl)) ⟨l, rfl, by rw [ex]; exact upd_same⟩

/-! ### inverse -/
theorem inv_first {p : Nat} {a : Int} {i : Nat} (h1 : i < p - 1) (h2 : a * (1 + (i : Int)) % (p : Int) = 1) (h3 : ∀ j, j < i → ¬ a * (1 + (j : Int)) % (p : Int) = 1) : invR p a = 1 + (i : Int) := by
  have e : (List.range (p - 1)).find? (fun i : Nat => decide (a * (1 + (i : Int)) % (p : Int) = 1)) = some i := by
    rw [List.find?_range_eq_some]
    refine ⟨decide_eq_true h2, List.mem_range.mpr h1, fun j hj => ?_⟩
    simp only [Bool.not_eq_true', decide_eq_false_iff_not]
    exact h3 j hj
  unfold invR
  rw [e]
theorem inv_some {p : Nat} {a : Int} (hp : Pr4 p) (h0 : 0 < a) (h1 : a < (p : Int)) : ∃ i, i < p - 1 ∧ a * (1 + (i : Int)) % (p : Int) = 1 := by
  have h := invR_spec hp h0 h1
  refine ⟨(invR p a - 1).toNat, ?_, ?_⟩
  · omega
  · have e : (1 + ((invR p a - 1).toNat : Int)) = invR p a := by
      have : invR p a ≠ 0 := fun z => by rw [z] at h; simp at h
      omega
    rw [e]; exact h.2.2
def spInv : Sp := fun vs H Q _ => ∃ (a : Int) (p : Nat), vs = [.int a, .int (p : Int)] ∧ Pr4 p ∧ 0 < a ∧ a < (p : Int) ∧ Q (.int (invR p a)) H
theorem ok_inv {f : Addr} {fd : FuncData} {k : Nat} (F : Fun K "inverse" "inverse" sInv f fd) (N : NoG mg) : FnOk P w K mg base CX0 (k + 1) f fd ["a", "p"] spInv := by
  refine F.ok scInv (fun vs H Q E h => ?_) (fun cdv A outer s H vs Q E hr h => ?_)
  · obtain ⟨a, p, rfl, _⟩ := h
    rfl
  · obtain ⟨a, p, rfl, hp, h0, h1, q⟩ := h
    have hp7 : p ≤ 7 := by unfold Pr4 at hp; omega
    have hp1 := hp.pos
    refine ⟨_, pss_cons (ps_for PassesOwn.never rfl (pi_range2 (by rfl) N.range (pa_cons pe_int (pa_cons (pv 1) pa_nil))) (pg_name (i := 2) scInv.nd rfl (Or.inl rfl))
      (pss_one (ps_if (pt_cmpR op_eq (pe_op op_mod (pe_op op_mul (pv 0) (pv 2)) (pv 1)) pe_int (nomark _)) (pss_one (ps_ret (pv 2))) pss_nil))) (pss_one ps_never), ?_⟩
    refine ⟨_, rfl, _, _, rfl, ⟨by omega, by omega, by omega, by omega⟩, ?_⟩
    refine for_range (lo := 1) (n := ((p : Int) - 1).toNat) (fun i σ H' => H' = H ∧ (∃ y, σ = [some (.int a), some (.int (p : Int)), y]) ∧ ∀ j, j < i → ¬ a * (1 + (j : Int)) % (p : Int) = 1) ⟨rfl, ⟨none, rfl⟩, fun j hj => absurd hj (Nat.not_lt_zero _)⟩ (fun i σ H' hi pv => ?_) (fun σ H' pv => ?_)
    · obtain ⟨rfl, ⟨y, rfl⟩, hno⟩ := pv
      refine ⟨_, rfl, _, rfl, _, _, rfl, rfl, .inl ⟨by omega, by omega⟩, _, rfl, _, _, rfl, rfl, (by show (0 : Int) < p; omega), rfl, _, rfl, ite2 (fun e => ?_) (fun e => ?_)⟩
      · have e0 : a * (1 + (i : Int)) % (p : Int) = 1 := V.int.inj (of_decide_eq_true e)
        refine ⟨_, rfl, ?_⟩
        rw [← inv_first (by omega) e0 hno]
        exact q
      · have e0 : ¬ a * (1 + (i : Int)) % (p : Int) = 1 := fun z => e (decide_eq_true (congrArg V.int z))
        refine ⟨rfl, ⟨_, rfl⟩, fun j hj => ?_⟩
        rcases Nat.lt_succ_iff_lt_or_eq.mp hj with h | h
        · exact hno j h
        · rw [h]; exact e0
    · obtain ⟨rfl, _, hno⟩ := pv
      obtain ⟨i, hi, e⟩ := inv_some hp h0 h1
      exact hno i (by omega) e
end
end K04W
end

section
set_option Elab.async false
set_option linter.all false
set_option maxRecDepth 100000
set_option maxHeartbeats 4000000
/-! K04B: reduced. -/
namespace K04W
open PySem PySem.Spec PyProof.Rows L2 K04
abbrev sRed : Stmt := topS 9
abbrev nRed : List Str := ["rows", "width", "p", "left", "found", "pivots", "at", "heads", "head", "row", "k"]
theorem scRed : FnScope nRed ["rows", "width", "p"] (defScope sRed) := ⟨rfl, rfl, rfl, by decide +kernel, rfl, by decide +kernel, by decide +kernel⟩
/-- a list or a tuple of rows -/
def IsSq (K : PySem.W.Frag) (H : Hp) (v : V) (rs : List RowI) : Prop := ∃ a xs, v = .ref a ∧ (H a = some (.lst xs) ∨ H a = some (.tup xs)) ∧ Rws H xs rs
def pairsV (L : List (Nat × RowI)) : List V := L.map fun x => .int (x.1 : Int)
section
variable {P : Program} {w : World} {K : PySem.W.Frag} {mg : Str → Option Value} {base : Heap}
def spRed (K : PySem.W.Frag) : Sp := fun vs H Q _ => ∃ (v : V) (rs : List RowI) (n p : Nat), vs = [v, .int (n : Int), .int (p : Int)] ∧ IsSq K H v rs ∧ Pr4 p ∧ (∀ r ∈ rs, Can p n r) ∧ rs.length ≤ 1000 ∧ n ≤ 100 ∧
  ∀ H' t ft pt fs, Same H H' → H' t = some (.tup [.ref ft, .ref pt]) → H' ft = some (.tup fs) → Rws H' fs (spanR p n rs) → H' pt = some (.tup (pairsV (tabR p n rs))) → Q (.ref t) H'
theorem heads_map {ls : List V} {left : List RowI} {c : Nat} (h : ls.length = left.length) :
    ((List.range ls.length).filter fun k => !decide ((left.getD k []).getD c 0 = 0)).map (fun k : Nat => V.int ((0 : Int) + (k : Int))) = (headsR left c).map fun k : Nat => V.int (k : Int) := by
  unfold headsR
  rw [h]
  refine List.map_congr_left fun k _ => ?_
  rw [Int.zero_add]
/-- the state ahead of the m-th place -/
structure RSt (H : Hp) (rs : List RowI) (n p m : Nat) (v : V) (σ : L2.St) (H' : Hp) : Prop where
  same : Same H H'
  ex : ∃ (l f q : Addr) (ls fs : List V) (y6 y7 y8 : Option V), σ = [some v, some (.int (n : Int)), some (.int (p : Int)), some (.ref l), some (.ref f), some (.ref q), y6, y7, y8, none, none] ∧
    H l = none ∧ H f = none ∧ H q = none ∧ q ≠ l ∧ q ≠ f ∧ f ≠ l ∧ H' l = some (.lst ls) ∧ Rws H' ls (redTo p rs m).1 ∧ H' f = some (.lst fs) ∧ Rws H' fs ((redTo p rs m).2.map (·.2)) ∧ H' q = some (.lst (pairsV (redTo p rs m).2))
theorem ok_red {f : Addr} {fd : FuncData} {k : Nat} (F : Fun K "reduced" "reduced" sRed f fd) (N : NoG mg) {fI fS fC : Addr} {dI dS dC : FuncData}
    (FI : Fun K "inverse" "inverse" sInv fI dI) (bI : Binds K dI ["a", "p"] []) (gI : mg "inverse" = some (.ref fI))
    (FS : Fun K "scaled" "scaled" sScl fS dS) (bS : Binds K dS ["v", "a", "p"] []) (gS : mg "scaled" = some (.ref fS))
    (FC : Fun K "cleared" "cleared" sClr fC dC) (bC : Binds K dC ["row", "head", "at", "p"] []) (gC : mg "cleared" = some (.ref fC)) :
    FnOk P w K mg base CX0 2 f fd ["rows", "width", "p"] (spRed K) := by
  have GI : FnOk P w K mg base CX0 1 fI dI ["a", "p"] spInv := ok_inv FI N
  have GS : FnOk P w K mg base CX0 1 fS dS ["v", "a", "p"] spScl := ok_scl FS N
  have GC : FnOk P w K mg base CX0 1 fC dC ["row", "head", "at", "p"] spClr := ok_clr FC N
  refine F.ok scRed (fun vs H Q E h => ?_) (fun cdv A outer s H vs Q E hr h => ?_)
  · obtain ⟨v, rs, n, p, rfl, _⟩ := h
    rfl
  · obtain ⟨v, rs, n, p, rfl, ⟨a, xs, rfl, hsq, hrs⟩, hp, hcan, hlen, hn, q⟩ := h
    refine ⟨_, pss_cons (ps_set (i := 3) scRed.nd rfl (Or.inr rfl)
        (pe_lc (own := [("row", 9)]) (g := gName 9) (tt := tYes) rfl scRed.nd (pi_seqV 0) (blkOk_by (N := nRed) (sc := defScope sRed) (by decide +kernel))
          (fun _ _ _ _ _ => pg_name (i := 9) scRed.nd rfl (Or.inl rfl)) (fun _ _ _ _ _ => pts_nil) (fun _ _ _ _ _ => pe_callTy (ctup (K := K)) (by rfl) N.tuple (by decide +kernel) (pa_cons (pv 9) pa_nil))))
      (pss_cons (ps_set (i := 4) scRed.nd rfl (Or.inl rfl) (pe_lst pa_nil))
      (pss_cons (ps_set (i := 5) scRed.nd rfl (Or.inl rfl) (pe_lst pa_nil))
      (pss_cons (ps_for PassesOwn.never rfl (pi_range1 (by rfl) N.range (pa_cons (pv 1) pa_nil)) (pg_name (i := 6) scRed.nd rfl (Or.inr rfl))
        (pss_cons (ps_setLc (i := 7) (own := [("k", 10)]) (g := gName 10) rfl scRed.nd rfl rfl (sw_true rfl rfl rfl (by decide +kernel))
            (pi_range1 (by rfl) N.range (pa_cons (pe_callB call_len_seq (by rfl) N.len PySem.boot_len (pa_cons (pv 3) pa_nil)) pa_nil)) (blkOk_by (N := nRed) (sc := defScope sRed) (by decide +kernel))
            (fun _ _ _ _ _ => pg_name (i := 10) scRed.nd rfl (Or.inl rfl))
            (fun _ _ _ _ _ => pts_one (pt_cmpR op_ne (pe_ix (ixT (K := K)) (pe_ix (ixL (K := K)) (pv 3) (pv 10) (fun _ _ => rfl)) (pv 6) (fun _ _ => rfl)) pe_int (nomark _))) (fun _ _ _ _ _ => pv 10))
        (pss_one (ps_if (pt_cmpR op_gt (pe_callB call_len_seq (by rfl) N.len PySem.boot_len (pa_cons (pv 7) pa_nil)) pe_int (nomark _))
          (pss_cons (ps_set (i := 8) scRed.nd rfl (Or.inr rfl) (pe_bm PySem.F.plainAttrs_list PySem.F.slot_list_pop PySem.F.type_list_pop mt_popAt (pv 3) (pa_cons (pe_ix ix_list (pv 7) pe_int (fun _ _ => rfl)) pa_nil)))
          (pss_cons (ps_set (i := 8) scRed.nd rfl (Or.inr rfl) (pe_call GS hr (by rfl) gS FS.kp bS .nil pass0 (pa_cons (pv 8) (pa_cons (pe_call GI hr (by rfl) gI FI.kp bI .nil pass0 (pa_cons (pe_ix ix_tup (pv 8) (pv 6) (fun _ _ => rfl)) (pa_cons (pv 2) pa_nil))) (pa_cons (pv 2) pa_nil)))))
          (pss_cons (ps_set (i := 3) scRed.nd rfl (Or.inr rfl)
            (pe_lc (own := [("row", 9)]) (g := gName 9) (tt := tYes) rfl scRed.nd (pi_list (pv 3)) (blkOk_by (N := nRed) (sc := defScope sRed) (by decide +kernel))
              (fun _ _ _ _ _ => pg_name (i := 9) scRed.nd rfl (Or.inl rfl)) (fun _ _ _ _ _ => pts_nil)
              (fun _ _ _ _ _ => pe_call GC hr (by rfl) gC FC.kp bC .nil pass0 (pa_cons (pv 9) (pa_cons (pv 8) (pa_cons (pv 6) (pa_cons (pv 2) pa_nil)))))))
          (pss_cons (ps_set (i := 4) scRed.nd rfl (Or.inl rfl) (pe_op op_cat
            (pe_lc (own := [("row", 9)]) (g := gName 9) (tt := tYes) rfl scRed.nd (pi_list (pv 4)) (blkOk_by (N := nRed) (sc := defScope sRed) (by decide +kernel))
              (fun _ _ _ _ _ => pg_name (i := 9) scRed.nd rfl (Or.inl rfl)) (fun _ _ _ _ _ => pts_nil)
              (fun _ _ _ _ _ => pe_call GC hr (by rfl) gC FC.kp bC .nil pass0 (pa_cons (pv 9) (pa_cons (pv 8) (pa_cons (pv 6) (pa_cons (pv 2) pa_nil))))))
            (pe_lst (pa_cons (pv 8) pa_nil))))
          (pss_one (ps_expr (pe_bm PySem.F.plainAttrs_list PySem.F.slot_list_append PySem.F.type_list_append mt_append (pv 5) (pa_cons (pv 6) pa_nil))))))))
          pss_nil))))
      (pss_one (ps_ret (pe_tup (pa_cons (pe_callTy call_tuple_of (by rfl) N.tuple (by decide +kernel) (pa_cons (pv 4) pa_nil)) (pa_cons (pe_callTy call_tuple_of (by rfl) N.tuple (by decide +kernel) (pa_cons (pv 5) pa_nil)) pa_nil)))))))), ?_⟩
    -- left
    refine ⟨_, a, xs, rfl, rfl, hsq, fun J wJ D hD => ?_⟩
    refine lc_all wJ (by have := hrs.length; omega) (fun i y _ => xs[i]? = some y) (fun _ _ _ _ _ e => e) hD (fun _ e => e) yat_same (fun i x H1 H2 hi e y => ?_) gName_mono (fun H1 ls e hD' hl hx => ?_)
    · obtain ⟨rfl, g1⟩ := y
      obtain ⟨r, _, b, rfl, hb⟩ := hrs.get g1
      exact ⟨rfl, fun Q' k => ⟨_, rfl, b, _, rfl, .inr ⟨SqT.of (e _ _ hb), k _ _ (Same.refl _) g1⟩⟩⟩
    · have els : ls = xs := List.ext_getElem hl fun i h1 h2 => by
        have := hx i _ (List.getElem?_eq_getElem h1)
        rw [List.getElem?_eq_getElem h2] at this
        exact (Option.some.inj this).symm
      subst els
      -- found, pivots
      refine ⟨Nat.zero_le _, fun f nf => ⟨Nat.zero_le _, fun q0 nq => ?_⟩⟩
      refine ⟨_, rfl, (n : Int), rfl, by omega, by omega, ?_⟩
      have s2 : Same H1 (upd H1 f (.lst [])) := same_new nf
      have s3 : Same (upd H1 f (.lst [])) (upd (upd H1 f (.lst [])) q0 (.lst [])) := same_new nq
      have fD : f ≠ D := fun z => by rw [z, hD'] at nf; cases nf
      have qf : q0 ≠ f := fun z => by rw [z, upd_same] at nq; cases nq
      have qD : q0 ≠ D := fun z => by rw [z, s2 _ _ hD'] at nq; cases nq
      refine for_range (lo := 0) (n := n) (fun m σ H' => RSt H rs n p m (.ref a) σ H') ⟨(e.trans s2).trans s3, D, f, q0, ls, [], none, none, none, rfl, hD, e.free nf, e.free (s2.free nq), qD, qf, fD, s3 _ _ (s2 _ _ hD'), (hrs.tm (tm_of ((e.trans s2).trans s3))), ?_, .nil, upd_same⟩ (fun i σ H' hi pv => ?_) (fun σ H' pv => ?_)
      · rw [upd_ne (fun z => qf z.symm)]; exact upd_same
      · -- one turn
        obtain ⟨sm, l, f, q0, ls, fs, y6, y7, y8, rfl, nl, nf, nq, hql, hqf, hfl, hl, rl, hf, rf, hq⟩ := pv
        have e0 : (0 : Int) + (i : Int) = (i : Int) := Int.zero_add _
        rw [e0]
        obtain ⟨cl, cf⟩ := red_can hp hcan i
        have hlen2 := red_len (p := p) (rows := rs) i
        have ll := rl.length
        have lf := rf.length
        rw [List.length_map] at lf
        refine ⟨_, rfl, l, ls, rfl, .inl (SqL.of hl), _, rfl, by omega, by omega, fun D hD => ?_⟩
        refine lc_fil (n := ls.length) walk_range (by omega) (fun k => !decide (((redTo p rs i).1.getD k []).getD i 0 = 0)) (fun k => .int ((0 : Int) + (k : Int))) hD (fun _ _ => trivial) yfn_same (fun k x H1 H2 hk e y => ?_) gName_mono (fun H5 e5 h5 => ?_)
        · obtain ⟨rfl, rfl⟩ := y
          refine ⟨rfl, fun Q' H3 h => ⟨_, rfl, h⟩, fun Q' kk => ?_⟩
          obtain ⟨r, hr1, b, eb, hb⟩ := rl.get (List.getElem?_eq_getElem hk)
          have hk2 : k < (redTo p rs i).1.length := by omega
          have er : (redTo p rs i).1.getD k [] = r := by simp [List.getD_eq_getElem?_getD, hr1]
          have cr : Can p n r := cl r (List.mem_of_getElem? hr1)
          refine ⟨.ref l, rfl, _, rfl, l, ls, _, _, rfl, rfl, SqL.of (e _ _ hl), (by rw [Int.zero_add]; exact atI_nat (List.getElem?_eq_getElem hk)), _, rfl, b, _, _, _, eb, rfl, SqT.of (e _ _ hb), atI_row (by rw [cr.1]; exact hi), rfl, _, rfl, ?_⟩
          have ed : (!decide (V.int (r.getD i 0) = V.int 0)) = !decide (((redTo p rs i).1.getD k []).getD i 0 = 0) := by
            rw [er]
            refine congrArg (! ·) ?_
            by_cases z : r.getD i 0 = 0
            · rw [decide_eq_true z, decide_eq_true (congrArg V.int z)]
            · rw [decide_eq_false z, decide_eq_false (fun y => z (V.int.inj y))]
          rw [ed]
          exact kk _ (Same.refl _)
        · rw [heads_map ll] at h5
          have sm5 : Same H H5 := sm.trans e5
          cases hh : headsR (redTo p rs i).1 i with
          | nil =>
            rw [hh] at h5
            refine ⟨_, rfl, D, _, rfl, .inl (SqL.of h5), _, _, rfl, rfl, _, rfl, ite2 (fun e => ?_) (fun e => ?_)⟩
            · exact absurd e (by decide)
            · refine ⟨sm5, l, f, q0, ls, fs, some (.int (i : Int)), some (.ref D), y8, rfl, nl, nf, nq, hql, hqf, hfl, e5 _ _ hl, ?_, e5 _ _ hf, ?_, ?_⟩
              · rw [redTo_succ, step_nil hh]; exact rl.tm (tm_of e5)
              · rw [redTo_succ, step_nil hh]; exact rf.tm (tm_of e5)
              · rw [redTo_succ, step_nil hh]; exact e5 _ _ hq
          | cons k ks =>
            rw [hh] at h5
            obtain ⟨hk, ek, hne⟩ := headsR_cons hh
            have hkl : k < ls.length := by omega
            obtain ⟨r, hr1, b, eb, hb⟩ := rl.get (List.getElem?_eq_getElem hkl)
            have er : (redTo p rs i).1[k] = r := by
              rw [List.getElem?_eq_getElem hk] at hr1
              exact Option.some.inj hr1
            rw [er] at hne ek
            have cr : Can p n r := cl r (List.mem_of_getElem? hr1)
            have ir : i < r.length := by rw [cr.1]; exact hi
            have hat := cr.at (by have := hp.pos; omega) i
            refine ⟨_, rfl, D, _, rfl, .inl (SqL.of h5), _, _, rfl, rfl, _, rfl, ite2 (fun _ => ?_) (fun e => absurd (decide_eq_true (show (0 : Int) < ((((k :: ks).map fun k : Nat => V.int (k : Int)).length : Nat) : Int) by rw [List.length_map, List.length_cons]; omega)) e)⟩
            have hl5 := e5 _ _ hl
            have lD : l ≠ D := ne_of_none hl hD
            -- head = left.pop(heads[0])
            refine ⟨.ref l, rfl, .inl ⟨rfl, _, SqL.of hl5⟩, .ref D, rfl, D, _, 0, .int (k : Int), rfl, rfl, SqL.of h5, atI_nat (j := 0) rfl, l, ls, (k : Int), k, .ref b, rfl, rfl, hl5, by omega, by omega, seqIndex_of (by omega) (by omega), (by rw [List.getElem?_eq_getElem hkl]; exact congrArg some eb), ?_⟩
            have t6 : Tm H5 (upd H5 l (.lst (ls.eraseIdx k))) := tm_lst hl5
            have sm6 : Same H (upd H5 l (.lst (ls.eraseIdx k))) := same_mut sm5 nl
            have hb6 : (upd H5 l (.lst (ls.eraseIdx k))) b = some (.tup (r.map V.int)) := t6 _ _ (e5 _ _ hb)
            -- head = scaled(head, inverse(head[at], p), p)
            refine ⟨_, rfl, _, rfl, _, rfl, b, _, _, _, rfl, rfl, SqT.of hb6, atI_row ir, _, rfl, r.getD i 0, p, rfl, hp, by omega, hat.2, _, rfl, .ref b, r, _, p, rfl, ⟨b, rfl, hb6⟩, by rw [cr.1]; omega, can_bd hp cr, by have := hp.pos; omega, fun H7 hv e7 hrow => ?_⟩
            have ehd : sclR p r (invR p (r.getD i 0)) = headR p (redTo p rs i).1 i k := by unfold headR; rw [ek]
            rw [ehd] at hrow
            have chd : Can p n (headR p (redTo p rs i).1 i k) := by rw [← ehd]; exact can_scl (by have := hp.pos; omega) _ cr
            have sm7 : Same H H7 := sm6.trans e7
            have hl7 : H7 l = some (.lst (ls.eraseIdx k)) := e7 _ _ upd_same
            have tm7 : Tm H' H7 := (tm_of e5).trans (t6.trans (tm_of e7))
            have hf7 : H7 f = some (.lst fs) := e7 _ _ (by rw [upd_ne hfl]; exact e5 _ _ hf)
            have hq7 : H7 q0 = some (.lst (pairsV (redTo p rs i).2)) := e7 _ _ (by rw [upd_ne hql]; exact e5 _ _ hq)
            have rl7 : Rws H7 (ls.eraseIdx k) ((redTo p rs i).1.eraseIdx k) := (rl.tm tm7).erase k
            have hp0 : 0 < p := by have := hp.pos; omega
            -- left = [cleared(..) ..]
            refine ⟨_, rfl, l, rfl, ⟨_, SqL.of hl7⟩, fun D2 hD2 => ?_⟩
            refine lc_all walk_list (by rw [List.length_eraseIdx_of_lt hkl]; omega) (fun j y H => ∃ r', (((redTo p rs i).1.eraseIdx k).map (clrR p (headR p (redTo p rs i).1 i k) i))[j]? = some r' ∧ IsRow H y r') (fun _ _ _ _ t h => let ⟨r', h1, h2⟩ := h; ⟨r', h1, h2.tm t⟩)
              hD2 (fun H' e => SqL.of (e _ _ hl7)) yat_same (fun j x H1 H2 hj e y => ?_) gName_mono (fun H8 ls2 e8 hD8 hl8 hx8 => ?_)
            · obtain ⟨rfl, g1⟩ := y
              obtain ⟨r', g2, g3⟩ := rl7.get g1
              have cr' : Can p n r' := cl r' (List.mem_of_mem_eraseIdx (List.mem_of_getElem? g2))
              exact ⟨rfl, fun Q' kk => ⟨_, rfl, _, rfl, _, rfl, _, rfl, x, hv, r', _, i, p, n, rfl, g3.tm (tm_of e), hrow.tm (tm_of e), cr'.1, chd.1, hi, by omega, can_bd hp cr', hp0, fun H' v s hr => kk v H' s ⟨_, by rw [List.getElem?_map, g2]; rfl, hr⟩⟩⟩
            · have rl8 : Rws H8 ls2 (((redTo p rs i).1.eraseIdx k).map (clrR p (headR p (redTo p rs i).1 i k) i)) := Rws.of_get (by rw [hl8, List.length_map]; exact rl7.length) hx8
              have hf8 := e8 _ _ hf7
              have hq8 := e8 _ _ hq7
              have rf8 := rf.tm (tm7.trans (tm_of e8))
              -- found = [cleared(..) ..] + [head]
              refine ⟨_, rfl, f, rfl, ⟨_, SqL.of hf8⟩, fun D3 hD3 => ?_⟩
              refine lc_all walk_list (by omega) (fun j y H => ∃ r', (((redTo p rs i).2.map (·.2)).map (clrR p (headR p (redTo p rs i).1 i k) i))[j]? = some r' ∧ IsRow H y r') (fun _ _ _ _ t h => let ⟨r', h1, h2⟩ := h; ⟨r', h1, h2.tm t⟩)
                hD3 (fun H' e => SqL.of (e _ _ hf8)) yat_same (fun j x H1 H2 hj e y => ?_) gName_mono (fun H9 fs2 e9 hD9 hl9 hx9 => ?_)
              · obtain ⟨rfl, g1⟩ := y
                obtain ⟨r', g2, g3⟩ := rf8.get g1
                have cr' : Can p n r' := by
                  obtain ⟨x', hx', rfl⟩ := List.mem_map.mp (List.mem_of_getElem? g2)
                  exact cf x' hx'
                exact ⟨rfl, fun Q' kk => ⟨_, rfl, _, rfl, _, rfl, _, rfl, x, hv, r', _, i, p, n, rfl, g3.tm (tm_of e), hrow.tm (tm_of (e8.trans e)), cr'.1, chd.1, hi, by omega, can_bd hp cr', hp0, fun H' v s hr => kk v H' s ⟨_, by rw [List.getElem?_map, g2]; rfl, hr⟩⟩⟩
              · have rf9 : Rws H9 fs2 (((redTo p rs i).2.map (·.2)).map (clrR p (headR p (redTo p rs i).1 i k) i)) := Rws.of_get (by rw [hl9, List.length_map]; exact rf8.length) hx9
                refine ⟨hv, rfl, by show 1 ≤ sizeLine; decide, fun D4 nD4 => ?_⟩
                have s10 : Same H9 (upd H9 D4 (.lst [hv])) := same_new nD4
                refine ⟨D3, D4, fs2, [hv], rfl, rfl, s10 _ _ hD9, upd_same, sz (by rw [hl9, List.length_singleton]; omega), fun D5 nD5 => ?_⟩
                have s11 : Same (upd H9 D4 (.lst [hv])) (upd (upd H9 D4 (.lst [hv])) D5 (.lst (fs2 ++ [hv]))) := same_new nD5
                have s79 : Same H7 (upd (upd H9 D4 (.lst [hv])) D5 (.lst (fs2 ++ [hv]))) := ((e8.trans e9).trans s10).trans s11
                have hq11 := s79 _ _ hq7
                -- pivots.append(at)
                refine ⟨.ref q0, rfl, .inl ⟨rfl, _, SqL.of hq11⟩, .int (i : Int), rfl, q0, _, _, rfl, rfl, hq11, sz' (by unfold pairsV; rw [List.length_map]; omega), ?_⟩
                have t12 := tm_lst (o := .lst (pairsV (redTo p rs i).2 ++ [.int (i : Int)])) hq11
                have hq2 : q0 ≠ D2 := ne_of_none hq7 hD2
                have hq5 : q0 ≠ D5 := ne_of_none ((((e8.trans e9).trans s10)) _ _ hq7) nD5
                have h52 : D5 ≠ D2 := fun z => by
                  have := (e9.trans s10) _ _ hD8
                  rw [← z, nD5] at this
                  cases this
                refine ⟨same_mut (sm7.trans s79) nq, D2, D5, q0, ls2, fs2 ++ [hv], some (.int (i : Int)), some (.ref D), some hv, rfl, sm7.free hD2, sm7.free (((e8.trans e9).trans s10).free nD5), nq, hq2, hq5, h52, ?_, ?_, ?_, ?_, ?_⟩
                · rw [upd_ne hq2.symm]
                  exact ((e9.trans s10).trans s11) _ _ hD8
                · rw [redTo_succ, step_cons hh]
                  exact rl8.tm ((tm_of ((e9.trans s10).trans s11)).trans t12)
                · rw [upd_ne hq5.symm]
                  exact upd_same
                · rw [redTo_succ, step_cons hh]
                  show Rws _ _ (List.map (·.2) ((redTo p rs i).2.map (fun x => (x.1, clrR p (headR p (redTo p rs i).1 i k) i x.2)) ++ [(i, headR p (redTo p rs i).1 i k)]))
                  rw [List.map_append, List.map_map]
                  rw [List.map_map] at rf9
                  exact Rws.append (rf9.tm ((tm_of (s10.trans s11)).trans t12)) (.cons (hrow.tm ((tm_of s79).trans t12)) .nil)
                · rw [redTo_succ, step_cons hh, upd_same]
                  show some (HO.lst _) = some (HO.lst (List.map _ ((redTo p rs i).2.map (fun x => (x.1, clrR p (headR p (redTo p rs i).1 i k) i x.2)) ++ [(i, headR p (redTo p rs i).1 i k)])))
                  rw [List.map_append, List.map_map]
                  rfl
      · -- return (tuple(found), tuple(pivots))
        obtain ⟨sm, l, f, q0, ls, fs, y6, y7, y8, rfl, nl, nf, nq, hql, hqf, hfl, hl, rl, hf, rf, hq⟩ := pv
        refine ⟨_, rfl, f, fs, rfl, .inl ⟨SqL.of hf, fun l1 n1 => ?_⟩⟩
        have s1 : Same H' (upd H' l1 (.tup fs)) := same_new n1
        refine ⟨_, rfl, q0, _, rfl, .inl ⟨SqL.of (s1 _ _ hq), fun l2 n2 => ⟨by show 2 ≤ sizeLine; decide, fun t nt => ?_⟩⟩⟩
        have s2 : Same (upd H' l1 (.tup fs)) (upd (upd H' l1 (.tup fs)) l2 (.tup (pairsV (redTo p rs n).2))) := same_new n2
        have s3 := same_new (o := .tup [.ref l1, .ref l2]) nt
        exact q _ t l1 l2 fs (sm.trans (s1.trans (s2.trans s3))) upd_same (s3 _ _ (s2 _ _ upd_same)) (rf.tm (tm_of (s1.trans (s2.trans s3)))) (s3 _ _ upd_same)
end
end K04W
end

section
set_option Elab.async false
set_option linter.all false
set_option maxRecDepth 100000
set_option maxHeartbeats 4000000
/-! K04C: span, kernel, sum_of, common_part. -/
namespace K04W
open PySem PySem.Spec PyProof.Rows L2 K04
abbrev sSpan : Stmt := topS 10
abbrev nSpan : List Str := ["rows", "width", "p"]
theorem scSpan : FnScope nSpan ["rows", "width", "p"] (defScope sSpan) := ⟨rfl, rfl, rfl, by decide +kernel, rfl, by decide +kernel, by decide +kernel⟩
abbrev sKer : Stmt := topS 11
abbrev nKer : List Str := ["rows", "width", "p", "table", "pivots", "found", "free", "at", "row", "line"]
theorem scKer : FnScope nKer ["rows", "width", "p"] (defScope sKer) := ⟨rfl, rfl, rfl, by decide +kernel, rfl, by decide +kernel, by decide +kernel⟩
abbrev sSum : Stmt := topS 12
abbrev nSum : List Str := ["a", "b", "width", "p"]
theorem scSum : FnScope nSum ["a", "b", "width", "p"] (defScope sSum) := ⟨rfl, rfl, rfl, by decide +kernel, rfl, by decide +kernel, by decide +kernel⟩
abbrev sCom : Stmt := topS 13
theorem scCom : FnScope nSum ["a", "b", "width", "p"] (defScope sCom) := ⟨rfl, rfl, rfl, by decide +kernel, rfl, by decide +kernel, by decide +kernel⟩
theorem pairs_in (f : Nat) : ∀ L : List (Nat × RowI), inV (.int (f : Int)) (pairsV L) = (L.map (·.1)).contains f
  | [] => rfl
  | x :: L => by
    have ih := pairs_in f L
    show inV (.int (f : Int)) (V.int (x.1 : Int) :: pairsV L) = _
    rw [List.map_cons, List.contains_cons, ← ih]
    by_cases e : f = x.1
    · subst e; simp [inV, eqV]
    · have e2 : ¬ ((x.1 : Int) = (f : Int)) := by omega
      have e3 : (f == x.1) = false := beq_eq_false_iff_ne.mpr e
      rw [e3]
      simp [inV, eqV, e2]
theorem pairs_flat : ∀ L : List (Nat × RowI), (pairsV L).all flatV = true
  | [] => rfl
  | x :: L => by
    show (flatV (V.int (x.1 : Int)) && (pairsV L).all flatV) = true
    rw [pairs_flat L]; rfl
def kerTo (p n : Nat) (L : List (Nat × RowI)) (m : Nat) : List RowI := ((List.range m).filter (fun f => !(L.map (·.1)).contains f)).map fun f => kvR p L f (eR n f)
theorem kerTo_yes {p n m : Nat} {L : List (Nat × RowI)} (h : (L.map (·.1)).contains m = false) : kerTo p n L (m + 1) = kerTo p n L m ++ [kvR p L m (eR n m)] := by
  unfold kerTo
  rw [List.range_succ, List.filter_append, List.map_append, List.filter_cons, if_pos (by rw [h]; rfl)]
  rfl
theorem kerTo_no {p n m : Nat} {L : List (Nat × RowI)} (h : (L.map (·.1)).contains m = true) : kerTo p n L (m + 1) = kerTo p n L m := by
  unfold kerTo
  rw [List.range_succ, List.filter_append, List.map_append, List.filter_cons, if_neg (by rw [h]; decide)]
  show _ ++ [] = _
  rw [List.append_nil]
theorem kerTo_len {p n m : Nat} {L : List (Nat × RowI)} : (kerTo p n L m).length ≤ m := by
  unfold kerTo
  rw [List.length_map]
  exact Nat.le_trans (List.length_filter_le _ _) (by rw [List.length_range]; exact Nat.le_refl _)
theorem kv_take {p f i : Nat} {L : List (Nat × RowI)} {w : RowI} {x : Nat × RowI} (h : L[i]? = some x) : kvR p (L.take (i + 1)) f w = (kvR p (L.take i) f w).set x.1 (-(x.2.getD f 0) % (p : Int)) := by
  unfold kvR
  rw [List.take_add_one, h, List.foldl_append]
  rfl
theorem kv_len {p f : Nat} : ∀ {L : List (Nat × RowI)} {w : RowI}, (kvR p L f w).length = w.length
  | [], _ => rfl
  | x :: L, w => by
    show (kvR p L f (w.set _ _)).length = _
    rw [kv_len, List.length_set]
theorem tab_lt {p n : Nat} (hp : Pr4 p) {rows : List RowI} (hr : ∀ r ∈ rows, Can p n r) : ∀ x ∈ tabR p n rows, x.1 < n ∧ Can p n x.2 := by
  have hp1 := hp.pos
  haveI : NeZero p := ⟨by omega⟩
  have t := tab_ok (F := Fin p) hp hr
  exact fun x hx => ⟨t.lt x hx, t.can x hx⟩
section
variable {P : Program} {w : World} {K : PySem.W.Frag} {mg : Str → Option Value} {base : Heap}
def spSpan (K : PySem.W.Frag) : Sp := fun vs H Q _ => ∃ (v : V) (rs : List RowI) (n p : Nat), vs = [v, .int (n : Int), .int (p : Int)] ∧ IsSq K H v rs ∧ Pr4 p ∧ (∀ r ∈ rs, Can p n r) ∧ rs.length ≤ 1000 ∧ n ≤ 100 ∧ RetTab H Q (spanR p n rs)
theorem ok_span {f : Addr} {fd : FuncData} (F : Fun K "span" "span" sSpan f fd) {fR : Addr} {dR : FuncData} (FR : Fun K "reduced" "reduced" sRed fR dR) (bR : Binds K dR ["rows", "width", "p"] []) (gR : mg "reduced" = some (.ref fR))
    (GR : FnOk P w K mg base CX0 2 fR dR ["rows", "width", "p"] (spRed K)) : FnOk P w K mg base CX0 3 f fd ["rows", "width", "p"] (spSpan K) := by
  refine F.ok scSpan (fun vs H Q E h => ?_) (fun cdv A outer s H vs Q E hr h => ?_)
  · obtain ⟨v, rs, n, p, rfl, _⟩ := h
    rfl
  · obtain ⟨v, rs, n, p, rfl, hsq, hp, hcan, hlen, hn, q⟩ := h
    refine ⟨_, pss_one (ps_ret (pe_ix ix_tup (pe_call GR hr (by rfl) gR FR.kp bR .nil pass0 (pa_cons (pv 0) (pa_cons (pv 1) (pa_cons (pv 2) pa_nil)))) pe_int (fun _ _ => rfl))), ?_⟩
    refine ⟨_, rfl, _, rfl, _, rfl, v, rs, n, p, rfl, hsq, hp, hcan, hlen, hn, fun H1 t ft pt fs e ht hft hfs hpt => ?_⟩
    exact ⟨t, _, 0, _, rfl, rfl, SqT.of ht, atI_nat (j := 0) rfl, q _ ft fs e hft hfs⟩
def spSum : Sp := fun vs H Q _ => ∃ (a b : Addr) (xs ys : List V) (ra rb : List RowI) (n p : Nat), vs = [.ref a, .ref b, .int (n : Int), .int (p : Int)] ∧ H a = some (.tup xs) ∧ Rws H xs ra ∧ H b = some (.tup ys) ∧ Rws H ys rb ∧ Pr4 p ∧ (∀ r ∈ ra ++ rb, Can p n r) ∧ (ra ++ rb).length ≤ 1000 ∧ n ≤ 100 ∧ RetTab H Q (spanR p n (ra ++ rb))
theorem Rws.nil_of {H : Hp} {rs : List RowI} (h : Rws H [] rs) : rs = [] := by cases h; rfl
/-- a + b, two tables -/
theorem cat_tab {K : PySem.W.Frag} {H : Hp} {a b : Addr} {xs ys : List V} {ra rb : List RowI} (ha : H a = some (.tup xs)) (hx : Rws H xs ra) (hb : H b = some (.tup ys)) (hy : Rws H ys rb) (hl : (ra ++ rb).length ≤ 1000) {Q : VK}
    (q : ∀ t zs H', Same H H' → H' t = some (.tup zs) → Rws H' zs (ra ++ rb) → Q (.ref t) H') : rCatA K (.ref a) (.ref b) H Q := by
  have l1 := hx.length
  have l2 := hy.length
  rw [List.length_append] at hl
  refine ⟨a, b, xs, ys, rfl, rfl, SqT.of ha, SqT.of hb, sz (by omega), fun e => ?_, fun e e2 => ?_, fun e e2 t nt => ?_⟩
  · subst e
    cases hx.nil_of
    exact q b ys H (Same.refl _) hb hy
  · subst e2
    cases hy.nil_of
    refine q a xs H (Same.refl _) ha ?_
    rw [List.append_nil]; exact hx
  · exact q t _ _ (same_new nt) upd_same ((hx.append hy).tm (tm_new nt))
theorem ok_sum {f : Addr} {fd : FuncData} (F : Fun K "sum_of" "sum_of" sSum f fd) {fS : Addr} {dS : FuncData} (FS : Fun K "span" "span" sSpan fS dS) (bS : Binds K dS ["rows", "width", "p"] []) (gS : mg "span" = some (.ref fS))
    (GS : FnOk P w K mg base CX0 3 fS dS ["rows", "width", "p"] (spSpan K)) : FnOk P w K mg base CX0 4 f fd ["a", "b", "width", "p"] spSum := by
  refine F.ok scSum (fun vs H Q E h => ?_) (fun cdv A outer s H vs Q E hr h => ?_)
  · obtain ⟨a, b, xs, ys, ra, rb, n, p, rfl, _⟩ := h
    rfl
  · obtain ⟨a, b, xs, ys, ra, rb, n, p, rfl, ha, hx, hb, hy, hp, hcan, hlen, hn, q⟩ := h
    refine ⟨_, pss_one (ps_ret (pe_call GS hr (by rfl) gS FS.kp bS .nil pass0 (pa_cons (pe_op op_catA (pv 0) (pv 1)) (pa_cons (pv 2) (pa_cons (pv 3) pa_nil))))), ?_⟩
    refine ⟨_, rfl, _, rfl, cat_tab ha hx hb hy hlen fun t zs H1 e1 ht hz => ?_⟩
    exact ⟨_, rfl, _, rfl, .ref t, ra ++ rb, n, p, rfl, ⟨t, zs, rfl, .inr ht, hz⟩, hp, hcan, hlen, hn, fun H2 t2 xs2 e2 h2 h3 => q H2 t2 xs2 (e1.trans e2) h2 h3⟩

/-! ### kernel -/
def spKer (K : PySem.W.Frag) : Sp := fun vs H Q _ => ∃ (v : V) (rs : List RowI) (n p : Nat), vs = [v, .int (n : Int), .int (p : Int)] ∧ IsSq K H v rs ∧ Pr4 p ∧ (∀ r ∈ rs, Can p n r) ∧ rs.length ≤ 1000 ∧ n ≤ 100 ∧ RetTab H Q (kernelR p n rs)
/-- the state ahead of the m-th place -/
structure KSt (H : Hp) (L : List (Nat × RowI)) (n p m : Nat) (v : V) (ft pt : Addr) (σ : L2.St) (H' : Hp) : Prop where
  same : Same H H'
  ex : ∃ (fo : Addr) (fs : List V) (y6 y7 y8 y9 : Option V), σ = [some v, some (.int (n : Int)), some (.int (p : Int)), some (.ref ft), some (.ref pt), some (.ref fo), y6, y7, y8, y9] ∧ H fo = none ∧ H' fo = some (.lst fs) ∧ Rws H' fs (kerTo p n L m)
theorem ok_ker {f : Addr} {fd : FuncData} (F : Fun K "kernel" "kernel" sKer f fd) (N : NoG mg) {fR fS : Addr} {dR dS : FuncData} (FR : Fun K "reduced" "reduced" sRed fR dR) (bR : Binds K dR ["rows", "width", "p"] []) (gR : mg "reduced" = some (.ref fR))
    (GR : FnOk P w K mg base CX0 2 fR dR ["rows", "width", "p"] (spRed K)) (FS : Fun K "span" "span" sSpan fS dS) (bS : Binds K dS ["rows", "width", "p"] []) (gS : mg "span" = some (.ref fS))
    (GS : FnOk P w K mg base CX0 3 fS dS ["rows", "width", "p"] (spSpan K)) : FnOk P w K mg base CX0 4 f fd ["rows", "width", "p"] (spKer K) := by
  refine F.ok scKer (fun vs H Q E h => ?_) (fun cdv A outer s H vs Q E hr h => ?_)
  · obtain ⟨v, rs, n, p, rfl, _⟩ := h
    rfl
  · obtain ⟨v, rs, n, p, rfl, hsq, hp, hcan, hlen, hn, q⟩ := h
    refine ⟨_, pss_cons (ps_asg (pe_call GR (hr.mono (by decide)) (by rfl) gR FR.kp bR .nil pass0 (pa_cons (pv 0) (pa_cons (pv 1) (pa_cons (pv 2) pa_nil)))) (pg_tup rfl (pgs_cons (pg_name (i := 3) scKer.nd rfl (Or.inl rfl)) (pgs_cons (pg_name (i := 4) scKer.nd rfl (Or.inl rfl)) pgs_nil))))
      (pss_cons (ps_set (i := 5) scKer.nd rfl (Or.inl rfl) (pe_lst pa_nil))
      (pss_cons (ps_for PassesOwn.never rfl (pi_range1 (by rfl) N.range (pa_cons (pv 1) pa_nil)) (pg_name (i := 6) scKer.nd rfl (Or.inr rfl))
        (pss_one (ps_if (pt_cmpR op_notIn_seq (pv 6) (pv 4) rfl)
          (pss_cons (ps_setLc (i := 8) (own := [("at", 7)]) (g := gName 7) (tt := tYes) rfl scKer.nd rfl rfl (sw_true rfl rfl rfl (by decide +kernel))
              (pi_range1 (by rfl) N.range (pa_cons (pv 1) pa_nil)) (blkOk_by (N := nKer) (sc := defScope sKer) (by decide +kernel))
              (fun _ _ _ _ _ => pg_name (i := 7) scKer.nd rfl (Or.inl rfl)) (fun _ _ _ _ _ => pts_nil)
              (fun _ _ _ _ _ => pe_callTy call_int1 (by rfl) N.int (by decide +kernel) (pa_cons (pe_cmpR op_eq (pv 7) (pv 6) (nomark _)) pa_nil)))
          (pss_cons (ps_for PassesOwn.never rfl (RZ.pi_zipA (by rfl) N.zip (pa_cons (pv 3) (pa_cons (pv 4) pa_nil))) (pg_tup rfl (pgs_cons (pg_name (i := 9) scKer.nd rfl (Or.inl rfl)) (pgs_cons (pg_name (i := 7) scKer.nd rfl (Or.inl rfl)) pgs_nil)))
            (pss_one (ps_asg (pe_op op_mod (pe_un un_neg (pe_ix ix_tup (pv 9) (pv 6) (fun _ _ => rfl))) (pv 2)) (pg_sub (pv 8) (pv 7) set_list))))
          (pss_one (ps_expr (pe_bm PySem.F.plainAttrs_list PySem.F.slot_list_append PySem.F.type_list_append mt_append (pv 5) (pa_cons (pe_callTy call_tuple_of (by rfl) N.tuple (by decide +kernel) (pa_cons (pv 8) pa_nil)) pa_nil))))))
          pss_nil)))
      (pss_one (ps_ret (pe_call GS hr (by rfl) gS FS.kp bS .nil pass0 (pa_cons (pv 5) (pa_cons (pv 1) (pa_cons (pv 2) pa_nil)))))))), ?_⟩
    refine ⟨_, rfl, _, rfl, _, rfl, v, rs, n, p, rfl, hsq, hp, hcan, hlen, hn, fun H1 t ft pt tv e1 ht hft htv hpt => ?_⟩
    have htl := tab_lt (n := n) hp hcan
    have hsl : (tabR p n rs).length ≤ rs.length := by
      have h := span_len (p := p) (n := n) (rows := rs)
      unfold spanR at h
      rwa [List.length_map] at h
    generalize hL : tabR p n rs = L at htl hsl hpt
    have htv' : Rws H1 tv (L.map (·.2)) := by
      have h := htv
      unfold spanR at h
      rw [hL] at h
      exact h
    have tl := htv'.length
    rw [List.length_map] at tl
    -- table, pivots = the pair; found = []
    refine ⟨t, _, rfl, SqT.of ht, rfl, _, _, rfl, _, _, rfl, rfl, Nat.zero_le _, fun fo nfo => ?_⟩
    have s2 : Same H1 (upd H1 fo (.lst [])) := same_new nfo
    refine ⟨_, rfl, (n : Int), rfl, by omega, by omega, ?_⟩
    refine for_range (lo := 0) (n := n) (fun m σ H' => KSt H1 L n p m v ft pt σ H') ⟨s2, fo, [], none, none, none, none, rfl, nfo, upd_same, .nil⟩ (fun m σ H' hm pv => ?_) (fun σ H' pv => ?_)
    · obtain ⟨sm, fo, fs, y6, y7, y8, y9, rfl, nfo, hfo, hfs⟩ := pv
      have e0 : (0 : Int) + (m : Int) = (m : Int) := Int.zero_add _
      rw [e0]
      have lfs := hfs.length
      have lk := kerTo_len (p := p) (n := n) (m := m) (L := L)
      refine ⟨_, rfl, _, rfl, pt, _, rfl, .inr (SqT.of (sm _ _ hpt)), rfl, pairs_flat L, _, rfl, ?_⟩
      rw [pairs_in]
      cases hc : (L.map (·.1)).contains m with
      | true => exact ⟨sm, fo, fs, _, _, _, _, rfl, nfo, hfo, by rw [kerTo_no hc]; exact hfs⟩
      | false =>
        -- row = [int(at == free) ..]
        refine ⟨_, rfl, (n : Int), rfl, by omega, by omega, fun D hD => ?_⟩
        refine lc_all (n := n) walk_range (by omega) (fun i y _ => y = .int ((eR n m).getD i 0)) (fun _ _ _ _ _ e => e) hD (fun _ _ => trivial) yfn_same (fun i x H2 H3 hi e y => ?_) gName_mono (fun H5 xs e5 h5 hl5 hx5 => ?_)
        · obtain ⟨rfl, rfl⟩ := y
          refine ⟨rfl, fun Q' kk => ⟨_, rfl, _, rfl, rfl, .inr ⟨_, rfl, kk _ _ (Same.refl _) ?_⟩⟩⟩
          have ei : (eR n m).getD i 0 = if i = m then 1 else 0 := by
            unfold eR
            rw [at_lt (by rw [List.length_map, List.length_range]; exact hi), List.getElem_map, List.getElem_range]
          show V.int (if decide (V.int ((0 : Int) + (i : Int)) = V.int (m : Int)) = true then 1 else 0) = _
          rw [ei, Int.zero_add]
          by_cases z : i = m
          · subst z
            rw [if_pos rfl, decide_eq_true rfl]; rfl
          · rw [if_neg z, decide_eq_false (fun y => z (by have := V.int.inj y; omega))]; rfl
        · have ex : xs = (eR n m).map V.int := ints_eq hl5 (by unfold eR; rw [List.length_map, List.length_range]) hx5
          rw [ex] at h5
          have sm5 := sm.trans e5
          have nD : H1 D = none := sm.free hD
          -- for line, at in zip(table, pivots)
          refine ⟨_, rfl, _, rfl, ft, pt, tv, pairsV L, rfl, .inr ⟨SqT.of (sm5 _ _ hft), SqT.of (sm5 _ _ hpt), ?_⟩⟩
          refine for_it (walk_zipT (n := L.length) tl (by unfold pairsV; rw [List.length_map])) (fun i σ' H6 => Same H' H6 ∧ (∃ y7 y9, σ' = [some v, some (.int (n : Int)), some (.int (p : Int)), some (.ref ft), some (.ref pt), some (.ref fo), some (.int (m : Int)), y7, some (.ref D), y9]) ∧ H6 D = some (.lst ((kvR p (L.take i) m (eR n m)).map V.int)))
            ⟨e5, ⟨_, _, rfl⟩, h5⟩ (fun i σ' H6 _ pv => ⟨SqT.of ((sm.trans pv.1) _ _ hft), SqT.of ((sm.trans pv.1) _ _ hpt)⟩) (fun i x σ' H6 H7 hi pv y => ?_) (fun σ' H6 pv => ?_)
          · obtain ⟨e6, ⟨y7, y9, rfl⟩, h6⟩ := pv
            obtain ⟨T, x1, x2, rfl, nT, rfl, g1, g2⟩ := y
            have hLi : L[i]? = some L[i] := List.getElem?_eq_getElem hi
            obtain ⟨r, hr1, b, rfl, hb⟩ := (htv'.tm (tm_of (sm.trans e6))).get g1
            have er : r = L[i].2 := by
              rw [List.getElem?_map, hLi] at hr1
              exact (Option.some.inj hr1).symm
            subst er
            have ex2 : x2 = .int (L[i].1 : Int) := by
              have g2' : (pairsV L)[i]? = some x2 := g2
              unfold pairsV at g2'
              rw [List.getElem?_map, hLi] at g2'
              exact (Option.some.inj g2').symm
            subst ex2
            obtain ⟨l1, l2⟩ := htl _ (List.getElem_mem hi)
            have s7 : Same H6 (upd H6 T (.tup [.ref b, .int (L[i].1 : Int)])) := same_new nT
            have hwl : ((kvR p (L.take i) m (eR n m)).map V.int).length = n := by rw [List.length_map, kv_len]; unfold eR; rw [List.length_map, List.length_range]
            refine ⟨T, _, rfl, SqT.of upd_same, rfl, _, _, rfl, _, _, rfl, rfl, ?_⟩
            refine ⟨_, rfl, _, rfl, b, _, _, _, rfl, rfl, SqT.of (s7 _ _ hb), atI_row (by rw [l2.1]; exact hm), _, rfl, _, rfl, _, _, rfl, rfl, (by have := hp.pos; show (0 : Int) < p; omega), ?_⟩
            refine ⟨_, rfl, _, rfl, D, _, _, L[i].1, rfl, rfl, s7 _ _ h6, ?_, ?_⟩
            · unfold ixN
              rw [if_pos (by omega), if_pos (by rw [hwl]; omega)]
              rfl
            · refine ⟨same_mut (e6.trans s7) hD, ⟨_, _, rfl⟩, ?_⟩
              rw [upd_same, kv_take hLi, List.map_set]
          · -- found.append(tuple(row))
            obtain ⟨e6, ⟨y7, y9, rfl⟩, h6⟩ := pv
            rw [List.take_of_length_le (Nat.le_refl _)] at h6
            refine ⟨.ref fo, rfl, .inl ⟨rfl, _, SqL.of (e6 _ _ hfo)⟩, .ref D, rfl, D, _, rfl, .inl ⟨SqL.of h6, fun l nl => ?_⟩⟩
            have s8 : Same H6 (upd H6 l (.tup ((kvR p L m (eR n m)).map V.int))) := same_new nl
            have hfo8 := s8 _ _ (e6 _ _ hfo)
            refine ⟨fo, fs, .ref l, rfl, rfl, hfo8, sz' (by omega), ?_⟩
            have t9 := tm_lst (o := .lst (fs ++ [.ref l])) hfo8
            refine ⟨same_mut ((sm.trans e6).trans s8) nfo, fo, fs ++ [.ref l], _, _, _, _, rfl, nfo, upd_same, ?_⟩
            rw [kerTo_yes hc]
            exact Rws.append (hfs.tm ((tm_of (e6.trans s8)).trans t9)) (.cons ⟨l, rfl, t9 _ _ upd_same⟩ .nil)
    · obtain ⟨sm, fo, fs, y6, y7, y8, y9, rfl, nfo, hfo, hfs⟩ := pv
      have lk := kerTo_len (p := p) (n := n) (m := n) (L := L)
      have ek : kerTo p n L n = kerRows p n L := rfl
      rw [ek] at hfs lk
      refine ⟨_, rfl, _, rfl, _, rfl, .ref fo, kerRows p n L, n, p, rfl, ⟨fo, fs, rfl, .inl hfo, hfs⟩, hp, ker_can hp, by omega, hn, fun H2 t2 xs2 e2 h2 h3 => ?_⟩
      refine q H2 t2 xs2 ((e1.trans sm).trans e2) h2 ?_
      unfold kernelR
      rw [hL]
      exact h3
/-! ### common_part -/
def spCom : Sp := fun vs H Q _ => ∃ (a b : Addr) (xs ys : List V) (ra rb : List RowI) (n p : Nat), vs = [.ref a, .ref b, .int (n : Int), .int (p : Int)] ∧ H a = some (.tup xs) ∧ Rws H xs ra ∧ H b = some (.tup ys) ∧ Rws H ys rb ∧ Pr4 p ∧ (∀ r ∈ ra, Can p n r) ∧ (∀ r ∈ rb, Can p n r) ∧ ra.length ≤ 400 ∧ rb.length ≤ 400 ∧ n ≤ 100 ∧ RetTab H Q (commonR p n ra rb)
theorem kernel_len {p n : Nat} {rows : List RowI} : (kernelR p n rows).length ≤ n := by
  unfold kernelR
  refine Nat.le_trans span_len ?_
  unfold kerRows
  rw [List.length_map]
  unfold freeR
  exact Nat.le_trans (List.length_filter_le _ _) (by rw [List.length_range]; exact Nat.le_refl _)
theorem ok_com {f : Addr} {fd : FuncData} (F : Fun K "common_part" "common_part" sCom f fd) {fK : Addr} {dK : FuncData} (FK : Fun K "kernel" "kernel" sKer fK dK) (bK : Binds K dK ["rows", "width", "p"] []) (gK : mg "kernel" = some (.ref fK))
    (GK : FnOk P w K mg base CX0 4 fK dK ["rows", "width", "p"] (spKer K)) : FnOk P w K mg base CX0 5 f fd ["a", "b", "width", "p"] spCom := by
  refine F.ok scCom (fun vs H Q E h => ?_) (fun cdv A outer s H vs Q E hr h => ?_)
  · obtain ⟨a, b, xs, ys, ra, rb, n, p, rfl, _⟩ := h
    rfl
  · obtain ⟨a, b, xs, ys, ra, rb, n, p, rfl, ha, hx, hb, hy, hp, ca, cb, la, lb, hn, q⟩ := h
    refine ⟨_, pss_one (ps_ret (pe_call GK hr (by rfl) gK FK.kp bK .nil pass0 (pa_cons (pe_op op_catA
      (pe_call GK hr (by rfl) gK FK.kp bK .nil pass0 (pa_cons (pv 0) (pa_cons (pv 2) (pa_cons (pv 3) pa_nil))))
      (pe_call GK hr (by rfl) gK FK.kp bK .nil pass0 (pa_cons (pv 1) (pa_cons (pv 2) (pa_cons (pv 3) pa_nil))))) (pa_cons (pv 2) (pa_cons (pv 3) pa_nil))))), ?_⟩
    refine ⟨_, rfl, _, rfl, _, rfl, .ref a, ra, n, p, rfl, ⟨a, xs, rfl, .inr ha, hx⟩, hp, ca, by omega, hn, fun H1 t1 x1 e1 h1 r1 => ?_⟩
    refine ⟨_, rfl, _, rfl, _, rfl, .ref b, rb, n, p, rfl, ⟨b, ys, rfl, .inr (e1 _ _ hb), hy.tm (tm_of e1)⟩, hp, cb, by omega, hn, fun H2 t2 x2 e2 h2 r2 => ?_⟩
    have k1 := kernel_len (p := p) (n := n) (rows := ra)
    have k2 := kernel_len (p := p) (n := n) (rows := rb)
    refine cat_tab (e2 _ _ h1) (r1.tm (tm_of e2)) h2 r2 (by rw [List.length_append]; omega) fun t zs H3 e3 h3 r3 => ?_
    exact ⟨_, rfl, _, rfl, .ref t, _, n, p, rfl, ⟨t, zs, rfl, .inr h3, r3⟩, hp, fun r hr => (List.mem_append.mp hr).elim (kernel_can hp r) (kernel_can hp r), by rw [List.length_append]; omega, hn, fun H4 t4 x4 e4 h4 r4 => q H4 t4 x4 (((e1.trans e2).trans e3).trans e4) h4 r4⟩
end
end K04W
end

section
set_option Elab.async false
set_option linter.all false
set_option maxRecDepth 100000
set_option maxHeartbeats 4000000
/-! K04D: the law's draws. -/
namespace K04W
open PySem PySem.Spec PyProof.Rows L2 K04
abbrev sSt : Stmt := topS 16
abbrev sTake : Stmt := topS 17
abbrev sLSum : Stmt := topS 18
abbrev sLScl : Stmt := topS 19
abbrev sZero : Stmt := topS 20
abbrev sElem : Stmt := topS 21
abbrev sPrime : Stmt := topS 25
abbrev sRows : Stmt := topS 26
abbrev nSt : List Str := ["_law_script", "_law_seed", "_law_total", "_law_cell"]
theorem scSt : FnScope nSt ["_law_script"] (defScope sSt) := ⟨rfl, rfl, rfl, by decide +kernel, rfl, by decide +kernel, by decide +kernel⟩
abbrev nTake : List Str := ["_law_state_here", "_law_m", "_law_value"]
theorem scTake : FnScope nTake ["_law_state_here", "_law_m"] (defScope sTake) := ⟨rfl, rfl, rfl, by decide +kernel, rfl, by decide +kernel, by decide +kernel⟩
abbrev nLSum : List Str := ["_law_v", "_law_w", "_law_p", "_law_k"]
theorem scLSum : FnScope nLSum ["_law_v", "_law_w", "_law_p"] (defScope sLSum) := ⟨rfl, rfl, rfl, by decide +kernel, rfl, by decide +kernel, by decide +kernel⟩
abbrev nLScl : List Str := ["_law_v", "_law_a", "_law_p", "_law_x"]
theorem scLScl : FnScope nLScl ["_law_v", "_law_a", "_law_p"] (defScope sLScl) := ⟨rfl, rfl, rfl, by decide +kernel, rfl, by decide +kernel, by decide +kernel⟩
abbrev nZero : List Str := ["_law_n", "_law_k"]
theorem scZero : FnScope nZero ["_law_n"] (defScope sZero) := ⟨rfl, rfl, rfl, by decide +kernel, rfl, by decide +kernel, by decide +kernel⟩
abbrev nElem : List Str := ["_law_state_here", "_law_p", "_law_n", "_law_k"]
theorem scElem : FnScope nElem ["_law_state_here", "_law_p", "_law_n"] (defScope sElem) := ⟨rfl, rfl, rfl, by decide +kernel, rfl, by decide +kernel, by decide +kernel⟩
abbrev nPrime : List Str := ["_law_state_here"]
theorem scPrime : FnScope nPrime ["_law_state_here"] (defScope sPrime) := ⟨rfl, rfl, rfl, by decide +kernel, rfl, by decide +kernel, by decide +kernel⟩
abbrev nRows : List Str := ["_law_state_here", "_law_p", "_law_n", "_law_most", "_law_k"]
theorem scRows : FnScope nRows ["_law_state_here", "_law_p", "_law_n", "_law_most"] (defScope sRows) := ⟨rfl, rfl, rfl, by decide +kernel, rfl, by decide +kernel, by decide +kernel⟩
/-- the draws' state -/
def IsSt (H : Hp) (l : Addr) : Prop := ∃ s t : Int, H l = some (.lst [.int s, .int t])
/-- only the state may have changed; new objects may stand -/
def Stp (l : Addr) (H H' : Hp) : Prop := (∀ b o, b ≠ l → H b = some o → H' b = some o) ∧ IsSt H' l
theorem Stp.trans {l : Addr} {H H1 H2 : Hp} (a : Stp l H H1) (b : Stp l H1 H2) : Stp l H H2 := ⟨fun c o h e => b.1 c o h (a.1 c o h e), b.2⟩
theorem Stp.same {l : Addr} {H H1 : Hp} (h : IsSt H l) (e : Same H H1) : Stp l H H1 := ⟨fun b o _ q => e b o q, let ⟨s, t, q⟩ := h; ⟨s, t, e _ _ q⟩⟩
theorem Stp.set {l : Addr} {H : Hp} {s t : Int} : Stp l H (upd H l (.lst [.int s, .int t])) := ⟨fun b o h e => by rw [upd_ne h]; exact e, s, t, upd_same⟩
theorem Stp.mut {l p : Addr} {o : HO} {H H' : Hp} (e : Stp l H H') (h : H p = none) (hl : p ≠ l) : Stp l H (upd H' p o) :=
  ⟨fun b x hb hx => by rw [upd_ne (ne_of_none hx h)]; exact e.1 b x hb hx, let ⟨s, t, q⟩ := e.2; ⟨s, t, by rw [upd_ne hl.symm]; exact q⟩⟩
theorem Stp.tm {l : Addr} {H H' : Hp} (h : IsSt H l) (e : Stp l H H') : Tm H H' := fun b xs q => e.1 b _ (fun z => by obtain ⟨s, t, hl⟩ := h; rw [z, hl] at q; cases q) q
theorem Stp.free {l p : Addr} {H H' : Hp} (h : IsSt H l) (e : Stp l H H') (hp : H' p = none) : H p = none := by
  cases q : H p with
  | none => rfl
  | some o =>
    have hne : p ≠ l := fun z => by
      obtain ⟨s, t, hl⟩ := e.2
      rw [z, hl] at hp; cases hp
    rw [e.1 p o hne q] at hp; cases hp
section
variable {P : Program} {w : World} {K : PySem.W.Frag} {mg : Str → Option Value} {base : Heap}

/-! ### the state at the start -/
def spSt (K : PySem.W.Frag) : Sp := fun vs H Q _ => ∃ (a : Addr) (ns : List Int), vs = [.ref a] ∧ SqL K H a (ns.map V.int) ∧ ∀ H' l, Same H H' → H l = none → IsSt H' l → Q (.ref l) H'
theorem ok_st {f : Addr} {fd : FuncData} {k : Nat} (F : Fun K "_law_state" "_law_state" sSt f fd) (N : NoG mg) : FnOk P w K mg base CX0 (k + 1) f fd ["_law_script"] (spSt K) := by
  refine F.ok scSt (fun vs H Q E h => ?_) (fun cdv A outer s H vs Q E hr h => ?_)
  · obtain ⟨a, ns, rfl, _⟩ := h
    rfl
  · obtain ⟨a, ns, rfl, hS, q⟩ := h
    refine ⟨_, pss_cons (ps_set (i := 1) scSt.nd rfl (Or.inl rfl) pe_int)
      (pss_cons (ps_set (i := 2) scSt.nd rfl (Or.inl rfl) pe_int)
      (pss_cons (ps_for PassesOwn.never rfl (pi_list (pe_slice sl_list (pv 0) po_none (po_some pe_int))) (pg_name (i := 3) scSt.nd rfl (Or.inl rfl))
        (pss_cons (ps_set (i := 1) scSt.nd rfl (Or.inl rfl) (pe_op op_add (pe_op op_mul (pv 1) pe_int) (pe_callB call_abs (by rfl) N.abs (by decide +kernel) (pa_cons (pv 3) pa_nil))))
        (pss_one (ps_set (i := 2) scSt.nd rfl (Or.inl rfl) (pe_op op_mod (pe_callTy call_int1 (by rfl) N.int (by decide +kernel) (pa_cons (pe_op op_add (pe_op op_mul (pv 2) pe_int) (pv 3)) pa_nil)) pe_int)))))
      (pss_one (ps_ret (pe_lst (pa_cons (pv 1) (pa_cons (pv 2) pa_nil))))))), ?_⟩
    refine ⟨.ref a, rfl, 63, rfl, a, _, rfl, hS, fun c nc => ?_⟩
    have s1 : Same H (upd H c (.lst (cutV (ns.map V.int) none (some 63)))) := same_new nc
    have hint : ∀ (i : Nat) x, (cutV (ns.map V.int) none (some 63))[i]? = some x → ∃ z, x = V.int z := fun i x e => by
      have h1 := List.mem_of_getElem? e
      unfold cutV at h1
      have h2 := List.mem_of_mem_drop (List.mem_of_mem_take h1)
      obtain ⟨z, _, e⟩ := List.mem_map.mp h2
      exact ⟨z, e.symm⟩
    refine ⟨c, rfl, ⟨_, SqL.of upd_same⟩, ?_⟩
    refine for_list (xs := cutV (ns.map V.int) none (some 63)) (fun i σ H' => H' = upd H c (.lst (cutV (ns.map V.int) none (some 63))) ∧ ∃ s t y, σ = [some (.ref a), some (.int s), some (.int t), y]) ⟨rfl, 0, 1, none, rfl⟩ (fun i σ H' _ pv => by rw [pv.1]; exact SqL.of upd_same) (fun i x σ H' hx pv => ?_) (fun σ H' pv => ?_)
    · obtain ⟨rfl, s, t, y, rfl⟩ := pv
      obtain ⟨z, rfl⟩ := hint i x hx
      refine ⟨_, rfl, _, _, rfl, rfl, .inr ⟨by decide, by decide⟩, _, rfl, _, rfl, _, _, rfl, rfl, ?_⟩
      refine ⟨_, rfl, _, _, rfl, rfl, .inr ⟨by decide, by decide⟩, _, rfl, _, _, rfl, rfl, .inl ⟨_, rfl, _, _, rfl, rfl, by show (0 : Int) < 2147483647; decide, ?_⟩⟩
      exact ⟨rfl, _, _, _, rfl⟩
    · obtain ⟨rfl, s, t, y, rfl⟩ := pv
      refine ⟨_, rfl, _, rfl, by show 2 ≤ sizeLine; decide, fun l nl => ?_⟩
      exact q _ l (s1.trans (same_new nl)) (s1.free nl) ⟨s, t, upd_same⟩

/-! ### a draw -/
def spTake : Sp := fun vs H Q _ => ∃ (l : Addr) (m : Int), vs = [.ref l, .int m] ∧ IsSt H l ∧ 0 < m ∧ m < 1000 ∧ ∀ z s t, 0 ≤ z → z < m → Q (.int z) (upd H l (.lst [.int s, .int t]))
theorem ok_take {f : Addr} {fd : FuncData} {k : Nat} (F : Fun K "_law_take" "_law_take" sTake f fd) (N : NoG mg) : FnOk P w K mg base CX0 (k + 1) f fd ["_law_state_here", "_law_m"] spTake := by
  refine F.ok scTake (fun vs H Q E h => ?_) (fun cdv A outer s H vs Q E hr h => ?_)
  · obtain ⟨l, m, rfl, _⟩ := h
    rfl
  · obtain ⟨l, m, rfl, ⟨s, t, hl⟩, h0, h1, q⟩ := h
    refine ⟨_, pss_cons (ps_if (pt_cmpR op_gt (pe_ix ix_list (pv 0) pe_int (fun _ _ => rfl)) pe_int (nomark _))
        (pss_cons (ps_set (i := 2) scTake.nd rfl (Or.inl rfl) (pe_op op_mod (pe_callTy call_int1 (by rfl) N.int (by decide +kernel) (pa_cons (pe_ix ix_list (pv 0) pe_int (fun _ _ => rfl)) pa_nil)) (pv 1)))
        (pss_cons (ps_asg (pe_op op_fdiv (pe_ix ix_list (pv 0) pe_int (fun _ _ => rfl)) (pv 1)) (pg_sub (pv 0) pe_int set_list))
        (pss_one (ps_ret (pv 2))))) pss_nil)
      (pss_cons (ps_asg (pe_op op_mod (pe_callTy call_int1 (by rfl) N.int (by decide +kernel) (pa_cons (pe_op op_add (pe_op op_mul (pe_ix ix_list (pv 0) pe_int (fun _ _ => rfl)) pe_int) pe_int) pa_nil)) pe_int) (pg_sub (pv 0) pe_int set_list))
      (pss_one (ps_ret (pe_op op_mod (pe_callTy call_int1 (by rfl) N.int (by decide +kernel) (pa_cons (pe_op op_fdiv (pe_ix ix_list (pv 0) pe_int (fun _ _ => rfl)) pe_int) pa_nil)) (pv 1))))), ?_⟩
    refine ⟨_, rfl, l, _, 0, .int s, rfl, rfl, SqL.of hl, atI_nat (j := 0) rfl, _, _, rfl, rfl, _, rfl, ite2 (fun e => ?_) (fun e => ?_)⟩
    · refine ⟨_, rfl, l, _, 0, .int s, rfl, rfl, SqL.of hl, atI_nat (j := 0) rfl, .inl ⟨_, rfl, _, rfl, _, _, rfl, rfl, h0, ?_⟩⟩
      refine ⟨_, rfl, l, _, 0, .int s, rfl, rfl, SqL.of hl, atI_nat (j := 0) rfl, _, rfl, _, _, rfl, rfl, ⟨h0, by omega⟩, ?_⟩
      refine ⟨_, rfl, l, _, 0, 0, rfl, rfl, hl, rfl, ?_⟩
      exact ⟨_, rfl, q _ _ _ (Int.emod_nonneg _ (by omega)) (Int.emod_lt_of_pos _ h0)⟩
    · refine ⟨_, rfl, l, _, 1, .int t, rfl, rfl, SqL.of hl, atI_nat (j := 1) rfl, _, _, rfl, rfl, .inr ⟨by decide, by decide⟩, _, _, rfl, rfl, .inl ⟨_, rfl, _, _, rfl, rfl, by show (0 : Int) < 2147483647; decide, ?_⟩⟩
      refine ⟨_, rfl, l, _, 1, 1, rfl, rfl, hl, rfl, ?_⟩
      refine ⟨_, rfl, l, _, 1, _, rfl, rfl, SqL.of upd_same, atI_nat (j := 1) rfl, _, _, rfl, rfl, ⟨by decide, by decide⟩, .inl ⟨_, rfl, _, rfl, _, _, rfl, rfl, h0, ?_⟩⟩
      exact q _ _ _ (Int.emod_nonneg _ (by omega)) (Int.emod_lt_of_pos _ h0)

/-! ### the prime -/
def spPrime : Sp := fun vs H Q _ => ∃ (l : Addr), vs = [.ref l] ∧ IsSt H l ∧ ∀ H' (p : Nat), Pr4 p → Stp l H H' → Q (.int (p : Int)) H'
theorem ok_prime {f : Addr} {fd : FuncData} (F : Fun K "_law_prime" "_law_prime" sPrime f fd) {fT : Addr} {dT : FuncData} (FT : Fun K "_law_take" "_law_take" sTake fT dT) (bT : Binds K dT ["_law_state_here", "_law_m"] []) (gT : mg "_law_take" = some (.ref fT))
    (GT : FnOk P w K mg base CX0 1 fT dT ["_law_state_here", "_law_m"] spTake) : FnOk P w K mg base CX0 2 f fd ["_law_state_here"] spPrime := by
  refine F.ok scPrime (fun vs H Q E h => ?_) (fun cdv A outer s H vs Q E hr h => ?_)
  · obtain ⟨l, rfl, _⟩ := h
    rfl
  · obtain ⟨l, rfl, ⟨s0, t0, hl⟩, q⟩ := h
    refine ⟨_, pss_one (ps_ret (pe_ix ix_list (pe_lst (pa_cons pe_int (pa_cons pe_int (pa_cons pe_int (pa_cons pe_int (pa_cons pe_int (pa_cons pe_int pa_nil)))))))
      (pe_call GT hr (by rfl) gT FT.kp bT .nil pass0 (pa_cons (pv 0) (pa_cons pe_int pa_nil))) (fun _ _ => rfl))), ?_⟩
    refine ⟨by show 6 ≤ sizeLine; decide, fun c nc => ?_⟩
    have s1 : Same H (upd H c (.lst [.int 2, .int 2, .int 3, .int 3, .int 5, .int 7])) := same_new nc
    refine ⟨_, rfl, l, 6, rfl, ⟨s0, t0, s1 _ _ hl⟩, by decide, by decide, fun z s t h0 h1 => ?_⟩
    have hcl : c ≠ l := fun e => by rw [e, hl] at nc; cases nc
    have hc : (upd (upd H c (.lst [.int 2, .int 2, .int 3, .int 3, .int 5, .int 7])) l (.lst [.int s, .int t])) c = some (.lst [.int 2, .int 2, .int 3, .int 3, .int 5, .int 7]) := by
      rw [upd_ne hcl]; exact upd_same
    have st : Stp l H (upd (upd H c (.lst [.int 2, .int 2, .int 3, .int 3, .int 5, .int 7])) l (.lst [.int s, .int t])) := (Stp.same ⟨s0, t0, hl⟩ s1).trans Stp.set
    have key : ∀ p : Nat, Pr4 p → [V.int 2, .int 2, .int 3, .int 3, .int 5, .int 7][z.toNat]? = some (.int (p : Int)) → ∃ p' xs i v, V.ref c = .ref p' ∧ V.int z = .int i ∧ SqL K (upd (upd H c (.lst [.int 2, .int 2, .int 3, .int 3, .int 5, .int 7])) l (.lst [.int s, .int t])) p' xs ∧ atI xs i = some v ∧ Q v (upd (upd H c (.lst [.int 2, .int 2, .int 3, .int 3, .int 5, .int 7])) l (.lst [.int s, .int t])) := fun p hp he => by
      refine ⟨c, _, z, .int (p : Int), rfl, rfl, SqL.of hc, ?_, q _ p hp st⟩
      have ez : z = ((z.toNat : Nat) : Int) := by omega
      rw [ez]
      exact atI_nat he
    have h6 : z = 0 ∨ z = 1 ∨ z = 2 ∨ z = 3 ∨ z = 4 ∨ z = 5 := by omega
    rcases h6 with rfl | rfl | rfl | rfl | rfl | rfl
    · exact key 2 (.inl rfl) rfl
    · exact key 2 (.inl rfl) rfl
    · exact key 3 (.inr (.inl rfl)) rfl
    · exact key 3 (.inr (.inl rfl)) rfl
    · exact key 5 (.inr (.inr (.inl rfl))) rfl
    · exact key 7 (.inr (.inr (.inr rfl))) rfl

/-! ### an element -/
def spElem : Sp := fun vs H Q _ => ∃ (l : Addr) (p n : Nat), vs = [.ref l, .int (p : Int), .int (n : Int)] ∧ IsSt H l ∧ Pr4 p ∧ n ≤ 100 ∧ ∀ H' v r, Stp l H H' → IsRow H' v r → Can p n r → Q v H'
theorem ok_elem {f : Addr} {fd : FuncData} (F : Fun K "_law_element" "_law_element" sElem f fd) (N : NoG mg) {fT : Addr} {dT : FuncData} (FT : Fun K "_law_take" "_law_take" sTake fT dT) (bT : Binds K dT ["_law_state_here", "_law_m"] []) (gT : mg "_law_take" = some (.ref fT))
    (GT : FnOk P w K mg base CX0 1 fT dT ["_law_state_here", "_law_m"] spTake) : FnOk P w K mg base CX0 2 f fd ["_law_state_here", "_law_p", "_law_n"] spElem := by
  refine F.ok scElem (fun vs H Q E h => ?_) (fun cdv A outer s H vs Q E hr h => ?_)
  · obtain ⟨l, p, n, rfl, _⟩ := h
    rfl
  · obtain ⟨l, p, n, rfl, hst, hp, hn, q⟩ := h
    refine ⟨_, pss_one (ps_ret (pe_callTy call_tuple_of (by rfl) N.tuple (by decide +kernel) (pa_cons
      (pe_lc (own := [("_law_k", 3)]) (g := gName 3) (tt := tYes) rfl scElem.nd (pi_range1 (by rfl) N.range (pa_cons (pv 2) pa_nil)) (blkOk_by (N := nElem) (sc := defScope sElem) (by decide +kernel))
        (fun _ _ _ _ _ => pg_name (i := 3) scElem.nd rfl (Or.inl rfl)) (fun _ _ _ _ _ => pts_nil)
        (fun _ _ _ _ _ => pe_call GT hr (by rfl) gT FT.kp bT .nil pass0 (pa_cons (pv 0) (pa_cons (pv 1) pa_nil)))) pa_nil))), ?_⟩
    have hp2 : 1 < p ∧ p ≤ 7 := ⟨hp.pos, by unfold Pr4 at hp; omega⟩
    refine ⟨_, rfl, (n : Int), rfl, by omega, by omega, fun D hD => ?_⟩
    have hDl : D ≠ l := fun z => by obtain ⟨s, t, hl⟩ := hst; rw [z, hl] at hD; cases hD
    refine lc_it walk_range (n := n) (fun i H' => Stp l H H' ∧ ∃ zs : RowI, H' D = some (.lst (zs.map V.int)) ∧ zs.length = i ∧ ∀ z ∈ zs, 0 ≤ z ∧ z < (p : Int)) ⟨(Stp.same hst (Same.refl _)).mut hD hDl, [], upd_same, rfl, fun z hz => by cases hz⟩ (fun _ _ _ _ => trivial) (fun i x H1 H2 hi pv y => ?_) (fun H' pv => ?_)
    · obtain ⟨st, zs, hz, hl, hb⟩ := pv
      obtain ⟨rfl, rfl⟩ := y
      refine ⟨rfl, ?_⟩
      refine ⟨_, rfl, _, rfl, l, (p : Int), rfl, st.2, by omega, by omega, fun z s t h0 h1 => ?_⟩
      have hD2 : (upd H2 l (.lst [.int s, .int t])) D = some (.lst (zs.map V.int)) := by rw [upd_ne hDl]; exact hz
      refine ⟨_, hD2, sz' (by rw [List.length_map]; omega), (st.trans Stp.set).mut hD hDl, zs ++ [z], ?_, by simp [hl], fun y hy => ?_⟩
      · rw [upd_same, List.map_append]; rfl
      · rcases List.mem_append.mp hy with hy | hy
        · exact hb y hy
        · rw [List.mem_singleton.mp hy]; exact ⟨h0, h1⟩
    · obtain ⟨st, zs, hz, hl, hb⟩ := pv
      refine ⟨D, _, rfl, .inl ⟨SqL.of hz, fun t nt => ?_⟩⟩
      exact q _ _ zs (st.trans (Stp.same st.2 (same_new nt))) ⟨t, rfl, upd_same⟩ ⟨hl, hb⟩

/-! ### some rows -/
def spRows : Sp := fun vs H Q _ => ∃ (l : Addr) (p n m : Nat), vs = [.ref l, .int (p : Int), .int (n : Int), .int (m : Int)] ∧ IsSt H l ∧ Pr4 p ∧ n ≤ 100 ∧ m ≤ 100 ∧
  ∀ H' c xs rs, Stp l H H' → H c = none → H' c = some (.lst xs) → Rws H' xs rs → (∀ r ∈ rs, Can p n r) → rs.length ≤ m → Q (.ref c) H'
theorem ok_rows {f : Addr} {fd : FuncData} (F : Fun K "_law_rows" "_law_rows" sRows f fd) (N : NoG mg) {fT fE : Addr} {dT dE : FuncData} (FT : Fun K "_law_take" "_law_take" sTake fT dT) (bT : Binds K dT ["_law_state_here", "_law_m"] []) (gT : mg "_law_take" = some (.ref fT))
    (GT : FnOk P w K mg base CX0 1 fT dT ["_law_state_here", "_law_m"] spTake) (FE : Fun K "_law_element" "_law_element" sElem fE dE) (bE : Binds K dE ["_law_state_here", "_law_p", "_law_n"] []) (gE : mg "_law_element" = some (.ref fE))
    (GE : FnOk P w K mg base CX0 2 fE dE ["_law_state_here", "_law_p", "_law_n"] spElem) : FnOk P w K mg base CX0 3 f fd ["_law_state_here", "_law_p", "_law_n", "_law_most"] spRows := by
  refine F.ok scRows (fun vs H Q E h => ?_) (fun cdv A outer s H vs Q E hr h => ?_)
  · obtain ⟨l, p, n, m, rfl, _⟩ := h
    rfl
  · obtain ⟨l, p, n, m, rfl, hst, hp, hn, hm, q⟩ := h
    refine ⟨_, pss_one (ps_ret
      (pe_lc (own := [("_law_k", 4)]) (g := gName 4) (tt := tYes) rfl scRows.nd (pi_range1 (by rfl) N.range (pa_cons (pe_call GT (hr.mono (by decide)) (by rfl) gT FT.kp bT .nil pass0 (pa_cons (pv 0) (pa_cons (pe_op op_add (pv 3) pe_int) pa_nil))) pa_nil)) (blkOk_by (N := nRows) (sc := defScope sRows) (by decide +kernel))
        (fun _ _ _ _ _ => pg_name (i := 4) scRows.nd rfl (Or.inl rfl)) (fun _ _ _ _ _ => pts_nil)
        (fun _ _ _ _ _ => pe_call GE hr (by rfl) gE FE.kp bE .nil pass0 (pa_cons (pv 0) (pa_cons (pv 1) (pa_cons (pv 2) pa_nil)))))), ?_⟩
    refine ⟨_, rfl, _, rfl, _, _, rfl, rfl, l, _, rfl, hst, by omega, by omega, fun z s t h0 h1 => ⟨z, rfl, by omega, by omega, fun D hD => ?_⟩⟩
    have st0 : Stp l H (upd H l (.lst [.int s, .int t])) := Stp.set
    have nD : H D = none := Stp.free hst st0 hD
    have hDl : D ≠ l := fun e => by obtain ⟨s, t, hl⟩ := hst; rw [e, hl] at nD; cases nD
    refine lc_it walk_range (n := z.toNat) (fun i H' => Stp l H H' ∧ ∃ xs rs, H' D = some (.lst xs) ∧ Rws H' xs rs ∧ rs.length = i ∧ ∀ r ∈ rs, Can p n r) ⟨st0.mut nD hDl, [], [], upd_same, .nil, rfl, fun r hr => by cases hr⟩ (fun _ _ _ _ => trivial) (fun i x H1 H2 hi pv y => ?_) (fun H' pv => ?_)
    · obtain ⟨st, xs, rs, hx, hrs, hl, hb⟩ := pv
      obtain ⟨rfl, rfl⟩ := y
      refine ⟨rfl, ?_⟩
      refine ⟨_, rfl, _, rfl, _, rfl, l, p, n, rfl, st.2, hp, hn, fun H3 v r st3 hv hc => ?_⟩
      have hD3 := st3.1 D _ hDl hx
      have t3 := tm_lst (o := .lst (xs ++ [v])) hD3
      refine ⟨xs, hD3, sz' (by rw [hrs.length]; omega), (st.trans st3).mut nD hDl, xs ++ [v], rs ++ [r], upd_same, Rws.append (hrs.tm ((Stp.tm st.2 st3).trans t3)) (.cons (hv.tm t3) .nil), by simp [hl], fun y hy => ?_⟩
      rcases List.mem_append.mp hy with hy | hy
      · exact hb y hy
      · rw [List.mem_singleton.mp hy]; exact hc
    · obtain ⟨st, xs, rs, hx, hrs, hl, hb⟩ := pv
      exact q H' D xs rs st nD hx hrs hb (by omega)

/-! ### the law's own sums and multiples -/
theorem ok_lsum {f : Addr} {fd : FuncData} {k : Nat} (F : Fun K "_law_sum" "_law_sum" sLSum f fd) (N : NoG mg) : FnOk P w K mg base CX0 (k + 1) f fd ["_law_v", "_law_w", "_law_p"] spAdd := by
  refine F.ok scLSum (fun vs H Q E h => ?_) (fun cdv A outer s H vs Q E hr h => ?_)
  · obtain ⟨v, u, rv, ru, p, n, rfl, _⟩ := h
    rfl
  · obtain ⟨v, u, rv, ru, p, n, rfl, ⟨a, rfl, ha⟩, ⟨b, rfl, hb⟩, hn1, hn2, hn, hp, q⟩ := h
    refine ⟨_, pss_one (ps_ret (pe_callTy call_tuple_of (by rfl) N.tuple (by decide +kernel) (pa_cons
      (pe_lc (own := [("_law_k", 3)]) (g := gName 3) (tt := tYes) rfl scLSum.nd (pi_range1 (by rfl) N.range (pa_cons (pe_callB call_len_seq (by rfl) N.len PySem.boot_len (pa_cons (pv 0) pa_nil)) pa_nil)) (blkOk_by (N := nLSum) (sc := defScope sLSum) (by decide +kernel))
        (fun _ _ _ _ _ => pg_name (i := 3) scLSum.nd rfl (Or.inl rfl)) (fun _ _ _ _ _ => pts_nil)
        (fun _ _ _ _ _ => pe_op op_mod (pe_callTy call_int1 (by rfl) N.int (by decide +kernel) (pa_cons (pe_op op_add (pe_ix (ixT (K := K)) (pv 0) (pv 3) (fun _ _ => rfl)) (pe_ix (ixT (K := K)) (pv 1) (pv 3) (fun _ _ => rfl))) pa_nil)) (pv 2))) pa_nil))), ?_⟩
    have la : (rv.map V.int).length = n := by rw [List.length_map]; exact hn1
    refine ⟨_, rfl, a, _, rfl, .inr (SqT.of ha), _, rfl, by omega, by omega, fun D hD => ?_⟩
    refine lc_all (n := (((rv.map V.int).length : Nat) : Int).toNat) walk_range (by omega) (fun i y _ => y = .int ((addR p rv ru).getD i 0)) (fun _ _ _ _ _ e => e) hD (fun _ _ => trivial) yfn_same (fun i x H1 H2 hi e y => ?_) gName_mono (fun H' xs e hD' hl hx => ?_)
    · obtain ⟨rfl, rfl⟩ := y
      have hi' : i < n := by omega
      refine ⟨rfl, fun Q' kk => ?_⟩
      refine ⟨_, rfl, _, rfl, a, _, _, _, rfl, rfl, SqT.of (e _ _ ha), (by rw [Int.zero_add]; exact atI_row (by omega)), _, rfl, _, rfl, b, _, _, _, rfl, rfl, SqT.of (e _ _ hb), (by rw [Int.zero_add]; exact atI_row (by omega)), _, _, rfl, rfl, .inl ⟨_, rfl, _, rfl, _, _, rfl, rfl, (by show (0 : Int) < p; omega), kk _ _ (Same.refl _) ?_⟩⟩
      unfold addR
      rw [zip_get (by omega) (by omega)]
    · refine ⟨D, xs, rfl, .inl ⟨SqL.of hD', fun l nl => ?_⟩⟩
      have ex : xs = (addR p rv ru).map V.int := ints_eq (n := n) (by omega) (by unfold addR; rw [List.length_zipWith]; omega) hx
      exact q _ _ (e.trans (same_new nl)) ⟨l, rfl, by rw [ex]; exact upd_same⟩
theorem ok_lscl {f : Addr} {fd : FuncData} {k : Nat} (F : Fun K "_law_scaled" "_law_scaled" sLScl f fd) (N : NoG mg) : FnOk P w K mg base CX0 (k + 1) f fd ["_law_v", "_law_a", "_law_p"] spScl := by
  refine F.ok scLScl (fun vs H Q E h => ?_) (fun cdv A outer s H vs Q E hr h => ?_)
  · obtain ⟨v, rv, a, p, rfl, _⟩ := h
    rfl
  · obtain ⟨v, rv, c, p, rfl, ⟨a, rfl, ha⟩, hn, hb, hp, q⟩ := h
    refine ⟨_, pss_one (ps_ret (pe_callTy call_tuple_of (by rfl) N.tuple (by decide +kernel) (pa_cons
      (pe_lc (own := [("_law_x", 3)]) (g := gName 3) (tt := tYes) rfl scLScl.nd (pi_tup (pv 0)) (blkOk_by (N := nLScl) (sc := defScope sLScl) (by decide +kernel))
        (fun _ _ _ _ _ => pg_name (i := 3) scLScl.nd rfl (Or.inl rfl)) (fun _ _ _ _ _ => pts_nil)
        (fun _ _ _ _ _ => pe_op op_mod (pe_callTy call_int1 (by rfl) N.int (by decide +kernel) (pa_cons (pe_op op_mul (pv 3) (pv 1)) pa_nil)) (pv 2))) pa_nil))), ?_⟩
    have hl0 : (rv.map V.int).length = rv.length := List.length_map _
    refine ⟨.ref a, rfl, a, rfl, ⟨_, SqT.of ha⟩, fun D hD => ?_⟩
    refine lc_all (walk_tup (xs := rv.map V.int)) (by omega) (fun i y _ => y = .int ((sclR p rv c).getD i 0)) (fun _ _ _ _ _ e => e) hD (fun H' e => SqT.of (e _ _ ha)) yat_same (fun i x H1 H2 hi e y => ?_) gName_mono (fun H' xs e hD' hl hx => ?_)
    · obtain ⟨rfl, g1⟩ := y
      obtain ⟨l1, rfl⟩ := row_get g1
      have hx := row_bd hb l1
      refine ⟨rfl, fun Q' kk => ?_⟩
      refine ⟨_, rfl, _, rfl, _, _, rfl, rfl, .inl ⟨by omega, by omega⟩, .inl ⟨_, rfl, _, rfl, _, _, rfl, rfl, (by show (0 : Int) < p; omega), kk _ _ (Same.refl _) ?_⟩⟩
      unfold sclR
      rw [map_get l1]
    · refine ⟨D, xs, rfl, .inl ⟨SqL.of hD', fun l nl => ?_⟩⟩
      have ex : xs = (sclR p rv c).map V.int := ints_eq (n := rv.length) (by omega) (by unfold sclR; rw [List.length_map]) hx
      exact q _ _ (e.trans (same_new nl)) ⟨l, rfl, by rw [ex]; exact upd_same⟩
def spZero : Sp := fun vs H Q _ => ∃ (n : Nat), vs = [.int (n : Int)] ∧ n ≤ 1000 ∧ RetRow H Q (zeroR n)
theorem ok_zero {f : Addr} {fd : FuncData} {k : Nat} (F : Fun K "_law_zero" "_law_zero" sZero f fd) (N : NoG mg) : FnOk P w K mg base CX0 (k + 1) f fd ["_law_n"] spZero := by
  refine F.ok scZero (fun vs H Q E h => ?_) (fun cdv A outer s H vs Q E hr h => ?_)
  · obtain ⟨n, rfl, _⟩ := h
    rfl
  · obtain ⟨n, rfl, hn, q⟩ := h
    refine ⟨_, pss_one (ps_ret (pe_callTy call_tuple_of (by rfl) N.tuple (by decide +kernel) (pa_cons
      (pe_lc (own := [("_law_k", 1)]) (g := gName 1) (tt := tYes) rfl scZero.nd (pi_range1 (by rfl) N.range (pa_cons (pv 0) pa_nil)) (blkOk_by (N := nZero) (sc := defScope sZero) (by decide +kernel))
        (fun _ _ _ _ _ => pg_name (i := 1) scZero.nd rfl (Or.inl rfl)) (fun _ _ _ _ _ => pts_nil) (fun _ _ _ _ _ => pe_int)) pa_nil))), ?_⟩
    refine ⟨_, rfl, (n : Int), rfl, by omega, by omega, fun D hD => ?_⟩
    refine lc_all (n := n) walk_range (by omega) (fun i y _ => y = .int ((zeroR n).getD i 0)) (fun _ _ _ _ _ e => e) hD (fun _ _ => trivial) yfn_same (fun i x H1 H2 hi e y => ?_) gName_mono (fun H' xs e hD' hl hx => ?_)
    · obtain ⟨rfl, rfl⟩ := y
      refine ⟨rfl, fun Q' kk => kk _ _ (Same.refl _) ?_⟩
      unfold zeroR
      rw [at_lt (by rw [List.length_replicate]; exact hi), List.getElem_replicate]
    · refine ⟨D, xs, rfl, .inl ⟨SqL.of hD', fun l nl => ?_⟩⟩
      have ex : xs = (zeroR n).map V.int := ints_eq hl (by unfold zeroR; rw [List.length_replicate]) hx
      exact q _ _ (e.trans (same_new nl)) ⟨l, rfl, by rw [ex]; exact upd_same⟩
end
end K04W
end

section
set_option Elab.async false
set_option linter.all false
set_option maxRecDepth 100000
set_option maxHeartbeats 4000000
/-! K04E: the law's span, form, show. -/
namespace K04W
open PySem PySem.Spec PyProof.Rows L2 K04
abbrev sLSp : Stmt := topS 22
abbrev sForm : Stmt := topS 23
abbrev sShow : Stmt := topS 24
abbrev nLSp : List Str := ["_law_rows_here", "_law_n", "_law_p", "_law_found", "_law_row", "_law_longer", "_law_word", "_law_a"]
theorem scLSp : FnScope nLSp ["_law_rows_here", "_law_n", "_law_p"] (defScope sLSp) := ⟨rfl, rfl, rfl, by decide +kernel, rfl, by decide +kernel, by decide +kernel⟩
abbrev nForm : List Str := ["_law_told", "_law_n", "_law_last", "_law_i", "_law_heads", "_law_k", "_law_j"]
theorem scForm : FnScope nForm ["_law_told", "_law_n"] (defScope sForm) := ⟨rfl, rfl, rfl, by decide +kernel, rfl, by decide +kernel, by decide +kernel⟩
abbrev nShow : List Str := ["_law_told", "_law_words", "_law_n", "_law_p"]
theorem scShow : FnScope nShow ["_law_told", "_law_words", "_law_n", "_law_p"] (defScope sShow) := ⟨rfl, rfl, rfl, by decide +kernel, rfl, by decide +kernel, by decide +kernel⟩
theorem room65 {k : Nat} {A : Around} (hr : Room k A) : A.units + 65 < cLine := by have := hr.un; omega
theorem room64 {k : Nat} {A : Around} (hr : Room k A) : A.units + 64 < cLine := by have := hr.un; omega
theorem room4 {k : Nat} {A : Around} (hr : Room k A) : A.units + 4 < cLine := by have := hr.un; omega
abbrev RetSrt (H : Hp) (Q : VK) (rs : List RowI) : Prop := ∀ H' l ys rs', Same H H' → H' l = some (.lst ys) → Rws H' ys rs' → rs'.Perm rs → Sorted rs' → Q (.ref l) H'
section
variable {P : Program} {w : World} {K : PySem.W.Frag} {mg : Str → Option Value} {base : Heap}
def spLSp (K : PySem.W.Frag) : Sp := fun vs H Q _ => ∃ (v : V) (rs : List RowI) (n p : Nat), vs = [v, .int (n : Int), .int (p : Int)] ∧ IsSq K H v rs ∧ Pr4 p ∧ (∀ r ∈ rs, Can p n r) ∧ rs.length ≤ 5 ∧ n ≤ 100 ∧ RetSrt H Q (lawR p n rs)
theorem ok_lsp {f : Addr} {fd : FuncData} (F : Fun K "_law_span" "_law_span" sLSp f fd) (N : NoG mg) {fZ fA fC : Addr} {dZ dA dC : FuncData}
    (FZ : Fun K "_law_zero" "_law_zero" sZero fZ dZ) (bZ : Binds K dZ ["_law_n"] []) (gZ : mg "_law_zero" = some (.ref fZ))
    (FA : Fun K "_law_sum" "_law_sum" sLSum fA dA) (bA : Binds K dA ["_law_v", "_law_w", "_law_p"] []) (gA : mg "_law_sum" = some (.ref fA))
    (FC : Fun K "_law_scaled" "_law_scaled" sLScl fC dC) (bC : Binds K dC ["_law_v", "_law_a", "_law_p"] []) (gC : mg "_law_scaled" = some (.ref fC)) :
    FnOk P w K mg base CX0 2 f fd ["_law_rows_here", "_law_n", "_law_p"] (spLSp K) := by
  have GZ : FnOk P w K mg base CX0 1 fZ dZ ["_law_n"] spZero := ok_zero FZ N
  have GA : FnOk P w K mg base CX0 1 fA dA ["_law_v", "_law_w", "_law_p"] spAdd := ok_lsum FA N
  have GC : FnOk P w K mg base CX0 1 fC dC ["_law_v", "_law_a", "_law_p"] spScl := ok_lscl FC N
  refine F.ok scLSp (fun vs H Q E h => ?_) (fun cdv A outer s H vs Q E hr h => ?_)
  · obtain ⟨v, rs, n, p, rfl, _⟩ := h
    rfl
  · obtain ⟨v, rs, n, p, rfl, ⟨a, xs, rfl, hsq, hrs⟩, hp, hcan, hlen, hn, q⟩ := h
    refine ⟨_, pss_cons (ps_set (i := 3) scLSp.nd rfl (Or.inl rfl) (pe_lst (pa_cons (pe_call GZ hr (by rfl) gZ FZ.kp bZ .nil pass0 (pa_cons (pv 1) pa_nil)) pa_nil)))
      (pss_cons (ps_for PassesOwn.never rfl (pi_seqV 0) (pg_name (i := 4) scLSp.nd rfl (Or.inr rfl))
        (pss_one (ps_if (pt_cmpR (op_niR (room65 hr)) (pv 4) (pv 3) rfl)
          (pss_cons (ps_set (i := 5) scLSp.nd rfl (Or.inl rfl) (pe_lst pa_nil))
          (pss_cons (ps_for PassesOwn.never rfl (pi_list (pv 3)) (pg_name (i := 6) scLSp.nd rfl (Or.inr rfl))
            (pss_one (ps_set (i := 5) scLSp.nd rfl (Or.inl rfl) (pe_op op_cat (pv 5)
              (pe_lc (own := [("_law_a", 7)]) (g := gName 7) (tt := tYes) rfl scLSp.nd (pi_range1 (by rfl) N.range (pa_cons (pv 2) pa_nil)) (blkOk_by (N := nLSp) (sc := defScope sLSp) (by decide +kernel))
                (fun _ _ _ _ _ => pg_name (i := 7) scLSp.nd rfl (Or.inl rfl)) (fun _ _ _ _ _ => pts_nil)
                (fun _ _ _ _ _ => pe_call GA hr (by rfl) gA FA.kp bA .nil pass0 (pa_cons (pv 6) (pa_cons (pe_call GC hr (by rfl) gC FC.kp bC .nil pass0 (pa_cons (pv 4) (pa_cons (pv 7) (pa_cons (pv 2) pa_nil)))) (pa_cons (pv 2) pa_nil)))))))))
          (pss_one (ps_set (i := 3) scLSp.nd rfl (Or.inl rfl) (pe_callTy call_list_of (by rfl) N.list (by decide +kernel) (pa_cons (pv 5) pa_nil))))))
          pss_nil)))
      (pss_one (ps_ret (pe_callB (cr_srt (room4 hr)) (by rfl) N.sorted (by decide +kernel) (pa_cons (pv 3) pa_nil))))), ?_⟩
    have hp0 : 0 < p := by have := hp.pos; omega
    have hp7 : p ≤ 7 := by unfold Pr4 at hp; omega
    have xl := hrs.length
    refine ⟨_, rfl, n, rfl, by omega, fun H0 z e0 hz => ⟨by show 1 ≤ sizeLine; decide, fun fo nfo => ?_⟩⟩
    have s1 : Same H0 (upd H0 fo (.lst [z])) := same_new nfo
    have e1 := e0.trans s1
    have hsq1 : (upd H0 fo (.lst [z])) a = some (.lst xs) ∨ (upd H0 fo (.lst [z])) a = some (.tup xs) := hsq.imp (e1 _ _) (e1 _ _)
    refine ⟨_, a, xs, rfl, rfl, hsq1, fun J wJ => ?_⟩
    refine for_it wJ (fun i σ H' => Same (upd H0 fo (.lst [z])) H' ∧ ∃ fo fs y4 y5 y6, σ = [some (.ref a), some (.int (n : Int)), some (.int (p : Int)), some (.ref fo), y4, y5, y6, none] ∧ H' fo = some (.lst fs) ∧ Rws H' fs (lawTo p n rs i))
      ⟨Same.refl _, fo, [z], none, none, none, rfl, upd_same, by rw [lawTo_zero]; exact .cons (hz.tm (tm_of s1)) .nil⟩ (fun i σ H' _ pv => pv.1) (fun i x σ H' H'' hi pv y => ?_) (fun σ H' pv => ?_)
    · obtain ⟨sm, fo, fs, y4, y5, y6, rfl, hfo, hfs⟩ := pv
      obtain ⟨rfl, g1⟩ := y
      obtain ⟨row, g2, g3⟩ := (hrs.tm (tm_of (e1.trans sm))).get g1
      have crow : Can p n row := hcan row (List.mem_of_getElem? g2)
      have cf := lawTo_can hp hcan i
      have lf := lawTo_len (n := n) hp (rows := rs) i
      have lp := pow_le (i := i) hp (by omega)
      have fl := hfs.length
      refine ⟨_, rfl, _, rfl, row, fo, fs, _, g3, rfl, hfo, hfs, _, rfl, ?_⟩
      by_cases hm : row ∈ lawTo p n rs i
      · rw [decide_eq_true hm]
        refine ⟨sm, fo, fs, _, _, _, rfl, hfo, ?_⟩
        rw [lawTo_succ g2]
        unfold lawStep
        rw [if_pos hm]
        exact hfs
      · rw [decide_eq_false hm]
        -- longer = []
        refine ⟨Nat.zero_le _, fun lo nlo => ?_⟩
        have s2 : Same H'' (upd H'' lo (.lst [])) := same_new nlo
        refine ⟨_, rfl, fo, rfl, ⟨fs, SqL.of (s2 _ _ hfo)⟩, ?_⟩
        refine for_list (xs := fs) (fun j σ' H5 => Same (upd H'' lo (.lst [])) H5 ∧ ∃ lo ls y6, σ' = [some (.ref a), some (.int (n : Int)), some (.int (p : Int)), some (.ref fo), some x, some (.ref lo), y6, none] ∧ H5 lo = some (.lst ls) ∧ Rws H5 ls (growR p ((lawTo p n rs i).take j) row))
          ⟨Same.refl _, lo, [], y6, rfl, upd_same, .nil⟩ (fun j σ' H5 _ pv => SqL.of ((s2.trans pv.1) _ _ hfo)) (fun j wd σ' H5 hj pv => ?_) (fun σ' H5 pv => ?_)
        · obtain ⟨sm5, lo, ls, y6, rfl, hlo, hls⟩ := pv
          have t5 : Tm H'' H5 := tm_of (s2.trans sm5)
          obtain ⟨wr, k1, k2⟩ := (hfs.tm t5).get hj
          have cw : Can p n wr := cf wr (List.mem_of_getElem? k1)
          have jl : j < fs.length := (List.getElem?_eq_some_iff.mp hj).1
          have ll := hls.length
          have gl : (growR p ((lawTo p n rs i).take j) row).length ≤ 16807 * 7 := by
            rw [grow_len, List.length_take]
            exact Nat.mul_le_mul (by omega) hp7
          refine ⟨_, rfl, _, rfl, (p : Int), rfl, by omega, by omega, fun D hD => ?_⟩
          refine lc_all (n := p) walk_range (by omega) (fun c y H => IsRow H y (addR p wr (sclR p row (c : Int)))) (fun _ _ _ _ t h => h.tm t) hD (fun _ _ => trivial) yfn_same (fun c y H6 H7 hc e6 y6 => ?_) gName_mono (fun H8 ds e8 hD8 dl hds => ?_)
          · obtain ⟨rfl, rfl⟩ := y6
            refine ⟨rfl, fun Q' kk => ?_⟩
            refine ⟨_, rfl, _, rfl, _, rfl, _, rfl, x, row, (0 : Int) + (c : Int), p, rfl, g3.tm (t5.trans (tm_of e6)), by rw [crow.1]; omega, can_bd hp crow, hp0, fun H9 vv e9 hv => ?_⟩
            refine ⟨_, rfl, wd, vv, wr, _, p, n, rfl, k2.tm (tm_of (e6.trans e9)), hv, cw.1, (can_scl hp0 _ crow).1, by omega, hp0, fun H10 v10 e10 h10 => kk v10 H10 (e9.trans e10) ?_⟩
            rw [Int.zero_add] at h10
            exact h10
          · have rd : Rws H8 ds ((List.range p).map fun c : Nat => addR p wr (sclR p row (c : Int))) := Rws.of_get (by rw [dl, List.length_map, List.length_range]) fun c y hy => by
              have hcp : c < p := by rw [← dl]; exact (List.getElem?_eq_some_iff.mp hy).1
              exact ⟨_, by rw [List.getElem?_map, List.getElem?_range hcp]; rfl, hds c y hy⟩
            have hlo8 := e8 _ _ hlo
            refine ⟨lo, D, ls, ds, rfl, rfl, hlo8, hD8, Nat.le_trans (show ls.length + ds.length ≤ 200000 by omega) (by decide), fun D2 n2 => ?_⟩
            have s9 : Same H8 (upd H8 D2 (.lst (ls ++ ds))) := same_new n2
            refine ⟨(sm5.trans e8).trans s9, D2, ls ++ ds, _, rfl, upd_same, ?_⟩
            rw [grow_take k1]
            exact Rws.append (hls.tm (tm_of (e8.trans s9))) (rd.tm (tm_of s9))
        · -- found = list(longer)
          obtain ⟨sm5, lo, ls, y6, rfl, hlo, hls⟩ := pv
          rw [List.take_of_length_le (by omega)] at hls
          refine ⟨_, rfl, lo, ls, rfl, .inl (SqL.of hlo), fun f2 nf2 => ?_⟩
          have s6 : Same H5 (upd H5 f2 (.lst ls)) := same_new nf2
          refine ⟨((sm.trans s2).trans sm5).trans s6, f2, ls, _, _, _, rfl, upd_same, ?_⟩
          rw [lawTo_succ g2]
          unfold lawStep
          rw [if_neg hm]
          exact hls.tm (tm_of s6)
    · obtain ⟨sm, fo, fs, y4, y5, y6, rfl, hfo, hfs⟩ := pv
      rw [xl, lawTo_all] at hfs
      have hall : ∀ r ∈ lawR p n rs, Can p n r := by
        have := lawTo_can hp hcan rs.length
        rw [lawTo_all] at this
        exact this
      refine ⟨_, rfl, fo, fs, _, rfl, hfo, hfs, short_or (law_nd hp hcan) hall, fun t ys rs' nt hys pr sr => ?_⟩
      exact q _ t ys rs' ((e1.trans sm).trans (same_new nt)) upd_same (hys.tm (tm_new nt)) pr sr

/-! ### a table in form -/
def spForm : Sp := fun vs H Q _ => ∃ (t : Addr) (xs : List V) (L : List (Nat × RowI)) (n p : Nat), vs = [.ref t, .int (n : Int)] ∧ H t = some (.tup xs) ∧ Rws H xs (L.map (·.2)) ∧ FormR p n L ∧ L.length ≤ 1000 ∧ n ≤ 100 ∧ ∀ H', Same H H' → Q (.bl true) H'
theorem int_dec {i j : Int} : decide (V.int i = V.int j) = decide (i = j) := by
  by_cases h : i = j
  · rw [decide_eq_true h, decide_eq_true (congrArg V.int h)]
  · rw [decide_eq_false h, decide_eq_false fun e => h (V.int.inj e)]
theorem ok_form {f : Addr} {fd : FuncData} {k : Nat} (F : Fun K "_law_in_form" "_law_in_form" sForm f fd) (N : NoG mg) : FnOk P w K mg base CX0 (k + 1) f fd ["_law_told", "_law_n"] spForm := by
  refine F.ok scForm (fun vs H Q E h => ?_) (fun cdv A outer s H vs Q E hr h => ?_)
  · obtain ⟨t, xs, L, n, p, rfl, _⟩ := h
    rfl
  · obtain ⟨t, xs, L, n, p, rfl, ht, hxs, hF, hL, hn, q⟩ := h
    refine ⟨_, pss_cons (ps_set (i := 2) scForm.nd rfl (Or.inl rfl) (pe_un un_neg pe_int))
      (pss_cons (ps_if (pt_not (pt_val (pe_callB call_isi (by rfl) N.isin (by decide +kernel) (pa_cons (pv 0) (pa_cons (pe_bltn (v := .ty "tuple") (by rfl) N.tuple (by decide +kernel) rfl) pa_nil))))) (pss_one (ps_ret pe_bl)) pss_nil)
      (pss_cons (ps_for PassesOwn.never rfl (pi_range1 (by rfl) N.range (pa_cons (pe_callB call_len_seq (by rfl) N.len PySem.boot_len (pa_cons (pv 0) pa_nil)) pa_nil)) (pg_name (i := 3) scForm.nd rfl (Or.inr rfl))
        (pss_cons (ps_if (PW.pt (pw_or (pt_not (pt_val (pe_callB call_isi (by rfl) N.isin (by decide +kernel) (pa_cons (pe_ix ix_tup (pv 0) (pv 3) (fun _ _ => rfl)) (pa_cons (pe_bltn (v := .ty "tuple") (by rfl) N.tuple (by decide +kernel) rfl) pa_nil)))))
            (pw_or1 (pt_cmpR op_ne (pe_callB call_len_seq (by rfl) N.len PySem.boot_len (pa_cons (pe_ix ix_tup (pv 0) (pv 3) (fun _ _ => rfl)) pa_nil)) (pv 1) (nomark _))))) (pss_one (ps_ret pe_bl)) pss_nil)
        (pss_cons (ps_setLc (i := 4) (own := [("_law_j", 6)]) (g := gName 6) rfl scForm.nd rfl rfl (sw_true rfl rfl rfl (by decide +kernel)) (pi_range1 (by rfl) N.range (pa_cons (pv 1) pa_nil)) (blkOk_by (N := nForm) (sc := defScope sForm) (by decide +kernel))
            (fun _ _ _ _ _ => pg_name (i := 6) scForm.nd rfl (Or.inl rfl))
            (fun _ _ _ _ _ => pts_one (pt_cmpR op_ne (pe_ix (ixT (K := K)) (pe_ix (ixT (K := K)) (pv 0) (pv 3) (fun _ _ => rfl)) (pv 6) (fun _ _ => rfl)) pe_int (nomark _))) (fun _ _ _ _ _ => pv 6))
        (pss_cons (ps_if (PW.pt (pw_or (pt_cmpR op_eq (pe_callB call_len_seq (by rfl) N.len PySem.boot_len (pa_cons (pv 4) pa_nil)) pe_int (nomark _))
            (pw_or (pt_cmpR op_le (pe_ix ix_list (pv 4) pe_int (fun _ _ => rfl)) (pv 2) (nomark _))
            (pw_or1 (pt_cmpR op_ne (pe_ix ix_tup (pe_ix ix_tup (pv 0) (pv 3) (fun _ _ => rfl)) (pe_ix ix_list (pv 4) pe_int (fun _ _ => rfl)) (fun _ _ => rfl)) pe_int (nomark _)))))) (pss_one (ps_ret pe_bl)) pss_nil)
        (pss_cons (ps_set (i := 2) scForm.nd rfl (Or.inl rfl) (pe_ix ix_list (pv 4) pe_int (fun _ _ => rfl)))
        (pss_one (ps_for PassesOwn.never rfl (pi_range1 (by rfl) N.range (pa_cons (pe_callB call_len_seq (by rfl) N.len PySem.boot_len (pa_cons (pv 0) pa_nil)) pa_nil)) (pg_name (i := 5) scForm.nd rfl (Or.inl rfl))
          (pss_one (ps_if (PW.pt (pw_and (pt_cmpR op_ne (pv 5) (pv 3) (nomark _)) (pw_and1 (pt_cmpR op_ne (pe_ix ix_tup (pe_ix ix_tup (pv 0) (pv 5) (fun _ _ => rfl)) (pv 2) (fun _ _ => rfl)) pe_int (nomark _))))) (pss_one (ps_ret pe_bl)) pss_nil)))))))))
      (pss_one (ps_ret pe_bl)))), ?_⟩
    have xl := hxs.length
    rw [List.length_map] at xl
    -- last = -1; if not isinstance(..)
    refine ⟨1, rfl, _, rfl, ?_⟩
    refine ⟨_, _, _, _, true, rfl, .ty "tuple", .base (.tup ht), kit_ty (by decide +kernel), true, rfl, ?_⟩
    refine ⟨_, rfl, t, xs, rfl, .inr (SqT.of ht), _, rfl, by omega, by omega, ?_⟩
    refine for_range (lo := 0) (n := ((xs.length : Nat) : Int).toNat) (fun i σ H' => Same H H' ∧ ∃ la y3 y4 y5, σ = [some (.ref t), some (.int (n : Int)), some (.int la), y3, y4, y5, none] ∧ ∀ x, L[i]? = some x → la < (x.1 : Int)) ⟨Same.refl _, -1, none, none, none, rfl, fun x _ => by omega⟩ (fun i σ H' hi pv => ?_) (fun σ H' pv => ?_)
    · obtain ⟨sm, la, y3, y4, y5, rfl, hla⟩ := pv
      have hiL : i < L.length := by omega
      have hLi : L[i]? = some L[i] := List.getElem?_eq_getElem hiL
      have hlast := hla _ hLi
      have mL : L[i] ∈ L := List.getElem_mem hiL
      have hlt := hF.lt _ mL
      have hcan := hF.can _ mL
      have h1 := hF.one _ mL
      have hlow := hF.low _ mL
      obtain ⟨v, hv1, b, rfl, hb⟩ := (hxs.tm (tm_of sm)).get' (i := i) (r := L[i].2) (by rw [List.getElem?_map, hLi]; rfl)
      have ht' := sm _ _ ht
      have av : atI xs (i : Int) = some (.ref b) := atI_nat hv1
      rw [Int.zero_add]
      -- if not isinstance(told[i], tuple) or len(told[i]) != n
      refine ⟨_, rfl, _, rfl, t, xs, _, _, rfl, rfl, SqT.of ht', av, ?_⟩
      refine ⟨_, _, _, _, true, rfl, .ty "tuple", .base (.tup hb), kit_ty (by decide +kernel), true, rfl, ?_⟩
      refine ⟨_, rfl, _, rfl, t, xs, _, _, rfl, rfl, SqT.of ht', av, b, _, rfl, .inr (SqT.of hb), _, rfl, rfl, _, rfl, ?_⟩
      rw [int_dec, decide_eq_true (show (((L[i].2.map V.int).length : Nat) : Int) = (n : Int) by rw [List.length_map, hcan.1])]
      -- heads
      refine ⟨_, rfl, (n : Int), rfl, by omega, by omega, fun D hD => ?_⟩
      refine lc_fil (n := n) walk_range (by omega) (fun j => !decide (L[i].2.getD j 0 = 0)) (fun j => .int ((0 : Int) + (j : Int))) hD (fun _ _ => trivial) yfn_same (fun j x H1 H2 hj e y => ?_) gName_mono (fun H5 e5 h5 => ?_)
      · obtain ⟨rfl, rfl⟩ := y
        refine ⟨rfl, fun Q' H3 h => ⟨_, rfl, h⟩, fun Q' kk => ?_⟩
        refine ⟨_, rfl, _, rfl, t, xs, _, _, rfl, rfl, SqT.of (e _ _ ht'), av, _, rfl, b, _, _, _, rfl, rfl, SqT.of (e _ _ hb), (by rw [Int.zero_add]; exact atI_row (by rw [hcan.1]; exact hj)), rfl, _, rfl, ?_⟩
        rw [int_dec]
        exact kk _ (Same.refl _)
      · obtain ⟨ks, hks⟩ := heads_first hlt (by rw [h1]; decide) hlow
        rw [hks] at h5
        have ht5 := e5 _ _ ht'
        have hb5 := e5 _ _ hb
        have a0 : atI ((L[i].1 :: ks).map fun j : Nat => V.int ((0 : Int) + (j : Int))) 0 = some (.int (L[i].1 : Int)) := by
          have := atI_nat (xs := (L[i].1 :: ks).map fun j : Nat => V.int ((0 : Int) + (j : Int))) (j := 0) (v := .int ((0 : Int) + (L[i].1 : Int))) rfl
          rw [Int.zero_add] at this
          exact this
        -- if len(heads) == 0 or heads[0] <= last or told[i][heads[0]] != 1
        refine ⟨_, rfl, D, _, rfl, .inl (SqL.of h5), rfl, _, rfl, ?_⟩
        rw [int_dec, decide_eq_false (show ¬ ((((L[i].1 :: ks).map fun j : Nat => V.int ((0 : Int) + (j : Int))).length : Nat) : Int) = 0 by rw [List.length_map, List.length_cons]; omega)]
        refine ⟨_, rfl, D, _, _, _, rfl, rfl, SqL.of h5, a0, _, rfl, _, _, rfl, rfl, _, rfl, ?_⟩
        rw [decide_eq_false (show ¬ (L[i].1 : Int) ≤ la by omega)]
        refine ⟨_, rfl, _, rfl, t, xs, _, _, rfl, rfl, SqT.of ht5, av, _, rfl, D, _, _, _, rfl, rfl, SqL.of h5, a0, b, _, _, _, rfl, rfl, SqT.of hb5, atI_row (by rw [hcan.1]; exact hlt), rfl, _, rfl, ?_⟩
        rw [int_dec, decide_eq_true h1]
        -- last = heads[0]
        refine ⟨_, rfl, D, _, _, _, rfl, rfl, SqL.of h5, a0, ?_⟩
        -- for k in range(len(told))
        refine ⟨_, rfl, t, xs, rfl, .inr (SqT.of ht5), _, rfl, by omega, by omega, ?_⟩
        refine for_range (lo := 0) (n := ((xs.length : Nat) : Int).toNat) (fun c σ H' => Same H5 H' ∧ ∃ y5, σ = [some (.ref t), some (.int (n : Int)), some (.int (L[i].1 : Int)), some (.int (i : Int)), some (.ref D), y5, none]) ⟨Same.refl _, y5, rfl⟩ (fun c σ H6 hc pv => ?_) (fun σ H6 pv => ?_)
        · obtain ⟨s6, y5, rfl⟩ := pv
          have hcL : c < L.length := by omega
          have hLc : L[c]? = some L[c] := List.getElem?_eq_getElem hcL
          have mC : L[c] ∈ L := List.getElem_mem hcL
          rw [Int.zero_add]
          refine ⟨_, rfl, _, rfl, rfl, _, rfl, ?_⟩
          rw [int_dec]
          by_cases hci : c = i
          · rw [decide_eq_true (show (c : Int) = (i : Int) by omega)]
            exact ⟨s6, _, rfl⟩
          · rw [decide_eq_false (show ¬ (c : Int) = (i : Int) by omega)]
            obtain ⟨v2, hv2, b2, rfl, hb2⟩ := ((hxs.tm (tm_of sm)).tm (tm_of (e5.trans s6))).get' (i := c) (r := L[c].2) (by rw [List.getElem?_map, hLc]; rfl)
            have hne : L[c].1 ≠ L[i].1 := fun z => by
              rcases Nat.lt_or_gt_of_ne hci with h | h
              · have := List.pairwise_iff_getElem.mp hF.inc c i hcL hiL h; omega
              · have := List.pairwise_iff_getElem.mp hF.inc i c hiL hcL h; omega
            refine ⟨_, rfl, _, rfl, t, xs, _, _, rfl, rfl, SqT.of (s6 _ _ ht5), atI_nat hv2, _, rfl, b2, _, _, _, rfl, rfl, SqT.of hb2, atI_row (by rw [(hF.can _ mC).1]; exact hlt), rfl, _, rfl, ?_⟩
            rw [int_dec, decide_eq_true (hF.oth _ mC _ mL hne)]
            exact ⟨s6, _, rfl⟩
        · obtain ⟨s6, y5, rfl⟩ := pv
          refine ⟨(sm.trans e5).trans s6, _, _, _, _, rfl, fun x hx => ?_⟩
          obtain ⟨h2, h3⟩ := List.getElem?_eq_some_iff.mp hx
          have := List.pairwise_iff_getElem.mp hF.inc i (i + 1) hiL h2 (Nat.lt_succ_self i)
          rw [h3] at this
          omega
    · exact q _ pv.1

/-! ### it shows these words -/
def spShow : Sp := fun vs H Q _ => ∃ (t l : Addr) (xs ys : List V) (L : List (Nat × RowI)) (ws : List RowI) (n p : Nat), vs = [.ref t, .ref l, .int (n : Int), .int (p : Int)] ∧ H t = some (.tup xs) ∧ Rws H xs (L.map (·.2)) ∧ FormR p n L ∧ L.length ≤ 5 ∧ n ≤ 100 ∧ Pr4 p ∧
  H l = some (.lst ys) ∧ Rws H ys ws ∧ (lawR p n (L.map (·.2))).Perm ws ∧ Sorted ws ∧ ∀ H', Same H H' → Q (.bl true) H'
theorem ok_show {f : Addr} {fd : FuncData} (F : Fun K "_law_shows" "_law_shows" sShow f fd) {fF fS : Addr} {dF dS : FuncData} (FF : Fun K "_law_in_form" "_law_in_form" sForm fF dF) (bF : Binds K dF ["_law_told", "_law_n"] []) (gF : mg "_law_in_form" = some (.ref fF))
    (GF : FnOk P w K mg base CX0 2 fF dF ["_law_told", "_law_n"] spForm) (FS : Fun K "_law_span" "_law_span" sLSp fS dS) (bS : Binds K dS ["_law_rows_here", "_law_n", "_law_p"] []) (gS : mg "_law_span" = some (.ref fS))
    (GS : FnOk P w K mg base CX0 2 fS dS ["_law_rows_here", "_law_n", "_law_p"] (spLSp K)) : FnOk P w K mg base CX0 3 f fd ["_law_told", "_law_words", "_law_n", "_law_p"] spShow := by
  refine F.ok scShow (fun vs H Q E h => ?_) (fun cdv A outer s H vs Q E hr h => ?_)
  · obtain ⟨t, l, xs, ys, L, ws, n, p, rfl, _⟩ := h
    rfl
  · obtain ⟨t, l, xs, ys, L, ws, n, p, rfl, ht, hxs, hF, hL, hn, hp, hl, hys, pw, sw, q⟩ := h
    refine ⟨_, pss_one (ps_ret (pe_and (pe_call GF hr (by rfl) gF FF.kp bF .nil pass0 (pa_cons (pv 0) (pa_cons (pv 2) pa_nil)))
      (pe_one (pe_cmpR (op_eqL (room64 hr)) (pe_call GS hr (by rfl) gS FS.kp bS .nil pass0 (pa_cons (pv 0) (pa_cons (pv 2) (pa_cons (pv 3) pa_nil)))) (pv 1) (nomark _))))), ?_⟩
    refine ⟨_, rfl, _, rfl, t, xs, L, n, p, rfl, ht, hxs, hF, by omega, hn, fun H1 e1 => ⟨true, rfl, ?_⟩⟩
    refine ⟨_, rfl, _, rfl, _, rfl, .ref t, L.map (·.2), n, p, rfl, ⟨t, xs, rfl, .inr (e1 _ _ ht), hxs.tm (tm_of e1)⟩, hp, fun r hr => ?_, by rw [List.length_map]; exact hL, hn, fun H2 l2 zs rs' e2 h2 hz pr sr => ?_⟩
    · obtain ⟨x, hx, rfl⟩ := List.mem_map.mp hr
      exact hF.can x hx
    · have e12 := e1.trans e2
      refine ⟨_, rfl, l2, l, zs, ys, rs', ws, rfl, rfl, h2, hz, e12 _ _ hl, hys.tm (tm_of e12), ?_⟩
      rw [decide_eq_true (sorted_uniq sr sw (pr.trans pw))]
      exact q H2 e12
end
end K04W
end

section
set_option Elab.async false
set_option linter.all false
set_option maxRecDepth 100000
set_option maxHeartbeats 4000000
/-! K04G: a generator that walks a list with yield: its own for, its promise for a consumer that changes several objects between the wakes. -/
namespace K04W
open PySem PySem.Spec PyProof.Rows L2 K04 GenW

/-! ### for, in a generator -/
section
variable {prog : Program} {w : World} {A : Around} {R : GenEnd} {Y : Protocol} {n : Nat} {s₀ s : Shared} {c : Code} {fs : List Frame} {env : Env} {K : Flow → Sem PySem.Fin} {J : Value → Sem PySem.Fin} {gd : Bool → Bool} {lv : List Value → List Value}
theorem seg_forX {tg iter : Expr} {body : List Stmt} {pos : Pos} (hs : ∀ x, foldedSetIterable iter env x = pure x)
    (h : wpAny (model prog w) (A.over c fs) (eval iter env) (fun v s1 => wpAny (model prog w) (A.over c fs) (pyIter v) (fun it s2 => ∀ p (l : List Value), Seg (model prog w) A R Y n s₀ (.forLoop tg it body [] env) ((model prog w).den (.forLoop tg it body [] env))
      (.ret (fun r => ((match r with | .ok f => (.pure f : Sem Flow) | .error e => .raise e).onRaise (cameBack env)).wrap K J gd lv) none (gd false) l c p [] :: fs) s2) (fun _ _ => False) s1) (fun _ _ => False) s) :
    Seg (model prog w) A R Y n s₀ c ((exec (.For tg iter body [] pos) env).wrap K J gd lv) fs s := by
  rw [arm_exec_For]
  refine seg_bind_wrap (wpAny_standAt ?_)
  refine seg_bind_wrap (wpAny_mono h (fun v s1 h1 => ?_) fun _ _ z => z.elim)
  refine seg_bind_wrap (wpAny_of_eq (hs v) ?_)
  refine seg_bind_wrap (wpAny_standAt ?_)
  refine seg_bind_wrap (wpAny_holding (wpAny_mono h1 (fun it s2 h2 => ?_) fun _ _ z => z.elim))
  exact seg_call fun p => h2 p _

theorem seg_forLoop {tg : Expr} {it : Value} {body : List Stmt}
    (h : wpAny (model prog w) (A.over (.forLoop tg it body [] env) fs) (pyNext it) (fun r s1 => match r with
      | none => Seg (model prog w) A R Y n s₀ (.block [] env) (.pure (.done .next)) fs s1
      | some v => wpAny (model prog w) (A.over (.forLoop tg it body [] env) fs) (letOwnedTupleGo tg it v) (fun _ s2 => wpAny (model prog w) (A.over (.forLoop tg it body [] env) fs) (assign tg env v) (fun _ s3 =>
          Seg (model prog w) A R Y n s₀ (.forLoop tg it body [] env) ((execs body env).wrap (fun f => match f with
            | .next | .cont => .pure (.again (.forLoop tg it body [] env))
            | .brk => .pure (.done .next)
            | .ret v => .pure (.done (.ret v))) (fun e => (do noteFrame e env; theTreesLotGoes e : Sem Unit).wrap (fun _ => .raise e) .raise id id) id id) fs s3) (fun _ _ => False) s2) (fun _ _ => False) s1) (fun _ _ => False) s) :
    Seg (model prog w) A R Y n s₀ (.forLoop tg it body [] env) ((model prog w).den (.forLoop tg it body [] env)) fs s := by
  show Seg _ A R Y n s₀ _ ((forTurn tg it body [] env).onRaise (fun x => do noteFrame x env; theTreesLotGoes x)) fs s
  unfold forTurn
  rw [Sem.onRaise_eq_wrap]
  refine seg_bind_wrap (wpAny_standAt ?_)
  refine seg_bind_wrap (wpAny_onRaise (wpAny_mono h (fun r s1 h1 => ?_) fun _ _ z => z.elim))
  cases r with
  | none => exact seg_again rfl (by
      show Seg _ A R Y n s₀ _ (execs [] env >>= fun f => _) fs s1
      exact h1)
  | some v =>
    refine seg_bind_wrap (wpAny_mono h1 (fun _ s2 h2 => ?_) fun _ _ z => z.elim)
    refine seg_bind_wrap (wpAny_mono h2 (fun _ s3 h3 => ?_) fun _ _ z => z.elim)
    rw [Sem.bind_eq_wrap', Sem.wrap_wrap]
    rw [Sem.wrap_congr (execs body env) _ _ (K' := fun f => match f with
            | .next | .cont => .pure (.again (.forLoop tg it body [] env))
            | .brk => .pure (.done .next)
            | .ret v => .pure (.done (.ret v))) (H' := (fun e => (do noteFrame e env; theTreesLotGoes e : Sem Unit).wrap (fun _ => .raise e) .raise id id))
        (fun f => by cases f <;> rfl)
        (fun e => by first | exact Sem.bind_eq_wrap _ _ | (show (do noteFrame e env; theTreesLotGoes e : Sem Unit).bind (fun _ => .raise e) = _; rw [Sem.bind_eq_wrap]))]
    exact h3
end

/-! ### between two wakes -/
/-- S gets v at its end, the objects at Z may change, all else is kept -/
structure Slz (S : Addr) (Z : List Addr) (v : Value) (s s' : Shared) : Prop where
  os : s'.os = s.os
  bare : AllBare s'.gens
  keep : ∀ b o, b ≠ S → b ∉ Z → s.heap.get? b = some o → s'.heap.get? b = some o
  there : ∀ b ∈ Z, ∃ o, s'.heap.get? b = some o ∧ ∀ v, o.data ≠ .cell v
  own : ∀ acc c, s.heap.get? S = some (lstObj acc c) → ∃ c', s'.heap.get? S = some (lstObj (acc.push v) c')
theorem recs_of {h : Heap} : ∀ {Z : List Addr}, (∀ b ∈ Z, ∃ o, h.get? b = some o ∧ ∀ v, o.data ≠ .cell v) → ∃ zs : List (Addr × Obj), zs.map (·.1) = Z ∧ ∀ p ∈ zs, h.get? p.1 = some p.2 ∧ ∀ v, p.2.data ≠ .cell v
  | [], _ => ⟨[], rfl, fun p hp => by simp at hp⟩
  | z :: Z, h => by
    obtain ⟨o, e, d⟩ := h z List.mem_cons_self
    obtain ⟨zs, e2, d2⟩ := recs_of (Z := Z) fun b hb => h b (List.mem_cons_of_mem _ hb)
    refine ⟨(z, o) :: zs, by rw [List.map_cons, e2], fun p hp => ?_⟩
    rcases List.mem_cons.mp hp with rfl | hp
    · exact ⟨e, d⟩
    · exact d2 p hp
section
variable {X : Cx} {S : Addr} {Z : List Addr} {zs gp : List (Addr × Obj)} {acc : Array Value} {c : Nat} {v : Value} {σ : L2.St} {H : Hp} {s s' : Shared}
theorem woken (hp0 : X.pn = []) (hA : Apart X S) (hZ : ∀ z ∈ Z, Apart X z) (hg : ∀ p ∈ gp, p.1 ≠ S ∧ p.1 ∉ Z) (hz : zs.map (·.1) = Z) (I : Inv X ((S, lstObj acc c) :: (zs ++ gp)) σ H s) (z : Slz S Z v s s') :
    ∃ (c' : Nat) (zs' : List (Addr × Obj)), zs'.map (·.1) = Z ∧ Inv X ((S, lstObj (acc.push v) c') :: (zs' ++ gp)) σ H s' := by
  have pS := I.pin (S, lstObj acc c) (List.mem_append_right _ List.mem_cons_self)
  have pZ : ∀ b ∈ Z, H b = none ∧ b ≠ X.env.locals ∧ b ∉ X.fs := fun b hb => by
    rw [← hz] at hb
    obtain ⟨p, hp, rfl⟩ := List.mem_map.mp hb
    obtain ⟨_, h2, h3, h4, _⟩ := I.pin p (List.mem_append_right _ (List.mem_cons_of_mem _ (List.mem_append_left _ hp)))
    exact ⟨h2, h3, h4⟩
  obtain ⟨eS, nS, lS, fS, _⟩ := pS
  have I0 : Inv X gp σ H s := I.pins_of fun p hp => I.pin p (List.mem_append_right _ (List.mem_cons_of_mem _ (List.mem_append_right _ hp)))
  have nt : ∀ b u, H b = some u → b ∉ S :: Z := fun b u q hb => by
    rcases List.mem_cons.mp hb with e | e
    · rw [e, nS] at q; cases q
    · rw [(pZ b e).1] at q; cases q
  obtain ⟨z1, z2, z3, z4, z5⟩ := z
  obtain ⟨c', eS'⟩ := z5 acc c eS
  obtain ⟨zs', hz', hzs'⟩ := recs_of z4
  obtain ⟨hh, g, d, t, o⟩ := s'
  have ho : o = s.os := z1
  subst ho
  have k : ∀ b o, b ∉ S :: Z → s.heap.get? b = some o → hh.get? b = some o := fun b o hb e => z3 b o (fun q => hb (by rw [q]; exact List.mem_cons_self)) (fun q => hb (List.mem_cons_of_mem _ q)) e
  have J : Inv X gp σ H { s with heap := hh, gens := g, drawn := d, toks := t } := by
    refine I0.step (g' := g) (t' := t) (d' := d) (ch := S :: Z) (fun b hb => ?_)
      (fun b ob _ _ hc q _ => k b ob hc q) (fun b ob _ _ hc q _ => ⟨ob.slots, k b ob hc q⟩) (fun _ _ _ _ n => n) (fun b ob hc q => ⟨ob, k b ob hc q⟩)
      (fun _ _ q => q) (fun _ _ _ q => q) (fun b ps q => ⟨#[], by rw [q]; simp⟩) (fun m hm => ?_) (fun b u q => ?_) z2
    · have ap : Apart X b := by
        rcases List.mem_cons.mp hb with e | e
        · rw [e]; exact hA
        · exact hZ b e
      refine ⟨.inr ap.1, ap.2.1, ap.2.2, fun p hp => ?_⟩
      rw [hp0, List.nil_append] at hp
      intro e
      rcases List.mem_cons.mp hb with e' | e'
      · exact (hg p hp).1 (e.trans e')
      · exact (hg p hp).2 (by rw [e]; exact e')
    · obtain ⟨ob, es, ep, ho, r⟩ := hm
      exact ⟨ob, es, ep, k _ ob (fun q => by
        rcases List.mem_cons.mp q with e | e
        · exact lS e.symm
        · exact (pZ _ e).2.1 rfl) ho, r⟩
    · refine (I0.hok b u q).stay (fun c v hc y => k c v ?_ y) (fun _ y => y) fun _ _ y => y
      rcases hc with y | y
      · rw [y]; exact nt b u q
      · exact nt c _ y
  refine ⟨c', zs', hz', J.pins_of fun p hp => ?_⟩
  rcases List.mem_cons.mp hp with rfl | hp
  · exact ⟨eS', nS, lS, fS, fun v q => by cases q⟩
  · rcases List.mem_append.mp hp with hp | hp
    · obtain ⟨q1, q2⟩ := hzs' p hp
      obtain ⟨y1, y2, y3⟩ := pZ p.1 (by rw [← hz']; exact List.mem_map.mpr ⟨p, hp, rfl⟩)
      exact ⟨q1, y1, y2, y3, q2⟩
    · exact J.pin p (List.mem_append_right _ hp)
end

/-! ### the promise -/
abbrev SpZ := List V → Hp → (List V → Hp → Prop) → Prop
/-- the end of a run -/
def REz (P : Program) (w : World) (outer : List Env) (H : Hp) (s : Shared) (S : Addr) (Z : List Addr) (Q : List V → Hp → Prop) : GenEnd := fun n s₀ r s1 =>
  r = .ok (.ret .none) ∧ ∃ H' ys acc c, s1.os = s.os ∧ AllBare s1.gens ∧ Un (frs outer) [] H H' s.heap s1.heap ∧ HOk P w H' s1.heap ∧ (∀ b ∈ S :: Z, s1.heap.get? b = s₀.heap.get? b ∧ H' b = none) ∧
    s1.heap.get? S = some (lstObj acc c) ∧ Vals ys acc.toList ∧ ys.length ≤ sizeLine ∧ Q ys H'
/-- an item is handed out -/
def YIz (s : Shared) (S : Addr) (Z : List Addr) (a : Addr) (g : Nat) : Protocol := fun n s₀ v s1 kap =>
  s1.os = s.os ∧ AllBare s1.gens ∧ s1.heap.NoLimit ∧ s1.heap.IsGen a g ∧ (∀ b ∈ S :: Z, s1.heap.get? b = s₀.heap.get? b) ∧ (∃ (acc : Array Value) (c : Nat), s1.heap.get? S = some (lstObj acc c) ∧ n + 1 + acc.size = sizeLine) ∧
    ∀ s', Slz S Z v s1 s' → kap (.send .none) s'
def GMadeZ (P : Program) (w : World) (k : Nat) (outer : List Env) (H : Hp) (s : Shared) (Q : List V → Hp → Prop) (u : Value) (s' : Shared) : Prop :=
  ∃ (a : Addr) (g : Nat) (c : Code), u = .ref a ∧ s.heap.objs.size ≤ a ∧ a < s'.heap.objs.size ∧ s'.heap.IsGen a g ∧ s'.gens[g]? = some (.fresh c) ∧ s'.os = s.os ∧ AllBare s'.gens ∧ s'.heap.NoLimit ∧ (∀ b o, s.heap.get? b = some o → s'.heap.get? b = some o) ∧
    ∀ (A : Around) (S : Addr) (Z : List Addr) (s2 : Shared), Room k A → A.frames = some outer → s'.heap.objs.size ≤ S → (∀ z ∈ Z, s'.heap.objs.size ≤ z ∧ z ≠ S ∧ ∃ o, s2.heap.get? z = some o ∧ ∀ v, o.data ≠ .cell v) →
      (∀ b o, s'.heap.get? b = some o → s2.heap.get? b = some o) → (∃ c, s2.heap.get? S = some (lstObj #[] c)) → s2.os = s.os → AllBare s2.gens →
      Seg (model P w) A (REz P w outer H s S Z Q) (YIz s S Z a g) sizeLine s2 c ((model P w).den c) [] s2
theorem GMadeZ.made {P : Program} {w : World} {k : Nat} {outer : List Env} {H : Hp} {s s' : Shared} {Q : List V → Hp → Prop} {u : Value} {E : XK} (h : GMadeZ P w k outer H s Q u s') : GMade P w k outer H s [] Q E u s' := by
  obtain ⟨a, g, c, q1, q2, q3, q4, q5, q6, q7, q8, q9, run⟩ := h
  refine ⟨a, g, c, q1, q2, q3, q4, q5, q6, q7, q8, q9, fun A S s2 hr hf hS hk hl ho hb => ?_⟩
  refine seg_imp (fun n s₀ r s1 hR => ?_) (fun n s₀ v s1 kap kap' hkk hY => ?_) sizeLine (run A S [] s2 hr hf hS (fun z hz => by simp at hz) hk hl ho hb)
  · obtain ⟨e, H', ys, acc, cc, p1, p2, p3, p4, p5, p6, p7, p8, p9⟩ := hR
    exact .inl ⟨.inl e, H', ys, acc, cc, p1, p2, p3, p4, (p5 S List.mem_cons_self).2, p6, p7, p8, p9⟩
  · obtain ⟨p1, p2, p3, p4, _, p6, p7⟩ := hY
    exact ⟨p1, p2, p3, p4, p6, fun s' z => hkk _ _ (p7 s' ⟨z.os, z.bare, fun b o hb _ e => z.keep b o hb e, fun b hb => by simp at hb, z.own⟩)⟩
structure GFz (P : Program) (w : World) (K : PySem.W.Frag) (mg : Str → Option Value) (base : Heap) (k : Nat) (f : Addr) (fd : FuncData) (ps : List Str) (sp : SpZ) : Prop where
  len : ∀ vs H Q, sp vs H Q → vs.length = ps.length
  run : ∀ (A : Around) (outer : List Env) (s : Shared) (H : Hp) (args : Args) (us : List Value) (vs : List V) (Q : List V → Hp → Prop), Room k A → Env0 P w K mg base A outer s H → BindsTo s fd args (ps.zip us) → Vals vs us → sp vs H Q →
    codeAny (model P w) A (.call (.ref f) args) (fun r s' => match r with | .ok (.ret u) => GMadeZ P w k outer H s Q u s' | _ => False) s
theorem GFz.gfn {P : Program} {w : World} {K : PySem.W.Frag} {mg : Str → Option Value} {base : Heap} {k : Nat} {f : Addr} {fd : FuncData} {ps : List Str} {sp : SpZ} (F : GFz P w K mg base k f fd ps sp) : GFn P w K mg base k f fd ps (fun vs H Q _ => sp vs H Q) :=
  ⟨fun vs H Q _ h => F.len vs H Q h, fun A outer s H args us vs Q E hr he hb hv hs => codeAny_mono (F.run A outer s H args us vs Q hr he hb hv hs) fun r s' h => by
    cases r with
    | error e => exact h
    | ok fl => cases fl with
      | ret u => exact h.made
      | next => exact h
      | brk => exact h
      | cont => exact h⟩

/-! ### the walk of a list, item by item -/
structure FpZ (X : Cx) (S : Addr) (Z : List Addr) (gp : List (Addr × Obj)) (H : Hp) (b : Addr) : Prop where
  n : H b = none
  l : b ≠ X.env.locals
  f : b ∉ X.fs
  e : b ∈ X.ex ∨ X.s_0.heap.objs.size ≤ b
  c : ∀ x c, X.env.cells.lookup x = some c → c ≠ b
  s : b ≠ S
  z : b ∉ Z
  g : ∀ p ∈ gp, p.1 ≠ b
section
variable {X : Cx} {S : Addr} {Z : List Addr} {zs gp : List (Addr × Obj)} {H : Hp}
theorem FpZ.ok {b : Addr} {o : Obj} (h : FpZ X S Z gp H b) (hp : X.pn = []) (hz : zs.map (·.1) = Z) : FpOk X ((S, o) :: (zs ++ gp)) H b := by
  refine ⟨h.n, h.l, h.f, h.e, h.c, fun p q => ?_⟩
  rw [hp, List.nil_append] at q
  rcases List.mem_cons.mp q with rfl | q
  · exact Ne.symm h.s
  · rcases List.mem_append.mp q with q | q
    · exact fun e => h.z (by rw [← e, ← hz]; exact List.mem_map.mpr ⟨p, q, rfl⟩)
    · exact h.g p q
theorem FpZ.of {b : Addr} {o : Obj} (hp : X.pn = []) (hz : zs.map (·.1) = Z) (h : FpOk X ((S, o) :: (zs ++ gp)) H b) : FpZ X S Z gp H b := by
  obtain ⟨h1, h2, h3, h4, h5, h6⟩ := h
  rw [hp, List.nil_append] at h6
  refine ⟨h1, h2, h3, h4, h5, fun e => h6 (S, o) List.mem_cons_self e.symm, fun e => ?_, fun p q => h6 p (List.mem_cons_of_mem _ (List.mem_append_right _ q))⟩
  rw [← hz] at e
  obtain ⟨p, q, e⟩ := List.mem_map.mp e
  exact h6 p (List.mem_cons_of_mem _ (List.mem_append_left _ q)) e
variable {A : Around} {R : GenEnd} {fs : List Frame} {i : Nat} {v : Str} {p1 p2 p3 p4 : Pos} {a it ga : Addr} {g : Nat} {fp : List Addr} {tn : Nat → Heap → Prop} {ys : List V}
theorem seg_walk (hp0 : X.pn = []) (hcalm : X.calm = true) (hxe : ∀ e s, X.xe e s → False) (hN : X.N.Nodup) (hi : X.N[i]? = some v) (hil : i < X.N.length) (hv : X.env.scope.names.lookup v = some .local) (hdb : (v == ("__debug__" : Str)) = false) (hcd : (v == ("__classdict__" : Str)) = false)
    (hco : X.env.scope.isCoroutine = false) (hint : interactive X.env = false) (hA : Apart X S) (hZ : ∀ z ∈ Z, Apart X z) (hg : ∀ p ∈ gp, p.1 ≠ S ∧ p.1 ∉ Z) (hgen : ∀ h : Heap, (∀ p ∈ gp, h.get? p.1 = some p.2) → h.IsGen ga g)
    (T : Turn X.prog X.w X.K (.Name v p1) (Itl X.K a) fp it tn) (hf : ∀ b ∈ fp, FpZ X S Z gp H b) (hl : H a = some (.lst ys)) (hle : ys.length ≤ sizeLine)
    (hov : A.over (.forLoop (.Name v p1) (.ref it) [.Expr (.Yield (some (.Name v p2)) p3) p4] [] X.env) fs = X.A) (hsp : splitAtGen fs = none) (hgd : fs.any Frame.guarded = false)
    (hend : ∀ (n : Nat) (s₀ s : Shared) (σ : L2.St) (acc : Array Value) (c : Nat) (zs : List (Addr × Obj)), n + ys.length = sizeLine → zs.map (·.1) = Z → (∀ p ∈ (S, lstObj acc c) :: zs, s₀.heap.get? p.1 = some p.2) → Vals ys acc.toList →
      Inv X ((S, lstObj acc c) :: (zs ++ gp)) σ H s → Seg (model X.prog X.w) A R (YIz X.s_0 S Z ga g) n s₀ (.block [] X.env) (.pure (.done .next)) fs s) :
    ∀ (r j n : Nat) (s₀ s : Shared) (σ : L2.St) (acc : Array Value) (c : Nat) (zs : List (Addr × Obj)), j + r = ys.length → n + j = sizeLine → zs.map (·.1) = Z → (∀ p ∈ (S, lstObj acc c) :: zs, s₀.heap.get? p.1 = some p.2) → Vals (ys.take j) acc.toList →
      Inv X ((S, lstObj acc c) :: (zs ++ gp)) σ H s → tn j s.heap → Seg (model X.prog X.w) A R (YIz X.s_0 S Z ga g) n s₀ (.forLoop (.Name v p1) (.ref it) [.Expr (.Yield (some (.Name v p2)) p3) p4] [] X.env)
        ((model X.prog X.w).den (.forLoop (.Name v p1) (.ref it) [.Expr (.Yield (some (.Name v p2)) p3) p4] [] X.env)) fs s := by
  intro r
  induction r with
  | zero =>
    intro j n s₀ s σ acc c zs hj hn hz h0 hv0 I st
    have hj' : j = ys.length := by omega
    subst hj'
    rw [List.take_length] at hv0
    refine seg_forLoop ?_
    rw [hov]
    refine thn (T.done X rfl rfl rfl hcalm ys.length _ s σ H _ I (fun b hb => (hf b hb).ok hp0 hz) st ⟨ys, SqL.of hl, Nat.le_refl _⟩) fun r s1 ⟨hr, I1⟩ => ?_
    subst hr
    exact hend n s₀ s1 σ acc c zs hn hz h0 hv0 I1
  | succ r ih =>
    intro j n s₀ s σ acc c zs hj hn hz h0 hv0 I st
    have hjl : j < ys.length := by omega
    obtain ⟨n, rfl⟩ : ∃ m, n = m + 1 := ⟨n - 1, by omega⟩
    refine seg_forLoop ?_
    rw [hov]
    have ok := fun b hb => (hf b hb).ok (o := lstObj acc c) hp0 hz
    refine thn (T.item X rfl rfl rfl hcalm j _ s σ H _ I ok st ⟨ys, ys[j], SqL.of hl, List.getElem?_eq_getElem hjl⟩) fun r s1 ⟨u, hr, h1⟩ => ?_
    subst hr
    refine thn h1 fun _ s2 ⟨x, H', I2, ru, ⟨e1, e2⟩, st2, _⟩ => ?_
    subst e1
    have ex := e2 ys (SqL.of hl)
    have I2' := I2.pinned ok (T.obj _ _ st2)
    refine wpAny_mono ((pg_name (pos := p1) hN hi (Or.inl hv) (.inr hv)).run _ s2 σ H' x u (fun σ' H'' => σ' = σ.set i (some x) ∧ H'' = H') I2' ru ⟨rfl, rfl⟩) (fun _ s3 ⟨σ3, H3, I3, e3, e4⟩ => ?_) fun e s' z => hxe e s' z
    subst e3 e4
    refine seg_execs_cons ?_
    refine seg_Expr_Yield hsp rfl hgd ?_ hco hint
    rw [hov]
    have hσ : (σ.set i (some x))[i]? = some (some x) := List.getElem?_set_self (by rw [I.len]; exact hil)
    refine wpAny_mono ((pe_var (pos := p2) hi (Or.inl hv) hdb hcd).run _ s3 (σ.set i (some x)) H3 (fun y H'' => y = x ∧ H'' = H3) I3 ⟨x, hσ, rfl, rfl⟩) (fun vv s4 ⟨y, H4, I4, rv, e5, e6⟩ => ?_) fun e s' z => (hxe e s' z).elim
    subst e5 e6
    have I4' := I4.unpinned
    have pin4 : ∀ b ∈ fp, ∀ o, s2.heap.get? b = some o → s4.heap.get? b = some o := fun b hb o e => (I4.pin (b, o) (List.mem_append_right _ (List.mem_append_right _ (mem_pinsAt hb e)))).1
    have st4 : tn (j + 1) s4.heap := T.keep _ _ _ st2 pin4
    intro kap hk
    have same : ∀ b ∈ S :: Z, s4.heap.get? b = s₀.heap.get? b := fun b hb => by
      have key : ∀ p ∈ (S, lstObj acc c) :: zs, s4.heap.get? p.1 = s₀.heap.get? p.1 := fun p hp => by
        rw [h0 p hp]
        refine (I4'.pin p (List.mem_append_right _ ?_)).1
        rcases List.mem_cons.mp hp with rfl | hp
        · exact List.mem_cons_self
        · exact List.mem_cons_of_mem _ (List.mem_append_left _ hp)
      rcases List.mem_cons.mp hb with rfl | hb
      · exact key (b, lstObj acc c) List.mem_cons_self
      · rw [← hz] at hb
        obtain ⟨p, hp, rfl⟩ := List.mem_map.mp hb
        exact key p (List.mem_cons_of_mem _ hp)
    have htl : (ys.take j).length = j := by rw [List.length_take]; omega
    have hsz : acc.size = j := by
      have e1 := hv0.length
      rw [htl] at e1
      simpa using e1.symm
    refine ⟨I4'.os, I4'.bare, I4'.nolimit, hgen _ fun p hp => (I4'.pin p (List.mem_append_right _ (List.mem_cons_of_mem _ (List.mem_append_right _ hp)))).1, same, ⟨acc, c, (I4'.pin (S, lstObj acc c) (List.mem_append_right _ List.mem_cons_self)).1, by omega⟩, fun s5 sl => hk .none s5 ?_⟩
    obtain ⟨c', zs', hz', I5⟩ := woken hp0 hA hZ hg hz I4' sl
    refine seg_again rfl (ih (j + 1) n s5 s5 _ (acc.push vv) c' zs' (by omega) (by omega) hz' (fun p hp => (I5.pin p (List.mem_append_right _ ?_)).1) ?_ I5 (T.keep _ _ _ st4 fun b hb o e => sl.keep b o (hf b hb).s (hf b hb).z e))
    · rcases List.mem_cons.mp hp with rfl | hp
      · exact List.mem_cons_self
      · exact List.mem_cons_of_mem _ (List.mem_append_left _ hp)
    · rw [Array.toList_push, List.take_add_one, ex]
      exact hv0.append (.cons rv .nil)
end

/-! ### the def by its body: two statements, then the walk -/
/-- the context of a generator's body -/
abbrev zcx (P : Program) (w : World) (K : PySem.W.Frag) (mg : Str → Option Value) (base : Heap) (N : List Str) (qual : Str) (scope : Scope) (f : Addr) (cd : Value) (A : Around) (outer : List Env) (s : Shared) (H : Hp) : Cx :=
  (cxOf CX0 P w K mg base N qual scope f cd A outer s H E0).nox
/-- behind the prefix: the list that is walked, and what is wanted at the end -/
def tWalked (K : PySem.W.Frag) (Q : List V → Hp → Prop) : It → Hp → Prop := fun J H1 => ∃ a ys, J = Itl K a ∧ H1 a = some (.lst ys) ∧ ys.length ≤ sizeLine ∧ Q ys H1
section
variable {P : Program} {w : World} {K : PySem.W.Frag} {mg : Str → Option Value} {base : Heap}
theorem zcx_inv {N : List Str} {qual : Str} {scope : Scope} {f : Addr} {cd : Value} {A : Around} {outer : List Env} {s s1 : Shared} {H H' : Hp} {pins : List (Addr × Obj)} {σ : L2.St}
    (I : Inv (gcxOf P w K mg base N qual scope f cd A outer s H E0 []) [] σ H' s1)
    (h : ∀ p ∈ pins, s1.heap.get? p.1 = some p.2 ∧ H' p.1 = none ∧ p.1 ≠ (envOfC qual scope s.heap.objs.size f cd).locals ∧ p.1 ∉ frs outer ∧ ∀ v, p.2.data ≠ .cell v) :
    Inv (zcx P w K mg base N qual scope f cd A outer s H) pins σ H' s1 :=
  ⟨⟨I.ok.mod, I.ok.kind, I.ok.glob, I.ok.blt, I.ok.above, I.ok.inj, I.ok.has, I.ok.cab, I.ok.hd, I.ok.frames, I.ok.stk, I.ok.exf, I.ok.bs, I.ok.bsz, I.ok.noex, I.ok.exfs, I.ok.funs, I.ok.frf⟩, I.os, I.bare, I.base, I.loc, I.cell, I.free, I.freeC,
    fun p hp => h p hp, I.hok, I.len⟩
theorem gfz0 {x qual : Str} {st1 st2 : Stmt} {f : Addr} {params : Arguments} {body : List Stmt} {scope : Scope} {dV kV doc pm cdv ct oc : Value} {an od : Option Addr} {osl : Array (Option Value)} {N ps : List Str} {k i : Nat} {v : Str} {iter : Expr} {p1 p2 p3 p4 p5 : Pos} {sp : SpZ}
    (lk : K.lookup f = some ⟨oc, od, .func (PySem.W.fnOf x qual params body scope dV kV doc pm an cdv ct), osl⟩) (hcdv : PySem.W.codeIn K cdv qual = true) (S : GScope N ps scope)
    (hb : body = [st1, st2, .For (.Name v p1) iter [.Expr (.Yield (some (.Name v p2)) p3) p4] [] p5]) (hi : N[i]? = some v) (hv : scope.names.lookup v = some .local) (hdb : (v == ("__debug__" : Str)) = false) (hcd : (v == ("__classdict__" : Str)) = false)
    (hin : ∀ (n : Nat) (c : Value), interactive (envOfC qual scope n f c) = false)
    (hfs : ∀ (env : Env) x, foldedSetIterable iter env x = pure x) (len : ∀ vs H Q, sp vs H Q → vs.length = ps.length)
    (hbody : ∀ (A : Around) (outer : List Env) (s : Shared) (H : Hp) (vs : List V) (Q : List V → Hp → Prop), Room k (A.deeper (envOfC qual scope s.heap.objs.size f cdv)) → sp vs H Q →
      ∃ t1 t2 wi, PS (zcx P w K mg base N qual scope f cdv A outer s H) st1 t1 ∧ PS (zcx P w K mg base N qual scope f cdv A outer s H) st2 t2 ∧ PI (zcx P w K mg base N qual scope f cdv A outer s H) (.Name v p1) iter wi ∧
        t1 { nx := fun σ H => t2 { nx := fun σ H => wi σ H (tWalked K Q), rt := fun _ _ => False } σ H, rt := fun _ _ => False } (start N vs) H) :
    GFz P w K mg base (k + 1) f (PySem.W.fnOf x qual params body scope dV kV doc pm an cdv ct) ps sp := by
  refine ⟨len, fun A outer s H args us vs Q hr e0 hbi r hsp => ?_⟩
  have hl := len _ _ _ hsp
  have KX : K.In s.heap := e0.mod.kin.keeps fun b o e => (e0.bs b o e).1
  have lim : s.heap.NoLimit := e0.mod.nolimit.keeps fun b o e => (e0.bs b o e).1
  have hkind : ∀ y ∈ ps.zip us, scope.names.lookup y.1 = some .local ∨ (scope.names.lookup y.1 = some .cell ∧ ((cellsFrom (s.heap.objs.size + 1) scope.names []).lookup y.1).isSome = true) := fun ⟨n, v⟩ hy => by
    rcases S.par n (List.of_mem_zip hy).1 with q | q
    · exact .inl q
    · exact .inr ⟨q, PySem.W.cellsFrom_some _ _ _ (.inl q)⟩
  refine codeAny_call_generator hr.depth (KX _ _ lk) rfl S.co S.gen rfl (PySem.W.codeRec_of KX hcdv) ?_
  refine hbi _ _ _ _ ?_
  refine wpAny_newFunctionEnv_cells S.kind hkind fun env he s1 x => ?_
  subst he
  have lim1 : s1.heap.NoLimit := lim.keeps x.toInCall.keep
  refine ⟨lim1, ?_⟩
  obtain ⟨h1, tk, es1, hk1⟩ := x.done
  have os1 : s1.os = s.os := by rw [es1]
  have gen1 : s1.gens = s.gens := by rw [es1]
  have lt1 : s.heap.objs.size < s1.heap.objs.size := x.toInCall.ns.lt
  have sz1 : s.heap.objs.size ≤ s1.heap.objs.size := Nat.le_of_lt lt1
  have kp1 : ∀ b o, s.heap.get? b = some o → s1.heap.get? b = some o := x.toInCall.keep
  have main : ∀ (go : Obj) (nm qn : Value) (tk2 : Nat), go.cls = .type "generator" → go.data = .fields #[.int s1.gens.size 0, nm, qn] → go.slots = #[] → (∀ h : Heap, (h.push go).get? h.objs.size = some go) →
      GMadeZ P w (k + 1) outer H s Q (.ref s1.heap.objs.size) { s1 with gens := s1.gens.push (.fresh (.func body (envOfC qual scope s.heap.objs.size f cdv))), toks := tk2, heap := s1.heap.push go } := by
    intro go nm qn tk2 hgc hgd0 hgs hgp
    have hgen : ∀ h : Heap, h.get? s1.heap.objs.size = some go → h.IsGen s1.heap.objs.size s1.gens.size := fun h e => ⟨go, nm, qn, e, hgc, hgd0, hgs⟩
    have hpushed : (s1.heap.push go).get? s1.heap.objs.size = some go := hgp _
    refine ⟨s1.heap.objs.size, s1.gens.size, _, rfl, sz1, ?_, hgen _ hpushed, Array.getElem?_push_size .., os1, ?_, lim1.keeps fun b o e => Heap.get?_push_of_some _ e, fun b o e => Heap.get?_push_of_some _ (kp1 b o e), ?_⟩
    · show _ < (s1.heap.push _).objs.size
      rw [Heap.size_push]; exact Nat.lt_succ_self _
    · exact AllBare.push (by rw [gen1]; exact e0.bare) rfl
    intro Aw Sx Z s2 hrw hfr hSx hZx hk2 hSo hos hba
    have e0w : Env0 P w K mg base Aw outer s H := ⟨hfr, e0.mod, e0.bs, e0.bsz, e0.funs, e0.frf, e0.hok, e0.bare⟩
    obtain ⟨t1, t2, wi, ps1, ps2, pi, ht⟩ := hbody Aw outer s H vs Q (hrw.deeper _) hsp
    have I1 : Inv (gcxOf P w K mg base N qual scope f cdv Aw outer s H E0 []) [] (start N vs) H s1 := inv_startG S hrw.hd e0w hl r x
    have kp2 : ∀ b o, s1.heap.get? b = some o → s2.heap.get? b = some o := fun b o e => hk2 b o (Heap.get?_push_of_some _ e)
    have I2 : Inv (gcxOf P w K mg base N qual scope f cdv Aw outer s H E0 []) [] (start N vs) H s2 :=
      I1.call' (ch := []) (hos.trans os1.symm) (Un.kept kp2) (I1.hok.kept kp2) hba fun b z => by simp at z
    have szp : (s1.heap.push go).objs.size = s1.heap.objs.size + 1 := Heap.size_push ..
    have hSz : s1.heap.objs.size < Sx := by
      have hSx' : (s1.heap.push go).objs.size ≤ Sx := hSx
      omega
    have hZz : ∀ z ∈ Z, s1.heap.objs.size < z ∧ z ≠ Sx := fun z hz => by
      have h1 : (s1.heap.push go).objs.size ≤ z := (hZx z hz).1
      exact ⟨by omega, (hZx z hz).2.1⟩
    obtain ⟨cS, heS⟩ := hSo
    have hea : s2.heap.get? s1.heap.objs.size = some go := hk2 s1.heap.objs.size go hpushed
    have hgd : ∀ v, go.data ≠ .cell v := fun v q => by rw [hgd0] at q; cases q
    have young : ∀ b, s1.heap.objs.size ≤ b → H b = none ∧ b ≠ s.heap.objs.size ∧ b ∉ frs outer ∧ s.heap.objs.size ≤ b ∧ ∀ y c, (cellsFrom (s.heap.objs.size + 1) scope.names []).lookup y = some c → c ≠ b := fun b hb => by
      refine ⟨I1.hok.fresh hb, Nat.ne_of_gt (Nat.lt_of_lt_of_le lt1 hb), I1.nofs hb, Nat.le_trans sz1 hb, fun y c e z => ?_⟩
      obtain ⟨v, ob, ho, _⟩ := I1.cell y c e
      have := Heap.lt_size ho
      rw [z] at this
      exact absurd (Nat.lt_of_lt_of_le this hb) (Nat.lt_irrefl _)
    obtain ⟨zs, hzs, hzo⟩ := recs_of fun b hb => (hZx b hb).2.2
    have hzin : ∀ p ∈ zs, p.1 ∈ Z := fun p hp => by rw [← hzs]; exact List.mem_map.mpr ⟨p, hp, rfl⟩
    have hG : Inv (zcx P w K mg base N qual scope f cdv Aw outer s H) ((Sx, lstObj #[] cS) :: (zs ++ [(s1.heap.objs.size, go)])) (start N vs) H s2 := by
      refine zcx_inv I2 fun p hp => ?_
      rcases List.mem_cons.mp hp with rfl | hp
      · obtain ⟨y1, y2, y3, _, _⟩ := young Sx (Nat.le_of_lt hSz)
        exact ⟨heS, y1, y2, y3, fun v q => by cases q⟩
      · rcases List.mem_append.mp hp with hp | hp
        · obtain ⟨y1, y2, y3, _, _⟩ := young p.1 (Nat.le_of_lt (hZz _ (hzin p hp)).1)
          exact ⟨(hzo p hp).1, y1, y2, y3, (hzo p hp).2⟩
        · rw [List.mem_singleton.mp hp]
          obtain ⟨y1, y2, y3, _, _⟩ := young s1.heap.objs.size (Nat.le_refl _)
          exact ⟨hea, y1, y2, y3, hgd⟩
    have hAp : ∀ b, s1.heap.objs.size ≤ b → Apart (zcx P w K mg base N qual scope f cdv Aw outer s H) b := fun b hb => by
      obtain ⟨_, y2, _, y4, y5⟩ := young b hb
      exact ⟨y4, y2, y5⟩
    have hgp2 : ∀ p ∈ [(s1.heap.objs.size, go)], p.1 ≠ Sx ∧ p.1 ∉ Z := fun p hp => by
      rw [List.mem_singleton.mp hp]
      exact ⟨Nat.ne_of_lt hSz, fun hm => Nat.lt_irrefl _ (hZz _ hm).1⟩
    have s0pins : ∀ p ∈ (Sx, lstObj #[] cS) :: zs, s2.heap.get? p.1 = some p.2 := fun p hp => by
      rcases List.mem_cons.mp hp with rfl | hp
      · exact heS
      · exact (hzo p hp).1
    refine seg_func ?_
    rw [hb]
    refine seg_execs_cons (seg_wrap ?_)
    rw [over_func]
    refine wpAny_mono (ps1.run _ s2 _ H _ hG ht) (fun fl s3 h3 => ?_) fun e s' z => False.elim z
    cases fl with
    | ret u => obtain ⟨_, _, _, _, _, q⟩ := h3; exact False.elim q
    | brk => obtain ⟨_, _, _, q⟩ := h3; exact False.elim q
    | cont => obtain ⟨_, _, _, q⟩ := h3; exact False.elim q
    | next =>
    obtain ⟨σ3, H3, I3, ht3⟩ := h3
    refine seg_execs_cons (seg_wrap ?_)
    rw [over_func]
    refine wpAny_mono (ps2.run _ s3 _ H3 _ I3 ht3) (fun fl s4 h4 => ?_) fun e s' z => False.elim z
    cases fl with
    | ret u => obtain ⟨_, _, _, _, _, q⟩ := h4; exact False.elim q
    | brk => obtain ⟨_, _, _, q⟩ := h4; exact False.elim q
    | cont => obtain ⟨_, _, _, q⟩ := h4; exact False.elim q
    | next =>
    obtain ⟨σ4, H4, I4, ht4⟩ := h4
    refine seg_execs_cons (seg_forX (hfs _) ?_)
    rw [over_func]
    refine wpAny_mono (pi.run _ s4 _ H4 _ I4 ht4) (fun v s5 h5 => ?_) fun e s' z => z
    refine wpAny_mono h5 (fun itv s6 h6 => ?_) fun e s' z => z
    obtain ⟨it, fp, tn, J, H6, rfl, I6, T, st6, f6, a, ys, rfl, hl6, hle, hQ6⟩ := h6
    intro pp ll
    refine seg_walk (X := zcx P w K mg base N qual scope f cdv Aw outer s H) (S := Sx) (Z := Z) (gp := [(s1.heap.objs.size, go)]) (i := i) (ga := s1.heap.objs.size) (g := s1.gens.size) (H := H6) (a := a) (fp := fp) (tn := tn) (ys := ys)
      rfl rfl (fun _ _ z => z) S.nd hi ?_ hv hdb hcd S.co (hin _ _) (hAp _ (Nat.le_of_lt hSz)) (fun z hz => hAp _ (Nat.le_of_lt (hZz z hz).1)) hgp2 (fun h hp => hgen h (hp (s1.heap.objs.size, go) (List.mem_singleton.mpr rfl)))
      T (fun b hb => FpZ.of rfl hzs (f6 b hb)) hl6 hle ?_ rfl rfl ?_ ys.length 0 sizeLine s2 s6 _ #[] cS zs (Nat.zero_add _) rfl hzs s0pins .nil I6 st6
    · exact (List.getElem?_eq_some_iff.mp hi).1
    · exact (over_loop rfl rfl).trans over_func
    · intro n s₀ s7 σ7 acc c zs7 hn hz7 h07 hv7 I7
      refine seg_leaf (.ok .next) ?_
      show Seg _ _ _ _ _ _ _ (leafOf (.ok (.ret .none))) _ _
      refine seg_end (.ok (.ret .none)) ⟨rfl, H6, ys, acc, c, I7.os, I7.bare, I7.base, I7.hok, fun b hb => ?_, (I7.pin (Sx, lstObj acc c) (List.mem_append_right _ List.mem_cons_self)).1, hv7, hle, hQ6⟩
      have key : ∀ p ∈ (Sx, lstObj acc c) :: zs7, s7.heap.get? p.1 = s₀.heap.get? p.1 ∧ H6 p.1 = none := fun p hp => by
        rw [h07 p hp]
        have q := I7.pin p (List.mem_append_right _ (by
          rcases List.mem_cons.mp hp with rfl | hp
          · exact List.mem_cons_self
          · exact List.mem_cons_of_mem _ (List.mem_append_left _ hp)))
        exact ⟨q.1, q.2.1⟩
      rcases List.mem_cons.mp hb with rfl | hb
      · exact key (b, lstObj acc c) List.mem_cons_self
      · rw [← hz7] at hb
        obtain ⟨p, hp, rfl⟩ := List.mem_map.mp hb
        exact key p (List.mem_cons_of_mem _ hp)
  exact main _ _ _ _ rfl rfl rfl fun h => Heap.get?_push_size _ rfl
theorem gfz_of {x qual : Str} {st st1 st2 : Stmt} {f : Addr} {fd : FuncData} {N ps : List Str} {k i : Nat} {v : Str} {iter : Expr} {p1 p2 p3 p4 p5 : Pos} {sp : SpZ} (F : Fun K x qual st f fd) (S : GScope N ps (defScope st))
    (hb : defBody st = [st1, st2, .For (.Name v p1) iter [.Expr (.Yield (some (.Name v p2)) p3) p4] [] p5]) (hi : N[i]? = some v) (hv : (defScope st).names.lookup v = some .local) (hdb : (v == ("__debug__" : Str)) = false) (hcd : (v == ("__classdict__" : Str)) = false)
    (hin : ∀ (n : Nat) (c : Value), interactive (envOfC qual (defScope st) n f c) = false)
    (hfs : ∀ (env : Env) x, foldedSetIterable iter env x = pure x) (len : ∀ vs H Q, sp vs H Q → vs.length = ps.length)
    (hbody : ∀ (cdv : Value) (A : Around) (outer : List Env) (s : Shared) (H : Hp) (vs : List V) (Q : List V → Hp → Prop), Room k (A.deeper (envOfC qual (defScope st) s.heap.objs.size f cdv)) → sp vs H Q →
      ∃ t1 t2 wi, PS (zcx P w K mg base N qual (defScope st) f cdv A outer s H) st1 t1 ∧ PS (zcx P w K mg base N qual (defScope st) f cdv A outer s H) st2 t2 ∧ PI (zcx P w K mg base N qual (defScope st) f cdv A outer s H) (.Name v p1) iter wi ∧
        t1 { nx := fun σ H => t2 { nx := fun σ H => wi σ H (tWalked K Q), rt := fun _ _ => False } σ H, rt := fun _ _ => False } (start N vs) H) :
    GFz P w K mg base (k + 1) f fd ps sp := by
  obtain ⟨oc, od, kV, doc, pm, an, cdv, ct, osl, rfl, lk, hcdv⟩ := F.ex
  exact gfz0 lk hcdv S hb hi hv hdb hcd hin hfs len (hbody cdv)
end
end K04W
end

section
set_option Elab.async false
set_option linter.all false
set_option maxRecDepth 100000
set_option maxHeartbeats 4000000
/-! K04H: [v for v in f(..)] over a generator def. -/
namespace K04W
open PySem PySem.Spec PyProof.Rows L2 K04 GenW
section
variable {X : Cx} {k : Nat} {f : Addr} {fd : FuncData} {ps : List Str} {sp : SpZ} {dvs : List V} {ds : List Value} {x v : Str} {p pos pos' p1 p2 : Pos}
theorem run_gfz {pins : List (Addr × Obj)} {σ : L2.St} {H : Hp} {s : Shared} {us : List Value} {vs : List V} {cont : List V → Hp → Prop} {E1 : Value → Shared → Prop} (F : GFz X.prog X.w X.K X.mg X.base k f fd ps sp) (hr : Room k X.A) (hb : Binds X.K fd ps ds) (hd : Vals dvs ds)
    (I : Inv X pins σ H s) (r : Vals vs us) (h : sp (vs ++ dvs) H cont) :
    wpAny (model X.prog X.w) X.A (call (.ref f) us) (fun u s' => GMadeZ X.prog X.w k X.stack H s cont u s') E1 s := by
  have r2 : Vals (vs ++ dvs) (us ++ ds) := r.append hd
  have hl2 : (us ++ ds).length = ps.length := by rw [← r2.length]; exact F.len _ _ _ h
  refine wpAny_call (codeAny_mono (F.run X.A X.stack s H ⟨us, []⟩ (us ++ ds) (vs ++ dvs) cont hr I.env0 (hb s us I.kIn hl2) r2 h) fun r s' hq => ?_)
  cases r with
  | error e => exact False.elim hq
  | ok fl =>
    cases fl with
    | ret u => exact hq
    | next => exact False.elim hq
    | brk => exact False.elim hq
    | cont => exact False.elim hq

/-- where the block stands ahead of a turn -/
def LcI (X : Cx) (H : Hp) (sc : Shared) (cont : List V → Hp → Prop) (a D C : Addr) (g n : Nat) (s : Shared) : Prop :=
  s.heap.IsGen a g ∧ s.heap.NoLimit ∧ (∃ m, s.heap.Ns C m) ∧ (∃ acc c, s.heap.get? D = some (lstObj acc c)) ∧
    ∃ gs, s.gens[g]? = some gs ∧ gs.Goes (model X.prog X.w) X.A.in1 (fun n s₀ r s1 => ((r = .ok (.ret .none) ∨ r = .ok .next) ∧ REz X.prog X.w X.stack H sc D [C] cont n s₀ (.ok (.ret .none)) s1) ∨ ∃ e, r = .error e ∧ False) (YIz sc D [C] a g) n (.send .none) (s.setGen g .running)
theorem goes_z {A : Around} {P : Program} {w : World} {outer : List Env} {H : Hp} {sc : Shared} {S : Addr} {Z : List Addr} {cont : List V → Hp → Prop} {a : Addr} {g n : Nat} {gs : GenState} {r : Resume} {s : Shared}
    (h : gs.Goes (model P w) A (REz P w outer H sc S Z cont) (YIz sc S Z a g) n r s) :
    gs.Goes (model P w) A (fun n s₀ r s1 => ((r = .ok (.ret .none) ∨ r = .ok .next) ∧ REz P w outer H sc S Z cont n s₀ (.ok (.ret .none)) s1) ∨ ∃ e, r = .error e ∧ False) (YIz sc S Z a g) n r s := by
  have hR : ∀ n s₀ r s1, REz P w outer H sc S Z cont n s₀ r s1 → ((r = .ok (.ret .none) ∨ r = .ok .next) ∧ REz P w outer H sc S Z cont n s₀ (.ok (.ret .none)) s1) ∨ ∃ e, r = .error e ∧ False := fun n s₀ r s1 q => by
    have e := q.1
    subst e
    exact .inl ⟨.inl rfl, q⟩
  have hY : ∀ n s₀ v s1 kap kap', (∀ r s', kap r s' → kap' r s') → YIz sc S Z a g n s₀ v s1 kap → YIz sc S Z a g n s₀ v s1 kap' := fun n s₀ v s1 kap kap' hkk ⟨p1, p2, p3, p4, p5, p6, p7⟩ => ⟨p1, p2, p3, p4, p5, p6, fun s' z => hkk _ _ (p7 s' z)⟩
  cases gs with
  | fresh c => exact ⟨h.1, seg_imp hR hY n h.2⟩
  | suspended k l c p fs cl => exact seg_imp hR hY n h
  | running => exact h
  | finished => exact h
/-- the loop over the generator's items -/
theorem lcG_loop {H : Hp} {sc : Shared} {cont : List V → Hp → Prop} {a D C : Addr} {g : Nat} {iter : Expr} {scope : Scope} {cl : List (Str × Addr)} {R : Result → Shared → Prop}
    (hh : X.A.handled = none) (hdp : X.A.depth < recursionLimit) (hk : scope.kind = .function) (hvl : scope.names.lookup v = some .local) (hdb : (v == ("__debug__" : Str)) = false)
    (hDa : D ≠ a) (hDc : D ≠ cStatics) (hCa : C ≠ a) (hCc : C ≠ cStatics) (hCD : C ≠ D)
    (hend : ∀ (s' : Shared) (acc : Array Value) (c : Nat) (H' : Hp) (ys : List V) (m : Str → Option Value), s'.heap.get? D = some (lstObj acc c) → Vals ys acc.toList → ys.length ≤ sizeLine → s'.os = sc.os → AllBare s'.gens → Un (frs X.stack) [] H H' sc.heap s'.heap → HOk X.prog X.w H' s'.heap →
      H' D = none → H' C = none → s'.heap.Ns C m → cont ys H' → R (.ok .next) s') (n : Nat) (s : Shared) (h : LcI X H sc cont a D C g n s) :
    codeAny (model X.prog X.w) X.A (.compLoop (.ListComp (.Name v p2) [⟨.Name v p1, iter, [], 0⟩] scope pos) 0 (.ref a) (.ref D) (compEnvC scope cl C X.env)) R s := by
  have kd : (compEnvC scope cl C X.env).kindOf v = some .local := lookup_relabel_local hvl
  have hp : ((compEnvC scope cl C X.env).scope.kind == .class || ((compEnvC scope cl C X.env).scope.kind == .module && (compEnvC scope cl C X.env).locals != (compEnvC scope cl C X.env).globals)) = false := by
    show (scope.kind == .class || (scope.kind == .module && _)) = false
    rw [hk]; rfl
  refine compLoop_any (LcI X H sc cont a D C g) ?_ n h
  rintro n s ⟨hg, hl, ⟨m, hns⟩, ⟨acc0, c0, hD⟩, gs, hgs, hgo⟩
  have hgl : g + 1 ≤ s.gens.size := (Array.getElem?_eq_some_iff.mp hgs).1
  refine wpAny_gsz (n := g + 1) hgl (next_genG (A := X.A) (Er := fun _ _ => False) hh hl hdp hg hgs hgo (fun u s1 gs' hbare hv => ?_) (fun s1 hp' h' hkk => ?_) fun e s1 he => he.elim)
  · intro hsz
    obtain ⟨os1, hb1, hl1, hg1, hsame, ⟨acc, c, hS1, hasz⟩, hkap⟩ := hv
    have hsz1 : g < s1.gens.size := by
      have q : (s1.setGen g gs').gens.size = s1.gens.size := setGen_size _ _ _
      have hsz' : g + 1 ≤ (s1.setGen g gs').gens.size := hsz
      omega
    have hC1 : s1.heap.get? C = s.heap.get? C := hsame C (by simp)
    have hns1 : s1.heap.Ns C m := hns.at' fun o e => hC1.trans e
    refine wpAny_of_eq (rfl : letOwnedTupleGo (.Name v p1) (.ref a) u = pure ()) ?_
    refine wpAny_assign_Name (wpAny_storeName_local (s := s1.setGen g gs') kd hns1 (fun h2 hn2 sb2 => ?_) hp)
    refine wpAny_tests_nil ?_
    show if true = true then _ else _
    rw [if_pos rfl]
    refine wpAny_Name (wpAny_loadName_local hk kd hn2 (if_pos rfl) ?_) hdb
    have hD2 : h2.get? D = some (lstObj acc c) := (sb2.2 D (Ne.symm hCD)).trans hS1
    refine append_at (s := { s1.setGen g gs' with heap := h2, toks := (s1.setGen g gs').toks + 1 }) hD2 (fun h3 sb3 hD3 => ?_) (by omega)
    have k3 : ∀ b o, b ≠ D → b ≠ C → s1.heap.get? b = some o → h3.get? b = some o := fun b o h1 h2' e => (sb3.2 b h1).trans ((sb2.2 b h2').trans e)
    obtain ⟨oC, es, ep, eC, dC, rC⟩ := id hn2
    have eC3 : h3.get? C = some oC := (sb3.2 C hCD).trans eC
    have hlen : s.heap.objs.size = s.heap.objs.size := rfl
    cases n with
    | zero => exact False.elim (hkap { s1 with heap := h3 } ⟨rfl, hb1, fun b o h1 h2' e => k3 b o h1 (fun z => h2' (by simp [z])) e, fun b hb => by
        rw [List.mem_singleton.mp hb]
        exact ⟨oC, eC3, fun v q => by rw [dC] at q; cases q⟩, fun acc' c' e => by
        rw [hS1] at e
        cases e
        exact ⟨_, hD3⟩⟩)
    | succ n =>
      refine ⟨n, Nat.lt_succ_self _, ?_, ?_, ⟨_, hn2.at' fun o e => (sb3.2 C hCD).trans e⟩, ⟨_, _, hD3⟩, gs', setGen_at hsz1, ?_⟩
      · obtain ⟨o, nm, qn, ho, r⟩ := hg1
        exact ⟨o, nm, qn, k3 a o (Ne.symm hDa) (Ne.symm hCa) ho, r⟩
      · obtain ⟨mc, hns', hnn⟩ := hl1
        exact ⟨mc, hns'.at' fun o e => k3 _ o (Ne.symm hDc) (Ne.symm hCc) e, hnn⟩
      · have key : Slz D [C] u s1 (({ s1.setGen g gs' with heap := h3, toks := (s1.setGen g gs').toks + 1 } : Shared).setGen g .running) := by
          refine ⟨rfl, ?_, fun b o h1 h2' e => k3 b o h1 (fun z => h2' (by simp [z])) e, fun b hb => ?_, fun acc' c' e => ?_⟩
          · exact allBare_setGen (s := { s1.setGen g gs' with heap := h3, toks := (s1.setGen g gs').toks + 1 }) (allBare_setGen hb1 hbare) rfl
          · rw [List.mem_singleton.mp hb]
            exact ⟨oC, eC3, fun v q => by rw [dC] at q; cases q⟩
          · rw [hS1] at e
            cases e
            exact ⟨_, hD3⟩
        exact hkap _ key
  · intro _
    obtain ⟨_, H', ys, acc, c, os1, hb1, un, hok, hsame, hS1, hv, hle, hQ⟩ := hp'
    have hC1 := hsame C (by simp)
    exact hend _ acc c H' ys m (hkk _ _ hS1) hv hle os1 (allBare_setGen hb1 rfl) (un.trans (Un.kept hkk)) (hok.kept hkk) (hsame D (by simp)).2 hC1.2 (hns.at' fun o e => hkk _ _ (hC1.1.trans e)) hQ
def tLcG (sp : SpZ) (dvs : List V) (t : TA) : TE := fun σ H Q => t σ H fun vs H1 => sp (vs ++ dvs) H1 fun ys H2 => ∀ D, H2 D = none → Q (.ref D) (upd H2 D (.lst ys))
theorem pe_lcG {e : Expr} {es : List Expr} {t : TA} {scope : Scope} (F : GFz X.prog X.w X.K X.mg X.base k f fd ps sp) (hr : Room (k + 1) X.A) (hg : Gl X x) (hm : X.mg x = some (.ref f)) (hkp : PySem.W.keepIn X.K (.ref f) = true) (hb : Binds X.K fd ps ds) (hd : Vals dvs ds)
    (ha : PA X (e :: es) t) (hk : scope.kind = .function) (hvl : scope.names.lookup v = some .local) (hun : ∀ y ∈ scope.names, y.2 = .local → scope.names.lookup y.1 = some .local) (hfree : ∀ y ∈ scope.names, y.2 ≠ .free)
    (hdv : (v == ("__debug__" : Str)) = false := by decide) (hdb : (x == ("__debug__" : Str)) = false := by decide) (he : starEach (e :: es) X.env = (false, eval e X.env) :: starEach es X.env := by rfl) (hpl : (backTo pos' (starEach es X.env)).any (·.1) = false := by rfl) :
    PE X (.ListComp (.Name v p2) [⟨.Name v p1, .Call (.Name x p) (e :: es) [] pos', [], 0⟩] scope pos) (tLcG sp dvs t) := by
  refine ⟨fun pins s σ H Q I h => ?_⟩
  rw [eval_ListComp]
  refine wpAny_comprehension_free (use := none) rfl (fun _ => rfl) (closure_ok (scope := scope) fun y hy z => absurd z (hfree y hy)) hk hun ?_
  show wpAny _ _ (eval (.Call (.Name x p) (e :: es) [] pos') X.env) _ _ s
  refine wpAny_Call_Name_kw (ld_glob I hg hm ?_ hdb)
  refine PySem.W.callWith_K (h₀ := X.base) I.ok.mod.kin hkp (thn (ha.run pos' pins s σ H _ I h) fun us sc ⟨vs, H1, I1, r, q⟩ => ⟨I1.kIn, ?_⟩) he hpl
  refine thn (run_gfz F (hr.mono (Nat.le_succ k)) hb hd I1 r q) fun u s1 hG => ?_
  obtain ⟨a, g, c, rfl, ha1, ha2, hgn, hgs, hos, hbare, hl, hkeep, wake⟩ := hG
  refine wpAny_pyIter_gen hgn ?_
  refine wpAny_newObj_type (newEnv_comp ?_) (by show 0 ≤ sizeLine; decide)
  generalize hD : s1.heap.objs.size = D
  have hcl : cStatics < s1.heap.objs.size := let ⟨_, hn, _⟩ := hl; hn.lt
  -- the new list, the block's names
  generalize hs3 : ({ s1 with heap := s1.heap.push { cls := .type "list", data := .seq ([] : List Value).toArray } } : Shared) = s3
  have h3 : s3.heap = s1.heap.push { cls := .type "list", data := .seq ([] : List Value).toArray } := by rw [← hs3]
  have g3 : s3.gens = s1.gens := by rw [← hs3]
  have o3 : s3.os = s1.os := by rw [← hs3]
  have z3 : s3.heap.objs.size = D + 1 := by rw [h3, Heap.size_push, hD]
  have k3 : ∀ b o, s1.heap.get? b = some o → s3.heap.get? b = some o := fun b o q => by rw [h3]; exact Heap.get?_push_of_some _ q
  have e3 : s3.heap.get? D = some (lstObj #[] 0) := by rw [h3, ← hD]; exact Heap.get?_push_size _ rfl
  generalize hC : s3.heap.objs.size = C
  generalize hs4 : ({ s3 with heap := pushCells (s3.heap.push { cls := .type "dict", data := .dict #[] }) scope.names } : Shared) = s4
  have h4 : s4.heap = pushCells (s3.heap.push { cls := .type "dict", data := .dict #[] }) scope.names := by rw [← hs4]
  have g4 : s4.gens = s1.gens := by rw [← hs4]; exact g3
  have o4 : s4.os = s1.os := by rw [← hs4]; exact o3
  have k4 : ∀ b o, s3.heap.get? b = some o → s4.heap.get? b = some o := fun b o q => by rw [h4]; exact pushCells_keeps _ _ _ _ (Heap.get?_push_of_some _ q)
  have n4 : s4.heap.Ns C fun _ => none := by
    rw [h4, ← hC]
    exact Heap.Ns.keeps (Heap.Ns.new ..) fun b o q => pushCells_keeps _ _ _ _ q
  have kk : ∀ b o, s1.heap.get? b = some o → s4.heap.get? b = some o := fun b o q => k4 b o (k3 b o q)
  have hCD : C ≠ D := by omega
  obtain ⟨oC, esC, epC, eC, dC, rC⟩ := id n4
  have w1 : D ≠ a := fun z => Nat.lt_irrefl a (by rw [← hD] at z; rw [z] at ha2; exact ha2)
  have w2 : D ≠ cStatics := fun z => Nat.lt_irrefl cStatics (by rw [hD, z] at hcl; exact hcl)
  have w5 : s1.heap.objs.size ≤ D := Nat.le_of_eq hD
  have w6 : s1.heap.objs.size ≤ C := by rw [← hC, z3, ← hD]; exact Nat.le_succ _
  have w3 : C ≠ a := fun z => Nat.lt_irrefl a (by rw [z] at w6; exact Nat.lt_of_lt_of_le ha2 w6)
  have w4 : C ≠ cStatics := fun z => Nat.lt_irrefl cStatics (by rw [z] at w6; exact Nat.lt_of_lt_of_le hcl w6)
  have w7 : sc.heap.objs.size ≤ s1.heap.objs.size := Nat.le_trans ha1 (Nat.le_of_lt ha2)
  show codeAny _ _ (.compStart (.ListComp (.Name v p2) [⟨.Name v p1, _, [], 0⟩] scope pos) 0 (.ref a) (.ref D) (compEnvC scope (cellsFrom (C + 1) scope.names (cloFrom X.env.cells scope.names [])) C X.env)) (compPost (model X.prog X.w) X.A X.xe none _ (.ref D) C) s4
  have loop : codeAny (model X.prog X.w) X.A (.compLoop (.ListComp (.Name v p2) [⟨.Name v p1, .Call (.Name x p) (e :: es) [] pos', [], 0⟩] scope pos) 0 (.ref a) (.ref D) (compEnvC scope (cellsFrom (C + 1) scope.names (cloFrom X.env.cells scope.names [])) C X.env)) (compPost (model X.prog X.w) X.A X.xe none (EP X pins σ Q) (.ref D) C) s4 := by
    refine lcG_loop (H := H1) (sc := sc) (cont := fun ys H2 => ∀ D, H2 D = none → Q (.ref D) (upd H2 D (.lst ys))) (a := a) (g := g) hr.hd hr.depth hk hvl hdv w1 w2 w3 w4 hCD (fun s' acc cc H' ys m q1 q2 q3 q4 q5 q6 q7 q8 q9 q10 q11 => ?_) sizeLine s4 ⟨hgn.keeps kk, hl.keeps kk, ⟨_, n4⟩, ⟨_, _, k4 _ _ e3⟩, .fresh c, by rw [g4]; exact hgs, ?_⟩
    · have I7 : Inv X pins σ (upd H' D (.lst ys)) s' := I1.drained (Nat.le_trans w7 w5) q3 q1 q2 ExOk.nil q4 q5 q6 q7 q8
      have f := I1.fpOk (b := C) (H' := upd H' D (.lst ys)) (Nat.le_trans w7 w6) (by rw [upd_ne hCD]; exact q9)
      refine ⟨m, q10, fun h'' sb => ?_⟩
      obtain ⟨f0, f1, f2, f3, f4, f5⟩ := f
      exact ⟨.ref D, _, I7.turned (t' := s'.toks) (fun b o hb z => (sb.2 b hb).trans z) f0 f1 f3 f4 f5, rfl, q11 D q8⟩
    · refine goes_z ⟨rfl, ?_⟩
      refine wake X.A.in1 D [C] (s4.setGen g .running) hr.in1 ?_ w5 (fun z hz => ?_) kk ⟨_, k4 _ _ e3⟩ (by show s4.os = _; rw [o4, hos]) (allBare_setGen (by rw [g4]; exact hbare) rfl)
      · exact I1.ok.frames
      · rw [List.mem_singleton.mp hz]
        exact ⟨w6, hCD, oC, eC, fun v q => by rw [dC] at q; cases q⟩
  exact codeAny_compStart_list loop (wpAny_pyIter_gen (hgn.keeps kk) loop)
end
end K04W
end

section
set_option Elab.async false
set_option linter.all false
set_option maxRecDepth 100000
set_option maxHeartbeats 4000000
/-! K04M: a tuple times 0 or 1; members. -/
namespace K04W
open PySem PySem.Spec PyProof.Rows L2 K04
/-! ### tuple * 0, tuple * 1 -/
theorem tuple_mul1 (l : Addr) (items : Array Value) (n : Nat) (dd : Option Addr) (sl : Array (Option Value)) (u : Tok) :
    Meets (Builtin.«tuple.__mul__» ⟨[.ref l, .int 1 u], []⟩) (fun _ R s => s.heap.get? l = some { cls := .type "tuple", dict := dd, data := .seq items n, slots := sl } ∧ R (.ok (.ret (Value.ref l))) s) :=
  .of_wp fun prog w A R s h => by
    obtain ⟨hp, g, d, tk, os⟩ := s
    obtain ⟨hl, h⟩ := h
    have f1 := AutoSeq1.idx_int
    wp_walk using wpAny_loadPart' hl
    exact ⟨_, rfl, h⟩
theorem tuple_mul0 (l : Addr) (items : Array Value) (n : Nat) (dd : Option Addr) (sl : Array (Option Value)) (u : Tok) (hi : items.isEmpty = false) :
    Meets (Builtin.«tuple.__mul__» ⟨[.ref l, .int 0 u], []⟩) (fun _ R s => s.heap.get? l = some { cls := .type "tuple", dict := dd, data := .seq items n, slots := sl } ∧
      R (.ok (.ret (Value.ref s.heap.objs.size))) { s with heap := s.heap.push { cls := Value.type "tuple", data := Data.seq #[] }, toks := s.toks }) :=
  .of_wp fun prog w A R s h => by
    obtain ⟨hp, g, d, tk, os⟩ := s
    obtain ⟨hl, h⟩ := h
    have f1 := AutoSeq1.idx_int
    wp_walk using wpAny_loadPart' hl
    exact ⟨_, rfl, h⟩
def rRepZ (K : PySem.W.Frag) : R2 := fun x y H Q => ∃ (l : Addr) (k : Nat) (xs : List V), x = .ref l ∧ y = .int (k : Int) ∧ SqT K H l xs ∧ xs ≠ [] ∧ k ≤ 1000 ∧ xs.length ≤ 1000 ∧ (k = 1 → Q (.ref l) H) ∧ (k ≠ 1 → ∀ p, H p = none → Q (.ref p) (upd H p (.tup (List.replicate k xs).flatten)))
theorem op_repZ {X : Cx} : OpR X (binaryOp .Mult) (rRepZ X.K) := by
  intro pins s σ H x y v u Q I rx ry h
  obtain ⟨l, k, xs, rfl, rfl, hT, hne, h2, hz, q1, q0⟩ := h
  by_cases hk2 : 2 ≤ k
  · exact op_repT pins s σ H _ _ v u Q I rx ry ⟨l, k, xs, rfl, rfl, hT, hne, by omega, by omega, hz, fun p hp => by rw [Int.toNat_natCast]; exact q0 (by omega) p hp⟩
  · cases rx
    obtain ⟨t, rfl⟩ := ry
    obtain ⟨its, r, ⟨⟨cls, dd, data, sl⟩, ho, hc, n, hd⟩, hs⟩ := I.tuple hT
    simp only at hc hd
    subst hc hd
    have hle : its.length = xs.length := r.length.symm
    have hn : its ≠ [] := fun e => hne (by
      rw [e] at hle
      exact List.eq_nil_of_length_eq_zero hle.symm)
    have hi : its.toArray.isEmpty = false := by
      cases its with
      | nil => exact absurd rfl hn
      | cons a b => rfl
    rcases (by omega : k = 0 ∨ k = 1) with rfl | rfl
    · refine wpAny_binaryOp_repeat_ref (T := "tuple") (U := "int") (by decide) ⟨_, ho, rfl⟩ (fun s' => typeIs_int s' _ t) noFill_tuple_mul F.fills_int_mul F.slot_int_rmul repeat_tuple F.slot_int_index.lookup
        (call_meets F.slot_int_rmul (typeIs_int s _ t) F.entry_int_rmul (F.args_int_rmul_2 _ _) (int_rmul_tuple _ t l its.toArray n dd sl)
          ⟨ho, rfl, ⟨_, ho, rfl⟩, call_meets F.slot_tuple_mul ⟨_, ho, rfl⟩ F.entry_tuple_mul (F.args_tuple_mul_2 _ _) (tuple_mul0 l its.toArray n dd sl t hi) ⟨ho, ?_⟩⟩)
      refine ⟨.ref s.heap.objs.size, _, I.laid (t' := s.toks) (o := .tup []) (fun b ob q => Heap.get?_push_of_some _ q) (Nat.le_refl _) ?_, rfl, q0 (by decide) _ (I.hok.fresh (Nat.le_refl _))⟩
      exact ⟨by decide, _, .nil, IsTup.new _ _⟩
    · refine wpAny_binaryOp_repeat_ref (T := "tuple") (U := "int") (by decide) ⟨_, ho, rfl⟩ (fun s' => typeIs_int s' _ t) noFill_tuple_mul F.fills_int_mul F.slot_int_rmul repeat_tuple F.slot_int_index.lookup
        (call_meets F.slot_int_rmul (typeIs_int s _ t) F.entry_int_rmul (F.args_int_rmul_2 _ _) (int_rmul_tuple _ t l its.toArray n dd sl)
          ⟨ho, rfl, ⟨_, ho, rfl⟩, call_meets F.slot_tuple_mul ⟨_, ho, rfl⟩ F.entry_tuple_mul (F.args_tuple_mul_2 _ _) (tuple_mul1 l its.toArray n dd sl t) ⟨ho, ?_⟩⟩)
      exact ⟨.ref l, H, I.tok _, rfl, q1 rfl⟩

/-! ### members -/
theorem repz_use {K : PySem.W.Frag} {H : Hp} {Q : VK} {z0 : Addr} {n : Nat} (hz : H z0 = some (.tup [.int 0])) (hn : n ≤ 1000) (h : ∀ H' z, Same H H' → IsRow H' z (zeroR n) → Q z H') : rRepZ K (.ref z0) (.int (n : Int)) H Q := by
  refine ⟨z0, n, [.int 0], rfl, rfl, SqT.of hz, by simp, hn, by show 1 ≤ 1000; decide, fun e => ?_, fun e p hp => ?_⟩
  · subst e
    exact h H _ (Same.refl _) ⟨z0, rfl, hz⟩
  · refine h _ _ (same_new hp) ⟨p, rfl, ?_⟩
    rw [upd_same]
    unfold zeroR
    rw [List.map_replicate]
    congr 2
    exact List.flatten_replicate_singleton
abbrev sMem : Stmt := topS 14
abbrev nMem : List Str := ["space", "width", "p", "found", "row", "v", "a"]
theorem scMem : GScope nMem ["space", "width", "p"] (defScope sMem) := ⟨rfl, rfl, rfl, by decide +kernel, rfl, by decide +kernel, by decide +kernel⟩
/-- a loop's or a comprehension's turns over a walk, whatever a turn does -/
theorem w_it {J : It} {n : Nat} {G : Hp → Prop} {Y : Nat → Hp → V → Hp → Prop} (w : Walk J n G Y) {Φ : (Hp → Prop) → V → Hp → Prop} {Qd : Hp → Prop} {H0 : Hp} (Pv : Nat → Hp → Prop) (h0 : Pv 0 H0) (hG : ∀ i H, i ≤ n → Pv i H → G H)
    (hs : ∀ i x H H', i < n → Pv i H → Y i H x H' → Φ (Pv (i + 1)) x H') (hd : ∀ H, Pv n H → Qd H) :
    ∃ W : Nat → Nat → Hp → Prop, (∃ m, W 0 m H0) ∧ ∀ i m H, W i m H → (J.stop i H ∧ Qd H) ∨ (J.go i H ∧ ∃ Nx : Hp → Prop, (∀ H', Nx H' → ∃ m', m' < m ∧ W (i + 1) m' H') ∧ ∀ x H', J.yld i H x H' → Φ Nx x H') := by
  refine ⟨fun i m H => m = n - i ∧ i ≤ n ∧ Pv i H, ⟨n, by simp, Nat.zero_le _, h0⟩, ?_⟩
  rintro i m H ⟨rfl, hi, p⟩
  have q := hG i H hi p
  by_cases hlt : i < n
  · exact .inr ⟨w.goes i H hlt q, Pv (i + 1), fun H' p' => ⟨n - (i + 1), by omega, rfl, hlt, p'⟩, fun x H' y => hs i x H H' hlt p (w.yields i H x H' hlt q y)⟩
  · have e : i = n := by omega
    subst e
    exact .inl ⟨w.stops H q, hd H p⟩
def memTo (p n : Nat) (rows : List RowI) (i : Nat) : List RowI := (rows.take i).foldl (growR p) [zeroR n]
theorem memTo_zero {p n : Nat} {rows : List RowI} : memTo p n rows 0 = [zeroR n] := by unfold memTo; rw [List.take_zero]; rfl
theorem memTo_succ {p n i : Nat} {rows : List RowI} {r : RowI} (h : rows[i]? = some r) : memTo p n rows (i + 1) = growR p (memTo p n rows i) r := by
  unfold memTo
  rw [List.take_add_one, h, List.foldl_append]; rfl
theorem memTo_all {p n : Nat} {rows : List RowI} : memTo p n rows rows.length = memR p n rows := by unfold memTo; rw [List.take_length]; rfl
theorem memTo_can {p n : Nat} (hp : Pr4 p) {rows : List RowI} (hr : ∀ r ∈ rows, Can p n r) : ∀ i, i ≤ rows.length → ∀ x ∈ memTo p n rows i, Can p n x
  | 0, _ => fun x hx => by
    rw [memTo_zero] at hx
    rw [List.mem_singleton.mp hx]
    exact can_zero (by have := hp.pos; omega)
  | i + 1, hi => fun x hx => by
    rw [memTo_succ (List.getElem?_eq_getElem (show i < rows.length by omega))] at hx
    exact grow_can hp (memTo_can hp hr i (by omega)) (hr _ (List.getElem_mem _)) x hx
theorem memTo_len {p n : Nat} {rows : List RowI} : ∀ i, i ≤ rows.length → (memTo p n rows i).length = p ^ i
  | 0, _ => by rw [memTo_zero]; rfl
  | i + 1, hi => by
    rw [memTo_succ (List.getElem?_eq_getElem (show i < rows.length by omega)), grow_len, memTo_len i (by omega), Nat.pow_succ]
/-- a row of the members, its first c multiples out -/
abbrev growPart (p : Nat) (w r : RowI) (c : Nat) : List RowI := (List.range c).map fun a : Nat => addR p w (sclR p r (a : Int))
def spMem : SpZ := fun vs H Q => ∃ (a : Addr) (xs : List V) (rs : List RowI) (n p : Nat), vs = [.ref a, .int (n : Int), .int (p : Int)] ∧ H a = some (.tup xs) ∧ Rws H xs rs ∧ Pr4 p ∧ (∀ r ∈ rs, Can p n r) ∧ rs.length ≤ 5 ∧ n ≤ 100 ∧
  ((memR p n rs).length ≤ 1 ∨ ∀ r ∈ memR p n rs, r ≠ []) ∧ ∀ H' ys rs', Same H H' → Rws H' ys rs' → rs'.Perm (memR p n rs) → Sorted rs' → Q ys H'
section
variable {P : Program} {w : World} {K : PySem.W.Frag} {mg : Str → Option Value} {base : Heap}
theorem gf_mem {f : Addr} {fd : FuncData} (F : Fun K "members" "members" sMem f fd) (N : NoG mg) {fA fC : Addr} {dA dC : FuncData}
    (FA : Fun K "add" "add" sAdd fA dA) (bA : Binds K dA ["v", "w", "p"] []) (gA : mg "add" = some (.ref fA))
    (FC : Fun K "scaled" "scaled" sScl fC dC) (bC : Binds K dC ["v", "a", "p"] []) (gC : mg "scaled" = some (.ref fC)) :
    GFz P w K mg base 2 f fd ["space", "width", "p"] spMem := by
  have GA : FnOk P w K mg base CX0 1 fA dA ["v", "w", "p"] spAdd := ok_add FA N
  have GC : FnOk P w K mg base CX0 1 fC dC ["v", "a", "p"] spScl := ok_scl FC N
  refine gfz_of (i := 5) (v := "v") F scMem rfl rfl rfl (by decide) (by decide) (fun _ _ => rfl) (fun _ _ => rfl) (fun vs H Q h => ?_) (fun cdv A outer s H vs Q hr h => ?_)
  · obtain ⟨a, xs, rs, n, p, rfl, _⟩ := h
    rfl
  · obtain ⟨a, xs, rs, n, p, rfl, ha, hrs, hp, hcan, hlen, hn, hsh, q⟩ := h
    refine ⟨_, _, _, ps_set (i := 3) scMem.nd rfl (Or.inl rfl) (pe_lst (pa_cons (pe_op op_repZ (pe_tup (pa_cons pe_int pa_nil)) (pv 1)) pa_nil)),
      ps_for PassesOwn.never rfl (pi_tup (pv 0)) (pg_name (i := 4) scMem.nd rfl (Or.inr rfl))
        (pss_one (ps_setLc2 (i := 3) (own := [("v", 5), ("a", 6)]) (vs1 := [6]) (g := gName 5) (g1 := gName 6) (tt := tYes) (tt1 := tYes) rfl scMem.nd rfl rfl (by rfl)
          (pi_list (pv 3)) (blkOk_by (N := nMem) (sc := defScope sMem) (by decide +kernel)) (by decide)
          (fun _ _ _ _ _ => pg_name (i := 5) scMem.nd rfl (Or.inl rfl)) (fun _ _ _ _ _ => pts_nil)
          (fun _ _ _ _ _ => pi_range1 (by rfl) N.range (pa_cons (pv 2) pa_nil)) (fun _ _ _ _ _ => pg_name (i := 6) scMem.nd rfl (Or.inl rfl)) (fun _ _ _ _ _ => pts_nil)
          (fun _ _ _ _ _ => pe_call GA hr (by rfl) gA FA.kp bA .nil pass0 (pa_cons (pv 5) (pa_cons (pe_call GC hr (by rfl) gC FC.kp bC .nil pass0 (pa_cons (pv 4) (pa_cons (pv 6) (pa_cons (pv 2) pa_nil)))) (pa_cons (pv 2) pa_nil)))))),
      pi_list (pe_callB (cr_srt (room4 hr)) (by rfl) N.sorted (by decide +kernel) (pa_cons (pv 3) pa_nil)), ?_⟩
    have hp0 : 0 < p := by have := hp.pos; omega
    have hp7 : p ≤ 7 := by unfold Pr4 at hp; omega
    have xl := hrs.length
    -- found = [(0,) * width]
    refine ⟨by show 1 ≤ sizeLine; decide, fun z0 nz0 => ?_⟩
    refine ⟨_, rfl, repz_use upd_same (by omega) fun H1 z e1 hz => ?_⟩
    have e01 : Same H H1 := (same_new nz0).trans e1
    refine ⟨by show 1 ≤ sizeLine; decide, fun fo nfo => ?_⟩
    have s1 : Same H1 (upd H1 fo (.lst [z])) := same_new nfo
    have e2 := e01.trans s1
    -- for row in space
    refine ⟨.ref a, rfl, a, rfl, ⟨_, SqT.of (e2 _ _ ha)⟩, ?_⟩
    refine for_it walk_tup (fun i σ H' => Same (upd H1 fo (.lst [z])) H' ∧ ∃ fo fs y4, σ = [some (.ref a), some (.int (n : Int)), some (.int (p : Int)), some (.ref fo), y4, none, none] ∧ H' fo = some (.lst fs) ∧ Rws H' fs (memTo p n rs i))
      ⟨Same.refl _, fo, [z], none, rfl, upd_same, by rw [memTo_zero]; exact .cons (hz.tm (tm_of s1)) .nil⟩ (fun i σ H' _ pv => SqT.of ((e2.trans pv.1) _ _ ha)) (fun i x σ H' H'' hi pv y => ?_) (fun σ H' pv => ?_)
    · obtain ⟨sm, fo, fs, y4, rfl, hfo, hfs⟩ := pv
      obtain ⟨rfl, g1⟩ := y
      obtain ⟨row, g2, g3⟩ := (hrs.tm (tm_of (e2.trans sm))).get g1
      have hil : i < rs.length := by omega
      have crow : Can p n row := hcan row (List.mem_of_getElem? g2)
      have cf := memTo_can hp hcan i (by omega)
      have lf := memTo_len (p := p) (n := n) (rows := rs) i (by omega)
      have lp := pow_le (i := i) hp (by omega)
      have fl := hfs.length
      refine ⟨.ref fo, rfl, fo, rfl, ⟨fs, SqL.of hfo⟩, fun D hD => ?_⟩
      refine w_it (n := fs.length) walk_list (fun j H5 => Same H'' H5 ∧ ∃ acc, H5 D = some (.lst acc) ∧ Rws H5 acc (growR p ((memTo p n rs i).take j) row))
        ⟨same_new hD, [], upd_same, .nil⟩ (fun j H5 _ pv => SqL.of (pv.1 _ _ hfo)) (fun j wd H5 H6 hj pv y => ?_) (fun H5 pv => ?_)
      · obtain ⟨sm5, acc, hacc, hra⟩ := pv
        obtain ⟨rfl, k1⟩ := y
        obtain ⟨wr, k2, k3⟩ := hfs.get k1
        have cw : Can p n wr := cf wr (List.mem_of_getElem? k2)
        refine ⟨rfl, ?_⟩
        refine ⟨_, rfl, (p : Int), rfl, by omega, by omega, ?_⟩
        have la := hra.length
        have jl : j < (memTo p n rs i).length := by omega
        refine w_it (n := p) walk_range (fun c H7 => Same H'' H7 ∧ ∃ acc, H7 D = some (.lst acc) ∧ Rws H7 acc (growR p ((memTo p n rs i).take j) row ++ growPart p wr row c))
          ⟨sm5, acc, hacc, by show Rws _ _ (_ ++ []); rw [List.append_nil]; exact hra⟩ (fun _ _ _ _ => trivial) (fun c y H7 H8 hc pv7 y7 => ?_) (fun H7 pv7 => ?_)
        · obtain ⟨sm7, acc7, hacc7, hra7⟩ := pv7
          obtain ⟨rfl, rfl⟩ := y7
          have la7 := hra7.length
          have gl : (growR p ((memTo p n rs i).take j) row ++ growPart p wr row c).length ≤ 16807 := by
            rw [List.length_append, grow_len, List.length_take, List.length_map, List.length_range, Nat.min_eq_left (by omega)]
            have e : (j + 1) * p ≤ p ^ i * p := Nat.mul_le_mul_right _ (by omega)
            have e5 := pow_le (i := i + 1) hp (by omega)
            rw [Nat.pow_succ] at e5
            rw [Nat.add_mul, Nat.one_mul] at e
            omega
          refine ⟨rfl, ?_⟩
          refine ⟨_, rfl, _, rfl, _, rfl, _, rfl, x, row, (0 : Int) + (c : Int), p, rfl, g3.tm (tm_of sm7), by rw [crow.1]; omega, can_bd hp crow, hp0, fun H9 vv e9 hv => ?_⟩
          refine ⟨_, rfl, wd, vv, wr, _, p, n, rfl, k3.tm (tm_of (sm7.trans e9)), hv, cw.1, (can_scl hp0 _ crow).1, by omega, hp0, fun H10 v10 e10 h10 => ?_⟩
          · have e8 := e9.trans e10
            refine ⟨acc7, e8 _ _ hacc7, sz' (by omega), ?_, acc7 ++ [v10], upd_same, ?_⟩
            · exact same_mut (sm7.trans e8) hD
            · have tmD := tm_lst (o := .lst (acc7 ++ [v10])) (e8 _ _ hacc7)
              have eg : growPart p wr row (c + 1) = growPart p wr row c ++ [addR p wr (sclR p row (c : Int))] := by
                unfold growPart
                rw [List.range_succ, List.map_append]; rfl
              rw [eg, ← List.append_assoc]
              rw [Int.zero_add] at h10
              exact ((hra7.tm (tm_of e8)).tm tmD).append (.cons (h10.tm tmD) .nil)
        · obtain ⟨sm7, acc7, hacc7, hra7⟩ := pv7
          refine ⟨sm7, acc7, hacc7, ?_⟩
          rw [grow_take k2]
          exact hra7
      · obtain ⟨sm5, acc, hacc, hra⟩ := pv
        have et : (memTo p n rs i).take fs.length = memTo p n rs i := List.take_of_length_le (by omega)
        rw [et] at hra
        refine ⟨sm.trans sm5, D, acc, _, rfl, hacc, ?_⟩
        rw [memTo_succ g2]
        exact hra
    · obtain ⟨sm, fo, fs, y4, rfl, hfo, hfs⟩ := pv
      rw [xl, memTo_all] at hfs
      refine ⟨_, rfl, fo, fs, _, rfl, hfo, hfs, hsh, fun l ys rs' nl hys pr sr => ?_⟩
      refine ⟨l, rfl, ⟨ys, SqL.of upd_same⟩, l, ys, rfl, upd_same, ?_, ?_⟩
      · have l1 := hys.length
        have l2 := pr.length_eq
        have l3 := memTo_len (p := p) (n := n) (rows := rs) rs.length (Nat.le_refl _)
        rw [memTo_all] at l3
        have l4 := pow_le (i := rs.length) hp hlen
        exact sz (by omega)
      · exact q _ ys rs' ((e2.trans sm).trans (same_new nl)) (hys.tm (tm_new nl)) pr sr
end
end K04W
end

section
set_option Elab.async false
set_option linter.all false
set_option maxRecDepth 100000
set_option maxHeartbeats 4000000
/-! K04F: the law's own def. -/
namespace K04W
open PySem PySem.Spec PyProof.Rows L2 K04
abbrev sLaw : Stmt := topS 27
abbrev nLaw : List Str := ["_law_script", "_law_state_here", "_law_p", "_law_n", "_law_first", "_law_second", "_law_one", "_law_two", "_law_a", "_law_b", "_law_wide", "_law_part", "_law_v"]
theorem scLaw : FnScope nLaw ["_law_script"] (defScope sLaw) := ⟨rfl, rfl, rfl, by decide +kernel, rfl, by decide +kernel, by decide +kernel⟩
/-- a def of the text with its promise -/
structure Df (P : Program) (w : World) (K : PySem.W.Frag) (mg : Str → Option Value) (base : Heap) (x : Str) (st : Stmt) (ps : List Str) (k : Nat) (sp : Sp) (f : Addr) (fd : FuncData) : Prop where
  F : Fun K x x st f fd
  b : Binds K fd ps []
  g : mg x = some (.ref f)
  ok : FnOk P w K mg base CX0 k f fd ps sp
theorem inc_len {n : Nat} : ∀ (l : List Nat) (lo : Nat), l.Pairwise (· < ·) → (∀ x ∈ l, lo ≤ x ∧ x < n) → l.length + lo ≤ n ∨ l = []
  | [], _, _, _ => .inr rfl
  | x :: l, lo, h, b => by
    left
    obtain ⟨h1, h2⟩ := List.pairwise_cons.mp h
    have hx := b x List.mem_cons_self
    rcases inc_len l (x + 1) h2 fun y hy => ⟨h1 y hy, (b y (List.mem_cons_of_mem _ hy)).2⟩ with h3 | rfl
    · rw [List.length_cons]; omega
    · rw [List.length_singleton]; omega
theorem form_len {p n : Nat} {L : List (Nat × RowI)} (h : FormR p n L) : L.length ≤ n := by
  have e : (L.map (·.1)).length = L.length := List.length_map _
  rcases inc_len (n := n) (L.map (·.1)) 0 (List.pairwise_map.mpr h.inc) fun x hx => by
    obtain ⟨y, hy, rfl⟩ := List.mem_map.mp hx
    exact ⟨Nat.zero_le _, h.lt y hy⟩ with h1 | h1
  · omega
  · rw [h1] at e
    exact Nat.le_trans (Nat.le_of_eq e.symm) (Nat.zero_le _)
section
variable {P : Program} {w : World} {K : PySem.W.Frag} {mg : Str → Option Value} {base : Heap}
theorem rws_sel {H : Hp} {ys : List V} {ws : List RowI} (h : Rws H ys ws) : ∀ I : List Nat, (∀ i ∈ I, i < ys.length) → Rws H (I.map fun i => ys.getD i .non) (I.map fun i => ws.getD i [])
  | [], _ => .nil
  | i :: I, hi => by
    have h0 : i < ys.length := hi i List.mem_cons_self
    obtain ⟨r, e1, e2⟩ := h.get (List.getElem?_eq_getElem h0)
    refine .cons ?_ (rws_sel h I fun j hj => hi j (List.mem_cons_of_mem _ hj))
    show IsRow H (ys.getD i .non) (ws.getD i [])
    rw [List.getD_eq_getElem?_getD, List.getD_eq_getElem?_getD, e1, List.getElem?_eq_getElem h0]
    exact e2
theorem fil_sel (ws : List RowI) (f : RowI → Bool) : (((List.range ws.length).filter fun i => f (ws.getD i [])).map fun i => ws.getD i []) = ws.filter f := by
  have e : (List.range ws.length).map (fun i => ws.getD i []) = ws := by
    refine List.ext_getElem (by rw [List.length_map, List.length_range]) fun i h1 h2 => ?_
    rw [List.getElem_map, List.getElem_range, List.getD_eq_getElem?_getD, List.getElem?_eq_getElem h2]
    rfl
  conv => rhs; rw [← e, List.filter_map]
  rfl
theorem rws_fil {H : Hp} {ys : List V} {ws : List RowI} (h : Rws H ys ws) (f : RowI → Bool) : Rws H (((List.range ys.length).filter fun i => f (ws.getD i [])).map fun i => ys.getD i .non) (ws.filter f) := by
  have e := rws_sel h ((List.range ys.length).filter fun i => f (ws.getD i [])) fun i hi => List.mem_range.mp (List.mem_filter.mp hi).1
  rw [h.length, fil_sel] at e
  rw [h.length]
  exact e
/-- what the rest of the law needs of the defs -/
structure LawDs (P : Program) (w : World) (K : PySem.W.Frag) (mg : Str → Option Value) (base : Heap) : Prop where
  N : NoG mg
  lsp : ∃ f fd, Df P w K mg base "_law_span" sLSp ["_law_rows_here", "_law_n", "_law_p"] 2 (spLSp K) f fd
  span : ∃ f fd, Df P w K mg base "span" sSpan ["rows", "width", "p"] 3 (spSpan K) f fd
  sum : ∃ f fd, Df P w K mg base "sum_of" sSum ["a", "b", "width", "p"] 4 spSum f fd
  com : ∃ f fd, Df P w K mg base "common_part" sCom ["a", "b", "width", "p"] 5 spCom f fd
  show_ : ∃ f fd, Df P w K mg base "_law_shows" sShow ["_law_told", "_law_words", "_law_n", "_law_p"] 3 spShow f fd
  mem : ∃ f fd, Fun K "members" "members" sMem f fd ∧ Binds K fd ["space", "width", "p"] [] ∧ mg "members" = some (.ref f) ∧ GFz P w K mg base 2 f fd ["space", "width", "p"] spMem
  st : ∃ f fd, Df P w K mg base "_law_state" sSt ["_law_script"] 1 (spSt K) f fd
  take : ∃ f fd, Df P w K mg base "_law_take" sTake ["_law_state_here", "_law_m"] 1 spTake f fd
  prime : ∃ f fd, Df P w K mg base "_law_prime" sPrime ["_law_state_here"] 2 spPrime f fd
  rows : ∃ f fd, Df P w K mg base "_law_rows" sRows ["_law_state_here", "_law_p", "_law_n", "_law_most"] 3 spRows f fd
theorem law_rest {f : Addr} {cdv : Value} {A : Around} {outer : List Env} {s : Shared} {H0 : Hp} {E : XK} (Ds : LawDs P w K mg base) (hr : Room 5 (A.deeper (envOfC "law" (defScope sLaw) s.heap.objs.size f cdv))) :
    ∃ t, PSs (cxOf CX0 P w K mg base nLaw "law" (defScope sLaw) f cdv A outer s H0 E).nox ((defBody sLaw).drop 6) t ∧
      ∀ (D : Ends) (H : Hp) (y0 : Option V) (l : Addr) (p n : Nat) (c1 c2 : Addr) (xs1 xs2 : List V) (first second : List RowI), Pr4 p → n ≤ 4 → H c1 = some (.lst xs1) → Rws H xs1 first → H c2 = some (.lst xs2) → Rws H xs2 second →
        (∀ r ∈ first, Can p n r) → (∀ r ∈ second, Can p n r) → first.length ≤ 2 → second.length ≤ 3 → (∀ H', D.rt (.bl true) H') →
        t D [y0, some (.ref l), some (.int (p : Int)), some (.int (n : Int)), some (.ref c1), some (.ref c2), none, none, none, none, none, none, none] H := by
  obtain ⟨N, ⟨fL, dL, DL⟩, ⟨fS, dS, DS⟩, ⟨fW, dW, DW⟩, ⟨fC, dC, DC⟩, ⟨fH, dH, DH⟩, ⟨fM, dM, FM, bM, gM, GM⟩, _⟩ := Ds
  have r2 := hr.mono (show 2 ≤ 5 by decide)
  have r3 := hr.mono (show 3 ≤ 5 by decide)
  have r4 := hr.mono (show 4 ≤ 5 by decide)
  refine ⟨_, pss_cons (ps_set (i := 6) scLaw.nd rfl (Or.inl rfl) (pe_call DL.ok r2 (by rfl) DL.g DL.F.kp DL.b .nil pass0 (pa_cons (pv 4) (pa_cons (pv 3) (pa_cons (pv 2) pa_nil)))))
    (pss_cons (ps_set (i := 7) scLaw.nd rfl (Or.inr rfl) (pe_call DL.ok r2 (by rfl) DL.g DL.F.kp DL.b .nil pass0 (pa_cons (pv 5) (pa_cons (pv 3) (pa_cons (pv 2) pa_nil)))))
    (pss_cons (ps_set (i := 8) scLaw.nd rfl (Or.inl rfl) (pe_call DS.ok r3 (by rfl) DS.g DS.F.kp DS.b .nil pass0 (pa_cons (pv 4) (pa_cons (pv 3) (pa_cons (pv 2) pa_nil)))))
    (pss_cons (ps_set (i := 9) scLaw.nd rfl (Or.inl rfl) (pe_call DS.ok r3 (by rfl) DS.g DS.F.kp DS.b .nil pass0 (pa_cons (pv 5) (pa_cons (pv 3) (pa_cons (pv 2) pa_nil)))))
    (pss_cons (ps_set (i := 10) scLaw.nd rfl (Or.inl rfl) (pe_call DW.ok r4 (by rfl) DW.g DW.F.kp DW.b .nil pass0 (pa_cons (pv 8) (pa_cons (pv 9) (pa_cons (pv 3) (pa_cons (pv 2) pa_nil))))))
    (pss_cons (ps_set (i := 11) scLaw.nd rfl (Or.inl rfl) (pe_call DC.ok hr (by rfl) DC.g DC.F.kp DC.b .nil pass0 (pa_cons (pv 8) (pa_cons (pv 9) (pa_cons (pv 3) (pa_cons (pv 2) pa_nil))))))
    (pss_cons (ps_if (PW.pt (pw_or
        (pt_not (pt_val (pe_call DH.ok r3 (by rfl) DH.g DH.F.kp DH.b .nil pass0 (pa_cons (pv 10) (pa_cons (pe_call DL.ok r2 (by rfl) DL.g DL.F.kp DL.b .nil pass0 (pa_cons (pe_op op_cat (pv 4) (pv 5)) (pa_cons (pv 3) (pa_cons (pv 2) pa_nil)))) (pa_cons (pv 3) (pa_cons (pv 2) pa_nil)))))))
        (pw_or1 (pt_not (pt_val (pe_call DH.ok r3 (by rfl) DH.g DH.F.kp DH.b .nil pass0 (pa_cons (pv 11) (pa_cons
          (pe_lc (own := [("_law_v", 12)]) (g := gName 12) rfl scLaw.nd (pi_list (pv 6)) (blkOk_by (N := nLaw) (sc := defScope sLaw) (by decide +kernel))
            (fun _ _ _ _ _ => pg_name (i := 12) scLaw.nd rfl (Or.inl rfl)) (fun _ _ _ _ _ => pts_one (pt_cmpR (op_inRK (K := K) (room65 hr)) (pv 12) (pv 7) rfl)) (fun _ _ _ _ _ => pv 12))
          (pa_cons (pv 3) (pa_cons (pv 2) pa_nil)))))))))) (pss_one (ps_ret pe_bl)) pss_nil)
    (pss_cons (ps_if (PW.pt (pw_or
        (pt_cmpR op_ne (pe_op op_add (pe_callB call_len_seq (by rfl) N.len PySem.boot_len (pa_cons (pv 10) pa_nil)) (pe_callB call_len_seq (by rfl) N.len PySem.boot_len (pa_cons (pv 11) pa_nil)))
          (pe_op op_add (pe_callB call_len_seq (by rfl) N.len PySem.boot_len (pa_cons (pv 8) pa_nil)) (pe_callB call_len_seq (by rfl) N.len PySem.boot_len (pa_cons (pv 9) pa_nil))) (nomark _))
        (pw_or (pt_cmpR (op_neT (room64 hr)) (pe_call DW.ok r4 (by rfl) DW.g DW.F.kp DW.b .nil pass0 (pa_cons (pv 9) (pa_cons (pv 8) (pa_cons (pv 3) (pa_cons (pv 2) pa_nil))))) (pv 10) (nomark _))
        (pw_or1 (pt_cmpR (op_neT (room64 hr)) (pe_call DC.ok hr (by rfl) DC.g DC.F.kp DC.b .nil pass0 (pa_cons (pv 9) (pa_cons (pv 8) (pa_cons (pv 3) (pa_cons (pv 2) pa_nil))))) (pv 11) (nomark _)))))) (pss_one (ps_ret pe_bl)) pss_nil)
    (pss_one (ps_ret (pe_and
      (pe_cmpR (op_eqL (room64 hr)) (pe_lcG GM r3 (by rfl) gM FM.kp bM .nil (pa_cons (pv 8) (pa_cons (pv 3) (pa_cons (pv 2) pa_nil))) rfl rfl (by decide +kernel) (by decide +kernel)) (pv 6) (nomark _))
      (pe_one (pe_cmpR (op_eqL (room64 hr)) (pe_listG (E := E0) (pgen_call GM.gfn r2 (by rfl) gM FM.kp bM .nil (pa_cons (pv 9) (pa_cons (pv 3) (pa_cons (pv 2) pa_nil)))) (fun _ _ _ _ _ _ _ ⟨_, _, _, _, _, _, _, _, _, _, _, _, h⟩ => h.elim) (fun _ _ _ h => h.elim) hr (by rfl) N.list (by decide +kernel)) (pv 7) (nomark _))))))))))))), ?_⟩
  intro D H y0 l p n c1 c2 xs1 xs2 first second hp hn h1 hx1 h2 hx2 k1 k2 l1 l2 q
  have LO := law_ok hp k1 k2
  have hp0 : 0 < p := by have := hp.pos; omega
  -- one, two
  refine ⟨_, rfl, _, rfl, _, rfl, .ref c1, first, n, p, rfl, ⟨c1, xs1, rfl, .inl h1, hx1⟩, hp, k1, by omega, by omega, fun H1 o1 ys1 ws1 e1 ho1 hy1 p1 s1 => ?_⟩
  refine ⟨_, rfl, _, rfl, _, rfl, .ref c2, second, n, p, rfl, ⟨c2, xs2, rfl, .inl (e1 _ _ h2), hx2.tm (tm_of e1)⟩, hp, k2, by omega, by omega, fun H2 o2 ys2 ws2 e2 ho2 hy2 p2 s2 => ?_⟩
  have e12 := e1.trans e2
  -- a, b
  refine ⟨_, rfl, _, rfl, _, rfl, .ref c1, first, n, p, rfl, ⟨c1, xs1, rfl, .inl (e12 _ _ h1), hx1.tm (tm_of e12)⟩, hp, k1, by omega, by omega, fun H3 a xa e3 ha hxa => ?_⟩
  have e13 := e12.trans e3
  refine ⟨_, rfl, _, rfl, _, rfl, .ref c2, second, n, p, rfl, ⟨c2, xs2, rfl, .inl (e13 _ _ h2), hx2.tm (tm_of e13)⟩, hp, k2, by omega, by omega, fun H4 b xb e4 hb hxb => ?_⟩
  have e14 := e13.trans e4
  have la := span_len (p := p) (n := n) (rows := first)
  have lb := span_len (p := p) (n := n) (rows := second)
  have ka : ∀ r ∈ spanR p n first, Can p n r := tab_can hp k1
  have kb : ∀ r ∈ spanR p n second, Can p n r := tab_can hp k2
  have lab : (spanR p n first ++ spanR p n second).length ≤ 1000 := by rw [List.length_append]; omega
  have lba : (spanR p n second ++ spanR p n first).length ≤ 1000 := by rw [List.length_append]; omega
  have kab : ∀ r ∈ spanR p n first ++ spanR p n second, Can p n r := fun r hr => (List.mem_append.mp hr).elim (ka r) (kb r)
  have kba : ∀ r ∈ spanR p n second ++ spanR p n first, Can p n r := fun r hr => (List.mem_append.mp hr).elim (kb r) (ka r)
  have ha4 := e4 _ _ ha
  have hxa4 := hxa.tm (tm_of e4)
  -- wide, part
  refine ⟨_, rfl, _, rfl, _, rfl, _, rfl, a, b, xa, xb, spanR p n first, spanR p n second, n, p, rfl, ha4, hxa4, hb, hxb, hp, kab, lab, by omega, fun H5 t xt e5 ht hxt => ?_⟩
  refine ⟨_, rfl, _, rfl, _, rfl, _, rfl, a, b, xa, xb, spanR p n first, spanR p n second, n, p, rfl, e5 _ _ ha4, hxa4.tm (tm_of e5), e5 _ _ hb, hxb.tm (tm_of e5), hp, ka, kb, by omega, by omega, by omega, fun H6 u xu e6 hu hxu => ?_⟩
  have e46 := e5.trans e6
  have e16 := e14.trans e46
  have ht6 := e6 _ _ ht
  have hxt6 := hxt.tm (tm_of e6)
  obtain ⟨Lw, fw, ew⟩ := LO.fw
  obtain ⟨Lp, fp, ep⟩ := LO.fp
  have lw := form_len fw
  have lp := form_len fp
  -- the first word
  refine ⟨_, rfl, _, rfl, _, rfl, c1, c2, xs1, xs2, rfl, rfl, e16 _ _ h1, e16 _ _ h2, ?_, fun cc ncc => ?_⟩
  · have := hx1.length
    have := hx2.length
    exact sz (by omega)
  have e7 : Same H6 (upd H6 cc (.lst (xs1 ++ xs2))) := same_new ncc
  have e17 := e16.trans e7
  refine ⟨_, rfl, _, rfl, .ref cc, first ++ second, n, p, rfl, ⟨cc, xs1 ++ xs2, rfl, .inl upd_same, (hx1.tm (tm_of e17)).append (hx2.tm (tm_of e17))⟩, hp, fun r hr => (List.mem_append.mp hr).elim (k1 r) (k2 r), by rw [List.length_append]; omega, by omega, fun H8 o8 ys8 ws8 e8 ho8 hy8 p8 s8 => ?_⟩
  have e68 := e7.trans e8
  refine ⟨_, rfl, _, rfl, t, o8, xt, ys8, Lw, ws8, n, p, rfl, e68 _ _ ht6, by rw [ew]; exact hxt6.tm (tm_of e68), fw, by omega, by omega, hp, ho8, hy8, by rw [ew]; exact LO.wide.trans p8.symm, s8, fun H9 e9 => ?_⟩
  refine ⟨true, rfl, ?_⟩
  have e69 := e68.trans e9
  have e29 : Same H2 H9 := ((e3.trans e4).trans e46).trans e69
  -- the second word
  have ly1 := hy1.length
  have l1' := p1.length_eq
  have ll1 := lawTo_len (n := n) hp (rows := first) first.length
  rw [lawTo_all] at ll1
  have lpw := pow_le (i := first.length) hp (by omega)
  have ho1' : ∀ H', Same H9 H' → H' o1 = some (.lst ys1) := fun H' e => e _ _ (e29 _ _ (e2 _ _ ho1))
  have hy1' : ∀ H', Same H9 H' → Rws H' ys1 ws1 := fun H' e => hy1.tm (tm_of ((e2.trans e29).trans e))
  have ho2' : ∀ H', Same H9 H' → H' o2 = some (.lst ys2) := fun H' e => e _ _ (e29 _ _ ho2)
  have hy2' : ∀ H', Same H9 H' → Rws H' ys2 ws2 := fun H' e => hy2.tm (tm_of (e29.trans e))
  refine ⟨_, rfl, _, rfl, o1, rfl, ⟨ys1, SqL.of (ho1' _ (Same.refl _))⟩, fun Df nDf => ?_⟩
  refine lc_fil (n := ys1.length) walk_list (by omega) (fun i => decide (ws1.getD i [] ∈ ws2)) (fun i => ys1.getD i .non) nDf (fun H' e => SqL.of (ho1' _ e)) yat_same (fun i x H10 H11 hi e y => ?_) gName_mono (fun H10 e10 hD10 => ?_)
  · obtain ⟨rfl, g1⟩ := y
    obtain ⟨r, g2, g3⟩ := (hy1' _ e).get g1
    have ev : ys1.getD i .non = x := by rw [List.getD_eq_getElem?_getD, g1]; rfl
    have er : ws1.getD i [] = r := by rw [List.getD_eq_getElem?_getD, g2]; rfl
    refine ⟨rfl, fun Q' H12 k => ?_, fun Q' k => ?_⟩
    · rw [ev] at k
      exact ⟨_, rfl, k⟩
    · refine ⟨_, rfl, _, rfl, r, o2, ys2, ws2, g3, rfl, ho2' _ e, hy2' _ e, _, rfl, ?_⟩
      have := k _ (Same.refl _)
      rw [er] at this
      exact this
  have e6T := e69.trans e10
  refine ⟨_, rfl, _, rfl, u, Df, xu, _, Lp, ws1.filter fun v => decide (v ∈ ws2), n, p, rfl, e6T _ _ hu, by rw [ep]; exact hxu.tm (tm_of e6T), fp, by omega, by omega, hp, hD10, rws_fil (hy1' _ e10) (fun v => decide (v ∈ ws2)), by rw [ep]; exact LO.part ws1 ws2 p1 p2, s1.filter _, fun H12 e12' => ?_⟩
  refine ⟨true, rfl, ?_⟩
  have e6U := e6T.trans e12'
  have e9U := e10.trans e12'
  -- the sizes, the other way round
  have e4U := e46.trans e6U
  have e3U := e4.trans e4U
  refine ⟨_, rfl, t, xt, rfl, .inr (SqT.of (e6U _ _ ht6)), _, rfl, u, xu, rfl, .inr (SqT.of (e6U _ _ hu)), _, _, rfl, rfl, ?_⟩
  refine ⟨_, rfl, a, xa, rfl, .inr (SqT.of (e4U _ _ ha4)), _, rfl, b, xb, rfl, .inr (SqT.of (e4U _ _ hb)), _, _, rfl, rfl, ?_⟩
  have da : (((xt.length : Nat) : Int) + ((xu.length : Nat) : Int)) = ((xa.length : Nat) : Int) + ((xb.length : Nat) : Int) := by
    have := LO.dim
    have := hxt.length
    have := hxu.length
    have := hxa.length
    have := hxb.length
    omega
  refine ⟨rfl, _, rfl, ?_⟩
  rw [int_dec, decide_eq_true da]
  refine ⟨_, rfl, _, rfl, _, rfl, _, rfl, b, a, xb, xa, spanR p n second, spanR p n first, n, p, rfl, e4U _ _ hb, hxb.tm (tm_of e4U), e4U _ _ ha4, hxa4.tm (tm_of e4U), hp, kba, lba, by omega, fun H13 t2 xt2 e13' ht2 hxt2 => ?_⟩
  refine ⟨_, rfl, t2, t, xt2, xt, _, _, rfl, rfl, ht2, hxt2, e13' _ _ (e6U _ _ ht6), hxt6.tm (tm_of (e6U.trans e13')), _, rfl, ?_⟩
  rw [decide_eq_true LO.wcomm]
  refine ⟨_, rfl, _, rfl, _, rfl, _, rfl, b, a, xb, xa, spanR p n second, spanR p n first, n, p, rfl, e13' _ _ (e4U _ _ hb), hxb.tm (tm_of (e4U.trans e13')), e13' _ _ (e4U _ _ ha4), hxa4.tm (tm_of (e4U.trans e13')), hp, kb, ka, by omega, by omega, by omega, fun H14 u2 xu2 e14' hu2 hxu2 => ?_⟩
  refine ⟨_, rfl, u2, u, xu2, xu, _, _, rfl, rfl, hu2, hxu2, e14' _ _ (e13' _ _ (e6U _ _ hu)), hxu.tm (tm_of ((e6U.trans e13').trans e14')), _, rfl, ?_⟩
  rw [decide_eq_true LO.pcomm]
  have e4V := e4U.trans (e13'.trans e14')
  have e9V := e9U.trans (e13'.trans e14')
  -- the members
  refine ⟨_, rfl, _, rfl, _, rfl, a, xa, spanR p n first, n, p, rfl, e4V _ _ ha4, hxa4.tm (tm_of e4V), hp, ka, by omega, by omega, short_or (mem_nd hp k1) (fun r hr => memTo_can hp ka _ (Nat.le_refl _) r (by rw [memTo_all]; exact hr)), fun H15 zs rs1 e15 hz1 pr1 sr1 D1 nD1 => ?_⟩
  have e9W := (e9V.trans e15).trans (same_new (o := .lst zs) nD1)
  refine ⟨_, rfl, D1, o1, zs, ys1, rs1, ws1, rfl, rfl, upd_same, hz1.tm (tm_new nD1), ho1' _ e9W, hy1' _ e9W, ?_⟩
  refine ⟨_, rfl, ?_⟩
  rw [decide_eq_true (sorted_uniq sr1 s1 (pr1.trans (LO.memA.trans p1.symm)))]
  have e4W := (e4V.trans e15).trans (same_new (o := .lst zs) nD1)
  refine ⟨_, rfl, _, rfl, _, rfl, b, xb, spanR p n second, n, p, rfl, e4W _ _ hb, hxb.tm (tm_of e4W), hp, kb, by omega, by omega, short_or (mem_nd hp k2) (fun r hr => memTo_can hp kb _ (Nat.le_refl _) r (by rw [memTo_all]; exact hr)), fun H16 zs2 rs2 e16' hz2 pr2 sr2 D2 nD2 => ?_⟩
  have e9Y := (e9W.trans e16').trans (same_new (o := .lst zs2) nD2)
  refine ⟨_, rfl, D2, o2, zs2, ys2, rs2, ws2, rfl, rfl, upd_same, hz2.tm (tm_new nD2), ho2' _ e9Y, hy2' _ e9Y, ?_⟩
  rw [decide_eq_true (sorted_uniq sr2 s2 (pr2.trans (LO.memB.trans p2.symm)))]
  exact q _
/-! ### the whole -/
def spLaw (K : PySem.W.Frag) : Sp := fun vs H Q _ => ∃ (a : Addr) (ns : List Int), vs = [.ref a] ∧ SqL K H a (ns.map V.int) ∧ ∀ H', Q (.bl true) H'
theorem ok_law {f : Addr} {fd : FuncData} (F : Fun K "law" "law" sLaw f fd) (Ds : LawDs P w K mg base) : FnOk P w K mg base CX0 6 f fd ["_law_script"] (spLaw K) := by
  refine F.ok scLaw (fun vs H Q E h => ?_) (fun cdv A outer s H vs Q E hr h => ?_)
  · obtain ⟨a, ns, rfl, _⟩ := h
    rfl
  · obtain ⟨a, ns, rfl, hS, q⟩ := h
    obtain ⟨t, ht, hq⟩ := law_rest (f := f) (cdv := cdv) (A := A) (outer := outer) (s := s) (H0 := H) (E := E) Ds hr
    obtain ⟨N, _, _, _, _, _, _, ⟨fS, dS, DS⟩, ⟨fT, dT, DT⟩, ⟨fP, dP, DP⟩, ⟨fR, dR, DR⟩⟩ := Ds
    have r1 := hr.mono (show 1 ≤ 5 by decide)
    have r2 := hr.mono (show 2 ≤ 5 by decide)
    have r3 := hr.mono (show 3 ≤ 5 by decide)
    refine ⟨_, pss_cons (ps_set (i := 1) scLaw.nd rfl (Or.inl rfl) (pe_call DS.ok r1 (by rfl) DS.g DS.F.kp DS.b .nil pass0 (pa_cons (pv 0) pa_nil)))
      (pss_cons (ps_set (i := 2) scLaw.nd rfl (Or.inl rfl) (pe_call DP.ok r2 (by rfl) DP.g DP.F.kp DP.b .nil pass0 (pa_cons (pv 1) pa_nil)))
      (pss_cons (ps_set (i := 3) scLaw.nd rfl (Or.inl rfl) (pe_call DT.ok r1 (by rfl) DT.g DT.F.kp DT.b .nil pass0 (pa_cons (pv 1) (pa_cons
        (pe_op op_sub pe_int (pe_callTy call_int1 (by rfl) N.int (by decide +kernel) (pa_cons (pe_cmpR op_gt (pv 2) pe_int (nomark _)) pa_nil))) pa_nil))))
      (pss_cons (ps_set (i := 4) scLaw.nd rfl (Or.inl rfl) (pe_call DR.ok r3 (by rfl) DR.g DR.F.kp DR.b .nil pass0 (pa_cons (pv 1) (pa_cons (pv 2) (pa_cons (pv 3) (pa_cons pe_int pa_nil))))))
      (pss_cons (ps_set (i := 5) scLaw.nd rfl (Or.inl rfl) (pe_call DR.ok r3 (by rfl) DR.g DR.F.kp DR.b .nil pass0 (pa_cons (pv 1) (pa_cons (pv 2) (pa_cons (pv 3) (pa_cons pe_int pa_nil))))))
      (pss_cons (ps_if (pt_cmpR op_eq (pe_call DT.ok r1 (by rfl) DT.g DT.F.kp DT.b .nil pass0 (pa_cons (pv 1) (pa_cons pe_int pa_nil))) pe_int (nomark _))
        (pss_one (ps_set (i := 5) scLaw.nd rfl (Or.inl rfl) (pe_op op_cat (pv 5) (pe_slice sl_list (pv 4) po_none (po_some pe_int))))) pss_nil) ht))))), ?_⟩
    -- the state, the prime, the width
    refine ⟨_, rfl, a, ns, rfl, hS, fun H1 l e1 nl st1 => ?_⟩
    refine ⟨_, rfl, l, rfl, st1, fun H2 p hp st2 => ?_⟩
    refine ⟨_, rfl, _, rfl, _, _, rfl, rfl, .inr ⟨_, rfl, _, _, rfl, rfl, l, _, rfl, st2.2, ?_, ?_, fun z sz tz z0 zm => ?_⟩⟩
    · by_cases h3 : (3 : Int) < p
      · rw [decide_eq_true h3]; decide
      · rw [decide_eq_false h3]; decide
    · by_cases h3 : (3 : Int) < p
      · rw [decide_eq_true h3]; decide
      · rw [decide_eq_false h3]; decide
    have hz4 : z ≤ 4 := by
      by_cases h3 : (3 : Int) < p
      · rw [decide_eq_true h3] at zm
        have : z < 5 - 1 := zm
        omega
      · rw [decide_eq_false h3] at zm
        have : z < 5 - 0 := zm
        omega
    obtain ⟨n, rfl⟩ : ∃ n : Nat, z = (n : Int) := ⟨z.toNat, by omega⟩
    have hn : n ≤ 4 := by omega
    have st3 : IsSt (upd H2 l (.lst [.int sz, .int tz])) l := ⟨sz, tz, upd_same⟩
    -- the rows
    refine ⟨_, rfl, _, rfl, _, rfl, l, p, n, 2, rfl, st3, hp, by omega, by omega, fun H4 c1 xs1 first st4 nc1 h1 hx1 k1 l1 => ?_⟩
    refine ⟨_, rfl, _, rfl, _, rfl, l, p, n, 2, rfl, st4.2, hp, by omega, by omega, fun H5 c2 xs2 second st5 nc2 h2 hx2 k2 l2 => ?_⟩
    have n1 : c1 ≠ l := fun e => by
      obtain ⟨s0, t0, e0⟩ := st3
      rw [e, e0] at nc1
      cases nc1
    have n2 : c2 ≠ l := fun e => by
      obtain ⟨s0, t0, e0⟩ := st4.2
      rw [e, e0] at nc2
      cases nc2
    have h15 := st5.1 c1 _ n1 h1
    have hx15 := hx1.tm (Stp.tm st4.2 st5)
    obtain ⟨s5, t5, hl5⟩ := st5.2
    refine ⟨_, rfl, l, 3, rfl, st5.2, by decide, by decide, fun z3 s3 t3 z30 z3m => ?_⟩
    have t6 : Tm H5 (upd H5 l (.lst [.int s3, .int t3])) := tm_lst hl5
    have h16 : (upd H5 l (.lst [.int s3, .int t3])) c1 = some (.lst xs1) := by rw [upd_ne n1]; exact h15
    have h26 : (upd H5 l (.lst [.int s3, .int t3])) c2 = some (.lst xs2) := by rw [upd_ne n2]; exact h2
    refine ⟨rfl, _, rfl, ite2 (fun e => ?_) (fun e => ?_)⟩
    · refine ⟨_, rfl, .ref c1, rfl, 1, rfl, c1, xs1, rfl, SqL.of h16, fun cs ncs => ?_⟩
      have hc : cutV xs1 none (some 1) = xs1.take (min 1 xs1.length) := by
        show (xs1.drop 0).take (HT.sIx xs1.length xs1.length (some ((1 : Nat) : Int)) - 0) = _
        rw [HT.sIx_nat]
        rfl
      rw [hc]
      have s7 := same_new (o := .lst (xs1.take (min 1 xs1.length))) ncs
      refine ⟨c2, cs, xs2, xs1.take (min 1 xs1.length), rfl, rfl, s7 _ _ h26, upd_same, ?_, fun cd ncd => ?_⟩
      · have := hx2.length
        rw [List.length_take]
        exact K04W.sz (by omega)
      · have s8 := s7.trans (same_new (o := .lst (xs2 ++ xs1.take (min 1 xs1.length))) ncd)
        have t8 := tm_of s8
        refine hq _ _ _ l p n c1 cd xs1 _ first (second ++ first.take (min 1 xs1.length)) hp hn (s8 _ _ h16) ((hx15.tm t6).tm t8) upd_same (((hx2.tm t6).tm t8).append (((hx15.tm t6).tm t8).take _)) k1 (fun r hr => (List.mem_append.mp hr).elim (k2 r) fun h => k1 r (List.mem_of_mem_take h)) l1 ?_ q
        rw [List.length_append, List.length_take]
        omega
    · exact hq _ _ _ l p n c1 c2 xs1 xs2 first second hp hn h16 (hx15.tm t6) h26 (hx2.tm t6) k1 k2 l1 (by omega) q
end
end K04W
end

section
set_option Elab.async false
set_option linter.all false
set_option maxRecDepth 100000
set_option maxHeartbeats 4000000
/-! K04Z: what the top has written; the law's own head. -/
namespace K04W
open PySem PySem.Spec PyProof.Rows L2 K04
theorem all_mk {l : PySem.W.OpenLaw} {w : World} {K : PySem.W.Frag} {h : Heap} {mg : Str → Option Value} {fa f1 f2 f3 f4 f5 f6 f7 f8 f9 f10 f11 f12 f13 f14 f15 f16 f17 f18 f19 f20 f21 f22 : Addr} (X : K.In h) (G : h.Ns mainGlobals mg) (hfa : mg "law" = some (.ref fa))
    {od1 an1 od2 an2 od3 an3 od4 an4 od5 an5 od6 an6 od7 an7 od8 an8 od9 an9 od10 an10 od11 an11 od12 an12 od13 an13 od14 an14 od15 an15 od16 an16 od17 an17 od18 an18 od19 an19 od20 an20 od21 an21 od22 an22 : Option Addr} {sl1 sl2 sl3 sl4 sl5 sl6 sl7 sl8 sl9 sl10 sl11 sl12 sl13 sl14 sl15 sl16 sl17 sl18 sl19 sl20 sl21 sl22 : Array (Option Value)} {oc1 kV1 dc1 pm1 cd1 ct1 oc2 kV2 dc2 pm2 cd2 ct2 oc3 kV3 dc3 pm3 cd3 ct3 oc4 kV4 dc4 pm4 cd4 ct4 oc5 kV5 dc5 pm5 cd5 ct5 oc6 kV6 dc6 pm6 cd6 ct6 oc7 kV7 dc7 pm7 cd7 ct7 oc8 kV8 dc8 pm8 cd8 ct8 oc9 kV9 dc9 pm9 cd9 ct9 oc10 kV10 dc10 pm10 cd10 ct10 oc11 kV11 dc11 pm11 cd11 ct11 oc12 kV12 dc12 pm12 cd12 ct12 oc13 kV13 dc13 pm13 cd13 ct13 oc14 kV14 dc14 pm14 cd14 ct14 oc15 kV15 dc15 pm15 cd15 ct15 oc16 kV16 dc16 pm16 cd16 ct16 oc17 kV17 dc17 pm17 cd17 ct17 oc18 kV18 dc18 pm18 cd18 ct18 oc19 kV19 dc19 pm19 cd19 ct19 oc20 kV20 dc20 pm20 cd20 ct20 oc21 kV21 dc21 pm21 cd21 ct21 oc22 kV22 dc22 pm22 cd22 ct22 : Value}
    (a1 : PySem.W.nsIn K mainGlobals "inverse" = some (some (.ref f1))) (l1 : K.lookup f1 = some ⟨oc1, od1, .func (PySem.W.fnOf "inverse" "inverse" (defArgs sInv) (defBody sInv) (defScope sInv) .none kV1 dc1 pm1 an1 cd1 ct1), sl1⟩) (c1 : PySem.W.codeIn K cd1 "inverse" = true) (k1 : PySem.W.keepIn K (.ref f1) = true)
    (a2 : PySem.W.nsIn K mainGlobals "add" = some (some (.ref f2))) (l2 : K.lookup f2 = some ⟨oc2, od2, .func (PySem.W.fnOf "add" "add" (defArgs sAdd) (defBody sAdd) (defScope sAdd) .none kV2 dc2 pm2 an2 cd2 ct2), sl2⟩) (c2 : PySem.W.codeIn K cd2 "add" = true) (k2 : PySem.W.keepIn K (.ref f2) = true)
    (a3 : PySem.W.nsIn K mainGlobals "scaled" = some (some (.ref f3))) (l3 : K.lookup f3 = some ⟨oc3, od3, .func (PySem.W.fnOf "scaled" "scaled" (defArgs sScl) (defBody sScl) (defScope sScl) .none kV3 dc3 pm3 an3 cd3 ct3), sl3⟩) (c3 : PySem.W.codeIn K cd3 "scaled" = true) (k3 : PySem.W.keepIn K (.ref f3) = true)
    (a4 : PySem.W.nsIn K mainGlobals "cleared" = some (some (.ref f4))) (l4 : K.lookup f4 = some ⟨oc4, od4, .func (PySem.W.fnOf "cleared" "cleared" (defArgs sClr) (defBody sClr) (defScope sClr) .none kV4 dc4 pm4 an4 cd4 ct4), sl4⟩) (c4 : PySem.W.codeIn K cd4 "cleared" = true) (k4 : PySem.W.keepIn K (.ref f4) = true)
    (a5 : PySem.W.nsIn K mainGlobals "reduced" = some (some (.ref f5))) (l5 : K.lookup f5 = some ⟨oc5, od5, .func (PySem.W.fnOf "reduced" "reduced" (defArgs sRed) (defBody sRed) (defScope sRed) .none kV5 dc5 pm5 an5 cd5 ct5), sl5⟩) (c5 : PySem.W.codeIn K cd5 "reduced" = true) (k5 : PySem.W.keepIn K (.ref f5) = true)
    (a6 : PySem.W.nsIn K mainGlobals "span" = some (some (.ref f6))) (l6 : K.lookup f6 = some ⟨oc6, od6, .func (PySem.W.fnOf "span" "span" (defArgs sSpan) (defBody sSpan) (defScope sSpan) .none kV6 dc6 pm6 an6 cd6 ct6), sl6⟩) (c6 : PySem.W.codeIn K cd6 "span" = true) (k6 : PySem.W.keepIn K (.ref f6) = true)
    (a7 : PySem.W.nsIn K mainGlobals "kernel" = some (some (.ref f7))) (l7 : K.lookup f7 = some ⟨oc7, od7, .func (PySem.W.fnOf "kernel" "kernel" (defArgs sKer) (defBody sKer) (defScope sKer) .none kV7 dc7 pm7 an7 cd7 ct7), sl7⟩) (c7 : PySem.W.codeIn K cd7 "kernel" = true) (k7 : PySem.W.keepIn K (.ref f7) = true)
    (a8 : PySem.W.nsIn K mainGlobals "sum_of" = some (some (.ref f8))) (l8 : K.lookup f8 = some ⟨oc8, od8, .func (PySem.W.fnOf "sum_of" "sum_of" (defArgs sSum) (defBody sSum) (defScope sSum) .none kV8 dc8 pm8 an8 cd8 ct8), sl8⟩) (c8 : PySem.W.codeIn K cd8 "sum_of" = true) (k8 : PySem.W.keepIn K (.ref f8) = true)
    (a9 : PySem.W.nsIn K mainGlobals "common_part" = some (some (.ref f9))) (l9 : K.lookup f9 = some ⟨oc9, od9, .func (PySem.W.fnOf "common_part" "common_part" (defArgs sCom) (defBody sCom) (defScope sCom) .none kV9 dc9 pm9 an9 cd9 ct9), sl9⟩) (c9 : PySem.W.codeIn K cd9 "common_part" = true) (k9 : PySem.W.keepIn K (.ref f9) = true)
    (a10 : PySem.W.nsIn K mainGlobals "members" = some (some (.ref f10))) (l10 : K.lookup f10 = some ⟨oc10, od10, .func (PySem.W.fnOf "members" "members" (defArgs sMem) (defBody sMem) (defScope sMem) .none kV10 dc10 pm10 an10 cd10 ct10), sl10⟩) (c10 : PySem.W.codeIn K cd10 "members" = true) (k10 : PySem.W.keepIn K (.ref f10) = true)
    (a11 : PySem.W.nsIn K mainGlobals "_law_state" = some (some (.ref f11))) (l11 : K.lookup f11 = some ⟨oc11, od11, .func (PySem.W.fnOf "_law_state" "_law_state" (defArgs sSt) (defBody sSt) (defScope sSt) .none kV11 dc11 pm11 an11 cd11 ct11), sl11⟩) (c11 : PySem.W.codeIn K cd11 "_law_state" = true) (k11 : PySem.W.keepIn K (.ref f11) = true)
    (a12 : PySem.W.nsIn K mainGlobals "_law_take" = some (some (.ref f12))) (l12 : K.lookup f12 = some ⟨oc12, od12, .func (PySem.W.fnOf "_law_take" "_law_take" (defArgs sTake) (defBody sTake) (defScope sTake) .none kV12 dc12 pm12 an12 cd12 ct12), sl12⟩) (c12 : PySem.W.codeIn K cd12 "_law_take" = true) (k12 : PySem.W.keepIn K (.ref f12) = true)
    (a13 : PySem.W.nsIn K mainGlobals "_law_sum" = some (some (.ref f13))) (l13 : K.lookup f13 = some ⟨oc13, od13, .func (PySem.W.fnOf "_law_sum" "_law_sum" (defArgs sLSum) (defBody sLSum) (defScope sLSum) .none kV13 dc13 pm13 an13 cd13 ct13), sl13⟩) (c13 : PySem.W.codeIn K cd13 "_law_sum" = true) (k13 : PySem.W.keepIn K (.ref f13) = true)
    (a14 : PySem.W.nsIn K mainGlobals "_law_scaled" = some (some (.ref f14))) (l14 : K.lookup f14 = some ⟨oc14, od14, .func (PySem.W.fnOf "_law_scaled" "_law_scaled" (defArgs sLScl) (defBody sLScl) (defScope sLScl) .none kV14 dc14 pm14 an14 cd14 ct14), sl14⟩) (c14 : PySem.W.codeIn K cd14 "_law_scaled" = true) (k14 : PySem.W.keepIn K (.ref f14) = true)
    (a15 : PySem.W.nsIn K mainGlobals "_law_zero" = some (some (.ref f15))) (l15 : K.lookup f15 = some ⟨oc15, od15, .func (PySem.W.fnOf "_law_zero" "_law_zero" (defArgs sZero) (defBody sZero) (defScope sZero) .none kV15 dc15 pm15 an15 cd15 ct15), sl15⟩) (c15 : PySem.W.codeIn K cd15 "_law_zero" = true) (k15 : PySem.W.keepIn K (.ref f15) = true)
    (a16 : PySem.W.nsIn K mainGlobals "_law_element" = some (some (.ref f16))) (l16 : K.lookup f16 = some ⟨oc16, od16, .func (PySem.W.fnOf "_law_element" "_law_element" (defArgs sElem) (defBody sElem) (defScope sElem) .none kV16 dc16 pm16 an16 cd16 ct16), sl16⟩) (c16 : PySem.W.codeIn K cd16 "_law_element" = true) (k16 : PySem.W.keepIn K (.ref f16) = true)
    (a17 : PySem.W.nsIn K mainGlobals "_law_span" = some (some (.ref f17))) (l17 : K.lookup f17 = some ⟨oc17, od17, .func (PySem.W.fnOf "_law_span" "_law_span" (defArgs sLSp) (defBody sLSp) (defScope sLSp) .none kV17 dc17 pm17 an17 cd17 ct17), sl17⟩) (c17 : PySem.W.codeIn K cd17 "_law_span" = true) (k17 : PySem.W.keepIn K (.ref f17) = true)
    (a18 : PySem.W.nsIn K mainGlobals "_law_in_form" = some (some (.ref f18))) (l18 : K.lookup f18 = some ⟨oc18, od18, .func (PySem.W.fnOf "_law_in_form" "_law_in_form" (defArgs sForm) (defBody sForm) (defScope sForm) .none kV18 dc18 pm18 an18 cd18 ct18), sl18⟩) (c18 : PySem.W.codeIn K cd18 "_law_in_form" = true) (k18 : PySem.W.keepIn K (.ref f18) = true)
    (a19 : PySem.W.nsIn K mainGlobals "_law_shows" = some (some (.ref f19))) (l19 : K.lookup f19 = some ⟨oc19, od19, .func (PySem.W.fnOf "_law_shows" "_law_shows" (defArgs sShow) (defBody sShow) (defScope sShow) .none kV19 dc19 pm19 an19 cd19 ct19), sl19⟩) (c19 : PySem.W.codeIn K cd19 "_law_shows" = true) (k19 : PySem.W.keepIn K (.ref f19) = true)
    (a20 : PySem.W.nsIn K mainGlobals "_law_prime" = some (some (.ref f20))) (l20 : K.lookup f20 = some ⟨oc20, od20, .func (PySem.W.fnOf "_law_prime" "_law_prime" (defArgs sPrime) (defBody sPrime) (defScope sPrime) .none kV20 dc20 pm20 an20 cd20 ct20), sl20⟩) (c20 : PySem.W.codeIn K cd20 "_law_prime" = true) (k20 : PySem.W.keepIn K (.ref f20) = true)
    (a21 : PySem.W.nsIn K mainGlobals "_law_rows" = some (some (.ref f21))) (l21 : K.lookup f21 = some ⟨oc21, od21, .func (PySem.W.fnOf "_law_rows" "_law_rows" (defArgs sRows) (defBody sRows) (defScope sRows) .none kV21 dc21 pm21 an21 cd21 ct21), sl21⟩) (c21 : PySem.W.codeIn K cd21 "_law_rows" = true) (k21 : PySem.W.keepIn K (.ref f21) = true)
    (a22 : PySem.W.nsIn K mainGlobals "law" = some (some (.ref f22))) (l22 : K.lookup f22 = some ⟨oc22, od22, .func (PySem.W.fnOf "law" "law" (defArgs sLaw) (defBody sLaw) (defScope sLaw) .none kV22 dc22 pm22 an22 cd22 ct22), sl22⟩) (c22 : PySem.W.codeIn K cd22 "law" = true) (k22 : PySem.W.keepIn K (.ref f22) = true)
    (z1 : PySem.W.nsIn K mainGlobals "zip" = some none)
    (z2 : PySem.W.nsIn K mainGlobals "tuple" = some none)
    (z3 : PySem.W.nsIn K mainGlobals "range" = some none)
    (z4 : PySem.W.nsIn K mainGlobals "len" = some none)
    (z5 : PySem.W.nsIn K mainGlobals "int" = some none)
    (z6 : PySem.W.nsIn K mainGlobals "list" = some none)
    (z7 : PySem.W.nsIn K mainGlobals "sorted" = some none)
    (z8 : PySem.W.nsIn K mainGlobals "isinstance" = some none)
    (z9 : PySem.W.nsIn K mainGlobals "abs" = some none) :
    ∃ fd : FuncData, (∀ (s : Shared) (v : Value), BindsTo s fd ⟨[v], []⟩ [("_law_script", v)]) ∧ ∀ base : Heap, K.In base → base.Ns mainGlobals mg → FnOk l.prog w K mg base CX0 6 fa fd ["_law_script"] (spLaw K) := by
  have e := hfa.symm.trans (PySem.W.mg_of X G a22)
  cases e
  have F1 := fun_mk (st := sInv) l1 c1 k1
  have b1 := F1.binds (ps := ["a", "p"]) fun _ _ _ _ _ _ us hl => match us, hl with | [_, _], _ => rfl
  have g1 := PySem.W.mg_of X G a1
  have F2 := fun_mk (st := sAdd) l2 c2 k2
  have b2 := F2.binds (ps := ["v", "w", "p"]) fun _ _ _ _ _ _ us hl => match us, hl with | [_, _, _], _ => rfl
  have g2 := PySem.W.mg_of X G a2
  have F3 := fun_mk (st := sScl) l3 c3 k3
  have b3 := F3.binds (ps := ["v", "a", "p"]) fun _ _ _ _ _ _ us hl => match us, hl with | [_, _, _], _ => rfl
  have g3 := PySem.W.mg_of X G a3
  have F4 := fun_mk (st := sClr) l4 c4 k4
  have b4 := F4.binds (ps := ["row", "head", "at", "p"]) fun _ _ _ _ _ _ us hl => match us, hl with | [_, _, _, _], _ => rfl
  have g4 := PySem.W.mg_of X G a4
  have F5 := fun_mk (st := sRed) l5 c5 k5
  have b5 := F5.binds (ps := ["rows", "width", "p"]) fun _ _ _ _ _ _ us hl => match us, hl with | [_, _, _], _ => rfl
  have g5 := PySem.W.mg_of X G a5
  have F6 := fun_mk (st := sSpan) l6 c6 k6
  have b6 := F6.binds (ps := ["rows", "width", "p"]) fun _ _ _ _ _ _ us hl => match us, hl with | [_, _, _], _ => rfl
  have g6 := PySem.W.mg_of X G a6
  have F7 := fun_mk (st := sKer) l7 c7 k7
  have b7 := F7.binds (ps := ["rows", "width", "p"]) fun _ _ _ _ _ _ us hl => match us, hl with | [_, _, _], _ => rfl
  have g7 := PySem.W.mg_of X G a7
  have F8 := fun_mk (st := sSum) l8 c8 k8
  have b8 := F8.binds (ps := ["a", "b", "width", "p"]) fun _ _ _ _ _ _ us hl => match us, hl with | [_, _, _, _], _ => rfl
  have g8 := PySem.W.mg_of X G a8
  have F9 := fun_mk (st := sCom) l9 c9 k9
  have b9 := F9.binds (ps := ["a", "b", "width", "p"]) fun _ _ _ _ _ _ us hl => match us, hl with | [_, _, _, _], _ => rfl
  have g9 := PySem.W.mg_of X G a9
  have F10 := fun_mk (st := sMem) l10 c10 k10
  have b10 := F10.binds (ps := ["space", "width", "p"]) fun _ _ _ _ _ _ us hl => match us, hl with | [_, _, _], _ => rfl
  have g10 := PySem.W.mg_of X G a10
  have F11 := fun_mk (st := sSt) l11 c11 k11
  have b11 := F11.binds (ps := ["_law_script"]) fun _ _ _ _ _ _ us hl => match us, hl with | [_], _ => rfl
  have g11 := PySem.W.mg_of X G a11
  have F12 := fun_mk (st := sTake) l12 c12 k12
  have b12 := F12.binds (ps := ["_law_state_here", "_law_m"]) fun _ _ _ _ _ _ us hl => match us, hl with | [_, _], _ => rfl
  have g12 := PySem.W.mg_of X G a12
  have F13 := fun_mk (st := sLSum) l13 c13 k13
  have b13 := F13.binds (ps := ["_law_v", "_law_w", "_law_p"]) fun _ _ _ _ _ _ us hl => match us, hl with | [_, _, _], _ => rfl
  have g13 := PySem.W.mg_of X G a13
  have F14 := fun_mk (st := sLScl) l14 c14 k14
  have b14 := F14.binds (ps := ["_law_v", "_law_a", "_law_p"]) fun _ _ _ _ _ _ us hl => match us, hl with | [_, _, _], _ => rfl
  have g14 := PySem.W.mg_of X G a14
  have F15 := fun_mk (st := sZero) l15 c15 k15
  have b15 := F15.binds (ps := ["_law_n"]) fun _ _ _ _ _ _ us hl => match us, hl with | [_], _ => rfl
  have g15 := PySem.W.mg_of X G a15
  have F16 := fun_mk (st := sElem) l16 c16 k16
  have b16 := F16.binds (ps := ["_law_state_here", "_law_p", "_law_n"]) fun _ _ _ _ _ _ us hl => match us, hl with | [_, _, _], _ => rfl
  have g16 := PySem.W.mg_of X G a16
  have F17 := fun_mk (st := sLSp) l17 c17 k17
  have b17 := F17.binds (ps := ["_law_rows_here", "_law_n", "_law_p"]) fun _ _ _ _ _ _ us hl => match us, hl with | [_, _, _], _ => rfl
  have g17 := PySem.W.mg_of X G a17
  have F18 := fun_mk (st := sForm) l18 c18 k18
  have b18 := F18.binds (ps := ["_law_told", "_law_n"]) fun _ _ _ _ _ _ us hl => match us, hl with | [_, _], _ => rfl
  have g18 := PySem.W.mg_of X G a18
  have F19 := fun_mk (st := sShow) l19 c19 k19
  have b19 := F19.binds (ps := ["_law_told", "_law_words", "_law_n", "_law_p"]) fun _ _ _ _ _ _ us hl => match us, hl with | [_, _, _, _], _ => rfl
  have g19 := PySem.W.mg_of X G a19
  have F20 := fun_mk (st := sPrime) l20 c20 k20
  have b20 := F20.binds (ps := ["_law_state_here"]) fun _ _ _ _ _ _ us hl => match us, hl with | [_], _ => rfl
  have g20 := PySem.W.mg_of X G a20
  have F21 := fun_mk (st := sRows) l21 c21 k21
  have b21 := F21.binds (ps := ["_law_state_here", "_law_p", "_law_n", "_law_most"]) fun _ _ _ _ _ _ us hl => match us, hl with | [_, _, _, _], _ => rfl
  have g21 := PySem.W.mg_of X G a21
  have F22 := fun_mk (st := sLaw) l22 c22 k22
  have N : NoG mg := ⟨PySem.W.mg_none_of X G z1, PySem.W.mg_none_of X G z2, PySem.W.mg_none_of X G z3, PySem.W.mg_none_of X G z4, PySem.W.mg_none_of X G z5, PySem.W.mg_none_of X G z6, PySem.W.mg_none_of X G z7, PySem.W.mg_none_of X G z8, PySem.W.mg_none_of X G z9⟩
  refine ⟨PySem.W.fnOf "law" "law" (defArgs sLaw) (defBody sLaw) (defScope sLaw) .none kV22 dc22 pm22 an22 cd22 ct22, fun s v => .of_eq rfl, fun base _ _ => ?_⟩
  have R := ok_red (P := l.prog) (w := w) (base := base) (k := 0) F5 N F1 b1 g1 F3 b3 g3 F4 b4 g4
  have S := ok_span F6 F5 b5 g5 R
  have W := ok_sum F8 F6 b6 g6 S
  have Q := ok_ker F7 N F5 b5 g5 R F6 b6 g6 S
  have C := ok_com F9 F7 b7 g7 Q
  have M := gf_mem (P := l.prog) (w := w) (base := base) F10 N F2 b2 g2 F3 b3 g3
  have St := ok_st (P := l.prog) (w := w) (base := base) (k := 0) F11 N
  have T := ok_take (P := l.prog) (w := w) (base := base) (k := 0) F12 N
  have Pm := ok_prime F20 F12 b12 g12 T
  have El := ok_elem F16 N F12 b12 g12 T
  have Rw := ok_rows F21 N F12 b12 g12 T F16 b16 g16 El
  have Sp := ok_lsp (P := l.prog) (w := w) (base := base) F17 N F15 b15 g15 F13 b13 g13 F14 b14 g14
  have Fm := ok_form (P := l.prog) (w := w) (base := base) (k := 1) F18 N
  have Sh := ok_show F19 F18 b18 g18 Fm F17 b17 g17 Sp
  exact ok_law F22 ⟨N, ⟨f17, _, F17, b17, g17, Sp⟩, ⟨f6, _, F6, b6, g6, S⟩, ⟨f8, _, F8, b8, g8, W⟩, ⟨f9, _, F9, b9, g9, C⟩, ⟨f19, _, F19, b19, g19, Sh⟩, ⟨f10, _, F10, b10, g10, M⟩, ⟨f11, _, F11, b11, g11, St⟩, ⟨f12, _, F12, b12, g12, T⟩, ⟨f20, _, F20, b20, g20, Pm⟩, ⟨f21, _, F21, b21, g21, Rw⟩⟩
end K04W
open PySem PySem.W PyProof.Rows
set_option maxHeartbeats 0 in
theorem PySem.Challenge.cw_algebraparts_k04_whole_spaces_holds : PySem.Challenge.rw_algebraparts_k04_whole_spaces.Holds := by
  w_on; o_law; k_head; (case hw => w_witness2)
  k_fill
  refine L2.walk_of (l := PySem.Challenge.rw_algebraparts_k04_whole_spaces) (n := 63) (k := 6) (x := "_law_script") (CX := fun _ => L2.CX0) (sp := fun w => K04W.spLaw _) rfl (by decide) rfl ⟨rfl, by decide, by decide⟩ (fun w h Y => PySem.W.kIn_of Y) ?F (fun _ _ a ns hl _ hS => ⟨a, ns, rfl, hS, fun _ => rfl⟩) (fun _ _ _ _ _ h => h)
  case F =>
    intro w mg fa h KX G hmg
    refine' K04W.all_mk KX G hmg ?a1 ?l1 ?c1 ?k1 ?a2 ?l2 ?c2 ?k2 ?a3 ?l3 ?c3 ?k3 ?a4 ?l4 ?c4 ?k4 ?a5 ?l5 ?c5 ?k5 ?a6 ?l6 ?c6 ?k6 ?a7 ?l7 ?c7 ?k7 ?a8 ?l8 ?c8 ?k8 ?a9 ?l9 ?c9 ?k9 ?a10 ?l10 ?c10 ?k10 ?a11 ?l11 ?c11 ?k11 ?a12 ?l12 ?c12 ?k12 ?a13 ?l13 ?c13 ?k13 ?a14 ?l14 ?c14 ?k14 ?a15 ?l15 ?c15 ?k15 ?a16 ?l16 ?c16 ?k16 ?a17 ?l17 ?c17 ?k17 ?a18 ?l18 ?c18 ?k18 ?a19 ?l19 ?c19 ?k19 ?a20 ?l20 ?c20 ?k20 ?a21 ?l21 ?c21 ?k21 ?a22 ?l22 ?c22 ?k22 ?z1 ?z2 ?z3 ?z4 ?z5 ?z6 ?z7 ?z8 ?z9
    (case a1 => k_is); (case l1 => k_is); (case c1 => k_is); (case k1 => k_is)
    (case a2 => k_is); (case l2 => k_is); (case c2 => k_is); (case k2 => k_is)
    (case a3 => k_is); (case l3 => k_is); (case c3 => k_is); (case k3 => k_is)
    (case a4 => k_is); (case l4 => k_is); (case c4 => k_is); (case k4 => k_is)
    (case a5 => k_is); (case l5 => k_is); (case c5 => k_is); (case k5 => k_is)
    (case a6 => k_is); (case l6 => k_is); (case c6 => k_is); (case k6 => k_is)
    (case a7 => k_is); (case l7 => k_is); (case c7 => k_is); (case k7 => k_is)
    (case a8 => k_is); (case l8 => k_is); (case c8 => k_is); (case k8 => k_is)
    (case a9 => k_is); (case l9 => k_is); (case c9 => k_is); (case k9 => k_is)
    (case a10 => k_is); (case l10 => k_is); (case c10 => k_is); (case k10 => k_is)
    (case a11 => k_is); (case l11 => k_is); (case c11 => k_is); (case k11 => k_is)
    (case a12 => k_is); (case l12 => k_is); (case c12 => k_is); (case k12 => k_is)
    (case a13 => k_is); (case l13 => k_is); (case c13 => k_is); (case k13 => k_is)
    (case a14 => k_is); (case l14 => k_is); (case c14 => k_is); (case k14 => k_is)
    (case a15 => k_is); (case l15 => k_is); (case c15 => k_is); (case k15 => k_is)
    (case a16 => k_is); (case l16 => k_is); (case c16 => k_is); (case k16 => k_is)
    (case a17 => k_is); (case l17 => k_is); (case c17 => k_is); (case k17 => k_is)
    (case a18 => k_is); (case l18 => k_is); (case c18 => k_is); (case k18 => k_is)
    (case a19 => k_is); (case l19 => k_is); (case c19 => k_is); (case k19 => k_is)
    (case a20 => k_is); (case l20 => k_is); (case c20 => k_is); (case k20 => k_is)
    (case a21 => k_is); (case l21 => k_is); (case c21 => k_is); (case k21 => k_is)
    (case a22 => k_is); (case l22 => k_is); (case c22 => k_is); (case k22 => k_is)
    (case z1 => k_is); (case z2 => k_is); (case z3 => k_is); (case z4 => k_is); (case z5 => k_is); (case z6 => k_is); (case z7 => k_is); (case z8 => k_is); (case z9 => k_is)
end
