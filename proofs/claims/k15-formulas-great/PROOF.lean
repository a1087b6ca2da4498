import PyProof.Rows.All
import Wide.All
import OpenK.AllK
import Wide.FinOn
import HandS.ForMost
import HandS.ForExc
import HandS.ExcCtx
import HandS.HotCalls
import HandS.ExcInitHot
import HandS.ExcOwn
import HandS.TryOnly
import HandS.TryMany
import HandS.WordsExc
import HandS.Comp
import HandS.Iter
import HandS.Wide
import HandS.TupAny
import HandS.TupMul
import HandS.IsInst
import HandS.Deep
import HandS.Text
import HandS.StrMore
import HandS.SortInts
import KE.OsSort
import HandS.ExcInit
import HandS.ExcField
import HandS.Hot
import HandS.Strs
import HandS.Replace
import HandS.FStrTup
import HandS.Head2
import HandS.HeadEnd
import HandS.HeadHook1
import HandS.TupSets
import HandS.CallLocal
import PySem.Challenge.RW_nodisguise_k15_formulas_great
set_option Elab.async false
set_option linter.all false
set_option maxRecDepth 100000
/-! Core of my own layer over HandS: pure data, ownership of mutable lists, the state's invariant. -/
namespace Q
open PySem PySem.Spec PyProof.Rows L2

/-! ### data -/
inductive D where
  | non | bl (b : Bool) | int (i : Int) | str (s : Str)
  | tup (ds : List D) | lst (ds : List D) | fz (ds : List D)
  | glo (x : Str)
  deriving Inhabited
/-- what a slot holds: data that nobody changes, or a list that this slot alone owns -/
inductive T where
  | leaf (d : D)
  | node (ts : List T)
  deriving Inhabited
mutual
def T.toD : T → D
  | .leaf d => d
  | .node ts => .lst (T.toDs ts)
def T.toDs : List T → List D
  | [] => []
  | t :: ts => t.toD :: T.toDs ts
end
theorem T.toDs_map : ∀ ts : List T, T.toDs ts = ts.map T.toD
  | [] => rfl
  | t :: ts => by rw [T.toDs, T.toDs_map ts]; rfl

structure Gx where
  K : PySem.W.Frag
  mg : Str → Option Value

mutual
def Rep (G : Gx) (H : Hp) : D → V → Prop
  | .non, v => v = .non
  | .bl b, v => v = .bl b
  | .int i, v => v = .int i
  | .str s, v => v = .str s
  | .tup ds, v => ∃ a xs, v = .ref a ∧ SqT G.K H a xs ∧ Reps G H ds xs
  | .lst ds, v => ∃ a xs, v = .ref a ∧ H a = some (.lst xs) ∧ Reps G H ds xs
  | .fz ds, v => ∃ a xs, v = .ref a ∧ SqL G.K H a xs ∧ Reps G H ds xs
  | .glo x, v => ∃ u, G.mg x = some u ∧ RelV v u
def Reps (G : Gx) (H : Hp) : List D → List V → Prop
  | [], xs => xs = []
  | d :: ds, xs => ∃ x r, xs = x :: r ∧ Rep G H d x ∧ Reps G H ds r
end

theorem SqT.same {K : PySem.W.Frag} {H H' : Hp} {a : Addr} {xs : List V} (e : Same H H') (h : SqT K H a xs) : SqT K H' a xs := by
  rcases h with (h | ⟨o, h⟩) | h
  · exact .inl (.inl (e _ _ h))
  · exact .inl (.inr ⟨o, e _ _ h⟩)
  · exact .inr h
mutual
theorem rep_mono {G : Gx} {H H' : Hp} (s : Same H H') : ∀ (d : D) {v : V}, Rep G H d v → Rep G H' d v
  | .non, v, h => h
  | .bl _, v, h => h
  | .int _, v, h => h
  | .str _, v, h => h
  | .tup ds, v, ⟨a, xs, e, q, r⟩ => ⟨a, xs, e, SqT.same s q, reps_mono s ds r⟩
  | .lst ds, v, ⟨a, xs, e, q, r⟩ => ⟨a, xs, e, s _ _ q, reps_mono s ds r⟩
  | .fz ds, v, ⟨a, xs, e, q, r⟩ => ⟨a, xs, e, s.seq q, reps_mono s ds r⟩
  | .glo x, v, h => h
theorem reps_mono {G : Gx} {H H' : Hp} (s : Same H H') : ∀ (ds : List D) {xs : List V}, Reps G H ds xs → Reps G H' ds xs
  | [], xs, h => h
  | d :: ds, xs, ⟨x, r, e, h1, h2⟩ => ⟨x, r, e, rep_mono s d h1, reps_mono s ds h2⟩
end
theorem Reps.length {G : Gx} {H : Hp} : ∀ {ds : List D} {xs : List V}, Reps G H ds xs → xs.length = ds.length
  | [], xs, h => by rw [show xs = [] from h]; rfl
  | d :: ds, xs, ⟨x, r, e, _, h⟩ => by rw [e, List.length_cons, List.length_cons, Reps.length h]
theorem Reps.get {G : Gx} {H : Hp} : ∀ {ds : List D} {xs : List V} {i : Nat} {d : D}, Reps G H ds xs → ds[i]? = some d → ∃ x, xs[i]? = some x ∧ Rep G H d x
  | [], xs, i, d, h, e => by simp at e
  | d :: ds, xs, 0, d', ⟨x, r, e, h1, _⟩, q => by
    simp at q; subst q; subst e; exact ⟨x, rfl, h1⟩
  | d :: ds, xs, i + 1, d', ⟨x, r, e, _, h⟩, q => by
    subst e; obtain ⟨y, e1, e2⟩ := Reps.get (i := i) h (by simpa using q); exact ⟨y, by simpa using e1, e2⟩
theorem Reps.getV {G : Gx} {H : Hp} : ∀ {ds : List D} {xs : List V} {i : Nat} {x : V}, Reps G H ds xs → xs[i]? = some x → ∃ d, ds[i]? = some d ∧ Rep G H d x
  | [], xs, i, x, h, e => by rw [show xs = [] from h] at e; simp at e
  | d :: ds, xs, 0, x, ⟨y, r, e, h1, _⟩, q => by
    subst e; simp at q; subst q; exact ⟨d, rfl, h1⟩
  | d :: ds, xs, i + 1, x, ⟨y, r, e, _, h⟩, q => by
    subst e; obtain ⟨z, e1, e2⟩ := Reps.getV (i := i) h (by simpa using q); exact ⟨z, by simpa using e1, e2⟩
theorem Reps.append {G : Gx} {H : Hp} : ∀ {ds es : List D} {xs ys : List V}, Reps G H ds xs → Reps G H es ys → Reps G H (ds ++ es) (xs ++ ys)
  | [], es, xs, ys, h, q => by rw [show xs = [] from h]; exact q
  | d :: ds, es, xs, ys, ⟨x, r, e, h1, h⟩, q => by subst e; exact ⟨x, r ++ ys, rfl, h1, Reps.append h q⟩
theorem Reps.take {G : Gx} {H : Hp} : ∀ {ds : List D} {xs : List V} (n : Nat), Reps G H ds xs → Reps G H (ds.take n) (xs.take n)
  | ds, xs, 0, h => rfl
  | [], xs, n + 1, h => by rw [show xs = [] from h]; rfl
  | d :: ds, xs, n + 1, ⟨x, r, e, h1, h⟩ => by subst e; exact ⟨x, r.take n, rfl, h1, Reps.take n h⟩
theorem Reps.drop {G : Gx} {H : Hp} : ∀ {ds : List D} {xs : List V} (n : Nat), Reps G H ds xs → Reps G H (ds.drop n) (xs.drop n)
  | ds, xs, 0, h => h
  | [], xs, n + 1, h => by rw [show xs = [] from h]; rfl
  | d :: ds, xs, n + 1, ⟨x, r, e, h1, h⟩ => by subst e; exact Reps.drop n h
theorem reps_iff {G : Gx} {H : Hp} {ds : List D} {xs : List V} (hl : xs.length = ds.length) (h : ∀ (i : Nat) (d : D) (x : V), ds[i]? = some d → xs[i]? = some x → Rep G H d x) : Reps G H ds xs := by
  induction ds generalizing xs with
  | nil => cases xs with
    | nil => rfl
    | cons _ _ => simp at hl
  | cons d ds ih =>
    cases xs with
    | nil => simp at hl
    | cons x r =>
      refine ⟨x, r, rfl, h 0 d x rfl rfl, ih (by simpa using hl) fun i d' x' e1 e2 => h (i + 1) d' x' (by simpa using e1) (by simpa using e2)⟩
theorem Reps.ints {G : Gx} {H : Hp} : ∀ {ns : List Int} {xs : List V}, Reps G H (ns.map D.int) xs ↔ xs = ns.map V.int
  | [], xs => by simp [Reps]
  | n :: ns, xs => by
    constructor
    · rintro ⟨x, r, rfl, h1, h2⟩
      rw [show x = V.int n from h1, Reps.ints.mp h2]; rfl
    · rintro rfl
      exact ⟨_, _, rfl, rfl, Reps.ints.mpr rfl⟩

/-! ### ownership -/
def mask (H : Hp) (F : List Addr) : Hp := fun b => if b ∈ F then none else H b
theorem mask_in {H : Hp} {F : List Addr} {b : Addr} (h : b ∈ F) : mask H F b = none := if_pos h
theorem mask_out {H : Hp} {F : List Addr} {b : Addr} (h : b ∉ F) : mask H F b = H b := if_neg h
theorem mask_some {H : Hp} {F : List Addr} {b : Addr} {o : HO} (h : mask H F b = some o) : b ∉ F ∧ H b = some o := by
  by_cases q : b ∈ F
  · rw [mask_in q] at h; cases h
  · rw [mask_out q] at h; exact ⟨q, h⟩
theorem mask_same (H : Hp) (F : List Addr) : Same (mask H F) H := fun b o h => (mask_some h).2
theorem mask_mono {H H' : Hp} {F F' : List Addr} (h : ∀ b o, H b = some o → b ∉ F → H' b = some o ∧ b ∉ F') : Same (mask H F) (mask H' F') := fun b o e => by
  obtain ⟨n, e⟩ := mask_some e
  obtain ⟨e', n'⟩ := h b o e n
  rw [mask_out n']; exact e'

mutual
def RepT (G : Gx) (H Hm : Hp) : T → V → List Addr → Prop
  | .leaf d, v, F => F = [] ∧ Rep G Hm d v
  | .node ts, v, F => ∃ a xs F', v = .ref a ∧ H a = some (.lst xs) ∧ F = a :: F' ∧ RepTs G H Hm ts xs F'
def RepTs (G : Gx) (H Hm : Hp) : List T → List V → List Addr → Prop
  | [], xs, F => xs = [] ∧ F = []
  | t :: ts, xs, F => ∃ x r F1 F2, xs = x :: r ∧ F = F1 ++ F2 ∧ RepT G H Hm t x F1 ∧ RepTs G H Hm ts r F2
end
mutual
theorem repT_mono {G : Gx} {H Hm H' Hm' : Hp} (s : Same Hm Hm') : ∀ (t : T) {v : V} {F : List Addr}, RepT G H Hm t v F → (∀ b ∈ F, H' b = H b) → RepT G H' Hm' t v F
  | .leaf d, v, F, ⟨e, h⟩, _ => ⟨e, rep_mono s d h⟩
  | .node ts, v, F, ⟨a, xs, F', e, h, eF, r⟩, k => ⟨a, xs, F', e, by rw [k a (by rw [eF]; exact List.mem_cons_self)]; exact h, eF,
      repTs_mono s ts r fun b hb => k b (by rw [eF]; exact List.mem_cons_of_mem _ hb)⟩
theorem repTs_mono {G : Gx} {H Hm H' Hm' : Hp} (s : Same Hm Hm') : ∀ (ts : List T) {xs : List V} {F : List Addr}, RepTs G H Hm ts xs F → (∀ b ∈ F, H' b = H b) → RepTs G H' Hm' ts xs F
  | [], xs, F, h, _ => h
  | t :: ts, xs, F, ⟨x, r, F1, F2, e, eF, h1, h2⟩, k => ⟨x, r, F1, F2, e, eF, repT_mono s t h1 fun b hb => k b (by rw [eF]; exact List.mem_append_left _ hb),
      repTs_mono s ts h2 fun b hb => k b (by rw [eF]; exact List.mem_append_right _ hb)⟩
end
mutual
theorem repT_toD {G : Gx} {H Hm Hm' : Hp} (s : Same Hm Hm') : ∀ (t : T) {v : V} {F : List Addr}, RepT G H Hm t v F → (∀ b ∈ F, Hm' b = H b) → Rep G Hm' t.toD v
  | .leaf d, v, F, ⟨e, h⟩, _ => rep_mono s d h
  | .node ts, v, F, ⟨a, xs, F', e, h, eF, r⟩, k => ⟨a, xs, e, (by rw [k a (by rw [eF]; exact List.mem_cons_self)]; exact h),
      repTs_toD s ts r fun b hb => k b (by rw [eF]; exact List.mem_cons_of_mem _ hb)⟩
theorem repTs_toD {G : Gx} {H Hm Hm' : Hp} (s : Same Hm Hm') : ∀ (ts : List T) {xs : List V} {F : List Addr}, RepTs G H Hm ts xs F → (∀ b ∈ F, Hm' b = H b) → Reps G Hm' (T.toDs ts) xs
  | [], xs, F, h, _ => h.1
  | t :: ts, xs, F, ⟨x, r, F1, F2, e, eF, h1, h2⟩, k => ⟨x, r, e, repT_toD s t h1 fun b hb => k b (by rw [eF]; exact List.mem_append_left _ hb),
      repTs_toD s ts h2 fun b hb => k b (by rw [eF]; exact List.mem_append_right _ hb)⟩
end
/-- the footprint is held by the heap -/
theorem repT_there {G : Gx} {H Hm : Hp} : ∀ (t : T) {v : V} {F : List Addr}, RepT G H Hm t v F → ∀ b ∈ F, ∃ xs, H b = some (.lst xs) := by
  have both : (∀ (t : T) (v : V) (F : List Addr), RepT G H Hm t v F → ∀ b ∈ F, ∃ xs, H b = some (.lst xs)) := by
    intro t
    refine T.rec (motive_1 := fun t => ∀ (v : V) (F : List Addr), RepT G H Hm t v F → ∀ b ∈ F, ∃ xs, H b = some (.lst xs))
      (motive_2 := fun ts => ∀ (xs : List V) (F : List Addr), RepTs G H Hm ts xs F → ∀ b ∈ F, ∃ xs, H b = some (.lst xs)) ?_ ?_ ?_ ?_ t
    · rintro d v F ⟨e, _⟩ b hb
      rw [e] at hb; cases hb
    · rintro ts ih v F ⟨a, xs, F', e, h, eF, r⟩ b hb
      rw [eF] at hb
      rcases List.mem_cons.mp hb with z | z
      · exact ⟨xs, by rw [z]; exact h⟩
      · exact ih _ _ r b z
    · rintro xs F ⟨_, e⟩ b hb
      rw [e] at hb; cases hb
    · rintro t ts ih1 ih2 xs F ⟨x, r, F1, F2, e, eF, h1, h2⟩ b hb
      rw [eF] at hb
      rcases List.mem_append.mp hb with z | z
      · exact ih1 _ _ h1 b z
      · exact ih2 _ _ h2 b z
  exact fun t {v F} h => both t v F h

abbrev Item := V × T
def Its (G : Gx) (H Hm : Hp) : List Item → List Addr → Prop
  | [], F => F = []
  | p :: r, F => ∃ F1 F2, F = F1 ++ F2 ∧ RepT G H Hm p.2 p.1 F1 ∧ Its G H Hm r F2
theorem Its.mono {G : Gx} {H Hm H' Hm' : Hp} (s : Same Hm Hm') : ∀ {its : List Item} {F : List Addr}, Its G H Hm its F → (∀ b ∈ F, H' b = H b) → Its G H' Hm' its F
  | [], F, h, _ => h
  | p :: r, F, ⟨F1, F2, e, h1, h2⟩, k => ⟨F1, F2, e, repT_mono s _ h1 fun b hb => k b (by rw [e]; exact List.mem_append_left _ hb), Its.mono s h2 fun b hb => k b (by rw [e]; exact List.mem_append_right _ hb)⟩
theorem Its.there {G : Gx} {H Hm : Hp} : ∀ {its : List Item} {F : List Addr}, Its G H Hm its F → ∀ b ∈ F, ∃ xs, H b = some (.lst xs)
  | [], F, h, b, hb => by rw [show F = [] from h] at hb; cases hb
  | p :: r, F, ⟨F1, F2, e, h1, h2⟩, b, hb => by
    rw [e] at hb
    rcases List.mem_append.mp hb with z | z
    · exact repT_there _ h1 b z
    · exact Its.there h2 b z
theorem Its.append {G : Gx} {H Hm : Hp} : ∀ {its jts : List Item} {F : List Addr}, Its G H Hm (its ++ jts) F ↔ ∃ F1 F2, F = F1 ++ F2 ∧ Its G H Hm its F1 ∧ Its G H Hm jts F2
  | [], jts, F => ⟨fun h => ⟨[], F, rfl, rfl, h⟩, fun ⟨F1, F2, e, h1, h2⟩ => by rw [e, show F1 = [] from h1]; exact h2⟩
  | p :: r, jts, F => by
    constructor
    · rintro ⟨F1, F2, e, h1, h2⟩
      obtain ⟨F3, F4, e2, h3, h4⟩ := Its.append.mp h2
      exact ⟨F1 ++ F3, F4, by rw [e, e2, List.append_assoc], ⟨F1, F3, rfl, h1, h3⟩, h4⟩
    · rintro ⟨F1, F2, e, ⟨F3, F4, e2, h3, h4⟩, h2⟩
      exact ⟨F3, F4 ++ F2, by rw [e, e2, List.append_assoc], h3, Its.append.mpr ⟨F4, F2, rfl, h4, h2⟩⟩
theorem Its.perm {G : Gx} {H Hm : Hp} {its jts : List Item} (p : its.Perm jts) : ∀ {F : List Addr}, Its G H Hm its F → ∃ F', F.Perm F' ∧ Its G H Hm jts F' := by
  induction p with
  | nil => exact fun {F} h => ⟨F, .refl _, h⟩
  | cons x _ ih =>
    rintro F ⟨F1, F2, e, h1, h2⟩
    obtain ⟨F', q, h⟩ := ih h2
    exact ⟨F1 ++ F', by rw [e]; exact List.Perm.append_left _ q, F1, F', rfl, h1, h⟩
  | swap x y l =>
    rintro F ⟨F1, F2, e, h1, ⟨F3, F4, e2, h3, h4⟩⟩
    refine ⟨F3 ++ (F1 ++ F4), ?_, F3, F1 ++ F4, rfl, h3, F1, F4, rfl, h1, h4⟩
    rw [e, e2, ← List.append_assoc, ← List.append_assoc]
    exact List.Perm.append_right _ List.perm_append_comm
  | trans _ _ ih1 ih2 =>
    intro F h
    obtain ⟨F', q, h'⟩ := ih1 h
    obtain ⟨F'', q', h''⟩ := ih2 h'
    exact ⟨F'', q.trans q', h''⟩

/-- the def's frame: heap and lent footprint at the entry; what the callers own besides (never looked at); the lent slots with their values -/
structure Fr where
  H0 : Hp
  F0 : List Addr
  hid : List Addr
  lent : List (Nat × V)
abbrev Fr.msk (R : Fr) (H : Hp) (F : List Addr) : Hp := mask H (F ++ R.hid)
structure OwnF (G : Gx) (R : Fr) (H : Hp) (its : List Item) (F : List Addr) : Prop where
  nd : F.Nodup
  rep : Its G H (R.msk H F) its F
  new : ∀ b ∈ F, b ∈ R.F0 ∨ R.H0 b = none
  old : ∀ b o, R.H0 b = some o → b ∉ R.F0 → H b = some o
  dis : ∀ b ∈ F, b ∉ R.hid
  hid : ∀ b ∈ R.hid, ∃ o, H b = some o
def Own (G : Gx) (R : Fr) (H : Hp) (its : List Item) : Prop := ∃ F, OwnF G R H its F
theorem mask_perm {H : Hp} {F F' : List Addr} (p : F.Perm F') : mask H F = mask H F' := by
  funext b
  unfold mask
  by_cases h : b ∈ F
  · rw [if_pos h, if_pos (p.mem_iff.mp h)]
  · rw [if_neg h, if_neg (fun q => h (p.mem_iff.mpr q))]
/-- less is masked -/
theorem mask_sub {H : Hp} {F F' : List Addr} (h : ∀ b, b ∈ F' → b ∈ F) : Same (mask H F) (mask H F') := mask_mono fun b o e n => ⟨e, fun m => n (h b m)⟩
section
variable {G : Gx} {R : Fr} {H H' : Hp} {its jts : List Item} {F : List Addr}
theorem Own.perm (p : its.Perm jts) (h : Own G R H its) : Own G R H jts := by
  obtain ⟨F, h⟩ := h
  obtain ⟨F', q, r⟩ := Its.perm p h.rep
  exact ⟨F', q.nodup_iff.mp h.nd, by unfold Fr.msk; rw [← mask_perm (List.Perm.append_right _ q)]; exact r, fun b hb => h.new b (q.mem_iff.mpr hb), h.old, fun b hb => h.dis b (q.mem_iff.mpr hb), h.hid⟩
theorem mem_app2 {F1 F2 X : List Addr} : ∀ b, b ∈ F2 ++ X → b ∈ (F1 ++ F2) ++ X := fun b hb => by
  rcases List.mem_append.mp hb with z | z
  · exact List.mem_append_left _ (List.mem_append_right _ z)
  · exact List.mem_append_right _ z
theorem Own.drop {p : Item} (h : Own G R H (p :: its)) : Own G R H its := by
  obtain ⟨F, h⟩ := h
  obtain ⟨F1, F2, e, h1, h2⟩ := h.rep
  subst e
  exact ⟨F2, (List.nodup_append.mp h.nd).2.1, h2.mono (mask_sub mem_app2) fun _ _ => rfl, fun b hb => h.new b (List.mem_append_right _ hb), h.old, fun b hb => h.dis b (List.mem_append_right _ hb), h.hid⟩
theorem Own.dropAll {ps : List Item} (h : Own G R H (ps ++ its)) : Own G R H its := by
  induction ps with
  | nil => exact h
  | cons p r ih => exact ih h.drop
theorem Own.freeze {v : V} {t : T} (h : Own G R H ((v, t) :: its)) : Own G R H ((v, .leaf t.toD) :: its) := by
  obtain ⟨F, h⟩ := h
  obtain ⟨F1, F2, e, h1, h2⟩ := h.rep
  subst e
  have nd := List.nodup_append.mp h.nd
  have s : Same (R.msk H (F1 ++ F2)) (R.msk H F2) := mask_sub mem_app2
  refine ⟨F2, nd.2.1, ⟨[], F2, rfl, ⟨rfl, ?_⟩, h2.mono s fun _ _ => rfl⟩, fun b hb => h.new b (List.mem_append_right _ hb), h.old, fun b hb => h.dis b (List.mem_append_right _ hb), h.hid⟩
  exact repT_toD s t h1 fun b hb => mask_out fun m => (List.mem_append.mp m).elim (fun m => nd.2.2 b hb b m rfl) (h.dis b (List.mem_append_left _ hb))
/-- data that stands in the unowned part may be noted -/
theorem Own.note {v : V} {d : D} (h : Own G R H its) (q : ∀ F, OwnF G R H its F → Rep G (R.msk H F) d v) : Own G R H ((v, .leaf d) :: its) := by
  obtain ⟨F, h⟩ := h
  exact ⟨F, h.nd, ⟨[], F, rfl, ⟨rfl, q F h⟩, h.rep⟩, h.new, h.old, h.dis, h.hid⟩
theorem Own.scal {v : V} {d : D} (h : Own G R H its) (q : ∀ H, Rep G H d v) : Own G R H ((v, .leaf d) :: its) := h.note fun _ _ => q _
theorem Own.dup {v : V} {d : D} (h : Own G R H ((v, .leaf d) :: its)) : Own G R H ((v, .leaf d) :: (v, .leaf d) :: its) := h.note fun F hF => by
  obtain ⟨F1, F2, e, ⟨e1, h1⟩, _⟩ := hF.rep
  exact h1
/-- what a leaf item says, in the whole heap -/
theorem Own.rep {v : V} {d : D} (h : Own G R H ((v, .leaf d) :: its)) : Rep G H d v := by
  obtain ⟨F, h⟩ := h
  obtain ⟨F1, F2, e, ⟨e1, h1⟩, _⟩ := h.rep
  exact rep_mono (mask_same _ _) d h1
theorem Own.repT {v : V} {t : T} (h : Own G R H ((v, t) :: its)) : Rep G H t.toD v := h.freeze.rep
/-- a new object -/
theorem OwnF.grow {p : Addr} {o : HO} (h : OwnF G R H its F) (hp : H p = none) : OwnF G R (upd H p o) its F ∧ p ∉ F ++ R.hid ∧ R.msk (upd H p o) F = upd (R.msk H F) p o ∧ (p ∈ R.F0 ∨ R.H0 p = none) := by
  have np : p ∉ F ++ R.hid := fun m => by
    rcases List.mem_append.mp m with m | m
    · obtain ⟨xs, e⟩ := h.rep.there p m
      rw [hp] at e; cases e
    · obtain ⟨o, e⟩ := h.hid p m
      rw [hp] at e; cases e
  have em : R.msk (upd H p o) F = upd (R.msk H F) p o := by
    funext b
    by_cases hb : b = p
    · subst hb; rw [Fr.msk, mask_out np, upd_same, upd_same]
    · rw [upd_ne hb]
      by_cases m : b ∈ F ++ R.hid
      · rw [Fr.msk, Fr.msk, mask_in m, mask_in m]
      · rw [Fr.msk, Fr.msk, mask_out m, mask_out m, upd_ne hb]
  have hk : ∀ b ∈ F, upd H p o b = H b := fun b hb => upd_ne fun e => np (by rw [← e]; exact List.mem_append_left _ hb)
  refine ⟨⟨h.nd, h.rep.mono ?_ hk, h.new, fun b u e n => ?_, h.dis, fun b hb => ?_⟩, np, em, ?_⟩
  · rw [em]
    intro b u e
    rw [upd_ne (ne_of_none (mask_same _ _ b u e) hp)]; exact e
  · have q := h.old b u e n
    rw [upd_ne (ne_of_none q hp)]; exact q
  · obtain ⟨u, e⟩ := h.hid b hb
    exact ⟨u, by rw [upd_ne (ne_of_none e hp)]; exact e⟩
  · by_cases m : p ∈ R.F0
    · exact .inl m
    · cases e : R.H0 p with
      | none => exact .inr rfl
      | some u => have q := h.old p u e m; rw [hp] at q; cases q
theorem OwnF.head {v : V} {d : D} (h : OwnF G R H ((v, .leaf d) :: its) F) : Rep G (R.msk H F) d v := by
  obtain ⟨F1, F2, e, ⟨e1, h1⟩, _⟩ := h.rep
  exact h1
theorem OwnF.tail {v : V} {d : D} (h : OwnF G R H ((v, .leaf d) :: its) F) : OwnF G R H its F := by
  obtain ⟨nd, ⟨F1, F2, e, ⟨e1, h1⟩, h2⟩, hn, ho, h3, h4⟩ := h
  subst e1
  rw [List.nil_append] at e
  subst e
  exact ⟨nd, h2, hn, ho, h3, h4⟩
theorem OwnF.add {v : V} {d : D} (h : OwnF G R H its F) (q : Rep G (R.msk H F) d v) : OwnF G R H ((v, .leaf d) :: its) F :=
  ⟨h.nd, ⟨[], F, rfl, ⟨rfl, q⟩, h.rep⟩, h.new, h.old, h.dis, h.hid⟩
/-- a new object of data -/
theorem OwnF.newObj {p : Addr} {o : HO} {d : D} {v : V} (h : OwnF G R H its F) (hp : H p = none) (q : Rep G (upd (R.msk H F) p o) d v) : OwnF G R (upd H p o) ((v, .leaf d) :: its) F := by
  obtain ⟨h', np, em, _⟩ := h.grow (o := o) hp
  exact h'.add (by rw [em]; exact q)
theorem msk_none {p : Addr} (hp : H p = none) : R.msk H F p = none := by
  by_cases m : p ∈ F ++ R.hid
  · exact mask_in m
  · rw [Fr.msk, mask_out m]; exact hp
theorem OwnF.newTup {p : Addr} {xs : List V} {ds : List D} (h : OwnF G R H its F) (hp : H p = none) (q : Reps G (R.msk H F) ds xs) : OwnF G R (upd H p (.tup xs)) ((.ref p, .leaf (.tup ds)) :: its) F :=
  h.newObj hp ⟨p, xs, rfl, SqT.of upd_same, reps_mono (fun b u e => by rw [upd_ne (ne_of_none e (msk_none hp))]; exact e) ds q⟩
theorem repTs_leaf {G : Gx} {H Hm : Hp} : ∀ {ds : List D} {xs : List V}, Reps G Hm ds xs → RepTs G H Hm (ds.map T.leaf) xs []
  | [], xs, h => ⟨h, rfl⟩
  | d :: ds, xs, ⟨x, r, e, h1, h2⟩ => ⟨x, r, [], [], e, rfl, ⟨rfl, h1⟩, repTs_leaf h2⟩
theorem its_zip {G : Gx} {H Hm : Hp} : ∀ {xs : List V} {ts : List T} {F : List Addr}, xs.length = ts.length → Its G H Hm (xs.zip ts) F → RepTs G H Hm ts xs F
  | [], [], F, _, h => ⟨rfl, h⟩
  | x :: xs, t :: ts, F, hl, ⟨F1, F2, e, h1, h2⟩ => ⟨x, xs, F1, F2, rfl, e, h1, its_zip (by simpa using hl) h2⟩
  | [], _ :: _, _, hl, _ => by simp at hl
  | _ :: _, [], _, hl, _ => by simp at hl
theorem zip_its {G : Gx} {H Hm : Hp} : ∀ {xs : List V} {ts : List T} {F : List Addr}, RepTs G H Hm ts xs F → Its G H Hm (xs.zip ts) F ∧ xs.length = ts.length
  | xs, [], F, h => by rw [h.1]; exact ⟨h.2, rfl⟩
  | xs, t :: ts, F, ⟨x, r, F1, F2, e, eF, h1, h2⟩ => by
    subst e
    obtain ⟨h3, h4⟩ := zip_its h2
    exact ⟨⟨F1, F2, eF, h1, h3⟩, by simp [h4]⟩
/-- a new list, owned -/
theorem Own.newLst {p : Addr} {xs : List V} {ts : List T} (h : Own G R H (xs.zip ts ++ its)) (hl : xs.length = ts.length) (hp : H p = none) : Own G R (upd H p (.lst xs)) ((.ref p, .node ts) :: its) := by
  obtain ⟨F, h⟩ := h
  obtain ⟨h', np, em, hnew⟩ := h.grow (o := .lst xs) hp
  have hm : R.msk (upd H p (.lst xs)) (p :: F) = R.msk H F := by
    funext b
    unfold Fr.msk
    by_cases m : b ∈ (p :: F) ++ R.hid
    · rw [mask_in m]
      rcases List.mem_cons.mp (show b ∈ p :: (F ++ R.hid) from m) with z | z
      · rw [z, mask_out np, hp]
      · rw [mask_in z]
    · rw [mask_out m]
      have m1 : b ≠ p := fun z => m (by rw [z]; exact List.mem_cons_self)
      have m2 : b ∉ F ++ R.hid := fun z => m (List.mem_cons_of_mem _ z)
      rw [mask_out m2, upd_ne m1]
  refine ⟨p :: F, List.nodup_cons.mpr ⟨fun m => np (List.mem_append_left _ m), h.nd⟩, ?_, fun b hb => ?_, h'.old, fun b hb => ?_, h'.hid⟩
  · obtain ⟨F1', F2', e', g1, g2⟩ := Its.append.mp h.rep
    have hk : ∀ b ∈ F, upd H p (.lst xs) b = H b := fun b hb => upd_ne fun e => np (by rw [← e]; exact List.mem_append_left _ hb)
    refine ⟨p :: F1', F2', by rw [e']; rfl, ⟨p, xs, F1', rfl, upd_same, rfl, ?_⟩, ?_⟩
    · rw [hm]
      exact repTs_mono (Same.refl _) ts (its_zip hl g1) fun b hb => hk b (by rw [e']; exact List.mem_append_left _ hb)
    · rw [hm]
      exact g2.mono (Same.refl _) fun b hb => hk b (by rw [e']; exact List.mem_append_right _ hb)
  · rcases List.mem_cons.mp hb with z | z
    · rw [z]; exact hnew
    · exact h.new b z
  · rcases List.mem_cons.mp hb with z | z
    · rw [z]; exact fun m => np (List.mem_append_right _ m)
    · exact h.dis b z
theorem OwnF.newLst {p : Addr} {xs : List V} {ds : List D} (h : OwnF G R H its F) (hp : H p = none) (q : Reps G (R.msk H F) ds xs) : Own G R (upd H p (.lst xs)) ((.ref p, .node (ds.map T.leaf)) :: its) := by
  have hl : xs.length = (ds.map T.leaf).length := by rw [q.length, List.length_map]
  refine Own.newLst ⟨F, h.nd, ?_, h.new, h.old, h.dis, h.hid⟩ hl hp
  exact Its.append.mpr ⟨[], F, rfl, (zip_its (repTs_leaf q)).1, h.rep⟩
/-- an owned list is rewritten; its new items come of the old ones and of the temps -/
theorem Own.write {a : Addr} {xs ys : List V} {ts us : List T} {tmps : List Item} (h : Own G R H ((.ref a, .node ts) :: (tmps ++ its))) (hx : H a = some (.lst xs))
    (q : ∀ Hm F1 F2, RepTs G H Hm ts xs F1 → Its G H Hm tmps F2 → ∃ F' X, (F1 ++ F2).Perm (F' ++ X) ∧ RepTs G H Hm us ys F') : Own G R (upd H a (.lst ys)) ((.ref a, .node us) :: its) := by
  obtain ⟨F, h⟩ := h
  obtain ⟨F1, F2, e, ⟨a', xs', F1', ea, hx', e1, h1⟩, h2⟩ := h.rep
  obtain ⟨F3, F4, e2, h3, h4⟩ := Its.append.mp h2
  cases ea
  rw [hx] at hx'
  cases hx'
  subst e1 e2
  obtain ⟨F', X, p, h5⟩ := q _ _ _ h1 h3
  subst e
  have pF : ((a :: F1') ++ (F3 ++ F4)).Perm ((a :: (F' ++ F4)) ++ X) := by
    have p1 : ((a :: F1') ++ (F3 ++ F4)).Perm (a :: ((F1' ++ F3) ++ F4)) := by rw [List.append_assoc]; exact .refl _
    refine p1.trans (List.Perm.cons _ ((List.Perm.append_right _ p).trans ?_))
    show ((F' ++ X) ++ F4).Perm ((F' ++ F4) ++ X)
    rw [List.append_assoc, List.append_assoc]
    exact List.Perm.append_left _ List.perm_append_comm
  have nd2 := pF.nodup_iff.mp h.nd
  have nd3 : (a :: (F' ++ F4)).Nodup := (List.nodup_append.mp nd2).1
  have sub : ∀ b, b ∈ a :: (F' ++ F4) → b ∈ (a :: F1') ++ (F3 ++ F4) := fun b hb => pF.mem_iff.mpr (List.mem_append_left _ hb)
  have na : a ∉ F' ++ F4 := (List.nodup_cons.mp nd3).1
  have ha : a ∉ R.hid := h.dis a (List.mem_append_left _ List.mem_cons_self)
  have hk : ∀ b ∈ F' ++ F4, upd H a (.lst ys) b = H b := fun b hb => upd_ne fun z => na (by rw [← z]; exact hb)
  have sm : Same (R.msk H ((a :: F1') ++ (F3 ++ F4))) (R.msk (upd H a (.lst ys)) (a :: (F' ++ F4))) := mask_mono fun b o e n => by
    have nb : b ≠ a := fun z => n (by rw [z]; exact List.mem_append_left _ (List.mem_append_left _ List.mem_cons_self))
    refine ⟨by rw [upd_ne nb]; exact e, fun m => n ?_⟩
    rcases List.mem_append.mp m with m | m
    · exact List.mem_append_left _ (sub b m)
    · exact List.mem_append_right _ m
  refine ⟨a :: (F' ++ F4), nd3, ⟨a :: F', F4, rfl, ⟨a, ys, F', rfl, upd_same, rfl, repTs_mono sm us h5 fun b hb => hk b (List.mem_append_left _ hb)⟩, h4.mono sm fun b hb => hk b (List.mem_append_right _ hb)⟩,
    fun b hb => h.new b (sub b hb), fun b o e n => ?_, fun b hb => h.dis b (sub b hb), fun b hb => ?_⟩
  · have nb : b ≠ a := fun z => by
      subst z
      rcases h.new b (List.mem_append_left _ List.mem_cons_self) with m | m
      · exact n m
      · rw [e] at m; cases m
    rw [upd_ne nb]; exact h.old b o e n
  · obtain ⟨u, e⟩ := h.hid b hb
    have nb : b ≠ a := fun z => ha (by rw [← z]; exact hb)
    exact ⟨u, by rw [upd_ne nb]; exact e⟩
theorem RepTs.append {G : Gx} {H Hm : Hp} : ∀ {ts us : List T} {xs ys : List V} {F F' : List Addr}, RepTs G H Hm ts xs F → RepTs G H Hm us ys F' → RepTs G H Hm (ts ++ us) (xs ++ ys) (F ++ F')
  | [], us, xs, ys, F, F', h, q => by rw [h.1, h.2]; exact q
  | t :: ts, us, xs, ys, F, F', ⟨x, r, F1, F2, e, eF, h1, h2⟩, q => ⟨x, r ++ ys, F1, F2 ++ F', by rw [e]; rfl, by rw [eF, List.append_assoc], h1, h2.append q⟩
theorem RepTs.length {G : Gx} {H Hm : Hp} : ∀ {ts : List T} {xs : List V} {F : List Addr}, RepTs G H Hm ts xs F → xs.length = ts.length
  | [], xs, F, h => by rw [h.1]; rfl
  | t :: ts, xs, F, ⟨x, r, F1, F2, e, eF, h1, h2⟩ => by rw [e, List.length_cons, List.length_cons, h2.length]
theorem RepTs.set {G : Gx} {H Hm : Hp} : ∀ {ts : List T} {xs : List V} {F Fu : List Addr} {i : Nat} {u : T} {w : V}, RepTs G H Hm ts xs F → RepT G H Hm u w Fu → i < ts.length → ∃ F' X, (F ++ Fu).Perm (F' ++ X) ∧ RepTs G H Hm (ts.set i u) (xs.set i w) F'
  | [], xs, F, Fu, i, u, w, h, q, hi => by simp at hi
  | t :: ts, xs, F, Fu, 0, u, w, ⟨x, r, F1, F2, e, eF, h1, h2⟩, q, _ => by
    subst e eF
    refine ⟨Fu ++ F2, F1, ?_, w, r, Fu, F2, rfl, rfl, q, h2⟩
    have p1 : ((F1 ++ F2) ++ Fu).Perm (F1 ++ (F2 ++ Fu)) := by rw [List.append_assoc]
    refine p1.trans (List.perm_append_comm.trans ?_)
    exact List.Perm.append_right _ List.perm_append_comm
  | t :: ts, xs, F, Fu, i + 1, u, w, ⟨x, r, F1, F2, e, eF, h1, h2⟩, q, hi => by
    subst e eF
    obtain ⟨F', X, p, h3⟩ := h2.set (i := i) q (by simpa using hi)
    refine ⟨F1 ++ F', X, ?_, x, r.set i w, F1, F', rfl, rfl, h1, h3⟩
    rw [List.append_assoc, List.append_assoc]
    exact List.Perm.append_left _ p
theorem Own.append {a : Addr} {xs : List V} {ts : List T} {w : V} {u : T} (h : Own G R H ((.ref a, .node ts) :: (w, u) :: its)) (hx : H a = some (.lst xs)) : Own G R (upd H a (.lst (xs ++ [w]))) ((.ref a, .node (ts ++ [u])) :: its) :=
  Own.write (tmps := [(w, u)]) h hx fun Hm F1 F2 h1 ⟨F3, F4, e, h3, h4⟩ => ⟨F1 ++ F2, [], by rw [List.append_nil], RepTs.append h1 ⟨w, [], F3, [], rfl, by rw [e, show F4 = [] from h4], h3, rfl, rfl⟩⟩
theorem Own.setAt {a : Addr} {xs : List V} {ts : List T} {w : V} {u : T} {i : Nat} (h : Own G R H ((.ref a, .node ts) :: (w, u) :: its)) (hx : H a = some (.lst xs)) (hi : i < ts.length) : Own G R (upd H a (.lst (xs.set i w))) ((.ref a, .node (ts.set i u)) :: its) :=
  Own.write (tmps := [(w, u)]) h hx fun Hm F1 F2 h1 ⟨F3, F4, e, h3, h4⟩ => by
    rw [show F4 = [] from h4, List.append_nil] at e
    subst e
    exact RepTs.set h1 h3 hi
theorem Own.nodeAt {v : V} {ts : List T} (h : Own G R H ((v, .node ts) :: its)) : ∃ a xs, v = .ref a ∧ H a = some (.lst xs) ∧ xs.length = ts.length := by
  obtain ⟨F, h⟩ := h
  obtain ⟨F1, F2, e, ⟨a', xs', F1', ea, hx', e1, h1⟩, h2⟩ := h.rep
  exact ⟨a', xs', ea, hx', h1.length⟩
end

/-! ### slots -/
abbrev Env := List (Option T)
def items : L2.St → Env → List Item
  | some v :: σ, some t :: ρ => (v, t) :: items σ ρ
  | _ :: σ, _ :: ρ => items σ ρ
  | _, _ => []
def Fits : L2.St → Env → Prop
  | [], [] => True
  | s :: σ, r :: ρ => (r.isSome = true → s.isSome = true) ∧ Fits σ ρ
  | _, _ => False
theorem Fits.length : ∀ {σ : L2.St} {ρ : Env}, Fits σ ρ → σ.length = ρ.length
  | [], [], _ => rfl
  | _ :: _, _ :: _, h => by simp [Fits.length h.2]
  | [], _ :: _, h => h.elim
  | _ :: _, [], h => h.elim
theorem items_none {o : Option V} {σ : L2.St} {ρ : Env} : items (o :: σ) (none :: ρ) = items σ ρ := by cases o <;> rfl
theorem items_set_none : ∀ {σ : L2.St} {ρ : Env} {i : Nat} {t : T}, Fits σ ρ → ρ[i]? = some (some t) → ∃ v, σ[i]? = some (some v) ∧ (items σ ρ).Perm ((v, t) :: items σ (ρ.set i none)) ∧ Fits σ (ρ.set i none)
  | [], [], i, t, _, e => by simp at e
  | s :: σ, r :: ρ, 0, t, h, e => by
    simp at e; subst e
    cases s with
    | none => simp [Fits] at h
    | some v => exact ⟨v, rfl, .refl _, by simp, h.2⟩
  | s :: σ, r :: ρ, i + 1, t, h, e => by
    obtain ⟨v, e1, p, f⟩ := items_set_none (i := i) h.2 (by simpa using e)
    refine ⟨v, by simpa using e1, ?_, ?_⟩
    · cases r with
      | none => rw [items_none, List.set_cons_succ, items_none]; exact p
      | some t' =>
        cases s with
        | none => simp [Fits] at h
        | some v' => exact (List.Perm.cons _ p).trans (.swap _ _ _)
    · exact ⟨h.1, f⟩
  | [], _ :: _, _, _, h, _ => h.elim
  | _ :: _, [], _, _, h, _ => h.elim
/-- a slot is filled -/
theorem items_set : ∀ {σ : L2.St} {ρ : Env} {i : Nat} (v : V) (t : T), Fits σ ρ → i < ρ.length → (items (σ.set i (some v)) (ρ.set i (some t))).Perm ((v, t) :: items σ (ρ.set i none)) ∧ Fits (σ.set i (some v)) (ρ.set i (some t))
  | [], [], i, v, t, _, e => by simp at e
  | s :: σ, r :: ρ, 0, v, t, h, e => ⟨by rw [List.set_cons_zero, List.set_cons_zero, List.set_cons_zero, items_none]; exact .refl _, by simp, h.2⟩
  | s :: σ, r :: ρ, i + 1, v, t, h, e => by
    obtain ⟨p, f⟩ := items_set (i := i) v t h.2 (by simpa using e)
    refine ⟨?_, h.1, f⟩
    rw [List.set_cons_succ, List.set_cons_succ, List.set_cons_succ]
    cases r with
    | none => rw [items_none, items_none]; exact p
    | some t' =>
      cases s with
      | none => simp [Fits] at h
      | some v' => exact (List.Perm.cons _ p).trans (.swap _ _ _)
  | [], _ :: _, _, _, _, h, _ => h.elim
  | _ :: _, [], _, _, _, h, _ => h.elim
/-- the same slot, other contents -/
theorem items_put : ∀ {σ : L2.St} {ρ : Env} {i : Nat} {v : V} (t : T), Fits σ ρ → i < ρ.length → σ[i]? = some (some v) → (items σ (ρ.set i (some t))).Perm ((v, t) :: items σ (ρ.set i none)) ∧ Fits σ (ρ.set i (some t)) := by
  intro σ ρ i v t h hi e
  have q := items_set v t h hi
  have e2 : σ.set i (some v) = σ := by
    obtain ⟨hlt, e'⟩ := List.getElem?_eq_some_iff.mp e
    exact List.ext_getElem? fun j => by
      by_cases hj : i = j
      · subst hj; rw [List.getElem?_set_self hlt, e]
      · rw [List.getElem?_set_ne hj]
  rw [e2] at q
  exact q
theorem items_drop {σ : L2.St} {ρ : Env} (i : Nat) (h : Fits σ ρ) : (∃ p, (items σ ρ).Perm (p :: items σ (ρ.set i none))) ∨ items σ (ρ.set i none) = items σ ρ := by
  cases e : ρ[i]? with
  | none =>
    refine .inr ?_
    rw [List.set_eq_of_length_le (List.getElem?_eq_none_iff.mp e)]
  | some r =>
    cases r with
    | none =>
      refine .inr ?_
      have : ρ.set i none = ρ := List.ext_getElem? fun j => by
        by_cases hj : i = j
        · subst hj
          obtain ⟨hlt, _⟩ := List.getElem?_eq_some_iff.mp e
          rw [List.getElem?_set_self hlt, e]
        · rw [List.getElem?_set_ne hj]
      rw [this]
    | some t =>
      obtain ⟨v, _, p, _⟩ := items_set_none h e
      exact .inl ⟨_, p⟩
theorem fits_none : ∀ {σ : L2.St} {ρ : Env} (i : Nat), Fits σ ρ → Fits σ (ρ.set i none)
  | [], [], i, _ => by simp [Fits]
  | s :: σ, r :: ρ, 0, h => ⟨by simp, h.2⟩
  | s :: σ, r :: ρ, i + 1, h => ⟨h.1, fits_none i h.2⟩
  | [], _ :: _, _, h => h.elim
  | _ :: _, [], _, h => h.elim

/-- the state: the slots, what they own, what is held besides -/
structure Sta (G : Gx) (R : Fr) (σ : L2.St) (ρ : Env) (H : Hp) (tm : List Item) : Prop where
  fits : Fits σ ρ
  lent : ∀ p ∈ R.lent, σ[p.1]? = some (some p.2)
  own : Own G R H (items σ ρ ++ tm)
section
variable {G : Gx} {R : Fr} {H H' : Hp} {σ : L2.St} {ρ : Env} {tm : List Item}
theorem Sta.re (S : Sta G R σ ρ H tm) {tm' : List Item} (h : Own G R H (items σ ρ ++ tm) → Own G R H' (items σ ρ ++ tm')) : Sta G R σ ρ H' tm' := ⟨S.fits, S.lent, h S.own⟩
theorem perm_mid {α : Type} (p : α) (a b : List α) : (a ++ p :: b).Perm (p :: (a ++ b)) := List.perm_middle
/-- as the items of one list, the temps ahead -/
theorem Sta.front {p : Item} (S : Sta G R σ ρ H (p :: tm)) : Own G R H (p :: (items σ ρ ++ tm)) := S.own.perm (perm_mid _ _ _)
theorem Sta.back {p : Item} (f : Fits σ ρ) (l : ∀ p ∈ R.lent, σ[p.1]? = some (some p.2)) (h : Own G R H (p :: (items σ ρ ++ tm))) : Sta G R σ ρ H (p :: tm) := ⟨f, l, h.perm (perm_mid _ _ _).symm⟩
theorem Sta.with {p : Item} (S : Sta G R σ ρ H tm) (h : Own G R H (items σ ρ ++ tm) → Own G R H' (p :: (items σ ρ ++ tm))) : Sta G R σ ρ H' (p :: tm) := Sta.back S.fits S.lent (h S.own)
theorem Sta.pop {p : Item} (S : Sta G R σ ρ H (p :: tm)) : Sta G R σ ρ H tm := ⟨S.fits, S.lent, S.front.drop⟩
/-- what slot i holds is taken out -/
theorem Sta.take {i : Nat} {t : T} (S : Sta G R σ ρ H tm) (e : ρ[i]? = some (some t)) : ∃ v, σ[i]? = some (some v) ∧ Sta G R σ (ρ.set i none) H ((v, t) :: tm) := by
  obtain ⟨v, e1, p, f⟩ := items_set_none S.fits e
  exact ⟨v, e1, Sta.back f S.lent (S.own.perm (List.Perm.append_right _ p))⟩
/-- and put back -/
theorem Sta.put {i : Nat} {v : V} {t : T} (S : Sta G R σ (ρ.set i none) H ((v, t) :: tm)) (f : Fits σ ρ) (e : σ[i]? = some (some v)) : Sta G R σ (ρ.set i (some t)) H tm := by
  have hi : i < ρ.length := by rw [← f.length]; exact (List.getElem?_eq_some_iff.mp e).1
  obtain ⟨p, f'⟩ := items_put t f hi e
  exact ⟨f', S.lent, S.front.perm (List.Perm.append_right _ p).symm⟩
/-- a slot is stored into -/
theorem Sta.store {i : Nat} {v : V} {t : T} (S : Sta G R σ ρ H ((v, t) :: tm)) (hi : i < ρ.length) (hl : i ∉ R.lent.map (·.1)) : Sta G R (σ.set i (some v)) (ρ.set i (some t)) H tm := by
  obtain ⟨p, f'⟩ := items_set v t S.fits hi
  refine ⟨f', fun q hq => ?_, ?_⟩
  · have hne : i ≠ q.1 := fun z => hl (by rw [z]; exact List.mem_map_of_mem hq)
    rw [List.getElem?_set_ne hne]; exact S.lent q hq
  · have h := S.front
    rcases items_drop i S.fits with ⟨q, pq⟩ | e
    · have h2 : Own G R H (q :: ((v, t) :: (items σ (ρ.set i none) ++ tm))) := h.perm ((List.Perm.cons _ (List.Perm.append_right _ pq)).trans (.swap _ _ _))
      exact h2.drop.perm (List.Perm.append_right _ p).symm
    · rw [← e] at h
      exact h.perm (List.Perm.append_right _ p).symm
/-- a slot is read: what is shared -/
theorem Sta.read {i : Nat} {d : D} (S : Sta G R σ ρ H tm) (e : ρ[i]? = some (some (.leaf d))) : ∃ v, σ[i]? = some (some v) ∧ Sta G R σ ρ H ((v, .leaf d) :: tm) := by
  obtain ⟨v, e1, S1⟩ := S.take e
  refine ⟨v, e1, ?_⟩
  have S2 : Sta G R σ (ρ.set i none) H ((v, .leaf d) :: (v, .leaf d) :: tm) := Sta.back S1.fits S1.lent (by
    have h := S1.front.dup
    exact h.perm (List.Perm.cons _ (perm_mid _ _ _).symm))
  have S3 := S2.put S.fits e1
  have e3 : ρ.set i (some (.leaf d)) = ρ := List.ext_getElem? fun j => by
    by_cases hj : i = j
    · subst hj
      obtain ⟨hlt, _⟩ := List.getElem?_eq_some_iff.mp e
      rw [List.getElem?_set_self hlt, e]
    · rw [List.getElem?_set_ne hj]
  rw [e3] at S3
  exact S3
end
end Q

/-! Judgements: denotations and what they promise. -/
namespace Q
open PySem PySem.Spec PyProof.Rows L2

inductive Res (α : Type) where
  | ok (a : α) (ρ : Env)
  | exc (c at' : Str) (d : D) (ρ : Env)
  | stuck
abbrev M (α : Type) := Env → Res α
def Res.bind {α β : Type} (r : Res α) (k : α → Env → Res β) : Res β :=
  match r with
  | .ok a ρ => k a ρ
  | .exc c a d ρ => .exc c a d ρ
  | .stuck => .stuck
theorem bind_ok {α β : Type} {a : α} {ρ : Env} {k : α → Env → Res β} : (Res.ok a ρ).bind k = k a ρ := rfl
theorem bind_exc {α β : Type} {c a : Str} {d : D} {ρ : Env} {k : α → Env → Res β} : (Res.exc c a d ρ).bind k = .exc c a d ρ := rfl
theorem bind_stuck {α β : Type} {k : α → Env → Res β} : (Res.stuck : Res α).bind k = .stuck := rfl

abbrev gx (X : Cx) : Gx := ⟨X.K, X.mg⟩
def ExcEnd (G : Gx) (R : Fr) (σ : L2.St) (tm : List Item) (W : WX) (c at' : Str) (d : D) (ρ : Env) : Prop :=
  ∀ (C a : Addr) (v : V) (H : Hp), G.mg c = some (.ref C) → H a = some (.xd [(at', v)]) → Sta G R σ ρ H ((v, .leaf d) :: tm) → W (.ref C) (some a) σ H
theorem ExcEnd.push {G : Gx} {R : Fr} {σ : L2.St} {tm : List Item} {W : WX} {c at' : Str} {d : D} {ρ : Env} (h : ExcEnd G R σ tm W c at' d ρ) (p : Item) : ExcEnd G R σ (p :: tm) W c at' d ρ :=
  fun C a v H hm ha S => h C a v H hm ha (by
    refine Sta.back S.fits S.lent ?_
    have q := S.front.perm (List.Perm.cons _ (perm_mid _ _ _))
    exact (q.perm (.swap _ _ _)).drop)
/-- what a result is to reach -/
def End (G : Gx) (R : Fr) (σ : L2.St) (tm : List Item) (W : WX) {α : Type} (P : α → Env → Prop) : Res α → Prop
  | .ok a ρ => P a ρ
  | .exc c a d ρ => ExcEnd G R σ tm W c a d ρ
  | .stuck => False
section
variable {G : Gx} {R : Fr} {σ : L2.St} {tm : List Item} {W : WX} {α β : Type} {P P' : α → Env → Prop}
theorem End.mono {r : Res α} (h : End G R σ tm W P r) (f : ∀ a ρ, r = .ok a ρ → P a ρ → P' a ρ) : End G R σ tm W P' r := by
  cases r with
  | ok a ρ => exact f a ρ rfl h
  | exc => exact h
  | stuck => exact h
theorem End.push {r : Res α} (h : End G R σ tm W P r) (p : Item) : End G R σ (p :: tm) W P r := by
  cases r with
  | ok a ρ => exact h
  | exc => exact ExcEnd.push h p
  | stuck => exact h
theorem End.bind {Pb : β → Env → Prop} {r : Res α} {k : α → Env → Res β} (h : End G R σ tm W Pb (r.bind k)) : End G R σ tm W (fun a ρ => End G R σ tm W Pb (k a ρ)) r := by
  cases r with
  | ok a ρ => exact h
  | exc => exact h
  | stuck => exact h
end
/-- behind an expression: its value v is of t, besides what is held -/
def toQ (G : Gx) (R : Fr) (σ : L2.St) (tm : List Item) (Q : VK) : T → Env → Prop := fun t ρ => ∀ v H, Sta G R σ ρ H ((v, t) :: tm) → Q v H
def toB (G : Gx) (R : Fr) (σ : L2.St) (tm : List Item) (Q : Bool → Hp → Prop) : Bool → Env → Prop := fun b ρ => ∀ H, Sta G R σ ρ H tm → Q b H
def TEm (G : Gx) (L : List Nat) (W : WX) (m : M T) : TE := fun σ H Q => ∃ R ρ tm, R.lent.map (·.1) = L ∧ Sta G R σ ρ H tm ∧ End G R σ tm W (toQ G R σ tm Q) (m ρ)
def TTm (G : Gx) (L : List Nat) (W : WX) (m : M Bool) : TT := fun σ H Q => ∃ R ρ tm, R.lent.map (·.1) = L ∧ Sta G R σ ρ H tm ∧ End G R σ tm W (toB G R σ tm Q) (m ρ)
structure PEd (X : Cx) (L : List Nat) (e : Expr) (m : M T) : Prop where
  run : ∀ W, L2N.Takes X W → PE X e (TEm (gx X) L W m)
structure PTd (X : Cx) (L : List Nat) (e : Expr) (m : M Bool) : Prop where
  run : ∀ W, L2N.Takes X W → PT X e (TTm (gx X) L W m)
structure PWd (X : Cx) (L : List Nat) (e : Expr) (m : M Bool) : Prop where
  run : ∀ W, L2N.Takes X W → PW X e (TTm (gx X) L W m)
theorem PE.imp {X : Cx} {e : Expr} {t t' : TE} (h : PE X e t) (f : ∀ σ H Q, t' σ H Q → t σ H Q) : PE X e t' := ⟨fun pins s σ H Q I q => h.run pins s σ H Q I (f _ _ _ q)⟩
theorem PT.imp {X : Cx} {e : Expr} {t t' : TT} (h : PT X e t) (f : ∀ σ H Q, t' σ H Q → t σ H Q) : PT X e t' := ⟨fun pins s σ H Q I q => h.run pins s σ H Q I (f _ _ _ q)⟩
theorem PW.imp {X : Cx} {e : Expr} {t t' : TT} (h : PW X e t) (f : ∀ σ H Q, t' σ H Q → t σ H Q) : PW X e t' := ⟨fun wh pins s σ H Q I q => h.run wh pins s σ H Q I (f _ _ _ q)⟩
theorem PTd.ofW {X : Cx} {L : List Nat} {e : Expr} {m : M Bool} (h : PWd X L e m) : PTd X L e m := ⟨fun W tk => (h.run W tk).pt⟩

/-! ### statements -/
inductive SRes where
  | nx (ρ : Env) | rt (t : T) (ρ : Env) | bk (ρ : Env) | ct (ρ : Env)
  | exc (c at' : Str) (d : D) (ρ : Env)
  | stuck
abbrev SM := Env → SRes
def EndS (G : Gx) (R : Fr) (tm : List Item) (W : WX) (D : Ends) : SRes → Prop
  | .nx ρ => ∀ σ H, Sta G R σ ρ H tm → D.nx σ H
  | .bk ρ => ∀ σ H, Sta G R σ ρ H tm → D.bk σ H
  | .ct ρ => ∀ σ H, Sta G R σ ρ H tm → D.ct σ H
  | .rt t ρ => ∀ v σ H, Sta G R σ ρ H ((v, t) :: tm) → D.rt v H
  | .exc c a d ρ => ∀ σ, ExcEnd G R σ tm W c a d ρ
  | .stuck => False
def TSm (G : Gx) (L : List Nat) (W : WX) (m : SM) : TS := fun D σ H => ∃ R ρ tm, R.lent.map (·.1) = L ∧ Sta G R σ ρ H tm ∧ EndS G R tm W D (m ρ)
/-- hp: what a loop asks of the wish about exceptions -/
structure PSd (X : Cx) (L : List Nat) (st : Stmt) (m : SM) : Prop where
  run : ∀ W, L2N.Takes X W → PassesOwn (model X.prog X.w) X.A X.env X.xe → PS X st (TSm (gx X) L W m)
structure PBd (X : Cx) (L : List Nat) (st : List Stmt) (m : SM) : Prop where
  run : ∀ W, L2N.Takes X W → PassesOwn (model X.prog X.w) X.A X.env X.xe → PSs X st (TSm (gx X) L W m)
theorem PS.imp {X : Cx} {st : Stmt} {t t' : TS} (h : PS X st t) (f : ∀ D σ H, t' D σ H → t D σ H) : PS X st t' := ⟨fun pins s σ H D I q => h.run pins s σ H D I (f _ _ _ q)⟩
theorem PSs.imp {X : Cx} {st : List Stmt} {t t' : TS} (h : PSs X st t) (f : ∀ D σ H, t' D σ H → t D σ H) : PSs X st t' := ⟨fun pins s σ H D I q => h.run pins s σ H D I (f _ _ _ q)⟩

/-! ### names and constants -/
def D.toV? : D → Option V
  | .non => some .non
  | .bl b => some (.bl b)
  | .int i => some (.int i)
  | .str s => some (.str s)
  | _ => none
theorem rep_scal {G : Gx} {H : Hp} {d : D} {v : V} (h : d.toV? = some v) : Rep G H d v := by
  cases d <;> simp [D.toV?] at h <;> subst h <;> rfl
def mC (d : D) : M T := fun ρ => .ok (.leaf d) ρ
def mV (i : Nat) : M T := fun ρ =>
  match ρ[i]? with
  | some (some (.leaf d)) => .ok (.leaf d) ρ
  | _ => .stuck
/-- an owned list is given away: from now on it is data -/
def mShare (i : Nat) : M T := fun ρ =>
  match ρ[i]? with
  | some (some t) => .ok (.leaf t.toD) (ρ.set i (some (.leaf t.toD)))
  | _ => .stuck
/-- an owned list is handed on, the slot is empty -/
def mMove (i : Nat) : M T := fun ρ =>
  match ρ[i]? with
  | some (some t) => .ok t (ρ.set i none)
  | _ => .stuck
section
variable {X : Cx} {L : List Nat}
theorem ped_scal {e : Expr} {d : D} {v : V} (h : PE X e (tC v)) (hd : d.toV? = some v) : PEd X L e (mC d) := ⟨fun W _ => PE.imp h fun σ H Q ⟨R, ρ, tm, _, S, q⟩ =>
  q v H (S.with fun o => o.scal fun _ => rep_scal hd)⟩
theorem ped_int {i : Int} {j : Nat} {pos : Pos} : PEd X L (.Constant (.int i) j pos) (mC (.int i)) := ped_scal pe_int rfl
theorem ped_str {s : Str} {j : Nat} {pos : Pos} : PEd X L (.Constant (.str s) j pos) (mC (.str s)) := ped_scal pe_str rfl
theorem ped_bl {b : Bool} {j : Nat} {pos : Pos} : PEd X L (.Constant (.bool b) j pos) (mC (.bl b)) := ped_scal pe_bl rfl
theorem ped_non {j : Nat} {pos : Pos} : PEd X L (.Constant .none j pos) (mC .non) := ped_scal pe_non rfl
theorem ped_V {i : Nat} {x : Str} {pos : Pos} (h : PE X (.Name x pos) (tVar i)) : PEd X L (.Name x pos) (mV i) := ⟨fun W _ => PE.imp h fun σ H Q ⟨R, ρ, tm, _, S, q⟩ => by
  unfold mV at q
  split at q
  · rename_i d e
    obtain ⟨v, e1, S1⟩ := S.read e
    exact ⟨v, e1, q v H S1⟩
  · exact q.elim⟩
theorem ped_Share {i : Nat} {x : Str} {pos : Pos} (h : PE X (.Name x pos) (tVar i)) : PEd X L (.Name x pos) (mShare i) := ⟨fun W _ => PE.imp h fun σ H Q ⟨R, ρ, tm, _, S, q⟩ => by
  unfold mShare at q
  split at q
  · rename_i t e
    obtain ⟨v, e1, S1⟩ := S.take e
    have S2 : Sta (gx X) R σ (ρ.set i none) H ((v, .leaf t.toD) :: (v, .leaf t.toD) :: tm) :=
      Sta.back S1.fits S1.lent (S1.front.freeze.dup.perm (List.Perm.cons _ (perm_mid _ _ _).symm))
    have S3 : Sta (gx X) R σ (ρ.set i none) H ((v, .leaf t.toD) :: (v, .leaf t.toD) :: tm) := S2
    exact ⟨v, e1, q v H (S3.put S.fits e1)⟩
  · exact q.elim⟩
theorem ped_Move {i : Nat} {x : Str} {pos : Pos} (h : PE X (.Name x pos) (tVar i)) : PEd X L (.Name x pos) (mMove i) := ⟨fun W _ => PE.imp h fun σ H Q ⟨R, ρ, tm, _, S, q⟩ => by
  unfold mMove at q
  split at q
  · rename_i t e
    obtain ⟨v, e1, S1⟩ := S.take e
    exact ⟨v, e1, q v H S1⟩
  · exact q.elim⟩
end

/-! ### operators: scalar answers (the operands may be owned), and answers of data -/
def ScalF (f : D → D → Option D) : Prop := ∀ x y d, f x y = some d → ∃ v, d.toV? = some v
def rS (G : Gx) (f : D → D → Option D) : R2 := fun x y H Q => ∃ dx dy d v, Rep G H dx x ∧ Rep G H dy y ∧ f dx dy = some d ∧ d.toV? = some v ∧ Q v H
def rD (G : Gx) (f : D → D → Option T) : R2 := fun x y H Q => ∃ R its dx dy t, Own G R H ((y, .leaf dy) :: (x, .leaf dx) :: its) ∧ f dx dy = some t ∧ ∀ v H', Own G R H' ((v, t) :: its) → Q v H'
def mS2 (f : D → D → Option D) (ma mb : M T) : M T := fun ρ => (ma ρ).bind fun t1 ρ1 => (mb ρ1).bind fun t2 ρ2 =>
  match f t1.toD t2.toD with
  | some d => .ok (.leaf d) ρ2
  | none => .stuck
def mD2 (f : D → D → Option T) (ma mb : M T) : M T := fun ρ => (ma ρ).bind fun t1 ρ1 => (mb ρ1).bind fun t2 ρ2 =>
  match f t1.toD t2.toD with
  | some t => .ok t ρ2
  | none => .stuck
section
variable {X : Cx} {L : List Nat} {a b : Expr} {ma mb : M T} {pos : Pos}
theorem tem_two {W : WX} {σ : L2.St} {H : Hp} {Q : VK} {k : T → T → Env → Res T} {r : R2}
    (h : TEm (gx X) L W (fun ρ => (ma ρ).bind fun t1 ρ1 => (mb ρ1).bind fun t2 ρ2 => k t1 t2 ρ2) σ H Q)
    (hr : ∀ R ρ tm x y t1 t2 H2, R.lent.map (·.1) = L → Sta (gx X) R σ ρ H2 ((y, t2) :: (x, t1) :: tm) → End (gx X) R σ tm W (toQ (gx X) R σ tm Q) (k t1 t2 ρ) → r x y H2 Q) :
    tOp r (TEm (gx X) L W ma) (TEm (gx X) L W mb) σ H Q := by
  obtain ⟨R, ρ, tm, hL, S, h⟩ := h
  refine ⟨R, ρ, tm, hL, S, h.bind.mono fun t1 ρ1 _ h1 x H1 S1 => ?_⟩
  refine ⟨R, ρ1, (x, t1) :: tm, hL, S1, (h1.bind.push (x, t1)).mono fun t2 ρ2 _ h2 y H2 S2 => ?_⟩
  exact hr R ρ2 tm x y t1 t2 H2 hL S2 h2
theorem rS_of {f : D → D → Option D} {W : WX} {σ : L2.St} {Q : VK} (hf : ScalF f) {R : Fr} {ρ : Env} {tm : List Item} {x y : V} {t1 t2 : T} {H2 : Hp} (S : Sta (gx X) R σ ρ H2 ((y, t2) :: (x, t1) :: tm))
    (h : End (gx X) R σ tm W (toQ (gx X) R σ tm Q) (match f t1.toD t2.toD with
      | some d => .ok (.leaf d) ρ
      | none => .stuck)) : rS (gx X) f x y H2 Q := by
  cases e : f t1.toD t2.toD with
  | none => rw [e] at h; exact h.elim
  | some d =>
    rw [e] at h
    obtain ⟨v, hv⟩ := hf _ _ _ e
    exact ⟨t1.toD, t2.toD, d, v, S.pop.front.repT, S.front.repT, e, hv, h v H2 (S.pop.pop.with fun o => o.scal fun _ => rep_scal hv)⟩
theorem rD_of {f : D → D → Option T} {W : WX} {σ : L2.St} {Q : VK} {R : Fr} {ρ : Env} {tm : List Item} {x y : V} {t1 t2 : T} {H2 : Hp} (S : Sta (gx X) R σ ρ H2 ((y, t2) :: (x, t1) :: tm))
    (h : End (gx X) R σ tm W (toQ (gx X) R σ tm Q) (match f t1.toD t2.toD with
      | some t => .ok t ρ
      | none => .stuck)) : rD (gx X) f x y H2 Q := by
  cases e : f t1.toD t2.toD with
  | none => rw [e] at h; exact h.elim
  | some t =>
    rw [e] at h
    refine ⟨R, items σ ρ ++ tm, t1.toD, t2.toD, t, ?_, e, fun v H' o => h v H' (Sta.back S.fits S.lent o)⟩
    have o1 := S.front.freeze
    have o2 : Own (gx X) R H2 ((x, t1) :: (y, .leaf t2.toD) :: (items σ ρ ++ tm)) := o1.perm ((List.Perm.cons _ (perm_mid _ _ _)).trans (.swap _ _ _))
    exact o2.freeze.perm (.swap _ _ _)
theorem ped_binS {op : Operator} {f : D → D → Option D} (hf : ScalF f) (ho : OpR X (binaryOp op) (rS (gx X) f)) (ha : PEd X L a ma) (hb : PEd X L b mb) : PEd X L (.BinOp a op b pos) (mS2 f ma mb) :=
  ⟨fun W tk => PE.imp (pe_op ho (ha.run W tk) (hb.run W tk)) fun σ H Q h => tem_two h fun R ρ tm x y t1 t2 H2 _ S q => rS_of hf S q⟩
theorem ped_binD {op : Operator} {f : D → D → Option T} (ho : OpR X (binaryOp op) (rD (gx X) f)) (ha : PEd X L a ma) (hb : PEd X L b mb) : PEd X L (.BinOp a op b pos) (mD2 f ma mb) :=
  ⟨fun W tk => PE.imp (pe_op ho (ha.run W tk) (hb.run W tk)) fun σ H Q h => tem_two h fun R ρ tm x y t1 t2 H2 _ S q => rD_of S q⟩
theorem ped_cmp {op : CmpOp} {f : D → D → Option D} (hf : ScalF f) (ho : OpR X (compareOp op) (rS (gx X) f)) (ha : PEd X L a ma) (hb : PEd X L b mb) (hm : behindInMarks op b = false) : PEd X L (.Compare a [op] [b] pos) (mS2 f ma mb) :=
  ⟨fun W tk => PE.imp (pe_cmpR ho (ha.run W tk) (hb.run W tk) hm) fun σ H Q h => tem_two h fun R ρ tm x y t1 t2 H2 _ S q => rS_of hf S q⟩
/-- as a test -/
def asB : Res T → Res Bool := fun r => r.bind fun t ρ => match t with
  | .leaf (.bl b) => .ok b ρ
  | _ => .stuck
def mTest (m : M T) : M Bool := fun ρ => asB (m ρ)
theorem tem_test {m : M T} {W : WX} {σ : L2.St} {H : Hp} {Q : Bool → Hp → Prop} (h : TTm (gx X) L W (mTest m) σ H Q) : TEm (gx X) L W m σ H fun x H' => ∃ k, x = .bl k ∧ Q k H' := by
  obtain ⟨R, ρ, tm, hL, S, h⟩ := h
  refine ⟨R, ρ, tm, hL, S, (End.bind h).mono fun t ρ1 _ q v H1 S1 => ?_⟩
  cases t with
  | leaf d =>
    cases d with
    | bl b =>
      refine ⟨b, S1.front.rep, q H1 S1.pop⟩
    | _ => exact q.elim
  | node ts => exact q.elim
theorem ptd_cmp {op : CmpOp} {f : D → D → Option D} (hf : ScalF f) (ho : OpR X (compareOp op) (rS (gx X) f)) (ha : PEd X L a ma) (hb : PEd X L b mb) (hm : behindInMarks op b = false) : PTd X L (.Compare a [op] [b] pos) (mTest (mS2 f ma mb)) :=
  ⟨fun W tk => PT.imp (pt_cmpR ho (ha.run W tk) (hb.run W tk) hm) fun σ H Q h => by
    have q := tem_test h
    exact tem_two q fun R ρ tm x y t1 t2 H2 _ S q => rS_of hf S q⟩
theorem ptd_val {e : Expr} {m : M T} (h : PEd X L e m) (he : ∀ whole, isTrue e X.env whole = (do let v ← whole; standAt e.pos; holding [v] (truthy v)) := by intro _; rfl) : PTd X L e (mTest m) :=
  ⟨fun W tk => PT.imp (pt_val (h.run W tk) he) fun σ H Q q => tem_test q⟩
/-! ### and, or, not -/
def mAnd (a b : M Bool) : M Bool := fun ρ => (a ρ).bind fun c ρ1 => if c = true then b ρ1 else .ok false ρ1
def mOr (a b : M Bool) : M Bool := fun ρ => (a ρ).bind fun c ρ1 => if c = true then .ok true ρ1 else b ρ1
def mNot (a : M Bool) : M Bool := fun ρ => (a ρ).bind fun c ρ1 => .ok (!c) ρ1
variable {ca cb : M Bool} {rest : List Expr}
theorem pwd_and1 (ha : PTd X L a ca) : PWd X L (.BoolOp .And [a] pos) ca := ⟨fun W tk => pw_and1 (ha.run W tk)⟩
theorem pwd_or1 (ha : PTd X L a ca) : PWd X L (.BoolOp .Or [a] pos) ca := ⟨fun W tk => pw_or1 (ha.run W tk)⟩
theorem pwd_and (ha : PTd X L a ca) (hb : PWd X L (.BoolOp .And (b :: rest) pos) cb) : PWd X L (.BoolOp .And (a :: b :: rest) pos) (mAnd ca cb) :=
  ⟨fun W tk => PW.imp (pw_and (ha.run W tk) (hb.run W tk)) fun σ H Q ⟨R, ρ, tm, hL, S, h⟩ => ⟨R, ρ, tm, hL, S, (End.bind h).mono fun c ρ1 _ q H1 S1 => by
    cases c with
    | true => rw [if_pos rfl] at q ⊢; exact ⟨R, ρ1, tm, hL, S1, q⟩
    | false => rw [if_neg Bool.false_ne_true] at q ⊢; exact q H1 S1⟩⟩
theorem pwd_or (ha : PTd X L a ca) (hb : PWd X L (.BoolOp .Or (b :: rest) pos) cb) : PWd X L (.BoolOp .Or (a :: b :: rest) pos) (mOr ca cb) :=
  ⟨fun W tk => PW.imp (pw_or (ha.run W tk) (hb.run W tk)) fun σ H Q ⟨R, ρ, tm, hL, S, h⟩ => ⟨R, ρ, tm, hL, S, (End.bind h).mono fun c ρ1 _ q H1 S1 => by
    cases c with
    | false => rw [if_neg Bool.false_ne_true] at q ⊢; exact ⟨R, ρ1, tm, hL, S1, q⟩
    | true => rw [if_pos rfl] at q ⊢; exact q H1 S1⟩⟩
theorem ptd_not (ha : PTd X L a ca) : PTd X L (.UnaryOp .Not a pos) (mNot ca) :=
  ⟨fun W tk => PT.imp (pt_not (ha.run W tk)) fun σ H Q ⟨R, ρ, tm, hL, S, h⟩ => ⟨R, ρ, tm, hL, S, (End.bind h).mono fun c ρ1 _ q H1 S1 => q H1 S1⟩⟩
/-- as values: all but the last True or False -/
def mAndV (a b : M T) : M T := fun ρ => (mTest a ρ).bind fun c ρ1 => if c = true then b ρ1 else .ok (.leaf (.bl false)) ρ1
def mOrV (a b : M T) : M T := fun ρ => (mTest a ρ).bind fun c ρ1 => if c = true then .ok (.leaf (.bl true)) ρ1 else b ρ1
def mNotV (a : M T) : M T := fun ρ => (mTest a ρ).bind fun c ρ1 => .ok (.leaf (.bl (!c))) ρ1
theorem ped_one {op : BoolOp} {m : M T} (h : PEd X L a m) : PEd X L (.BoolOp op [a] pos) m := ⟨fun W tk => pe_one (h.run W tk)⟩
theorem tem_testB {m : M T} {W : WX} {σ : L2.St} {H : Hp} {Q : VK} {k : Bool → Env → Res T} {P : Bool → Hp → Prop} (h : TEm (gx X) L W (fun ρ => (mTest m ρ).bind k) σ H Q)
    (hk : ∀ R ρ tm c H1, R.lent.map (·.1) = L → Sta (gx X) R σ ρ H1 tm → End (gx X) R σ tm W (toQ (gx X) R σ tm Q) (k c ρ) → P c H1) :
    TEm (gx X) L W m σ H fun x H1 => ∃ c, x = .bl c ∧ P c H1 := by
  obtain ⟨R, ρ, tm, hL, S, h⟩ := h
  refine tem_test ⟨R, ρ, tm, hL, S, (End.bind h).mono fun c ρ1 _ q H1 S1 => hk R ρ1 tm c H1 hL S1 q⟩
theorem ped_and (ha : PEd X L a ma) (hb : PEd X L (.BoolOp .And (b :: rest) pos) mb) : PEd X L (.BoolOp .And (a :: b :: rest) pos) (mAndV ma mb) :=
  ⟨fun W tk => PE.imp (pe_and (ha.run W tk) (hb.run W tk)) fun σ H Q h => tem_testB (P := fun c H1 => if c = true then TEm (gx X) L W mb σ H1 Q else Q (.bl false) H1) h fun R ρ tm c H1 hL S q => by
    cases c with
    | true => rw [if_pos rfl] at q ⊢; exact ⟨R, ρ, tm, hL, S, q⟩
    | false => rw [if_neg Bool.false_ne_true] at q ⊢; exact q _ H1 (S.with fun o => o.scal fun _ => rfl)⟩
theorem ped_or (ha : PEd X L a ma) (hb : PEd X L (.BoolOp .Or (b :: rest) pos) mb) : PEd X L (.BoolOp .Or (a :: b :: rest) pos) (mOrV ma mb) :=
  ⟨fun W tk => PE.imp (pe_or (ha.run W tk) (hb.run W tk)) fun σ H Q h => tem_testB (P := fun c H1 => if c = true then Q (.bl true) H1 else TEm (gx X) L W mb σ H1 Q) h fun R ρ tm c H1 hL S q => by
    cases c with
    | false => rw [if_neg Bool.false_ne_true] at q ⊢; exact ⟨R, ρ, tm, hL, S, q⟩
    | true => rw [if_pos rfl] at q ⊢; exact q _ H1 (S.with fun o => o.scal fun _ => rfl)⟩
theorem ped_not (ha : PEd X L a ma) : PEd X L (.UnaryOp .Not a pos) (mNotV ma) :=
  ⟨fun W tk => PE.imp (pe_not (ha.run W tk)) fun σ H Q h => tem_testB (P := fun c H1 => Q (.bl (!c)) H1) h fun R ρ tm c H1 hL S q => q _ H1 (S.with fun o => o.scal fun _ => rfl)⟩
/-- a if t else b -/
def mIfE (c : M Bool) (a b : M T) : M T := fun ρ => (c ρ).bind fun k ρ1 => if k = true then a ρ1 else b ρ1
theorem ped_ifE {c : Expr} (hc : PTd X L c ca) (ha : PEd X L a ma) (hb : PEd X L b mb) : PEd X L (.IfExp c a b pos) (mIfE ca ma mb) :=
  ⟨fun W tk => PE.imp (pe_ifExp (hc.run W tk) (ha.run W tk) (hb.run W tk)) fun σ H Q ⟨R, ρ, tm, hL, S, h⟩ => ⟨R, ρ, tm, hL, S, (End.bind h).mono fun c ρ1 _ q H1 S1 => by
    cases c with
    | true => rw [if_pos rfl] at q ⊢; exact ⟨R, ρ1, tm, hL, S1, q⟩
    | false => rw [if_neg Bool.false_ne_true] at q ⊢; exact ⟨R, ρ1, tm, hL, S1, q⟩⟩⟩
end

/-! ### argument lists, displays -/
/-- arguments from the left -/
def mArgs : List (M T) → Env → Res (List T)
  | [], ρ => .ok [] ρ
  | m :: ms, ρ => (m ρ).bind fun t ρ1 => (mArgs ms ρ1).bind fun ts ρ2 => .ok (t :: ts) ρ2
def toA (G : Gx) (R : Fr) (σ : L2.St) (tm : List Item) (Q : List V → Hp → Prop) : List T → Env → Prop := fun ts ρ => ∀ vs H, vs.length = ts.length → Sta G R σ ρ H (vs.zip ts ++ tm) → Q vs H
def TAm (G : Gx) (L : List Nat) (W : WX) (m : Env → Res (List T)) : TA := fun σ H Q => ∃ R ρ tm, R.lent.map (·.1) = L ∧ Sta G R σ ρ H tm ∧ End G R σ tm W (toA G R σ tm Q) (m ρ)
structure PAd (X : Cx) (L : List Nat) (es : List Expr) (ms : List (M T)) : Prop where
  run : ∀ W, L2N.Takes X W → PA X es (TAm (gx X) L W (mArgs ms))
theorem PA.imp {X : Cx} {es : List Expr} {t t' : TA} (h : PA X es t) (f : ∀ σ H Q, t' σ H Q → t σ H Q) : PA X es t' := ⟨fun pos pins s σ H Q I q => h.run pos pins s σ H Q I (f _ _ _ q)⟩
section
variable {X : Cx} {L : List Nat} {e : Expr} {es : List Expr} {m : M T} {ms : List (M T)} {pos : Pos}
theorem pad_nil : PAd X L [] [] := ⟨fun W _ => PA.imp pa_nil fun σ H Q ⟨R, ρ, tm, _, S, h⟩ => h [] H rfl S⟩
theorem pad_cons (he : PEd X L e m) (hs : PAd X L es ms) (hq : starEach (e :: es) X.env = (false, eval e X.env) :: starEach es X.env := by rfl) : PAd X L (e :: es) (m :: ms) :=
  ⟨fun W tk => PA.imp (pa_cons (he.run W tk) (hs.run W tk) hq) fun σ H Q ⟨R, ρ, tm, hL, S, h⟩ => by
    refine ⟨R, ρ, tm, hL, S, (End.bind h).mono fun t ρ1 _ q x H1 S1 => ?_⟩
    refine ⟨R, ρ1, (x, t) :: tm, hL, S1, ((End.bind q).push (x, t)).mono fun ts ρ2 _ q2 xs H2 hl S2 => ?_⟩
    refine q2 (x :: xs) H2 (by simp [hl]) ⟨S2.fits, S2.lent, S2.own.perm (List.Perm.append_left _ ?_)⟩
    exact perm_mid _ _ _⟩
def mTup (ms : List (M T)) : M T := fun ρ => (mArgs ms ρ).bind fun ts ρ1 => if ts.length ≤ 16000000 then .ok (.leaf (.tup (ts.map T.toD))) ρ1 else .stuck
def mLst (ms : List (M T)) : M T := fun ρ => (mArgs ms ρ).bind fun ts ρ1 => if ts.length ≤ 16000000 then .ok (.node ts) ρ1 else .stuck
theorem line16 {n : Nat} (h : n ≤ 16000000) : n ≤ sizeLine := by rw [sizeLine_eq]; omega
/-- values of a list of owned things, as data -/
theorem Own.freezeAll {G : Gx} {R : Fr} {H : Hp} {its : List Item} : ∀ {vs : List V} {ts : List T}, vs.length = ts.length → Own G R H (vs.zip ts ++ its) → Own G R H (vs.zip (ts.map fun t => T.leaf t.toD) ++ its)
  | [], [], _, h => h
  | v :: vs, t :: ts, hl, h => by
    have h1 : Own G R H (vs.zip ts ++ ((v, .leaf t.toD) :: its)) := (Own.freeze h).perm (perm_mid _ _ _).symm
    have h2 := Own.freezeAll (by simpa using hl) h1
    exact h2.perm (perm_mid _ _ _)
  | [], _ :: _, hl, _ => by simp at hl
  | _ :: _, [], hl, _ => by simp at hl
theorem OwnF.reps {G : Gx} {R : Fr} {H : Hp} {its : List Item} {F : List Addr} : ∀ {vs : List V} {ds : List D}, vs.length = ds.length → OwnF G R H (vs.zip (ds.map T.leaf) ++ its) F → Reps G (R.msk H F) ds vs
  | [], [], _, _ => rfl
  | v :: vs, d :: ds, hl, h => ⟨v, vs, rfl, OwnF.head h, OwnF.reps (by simpa using hl) (OwnF.tail h)⟩
  | [], _ :: _, hl, _ => by simp at hl
  | _ :: _, [], hl, _ => by simp at hl
theorem OwnF.tails {G : Gx} {R : Fr} {H : Hp} {its : List Item} {F : List Addr} : ∀ {vs : List V} {ds : List D}, vs.length = ds.length → OwnF G R H (vs.zip (ds.map T.leaf) ++ its) F → OwnF G R H its F
  | [], [], _, h => h
  | v :: vs, d :: ds, hl, h => OwnF.tails (by simpa using hl) (OwnF.tail h)
  | [], _ :: _, hl, _ => by simp at hl
  | _ :: _, [], hl, _ => by simp at hl
theorem Sta.frontL {G : Gx} {R : Fr} {σ : L2.St} {ρ : Env} {H : Hp} {l tm : List Item} (S : Sta G R σ ρ H (l ++ tm)) : Own G R H (l ++ (items σ ρ ++ tm)) := S.own.perm (by
  rw [← List.append_assoc, ← List.append_assoc]; exact List.Perm.append_right _ List.perm_append_comm)
theorem Sta.backL {G : Gx} {R : Fr} {σ : L2.St} {ρ : Env} {H : Hp} {l tm : List Item} (f : Fits σ ρ) (l' : ∀ p ∈ R.lent, σ[p.1]? = some (some p.2)) (h : Own G R H (l ++ (items σ ρ ++ tm))) : Sta G R σ ρ H (l ++ tm) := ⟨f, l', h.perm (by
  rw [← List.append_assoc, ← List.append_assoc]; exact List.Perm.append_right _ List.perm_append_comm)⟩
theorem ped_tup {k : Nat} (h : PAd X L es ms) : PEd X L (.Tuple es k pos) (mTup ms) :=
  ⟨fun W tk => PE.imp (pe_tup (h.run W tk)) fun σ H Q ⟨R, ρ, tm, hL, S, h⟩ => ⟨R, ρ, tm, hL, S, (End.bind h).mono fun ts ρ1 _ q vs H1 hl S1 => by
    by_cases hz : ts.length ≤ 16000000
    · rw [if_pos hz] at q
      refine ⟨by rw [hl]; exact line16 hz, fun p hp => q (.ref p) _ (Sta.back S1.fits S1.lent ?_)⟩
      have o := Own.freezeAll hl S1.frontL
      have e : ts.map (fun t => T.leaf t.toD) = (ts.map T.toD).map T.leaf := by rw [List.map_map]; rfl
      rw [e] at o
      obtain ⟨F, o⟩ := o
      have hl2 : vs.length = (ts.map T.toD).length := by rw [List.length_map]; exact hl
      exact ⟨F, OwnF.newTup (OwnF.tails hl2 o) hp (OwnF.reps hl2 o)⟩
    · rw [if_neg hz] at q; exact q.elim⟩⟩
theorem ped_lst (h : PAd X L es ms) : PEd X L (.List es pos) (mLst ms) :=
  ⟨fun W tk => PE.imp (pe_lst (h.run W tk)) fun σ H Q ⟨R, ρ, tm, hL, S, h⟩ => ⟨R, ρ, tm, hL, S, (End.bind h).mono fun ts ρ1 _ q vs H1 hl S1 => by
    by_cases hz : ts.length ≤ 16000000
    · rw [if_pos hz] at q
      exact ⟨by rw [hl]; exact line16 hz, fun p hp => q (.ref p) _ (Sta.back S1.fits S1.lent (Own.newLst S1.frontL hl hp))⟩
    · rw [if_neg hz] at q; exact q.elim⟩⟩
end

/-! ### statements -/
def mSeq (a b : SM) : SM := fun ρ => match a ρ with
  | .nx ρ1 => b ρ1
  | r => r
def mNext : SM := fun ρ => .nx ρ
def mBreak : SM := fun ρ => .bk ρ
def mCont : SM := fun ρ => .ct ρ
def Res.toS {α : Type} (r : Res α) (k : α → Env → SRes) : SRes := match r with
  | .ok a ρ => k a ρ
  | .exc c a d ρ => .exc c a d ρ
  | .stuck => .stuck
def putS (i : Nat) (t : T) (ρ : Env) : SRes := match ρ[i]? with
  | some _ => .nx (ρ.set i (some t))
  | none => .stuck
/-- name = e, the name's list owned; its data shared -/
def mSetO (i : Nat) (m : M T) : SM := fun ρ => (m ρ).toS fun t ρ1 => putS i t ρ1
def mSet (i : Nat) (m : M T) : SM := fun ρ => (m ρ).toS fun t ρ1 => putS i (.leaf t.toD) ρ1
def mRet (m : M T) : SM := fun ρ => (m ρ).toS fun t ρ1 => .rt t ρ1
def mRetN : SM := fun ρ => .rt (.leaf .non) ρ
def mDrop (m : M T) : SM := fun ρ => (m ρ).toS fun _ ρ1 => .nx ρ1
def mIf (c : M Bool) (a b : SM) : SM := fun ρ => (c ρ).toS fun k ρ1 => if k = true then a ρ1 else b ρ1
section
variable {X : Cx} {L : List Nat} {st : Stmt} {rest : List Stmt} {m1 m2 : SM} {e : Expr} {m : M T} {pos : Pos}
theorem EndS.seq {G : Gx} {R : Fr} {tm : List Item} {W : WX} {D : Ends} {a : SRes} {b : SM} {ρ : Env} (h : EndS G R tm W D (mSeq m1 b ρ)) : EndS G R tm W { D with nx := fun σ H => ∃ ρ1, Sta G R σ ρ1 H tm ∧ EndS G R tm W D (b ρ1) } (m1 ρ) := by
  unfold mSeq at h
  cases e : m1 ρ with
  | nx ρ1 => rw [e] at h; exact fun σ H S => ⟨ρ1, S, h⟩
  | rt t ρ1 => rw [e] at h; exact h
  | bk ρ1 => rw [e] at h; exact h
  | ct ρ1 => rw [e] at h; exact h
  | exc => rw [e] at h; exact h
  | stuck => rw [e] at h; exact h
theorem pbd_nil : PBd X L [] mNext := ⟨fun W _ _ => PSs.imp pss_nil fun D σ H ⟨R, ρ, tm, _, S, h⟩ => h σ H S⟩
theorem pbd_cons (h1 : PSd X L st m1) (h2 : PBd X L rest m2) : PBd X L (st :: rest) (mSeq m1 m2) :=
  ⟨fun W tk hp => PSs.imp (pss_cons (h1.run W tk hp) (h2.run W tk hp)) fun D σ H ⟨R, ρ, tm, hL, S, h⟩ => ⟨R, ρ, tm, hL, S, by
    have q := EndS.seq (a := m1 ρ) h
    cases e : m1 ρ with
    | nx ρ1 =>
      rw [e] at q
      intro σ' H' S'
      obtain ⟨ρ2, S2, q2⟩ := q σ' H' S'
      exact ⟨R, ρ2, tm, hL, S2, q2⟩
    | rt t ρ1 => rw [e] at q; exact q
    | bk ρ1 => rw [e] at q; exact q
    | ct ρ1 => rw [e] at q; exact q
    | exc => rw [e] at q; exact q
    | stuck => rw [e] at q; exact q⟩⟩
theorem pbd_one (h1 : PSd X L st m1) : PBd X L [st] m1 := ⟨fun W tk hp => pss_one (h1.run W tk hp)⟩
theorem psd_pass : PSd X L (.Pass pos) mNext := ⟨fun W _ _ => PS.imp ps_pass fun D σ H ⟨R, ρ, tm, _, S, h⟩ => h σ H S⟩
theorem psd_break : PSd X L (.Break pos) mBreak := ⟨fun W _ _ => PS.imp ps_break fun D σ H ⟨R, ρ, tm, _, S, h⟩ => h σ H S⟩
theorem psd_cont : PSd X L (.Continue pos) mCont := ⟨fun W _ _ => PS.imp ps_continue fun D σ H ⟨R, ρ, tm, _, S, h⟩ => h σ H S⟩
theorem psd_doc {x : Str} {j : Nat} {pos' : Pos} : PSd X L (.Expr (.Constant (.str x) j pos) pos') mNext := ⟨fun W _ _ => PS.imp ps_doc fun D σ H ⟨R, ρ, tm, _, S, h⟩ => h σ H S⟩
/-- an expression's end, a statement behind it -/
theorem tem_toS {W : WX} {D : Ends} {σ : L2.St} {H : Hp} {k : T → Env → SRes} {Q : VK} (h : TSm (gx X) L W (fun ρ => (m ρ).toS k) D σ H)
    (hk : ∀ R ρ tm v t H1, R.lent.map (·.1) = L → Sta (gx X) R σ ρ H1 ((v, t) :: tm) → EndS (gx X) R tm W D (k t ρ) → Q v H1) : TEm (gx X) L W m σ H Q := by
  obtain ⟨R, ρ, tm, hL, S, h⟩ := h
  refine ⟨R, ρ, tm, hL, S, ?_⟩
  cases e : m ρ with
  | ok t ρ1 => simp only [e, Res.toS] at h; exact fun v H1 S1 => hk R ρ1 tm v t H1 hL S1 h
  | exc => simp only [e, Res.toS] at h; exact h σ
  | stuck => simp only [e, Res.toS] at h; exact h
theorem ttm_toS {c : M Bool} {W : WX} {D : Ends} {σ : L2.St} {H : Hp} {k : Bool → Env → SRes} {Q : Bool → Hp → Prop} (h : TSm (gx X) L W (fun ρ => (c ρ).toS k) D σ H)
    (hk : ∀ R ρ tm b H1, R.lent.map (·.1) = L → Sta (gx X) R σ ρ H1 tm → EndS (gx X) R tm W D (k b ρ) → Q b H1) : TTm (gx X) L W c σ H Q := by
  obtain ⟨R, ρ, tm, hL, S, h⟩ := h
  refine ⟨R, ρ, tm, hL, S, ?_⟩
  cases e : c ρ with
  | ok t ρ1 => simp only [e, Res.toS] at h; exact fun H1 S1 => hk R ρ1 tm t H1 hL S1 h
  | exc => simp only [e, Res.toS] at h; exact h σ
  | stuck => simp only [e, Res.toS] at h; exact h
theorem put_ok {W : WX} {D : Ends} {R : Fr} {ρ : Env} {tm : List Item} {v : V} {t : T} {σ : L2.St} {H : Hp} {i : Nat} (hi : i ∉ R.lent.map (·.1)) (S : Sta (gx X) R σ ρ H ((v, t) :: tm)) (q : EndS (gx X) R tm W D (putS i t ρ)) : D.nx (σ.set i (some v)) H := by
  unfold putS at q
  split at q
  · rename_i o e
    exact q _ _ (S.store (List.getElem?_eq_some_iff.mp e).1 hi)
  · exact q.elim
/-- name = e: h is the rule's own «he ↦ ps_set .. he» -/
theorem psd_setO {i : Nat} (hi : i ∉ L) (he : PEd X L e m) (h : ∀ te, PE X e te → PS X st (tAsg te (gName i))) : PSd X L st (mSetO i m) :=
  ⟨fun W tk _ => PS.imp (h _ (he.run W tk)) fun D σ H q => tem_toS q fun R ρ tm v t H1 hL S q => put_ok (by rw [hL]; exact hi) S q⟩
theorem psd_set {i : Nat} (hi : i ∉ L) (he : PEd X L e m) (h : ∀ te, PE X e te → PS X st (tAsg te (gName i))) : PSd X L st (mSet i m) :=
  ⟨fun W tk _ => PS.imp (h _ (he.run W tk)) fun D σ H q => tem_toS q fun R ρ tm v t H1 hL S q => put_ok (by rw [hL]; exact hi) (Sta.back S.fits S.lent S.front.freeze) q⟩
theorem psd_ret (he : PEd X L e m) : PSd X L (.Return (some e) pos) (mRet m) :=
  ⟨fun W tk _ => PS.imp (ps_ret (he.run W tk)) fun D σ H q => tem_toS q fun R ρ tm v t H1 hL S q => q v σ H1 S⟩
theorem psd_retN : PSd X L (.Return none pos) mRetN :=
  ⟨fun W tk _ => PS.imp ps_retN fun D σ H ⟨R, ρ, tm, _, S, h⟩ => h .non σ H (S.with fun o => o.scal fun _ => rfl)⟩
theorem psd_expr (he : PEd X L e m) (hs : swapsWith e none pos.line X.env = pure false := by rfl) : PSd X L (.Expr e pos) (mDrop m) :=
  ⟨fun W tk _ => PS.imp (ps_expr (he.run W tk) hs) fun D σ H q => tem_toS q fun R ρ tm v t H1 hL S q => q σ H1 S.pop⟩
theorem psd_if {c : Expr} {cm : M Bool} {a b : List Stmt} (hc : PTd X L c cm) (ha : PBd X L a m1) (hb : PBd X L b m2) : PSd X L (.If c a b pos) (mIf cm m1 m2) :=
  ⟨fun W tk hp => PS.imp (ps_if (hc.run W tk) (ha.run W tk hp) (hb.run W tk hp)) fun D σ H q => ttm_toS q fun R ρ tm k H1 hL S q => by
    cases k with
    | true => rw [if_pos rfl] at q ⊢; exact ⟨R, ρ, tm, hL, S, q⟩
    | false => rw [if_neg Bool.false_ne_true] at q ⊢; exact ⟨R, ρ, tm, hL, S, q⟩⟩
end
end Q

/-! Defs: what a def promises, how it is called. -/
namespace Q
open PySem PySem.Spec PyProof.Rows L2

theorem Own.frame {G : Gx} {R : Fr} {H : Hp} {its rest : List Item} (h : Own G R H (its ++ rest)) (l : List (Nat × V)) :
    ∃ R' : Fr, R'.lent = l ∧ Own G R' H its ∧ ∀ H' its', Own G R' H' its' → Own G R H' (its' ++ rest) := by
  obtain ⟨F, h⟩ := h
  obtain ⟨Fa, Fb, e, h1, h2⟩ := Its.append.mp h.rep
  subst e
  have nd := List.nodup_append.mp h.nd
  have em : ∀ (H : Hp) (A : List Addr), mask H (A ++ (Fb ++ R.hid)) = mask H ((A ++ Fb) ++ R.hid) := fun H A => by rw [List.append_assoc]
  refine ⟨⟨H, Fa, Fb ++ R.hid, l⟩, rfl, ⟨Fa, nd.1, ?_, fun b hb => .inl hb, fun b o e _ => e, fun b hb m => ?_, fun b hb => ?_⟩, fun H' its' ⟨F', o⟩ => ?_⟩
  · show Its G H (mask H (Fa ++ (Fb ++ R.hid))) its Fa
    rw [em]; exact h1
  · rcases List.mem_append.mp m with m | m
    · exact nd.2.2 b hb b m rfl
    · exact h.dis b (List.mem_append_left _ hb) m
  · rcases List.mem_append.mp hb with m | m
    · obtain ⟨xs, e⟩ := h2.there b m
      exact ⟨_, e⟩
    · exact h.hid b m
  · have nA : ∀ b ∈ Fb, b ∉ Fa := fun b hb m => nd.2.2 b m b hb rfl
    have keep : ∀ b o, H b = some o → b ∉ Fa → H' b = some o := fun b u e n => o.old b u e n
    have nF : ∀ b o, H b = some o → b ∉ Fa → b ∉ F' := fun b u e n m => by
      rcases o.new b m with z | z
      · exact n z
      · have z' : H b = none := z
        rw [e] at z'; cases z'
    have r1 : Its G H' (mask H' (F' ++ (Fb ++ R.hid))) its' F' := o.rep
    rw [em] at r1
    refine ⟨F' ++ Fb, List.nodup_append.mpr ⟨o.nd, nd.2.1, fun b hb c hc z => ?_⟩, Its.append.mpr ⟨F', Fb, rfl, r1, h2.mono ?_ fun b hb => ?_⟩, fun b hb => ?_, fun b u e n => ?_, fun b hb => ?_, fun b hb => ?_⟩
    · subst z
      exact o.dis b hb (List.mem_append_left _ hc)
    · refine mask_mono fun b u e n => ?_
      have n1 : b ∉ Fa := fun m => n (List.mem_append_left _ (List.mem_append_left _ m))
      refine ⟨keep b u e n1, fun m => ?_⟩
      rcases List.mem_append.mp m with m | m
      · rcases List.mem_append.mp m with m | m
        · exact nF b u e n1 m
        · exact n (List.mem_append_left _ (List.mem_append_right _ m))
      · exact n (List.mem_append_right _ m)
    · obtain ⟨xs, e⟩ := h2.there b hb
      rw [keep b _ e (nA b hb), e]
    · rcases List.mem_append.mp hb with m | m
      · rcases o.new b m with z | z
        · exact h.new b (List.mem_append_left _ z)
        · by_cases q : b ∈ R.F0
          · exact .inl q
          · cases e : R.H0 b with
            | none => exact .inr rfl
            | some u =>
              have q2 := h.old b u e q
              have z' : H b = none := z
              rw [z'] at q2; cases q2
      · exact h.new b (List.mem_append_right _ m)
    · refine keep b u (h.old b u e n) fun m => ?_
      rcases h.new b (List.mem_append_left _ m) with z | z
      · exact n z
      · rw [e] at z; cases z
    · rcases List.mem_append.mp hb with m | m
      · exact fun z => o.dis b m (List.mem_append_right _ z)
      · exact h.dis b (List.mem_append_right _ m)
    · obtain ⟨u, e⟩ := h.hid b hb
      exact ⟨u, keep b u e fun m => h.dis b (List.mem_append_left _ m) hb⟩

inductive FRes where
  | ok (t : T) (ls : List T)
  | exc (c at' : Str) (d : D) (ls : List T)
  | stuck
def pick : List Nat → Env → Option (List T)
  | [], _ => some []
  | i :: is, ρ => match ρ[i]? with
    | some (some t) => (pick is ρ).map (t :: ·)
    | _ => none
def SRes.toF (lent : List Nat) : SRes → FRes
  | .nx ρ => match pick lent ρ with
    | some ls => .ok (.leaf .non) ls
    | none => .stuck
  | .rt t ρ => match pick lent ρ with
    | some ls => .ok t ls
    | none => .stuck
  | .exc c a d ρ => match pick lent ρ with
    | some ls => .exc c a d ls
    | none => .stuck
  | _ => .stuck
def env0 (n : Nat) (ts : List T) : Env := ts.map some ++ List.replicate (n - ts.length) none
/-- a def of n names, its parameters first, of which lent are handed in to be changed -/
def mkF (lent : List Nat) (n : Nat) (body : SM) : List T → FRes := fun ts => (body (env0 n ts)).toF lent
def lentV (lent : List Nat) (vs : List V) : List (Nat × V) := lent.filterMap fun i => vs[i]?.map fun v => (i, v)
/-- what a def promises: n parameters -/
def spF (G : Gx) (n : Nat) (lent : List Nat) (m : List T → FRes) : Sp := fun vs H Q E => ∃ (R : Fr) (ts : List T), vs.length = n ∧ ts.length = n ∧ R.lent = lentV lent vs ∧ Own G R H (vs.zip ts) ∧
  match m ts with
  | .ok t ls => ∀ v H', Own G R H' ((v, t) :: (R.lent.map (·.2)).zip ls) → Q v H'
  | .exc c at' d ls => ∀ C a v H', G.mg c = some (.ref C) → H' a = some (.xd [(at', v)]) → Own G R H' ((v, .leaf d) :: (R.lent.map (·.2)).zip ls) → E (.ref C) (some a) H'
  | .stuck => False

theorem pick_set {i : Nat} {o : Option T} : ∀ {is : List Nat} {ρ : Env}, i ∉ is → pick is (ρ.set i o) = pick is ρ
  | [], ρ, _ => rfl
  | j :: js, ρ, h => by
    have hj : i ≠ j := fun z => h (by rw [z]; exact List.mem_cons_self)
    unfold pick
    rw [List.getElem?_set_ne hj, pick_set fun m => h (List.mem_cons_of_mem _ m)]
theorem pick_own {G : Gx} {R : Fr} {H : Hp} {σ : L2.St} {tm : List Item} : ∀ {l : List (Nat × V)} {ρ : Env} {ls : List T}, (∀ p ∈ l, σ[p.1]? = some (some p.2)) → (l.map (·.1)).Nodup → pick (l.map (·.1)) ρ = some ls → Fits σ ρ → Own G R H (items σ ρ ++ tm) → Own G R H ((l.map (·.2)).zip ls ++ tm)
  | [], ρ, ls, _, _, e, _, h => by
    have e' : [] = ls := Option.some.inj e
    subst e'
    exact h.dropAll
  | p :: l, ρ, ls, hl, nd, e, f, h => by
    simp only [List.map_cons, pick] at e
    split at e
    · rename_i t et
      obtain ⟨v, e1, pm, f'⟩ := items_set_none f et
      have ev : v = p.2 := by have := hl p List.mem_cons_self; rw [e1] at this; simpa using this
      subst ev
      cases e2 : pick (l.map (·.1)) ρ with
      | none => rw [e2] at e; cases e
      | some ls' =>
        rw [e2] at e
        have e3 : t :: ls' = ls := Option.some.inj e
        subst e3
        have nd' : p.1 ∉ l.map (·.1) ∧ (l.map (·.1)).Nodup := List.nodup_cons.mp nd
        have h1 : Own G R H (items σ (ρ.set p.1 none) ++ ((p.2, t) :: tm)) := (h.perm (List.Perm.append_right _ pm)).perm (perm_mid _ _ _).symm
        have h2 := pick_own (l := l) (fun q hq => hl q (List.mem_cons_of_mem _ hq)) nd'.2 (by rw [pick_set nd'.1]; exact e2) f' h1
        exact h2.perm (perm_mid _ _ _)
    · cases e
theorem items_start : ∀ {vs : List V} {ts : List T} {k : Nat}, vs.length = ts.length → items (vs.map some ++ List.replicate k none) (ts.map some ++ List.replicate k none) = vs.zip ts ∧ Fits (vs.map some ++ List.replicate k none) (ts.map some ++ List.replicate k none)
  | [], [], 0, _ => ⟨rfl, trivial⟩
  | [], [], k + 1, _ => by
    have q := items_start (vs := []) (ts := []) (k := k) rfl
    exact ⟨q.1, by simp, q.2⟩
  | v :: vs, t :: ts, k, h => by
    have q := items_start (vs := vs) (ts := ts) (k := k) (by simpa using h)
    exact ⟨by simp only [List.map_cons, List.cons_append, items, List.zip_cons_cons, q.1], by simp, q.2⟩
  | [], _ :: _, _, h => by simp at h
  | _ :: _, [], _, h => by simp at h
theorem lentV_at {lent : List Nat} {vs : List V} : ∀ p ∈ lentV lent vs, vs[p.1]? = some p.2 := fun p hp => by
  obtain ⟨i, _, e⟩ := List.mem_filterMap.mp hp
  cases q : vs[i]? with
  | none => rw [q] at e; cases e
  | some v =>
    rw [q] at e
    have e' : (i, v) = p := Option.some.inj e
    subst e'
    exact q
theorem lentV_fst {vs : List V} : ∀ {lent : List Nat}, (∀ i ∈ lent, i < vs.length) → (lentV lent vs).map (·.1) = lent
  | [], _ => rfl
  | i :: is, h => by
    have hi := h i List.mem_cons_self
    have e : vs[i]? = some vs[i] := List.getElem?_eq_getElem hi
    unfold lentV
    rw [List.filterMap_cons, e]
    show i :: ((lentV is vs).map (·.1)) = i :: is
    rw [lentV_fst fun j hj => h j (List.mem_cons_of_mem _ hj)]
/-- HandS's FnOk where no repr is under way -/
structure FnG (P : Program) (w : World) (K : PySem.W.Frag) (mg : Str → Option Value) (base : Heap) (k : Nat) (f : Addr) (fd : FuncData) (ps : List Str) (sp : Sp) : Prop where
  len : ∀ vs H Q E, sp vs H Q E → vs.length = ps.length
  run : ∀ (A : Around) (outer : List PySem.Env) (s : Shared) (H : Hp) (args : Args) (us : List Value) (vs : List V) (Q : VK) (E : XK), A.guards = some [] → Room k A → Env0 P w K mg base A outer s H →
    BindsTo s fd args (ps.zip us) → Vals vs us → sp vs H Q E → codeAny (model P w) A (.call (.ref f) args) (CR (L2N.CX P w) outer P w H s Q E) s
theorem FnG.mono {P : Program} {w : World} {K : PySem.W.Frag} {mg : Str → Option Value} {base : Heap} {j k : Nat} {f : Addr} {fd : FuncData} {ps : List Str} {sp : Sp} (F : FnG P w K mg base j f fd ps sp) (h : j ≤ k) : FnG P w K mg base k f fd ps sp :=
  ⟨F.len, fun A o s H ar us vs Q E g r => F.run A o s H ar us vs Q E g (r.mono h)⟩
theorem fng_of {P : Program} {w : World} {K : PySem.W.Frag} {mg : Str → Option Value} {base : Heap} {x qual : Str} {st : Stmt} {f : Addr} {fd : FuncData} {N ps : List Str} {k : Nat} {sp : Sp} (F : Fun K x qual st f fd) (S : FnScope N ps (defScope st))
    (len : ∀ vs H Q E, sp vs H Q E → vs.length = ps.length)
    (hb : ∀ (cdv : Value) (A : Around) (outer : List PySem.Env) (s : Shared) (H : Hp) (vs : List V) (Q : VK) (E : XK), A.guards = some [] → Room k (A.deeper (envOfC qual (defScope st) s.heap.objs.size f cdv)) → sp vs H Q E →
      ∃ t, PSs (cxOf (L2N.CX P w) P w K mg base N qual (defScope st) f cdv A outer s H E) (defBody st) t ∧ t { nx := fun _ H' => Q .non H', rt := Q } (L2.start N vs) H) : FnG P w K mg base (k + 1) f fd ps sp := by
  obtain ⟨oc, od, kV, doc, pm, an, cdv, ct, osl, rfl, lk, hcd⟩ := F.ex
  refine ⟨len, fun A outer s H args us vs Q E hgd hr e0 hbind r hsp => ?_⟩
  have old : ∀ b o, base.get? b = some o → s.heap.get? b = some o := fun b o e => (e0.bs b o e).1
  have kin := e0.mod.kin.keeps old
  have par : ∀ y ∈ ps.zip us, (defScope st).names.lookup y.1 = some .local ∨ ((defScope st).names.lookup y.1 = some .cell ∧ ((cellsFrom (s.heap.objs.size + 1) (defScope st).names []).lookup y.1).isSome = true) :=
    fun y hy => (S.par y.1 (List.of_mem_zip hy).1).imp id fun q => ⟨q, PySem.W.cellsFrom_some _ _ _ (.inl q)⟩
  refine codeAny_call_function hr.depth (kin _ _ lk) rfl S.co S.gen rfl (PySem.W.codeRec_of kin hcd) (hbind _ _ _ _ (wpAny_newFunctionEnv_cells S.kind par fun env he s1 x => ?_))
  subst he
  refine ⟨(e0.mod.nolimit.keeps old).keeps x.toInCall.keep, codeAny_func ?_⟩
  obtain ⟨t, ht, hq⟩ := hb cdv A outer s H vs Q E hgd (hr.deeper _) hsp
  refine wpAny_mono (ht.run [] s1 _ H _ (inv_start S hr.hd e0 (len _ _ _ _ hsp) r x) hq) (fun fl s' hs => ?_) fun e s' hs => hs
  cases fl with
  | ret u => obtain ⟨v, σ', H', J, rv, q⟩ := hs; exact ⟨v, H', J.os, J.bare, J.base, J.hok, rv, q⟩
  | next => obtain ⟨σ', H', J, q⟩ := hs; exact ⟨V.non, H', J.os, J.bare, J.base, J.hok, rfl, q⟩
  | brk => obtain ⟨_, _, _, q⟩ := hs; exact q.elim
  | cont => obtain ⟨_, _, _, q⟩ := hs; exact q.elim
theorem run_fnG {X : Cx} {k : Nat} {f : Addr} {fd : FuncData} {ps : List Str} {sp : Sp} {E : XK} {pins : List (Addr × Obj)} {σ : L2.St} {H : Hp} {s : Shared} {Q : VK} {us : List Value} {vs : List V} (F : FnG X.prog X.w X.K X.mg X.base k f fd ps sp) (hgd : X.A.guards = some []) (hr : Room k X.A)
    (hb : Binds X.K fd ps []) (hx : PassesAt (L2N.CX X.prog X.w) X σ E) (I : Inv X pins σ H s) (r : Vals vs us) (h : sp vs H Q E) : wpAny (model X.prog X.w) X.A (call (.ref f) us) (EP X pins σ Q) X.xe s := by
  have b := hb s us I.kIn (by rw [List.append_nil, ← r.length]; exact F.len _ _ _ _ h)
  rw [List.append_nil] at b
  refine wpAny_call (codeAny_mono (F.run _ X.stack _ _ _ us vs _ _ hgd hr I.env0 b r h) fun res s' hq => ?_)
  rcases res with er | fl
  · exact hx pins H s er s' I hq
  · cases fl with
    | ret u => exact I.after hq
    | _ => exact hq.elim
theorem pe_callG {X : Cx} {k : Nat} {f : Addr} {fd : FuncData} {ps : List Str} {sp : Sp} {E : L2.St → XK} {x : Str} {e : Expr} {es : List Expr} {t : TA} {p pos : Pos} (F : FnG X.prog X.w X.K X.mg X.base k f fd ps sp) (hgd : X.A.guards = some []) (hr : Room k X.A) (hg : Gl X x) (hm : X.mg x = some (.ref f))
    (hk : PySem.W.keepIn X.K (.ref f) = true) (hb : Binds X.K fd ps []) (hx : ∀ σ, PassesAt (L2N.CX X.prog X.w) X σ (E σ)) (ha : PA X (e :: es) t) (hdb : (x == ("__debug__" : Str)) = false)
    (he : starEach (e :: es) X.env = (false, eval e X.env) :: starEach es X.env) (hpl : (backTo pos (starEach es X.env)).any (·.1) = false) : PE X (.Call (.Name x p) (e :: es) [] pos) (tCallS sp E t) :=
  ⟨fun pins s σ H Q I h => wpAny_Call_Name_kw (ld_glob I hg hm (PySem.W.callWith_K (h₀ := X.base) I.ok.mod.kin hk (thn (ha.run pos pins s σ H _ I h) fun us s1 ⟨_, _, I1, r, q⟩ => ⟨I1.kIn, run_fnG F hgd hr hb (hx σ) I1 r q⟩) he hpl) hdb)⟩
/-- THE RULE for a def -/
theorem fnd_ok {P : Program} {w : World} {K : PySem.W.Frag} {mg : Str → Option Value} {base : Heap} {x qual : Str} {st : Stmt} {f : Addr} {fd : FuncData} {N ps : List Str} {k : Nat} {lent : List Nat} {body : SM}
    (F : Fun K x qual st f fd) (S : FnScope N ps (defScope st)) (hl : lent.Nodup) (hl2 : ∀ i ∈ lent, i < ps.length)
    (hb : ∀ (cdv : Value) (A : Around) (outer : List PySem.Env) (s : Shared) (H : Hp) (E : XK), A.guards = some [] → Room k (A.deeper (envOfC qual (defScope st) s.heap.objs.size f cdv)) →
      PBd (cxOf (L2N.CX P w) P w K mg base N qual (defScope st) f cdv A outer s H E) lent (defBody st) body) :
    FnG P w K mg base (k + 1) f fd ps (spF ⟨K, mg⟩ ps.length lent (mkF lent N.length body)) := by
  refine fng_of F S (fun vs H Q E ⟨R, ts, h1, _⟩ => h1) fun cdv A outer s H vs Q E hgd hr ⟨R, ts, h1, h2, h3, h4, h5⟩ => ?_
  refine ⟨_, (hb cdv A outer s H E hgd hr).run (fun cls d _ H => E cls d H) (L2N.takes_of rfl rfl rfl rfl) (passes_of rfl), R, env0 N.length ts, [], ?_, ?_, ?_⟩
  · rw [h3]
    exact lentV_fst fun i hi => by rw [h1]; exact hl2 i hi
  · have q := items_start (vs := vs) (ts := ts) (k := N.length - ts.length) (h1.trans h2.symm)
    have es : L2.start N vs = vs.map some ++ List.replicate (N.length - ts.length) none := by unfold L2.start; rw [h1, h2]
    rw [es]
    refine ⟨q.2, fun p hp => ?_, ?_⟩
    · rw [h3] at hp
      have e := lentV_at p hp
      have hlt := (List.getElem?_eq_some_iff.mp e).1
      rw [List.getElem?_append_left (by simpa using hlt), List.getElem?_map, e]; rfl
    · unfold env0
      rw [q.1, List.append_nil]; exact h4
  · have hnd : (R.lent.map (·.1)).Nodup := by rw [h3, lentV_fst fun i hi => by rw [h1]; exact hl2 i hi]; exact hl
    have hfst : R.lent.map (·.1) = lent := by rw [h3]; exact lentV_fst fun i hi => by rw [h1]; exact hl2 i hi
    unfold mkF at h5
    cases e : body (env0 N.length ts) with
    | nx ρ =>
      rw [e] at h5
      simp only [SRes.toF] at h5
      cases e2 : pick lent ρ with
      | none => rw [e2] at h5; exact h5.elim
      | some ls =>
        rw [e2] at h5
        intro σ' H' S'
        have o := pick_own S'.lent hnd (by rw [hfst]; exact e2) S'.fits S'.own
        rw [List.append_nil] at o
        exact h5 .non H' (o.scal fun _ => rfl)
    | rt t ρ =>
      rw [e] at h5
      simp only [SRes.toF] at h5
      cases e2 : pick lent ρ with
      | none => rw [e2] at h5; exact h5.elim
      | some ls =>
        rw [e2] at h5
        intro v σ' H' S'
        have o := pick_own S'.lent hnd (by rw [hfst]; exact e2) S'.fits S'.own
        exact h5 v H' (o.perm List.perm_append_comm)
    | exc c a d ρ =>
      rw [e] at h5
      simp only [SRes.toF] at h5
      cases e2 : pick lent ρ with
      | none => rw [e2] at h5; exact h5.elim
      | some ls =>
        rw [e2] at h5
        intro σ' C a' v H' hm ha S'
        have o := pick_own S'.lent hnd (by rw [hfst]; exact e2) S'.fits S'.own
        exact h5 C a' v H' hm ha (o.perm List.perm_append_comm)
    | bk ρ => rw [e] at h5; exact h5.elim
    | ct ρ => rw [e] at h5; exact h5.elim
    | stuck => rw [e] at h5; exact h5.elim

/-! ### calls -/
inductive AM where
  | val (m : M T)
  | lend (i : Nat)
def AM.toM : AM → M T
  | .val m => m
  | .lend i => mMove i
def Lk (σ : L2.St) : List AM → List V → Prop
  | .lend i :: as, v :: vs => σ[i]? = some (some v) ∧ Lk σ as vs
  | .val _ :: as, _ :: vs => Lk σ as vs
  | _, _ => True
def TCm (G : Gx) (L : List Nat) (W : WX) (as : List AM) : TA := fun σ H Q => ∃ R ρ tm, R.lent.map (·.1) = L ∧ Sta G R σ ρ H tm ∧
  End G R σ tm W (fun ts ρ1 => ∀ vs H', vs.length = ts.length → Lk σ as vs → Sta G R σ ρ1 H' (vs.zip ts ++ tm) → Q vs H') (mArgs (as.map AM.toM) ρ)
structure PCd (X : Cx) (L : List Nat) (es : List Expr) (as : List AM) : Prop where
  run : ∀ W, L2N.Takes X W → PA X es (TCm (gx X) L W as)
def lendPos : Nat → List AM → List Nat
  | _, [] => []
  | n, .lend _ :: as => n :: lendPos (n + 1) as
  | n, .val _ :: as => lendPos (n + 1) as
def lendSlots : List AM → List Nat
  | [] => []
  | .lend i :: as => i :: lendSlots as
  | .val _ :: as => lendSlots as
def putBack : List Nat → List T → Env → Env
  | i :: is, t :: ts, ρ => putBack is ts (ρ.set i (some t))
  | _, _, ρ => ρ
/-- the slots that were lent out stand empty, each another -/
def freeS (ρ : Env) (is : List Nat) : Bool := is.all (fun i => match ρ[i]? with
  | some none => true
  | _ => false) && decide is.Nodup
def mCall (f : List T → FRes) (as : List AM) : M T := fun ρ => (mArgs (as.map AM.toM) ρ).bind fun ts ρ1 =>
  if freeS ρ1 (lendSlots as) = true then
    match f ts with
    | .ok t ls => if ls.length = (lendSlots as).length then .ok t (putBack (lendSlots as) ls ρ1) else .stuck
    | .exc c a d ls => if ls.length = (lendSlots as).length then .exc c a d (putBack (lendSlots as) ls ρ1) else .stuck
    | .stuck => .stuck
  else .stuck
section
variable {X : Cx} {L : List Nat} {e : Expr} {es : List Expr} {m : M T} {as : List AM} {pos : Pos}
theorem pcd_nil : PCd X L [] [] := ⟨fun W _ => PA.imp pa_nil fun σ H Q ⟨R, ρ, tm, _, S, h⟩ => h [] H rfl trivial S⟩
theorem pcd_val (he : PEd X L e m) (hs : PCd X L es as) (hq : starEach (e :: es) X.env = (false, eval e X.env) :: starEach es X.env := by rfl) : PCd X L (e :: es) (.val m :: as) :=
  ⟨fun W tk => PA.imp (pa_cons (he.run W tk) (hs.run W tk) hq) fun σ H Q ⟨R, ρ, tm, hL, S, h⟩ => by
    refine ⟨R, ρ, tm, hL, S, (End.bind h).mono fun t ρ1 _ q x H1 S1 => ?_⟩
    refine ⟨R, ρ1, (x, t) :: tm, hL, S1, ((End.bind q).push (x, t)).mono fun ts ρ2 _ q2 xs H2 hl lk S2 => ?_⟩
    exact q2 (x :: xs) H2 (by simp [hl]) lk ⟨S2.fits, S2.lent, S2.own.perm (List.Perm.append_left _ (perm_mid _ _ _))⟩⟩
theorem pcd_lend {i : Nat} {x : Str} (hv : PE X (.Name x pos) (tVar i)) (hs : PCd X L es as) (hq : starEach (.Name x pos :: es) X.env = (false, eval (.Name x pos) X.env) :: starEach es X.env := by rfl) : PCd X L (.Name x pos :: es) (.lend i :: as) :=
  ⟨fun W tk => PA.imp (pa_cons hv (hs.run W tk) hq) fun σ H Q ⟨R, ρ, tm, hL, S, h⟩ => by
    have h := End.bind h
    simp only [AM.toM, mMove] at h
    cases e : ρ[i]? with
    | none => rw [e] at h; exact h.elim
    | some o =>
      cases o with
      | none => rw [e] at h; exact h.elim
      | some t =>
        rw [e] at h
        obtain ⟨v, e1, S1⟩ := S.take e
        refine ⟨v, e1, R, _, (v, t) :: tm, hL, S1, ((End.bind h).push (v, t)).mono fun ts ρ2 _ q2 xs H2 hl lk S2 => ?_⟩
        exact q2 (v :: xs) H2 (by simp [hl]) ⟨e1, lk⟩ ⟨S2.fits, S2.lent, S2.own.perm (List.Perm.append_left _ (perm_mid _ _ _))⟩⟩
theorem lk_vals {σ : L2.St} : ∀ {as : List AM} {vs : List V} {n : Nat} {us : List V}, Lk σ as vs → vs.length = as.length → us.length = n → ∃ l : List (Nat × V), l.map (·.1) = lendSlots as ∧ (∀ p ∈ l, σ[p.1]? = some (some p.2)) ∧ l.map (·.2) = (lentV (lendPos n as) (us ++ vs)).map (·.2)
  | [], [], n, us, _, _, _ => ⟨[], rfl, (fun _ h => by cases h), rfl⟩
  | .val m :: as, v :: vs, n, us, lk, hl, hn => by
    obtain ⟨l, h1, h2, h3⟩ := lk_vals (as := as) (vs := vs) (n := n + 1) (us := us ++ [v]) lk (by simpa using hl) (by simp [hn])
    refine ⟨l, h1, h2, ?_⟩
    rw [h3]
    show _ = (lentV (lendPos (n + 1) as) (us ++ v :: vs)).map (·.2)
    rw [List.append_assoc]; rfl
  | .lend i :: as, v :: vs, n, us, lk, hl, hn => by
    obtain ⟨l, h1, h2, h3⟩ := lk_vals (as := as) (vs := vs) (n := n + 1) (us := us ++ [v]) lk.2 (by simpa using hl) (by simp [hn])
    refine ⟨(i, v) :: l, by simp [lendSlots, h1], fun p hp => ?_, ?_⟩
    · rcases List.mem_cons.mp hp with z | z
      · rw [z]; exact lk.1
      · exact h2 p z
    · have e : (us ++ v :: vs)[n]? = some v := by rw [List.getElem?_append_right (by omega)]; simp [hn]
      show v :: l.map (·.2) = ((n :: lendPos (n + 1) as).filterMap fun i => (us ++ v :: vs)[i]?.map fun v => (i, v)).map (·.2)
      rw [List.filterMap_cons, e, h3]
      show _ = v :: (lentV (lendPos (n + 1) as) (us ++ v :: vs)).map (·.2)
      rw [List.append_assoc]; rfl
  | [], _ :: _, _, _, _, h, _ => by simp at h
  | _ :: _, [], _, _, _, h, _ => by simp at h
/-- lent slots are filled again -/
theorem put_back {G : Gx} {R : Fr} {σ : L2.St} {H : Hp} {tm : List Item} : ∀ {l : List (Nat × V)} {ls : List T} {ρ : Env}, (∀ p ∈ l, σ[p.1]? = some (some p.2)) → (l.map (·.1)).Nodup → (∀ i ∈ l.map (·.1), ρ[i]? = some none) → ls.length = l.length →
    Sta G R σ ρ H ((l.map (·.2)).zip ls ++ tm) → Sta G R σ (putBack (l.map (·.1)) ls ρ) H tm
  | [], ls, ρ, _, _, _, hl, S => by
    have : ls = [] := List.length_eq_zero_iff.mp hl
    subst this
    exact S
  | p :: l, t :: ls, ρ, h1, nd, h2, hl, S => by
    have nd' : p.1 ∉ l.map (·.1) ∧ (l.map (·.1)).Nodup := List.nodup_cons.mp nd
    have hp := h2 p.1 List.mem_cons_self
    have e : ρ.set p.1 none = ρ := List.ext_getElem? fun j => by
      by_cases hj : p.1 = j
      · subst hj
        obtain ⟨hlt, _⟩ := List.getElem?_eq_some_iff.mp hp
        rw [List.getElem?_set_self hlt, hp]
      · rw [List.getElem?_set_ne hj]
    have S' : Sta G R σ (ρ.set p.1 none) H ((p.2, t) :: ((l.map (·.2)).zip ls ++ tm)) := by rw [e]; exact S
    have S2 := S'.put S.fits (h1 p List.mem_cons_self)
    exact put_back (l := l) (fun q hq => h1 q (List.mem_cons_of_mem _ hq)) nd'.2 (fun i hi => by
      rw [List.getElem?_set_ne (fun (z : p.1 = i) => nd'.1 (by rw [z]; exact hi))]
      exact h2 i (List.mem_cons_of_mem _ hi)) (by simpa using hl) S2
  | p :: l, [], _, _, _, _, hl, _ => by simp at hl
theorem freeS_of {ρ : Env} {is : List Nat} (h : freeS ρ is = true) : (∀ i ∈ is, ρ[i]? = some none) ∧ is.Nodup := by
  unfold freeS at h
  rw [Bool.and_eq_true] at h
  refine ⟨fun i hi => ?_, of_decide_eq_true h.2⟩
  have q := List.all_eq_true.mp h.1 i hi
  split at q
  · assumption
  · cases q
theorem args_length : ∀ {ms : List (M T)} {ρ ρ1 : Env} {ts : List T}, mArgs ms ρ = .ok ts ρ1 → ts.length = ms.length
  | [], ρ, ρ1, ts, h => by simp only [mArgs, Res.ok.injEq] at h; rw [← h.1]; rfl
  | m :: ms, ρ, ρ1, ts, h => by
    simp only [mArgs] at h
    cases e : m ρ with
    | ok t ρ2 =>
      rw [e, bind_ok] at h
      cases e2 : mArgs ms ρ2 with
      | ok ts' ρ3 =>
        rw [e2, bind_ok] at h
        cases h
        simp [args_length e2]
      | exc => rw [e2] at h; cases h
      | stuck => rw [e2] at h; cases h
    | exc => rw [e] at h; cases h
    | stuck => rw [e] at h; cases h
/-- the state behind a call -/
theorem call_sta {G : Gx} {R : Fr} {σ : L2.St} {ρ : Env} {H' : Hp} {tm : List Item} {l : List (Nat × V)} {ls : List T} {v : V} {t : T} (h1 : ∀ p ∈ l, σ[p.1]? = some (some p.2)) (nd : (l.map (·.1)).Nodup) (h2 : ∀ i ∈ l.map (·.1), ρ[i]? = some none) (hl : ls.length = l.length)
    (f : Fits σ ρ) (le : ∀ p ∈ R.lent, σ[p.1]? = some (some p.2)) (o : Own G R H' (((v, t) :: (l.map (·.2)).zip ls) ++ (items σ ρ ++ tm))) : Sta G R σ (putBack (l.map (·.1)) ls ρ) H' ((v, t) :: tm) := by
  refine put_back h1 nd h2 hl (Sta.backL f le ?_)
  refine o.perm ?_
  rw [← List.append_assoc (l.map (·.2) |>.zip ls) (items σ ρ) ((v, t) :: tm)]
  refine List.Perm.trans ?_ (perm_mid _ _ _).symm
  rw [List.append_assoc]
  exact .refl _
theorem ped_call {k : Nat} {f : Addr} {fd : FuncData} {ps : List Str} {lent : List Nat} {mf : List T → FRes} {x : Str} {p : Pos}
    (F : FnG X.prog X.w X.K X.mg X.base k f fd ps (spF (gx X) ps.length lent mf)) (hgd : X.A.guards = some []) (hr : Room k X.A) (hg : Gl X x) (hm : X.mg x = some (.ref f)) (hk : PySem.W.keepIn X.K (.ref f) = true) (hb : Binds X.K fd ps [])
    (ha : PCd X L (e :: es) as) (hlent : lendPos 0 as = lent) (hn : as.length = ps.length) (hdb : (x == ("__debug__" : Str)) = false := by decide)
    (he : starEach (e :: es) X.env = (false, eval e X.env) :: starEach es X.env := by rfl) (hpl : (backTo pos (starEach es X.env)).any (·.1) = false := by rfl) :
    PEd X L (.Call (.Name x p) (e :: es) [] pos) (mCall mf as) := by
  refine ⟨fun W tk => PE.imp (pe_callG F hgd hr hg hm hk hb (fun σ => L2N.passAt tk σ) (ha.run W tk) hdb he hpl) fun σ H Q ⟨R, ρ, tm, hL, S, h⟩ => ?_⟩
  refine ⟨R, ρ, tm, hL, S, (End.bind h).mono fun ts ρ1 ets q vs H1 hl lk S1 => ?_⟩
  have hts : ts.length = as.length := by rw [args_length ets, List.length_map]
  by_cases hfree : freeS ρ1 (lendSlots as) = true
  · rw [if_pos hfree] at q
    obtain ⟨hf1, hf2⟩ := freeS_of hfree
    obtain ⟨l, l1, l2, l3⟩ := lk_vals (as := as) (vs := vs) (n := 0) (us := []) lk (by omega) rfl
    rw [List.nil_append, hlent] at l3
    obtain ⟨R', e1, o1, back⟩ := S1.frontL.frame (lentV lent vs)
    have ndl : (l.map (·.1)).Nodup := by rw [l1]; exact hf2
    have frl : ∀ i ∈ l.map (·.1), ρ1[i]? = some none := by rw [l1]; exact hf1
    have hll : l.length = (lendSlots as).length := by rw [← l1, List.length_map]
    refine ⟨R', ts, by omega, by omega, e1, o1, ?_⟩
    cases ef : mf ts with
    | ok t ls =>
      rw [ef] at q
      show ∀ v H', _
      intro v H' o2
      have o3 := back H' _ o2
      rw [e1, ← l3] at o3
      by_cases hls : ls.length = (lendSlots as).length
      · simp only [if_pos hls] at q
        have S2 := call_sta l2 ndl frl (by rw [hls, hll]) S1.fits S1.lent o3
        rw [l1] at S2
        exact q v H' S2
      · simp only [if_neg hls] at q; exact q.elim
    | exc c a d ls =>
      rw [ef] at q
      intro C a' v H' hm' ha' o2
      have o3 := back H' _ o2
      rw [e1, ← l3] at o3
      by_cases hls : ls.length = (lendSlots as).length
      · simp only [if_pos hls] at q
        have S2 := call_sta l2 ndl frl (by rw [hls, hll]) S1.fits S1.lent o3
        rw [l1] at S2
        exact q C a' v H' hm' ha' S2
      · simp only [if_neg hls] at q; exact q.elim
    | stuck => rw [ef] at q; exact q.elim
  · rw [if_neg hfree] at q; exact q.elim
/-- a call without arguments -/
theorem ped_call0 {k : Nat} {f : Addr} {fd : FuncData} {mf : List T → FRes} {x : Str} {p : Pos}
    (F : FnG X.prog X.w X.K X.mg X.base k f fd [] (spF (gx X) 0 [] mf)) (hgd : X.A.guards = some []) (hr : Room k X.A) (hg : Gl X x) (hm : X.mg x = some (.ref f)) (hk : PySem.W.keepIn X.K (.ref f) = true) (hb : Binds X.K fd [] [])
    (hdb : (x == ("__debug__" : Str)) = false := by decide) : PEd X L (.Call (.Name x p) [] [] pos) (mCall mf []) := by
  refine ⟨fun W tk => ⟨fun pins s σ H Q I ⟨R, ρ, tm, hL, S, q⟩ => ?_⟩⟩
  refine wpAny_Call_Name_kw (ld_glob I hg hm ?_ hdb)
  refine PySem.W.callWith_K0 I.kIn hk (run_fnG (us := []) (E := WE W σ) F hgd hr hb (L2N.passAt tk σ) I .nil ?_)
  obtain ⟨R', e1, o1, back⟩ := (Sta.frontL (l := []) S).frame ([] : List (Nat × V))
  refine ⟨R', [], rfl, rfl, e1, o1, ?_⟩
  have q : End (gx X) R σ tm W (toQ (gx X) R σ tm Q) (mCall mf [] ρ) := q
  simp only [mCall, List.map_nil, mArgs, bind_ok, lendSlots, freeS, List.all_nil, Bool.true_and, List.nodup_nil, decide_true, if_true, List.length_nil, putBack] at q
  cases ef : mf [] with
  | ok t ls =>
    rw [ef] at q
    intro v H' o2
    have o3 := back H' _ o2
    rw [e1] at o3
    by_cases hls : ls.length = 0
    · simp only [if_pos hls] at q
      have : ls = [] := List.length_eq_zero_iff.mp hls
      subst this
      exact q v H' (Sta.back S.fits S.lent o3)
    · simp only [if_neg hls] at q; exact q.elim
  | exc c a d ls =>
    rw [ef] at q
    intro C a' v H' hm' ha' o2
    have o3 := back H' _ o2
    rw [e1] at o3
    by_cases hls : ls.length = 0
    · simp only [if_pos hls] at q
      have : ls = [] := List.length_eq_zero_iff.mp hls
      subst this
      exact q C a' v H' hm' ha' (Sta.back S.fits S.lent o3)
    · simp only [if_neg hls] at q; exact q.elim
  | stuck => rw [ef] at q; exact q.elim
end
end Q

/-! Loops and comprehensions. -/
namespace Q
open PySem PySem.Spec PyProof.Rows L2

theorem Sta.dropL {G : Gx} {R : Fr} {σ : L2.St} {ρ : Env} {H : Hp} {l tm : List Item} (S : Sta G R σ ρ H (l ++ tm)) : Sta G R σ ρ H tm := ⟨S.fits, S.lent, S.frontL.dropAll⟩
theorem Sta.dropL1 {G : Gx} {R : Fr} {σ : L2.St} {ρ : Env} {H : Hp} {p : Item} {l tm : List Item} (S : Sta G R σ ρ H (p :: (l ++ tm))) : Sta G R σ ρ H (p :: tm) := by
  have S' : Sta G R σ ρ H (l ++ (p :: tm)) := ⟨S.fits, S.lent, S.own.perm (List.Perm.append_left _ (perm_mid _ _ _).symm)⟩
  exact S'.dropL
theorem ExcEnd.pushL {G : Gx} {R : Fr} {σ : L2.St} {tm : List Item} {W : WX} {c at' : Str} {d : D} {ρ : Env} (h : ExcEnd G R σ tm W c at' d ρ) (l : List Item) : ExcEnd G R σ (l ++ tm) W c at' d ρ :=
  fun C a v H hm ha S => h C a v H hm ha S.dropL1
theorem End.pushL {G : Gx} {R : Fr} {σ : L2.St} {tm : List Item} {W : WX} {α : Type} {P : α → Env → Prop} {r : Res α} (h : End G R σ tm W P r) (l : List Item) : End G R σ (l ++ tm) W P r := by
  cases r with
  | ok a ρ => exact h
  | exc => exact ExcEnd.pushL h l
  | stuck => exact h

theorem tk0 {X : Cx} : L2N.Takes X (fun _ _ _ _ => False) := fun _ _ x => by
  obtain ⟨_, _, _, _, _, _, _, _, _, _, _, _, _, _, _, _, z⟩ := x
  exact z.elim
/-! ### targets -/
abbrev TgM := D → Env → Option Env
structure PGd (X : Cx) (L sl : List Nat) (tg : Expr) (g : TG) (t : TgM) : Prop where
  pg : PG X tg g
  run : ∀ (R : Fr) (σ : L2.St) (ρ ρ' : Env) (H : Hp) (tm : List Item) (v : V) (d : D) (Q : L2.St → Hp → Prop), R.lent.map (·.1) = L → Sta (gx X) R σ ρ H ((v, .leaf d) :: tm) → t d ρ = some ρ' →
    (∀ σ', σ'.length = σ.length → (∀ j, j ∉ sl → σ'[j]? = σ[j]?) → Sta (gx X) R σ' ρ' H tm → Q σ' H) → g v σ H Q
def tgName (i : Nat) : TgM := fun d ρ => match ρ[i]? with
  | some _ => some (ρ.set i (some (.leaf d)))
  | none => none
def tgs : List TgM → List D → Env → Option Env
  | [], [], ρ => some ρ
  | t :: ts, d :: ds, ρ => (t d ρ).bind fun ρ1 => tgs ts ds ρ1
  | _, _, _ => none
def tgTup (ts : List TgM) : TgM := fun d ρ => match d with
  | .tup ds => tgs ts ds ρ
  | _ => none
section
variable {X : Cx} {L sl sl' : List Nat} {pos : Pos}
theorem pgd_name {i : Nat} {x : Str} (hi : i ∉ L) (h : PG X (.Name x pos) (gName i)) : PGd X L [i] (.Name x pos) (gName i) (tgName i) := ⟨h, fun R σ ρ ρ' H tm v d Q hL S e q => by
  unfold tgName at e
  cases e1 : ρ[i]? with
  | none => rw [e1] at e; cases e
  | some o =>
    rw [e1] at e
    cases e
    refine q _ (List.length_set ..) (fun j hj => List.getElem?_set_ne fun z => hj (by rw [z]; exact List.mem_cons_self)) (S.store (List.getElem?_eq_some_iff.mp e1).1 (by rw [hL]; exact hi))⟩
structure PGsd (X : Cx) (L sl : List Nat) (es : List Expr) (g : TGs) (ts : List TgM) : Prop where
  pg : PGs X es g
  run : ∀ (R : Fr) (σ : L2.St) (ρ ρ' : Env) (H : Hp) (tm : List Item) (vs : List V) (ds : List D) (Q : L2.St → Hp → Prop), R.lent.map (·.1) = L → vs.length = ds.length → Sta (gx X) R σ ρ H (vs.zip (ds.map T.leaf) ++ tm) → tgs ts ds ρ = some ρ' →
    (∀ σ', σ'.length = σ.length → (∀ j, j ∉ sl → σ'[j]? = σ[j]?) → Sta (gx X) R σ' ρ' H tm → Q σ' H) → g vs σ H Q
theorem pgsd_nil : PGsd X L [] [] gNil [] := ⟨pgs_nil, fun R σ ρ ρ' H tm vs ds Q hL hl S e q => by
  cases ds with
  | nil =>
    cases e
    have : vs = [] := List.length_eq_zero_iff.mp hl
    subst this
    exact ⟨rfl, q σ rfl (fun _ _ => rfl) S⟩
  | cons d ds => cases e⟩
theorem pgsd_cons {e : Expr} {es : List Expr} {g : TG} {gs : TGs} {t : TgM} {ts : List TgM} (h1 : PGd X L sl e g t) (h2 : PGsd X L sl' es gs ts) (hs : (assignEach (e :: es) X.env).map (·.2) = assign e X.env :: (assignEach es X.env).map (·.2) := by rfl) :
    PGsd X L (sl ++ sl') (e :: es) (gCons g gs) (t :: ts) := ⟨pgs_cons h1.pg h2.pg hs, fun R σ ρ ρ' H tm vs ds Q hL hl S e q => by
  cases ds with
  | nil => cases e
  | cons d ds =>
    cases vs with
    | nil => simp at hl
    | cons v vs =>
      have e' : (t d ρ).bind (fun ρ1 => tgs ts ds ρ1) = some ρ' := e
      cases e1 : t d ρ with
      | none => rw [e1] at e'; cases e'
      | some ρ1 =>
        rw [e1] at e'
        refine ⟨v, vs, rfl, h1.run R σ ρ ρ1 H (vs.zip (ds.map T.leaf) ++ tm) v d _ hL S e1 fun σ1 l1 k1 S1 => ?_⟩
        refine h2.run R σ1 ρ1 ρ' H tm vs ds Q hL (by simpa using hl) S1 e' fun σ2 l2 k2 S2 => q σ2 (l2.trans l1) (fun j hj => ?_) S2
        rw [k2 j fun m => hj (List.mem_append_right _ m), k1 j fun m => hj (List.mem_append_left _ m)]⟩
/-- a tuple's parts -/
theorem Own.parts {G : Gx} {R : Fr} {H : Hp} {its : List Item} {v : V} {ds : List D} (h : Own G R H ((v, .leaf (.tup ds)) :: its)) : ∃ a xs, v = .ref a ∧ SqT G.K H a xs ∧ xs.length = ds.length ∧ Own G R H (xs.zip (ds.map T.leaf) ++ its) := by
  obtain ⟨F, h⟩ := h
  obtain ⟨a, xs, e, hs, hr⟩ := h.head
  refine ⟨a, xs, e, SqT.same (mask_same _ _) hs, hr.length, F, h.nd, Its.append.mpr ⟨[], F, rfl, (zip_its (repTs_leaf hr)).1, h.tail.rep⟩, h.new, h.old, h.dis, h.hid⟩
theorem pgd_tup {es : List Expr} {k : Nat} {gs : TGs} {ts : List TgM} (hc : X.calm = true) (h : PGsd X L sl es gs ts) (hn : (assignEach es X.env).length = ts.length := by rfl) (hst : (assignEach es X.env).findIdx? (·.1) = none := by rfl) :
    PGd X L sl (.Tuple es k pos) (gTup X.K ts.length gs) (tgTup ts) := ⟨pg_tup hc h.pg hn hst, fun R σ ρ ρ' H tm v d Q hL S e q => by
  cases d with
  | tup ds =>
    obtain ⟨a, xs, e1, hs, hl, o⟩ := S.front.parts
    have hlen : ∀ {ts : List TgM} {ds : List D} {ρ ρ' : Env}, tgs ts ds ρ = some ρ' → ds.length = ts.length := by
      intro ts
      induction ts with
      | nil => intro ds ρ ρ' e; cases ds with
        | nil => rfl
        | cons _ _ => cases e
      | cons t ts ih =>
        intro ds ρ ρ' e
        cases ds with
        | nil => cases e
        | cons d ds =>
          have e' : (t d ρ).bind (fun ρ1 => tgs ts ds ρ1) = some ρ' := e
          cases e1 : t d ρ with
          | none => rw [e1] at e'; cases e'
          | some ρ1 => rw [e1] at e'; simp [ih e']
    exact ⟨a, xs, e1, hs, by rw [hl]; exact hlen e, h.run R σ ρ ρ' H tm xs ds Q hL hl (Sta.backL S.fits S.lent o) e q⟩
  | _ => cases e⟩
end

/-! ### what is walked -/
structure ItD (G : Gx) (tmI : List Item) (ds : List D) (J : It) : Prop where
  go : ∀ (R : Fr) (σ : L2.St) (ρ : Env) (H : Hp) (tm : List Item) (i : Nat), Sta G R σ ρ H (tmI ++ tm) → i < ds.length → J.go i H
  yld : ∀ (R : Fr) (σ : L2.St) (ρ : Env) (H H' : Hp) (tm : List Item) (i : Nat) (x : V) (d : D), Sta G R σ ρ H (tmI ++ tm) → J.yld i H x H' → ds[i]? = some d → Sta G R σ ρ H' ((x, .leaf d) :: (tmI ++ tm))
  stop : ∀ (R : Fr) (σ : L2.St) (ρ : Env) (H : Hp) (tm : List Item) (i : Nat), Sta G R σ ρ H (tmI ++ tm) → ds.length ≤ i → J.stop i H
def TIm (G : Gx) (L : List Nat) (W : WX) (m : M (List D)) : TI := fun σ H Q => ∃ R ρ tm, R.lent.map (·.1) = L ∧ Sta G R σ ρ H tm ∧
  End G R σ tm W (fun ds ρ1 => ∀ tmI J H1, ItD G tmI ds J → Sta G R σ ρ1 H1 (tmI ++ tm) → Q J H1) (m ρ)
structure PId (X : Cx) (L : List Nat) (tg iter : Expr) (m : M (List D)) : Prop where
  run : ∀ W, L2N.Takes X W → PI X tg iter (TIm (gx X) L W m)
theorem PI.imp {X : Cx} {tg e : Expr} {t t' : TI} (h : PI X tg e t) (f : ∀ σ H Q, t' σ H Q → t σ H Q) : PI X tg e t' := ⟨fun pins s σ H Q I q => h.run pins s σ H Q I (f _ _ _ q)⟩
/-- the items of a value that a for walks -/
def D.items? : D → Option (List D)
  | .lst ds => some ds
  | .fz ds => some ds
  | .tup ds => some ds
  | .str s => some (s.cps.toList.map fun c => .str ⟨#[c]⟩)
  | _ => none
def mIter (m : M T) : M (List D) := fun ρ => (m ρ).bind fun t ρ1 => match t.toD.items? with
  | some ds => .ok ds ρ1
  | none => .stuck
section
variable {X : Cx} {L : List Nat} {tg e : Expr} {m : M T}
theorem head_at {G : Gx} {R : Fr} {σ : L2.St} {ρ : Env} {H : Hp} {v : V} {d : D} {tm : List Item} (S : Sta G R σ ρ H ((v, .leaf d) :: tm)) : ∃ F, OwnF G R H ((v, .leaf d) :: (items σ ρ ++ tm)) F := S.front
theorem itd_of {G : Gx} {v : V} {d : D} {ds : List D} {J : It} (hg : ∀ H, Rep G H d v → ∀ i, i < ds.length → J.go i H) (hs : ∀ H, Rep G H d v → ∀ i, ds.length ≤ i → J.stop i H)
    (hy : ∀ H Hm i x H' e, Same Hm H → Rep G Hm d v → J.yld i H x H' → ds[i]? = some e → H' = H ∧ Rep G Hm e x) : ItD G [(v, .leaf d)] ds J where
  go := fun R σ ρ H tm i S hi => hg H S.front.rep i hi
  stop := fun R σ ρ H tm i S hi => hs H S.front.rep i hi
  yld := fun R σ ρ H H' tm i x e S y he => by
    obtain ⟨F, h⟩ := head_at S
    obtain ⟨e1, r⟩ := hy H _ i x H' e (mask_same _ _) h.head y he
    subst e1
    exact Sta.back S.fits S.lent (Own.perm (List.Perm.cons _ (perm_mid _ _ _).symm) ⟨F, h.add r⟩)
theorem itd_lst {G : Gx} {a : Addr} {d : D} {ds : List D} (hr : ∀ H, Rep G H d (.ref a) → ∃ xs, SqL G.K H a xs ∧ Reps G H ds xs) : ItD G [(.ref a, .leaf d)] ds (Itl G.K a) :=
  itd_of (fun H r i hi => by
    obtain ⟨xs, h1, h2⟩ := hr H r
    exact ⟨xs, xs[i]'(by rw [h2.length]; exact hi), h1, List.getElem?_eq_getElem _⟩) (fun H r i hi => by
    obtain ⟨xs, h1, h2⟩ := hr H r
    exact ⟨xs, h1, by rw [h2.length]; exact hi⟩) fun H Hm i x H' e s r y he => by
    obtain ⟨xs, h1, h2⟩ := hr Hm r
    obtain ⟨y1, y2⟩ := y
    obtain ⟨x', q1, q2⟩ := h2.get he
    rw [y2 xs (s.seq h1)] at q1
    cases q1
    exact ⟨y1, q2⟩
theorem itd_tup {G : Gx} {a : Addr} {ds : List D} : ItD G [(.ref a, .leaf (.tup ds))] ds (Itt G.K a) := by
  have hr : ∀ H, Rep G H (.tup ds) (.ref a) → ∃ xs, SqT G.K H a xs ∧ Reps G H ds xs := fun H ⟨a', xs, e, h1, h2⟩ => by
    cases e; exact ⟨xs, h1, h2⟩
  refine itd_of (fun H r i hi => ?_) (fun H r i hi => ?_) fun H Hm i x H' e s r y he => ?_
  · obtain ⟨xs, h1, h2⟩ := hr H r
    exact ⟨xs, xs[i]'(by rw [h2.length]; exact hi), h1, List.getElem?_eq_getElem _⟩
  · obtain ⟨xs, h1, h2⟩ := hr H r
    exact ⟨xs, h1, by rw [h2.length]; exact hi⟩
  · obtain ⟨xs, h1, h2⟩ := hr Hm r
    obtain ⟨y1, y2⟩ := y
    obtain ⟨x', q1, q2⟩ := h2.get he
    rw [y2 xs (SqT.same s h1)] at q1
    cases q1
    exact ⟨y1, q2⟩
theorem itd_str {G : Gx} {z : Str} : ItD G [(.str z, .leaf (.str z))] (z.cps.toList.map fun c => D.str ⟨#[c]⟩) (L2.Its z) :=
  itd_of (fun H r i hi => by rw [List.length_map, Array.length_toList] at hi; exact hi) (fun H r i hi => by rw [List.length_map, Array.length_toList] at hi; exact hi) fun H Hm i x H' e s r y he => by
    obtain ⟨y1, c, hc, y2⟩ := y
    rw [List.getElem?_map, Array.getElem?_toList, hc] at he
    cases he
    exact ⟨y1, y2⟩
theorem PI.or {X : Cx} {tg e : Expr} {t t' : TI} (h : PI X tg e t) (h' : PI X tg e t') : PI X tg e (fun σ H R => t σ H R ∨ t' σ H R) := ⟨fun pins s σ H R I q => q.elim (h.run pins s σ H R I) (h'.run pins s σ H R I)⟩
theorem pid_seq (h : PEd X L e m) : PId X L tg e (mIter m) :=
  ⟨fun W tk => PI.imp (PI.or (pi_list (h.run W tk)) (PI.or (pi_tup (h.run W tk)) (pi_str (h.run W tk)))) fun σ H R' ⟨R, ρ, tm, hL, S, q⟩ => by
    have q := End.bind q
    cases em : m ρ with
    | stuck => rw [em] at q; exact q.elim
    | exc c a d ρ1 =>
      rw [em] at q
      exact .inl ⟨R, ρ, tm, hL, S, by rw [em]; exact q⟩
    | ok t ρ1 =>
      rw [em] at q
      have q : End (gx X) R σ tm W (fun ds ρ1 => ∀ tmI J H1, ItD (gx X) tmI ds J → Sta (gx X) R σ ρ1 H1 (tmI ++ tm) → R' J H1) (match t.toD.items? with
        | some ds => .ok ds ρ1
        | none => .stuck) := q
      have fz : ∀ {v : V} {H1 : Hp}, Sta (gx X) R σ ρ1 H1 ((v, t) :: tm) → Sta (gx X) R σ ρ1 H1 ([(v, .leaf t.toD)] ++ tm) := fun S => Sta.back S.fits S.lent S.front.freeze
      cases ed : t.toD with
      | lst ds =>
        rw [ed] at q
        refine .inl ⟨R, ρ, tm, hL, S, ?_⟩
        rw [em]
        intro v H1 S1
        have S2 := fz S1
        rw [ed] at S2
        obtain ⟨a, xs, e1, h1, h2⟩ := S2.front.rep
        subst e1
        exact ⟨a, rfl, ⟨xs, SqL.of h1⟩, q _ _ _ (itd_lst (d := .lst ds) fun H r => by
          obtain ⟨a', xs, e, h1, h2⟩ := r
          cases e
          exact ⟨xs, SqL.of h1, h2⟩) S2⟩
      | fz ds =>
        rw [ed] at q
        refine .inl ⟨R, ρ, tm, hL, S, ?_⟩
        rw [em]
        intro v H1 S1
        have S2 := fz S1
        rw [ed] at S2
        obtain ⟨a, xs, e1, h1, h2⟩ := S2.front.rep
        subst e1
        exact ⟨a, rfl, ⟨xs, h1⟩, q _ _ _ (itd_lst (d := .fz ds) fun H r => by
          obtain ⟨a', xs, e, h1, h2⟩ := r
          cases e
          exact ⟨xs, h1, h2⟩) S2⟩
      | tup ds =>
        rw [ed] at q
        refine .inr (.inl ⟨R, ρ, tm, hL, S, ?_⟩)
        rw [em]
        intro v H1 S1
        have S2 := fz S1
        rw [ed] at S2
        obtain ⟨a, xs, e1, h1, h2⟩ := S2.front.rep
        subst e1
        exact ⟨a, rfl, ⟨xs, h1⟩, q _ _ _ itd_tup S2⟩
      | str z =>
        rw [ed] at q
        refine .inr (.inr ⟨R, ρ, tm, hL, S, ?_⟩)
        rw [em]
        intro v H1 S1
        have S2 := fz S1
        rw [ed] at S2
        have e1 : v = .str z := S2.front.rep
        subst e1
        exact ⟨z, rfl, q _ _ _ itd_str S2⟩
      | non => rw [ed] at q; exact q.elim
      | bl b => rw [ed] at q; exact q.elim
      | int i => rw [ed] at q; exact q.elim
      | glo x => rw [ed] at q; exact q.elim⟩

/-! ### ranges -/
def rangeD (lo : Int) (n : Nat) : List D := (List.range n).map fun i => .int (lo + (i : Nat))
def small62 (i : Int) : Bool := decide (-(2 ^ 62) ≤ i) && decide (i < 2 ^ 62)
def mRange1 (ms : List (M T)) : M (List D) := fun ρ => (mArgs ms ρ).bind fun ts ρ1 => match ts with
  | [.leaf (.int j)] => if small62 j = true then .ok (rangeD 0 j.toNat) ρ1 else .stuck
  | _ => .stuck
def mRange2 (ms : List (M T)) : M (List D) := fun ρ => (mArgs ms ρ).bind fun ts ρ1 => match ts with
  | [.leaf (.int i), .leaf (.int j)] => if (small62 i && small62 j) = true then .ok (rangeD i (j - i).toNat) ρ1 else .stuck
  | _ => .stuck
theorem small62_of {i : Int} (h : small62 i = true) : -(2 ^ 62) ≤ i ∧ i < 2 ^ 62 := by
  unfold small62 at h
  rw [Bool.and_eq_true] at h
  exact ⟨of_decide_eq_true h.1, of_decide_eq_true h.2⟩
theorem itd_range {G : Gx} {lo : Int} {n : Nat} : ItD G [] (rangeD lo n) (Itr lo n) where
  go := fun R σ ρ H tm i S hi => (by simpa [rangeD] using hi : i < n)
  stop := fun R σ ρ H tm i S hi => (by simpa [rangeD] using hi : n ≤ i)
  yld := fun R σ ρ H H' tm i x d S y hd => by
    obtain ⟨e1, e2⟩ := y
    subst e1 e2
    unfold rangeD at hd
    rw [List.getElem?_map] at hd
    cases e : (List.range n)[i]? with
    | none => rw [e] at hd; cases hd
    | some k =>
      rw [e] at hd
      cases hd
      obtain ⟨hlt, ek⟩ := List.getElem?_eq_some_iff.mp e
      rw [List.getElem_range] at ek
      subst ek
      exact S.with fun o => o.scal fun _ => rfl
theorem pid_range1 {ms : List (M T)} {p pos : Pos} (hg : Gl X "range") (hm : X.mg "range" = none) (ha : PAd X L [e] ms) (hs : starEach [e] X.env = [(false, eval e X.env)] := by rfl) : PId X L tg (.Call (.Name "range" p) [e] [] pos) (mRange1 ms) :=
  ⟨fun W tk => PI.imp (pi_range1 hg hm (ha.run W tk) hs) fun σ H R' ⟨R, ρ, tm, hL, S, q⟩ => ⟨R, ρ, tm, hL, S, (End.bind q).mono fun ts ρ1 ets q vs H1 hl S1 => by
    clear ets
    split at q
    · rename_i j
      by_cases hj : small62 j = true
      · rw [if_pos hj] at q
        obtain ⟨v, rfl⟩ : ∃ v, vs = [v] := by
          cases vs with
          | nil => simp at hl
          | cons v r => cases r with
            | nil => exact ⟨v, rfl⟩
            | cons _ _ => simp at hl
        have ev : v = .int j := (show Sta (gx X) R σ ρ1 H1 ((v, .leaf (.int j)) :: tm) from S1).front.rep
        subst ev
        obtain ⟨h1, h2⟩ := small62_of hj
        exact ⟨j, rfl, h1, h2, q [] _ _ itd_range (Sta.pop S1)⟩
      · rw [if_neg hj] at q; exact q.elim
    · exact q.elim⟩⟩
theorem pid_range2 {e2 : Expr} {ms : List (M T)} {p pos : Pos} (hg : Gl X "range") (hm : X.mg "range" = none) (ha : PAd X L [e, e2] ms) (hs : starEach [e, e2] X.env = [(false, eval e X.env), (false, eval e2 X.env)] := by rfl) (hs2 : starEach [e2] X.env = [(false, eval e2 X.env)] := by rfl) : PId X L tg (.Call (.Name "range" p) [e, e2] [] pos) (mRange2 ms) :=
  ⟨fun W tk => PI.imp (pi_range2 hg hm (ha.run W tk) hs hs2) fun σ H R' ⟨R, ρ, tm, hL, S, q⟩ => ⟨R, ρ, tm, hL, S, (End.bind q).mono fun ts ρ1 ets q vs H1 hl S1 => by
    clear ets
    split at q
    · rename_i i j
      by_cases hj : (small62 i && small62 j) = true
      · rw [if_pos hj] at q
        rw [Bool.and_eq_true] at hj
        obtain ⟨v, w, rfl⟩ : ∃ v w, vs = [v, w] := by
          cases vs with
          | nil => simp at hl
          | cons v r => cases r with
            | nil => simp at hl
            | cons w r => cases r with
              | nil => exact ⟨v, w, rfl⟩
              | cons _ _ => simp at hl
        have S1 : Sta (gx X) R σ ρ1 H1 ((v, .leaf (.int i)) :: (w, .leaf (.int j)) :: tm) := S1
        have ev : v = .int i := S1.front.rep
        have ew : w = .int j := S1.pop.front.rep
        subst ev ew
        obtain ⟨h1, h2⟩ := small62_of hj.1
        obtain ⟨h3, h4⟩ := small62_of hj.2
        exact ⟨i, j, rfl, ⟨h1, h2, h3, h4⟩, q [] _ _ itd_range S1.pop.pop⟩
      · rw [if_neg hj] at q; exact q.elim
    · exact q.elim⟩⟩
end

/-! ### for -/
def forM' (t : TgM) (body : SM) : List D → SM
  | [], ρ => .nx ρ
  | d :: ds, ρ => match t d ρ with
    | none => .stuck
    | some ρ1 => match body ρ1 with
      | .nx ρ2 => forM' t body ds ρ2
      | .ct ρ2 => forM' t body ds ρ2
      | .bk ρ2 => .nx ρ2
      | r => r
def mFor (src : M (List D)) (t : TgM) (body : SM) : SM := fun ρ => (src ρ).toS fun ds ρ1 => forM' t body ds ρ1
theorem EndS.body {G : Gx} {R : Fr} {tm l : List Item} {W : WX} {D : Ends} {r : SRes} {k : SM} {N : L2.St → Hp → Prop} (h : EndS G R tm W D (match r with
      | .nx ρ2 => k ρ2
      | .ct ρ2 => k ρ2
      | .bk ρ2 => .nx ρ2
      | r => r)) (hN : ∀ ρ σ H, Sta G R σ ρ H (l ++ tm) → EndS G R tm W D (k ρ) → N σ H) : EndS G R (l ++ tm) W { D with nx := N, ct := N, bk := D.nx } r := by
  cases r with
  | nx ρ => exact fun σ H S => hN ρ σ H S h
  | ct ρ => exact fun σ H S => hN ρ σ H S h
  | bk ρ => exact fun σ H S => h σ H S.dropL
  | rt t ρ => exact fun v σ H S => h v σ H S.dropL1
  | exc c a d ρ => exact fun σ => ExcEnd.pushL (h σ) l
  | stuck => exact h
section
variable {X : Cx} {L sl : List Nat} {tg iter : Expr} {src : M (List D)} {g : TG} {t : TgM} {body : List Stmt} {mb : SM} {pos : Pos}
theorem psd_for (hc : X.calm = true) (hi : PId X L tg iter src) (hg : PGd X L sl tg g t) (hb : PBd X L body mb) (hs : ∀ x, foldedSetIterable iter X.env x = pure x := by intro _; rfl) : PSd X L (.For tg iter body [] pos) (mFor src t mb) :=
  ⟨fun W tk hp => PS.imp (ps_for hp hc (hi.run W tk) hg.pg (hb.run W tk hp) hs) fun D σ H ⟨R, ρ, tm, hL, S, h⟩ => by
    refine ⟨R, ρ, tm, hL, S, ?_⟩
    unfold mFor at h
    cases es : src ρ with
    | stuck => rw [es] at h; exact h
    | exc => rw [es] at h; exact h σ
    | ok ds ρ1 =>
      rw [es] at h
      have h : EndS (gx X) R tm W D (forM' t mb ds ρ1) := h
      intro tmI J H1 I S1
      refine ⟨fun i m σ' H' => m = ds.length - i ∧ i ≤ ds.length ∧ ∃ ρ', Sta (gx X) R σ' ρ' H' (tmI ++ tm) ∧ EndS (gx X) R tm W D (forM' t mb (ds.drop i) ρ'), ⟨ds.length, by simp, Nat.zero_le _, ρ1, S1, h⟩, ?_⟩
      rintro i m σ' H' ⟨rfl, hi', ρ', S', h'⟩
      by_cases hlt : i < ds.length
      · refine .inr ⟨I.go R σ' ρ' H' tm i S' hlt, fun σ2 H2 => ∃ ρ2, Sta (gx X) R σ2 ρ2 H2 (tmI ++ tm) ∧ EndS (gx X) R tm W D (forM' t mb (ds.drop (i + 1)) ρ2), fun σ2 H2 ⟨ρ2, S2, h2⟩ => ⟨ds.length - (i + 1), by omega, rfl, hlt, ρ2, S2, h2⟩, fun x H2 y => ?_⟩
        have S2 := I.yld R σ' ρ' H' H2 tm i x ds[i] S' y (List.getElem?_eq_getElem hlt)
        rw [List.drop_eq_getElem_cons hlt] at h'
        simp only [forM'] at h'
        cases et : t ds[i] ρ' with
        | none => rw [et] at h'; exact h'.elim
        | some ρ3 =>
          rw [et] at h'
          refine hg.run R σ' ρ' ρ3 H2 (tmI ++ tm) x ds[i] _ hL S2 et fun σ3 _ _ S3 => ⟨R, ρ3, tmI ++ tm, hL, S3, ?_⟩
          exact EndS.body h' fun ρ4 σ4 H4 S4 h4 => ⟨ρ4, S4, h4⟩
      · have e : i = ds.length := by omega
        subst e
        rw [List.drop_length] at h'
        exact .inl ⟨I.stop R σ' ρ' H' tm _ S' (Nat.le_refl _), h' σ' H' S'.dropL⟩⟩
/-! ### while -/
def whM (c : M Bool) (body : SM) : Nat → SM
  | 0, _ => .stuck
  | n + 1, ρ => (c ρ).toS fun b ρ1 => if b = true then (match body ρ1 with
      | .nx ρ2 => whM c body n ρ2
      | .ct ρ2 => whM c body n ρ2
      | .bk ρ2 => .nx ρ2
      | r => r) else .nx ρ1
theorem psd_while {c : Expr} {cm : M Bool} (n : Nat) (hc : PTd X L c cm) (hb : PBd X L body mb) : PSd X L (.While c body [] pos) (whM cm mb n) :=
  ⟨fun W tk hp => PS.imp (ps_while hp (hc.run W tk) (hb.run W tk hp)) fun D σ H ⟨R, ρ, tm, hL, S, h⟩ => by
    refine ⟨fun m σ' H' => ∃ ρ', Sta (gx X) R σ' ρ' H' tm ∧ EndS (gx X) R tm W D (whM cm mb m ρ'), ⟨n, ρ, S, h⟩, ?_⟩
    rintro m σ' H' ⟨ρ', S', h'⟩
    cases m with
    | zero => exact h'.elim
    | succ m =>
      refine ⟨R, ρ', tm, hL, S', ?_⟩
      simp only [whM] at h'
      cases ec : cm ρ' with
      | stuck => rw [ec] at h'; exact h'
      | exc => rw [ec] at h'; exact h' σ'
      | ok b ρ1 =>
        rw [ec] at h'
        intro H1 S1
        cases b with
        | false =>
          rw [if_neg Bool.false_ne_true]
          exact (show EndS (gx X) R tm W D (.nx ρ1) from h') σ' H1 S1
        | true =>
          rw [if_pos rfl]
          refine ⟨fun σ2 H2 => ∃ ρ2, Sta (gx X) R σ2 ρ2 H2 tm ∧ EndS (gx X) R tm W D (whM cm mb m ρ2), fun σ2 H2 ⟨ρ2, S2, h2⟩ => ⟨m, Nat.lt_succ_self m, ρ2, S2, h2⟩, R, ρ1, tm, hL, S1, ?_⟩
          exact EndS.body (l := []) h' fun ρ4 σ4 H4 S4 h4 => ⟨ρ4, S4, h4⟩⟩
end

/-! ### list comprehensions -/
def wipeE (ρ : Env) : List Nat → Env
  | [] => ρ
  | v :: vs => (wipeE ρ vs).set v none
def compM (vs : List Nat) (t : TgM) (test : M Bool) (elt : M T) : List D → Env → Res (List T)
  | [], ρ => .ok [] ρ
  | d :: ds, ρ => match t d ρ with
    | none => .stuck
    | some ρ1 => (test ρ1).bind fun b ρ2 =>
      if b = true then (elt ρ2).bind fun u ρ3 => (compM vs t test elt ds (wipeE ρ3 vs)).bind fun us ρ4 => .ok (u :: us) ρ4
      else compM vs t test elt ds (wipeE ρ2 vs)
def Res.noX {α : Type} : Res α → Res α
  | .ok a ρ => .ok a ρ
  | _ => .stuck
def mComp (vs : List Nat) (src : M (List D)) (t : TgM) (test : M Bool) (elt : M T) : M T := fun ρ => (src ρ).bind fun ds ρ1 =>
  if ds.length ≤ 16000000 then (compM vs t test elt ds (wipeE ρ1 vs)).noX.bind fun us ρ2 => .ok (.node us) ρ2 else .stuck
def mYes : M Bool := fun ρ => .ok true ρ
theorem items_irrel : ∀ {σ : L2.St} {ρ : Env} {i : Nat} (x : Option V), (∀ t, ρ[i]? ≠ some (some t)) → items (σ.set i x) ρ = items σ ρ ∧ (Fits (σ.set i x) ρ ↔ Fits σ ρ)
  | [], ρ, i, x, _ => by simp
  | s :: σ, [], i, x, _ => by
    cases i with
    | zero => exact ⟨by cases s <;> cases x <;> rfl, Iff.rfl⟩
    | succ i => exact ⟨by cases s <;> rfl, Iff.rfl⟩
  | s :: σ, r :: ρ, 0, x, h => by
    cases r with
    | none => exact ⟨by rw [List.set_cons_zero, items_none, items_none], by simp [Fits]⟩
    | some t => exact absurd rfl (h t)
  | s :: σ, r :: ρ, i + 1, x, h => by
    obtain ⟨q1, q2⟩ := items_irrel (σ := σ) (ρ := ρ) (i := i) x (fun t e => h t (by simpa using e))
    refine ⟨?_, by rw [List.set_cons_succ]; simp only [Fits, q2]⟩
    rw [List.set_cons_succ]
    cases r with
    | none => rw [items_none, items_none]; exact q1
    | some t => cases s with
      | none => show items (σ.set i x) ρ = items σ ρ; exact q1
      | some v => show (v, t) :: _ = (v, t) :: _; rw [q1]
theorem items_wipe {σ : L2.St} {ρ : Env} : ∀ {vs : List Nat}, (∀ v ∈ vs, ∀ t, ρ[v]? ≠ some (some t)) → items (wipe σ vs) ρ = items σ ρ ∧ (Fits (wipe σ vs) ρ ↔ Fits σ ρ)
  | [], _ => ⟨rfl, Iff.rfl⟩
  | v :: vs, h => by
    obtain ⟨h1, h2⟩ := items_irrel (σ := wipe σ vs) (ρ := ρ) (i := v) none (h v List.mem_cons_self)
    obtain ⟨h3, h4⟩ := items_wipe (σ := σ) (vs := vs) fun u hu => h u (List.mem_cons_of_mem _ hu)
    exact ⟨h1.trans h3, h2.trans h4⟩
theorem wipeE_none {ρ : Env} : ∀ {vs : List Nat} {v : Nat}, v ∈ vs → ∀ t, (wipeE ρ vs)[v]? ≠ some (some t)
  | u :: us, v, hv, t => by
    unfold wipeE
    by_cases e : u = v
    · subst e
      intro h
      rw [List.getElem?_set] at h
      rw [if_pos rfl] at h
      split at h <;> cases h
    · rw [List.getElem?_set_ne e]
      rcases List.mem_cons.mp hv with z | z
      · exact absurd z.symm e
      · exact wipeE_none z t
theorem fits_wipeE {σ : L2.St} {ρ : Env} (f : Fits σ ρ) : ∀ vs : List Nat, Fits σ (wipeE ρ vs)
  | [] => f
  | v :: vs => fits_none v (fits_wipeE f vs)
theorem items_wipeE {G : Gx} {R : Fr} {H : Hp} {σ : L2.St} {ρ : Env} {tm : List Item} (f : Fits σ ρ) : ∀ vs : List Nat, Own G R H (items σ ρ ++ tm) → Own G R H (items σ (wipeE ρ vs) ++ tm)
  | [], h => h
  | v :: vs, h => by
    have h1 := items_wipeE f vs h
    show Own G R H (items σ ((wipeE ρ vs).set v none) ++ tm)
    rcases items_drop v (fits_wipeE f vs) with ⟨p, q⟩ | e
    · exact (h1.perm (List.Perm.append_right _ q)).drop
    · rw [e]; exact h1
/-- what the slots vs hold is forgotten -/
theorem Sta.forget {G : Gx} {R : Fr} {σ : L2.St} {ρ : Env} {H : Hp} {tm : List Item} (S : Sta G R σ ρ H tm) (vs : List Nat) : Sta G R σ (wipeE ρ vs) H tm := ⟨fits_wipeE S.fits vs, S.lent, items_wipeE S.fits vs S.own⟩
theorem wipe_lent {σ : L2.St} {i : Nat} : ∀ {vs : List Nat}, i ∉ vs → (wipe σ vs)[i]? = σ[i]? := fun h => wipe_out h
/-- the block's slots, the def's -/
theorem Sta.toBlk {G : Gx} {R : Fr} {σ : L2.St} {ρ : Env} {H : Hp} {tm : List Item} {vs : List Nat} (S : Sta G R σ (wipeE ρ vs) H tm) (hv : ∀ i ∈ R.lent.map (·.1), i ∉ vs) : Sta G R (wipe σ vs) (wipeE ρ vs) H tm := by
  obtain ⟨h1, h2⟩ := items_wipe (σ := σ) (ρ := wipeE ρ vs) (vs := vs) fun v hv => wipeE_none hv
  exact ⟨h2.mpr S.fits, fun p hp => by rw [wipe_lent (hv p.1 (List.mem_map_of_mem hp))]; exact S.lent p hp, by rw [h1]; exact S.own⟩
theorem Sta.ofBlk {G : Gx} {R : Fr} {σ : L2.St} {ρ : Env} {H : Hp} {tm : List Item} {vs : List Nat} (S : Sta G R (wipe σ vs) (wipeE ρ vs) H tm) (hl : ∀ p ∈ R.lent, σ[p.1]? = some (some p.2)) : Sta G R σ (wipeE ρ vs) H tm := by
  obtain ⟨h1, h2⟩ := items_wipe (σ := σ) (ρ := wipeE ρ vs) (vs := vs) fun v hv => wipeE_none hv
  exact ⟨h2.mp S.fits, hl, by rw [← h1]; exact S.own⟩
theorem wipe_get {σ : L2.St} : ∀ {vs : List Nat} {j : Nat}, j ∈ vs → j < σ.length → (wipe σ vs)[j]? = some none
  | v :: vs, j, hj, hl => by
    unfold wipe
    by_cases e : v = j
    · subst e; rw [List.getElem?_set_self (by rw [wipe_length]; exact hl)]
    · rw [List.getElem?_set_ne e]
      rcases List.mem_cons.mp hj with z | z
      · exact absurd z.symm e
      · exact wipe_get z hl
/-- two states of slots that differ at vs alone -/
theorem wipe_eq {σ σ' : L2.St} {vs : List Nat} (hl : σ'.length = σ.length) (h : ∀ j, j ∉ vs → σ'[j]? = σ[j]?) : wipe σ' vs = wipe σ vs := by
  refine List.ext_getElem? fun j => ?_
  by_cases hj : j ∈ vs
  · by_cases hlt : j < σ.length
    · rw [wipe_get hj (by rw [hl]; exact hlt), wipe_get hj hlt]
    · rw [List.getElem?_eq_none (by rw [wipe_length, hl]; omega), List.getElem?_eq_none (by rw [wipe_length]; omega)]
  · rw [wipe_out hj, wipe_out hj, h j hj]
theorem wipe_wipe {σ : L2.St} {vs : List Nat} : wipe (wipe σ vs) vs = wipe σ vs := wipe_eq (wipe_length _ _) fun j hj => wipe_out hj

section
variable {X : Cx} {L sl : List Nat} {tg iter elt : Expr} {src : M (List D)} {g : TG} {t : TgM} {pos : Pos} {mt : M Bool} {me : M T}
/-- the comprehension's tests: none, or one -/
inductive PTsD (X : Cx) (L : List Nat) : List Expr → M Bool → Prop where
  | nil : PTsD X L [] mYes
  | one {c : Expr} {m : M Bool} (h : PTd X L c m) : PTsD X L [c] m
theorem ptsd_run {ifs : List Expr} (h : PTsD X L ifs mt) (W : WX) (tk : L2N.Takes X W) : PTs X ifs (TTm (gx X) L W mt) := by
  cases h with
  | nil => exact ⟨fun pins s σ H Q I ⟨R, ρ, tm, _, S, q⟩ => wpAny_tests_nil ⟨H, I, q H S⟩⟩
  | one h => exact pts_one (h.run W tk)
theorem noX_ok {α : Type} {r : Res α} {G : Gx} {R : Fr} {σ : L2.St} {tm : List Item} {W : WX} {P : α → Env → Prop} (h : End G R σ tm W P r.noX) : ∃ a ρ, r = .ok a ρ ∧ P a ρ := by
  cases r with
  | ok a ρ => exact ⟨a, ρ, rfl, h⟩
  | exc => exact h.elim
  | stuck => exact h.elim
theorem ok_bind {α β : Type} {r : Res α} {k : α → Env → Res β} {b : β} {ρ : Env} (h : r.bind k = .ok b ρ) : ∃ a ρ1, r = .ok a ρ1 ∧ k a ρ1 = .ok b ρ := by
  cases r with
  | ok a ρ1 => exact ⟨a, ρ1, rfl, h⟩
  | exc => cases h
  | stuck => cases h
abbrev W0 : WX := fun _ _ _ _ => False
theorem Own.append' {G : Gx} {R : Fr} {σ : L2.St} {ρ : Env} {H : Hp} {a : Addr} {ts : List T} {w : V} {u : T} {tm : List Item} (S : Sta G R σ ρ H ((w, u) :: (.ref a, .node ts) :: tm)) : ∃ xs, H a = some (.lst xs) ∧ xs.length = ts.length ∧ Sta G R σ ρ (upd H a (.lst (xs ++ [w]))) ((.ref a, .node (ts ++ [u])) :: tm) := by
  have o : Own G R H ((.ref a, .node ts) :: (w, u) :: (items σ ρ ++ tm)) := S.front.perm ((List.Perm.cons _ (perm_mid _ _ _)).trans (.swap _ _ _))
  obtain ⟨a', xs, e, hx, hl⟩ := o.nodeAt
  cases e
  exact ⟨xs, hx, hl, Sta.back S.fits S.lent (o.append hx)⟩
theorem lc_sta {vs : List Nat} {σ : L2.St} {R : Fr} {tm tmI : List Item} {J : It} {ds : List D} {Dr : Addr} {Q : VK} {us : List T} {ρe : Env} {wt : TT} {we : TE}
    (hL : R.lent.map (·.1) = L) (hlv : ∀ i ∈ L, i ∉ vs) (hsl : ∀ i ∈ sl, i ∈ vs) (I : ItD (gx X) tmI ds J) (hz : ds.length ≤ 16000000)
    (hg : ∀ (R : Fr) (σ : L2.St) (ρ ρ' : Env) (H : Hp) (tm : List Item) (v : V) (d : D) (Q : L2.St → Hp → Prop), R.lent.map (·.1) = L → Sta (gx X) R σ ρ H ((v, .leaf d) :: tm) → t d ρ = some ρ' →
      (∀ σ', σ'.length = σ.length → (∀ j, j ∉ sl → σ'[j]? = σ[j]?) → Sta (gx X) R σ' ρ' H tm → Q σ' H) → g v σ H Q)
    (ht : ∀ σ H Q, TTm (gx X) L W0 mt σ H Q → wt σ H Q) (he : ∀ σ H Q, TEm (gx X) L W0 me σ H Q → we σ H Q)
    (hq : ∀ H, Sta (gx X) R σ (wipeE ρe vs) H ((.ref Dr, .node us) :: tm) → Q (.ref Dr) H) (hle : ∀ p ∈ R.lent, σ[p.1]? = some (some p.2))
    {ρ1 : Env} (hok : compM vs t mt me ds (wipeE ρ1 vs) = .ok us (wipeE ρe vs)) {H1 : Hp} (S1 : Sta (gx X) R σ (wipeE ρ1 vs) (upd H1 Dr (.lst [])) ((.ref Dr, .node []) :: (tmI ++ tm))) :
    ∃ W : Nat → Nat → Hp → Prop, (∃ m, W 0 m (upd H1 Dr (.lst []))) ∧ ∀ i m H, W i m H →
      (J.stop i H ∧ Q (.ref Dr) H) ∨ (J.go i H ∧ ∃ Nx : Hp → Prop, (∀ H', Nx H' → ∃ m', m' < m ∧ W (i + 1) m' H') ∧ ∀ x H', J.yld i H x H' → g x (wipe σ vs) H' fun σ2 H2 => wipe σ2 vs = wipe σ vs ∧ wt σ2 H2 fun b H3 =>
        if b = true then we σ2 H3 fun y H4 => ∃ acc, H4 Dr = some (.lst acc) ∧ acc.length < sizeLine ∧ Nx (upd H4 Dr (.lst (acc ++ [y]))) else Nx H3) := by
  have hlR : ∀ i ∈ R.lent.map (·.1), i ∉ vs := by rw [hL]; exact hlv
  -- the invariant: behind i items the new list holds acc, the rest of the comprehension gives what is left
  refine ⟨fun i m H => m = ds.length - i ∧ i ≤ ds.length ∧ ∃ ρ' acc rest, Sta (gx X) R (wipe σ vs) (wipeE ρ' vs) H ((.ref Dr, .node acc) :: (tmI ++ tm)) ∧ acc.length ≤ i ∧ compM vs t mt me (ds.drop i) (wipeE ρ' vs) = .ok rest (wipeE ρe vs) ∧ acc ++ rest = us,
    ⟨ds.length, by simp, Nat.zero_le _, ρ1, [], us, S1.toBlk hlR, Nat.le_refl _, hok, rfl⟩, ?_⟩
  rintro i m H ⟨rfl, hi, ρ', acc, rest, S, ha, hc, hu⟩
  have SI : Sta (gx X) R (wipe σ vs) (wipeE ρ' vs) H (tmI ++ ((.ref Dr, .node acc) :: tm)) := ⟨S.fits, S.lent, S.own.perm (List.Perm.append_left _ (perm_mid _ _ _).symm)⟩
  by_cases hlt : i < ds.length
  · rw [List.drop_eq_getElem_cons hlt] at hc
    simp only [compM] at hc
    cases et : t ds[i] (wipeE ρ' vs) with
    | none => rw [et] at hc; cases hc
    | some ρ2 =>
      rw [et] at hc
      obtain ⟨b, ρ3, eb, hc⟩ := ok_bind hc
      refine .inr ⟨I.go R _ _ H _ i SI hlt, fun H' => ∃ ρ' acc rest, Sta (gx X) R (wipe σ vs) (wipeE ρ' vs) H' ((.ref Dr, .node acc) :: (tmI ++ tm)) ∧ acc.length ≤ i + 1 ∧ compM vs t mt me (ds.drop (i + 1)) (wipeE ρ' vs) = .ok rest (wipeE ρe vs) ∧ acc ++ rest = us,
        fun H' q => ⟨ds.length - (i + 1), by omega, rfl, hlt, q⟩, fun x H2 y => ?_⟩
      have S2 := I.yld R _ _ H H2 _ i x ds[i] SI y (List.getElem?_eq_getElem hlt)
      refine hg R (wipe σ vs) _ ρ2 H2 _ x ds[i] _ hL S2 et fun σ2 l2 k2 S3 => ?_
      have w2 : wipe σ2 vs = wipe σ vs := by
        rw [← wipe_wipe (σ := σ)]
        exact wipe_eq l2 fun j hj => k2 j fun m => hj (hsl j m)
      refine ⟨w2, ht _ _ _ ⟨R, ρ2, _, hL, S3, ?_⟩⟩
      rw [eb]
      intro H3 S4
      have back : ∀ {ρ4 : Env} {H4 : Hp} {tm4 : List Item}, Sta (gx X) R σ2 ρ4 H4 tm4 → Sta (gx X) R (wipe σ vs) (wipeE ρ4 vs) H4 tm4 := fun S => by
        rw [← w2]; exact (S.forget vs).toBlk hlR
      have re : ∀ {σ4 : L2.St} {ρ4 : Env} {H4 : Hp} {p : Item}, Sta (gx X) R σ4 ρ4 H4 (tmI ++ (p :: tm)) → Sta (gx X) R σ4 ρ4 H4 (p :: (tmI ++ tm)) := fun S => ⟨S.fits, S.lent, S.own.perm (List.Perm.append_left _ (perm_mid _ _ _))⟩
      cases b with
      | false =>
        rw [if_neg Bool.false_ne_true] at hc ⊢
        exact ⟨ρ3, acc, rest, re (back S4), by omega, hc, hu⟩
      | true =>
        rw [if_pos rfl] at hc ⊢
        obtain ⟨u, ρ4, eu, hc⟩ := ok_bind hc
        obtain ⟨us', ρ5, eus, hc⟩ := ok_bind hc
        cases hc
        refine he _ _ _ ⟨R, ρ3, _, hL, S4, ?_⟩
        rw [eu]
        intro y H4 S5
        have S6 : Sta (gx X) R σ2 ρ4 H4 ((y, u) :: (.ref Dr, .node acc) :: (tmI ++ tm)) := ⟨S5.fits, S5.lent, S5.own.perm (List.Perm.append_left _ (List.Perm.cons _ (perm_mid _ _ _)))⟩
        obtain ⟨xs, hx, hl, S7⟩ := Own.append' S6
        refine ⟨xs, hx, by rw [hl, sizeLine_eq]; omega, ρ4, acc ++ [u], us', back S7, by simp; omega, eus, by rw [← hu]; simp⟩
  · have e : i = ds.length := by omega
    subst e
    rw [List.drop_length] at hc
    simp only [compM, Res.ok.injEq] at hc
    obtain ⟨h1, h2⟩ := hc
    subst h1
    rw [List.append_nil] at hu
    subst hu
    refine .inl ⟨I.stop R _ _ H _ _ SI (Nat.le_refl _), hq H ?_⟩
    rw [← h2]
    exact (Sta.dropL1 S).ofBlk hle
theorem compM_end {vs : List Nat} : ∀ {ds : List D} {ρ ρ' : Env} {us : List T}, compM vs t mt me ds (wipeE ρ vs) = .ok us ρ' → ∃ ρe, ρ' = wipeE ρe vs
  | [], ρ, ρ', us, h => by simp only [compM, Res.ok.injEq] at h; exact ⟨ρ, h.2.symm⟩
  | d :: ds, ρ, ρ', us, h => by
    simp only [compM] at h
    split at h
    · cases h
    · obtain ⟨b, ρ2, _, h⟩ := ok_bind h
      cases b with
      | false => rw [if_neg Bool.false_ne_true] at h; exact compM_end h
      | true =>
        rw [if_pos rfl] at h
        obtain ⟨u, ρ3, _, h⟩ := ok_bind h
        obtain ⟨us', ρ4, h2, h⟩ := ok_bind h
        cases h
        exact compM_end h2
theorem comp_imp {ifs : List Expr} {scope : Scope} {own : List (Str × Nat)} (hc : X.calm = true) (hN : X.N.Nodup) (hi : PId X L tg iter src) (ok : BlkOk X.N X.env.scope scope own)
    (hlv : ∀ i ∈ L, i ∉ own.map (·.2)) (hsl : ∀ i ∈ sl, i ∈ own.map (·.2))
    (hg : ∀ (s : Shared) (H : Hp) (C : Addr) (cl : List (Str × Addr)) (fp : List Addr), PGd (X.blk s H scope (compEnvC scope cl C X.env) fp) L sl tg g t)
    (ht : ∀ (s : Shared) (H : Hp) (C : Addr) (cl : List (Str × Addr)) (fp : List Addr), PTsD (X.blk s H scope (compEnvC scope cl C X.env) fp) L ifs mt)
    (he : ∀ (s : Shared) (H : Hp) (C : Addr) (cl : List (Str × Addr)) (fp : List Addr), PEd (X.blk s H scope (compEnvC scope cl C X.env) fp) L elt me) (hs : ∀ x, foldedSetIterable iter X.env x = pure x := by intro _; rfl) {W : WX} {σ : L2.St} {H : Hp} {Q : VK} (q : TEm (gx X) L W (mComp (own.map (·.2)) src t mt me) σ H Q) : tLc (TIm (gx X) L W src) g (TTm (gx X) L W0 mt) (TEm (gx X) L W0 me) (own.map (·.2)) σ H Q := by
  obtain ⟨R, ρ, tm, hL, S, q⟩ := q
  refine ⟨R, ρ, tm, hL, S, (End.bind q).mono fun ds ρ1 _ q tmI J H1 I S1 D hD => ?_⟩
  by_cases hz : ds.length ≤ 16000000
  · rw [if_pos hz] at q
    obtain ⟨us, ρ2, ec, q⟩ := noX_ok (End.bind q)
    obtain ⟨ρe, e⟩ := compM_end ec
    subst e
    refine lc_sta (Dr := D) (us := us) (ρe := ρe) hL hlv hsl I hz (hg {} H1 0 [] []).run (fun _ _ _ h => h) (fun _ _ _ h => h) (fun H' S' => q (.ref D) H' S') S1.lent ec ?_
    have o : Own (gx X) R (upd H1 D (.lst [])) ((.ref D, .node []) :: (items σ ρ1 ++ (tmI ++ tm))) := Own.newLst (xs := []) (ts := []) S1.own rfl hD
    exact Sta.back (fits_wipeE S1.fits _) S1.lent (by
      have S2 : Sta (gx X) R σ ρ1 (upd H1 D (.lst [])) ((.ref D, .node []) :: (tmI ++ tm)) := Sta.back S1.fits S1.lent o
      exact (S2.forget (own.map (·.2))).front)
  · rw [if_neg hz] at q; exact q.elim
theorem ped_comp {ifs : List Expr} {scope : Scope} {own : List (Str × Nat)} (hc : X.calm = true) (hN : X.N.Nodup) (hi : PId X L tg iter src) (ok : BlkOk X.N X.env.scope scope own)
    (hlv : ∀ i ∈ L, i ∉ own.map (·.2)) (hsl : ∀ i ∈ sl, i ∈ own.map (·.2))
    (hg : ∀ (s : Shared) (H : Hp) (C : Addr) (cl : List (Str × Addr)) (fp : List Addr), PGd (X.blk s H scope (compEnvC scope cl C X.env) fp) L sl tg g t)
    (ht : ∀ (s : Shared) (H : Hp) (C : Addr) (cl : List (Str × Addr)) (fp : List Addr), PTsD (X.blk s H scope (compEnvC scope cl C X.env) fp) L ifs mt)
    (he : ∀ (s : Shared) (H : Hp) (C : Addr) (cl : List (Str × Addr)) (fp : List Addr), PEd (X.blk s H scope (compEnvC scope cl C X.env) fp) L elt me) (hs : ∀ x, foldedSetIterable iter X.env x = pure x := by intro _; rfl) :
    PEd X L (.ListComp elt [⟨tg, iter, ifs, 0⟩] scope pos) (mComp (own.map (·.2)) src t mt me)  :=
  ⟨fun W tk => PE.imp (pe_lc (g := g) (tt := TTm (gx X) L W0 mt) (te := TEm (gx X) L W0 me) hc hN (hi.run W tk) ok (fun s H C cl fp => (hg s H C cl fp).pg) (fun s H C cl fp => ptsd_run (ht s H C cl fp) W0 tk0) (fun s H C cl fp => (he s H C cl fp).run W0 tk0) hs)
    fun σ H Q q => comp_imp hc hN hi ok hlv hsl hg ht he hs q⟩
/-- name = [..] on one line -/
theorem psd_setLc {i : Nat} {y : Str} {py spos : Pos} {ifs : List Expr} {scope : Scope} {own : List (Str × Nat)} (hc : X.calm = true) (hN : X.N.Nodup) (hi : PId X L tg iter src) (ok : BlkOk X.N X.env.scope scope own)
    (hlv : ∀ i ∈ L, i ∉ own.map (·.2)) (hsl : ∀ i ∈ sl, i ∈ own.map (·.2))
    (hg : ∀ (s : Shared) (H : Hp) (C : Addr) (cl : List (Str × Addr)) (fp : List Addr), PGd (X.blk s H scope (compEnvC scope cl C X.env) fp) L sl tg g t)
    (ht : ∀ (s : Shared) (H : Hp) (C : Addr) (cl : List (Str × Addr)) (fp : List Addr), PTsD (X.blk s H scope (compEnvC scope cl C X.env) fp) L ifs mt)
    (he : ∀ (s : Shared) (H : Hp) (C : Addr) (cl : List (Str × Addr)) (fp : List Addr), PEd (X.blk s H scope (compEnvC scope cl C X.env) fp) L elt me) (hs : ∀ x, foldedSetIterable iter X.env x = pure x := by intro _; rfl) (hi' : i ∉ L) (hy : X.N[i]? = some y) (hyl : X.env.scope.names.lookup y = some .local)
    (hsw : swapsWith (.ListComp elt [⟨tg, iter, ifs, 0⟩] scope pos) (some (.Name y py)) spos.line X.env = pure true) (st : M T → SM) (hst : st = mSet i ∨ st = mSetO i) :
    PSd X L (.Assign [.Name y py] (.ListComp elt [⟨tg, iter, ifs, 0⟩] scope pos) spos) (st (mComp (own.map (·.2)) src t mt me)) :=
  ⟨fun W tk _ => PS.imp (ps_setLc (g := g) (tt := TTm (gx X) L W0 mt) (te := TEm (gx X) L W0 me) hc hN hy hyl hsw (hi.run W tk) ok (fun s H C cl fp => (hg s H C cl fp).pg) (fun s H C cl fp => ptsd_run (ht s H C cl fp) W0 tk0) (fun s H C cl fp => (he s H C cl fp).run W0 tk0) hs)
    fun D σ H q => comp_imp hc hN hi ok hlv hsl hg ht he hs (by
      rcases hst with e | e <;> subst e
      · exact tem_toS q fun R ρ tm v u H1 hL S q => put_ok (by rw [hL]; exact hi') (Sta.back S.fits S.lent S.front.freeze) q
      · exact tem_toS q fun R ρ tm v u H1 hL S q => put_ok (by rw [hL]; exact hi') S q)⟩
end
end Q

/-! Operators, subscripts, built-ins. -/
namespace Q
open PySem PySem.Spec PyProof.Rows L2

/-! ### + - * // % ** -/
def big : Nat := 16000000
def fAdd : D → D → Option T
  | .int i, .int j => some (.leaf (.int (i + j)))
  | .str a, .str b => if a.length + b.length ≤ big then some (.leaf (.str (a ++ b))) else none
  | .tup a, .tup b => if a.length + b.length ≤ big then some (.leaf (.tup (a ++ b))) else none
  | .lst a, .lst b => if a.length + b.length ≤ big then some (.node ((a ++ b).map T.leaf)) else none
  | _, _ => none
def fSub : D → D → Option D
  | .int i, .int j => some (.int (i - j))
  | _, _ => none
def okMul (i j : Int) : Bool := Nat.ble i.natAbs (2 ^ 100000) && Nat.ble j.natAbs (2 ^ 100000)
theorem log2_of_le {n k : Nat} (h : n ≤ 2 ^ k) : n.log2 ≤ k := by
  by_cases h0 : n = 0
  · subst h0; simp
  · have h1 := (Nat.log2_lt h0 (k := k + 1)).mpr (by rw [Nat.pow_succ]; have := Nat.two_pow_pos k; omega)
    omega
def fMul : D → D → Option T
  | .int i, .int j => if okMul i j = true then some (.leaf (.int (i * j))) else none
  | .lst a, .int j => if (decide (-(2 ^ 63) ≤ j) && decide (j < 2 ^ 63) && decide (a.length * j.toNat ≤ big)) = true then some (.node ((List.replicate j.toNat a).flatten.map T.leaf)) else none
  | _, _ => none
def fFdiv : D → D → Option D
  | .int i, .int j => if (decide (0 < j) && Nat.ble j.natAbs (2 ^ 8000)) = true then some (.int (i / j)) else none
  | _, _ => none
def fMod : D → D → Option D
  | .int i, .int j => if 0 < j then some (.int (i % j)) else none
  | _, _ => none
def fPow : D → D → Option D
  | .int i, .int j => if (decide (0 ≤ j) && decide (j ≤ 1000000) && decide (i.natAbs < 2 ^ 64)) = true then some (.int (i ^ j.toNat)) else none
  | _, _ => none
theorem big_line : big ≤ sizeLine := by rw [sizeLine_eq]; decide
section
variable {X : Cx}
theorem rD_scal {G : Gx} {R : Fr} {H : Hp} {its : List Item} {x y : V} {dx dy d : D} {v : V} {Q : VK} (o : Own G R H ((y, .leaf dy) :: (x, .leaf dx) :: its)) (q : ∀ v H', Own G R H' ((v, .leaf d) :: its) → Q v H') (h : d.toV? = some v) : Q v H :=
  q v H (o.drop.drop.scal fun _ => rep_scal h)
theorem op_fAdd : OpR X (binaryOp .Add) (rD (gx X) fAdd) := by
  intro pins s σ H x y v u Q I rx ry ⟨R, its, dx, dy, t, o, ef, q⟩
  have r1 := o.drop.rep
  have r2 := o.rep
  cases dx <;> cases dy <;> simp only [fAdd, reduceCtorEq] at ef
  · cases ef
    exact op_add pins s σ H x y v u Q I rx ry ⟨_, _, r1, r2, rD_scal o q rfl⟩
  · rename_i a b
    by_cases hz : a.length + b.length ≤ big
    · rw [if_pos hz] at ef; cases ef
      exact op_add_str pins s σ H x y v u Q I rx ry ⟨_, _, r1, r2, Nat.le_trans hz big_line, rD_scal o q rfl⟩
    · rw [if_neg hz] at ef; cases ef
  · rename_i a b
    by_cases hz : a.length + b.length ≤ big
    · rw [if_pos hz] at ef; cases ef
      obtain ⟨F, o⟩ := o
      obtain ⟨a2, xs2, e2, h2, q2⟩ := o.head
      obtain ⟨a1, xs1, e1, h1, q1⟩ := o.tail.head
      have l1 := q1.length
      have l2 := q2.length
      subst e1 e2
      have ot := o.tail.tail
      refine op_catA pins s σ H _ _ v u Q I rx ry ⟨a1, a2, xs1, xs2, rfl, rfl, SqT.same (mask_same _ _) h1, SqT.same (mask_same _ _) h2, by rw [l1, l2]; exact Nat.le_trans hz big_line, fun e => ?_, fun _ e => ?_, fun _ _ p hp => ?_⟩
      · subst e
        have : a = [] := List.length_eq_zero_iff.mp l1.symm
        subst this
        exact q _ _ ⟨F, ot.add (by rw [List.nil_append]; exact o.head)⟩
      · subst e
        have : b = [] := List.length_eq_zero_iff.mp l2.symm
        subst this
        exact q _ _ ⟨F, ot.add (by rw [List.append_nil]; exact o.tail.head)⟩
      · exact q _ _ ⟨F, OwnF.newTup ot hp (q1.append q2)⟩
    · rw [if_neg hz] at ef; cases ef
  · rename_i a b
    by_cases hz : a.length + b.length ≤ big
    · rw [if_pos hz] at ef; cases ef
      obtain ⟨F, o⟩ := o
      obtain ⟨a2, xs2, e2, h2, q2⟩ := o.head
      obtain ⟨a1, xs1, e1, h1, q1⟩ := o.tail.head
      have l1 := q1.length
      have l2 := q2.length
      subst e1 e2
      refine op_cat pins s σ H _ _ v u Q I rx ry ⟨a1, a2, xs1, xs2, rfl, rfl, mask_same _ _ _ _ h1, mask_same _ _ _ _ h2, by rw [l1, l2]; exact Nat.le_trans hz big_line, fun p hp => ?_⟩
      exact q _ _ (OwnF.newLst o.tail.tail hp (q1.append q2))
    · rw [if_neg hz] at ef; cases ef
theorem scal_int {f : D → D → Option D} (h : ∀ x y d, f x y = some d → ∃ i, d = .int i) : ScalF f := fun x y d e => by
  obtain ⟨i, rfl⟩ := h x y d e
  exact ⟨_, rfl⟩
theorem scal_bl {f : D → D → Option D} (h : ∀ x y d, f x y = some d → ∃ i, d = .bl i) : ScalF f := fun x y d e => by
  obtain ⟨i, rfl⟩ := h x y d e
  exact ⟨_, rfl⟩
theorem sc_fSub : ScalF fSub := scal_int fun x y d e => by
  cases x <;> cases y <;> simp only [fSub, Option.some.injEq, reduceCtorEq] at e
  exact ⟨_, e.symm⟩
theorem sc_fFdiv : ScalF fFdiv := scal_int fun x y d e => by
  cases x <;> cases y <;> simp only [fFdiv, reduceCtorEq] at e
  split at e
  · exact ⟨_, (Option.some.inj e).symm⟩
  · cases e
theorem sc_fMod : ScalF fMod := scal_int fun x y d e => by
  cases x <;> cases y <;> simp only [fMod, reduceCtorEq] at e
  split at e
  · exact ⟨_, (Option.some.inj e).symm⟩
  · cases e
theorem sc_fPow : ScalF fPow := scal_int fun x y d e => by
  cases x <;> cases y <;> simp only [fPow, reduceCtorEq] at e
  split at e
  · exact ⟨_, (Option.some.inj e).symm⟩
  · cases e
theorem op_fSub : OpR X (binaryOp .Sub) (rS (gx X) fSub) := by
  intro pins s σ H x y v u Q I rx ry ⟨dx, dy, d, w, r1, r2, ef, ev, q⟩
  cases dx <;> cases dy <;> simp only [fSub, Option.some.injEq, reduceCtorEq] at ef
  subst ef
  cases ev
  exact op_sub pins s σ H x y v u Q I rx ry ⟨_, _, r1, r2, q⟩
theorem op_fFdiv : OpR X (binaryOp .FloorDiv) (rS (gx X) fFdiv) := by
  intro pins s σ H x y v u Q I rx ry ⟨dx, dy, d, w, r1, r2, ef, ev, q⟩
  cases dx <;> cases dy <;> simp only [fFdiv, reduceCtorEq] at ef
  split at ef
  · rename_i hz
    rw [Bool.and_eq_true] at hz
    cases ef
    cases ev
    exact op_fdivW pins s σ H x y v u Q I rx ry ⟨_, _, r1, r2, ⟨of_decide_eq_true hz.1, by have := log2_of_le (Nat.le_of_ble_eq_true hz.2); omega⟩, q⟩
  · cases ef
theorem op_fMod : OpR X (binaryOp .Mod) (rS (gx X) fMod) := by
  intro pins s σ H x y v u Q I rx ry ⟨dx, dy, d, w, r1, r2, ef, ev, q⟩
  cases dx <;> cases dy <;> simp only [fMod, reduceCtorEq] at ef
  split at ef
  · rename_i hz
    cases ef
    cases ev
    exact op_mod pins s σ H x y v u Q I rx ry ⟨_, _, r1, r2, hz, q⟩
  · cases ef
theorem op_fPow : OpR X (binaryOp .Pow) (rS (gx X) fPow) := by
  intro pins s σ H x y v u Q I rx ry ⟨dx, dy, d, w, r1, r2, ef, ev, q⟩
  cases dx <;> cases dy <;> simp only [fPow, reduceCtorEq] at ef
  split at ef
  · rename_i hz
    rw [Bool.and_eq_true, Bool.and_eq_true] at hz
    cases ef
    cases ev
    exact op_pow pins s σ H x y v u Q I rx ry ⟨_, _, r1, r2, ⟨of_decide_eq_true hz.1.1, of_decide_eq_true hz.1.2, of_decide_eq_true hz.2⟩, q⟩
  · cases ef
theorem Reps.rep {G : Gx} {H : Hp} {ds : List D} {xs : List V} (h : Reps G H ds xs) : ∀ k : Nat, Reps G H (List.replicate k ds).flatten (List.replicate k xs).flatten
  | 0 => rfl
  | k + 1 => by
    rw [List.replicate_succ, List.replicate_succ, List.flatten_cons, List.flatten_cons]
    exact h.append (Reps.rep h k)
theorem op_fMul : OpR X (binaryOp .Mult) (rD (gx X) fMul) := by
  intro pins s σ H x y v u Q I rx ry ⟨R, its, dx, dy, t, o, ef, q⟩
  have r1 := o.drop.rep
  have r2 := o.rep
  cases dx <;> cases dy <;> simp only [fMul, reduceCtorEq] at ef
  · split at ef
    · rename_i hz
      cases ef
      unfold okMul at hz
      obtain ⟨z1, z2⟩ := Bool.and_eq_true_iff.mp hz
      have k1 := log2_of_le (Nat.le_of_ble_eq_true z1)
      have k2 := log2_of_le (Nat.le_of_ble_eq_true z2)
      have hz' := Nat.lt_of_le_of_lt (Nat.add_le_add k1 k2) (by decide : 100000 + 100000 < 1000000)
      exact op_mulW pins s σ H x y v u Q I rx ry ⟨_, _, r1, r2, hz', rD_scal o q rfl⟩
    · cases ef
  · split at ef
    · rename_i a j hz
      rw [Bool.and_eq_true, Bool.and_eq_true] at hz
      cases ef
      obtain ⟨F, o⟩ := o
      obtain ⟨a1, xs1, e1, h1, q1⟩ := o.tail.head
      have l1 := q1.length
      subst e1
      refine op_rep pins s σ H _ _ v u Q I rx ry ⟨a1, j, xs1, rfl, r2, mask_same _ _ _ _ h1, of_decide_eq_true hz.1.1, of_decide_eq_true hz.1.2, by rw [l1]; exact Nat.le_trans (of_decide_eq_true hz.2) big_line, fun p hp => ?_⟩
      exact q _ _ (OwnF.newLst o.tail.tail hp (q1.rep _))
    · cases ef
end
/-- -e -/
def mNeg (m : M T) : M T := fun ρ => (m ρ).bind fun t ρ1 => match t.toD with
  | .int i => .ok (.leaf (.int (-i))) ρ1
  | _ => .stuck
theorem toInt {G : Gx} {R : Fr} {σ : L2.St} {ρ : Env} {H : Hp} {tm : List Item} {v : V} {t : T} {d : D} (S : Sta G R σ ρ H ((v, t) :: tm)) (e : t.toD = d) : Sta G R σ ρ H ((v, .leaf d) :: tm) := by
  subst e
  exact Sta.back S.fits S.lent S.front.freeze
theorem ped_neg {X : Cx} {L : List Nat} {e : Expr} {m : M T} {pos : Pos} (he : PEd X L e m) : PEd X L (.UnaryOp .USub e pos) (mNeg m) :=
  ⟨fun W tk => PE.imp (pe_un un_neg (he.run W tk)) fun σ H Q ⟨R, ρ, tm, hL, S, q⟩ => ⟨R, ρ, tm, hL, S, (End.bind q).mono fun t ρ1 et q v H1 S1 => by
    clear et
    split at q
    · rename_i i e
      exact ⟨i, (toInt S1 e).front.rep, q _ H1 ((toInt S1 e).pop.with fun o => o.scal fun _ => rfl)⟩
    · exact q.elim⟩⟩

/-! ### comparisons -/
mutual
def D.toP : D → Option PyData
  | .non => some .none
  | .bl b => some (.bool b)
  | .int i => some (.int i)
  | .str s => some (.str s)
  | .tup ds => (D.toPs ds).map .tuple
  | .lst ds => (D.toPs ds).map .list
  | .fz ds => (D.toPs ds).map .list
  | .glo _ => none
def D.toPs : List D → Option (List PyData)
  | [] => some []
  | d :: ds => match d.toP, D.toPs ds with
    | some p, some ps => some (p :: ps)
    | _, _ => none
end
mutual
theorem toP_dp {G : Gx} {H : Hp} : ∀ (d : D) {p : PyData} {v : V}, d.toP = some p → Rep G H d v → Dp G.K H v p
  | .non, p, v, e, r => by cases e; rw [show v = .non from r]; exact .non
  | .bl b, p, v, e, r => by cases e; rw [show v = .bl b from r]; exact .bl b
  | .int i, p, v, e, r => by cases e; rw [show v = .int i from r]; exact .int i
  | .str s, p, v, e, r => by cases e; rw [show v = .str s from r]; exact .str s
  | .tup ds, p, v, e, ⟨a, xs, ev, h, hr⟩ => by
    simp only [D.toP] at e
    cases e2 : D.toPs ds with
    | none => rw [e2] at e; cases e
    | some ps => rw [e2] at e; cases e; subst ev; exact .tup h (toPs_dp ds e2 hr)
  | .lst ds, p, v, e, ⟨a, xs, ev, h, hr⟩ => by
    simp only [D.toP] at e
    cases e2 : D.toPs ds with
    | none => rw [e2] at e; cases e
    | some ps => rw [e2] at e; cases e; subst ev; exact .lst (SqL.of h) (toPs_dp ds e2 hr)
  | .fz ds, p, v, e, ⟨a, xs, ev, h, hr⟩ => by
    simp only [D.toP] at e
    cases e2 : D.toPs ds with
    | none => rw [e2] at e; cases e
    | some ps => rw [e2] at e; cases e; subst ev; exact .lst h (toPs_dp ds e2 hr)
  | .glo x, p, v, e, r => by cases e
theorem toPs_dp {G : Gx} {H : Hp} : ∀ (ds : List D) {ps : List PyData} {xs : List V}, D.toPs ds = some ps → Reps G H ds xs → DpAll G.K H xs ps
  | [], ps, xs, e, r => by cases e; rw [show xs = [] from r]; exact .nil
  | d :: ds, ps, xs, e, ⟨x, r, ex, h1, h2⟩ => by
    simp only [D.toPs] at e
    cases e1 : d.toP with
    | none => rw [e1] at e; cases e
    | some p =>
      cases e2 : D.toPs ds with
      | none => rw [e1, e2] at e; cases e
      | some ps' => rw [e1, e2] at e; cases e; subst ex; exact .cons (toP_dp d e1 h1) (toPs_dp ds e2 h2)
end
/-- x == y -/
def eqD (x y : D) : Option Bool :=
  match x.toV?, y.toV? with
  | some a, some b => if scal a b = true then some (decide (a = b)) else
      match x.toP, y.toP with
      | some p, some q => some (PyData.eqv p q)
      | _, _ => none
  | _, _ =>
    match x.toP, y.toP with
    | some p, some q => if (SeqAt.shaped p && SeqAt.shaped q) = true then some (PyData.eqv p q) else none
    | _, _ => none
def fEq (x y : D) : Option D := (eqD x y).map .bl
def fNe (x y : D) : Option D := (eqD x y).map fun b => .bl (!b)
theorem sc_map {f : D → D → Option Bool} {g : Bool → Bool} : ScalF fun x y => (f x y).map fun b => .bl (g b) := scal_bl fun x y d e => by
  cases e2 : f x y with
  | none => rw [e2] at e; cases e
  | some b => rw [e2] at e; cases e; exact ⟨_, rfl⟩
theorem sc_fEq : ScalF fEq := sc_map (g := id)
theorem sc_fNe : ScalF fNe := sc_map
theorem toV_rep {G : Gx} {H : Hp} {d : D} {v x : V} (e : d.toV? = some v) (r : Rep G H d x) : x = v := by
  cases d <;> simp [D.toV?] at e <;> subst e <;> exact r
theorem scal_shaped {d : D} {v : V} {p : PyData} (e : d.toV? = some v) (ep : d.toP = some p) (hs : ∀ s, d ≠ .str s) : SeqAt.shaped p = true := by
  cases d <;> simp [D.toV?] at e <;> simp [D.toP] at ep <;> subst ep <;> first
    | (exact absurd rfl (hs _))
    | simp [SeqAt.shaped, PyData.canLay0, PyData.depth]
theorem eq_cases {G : Gx} {H : Hp} {dx dy : D} {x y : V} {b : Bool} (r1 : Rep G H dx x) (r2 : Rep G H dy y) (e : eqD dx dy = some b) :
    (scal x y = true ∧ b = decide (x = y)) ∨ ∃ p q, Dp G.K H x p ∧ Dp G.K H y q ∧ SeqAt.shaped p = true ∧ SeqAt.shaped q = true ∧ b = PyData.eqv p q := by
  have deep : ∀ {p q}, dx.toP = some p → dy.toP = some q → (SeqAt.shaped p && SeqAt.shaped q) = true → PyData.eqv p q = b → ∃ p q, Dp G.K H x p ∧ Dp G.K H y q ∧ SeqAt.shaped p = true ∧ SeqAt.shaped q = true ∧ b = PyData.eqv p q := fun h1 h2 h3 h4 => by
    rw [Bool.and_eq_true] at h3
    exact ⟨_, _, toP_dp _ h1 r1, toP_dp _ h2 r2, h3.1, h3.2, h4.symm⟩
  unfold eqD at e
  split at e
  · rename_i a c ea ec
    have := toV_rep ea r1
    subst this
    have := toV_rep ec r2
    subst this
    by_cases hs : scal x y = true
    · rw [if_pos hs] at e
      exact .inl ⟨hs, (Option.some.inj e).symm⟩
    · rw [if_neg hs] at e
      split at e
      · rename_i p q ep eq
        refine .inr (deep ep eq ?_ (Option.some.inj e))
        rw [Bool.and_eq_true]
        refine ⟨scal_shaped ea ep fun s z => hs ?_, scal_shaped ec eq fun s z => hs ?_⟩
        · subst z; cases ea; cases dy <;> simp [D.toV?] at ec <;> subst ec <;> rfl
        · subst z; cases ec; cases dx <;> simp [D.toV?] at ea <;> subst ea <;> rfl
      · cases e
  · split at e
    · rename_i p q ep eq
      by_cases hs : (SeqAt.shaped p && SeqAt.shaped q) = true
      · rw [if_pos hs] at e
        exact .inr (deep ep eq hs (Option.some.inj e))
      · rw [if_neg hs] at e; cases e
    · cases e
section
variable {X : Cx}
theorem op_fEq (hu : X.A.units + 64 < cLine) : OpR X (compareOp .Eq) (rS (gx X) fEq) := by
  intro pins s σ H x y v u Q I rx ry ⟨dx, dy, d, w, r1, r2, ef, ev, q⟩
  unfold fEq at ef
  cases e : eqD dx dy with
  | none => rw [e] at ef; cases ef
  | some b =>
    rw [e] at ef
    cases ef
    cases ev
    rcases eq_cases r1 r2 e with ⟨h1, h2⟩ | ⟨p, p', h1, h2, h3, h4, h5⟩
    · subst h2; exact op_eq pins s σ H x y v u Q I rx ry ⟨h1, q⟩
    · subst h5; exact op_eqD hu pins s σ H x y v u Q I rx ry ⟨p, p', h1, h2, h3, h4, q⟩
theorem op_fNe (hu : X.A.units + 64 < cLine) : OpR X (compareOp .NotEq) (rS (gx X) fNe) := by
  intro pins s σ H x y v u Q I rx ry ⟨dx, dy, d, w, r1, r2, ef, ev, q⟩
  unfold fNe at ef
  cases e : eqD dx dy with
  | none => rw [e] at ef; cases ef
  | some b =>
    rw [e] at ef
    cases ef
    cases ev
    rcases eq_cases r1 r2 e with ⟨h1, h2⟩ | ⟨p, p', h1, h2, h3, h4, h5⟩
    · subst h2; exact op_ne pins s σ H x y v u Q I rx ry ⟨h1, q⟩
    · subst h5; exact op_neD hu pins s σ H x y v u Q I rx ry ⟨p, p', h1, h2, h3, h4, q⟩
end
/-- x < y of ints, of texts -/
def ltD : D → D → Option Bool
  | .int i, .int j => some (decide (i < j))
  | .str a, .str b => some (decide (a.cps.toList < b.cps.toList))
  | _, _ => none
def fLt (x y : D) : Option D := (ltD x y).map fun b => .bl b
def fGt (x y : D) : Option D := (ltD y x).map fun b => .bl b
def leD : D → D → Option Bool
  | .int i, .int j => some (decide (i ≤ j))
  | _, _ => none
def fLe (x y : D) : Option D := (leD x y).map fun b => .bl b
def fGe (x y : D) : Option D := (leD y x).map fun b => .bl b
theorem sc_fLt : ScalF fLt := sc_map (g := id)
theorem sc_fGt : ScalF fGt := sc_map (f := fun x y => ltD y x) (g := id)
theorem sc_fLe : ScalF fLe := sc_map (g := id)
theorem sc_fGe : ScalF fGe := sc_map (f := fun x y => leD y x) (g := id)
section
variable {X : Cx}
theorem op_fLt : OpR X (compareOp .Lt) (rS (gx X) fLt) := by
  intro pins s σ H x y v u Q I rx ry ⟨dx, dy, d, w, r1, r2, ef, ev, q⟩
  cases dx <;> cases dy <;> simp only [fLt, ltD, Option.map_some, Option.map_none, Option.some.injEq, reduceCtorEq] at ef <;> subst ef <;> cases ev
  · exact L2.op_lt pins s σ H x y v u Q I rx ry ⟨_, _, r1, r2, q⟩
  · exact op_lt_str pins s σ H x y v u Q I rx ry ⟨_, _, r1, r2, q⟩
theorem op_fGt : OpR X (compareOp .Gt) (rS (gx X) fGt) := by
  intro pins s σ H x y v u Q I rx ry ⟨dx, dy, d, w, r1, r2, ef, ev, q⟩
  cases dx <;> cases dy <;> simp only [fGt, ltD, Option.map_some, Option.map_none, Option.some.injEq, reduceCtorEq] at ef <;> subst ef <;> cases ev
  · exact L2.op_gt pins s σ H x y v u Q I rx ry ⟨_, _, r1, r2, q⟩
  · exact op_gt_str pins s σ H x y v u Q I rx ry ⟨_, _, r1, r2, q⟩
theorem op_fLe : OpR X (compareOp .LtE) (rS (gx X) fLe) := by
  intro pins s σ H x y v u Q I rx ry ⟨dx, dy, d, w, r1, r2, ef, ev, q⟩
  cases dx <;> cases dy <;> simp only [fLe, leD, Option.map_some, Option.map_none, Option.some.injEq, reduceCtorEq] at ef <;> subst ef <;> cases ev
  exact L2.op_le pins s σ H x y v u Q I rx ry ⟨_, _, r1, r2, q⟩
theorem op_fGe : OpR X (compareOp .GtE) (rS (gx X) fGe) := by
  intro pins s σ H x y v u Q I rx ry ⟨dx, dy, d, w, r1, r2, ef, ev, q⟩
  cases dx <;> cases dy <;> simp only [fGe, leD, Option.map_some, Option.map_none, Option.some.injEq, reduceCtorEq] at ef <;> subst ef <;> cases ev
  exact L2.op_ge pins s σ H x y v u Q I rx ry ⟨_, _, r1, r2, q⟩
end
/-- is None, is not None -/
def isN : D → Option Bool
  | .non => some true
  | .glo _ => none
  | _ => some false
def fIsN (x y : D) : Option D := match y with
  | .non => (isN x).map fun b => .bl b
  | _ => none
def fNotN (x y : D) : Option D := match y with
  | .non => (isN x).map fun b => .bl (!b)
  | _ => none
theorem sc_fIsN : ScalF fIsN := scal_bl fun x y d e => by
  cases y <;> simp only [fIsN, reduceCtorEq] at e
  cases e2 : isN x with
  | none => rw [e2] at e; cases e
  | some b => rw [e2] at e; exact ⟨_, (Option.some.inj e).symm⟩
theorem sc_fNotN : ScalF fNotN := scal_bl fun x y d e => by
  cases y <;> simp only [fNotN, reduceCtorEq] at e
  cases e2 : isN x with
  | none => rw [e2] at e; cases e
  | some b => rw [e2] at e; exact ⟨_, (Option.some.inj e).symm⟩
theorem isN_rep {G : Gx} {H : Hp} {d : D} {x : V} {b : Bool} (r : Rep G H d x) (e : isN d = some b) : decide (x = .non) = b := by
  cases d with
  | non => cases e; rw [show x = .non from r]; rfl
  | bl _ => cases e; rw [show x = .bl _ from r]; rfl
  | int _ => cases e; rw [show x = .int _ from r]; rfl
  | str _ => cases e; rw [show x = .str _ from r]; rfl
  | tup _ => cases e; obtain ⟨a, xs, e, _⟩ := r; rw [e]; rfl
  | lst _ => cases e; obtain ⟨a, xs, e, _⟩ := r; rw [e]; rfl
  | fz _ => cases e; obtain ⟨a, xs, e, _⟩ := r; rw [e]; rfl
  | glo y => cases e
section
variable {X : Cx}
theorem op_fIsN : OpR X (compareOp .Is) (rS (gx X) fIsN) := by
  intro pins s σ H x y v u Q I rx ry ⟨dx, dy, d, w, r1, r2, ef, ev, q⟩
  cases dy <;> simp only [fIsN, reduceCtorEq] at ef
  cases e2 : isN dx with
  | none => rw [e2] at ef; cases ef
  | some b =>
    rw [e2] at ef
    cases ef
    cases ev
    exact op_isN pins s σ H x y v u Q I rx ry ⟨r2, by rw [isN_rep r1 e2]; exact q⟩
theorem op_fNotN : OpR X (compareOp .IsNot) (rS (gx X) fNotN) := by
  intro pins s σ H x y v u Q I rx ry ⟨dx, dy, d, w, r1, r2, ef, ev, q⟩
  cases dy <;> simp only [fNotN, reduceCtorEq] at ef
  cases e2 : isN dx with
  | none => rw [e2] at ef; cases ef
  | some b =>
    rw [e2] at ef
    cases ef
    cases ev
    exact op_notN pins s σ H x y v u Q I rx ry ⟨r2, by rw [isN_rep r1 e2]; exact q⟩
end
/-! ### in, not in -/
/-- x among flat items; among items of any depth -/
def anyFlat (x : D) (ds : List D) : Option Bool := match x.toV? with
  | some v => (ds.mapM D.toV?).map fun vs => inV v vs
  | none => none
def anyDeep (x : D) (ds : List D) : Option Bool := match x.toP, D.toPs ds with
  | some p, some ps => if (SeqAt.shaped p && SeqAt.shaped (.list ps)) = true then some (ps.any fun z => PyData.eqv z p) else none
  | _, _ => none
/-- the text c of one sign in z; any text in z; x among the items of a list or tuple -/
def inD (x y : D) : Option Bool := match y with
  | .str z => match x with
    | .str c => match c.cps.toList with
      | [k] => some (decide (k ∈ z.cps.toList))
      | _ => some (!(Builtin.Str.occurrences z c 0 z.length 1).isEmpty)
    | _ => none
  | .tup ds => anyFlat x ds
  | .lst ds => match anyFlat x ds with
    | some b => some b
    | none => anyDeep x ds
  | _ => none
def fIn (x y : D) : Option D := (inD x y).map fun b => .bl b
def fNotIn (x y : D) : Option D := (inD x y).map fun b => .bl (!b)
theorem sc_fIn : ScalF fIn := sc_map (g := id)
theorem sc_fNotIn : ScalF fNotIn := sc_map
theorem flat_of {d : D} {v : V} (e : d.toV? = some v) : flatV v = true := by
  cases d <;> simp [D.toV?] at e <;> subst e <;> rfl
theorem reps_vals {G : Gx} {H : Hp} : ∀ {ds : List D} {xs vs : List V}, ds.mapM D.toV? = some vs → Reps G H ds xs → xs = vs ∧ xs.all flatV = true
  | [], xs, vs, e, r => by
    simp at e
    subst e
    exact ⟨r, by rw [show xs = [] from r]; rfl⟩
  | d :: ds, xs, vs, e, ⟨x, r, ex, h1, h2⟩ => by
    simp only [List.mapM_cons, Option.bind_eq_bind] at e
    cases e1 : d.toV? with
    | none => rw [e1] at e; cases e
    | some w =>
      rw [e1] at e
      cases e2 : ds.mapM D.toV? with
      | none => rw [e2] at e; cases e
      | some ws =>
        rw [e2] at e
        cases e
        obtain ⟨q1, q2⟩ := reps_vals e2 h2
        subst ex q1
        have := toV_rep e1 h1
        subst this
        exact ⟨rfl, by rw [List.all_cons, flat_of e1, q2]; rfl⟩
theorem anyFlat_of {G : Gx} {H : Hp} {dx : D} {ds : List D} {x : V} {xs : List V} {b : Bool} (e : anyFlat dx ds = some b) (r : Rep G H dx x) (rs : Reps G H ds xs) : flatV x = true ∧ xs.all flatV = true ∧ inV x xs = b := by
  unfold anyFlat at e
  cases e1 : dx.toV? with
  | none => rw [e1] at e; cases e
  | some v =>
    rw [e1] at e
    have := toV_rep e1 r
    subst this
    cases e2 : ds.mapM D.toV? with
    | none => simp only [e2] at e; cases e
    | some vs =>
      simp only [e2] at e
      cases e
      obtain ⟨q1, q2⟩ := reps_vals e2 rs
      subst q1
      exact ⟨flat_of e1, q2, rfl⟩
theorem anyDeep_of {G : Gx} {H : Hp} {dx : D} {ds : List D} {x y : V} {b : Bool} (e : anyDeep dx ds = some b) (r : Rep G H dx x) (rs : Rep G H (.lst ds) y) : ∃ p ps, Dp G.K H x p ∧ Dp G.K H y (.list ps) ∧ SeqAt.shaped p = true ∧ SeqAt.shaped (.list ps) = true ∧ (ps.any fun z => PyData.eqv z p) = b := by
  unfold anyDeep at e
  cases e1 : dx.toP with
  | none => simp only [e1] at e; cases e
  | some p =>
    cases e2 : D.toPs ds with
    | none => simp only [e1, e2] at e; cases e
    | some ps =>
      simp only [e1, e2] at e
      split at e
      · rename_i hs
        rw [Bool.and_eq_true] at hs
        refine ⟨p, ps, toP_dp _ e1 r, toP_dp (.lst ds) (by simp only [D.toP, e2]; rfl) rs, hs.1, hs.2, Option.some.inj e⟩
      · cases e
section
variable {X : Cx}
theorem sign_of {c : Str} {k : Nat} (e : c.cps.toList = [k]) : c = ⟨#[k]⟩ := by
  cases c with
  | mk a => simp only [Str.mk.injEq]; exact Array.ext' (by rw [e])
theorem op_fInB (hu : X.A.units + 65 < cLine) (neg : Bool) : OpR X (compareOp (if neg then .NotIn else .In)) (rS (gx X) fun x y => (inD x y).map fun b => .bl (if neg then !b else b)) := by
  intro pins s σ H x y v u Q I rx ry ⟨dx, dy, d, w, r1, r2, ef, ev, q⟩
  have ef : (inD dx dy).map (fun b => D.bl (if neg then !b else b)) = some d := ef
  cases e2 : inD dx dy with
  | none => rw [e2] at ef; cases ef
  | some b =>
    rw [e2] at ef
    cases ef
    cases ev
    have seq : ∀ (p : Addr) (xs : List V), y = .ref p → (SqL X.K H p xs ∨ SqT X.K H p xs) → flatV x = true → xs.all flatV = true → inV x xs = b → wpAny (model X.prog X.w) X.A (compareOp (if neg then .NotIn else .In) v u) (EP X pins σ Q) X.xe s := by
      intro p xs ey hq fx fs hb
      subst hb
      cases neg with
      | false => exact op_in_seq pins s σ H x y v u Q I rx ry ⟨p, xs, ey, hq, fx, fs, q⟩
      | true => exact op_notIn_seq pins s σ H x y v u Q I rx ry ⟨p, xs, ey, hq, fx, fs, q⟩
    cases dy with
    | str z =>
      cases dx with
      | str c =>
        simp only [inD] at e2
        split at e2
        · rename_i k ek
          cases e2
          have hc := sign_of ek
          subst hc
          cases neg with
          | false => exact op_in_sign pins s σ H x y v u Q I rx ry ⟨k, z, r1, r2, q⟩
          | true => exact op_notIn_sign pins s σ H x y v u Q I rx ry ⟨k, z, r1, r2, q⟩
        · cases e2
          cases neg with
          | false => exact op_in_str pins s σ H x y v u Q I rx ry ⟨c, z, r1, r2, q⟩
          | true => exact op_notin_str pins s σ H x y v u Q I rx ry ⟨c, z, r1, r2, q⟩
      | _ => cases e2
    | tup ds =>
      obtain ⟨a, xs, ey, h, hr⟩ := r2
      obtain ⟨f1, f2, f3⟩ := anyFlat_of (show anyFlat dx ds = some b from e2) r1 hr
      exact seq a xs ey (.inr h) f1 f2 f3
    | lst ds =>
      simp only [inD] at e2
      cases e3 : anyFlat dx ds with
      | some b' =>
        rw [e3] at e2
        cases e2
        obtain ⟨a, xs, ey, h, hr⟩ := r2
        obtain ⟨f1, f2, f3⟩ := anyFlat_of e3 r1 hr
        exact seq a xs ey (.inl (SqL.of h)) f1 f2 f3
      | none =>
        rw [e3] at e2
        obtain ⟨p, ps, d1, d2, s1, s2, hb⟩ := anyDeep_of e2 r1 r2
        subst hb
        cases neg with
        | false => exact op_inD hu pins s σ H x y v u Q I rx ry ⟨p, ps, d1, d2, s1, s2, q⟩
        | true => exact op_notInD hu pins s σ H x y v u Q I rx ry ⟨p, ps, d1, d2, s1, s2, q⟩
    | _ => cases e2
theorem op_fIn (hu : X.A.units + 65 < cLine) : OpR X (compareOp .In) (rS (gx X) fIn) := op_fInB hu false
theorem op_fNotIn (hu : X.A.units + 65 < cLine) : OpR X (compareOp .NotIn) (rS (gx X) fNotIn) := op_fInB hu true
end
theorem Sta.perm {G : Gx} {R : Fr} {σ : L2.St} {ρ : Env} {H : Hp} {tm tm' : List Item} (S : Sta G R σ ρ H tm) (p : tm.Perm tm') : Sta G R σ ρ H tm' := ⟨S.fits, S.lent, S.own.perm (List.Perm.append_left _ p)⟩
/-- a < b < c -/
def mChain (f g : D → D → Option D) (ma mb mc : M T) : M T := fun ρ => (ma ρ).bind fun t1 ρ1 => (mb ρ1).bind fun t2 ρ2 =>
  match f t1.toD t2.toD with
  | some (.bl true) => (mc ρ2).bind fun t3 ρ3 => match g t2.toD t3.toD with
    | some d => .ok (.leaf d) ρ3
    | none => .stuck
  | some (.bl false) => .ok (.leaf (.bl false)) ρ2
  | _ => .stuck
section
variable {X : Cx} {L : List Nat} {a b c : Expr} {ma mb mc : M T} {pos : Pos} {op op' : CmpOp} {f g : D → D → Option D}
theorem chain_ok {W : WX} {σ : L2.St} {H : Hp} {Q : VK} (hf : ScalF f) (hg : ScalF g) (h : TEm (gx X) L W (mChain f g ma mb mc) σ H Q) : tChain (rS (gx X) f) (rS (gx X) g) (TEm (gx X) L W ma) (TEm (gx X) L W mb) (TEm (gx X) L W mc) σ H Q := by
  obtain ⟨R, ρ, tm, hL, S, h⟩ := h
  refine ⟨R, ρ, tm, hL, S, (End.bind h).mono fun t1 ρ1 _ h1 x H1 S1 => ?_⟩
  refine ⟨R, ρ1, (x, t1) :: tm, hL, S1, ((End.bind h1).push (x, t1)).mono fun t2 ρ2 _ h2 y H2 S2 => ?_⟩
  cases e : f t1.toD t2.toD with
  | none => rw [e] at h2; exact h2.elim
  | some d =>
    obtain ⟨v, hv⟩ := hf _ _ _ e
    refine ⟨t1.toD, t2.toD, d, v, S2.pop.front.repT, S2.front.repT, e, hv, ?_⟩
    rw [e] at h2
    cases d with
    | bl k =>
      cases hv
      refine ⟨k, rfl, ?_⟩
      cases k with
      | false => rw [if_neg Bool.false_ne_true]; exact h2 _ H2 (S2.pop.pop.with fun o => o.scal fun _ => rfl)
      | true =>
        rw [if_pos rfl]
        refine ⟨R, ρ2, (y, t2) :: (x, t1) :: tm, hL, S2, (((End.bind h2).push (x, t1)).push (y, t2)).mono fun t3 ρ3 _ h3 w H3 S3 => ?_⟩
        have S4 : Sta (gx X) R σ ρ3 H3 ((w, t3) :: (y, t2) :: tm) := Sta.pop (p := (x, t1)) (S3.perm (List.perm_middle (l₁ := [(w, t3), (y, t2)])))
        exact rS_of hg S4 h3
    | _ => exact h2.elim
theorem ped_chain (hf : ScalF f) (hg : ScalF g) (ho : OpR X (compareOp op) (rS (gx X) f)) (ho' : OpR X (compareOp op') (rS (gx X) g)) (ha : PEd X L a ma) (hb : PEd X L b mb) (hc : PEd X L c mc) (hm : lastMarks [op, op'] [b, c] = false := by with_unfolding_all rfl) :
    PEd X L (.Compare a [op, op'] [b, c] pos) (mChain f g ma mb mc) := ⟨fun W tk => PE.imp (pe_chain ho ho' (ha.run W tk) (hb.run W tk) (hc.run W tk) hm) fun σ H Q h => chain_ok hf hg h⟩
theorem ptd_chain (hf : ScalF f) (hg : ScalF g) (ho : OpR X (compareOp op) (rS (gx X) f)) (ho' : OpR X (compareOp op') (rS (gx X) g)) (ha : PEd X L a ma) (hb : PEd X L b mb) (hc : PEd X L c mc) (hm : lastMarks [op, op'] [b, c] = false := by with_unfolding_all rfl) :
    PTd X L (.Compare a [op, op'] [b, c] pos) (mTest (mChain f g ma mb mc)) := ⟨fun W tk => PT.imp (pt_chain ho ho' (ha.run W tk) (hb.run W tk) (hc.run W tk) hm) fun σ H Q h => chain_ok hf hg (tem_test h)⟩
end
end Q

/-! Subscripts, slices, built-in calls, stores. -/
namespace Q
open PySem PySem.Spec PyProof.Rows L2

/-! ### x[i] -/
def fIx : D → D → Option T
  | .lst ds, .int i => (atI ds i).map T.leaf
  | .fz ds, .int i => (atI ds i).map T.leaf
  | .tup ds, .int i => (atI ds i).map T.leaf
  | .str z, .int i => if z.length ≤ big then (atI z.cps.toList i).map fun c => .leaf (.str ⟨#[c]⟩) else none
  | _, _ => none
theorem Reps.atI {G : Gx} {H : Hp} {ds : List D} {xs : List V} {i : Int} {d : D} (h : Reps G H ds xs) (e : L2.atI ds i = some d) : ∃ x, L2.atI xs i = some x ∧ Rep G H d x := by
  unfold L2.atI at e ⊢
  rw [h.length]
  cases e2 : ixN ds.length i with
  | none => rw [e2] at e; cases e
  | some j => rw [e2] at e; exact h.get e
section
variable {X : Cx} {L : List Nat}
theorem ix_fIx : IxR X (rD (gx X) fIx) := by
  intro value slice pins s σ H x y v u Q I rx ry ⟨R, its, dx, dy, t, o, ef, q⟩ hs
  have r2 := o.rep
  obtain ⟨F, o⟩ := o
  have ot := o.tail.tail
  have rh := o.tail.head
  cases dy with
  | int i =>
    have ey : y = .int i := r2
    cases dx with
    | lst ds =>
      simp only [fIx] at ef
      cases e : L2.atI ds i with
      | none => rw [e] at ef; cases ef
      | some d =>
        rw [e] at ef; cases ef
        obtain ⟨a, xs, ex, h1, h2⟩ := rh
        obtain ⟨w, e1, e2⟩ := h2.atI e
        exact ix_list value slice pins s σ H x y v u Q I rx ry ⟨a, xs, i, w, ex, ey, SqL.of (mask_same _ _ _ _ h1), e1, q _ _ ⟨F, ot.add e2⟩⟩ hs
    | fz ds =>
      simp only [fIx] at ef
      cases e : L2.atI ds i with
      | none => rw [e] at ef; cases ef
      | some d =>
        rw [e] at ef; cases ef
        obtain ⟨a, xs, ex, h1, h2⟩ := rh
        obtain ⟨w, e1, e2⟩ := h2.atI e
        exact ix_list value slice pins s σ H x y v u Q I rx ry ⟨a, xs, i, w, ex, ey, (mask_same _ _).seq h1, e1, q _ _ ⟨F, ot.add e2⟩⟩ hs
    | tup ds =>
      simp only [fIx] at ef
      cases e : L2.atI ds i with
      | none => rw [e] at ef; cases ef
      | some d =>
        rw [e] at ef; cases ef
        obtain ⟨a, xs, ex, h1, h2⟩ := rh
        obtain ⟨w, e1, e2⟩ := h2.atI e
        exact ix_tup value slice pins s σ H x y v u Q I rx ry ⟨a, xs, i, w, ex, ey, SqT.same (mask_same _ _) h1, e1, q _ _ ⟨F, ot.add e2⟩⟩ hs
    | str z =>
      simp only [fIx] at ef
      by_cases hz : z.length ≤ big
      · rw [if_pos hz] at ef
        cases e : L2.atI z.cps.toList i with
        | none => rw [e] at ef; cases ef
        | some c =>
          rw [e] at ef; cases ef
          exact ix_str value slice pins s σ H x y v u Q I rx ry ⟨z, i, c, rh, ey, Nat.le_trans hz big_line, e, q _ _ ⟨F, ot.add rfl⟩⟩ hs
      · rw [if_neg hz] at ef; cases ef
    | _ => cases ef
  | _ => cases dx <;> cases ef
theorem ped_ix {a b : Expr} {ma mb : M T} {pos : Pos} (ha : PEd X L a ma) (hb : PEd X L b mb) (hs : PlainIx b) : PEd X L (.Subscript a b pos) (mD2 fIx ma mb) :=
  ⟨fun W tk => PE.imp (pe_ix ix_fIx (ha.run W tk) (hb.run W tk) hs) fun σ H Q h => tem_two h fun R ρ tm x y t1 t2 H2 _ S q => rD_of S q⟩
/-- x[e], x's list owned: an item of data -/
def nodeIx (t : Option (Option T)) (j : Int) : Option D := match t with
  | some (some (.node ts)) => match L2.atI ts j with
    | some (.leaf d) => some d
    | _ => none
  | _ => none
def mIxPk (i : Nat) (mb : M T) : M T := fun ρ => match ρ[i]? with
  | some (some _) => (mb ρ).bind fun t ρ1 => match t.toD with
    | .int j => match nodeIx ρ1[i]? j with
      | some d => .ok (.leaf d) ρ1
      | none => .stuck
    | _ => .stuck
  | _ => .stuck
theorem repTs_get {G : Gx} {H Hm : Hp} : ∀ {ts : List T} {xs : List V} {F : List Addr} {i : Nat} {d : D}, RepTs G H Hm ts xs F → ts[i]? = some (.leaf d) → ∃ x, xs[i]? = some x ∧ Rep G Hm d x
  | [], xs, F, i, d, h, e => by simp at e
  | t :: ts, xs, F, 0, d, ⟨x, r, F1, F2, e, eF, h1, h2⟩, q => by
    simp at q; subst q; subst e; exact ⟨x, rfl, h1.2⟩
  | t :: ts, xs, F, i + 1, d, ⟨x, r, F1, F2, e, eF, h1, h2⟩, q => by
    subst e; obtain ⟨y, e1, e2⟩ := repTs_get (i := i) h2 (by simpa using q); exact ⟨y, by simpa using e1, e2⟩
theorem Sta.val {G : Gx} {R : Fr} {σ : L2.St} {ρ : Env} {H : Hp} {tm : List Item} {i : Nat} {t : T} (S : Sta G R σ ρ H tm) (e : ρ[i]? = some (some t)) : ∃ v, σ[i]? = some (some v) ∧ Rep G H t.toD v := by
  obtain ⟨v, e1, S1⟩ := S.take e
  exact ⟨v, e1, S1.front.repT⟩
/-- an item of a slot's own list -/
theorem Sta.nodeAt {G : Gx} {R : Fr} {σ : L2.St} {ρ : Env} {H : Hp} {tm : List Item} {i : Nat} {ts : List T} {j : Int} {d : D} (S : Sta G R σ ρ H tm) (e : ρ[i]? = some (some (.node ts))) (hj : L2.atI ts j = some (.leaf d)) :
    ∃ a xs x, σ[i]? = some (some (.ref a)) ∧ H a = some (.lst xs) ∧ L2.atI xs j = some x ∧ Sta G R σ ρ H ((x, .leaf d) :: tm) := by
  obtain ⟨v, e1, S1⟩ := S.take e
  obtain ⟨F, o⟩ := S1.front
  obtain ⟨F1, F2, eF, ⟨a, xs, F', ea, hx, e2, h1⟩, h2⟩ := o.rep
  subst ea
  have hlen := h1.length
  unfold L2.atI at hj
  cases e3 : ixN ts.length j with
  | none => rw [e3] at hj; cases hj
  | some k =>
    rw [e3] at hj
    obtain ⟨x, ex, rx⟩ := repTs_get h1 hj
    refine ⟨a, xs, x, e1, hx, by unfold L2.atI; rw [hlen, e3]; exact ex, ?_⟩
    obtain ⟨F3, o3⟩ := S.own
    refine S.with fun _ => ?_
    -- noted with the same footprint
    have S2 : Sta G R σ (ρ.set i none) H ((.ref a, .node ts) :: (x, .leaf d) :: tm) := by
      have o4 : Own G R H ((x, .leaf d) :: (.ref a, .node ts) :: (items σ (ρ.set i none) ++ tm)) := ⟨F, o.add rx⟩
      exact Sta.back S1.fits S1.lent (o4.perm ((List.Perm.swap _ _ _).trans (List.Perm.cons _ (perm_mid _ _ _).symm)))
    have S3 := S2.put S.fits e1
    have e5 : ρ.set i (some (.node ts)) = ρ := List.ext_getElem? fun j => by
      by_cases hj : i = j
      · subst hj
        obtain ⟨hlt, _⟩ := List.getElem?_eq_some_iff.mp e
        rw [List.getElem?_set_self hlt, e]
      · rw [List.getElem?_set_ne hj]
    rw [e5] at S3
    exact S3.front
theorem ped_ixPk {i : Nat} {x : Str} {b : Expr} {mb : M T} {pos p2 : Pos} (hv : PE X (.Name x p2) (tVar i)) (hb : PEd X L b mb) (hs : PlainIx b) : PEd X L (.Subscript (.Name x p2) b pos) (mIxPk i mb) :=
  ⟨fun W tk => PE.imp (pe_ix ix_list hv (hb.run W tk) hs) fun σ H Q ⟨R, ρ, tm, hL, S, q⟩ => by
    unfold mIxPk at q
    split at q
    · rename_i t e
      obtain ⟨v, e1, _⟩ := S.val e
      refine ⟨v, e1, R, ρ, tm, hL, S, (End.bind q).mono fun tb ρ1 eb q y H2 S2 => ?_⟩
      clear eb
      split at q
      · rename_i j ej
        cases en : nodeIx ρ1[i]? j with
        | none => rw [en] at q; exact q.elim
        | some d =>
          rw [en] at q
          have ey := (toInt S2 ej).front.rep
          unfold nodeIx at en
          split at en
          · rename_i ts e3
            split at en
            · rename_i d' ed
              cases en
              obtain ⟨a, xs, w, e4, hx, ew, S3⟩ := S2.pop.nodeAt e3 ed
              rw [e1] at e4
              cases e4
              exact ⟨a, xs, j, w, rfl, ey, SqL.of hx, ew, q w H2 S3⟩
            · cases en
          · cases en
      · exact q.elim
    · exact q.elim⟩
/-! ### slices -/
def mPart : Option (M T) → M (Option Int)
  | none, ρ => .ok none ρ
  | some m, ρ => (m ρ).bind fun t ρ1 => match t.toD with
    | .int i => .ok (some i) ρ1
    | _ => .stuck
def cutD (xs : List D) (lo hi : Option Int) : List D := (xs.drop (HT.sIx xs.length 0 lo)).take (HT.sIx xs.length xs.length hi - HT.sIx xs.length 0 lo)
def fSl : D → Option Int → Option Int → Option T
  | .lst ds, lo, hi => some (.node ((cutD ds lo hi).map T.leaf))
  | .tup ds, lo, hi => some (.leaf (.tup (cutD ds lo hi)))
  | .str z, lo, hi => if z.length ≤ big then some (.leaf (.str (cutS z lo hi))) else none
  | _, _, _ => none
def mSlice (ma : M T) (lo hi : Option (M T)) : M T := fun ρ => (ma ρ).bind fun t ρ1 => (mPart lo ρ1).bind fun l ρ2 => (mPart hi ρ2).bind fun h ρ3 => match fSl t.toD l h with
  | some u => .ok u ρ3
  | none => .stuck
structure POd (X : Cx) (L : List Nat) (e : Option Expr) (m : Option (M T)) (t : WX → TO) : Prop where
  po : ∀ W, L2N.Takes X W → PO X e (t W)
  run : ∀ W (R : Fr) (σ : L2.St) (ρ : Env) (H : Hp) (tm : List Item) (Q : Option Int → Hp → Prop), R.lent.map (·.1) = L → Sta (gx X) R σ ρ H tm → End (gx X) R σ tm W (fun o ρ1 => ∀ H1, Sta (gx X) R σ ρ1 H1 tm → Q o H1) (mPart m ρ) → t W σ H Q
theorem pod_none : POd X L none none (fun _ => tNoPart) := ⟨fun _ _ => po_none, fun W R σ ρ H tm Q hL S q => q H S⟩
theorem pod_some {e : Expr} {m : M T} (h : PEd X L e m) : POd X L (some e) (some m) (fun W => tPart (TEm (gx X) L W m)) := ⟨fun W tk => po_some (h.run W tk), fun W R σ ρ H tm Q hL S q =>
  ⟨R, ρ, tm, hL, S, (End.bind q).mono fun t ρ1 et q v H1 S1 => by
    clear et
    split at q
    · rename_i i e
      exact ⟨i, (toInt S1 e).front.rep, q H1 S1.pop⟩
    · exact q.elim⟩⟩
theorem reps_cut {G : Gx} {H : Hp} {ds : List D} {xs : List V} (h : Reps G H ds xs) (lo hi : Option Int) : Reps G H (cutD ds lo hi) (cutV xs lo hi) := by
  unfold cutD cutV
  rw [h.length]
  exact (h.drop _).take _
theorem sl_fSl {x : V} {d : D} {lo hi : Option Int} {u : T} {R : Fr} {H : Hp} {its : List Item} {Q : VK} (o : Own (gx X) R H ((x, .leaf d) :: its)) (e : fSl d lo hi = some u) (q : ∀ v H', Own (gx X) R H' ((v, u) :: its) → Q v H') :
    rSlL X.K x lo hi H Q ∨ rSlA X.K x lo hi H Q ∨ rSlS x lo hi H Q := by
  obtain ⟨F, o⟩ := o
  cases d with
  | lst ds =>
    cases e
    obtain ⟨a, xs, ex, h1, h2⟩ := o.head
    exact .inl ⟨a, xs, ex, SqL.of (mask_same _ _ _ _ h1), fun p hp => q _ _ (OwnF.newLst o.tail hp (reps_cut h2 lo hi))⟩
  | tup ds =>
    cases e
    have hd := o.head
    obtain ⟨a, xs, ex, h1, h2⟩ := o.head
    refine .inr (.inl ⟨a, xs, ex, SqT.same (mask_same _ _) h1, fun hw => ?_, fun _ p hp => q _ _ ⟨F, OwnF.newTup o.tail hp (reps_cut h2 lo hi)⟩⟩)
    have ec : cutD ds lo hi = ds := by
      unfold cutD
      rw [← h2.length, hw.1, hw.2, List.drop_zero, Nat.sub_zero, h2.length, List.take_length]
    rw [ec] at q
    subst ex
    exact q _ _ ⟨F, o.tail.add hd⟩
  | str z =>
    simp only [fSl] at e
    by_cases hz : z.length ≤ big
    · rw [if_pos hz] at e
      cases e
      exact .inr (.inr ⟨z, o.head, Nat.le_trans hz big_line, q _ _ ⟨F, o.tail.add rfl⟩⟩)
    · rw [if_neg hz] at e; cases e
  | _ => cases e
theorem ped_slice {a : Expr} {lo hi : Option Expr} {ma : M T} {ml mh : Option (M T)} {tl th : WX → TO} {p2 pos : Pos} (ha : PEd X L a ma) (hl : POd X L lo ml tl) (hh : POd X L hi mh th) : PEd X L (.Subscript a (.Slice lo hi none p2) pos) (mSlice ma ml mh) :=
  ⟨fun W tk => PE.imp (pe_slice (SlR.or sl_list (SlR.or sl_tupA sl_str)) (ha.run W tk) (hl.po W tk) (hh.po W tk)) fun σ H Q ⟨R, ρ, tm, hL, S, q⟩ => by
    refine ⟨R, ρ, tm, hL, S, (End.bind q).mono fun t ρ1 _ q x H1 S1 => ?_⟩
    refine hl.run W R σ ρ1 H1 ((x, t) :: tm) _ hL S1 (((End.bind q).push (x, t)).mono fun l ρ2 _ q H2 S2 => ?_)
    refine hh.run W R σ ρ2 H2 ((x, t) :: tm) _ hL S2 (((End.bind q).push (x, t)).mono fun h ρ3 _ q H3 S3 => ?_)
    cases e : fSl t.toD l h with
    | none => rw [e] at q; exact q.elim
    | some u => rw [e] at q; exact sl_fSl S3.front.freeze e fun v H' o => q v H' (Sta.back S3.fits S3.lent o)⟩

/-! ### built-ins by their name: scalar answers, answers of data -/
def rSn (G : Gx) (f : List D → Option D) : List V → Hp → VK → Prop := fun xs H Q => ∃ ds d v, Reps G H ds xs ∧ f ds = some d ∧ d.toV? = some v ∧ Q v H
def rDn (G : Gx) (f : List D → Option T) : List V → Hp → VK → Prop := fun xs H Q => ∃ R its ds t, xs.length = ds.length ∧ Own G R H (xs.zip (ds.map T.leaf) ++ its) ∧ f ds = some t ∧ ∀ v H', Own G R H' ((v, t) :: its) → Q v H'
def mSn (f : List D → Option D) (ms : List (M T)) : M T := fun ρ => (mArgs ms ρ).bind fun ts ρ1 => match f (ts.map T.toD) with
  | some d => .ok (.leaf d) ρ1
  | none => .stuck
def mDn (f : List D → Option T) (ms : List (M T)) : M T := fun ρ => (mArgs ms ρ).bind fun ts ρ1 => match f (ts.map T.toD) with
  | some t => .ok t ρ1
  | none => .stuck
theorem own_reps {G : Gx} {R : Fr} {H : Hp} {its : List Item} {xs : List V} {ts : List T} (hl : xs.length = ts.length) (o : Own G R H (xs.zip ts ++ its)) : Own G R H (xs.zip ((ts.map T.toD).map T.leaf) ++ its) ∧ Reps G H (ts.map T.toD) xs := by
  have o1 := Own.freezeAll hl o
  have e : ts.map (fun t => T.leaf t.toD) = (ts.map T.toD).map T.leaf := by rw [List.map_map]; rfl
  rw [e] at o1
  refine ⟨o1, ?_⟩
  obtain ⟨F, o2⟩ := o1
  exact reps_mono (mask_same _ _) _ (OwnF.reps (by rw [List.length_map]; exact hl) o2)
theorem tcb_S {f : List D → Option D} {ms : List (M T)} {W : WX} {σ : L2.St} {H : Hp} {Q : VK} (hf : ∀ ds d, f ds = some d → ∃ v, d.toV? = some v) (h : TEm (gx X) L W (mSn f ms) σ H Q) : tCB (rSn (gx X) f) (TAm (gx X) L W (mArgs ms)) σ H Q := by
  obtain ⟨R, ρ, tm, hL, S, q⟩ := h
  refine ⟨R, ρ, tm, hL, S, (End.bind q).mono fun ts ρ1 _ q vs H1 hl S1 => ?_⟩
  cases e : f (ts.map T.toD) with
  | none => rw [e] at q; exact q.elim
  | some d =>
    rw [e] at q
    obtain ⟨v, hv⟩ := hf _ _ e
    exact ⟨_, d, v, (own_reps hl S1.frontL).2, e, hv, q v H1 (S1.dropL.with fun o => o.scal fun _ => rep_scal hv)⟩
theorem tcb_D {f : List D → Option T} {ms : List (M T)} {W : WX} {σ : L2.St} {H : Hp} {Q : VK} (h : TEm (gx X) L W (mDn f ms) σ H Q) : tCB (rDn (gx X) f) (TAm (gx X) L W (mArgs ms)) σ H Q := by
  obtain ⟨R, ρ, tm, hL, S, q⟩ := h
  refine ⟨R, ρ, tm, hL, S, (End.bind q).mono fun ts ρ1 _ q vs H1 hl S1 => ?_⟩
  cases e : f (ts.map T.toD) with
  | none => rw [e] at q; exact q.elim
  | some t =>
    rw [e] at q
    exact ⟨R, _, _, t, by rw [List.length_map]; exact hl, (own_reps hl S1.frontL).1, e, fun v H' o => q v H' (Sta.back S1.fits S1.lent o)⟩
section
variable {e : Expr} {es : List Expr} {ms : List (M T)} {x : Str} {p pos : Pos} {id Ty : String}
theorem ped_bS {f : List D → Option D} (hf : ∀ ds d, f ds = some d → ∃ v, d.toV? = some v) (hc : CallR X (.builtin id) (rSn (gx X) f)) (hg : Gl X x) (hm : X.mg x = none) (hv : bootBuiltins x = some (.builtin id)) (ha : PAd X L (e :: es) ms) (hn : x ≠ "__name__" := by decide) (hdb : (x == ("__debug__" : Str)) = false := by decide)
    (he : starEach (e :: es) X.env = (false, eval e X.env) :: starEach es X.env := by rfl) (hpl : (backTo pos (starEach es X.env)).any (·.1) = false := by rfl) : PEd X L (.Call (.Name x p) (e :: es) [] pos) (mSn f ms) :=
  ⟨fun W tk => PE.imp (pe_callB hc hg hm hv (ha.run W tk) hn hdb he hpl) fun σ H Q h => tcb_S hf h⟩
theorem ped_bD {f : List D → Option T} (hc : CallR X (.builtin id) (rDn (gx X) f)) (hg : Gl X x) (hm : X.mg x = none) (hv : bootBuiltins x = some (.builtin id)) (ha : PAd X L (e :: es) ms) (hn : x ≠ "__name__" := by decide) (hdb : (x == ("__debug__" : Str)) = false := by decide)
    (he : starEach (e :: es) X.env = (false, eval e X.env) :: starEach es X.env := by rfl) (hpl : (backTo pos (starEach es X.env)).any (·.1) = false := by rfl) : PEd X L (.Call (.Name x p) (e :: es) [] pos) (mDn f ms) :=
  ⟨fun W tk => PE.imp (pe_callB hc hg hm hv (ha.run W tk) hn hdb he hpl) fun σ H Q h => tcb_D h⟩
theorem ped_tS {f : List D → Option D} (hf : ∀ ds d, f ds = some d → ∃ v, d.toV? = some v) (hc : CallR X (.type Ty) (rSn (gx X) f)) (hg : Gl X x) (hm : X.mg x = none) (hv : bootBuiltins x = some (.type Ty)) (ha : PAd X L (e :: es) ms) (hn : x ≠ "__name__" := by decide) (hdb : (x == ("__debug__" : Str)) = false := by decide)
    (he : starEach (e :: es) X.env = (false, eval e X.env) :: starEach es X.env := by rfl) (hpl : (backTo pos (starEach es X.env)).any (·.1) = false := by rfl) : PEd X L (.Call (.Name x p) (e :: es) [] pos) (mSn f ms) :=
  ⟨fun W tk => PE.imp (pe_callTy hc hg hm hv (ha.run W tk) hn hdb he hpl) fun σ H Q h => tcb_S hf h⟩
theorem ped_tD {f : List D → Option T} (hc : CallR X (.type Ty) (rDn (gx X) f)) (hg : Gl X x) (hm : X.mg x = none) (hv : bootBuiltins x = some (.type Ty)) (ha : PAd X L (e :: es) ms) (hn : x ≠ "__name__" := by decide) (hdb : (x == ("__debug__" : Str)) = false := by decide)
    (he : starEach (e :: es) X.env = (false, eval e X.env) :: starEach es X.env := by rfl) (hpl : (backTo pos (starEach es X.env)).any (·.1) = false := by rfl) : PEd X L (.Call (.Name x p) (e :: es) [] pos) (mDn f ms) :=
  ⟨fun W tk => PE.imp (pe_callTy hc hg hm hv (ha.run W tk) hn hdb he hpl) fun σ H Q h => tcb_D h⟩
end
/-- len -/
def lenD : D → Option Nat
  | .str z => if z.length ≤ big then some z.length else none
  | .tup ds => some ds.length
  | .lst ds => some ds.length
  | .fz ds => some ds.length
  | _ => none
def fLen : List D → Option D
  | [d] => (lenD d).map fun n => .int (n : Nat)
  | _ => none
theorem sc_fLen : ∀ ds d, fLen ds = some d → ∃ v, d.toV? = some v := fun ds d e => by
  unfold fLen at e
  split at e
  · rename_i d'
    cases e2 : lenD d' with
    | none => rw [e2] at e; cases e
    | some n => rw [e2] at e; cases e; exact ⟨_, rfl⟩
  · cases e
theorem lenV_of {G : Gx} {H : Hp} {d : D} {x : V} {n : Nat} (e : lenD d = some n) (r : Rep G H d x) : LenV G.K x H n := by
  cases d with
  | str z =>
    simp only [lenD] at e
    by_cases hz : z.length ≤ big
    · rw [if_pos hz] at e
      cases e
      rw [show x = .str z from r]
      exact ⟨Nat.le_trans hz big_line, rfl⟩
    · rw [if_neg hz] at e; cases e
  | tup ds => cases e; obtain ⟨a, xs, ex, h1, h2⟩ := r; subst ex; exact .inr ⟨xs, h1, h2.length.symm⟩
  | lst ds => cases e; obtain ⟨a, xs, ex, h1, h2⟩ := r; subst ex; exact .inl ⟨xs, SqL.of h1, h2.length.symm⟩
  | fz ds => cases e; obtain ⟨a, xs, ex, h1, h2⟩ := r; subst ex; exact .inl ⟨xs, h1, h2.length.symm⟩
  | _ => cases e
theorem reps_one {G : Gx} {H : Hp} {d : D} {xs : List V} (r : Reps G H [d] xs) : ∃ x, xs = [x] ∧ Rep G H d x := by
  obtain ⟨x, r', e, h1, h2⟩ := r
  rw [show r' = [] from h2] at e
  exact ⟨x, e, h1⟩
theorem reps_two {G : Gx} {H : Hp} {d e : D} {xs : List V} (r : Reps G H [d, e] xs) : ∃ x y, xs = [x, y] ∧ Rep G H d x ∧ Rep G H e y := by
  obtain ⟨x, r', e, h1, h2⟩ := r
  obtain ⟨y, e2, h3⟩ := reps_one h2
  exact ⟨x, y, by rw [e, e2], h1, h3⟩
theorem c_fLen : CallR X (.builtin "len") (rSn (gx X) fLen) := by
  intro pins s σ H xs us Q I r ⟨ds, d, v, rs, ef, ev, q⟩
  unfold fLen at ef
  split at ef
  · rename_i d'
    cases e2 : lenD d' with
    | none => rw [e2] at ef; cases ef
    | some n =>
      rw [e2] at ef; cases ef; cases ev
      obtain ⟨x, rfl, rx⟩ := reps_one rs
      exact call_len pins s σ H [x] us Q I r ⟨x, n, rfl, lenV_of e2 rx, q⟩
  · cases ef
/-- len(x), x's list owned -/
def mLenPk (i : Nat) : M T := fun ρ => match ρ[i]? with
  | some (some t) => match lenD t.toD with
    | some n => .ok (.leaf (.int (n : Nat))) ρ
    | none => .stuck
  | _ => .stuck
theorem ped_lenPk {i : Nat} {x y : Str} {p pos p2 : Pos} (hv : PE X (.Name x p2) (tVar i)) (hg : Gl X y) (hm : X.mg y = none) (hb : bootBuiltins y = some (.builtin "len")) (hn : y ≠ "__name__" := by decide) (hdb : (y == ("__debug__" : Str)) = false := by decide)
    (he : starEach [.Name x p2] X.env = (false, eval (.Name x p2) X.env) :: starEach [] X.env := by rfl) (hpl : (backTo pos (starEach [] X.env)).any (·.1) = false := by rfl) : PEd X L (.Call (.Name y p) [.Name x p2] [] pos) (mLenPk i) :=
  ⟨fun W tk => PE.imp (pe_callB call_len hg hm hb (pa_cons hv pa_nil he) hn hdb he hpl) fun σ H Q ⟨R, ρ, tm, hL, S, q⟩ => by
    unfold mLenPk at q
    split at q
    · rename_i t e
      obtain ⟨v, e1, r⟩ := S.val e
      cases e2 : lenD t.toD with
      | none => rw [e2] at q; exact q.elim
      | some n => rw [e2] at q; exact ⟨v, e1, v, n, rfl, lenV_of e2 r, q _ H (S.with fun o => o.scal fun _ => rfl)⟩
    · exact q.elim⟩
def fMin : List D → Option D
  | [.int i, .int j] => some (.int (if j < i then j else i))
  | _ => none
def fMax : List D → Option D
  | [.int i, .int j] => some (.int (if j > i then j else i))
  | _ => none
def fInt : List D → Option D
  | [.int i] => some (.int i)
  | [.bl b] => some (.int (if b then 1 else 0))
  | _ => none
theorem sc_fMin : ∀ ds d, fMin ds = some d → ∃ v, d.toV? = some v := fun ds d e => by
  unfold fMin at e
  split at e
  · cases e; exact ⟨_, rfl⟩
  · cases e
theorem sc_fMax : ∀ ds d, fMax ds = some d → ∃ v, d.toV? = some v := fun ds d e => by
  unfold fMax at e
  split at e
  · cases e; exact ⟨_, rfl⟩
  · cases e
theorem sc_fInt : ∀ ds d, fInt ds = some d → ∃ v, d.toV? = some v := fun ds d e => by
  unfold fInt at e
  split at e
  · cases e; exact ⟨_, rfl⟩
  · cases e; exact ⟨_, rfl⟩
  · cases e
theorem c_fMin (hc : X.calm = true) : CallR X (.builtin "min") (rSn (gx X) fMin) := by
  intro pins s σ H xs us Q I r ⟨ds, d, v, rs, ef, ev, q⟩
  unfold fMin at ef
  split at ef
  · rename_i i j
    cases ef; cases ev
    obtain ⟨x, y, rfl, rx, ry⟩ := reps_two rs
    rw [show x = .int i from rx, show y = .int j from ry] at r
    exact call_min2 hc pins s σ H _ us Q I r ⟨i, j, rfl, q⟩
  · cases ef
theorem c_fMax (hc : X.calm = true) : CallR X (.builtin "max") (rSn (gx X) fMax) := by
  intro pins s σ H xs us Q I r ⟨ds, d, v, rs, ef, ev, q⟩
  unfold fMax at ef
  split at ef
  · rename_i i j
    cases ef; cases ev
    obtain ⟨x, y, rfl, rx, ry⟩ := reps_two rs
    rw [show x = .int i from rx, show y = .int j from ry] at r
    exact call_max2 hc pins s σ H _ us Q I r ⟨i, j, rfl, q⟩
  · cases ef
theorem c_fInt : CallR X (.type "int") (rSn (gx X) fInt) := by
  intro pins s σ H xs us Q I r ⟨ds, d, v, rs, ef, ev, q⟩
  unfold fInt at ef
  split at ef
  · rename_i i
    cases ef; cases ev
    obtain ⟨x, rfl, rx⟩ := reps_one rs
    rw [show x = .int i from rx] at r
    exact call_int1 pins s σ H _ us Q I r (.inl ⟨i, rfl, q⟩)
  · rename_i b
    cases ef; cases ev
    obtain ⟨x, rfl, rx⟩ := reps_one rs
    rw [show x = .bl b from rx] at r
    exact call_int1 pins s σ H _ us Q I r (.inr ⟨b, rfl, q⟩)
  · cases ef
/-- tuple(x), list(x) -/
def fTuple : List D → Option T
  | [.lst ds] => some (.leaf (.tup ds))
  | [.tup ds] => some (.leaf (.tup ds))
  | _ => none
def fList : List D → Option T
  | [.lst ds] => some (.node (ds.map T.leaf))
  | [.fz ds] => some (.node (ds.map T.leaf))
  | [.tup ds] => some (.node (ds.map T.leaf))
  | _ => none
theorem own_one {G : Gx} {R : Fr} {H : Hp} {its : List Item} {xs : List V} {d : D} (hl : xs.length = [d].length) (o : Own G R H (xs.zip ([d].map T.leaf) ++ its)) : ∃ x F, xs = [x] ∧ OwnF G R H ((x, .leaf d) :: its) F := by
  cases xs with
  | nil => simp at hl
  | cons x r => cases r with
    | nil => obtain ⟨F, o⟩ := o; exact ⟨x, F, rfl, o⟩
    | cons _ _ => simp at hl
theorem c_fTuple : CallR X (.type "tuple") (rDn (gx X) fTuple) := by
  intro pins s σ H xs us Q I r ⟨R, its, ds, t, hl, o, ef, q⟩
  unfold fTuple at ef
  split at ef
  · cases ef
    obtain ⟨x, F, ex0, o2⟩ := own_one hl o
    subst ex0
    clear o
    obtain ⟨a, ys, ex, h1, h2⟩ := o2.head
    subst ex
    exact call_tuple_of pins s σ H _ us Q I r ⟨a, ys, rfl, .inl ⟨SqL.of (mask_same _ _ _ _ h1), fun l hl => q _ _ ⟨F, OwnF.newTup o2.tail hl h2⟩⟩⟩
  · cases ef
    obtain ⟨x, F, ex0, o2⟩ := own_one hl o
    subst ex0
    clear o
    have hd := o2.head
    obtain ⟨a, ys, ex, h1, h2⟩ := o2.head
    subst ex
    exact call_tuple_of pins s σ H _ us Q I r ⟨a, ys, rfl, .inr ⟨SqT.same (mask_same _ _) h1, q _ _ ⟨F, o2.tail.add hd⟩⟩⟩
  · cases ef
theorem c_fList : CallR X (.type "list") (rDn (gx X) fList) := by
  intro pins s σ H xs us Q I r ⟨R, its, ds, t, hl, o, ef, q⟩
  unfold fList at ef
  split at ef
  · cases ef
    obtain ⟨x, F, ex0, o2⟩ := own_one hl o
    subst ex0
    clear o
    obtain ⟨a, ys, ex, h1, h2⟩ := o2.head
    subst ex
    exact call_list_of pins s σ H _ us Q I r ⟨a, ys, rfl, .inl (SqL.of (mask_same _ _ _ _ h1)), fun l hl => q _ _ (OwnF.newLst o2.tail hl h2)⟩
  · cases ef
    obtain ⟨x, F, ex0, o2⟩ := own_one hl o
    subst ex0
    clear o
    obtain ⟨a, ys, ex, h1, h2⟩ := o2.head
    subst ex
    exact call_list_of pins s σ H _ us Q I r ⟨a, ys, rfl, .inl ((mask_same _ _).seq h1), fun l hl => q _ _ (OwnF.newLst o2.tail hl h2)⟩
  · cases ef
    obtain ⟨x, F, ex0, o2⟩ := own_one hl o
    subst ex0
    clear o
    obtain ⟨a, ys, ex, h1, h2⟩ := o2.head
    subst ex
    exact call_list_of pins s σ H _ us Q I r ⟨a, ys, rfl, .inr (SqT.same (mask_same _ _) h1), fun l hl => q _ _ (OwnF.newLst o2.tail hl h2)⟩
  · cases ef
/-- sorted(x) of ints -/
def intsOf : List D → Option (List Int)
  | [] => some []
  | .int i :: ds => (intsOf ds).map (i :: ·)
  | _ => none
def insI (x : Int) : List Int → List Int
  | [] => [x]
  | y :: ys => if x ≤ y then x :: y :: ys else y :: insI x ys
def sortI : List Int → List Int
  | [] => []
  | x :: xs => insI x (sortI xs)
theorem insI_perm (x : Int) : ∀ ys, (insI x ys).Perm (x :: ys)
  | [] => .refl _
  | y :: ys => by
    unfold insI
    split
    · exact .refl _
    · exact ((insI_perm x ys).cons y).trans (.swap _ _ _)
theorem sortI_perm : ∀ xs, (sortI xs).Perm xs
  | [] => .refl _
  | x :: xs => (insI_perm x _).trans ((sortI_perm xs).cons x)
theorem insI_sorted (x : Int) : ∀ {ys : List Int}, ys.Pairwise (· ≤ ·) → (insI x ys).Pairwise (· ≤ ·)
  | [], _ => by simp [insI]
  | y :: ys, h => by
    have h' := List.pairwise_cons.mp h
    unfold insI
    split
    · rename_i hxy
      exact List.pairwise_cons.mpr ⟨fun z hz => by
        rcases List.mem_cons.mp hz with e | e
        · omega
        · have := h'.1 z e; omega, h⟩
    · rename_i hxy
      refine List.pairwise_cons.mpr ⟨fun z hz => ?_, insI_sorted x h'.2⟩
      rcases List.mem_cons.mp ((insI_perm x ys).mem_iff.mp hz) with e | e
      · omega
      · exact h'.1 z e
theorem sortI_sorted : ∀ xs : List Int, (sortI xs).Pairwise (· ≤ ·)
  | [] => .nil
  | x :: xs => insI_sorted x (sortI_sorted xs)
theorem sortI_one {a b : List Int} (h : a.Perm b) (ha : a.Pairwise (· ≤ ·)) : a = sortI b := by
  rw [PySem.W.os_sorted_mergeSort h ha, PySem.W.os_sorted_mergeSort (sortI_perm b) (sortI_sorted b)]
theorem intsOf_eq : ∀ {ds : List D} {ns : List Int}, intsOf ds = some ns → ds = ns.map D.int
  | [], ns, e => by cases e; rfl
  | d :: ds, ns, e => by
    cases d <;> simp only [intsOf, reduceCtorEq] at e
    cases e2 : intsOf ds with
    | none => rw [e2] at e; cases e
    | some ms => rw [e2] at e; cases e; rw [List.map_cons, intsOf_eq e2]
def fSortedI : List D → Option T
  | [.lst ds] => (intsOf ds).map fun ns => .node ((sortI ns).map fun i => .leaf (.int i))
  | _ => none
theorem c_fSortedI : CallR X (.builtin "sorted") (rDn (gx X) fSortedI) := by
  intro pins s σ H xs us Q I r ⟨R, its, ds, t, hl, o, ef, q⟩
  unfold fSortedI at ef
  split at ef
  · rename_i es
    cases e2 : intsOf es with
    | none => rw [e2] at ef; cases ef
    | some ns =>
      rw [e2] at ef; cases ef
      have ee := intsOf_eq e2
      subst ee
      obtain ⟨x, F, ex0, o2⟩ := own_one hl o
      subst ex0
      clear o
      obtain ⟨a, ys, ex, h1, h2⟩ := o2.head
      subst ex
      rw [Reps.ints] at h2
      subst h2
      refine cr_sortedI pins s σ H _ us Q I r ⟨a, ns, rfl, SqL.of (mask_same _ _ _ _ h1), fun ns' p pm hs hp => ?_⟩
      rw [sortI_one pm hs]
      have e3 : (sortI ns).map (fun i => T.leaf (.int i)) = ((sortI ns).map D.int).map T.leaf := by rw [List.map_map]; rfl
      have q2 := OwnF.newLst o2.tail hp (Reps.ints (ns := sortI ns).mpr rfl)
      rw [← e3] at q2
      exact q _ _ q2
  · cases ef
end
end Q

set_option maxHeartbeats 2000000
/-! raise, try, an except suite. -/
namespace Q
open PySem PySem.Spec PyProof.Rows L2

/-! ### raise -/
/-- the exception's dict, the exception itself let go -/
theorem mkN_end {X : Cx} {pins : List (Addr × Obj)} {σ : L2.St} {H1 H2 : Hp} {Q : XK} {hp hp2 h2 : Heap} {g1 g2 : Array GenState} {d1 d2 : Drawn} {t1 t2 : Nat} {os1 os2 : OsState} {a C d : Addr} {fs : List (Str × V)} (T : Raises X (.ref C)) (I1 : Inv X pins σ H1 ⟨hp, g1, d1, t1, os1⟩)
    (ha : hp.objs.size ≤ a) (k : ∀ b o, hp.get? b = some o → hp2.get? b = some o) (un : Un (frs X.stack) [] (upd H1 a (exo a C none)) H2 hp2 h2) (hok : HOk X.prog X.w H2 h2) (ho : os2 = os1) (hb : AllBare g2)
    (ea : H2 a = some (exo a C (some d))) (ed : H2 d = some (exd d fs)) (hd1 : H1 d = none) (q : Q (.ref C) (some d) (upd (del H2 a) d (.xd fs))) : L2N.MkP X pins σ Q (.ref a) ⟨h2, g2, d2, t2, os2⟩ := by
  obtain ⟨t0, G, J, kG, ge, hoe, na⟩ := mk_end0 (d2 := d2) (t2 := t2) I1 ha k un hok ho hb ea ed hd1
  refine ⟨a, _, _, ⟨G, g2, d2, t2, os2⟩, _, .ref C, some d, rfl, J, kG, ge, hoe, ⟨rfl, rfl, ?_⟩, rfl, rfl, na, rfl, hb, T, q⟩
  intro vs e
  cases e
  rfl
theorem pmk_exc {X : Cx} {CX : CXT} {x : Str} {C fI : Addr} {k : Nat} {fd : FuncData} {ps : List Str} {sp : Sp} {e : Expr} {es : List Expr} {ta : TA} {p pos : Pos} (T : OexC X.K C) (iC : PySem.W.findIn X.K (.ref C) "__init__" = some (some (.ref fI))) (tI : PySem.W.typeIn X.K (.ref fI) = some (.type "function"))
    (F1 : FnOk X.prog X.w X.K X.mg X.base CX k fI fd ps sp) (hr : Room (k + 1) X.A) (hb : Binds X.K fd ps []) (hx : Passes CX X (fun _ _ _ => False)) (hg : Gl X x) (hm : X.mg x = some (.ref C)) (ha : PA X (e :: es) ta)
    (hdb : (x == ("__debug__" : Str)) = false := by decide) (he : starEach (e :: es) X.env = (false, eval e X.env) :: starEach es X.env := by rfl) (hpl : (backTo pos (starEach es X.env)).any (·.1) = false := by rfl) :
    L2N.PMk X (.Call (.Name x p) (e :: es) [] pos) (tMkO C sp [] ta) := by
  intro pins s σ H Q I h
  obtain ⟨nm, q, N, bs, bm, sn, sub, ab, col, dd, k0, k1, k2, k3, k5, hC, hbm⟩ := T.cls
  refine wpAny_Call_Name_kw (ld_glob I hg hm ?_ hdb)
  refine PySem.W.callWith_K (h₀ := X.base) I.ok.mod.kin T.kC (thn (ha.run pos pins s σ H _ I h) fun us s1 ⟨vs, H1, I1, r1, hz, q1⟩ => ⟨I1.kIn, ?_⟩) he hpl
  show wpAny _ _ (call (.ref C) us) _ _ _
  obtain ⟨hp, g, dr, tk, os⟩ := s1
  have sz1 : hp.objs.size ≤ hp.objs.size + 1 := Nat.le_succ _
  have hq := q1 (hp.objs.size + 1) (I1.hok.fresh sz1)
  rw [List.append_nil] at hq
  have keep : ∀ b o, hp.get? b = some o → ((hp.push (PySem.W.kdv_tup us)).push (PySem.HandSPX.excO C hp.objs.size)).get? b = some o := fun b o e =>
    Heap.get?_push_of_some _ (Heap.get?_push_of_some _ e)
  have new : ((hp.push (PySem.W.kdv_tup us)).push (PySem.HandSPX.excO C hp.objs.size)).get? (hp.objs.size + 1) = some (PySem.HandSPX.excO C hp.objs.size) := by heap_get
  have I2 : Inv X pins σ (upd H1 (hp.objs.size + 1) (exo (hp.objs.size + 1) C none)) ⟨(hp.push (PySem.W.kdv_tup us)).push (PySem.HandSPX.excO C hp.objs.size), g, dr, tk, os⟩ :=
    I1.laid (a := hp.objs.size + 1) (t' := tk) (o := exo (hp.objs.size + 1) C none) (h' := (hp.push (PySem.W.kdv_tup us)).push (PySem.HandSPX.excO C hp.objs.size)) keep sz1 (exo_ok new)
  have r2 : Vals (V.ref (hp.objs.size + 1) :: vs) (Value.ref (hp.objs.size + 1) :: us) := .cons rfl r1
  have len1 : (Value.ref (hp.objs.size + 1) :: us).length = ps.length := by rw [← r2.length]; exact F1.len _ _ _ _ hq
  have b1 := hb ⟨(hp.push (PySem.W.kdv_tup us)).push (PySem.HandSPX.excO C hp.objs.size), g, dr, tk, os⟩ (Value.ref (hp.objs.size + 1) :: us) I2.kIn (by rw [List.append_nil]; exact len1)
  rw [List.append_nil] at b1
  have lus : us.length ≤ sizeLine := by
    rw [← Paired.length r1, sizeLine_eq]; omega
  refine wpAny_call (PySem.HandSPX.call_own F.excBase_ValueError (fun Y => PySem.HandSPX.refsVE_contains Y bm hbm) (I1.kIn _ _ hC) (PySem.W.looks_findIn I1.kIn iC) (fun self => PySem.W.bind_fn I1.kIn self tI) lus ?_)
  refine codeAny_mono (F1.run _ X.stack _ _ ⟨Value.ref (hp.objs.size + 1) :: us, []⟩ (Value.ref (hp.objs.size + 1) :: us) _ _ (fun _ _ _ => False) (hr.make C us []) (I2.env0.make C us []) b1 r2 hq) fun r s' hq' => ?_
  cases r with
  | error er => exact hx pins σ _ _ er s' I2 hq'
  | ok fl =>
    cases fl with
    | next => exact False.elim hq'
    | brk => exact False.elim hq'
    | cont => exact False.elim hq'
    | ret u =>
      obtain ⟨v, H2, os2, bare2, un2, hok2, rv, ev, d, fs, ea, ed, hd1, q2⟩ := hq'
      subst ev
      obtain ⟨h2, g2, d2, t2, os'⟩ := s'
      exact ⟨rv, mkN_end (raises_own T.exC T.tyC) I1 sz1 keep un2 hok2 os2 bare2 ea ed hd1 q2⟩

/-- what __init__(self, at) promises: self.at = at -/
def spInit (C : Addr) (at' : Str) : Sp := fun vs H Q _ => ∃ a v, vs = [.ref a, v] ∧ H a = some (exo a C none) ∧ ∀ dx, H dx = none → dx ≠ a → Q .non (upd (upd H dx (exd dx [(at', v)])) a (exo a C (some dx)))
/-- what the written part says of an own exception class c with the one field at' -/
structure ExcC (K : PySem.W.Frag) (mg : Str → Option Value) (P : Program) (w : World) (base : Heap) (c at' : Str) (C : Addr) : Prop where
  gC : mg c = some (.ref C)
  oex : OexC K C
  xf : XfC K C
  no : PySem.W.findIn K (.ref C) at' = some none
  ini : ∃ fI fd, PySem.W.findIn K (.ref C) "__init__" = some (some (.ref fI)) ∧ PySem.W.typeIn K (.ref fI) = some (.type "function") ∧ FnOk P w K mg base CX0 1 fI fd ["self", at'] (spInit C at') ∧ Binds K fd ["self", at'] []
theorem init_ok {P : Program} {w : World} {K : PySem.W.Frag} {mg : Str → Option Value} {base : Heap} {at' x qual : Str} {C f : Addr} {fd : FuncData} {st : Stmt} {p1 p2 p3 p4 : Pos} (F : Fun K x qual st f fd) (S : FnScope ["self", at'] ["self", at'] (defScope st)) (T : OexC K C) (no : PySem.W.findIn K (.ref C) at' = some none)
    (hb : defBody st = [.Assign [.Attribute (.Name "self" p1) at' p2] (.Name at' p3) p4]) (h1 : Vis (defScope st) "self") (h2 : Vis (defScope st) at') (hd : (at' == ("__debug__" : Str)) = false) (hd2 : (at' == ("__classdict__" : Str)) = false) : FnOk P w K mg base CX0 1 f fd ["self", at'] (spInit C at') := by
  refine F.ok S (fun vs H Q E ⟨a, v, e, _⟩ => by rw [e]; rfl) (fun cdv A outer s H vs Q E hr ⟨a, v, e, ha, q⟩ => ?_)
  subst e
  refine ⟨_, by rw [hb]; exact pss_one (ps_ost (pe_var (i := 0) rfl h1 (by decide) (by decide)) (pe_var (i := 1) rfl h2 hd hd2)), ?_⟩
  exact ⟨v, rfl, .ref a, rfl, a, C, rfl, T, no, .inl ⟨ha, fun dx h ne => q dx h ne⟩⟩
def mRaise (c at' : Str) (m : M T) : SM := fun ρ => (m ρ).toS fun t ρ1 => .exc c at' t.toD ρ1
theorem psd_raise {X : Cx} {L : List Nat} {c at' : Str} {C : Addr} {e : Expr} {m : M T} {p pos pos2 : Pos} {k : Nat} (hc : X.calm = true) (E : ExcC X.K X.mg X.prog X.w X.base c at' C) (hr : Room k X.A) (hk : 2 ≤ k) (he : PEd X L e m) (hg : Gl X c)
    (hdb : (c == ("__debug__" : Str)) = false := by decide) (hq : starEach [e] X.env = (false, eval e X.env) :: starEach [] X.env := by rfl) (hpl : (backTo pos (starEach [] X.env)).any (·.1) = false := by rfl) :
    PSd X L (.Raise (some (.Call (.Name c p) [e] [] pos)) none pos2) (mRaise c at' m) := by
  obtain ⟨fI, fd, i1, i2, i3, i4⟩ := E.ini
  refine ⟨fun W tk _ => PS.imp (L2N.ps_raise hc tk (pmk_exc (ta := tCons (TEm (gx X) L W m) tNil) E.oex i1 i2 i3 (hr.mono hk) i4 pass0 hg E.gC (pa_cons (he.run W tk) pa_nil hq) hdb hq hpl)) fun D σ H h => ?_⟩
  refine tem_toS h fun R ρ tm v t H1 hL S q => ?_
  refine ⟨by simp, fun a ha => ⟨a, v, rfl, upd_same, fun dx hdx hne => ⟨rfl, dx, [(at', v)], upd_same, by rw [upd_ne hne, upd_same], ?_, ?_⟩⟩⟩
  · rw [upd_ne hne] at hdx; exact hdx
  · have h1 : H1 dx = none := by rw [upd_ne hne] at hdx; exact hdx
    have e1 : upd (del (upd (upd (upd H1 a (exo a C none)) dx (exd dx [(at', v)])) a (exo a C (some dx))) a) dx (.xd [(at', v)]) = upd H1 dx (.xd [(at', v)]) := by
      funext b
      by_cases hb : b = dx
      · subst hb; rw [upd_same, upd_same]
      · rw [upd_ne hb, upd_ne hb]
        by_cases ha' : b = a
        · subst ha'; rw [del_same, ha]
        · rw [del_ne ha', upd_ne ha', upd_ne hb, upd_ne ha']
    rw [e1]
    refine q σ C dx v _ E.gC upd_same ?_
    have o := S.front.freeze
    obtain ⟨F, o⟩ := o
    exact Sta.back S.fits S.lent ⟨F, (o.grow (o := .xd [(at', v)]) h1).1⟩

/-! ### try: several clauses, with and without a name -/
abbrev TSu := Addr → Value → Option Addr → TS
abbrev Ends.wipe (D : Ends) (i : Nat) : Ends := { nx := fun σ' H' => D.nx (σ'.set i none) H', rt := D.rt, bk := fun σ' H' => D.bk (σ'.set i none) H', ct := fun σ' H' => D.ct (σ'.set i none) H' }
def wMix (K : PySem.W.Frag) (Wout : WX) (D : Ends) : List (Value × Option Nat × TSu) → WX
  | [] => Wout
  | (c, o, ts) :: r => fun cls d σ H => ∃ b, PySem.W.exmOne K cls c = some b ∧ (b = true → ∀ a, H a = none → (match o with
      | none => ts a cls d D σ H
      | some i => ts a cls d (Ends.wipe D i) (σ.set i (some (.ref a))) H)) ∧ (b = false → wMix K Wout D r cls d σ H)
inductive HdsM (X : Cx) : List ExceptHandler → List (Value × Option Nat × TSu) → Prop
  | nil : HdsM X [] []
  | plain {x : Str} {c : Value} {ts : TSu} {b₀ : Stmt} {suite : List Stmt} {np pos' : Pos} {hds : List ExceptHandler} {l : List (Value × Option Nat × TSu)} (hc : Names X x c)
      (hsu : ∀ (a : Addr) (oe : Obj) (cls : Value) (d : Option Addr) (pn : List (Addr × Obj)), L2N.Zn cls d oe → (∃ vs, oe.data = .fields vs) → PSs (X.suite a ((a, oe) :: pn)) (b₀ :: suite) (ts a cls d)) (r : HdsM X hds l) :
      HdsM X (.ExceptHandler (some (.Name x np)) none (b₀ :: suite) pos' :: hds) ((c, none, ts) :: l)
  | named {x n : Str} {i : Nat} {c : Value} {ts : TSu} {b₀ : Stmt} {suite : List Stmt} {np pos' : Pos} {hds : List ExceptHandler} {l : List (Value × Option Nat × TSu)} (hi : X.N[i]? = some n) (hln : X.env.kindOf n = some .local) (hc : Names X x c)
      (hsu : ∀ (a : Addr) (oe : Obj) (cls : Value) (d : Option Addr) (pn : List (Addr × Obj)), L2N.Zn cls d oe → (∃ vs, oe.data = .fields vs) → PSs (X.suite a ((a, oe) :: pn)) (b₀ :: suite) (ts a cls d)) (r : HdsM X hds l) :
      HdsM X (.ExceptHandler (some (.Name x np)) (some n) (b₀ :: suite) pos' :: hds) ((c, some i, ts) :: l)
section
variable {X : Cx} {body : List Stmt} {h₀ : ExceptHandler} {hds : List ExceptHandler} {l : List (Value × Option Nat × TSu)} {pos : Pos} {tb : WX → TS} {Wout : WX}
theorem ps_try_mix (hs : X.stack = X.env :: X.outer) (hf : X.env.frame = some X.env.locals) (hN : X.N.Nodup) (tk : L2N.Takes X Wout)
    (hb : ∀ (W : WX) (pn : List (Addr × Obj)) (xe : Value → Shared → Prop), L2N.Takes (X.tr pn xe) W → PassesOwn (model X.prog X.w) X.A X.env xe → PSs (X.tr pn xe) body (tb W))
    (hh : HdsM X (h₀ :: hds) l) : PS X (.Try body (h₀ :: hds) [] [] pos) (fun D σ H => tb (wMix X.K Wout D l) D σ H) := by
  refine ⟨fun pins s σ H D I h => ?_⟩
  have ok := I.ok
  have hfr : X.A.frames = some (X.env :: X.outer) := ok.frames.trans (congrArg some hs)
  refine wpAny_Try_except ?_
  have run := (hb (wMix X.K Wout D l) (X.pn ++ pins) (fun e s₁ => wpAny (model X.prog X.w) X.A (noteFrame e X.env) (fun _ s₂ => wpAny (model X.prog X.w) X.A (setFlight e none) (fun _ s₃ =>
    wpAny (model X.prog X.w) X.A (handleBy e X.env (h₀ :: hds)) (SP X pins D) X.xe s₃) X.xe s₂) X.xe s₁) (fun u s' xx => ?_) PassesOwn.looking).run [] s σ H D (I.toTry _) h
  · refine wpAny_mono run (fun f s1 hsp => ?_) (fun e s1 he => he)
    cases f with
    | ret u => obtain ⟨v, σ', H', J, r, q⟩ := hsp; exact ⟨v, σ', H', J.ofTry ok, r, q⟩
    | next => obtain ⟨σ', H', J, q⟩ := hsp; exact wpAny_execs_nil ⟨σ', H', J.ofTry ok, q⟩
    | brk => obtain ⟨σ', H', J, q⟩ := hsp; exact ⟨σ', H', J.ofTry ok, q⟩
    | cont => obtain ⟨σ', H', J, q⟩ := hsp; exact ⟨σ', H', J.ofTry ok, q⟩
  -- an exception of the body
  obtain ⟨a, B, sI, pins', σ', H', cls, d, rfl, J', nb, up, sky, na, os, ag, w⟩ := xx
  have J : Inv X pins σ' H' sI := J'.ofTry ok
  have sky' : Sky B (X.env :: X.outer) a (L2N.Zn cls d) X.env.locals s'.heap := hs ▸ sky
  show wpAny (model X.prog X.w) X.A (noteFrame (.ref a) X.env) _ _ _
  refine L2N.Sky.land L2N.Zn.steady hfr hf sky' fun h3 fl3 up3 => ?_
  have up13 := up.trans up3
  have J3 : Inv X pins σ' H' { s' with heap := h3 } := J.landed nb fl3.1 up13 os ag
  obtain ⟨oe3, vs3, he3, hz3, hd3⟩ := fl3.there
  have nfr : a ∉ frs (X.env :: X.outer) := fun hm => by
    obtain ⟨_, o', e', hnf⟩ := (fl3.2.2.1 : h3.FunFrames B (X.env :: X.outer)).mem hm
    rw [he3] at e'; cases e'
    exact hnf _ hd3
  have nL : a ≠ X.env.locals := fun z => nfr (List.mem_filterMap.mpr ⟨X.env, List.mem_cons_self, z ▸ hf⟩)
  have nF : a ∉ X.fs := fun hm => by
    obtain ⟨e, he, q⟩ := List.mem_filterMap.mp hm
    exact nfr (List.mem_filterMap.mpr ⟨e, List.mem_cons_of_mem _ he, q⟩)
  have S3 := J3.suite he3 hd3 na nL nF
  have LT : PySem.W.Looks (model X.prog X.w) h3 (typeOf (.ref a)) cls := fun A Q E s k q => wpAny_typeOf_ref (k _ _ he3) (hz3.1 ▸ q)
  -- the clause's class is read
  have test : ∀ {x : Str} {c : Value} {np : Pos} {Q : Value → Shared → Prop} {E : Value → Shared → Prop}, Names X x c → Q c { s' with heap := h3 } → wpAny (model X.prog X.w) (X.A.mark (some (.ref a))) (eval (.Name x np) X.env) Q E { s' with heap := h3 } := fun hc q => by
    obtain ⟨hg, hdbg, hm | ⟨hm, hv, hnn⟩⟩ := hc
    · exact ld_glob (X := X.suite a ((a, oe3) :: (X.pn ++ pins))) S3 hg hm q hdbg
    · exact ld_blt (X := X.suite a ((a, oe3) :: (X.pn ++ pins))) S3 hg hm hv q hnn hdbg
  -- the suite's start
  have suite : ∀ {Q : Shared → Prop}, (∀ h4 oe4, Inv (X.suite a ((a, oe4) :: (X.pn ++ pins))) [] σ' H' { s' with heap := h4 } → L2N.Zn cls d oe4 → (∃ vs, oe4.data = .fields vs) → Q { s' with heap := h4 }) → ∀ h4, HandSPX.HeldZ B (X.env :: X.outer) a (L2N.Zn cls d) X.env.locals h4 → True := fun _ _ _ => trivial
  have go : ∀ {hds' : List ExceptHandler} {l' : List (Value × Option Nat × TSu)}, HdsM X hds' l' → wMix X.K Wout D l' cls d σ' H' → wpAny (model X.prog X.w) X.A (handleBy (.ref a) X.env hds') (SP X pins D) X.xe { s' with heap := h3 } := by
    intro hds' l' hk
    induction hk with
    | nil =>
      intro w
      refine wpAny_handleBy_nil ?_
      obtain ⟨k1, k2, k3, oe, vs, T, oT, ts', he, hz, hd, h1, hr⟩ := id fl3
      unfold PySem.passOn
      refine wpAny_bind (wpAny_field he hd h1 ?_)
      rw [if_neg (show ¬ ((Value.ref T == Value.none) = true) from by simp)]
      have fin : wpAny (model X.prog X.w) X.A (setFlight (.ref a) X.env.frame) (fun _ s4 => wpAny (model X.prog X.w) X.A (throw (.ref a) : Sem Flow) (SP X pins D) X.xe s4) X.xe { s' with heap := h3 } := by
        rw [hf]
        refine HandSPX.setFlight_upZ fl3 fun h4 hh4 up4 => wpAny_throw (tk _ _ ?_)
        exact ⟨a, B, sI, pins, σ', H', cls, d, rfl, J, nb, up13.trans up4, .inr (.inr (by rw [hs]; exact hh4)), na, os, ag, w⟩
      first
        | exact wpAny_bind (wpAny_pure (wpAny_bind fin))
        | exact wpAny_bind fin
    | @plain x c ts b₀ su np pos' hds2 l2 hc hsu r ih =>
      intro w
      obtain ⟨b, hb1, hyes, hno⟩ := w
      refine wpAny_handleBy_cons (codeAny_handlers_test ?_) (by intro q; cases q)
      have LM := PySem.W.exm_one (M := model X.prog X.w) J3.kIn LT hb1
      refine test hc (LM.here ?_)
      cases b with
      | false => exact ih (hno rfl)
      | true =>
        refine codeAny_handlers_suite ?_
        refine HandSPX.lands_againZ fl3 fun h4 fl4 up4 => ?_
        have J4 : Inv X pins σ' H' { s' with heap := h4 } := J.landed nb fl4.1 (up13.trans up4) os ag
        obtain ⟨oe4, vs4, he4, hz4, hd4⟩ := fl4.there
        have S4 := J4.suite he4 hd4 na nL nF
        refine wpAny_mono ((hsu a oe4 cls d (X.pn ++ pins) hz4 ⟨_, hd4⟩).run [] _ _ H' _ S4 (hyes rfl a na)) (fun f s6 hsp => ?_) (fun _ _ z => False.elim z)
        cases f with
        | ret u => obtain ⟨v6, σ6, H6, S6, r6, q6⟩ := hsp; exact ⟨_, _, _, S6.unsuite ok, r6, q6⟩
        | next => obtain ⟨σ6, H6, S6, q6⟩ := hsp; exact ⟨_, _, S6.unsuite ok, q6⟩
        | brk => obtain ⟨σ6, H6, S6, q6⟩ := hsp; exact ⟨_, _, S6.unsuite ok, q6⟩
        | cont => obtain ⟨σ6, H6, S6, q6⟩ := hsp; exact ⟨_, _, S6.unsuite ok, q6⟩
    | @named x n i c ts b₀ su np pos' hds2 l2 hi hln hc hsu r ih =>
      intro w
      obtain ⟨b, hb1, hyes, hno⟩ := w
      refine wpAny_handleBy_cons (codeAny_handlers_test ?_) (by intro q; cases q)
      have LM := PySem.W.exm_one (M := model X.prog X.w) J3.kIn LT hb1
      refine test hc (LM.here ?_)
      cases b with
      | false => exact ih (hno rfl)
      | true =>
        refine codeAny_handlers_suite_as ?_
        refine HandSPX.lands_againZ fl3 fun h4 fl4 up4 => ?_
        have J4 : Inv X pins σ' H' { s' with heap := h4 } := J.landed nb fl4.1 (up13.trans up4) os ag
        obtain ⟨oe4, vs4, he4, hz4, hd4⟩ := fl4.there
        have S4 := J4.suite he4 hd4 na nL nF
        refine store_ok (X := X.suite a ((a, oe4) :: (X.pn ++ pins))) (v := .ref a) S4 hN hi (.inl hln) rfl (fun s5 S5 => ?_) (.inr hln)
        refine wpAny_mono ((hsu a oe4 cls d (X.pn ++ pins) hz4 ⟨_, hd4⟩).run [] s5 _ H' _ S5 (hyes rfl a na)) (fun f s6 hsp => ?_) (fun _ _ z => False.elim z)
        have last : ∀ {σ6 : L2.St} {H6 : Hp} {Q : Shared → Prop}, Inv (X.suite a ((a, oe4) :: (X.pn ++ pins))) [] σ6 H6 s6 → (∀ s7, Inv X pins (σ6.set i none) H6 s7 → Q s7) →
            wpAny (model X.prog X.w) X.A (do bindName X.env n .none; unbindBehindTheSuite X.env n pos') (fun _ s7 => Q s7) X.xe s6 := fun S6 hq => gone_ok (S6.unsuite ok) hN hi hln hq
        cases f with
        | ret u => obtain ⟨v6, σ6, H6, S6, r6, q6⟩ := hsp; exact last S6 fun s7 J7 => ⟨_, _, _, J7, r6, q6⟩
        | next => obtain ⟨σ6, H6, S6, q6⟩ := hsp; exact last S6 fun s7 J7 => ⟨_, _, J7, q6⟩
        | brk => obtain ⟨σ6, H6, S6, q6⟩ := hsp; exact last S6 fun s7 J7 => ⟨_, _, J7, q6⟩
        | cont => obtain ⟨σ6, H6, S6, q6⟩ := hsp; exact last S6 fun s7 J7 => ⟨_, _, J7, q6⟩
  exact go hh w
end

/-! ### a, b = e1, e2 while an exception is handled -/
section
open HotX L2H
theorem next_end_hot {prog : Program} {w : World} {A : Around} {E : Value → Shared → Prop} {s : Shared} {it t x1 : Addr} {i : Nat} {items : Array Value} {Q : Option Value → Shared → Prop} (hot : HotAt A x1 s.heap)
    (hit : IsTupIter s.heap it t i) (ht : IsTup s.heap t items) (hx : items[i]? = none) (hne : x1 ≠ it) (hQ : ∀ h', Heap.ExtBut it s.heap h' → Q none { s with heap := h' }) : wpAny (model prog w) A (pyNext (.ref it)) Q E s := by
  obtain ⟨hh, o1, vs1, g1, d1, c1⟩ := hot
  obtain ⟨o, ho, hc, hd⟩ := id hit
  obtain ⟨ol, hol, _, nl, hdl⟩ := ht
  unfold pyNext
  refine wpAny_bind (wpAny_attempt (wpAny_callSpecial?_slot (name := Str.ofString "__next__") hit.typeIs slot_tupleiter_next (wpAny_call_entry slot_tupleiter_next hit.typeIs entry_tupleiter_next ?_ (args_tupleiter_next _))))
  show wpAny _ _ (field (.ref it) 0 >>= _) _ _ s
  refine wpAny_bind (wpAny_field ho hd (x := .ref t) rfl ?_)
  show wpAny _ _ (if (Value.ref t == Value.none) = true then _ else _) _ _ s
  rw [if_neg (show ¬ ((Value.ref t == Value.none) = true) from Bool.false_ne_true)]
  show wpAny _ _ (field (.ref it) 1 >>= _) _ _ s
  refine wpAny_bind (wpAny_field ho hd (x := .int i 0) rfl ?_)
  show wpAny _ _ (seqItems? (.ref t) >>= _) _ _ s
  refine wpAny_bind (wpAny_seqItems hol hdl ?_)
  simp only [Int.toNat_natCast, hx]
  refine wpAny_bind (wpAny_rule (wpAny_bind (wpAny_setField ho hd (by simp) ?_)))
  show wpAny _ _ (newExc (.type "StopIteration") [] >>= _) _ _ _
  refine wpAny_bind ?_
  simp only [newExc, newTuple]
  refine wpAny_bind (wpAny_newObj_type ?_ (by size_fits))
  refine wpAny_bind (m := firstArgMember _ _) (wpAny_of_eq (a := Value.none) (by first | rfl | (simp only [firstArgMember]; rfl)) ?_)
  refine wpAny_newObj_type ?_ (by size_fits)
  have k1 : (s.heap.update it (Obj.mapFields (·.setIfInBounds 0 .none))).get? x1 = some o1 := by
    first
      | exact (Heap.get?_update_other _ _ hne).trans g1
      | exact (Heap.get?_update_other _ _ (Ne.symm hne)).trans g1
  refine raiseNew_hot ⟨hh, o1, vs1, Heap.get?_push_of_some _ (Heap.get?_push_of_some _ k1), d1, c1⟩ (Nat.ne_of_lt (Heap.lt_size (Heap.get?_push_of_some _ k1))) (Heap.get?_push_size _ rfl) rfl (by first | (simp; done) | (simp; omega) | (simp only [Array.size_append]; simp; omega)) ?_
  refine wpAny_bind (wpAny_isInstance (T := "StopIteration") (b := true) ⟨_, Heap.get?_update_self _ (Heap.get?_push_size _ rfl) rfl, rfl⟩ isSubtype_stop ?_)
  refine wpAny_pure (hQ _ fun b o hb e => ?_)
  have e1 : (s.heap.update it (Obj.mapFields (·.setIfInBounds 0 .none))).get? b = some o := (Heap.SameBut.update ..).extBut b o hb e
  rw [Heap.get?_update_other _ _ (Nat.ne_of_gt (Heap.lt_size (Heap.get?_push_of_some _ e1)))]
  exact Heap.get?_push_of_some _ (Heap.get?_push_of_some _ e1)
theorem unpackItems_hot {prog : Program} {w : World} {A : Around} {E : Value → Shared → Prop} {s : Shared} {t x1 : Addr} {items : Array Value} {Q : List Value → Shared → Prop} (hot : HotAt A x1 s.heap) (ht : IsTup s.heap t items)
    (hQ : ∀ h', Heap.ExtBut s.heap.objs.size s.heap h' → Q items.toList { s with heap := h' }) : wpAny (model prog w) A (unpackItems (.ref t) items.size none) Q E s := by
  have hlt : t ≠ s.heap.objs.size := by obtain ⟨o, ho, _⟩ := ht; exact Nat.ne_of_lt (Heap.lt_size ho)
  obtain ⟨hh, o1, vs1, g1, d1, c1⟩ := hot
  have hx1 : x1 ≠ s.heap.objs.size := Nat.ne_of_lt (Heap.lt_size g1)
  unfold unpackItems
  refine wpAny_bind ?_
  unfold notIterableAtAll
  refine wpAny_bind (wpAny_specialOf ht.typeIs slot_tuple_iter.lookup ?_)
  refine wpAny_pure ?_
  simp only [Bool.false_eq_true, if_false]
  refine wpAny_bind (wpAny_holding (iter_tuple ht ?_))
  refine wpAny_bind (wpAny_holding (draw_tuple hlt items.size 0 _ _ ⟨_, Heap.get?_push_size _ rfl, rfl, rfl⟩ (ht.push _) (by omega) fun h₁ hit₁ hs₁ => ?_))
  have hall : List.take items.size (List.drop 0 items.toList) = items.toList := by
    rw [List.drop_zero]; exact List.take_of_length_le (by simp)
  rw [hall]
  rw [if_neg (by simp)]
  have ht₁ : IsTup h₁ t items := (ht.push _).extBut hs₁.extBut hlt
  refine wpAny_bind (wpAny_holding (next_end_hot (x1 := x1) ⟨hh, o1, vs1, hs₁.extBut x1 o1 hx1 (Heap.get?_push_of_some _ g1), d1, c1⟩ hit₁ ht₁ (by simp) hx1 fun h₂ he₂ => ?_))
  simp only [Option.isSome_none, Bool.false_eq_true, if_false]
  exact wpAny_pure (hQ h₂ fun b o hb e => he₂ b o hb (hs₁.extBut b o hb (Heap.get?_push_of_some _ e)))
end
end Q

set_option maxHeartbeats 3200000
/-! len(set(text)) -/
namespace Q
open PySem PySem.Spec PyProof.Rows L2
/-- how many unlike ones of the list are not in seen -/
def dcnt : List Str → List Str → Nat
  | _, [] => 0
  | seen, x :: r => (if x ∈ seen then 0 else 1) + dcnt (x :: seen) r
def sign1 (c : Nat) : Str := ⟨#[c]⟩
theorem drop_at' {α : Type} {l r : List α} {i : Nat} {x : α} (h : l.drop i = x :: r) : l[i]? = some x ∧ l.drop (i + 1) = r ∧ i < l.length := by
  have hlt : i < l.length := by
    by_cases q : i < l.length
    · exact q
    · rw [List.drop_eq_nil_of_le (by omega)] at h; cases h
  have e := List.drop_eq_getElem_cons hlt
  rw [h] at e
  obtain ⟨e1, e2⟩ := List.cons.inj e
  exact ⟨by rw [List.getElem?_eq_getElem hlt, e1], e2.symm, hlt⟩
theorem dcnt_le : ∀ (seen r : List Str), dcnt seen r ≤ r.length
  | _, [] => Nat.le_refl _
  | seen, x :: r => by
    have := dcnt_le (x :: seen) r
    unfold dcnt
    simp only [List.length_cons]
    split <;> omega
section
variable {prog : Program} {w : World} {A : Around} {R : Result → Shared → Prop} {I : Addr} {fp wr : List Addr} {G : Array GenState → Array GenState → Prop} {n : Nat} {P : Nat → Value → Prop} {St : Nat → Shared → Prop} {x : Str}
theorem signLoop (W : WalksS prog w A.in1 I fp wr G n P St) (S : Addr) (hSf : S ∉ fp) (hP : ∀ i v, P i v → SignAt x i v) :
    ∀ (r : List Nat) (i : Nat) (seen : List Str) (c : Nat) (s : Shared), n - i = r.length ∧ i ≤ n → x.cps.toList.drop i = r → c + r.length + 1 < scanBound → St i s →
      s.heap.SetOf (PySem.strKind prog w) S (fun k' => decide (k' ∈ seen)) c →
      (∀ s', Moved (S :: wr) G s s' → s'.heap.SetOf (PySem.strKind prog w) S (fun k' => decide (k' ∈ (r.map sign1).reverse ++ seen)) (c + dcnt seen (r.map sign1)) → R (.ok (.ret .none)) s') →
      codeAny (model prog w) A (.builtin "set.update.loop" ⟨[.ref S, .ref I], []⟩) R s := by
  have hSw : S ∉ wr := fun h => hSf (W.sub _ h)
  have hsub : ∀ b ∈ wr, b ∈ S :: wr := fun b hb => List.mem_cons_of_mem _ hb
  intro r
  induction r with
  | nil =>
    intro i seen c s hk hd hcb hst hS hR
    have hin : i = n := by simp at hk; omega
    subst hin
    refine codeAny_builtin PyProof.Rows.F.entry_set_update_loop ?_
    rw [Around.under_plainId PyProof.Rows.F.plain_set_update_loop _]
    show wpAny _ A.in1 (pyNext (.ref I) >>= _) _ _ s
    refine wpAny_bind (W.done s _ _ hst fun s' hm => ?_)
    show wpAny _ A.in1 (ret Value.none) _ _ s'
    exact wpAny_pure (hR s' (hm.mono hsub) (by
      obtain ⟨o, es, ep, t, ho, rest⟩ := hS
      exact ⟨o, es, ep, t, hm.heap S _ hSw ho, rest⟩))
  | cons z r ih =>
    intro i seen c s hk hd hcb hst hS hR
    have hlt : i < n := by have := hk.1; simp at this; omega
    obtain ⟨hz, hd', _⟩ := drop_at' hd
    refine codeAny_builtin PyProof.Rows.F.entry_set_update_loop ?_
    rw [Around.under_plainId PyProof.Rows.F.plain_set_update_loop _]
    show wpAny _ A.in1 (pyNext (.ref I) >>= _) _ _ s
    refine wpAny_bind (W.item i s _ _ hlt hst fun v s' hPv hst' hm => ?_)
    obtain ⟨z', t, hz', rfl⟩ := hP i v hPv
    obtain rfl : z' = z := by
      rw [Array.getElem?_toList] at hz
      rw [hz] at hz'
      exact (Option.some.inj hz').symm
    have hS' : s'.heap.SetOf (PySem.strKind prog w) S (fun k' => decide (k' ∈ seen)) c := by
      obtain ⟨o, es, ep, tb, ho, rest⟩ := hS
      exact ⟨o, es, ep, tb, hm.heap S _ hSw ho, rest⟩
    show wpAny _ A.in1 (holding [Value.str ⟨#[z']⟩ t] (setAdd S (.str ⟨#[z']⟩ t)) >>= _) _ _ s'
    refine wpAny_bind (wpAny_holding ?_)
    unfold setAdd
    refine wpAny_holding ?_
    refine wpAny_bind ((PySem.strKind prog w).pyHash (k := sign1 z') (strKind_is _ _ _ _) ?_)
    refine wpAny_setAddHashed_of (knd := PySem.strKind prog w) (s := { s' with toks := s'.toks + 1 }) (strKind_is _ _ _ _) rfl hS' (by simp at hcb; omega) fun h' hsb hS2 => ?_
    have hSi : h'.SetOf (PySem.strKind prog w) S (fun k' => decide (k' ∈ sign1 z' :: seen)) (c + if sign1 z' ∈ seen then 0 else 1) := by
      refine SetOf_congr hS2 (fun k' => ?_) ?_
      · by_cases e : k' = sign1 z' <;> by_cases e2 : k' ∈ seen <;> simp [e, e2]
      · by_cases e : sign1 z' ∈ seen <;> simp [e]
    refine wpAny_pure ⟨plainId_quiet PyProof.Rows.F.plain_set_update_loop _, ih (i + 1) (sign1 z' :: seen) _ _ ⟨by have := hk.1; simp at this; omega, hlt⟩ hd' (by simp at hcb; split <;> omega) (W.frame _ s' _ _ hst' (Nat.le_succ _) fun b hb o e => ?_) hSi fun s'' hm'' hS'' => ?_⟩
    · rw [hsb.2 b (fun h : b = S => hSf (by rw [← h]; exact hb))]; exact e
    · refine hR s'' (Moved.trans W.gtrans ((hm.mono hsub).then_heap (Nat.le_succ _) fun b o hb e => ?_) hm'') ?_
      · rw [hsb.2 b (fun h : b = S => hb (by rw [h]; exact List.mem_cons_self))]; exact e
      · refine SetOf_congr hS'' (fun k' => ?_) ?_
        · simp [List.map_cons, List.reverse_cons, List.append_assoc]
        · show _ = c + dcnt seen (sign1 z' :: r.map sign1)
          show _ = c + ((if sign1 z' ∈ seen then 0 else 1) + dcnt (sign1 z' :: seen) (r.map sign1))
          omega
end
section
variable {prog : Program} {w : World} {A : Around} {E : Value → Shared → Prop} {s : Shared}
theorem call_set_text {x : Str} {t : Tok} {Q : Value → Shared → Prop} (hh : A.handled = none) (hn1 : x.length + 1 < scanBound)
    (h : ∀ (h' : Heap) (tk : Nat), h'.SetOf (PySem.strKind prog w) s.heap.objs.size (fun k' => decide (k' ∈ (x.cps.toList.map sign1).reverse ++ [])) (dcnt [] (x.cps.toList.map sign1)) →
      (∀ b o, b < s.heap.objs.size → s.heap.get? b = some o → h'.get? b = some o) → Q (.ref s.heap.objs.size) { s with heap := h', toks := tk }) :
    wpAny (model prog w) A (call (.type "set") [.str x t]) Q E s := by
  obtain ⟨c, tl, hmro⟩ := PySem.F.called_set.mro
  have hmade := PySem.F.called_set.made
  have hsub := PySem.F.called_set.sub
  refine wpAny_call (codeAny_of_tree ?_)
  show wpAny _ _ (callAny (.type "set") _) _ _ _
  refine wpAny_pure ⟨Code.quiet_builtin _ (by decide +kernel), codeAny_builtin PySem.F.entry_type_call ?_⟩
  rw [Around.under_plain (weight_type_call_type "set" [.str x t] []) rfl]
  have h1 := PySem.F.called_set.notType
  have h2 := PySem.F.called_set.canCreate
  have hct := PySem.F.typeCall_set_1 (.str x t)
  repeat (any_goals (first | assumption | wp_step))

  refine codeAny_mono (code_set_new_1 (.str x t) (E := E) (Q₁ := fun obj s₁ => ∃ led : Bool, obj = .ref s.heap.objs.size ∧ s₁ = { s with heap := s.heap.push { cls := .type "set", dict := none, data := .set #[] 0 (.fresh 0 0 led) } }) fun led => ⟨led, rfl, rfl⟩) fun r s₁ hr => ?_
  cases r with
  | error e => exact hr
  | ok fl =>
    cases fl with
    | ret obj =>
      obtain ⟨led, rfl, rfl⟩ := hr
      have hS : (s.heap.push { cls := .type "set", dict := none, data := .set #[] 0 (.fresh 0 0 led) }).get? s.heap.objs.size = some { cls := .type "set", dict := none, data := .set #[] 0 (.fresh 0 0 led) } := Heap.get?_push_size _ rfl
      have hT : Shared.TypeIs { s with heap := s.heap.push { cls := .type "set", dict := none, data := .set #[] 0 (.fresh 0 0 led) } } (.ref s.heap.objs.size) "set" := ⟨_, hS, rfl⟩
      have hli := PySem.F.called_set.init.lookup
      have hbi := PySem.F.called_set.init.bind (.ref s.heap.objs.size)
      repeat (any_goals (first | assumption | wp_step))

      refine codeAny_mono (codeAny_call_builtin (R := wants (fun r s₂ => r = .none ∧ ∃ h' tk, s₂ = { s with heap := h', toks := tk } ∧
          h'.SetOf (PySem.strKind prog w) s.heap.objs.size (fun k' => decide (k' ∈ (x.cps.toList.map sign1).reverse ++ [])) (dcnt [] (x.cps.toList.map sign1)) ∧
          (∀ b o, b < s.heap.objs.size → s.heap.get? b = some o → h'.get? b = some o)) E) PySem.F.called_set.init.plain PySem.F.entry_set_init (check_set_init_1 hT ?_)) fun r₂ s₂ hr₂ => ?_
      · have hne : (Value.type "str" == Value.type "dict") = false := by decide
        unfold Builtin.«set.__init__» noKeywords Builtin.Frozenset.updateFrom Builtin.Frozenset.isAnySet
        have hsls := PySem.F.sub_str_set
        have hslf := PySem.F.sub_str_frozenset
        generalize hPI : pyIter = PI
        wp_walk
        subst hPI

        refine wpAny_pyIter_str fun oI St hW hst => ?_
        refine wpAny_bind (wpAny_runValue ?_)
        have hSf : s.heap.objs.size ∉ [(s.heap.push { cls := .type "set", dict := none, data := .set #[] 0 (.fresh 0 0 led) }).objs.size] := by
          rw [Heap.size_push]; simp only [List.mem_singleton]
          exact Nat.ne_of_lt (Nat.lt_succ_self _)
        refine signLoop ((hW _ (by simp [hh])).toS) s.heap.objs.size hSf (fun _ _ h => h) x.cps.toList 0 [] 0 _ (by simp) (by rw [List.drop_zero]) (by have e0 : x.length = x.cps.size := rfl; simp; omega)
          hst ?hS0 ?hR
        case hS0 =>
          have hget : ((s.heap.push { cls := .type "set", dict := none, data := .set #[] 0 (.fresh 0 0 led) }).push oI).get? s.heap.objs.size
              = some { cls := .type "set", dict := none, data := .set #[] 0 (.fresh 0 0 led) } := Heap.get?_push_of_some _ hS
          exact PyProof.Rows.SetOf_congr ((PyProof.Rows.setObjOf_fresh (knd := PySem.strKind prog w) led).setOf hget (by unfold scanBound; omega)) (fun _ => rfl) rfl
        case hR =>
          intro s' hm hS'
          obtain ⟨h', g', d', tk', os'⟩ := s'
          have eg : g' = s.gens := hm.gens
          have ed : d' = s.drawn := hm.drawn
          have eo : os' = s.os := hm.os
          subst eg; subst ed; subst eo
          show wpAny _ _ _ _ _ _
          refine wpAny_pure ?_
          show wpAny _ _ (ret Value.none) _ _ _
          refine wpAny_pure ⟨rfl, h', tk', rfl, SetOf_congr hS' (fun _ => rfl) (by omega), fun b o hb e => ?_⟩
          have hb1 : b ≠ s.heap.objs.size := Nat.ne_of_lt hb
          have hb2 : b ≠ (s.heap.push { cls := .type "set", dict := none, data := .set #[] 0 (.fresh 0 0 led) }).objs.size := by
            rw [Heap.size_push]; exact Nat.ne_of_lt (Nat.lt_succ_of_lt hb)
          exact hm.heap b o (by simp only [List.mem_cons, List.mem_singleton, List.not_mem_nil, or_false, not_or]; exact ⟨hb1, hb2⟩) (Heap.get?_push_of_some _ (Heap.get?_push_of_some _ e))

      · cases r₂ with
        | error e => exact hr₂
        | ok fl₂ =>
          cases fl₂ with
          | ret r =>
            obtain ⟨rfl, h', tk, rfl, hS', hk'⟩ := hr₂
            repeat (any_goals (first | assumption | wp_step))
            exact h _ _ hS' hk'
          | _ => exact hr₂.elim
    | _ => exact hr.elim
end
section
variable {X : Cx} {L : List Nat} {a : Expr}
/-- len(set(text)) -/
def mLenSet (m : M T) : M T := fun ρ => (m ρ).bind fun t ρ1 => match t with
  | .leaf (.str z) => if z.length ≤ 2000 then .ok (.leaf (.int (dcnt [] (z.cps.toList.map sign1)))) ρ1 else .stuck
  | _ => .stuck
def tLenSetS (ta : TE) : TE := fun σ H Q => ta σ H fun x H1 => ∃ z, x = .str z ∧ z.length ≤ 2000 ∧ Q (.int (dcnt [] (z.cps.toList.map sign1))) H1
theorem pe_lenSetS {ta : TE} {p p2 q pos : Pos} (hc : X.calm = true) (hg : Gl X "len") (hm : X.mg "len" = none) (hg2 : Gl X "set") (hm2 : X.mg "set" = none) (ha : PE X a ta)
    (na : starEach [a] X.env = (false, eval a X.env) :: starEach [] X.env := by rfl) : PE X (.Call (.Name "len" p) [.Call (.Name "set" p2) [a] [] q] [] pos) (tLenSetS ta) := by
  refine ⟨fun pins s σ H Q I h => ?_⟩
  refine Call_ (ld_blt I hg hm PySem.boot_len ?_)
  refine PyProof.Rows.callWith_builtin1 (PyProof.Rows.args_cons ?_ rfl) rfl rfl
  refine Call_ (ld_blt I hg2 hm2 PyProof.Rows.boot_set ?_)
  refine PyProof.Rows.callWith_type1 (PyProof.Rows.args_cons (thn (ha.run pins s σ H _ I h) fun v s1 ⟨x, H1, I1, r1, q1⟩ => PyProof.Rows.args_nil ?_) na) na rfl
  obtain ⟨z, rfl, hz, q1⟩ := q1
  obtain ⟨t, rfl⟩ := r1
  have hb : z.length + 1 < scanBound := by unfold scanBound; omega
  have hle : dcnt [] (z.cps.toList.map sign1) ≤ z.length := by
    have := dcnt_le [] (z.cps.toList.map sign1)
    rw [List.length_map, Array.length_toList] at this
    exact this
  refine call_set_text (I1.ok.hd hc) hb fun h' tk hS hk => ?_
  refine PyProof.Rows.args_nil ?_
  obtain ⟨o, es, ep, t', ho, hex, hd, _, _, _, hf, hn⟩ := hS
  have I2 : Inv X pins σ H1 { s1 with heap := h', toks := tk } := I1.kept fun b o e => hk b o (Heap.lt_size e) e
  refine call_len_set ho hex hd hf (by rw [hn]; unfold scanBound at hb; omega) ⟨.int (dcnt [] (z.cps.toList.map sign1)), H1, I2.tok _, ⟨_, by rw [hn]⟩, q1⟩
theorem ped_lenSet {m : M T} {p p2 q pos : Pos} (hc : X.calm = true) (hg : Gl X "len") (hm : X.mg "len" = none) (hg2 : Gl X "set") (hm2 : X.mg "set" = none) (ha : PEd X L a m)
    (na : starEach [a] X.env = (false, eval a X.env) :: starEach [] X.env := by rfl) : PEd X L (.Call (.Name "len" p) [.Call (.Name "set" p2) [a] [] q] [] pos) (mLenSet m) :=
  ⟨fun W tk => PE.imp (pe_lenSetS hc hg hm hg2 hm2 (ha.run W tk) na) fun σ H Q ⟨R, ρ, tm, hL, S, q⟩ => ⟨R, ρ, tm, hL, S, (End.bind q).mono fun t ρ1 _ q v H1 S1 => by
    rcases t with d | ts
    · cases d with
      | str z =>
        dsimp only at q
        by_cases hz : z.length ≤ 2000
        · rw [if_pos hz] at q
          have r := S1.front.rep
          obtain rfl : v = .str z := r
          exact ⟨z, rfl, hz, q (.int (dcnt [] (z.cps.toList.map sign1))) H1 (S1.pop.with fun o => o.scal fun _ => rfl)⟩
        · rw [if_neg hz] at q; exact q.elim
      | _ => exact q.elim
    · exact q.elim⟩⟩
end
end Q

set_option maxHeartbeats 1000000
/-! Assignments to several names, stores into owned lists, isinstance, repr. -/
namespace Q
open PySem PySem.Spec PyProof.Rows L2

/-! ### a, b = e; a, b = e1, e2 -/
def mAsg (t : TgM) (m : M T) : SM := fun ρ => (m ρ).toS fun u ρ1 => match t u.toD ρ1 with
  | some ρ2 => .nx ρ2
  | none => .stuck
section
variable {X : Cx} {L sl : List Nat} {st : Stmt} {tg e : Expr} {g : TG} {t : TgM} {m : M T}
theorem psd_asg (hg : PGd X L sl tg g t) (he : PEd X L e m) (h : ∀ te, PE X e te → PS X st (tAsg te g)) : PSd X L st (mAsg t m) :=
  ⟨fun W tk _ => PS.imp (h _ (he.run W tk)) fun D σ H q => tem_toS q fun R ρ tm v u H1 hL S q => by
    cases e1 : t u.toD ρ with
    | none => rw [e1] at q; exact q.elim
    | some ρ2 => rw [e1] at q; exact hg.run R σ ρ ρ2 H1 tm v _ _ hL (Sta.back S.fits S.lent S.front.freeze) e1 fun σ' _ _ S' => q σ' H1 S'⟩
end
def putL : List (Nat × T) → SM
  | [], ρ => .nx ρ
  | (i, t) :: r, ρ => match ρ[i]? with
    | some _ => putL r (ρ.set i (some t))
    | none => .stuck
def setL (σ : L2.St) : List (Nat × V) → L2.St
  | [] => σ
  | (i, v) :: r => setL (σ.set i (some v)) r
def mPar (is : List Nat) (ms : List (M T)) : SM := fun ρ => (mArgs ms ρ).toS fun ts ρ1 => if ts.length = is.length then putL (is.zip ts).reverse ρ1 else .stuck
theorem putL_ok {G : Gx} {R : Fr} {W : WX} {D : Ends} {H : Hp} {tm : List Item} : ∀ {l : List (Nat × V × T)} {σ : L2.St} {ρ : Env}, (∀ p ∈ l, p.1 ∉ R.lent.map (·.1)) → Sta G R σ ρ H (l.map (·.2) ++ tm) → EndS G R tm W D (putL (l.map fun p => (p.1, p.2.2)) ρ) →
    D.nx (setL σ (l.map fun p => (p.1, p.2.1))) H
  | [], σ, ρ, _, S, q => q σ H S
  | (i, v, t) :: r, σ, ρ, hl, S, q => by
    simp only [List.map_cons, putL] at q
    cases e : ρ[i]? with
    | none => rw [e] at q; exact q.elim
    | some o =>
      rw [e] at q
      exact putL_ok (l := r) (fun p hp => hl p (List.mem_cons_of_mem _ hp)) (Sta.store (i := i) S (List.getElem?_eq_some_iff.mp e).1 (hl _ List.mem_cons_self)) q
/-- plain stores from the right -/
def SwN (X : Cx) (i : Nat) (x : Str) : Prop := X.N[i]? = some x ∧ X.env.scope.names.lookup x = some .local
theorem swap_ok {X : Cx} {pins : List (Addr × Obj)} {H : Hp} {Q : Unit → Shared → Prop} (hN : X.N.Nodup) : ∀ {l : List (Nat × Str × V × Value)} {σ : L2.St} {s : Shared}, Inv X pins σ H s → (∀ p ∈ l, SwN X p.1 p.2.1 ∧ RelV p.2.2.1 p.2.2.2) →
    (∀ s', Inv X pins (setL σ (l.map fun p => (p.1, p.2.2.1))) H s' → Q () s') → wpAny (model X.prog X.w) X.A (assignInOrder (l.map fun p v => bindName X.env p.2.1 v) (l.map fun p => p.2.2.2)) Q X.xe s
  | [], σ, s, I, _, q => assignInOrder_nil (q s I)
  | (i, x, v, u) :: r, σ, s, I, h, q => by
    obtain ⟨⟨h1, h2⟩, h3⟩ := h _ List.mem_cons_self
    exact assignInOrder_cons (wpAny_bindName (store_ok I hN h1 (.inl h2) h3 (fun s1 I1 => swap_ok hN (l := r) I1 (fun p hp => h p (List.mem_cons_of_mem _ hp)) q) (.inr h2)))
def tSwap (is : List Nat) (ta : TA) : TS := fun D σ H => ta σ H fun vs H1 => vs.length = is.length ∧ D.nx (setL σ (is.zip vs).reverse) H1
def zip4 : List Nat → List Str → List V → List Value → List (Nat × Str × V × Value)
  | i :: is, x :: xs, v :: vs, u :: us => (i, x, v, u) :: zip4 is xs vs us
  | _, _, _, _ => []
theorem zip4_ok {X : Cx} : ∀ {is : List Nat} {xs : List Str} {vs : List V} {us : List Value}, Paired (SwN X) is xs → Vals vs us → vs.length = is.length →
    (∀ p ∈ zip4 is xs vs us, SwN X p.1 p.2.1 ∧ RelV p.2.2.1 p.2.2.2) ∧ (zip4 is xs vs us).map (·.2.1) = xs ∧ (zip4 is xs vs us).map (·.2.2.2) = us ∧ (zip4 is xs vs us).map (fun p => (p.1, p.2.2.1)) = is.zip vs
  | [], _, vs, us, .nil, r, hl => by
    have : vs = [] := List.length_eq_zero_iff.mp hl
    subst this
    cases r
    exact ⟨fun p hp => by simp [zip4] at hp, rfl, rfl, rfl⟩
  | i :: is, x :: xs, [], us, .cons a b, r, hl => by simp at hl
  | i :: is, x :: xs, v :: vs, _, .cons a b, .cons r1 r2, hl => by
    obtain ⟨h1, h2, h3, h4⟩ := zip4_ok b r2 (by simpa using hl)
    refine ⟨fun p hp => ?_, by simp [zip4, h2], by simp [zip4, h3], by simp [zip4, h4]⟩
    rcases List.mem_cons.mp hp with e | hp
    · subst e; exact ⟨a, r1⟩
    · exact h1 p hp
section
variable {X : Cx} {L : List Nat} {tgs es : List Expr} {ta : TA} {kt k2 : Nat} {pt p2 pos : Pos} {is : List Nat} {xs : List Str}
theorem ps_swap (hc : X.calm = true ∨ L2H.HotC X) (hN : X.N.Nodup) (hp : Paired (SwN X) is xs) (ha : PA X es ta) (hw : swappedStores [.Tuple tgs kt pt] (.Tuple es k2 p2) X.env = pure (some xs)) (hz : is.length ≤ 3)
    (hs : swapsWithSole [.Tuple tgs kt pt] (.Tuple es k2 p2) pos.line X.env = pure false := by rfl) : PS X (.Assign [.Tuple tgs kt pt] (.Tuple es k2 p2) pos) (tSwap is ta) := by
  refine ⟨fun pins s σ H D I h => Assign_Tuple_swapped (names := xs) (Tuple_ (thn (ha.run _ pins s σ H _ I h) fun us s1 ⟨vs, H1, I1, r1, hl, q1⟩ => ?_)) hs hw⟩
  have hu : us.length = xs.length := by rw [← r1.length, hl]; exact Paired.length hp
  have hx : xs.length ≤ 3 := by rw [← Paired.length hp]; exact hz
  refine wpAny_newObj_type ?_ (by show us.toArray.size ≤ sizeLine; rw [List.size_toArray, hu]; exact Nat.le_trans hx (by decide))
  have I2 : Inv X pins σ H1 { s1 with heap := s1.heap.push { cls := .type "tuple", data := .seq us.toArray } } := I1.kept (t' := s1.toks) fun b o e => Heap.get?_push_of_some _ e
  obtain ⟨z1, z2, z3, z4⟩ := zip4_ok hp r1 hl
  have fin : ∀ h', Heap.ExtBut (s1.heap.push { cls := .type "tuple", data := .seq us.toArray }).objs.size (s1.heap.push { cls := .type "tuple", data := .seq us.toArray }) h' →
      wpAny (model X.prog X.w) X.A (assignInOrder (xs.reverse.map fun n => bindName X.env n) us.toArray.toList.reverse) (fun _ => SP X pins D .next) X.xe { s1 with heap := h' } := fun h' hx' => by
    have I3 := I2.kept (h' := h') (t' := s1.toks) fun b o e => hx' b o (Nat.ne_of_lt (Heap.lt_size e)) e
    have g := swap_ok (Q := fun _ => SP X pins D .next) hN (l := (zip4 is xs vs us).reverse) I3 (fun p hp => z1 p (List.mem_reverse.mp hp)) fun s' I' => ⟨_, H1, I', by
      rw [List.map_reverse, z4]; exact q1⟩
    have e1 : (zip4 is xs vs us).reverse.map (fun p v => bindName X.env p.2.1 v) = xs.reverse.map fun n => bindName X.env n := by
      conv => rhs; rw [← z2]
      rw [← List.map_reverse, List.map_map]; rfl
    have e2 : (zip4 is xs vs us).reverse.map (fun p => p.2.2.2) = us.toArray.toList.reverse := by
      rw [List.map_reverse, z3]
    rw [e1, e2] at g
    exact g
  have hsz : xs.length = us.toArray.size := by rw [List.size_toArray, hu]
  rw [hsz]
  rcases hc with hc | hc
  · exact unpackItems_tuple (I.ok.hd hc) (IsTup.new s1.heap _) fin
  · obtain ⟨x1, hot⟩ := hc.at I2
    exact unpackItems_hot hot (IsTup.new s1.heap _) fin
theorem psd_par {ms : List (M T)} (hc : X.calm = true ∨ L2H.HotC X) (hN : X.N.Nodup) (hp : Paired (SwN X) is xs) (hi : ∀ i ∈ is, i ∉ L) (ha : PAd X L es ms) (hw : swappedStores [.Tuple tgs kt pt] (.Tuple es k2 p2) X.env = pure (some xs)) (hz : is.length ≤ 3)
    (hs : swapsWithSole [.Tuple tgs kt pt] (.Tuple es k2 p2) pos.line X.env = pure false := by rfl) : PSd X L (.Assign [.Tuple tgs kt pt] (.Tuple es k2 p2) pos) (mPar is ms) :=
  ⟨fun W tk _ => PS.imp (ps_swap hc hN hp (ha.run W tk) hw hz hs) fun D σ H ⟨R, ρ, tm, hL, S, q⟩ => by
    refine ⟨R, ρ, tm, hL, S, ?_⟩
    unfold mPar at q
    cases e : mArgs ms ρ with
    | stuck => rw [e] at q; exact q
    | exc => rw [e] at q; exact q σ
    | ok ts ρ1 =>
      rw [e] at q
      intro vs H1 hl S1
      simp only [Res.toS] at q
      by_cases hlen : ts.length = is.length
      · rw [if_pos hlen] at q
        refine ⟨hl.trans hlen, ?_⟩
        have k1 : ∀ {is : List Nat} {vs : List V} {ts : List T}, vs.length = ts.length → ts.length = is.length → (is.zip (vs.zip ts)).map (·.2) = vs.zip ts ∧ (is.zip (vs.zip ts)).map (fun p => (p.1, p.2.2)) = is.zip ts ∧ (is.zip (vs.zip ts)).map (fun p => (p.1, p.2.1)) = is.zip vs := by
          intro is
          induction is with
          | nil => intro vs ts h1 h2; obtain rfl := List.length_eq_zero_iff.mp h2; obtain rfl := List.length_eq_zero_iff.mp h1; exact ⟨rfl, rfl, rfl⟩
          | cons i is ih =>
            intro vs ts h1 h2
            cases ts with
            | nil => simp at h2
            | cons t ts =>
              cases vs with
              | nil => simp at h1
              | cons v vs =>
                obtain ⟨a, b, c⟩ := ih (vs := vs) (ts := ts) (by simpa using h1) (by simpa using h2)
                exact ⟨by simp [a], by simp [b], by simp [c]⟩
        obtain ⟨a, b, c⟩ := k1 hl hlen
        have S2 : Sta (gx X) R σ ρ1 H1 ((is.zip (vs.zip ts)).reverse.map (·.2) ++ tm) := S1.perm (by
          rw [List.map_reverse, a]; exact (List.reverse_perm _).symm.append_right _)
        have g := putL_ok (l := (is.zip (vs.zip ts)).reverse) (D := D) (W := W) (fun p hp => by
          have hm := List.mem_reverse.mp hp
          rw [hL]
          exact hi _ (List.of_mem_zip hm).1) S2 (by rw [List.map_reverse, b]; exact q)
        rw [List.map_reverse, c] at g
        exact g
      · rw [if_neg hlen] at q; exact q.elim⟩
end

/-! ### x op= e, ints -/
def mAug (i : Nat) (f : Int → Int → Int) (m : M T) : SM := fun ρ => match ρ[i]? with
  | some (some (.leaf (.int a))) => (m ρ).toS fun t ρ1 => match t.toD with
    | .int b => putS i (.leaf (.int (f a b))) ρ1
    | _ => .stuck
  | _ => .stuck
section
variable {X : Cx} {L : List Nat} {e b : Expr} {m mb : M T}
theorem psd_aug {i : Nat} {x : Str} {op : Operator} {f : Int → Int → Int} {pos pos' : Pos} (hi' : i ∉ L) (ip : PIp X op (ipI f)) (he : PEd X L e m) (h : ∀ te, PE X e te → PS X (.AugAssign (.Name x pos') op e pos) (tAug i te (ipI f))) : PSd X L (.AugAssign (.Name x pos') op e pos) (mAug i f m) :=
  ⟨fun W tk _ => PS.imp (h _ (he.run W tk)) fun D σ H ⟨R, ρ, tm, hL, S, q⟩ => by
    unfold mAug at q
    split at q
    · rename_i a e1
      obtain ⟨v, e2, S1⟩ := S.read e1
      obtain rfl : v = .int a := S1.front.rep
      refine ⟨_, e2, tem_toS ⟨R, ρ, tm, hL, S, q⟩ fun R ρ tm w t H1 hL S q => ?_⟩
      split at q
      · rename_i c ec
        exact ⟨a, c, rfl, (toInt S ec).front.rep, put_ok (v := .int (f a c)) (t := .leaf (.int (f a c))) (by rw [hL]; exact hi') (S.pop.with fun o => o.scal fun _ => rfl) q⟩
      · exact q.elim
    · exact q.elim⟩

/-! ### x[j] = e, x.append(e), x's list owned -/
def mSetIx (i : Nat) (mb m : M T) : SM := fun ρ => (m ρ).toS fun t ρ1 => match ρ1[i]? with
  | some (some _) => (mb ρ1).toS fun tb ρ2 => match tb.toD with
    | .int j => match ρ2[i]? with
      | some (some (.node ts)) => match ixN ts.length j with
        | some k => .nx (ρ2.set i (some (.node (ts.set k t))))
        | none => .stuck
      | _ => .stuck
    | _ => .stuck
  | _ => .stuck
theorem ixN_lt {n k : Nat} {j : Int} (h : ixN n j = some k) : k < n := by have := ixN_seq h; omega
theorem psd_setIx {i : Nat} {x : Str} {p2 p3 pos : Pos} (hv : PE X (.Name x p3) (tVar i)) (hb : PEd X L b mb) (he : PEd X L e m)
    (ha : ∀ v, assign (.Subscript (.Name x p3) b p2) X.env v = (do
      let ov ← holding [v] (eval (.Name x p3) X.env)
      let iv ← holding [v, ov] (eval b X.env)
      standAt p2
      holding [v, ov, iv] (setItem ov iv v)
      release [v, ov, iv] []) := by intro _; rfl)
    (hs : swapsWithSole [.Subscript (.Name x p3) b p2] e pos.line X.env = pure false := by rfl) (hw : swappedStores [.Subscript (.Name x p3) b p2] e X.env = pure none := by rfl)
    (h1 : (assignEach [.Subscript (.Name x p3) b p2] X.env).map (·.2) = [assign (.Subscript (.Name x p3) b p2) X.env] := by rfl) : PSd X L (.Assign [.Subscript (.Name x p3) b p2] e pos) (mSetIx i mb m) :=
  ⟨fun W tk _ => PS.imp (ps_asg (he.run W tk) (pg_sub hv (hb.run W tk) set_list ha) hs hw h1) fun D σ H q => tem_toS q fun R ρ tm v t H1 hL S q => by
    split at q
    · rename_i t0 e0
      obtain ⟨u, e1, _⟩ := S.pop.val e0
      have S0 : Sta (gx X) R σ ρ H1 ((v, t) :: tm) := S
      refine ⟨u, e1, R, ρ, (v, t) :: tm, hL, S, ?_⟩
      cases eb : mb ρ with
      | stuck => rw [eb] at q; exact q
      | exc => rw [eb] at q; exact ExcEnd.push (q σ) _
      | ok tb ρ2 =>
        rw [eb] at q
        intro y H2 S2
        simp only [Res.toS] at q
        split at q
        · rename_i j ej
          split at q
          · rename_i ts e2
            cases ek : ixN ts.length j with
            | none => rw [ek] at q; exact q.elim
            | some k =>
              rw [ek] at q
              have ey := (toInt S2 ej).front.rep
              obtain ⟨w, e3, S3⟩ := S2.pop.take e2
              rw [e1] at e3
              cases e3
              obtain ⟨a, xs, ea, hx, hlen⟩ := S3.front.nodeAt
              subst ea
              have o := Own.setAt (i := k) (S3.front.perm (List.Perm.cons _ (perm_mid (v, t) _ _))) hx (ixN_lt ek)
              exact ⟨a, xs, j, k, rfl, ey, hx, by rw [hlen]; exact ek, q σ _ ((Sta.back S3.fits S3.lent o).put S2.fits e1)⟩
          · exact q.elim
        · exact q.elim
    · exact q.elim⟩
def mAppend (i : Nat) (m : M T) : M T := fun ρ => match ρ[i]? with
  | some (some (.node _)) => (m ρ).bind fun t ρ1 => match ρ1[i]? with
    | some (some (.node ts)) => if ts.length < 16000000 then .ok (.leaf .non) (ρ1.set i (some (.node (ts ++ [t])))) else .stuck
    | _ => .stuck
  | _ => .stuck
theorem ped_append {i : Nat} {x : Str} {p3 apos cpos : Pos} (hv : PE X (.Name x p3) (tVar i)) (he : PEd X L e m)
    (hbase : attributeBase (.Name x p3) "append" X.env (eval (.Name x p3) X.env) = eval (.Name x p3) X.env := by rfl)
    (hfew : ((backTo cpos (starEach [e] X.env)).all (fun x => !x.1) && (backToKw cpos (keywordEach [] X.env)).all (fun x => x.1.isSome)
      && decide ([e].length + ([] : List Keyword).length + (if ([] : List Keyword).isEmpty then 0 else 1) < 30)) = true := by rfl)
    (hline : (apos.endLine == cpos.line) = true := by rfl) (hs : starEach [e] X.env = (false, eval e X.env) :: starEach [] X.env := by rfl) (hplain : (backTo cpos (starEach [] X.env)).any (·.1) = false := by rfl) :
    PEd X L (.Call (.Attribute (.Name x p3) "append" apos) [e] [] cpos) (mAppend i m) :=
  ⟨fun W tk => PE.imp (pe_bm PySem.F.plainAttrs_list PySem.F.slot_list_append PySem.F.type_list_append mt_append hv (pa_cons (he.run W tk) pa_nil hs) hbase hfew hline hs hplain) fun σ H Q ⟨R, ρ, tm, hL, S, q⟩ => by
    unfold mAppend at q
    split at q
    · rename_i ts0 e0
      obtain ⟨u, e1, S1⟩ := S.take e0
      obtain ⟨a, xs, ea, hx, hlen⟩ := S1.front.nodeAt
      subst ea
      refine ⟨_, e1, .inl ⟨rfl, _, SqL.of hx⟩, R, ρ, tm, hL, S, (End.bind q).mono fun t ρ1 _ q w H1 S2 => ?_⟩
      split at q
      · rename_i ts e2
        by_cases hz : ts.length < 16000000
        · rw [if_pos hz] at q
          obtain ⟨w', e3, S3⟩ := S2.pop.take e2
          rw [e1] at e3
          cases e3
          obtain ⟨a', xs', ea, hx', hlen'⟩ := S3.front.nodeAt
          cases ea
          have S4 := (S2.take e2)
          obtain ⟨w', e3, S4⟩ := S4
          rw [e1] at e3
          cases e3
          have o := Own.append (S4.front.perm (List.Perm.cons _ (perm_mid (w, t) _ _))) hx'
          refine ⟨a, xs', w, rfl, rfl, hx', by rw [hlen', sizeLine_eq]; omega, ?_⟩
          have S5 := (Sta.back S4.fits S4.lent o).put S2.fits e1
          exact q .non _ (S5.with fun o => o.scal fun _ => rfl)
        · rw [if_neg hz] at q; exact q.elim
      · exact q.elim
    · exact q.elim⟩
end
end Q

set_option maxHeartbeats 1000000
/-! isinstance, repr, methods of data, module constants. -/
namespace Q
open PySem PySem.Spec PyProof.Rows L2

/-! ### isinstance(x, T), isinstance(x, (T1, T2)) -/
def D.tyN : D → String
  | .non => "NoneType"
  | .bl _ => "bool"
  | .int _ => "int"
  | .str _ => "str"
  | .tup _ => "tuple"
  | .lst _ => "list"
  | .fz _ => "list"
  | .glo _ => "?"
def isiB (a b : String) : Bool := a == b || (a == "bool" && b == "int")
def knownT : List String := ["NoneType", "bool", "int", "str", "tuple", "list"]
theorem kitB_all : ∀ a ∈ knownT, ∀ b ∈ ["bool", "int", "str", "tuple", "list", "dict"], kitB a b = some (isiB a b) := by decide +kernel
theorem tyx_of {G : Gx} {H : Hp} {d : D} {x : V} (r : Rep G H d x) (hd : d.tyN ≠ "?") : TyX G.K H x (.type d.tyN) ∧ d.tyN ∈ knownT := by
  have sq : ∀ {a : Addr} {xs : List V}, SqL G.K H a xs → TyX G.K H (.ref a) (.type "list") := fun {a xs} h => by
    rcases h with (h | ⟨o, h⟩) | ⟨o, its, n, h1, h2, h3⟩
    · exact .base (.lst h)
    · exact .base (.frz h)
    · exact .kList h1 h2
  cases d with
  | non => rw [show x = .non from r]; exact ⟨.base .non, by simp [knownT, D.tyN]⟩
  | bl b => rw [show x = .bl b from r]; exact ⟨.base (.bl b), by simp [knownT, D.tyN]⟩
  | int b => rw [show x = .int b from r]; exact ⟨.base (.int b), by simp [knownT, D.tyN]⟩
  | str b => rw [show x = .str b from r]; exact ⟨.base (.str b), by simp [knownT, D.tyN]⟩
  | tup ds =>
    obtain ⟨a, xs, e, h, _⟩ := r
    subst e
    refine ⟨?_, by simp [knownT, D.tyN]⟩
    rcases h with (h | ⟨o, h⟩) | ⟨o, its, n, h1, h2, h3⟩
    · exact .base (.tup h)
    · exact .fTuple h
    · exact .kTuple h1 h2
  | lst ds => obtain ⟨a, xs, e, h, _⟩ := r; subst e; exact ⟨.base (.lst h), by simp [knownT, D.tyN]⟩
  | fz ds => obtain ⟨a, xs, e, h, _⟩ := r; subst e; exact ⟨sq h, by simp [knownT, D.tyN]⟩
  | glo g => exact absurd rfl hd
def mIsi (ns : List String) (m : M T) : M T := fun ρ => (m ρ).bind fun t ρ1 => if t.toD.tyN = "?" then .stuck else .ok (.leaf (.bl (ns.any fun n => isiB t.toD.tyN n))) ρ1
section
variable {X : Cx} {L : List Nat} {e : Expr} {m : M T} {p p2 pos : Pos}
theorem ped_isi {n : String} {x : Str} (hg : Gl X "isinstance") (hm : X.mg "isinstance" = none) (hg2 : Gl X x) (hm2 : X.mg x = none) (hb : bootBuiltins x = some (.type n)) (hn : n ∈ ["bool", "int", "str", "tuple", "list", "dict"]) (he : PEd X L e m) (hx : x ≠ "__name__" := by decide) (hdb : (x == ("__debug__" : Str)) = false := by decide)
    (h1 : starEach [e, .Name x p2] X.env = (false, eval e X.env) :: starEach [.Name x p2] X.env := by rfl) (h2 : starEach [.Name x p2] X.env = (false, eval (.Name x p2) X.env) :: starEach [] X.env := by rfl)
    (hpl : (backTo pos (starEach [.Name x p2] X.env)).any (·.1) = false := by rfl) :
    PEd X L (.Call (.Name "isinstance" p) [e, .Name x p2] [] pos) (mIsi [n] m) :=
  ⟨fun W tk => PE.imp (pe_callB call_isi hg hm PyProof.Rows.boot_isinstance (pa_cons (he.run W tk) (pa_cons (pe_bltn (v := .ty n) hg2 hm2 hb rfl hx hdb) pa_nil h2) h1) (by decide) (by decide) h1 hpl) fun σ H Q ⟨R, ρ, tm, hL, S, q⟩ => ⟨R, ρ, tm, hL, S, (End.bind q).mono fun t ρ1 _ q v H1 S1 => by
    by_cases hz : t.toD.tyN = "?"
    · rw [if_pos hz] at q; exact q.elim
    · rw [if_neg hz] at q
      obtain ⟨k1, k2⟩ := tyx_of S1.front.repT hz
      refine ⟨v, .ty n, _, .type n, isiB t.toD.tyN n, rfl, .ty n, k1, kit_ty (kitB_all _ k2 _ hn), ?_⟩
      have e : ([n].any fun n => isiB t.toD.tyN n) = isiB t.toD.tyN n := by simp
      rw [e] at q
      exact q _ H1 (S1.pop.with fun o => o.scal fun _ => rfl)⟩⟩
theorem pa_tys {es : List Expr} : True := trivial
inductive TysR (X : Cx) : List Expr → List String → Prop
  | nil : TysR X [] []
  | cons {x : Str} {n : String} {p : Pos} {es : List Expr} {ns : List String} (hg2 : Gl X x) (hm2 : X.mg x = none) (hb : bootBuiltins x = some (.type n)) (hn : n ∈ ["bool", "int", "str", "tuple", "list", "dict"]) (hx : x ≠ "__name__") (hdb : (x == ("__debug__" : Str)) = false)
      (hs : starEach (.Name x p :: es) X.env = (false, eval (.Name x p) X.env) :: starEach es X.env) (r : TysR X es ns) : TysR X (.Name x p :: es) (n :: ns)
theorem TysR.pa {es : List Expr} {ns : List String} (h : TysR X es ns) : ∃ ta, PA X es ta ∧ (∀ σ H Q, Q (ns.map V.ty) H → ta σ H Q) := by
  induction h with
  | nil => exact ⟨_, pa_nil, fun σ H Q q => q⟩
  | cons hg2 hm2 hb hn hx hdb hs r ih =>
    obtain ⟨ta, h1, h2⟩ := ih
    exact ⟨_, pa_cons (pe_bltn (v := .ty _) hg2 hm2 hb rfl hx hdb) h1 hs, fun σ H Q q => h2 σ H _ q⟩
theorem kitAny_all {K : PySem.W.Frag} {a : String} (ha : a ∈ knownT) : ∀ {ns : List String}, (∀ n ∈ ns, n ∈ ["bool", "int", "str", "tuple", "list", "dict"]) → PySem.W.kitAny K (.type a) (ns.map Value.type) = some (ns.any fun n => isiB a n)
  | [], _ => kitAny_nil
  | n :: ns, h => kitAny_cons (kit_ty (kitB_all a ha n (h n List.mem_cons_self))) (fun e => by rw [kitAny_all ha fun n hn => h n (List.mem_cons_of_mem _ hn)]; simp [e]) (fun e => by simp [e])
theorem cls_all : ∀ ns : List String, Paired ClsV (ns.map V.ty) (ns.map Value.type)
  | [] => .nil
  | n :: ns => .cons (.ty n) (cls_all ns)
theorem ped_isiT {es : List Expr} {ns : List String} {k : Nat} (hg : Gl X "isinstance") (hm : X.mg "isinstance" = none) (hs : TysR X es ns) (hns : ∀ n ∈ ns, n ∈ ["bool", "int", "str", "tuple", "list", "dict"]) (hlen : ns.length ≤ 6) (he : PEd X L e m)
    (h1 : starEach [e, .Tuple es k p2] X.env = (false, eval e X.env) :: starEach [.Tuple es k p2] X.env := by rfl) (h2 : starEach [.Tuple es k p2] X.env = (false, eval (.Tuple es k p2) X.env) :: starEach [] X.env := by rfl)
    (hpl : (backTo pos (starEach [.Tuple es k p2] X.env)).any (·.1) = false := by rfl) :
    PEd X L (.Call (.Name "isinstance" p) [e, .Tuple es k p2] [] pos) (mIsi ns m) := by
  obtain ⟨ta, a1, a2⟩ := hs.pa
  exact ⟨fun W tk => PE.imp (pe_callB call_isiT hg hm PyProof.Rows.boot_isinstance (pa_cons (he.run W tk) (pa_cons (pe_tup a1) pa_nil h2) h1) (by decide) (by decide) h1 hpl) fun σ H Q ⟨R, ρ, tm, hL, S, q⟩ => ⟨R, ρ, tm, hL, S, (End.bind q).mono fun t ρ1 _ q v H1 S1 => by
    by_cases hz : t.toD.tyN = "?"
    · rw [if_pos hz] at q; exact q.elim
    · rw [if_neg hz] at q
      refine a2 σ H1 _ ⟨by rw [List.length_map]; exact line16 (by omega), fun tp htp => ?_⟩
      have S2 : Sta (gx X) R σ ρ1 (upd H1 tp (.tup (ns.map V.ty))) ((v, .leaf t.toD) :: tm) := by
        obtain ⟨F, o⟩ := (Sta.back S1.fits S1.lent S1.front.freeze).own
        exact ⟨S1.fits, S1.lent, F, (o.grow htp).1⟩
      obtain ⟨k1, k2⟩ := tyx_of S2.front.rep hz
      exact ⟨v, tp, _, _, _, _, rfl, upd_same, cls_all ns, k1, kitAny_all k2 hns, q _ _ (S2.pop.with fun o => o.scal fun _ => rfl)⟩⟩⟩

/-! ### module constants -/
theorem ped_glob {x : Str} {d : D} {v : V} {u : Value} (hg : Gl X x) (hm : X.mg x = some u) (hd : d.toV? = some v) (r : RelV v u) (hdb : (x == ("__debug__" : Str)) = false := by decide) : PEd X L (.Name x pos) (mC d) := ped_scal (pe_glob hg hm r hdb) hd

/-! ### repr(x), x a tuple or a list -/
def dispD : PyData → Bool
  | .list _ => true
  | .tuple _ => true
  | _ => false
mutual
/-- no longer than this is the text; none: not told -/
def costP : PyData → Option Nat
  | .none => some 4
  | .bool _ => some 5
  | .str z => if z.cps.toList.all (fun c => Nat.ble c 1114111) = true then some (10 * z.length + 2) else none
  | .tuple xs => (costPs xs).map (· + 2)
  | _ => none
def costPs : List PyData → Option Nat
  | [] => some 0
  | x :: xs => match costP x, costPs xs with
    | some a, some b => some (a + 2 + b)
    | _, _ => none
end
mutual
theorem costP_ok : ∀ (p : PyData) {n : Nat}, costP p = some n → p.shown.length ≤ n
  | .none, n, e => by
    simp only [costP, Option.some.injEq] at e
    subst e
    exact Nat.le_of_eq (by decide +kernel)
  | .bool b, n, e => by
    simp only [costP, Option.some.injEq] at e
    subst e
    cases b
    · exact Nat.le_of_eq (by decide +kernel)
    · exact Nat.le_trans (Nat.le_of_eq (by decide +kernel : (PyData.bool true).shown.length = 4)) (by decide)
  | .str z, n, e => by
    simp only [costP] at e
    split at e
    · rename_i h
      cases e
      exact StrLaws.reprText_len z fun c hc => by
        have := Nat.le_of_ble_eq_true (List.all_eq_true.mp h c hc)
        omega
    · cases e
  | .tuple xs, n, e => by
    simp only [costP] at e
    cases e2 : costPs xs with
    | none => rw [e2] at e; cases e
    | some m =>
      rw [e2] at e
      cases e
      have h1 := fmt_text (PyData.shownAll xs)
      have h2 := costPs_ok xs e2
      show (tupleText (PyData.shownAll xs)).length ≤ m + 2
      omega
  | .int _, n, e => by simp [costP] at e
  | .list _, n, e => by simp [costP] at e
  | .dict _, n, e => by simp [costP] at e
theorem costPs_ok : ∀ (ps : List PyData) {n : Nat}, costPs ps = some n → piled (PyData.shownAll ps) ≤ n
  | [], n, e => by simp only [costPs, Option.some.injEq] at e; subst e; exact Nat.le_refl _
  | p :: ps, n, e => by
    simp only [costPs] at e
    cases e1 : costP p with
    | none => rw [e1] at e; cases e
    | some a =>
      cases e2 : costPs ps with
      | none => rw [e1, e2] at e; cases e
      | some b =>
        rw [e1, e2] at e
        cases e
        have h1 := costP_ok p e1
        have h2 := costPs_ok ps e2
        show piled (p.shown :: PyData.shownAll ps) ≤ _
        rw [piled_cons]
        omega
end
def fitsP (p : PyData) : Bool := match costP p with
  | some c => decide (c ≤ big)
  | none => decide (p.shown.length ≤ big)
theorem fitsP_ok {p : PyData} (h : fitsP p = true) : p.shown.length ≤ big := by
  unfold fitsP at h
  split at h
  · rename_i c e
    exact Nat.le_trans (costP_ok p e) (of_decide_eq_true h)
  · exact of_decide_eq_true h
def fRepr : List D → Option D
  | [d] => match d.toP with
    | some p => if (dispD p && p.showable && !p.hasDict && decide (p.depth ≤ 60) && fitsP p) = true then some (.str p.shown) else none
    | none => none
  | _ => none
theorem sc_fRepr : ∀ ds d, fRepr ds = some d → ∃ v, d.toV? = some v := fun ds d e => by
  unfold fRepr at e
  split at e
  · split at e
    · split at e
      · cases e; exact ⟨_, rfl⟩
      · cases e
    · cases e
  · cases e
theorem c_fRepr (hgd : X.A.guards = some []) (hu : X.A.units + 64 < cLine) : CallR X (.builtin "repr") (rSn (gx X) fRepr) := by
  intro pins s σ H xs us Q I r ⟨ds, d, v, rs, ef, ev, q⟩
  unfold fRepr at ef
  split at ef
  · rename_i d'
    split at ef
    · rename_i p ep
      split at ef
      · rename_i hz
        cases ef
        cases ev
        obtain ⟨x, rfl, rx⟩ := reps_one rs
        simp only [Bool.and_eq_true, decide_eq_true_eq, Bool.not_eq_true'] at hz
        obtain ⟨⟨⟨⟨h1, h2⟩, h3⟩, h4⟩, h5⟩ := hz
        have h5 := fitsP_ok h5
        obtain ⟨u, rfl, ru⟩ := r.one
        obtain ⟨as, rd⟩ := Dp.reads I p x u (toP_dp d' ep rx) ru
        have hu' : ∃ a, u = .ref a := by
          cases rd with
          | list _ _ _ _ => exact ⟨_, rfl⟩
          | tuple _ _ _ _ => exact ⟨_, rfl⟩
          | _ => cases h1
        obtain ⟨a, rfl⟩ := hu'
        exact repr_of_reads' rd h2 (PyData.noDict_hsm h3) hgd (by omega) (fun _ _ e => e) (fun h' u tk hk => ⟨.str p.shown, H, I.kept (t' := tk) hk, ⟨_, rfl⟩, q⟩) (Nat.le_trans h5 big_line)
      · cases ef
    · cases ef
  · cases ef

/-! ### methods of data -/
def rMt (G : Gx) (f : D → List D → Option T) : V → List V → Hp → VK → Prop := fun x xs H Q => ∃ R its dx ds t, xs.length = ds.length ∧ Own G R H ((x, .leaf dx) :: (xs.zip (ds.map T.leaf) ++ its)) ∧ f dx ds = some t ∧ ∀ v H', Own G R H' ((v, t) :: its) → Q v H'
def mMt (ty : String) (f : D → List D → Option T) (mo : M T) (ms : List (M T)) : M T := fun ρ => (mo ρ).bind fun t ρ1 => if t.toD.tyN = ty ∧ ty = "str" then (mArgs ms ρ1).bind fun ts ρ2 => match f t.toD (ts.map T.toD) with
    | some u => .ok u ρ2
    | none => .stuck
  else .stuck
/-- the first place of c -/
def idx1 (c : Nat) : List Nat → Nat → Option Nat
  | [], _ => none
  | x :: r, i => if x = c then some i else idx1 c r (i + 1)
section
open Builtin Builtin.Str StrLaws
theorem occ_stay (x y : Str) (hi : Nat) (k : Nat) : ∀ (l : List Nat) (f : Nat), (forIn l ((#[k] : Array Nat), f) (occBody x y hi 1)).run.fst = #[k]
  | [], f => rfl
  | a :: l, f => by
    rw [List.forIn_cons]
    unfold occBody
    rw [if_neg fun h => by simp at h]
    exact occ_stay x y hi k l f
theorem occ_first (x : Str) (c : Nat) : ∀ (n k f : Nat) (l : List Nat), x.cps.toList.drop k = l → l.length ≤ n → f ≤ k → (forIn (List.range' k n) ((#[] : Array Nat), f) (occBody x ⟨#[c]⟩ x.length 1)).run.fst.toList = match idx1 c l k with
    | some i => [i]
    | none => []
  | 0, k, f, l, h1, h2, h3 => by
    obtain rfl : l = [] := List.length_eq_zero_iff.mp (by omega)
    rfl
  | n + 1, k, f, l, h1, h2, h3 => by
    rw [List.range'_succ, List.forIn_cons]
    have iff := subAt_one x c k
    have at0 : x.cps.toList[k]? = l[0]? := by rw [← h1, List.getElem?_drop]; rfl
    have tl : x.cps.toList.drop (k + 1) = l.tail := by rw [← h1, List.tail_drop]
    by_cases hc : l[0]? = some c
    · have h := iff.mpr (at0.trans hc)
      unfold occBody
      rw [if_pos ⟨⟨⟨by simp, h3⟩, h.1⟩, h.2⟩]
      show (forIn (List.range' (k + 1) n) ((#[] : Array Nat).push k, _) (occBody x ⟨#[c]⟩ x.length 1)).run.fst.toList = _
      have e := occ_stay x ⟨#[c]⟩ x.length k (List.range' (k + 1) n) (k + (⟨#[c]⟩ : Str).length)
      show (forIn (List.range' (k + 1) n) ((#[k] : Array Nat), _) (occBody x ⟨#[c]⟩ x.length 1)).run.fst.toList = _
      rw [e]
      cases l with
      | nil => simp at hc
      | cons a r => simp at hc; subst hc; simp [idx1]
    · unfold occBody
      rw [if_neg fun h => hc (at0.symm.trans (iff.mp ⟨h.1.2, h.2⟩))]
      show (forIn (List.range' (k + 1) n) ((#[] : Array Nat), f) (occBody x ⟨#[c]⟩ x.length 1)).run.fst.toList = _
      rw [occ_first x c n (k + 1) f l.tail tl (by rw [List.length_tail]; omega) (by omega)]
      cases l with
      | nil => rfl
      | cons a r =>
        have : ¬ a = c := fun e => hc (by rw [e]; rfl)
        simp [idx1, this]
theorem occ_idx (x : Str) (c : Nat) : occurrences x ⟨#[c]⟩ 0 x.length 1 = match idx1 c x.cps.toList 0 with
    | some i => [i]
    | none => [] := by
  rw [occ_eq]
  exact occ_first x c _ 0 0 _ List.drop_zero (by have : x.length = x.cps.size := rfl; simp; omega) (Nat.le_refl _)
end
/-- s.index(t) -/
def sIdx (a b : Str) : Option Nat := match b.cps.toList with
  | [c] => idx1 c a.cps.toList 0
  | _ => (Builtin.Str.occurrences a b 0 a.length 1).head?
theorem sIdx_ok {a b : Str} {i : Nat} (h : sIdx a b = some i) : ∃ r, Builtin.Str.occurrences a b 0 a.length 1 = i :: r := by
  unfold sIdx at h
  split at h
  · rename_i c ec
    have : b = ⟨#[c]⟩ := by
      obtain ⟨⟨l⟩⟩ := b
      simp only at ec
      rw [ec]
    rw [this, occ_idx, h]
    exact ⟨[], rfl⟩
  · cases e : Builtin.Str.occurrences a b 0 a.length 1 with
    | nil => rw [e] at h; cases h
    | cons j r => rw [e] at h; cases h; exact ⟨r, rfl⟩
def fIndexS : D → List D → Option T
  | .str a, [.str b] => (sIdx a b).map fun i => .leaf (.int (i : Nat))
  | _, _ => none
theorem mt_fIndexS : MtR X "str.index" (rMt (gx X) fIndexS) := by
  intro pins s σ H x xs v us Q I rx rs ⟨R, its, dx, ds, t, hl, o, ef, q⟩
  unfold fIndexS at ef
  split at ef
  · rename_i a b
    cases ei : sIdx a b with
    | none => rw [ei] at ef; cases ef
    | some i =>
      rw [ei] at ef
      cases ef
      obtain ⟨rest, eo⟩ := sIdx_ok ei
      obtain ⟨F, o⟩ := o
      have ex : x = .str a := o.head
      cases xs with
      | nil => cases hl
      | cons y r =>
        cases r with
        | cons _ _ => simp at hl
        | nil =>
          have o1 : OwnF (gx X) R H ((y, .leaf (.str b)) :: its) F := o.tail
          have ey : y = .str b := o1.head
          exact mt_sindex pins s σ H x [y] v us Q I rx rs ⟨a, b, i, rest, ex, by rw [ey], eo, q _ H ⟨F, o1.tail.add rfl⟩⟩
  · cases ef
theorem ped_mtS {o e : Expr} {es : List Expr} {f : D → List D → Option T} {mo : M T} {ms : List (M T)} {name : Str} {id : String} {apos cpos : Pos} (slot : Slot "str" name id) (hty : typeOf (.builtin id) = pure (.type "method_descriptor")) (hm : MtR X id (rMt (gx X) f)) (ho : PEd X L o mo) (ha : PAd X L (e :: es) ms)
    (hbase : attributeBase o name X.env (eval o X.env) = eval o X.env := by rfl)
    (hfew : ((backTo cpos (starEach (e :: es) X.env)).all (fun x => !x.1) && (backToKw cpos (keywordEach [] X.env)).all (fun x => x.1.isSome)
      && decide ((e :: es).length + ([] : List Keyword).length + (if ([] : List Keyword).isEmpty then 0 else 1) < 30)) = true := by rfl)
    (hline : (apos.endLine == cpos.line) = true := by rfl) (hs : starEach (e :: es) X.env = (false, eval e X.env) :: starEach es X.env := by rfl) (hplain : (backTo cpos (starEach es X.env)).any (·.1) = false := by rfl) :
    PEd X L (.Call (.Attribute o name apos) (e :: es) [] cpos) (mMt "str" f mo ms) :=
  ⟨fun W tk => PE.imp (pe_bm PySem.F.plainAttrs_str slot hty hm (ho.run W tk) (ha.run W tk) hbase hfew hline hs hplain) fun σ H Q ⟨R, ρ, tm, hL, S, q⟩ => ⟨R, ρ, tm, hL, S, (End.bind q).mono fun t ρ1 _ q x H1 S1 => by
    by_cases hz : t.toD.tyN = "str" ∧ "str" = "str"
    · rw [if_pos hz] at q
      have rx := S1.front.repT
      have S1' : Sta (gx X) R σ ρ1 H1 ((x, .leaf t.toD) :: tm) := Sta.back S1.fits S1.lent S1.front.freeze
      cases ed : t.toD with
      | str z =>
        rw [ed] at rx q S1'
        obtain rfl : x = .str z := rx
        refine ⟨rfl, R, ρ1, (.str z, .leaf (.str z)) :: tm, hL, S1', ((End.bind q).push _).mono fun ts ρ2 _ q vs H2 hl S2 => ?_⟩
        cases ef : f (.str z) (ts.map T.toD) with
        | none => rw [ef] at q; exact q.elim
        | some u =>
          rw [ef] at q
          obtain ⟨o1, _⟩ := own_reps hl (S2.frontL)
          refine ⟨R, items σ ρ2 ++ tm, .str z, ts.map T.toD, u, by rw [List.length_map]; exact hl, o1.perm ?_, ef, fun v H' o => q v H' (Sta.back S2.fits S2.lent o)⟩
          have p1 : ((vs.zip ((ts.map T.toD).map T.leaf)) ++ (items σ ρ2 ++ (V.str z, T.leaf (.str z)) :: tm)).Perm ((vs.zip ((ts.map T.toD).map T.leaf)) ++ ((V.str z, T.leaf (.str z)) :: (items σ ρ2 ++ tm))) := List.Perm.append_left _ (perm_mid _ _ _)
          exact p1.trans (perm_mid _ _ _)
      | _ => rw [ed] at hz; exact absurd hz.1 (by simp [D.tyN])
    · rw [if_neg hz] at q; exact q.elim⟩⟩
end
end Q

set_option maxHeartbeats 1000000
/-! try with clauses. -/
namespace Q
open PySem PySem.Spec PyProof.Rows L2
abbrev Tab := List (Str × List Str)
structure Hd where
  cls : Str
  slot : Option Nat
  run : Str → D → SM
def SRes.noX : SRes → SRes
  | .exc _ _ _ _ => .stuck
  | r => r
def SRes.wipe (i : Nat) : SRes → SRes
  | .nx ρ => .nx (wipeE ρ [i])
  | .bk ρ => .bk (wipeE ρ [i])
  | .ct ρ => .ct (wipeE ρ [i])
  | r => r
def mHs (sups : List Str) : List Hd → Str → Str → D → SM
  | [], c, f, d, ρ => .exc c f d ρ
  | h :: r, c, f, d, ρ => if h.cls ∈ sups then (match h.slot with
      | none => (h.run f d ρ).noX
      | some i => ((h.run f d (wipeE ρ [i])).noX).wipe i) else mHs sups r c f d ρ
def mTry (tab : Tab) (b : SM) (hs : List Hd) : SM := fun ρ => match b ρ with
  | .exc c f d ρ1 => match tab.find? (fun p => decide (p.1 = c)) with
    | some p => mHs p.2 hs c f d ρ1
    | none => .stuck
  | r => r
def TSx (G : Gx) (tab : Tab) (L : List Nat) (o : Option Nat) (sm : Str → D → SM) (a : Addr) (cls : Value) (d : Option Addr) : TS := fun D σ H =>
  ∃ (R : Fr) (ρ : Env) (tm : List Item) (c f : Str) (dv : Q.D) (C dd : Addr) (v : V), R.lent.map (·.1) = L ∧ cls = .ref C ∧ G.mg c = some (.ref C) ∧ (∃ s, (c, s) ∈ tab) ∧ d = some dd ∧ H dd = some (.xd [(f, v)]) ∧ (∀ i, o = some i → i < σ.length → σ[i]? = some (some (.ref a))) ∧
    Sta G R σ ρ H ((v, .leaf dv) :: tm) ∧ EndS G R tm W0 D (sm f dv ρ).noX
def SuD (X : Cx) (tab : Tab) (L : List Nat) (o : Option Nat) (suite : List Stmt) (sm : Str → D → SM) : Prop :=
  ∀ (a : Addr) (oe : Obj) (cls : Value) (d : Option Addr) (pn : List (Addr × Obj)), L2N.Zn cls d oe → (∃ vs, oe.data = .fields vs) → PSs (X.suite a ((a, oe) :: pn)) suite (TSx (gx X) tab L o sm a cls d)
inductive HdsD (X : Cx) (tab : Tab) (L : List Nat) : List ExceptHandler → List Hd → Prop
  | nil : HdsD X tab L [] []
  | plain {x : Str} {np pos' : Pos} {b₀ : Stmt} {suite : List Stmt} {hds : List ExceptHandler} {hs : List Hd} {sm : Str → D → SM} {C : Addr} (hm : X.mg x = some (.ref C)) (hg : Gl X x) (hdb : (x == ("__debug__" : Str)) = false) (su : SuD X tab L none (b₀ :: suite) sm) (r : HdsD X tab L hds hs) :
      HdsD X tab L (.ExceptHandler (some (.Name x np)) none (b₀ :: suite) pos' :: hds) (⟨x, none, sm⟩ :: hs)
  | named {x n : Str} {i : Nat} {np pos' : Pos} {b₀ : Stmt} {suite : List Stmt} {hds : List ExceptHandler} {hs : List Hd} {sm : Str → D → SM} {C : Addr} (hi : X.N[i]? = some n) (hiL : i ∉ L) (hln : X.env.kindOf n = some .local) (hm : X.mg x = some (.ref C)) (hg : Gl X x) (hdb : (x == ("__debug__" : Str)) = false)
      (su : SuD X tab L (some i) (b₀ :: suite) sm) (r : HdsD X tab L hds hs) :
      HdsD X tab L (.ExceptHandler (some (.Name x np)) (some n) (b₀ :: suite) pos' :: hds) (⟨x, some i, sm⟩ :: hs)
/-- the table of classes is the module's -/
def TabOk (K : PySem.W.Frag) (mg : Str → Option Value) (tab : Tab) (hs : List Str) : Prop := ∀ p ∈ tab, ∀ h ∈ hs, ∀ C Ch, mg p.1 = some (.ref C) → mg h = some (.ref Ch) → PySem.W.exmOne K (.ref C) (.ref Ch) = some (decide (h ∈ p.2))
theorem wipeE_none' {ρ : Env} {i : Nat} : ∀ t, (wipeE ρ [i])[i]? ≠ some (some t) := wipeE_none (vs := [i]) List.mem_cons_self
theorem Sta.slot {G : Gx} {R : Fr} {σ : L2.St} {ρ : Env} {H : Hp} {tm : List Item} {i : Nat} (x : Option V) (S : Sta G R σ ρ H tm) (hi : i ∉ R.lent.map (·.1)) : Sta G R (σ.set i x) (wipeE ρ [i]) H tm := by
  have S1 := S.forget [i]
  obtain ⟨e1, e2⟩ := items_irrel (σ := σ) (ρ := wipeE ρ [i]) (i := i) x wipeE_none'
  refine ⟨e2.mpr S1.fits, fun p hp => ?_, by rw [e1]; exact S1.own⟩
  rw [List.getElem?_set_ne fun z => hi (by rw [z]; exact List.mem_map_of_mem hp)]
  exact S1.lent p hp
theorem EndS.wipe {G : Gx} {R : Fr} {tm : List Item} {W : WX} {D : Ends} {i : Nat} (hi : i ∉ R.lent.map (·.1)) : ∀ {r : SRes}, EndS G R tm W D (r.noX.wipe i) → EndS G R tm W0 (Ends.wipe D i) r.noX
  | .nx ρ, h => fun σ H S => h _ H (S.slot none hi)
  | .bk ρ, h => fun σ H S => h _ H (S.slot none hi)
  | .ct ρ, h => fun σ H S => h _ H (S.slot none hi)
  | .rt t ρ, h => h
  | .exc _ _ _ _, h => h.elim
  | .stuck, h => h.elim
theorem EndS.noX {G : Gx} {R : Fr} {tm : List Item} {W : WX} {D : Ends} : ∀ {r : SRes}, EndS G R tm W D r.noX → EndS G R tm W0 D r.noX
  | .nx ρ, h => h
  | .bk ρ, h => h
  | .ct ρ, h => h
  | .rt t ρ, h => h
  | .exc _ _ _ _, h => h.elim
  | .stuck, h => h.elim
theorem EndS.drop {G : Gx} {R : Fr} {tm : List Item} {W : WX} {D : Ends} (p : Item) : ∀ {r : SRes}, EndS G R tm W D r.noX → EndS G R (p :: tm) W D r.noX
  | .nx ρ, h => fun σ H S => h σ H S.pop
  | .bk ρ, h => fun σ H S => h σ H S.pop
  | .ct ρ, h => fun σ H S => h σ H S.pop
  | .rt t ρ, h => fun v σ H S => h v σ H (Sta.back S.fits S.lent (((S.front.perm (List.Perm.cons _ (perm_mid _ _ _))).perm (.swap _ _ _)).drop))
  | .exc _ _ _ _, h => h.elim
  | .stuck, h => h.elim
theorem hds_ok {X : Cx} {tab : Tab} {L : List Nat} {W : WX} {D : Ends} : ∀ {hds : List ExceptHandler} {hs : List Hd}, HdsD X tab L hds hs → ∃ l, HdsM X hds l ∧
    (∀ (p : Str × List Str) (D : Ends) (W : WX) (f : Str) (dv : Q.D) (ρ : Env) (R : Fr) (σ : L2.St) (tm : List Item) (C a : Addr) (v : V) (H : Hp), TabOk X.K X.mg tab (hs.map (·.cls)) → p ∈ tab → R.lent.map (·.1) = L → X.mg p.1 = some (.ref C) → H a = some (.xd [(f, v)]) →
      Sta (gx X) R σ ρ H ((v, .leaf dv) :: tm) → EndS (gx X) R tm W D (mHs p.2 hs p.1 f dv ρ) → wMix X.K W D l (.ref C) (some a) σ H) := by
  intro hds hs h
  induction h with
  | nil => exact ⟨[], .nil, fun p D W f dv ρ R σ tm C a v H _ _ _ hm ha S q => q σ C a v H hm ha S⟩
  | @plain x np pos' b₀ suite hds hs sm Ch hm hg hdb su r ih =>
    obtain ⟨l, h1, h2⟩ := ih
    refine ⟨_, .plain ⟨hg, hdb, .inl hm⟩ su h1, fun p D W f dv ρ R σ tm C a v H T hp hL hC ha S q => ?_⟩
    refine ⟨_, T p hp x List.mem_cons_self C Ch hC hm, fun hb a' na => ?_, fun hb => ?_⟩
    · rw [mHs, if_pos (of_decide_eq_true hb)] at q
      exact ⟨R, ρ, tm, p.1, f, dv, C, a, v, hL, rfl, hC, ⟨p.2, hp⟩, rfl, ha, fun i z => (nomatch z), S, q.noX⟩
    · rw [mHs, if_neg (of_decide_eq_false hb)] at q
      exact h2 p D W f dv ρ R σ tm C a v H (fun p hp h hh => T p hp h (List.mem_cons_of_mem _ hh)) hp hL hC ha S q
  | @named x n i np pos' b₀ suite hds hs sm Ch hi hiL hln hm hg hdb su r ih =>
    obtain ⟨l, h1, h2⟩ := ih
    refine ⟨_, .named hi hln ⟨hg, hdb, .inl hm⟩ su h1, fun p D W f dv ρ R σ tm C a v H T hp hL hC ha S q => ?_⟩
    refine ⟨_, T p hp x List.mem_cons_self C Ch hC hm, fun hb a' na => ?_, fun hb => ?_⟩
    · rw [mHs, if_pos (of_decide_eq_true hb)] at q
      refine ⟨R, wipeE ρ [i], tm, p.1, f, dv, C, a, v, hL, rfl, hC, ⟨p.2, hp⟩, rfl, ha, fun j z hlt => ?_, S.slot _ (by rw [hL]; exact hiL), EndS.wipe (by rw [hL]; exact hiL) q⟩
      cases z
      rw [List.length_set] at hlt
      rw [List.getElem?_set_self hlt]
    · rw [mHs, if_neg (of_decide_eq_false hb)] at q
      exact h2 p D W f dv ρ R σ tm C a v H (fun p hp h hh => T p hp h (List.mem_cons_of_mem _ hh)) hp hL hC ha S q
section
variable {X : Cx} {tab : Tab} {L : List Nat} {body : List Stmt} {h₀ : ExceptHandler} {hds : List ExceptHandler} {hs : List Hd} {mb : SM} {pos : Pos}
theorem psd_try (hst : X.stack = X.env :: X.outer) (hf : X.env.frame = some X.env.locals) (hN : X.N.Nodup) (hb : ∀ pn xe, PBd (X.tr pn xe) L body mb) (hh : HdsD X tab L (h₀ :: hds) hs) (T : TabOk X.K X.mg tab (hs.map (·.cls))) : PSd X L (.Try body (h₀ :: hds) [] [] pos) (mTry tab mb hs) := by
  obtain ⟨l, h1, h2⟩ := hds_ok (W := W0) (D := ⟨fun _ _ => False, fun _ _ => False, fun _ _ => False, fun _ _ => False⟩) hh
  refine ⟨fun W tk _ => PS.imp (ps_try_mix (tb := fun W => TSm (gx X) L W mb) hst hf hN tk (fun W pn xe tk' hp => (hb pn xe).run W tk' hp) h1) fun D σ H ⟨R, ρ, tm, hL, S, q⟩ => ⟨R, ρ, tm, hL, S, ?_⟩⟩
  unfold mTry at q
  cases e : mb ρ with
  | nx ρ1 => rw [e] at q; exact q
  | rt t ρ1 => rw [e] at q; exact q
  | bk ρ1 => rw [e] at q; exact q
  | ct ρ1 => rw [e] at q; exact q
  | stuck => rw [e] at q; exact q
  | exc c f d ρ1 =>
    rw [e] at q
    intro σ1 C a v H' hm ha S'
    simp only at q
    cases et : tab.find? (fun p => decide (p.1 = c)) with
    | none => rw [et] at q; exact q.elim
    | some p =>
      rw [et] at q
      have hp := List.mem_of_find?_eq_some et
      have hc : p.1 = c := of_decide_eq_true (List.find?_some (p := fun p : Str × List Str => decide (p.1 = c)) et)
      subst hc
      exact h2 p D W f d ρ1 R σ1 tm C a v H' T hp hL hm ha S' q
/-- a suite that does not look at the exception -/
theorem sud_plain {o : Option Nat} {suite : List Stmt} {m : SM} (h : ∀ a pn, PBd (X.suite a pn) L suite m) : SuD X tab L o suite fun _ _ => m := fun a oe cls d pn hz hf =>
  PSs.imp ((h a ((a, oe) :: pn)).run W0 tk0 PassesOwn.never) fun D σ H ⟨R, ρ, tm, c, f, dv, C, dd, v, hL, _, _, _, _, _, _, S, q⟩ => ⟨R, ρ, _, hL, S, by
    have q : EndS (gx X) R tm W0 D (m ρ).noX := q
    have q2 := EndS.drop (v, .leaf dv) q
    cases e : m ρ with
    | exc => rw [e] at q2; exact q2.elim
    | _ => rw [e] at q2; exact q2⟩
/-- x, y = 'lit', err.f -/
theorem sud_pair {i j n : Nat} {x y err f s : Str} {kt k2 kc : Nat} {px py pe pa pc pt p2 pos : Pos} (hN : X.N.Nodup) (hi : i ∉ L) (hj : j ∉ L) (hx : SwN X i x) (hy : SwN X j y) (hX : ∀ p ∈ tab, ∀ C, X.mg p.1 = some (.ref C) → XfC X.K C ∧ PySem.W.findIn X.K (.ref C) f = some none)
    (hn : X.N[n]? = some err) (hv : ∀ a pn, PE (X.suite a pn) (.Name err pe) (tVar n))
    (hb : attributeBase (.Name err pe) f X.env (eval (.Name err pe) X.env) = eval (.Name err pe) X.env := by rfl)
    (hq1 : starEach [.Constant (.str s) kc pc, .Attribute (.Name err pe) f pa] X.env = (false, eval (.Constant (.str s) kc pc) X.env) :: starEach [.Attribute (.Name err pe) f pa] X.env := by rfl)
    (hq2 : starEach [.Attribute (.Name err pe) f pa] X.env = (false, eval (.Attribute (.Name err pe) f pa) X.env) :: starEach [] X.env := by rfl)
    (hw : swappedStores [.Tuple [.Name x px, .Name y py] kt pt] (.Tuple [.Constant (.str s) kc pc, .Attribute (.Name err pe) f pa] k2 p2) X.env = pure (some [x, y]))
    (hs : swapsWithSole [.Tuple [.Name x px, .Name y py] kt pt] (.Tuple [.Constant (.str s) kc pc, .Attribute (.Name err pe) f pa] k2 p2) pos.line X.env = pure false := by rfl) :
    SuD X tab L (some n) [.Assign [.Tuple [.Name x px, .Name y py] kt pt] (.Tuple [.Constant (.str s) kc pc, .Attribute (.Name err pe) f pa] k2 p2) pos] fun f' dv ρ => if f' = f then putL [(j, .leaf dv), (i, .leaf (.str s))] ρ else .stuck := fun a oe cls d pn hz hf =>
  ⟨fun pins s0 σ H D I h => by
    obtain ⟨R, ρ, tm, c, f', dv, C, dd, v, hL, e1, hm, ⟨sups, ht⟩, e2, hdd, hsl, S, q⟩ := h
    obtain ⟨Xf, hno⟩ := hX _ ht C hm
    have hot : L2H.HotC (X.suite a ((a, oe) :: pn)) := ⟨(a, oe), ⟨rfl, by obtain ⟨vs, hd⟩ := hf; exact ⟨vs, hd, hz.2.2 vs hd⟩⟩, List.mem_cons_self⟩
    by_cases ef : f' = f
    · subst ef
      simp only [if_pos] at q
      refine (pss_one (ps_swap (X := X.suite a ((a, oe) :: pn)) (is := [i, j]) (xs := [x, y]) (.inr hot) hN (.cons hx (.cons hy .nil)) (pa_cons pe_str (pa_cons (pe_xf Xf hno hz.zc hf (hv a _) hb) pa_nil hq2) hq1) hw (by show 2 ≤ 3; omega) hs)).run pins s0 σ H D I ?_
      have hlt : n < σ.length := by rw [I.len]; exact (List.getElem?_eq_some_iff.mp hn).1
      have q' : EndS (gx X) R tm W0 D (putL [(j, .leaf dv), (i, .leaf (.str s))] ρ) := by
        cases e : putL [(j, .leaf dv), (i, .leaf (.str s))] ρ with
        | exc => rw [e] at q; exact q.elim
        | _ => rw [e] at q; exact q
      have S2 : Sta (gx X) R σ ρ H ([(j, v, T.leaf dv), (i, V.str s, T.leaf (.str s))].map (·.2) ++ tm) := by
        have S3 : Sta (gx X) R σ ρ H ((V.str s, T.leaf (.str s)) :: (v, .leaf dv) :: tm) := S.with fun o => o.scal fun _ => rfl
        exact S3.perm (.swap _ _ _)
      exact ⟨_, hsl n rfl hlt, rfl, e1, dd, _, v, e2, hdd, by simp [List.lookup], rfl, putL_ok (l := [(j, v, T.leaf dv), (i, V.str s, T.leaf (.str s))]) (D := D) (W := W0) (fun p hp => by
        rw [hL]
        rcases List.mem_cons.mp hp with e | hp
        · subst e; exact hj
        · rw [List.mem_singleton.mp hp]; exact hi) S2 q'⟩
    · simp only [if_neg ef] at q; exact q.elim⟩
end
end Q

set_option maxHeartbeats 1000000
/-! The module's facts by one hook, the law's end. -/
namespace Q
open PySem PySem.Spec PyProof.Rows L2 He

/-! ### own exception classes -/
def oexIn (K : PySem.W.Frag) (C : Addr) : Bool := match K.lookup C with
  | some ⟨.type "type", _, .cls cd, sl⟩ => (match cd.mro, sl.toList with
    | .ref D :: bm, [_, _, _, _, some (.builtin n), _] => D == C && (n == "ValueError.__new__" && (!cd.hasDel && (cd.hasDict && PySem.HandSPX.refsVE bm)))
    | _, _ => false)
  | _ => false
theorem oexIn_ok {K : PySem.W.Frag} {C : Addr} (h : oexIn K C = true) : ∃ nm q N bs bm sn sub ab col dd k0 k1 k2 k3 k5, K.lookup C = some (excClassObj nm q C N bs bm true sn sub ab col dd k0 k1 k2 k3 k5 "ValueError.__new__") ∧ PySem.HandSPX.refsVE bm = true := by
  unfold oexIn at h
  split at h
  · rename_i dd cd sl e
    split at h
    · rename_i D bm k0 k1 k2 k3 n k5 em es
      simp only [Bool.and_eq_true, beq_iff_eq, Bool.not_eq_true'] at h
      obtain ⟨rfl, rfl, h1, h2, h3⟩ := h
      obtain ⟨nm, bs, mro, ns, qn, hd, sn, sub, ab, col, del⟩ := cd
      dsimp only at em h1 h2
      subst em h1 h2
      have e2 : sl = #[k0, k1, k2, k3, some (.builtin "ValueError.__new__"), k5] := by cases sl; simp only at es; rw [es]
      subst e2
      exact ⟨nm, qn, ns, bs, bm, sn, sub, ab, col, dd, k0, k1, k2, k3, k5, e, h3⟩
    · cases h
  · cases h
/-- what is asked of an own exception class x whose __init__(self, f) keeps f -/
def xcIn (x f : Str) (K : PySem.W.Frag) : Bool :=
  (Fa.glo x).ok K && (oexIn K (ga K x) && (eqO (PySem.W.findIn K (.ref (ga K x)) "__setattr__") (some (some (.builtin "object.__setattr__"))) && (decide (PySem.W.typeIn K (.ref (ga K x)) = some (.type "type")) && (PySem.W.keepIn K (.ref (ga K x)) && (xfB K (ga K x) &&
    (eqO (PySem.W.findIn K (.ref (ga K x)) f) (some none) && (eqO (PySem.W.findIn K (.ref (ga K x)) "__init__") (some (some (.ref (ma K (ga K x) "__init__")))) && (decide (PySem.W.typeIn K (.ref (ma K (ga K x) "__init__")) = some (.type "function")) && PySem.W.keepIn K (.ref (ma K (ga K x) "__init__"))))))))))
/-- the classes and what they stand under -/
def tabIn (tab : Tab) (hs : List Str) (K : PySem.W.Frag) : Bool := tab.all (fun p => (Fa.glo p.1).ok K && hs.all fun h => (Fa.glo h).ok K && (Fa.exm p.1 h (decide (h ∈ p.2))).ok K)
def fldIn (tab : Tab) (f : Str) (K : PySem.W.Frag) : Bool := tab.all fun p => (Fa.glo p.1).ok K && (xfB K (ga K p.1) && eqO (PySem.W.findIn K (.ref (ga K p.1)) f) (some none))
theorem tab_ok {K : PySem.W.Frag} {h : Heap} {mg : Str → Option Value} {tab : Tab} {hs : List Str} (X : K.In h) (G : h.Ns mainGlobals mg) (c : tabIn tab hs K = true) : TabOk K mg tab hs := fun p hp x hx C Ch e1 e2 => by
  have c1 := List.all_eq_true.mp c p hp
  obtain ⟨g1, c2⟩ := ba c1
  obtain ⟨g2, c3⟩ := ba (List.all_eq_true.mp c2 x hx)
  have k1 := glo_ok X G g1
  have k2 := glo_ok X G g2
  rw [e1] at k1
  rw [e2] at k2
  cases k1
  cases k2
  exact exm_ok c3
theorem fld_ok {K : PySem.W.Frag} {h : Heap} {mg : Str → Option Value} {tab : Tab} {f : Str} (X : K.In h) (G : h.Ns mainGlobals mg) (c : fldIn tab f K = true) : ∀ p ∈ tab, ∀ C, mg p.1 = some (.ref C) → XfC K C ∧ PySem.W.findIn K (.ref C) f = some none := fun p hp C e1 => by
  obtain ⟨g1, c2⟩ := ba (List.all_eq_true.mp c p hp)
  have k1 := glo_ok X G g1
  rw [e1] at k1
  cases k1
  obtain ⟨c3, c4⟩ := ba c2
  exact ⟨xfB_ok c3, eqO_ok c4⟩

/-! ### the hook -/
abbrev Te : Type := PySem.W.Frag → Bool
def obsQ (ts : List Te) (fn : List FnD) (K : PySem.W.Frag) : Al := ((ts.all fun f => f K) && fn.all fun d => (Fa.code d.at_ d.qual).ok K && PySem.W.keepIn K (.ref (fAd K d.at_)), fn.map fun d => fnObs K d.at_)
def SaysQ (ts : List Te) (fn : List FnD) (K : PySem.W.Frag) : Prop := obsQ ts fn K = valE fn
def obsQG (n : Nat) (ts : List Te) (fn : List FnD) (g : Addr → Option Obj) : Al := obsQ ts fn (frG g (asG g n))
def hookQ (n : Nat) (ts : List Te) (fn : List FnD) : PySem.W.Hook where
  α := Al
  obs := fun s => obsQG n ts fn s.heap.get?
  val := fun _ => valE fn
  says := fun _ h => ∃ K : PySem.W.Frag, K.In h ∧ SaysQ ts fn K
  of := fun _ _ e => ⟨_, frG_in, e⟩
  keeps := fun _ _ _ ⟨K, hK, c⟩ k => ⟨K, PySem.W.Frag.In.keeps hK k, c⟩
theorem obsQG_eq {n : Nat} {ts : List Te} {fn : List FnD} {g : Addr → Option Obj} {s : Shared} (h : ∀ a, g a = s.heap.get? a) : obsQG n ts fn g = (hookQ n ts fn).obs s := by
  obtain rfl : g = s.heap.get? := funext h
  rfl
/-- the written part, the names, what was read of it -/
structure Mo (ts : List Te) (fn : List FnD) (K : PySem.W.Frag) (mg : Str → Option Value) : Prop where
  ex : ∃ h, K.In h ∧ h.Ns mainGlobals mg
  says : SaysQ ts fn K
section
variable {ts : List Te} {fn : List FnD} {K : PySem.W.Frag} {mg : Str → Option Value}
theorem Mo.fact (M : Mo ts fn K mg) (i : Nat) {f : Te} (h : ts[i]? = some f) : f K = true := by
  have c1 := (ba (show ((ts.all fun f => f K) && fn.all fun d => (Fa.code d.at_ d.qual).ok K && PySem.W.keepIn K (.ref (fAd K d.at_))) = true from congrArg (fun z : Al => z.1) M.says)).1
  exact List.all_eq_true.mp c1 f (List.mem_of_getElem? h)
theorem Mo.def_ (M : Mo ts fn K mg) (i : Nat) {d : FnD} (h : fn[i]? = some d) :
    (∃ oc od osl kV doc pm an cdv ct, K.lookup (fAd K d.at_) = some ⟨oc, od, .func (PySem.W.fnOf d.name d.qual d.params d.body d.scope .none kV doc pm an cdv ct), osl⟩ ∧ PySem.W.codeIn K cdv d.qual = true) ∧ PySem.W.keepIn K (.ref (fAd K d.at_)) = true := by
  have c2 := (ba (show ((ts.all fun f => f K) && fn.all fun d => (Fa.code d.at_ d.qual).ok K && PySem.W.keepIn K (.ref (fAd K d.at_))) = true from congrArg (fun z : Al => z.1) M.says)).2
  have e : fn.map (fun d => fnObs K d.at_) = fn.map FnD.val := congrArg (fun z : Al => z.2) M.says
  have e2 : (fn.map fun d => fnObs K d.at_)[i]? = (fn.map FnD.val)[i]? := by rw [e]
  rw [List.getElem?_map, List.getElem?_map, h] at e2
  obtain ⟨c3, c4⟩ := ba (List.all_eq_true.mp c2 d (List.mem_of_getElem? h))
  exact ⟨fn_ok (Option.some.inj e2) c3, c4⟩
theorem Mo.glo (M : Mo ts fn K mg) {x : Str} (i : Nat) (h : ts[i]? = some (Fa.ok · (.glo x))) : mg x = some (.ref (ga K x)) := by
  obtain ⟨hp, X, G⟩ := M.ex
  exact glo_ok X G (M.fact i h)
theorem Mo.free (M : Mo ts fn K mg) {x : Str} (i : Nat) (h : ts[i]? = some (Fa.ok · (.free x))) : mg x = none := by
  obtain ⟨hp, X, G⟩ := M.ex
  exact free_ok X G (M.fact i h)
theorem Mo.int (M : Mo ts fn K mg) {x : Str} {j : Int} (i : Nat) (h : ts[i]? = some (Fa.ok · (.int x j))) : ∃ t, mg x = some (.int j t) := by
  obtain ⟨hp, X, G⟩ := M.ex
  exact int_ok X G (M.fact i h)
theorem Mo.str (M : Mo ts fn K mg) {x z : Str} (i : Nat) (h : ts[i]? = some (Fa.ok · (.str x z))) : ∃ t, mg x = some (.str z t) := by
  obtain ⟨hp, X, G⟩ := M.ex
  exact str_ok X G (M.fact i h)
theorem Mo.tab (M : Mo ts fn K mg) {tab : Tab} {hs : List Str} (i : Nat) (h : ts[i]? = some (tabIn tab hs)) : TabOk K mg tab hs := by
  obtain ⟨hp, X, G⟩ := M.ex
  exact tab_ok X G (M.fact i h)
theorem Mo.fld (M : Mo ts fn K mg) {tab : Tab} {f : Str} (i : Nat) (h : ts[i]? = some (fldIn tab f)) : ∀ p ∈ tab, ∀ C, mg p.1 = some (.ref C) → XfC K C ∧ PySem.W.findIn K (.ref C) f = some none := by
  obtain ⟨hp, X, G⟩ := M.ex
  exact fld_ok X G (M.fact i h)
/-- a def of the text -/
def dOf (x : Str) (st : Stmt) : FnD := ⟨(x, none), x, x, defArgs st, defBody st, defScope st⟩
def iOf (C q : Str) (st : Stmt) : FnD := ⟨(C, some "__init__"), "__init__", q, defArgs st, defBody st, defScope st⟩
theorem Mo.fun_ (M : Mo ts fn K mg) {x : Str} {st : Stmt} (i : Nat) (h : fn[i]? = some (dOf x st)) : ∃ fd, Fun K x x st (ga K x) fd := by
  obtain ⟨⟨oc, od, osl, kV, doc, pm, an, cdv, ct, l, c⟩, k⟩ := M.def_ i h
  exact ⟨_, fun_mk (st := st) l c k⟩
/-- a def by its name -/
structure Good (P : Program) (w : World) (K : PySem.W.Frag) (mg : Str → Option Value) (base : Heap) (k : Nat) (x : Str) (ps : List Str) (lent : List Nat) (mf : List T → FRes) : Prop where
  nm : mg x = some (.ref (ga K x))
  ex : ∃ fd, FnG P w K mg base k (ga K x) fd ps (spF ⟨K, mg⟩ ps.length lent mf) ∧ Binds K fd ps [] ∧ PySem.W.keepIn K (.ref (ga K x)) = true
theorem good_of {P : Program} {w : World} {base : Heap} {x : Str} {st : Stmt} {N ps : List Str} {k : Nat} {lent : List Nat} {body : SM} (F : ∃ fd, Fun K x x st (ga K x) fd) (hm : mg x = some (.ref (ga K x))) (S : FnScope N ps (defScope st)) (hl : lent.Nodup) (hl2 : ∀ i ∈ lent, i < ps.length)
    (hbind : ∀ (kV doc pm : Value) (an : Option Addr) (cdv ct : Value) (us : List Value), us.length = ps.length → bindArgs (PySem.W.fnOf x x (defArgs st) (defBody st) (defScope st) .none kV doc pm an cdv ct) ⟨us, []⟩ = pure (ps.zip us))
    (hb : ∀ (cdv : Value) (A : Around) (outer : List PySem.Env) (s : Shared) (H : Hp) (E : XK), A.guards = some [] → Room k (A.deeper (envOfC x (defScope st) s.heap.objs.size (ga K x) cdv)) →
      PBd (cxOf (L2N.CX P w) P w K mg base N x (defScope st) (ga K x) cdv A outer s H E) lent (defBody st) body) : Good P w K mg base (k + 1) x ps lent (mkF lent N.length body) := by
  obtain ⟨fd, F⟩ := F
  exact ⟨hm, fd, fnd_ok F S hl hl2 hb, F.binds hbind, F.kp⟩
theorem Mo.exc {P : Program} {w : World} {base : Heap} (M : Mo ts fn K mg) {C f q : Str} {st : Stmt} {p1 p2 p3 p4 : Pos} (i j : Nat) (h : ts[i]? = some (xcIn C f)) (hd : fn[j]? = some (iOf C q st)) (S : FnScope ["self", f] ["self", f] (defScope st))
    (hb : defBody st = [.Assign [.Attribute (.Name "self" p1) f p2] (.Name f p3) p4]) (h1 : Vis (defScope st) "self") (h2 : Vis (defScope st) f) (hdb : (f == ("__debug__" : Str)) = false) (hdb2 : (f == ("__classdict__" : Str)) = false)
    (hbind : ∀ (kV doc pm : Value) (an : Option Addr) (cdv ct : Value) (us : List Value), us.length = (["self", f] : List Str).length → bindArgs (PySem.W.fnOf "__init__" q (defArgs st) (defBody st) (defScope st) .none kV doc pm an cdv ct) ⟨us, []⟩ = pure ((["self", f] : List Str).zip us)) :
    ExcC K mg P w base C f (ga K C) := by
  obtain ⟨hp, X, G⟩ := M.ex
  have c := M.fact i h
  obtain ⟨c1, c⟩ := ba c
  obtain ⟨c2, c⟩ := ba c
  obtain ⟨c3, c⟩ := ba c
  obtain ⟨c4, c⟩ := ba c
  obtain ⟨c5, c⟩ := ba c
  obtain ⟨c6, c⟩ := ba c
  obtain ⟨c7, c⟩ := ba c
  obtain ⟨c8, c⟩ := ba c
  obtain ⟨c9, c10⟩ := ba c
  have xf := xfB_ok c6
  have T : OexC K (ga K C) := ⟨oexIn_ok c2, eqO_ok c3, xf.exC, of_decide_eq_true c4, c5⟩
  obtain ⟨⟨oc, od, osl, kV, doc, pm, an, cdv, ct, l, cc⟩, k⟩ := M.def_ j hd
  have F : Fun K "__init__" q st (ma K (ga K C) "__init__") _ := fun_mk (st := st) l cc k
  exact ⟨glo_ok X G c1, T, xf, eqO_ok c7, _, _, eqO_ok c8, of_decide_eq_true c9, init_ok F S T (eqO_ok c7) hb h1 h2 hdb hdb2, F.binds hbind⟩
end
theorem u64 {k : Nat} {A : Around} (r : Room k A) : A.units + 64 < cLine := by have := r.un; omega
theorem u65 {k : Nat} {A : Around} (r : Room k A) : A.units + 65 < cLine := by have := r.un; omega
section
variable {X : Cx} {L : List Nat} {e : Expr} {es : List Expr} {as : List AM} {pos p : Pos} {k j : Nat} {ps : List Str} {lent : List Nat} {mf : List T → FRes} {x : Str}
theorem ped_go (g : Good X.prog X.w X.K X.mg X.base j x ps lent mf) (hgd : X.A.guards = some []) (hr : Room k X.A) (hj : j ≤ k) (hg : Gl X x) (ha : PCd X L (e :: es) as) (hlent : lendPos 0 as = lent) (hn : as.length = ps.length) (hdb : (x == ("__debug__" : Str)) = false := by decide)
    (he : starEach (e :: es) X.env = (false, eval e X.env) :: starEach es X.env := by rfl) (hpl : (backTo pos (starEach es X.env)).any (·.1) = false := by rfl) : PEd X L (.Call (.Name x p) (e :: es) [] pos) (mCall mf as) := by
  obtain ⟨fd, F, b, kp⟩ := g.ex
  exact ped_call (F.mono hj) hgd hr hg g.nm kp b ha hlent hn hdb he hpl
theorem ped_go0 (g : Good X.prog X.w X.K X.mg X.base j x [] [] mf) (hgd : X.A.guards = some []) (hr : Room k X.A) (hj : j ≤ k) (hg : Gl X x) (hdb : (x == ("__debug__" : Str)) = false := by decide) : PEd X L (.Call (.Name x p) [] [] pos) (mCall mf []) := by
  obtain ⟨fd, F, b, kp⟩ := g.ex
  exact ped_call0 (F.mono hj) hgd hr hg g.nm kp b hdb
theorem ped_gS {z : Str} (hg : Gl X x) (hm : ∃ t, X.mg x = some (.str z t)) (hdb : (x == ("__debug__" : Str)) = false := by decide) : PEd X L (.Name x pos) (mC (.str z)) := by
  obtain ⟨t, hm⟩ := hm
  exact ped_glob hg hm (d := .str z) rfl ⟨t, rfl⟩ hdb
theorem ped_gI {z : Int} (hg : Gl X x) (hm : ∃ t, X.mg x = some (.int z t)) (hdb : (x == ("__debug__" : Str)) = false := by decide) : PEd X L (.Name x pos) (mC (.int z)) := by
  obtain ⟨t, hm⟩ := hm
  exact ped_glob hg hm (d := .int z) rfl ⟨t, rfl⟩ hdb
theorem psd_setN {i : Nat} {y : Str} {py : Pos} {m : M T} (hN : X.N.Nodup) (hi : X.N[i]? = some y) (hx : Loc X.env.scope y) (hiL : i ∉ L) (he : PEd X L e m) (hs : swapsWith e (some (.Name y py)) pos.line X.env = pure false := by rfl)
    (hf : X.fn y = true ∨ X.env.scope.names.lookup y = some .local := by first | exact .inl rfl | exact .inr rfl) : PSd X L (.Assign [.Name y py] e pos) (mSet i m) := psd_set hiL he fun te he => ps_set hN hi hx he hs hf
theorem psd_setON {i : Nat} {y : Str} {py : Pos} {m : M T} (hN : X.N.Nodup) (hi : X.N[i]? = some y) (hx : Loc X.env.scope y) (hiL : i ∉ L) (he : PEd X L e m) (hs : swapsWith e (some (.Name y py)) pos.line X.env = pure false := by rfl)
    (hf : X.fn y = true ∨ X.env.scope.names.lookup y = some .local := by first | exact .inl rfl | exact .inr rfl) : PSd X L (.Assign [.Name y py] e pos) (mSetO i m) := psd_setO hiL he fun te he => ps_set hN hi hx he hs hf
theorem psd_asgT {tg : Expr} {g : TG} {t : TgM} {sl : List Nat} {m : M T} (hg : PGd X L sl tg g t) (he : PEd X L e m) (hs : swapsWithSole [tg] e pos.line X.env = pure false := by rfl) (hw : swappedStores [tg] e X.env = pure none := by rfl)
    (h1 : (assignEach [tg] X.env).map (·.2) = [assign tg X.env] := by rfl) : PSd X L (.Assign [tg] e pos) (mAsg t m) := psd_asg hg he fun te he => ps_asg he hg.pg hs hw h1
end
end Q
namespace Q
open PySem PySem.Spec PyProof.Rows L2 He
/-! ### the law's end -/
/-- the law's def meets its wish over a heap in which nothing but the script may be tracked -/
theorem lawG_core {P : Program} {w : World} {K : PySem.W.Frag} {mg mb : Str → Option Value} {k : Nat} {a : Addr} {nm x : Str} {m : List T → FRes} {s : Shared} {vs : List Value} {H : Hp} (KX : K.In s.heap) (hns : s.heap.Ns mainGlobals mg) (hb : s.heap.Ns builtinsNs mb) (hbb : ∀ x : Str, x ≠ "__name__" → mb x = bootBuiltins x)
    (hlim : s.heap.NoLimit) (hg : s.gens = #[]) (ha : s.heap.get? a = some { cls := .type "list", data := .seq vs.toArray }) (hr : Room k callerA) (F : ∀ base : Heap, K.In base → base.Ns mainGlobals mg → Good P w K mg base k nm [x] [] m)
    (hO : Only H) (hok : HOk P w H s.heap) (hA : ∀ b, H b ≠ none → b = a) (hK : H a ≠ none → K.lookup a = none) (hsp : spF ⟨K, mg⟩ 1 [] m [.ref a] H (fun v _ => v = .bl true) fun _ _ _ => False) :
    codeAny (model P w) callerA (.call (.ref (ga K nm)) ⟨[.ref a], []⟩) (fun r s' => r = .ok (.ret (.bool true)) ∧ OldK s.heap s'.heap ∧ s'.os = s.os ∧ AllBare s'.gens) s := by
  have only : ∀ {b : Addr} {o : Obj}, s.heap.get? b = some o → (∀ vs n, o.data ≠ .seq vs n) → H b = none := fun {b o} e hd => Classical.byContradiction fun q => by
    obtain rfl := hA b q
    rw [ha] at e
    cases e
    exact hd _ _ rfl
  have ns' : ∀ {b : Addr} {m : Str → Option Value}, s.heap.Ns b m → (hidT s.heap H).Ns b m := fun ⟨o, es, ep, e, d, r⟩ => ⟨o, es, ep, hidT_get e (only e fun _ _ z => by rw [d] at z; cases z), d, r⟩
  have kin : K.In (hidT s.heap H) := fun b o e => hidT_get (KX b o e) (Classical.byContradiction fun q => by
    obtain rfl := hA b q
    rw [hK q] at e
    cases e)
  obtain ⟨mc, c1, c2⟩ := hlim
  have e0 : Env0 P w K mg (hidT s.heap H) callerA [] s H :=
    ⟨rfl, ⟨kin, ns' hns, ⟨mb, ns' hb, hbb⟩, ⟨mc, ns' c1, c2⟩⟩, fun b o e => of_hidT e, Nat.le_of_eq (hidT_size _ _), trivial, fun b z => (nomatch (show b ∈ ([] : List Addr) from z)), hok, .of_eq hg⟩
  obtain ⟨fd, FG, hbind, _⟩ := (F _ kin (ns' hns)).ex
  refine codeAny_mono (FG.run callerA [] s H ⟨[.ref a], []⟩ [.ref a] [.ref a] _ _ rfl hr e0 (hbind s [.ref a] KX rfl) (.cons rfl .nil) hsp) fun r s' h => ?_
  rcases r with e | fl
  · obtain ⟨_, _, _, _, _, _, _, _, _, _, _, _, z⟩ := h
    exact z.elim
  · cases fl with
    | ret u =>
      obtain ⟨v, H', os, bare, un, hok', r', q⟩ := h
      obtain rfl : v = .bl true := q
      obtain rfl : u = Value.bool true := r'
      refine ⟨rfl, OldK.of_keep fun b o e => ?_, os, bare⟩
      rcases hO b with z | ⟨ob, xs, z⟩
      · exact un.keep b o e z (fun m => nomatch (show b ∈ ([] : List Addr) from m)) (fun m => nomatch m)
      · obtain ⟨e1, _⟩ := hok b _ z
        obtain ⟨e2, _⟩ := hok' b _ (un.frzs b ob _ z)
        rw [e] at e1
        cases e1
        exact e2
    | _ => exact False.elim h
theorem own_arg {G : Gx} {H : Hp} {v : V} {d : D} (h : Rep G H d v) (l : List (Nat × V)) : Own G ⟨H, [], [], l⟩ H [(v, .leaf d)] :=
  ⟨[], List.nodup_nil, ⟨[], [], rfl, ⟨rfl, by
    have e : mask H ([] ++ ([] : List Addr)) = H := funext fun b => if_neg (by simp)
    show Rep G (mask H ([] ++ [])) d v
    rw [e]; exact h⟩, rfl⟩, fun b hb => (nomatch hb), fun b o e _ => e, fun b hb => (nomatch hb), fun b hb => (nomatch hb)⟩
theorem sp_law {K : PySem.W.Frag} {mg : Str → Option Value} {H : Hp} {a : Addr} {ns : List Int} {m : List T → FRes} (h : SqL K H a (ns.map V.int)) (e : m [.leaf (.fz (ns.map D.int))] = .ok (.leaf (.bl true)) []) : spF ⟨K, mg⟩ 1 [] m [.ref a] H (fun v _ => v = .bl true) fun _ _ _ => False :=
  ⟨⟨H, [], [], []⟩, [.leaf (.fz (ns.map D.int))], rfl, rfl, rfl, own_arg (d := .fz (ns.map D.int)) ⟨a, _, rfl, h, Reps.ints.mpr rfl⟩ [], by rw [e]; exact fun v H' o => o.rep⟩
theorem walkQ {l : PySem.W.OpenLaw} {n k : Nat} {q : Program} {loose : List Str} {XP : (Str → Option Value) → Heap → Prop} {YP : World → Heap → Prop} {d : DefRec} {x : Str} {m : List T → FRes} (hn : l.most = some n) (hn2 : n ≤ sizeLine) (hdf : d.params.defaults = []) (hr : Room k callerA)
    (F : ∀ (w : World) (mg : Str → Option Value) (h : Heap), YP w h → h.Ns mainGlobals mg → ∃ K : PySem.W.Frag, K.In h ∧ ∀ base : Heap, K.In base → base.Ns mainGlobals mg → Good l.prog w K mg base k d.name [x] [] m)
    (law : ∀ ns : List Int, ns.length ≤ n → m [.leaf (.fz (ns.map D.int))] = .ok (.leaf (.bl true)) []) : PySem.W.WalkO q loose XP YP l.row.toRowW d [] (fun f vs => PySem.call f vs) := by
  refine Att.attach_call hn hdf fun w s₀ s mg mb fa o pm cd doc a vs ns G Y ho hd hcd hmg hobj hints hlen hg => ?_
  obtain ⟨K, KX, hF⟩ := F w mg _ Y G.T.g
  cases hmg.symm.trans (hF _ KX G.T.g).nm
  have lenV := hints.length
  have hz : ns.length ≤ sizeLine := Nat.le_trans hlen hn2
  have rv := vals_ints hints
  cases hk : K.lookup a with
  | some o =>
    have e := KX a o hk
    rw [hobj] at e
    cases e
    exact lawG_core (H := fun _ => none) KX G.T.g G.T.b G.T.builtins G.T.nolimit hg hobj hr hF (fun _ => .inl rfl) (fun b u z => nomatch z) (fun b z => absurd rfl z) (fun z => absurd rfl z)
      (sp_law (.inr ⟨_, vs.toArray, _, hk, rfl, rfl, rfl, by rw [List.size_toArray, lenV]; exact hz, by simpa using rv⟩) (law ns hlen))
  | none =>
    have at' : ∀ b, (fun b => if b = a then some (HO.frz { cls := .type "list", data := .seq vs.toArray } (.lst (ns.map V.int))) else none : Hp) b ≠ none → b = a := fun b z => Classical.byContradiction fun q => z (if_neg q)
    refine lawG_core (H := fun b => if b = a then some (.frz { cls := .type "list", data := .seq vs.toArray } (.lst (ns.map V.int))) else none) KX G.T.g G.T.b G.T.builtins G.T.nolimit hg hobj hr hF (fun b => ?_) (fun b u z => ?_) at' (fun _ => hk)
      (sp_law (.inl (.inr ⟨_, if_pos rfl⟩)) (law ns hlen))
    · by_cases hba : b = a
      · exact .inr ⟨_, _, if_pos hba⟩
      · exact .inl (if_neg hba)
    · obtain rfl := at' b (by rw [z]; exact nofun)
      cases (if_pos rfl).symm.trans z
      exact ⟨hobj, by rw [List.length_map]; exact hz, vs, _, rv, hobj⟩
end Q

set_option maxHeartbeats 1000000
/-! Comprehensions of two, slices with a step, sorted(set(xs)), a def that nothing is known of. -/
namespace Q
open PySem PySem.Spec PyProof.Rows L2

/-! ### [elt for t in src if c for t1 in src1 if c1] -/
section
variable {X : Cx} {L sl sl1 vs vs1 : List Nat} {g g1 : TG} {t t1 : TgM} {mt mt1 : M Bool} {me : M T} {src1 : M (List D)}
theorem lc_in {R : Fr} {σ : L2.St} {ρ ρe : Env} {tm tmI : List Item} {J : It} {ds : List D} {Dr : Addr} {acc0 us : List T} {wt : TT} {we : TE} {Nx : Hp → Prop} {H1 : Hp} (hL : R.lent.map (·.1) = L) (hlv : ∀ i ∈ L, i ∉ vs) (hsl : ∀ i ∈ sl, i ∈ vs) (I : ItD (gx X) tmI ds J)
    (hg : ∀ (R : Fr) (σ : L2.St) (ρ ρ' : Env) (H : Hp) (tm : List Item) (v : V) (d : D) (Q : L2.St → Hp → Prop), R.lent.map (·.1) = L → Sta (gx X) R σ ρ H ((v, .leaf d) :: tm) → t d ρ = some ρ' →
      (∀ σ', σ'.length = σ.length → (∀ j, j ∉ sl → σ'[j]? = σ[j]?) → Sta (gx X) R σ' ρ' H tm → Q σ' H) → g v σ H Q)
    (ht : ∀ σ H Q, TTm (gx X) L W0 mt σ H Q → wt σ H Q) (he : ∀ σ H Q, TEm (gx X) L W0 me σ H Q → we σ H Q)
    (hq : ∀ H, Sta (gx X) R (wipe σ vs) (wipeE ρe vs) H ((.ref Dr, .node (acc0 ++ us)) :: tm) → Nx H) (hz : acc0.length + us.length ≤ 16000000)
    (hok : compM vs t mt me ds (wipeE ρ vs) = .ok us (wipeE ρe vs)) (S : Sta (gx X) R (wipe σ vs) (wipeE ρ vs) H1 ((.ref Dr, .node acc0) :: (tmI ++ tm))) :
    ∃ W : Nat → Nat → Hp → Prop, (∃ m, W 0 m H1) ∧ ∀ i m H, W i m H →
      (J.stop i H ∧ Nx H) ∨ (J.go i H ∧ ∃ N1 : Hp → Prop, (∀ H', N1 H' → ∃ m', m' < m ∧ W (i + 1) m' H') ∧ ∀ x H', J.yld i H x H' → g x (wipe σ vs) H' fun σ2 H2 => wipe σ2 vs = wipe σ vs ∧ wt σ2 H2 fun b H3 =>
        if b = true then we σ2 H3 fun y H4 => ∃ acc, H4 Dr = some (.lst acc) ∧ acc.length < sizeLine ∧ N1 (upd H4 Dr (.lst (acc ++ [y]))) else N1 H3) := by
  have hlR : ∀ i ∈ R.lent.map (·.1), i ∉ vs := by rw [hL]; exact hlv
  let P : Nat → Hp → Prop := fun i H => ∃ ρ' acc rest, Sta (gx X) R (wipe σ vs) (wipeE ρ' vs) H ((.ref Dr, .node acc) :: (tmI ++ tm)) ∧ compM vs t mt me (ds.drop i) (wipeE ρ' vs) = .ok rest (wipeE ρe vs) ∧ acc ++ rest = acc0 ++ us
  refine ⟨fun i m H => m = ds.length - i ∧ i ≤ ds.length ∧ P i H, ⟨ds.length, by simp, Nat.zero_le _, ρ, acc0, us, S, hok, rfl⟩, ?_⟩
  rintro i m H ⟨rfl, hi, ρ', acc, rest, S, hc, hu⟩
  have SI : Sta (gx X) R (wipe σ vs) (wipeE ρ' vs) H (tmI ++ ((.ref Dr, .node acc) :: tm)) := ⟨S.fits, S.lent, S.own.perm (List.Perm.append_left _ (perm_mid _ _ _).symm)⟩
  by_cases hlt : i < ds.length
  · rw [List.drop_eq_getElem_cons hlt] at hc
    simp only [compM] at hc
    cases et : t ds[i] (wipeE ρ' vs) with
    | none => rw [et] at hc; cases hc
    | some ρ2 =>
      rw [et] at hc
      obtain ⟨b, ρ3, eb, hc⟩ := ok_bind hc
      refine .inr ⟨I.go R _ _ H _ i SI hlt, fun H' => P (i + 1) H', fun H' q => ⟨ds.length - (i + 1), by omega, rfl, hlt, q⟩, fun x H2 y => ?_⟩
      refine hg R (wipe σ vs) _ ρ2 H2 _ x ds[i] _ hL (I.yld R _ _ H H2 _ i x ds[i] SI y (List.getElem?_eq_getElem hlt)) et fun σ2 l2 k2 S3 => ?_
      have w2 : wipe σ2 vs = wipe σ vs := by
        rw [← wipe_wipe (σ := σ)]
        exact wipe_eq l2 fun j hj => k2 j fun m => hj (hsl j m)
      refine ⟨w2, ht _ _ _ ⟨R, ρ2, _, hL, S3, ?_⟩⟩
      rw [eb]
      intro H3 S4
      have back : ∀ {ρ4 : Env} {H4 : Hp} {tm4 : List Item}, Sta (gx X) R σ2 ρ4 H4 tm4 → Sta (gx X) R (wipe σ vs) (wipeE ρ4 vs) H4 tm4 := fun S => by
        rw [← w2]; exact (S.forget vs).toBlk hlR
      cases b with
      | false =>
        rw [if_neg Bool.false_ne_true] at hc ⊢
        exact ⟨ρ3, acc, rest, ⟨(back S4).fits, (back S4).lent, (back S4).own.perm (List.Perm.append_left _ (perm_mid _ _ _))⟩, hc, hu⟩
      | true =>
        rw [if_pos rfl] at hc ⊢
        obtain ⟨u, ρ4, eu, hc⟩ := ok_bind hc
        obtain ⟨us', ρ5, eus, hc⟩ := ok_bind hc
        cases hc
        refine he _ _ _ ⟨R, ρ3, _, hL, S4, ?_⟩
        rw [eu]
        intro y H4 S5
        have S6 : Sta (gx X) R σ2 ρ4 H4 ((y, u) :: (.ref Dr, .node acc) :: (tmI ++ tm)) := ⟨S5.fits, S5.lent, S5.own.perm (List.Perm.append_left _ (List.Perm.cons _ (perm_mid _ _ _)))⟩
        obtain ⟨xs, hx, hl, S7⟩ := Own.append' S6
        have hlen := congrArg List.length hu
        simp only [List.length_append, List.length_cons] at hlen
        exact ⟨xs, hx, by rw [hl, sizeLine_eq]; omega, ρ4, acc ++ [u], us', back S7, eus, by rw [← hu]; simp⟩
  · have e : i = ds.length := by omega
    subst e
    rw [List.drop_length] at hc
    simp only [compM, Res.ok.injEq] at hc
    obtain ⟨h1, h2⟩ := hc
    subst h1
    rw [List.append_nil] at hu
    subst hu
    refine .inl ⟨I.stop R _ _ H _ _ SI (Nat.le_refl _), hq H ?_⟩
    rw [← h2]
    exact Sta.dropL1 S
def compM2 (vs vs1 : List Nat) (t : TgM) (test : M Bool) (src1 : M (List D)) (t1 : TgM) (test1 : M Bool) (elt : M T) : List D → Env → Res (List T)
  | [], ρ => .ok [] ρ
  | d :: ds, ρ => match t d ρ with
    | none => .stuck
    | some ρ1 => (test ρ1).bind fun b ρ2 =>
      if b = true then (src1 ρ2).bind fun ds1 ρ3 => (compM vs1 t1 test1 elt ds1 (wipeE ρ3 vs1)).bind fun us ρ4 => (compM2 vs vs1 t test src1 t1 test1 elt ds (wipeE ρ4 vs)).bind fun us2 ρ5 => .ok (us ++ us2) ρ5
      else compM2 vs vs1 t test src1 t1 test1 elt ds (wipeE ρ2 vs)
def mComp2 (vs vs1 : List Nat) (src : M (List D)) (t : TgM) (test : M Bool) (src1 : M (List D)) (t1 : TgM) (test1 : M Bool) (elt : M T) : M T := fun ρ => (src ρ).bind fun ds ρ1 =>
  (compM2 vs vs1 t test src1 t1 test1 elt ds (wipeE ρ1 vs)).noX.bind fun us ρ2 => if us.length ≤ 16000000 then .ok (.node us) ρ2 else .stuck
theorem compM2_end {vs vs1 : List Nat} : ∀ {ds : List D} {ρ ρ' : Env} {us : List T}, compM2 vs vs1 t mt src1 t1 mt1 me ds (wipeE ρ vs) = .ok us ρ' → ∃ ρe, ρ' = wipeE ρe vs
  | [], ρ, ρ', us, h => by simp only [compM2, Res.ok.injEq] at h; exact ⟨ρ, h.2.symm⟩
  | d :: ds, ρ, ρ', us, h => by
    simp only [compM2] at h
    split at h
    · cases h
    · obtain ⟨b, ρ2, _, h⟩ := ok_bind h
      cases b with
      | false => rw [if_neg Bool.false_ne_true] at h; exact compM2_end h
      | true =>
        rw [if_pos rfl] at h
        obtain ⟨ds1, ρ3, _, h⟩ := ok_bind h
        obtain ⟨us1, ρ4, _, h⟩ := ok_bind h
        obtain ⟨us', ρ5, h2, h⟩ := ok_bind h
        cases h
        exact compM2_end h2
theorem lc2_sta {R : Fr} {σ : L2.St} {ρ ρe : Env} {tm tmI : List Item} {J : It} {ds : List D} {Dr : Addr} {us : List T} {wt wt1 : TT} {we : TE} {wi1 : TI} {Q : VK} {H1 : Hp} (hL : R.lent.map (·.1) = L) (hlv : ∀ i ∈ L, i ∉ vs) (hsl : ∀ i ∈ sl, i ∈ vs) (hv1 : ∀ i ∈ vs1, i ∈ vs) (hsl1 : ∀ i ∈ sl1, i ∈ vs1) (I : ItD (gx X) tmI ds J)
    (hg : ∀ (R : Fr) (σ : L2.St) (ρ ρ' : Env) (H : Hp) (tm : List Item) (v : V) (d : D) (Q : L2.St → Hp → Prop), R.lent.map (·.1) = L → Sta (gx X) R σ ρ H ((v, .leaf d) :: tm) → t d ρ = some ρ' →
      (∀ σ', σ'.length = σ.length → (∀ j, j ∉ sl → σ'[j]? = σ[j]?) → Sta (gx X) R σ' ρ' H tm → Q σ' H) → g v σ H Q)
    (hg1 : ∀ (R : Fr) (σ : L2.St) (ρ ρ' : Env) (H : Hp) (tm : List Item) (v : V) (d : D) (Q : L2.St → Hp → Prop), R.lent.map (·.1) = L → Sta (gx X) R σ ρ H ((v, .leaf d) :: tm) → t1 d ρ = some ρ' →
      (∀ σ', σ'.length = σ.length → (∀ j, j ∉ sl1 → σ'[j]? = σ[j]?) → Sta (gx X) R σ' ρ' H tm → Q σ' H) → g1 v σ H Q)
    (ht : ∀ σ H Q, TTm (gx X) L W0 mt σ H Q → wt σ H Q) (ht1 : ∀ σ H Q, TTm (gx X) L W0 mt1 σ H Q → wt1 σ H Q) (he : ∀ σ H Q, TEm (gx X) L W0 me σ H Q → we σ H Q) (hi1 : ∀ σ H Q, TIm (gx X) L W0 src1 σ H Q → wi1 σ H Q)
    (hq : ∀ H, Sta (gx X) R σ (wipeE ρe vs) H ((.ref Dr, .node us) :: tm) → Q (.ref Dr) H) (hle : ∀ p ∈ R.lent, σ[p.1]? = some (some p.2)) (hz : us.length ≤ 16000000)
    (hok : compM2 vs vs1 t mt src1 t1 mt1 me ds (wipeE ρ vs) = .ok us (wipeE ρe vs)) (S : Sta (gx X) R σ (wipeE ρ vs) (upd H1 Dr (.lst [])) ((.ref Dr, .node []) :: (tmI ++ tm))) :
    ∃ W : Nat → Nat → Hp → Prop, (∃ m, W 0 m (upd H1 Dr (.lst []))) ∧ ∀ i m H, W i m H →
      (J.stop i H ∧ Q (.ref Dr) H) ∨ (J.go i H ∧ ∃ Nx : Hp → Prop, (∀ H', Nx H' → ∃ m', m' < m ∧ W (i + 1) m' H') ∧ ∀ x H', J.yld i H x H' → g x (wipe σ vs) H' fun σ2 H2 => wipe σ2 vs = wipe σ vs ∧ wt σ2 H2 fun b H3 =>
        if b = true then wi1 σ2 H3 fun J1 H4 => ∃ W1 : Nat → Nat → Hp → Prop, (∃ m, W1 0 m H4) ∧ ∀ j k H, W1 j k H →
          (J1.stop j H ∧ Nx H) ∨ (J1.go j H ∧ ∃ Nx1 : Hp → Prop, (∀ H', Nx1 H' → ∃ k', k' < k ∧ W1 (j + 1) k' H') ∧ ∀ x H', J1.yld j H x H' → g1 x (wipe σ2 vs1) H' fun σ3 H5 => wipe σ3 vs1 = wipe σ2 vs1 ∧ wt1 σ3 H5 fun b H6 =>
            if b = true then we σ3 H6 fun y H7 => ∃ acc, H7 Dr = some (.lst acc) ∧ acc.length < sizeLine ∧ Nx1 (upd H7 Dr (.lst (acc ++ [y]))) else Nx1 H6)
        else Nx H3) := by
  have hlR : ∀ i ∈ R.lent.map (·.1), i ∉ vs := by rw [hL]; exact hlv
  let P : Nat → Hp → Prop := fun i H => ∃ ρ' acc rest, Sta (gx X) R (wipe σ vs) (wipeE ρ' vs) H ((.ref Dr, .node acc) :: (tmI ++ tm)) ∧ compM2 vs vs1 t mt src1 t1 mt1 me (ds.drop i) (wipeE ρ' vs) = .ok rest (wipeE ρe vs) ∧ acc ++ rest = us
  refine ⟨fun i m H => m = ds.length - i ∧ i ≤ ds.length ∧ P i H, ⟨ds.length, by simp, Nat.zero_le _, ρ, [], us, S.toBlk hlR, hok, rfl⟩, ?_⟩
  rintro i m H ⟨rfl, hi, ρ', acc, rest, S, hc, hu⟩
  have SI : Sta (gx X) R (wipe σ vs) (wipeE ρ' vs) H (tmI ++ ((.ref Dr, .node acc) :: tm)) := ⟨S.fits, S.lent, S.own.perm (List.Perm.append_left _ (perm_mid _ _ _).symm)⟩
  by_cases hlt : i < ds.length
  · rw [List.drop_eq_getElem_cons hlt] at hc
    simp only [compM2] at hc
    cases et : t ds[i] (wipeE ρ' vs) with
    | none => rw [et] at hc; cases hc
    | some ρ2 =>
      rw [et] at hc
      obtain ⟨b, ρ3, eb, hc⟩ := ok_bind hc
      refine .inr ⟨I.go R _ _ H _ i SI hlt, fun H' => P (i + 1) H', fun H' q => ⟨ds.length - (i + 1), by omega, rfl, hlt, q⟩, fun x H2 y => ?_⟩
      refine hg R (wipe σ vs) _ ρ2 H2 _ x ds[i] _ hL (I.yld R _ _ H H2 _ i x ds[i] SI y (List.getElem?_eq_getElem hlt)) et fun σ2 l2 k2 S3 => ?_
      have w2 : wipe σ2 vs = wipe σ vs := by
        rw [← wipe_wipe (σ := σ)]
        exact wipe_eq l2 fun j hj => k2 j fun m => hj (hsl j m)
      refine ⟨w2, ht _ _ _ ⟨R, ρ2, _, hL, S3, ?_⟩⟩
      rw [eb]
      intro H3 S4
      have back : ∀ {ρ4 : Env} {H4 : Hp} {tm4 : List Item}, Sta (gx X) R σ2 ρ4 H4 tm4 → Sta (gx X) R (wipe σ vs) (wipeE ρ4 vs) H4 tm4 := fun S => by
        rw [← w2]; exact (S.forget vs).toBlk hlR
      have S4' : Sta (gx X) R σ2 ρ3 H3 ((.ref Dr, .node acc) :: (tmI ++ tm)) := ⟨S4.fits, S4.lent, S4.own.perm (List.Perm.append_left _ (perm_mid _ _ _))⟩
      cases b with
      | false =>
        rw [if_neg Bool.false_ne_true] at hc ⊢
        exact ⟨ρ3, acc, rest, back S4', hc, hu⟩
      | true =>
        rw [if_pos rfl] at hc ⊢
        obtain ⟨ds1, ρ4, e1, hc⟩ := ok_bind hc
        obtain ⟨us1, ρ5, eus, hc⟩ := ok_bind hc
        obtain ⟨us2, ρ6, eus2, hc⟩ := ok_bind hc
        cases hc
        obtain ⟨ρe1, ee⟩ := compM_end eus
        subst ee
        refine hi1 _ _ _ ⟨R, ρ3, _, hL, S4', ?_⟩
        rw [e1]
        intro tmI1 J1 H4 I1 S5
        have hlen := congrArg List.length hu
        simp only [List.length_append] at hlen
        have S6 : Sta (gx X) R σ2 ρ4 H4 ((.ref Dr, .node acc) :: (tmI1 ++ (tmI ++ tm))) := ⟨S5.fits, S5.lent, S5.own.perm (List.Perm.append_left _ (perm_mid _ _ _))⟩
        refine lc_in (R := R) (σ := σ2) (acc0 := acc) (us := us1) (ρe := ρe1) hL (fun i hi hm => hlv i hi (hv1 i hm)) hsl1 I1 hg1 ht1 he (fun H S7 => ?_) (by omega) eus ((S6.forget vs1).toBlk fun i hi hm => hlR i hi (hv1 i hm))
        refine ⟨wipeE ρe1 vs1, acc ++ us1, us2, ?_, eus2, by rw [← hu]; simp⟩
        have S8 := (S7.forget vs).toBlk hlR
        have e8 : wipe (wipe σ2 vs1) vs = wipe σ vs := by
          rw [← w2]
          refine wipe_eq (wipe_length _ _) fun j hj => wipe_out fun hm => hj (hv1 j hm)
        rw [e8] at S8
        exact S8
  · have e : i = ds.length := by omega
    subst e
    rw [List.drop_length] at hc
    simp only [compM2, Res.ok.injEq] at hc
    obtain ⟨h1, h2⟩ := hc
    subst h1
    rw [List.append_nil] at hu
    subst hu
    refine .inl ⟨I.stop R _ _ H _ _ SI (Nat.le_refl _), hq H ?_⟩
    rw [← h2]
    exact (Sta.dropL1 S).ofBlk hle
end
section
variable {X : Cx} {L sl sl1 : List Nat} {tg iter tg1 iter1 elt : Expr} {src src1 : M (List D)} {g g1 : TG} {t t1 : TgM} {pos : Pos} {mt mt1 : M Bool} {me : M T}
theorem ped_comp2 {ifs ifs1 : List Expr} {scope : Scope} {own : List (Str × Nat)} {vs1 : List Nat} (hc : X.calm = true) (hN : X.N.Nodup) (hi : PId X L tg iter src) (ok : BlkOk X.N X.env.scope scope own) (hlv : ∀ i ∈ L, i ∉ own.map (·.2)) (hsl : ∀ i ∈ sl, i ∈ own.map (·.2)) (hv1 : ∀ i ∈ vs1, i ∈ own.map (·.2)) (hsl1 : ∀ i ∈ sl1, i ∈ vs1)
    (hg : ∀ (s : Shared) (H : Hp) (C : Addr) (cl : List (Str × Addr)) (fp : List Addr), PGd (X.blk s H scope (compEnvC scope cl C X.env) fp) L sl tg g t) (ht : ∀ (s : Shared) (H : Hp) (C : Addr) (cl : List (Str × Addr)) (fp : List Addr), PTsD (X.blk s H scope (compEnvC scope cl C X.env) fp) L ifs mt)
    (hi1 : ∀ (s : Shared) (H : Hp) (C : Addr) (cl : List (Str × Addr)) (fp : List Addr), PId (X.blk s H scope (compEnvC scope cl C X.env) fp) L tg1 iter1 src1) (hg1 : ∀ (s : Shared) (H : Hp) (C : Addr) (cl : List (Str × Addr)) (fp : List Addr), PGd (X.blk s H scope (compEnvC scope cl C X.env) fp) L sl1 tg1 g1 t1)
    (ht1 : ∀ (s : Shared) (H : Hp) (C : Addr) (cl : List (Str × Addr)) (fp : List Addr), PTsD (X.blk s H scope (compEnvC scope cl C X.env) fp) L ifs1 mt1) (he : ∀ (s : Shared) (H : Hp) (C : Addr) (cl : List (Str × Addr)) (fp : List Addr), PEd (X.blk s H scope (compEnvC scope cl C X.env) fp) L elt me)
    (hs : ∀ x, foldedSetIterable iter X.env x = pure x := by intro _; rfl) (hs1 : ∀ env x, foldedSetIterable iter1 env x = pure x := by intro _ _; rfl) : PEd X L (.ListComp elt [⟨tg, iter, ifs, 0⟩, ⟨tg1, iter1, ifs1, 0⟩] scope pos) (mComp2 (own.map (·.2)) vs1 src t mt src1 t1 mt1 me) :=
  ⟨fun W tk => PE.imp (pe_lc2 (g := g) (g1 := g1) (tt := TTm (gx X) L W0 mt) (tt1 := TTm (gx X) L W0 mt1) (te := TEm (gx X) L W0 me) (wi1 := TIm (gx X) L W0 src1) hc hN (hi.run W tk) ok hv1 (fun s H C cl fp => (hg s H C cl fp).pg) (fun s H C cl fp => ptsd_run (ht s H C cl fp) W0 tk0) (fun s H C cl fp => (hi1 s H C cl fp).run W0 tk0)
    (fun s H C cl fp => (hg1 s H C cl fp).pg) (fun s H C cl fp => ptsd_run (ht1 s H C cl fp) W0 tk0) (fun s H C cl fp => (he s H C cl fp).run W0 tk0) hs hs1) fun σ H Q ⟨R, ρ, tm, hL, S, q⟩ => ⟨R, ρ, tm, hL, S, (End.bind q).mono fun ds ρ1 _ q tmI J H1 I S1 D hD => by
    obtain ⟨us, ρ2, ec, q⟩ := noX_ok (End.bind q)
    by_cases hz : us.length ≤ 16000000
    · rw [if_pos hz] at q
      obtain ⟨ρe, e⟩ := compM2_end ec
      subst e
      have o : Own (gx X) R (upd H1 D (.lst [])) ((.ref D, .node []) :: (items σ ρ1 ++ (tmI ++ tm))) := Own.newLst (xs := []) (ts := []) S1.own rfl hD
      have S2 : Sta (gx X) R σ ρ1 (upd H1 D (.lst [])) ((.ref D, .node []) :: (tmI ++ tm)) := Sta.back S1.fits S1.lent o
      exact lc2_sta (us := us) (ρe := ρe) hL hlv hsl hv1 hsl1 I (hg {} H1 0 [] []).run (hg1 {} H1 0 [] []).run (fun _ _ _ h => h) (fun _ _ _ h => h) (fun _ _ _ h => h) (fun _ _ _ h => h) (fun H' S' => q (.ref D) H' S') S1.lent hz ec (S2.forget (own.map (·.2)))
    · rw [if_neg hz] at q; exact q.elim⟩⟩
end

/-! ### text[::k] -/
def stepS (z : Str) (k : Int) : Str := ⟨((Builtin.Str.strSliceIndices none none k z.length).filterMap (z.cps[·]?)).toArray⟩
def mStep (k : Int) (m : M T) : M T := fun ρ => (m ρ).bind fun t ρ1 => match t.toD with
  | .str z => if (stepS z k).length ≤ big then .ok (.leaf (.str (stepS z k))) ρ1 else .stuck
  | _ => .stuck
def tStepS (k : Int) (te : TE) : TE := fun σ H Q => te σ H fun x H1 => ∃ z, x = .str z ∧ (stepS z k).length ≤ big ∧ Q (.str (stepS z k)) H1
section
variable {X : Cx} {L : List Nat} {e se : Expr} {m : M T} {p3 pos : Pos} {k : Int}
theorem pe_stepS {te : TE} {tst : TO} (he : PE X e te) (hp : PO X (some se) tst) (hk : ∀ σ H, tst σ H fun o H' => o = some k ∧ H' = H) (k0 : (k == 0) = false) (k1 : (k == 1) = false) : PE X (.Subscript e (.Slice none none (some se) p3) pos) (tStepS k te) := by
  refine ⟨fun pins s σ H Q I h => Subscript_ (thn (he.run pins s σ H _ I h) fun v s1 ⟨x, H1, I1, r1, z, ex, hz, q⟩ => ?_)⟩
  subst ex
  obtain ⟨t, rfl⟩ := r1
  refine wpAny_Slice (thn (po_none.run pins s1 σ H1 (fun o H2 => o = none ∧ H2 = H1) I1 ⟨rfl, rfl⟩) fun vl s2 ⟨l, H2, I2, pl, el, e2⟩ => ?_)
  subst el e2
  refine thn (po_none.run pins s2 σ H2 (fun o H3 => o = none ∧ H3 = H2) I2 ⟨rfl, rfl⟩) fun vu s3 ⟨u, H3, I3, pu, eu, e3⟩ => ?_
  subst eu e3
  refine thn (hp.run pins s3 σ H3 _ I3 (hk σ H3)) fun vs s4 ⟨o, H4, I4, ps, eo, e4⟩ => ?_
  subst eo e4
  cases pl
  cases pu
  obtain ⟨w, rfl, ew⟩ := IsPart.raw ps
  have I5 : Inv X pins σ H4 { s4 with heap := s4.heap.push { cls := .type "slice", data := .fields #[.none, .none, partValue w] } } := I4.kept (t' := s4.toks) fun b ob q => Heap.get?_push_of_some _ q
  show wpAny (model X.prog X.w) X.A (subscriptTail e (.Slice none none (some se) p3) (.str z t) (.ref s4.heap.objs.size)) (EP X pins σ Q) X.xe { s4 with heap := s4.heap.push { cls := .type "slice", data := .fields #[.none, .none, partValue w] } }
  refine tail_any (ops := [.ref s4.heap.objs.size, .str z t]) (typeIs_str _ _ _) F.slot_str_getitem.lookup ?_ (by with_unfolding_all rfl)
  refine wpAny_getItem_str_slice (l := none) (u := none) (st := w) (Heap.IsSliceOf.new _ .none .none (partValue w)) (by rw [ew]; exact k0) ?_
  have e6 : ((w.map (·.1)).getD 1) = k := by rw [ew]; rfl
  show Made.post (if (((w.map (·.1)).getD 1) == 1 && (Builtin.Str.strSliceIndices none none ((w.map (·.1)).getD 1) z.length).length == z.length) = true then Made.val (.str z t)
    else Made.str ⟨((Builtin.Str.strSliceIndices none none ((w.map (·.1)).getD 1) z.length).filterMap (z.cps[·]?)).toArray⟩) (EP X pins σ Q) _
  rw [e6, k1, Bool.false_and, if_neg Bool.false_ne_true]
  exact ⟨Nat.le_trans hz big_line, .str _, H4, I5.tok _, ⟨_, rfl⟩, q⟩
theorem ped_stepS {tst : TO} (he : PEd X L e m) (hp : PO X (some se) tst) (hk : ∀ σ H, tst σ H fun o H' => o = some k ∧ H' = H) (k0 : (k == 0) = false) (k1 : (k == 1) = false) : PEd X L (.Subscript e (.Slice none none (some se) p3) pos) (mStep k m) :=
  ⟨fun W tk => PE.imp (pe_stepS (he.run W tk) hp hk k0 k1) fun σ H Q ⟨R, ρ, tm, hL, S, q⟩ => ⟨R, ρ, tm, hL, S, (End.bind q).mono fun t ρ1 et q v H1 S1 => by
    clear et
    split at q
    · rename_i z ez
      have ev := (toInt S1 ez).front.rep
      by_cases hz : (stepS z k).length ≤ big
      · rw [if_pos hz] at q
        exact ⟨z, ev, hz, q _ H1 (S1.pop.with fun o => o.scal fun _ => rfl)⟩
      · rw [if_neg hz] at q; exact q.elim
    · exact q.elim⟩⟩
theorem ped_step2 {j : Nat} {p1 : Pos} {i : Int} (he : PEd X L e m) (k0 : (i == 0) = false := by decide) (k1 : (i == 1) = false := by decide) : PEd X L (.Subscript e (.Slice none none (some (.Constant (.int i) j p1)) p3) pos) (mStep i m) := ped_stepS he (po_some pe_int) (fun σ H => ⟨_, rfl, rfl, rfl⟩) k0 k1
theorem ped_stepB {j : Nat} {p1 p2 : Pos} (he : PEd X L e m) : PEd X L (.Subscript e (.Slice none none (some (.UnaryOp .USub (.Constant (.int 1) j p1) p2)) p3) pos) (mStep (-1) m) := ped_stepS he (po_some (pe_un un_neg pe_int)) (fun σ H => ⟨1, rfl, -1, rfl, rfl, rfl⟩) (by decide) (by decide)
end

/-! ### a def of which nothing is asked -/
theorem good_stuck {P : Program} {w : World} {K : PySem.W.Frag} {mg : Str → Option Value} {base : Heap} {x : Str} {st : Stmt} {ps : List Str} {lent : List Nat} {k : Nat} (F : ∃ fd, Fun K x x st (He.ga K x) fd) (hm : mg x = some (.ref (He.ga K x)))
    (hbind : ∀ (kV doc pm : Value) (an : Option Addr) (cdv ct : Value) (us : List Value), us.length = ps.length → bindArgs (PySem.W.fnOf x x (defArgs st) (defBody st) (defScope st) .none kV doc pm an cdv ct) ⟨us, []⟩ = pure (ps.zip us)) : Good P w K mg base k x ps lent (fun _ => .stuck) := by
  obtain ⟨fd, F⟩ := F
  exact ⟨hm, fd, ⟨fun vs H Q E ⟨R, ts, h1, _⟩ => h1, fun A outer s H args us vs Q E _ _ _ _ _ ⟨R, ts, _, _, _, _, z⟩ => z.elim⟩, F.binds hbind, F.kp⟩
end Q

set_option maxHeartbeats 1000000
/-! sorted(set(xs)), xs tuples of ints that stand in order, none twice. -/
namespace Q
open PySem PySem.Spec PyProof.Rows L2
def intsD : List D → Option (List Int)
  | [] => some []
  | .int i :: r => (intsD r).map (i :: ·)
  | _ => none
def keysD : List D → Option (List (List Int))
  | [] => some []
  | .tup ds :: r => match intsD ds, keysD r with
    | some k, some ks => some (k :: ks)
    | _, _ => none
  | _ => none
def okKeys (ks : List (List Int)) : Bool := decide (ks.length < 64) && (decide ((ks.map (TS.code 1000000)).Pairwise (· < ·)) && match ks with
  | [] => true
  | k :: r => decide (1 ≤ k.length) && (k :: r).all fun q => decide (q.length = k.length) && q.all fun i => decide (0 ≤ i) && decide (i < 1000000))
def mSortSet (m : M T) : M T := fun ρ => (m ρ).bind fun t ρ1 => match t.toD with
  | .lst ds => match keysD ds with
    | some ks => if okKeys ks = true then .ok (.node (ds.map T.leaf)) ρ1 else .stuck
    | none => .stuck
  | _ => .stuck
theorem intsD_ok : ∀ {ds : List D} {k : List Int}, intsD ds = some k → ds = k.map D.int
  | [], k, e => by cases e; rfl
  | .int i :: r, k, e => by
    simp only [intsD] at e
    cases e2 : intsD r with
    | none => rw [e2] at e; cases e
    | some k' => rw [e2] at e; cases e; rw [intsD_ok e2]; rfl
theorem keysD_ok {G : Gx} {H : Hp} : ∀ {ds : List D} {ks : List (List Int)} {xs : List V}, keysD ds = some ks → Reps G H ds xs → ∃ kk : List (Addr × List Int), xs = kk.map (fun p => V.ref p.1) ∧ ks = kk.map (·.2) ∧ ds = kk.map (fun p => .tup (p.2.map D.int)) ∧ ∀ p ∈ kk, SqT G.K H p.1 (p.2.map V.int)
  | [], ks, xs, e, r => by cases e; rw [show xs = [] from r]; exact ⟨[], rfl, rfl, rfl, fun p hp => (nomatch hp)⟩
  | .tup d :: ds, ks, xs, e, r => by
    obtain ⟨x, r', ex, ⟨a, ys, ea, h1, h2⟩, h3⟩ := r
    simp only [keysD] at e
    cases e1 : intsD d with
    | none => rw [e1] at e; cases e
    | some k =>
      cases e2 : keysD ds with
      | none => rw [e1, e2] at e; cases e
      | some ks' =>
        rw [e1, e2] at e
        cases e
        obtain ⟨kk, a1, a2, a3, a4⟩ := keysD_ok e2 h3
        have ed := intsD_ok e1
        subst ed
        have ey := Reps.ints.mp h2
        subst ey ea ex
        refine ⟨(a, k) :: kk, by rw [a1]; rfl, by rw [a2]; rfl, by rw [a3]; rfl, fun p hp => ?_⟩
        rcases List.mem_cons.mp hp with z | z
        · subst z; exact h1
        · exact a4 p z
theorem reps_of {G : Gx} {H : Hp} : ∀ {kk : List (Addr × List Int)}, (∀ p ∈ kk, SqT G.K H p.1 (p.2.map V.int)) → Reps G H (kk.map fun p => .tup (p.2.map D.int)) (kk.map fun p => V.ref p.1)
  | [], _ => rfl
  | p :: kk, h => ⟨_, _, rfl, ⟨p.1, _, rfl, h p List.mem_cons_self, Reps.ints.mpr rfl⟩, reps_of fun q hq => h q (List.mem_cons_of_mem _ hq)⟩
def tSortSet (K : PySem.W.Frag) (P : Program) (w : World) (te : TE) : TE := tCB (rSortedT K P w) (tCons (tCB (rSetOfT K P w) (tCons te tNil)) tNil)
section
variable {X : Cx} {L : List Nat} {a : Expr} {m : M T} {p p2 pos pos2 : Pos}
theorem ped_sortSet (hc : X.calm = true) (hu : X.A.units + 64 < cLine) (hg : Gl X "sorted") (hm : X.mg "sorted" = none) (hg2 : Gl X "set") (hm2 : X.mg "set" = none) (ha : PEd X L a m)
    (h1 : starEach [a] X.env = (false, eval a X.env) :: starEach [] X.env := by rfl) (h2 : starEach [.Call (.Name "set" p2) [a] [] pos2] X.env = (false, eval (.Call (.Name "set" p2) [a] [] pos2) X.env) :: starEach [] X.env := by rfl)
    (hp1 : (backTo pos2 (starEach [] X.env)).any (·.1) = false := by rfl) (hp2 : (backTo pos (starEach [] X.env)).any (·.1) = false := by rfl) :
    PEd X L (.Call (.Name "sorted" p) [.Call (.Name "set" p2) [a] [] pos2] [] pos) (mSortSet m) :=
  ⟨fun W tk => PE.imp (pe_callB (cr_sortedT hc) hg hm PyProof.Rows.boot_sorted (pa_cons (pe_callTy (cr_setOfT hc hu) hg2 hm2 PyProof.Rows.boot_set (pa_cons (ha.run W tk) pa_nil h1) (by decide) (by decide) h1 hp1) pa_nil h2) (by decide) (by decide) h2 hp2) fun σ H Q ⟨R, ρ, tm, hL, S, q⟩ => ⟨R, ρ, tm, hL, S, (End.bind q).mono fun t ρ1 et q x H1 S1 => by
    clear et
    split at q
    · rename_i ds ed
      cases ek : keysD ds with
      | none => rw [ek] at q; exact q.elim
      | some ks =>
        simp only [ek] at q
        by_cases hz : okKeys ks = true
        · rw [if_pos hz] at q
          have S2 := toInt S1 ed
          obtain ⟨F, o⟩ := S2.front
          obtain ⟨l, xs, ex, hl, hr⟩ := o.head
          obtain ⟨kk, a1, a2, a3, a4⟩ := keysD_ok ek hr
          subst ex a1
          have low : ∀ p ∈ kk, SqT X.K H1 p.1 (p.2.map V.int) := fun p hp => SqT.same (mask_same _ _) (a4 p hp)
          unfold okKeys at hz
          simp only [Bool.and_eq_true] at hz
          obtain ⟨z1, z2, z3⟩ := hz
          have z1 : kk.length < 64 := by have := of_decide_eq_true z1; rw [a2, List.length_map] at this; exact this
          have z2 := of_decide_eq_true z2
          refine ⟨l, kk, rfl, SqL.of (mask_same _ _ _ _ hl), low, z1, fun b L0 hb m1 m2 => ?_⟩
          obtain ⟨g1, g2, g3, g4⟩ := o.tail.grow (o := SetTO X.prog X.w b L0) hb
          have sm : Same H1 (upd H1 b (SetTO X.prog X.w b L0)) := fun c u hcu => by
            by_cases hcb : c = b
            · subst hcb; rw [hb] at hcu; cases hcu
            · rw [upd_ne hcb]; exact hcu
          have size : ∃ d, 1 ≤ d ∧ ∀ p ∈ kk, p.2.length = d ∧ TS.Bd 1000000 p.2 := by
            cases ks with
            | nil =>
              refine ⟨1, Nat.le_refl _, fun p hp => ?_⟩
              have : kk = [] := List.map_eq_nil_iff.mp a2.symm
              rw [this] at hp; cases hp
            | cons k r =>
              simp only [Bool.and_eq_true] at z3
              refine ⟨k.length, of_decide_eq_true z3.1, fun p hp => ?_⟩
              have hm' : p.2 ∈ k :: r := by rw [a2]; exact List.mem_map_of_mem hp
              have := List.all_eq_true.mp z3.2 _ hm'
              simp only [Bool.and_eq_true, decide_eq_true_eq, List.all_eq_true] at this
              exact ⟨this.1, fun i hi => this.2 i hi⟩
          obtain ⟨d, d1, d2⟩ := size
          refine ⟨b, L0, d, 1000000, rfl, upd_same, fun p hp => SqT.same sm (low p (m1 p hp)), d1, fun p hp => d2 p (m1 p hp), fun L' c pm nd _ pw hc' => ?_⟩
          -- the order is the one that stood
          have sub : ∀ p ∈ L', p ∈ kk := fun p hp => m1 p (pm.mem_iff.mp hp)
          have mem : ∀ p ∈ kk, p.2 ∈ L'.map (·.2) := fun p hp => (pm.map (·.2)).mem_iff.mpr (m2 p hp)
          have pwk : (kk.map (·.2)).Pairwise (fun q r => TS.code 1000000 q < TS.code 1000000 r) := by
            rw [a2] at z2
            exact List.pairwise_map.mp z2
          have ndk : (kk.map (·.2)).Nodup := pwk.imp fun {a b} h e => by rw [e] at h; exact absurd h (Int.lt_irrefl _)
          have perm : (L'.map (·.2)).Perm (kk.map (·.2)) := (List.perm_ext_iff_of_nodup nd ndk).mpr fun q => ⟨fun h => by
            obtain ⟨p, hp, e⟩ := List.mem_map.mp h
            exact e ▸ List.mem_map_of_mem (sub p hp), fun h => by
            obtain ⟨p, hp, e⟩ := List.mem_map.mp h
            exact e ▸ mem p hp⟩
          have inj : ∀ q r, q ∈ kk.map (·.2) → r ∈ kk.map (·.2) → TS.code 1000000 q ≤ TS.code 1000000 r → TS.code 1000000 r ≤ TS.code 1000000 q → q = r := fun q r hq hr h1 h2 => by
            obtain ⟨i, hi, rfl⟩ := List.mem_iff_getElem.mp hq
            obtain ⟨j, hj, rfl⟩ := List.mem_iff_getElem.mp hr
            rcases Nat.lt_trichotomy i j with h | h | h
            · have := List.pairwise_iff_getElem.mp pwk i j hi hj h; omega
            · subst h; rfl
            · have := List.pairwise_iff_getElem.mp pwk j i hj hi h; omega
          have eq : L'.map (·.2) = kk.map (·.2) := List.Perm.eq_of_pairwise (le := fun q r => TS.code 1000000 q ≤ TS.code 1000000 r) (fun q r hq hr => inj q r (perm.mem_iff.mp hq) hr) (List.pairwise_map.mpr pw) (pwk.imp fun h => Int.le_of_lt h) perm
          have ed2 : ds = L'.map fun p => .tup (p.2.map D.int) := by
            rw [a3]
            have e1 : (kk.map fun p => (D.tup (p.2.map D.int))) = (kk.map (·.2)).map fun k => D.tup (k.map D.int) := by rw [List.map_map]; rfl
            have e2 : (L'.map fun p => (D.tup (p.2.map D.int))) = (L'.map (·.2)).map fun k => D.tup (k.map D.int) := by rw [List.map_map]; rfl
            rw [e1, e2, eq]
          have sm2 : Same (R.msk H1 F) (R.msk (upd H1 b (SetTO X.prog X.w b L0)) F) := by
            rw [g3]
            exact fun c u hcu => by
              by_cases hcb : c = b
              · subst hcb
                rw [msk_none hb] at hcu; cases hcu
              · rw [upd_ne hcb]; exact hcu
          have rr : Reps (gx X) (R.msk (upd H1 b (SetTO X.prog X.w b L0)) F) ds (L'.map fun q => V.ref q.1) := by
            rw [ed2]
            exact reps_of fun p hp => SqT.same sm2 (a4 p (sub p hp))
          exact q _ _ (Sta.back S2.fits S2.lent (OwnF.newLst g1 hc' rr))
        · rw [if_neg hz] at q; exact q.elim
    · exact q.elim⟩⟩
end
end Q

namespace Q
open PySem PySem.Spec PyProof.Rows L2 He
/-! Q13: sum, range downward, defs as values, calls of a local that holds a def -/
/-! ### sum of a list of ints -/
def fSum : List D → Option D
  | [.lst ds] => (intsOf ds).map fun ns => .int ns.sum
  | _ => none
theorem sc_fSum : ∀ ds d, fSum ds = some d → ∃ v, d.toV? = some v := fun ds d e => by
  unfold fSum at e
  split at e
  · rename_i es
    cases e2 : intsOf es with
    | none => rw [e2] at e; cases e
    | some ns => rw [e2] at e; cases e; exact ⟨_, rfl⟩
  · cases e
section
variable {X : Cx} {L : List Nat} {e : Expr} {es : List Expr} {pos : Pos} {as : List AM}
theorem c_fSum (hc : X.calm = true) : CallR X (.builtin "sum") (rSn (gx X) fSum) := by
  intro pins s σ H xs us Q I r ⟨ds, d, v, rs, ef, ev, q⟩
  unfold fSum at ef
  split at ef
  · rename_i es
    cases e2 : intsOf es with
    | none => rw [e2] at ef; cases ef
    | some ns =>
      rw [e2] at ef; cases ef; cases ev
      have ee := intsOf_eq e2
      subst ee
      obtain ⟨x, r0, ex, rx, r1⟩ := rs
      obtain rfl : r0 = [] := r1
      subst ex
      obtain ⟨a, ys, ex, h1, h2⟩ := rx
      subst ex
      rw [Reps.ints] at h2
      subst h2
      exact cr_sum hc pins s σ H _ us Q I r ⟨a, ns, rfl, SqL.of h1, q⟩
  · cases ef
/-! ### range(i, j, -1) -/
def downD (hi : Int) (n : Nat) : List D := (List.range n).map fun i => .int (hi + (i : Nat) * (-1))
def mRange3 (ms : List (M T)) : M (List D) := fun ρ => (mArgs ms ρ).bind fun ts ρ1 => match ts with
  | [.leaf (.int i), .leaf (.int j), .leaf (.int c)] => if (small62 i && small62 j && decide (c = -1)) = true then .ok (downD i (i - j).toNat) ρ1 else .stuck
  | _ => .stuck
theorem itd_rangeC {G : Gx} {lo : Int} {n : Nat} : ItD G [] (downD lo n) (Itc lo (-1) n) where
  go := fun R σ ρ H tm i S hi => (by simpa [downD] using hi : i < n)
  stop := fun R σ ρ H tm i S hi => (by simpa [downD] using hi : n ≤ i)
  yld := fun R σ ρ H H' tm i x d S y hd => by
    obtain ⟨e1, e2⟩ := y
    subst e1 e2
    unfold downD at hd
    rw [List.getElem?_map] at hd
    cases e : (List.range n)[i]? with
    | none => rw [e] at hd; cases hd
    | some k =>
      rw [e] at hd
      cases hd
      obtain ⟨hlt, ek⟩ := List.getElem?_eq_some_iff.mp e
      rw [List.getElem_range] at ek
      subst ek
      exact S.with fun o => o.scal fun _ => rfl
theorem pid_range3 {tg e2 e3 : Expr} {ms : List (M T)} {p pos : Pos} (hg : Gl X "range") (hm : X.mg "range" = none) (ha : PAd X L [e, e2, e3] ms) (hs : starEach [e, e2, e3] X.env = (false, eval e X.env) :: starEach [e2, e3] X.env := by rfl) (hpl : (backTo pos (starEach [e2, e3] X.env)).any (·.1) = false := by rfl) : PId X L tg (.Call (.Name "range" p) [e, e2, e3] [] pos) (mRange3 ms) :=
  ⟨fun W tk => PI.imp (pi_range3 hg hm (ha.run W tk) hs hpl) fun σ H R' ⟨R, ρ, tm, hL, S, q⟩ => ⟨R, ρ, tm, hL, S, (End.bind q).mono fun ts ρ1 ets q vs H1 hl S1 => by
    clear ets
    split at q
    · rename_i i j c
      by_cases hj : (small62 i && small62 j && decide (c = -1)) = true
      · rw [if_pos hj] at q
        rw [Bool.and_eq_true, Bool.and_eq_true, decide_eq_true_eq] at hj
        obtain ⟨⟨hi, hj⟩, hc⟩ := hj
        subst hc
        obtain ⟨v, w, z, rfl⟩ : ∃ v w z, vs = [v, w, z] := by
          match vs, hl with
          | [v, w, z], _ => exact ⟨v, w, z, rfl⟩
        have S1 : Sta (gx X) R σ ρ1 H1 ((v, .leaf (.int i)) :: (w, .leaf (.int j)) :: (z, .leaf (.int (-1))) :: tm) := S1
        have ev : v = .int i := S1.front.rep
        have ew : w = .int j := S1.pop.front.rep
        have ez : z = .int (-1) := S1.pop.pop.front.rep
        subst ev ew ez
        obtain ⟨h1, h2⟩ := small62_of hi
        obtain ⟨h3, h4⟩ := small62_of hj
        exact ⟨i, j, -1, _, rfl, RgC.neg h1 h2 h3 h4, q [] _ _ itd_rangeC S1.pop.pop.pop⟩
      · rw [if_neg hj] at q; exact q.elim
    · exact q.elim⟩⟩
/-! ### a def as a value -/
theorem ped_fnV {x : Str} {f : Addr} (hg : Gl X x) (hm : X.mg x = some (.ref f)) (hdb : (x == ("__debug__" : Str)) = false := by decide) : PEd X L (.Name x pos) (mC (.glo x)) :=
  ⟨fun W _ => PE.imp (pe_glob (v := .ref f) hg hm rfl hdb) fun σ H Q ⟨R, ρ, tm, _, S, q⟩ => q (.ref f) H (S.with fun o => o.scal fun _ => ⟨.ref f, hm, rfl⟩)⟩
theorem pe_callGL {X : Cx} {k i : Nat} {f : Addr} {fd : FuncData} {ps : List Str} {sp : Sp} {E : L2.St → XK} {x : Str} {e : Expr} {es : List Expr} {t : TA} {p pos : Pos} (F : FnG X.prog X.w X.K X.mg X.base k f fd ps sp) (hgd : X.A.guards = some []) (hr : Room k X.A) (hf : PE X (.Name x p) (tVar i))
    (hk : PySem.W.keepIn X.K (.ref f) = true) (hb : Binds X.K fd ps []) (hx : ∀ σ, PassesAt (L2N.CX X.prog X.w) X σ (E σ)) (ha : PA X (e :: es) t)
    (he : starEach (e :: es) X.env = (false, eval e X.env) :: starEach es X.env) (hpl : (backTo pos (starEach es X.env)).any (·.1) = false) : PE X (.Call (.Name x p) (e :: es) [] pos) (fun σ H Q => σ[i]? = some (some (.ref f)) ∧ tCallS sp E t σ H Q) := by
  refine ⟨fun pins s σ H Q I ⟨hs, ht⟩ => ?_⟩
  refine wpAny_Call_Name_kw (thn (hf.run pins s σ H (fun v H1 => v = .ref f ∧ H1 = H) I ⟨.ref f, hs, rfl, rfl⟩) fun u s1 ⟨v, H1, I1, r1, q1⟩ => ?_)
  obtain ⟨rfl, rfl⟩ := q1
  cases r1
  exact PySem.W.callWith_K (h₀ := X.base) I.ok.mod.kin hk (thn (ha.run pos pins s1 σ _ _ I1 ht) fun us s2 ⟨_, _, I2, r, q⟩ => ⟨I2.kIn, run_fnG F hgd hr hb (hx σ) I2 r q⟩) he hpl
theorem glo_slot {R : Fr} {σ : L2.St} {ρ : Env} {H : Hp} {tm : List Item} {i : Nat} {y : Str} {f : Addr} (S : Sta (gx X) R σ ρ H tm) (h : ρ[i]? = some (some (.leaf (.glo y)))) (hm : X.mg y = some (.ref f)) : σ[i]? = some (some (.ref f)) := by
  obtain ⟨v, e1, S1⟩ := S.read h
  obtain ⟨u, e2, r⟩ : ∃ u, X.mg y = some u ∧ L2.RelV v u := S1.front.rep
  rw [hm] at e2
  cases e2
  cases v <;> simp only [L2.RelV] at r <;> first | (cases r; exact e1) | (obtain ⟨_, r⟩ := r; cases r) | cases r
theorem ped_callL1 {i : Nat} {k : Nat} {f : Addr} {fd : FuncData} {ps : List Str} {lent : List Nat} {mf : List T → FRes} {x y : Str} {p : Pos}
    (F : FnG X.prog X.w X.K X.mg X.base k f fd ps (spF (gx X) ps.length lent mf)) (hgd : X.A.guards = some []) (hr : Room k X.A) (hf : PE X (.Name x p) (tVar i)) (hmx : X.mg y = some (.ref f)) (hk : PySem.W.keepIn X.K (.ref f) = true) (hb : Binds X.K fd ps [])
    (ha : PCd X L (e :: es) as) (hlent : lendPos 0 as = lent) (hn : as.length = ps.length)
    (he : starEach (e :: es) X.env = (false, eval e X.env) :: starEach es X.env := by rfl) (hpl : (backTo pos (starEach es X.env)).any (·.1) = false := by rfl) :
    ∀ W, L2N.Takes X W → PE X (.Call (.Name x p) (e :: es) [] pos) (fun σ H Q => ∃ R ρ tm, R.lent.map (·.1) = L ∧ Sta (gx X) R σ ρ H tm ∧ ρ[i]? = some (some (.leaf (.glo y))) ∧ End (gx X) R σ tm W (toQ (gx X) R σ tm Q) (mCall mf as ρ)) := by
  refine fun W tk => PE.imp (pe_callGL F hgd hr hf hk hb (fun σ => L2N.passAt tk σ) (ha.run W tk) he hpl) fun σ H Q ⟨R, ρ, tm, hL, S, hix, h⟩ => ?_
  refine ⟨glo_slot S hix hmx, ?_⟩
  refine ⟨R, ρ, tm, hL, S, (End.bind h).mono fun ts ρ1 ets q vs H1 hl lk S1 => ?_⟩
  have hts : ts.length = as.length := by rw [args_length ets, List.length_map]
  by_cases hfree : freeS ρ1 (lendSlots as) = true
  · rw [if_pos hfree] at q
    obtain ⟨hf1, hf2⟩ := freeS_of hfree
    obtain ⟨l, l1, l2, l3⟩ := lk_vals (as := as) (vs := vs) (n := 0) (us := []) lk (by omega) rfl
    rw [List.nil_append, hlent] at l3
    obtain ⟨R', e1, o1, back⟩ := S1.frontL.frame (lentV lent vs)
    have ndl : (l.map (·.1)).Nodup := by rw [l1]; exact hf2
    have frl : ∀ i ∈ l.map (·.1), ρ1[i]? = some none := by rw [l1]; exact hf1
    have hll : l.length = (lendSlots as).length := by rw [← l1, List.length_map]
    refine ⟨R', ts, by omega, by omega, e1, o1, ?_⟩
    cases ef : mf ts with
    | ok t ls =>
      rw [ef] at q
      show ∀ v H', _
      intro v H' o2
      have o3 := back H' _ o2
      rw [e1, ← l3] at o3
      by_cases hls : ls.length = (lendSlots as).length
      · simp only [if_pos hls] at q
        have S2 := call_sta l2 ndl frl (by rw [hls, hll]) S1.fits S1.lent o3
        rw [l1] at S2
        exact q v H' S2
      · simp only [if_neg hls] at q; exact q.elim
    | exc c a d ls =>
      rw [ef] at q
      intro C a' v H' hm' ha' o2
      have o3 := back H' _ o2
      rw [e1, ← l3] at o3
      by_cases hls : ls.length = (lendSlots as).length
      · simp only [if_pos hls] at q
        have S2 := call_sta l2 ndl frl (by rw [hls, hll]) S1.fits S1.lent o3
        rw [l1] at S2
        exact q C a' v H' hm' ha' S2
      · simp only [if_neg hls] at q; exact q.elim
    | stuck => rw [ef] at q; exact q.elim
  · rw [if_neg hfree] at q; exact q.elim

/-- the local i holds one of the defs of the table -/
def mCallL (i : Nat) (tbl : List (Str × (List T → FRes))) (as : List AM) : M T := fun ρ => match ρ[i]? with
  | some (some (.leaf (.glo y))) => match tbl.find? (fun p => decide (p.1 = y)) with
    | some p => mCall p.2 as ρ
    | none => .stuck
  | _ => .stuck
/-- what a table's entry promises to a call with so many arguments -/
def HoldsFn (P : Program) (w : World) (K : PySem.W.Frag) (mg : Str → Option Value) (base : Heap) (k n : Nat) (lent : List Nat) (p : Str × (List T → FRes)) : Prop := ∃ (ps : List Str) (j : Nat), ps.length = n ∧ j ≤ k ∧ Good P w K mg base j p.1 ps lent p.2
theorem ped_callL {k i : Nat} {x : Str} {p : Pos} {tbl : List (Str × (List T → FRes))} {n : Nat} (ht : ∀ q ∈ tbl, HoldsFn X.prog X.w X.K X.mg X.base k n [] q) (hgd : X.A.guards = some []) (hr : Room k X.A) (hf : PE X (.Name x p) (tVar i)) (ha : PCd X L (e :: es) as) (hlent : lendPos 0 as = []) (hn : as.length = n)
    (he : starEach (e :: es) X.env = (false, eval e X.env) :: starEach es X.env := by rfl) (hpl : (backTo pos (starEach es X.env)).any (·.1) = false := by rfl) : PEd X L (.Call (.Name x p) (e :: es) [] pos) (mCallL i tbl as) := by
  refine ⟨fun W tk => ⟨fun pins s σ H Q I ⟨R, ρ, tm, hL, S, h⟩ => ?_⟩⟩
  unfold mCallL at h
  split at h
  · rename_i y ey
    split at h
    · rename_i q eq
      have hq := List.mem_of_find?_eq_some eq
      have hy : q.1 = y := by simpa using List.find?_some eq
      obtain ⟨ps, j, hps, hj, g⟩ := ht q hq
      obtain ⟨fd, F, b, kp⟩ := g.ex
      exact (ped_callL1 (y := y) (F.mono hj) hgd hr hf (hy ▸ g.nm) kp b ha hlent (hn.trans hps.symm) he hpl W tk).run pins s σ H Q I ⟨R, ρ, tm, hL, S, ey, h⟩
    · exact h.elim
  · exact h.elim
end
end Q
namespace Q
open PySem L2
section
variable {P : Program} {w : World} {K : PySem.W.Frag} {mg : Str → Option Value} {base : Heap}
theorem holds_nil {k n : Nat} {lent : List Nat} : ∀ q ∈ ([] : List (Str × (List T → FRes))), HoldsFn P w K mg base k n lent q := fun _ h => nomatch h
theorem holds_cons {k n j : Nat} {lent : List Nat} {x : Str} {ps : List Str} {f : List T → FRes} {r : List (Str × (List T → FRes))} (g : Good P w K mg base j x ps lent f) (hp : ps.length = n) (hj : j ≤ k) (h : ∀ q ∈ r, HoldsFn P w K mg base k n lent q) : ∀ q ∈ (x, f) :: r, HoldsFn P w K mg base k n lent q := fun q hq => by
  rcases List.mem_cons.mp hq with e | e
  · subst e; exact ⟨ps, j, hp, hj, g⟩
  · exact h q e
end
end Q
namespace Q
open PySem PySem.Spec PyProof.Rows L2 He
section
variable {X : Cx} {L sl : List Nat} {tg iter elt : Expr} {src : M (List D)} {g : TG} {t : TgM} {pos : Pos} {mt : M Bool} {me : M T}
theorem psd_setLcS {i : Nat} {y : Str} {py spos : Pos} {ifs : List Expr} {scope : Scope} {own : List (Str × Nat)} (hc : X.calm = true) (hN : X.N.Nodup) (hi : PId X L tg iter src) (ok : BlkOk X.N X.env.scope scope own)
    (hlv : ∀ i ∈ L, i ∉ own.map (·.2)) (hsl : ∀ i ∈ sl, i ∈ own.map (·.2))
    (hg : ∀ (s : Shared) (H : Hp) (C : Addr) (cl : List (Str × Addr)) (fp : List Addr), PGd (X.blk s H scope (compEnvC scope cl C X.env) fp) L sl tg g t)
    (ht : ∀ (s : Shared) (H : Hp) (C : Addr) (cl : List (Str × Addr)) (fp : List Addr), PTsD (X.blk s H scope (compEnvC scope cl C X.env) fp) L ifs mt)
    (he : ∀ (s : Shared) (H : Hp) (C : Addr) (cl : List (Str × Addr)) (fp : List Addr), PEd (X.blk s H scope (compEnvC scope cl C X.env) fp) L elt me) (hs : ∀ x, foldedSetIterable iter X.env x = pure x := by intro _; rfl) (hi' : i ∉ L) (hy : X.N[i]? = some y) (hyl : X.env.scope.names.lookup y = some .local)
    (hsw : swapsWith (.ListComp elt [⟨tg, iter, ifs, 0⟩] scope pos) (some (.Name y py)) spos.line X.env = pure true) :
    PSd X L (.Assign [.Name y py] (.ListComp elt [⟨tg, iter, ifs, 0⟩] scope pos) spos) (mSet i (mComp (own.map (·.2)) src t mt me)) :=
  psd_setLc hc hN hi ok hlv hsl hg ht he hs hi' hy hyl hsw (mSet i) (.inl rfl)
theorem psd_setLcO {i : Nat} {y : Str} {py spos : Pos} {ifs : List Expr} {scope : Scope} {own : List (Str × Nat)} (hc : X.calm = true) (hN : X.N.Nodup) (hi : PId X L tg iter src) (ok : BlkOk X.N X.env.scope scope own)
    (hlv : ∀ i ∈ L, i ∉ own.map (·.2)) (hsl : ∀ i ∈ sl, i ∈ own.map (·.2))
    (hg : ∀ (s : Shared) (H : Hp) (C : Addr) (cl : List (Str × Addr)) (fp : List Addr), PGd (X.blk s H scope (compEnvC scope cl C X.env) fp) L sl tg g t)
    (ht : ∀ (s : Shared) (H : Hp) (C : Addr) (cl : List (Str × Addr)) (fp : List Addr), PTsD (X.blk s H scope (compEnvC scope cl C X.env) fp) L ifs mt)
    (he : ∀ (s : Shared) (H : Hp) (C : Addr) (cl : List (Str × Addr)) (fp : List Addr), PEd (X.blk s H scope (compEnvC scope cl C X.env) fp) L elt me) (hs : ∀ x, foldedSetIterable iter X.env x = pure x := by intro _; rfl) (hi' : i ∉ L) (hy : X.N[i]? = some y) (hyl : X.env.scope.names.lookup y = some .local)
    (hsw : swapsWith (.ListComp elt [⟨tg, iter, ifs, 0⟩] scope pos) (some (.Name y py)) spos.line X.env = pure true) :
    PSd X L (.Assign [.Name y py] (.ListComp elt [⟨tg, iter, ifs, 0⟩] scope pos) spos) (mSetO i (mComp (own.map (·.2)) src t mt me)) :=
  psd_setLc hc hN hi ok hlv hsl hg ht he hs hi' hy hyl hsw (mSetO i) (.inr rfl)
end
end Q

namespace Q
open PySem PySem.Spec PyProof.Rows L2 He
/-! Q14: a value frozen: an owned result handed on as shared data -/
def mFz (m : M T) : M T := fun ρ => (m ρ).bind fun t ρ1 => .ok (.leaf t.toD) ρ1
section
variable {X : Cx} {L : List Nat} {e : Expr} {m : M T}
theorem ped_fz (h : PEd X L e m) : PEd X L e (mFz m) := ⟨fun W tk => PE.imp (h.run W tk) fun σ H Q ⟨R, ρ, tm, hL, S, q⟩ =>
  ⟨R, ρ, tm, hL, S, (End.bind q).mono fun t ρ1 _ q v H1 S1 => q v H1 (Sta.back S1.fits S1.lent S1.front.freeze)⟩⟩
end
end Q
namespace Q
open PySem PySem.Spec PyProof.Rows L2 He
/-! repr, also of scalars -/
def fReprX : List D → Option D
  | [.int i] => if Nat.ble i.natAbs (2 ^ 60) = true then some (.str (toString i)) else none
  | [.bl b] => some (.str (if b then "True" else "False"))
  | [.non] => some (.str "None")
  | [.str x] => if Nat.ble (reprText x).length 100000 = true then some (.str (reprText x)) else none
  | ds => fRepr ds
theorem sc_fReprX : ∀ ds d, fReprX ds = some d → ∃ v, d.toV? = some v := fun ds d e => by
  unfold fReprX at e
  split at e
  · split at e
    · cases e; exact ⟨_, rfl⟩
    · cases e
  · cases e; exact ⟨_, rfl⟩
  · cases e; exact ⟨_, rfl⟩
  · split at e
    · cases e; exact ⟨_, rfl⟩
    · cases e
  · exact sc_fRepr _ _ e
theorem log_small {n : Nat} (h : n ≤ 2 ^ 60) : n.log2 < 1920 := by
  by_cases h0 : n = 0
  · subst h0; decide
  · have h1 : n < 2 ^ 61 := by omega
    have := (Nat.log2_lt h0).mpr h1
    omega
section
variable {X : Cx}
theorem c_fReprX (hgd : X.A.guards = some []) (hu : X.A.units + 64 < cLine) : CallR X (.builtin "repr") (rSn (gx X) fReprX) := by
  intro pins s σ H xs us Q I r h
  obtain ⟨ds, d, v, rs, ef, ev, q⟩ := h
  unfold fReprX at ef
  split at ef
  · rename_i i
    split at ef
    · rename_i hi
      cases ef; cases ev
      obtain ⟨x, rfl, rx⟩ := reps_one rs
      rw [show x = .int i from rx] at r
      obtain ⟨u, rfl, t, rfl⟩ := r.one
      exact PySem.P.repr_of_int (log_small (Nat.le_of_ble_eq_true hi)) ⟨.str _, H, I.tok _, ⟨_, rfl⟩, q⟩
    · cases ef
  · rename_i b
    cases ef; cases ev
    obtain ⟨x, rfl, rx⟩ := reps_one rs
    rw [show x = .bl b from rx] at r
    obtain ⟨u, rfl, ru⟩ := r.one
    rw [show u = .bool b from ru]
    exact PySem.P.repr_of_bool ⟨.str _, H, I.tok _, ⟨_, rfl⟩, q⟩
  · cases ef; cases ev
    obtain ⟨x, rfl, rx⟩ := reps_one rs
    rw [show x = .non from rx] at r
    obtain ⟨u, rfl, ru⟩ := r.one
    rw [show u = .none from ru]
    exact PySem.P.repr_of_none ⟨.str _, H, I.tok _, ⟨_, rfl⟩, q⟩
  · rename_i z
    split at ef
    · rename_i hz
      cases ef; cases ev
      obtain ⟨x, rfl, rx⟩ := reps_one rs
      rw [show x = .str z from rx] at r
      obtain ⟨u, rfl, t, rfl⟩ := r.one
      exact PySem.P.repr_of_str ⟨.str _, H, I.tok _, ⟨_, rfl⟩, q⟩ (Nat.le_trans (Nat.le_of_ble_eq_true hz) (Nat.le_trans (by decide : 100000 ≤ big) big_line))
    · cases ef
  · exact c_fRepr hgd hu pins s σ H xs us Q I r ⟨ds, d, v, rs, ef, ev, q⟩
end
end Q

set_option maxHeartbeats 4000000
namespace Law
open PySem PySem.Spec PyProof.Rows L2 He Q
def top (i : Nat) : Stmt := PySem.Challenge.pw_nodisguise_k15_formulas_great.main.body.getD i (.Pass ⟨0, 0, 0, 0⟩)
def tab : Tab := [("BadCase", ["BadCase", "DisguiseError"]), ("BadLot", ["BadLot", "DisguiseError"]), ("BadNumber", ["BadNumber", "DisguiseError"])]
/-! _law_choose -/
def m__law_choose : SM :=
  (mSeq (mIf (mTest (mS2 fGt (mV 1) (mV 0)))
  (mRet (mC (.int 0)))
  mNext)
  (mSeq (mAsg (tgTup [(tgName 2), (tgName 3)]) (mTup [(mC (.int 1)), (mC (.int 1))]))
  (mSeq (mFor (mRange1 [(mSn fMin [(mV 1), (mS2 fSub (mV 0) (mV 1))])]) (tgName 4)
  (mSeq (mSet 2 (mD2 fMul (mV 2) (mS2 fSub (mV 0) (mV 4))))
  (mSet 3 (mD2 fMul (mV 3) (mD2 fAdd (mV 4) (mC (.int 1)))))))
  (mRet (mS2 fFdiv (mV 2) (mV 3))))))
def f__law_choose : List T → FRes := mkF [] 5 m__law_choose
/-! _law_pascal -/
def m__law_pascal : SM :=
  (mSeq (mSet 1 (mLst [(mC (.int 1))]))
  (mSeq (mFor (mRange1 [(mV 0)]) (tgName 2)
  (mSet 1 (mD2 fAdd (mD2 fAdd (mLst [(mC (.int 1))]) (mComp [3] (mRange1 [(mS2 fSub (mSn fLen [(mV 1)]) (mC (.int 1)))]) (tgName 3) mYes (mD2 fAdd (mD2 fIx (mV 1) (mV 3)) (mD2 fIx (mV 1) (mD2 fAdd (mV 3) (mC (.int 1))))))) (mLst [(mC (.int 1))]))))
  (mRet (mV 1))))
def f__law_pascal : List T → FRes := mkF [] 4 m__law_pascal
/-! _law_pick -/
def m__law_pick : SM :=
  (mSeq (mSet 2 (mIxPk 0 (mC (.int 0))))
  (mSeq (mSetIx 0 (mC (.int 0)) (mD2 fAdd (mV 2) (mC (.int 1))))
  (mSeq (mIf (mTest (mS2 fGe (mV 2) (mSn fLen [(mIxPk 0 (mC (.int 1)))])))
  (mRet (mC (.int 0)))
  mNext)
  (mRet (mS2 fMod (mD2 fIx (mIxPk 0 (mC (.int 1))) (mV 2)) (mV 1))))))
def f__law_pick : List T → FRes := mkF [0] 3 m__law_pick
/-! _law_same -/
def m__law_same : SM :=
  (mRet (mAndV (mIsi ["int"] (mV 0)) (mAndV (mNotV (mIsi ["bool"] (mV 0))) (mS2 fEq (mV 0) (mV 1)))))
def f__law_same : List T → FRes := mkF [] 2 m__law_same
/-! is_int -/
def m_is_int : SM :=
  (mRet (mAndV (mIsi ["int"] (mV 0)) (mNotV (mIsi ["bool"] (mV 0)))))
def f_is_int : List T → FRes := mkF [] 1 m_is_int
/-! plain_form -/
def m_plain_form (rc : List T → FRes) : SM :=
  (mSeq (mIf (mTest (mIsi ["tuple", "list"] (mV 0)))
  (mRet (mDn fTuple [(mComp [1] (mIter (mV 0)) (tgName 1) mYes (mCall rc [(.val (mV 1))]))]))
  mNext)
  (mRet (mV 0)))
def r_plain_form : Nat → List T → FRes
  | 0 => fun _ => .stuck
  | n + 1 => mkF [] 2 (m_plain_form (r_plain_form n))
def f_plain_form : List T → FRes := r_plain_form 40
/-! check_number -/
def m_check_number : SM :=
  (mSeq (mIf (mOr (mNot (mTest (mCall f_is_int [(.val (mV 0))]))) (mTest (mS2 fLt (mV 0) (mV 1))))
  (mRaise "BadNumber" "at" (mCall f_plain_form [(.val (mV 0))]))
  mNext)
  (mRet (mV 0)))
def f_check_number : List T → FRes := mkF [] 2 m_check_number
/-! chosen -/
def m_chosen : SM :=
  (mSeq (mIf (mTest (mS2 fGt (mV 1) (mV 0)))
  (mRet (mC (.int 0)))
  mNext)
  (mSeq (mSet 2 (mC (.int 1)))
  (mSeq (mFor (mRange1 [(mSn fMin [(mV 1), (mS2 fSub (mV 0) (mV 1))])]) (tgName 3)
  (mSet 2 (mS2 fFdiv (mD2 fMul (mV 2) (mS2 fSub (mV 0) (mV 3))) (mD2 fAdd (mV 3) (mC (.int 1))))))
  (mRet (mV 2)))))
def f_chosen : List T → FRes := mkF [] 4 m_chosen
/-! choose -/
def m_choose : SM :=
  (mSeq (mDrop (mCall f_check_number [(.val (mV 0)), (.val (mC (.int 0)))]))
  (mSeq (mDrop (mCall f_check_number [(.val (mV 1)), (.val (mC (.int 0)))]))
  (mRet (mCall f_chosen [(.val (mV 0)), (.val (mV 1))]))))
def f_choose : List T → FRes := mkF [] 2 m_choose
/-! _law_choices -/
def m__law_choices : SM :=
  (mSeq (mAsg (tgTup [(tgName 3), (tgName 4)]) (mTup [(mS2 fSub (mC (.int 2000)) (mCall f__law_pick [(.lend 0), (.val (mC (.int 24)))])), (mCall f__law_pick [(.lend 0), (.val (mC (.int 24)))])]))
  (mSeq (mSet 5 (mCall f__law_choose [(.val (mV 3)), (.val (mV 4))]))
  (mSeq (mIf (mOr (mNot (mTest (mCall f__law_same [(.val (mFz (mCall f_choose [(.val (mV 3)), (.val (mV 4))]))), (.val (mV 5))]))) (mNot (mTest (mCall f__law_same [(.val (mFz (mCall f_choose [(.val (mV 3)), (.val (mS2 fSub (mV 3) (mV 4)))]))), (.val (mV 5))]))))
  (mRet (mC (.bl false)))
  mNext)
  (mSeq (mSet 6 (mTup [(mTup [(mV 1), (mV 2)]), (mTup [(mV 2), (mV 1)]), (mTup [(mV 1), (mC (.int 0))]), (mTup [(mV 1), (mV 1)]), (mTup [(mV 1), (mD2 fAdd (mV 1) (mC (.int 1)))]), (mTup [(mC (.int 0)), (mV 1)]), (mTup [(mD2 fAdd (mV 1) (mV 2)), (mV 2)])]))
  (mSeq (mIf (mTest (mS2 fGt (mSn fLen [(mComp [8] (mIter (mV 6)) (tgName 8) (mNot (mTest (mCall f__law_same [(.val (mFz (mCall f_choose [(.val (mD2 fIx (mV 8) (mC (.int 0)))), (.val (mD2 fIx (mV 8) (mC (.int 1))))]))), (.val (mFz (mCall f__law_choose [(.val (mD2 fIx (mV 8) (mC (.int 0)))), (.val (mD2 fIx (mV 8) (mC (.int 1))))])))]))) (mV 8))]) (mC (.int 0))))
  (mRet (mC (.bl false)))
  mNext)
  (mSeq (mSet 7 (mD2 fAdd (mCall f__law_pascal [(.val (mV 4))]) (mLst [(mC (.int 0))])))
  (mRet (mS2 fEq (mSn fLen [(mComp [9] (mRange1 [(mSn fLen [(mV 7)])]) (tgName 9) (mNot (mTest (mCall f__law_same [(.val (mFz (mCall f_choose [(.val (mV 4)), (.val (mV 9))]))), (.val (mD2 fIx (mV 7) (mV 9)))]))) (mV 9))]) (mC (.int 0))))))))))
def f__law_choices : List T → FRes := mkF [0] 10 m__law_choices
/-! _law_number -/
def m__law_number : SM :=
  (mSeq (mSet 2 (mCall f__law_pick [(.lend 0), (.val (mC (.int 6)))]))
  (mSeq (mPar [3, 4] [(mCall f__law_pick [(.lend 0), (.val (mC (.int 24)))]), (mCall f__law_pick [(.lend 0), (.val (mC (.int 17)))])])
  (mRet (mSn fMin [(mD2 fIx (mTup [(mC (.int 5)), (mC (.int 0)), (mC (.int 1)), (mV 3), (mD2 fAdd (mD2 fMul (mC (.int 24)) (mS2 fMod (mV 4) (mC (.int 5)))) (mV 3)), (mD2 fAdd (mD2 fMul (mC (.int 24)) (mV 4)) (mV 3))]) (mV 2)), (mV 1)]))))
def f__law_number : List T → FRes := mkF [0] 5 m__law_number
/-! _law_numbers -/
def m__law_numbers : SM :=
  (mSeq (mSetO 1 (mLst []))
  (mSeq (mFor (mRange1 [(mD2 fIx (mTup [(mC (.int 3)), (mC (.int 1)), (mC (.int 0)), (mC (.int 2)), (mC (.int 8)), (mC (.int 12))]) (mCall f__law_pick [(.lend 0), (.val (mC (.int 6)))]))]) (tgName 2)
  (mSeq (mPar [3, 4] [(mCall f__law_pick [(.lend 0), (.val (mC (.int 5)))]), (mCall f__law_pick [(.lend 0), (.val (mC (.int 24)))])])
  (mDrop (mAppend 1 (mD2 fIx (mTup [(mD2 fAdd (mV 2) (mC (.int 2))), (mC (.int 0)), (mC (.int 1)), (mV 4), (mS2 fSub (mC (.int 2000)) (mV 4))]) (mV 3))))))
  (mRet (mMove 1))))
def f__law_numbers : List T → FRes := mkF [0] 5 m__law_numbers
/-! _law_power -/
def m__law_power : SM :=
  (mSeq (mSet 2 (mC (.int 1)))
  (mSeq (mFor (mRange1 [(mV 1)]) (tgName 3)
  (mSet 2 (mD2 fMul (mV 2) (mV 0))))
  (mRet (mV 2))))
def f__law_power : List T → FRes := mkF [] 4 m__law_power
/-! _law_sums -/
def m__law_sums : SM :=
  (mSeq (mAsg (tgTup [(tgName 1), (tgName 2)]) (mTup [(mC (.int 1)), (mC (.int 1))]))
  (mSeq (mFor (mIter (mV 0)) (tgName 3)
  (mSet 1 (mD2 fMul (mV 1) (mD2 fAdd (mC (.int 1)) (mV 3)))))
  (mSeq (mSet 1 (mD2 fAdd (mV 1) (mC (.int 1))))
  (mSeq (mFor (mIter (mV 0)) (tgName 3)
  (mSet 2 (mD2 fMul (mV 2) (mD2 fAdd (mC (.int 1)) (mD2 fMul (mV 3) (mV 1))))))
  (mSeq (mSetO 4 (mLst []))
  (mSeq (mFor (mRange1 [(mD2 fAdd (mSn fLen [(mV 0)]) (mC (.int 1)))]) (tgName 5)
  (mSeq (mDrop (mAppend 4 (mS2 fMod (mSn fInt [(mV 2)]) (mV 1))))
  (mSet 2 (mS2 fFdiv (mV 2) (mV 1)))))
  (mRet (mD2 fAdd (mShare 4) (mLst [(mC (.int 0)), (mC (.int 0)), (mC (.int 0))])))))))))
def f__law_sums : List T → FRes := mkF [] 6 m__law_sums
/-! is_list -/
def m_is_list : SM :=
  (mRet (mIsi ["tuple", "list"] (mV 0)))
def f_is_list : List T → FRes := mkF [] 1 m_is_list
/-! check_counts -/
def m_check_counts : SM :=
  (mSeq (mIf (mNot (mTest (mCall f_is_list [(.val (mV 0))])))
  (mRaise "BadLot" "at" (mNeg (mC (.int 1))))
  mNext)
  (mSeq (mFor (mRange1 [(mSn fLen [(mV 0)])]) (tgName 1)
  (mIf (mOr (mNot (mTest (mCall f_is_int [(.val (mD2 fIx (mV 0) (mV 1)))]))) (mTest (mS2 fLt (mD2 fIx (mV 0) (mV 1)) (mC (.int 0)))))
  (mRaise "BadLot" "at" (mV 1))
  mNext))
  (mRet (mDn fTuple [(mV 0)]))))
def f_check_counts : List T → FRes := mkF [] 2 m_check_counts
/-! check_most -/
def m_check_most : SM :=
  (mSeq (mIf (mAnd (mTest (mIsi ["str"] (mV 0))) (mTest (mS2 fEq (mV 0) (mC (.str "any")))))
  (mRet (mV 0))
  mNext)
  (mRet (mCall f_check_number [(.val (mV 0)), (.val (mC (.int 0)))])))
def f_check_most : List T → FRes := mkF [] 1 m_check_most
/-! product_sums -/
def m_product_sums : SM :=
  (mSeq (mSetO 2 (mD2 fMul (mLst [(mC (.int 0))]) (mD2 fAdd (mV 1) (mC (.int 1)))))
  (mSeq (mSetIx 2 (mC (.int 0)) (mC (.int 1)))
  (mSeq (mFor (mIter (mV 0)) (tgName 3)
  (mFor (mRange3 [(mV 1), (mC (.int 0)), (mNeg (mC (.int 1)))]) (tgName 4)
  (mSetIx 2 (mV 4) (mD2 fAdd (mIxPk 2 (mV 4)) (mD2 fMul (mV 3) (mIxPk 2 (mS2 fSub (mV 4) (mC (.int 1)))))))))
  (mRet (mMove 2)))))
def f_product_sums : List T → FRes := mkF [] 5 m_product_sums
/-! lookalike_number -/
def m_lookalike_number : SM :=
  (mSeq (mSet 2 (mCall f_check_counts [(.val (mV 0))]))
  (mSeq (mDrop (mCall f_check_most [(.val (mV 1))]))
  (mSeq (mIf (mOr (mTest (mS2 fEq (mV 1) (mC (.str "any")))) (mTest (mS2 fGt (mV 1) (mSn fLen [(mV 2)]))))
  (mRet (mSn fSum [(mCall f_product_sums [(.val (mV 2)), (.val (mSn fLen [(mV 2)]))])]))
  mNext)
  (mRet (mSn fSum [(mCall f_product_sums [(.val (mV 2)), (.val (mV 1))])])))))
def f_lookalike_number : List T → FRes := mkF [] 3 m_lookalike_number
/-! times_over -/
def m_times_over : SM :=
  (mSeq (mSet 2 (mC (.int 1)))
  (mSeq (whM (mTest (mS2 fGt (mV 1) (mC (.int 0))))
  (mSeq (mIf (mTest (mS2 fEq (mS2 fMod (mV 1) (mC (.int 2))) (mC (.int 1))))
  (mSet 2 (mD2 fMul (mV 2) (mV 0)))
  mNext)
  (mSeq (mSet 0 (mD2 fMul (mV 0) (mV 0)))
  (mSet 1 (mS2 fFdiv (mV 1) (mC (.int 2)))))) 100000)
  (mRet (mV 2))))
def f_times_over : List T → FRes := mkF [] 3 m_times_over
/-! mixed_ways -/
def m_mixed_ways : SM :=
  (mSeq (mSet 4 (mCall f_check_counts [(.val (mV 0))]))
  (mSeq (mDrop (mCall f_check_number [(.val (mV 1)), (.val (mC (.int 0)))]))
  (mSeq (mDrop (mCall f_check_number [(.val (mV 2)), (.val (mC (.int 0)))]))
  (mSeq (mDrop (mCall f_check_number [(.val (mV 3)), (.val (mC (.int 0)))]))
  (mSeq (mIf (mTest (mS2 fGt (mV 2) (mSn fLen [(mV 4)])))
  (mRet (mC (.int 0)))
  mNext)
  (mRet (mD2 fMul (mD2 fMul (mD2 fIx (mCall f_product_sums [(.val (mV 4)), (.val (mV 2))]) (mV 2)) (mCall f_chosen [(.val (mFz (mD2 fAdd (mSn fLen [(mV 4)]) (mV 3)))), (.val (mV 3))])) (mCall f_times_over [(.val (mV 1)), (.val (mV 3))]))))))))
def f_mixed_ways : List T → FRes := mkF [] 5 m_mixed_ways
/-! symmetric -/
def m_symmetric : SM :=
  (mSeq (mSet 2 (mCall f_check_counts [(.val (mV 0))]))
  (mSeq (mDrop (mCall f_check_number [(.val (mV 1)), (.val (mC (.int 0)))]))
  (mSeq (mIf (mTest (mS2 fGt (mV 1) (mSn fLen [(mV 2)])))
  (mRet (mC (.int 0)))
  mNext)
  (mRet (mD2 fIx (mCall f_product_sums [(.val (mV 2)), (.val (mV 1))]) (mV 1))))))
def f_symmetric : List T → FRes := mkF [] 3 m_symmetric
/-! _law_products -/
def m__law_products : SM :=
  (mSeq (mSet 4 (mCall f__law_sums [(.val (mV 1))]))
  (mSeq (mSet 5 (mDn fList [(mV 1)]))
  (mSeq (mFor (mRange1 [(mS2 fSub (mSn fLen [(mV 4)]) (mC (.int 1)))]) (tgName 6)
  (mSeq (mIf (mOr (mNot (mTest (mCall f__law_same [(.val (mFz (mCall f_symmetric [(.val (mV 1)), (.val (mV 6))]))), (.val (mD2 fIx (mV 4) (mV 6)))]))) (mNot (mTest (mCall f__law_same [(.val (mFz (mCall f_symmetric [(.val (mDn fTuple [(mV 5)])), (.val (mV 6))]))), (.val (mD2 fIx (mV 4) (mV 6)))]))))
  (mRet (mC (.bl false)))
  mNext)
  (mSeq (mSet 7 (mD2 fMul (mD2 fMul (mD2 fIx (mV 4) (mV 6)) (mCall f__law_choose [(.val (mFz (mD2 fAdd (mSn fLen [(mV 5)]) (mV 3)))), (.val (mV 3))])) (mCall f__law_power [(.val (mV 2)), (.val (mV 3))])))
  (mSeq (mIf (mNot (mTest (mCall f__law_same [(.val (mFz (mCall f_mixed_ways [(.val (mV 1)), (.val (mV 2)), (.val (mV 6)), (.val (mV 3))]))), (.val (mV 7))])))
  (mRet (mC (.bl false)))
  mNext)
  (mSeq (mIf (mNot (mTest (mCall f__law_same [(.val (mFz (mCall f_mixed_ways [(.val (mDn fTuple [(mV 5)])), (.val (mV 2)), (.val (mV 6)), (.val (mC (.int 0)))]))), (.val (mD2 fIx (mV 4) (mV 6)))])))
  (mRet (mC (.bl false)))
  mNext)
  (mIf (mNot (mTest (mCall f__law_same [(.val (mFz (mCall f_lookalike_number [(.val (mV 1)), (.val (mV 6))]))), (.val (mSn fSum [(mSlice (mV 4) none (some (mD2 fAdd (mV 6) (mC (.int 1)))))]))])))
  (mRet (mC (.bl false)))
  mNext))))))
  (mSeq (mSet 8 (mC (.int 1)))
  (mSeq (mFor (mIter (mV 5)) (tgName 9)
  (mSet 8 (mD2 fMul (mV 8) (mD2 fAdd (mC (.int 1)) (mV 9)))))
  (mSeq (mIf (mOr (mNot (mTest (mCall f__law_same [(.val (mFz (mCall f_lookalike_number [(.val (mV 1)), (.val (mC (.str "any")))]))), (.val (mV 8))]))) (mTest (mS2 fNe (mV 1) (mV 5))))
  (mRet (mC (.bl false)))
  mNext)
  (mSeq (mPar [10, 11, 6] [(mD2 fAdd (mC (.int 20)) (mD2 fMul (mC (.int 8)) (mCall f__law_pick [(.lend 0), (.val (mC (.int 24)))]))), (mCall f__law_pick [(.lend 0), (.val (mC (.int 24)))]), (mCall f__law_pick [(.lend 0), (.val (mC (.int 24)))])])
  (mRet (mCall f__law_same [(.val (mFz (mCall f_symmetric [(.val (mFz (mD2 fMul (mLst [(mV 11)]) (mV 10)))), (.val (mV 6))]))), (.val (mFz (mD2 fMul (mCall f__law_choose [(.val (mV 10)), (.val (mV 6))]) (mCall f__law_power [(.val (mV 11)), (.val (mV 6))]))))])))))))))
def f__law_products : List T → FRes := mkF [0] 12 m__law_products
/-! _law_purse -/
def m__law_purse : SM :=
  (mSeq (mSetO 1 (mLst []))
  (mSeq (mFor (mRange1 [(mSn fMin [(mSn fLen [(mV 0)]), (mC (.int 24))])]) (tgName 2)
  (mSeq (mSet 3 (mS2 fMod (mSn fInt [(mD2 fIx (mV 0) (mV 2))]) (mS2 fPow (mC (.int 24)) (mC (.int 20)))))
  (mFor (mRange1 [(mC (.int 20))]) (tgName 4)
  (mSeq (mDrop (mAppend 1 (mS2 fMod (mV 3) (mC (.int 24)))))
  (mSeq (mSet 3 (mS2 fFdiv (mV 3) (mC (.int 24))))
  (mIf (mTest (mS2 fEq (mV 3) (mC (.int 0))))
  mBreak
  mNext))))))
  (mRet (mLst [(mC (.int 0)), (mShare 1)]))))
def f__law_purse : List T → FRes := mkF [] 5 m__law_purse
/-! _law_scattered -/
def m__law_scattered : SM :=
  (mSeq (mSet 3 (mD2 fAdd (mLst [(mC (.int 1))]) (mD2 fMul (mLst [(mC (.int 0))]) (mV 0))))
  (mSeq (mFor (mRange1 [(mD2 fAdd (mV 0) (mV 1))]) (tgName 4)
  (mSet 3 (mD2 fAdd (mLst [(mFz (mD2 fMul (mD2 fIx (mV 3) (mC (.int 0))) (mV 2)))]) (mComp [5] (mRange2 [(mC (.int 1)), (mD2 fAdd (mV 0) (mC (.int 1)))]) (tgName 5) mYes (mD2 fAdd (mD2 fIx (mV 3) (mS2 fSub (mV 5) (mC (.int 1)))) (mD2 fMul (mS2 fSub (mV 2) (mC (.int 1))) (mD2 fIx (mV 3) (mV 5))))))))
  (mRet (mD2 fIx (mV 3) (mV 0)))))
def f__law_scattered : List T → FRes := mkF [] 6 m__law_scattered
/-! doubling_number -/
def m_doubling_number : SM :=
  (mSeq (mDrop (mCall f_check_number [(.val (mV 0)), (.val (mC (.int 1)))]))
  (mSeq (mDrop (mCall f_check_number [(.val (mV 1)), (.val (mC (.int 1)))]))
  (mSeq (mDrop (mCall f_check_number [(.val (mV 2)), (.val (mC (.int 0)))]))
  (mSeq (mIf (mTest (mS2 fGt (mV 1) (mV 0)))
  (mRaise "BadCase" "at" (mC (.str "runs")))
  mNext)
  (mRet (mCall f_chosen [(.val (mS2 fSub (mD2 fAdd (mV 2) (mV 1)) (mC (.int 1)))), (.val (mV 2))]))))))
def f_doubling_number : List T → FRes := mkF [] 3 m_doubling_number
/-! noise_number -/
def m_noise_number : SM :=
  (mSeq (mDrop (mCall f_check_number [(.val (mV 0)), (.val (mC (.int 0)))]))
  (mSeq (mDrop (mCall f_check_number [(.val (mV 1)), (.val (mC (.int 0)))]))
  (mSeq (mDrop (mCall f_check_number [(.val (mV 2)), (.val (mC (.int 0)))]))
  (mRet (mD2 fMul (mCall f_chosen [(.val (mFz (mD2 fAdd (mV 0) (mV 1)))), (.val (mV 1))]) (mCall f_times_over [(.val (mV 2)), (.val (mV 1))]))))))
def f_noise_number : List T → FRes := mkF [] 3 m_noise_number
/-! scattered_number -/
def m_scattered_number : SM :=
  (mSeq (mDrop (mCall f_check_number [(.val (mV 0)), (.val (mC (.int 0)))]))
  (mSeq (mDrop (mCall f_check_number [(.val (mV 1)), (.val (mC (.int 0)))]))
  (mSeq (mDrop (mCall f_check_number [(.val (mV 2)), (.val (mC (.int 1)))]))
  (mSeq (mSet 3 (mC (.int 0)))
  (mSeq (mSet 4 (mC (.int 1)))
  (mSeq (mSet 5 (mC (.int 1)))
  (mSeq (mFor (mRange1 [(mD2 fAdd (mV 1) (mC (.int 1)))]) (tgName 6)
  (mSeq (mSet 3 (mD2 fAdd (mV 3) (mD2 fMul (mV 4) (mV 5))))
  (mSeq (mSet 4 (mS2 fFdiv (mD2 fMul (mV 4) (mS2 fSub (mD2 fAdd (mV 0) (mV 1)) (mV 6))) (mD2 fAdd (mV 6) (mC (.int 1)))))
  (mSet 5 (mD2 fMul (mV 5) (mS2 fSub (mV 2) (mC (.int 1))))))))
  (mRet (mV 3)))))))))
def f_scattered_number : List T → FRes := mkF [] 7 m_scattered_number
/-! _law_put_in -/
def m__law_put_in : SM :=
  (mSeq (mSet 3 (mD2 fIx (mTup [(mC (.int 2)), (mC (.int 1)), (mC (.int 0)), (mC (.int 3)), (mC (.int 2000)), (mC (.int 23))]) (mCall f__law_pick [(.lend 0), (.val (mC (.int 6)))])))
  (mSeq (mIf (mNot (mTest (mCall f__law_same [(.val (mFz (mCall f_noise_number [(.val (mV 1)), (.val (mV 2)), (.val (mV 3))]))), (.val (mFz (mD2 fMul (mCall f__law_choose [(.val (mFz (mD2 fAdd (mV 1) (mV 2)))), (.val (mV 2))]) (mCall f__law_power [(.val (mV 3)), (.val (mV 2))]))))])))
  (mRet (mC (.bl false)))
  mNext)
  (mSeq (mPar [4, 5] [(mD2 fAdd (mC (.int 1)) (mCall f__law_pick [(.lend 0), (.val (mC (.int 12)))])), (mSn fMin [(mV 2), (mC (.int 30))])])
  (mSeq (mSet 6 (mD2 fAdd (mD2 fAdd (mC (.int 1)) (mV 5)) (mCall f__law_pick [(.lend 0), (.val (mC (.int 6)))])))
  (mSeq (mIf (mNot (mTest (mCall f__law_same [(.val (mFz (mCall f_scattered_number [(.val (mSn fMin [(mV 1), (mC (.int 40))])), (.val (mV 5)), (.val (mV 4))]))), (.val (mFz (mCall f__law_scattered [(.val (mSn fMin [(mV 1), (mC (.int 40))])), (.val (mV 5)), (.val (mV 4))])))])))
  (mRet (mC (.bl false)))
  mNext)
  (mSeq (mIf (mNot (mTest (mCall f__law_same [(.val (mFz (mCall f_scattered_number [(.val (mC (.int 0))), (.val (mV 6)), (.val (mV 4))]))), (.val (mFz (mCall f__law_power [(.val (mV 4)), (.val (mV 6))])))])))
  (mRet (mC (.bl false)))
  mNext)
  (mSeq (mSet 7 (mS2 fSub (mC (.int 2000)) (mCall f__law_pick [(.lend 0), (.val (mC (.int 24)))])))
  (mSeq (mSet 8 (mD2 fAdd (mC (.int 1)) (mD2 fMul (mV 7) (mS2 fSub (mV 4) (mC (.int 1))))))
  (mSeq (mIf (mNot (mTest (mCall f__law_same [(.val (mFz (mCall f_scattered_number [(.val (mS2 fSub (mV 7) (mC (.int 1)))), (.val (mC (.int 1))), (.val (mV 4))]))), (.val (mV 8))])))
  (mRet (mC (.bl false)))
  mNext)
  (mSeq (mSet 9 (mD2 fAdd (mC (.int 1)) (mS2 fMod (mSn fInt [(mCall f__law_pick [(.lend 0), (.val (mC (.int 24)))])]) (mD2 fAdd (mV 1) (mC (.int 1))))))
  (mSeq (mIf (mNot (mTest (mCall f__law_same [(.val (mFz (mCall f_doubling_number [(.val (mFz (mD2 fAdd (mV 1) (mC (.int 1))))), (.val (mV 9)), (.val (mV 2))]))), (.val (mFz (mCall f__law_choose [(.val (mS2 fSub (mD2 fAdd (mV 2) (mV 9)) (mC (.int 1)))), (.val (mS2 fSub (mV 9) (mC (.int 1))))])))])))
  (mRet (mC (.bl false)))
  mNext)
  (mRet (mAndV (mCall f__law_same [(.val (mFz (mCall f_doubling_number [(.val (mFz (mD2 fAdd (mV 1) (mC (.int 1))))), (.val (mC (.int 1))), (.val (mV 2))]))), (.val (mC (.int 1)))]) (mCall f__law_same [(.val (mFz (mCall f_doubling_number [(.val (mV 7)), (.val (mV 7)), (.val (mC (.int 1)))]))), (.val (mV 7))]))))))))))))))
def f__law_put_in : List T → FRes := mkF [0] 10 m__law_put_in
/-! turning_by -/
def m_turning_by : SM :=
  (mSeq (mDrop (mCall f_check_number [(.val (mV 0)), (.val (mC (.int 0)))]))
  (mSeq (mDrop (mCall f_check_number [(.val (mV 1)), (.val (mC (.int 0)))]))
  (mSeq (mIf (mTest (mS2 fGt (mD2 fMul (mC (.int 2)) (mV 1)) (mV 0)))
  (mRet (mC (.int 0)))
  mNext)
  (mRet (mCall f_chosen [(.val (mS2 fSub (mV 0) (mV 1))), (.val (mV 1))])))))
def f_turning_by : List T → FRes := mkF [] 2 m_turning_by
/-! turning_number -/
def m_turning_number : SM :=
  (mSeq (mDrop (mCall f_check_number [(.val (mV 0)), (.val (mC (.int 0)))]))
  (mSeq (mAsg (tgTup [(tgName 1), (tgName 2)]) (mTup [(mC (.int 1)), (mC (.int 1))]))
  (mSeq (mFor (mRange1 [(mV 0)]) (tgName 3)
  (mPar [1, 2] [(mV 2), (mD2 fAdd (mV 1) (mV 2))]))
  (mRet (mV 1)))))
def f_turning_number : List T → FRes := mkF [] 4 m_turning_number
/-! _law_call -/
def m__law_call : SM :=
  (mSeq (mIf (mTest (mS2 fEq (mSn fLen [(mV 1)]) (mC (.int 1))))
  (mRet (mCallL 0 [("turning_number", f_turning_number)] [(.val (mD2 fIx (mV 1) (mC (.int 0))))]))
  mNext)
  (mSeq (mIf (mTest (mS2 fEq (mSn fLen [(mV 1)]) (mC (.int 2))))
  (mRet (mCallL 0 [("choose", f_choose), ("lookalike_number", f_lookalike_number), ("symmetric", f_symmetric), ("turning_by", f_turning_by)] [(.val (mD2 fIx (mV 1) (mC (.int 0)))), (.val (mD2 fIx (mV 1) (mC (.int 1))))]))
  mNext)
  (mSeq (mIf (mTest (mS2 fEq (mSn fLen [(mV 1)]) (mC (.int 3))))
  (mRet (mCallL 0 [("doubling_number", f_doubling_number), ("noise_number", f_noise_number), ("scattered_number", f_scattered_number)] [(.val (mD2 fIx (mV 1) (mC (.int 0)))), (.val (mD2 fIx (mV 1) (mC (.int 1)))), (.val (mD2 fIx (mV 1) (mC (.int 2))))]))
  mNext)
  (mRet (mCallL 0 [("mixed_ways", f_mixed_ways)] [(.val (mD2 fIx (mV 1) (mC (.int 0)))), (.val (mD2 fIx (mV 1) (mC (.int 1)))), (.val (mD2 fIx (mV 1) (mC (.int 2)))), (.val (mD2 fIx (mV 1) (mC (.int 3))))])))))
def f__law_call : List T → FRes := mkF [] 2 m__law_call
/-! _law_is_heard -/
def m__law_is_heard : SM :=
  (mSeq (mAsg (tgTup [(tgName 4), (tgName 5)]) (mTup [(mC (.str "none")), (mC .non)]))
  (mSeq (mTry tab (mDrop (mCall f__law_call [(.val (mV 0)), (.val (mV 1))]))
  [⟨"BadNumber", some 6, fun f' dv ρ => if f' = "at" then putL [(5, .leaf dv), (4, .leaf (.str "BadNumber"))] ρ else .stuck⟩,
  ⟨"BadLot", some 6, fun f' dv ρ => if f' = "at" then putL [(5, .leaf dv), (4, .leaf (.str "BadLot"))] ρ else .stuck⟩,
  ⟨"BadCase", some 6, fun f' dv ρ => if f' = "at" then putL [(5, .leaf dv), (4, .leaf (.str "BadCase"))] ρ else .stuck⟩,
  ⟨"DisguiseError", none, fun _ _ => (mSet 4 (mC (.str "other")))⟩])
  (mRet (mAndV (mS2 fEq (mV 4) (mV 2)) (mS2 fEq (mSn fReprX [(mV 5)]) (mSn fReprX [(mV 3)]))))))
def f__law_is_heard : List T → FRes := mkF [] 7 m__law_is_heard
/-! _law_first_told -/
def m__law_first_told : SM :=
  (mSeq (mIf (mNot (mTest (mCall f__law_is_heard [(.val (mV 0)), (.val (mV 1)), (.val (mC (.str "none"))), (.val (mC .non))])))
  (mRet (mC (.bl false)))
  mNext)
  (mSeq (mFor (mRange1 [(mSn fLen [(mV 1)])]) (tgName 5)
  (mSeq (mSetO 6 (mDn fList [(mV 1)]))
  (mSeq (mSetIx 6 (mV 5) (mD2 fIx (mV 2) (mV 5)))
  (mSeq (mFor (mRange2 [(mD2 fAdd (mV 5) (mC (.int 1))), (mSn fLen [(mV 1)])]) (tgName 7)
  (mIf (mTest (mS2 fGt (mD2 fIx (mV 4) (mV 7)) (mC (.int 0))))
  (mSetIx 6 (mV 7) (mD2 fIx (mV 2) (mV 7)))
  mNext))
  (mSeq (mSet 8 (mC (.str "BadNumber")))
  (mSeq (mIf (mTest (mIsi ["tuple"] (mD2 fIx (mV 1) (mV 5))))
  (mSet 8 (mC (.str "BadLot")))
  mNext)
  (mIf (mNot (mTest (mCall f__law_is_heard [(.val (mV 0)), (.val (mShare 6)), (.val (mV 8)), (.val (mD2 fIx (mV 3) (mV 5)))])))
  (mRet (mC (.bl false)))
  mNext)))))))
  (mRet (mC (.bl true)))))
def f__law_first_told : List T → FRes := mkF [] 9 m__law_first_told
/-! _law_wrong -/
def m__law_wrong : SM :=
  (mSeq (mSet 2 (mTup [(mTup [(mNeg (mC (.int 1))), (mNeg (mC (.int 1)))]), (mTup [(mC .non), (mC .non)]), (mTup [(mC (.bl true)), (mC (.bl true))]), (mTup [(mC (.str "3")), (mC (.str "3"))]), (mTup [(mTup [(mC (.int 2))]), (mTup [(mC (.int 2))])]), (mTup [(mLst [(mC (.int 4)), (mFz (mLst [(mC (.int 5))]))]), (mTup [(mC (.int 4)), (mTup [(mC (.int 5))])])]), (mTup [(mC (.bl false)), (mC (.bl false))])]))
  (mRet (mD2 fIx (mD2 fAdd (mV 2) (mTup [(mTup [(mS2 fSub (mV 1) (mC (.int 1))), (mS2 fSub (mV 1) (mC (.int 1)))])])) (mCall f__law_pick [(.lend 0), (.val (mC (.int 8)))]))))
def f__law_wrong : List T → FRes := mkF [0] 3 m__law_wrong
/-! _law_refusals -/
def m__law_refusals : SM :=
  (mSeq (mPar [2, 3] [(mCall f__law_wrong [(.lend 0), (.val (mC (.int 0)))]), (mCall f__law_wrong [(.lend 0), (.val (mC (.int 0)))])])
  (mSeq (mPar [4, 5] [(mCall f__law_wrong [(.lend 0), (.val (mC (.int 1)))]), (mCall f__law_wrong [(.lend 0), (.val (mC (.int 1)))])])
  (mSeq (mSet 6 (mCall f__law_pick [(.lend 0), (.val (mC (.int 4)))]))
  (mSeq (mSet 7 (mD2 fAdd (mSlice (mLst [(mC (.int 3)), (mC (.int 0)), (mC (.int 0)), (mC (.int 7))]) none (some (mV 6))) (mLst [(mD2 fIx (mV 2) (mC (.int 0))), (mC (.int 2)), (mNeg (mC (.int 5)))])))
  (mSeq (mAsg (tgTup [(tgName 8), (tgName 9)]) (mD2 fIx (mTup [(mTup [(mV 7), (mV 6)]), (mTup [(mC .non), (mNeg (mC (.int 1)))]), (mTup [(mC (.int 7)), (mNeg (mC (.int 1)))]), (mTup [(mC (.str "12")), (mNeg (mC (.int 1)))])]) (mCall f__law_pick [(.lend 0), (.val (mC (.int 4)))])))
  (mSeq (mIf (mNot (mTest (mCall f__law_first_told [(.val (mC (.glo "choose"))), (.val (mTup [(mC (.int 5)), (mC (.int 2))])), (.val (mTup [(mD2 fIx (mV 2) (mC (.int 0))), (mD2 fIx (mV 3) (mC (.int 0)))])), (.val (mTup [(mD2 fIx (mV 2) (mC (.int 1))), (mD2 fIx (mV 3) (mC (.int 1)))])), (.val (mV 1))])))
  (mRet (mC (.bl false)))
  mNext)
  (mSeq (mIf (mNot (mTest (mCall f__law_first_told [(.val (mC (.glo "symmetric"))), (.val (mTup [(mTup [(mC (.int 1)), (mC (.int 2))]), (mC (.int 1))])), (.val (mTup [(mV 8), (mD2 fIx (mV 3) (mC (.int 0)))])), (.val (mTup [(mV 9), (mD2 fIx (mV 3) (mC (.int 1)))])), (.val (mV 1))])))
  (mRet (mC (.bl false)))
  mNext)
  (mSeq (mPar [10, 11] [(mTup [(mV 8), (mD2 fIx (mV 2) (mC (.int 0))), (mD2 fIx (mV 3) (mC (.int 0))), (mD2 fIx (mV 2) (mC (.int 0)))]), (mTup [(mV 9), (mD2 fIx (mV 2) (mC (.int 1))), (mD2 fIx (mV 3) (mC (.int 1))), (mD2 fIx (mV 2) (mC (.int 1)))])])
  (mSeq (mIf (mNot (mTest (mCall f__law_first_told [(.val (mC (.glo "mixed_ways"))), (.val (mTup [(mTup [(mC (.int 1)), (mC (.int 1))]), (mC (.int 1)), (mC (.int 1)), (mC (.int 1))])), (.val (mV 10)), (.val (mV 11)), (.val (mV 1))])))
  (mRet (mC (.bl false)))
  mNext)
  (mSeq (mIf (mNot (mTest (mCall f__law_first_told [(.val (mC (.glo "lookalike_number"))), (.val (mTup [(mTup [(mC (.int 0)), (mC (.int 2))]), (mC (.int 1))])), (.val (mTup [(mV 8), (mD2 fIx (mV 2) (mC (.int 0)))])), (.val (mTup [(mV 9), (mD2 fIx (mV 2) (mC (.int 1)))])), (.val (mV 1))])))
  (mRet (mC (.bl false)))
  mNext)
  (mSeq (mIf (mNot (mTest (mCall f__law_is_heard [(.val (mC (.glo "lookalike_number"))), (.val (mTup [(mTup [(mC (.int 0)), (mC (.int 2))]), (mC (.str "all"))])), (.val (mC (.str "BadNumber"))), (.val (mC (.str "all")))])))
  (mRet (mC (.bl false)))
  mNext)
  (mSeq (mIf (mNot (mTest (mCall f__law_first_told [(.val (mC (.glo "noise_number"))), (.val (mTup [(mC (.int 2)), (mC (.int 1)), (mC (.int 1))])), (.val (mTup [(mD2 fIx (mV 2) (mC (.int 0))), (mD2 fIx (mV 3) (mC (.int 0))), (mD2 fIx (mV 2) (mC (.int 0)))])), (.val (mTup [(mD2 fIx (mV 2) (mC (.int 1))), (mD2 fIx (mV 3) (mC (.int 1))), (mD2 fIx (mV 2) (mC (.int 1)))])), (.val (mV 1))])))
  (mRet (mC (.bl false)))
  mNext)
  (mSeq (mIf (mNot (mTest (mCall f__law_first_told [(.val (mC (.glo "scattered_number"))), (.val (mTup [(mC (.int 2)), (mC (.int 1)), (mC (.int 1))])), (.val (mTup [(mD2 fIx (mV 2) (mC (.int 0))), (mD2 fIx (mV 3) (mC (.int 0))), (mD2 fIx (mV 4) (mC (.int 0)))])), (.val (mTup [(mD2 fIx (mV 2) (mC (.int 1))), (mD2 fIx (mV 3) (mC (.int 1))), (mD2 fIx (mV 4) (mC (.int 1)))])), (.val (mV 1))])))
  (mRet (mC (.bl false)))
  mNext)
  (mSeq (mIf (mNot (mTest (mCall f__law_first_told [(.val (mC (.glo "doubling_number"))), (.val (mTup [(mC (.int 3)), (mC (.int 3)), (mC (.int 0))])), (.val (mTup [(mD2 fIx (mV 4) (mC (.int 0))), (mD2 fIx (mV 5) (mC (.int 0))), (mD2 fIx (mV 3) (mC (.int 0)))])), (.val (mTup [(mD2 fIx (mV 4) (mC (.int 1))), (mD2 fIx (mV 5) (mC (.int 1))), (mD2 fIx (mV 3) (mC (.int 1)))])), (.val (mV 1))])))
  (mRet (mC (.bl false)))
  mNext)
  (mSeq (mIf (mNot (mTest (mCall f__law_is_heard [(.val (mC (.glo "doubling_number"))), (.val (mTup [(mD2 fAdd (mC (.int 2)) (mV 6)), (mD2 fAdd (mC (.int 3)) (mV 6)), (mC (.int 0))])), (.val (mC (.str "BadCase"))), (.val (mC (.str "runs")))])))
  (mRet (mC (.bl false)))
  mNext)
  (mSeq (mIf (mNot (mTest (mCall f__law_is_heard [(.val (mC (.glo "doubling_number"))), (.val (mTup [(mD2 fAdd (mC (.int 2)) (mV 6)), (mD2 fAdd (mC (.int 3)) (mV 6)), (mD2 fIx (mV 3) (mC (.int 0)))])), (.val (mC (.str "BadNumber"))), (.val (mD2 fIx (mV 3) (mC (.int 1))))])))
  (mRet (mC (.bl false)))
  mNext)
  (mSeq (mIf (mNot (mTest (mCall f__law_first_told [(.val (mC (.glo "turning_number"))), (.val (mTup [(mC (.int 3))])), (.val (mTup [(mD2 fIx (mV 2) (mC (.int 0)))])), (.val (mTup [(mD2 fIx (mV 2) (mC (.int 1)))])), (.val (mV 1))])))
  (mRet (mC (.bl false)))
  mNext)
  (mRet (mCall f__law_first_told [(.val (mC (.glo "turning_by"))), (.val (mTup [(mC (.int 3)), (mC (.int 1))])), (.val (mTup [(mD2 fIx (mV 2) (mC (.int 0))), (mD2 fIx (mV 3) (mC (.int 0)))])), (.val (mTup [(mD2 fIx (mV 2) (mC (.int 1))), (mD2 fIx (mV 3) (mC (.int 1)))])), (.val (mV 1))])))))))))))))))))))
def f__law_refusals : List T → FRes := mkF [0] 12 m__law_refusals
/-! _law_turned -/
def m__law_turned : SM :=
  (mSeq (mSetO 1 (mLst [(mFz (mLst [(mC (.int 1))])), (mFz (mLst [(mC (.int 1))]))]))
  (mSeq (mFor (mRange2 [(mC (.int 2)), (mD2 fAdd (mV 0) (mC (.int 1)))]) (tgName 2)
  (mSeq (mAsg (tgTup [(tgName 3), (tgName 4)]) (mTup [(mD2 fAdd (mIxPk 1 (mS2 fSub (mV 2) (mC (.int 1)))) (mLst [(mC (.int 0))])), (mD2 fAdd (mD2 fAdd (mLst [(mC (.int 0))]) (mIxPk 1 (mS2 fSub (mV 2) (mC (.int 2))))) (mLst [(mC (.int 0))]))]))
  (mDrop (mAppend 1 (mFz (mComp [5] (mRange1 [(mSn fLen [(mV 3)])]) (tgName 5) mYes (mD2 fAdd (mD2 fIx (mV 3) (mV 5)) (mD2 fIx (mV 4) (mV 5)))))))))
  (mRet (mIxPk 1 (mV 0)))))
def f__law_turned : List T → FRes := mkF [] 6 m__law_turned
/-! _law_turnings -/
def m__law_turnings : SM :=
  (mSeq (mAsg (tgTup [(tgName 2), (tgName 3)]) (mTup [(mC (.int 1)), (mC (.int 1))]))
  (mSeq (mFor (mRange1 [(mV 0)]) (tgName 4)
  (mPar [2, 3] [(mV 3), (mD2 fAdd (mV 2) (mV 3))]))
  (mSeq (mIf (mOr (mNot (mTest (mCall f__law_same [(.val (mFz (mCall f_turning_number [(.val (mV 0))]))), (.val (mV 2))]))) (mNot (mTest (mCall f__law_same [(.val (mFz (mCall f_turning_by [(.val (mV 0)), (.val (mC (.int 0)))]))), (.val (mC (.int 1)))]))))
  (mRet (mC (.bl false)))
  mNext)
  (mSeq (mIf (mNot (mTest (mCall f__law_same [(.val (mFz (mCall f_turning_by [(.val (mV 0)), (.val (mV 1))]))), (.val (mFz (mCall f__law_choose [(.val (mSn fMax [(mS2 fSub (mV 0) (mV 1)), (mC (.int 0))])), (.val (mV 1))])))])))
  (mRet (mC (.bl false)))
  mNext)
  (mSeq (mSet 5 (mD2 fAdd (mCall f__law_turned [(.val (mSn fMin [(mV 0), (mC (.int 60))]))]) (mLst [(mC (.int 0)), (mC (.int 0))])))
  (mSeq (mSet 6 (mSn fMin [(mV 0), (mC (.int 60))]))
  (mSeq (mIf (mTest (mS2 fGt (mSn fLen [(mComp [7] (mRange1 [(mSn fLen [(mV 5)])]) (tgName 7) (mNot (mTest (mCall f__law_same [(.val (mFz (mCall f_turning_by [(.val (mV 6)), (.val (mV 7))]))), (.val (mD2 fIx (mV 5) (mV 7)))]))) (mV 7))]) (mC (.int 0))))
  (mRet (mC (.bl false)))
  mNext)
  (mRet (mAndV (mS2 fEq (mSn fSum [(mV 5)]) (mCall f_turning_number [(.val (mV 6))])) (mCall f__law_same [(.val (mFz (mCall f_turning_number [(.val (mC (.int 0)))]))), (.val (mC (.int 1)))]))))))))))
def f__law_turnings : List T → FRes := mkF [] 8 m__law_turnings
/-! law -/
def m_law : SM :=
  (mSeq (mSetO 1 (mCall f__law_purse [(.val (mV 0))]))
  (mSeq (mSet 2 (mComp [4] (mRange1 [(mC (.int 4))]) (tgName 4) mYes (mCall f__law_pick [(.lend 1), (.val (mC (.int 2)))])))
  (mSeq (mPar [3, 4] [(mCall f__law_number [(.lend 1), (.val (mC (.int 400)))]), (mCall f__law_number [(.lend 1), (.val (mC (.int 400)))])])
  (mSeq (mSet 5 (mCall f__law_pick [(.lend 1), (.val (mC (.int 24)))]))
  (mSeq (mSet 6 (mCall f__law_numbers [(.lend 1)]))
  (mSeq (mIf (mOr (mNot (mTest (mCall f__law_choices [(.lend 1), (.val (mV 3)), (.val (mV 4))]))) (mNot (mTest (mCall f__law_products [(.lend 1), (.val (mV 6)), (.val (mV 5)), (.val (mSn fMin [(mV 4), (mC (.int 60))]))]))))
  (mRet (mC (.bl false)))
  mNext)
  (mSeq (mIf (mOr (mNot (mTest (mCall f__law_put_in [(.lend 1), (.val (mV 3)), (.val (mV 4))]))) (mNot (mTest (mCall f__law_turnings [(.val (mV 3)), (.val (mV 4))]))))
  (mRet (mC (.bl false)))
  mNext)
  (mRet (mCall f__law_refusals [(.lend 1), (.val (mV 2))])))))))))
def f_law : List T → FRes := mkF [] 7 m_law
/-! facts -/
def ts : List Te :=
  [fun K => (Fa.ok K (.free "min")),
  fun K => (Fa.ok K (.free "range")),
  fun K => (Fa.ok K (.glo "_law_choose")),
  fun K => (Fa.ok K (.free "len")),
  fun K => (Fa.ok K (.glo "_law_pascal")),
  fun K => (Fa.ok K (.glo "_law_pick")),
  fun K => (Fa.ok K (.free "isinstance")),
  fun K => (Fa.ok K (.free "int")),
  fun K => (Fa.ok K (.free "bool")),
  fun K => (Fa.ok K (.glo "_law_same")),
  fun K => (Fa.ok K (.glo "is_int")),
  fun K => (Fa.ok K (.free "list")),
  fun K => (Fa.ok K (.free "tuple")),
  fun K => (Fa.ok K (.glo "plain_form")),
  fun K => (Fa.ok K (.glo "check_number")),
  fun K => (Fa.ok K (.glo "chosen")),
  fun K => (Fa.ok K (.glo "choose")),
  fun K => (Fa.ok K (.glo "_law_choices")),
  fun K => (Fa.ok K (.glo "_law_number")),
  fun K => (Fa.ok K (.glo "_law_numbers")),
  fun K => (Fa.ok K (.glo "_law_power")),
  fun K => (Fa.ok K (.glo "_law_sums")),
  fun K => (Fa.ok K (.glo "is_list")),
  fun K => (Fa.ok K (.glo "check_counts")),
  fun K => (Fa.ok K (.free "str")),
  fun K => (Fa.ok K (.glo "check_most")),
  fun K => (Fa.ok K (.glo "product_sums")),
  fun K => (Fa.ok K (.free "sum")),
  fun K => (Fa.ok K (.glo "lookalike_number")),
  fun K => (Fa.ok K (.glo "times_over")),
  fun K => (Fa.ok K (.glo "mixed_ways")),
  fun K => (Fa.ok K (.glo "symmetric")),
  fun K => (Fa.ok K (.glo "_law_products")),
  fun K => (Fa.ok K (.glo "_law_purse")),
  fun K => (Fa.ok K (.glo "_law_scattered")),
  fun K => (Fa.ok K (.glo "doubling_number")),
  fun K => (Fa.ok K (.glo "noise_number")),
  fun K => (Fa.ok K (.glo "scattered_number")),
  fun K => (Fa.ok K (.glo "_law_put_in")),
  fun K => (Fa.ok K (.glo "turning_by")),
  fun K => (Fa.ok K (.glo "turning_number")),
  fun K => (Fa.ok K (.glo "_law_call")),
  fun K => (Fa.ok K (.glo "BadNumber")),
  (fldIn tab "at"),
  fun K => (Fa.ok K (.glo "BadLot")),
  fun K => (Fa.ok K (.glo "BadCase")),
  fun K => (Fa.ok K (.glo "DisguiseError")),
  (tabIn tab ["BadNumber", "BadLot", "BadCase", "DisguiseError"]),
  fun K => (Fa.ok K (.free "repr")),
  fun K => (Fa.ok K (.glo "_law_is_heard")),
  fun K => (Fa.ok K (.glo "_law_first_told")),
  fun K => (Fa.ok K (.glo "_law_wrong")),
  fun K => (Fa.ok K (.glo "_law_refusals")),
  fun K => (Fa.ok K (.glo "_law_turned")),
  fun K => (Fa.ok K (.free "max")),
  fun K => (Fa.ok K (.glo "_law_turnings")),
  fun K => (Fa.ok K (.glo "law")),
  (xcIn "BadCase" "at"),
  (xcIn "BadLot" "at"),
  (xcIn "BadNumber" "at")]
def fn : List FnD :=
  [dOf "_law_choose" (top 31),
  dOf "_law_pascal" (top 32),
  dOf "_law_pick" (top 27),
  dOf "_law_same" (top 36),
  dOf "is_int" (top 6),
  dOf "plain_form" (top 8),
  dOf "check_number" (top 9),
  dOf "chosen" (top 13),
  dOf "choose" (top 16),
  dOf "_law_choices" (top 37),
  dOf "_law_number" (top 28),
  dOf "_law_numbers" (top 29),
  dOf "_law_power" (top 30),
  dOf "_law_sums" (top 33),
  dOf "is_list" (top 7),
  dOf "check_counts" (top 12),
  dOf "check_most" (top 10),
  dOf "product_sums" (top 15),
  dOf "lookalike_number" (top 19),
  dOf "times_over" (top 14),
  dOf "mixed_ways" (top 18),
  dOf "symmetric" (top 17),
  dOf "_law_products" (top 38),
  dOf "_law_purse" (top 26),
  dOf "_law_scattered" (top 34),
  dOf "doubling_number" (top 22),
  dOf "noise_number" (top 20),
  dOf "scattered_number" (top 21),
  dOf "_law_put_in" (top 39),
  dOf "turning_by" (top 24),
  dOf "turning_number" (top 23),
  dOf "_law_call" (top 41),
  dOf "_law_is_heard" (top 42),
  dOf "_law_first_told" (top 43),
  dOf "_law_wrong" (top 44),
  dOf "_law_refusals" (top 45),
  dOf "_law_turned" (top 35),
  dOf "_law_turnings" (top 40),
  dOf "law" (top 46),
  iOf "BadCase" "BadCase.__init__" (inClass (top 4) 0),
  iOf "BadLot" "BadLot.__init__" (inClass (top 3) 0),
  iOf "BadNumber" "BadNumber.__init__" (inClass (top 2) 0)]
section
variable {P : Program} {w : World} {K : PySem.W.Frag} {mg : Str → Option Value} {base : Heap}
theorem sx_BadCase : FnScope ["self", "at"] ["self", "at"] (defScope (inClass (top 4) 0)) := ⟨rfl, rfl, rfl, by decide +kernel, rfl, by decide +kernel, by decide +kernel⟩
theorem exc_BadCase (M : Mo ts fn K mg) : ExcC K mg P w base "BadCase" "at" (ga K "BadCase") := M.exc 57 39 rfl rfl sx_BadCase rfl (.inl rfl) (.inl rfl) (by decide) (by decide) (fun _ _ _ _ _ _ us hl => match us, hl with | [_, _], _ => rfl)
theorem sx_BadLot : FnScope ["self", "at"] ["self", "at"] (defScope (inClass (top 3) 0)) := ⟨rfl, rfl, rfl, by decide +kernel, rfl, by decide +kernel, by decide +kernel⟩
theorem exc_BadLot (M : Mo ts fn K mg) : ExcC K mg P w base "BadLot" "at" (ga K "BadLot") := M.exc 58 40 rfl rfl sx_BadLot rfl (.inl rfl) (.inl rfl) (by decide) (by decide) (fun _ _ _ _ _ _ us hl => match us, hl with | [_, _], _ => rfl)
theorem sx_BadNumber : FnScope ["self", "at"] ["self", "at"] (defScope (inClass (top 2) 0)) := ⟨rfl, rfl, rfl, by decide +kernel, rfl, by decide +kernel, by decide +kernel⟩
theorem exc_BadNumber (M : Mo ts fn K mg) : ExcC K mg P w base "BadNumber" "at" (ga K "BadNumber") := M.exc 59 41 rfl rfl sx_BadNumber rfl (.inl rfl) (.inl rfl) (by decide) (by decide) (fun _ _ _ _ _ _ us hl => match us, hl with | [_, _], _ => rfl)
theorem sc__law_choose : FnScope ["n", "k", "top", "low", "i"] ["n", "k"] (defScope (top 31)) := ⟨rfl, rfl, rfl, by decide +kernel, rfl, by decide +kernel, by decide +kernel⟩
theorem ok__law_choose (M : Mo ts fn K mg) : Good P w K mg base 1 "_law_choose" ["n", "k"] [] f__law_choose :=
  good_of (k := 0) (N := ["n", "k", "top", "low", "i"]) (body := m__law_choose) (M.fun_ 0 rfl) (M.glo 2 rfl) sc__law_choose (by decide) (by decide) (fun _ _ _ _ _ _ us hl => match us, hl with | [_, _], _ => rfl) fun cdv A outer s H E hgd hr =>
  (pbd_cons (psd_if (ptd_cmp sc_fGt op_fGt (ped_V (pv 1)) (ped_V (pv 0)) rfl)
  (pbd_one (psd_ret ped_int))
  pbd_nil)
  (pbd_cons (psd_asgT (pgd_tup rfl (pgsd_cons (pgd_name (i := 2) (by decide) (pg_name sc__law_choose.nd rfl (by first | exact .inl rfl | exact .inr rfl))) (pgsd_cons (pgd_name (i := 3) (by decide) (pg_name sc__law_choose.nd rfl (by first | exact .inl rfl | exact .inr rfl))) pgsd_nil))) (ped_tup (pad_cons ped_int (pad_cons ped_int pad_nil))))
  (pbd_cons (psd_for rfl (pid_range1 rfl (M.free 1 rfl) (pad_cons (ped_bS sc_fMin (c_fMin rfl) rfl (M.free 0 rfl) PyProof.Rows.boot_min (pad_cons (ped_V (pv 1)) (pad_cons (ped_binS sc_fSub op_fSub (ped_V (pv 0)) (ped_V (pv 1))) pad_nil))) pad_nil)) (pgd_name (i := 4) (by decide) (pg_name sc__law_choose.nd rfl (by first | exact .inl rfl | exact .inr rfl)))
  (pbd_cons (psd_setN (i := 2) sc__law_choose.nd rfl (by first | exact .inl rfl | exact .inr rfl) (by decide) (ped_binD op_fMul (ped_V (pv 2)) (ped_binS sc_fSub op_fSub (ped_V (pv 0)) (ped_V (pv 4)))))
  (pbd_one (psd_setN (i := 3) sc__law_choose.nd rfl (by first | exact .inl rfl | exact .inr rfl) (by decide) (ped_binD op_fMul (ped_V (pv 3)) (ped_binD op_fAdd (ped_V (pv 4)) ped_int))))))
  (pbd_one (psd_ret (ped_binS sc_fFdiv op_fFdiv (ped_V (pv 2)) (ped_V (pv 3))))))))
theorem sc__law_pascal : FnScope ["n", "row", "turn", "i"] ["n"] (defScope (top 32)) := ⟨rfl, rfl, rfl, by decide +kernel, rfl, by decide +kernel, by decide +kernel⟩
theorem ok__law_pascal (M : Mo ts fn K mg) : Good P w K mg base 1 "_law_pascal" ["n"] [] f__law_pascal :=
  good_of (k := 0) (N := ["n", "row", "turn", "i"]) (body := m__law_pascal) (M.fun_ 1 rfl) (M.glo 4 rfl) sc__law_pascal (by decide) (by decide) (fun _ _ _ _ _ _ us hl => match us, hl with | [_], _ => rfl) fun cdv A outer s H E hgd hr =>
  (pbd_cons (psd_setN (i := 1) sc__law_pascal.nd rfl (by first | exact .inl rfl | exact .inr rfl) (by decide) (ped_lst (pad_cons ped_int pad_nil)))
  (pbd_cons (psd_for rfl (pid_range1 rfl (M.free 1 rfl) (pad_cons (ped_V (pv 0)) pad_nil)) (pgd_name (i := 2) (by decide) (pg_name sc__law_pascal.nd rfl (by first | exact .inl rfl | exact .inr rfl)))
  (pbd_one (psd_setN (i := 1) sc__law_pascal.nd rfl (by first | exact .inl rfl | exact .inr rfl) (by decide) (ped_binD op_fAdd (ped_binD op_fAdd (ped_lst (pad_cons ped_int pad_nil)) (ped_comp (own := ([("i", 3)] : List (Str × Nat))) rfl sc__law_pascal.nd (pid_range1 rfl (M.free 1 rfl) (pad_cons (ped_binS sc_fSub op_fSub (ped_bS sc_fLen c_fLen rfl (M.free 3 rfl) PySem.boot_len (pad_cons (ped_V (pv 1)) pad_nil)) ped_int) pad_nil)) (blkOk_by (N := ["n", "row", "turn", "i"]) (sc := defScope (top 32)) (by decide +kernel)) (by decide) (by decide) (fun s H C cl fp => (pgd_name (i := 3) (by decide) (pg_name sc__law_pascal.nd rfl (by first | exact .inl rfl | exact .inr rfl)))) (fun s H C cl fp => .nil) (fun s H C cl fp => (ped_binD op_fAdd (ped_ix (ped_V (pv 1)) (ped_V (pv 3)) (fun _ _ => rfl)) (ped_ix (ped_V (pv 1)) (ped_binD op_fAdd (ped_V (pv 3)) ped_int) (fun _ _ => rfl)))))) (ped_lst (pad_cons ped_int pad_nil))))))
  (pbd_one (psd_ret (ped_V (pv 1))))))
theorem sc__law_pick : FnScope ["purse", "many", "at"] ["purse", "many"] (defScope (top 27)) := ⟨rfl, rfl, rfl, by decide +kernel, rfl, by decide +kernel, by decide +kernel⟩
theorem ok__law_pick (M : Mo ts fn K mg) : Good P w K mg base 1 "_law_pick" ["purse", "many"] [0] f__law_pick :=
  good_of (k := 0) (N := ["purse", "many", "at"]) (body := m__law_pick) (M.fun_ 2 rfl) (M.glo 5 rfl) sc__law_pick (by decide) (by decide) (fun _ _ _ _ _ _ us hl => match us, hl with | [_, _], _ => rfl) fun cdv A outer s H E hgd hr =>
  (pbd_cons (psd_setN (i := 2) sc__law_pick.nd rfl (by first | exact .inl rfl | exact .inr rfl) (by decide) (ped_ixPk (pv 0) ped_int (fun _ _ => rfl)))
  (pbd_cons (psd_setIx (pv 0) ped_int (ped_binD op_fAdd (ped_V (pv 2)) ped_int))
  (pbd_cons (psd_if (ptd_cmp sc_fGe op_fGe (ped_V (pv 2)) (ped_bS sc_fLen c_fLen rfl (M.free 3 rfl) PySem.boot_len (pad_cons (ped_ixPk (pv 0) ped_int (fun _ _ => rfl)) pad_nil)) rfl)
  (pbd_one (psd_ret ped_int))
  pbd_nil)
  (pbd_one (psd_ret (ped_binS sc_fMod op_fMod (ped_ix (ped_ixPk (pv 0) ped_int (fun _ _ => rfl)) (ped_V (pv 2)) (fun _ _ => rfl)) (ped_V (pv 1))))))))
theorem sc__law_same : FnScope ["told", "due"] ["told", "due"] (defScope (top 36)) := ⟨rfl, rfl, rfl, by decide +kernel, rfl, by decide +kernel, by decide +kernel⟩
theorem ok__law_same (M : Mo ts fn K mg) : Good P w K mg base 1 "_law_same" ["told", "due"] [] f__law_same :=
  good_of (k := 0) (N := ["told", "due"]) (body := m__law_same) (M.fun_ 3 rfl) (M.glo 9 rfl) sc__law_same (by decide) (by decide) (fun _ _ _ _ _ _ us hl => match us, hl with | [_, _], _ => rfl) fun cdv A outer s H E hgd hr =>
  (pbd_one (psd_ret (ped_and (ped_isi rfl (M.free 6 rfl) rfl (M.free 7 rfl) (by decide +kernel) (by decide) (ped_V (pv 0))) (ped_and (ped_not (ped_isi rfl (M.free 6 rfl) rfl (M.free 8 rfl) (by decide +kernel) (by decide) (ped_V (pv 0)))) (ped_one (ped_cmp sc_fEq (op_fEq (u64 hr)) (ped_V (pv 0)) (ped_V (pv 1)) rfl))))))
theorem sc_is_int : FnScope ["x"] ["x"] (defScope (top 6)) := ⟨rfl, rfl, rfl, by decide +kernel, rfl, by decide +kernel, by decide +kernel⟩
theorem ok_is_int (M : Mo ts fn K mg) : Good P w K mg base 1 "is_int" ["x"] [] f_is_int :=
  good_of (k := 0) (N := ["x"]) (body := m_is_int) (M.fun_ 4 rfl) (M.glo 10 rfl) sc_is_int (by decide) (by decide) (fun _ _ _ _ _ _ us hl => match us, hl with | [_], _ => rfl) fun cdv A outer s H E hgd hr =>
  (pbd_one (psd_ret (ped_and (ped_isi rfl (M.free 6 rfl) rfl (M.free 7 rfl) (by decide +kernel) (by decide) (ped_V (pv 0))) (ped_one (ped_not (ped_isi rfl (M.free 6 rfl) rfl (M.free 8 rfl) (by decide +kernel) (by decide) (ped_V (pv 0))))))))
theorem sc_plain_form : FnScope ["x", "part"] ["x"] (defScope (top 8)) := ⟨rfl, rfl, rfl, by decide +kernel, rfl, by decide +kernel, by decide +kernel⟩
theorem okr_plain_form (M : Mo ts fn K mg) : ∀ n, Good P w K mg base (1 + n) "plain_form" ["x"] [] (r_plain_form n)
  | 0 => good_stuck (M.fun_ 5 rfl) (M.glo 13 rfl) (fun _ _ _ _ _ _ us hl => match us, hl with | [_], _ => rfl)
  | n + 1 =>
    have ih := okr_plain_form M n
    good_of (k := 1 + n) (N := ["x", "part"]) (body := m_plain_form (r_plain_form n)) (M.fun_ 5 rfl) (M.glo 13 rfl) sc_plain_form (by decide) (by decide) (fun _ _ _ _ _ _ us hl => match us, hl with | [_], _ => rfl) fun cdv A outer s H E hgd hr => (pbd_cons (psd_if (ptd_val (ped_isiT rfl (M.free 6 rfl) (.cons rfl (M.free 12 rfl) (by decide +kernel) (by decide) (by decide) (by decide) rfl (.cons rfl (M.free 11 rfl) (by decide +kernel) (by decide) (by decide) (by decide) rfl .nil)) (by decide) (by decide) (ped_V (pv 0))))
  (pbd_one (psd_ret (ped_tD c_fTuple rfl (M.free 12 rfl) PyProof.Rows.boot_tuple (pad_cons (ped_comp (own := ([("part", 1)] : List (Str × Nat))) rfl sc_plain_form.nd (pid_seq (ped_V (pv 0))) (blkOk_by (N := ["x", "part"]) (sc := defScope (top 8)) (by decide +kernel)) (by decide) (by decide) (fun s H C cl fp => (pgd_name (i := 1) (by decide) (pg_name sc_plain_form.nd rfl (by first | exact .inl rfl | exact .inr rfl)))) (fun s H C cl fp => .nil) (fun s H C cl fp => (ped_go ih hgd hr (by omega) rfl (pcd_val (ped_V (pv 1)) pcd_nil) (by decide) rfl))) pad_nil))))
  pbd_nil)
  (pbd_one (psd_ret (ped_V (pv 0)))))
theorem ok_plain_form (M : Mo ts fn K mg) : Good P w K mg base 41 "plain_form" ["x"] [] f_plain_form := okr_plain_form M 40
theorem sc_check_number : FnScope ["x", "least"] ["x", "least"] (defScope (top 9)) := ⟨rfl, rfl, rfl, by decide +kernel, rfl, by decide +kernel, by decide +kernel⟩
theorem ok_check_number (M : Mo ts fn K mg) : Good P w K mg base 42 "check_number" ["x", "least"] [] f_check_number :=
  good_of (k := 41) (N := ["x", "least"]) (body := m_check_number) (M.fun_ 6 rfl) (M.glo 14 rfl) sc_check_number (by decide) (by decide) (fun _ _ _ _ _ _ us hl => match us, hl with | [_, _], _ => rfl) fun cdv A outer s H E hgd hr =>
  (pbd_cons (psd_if (PTd.ofW (pwd_or (ptd_not (ptd_val (ped_go (ok_is_int (P := P) (w := w) (base := base) M) hgd hr (by decide) rfl (pcd_val (ped_V (pv 0)) pcd_nil) (by decide) rfl))) (pwd_or1 (ptd_cmp sc_fLt op_fLt (ped_V (pv 0)) (ped_V (pv 1)) rfl))))
  (pbd_one (psd_raise rfl (exc_BadNumber (P := P) (w := w) (base := base) M) hr (by decide) (ped_go (ok_plain_form (P := P) (w := w) (base := base) M) hgd hr (by decide) rfl (pcd_val (ped_V (pv 0)) pcd_nil) (by decide) rfl) rfl))
  pbd_nil)
  (pbd_one (psd_ret (ped_V (pv 0)))))
theorem sc_chosen : FnScope ["n", "k", "told", "i"] ["n", "k"] (defScope (top 13)) := ⟨rfl, rfl, rfl, by decide +kernel, rfl, by decide +kernel, by decide +kernel⟩
theorem ok_chosen (M : Mo ts fn K mg) : Good P w K mg base 1 "chosen" ["n", "k"] [] f_chosen :=
  good_of (k := 0) (N := ["n", "k", "told", "i"]) (body := m_chosen) (M.fun_ 7 rfl) (M.glo 15 rfl) sc_chosen (by decide) (by decide) (fun _ _ _ _ _ _ us hl => match us, hl with | [_, _], _ => rfl) fun cdv A outer s H E hgd hr =>
  (pbd_cons (psd_if (ptd_cmp sc_fGt op_fGt (ped_V (pv 1)) (ped_V (pv 0)) rfl)
  (pbd_one (psd_ret ped_int))
  pbd_nil)
  (pbd_cons (psd_setN (i := 2) sc_chosen.nd rfl (by first | exact .inl rfl | exact .inr rfl) (by decide) ped_int)
  (pbd_cons (psd_for rfl (pid_range1 rfl (M.free 1 rfl) (pad_cons (ped_bS sc_fMin (c_fMin rfl) rfl (M.free 0 rfl) PyProof.Rows.boot_min (pad_cons (ped_V (pv 1)) (pad_cons (ped_binS sc_fSub op_fSub (ped_V (pv 0)) (ped_V (pv 1))) pad_nil))) pad_nil)) (pgd_name (i := 3) (by decide) (pg_name sc_chosen.nd rfl (by first | exact .inl rfl | exact .inr rfl)))
  (pbd_one (psd_setN (i := 2) sc_chosen.nd rfl (by first | exact .inl rfl | exact .inr rfl) (by decide) (ped_binS sc_fFdiv op_fFdiv (ped_binD op_fMul (ped_V (pv 2)) (ped_binS sc_fSub op_fSub (ped_V (pv 0)) (ped_V (pv 3)))) (ped_binD op_fAdd (ped_V (pv 3)) ped_int)))))
  (pbd_one (psd_ret (ped_V (pv 2)))))))
theorem sc_choose : FnScope ["n", "k"] ["n", "k"] (defScope (top 16)) := ⟨rfl, rfl, rfl, by decide +kernel, rfl, by decide +kernel, by decide +kernel⟩
theorem ok_choose (M : Mo ts fn K mg) : Good P w K mg base 43 "choose" ["n", "k"] [] f_choose :=
  good_of (k := 42) (N := ["n", "k"]) (body := m_choose) (M.fun_ 8 rfl) (M.glo 16 rfl) sc_choose (by decide) (by decide) (fun _ _ _ _ _ _ us hl => match us, hl with | [_, _], _ => rfl) fun cdv A outer s H E hgd hr =>
  (pbd_cons (psd_expr (ped_go (ok_check_number (P := P) (w := w) (base := base) M) hgd hr (by decide) rfl (pcd_val (ped_V (pv 0)) (pcd_val ped_int pcd_nil)) (by decide) rfl))
  (pbd_cons (psd_expr (ped_go (ok_check_number (P := P) (w := w) (base := base) M) hgd hr (by decide) rfl (pcd_val (ped_V (pv 1)) (pcd_val ped_int pcd_nil)) (by decide) rfl))
  (pbd_one (psd_ret (ped_go (ok_chosen (P := P) (w := w) (base := base) M) hgd hr (by decide) rfl (pcd_val (ped_V (pv 0)) (pcd_val (ped_V (pv 1)) pcd_nil)) (by decide) rfl)))))
theorem sc__law_choices : FnScope ["purse", "n", "k", "far", "near", "due", "asked", "row", "pair", "i"] ["purse", "n", "k"] (defScope (top 37)) := ⟨rfl, rfl, rfl, by decide +kernel, rfl, by decide +kernel, by decide +kernel⟩
theorem ok__law_choices (M : Mo ts fn K mg) : Good P w K mg base 44 "_law_choices" ["purse", "n", "k"] [0] f__law_choices :=
  good_of (k := 43) (N := ["purse", "n", "k", "far", "near", "due", "asked", "row", "pair", "i"]) (body := m__law_choices) (M.fun_ 9 rfl) (M.glo 17 rfl) sc__law_choices (by decide) (by decide) (fun _ _ _ _ _ _ us hl => match us, hl with | [_, _, _], _ => rfl) fun cdv A outer s H E hgd hr =>
  (pbd_cons (psd_asgT (pgd_tup rfl (pgsd_cons (pgd_name (i := 3) (by decide) (pg_name sc__law_choices.nd rfl (by first | exact .inl rfl | exact .inr rfl))) (pgsd_cons (pgd_name (i := 4) (by decide) (pg_name sc__law_choices.nd rfl (by first | exact .inl rfl | exact .inr rfl))) pgsd_nil))) (ped_tup (pad_cons (ped_binS sc_fSub op_fSub ped_int (ped_go (ok__law_pick (P := P) (w := w) (base := base) M) hgd hr (by decide) rfl (pcd_lend (pv 0) (pcd_val ped_int pcd_nil)) (by decide) rfl)) (pad_cons (ped_go (ok__law_pick (P := P) (w := w) (base := base) M) hgd hr (by decide) rfl (pcd_lend (pv 0) (pcd_val ped_int pcd_nil)) (by decide) rfl) pad_nil))))
  (pbd_cons (psd_setN (i := 5) sc__law_choices.nd rfl (by first | exact .inl rfl | exact .inr rfl) (by decide) (ped_go (ok__law_choose (P := P) (w := w) (base := base) M) hgd hr (by decide) rfl (pcd_val (ped_V (pv 3)) (pcd_val (ped_V (pv 4)) pcd_nil)) (by decide) rfl))
  (pbd_cons (psd_if (PTd.ofW (pwd_or (ptd_not (ptd_val (ped_go (ok__law_same (P := P) (w := w) (base := base) M) hgd hr (by decide) rfl (pcd_val (ped_fz (ped_go (ok_choose (P := P) (w := w) (base := base) M) hgd hr (by decide) rfl (pcd_val (ped_V (pv 3)) (pcd_val (ped_V (pv 4)) pcd_nil)) (by decide) rfl)) (pcd_val (ped_V (pv 5)) pcd_nil)) (by decide) rfl))) (pwd_or1 (ptd_not (ptd_val (ped_go (ok__law_same (P := P) (w := w) (base := base) M) hgd hr (by decide) rfl (pcd_val (ped_fz (ped_go (ok_choose (P := P) (w := w) (base := base) M) hgd hr (by decide) rfl (pcd_val (ped_V (pv 3)) (pcd_val (ped_binS sc_fSub op_fSub (ped_V (pv 3)) (ped_V (pv 4))) pcd_nil)) (by decide) rfl)) (pcd_val (ped_V (pv 5)) pcd_nil)) (by decide) rfl))))))
  (pbd_one (psd_ret ped_bl))
  pbd_nil)
  (pbd_cons (psd_setN (i := 6) sc__law_choices.nd rfl (by first | exact .inl rfl | exact .inr rfl) (by decide) (ped_tup (pad_cons (ped_tup (pad_cons (ped_V (pv 1)) (pad_cons (ped_V (pv 2)) pad_nil))) (pad_cons (ped_tup (pad_cons (ped_V (pv 2)) (pad_cons (ped_V (pv 1)) pad_nil))) (pad_cons (ped_tup (pad_cons (ped_V (pv 1)) (pad_cons ped_int pad_nil))) (pad_cons (ped_tup (pad_cons (ped_V (pv 1)) (pad_cons (ped_V (pv 1)) pad_nil))) (pad_cons (ped_tup (pad_cons (ped_V (pv 1)) (pad_cons (ped_binD op_fAdd (ped_V (pv 1)) ped_int) pad_nil))) (pad_cons (ped_tup (pad_cons ped_int (pad_cons (ped_V (pv 1)) pad_nil))) (pad_cons (ped_tup (pad_cons (ped_binD op_fAdd (ped_V (pv 1)) (ped_V (pv 2))) (pad_cons (ped_V (pv 2)) pad_nil))) pad_nil)))))))))
  (pbd_cons (psd_if (ptd_cmp sc_fGt op_fGt (ped_bS sc_fLen c_fLen rfl (M.free 3 rfl) PySem.boot_len (pad_cons (ped_comp (own := ([("pair", 8)] : List (Str × Nat))) rfl sc__law_choices.nd (pid_seq (ped_V (pv 6))) (blkOk_by (N := ["purse", "n", "k", "far", "near", "due", "asked", "row", "pair", "i"]) (sc := defScope (top 37)) (by decide +kernel)) (by decide) (by decide) (fun s H C cl fp => (pgd_name (i := 8) (by decide) (pg_name sc__law_choices.nd rfl (by first | exact .inl rfl | exact .inr rfl)))) (fun s H C cl fp => (.one (ptd_not (ptd_val (ped_go (ok__law_same (P := P) (w := w) (base := base) M) hgd hr (by decide) rfl (pcd_val (ped_fz (ped_go (ok_choose (P := P) (w := w) (base := base) M) hgd hr (by decide) rfl (pcd_val (ped_ix (ped_V (pv 8)) ped_int (fun _ _ => rfl)) (pcd_val (ped_ix (ped_V (pv 8)) ped_int (fun _ _ => rfl)) pcd_nil)) (by decide) rfl)) (pcd_val (ped_fz (ped_go (ok__law_choose (P := P) (w := w) (base := base) M) hgd hr (by decide) rfl (pcd_val (ped_ix (ped_V (pv 8)) ped_int (fun _ _ => rfl)) (pcd_val (ped_ix (ped_V (pv 8)) ped_int (fun _ _ => rfl)) pcd_nil)) (by decide) rfl)) pcd_nil)) (by decide) rfl))))) (fun s H C cl fp => (ped_V (pv 8)))) pad_nil)) ped_int rfl)
  (pbd_one (psd_ret ped_bl))
  pbd_nil)
  (pbd_cons (psd_setN (i := 7) sc__law_choices.nd rfl (by first | exact .inl rfl | exact .inr rfl) (by decide) (ped_binD op_fAdd (ped_go (ok__law_pascal (P := P) (w := w) (base := base) M) hgd hr (by decide) rfl (pcd_val (ped_V (pv 4)) pcd_nil) (by decide) rfl) (ped_lst (pad_cons ped_int pad_nil))))
  (pbd_one (psd_ret (ped_cmp sc_fEq (op_fEq (u64 hr)) (ped_bS sc_fLen c_fLen rfl (M.free 3 rfl) PySem.boot_len (pad_cons (ped_comp (own := ([("i", 9)] : List (Str × Nat))) rfl sc__law_choices.nd (pid_range1 rfl (M.free 1 rfl) (pad_cons (ped_bS sc_fLen c_fLen rfl (M.free 3 rfl) PySem.boot_len (pad_cons (ped_V (pv 7)) pad_nil)) pad_nil)) (blkOk_by (N := ["purse", "n", "k", "far", "near", "due", "asked", "row", "pair", "i"]) (sc := defScope (top 37)) (by decide +kernel)) (by decide) (by decide) (fun s H C cl fp => (pgd_name (i := 9) (by decide) (pg_name sc__law_choices.nd rfl (by first | exact .inl rfl | exact .inr rfl)))) (fun s H C cl fp => (.one (ptd_not (ptd_val (ped_go (ok__law_same (P := P) (w := w) (base := base) M) hgd hr (by decide) rfl (pcd_val (ped_fz (ped_go (ok_choose (P := P) (w := w) (base := base) M) hgd hr (by decide) rfl (pcd_val (ped_V (pv 4)) (pcd_val (ped_V (pv 9)) pcd_nil)) (by decide) rfl)) (pcd_val (ped_ix (ped_V (pv 7)) (ped_V (pv 9)) (fun _ _ => rfl)) pcd_nil)) (by decide) rfl))))) (fun s H C cl fp => (ped_V (pv 9)))) pad_nil)) ped_int rfl)))))))))
theorem sc__law_number : FnScope ["purse", "most", "kind", "low", "high"] ["purse", "most"] (defScope (top 28)) := ⟨rfl, rfl, rfl, by decide +kernel, rfl, by decide +kernel, by decide +kernel⟩
theorem ok__law_number (M : Mo ts fn K mg) : Good P w K mg base 2 "_law_number" ["purse", "most"] [0] f__law_number :=
  good_of (k := 1) (N := ["purse", "most", "kind", "low", "high"]) (body := m__law_number) (M.fun_ 10 rfl) (M.glo 18 rfl) sc__law_number (by decide) (by decide) (fun _ _ _ _ _ _ us hl => match us, hl with | [_, _], _ => rfl) fun cdv A outer s H E hgd hr =>
  (pbd_cons (psd_setN (i := 2) sc__law_number.nd rfl (by first | exact .inl rfl | exact .inr rfl) (by decide) (ped_go (ok__law_pick (P := P) (w := w) (base := base) M) hgd hr (by decide) rfl (pcd_lend (pv 0) (pcd_val ped_int pcd_nil)) (by decide) rfl))
  (pbd_cons (psd_par (is := [3, 4]) (xs := ["low", "high"]) (.inl rfl) sc__law_number.nd (.cons ⟨rfl, rfl⟩ (.cons ⟨rfl, rfl⟩ .nil)) (by decide) (pad_cons (ped_go (ok__law_pick (P := P) (w := w) (base := base) M) hgd hr (by decide) rfl (pcd_lend (pv 0) (pcd_val ped_int pcd_nil)) (by decide) rfl) (pad_cons (ped_go (ok__law_pick (P := P) (w := w) (base := base) M) hgd hr (by decide) rfl (pcd_lend (pv 0) (pcd_val ped_int pcd_nil)) (by decide) rfl) pad_nil)) rfl (by decide))
  (pbd_one (psd_ret (ped_bS sc_fMin (c_fMin rfl) rfl (M.free 0 rfl) PyProof.Rows.boot_min (pad_cons (ped_ix (ped_tup (pad_cons ped_int (pad_cons ped_int (pad_cons ped_int (pad_cons (ped_V (pv 3)) (pad_cons (ped_binD op_fAdd (ped_binD op_fMul ped_int (ped_binS sc_fMod op_fMod (ped_V (pv 4)) ped_int)) (ped_V (pv 3))) (pad_cons (ped_binD op_fAdd (ped_binD op_fMul ped_int (ped_V (pv 4))) (ped_V (pv 3))) pad_nil))))))) (ped_V (pv 2)) (fun _ _ => rfl)) (pad_cons (ped_V (pv 1)) pad_nil)))))))
theorem sc__law_numbers : FnScope ["purse", "found", "place", "kind", "low"] ["purse"] (defScope (top 29)) := ⟨rfl, rfl, rfl, by decide +kernel, rfl, by decide +kernel, by decide +kernel⟩
theorem ok__law_numbers (M : Mo ts fn K mg) : Good P w K mg base 2 "_law_numbers" ["purse"] [0] f__law_numbers :=
  good_of (k := 1) (N := ["purse", "found", "place", "kind", "low"]) (body := m__law_numbers) (M.fun_ 11 rfl) (M.glo 19 rfl) sc__law_numbers (by decide) (by decide) (fun _ _ _ _ _ _ us hl => match us, hl with | [_], _ => rfl) fun cdv A outer s H E hgd hr =>
  (pbd_cons (psd_setON (i := 1) sc__law_numbers.nd rfl (by first | exact .inl rfl | exact .inr rfl) (by decide) (ped_lst pad_nil))
  (pbd_cons (psd_for rfl (pid_range1 rfl (M.free 1 rfl) (pad_cons (ped_ix (ped_tup (pad_cons ped_int (pad_cons ped_int (pad_cons ped_int (pad_cons ped_int (pad_cons ped_int (pad_cons ped_int pad_nil))))))) (ped_go (ok__law_pick (P := P) (w := w) (base := base) M) hgd hr (by decide) rfl (pcd_lend (pv 0) (pcd_val ped_int pcd_nil)) (by decide) rfl) (fun _ _ => rfl)) pad_nil)) (pgd_name (i := 2) (by decide) (pg_name sc__law_numbers.nd rfl (by first | exact .inl rfl | exact .inr rfl)))
  (pbd_cons (psd_par (is := [3, 4]) (xs := ["kind", "low"]) (.inl rfl) sc__law_numbers.nd (.cons ⟨rfl, rfl⟩ (.cons ⟨rfl, rfl⟩ .nil)) (by decide) (pad_cons (ped_go (ok__law_pick (P := P) (w := w) (base := base) M) hgd hr (by decide) rfl (pcd_lend (pv 0) (pcd_val ped_int pcd_nil)) (by decide) rfl) (pad_cons (ped_go (ok__law_pick (P := P) (w := w) (base := base) M) hgd hr (by decide) rfl (pcd_lend (pv 0) (pcd_val ped_int pcd_nil)) (by decide) rfl) pad_nil)) rfl (by decide))
  (pbd_one (psd_expr (ped_append (pv 1) (ped_ix (ped_tup (pad_cons (ped_binD op_fAdd (ped_V (pv 2)) ped_int) (pad_cons ped_int (pad_cons ped_int (pad_cons (ped_V (pv 4)) (pad_cons (ped_binS sc_fSub op_fSub ped_int (ped_V (pv 4))) pad_nil)))))) (ped_V (pv 3)) (fun _ _ => rfl)))))))
  (pbd_one (psd_ret (ped_Move (pv 1))))))
theorem sc__law_power : FnScope ["q", "m", "number", "turn"] ["q", "m"] (defScope (top 30)) := ⟨rfl, rfl, rfl, by decide +kernel, rfl, by decide +kernel, by decide +kernel⟩
theorem ok__law_power (M : Mo ts fn K mg) : Good P w K mg base 1 "_law_power" ["q", "m"] [] f__law_power :=
  good_of (k := 0) (N := ["q", "m", "number", "turn"]) (body := m__law_power) (M.fun_ 12 rfl) (M.glo 20 rfl) sc__law_power (by decide) (by decide) (fun _ _ _ _ _ _ us hl => match us, hl with | [_, _], _ => rfl) fun cdv A outer s H E hgd hr =>
  (pbd_cons (psd_setN (i := 2) sc__law_power.nd rfl (by first | exact .inl rfl | exact .inr rfl) (by decide) ped_int)
  (pbd_cons (psd_for rfl (pid_range1 rfl (M.free 1 rfl) (pad_cons (ped_V (pv 1)) pad_nil)) (pgd_name (i := 3) (by decide) (pg_name sc__law_power.nd rfl (by first | exact .inl rfl | exact .inr rfl)))
  (pbd_one (psd_setN (i := 2) sc__law_power.nd rfl (by first | exact .inl rfl | exact .inr rfl) (by decide) (ped_binD op_fMul (ped_V (pv 2)) (ped_V (pv 0))))))
  (pbd_one (psd_ret (ped_V (pv 2))))))
theorem sc__law_sums : FnScope ["numbers", "base", "whole", "x", "found", "j"] ["numbers"] (defScope (top 33)) := ⟨rfl, rfl, rfl, by decide +kernel, rfl, by decide +kernel, by decide +kernel⟩
theorem ok__law_sums (M : Mo ts fn K mg) : Good P w K mg base 1 "_law_sums" ["numbers"] [] f__law_sums :=
  good_of (k := 0) (N := ["numbers", "base", "whole", "x", "found", "j"]) (body := m__law_sums) (M.fun_ 13 rfl) (M.glo 21 rfl) sc__law_sums (by decide) (by decide) (fun _ _ _ _ _ _ us hl => match us, hl with | [_], _ => rfl) fun cdv A outer s H E hgd hr =>
  (pbd_cons (psd_asgT (pgd_tup rfl (pgsd_cons (pgd_name (i := 1) (by decide) (pg_name sc__law_sums.nd rfl (by first | exact .inl rfl | exact .inr rfl))) (pgsd_cons (pgd_name (i := 2) (by decide) (pg_name sc__law_sums.nd rfl (by first | exact .inl rfl | exact .inr rfl))) pgsd_nil))) (ped_tup (pad_cons ped_int (pad_cons ped_int pad_nil))))
  (pbd_cons (psd_for rfl (pid_seq (ped_V (pv 0))) (pgd_name (i := 3) (by decide) (pg_name sc__law_sums.nd rfl (by first | exact .inl rfl | exact .inr rfl)))
  (pbd_one (psd_setN (i := 1) sc__law_sums.nd rfl (by first | exact .inl rfl | exact .inr rfl) (by decide) (ped_binD op_fMul (ped_V (pv 1)) (ped_binD op_fAdd ped_int (ped_V (pv 3)))))))
  (pbd_cons (psd_setN (i := 1) sc__law_sums.nd rfl (by first | exact .inl rfl | exact .inr rfl) (by decide) (ped_binD op_fAdd (ped_V (pv 1)) ped_int))
  (pbd_cons (psd_for rfl (pid_seq (ped_V (pv 0))) (pgd_name (i := 3) (by decide) (pg_name sc__law_sums.nd rfl (by first | exact .inl rfl | exact .inr rfl)))
  (pbd_one (psd_setN (i := 2) sc__law_sums.nd rfl (by first | exact .inl rfl | exact .inr rfl) (by decide) (ped_binD op_fMul (ped_V (pv 2)) (ped_binD op_fAdd ped_int (ped_binD op_fMul (ped_V (pv 3)) (ped_V (pv 1))))))))
  (pbd_cons (psd_setON (i := 4) sc__law_sums.nd rfl (by first | exact .inl rfl | exact .inr rfl) (by decide) (ped_lst pad_nil))
  (pbd_cons (psd_for rfl (pid_range1 rfl (M.free 1 rfl) (pad_cons (ped_binD op_fAdd (ped_bS sc_fLen c_fLen rfl (M.free 3 rfl) PySem.boot_len (pad_cons (ped_V (pv 0)) pad_nil)) ped_int) pad_nil)) (pgd_name (i := 5) (by decide) (pg_name sc__law_sums.nd rfl (by first | exact .inl rfl | exact .inr rfl)))
  (pbd_cons (psd_expr (ped_append (pv 4) (ped_binS sc_fMod op_fMod (ped_tS sc_fInt c_fInt rfl (M.free 7 rfl) PyProof.Rows.boot_int (pad_cons (ped_V (pv 2)) pad_nil)) (ped_V (pv 1)))))
  (pbd_one (psd_setN (i := 2) sc__law_sums.nd rfl (by first | exact .inl rfl | exact .inr rfl) (by decide) (ped_binS sc_fFdiv op_fFdiv (ped_V (pv 2)) (ped_V (pv 1)))))))
  (pbd_one (psd_ret (ped_binD op_fAdd (ped_Share (pv 4)) (ped_lst (pad_cons ped_int (pad_cons ped_int (pad_cons ped_int pad_nil)))))))))))))
theorem sc_is_list : FnScope ["x"] ["x"] (defScope (top 7)) := ⟨rfl, rfl, rfl, by decide +kernel, rfl, by decide +kernel, by decide +kernel⟩
theorem ok_is_list (M : Mo ts fn K mg) : Good P w K mg base 1 "is_list" ["x"] [] f_is_list :=
  good_of (k := 0) (N := ["x"]) (body := m_is_list) (M.fun_ 14 rfl) (M.glo 22 rfl) sc_is_list (by decide) (by decide) (fun _ _ _ _ _ _ us hl => match us, hl with | [_], _ => rfl) fun cdv A outer s H E hgd hr =>
  (pbd_one (psd_ret (ped_isiT rfl (M.free 6 rfl) (.cons rfl (M.free 12 rfl) (by decide +kernel) (by decide) (by decide) (by decide) rfl (.cons rfl (M.free 11 rfl) (by decide +kernel) (by decide) (by decide) (by decide) rfl .nil)) (by decide) (by decide) (ped_V (pv 0)))))
theorem sc_check_counts : FnScope ["numbers", "j"] ["numbers"] (defScope (top 12)) := ⟨rfl, rfl, rfl, by decide +kernel, rfl, by decide +kernel, by decide +kernel⟩
theorem ok_check_counts (M : Mo ts fn K mg) : Good P w K mg base 3 "check_counts" ["numbers"] [] f_check_counts :=
  good_of (k := 2) (N := ["numbers", "j"]) (body := m_check_counts) (M.fun_ 15 rfl) (M.glo 23 rfl) sc_check_counts (by decide) (by decide) (fun _ _ _ _ _ _ us hl => match us, hl with | [_], _ => rfl) fun cdv A outer s H E hgd hr =>
  (pbd_cons (psd_if (ptd_not (ptd_val (ped_go (ok_is_list (P := P) (w := w) (base := base) M) hgd hr (by decide) rfl (pcd_val (ped_V (pv 0)) pcd_nil) (by decide) rfl)))
  (pbd_one (psd_raise rfl (exc_BadLot (P := P) (w := w) (base := base) M) hr (by decide) (ped_neg ped_int) rfl))
  pbd_nil)
  (pbd_cons (psd_for rfl (pid_range1 rfl (M.free 1 rfl) (pad_cons (ped_bS sc_fLen c_fLen rfl (M.free 3 rfl) PySem.boot_len (pad_cons (ped_V (pv 0)) pad_nil)) pad_nil)) (pgd_name (i := 1) (by decide) (pg_name sc_check_counts.nd rfl (by first | exact .inl rfl | exact .inr rfl)))
  (pbd_one (psd_if (PTd.ofW (pwd_or (ptd_not (ptd_val (ped_go (ok_is_int (P := P) (w := w) (base := base) M) hgd hr (by decide) rfl (pcd_val (ped_ix (ped_V (pv 0)) (ped_V (pv 1)) (fun _ _ => rfl)) pcd_nil) (by decide) rfl))) (pwd_or1 (ptd_cmp sc_fLt op_fLt (ped_ix (ped_V (pv 0)) (ped_V (pv 1)) (fun _ _ => rfl)) ped_int rfl))))
  (pbd_one (psd_raise rfl (exc_BadLot (P := P) (w := w) (base := base) M) hr (by decide) (ped_V (pv 1)) rfl))
  pbd_nil)))
  (pbd_one (psd_ret (ped_tD c_fTuple rfl (M.free 12 rfl) PyProof.Rows.boot_tuple (pad_cons (ped_V (pv 0)) pad_nil))))))
theorem sc_check_most : FnScope ["x"] ["x"] (defScope (top 10)) := ⟨rfl, rfl, rfl, by decide +kernel, rfl, by decide +kernel, by decide +kernel⟩
theorem ok_check_most (M : Mo ts fn K mg) : Good P w K mg base 43 "check_most" ["x"] [] f_check_most :=
  good_of (k := 42) (N := ["x"]) (body := m_check_most) (M.fun_ 16 rfl) (M.glo 25 rfl) sc_check_most (by decide) (by decide) (fun _ _ _ _ _ _ us hl => match us, hl with | [_], _ => rfl) fun cdv A outer s H E hgd hr =>
  (pbd_cons (psd_if (PTd.ofW (pwd_and (ptd_val (ped_isi rfl (M.free 6 rfl) rfl (M.free 24 rfl) (by decide +kernel) (by decide) (ped_V (pv 0)))) (pwd_and1 (ptd_cmp sc_fEq (op_fEq (u64 hr)) (ped_V (pv 0)) ped_str rfl))))
  (pbd_one (psd_ret (ped_V (pv 0))))
  pbd_nil)
  (pbd_one (psd_ret (ped_go (ok_check_number (P := P) (w := w) (base := base) M) hgd hr (by decide) rfl (pcd_val (ped_V (pv 0)) (pcd_val ped_int pcd_nil)) (by decide) rfl))))
theorem sc_product_sums : FnScope ["numbers", "j", "sums", "number", "i"] ["numbers", "j"] (defScope (top 15)) := ⟨rfl, rfl, rfl, by decide +kernel, rfl, by decide +kernel, by decide +kernel⟩
theorem ok_product_sums (M : Mo ts fn K mg) : Good P w K mg base 1 "product_sums" ["numbers", "j"] [] f_product_sums :=
  good_of (k := 0) (N := ["numbers", "j", "sums", "number", "i"]) (body := m_product_sums) (M.fun_ 17 rfl) (M.glo 26 rfl) sc_product_sums (by decide) (by decide) (fun _ _ _ _ _ _ us hl => match us, hl with | [_, _], _ => rfl) fun cdv A outer s H E hgd hr =>
  (pbd_cons (psd_setON (i := 2) sc_product_sums.nd rfl (by first | exact .inl rfl | exact .inr rfl) (by decide) (ped_binD op_fMul (ped_lst (pad_cons ped_int pad_nil)) (ped_binD op_fAdd (ped_V (pv 1)) ped_int)))
  (pbd_cons (psd_setIx (pv 2) ped_int ped_int)
  (pbd_cons (psd_for rfl (pid_seq (ped_V (pv 0))) (pgd_name (i := 3) (by decide) (pg_name sc_product_sums.nd rfl (by first | exact .inl rfl | exact .inr rfl)))
  (pbd_one (psd_for rfl (pid_range3 rfl (M.free 1 rfl) (pad_cons (ped_V (pv 1)) (pad_cons ped_int (pad_cons (ped_neg ped_int) pad_nil)))) (pgd_name (i := 4) (by decide) (pg_name sc_product_sums.nd rfl (by first | exact .inl rfl | exact .inr rfl)))
  (pbd_one (psd_setIx (pv 2) (ped_V (pv 4)) (ped_binD op_fAdd (ped_ixPk (pv 2) (ped_V (pv 4)) (fun _ _ => rfl)) (ped_binD op_fMul (ped_V (pv 3)) (ped_ixPk (pv 2) (ped_binS sc_fSub op_fSub (ped_V (pv 4)) ped_int) (fun _ _ => rfl)))))))))
  (pbd_one (psd_ret (ped_Move (pv 2)))))))
theorem sc_lookalike_number : FnScope ["numbers", "most", "told"] ["numbers", "most"] (defScope (top 19)) := ⟨rfl, rfl, rfl, by decide +kernel, rfl, by decide +kernel, by decide +kernel⟩
theorem ok_lookalike_number (M : Mo ts fn K mg) : Good P w K mg base 44 "lookalike_number" ["numbers", "most"] [] f_lookalike_number :=
  good_of (k := 43) (N := ["numbers", "most", "told"]) (body := m_lookalike_number) (M.fun_ 18 rfl) (M.glo 28 rfl) sc_lookalike_number (by decide) (by decide) (fun _ _ _ _ _ _ us hl => match us, hl with | [_, _], _ => rfl) fun cdv A outer s H E hgd hr =>
  (pbd_cons (psd_setN (i := 2) sc_lookalike_number.nd rfl (by first | exact .inl rfl | exact .inr rfl) (by decide) (ped_go (ok_check_counts (P := P) (w := w) (base := base) M) hgd hr (by decide) rfl (pcd_val (ped_V (pv 0)) pcd_nil) (by decide) rfl))
  (pbd_cons (psd_expr (ped_go (ok_check_most (P := P) (w := w) (base := base) M) hgd hr (by decide) rfl (pcd_val (ped_V (pv 1)) pcd_nil) (by decide) rfl))
  (pbd_cons (psd_if (PTd.ofW (pwd_or (ptd_cmp sc_fEq (op_fEq (u64 hr)) (ped_V (pv 1)) ped_str rfl) (pwd_or1 (ptd_cmp sc_fGt op_fGt (ped_V (pv 1)) (ped_bS sc_fLen c_fLen rfl (M.free 3 rfl) PySem.boot_len (pad_cons (ped_V (pv 2)) pad_nil)) rfl))))
  (pbd_one (psd_ret (ped_bS sc_fSum (c_fSum rfl) rfl (M.free 27 rfl) PyProof.Rows.boot_sum (pad_cons (ped_go (ok_product_sums (P := P) (w := w) (base := base) M) hgd hr (by decide) rfl (pcd_val (ped_V (pv 2)) (pcd_val (ped_bS sc_fLen c_fLen rfl (M.free 3 rfl) PySem.boot_len (pad_cons (ped_V (pv 2)) pad_nil)) pcd_nil)) (by decide) rfl) pad_nil))))
  pbd_nil)
  (pbd_one (psd_ret (ped_bS sc_fSum (c_fSum rfl) rfl (M.free 27 rfl) PyProof.Rows.boot_sum (pad_cons (ped_go (ok_product_sums (P := P) (w := w) (base := base) M) hgd hr (by decide) rfl (pcd_val (ped_V (pv 2)) (pcd_val (ped_V (pv 1)) pcd_nil)) (by decide) rfl) pad_nil)))))))
theorem sc_times_over : FnScope ["base", "many", "told"] ["base", "many"] (defScope (top 14)) := ⟨rfl, rfl, rfl, by decide +kernel, rfl, by decide +kernel, by decide +kernel⟩
theorem ok_times_over (M : Mo ts fn K mg) : Good P w K mg base 1 "times_over" ["base", "many"] [] f_times_over :=
  good_of (k := 0) (N := ["base", "many", "told"]) (body := m_times_over) (M.fun_ 19 rfl) (M.glo 29 rfl) sc_times_over (by decide) (by decide) (fun _ _ _ _ _ _ us hl => match us, hl with | [_, _], _ => rfl) fun cdv A outer s H E hgd hr =>
  (pbd_cons (psd_setN (i := 2) sc_times_over.nd rfl (by first | exact .inl rfl | exact .inr rfl) (by decide) ped_int)
  (pbd_cons (psd_while 100000 (ptd_cmp sc_fGt op_fGt (ped_V (pv 1)) ped_int rfl)
  (pbd_cons (psd_if (ptd_cmp sc_fEq (op_fEq (u64 hr)) (ped_binS sc_fMod op_fMod (ped_V (pv 1)) ped_int) ped_int rfl)
  (pbd_one (psd_setN (i := 2) sc_times_over.nd rfl (by first | exact .inl rfl | exact .inr rfl) (by decide) (ped_binD op_fMul (ped_V (pv 2)) (ped_V (pv 0)))))
  pbd_nil)
  (pbd_cons (psd_setN (i := 0) sc_times_over.nd rfl (by first | exact .inl rfl | exact .inr rfl) (by decide) (ped_binD op_fMul (ped_V (pv 0)) (ped_V (pv 0))))
  (pbd_one (psd_setN (i := 1) sc_times_over.nd rfl (by first | exact .inl rfl | exact .inr rfl) (by decide) (ped_binS sc_fFdiv op_fFdiv (ped_V (pv 1)) ped_int))))))
  (pbd_one (psd_ret (ped_V (pv 2))))))
theorem sc_mixed_ways : FnScope ["numbers", "z", "j", "k", "told"] ["numbers", "z", "j", "k"] (defScope (top 18)) := ⟨rfl, rfl, rfl, by decide +kernel, rfl, by decide +kernel, by decide +kernel⟩
theorem ok_mixed_ways (M : Mo ts fn K mg) : Good P w K mg base 43 "mixed_ways" ["numbers", "z", "j", "k"] [] f_mixed_ways :=
  good_of (k := 42) (N := ["numbers", "z", "j", "k", "told"]) (body := m_mixed_ways) (M.fun_ 20 rfl) (M.glo 30 rfl) sc_mixed_ways (by decide) (by decide) (fun _ _ _ _ _ _ us hl => match us, hl with | [_, _, _, _], _ => rfl) fun cdv A outer s H E hgd hr =>
  (pbd_cons (psd_setN (i := 4) sc_mixed_ways.nd rfl (by first | exact .inl rfl | exact .inr rfl) (by decide) (ped_go (ok_check_counts (P := P) (w := w) (base := base) M) hgd hr (by decide) rfl (pcd_val (ped_V (pv 0)) pcd_nil) (by decide) rfl))
  (pbd_cons (psd_expr (ped_go (ok_check_number (P := P) (w := w) (base := base) M) hgd hr (by decide) rfl (pcd_val (ped_V (pv 1)) (pcd_val ped_int pcd_nil)) (by decide) rfl))
  (pbd_cons (psd_expr (ped_go (ok_check_number (P := P) (w := w) (base := base) M) hgd hr (by decide) rfl (pcd_val (ped_V (pv 2)) (pcd_val ped_int pcd_nil)) (by decide) rfl))
  (pbd_cons (psd_expr (ped_go (ok_check_number (P := P) (w := w) (base := base) M) hgd hr (by decide) rfl (pcd_val (ped_V (pv 3)) (pcd_val ped_int pcd_nil)) (by decide) rfl))
  (pbd_cons (psd_if (ptd_cmp sc_fGt op_fGt (ped_V (pv 2)) (ped_bS sc_fLen c_fLen rfl (M.free 3 rfl) PySem.boot_len (pad_cons (ped_V (pv 4)) pad_nil)) rfl)
  (pbd_one (psd_ret ped_int))
  pbd_nil)
  (pbd_one (psd_ret (ped_binD op_fMul (ped_binD op_fMul (ped_ix (ped_go (ok_product_sums (P := P) (w := w) (base := base) M) hgd hr (by decide) rfl (pcd_val (ped_V (pv 4)) (pcd_val (ped_V (pv 2)) pcd_nil)) (by decide) rfl) (ped_V (pv 2)) (fun _ _ => rfl)) (ped_go (ok_chosen (P := P) (w := w) (base := base) M) hgd hr (by decide) rfl (pcd_val (ped_fz (ped_binD op_fAdd (ped_bS sc_fLen c_fLen rfl (M.free 3 rfl) PySem.boot_len (pad_cons (ped_V (pv 4)) pad_nil)) (ped_V (pv 3)))) (pcd_val (ped_V (pv 3)) pcd_nil)) (by decide) rfl)) (ped_go (ok_times_over (P := P) (w := w) (base := base) M) hgd hr (by decide) rfl (pcd_val (ped_V (pv 1)) (pcd_val (ped_V (pv 3)) pcd_nil)) (by decide) rfl)))))))))
theorem sc_symmetric : FnScope ["numbers", "j", "told"] ["numbers", "j"] (defScope (top 17)) := ⟨rfl, rfl, rfl, by decide +kernel, rfl, by decide +kernel, by decide +kernel⟩
theorem ok_symmetric (M : Mo ts fn K mg) : Good P w K mg base 43 "symmetric" ["numbers", "j"] [] f_symmetric :=
  good_of (k := 42) (N := ["numbers", "j", "told"]) (body := m_symmetric) (M.fun_ 21 rfl) (M.glo 31 rfl) sc_symmetric (by decide) (by decide) (fun _ _ _ _ _ _ us hl => match us, hl with | [_, _], _ => rfl) fun cdv A outer s H E hgd hr =>
  (pbd_cons (psd_setN (i := 2) sc_symmetric.nd rfl (by first | exact .inl rfl | exact .inr rfl) (by decide) (ped_go (ok_check_counts (P := P) (w := w) (base := base) M) hgd hr (by decide) rfl (pcd_val (ped_V (pv 0)) pcd_nil) (by decide) rfl))
  (pbd_cons (psd_expr (ped_go (ok_check_number (P := P) (w := w) (base := base) M) hgd hr (by decide) rfl (pcd_val (ped_V (pv 1)) (pcd_val ped_int pcd_nil)) (by decide) rfl))
  (pbd_cons (psd_if (ptd_cmp sc_fGt op_fGt (ped_V (pv 1)) (ped_bS sc_fLen c_fLen rfl (M.free 3 rfl) PySem.boot_len (pad_cons (ped_V (pv 2)) pad_nil)) rfl)
  (pbd_one (psd_ret ped_int))
  pbd_nil)
  (pbd_one (psd_ret (ped_ix (ped_go (ok_product_sums (P := P) (w := w) (base := base) M) hgd hr (by decide) rfl (pcd_val (ped_V (pv 2)) (pcd_val (ped_V (pv 1)) pcd_nil)) (by decide) rfl) (ped_V (pv 1)) (fun _ _ => rfl)))))))
theorem sc__law_products : FnScope ["purse", "numbers", "z", "k", "sums", "kept", "j", "due", "every", "x", "many", "c"] ["purse", "numbers", "z", "k"] (defScope (top 38)) := ⟨rfl, rfl, rfl, by decide +kernel, rfl, by decide +kernel, by decide +kernel⟩
theorem ok__law_products (M : Mo ts fn K mg) : Good P w K mg base 45 "_law_products" ["purse", "numbers", "z", "k"] [0] f__law_products :=
  good_of (k := 44) (N := ["purse", "numbers", "z", "k", "sums", "kept", "j", "due", "every", "x", "many", "c"]) (body := m__law_products) (M.fun_ 22 rfl) (M.glo 32 rfl) sc__law_products (by decide) (by decide) (fun _ _ _ _ _ _ us hl => match us, hl with | [_, _, _, _], _ => rfl) fun cdv A outer s H E hgd hr =>
  (pbd_cons (psd_setN (i := 4) sc__law_products.nd rfl (by first | exact .inl rfl | exact .inr rfl) (by decide) (ped_go (ok__law_sums (P := P) (w := w) (base := base) M) hgd hr (by decide) rfl (pcd_val (ped_V (pv 1)) pcd_nil) (by decide) rfl))
  (pbd_cons (psd_setN (i := 5) sc__law_products.nd rfl (by first | exact .inl rfl | exact .inr rfl) (by decide) (ped_tD c_fList rfl (M.free 11 rfl) PyProof.Rows.boot_list (pad_cons (ped_V (pv 1)) pad_nil)))
  (pbd_cons (psd_for rfl (pid_range1 rfl (M.free 1 rfl) (pad_cons (ped_binS sc_fSub op_fSub (ped_bS sc_fLen c_fLen rfl (M.free 3 rfl) PySem.boot_len (pad_cons (ped_V (pv 4)) pad_nil)) ped_int) pad_nil)) (pgd_name (i := 6) (by decide) (pg_name sc__law_products.nd rfl (by first | exact .inl rfl | exact .inr rfl)))
  (pbd_cons (psd_if (PTd.ofW (pwd_or (ptd_not (ptd_val (ped_go (ok__law_same (P := P) (w := w) (base := base) M) hgd hr (by decide) rfl (pcd_val (ped_fz (ped_go (ok_symmetric (P := P) (w := w) (base := base) M) hgd hr (by decide) rfl (pcd_val (ped_V (pv 1)) (pcd_val (ped_V (pv 6)) pcd_nil)) (by decide) rfl)) (pcd_val (ped_ix (ped_V (pv 4)) (ped_V (pv 6)) (fun _ _ => rfl)) pcd_nil)) (by decide) rfl))) (pwd_or1 (ptd_not (ptd_val (ped_go (ok__law_same (P := P) (w := w) (base := base) M) hgd hr (by decide) rfl (pcd_val (ped_fz (ped_go (ok_symmetric (P := P) (w := w) (base := base) M) hgd hr (by decide) rfl (pcd_val (ped_tD c_fTuple rfl (M.free 12 rfl) PyProof.Rows.boot_tuple (pad_cons (ped_V (pv 5)) pad_nil)) (pcd_val (ped_V (pv 6)) pcd_nil)) (by decide) rfl)) (pcd_val (ped_ix (ped_V (pv 4)) (ped_V (pv 6)) (fun _ _ => rfl)) pcd_nil)) (by decide) rfl))))))
  (pbd_one (psd_ret ped_bl))
  pbd_nil)
  (pbd_cons (psd_setN (i := 7) sc__law_products.nd rfl (by first | exact .inl rfl | exact .inr rfl) (by decide) (ped_binD op_fMul (ped_binD op_fMul (ped_ix (ped_V (pv 4)) (ped_V (pv 6)) (fun _ _ => rfl)) (ped_go (ok__law_choose (P := P) (w := w) (base := base) M) hgd hr (by decide) rfl (pcd_val (ped_fz (ped_binD op_fAdd (ped_bS sc_fLen c_fLen rfl (M.free 3 rfl) PySem.boot_len (pad_cons (ped_V (pv 5)) pad_nil)) (ped_V (pv 3)))) (pcd_val (ped_V (pv 3)) pcd_nil)) (by decide) rfl)) (ped_go (ok__law_power (P := P) (w := w) (base := base) M) hgd hr (by decide) rfl (pcd_val (ped_V (pv 2)) (pcd_val (ped_V (pv 3)) pcd_nil)) (by decide) rfl)))
  (pbd_cons (psd_if (ptd_not (ptd_val (ped_go (ok__law_same (P := P) (w := w) (base := base) M) hgd hr (by decide) rfl (pcd_val (ped_fz (ped_go (ok_mixed_ways (P := P) (w := w) (base := base) M) hgd hr (by decide) rfl (pcd_val (ped_V (pv 1)) (pcd_val (ped_V (pv 2)) (pcd_val (ped_V (pv 6)) (pcd_val (ped_V (pv 3)) pcd_nil)))) (by decide) rfl)) (pcd_val (ped_V (pv 7)) pcd_nil)) (by decide) rfl)))
  (pbd_one (psd_ret ped_bl))
  pbd_nil)
  (pbd_cons (psd_if (ptd_not (ptd_val (ped_go (ok__law_same (P := P) (w := w) (base := base) M) hgd hr (by decide) rfl (pcd_val (ped_fz (ped_go (ok_mixed_ways (P := P) (w := w) (base := base) M) hgd hr (by decide) rfl (pcd_val (ped_tD c_fTuple rfl (M.free 12 rfl) PyProof.Rows.boot_tuple (pad_cons (ped_V (pv 5)) pad_nil)) (pcd_val (ped_V (pv 2)) (pcd_val (ped_V (pv 6)) (pcd_val ped_int pcd_nil)))) (by decide) rfl)) (pcd_val (ped_ix (ped_V (pv 4)) (ped_V (pv 6)) (fun _ _ => rfl)) pcd_nil)) (by decide) rfl)))
  (pbd_one (psd_ret ped_bl))
  pbd_nil)
  (pbd_one (psd_if (ptd_not (ptd_val (ped_go (ok__law_same (P := P) (w := w) (base := base) M) hgd hr (by decide) rfl (pcd_val (ped_fz (ped_go (ok_lookalike_number (P := P) (w := w) (base := base) M) hgd hr (by decide) rfl (pcd_val (ped_V (pv 1)) (pcd_val (ped_V (pv 6)) pcd_nil)) (by decide) rfl)) (pcd_val (ped_bS sc_fSum (c_fSum rfl) rfl (M.free 27 rfl) PyProof.Rows.boot_sum (pad_cons (ped_slice (ped_V (pv 4)) pod_none (pod_some (ped_binD op_fAdd (ped_V (pv 6)) ped_int))) pad_nil)) pcd_nil)) (by decide) rfl)))
  (pbd_one (psd_ret ped_bl))
  pbd_nil)))))))
  (pbd_cons (psd_setN (i := 8) sc__law_products.nd rfl (by first | exact .inl rfl | exact .inr rfl) (by decide) ped_int)
  (pbd_cons (psd_for rfl (pid_seq (ped_V (pv 5))) (pgd_name (i := 9) (by decide) (pg_name sc__law_products.nd rfl (by first | exact .inl rfl | exact .inr rfl)))
  (pbd_one (psd_setN (i := 8) sc__law_products.nd rfl (by first | exact .inl rfl | exact .inr rfl) (by decide) (ped_binD op_fMul (ped_V (pv 8)) (ped_binD op_fAdd ped_int (ped_V (pv 9)))))))
  (pbd_cons (psd_if (PTd.ofW (pwd_or (ptd_not (ptd_val (ped_go (ok__law_same (P := P) (w := w) (base := base) M) hgd hr (by decide) rfl (pcd_val (ped_fz (ped_go (ok_lookalike_number (P := P) (w := w) (base := base) M) hgd hr (by decide) rfl (pcd_val (ped_V (pv 1)) (pcd_val ped_str pcd_nil)) (by decide) rfl)) (pcd_val (ped_V (pv 8)) pcd_nil)) (by decide) rfl))) (pwd_or1 (ptd_cmp sc_fNe (op_fNe (u64 hr)) (ped_V (pv 1)) (ped_V (pv 5)) rfl))))
  (pbd_one (psd_ret ped_bl))
  pbd_nil)
  (pbd_cons (psd_par (is := [10, 11, 6]) (xs := ["many", "c", "j"]) (.inl rfl) sc__law_products.nd (.cons ⟨rfl, rfl⟩ (.cons ⟨rfl, rfl⟩ (.cons ⟨rfl, rfl⟩ .nil))) (by decide) (pad_cons (ped_binD op_fAdd ped_int (ped_binD op_fMul ped_int (ped_go (ok__law_pick (P := P) (w := w) (base := base) M) hgd hr (by decide) rfl (pcd_lend (pv 0) (pcd_val ped_int pcd_nil)) (by decide) rfl))) (pad_cons (ped_go (ok__law_pick (P := P) (w := w) (base := base) M) hgd hr (by decide) rfl (pcd_lend (pv 0) (pcd_val ped_int pcd_nil)) (by decide) rfl) (pad_cons (ped_go (ok__law_pick (P := P) (w := w) (base := base) M) hgd hr (by decide) rfl (pcd_lend (pv 0) (pcd_val ped_int pcd_nil)) (by decide) rfl) pad_nil))) rfl (by decide))
  (pbd_one (psd_ret (ped_go (ok__law_same (P := P) (w := w) (base := base) M) hgd hr (by decide) rfl (pcd_val (ped_fz (ped_go (ok_symmetric (P := P) (w := w) (base := base) M) hgd hr (by decide) rfl (pcd_val (ped_fz (ped_binD op_fMul (ped_lst (pad_cons (ped_V (pv 11)) pad_nil)) (ped_V (pv 10)))) (pcd_val (ped_V (pv 6)) pcd_nil)) (by decide) rfl)) (pcd_val (ped_fz (ped_binD op_fMul (ped_go (ok__law_choose (P := P) (w := w) (base := base) M) hgd hr (by decide) rfl (pcd_val (ped_V (pv 10)) (pcd_val (ped_V (pv 6)) pcd_nil)) (by decide) rfl) (ped_go (ok__law_power (P := P) (w := w) (base := base) M) hgd hr (by decide) rfl (pcd_val (ped_V (pv 11)) (pcd_val (ped_V (pv 6)) pcd_nil)) (by decide) rfl))) pcd_nil)) (by decide) rfl))))))))))
theorem sc__law_purse : FnScope ["script", "figures", "at", "rest", "turn"] ["script"] (defScope (top 26)) := ⟨rfl, rfl, rfl, by decide +kernel, rfl, by decide +kernel, by decide +kernel⟩
theorem ok__law_purse (M : Mo ts fn K mg) : Good P w K mg base 1 "_law_purse" ["script"] [] f__law_purse :=
  good_of (k := 0) (N := ["script", "figures", "at", "rest", "turn"]) (body := m__law_purse) (M.fun_ 23 rfl) (M.glo 33 rfl) sc__law_purse (by decide) (by decide) (fun _ _ _ _ _ _ us hl => match us, hl with | [_], _ => rfl) fun cdv A outer s H E hgd hr =>
  (pbd_cons (psd_setON (i := 1) sc__law_purse.nd rfl (by first | exact .inl rfl | exact .inr rfl) (by decide) (ped_lst pad_nil))
  (pbd_cons (psd_for rfl (pid_range1 rfl (M.free 1 rfl) (pad_cons (ped_bS sc_fMin (c_fMin rfl) rfl (M.free 0 rfl) PyProof.Rows.boot_min (pad_cons (ped_bS sc_fLen c_fLen rfl (M.free 3 rfl) PySem.boot_len (pad_cons (ped_V (pv 0)) pad_nil)) (pad_cons ped_int pad_nil))) pad_nil)) (pgd_name (i := 2) (by decide) (pg_name sc__law_purse.nd rfl (by first | exact .inl rfl | exact .inr rfl)))
  (pbd_cons (psd_setN (i := 3) sc__law_purse.nd rfl (by first | exact .inl rfl | exact .inr rfl) (by decide) (ped_binS sc_fMod op_fMod (ped_tS sc_fInt c_fInt rfl (M.free 7 rfl) PyProof.Rows.boot_int (pad_cons (ped_ix (ped_V (pv 0)) (ped_V (pv 2)) (fun _ _ => rfl)) pad_nil)) (ped_binS sc_fPow op_fPow ped_int ped_int)))
  (pbd_one (psd_for rfl (pid_range1 rfl (M.free 1 rfl) (pad_cons ped_int pad_nil)) (pgd_name (i := 4) (by decide) (pg_name sc__law_purse.nd rfl (by first | exact .inl rfl | exact .inr rfl)))
  (pbd_cons (psd_expr (ped_append (pv 1) (ped_binS sc_fMod op_fMod (ped_V (pv 3)) ped_int)))
  (pbd_cons (psd_setN (i := 3) sc__law_purse.nd rfl (by first | exact .inl rfl | exact .inr rfl) (by decide) (ped_binS sc_fFdiv op_fFdiv (ped_V (pv 3)) ped_int))
  (pbd_one (psd_if (ptd_cmp sc_fEq (op_fEq (u64 hr)) (ped_V (pv 3)) ped_int rfl)
  (pbd_one psd_break)
  pbd_nil))))))))
  (pbd_one (psd_ret (ped_lst (pad_cons ped_int (pad_cons (ped_Share (pv 1)) pad_nil)))))))
theorem sc__law_scattered : FnScope ["n", "k", "q", "row", "m", "j"] ["n", "k", "q"] (defScope (top 34)) := ⟨rfl, rfl, rfl, by decide +kernel, rfl, by decide +kernel, by decide +kernel⟩
theorem ok__law_scattered (M : Mo ts fn K mg) : Good P w K mg base 1 "_law_scattered" ["n", "k", "q"] [] f__law_scattered :=
  good_of (k := 0) (N := ["n", "k", "q", "row", "m", "j"]) (body := m__law_scattered) (M.fun_ 24 rfl) (M.glo 34 rfl) sc__law_scattered (by decide) (by decide) (fun _ _ _ _ _ _ us hl => match us, hl with | [_, _, _], _ => rfl) fun cdv A outer s H E hgd hr =>
  (pbd_cons (psd_setN (i := 3) sc__law_scattered.nd rfl (by first | exact .inl rfl | exact .inr rfl) (by decide) (ped_binD op_fAdd (ped_lst (pad_cons ped_int pad_nil)) (ped_binD op_fMul (ped_lst (pad_cons ped_int pad_nil)) (ped_V (pv 0)))))
  (pbd_cons (psd_for rfl (pid_range1 rfl (M.free 1 rfl) (pad_cons (ped_binD op_fAdd (ped_V (pv 0)) (ped_V (pv 1))) pad_nil)) (pgd_name (i := 4) (by decide) (pg_name sc__law_scattered.nd rfl (by first | exact .inl rfl | exact .inr rfl)))
  (pbd_one (psd_setN (i := 3) sc__law_scattered.nd rfl (by first | exact .inl rfl | exact .inr rfl) (by decide) (ped_binD op_fAdd (ped_lst (pad_cons (ped_fz (ped_binD op_fMul (ped_ix (ped_V (pv 3)) ped_int (fun _ _ => rfl)) (ped_V (pv 2)))) pad_nil)) (ped_comp (own := ([("j", 5)] : List (Str × Nat))) rfl sc__law_scattered.nd (pid_range2 rfl (M.free 1 rfl) (pad_cons ped_int (pad_cons (ped_binD op_fAdd (ped_V (pv 0)) ped_int) pad_nil))) (blkOk_by (N := ["n", "k", "q", "row", "m", "j"]) (sc := defScope (top 34)) (by decide +kernel)) (by decide) (by decide) (fun s H C cl fp => (pgd_name (i := 5) (by decide) (pg_name sc__law_scattered.nd rfl (by first | exact .inl rfl | exact .inr rfl)))) (fun s H C cl fp => .nil) (fun s H C cl fp => (ped_binD op_fAdd (ped_ix (ped_V (pv 3)) (ped_binS sc_fSub op_fSub (ped_V (pv 5)) ped_int) (fun _ _ => rfl)) (ped_binD op_fMul (ped_binS sc_fSub op_fSub (ped_V (pv 2)) ped_int) (ped_ix (ped_V (pv 3)) (ped_V (pv 5)) (fun _ _ => rfl))))))))))
  (pbd_one (psd_ret (ped_ix (ped_V (pv 3)) (ped_V (pv 0)) (fun _ _ => rfl))))))
theorem sc_doubling_number : FnScope ["n", "runs", "k"] ["n", "runs", "k"] (defScope (top 22)) := ⟨rfl, rfl, rfl, by decide +kernel, rfl, by decide +kernel, by decide +kernel⟩
theorem ok_doubling_number (M : Mo ts fn K mg) : Good P w K mg base 43 "doubling_number" ["n", "runs", "k"] [] f_doubling_number :=
  good_of (k := 42) (N := ["n", "runs", "k"]) (body := m_doubling_number) (M.fun_ 25 rfl) (M.glo 35 rfl) sc_doubling_number (by decide) (by decide) (fun _ _ _ _ _ _ us hl => match us, hl with | [_, _, _], _ => rfl) fun cdv A outer s H E hgd hr =>
  (pbd_cons (psd_expr (ped_go (ok_check_number (P := P) (w := w) (base := base) M) hgd hr (by decide) rfl (pcd_val (ped_V (pv 0)) (pcd_val ped_int pcd_nil)) (by decide) rfl))
  (pbd_cons (psd_expr (ped_go (ok_check_number (P := P) (w := w) (base := base) M) hgd hr (by decide) rfl (pcd_val (ped_V (pv 1)) (pcd_val ped_int pcd_nil)) (by decide) rfl))
  (pbd_cons (psd_expr (ped_go (ok_check_number (P := P) (w := w) (base := base) M) hgd hr (by decide) rfl (pcd_val (ped_V (pv 2)) (pcd_val ped_int pcd_nil)) (by decide) rfl))
  (pbd_cons (psd_if (ptd_cmp sc_fGt op_fGt (ped_V (pv 1)) (ped_V (pv 0)) rfl)
  (pbd_one (psd_raise rfl (exc_BadCase (P := P) (w := w) (base := base) M) hr (by decide) ped_str rfl))
  pbd_nil)
  (pbd_one (psd_ret (ped_go (ok_chosen (P := P) (w := w) (base := base) M) hgd hr (by decide) rfl (pcd_val (ped_binS sc_fSub op_fSub (ped_binD op_fAdd (ped_V (pv 2)) (ped_V (pv 1))) ped_int) (pcd_val (ped_V (pv 2)) pcd_nil)) (by decide) rfl)))))))
theorem sc_noise_number : FnScope ["n", "k", "many"] ["n", "k", "many"] (defScope (top 20)) := ⟨rfl, rfl, rfl, by decide +kernel, rfl, by decide +kernel, by decide +kernel⟩
theorem ok_noise_number (M : Mo ts fn K mg) : Good P w K mg base 43 "noise_number" ["n", "k", "many"] [] f_noise_number :=
  good_of (k := 42) (N := ["n", "k", "many"]) (body := m_noise_number) (M.fun_ 26 rfl) (M.glo 36 rfl) sc_noise_number (by decide) (by decide) (fun _ _ _ _ _ _ us hl => match us, hl with | [_, _, _], _ => rfl) fun cdv A outer s H E hgd hr =>
  (pbd_cons (psd_expr (ped_go (ok_check_number (P := P) (w := w) (base := base) M) hgd hr (by decide) rfl (pcd_val (ped_V (pv 0)) (pcd_val ped_int pcd_nil)) (by decide) rfl))
  (pbd_cons (psd_expr (ped_go (ok_check_number (P := P) (w := w) (base := base) M) hgd hr (by decide) rfl (pcd_val (ped_V (pv 1)) (pcd_val ped_int pcd_nil)) (by decide) rfl))
  (pbd_cons (psd_expr (ped_go (ok_check_number (P := P) (w := w) (base := base) M) hgd hr (by decide) rfl (pcd_val (ped_V (pv 2)) (pcd_val ped_int pcd_nil)) (by decide) rfl))
  (pbd_one (psd_ret (ped_binD op_fMul (ped_go (ok_chosen (P := P) (w := w) (base := base) M) hgd hr (by decide) rfl (pcd_val (ped_fz (ped_binD op_fAdd (ped_V (pv 0)) (ped_V (pv 1)))) (pcd_val (ped_V (pv 1)) pcd_nil)) (by decide) rfl) (ped_go (ok_times_over (P := P) (w := w) (base := base) M) hgd hr (by decide) rfl (pcd_val (ped_V (pv 2)) (pcd_val (ped_V (pv 1)) pcd_nil)) (by decide) rfl)))))))
theorem sc_scattered_number : FnScope ["n", "k", "q", "told", "ways", "factor", "i"] ["n", "k", "q"] (defScope (top 21)) := ⟨rfl, rfl, rfl, by decide +kernel, rfl, by decide +kernel, by decide +kernel⟩
theorem ok_scattered_number (M : Mo ts fn K mg) : Good P w K mg base 43 "scattered_number" ["n", "k", "q"] [] f_scattered_number :=
  good_of (k := 42) (N := ["n", "k", "q", "told", "ways", "factor", "i"]) (body := m_scattered_number) (M.fun_ 27 rfl) (M.glo 37 rfl) sc_scattered_number (by decide) (by decide) (fun _ _ _ _ _ _ us hl => match us, hl with | [_, _, _], _ => rfl) fun cdv A outer s H E hgd hr =>
  (pbd_cons (psd_expr (ped_go (ok_check_number (P := P) (w := w) (base := base) M) hgd hr (by decide) rfl (pcd_val (ped_V (pv 0)) (pcd_val ped_int pcd_nil)) (by decide) rfl))
  (pbd_cons (psd_expr (ped_go (ok_check_number (P := P) (w := w) (base := base) M) hgd hr (by decide) rfl (pcd_val (ped_V (pv 1)) (pcd_val ped_int pcd_nil)) (by decide) rfl))
  (pbd_cons (psd_expr (ped_go (ok_check_number (P := P) (w := w) (base := base) M) hgd hr (by decide) rfl (pcd_val (ped_V (pv 2)) (pcd_val ped_int pcd_nil)) (by decide) rfl))
  (pbd_cons (psd_setN (i := 3) sc_scattered_number.nd rfl (by first | exact .inl rfl | exact .inr rfl) (by decide) ped_int)
  (pbd_cons (psd_setN (i := 4) sc_scattered_number.nd rfl (by first | exact .inl rfl | exact .inr rfl) (by decide) ped_int)
  (pbd_cons (psd_setN (i := 5) sc_scattered_number.nd rfl (by first | exact .inl rfl | exact .inr rfl) (by decide) ped_int)
  (pbd_cons (psd_for rfl (pid_range1 rfl (M.free 1 rfl) (pad_cons (ped_binD op_fAdd (ped_V (pv 1)) ped_int) pad_nil)) (pgd_name (i := 6) (by decide) (pg_name sc_scattered_number.nd rfl (by first | exact .inl rfl | exact .inr rfl)))
  (pbd_cons (psd_setN (i := 3) sc_scattered_number.nd rfl (by first | exact .inl rfl | exact .inr rfl) (by decide) (ped_binD op_fAdd (ped_V (pv 3)) (ped_binD op_fMul (ped_V (pv 4)) (ped_V (pv 5)))))
  (pbd_cons (psd_setN (i := 4) sc_scattered_number.nd rfl (by first | exact .inl rfl | exact .inr rfl) (by decide) (ped_binS sc_fFdiv op_fFdiv (ped_binD op_fMul (ped_V (pv 4)) (ped_binS sc_fSub op_fSub (ped_binD op_fAdd (ped_V (pv 0)) (ped_V (pv 1))) (ped_V (pv 6)))) (ped_binD op_fAdd (ped_V (pv 6)) ped_int)))
  (pbd_one (psd_setN (i := 5) sc_scattered_number.nd rfl (by first | exact .inl rfl | exact .inr rfl) (by decide) (ped_binD op_fMul (ped_V (pv 5)) (ped_binS sc_fSub op_fSub (ped_V (pv 2)) ped_int)))))))
  (pbd_one (psd_ret (ped_V (pv 3)))))))))))
theorem sc__law_put_in : FnScope ["purse", "n", "k", "many", "q", "few", "rest", "far", "due", "runs"] ["purse", "n", "k"] (defScope (top 39)) := ⟨rfl, rfl, rfl, by decide +kernel, rfl, by decide +kernel, by decide +kernel⟩
theorem ok__law_put_in (M : Mo ts fn K mg) : Good P w K mg base 44 "_law_put_in" ["purse", "n", "k"] [0] f__law_put_in :=
  good_of (k := 43) (N := ["purse", "n", "k", "many", "q", "few", "rest", "far", "due", "runs"]) (body := m__law_put_in) (M.fun_ 28 rfl) (M.glo 38 rfl) sc__law_put_in (by decide) (by decide) (fun _ _ _ _ _ _ us hl => match us, hl with | [_, _, _], _ => rfl) fun cdv A outer s H E hgd hr =>
  (pbd_cons (psd_setN (i := 3) sc__law_put_in.nd rfl (by first | exact .inl rfl | exact .inr rfl) (by decide) (ped_ix (ped_tup (pad_cons ped_int (pad_cons ped_int (pad_cons ped_int (pad_cons ped_int (pad_cons ped_int (pad_cons ped_int pad_nil))))))) (ped_go (ok__law_pick (P := P) (w := w) (base := base) M) hgd hr (by decide) rfl (pcd_lend (pv 0) (pcd_val ped_int pcd_nil)) (by decide) rfl) (fun _ _ => rfl)))
  (pbd_cons (psd_if (ptd_not (ptd_val (ped_go (ok__law_same (P := P) (w := w) (base := base) M) hgd hr (by decide) rfl (pcd_val (ped_fz (ped_go (ok_noise_number (P := P) (w := w) (base := base) M) hgd hr (by decide) rfl (pcd_val (ped_V (pv 1)) (pcd_val (ped_V (pv 2)) (pcd_val (ped_V (pv 3)) pcd_nil))) (by decide) rfl)) (pcd_val (ped_fz (ped_binD op_fMul (ped_go (ok__law_choose (P := P) (w := w) (base := base) M) hgd hr (by decide) rfl (pcd_val (ped_fz (ped_binD op_fAdd (ped_V (pv 1)) (ped_V (pv 2)))) (pcd_val (ped_V (pv 2)) pcd_nil)) (by decide) rfl) (ped_go (ok__law_power (P := P) (w := w) (base := base) M) hgd hr (by decide) rfl (pcd_val (ped_V (pv 3)) (pcd_val (ped_V (pv 2)) pcd_nil)) (by decide) rfl))) pcd_nil)) (by decide) rfl)))
  (pbd_one (psd_ret ped_bl))
  pbd_nil)
  (pbd_cons (psd_par (is := [4, 5]) (xs := ["q", "few"]) (.inl rfl) sc__law_put_in.nd (.cons ⟨rfl, rfl⟩ (.cons ⟨rfl, rfl⟩ .nil)) (by decide) (pad_cons (ped_binD op_fAdd ped_int (ped_go (ok__law_pick (P := P) (w := w) (base := base) M) hgd hr (by decide) rfl (pcd_lend (pv 0) (pcd_val ped_int pcd_nil)) (by decide) rfl)) (pad_cons (ped_bS sc_fMin (c_fMin rfl) rfl (M.free 0 rfl) PyProof.Rows.boot_min (pad_cons (ped_V (pv 2)) (pad_cons ped_int pad_nil))) pad_nil)) rfl (by decide))
  (pbd_cons (psd_setN (i := 6) sc__law_put_in.nd rfl (by first | exact .inl rfl | exact .inr rfl) (by decide) (ped_binD op_fAdd (ped_binD op_fAdd ped_int (ped_V (pv 5))) (ped_go (ok__law_pick (P := P) (w := w) (base := base) M) hgd hr (by decide) rfl (pcd_lend (pv 0) (pcd_val ped_int pcd_nil)) (by decide) rfl)))
  (pbd_cons (psd_if (ptd_not (ptd_val (ped_go (ok__law_same (P := P) (w := w) (base := base) M) hgd hr (by decide) rfl (pcd_val (ped_fz (ped_go (ok_scattered_number (P := P) (w := w) (base := base) M) hgd hr (by decide) rfl (pcd_val (ped_bS sc_fMin (c_fMin rfl) rfl (M.free 0 rfl) PyProof.Rows.boot_min (pad_cons (ped_V (pv 1)) (pad_cons ped_int pad_nil))) (pcd_val (ped_V (pv 5)) (pcd_val (ped_V (pv 4)) pcd_nil))) (by decide) rfl)) (pcd_val (ped_fz (ped_go (ok__law_scattered (P := P) (w := w) (base := base) M) hgd hr (by decide) rfl (pcd_val (ped_bS sc_fMin (c_fMin rfl) rfl (M.free 0 rfl) PyProof.Rows.boot_min (pad_cons (ped_V (pv 1)) (pad_cons ped_int pad_nil))) (pcd_val (ped_V (pv 5)) (pcd_val (ped_V (pv 4)) pcd_nil))) (by decide) rfl)) pcd_nil)) (by decide) rfl)))
  (pbd_one (psd_ret ped_bl))
  pbd_nil)
  (pbd_cons (psd_if (ptd_not (ptd_val (ped_go (ok__law_same (P := P) (w := w) (base := base) M) hgd hr (by decide) rfl (pcd_val (ped_fz (ped_go (ok_scattered_number (P := P) (w := w) (base := base) M) hgd hr (by decide) rfl (pcd_val ped_int (pcd_val (ped_V (pv 6)) (pcd_val (ped_V (pv 4)) pcd_nil))) (by decide) rfl)) (pcd_val (ped_fz (ped_go (ok__law_power (P := P) (w := w) (base := base) M) hgd hr (by decide) rfl (pcd_val (ped_V (pv 4)) (pcd_val (ped_V (pv 6)) pcd_nil)) (by decide) rfl)) pcd_nil)) (by decide) rfl)))
  (pbd_one (psd_ret ped_bl))
  pbd_nil)
  (pbd_cons (psd_setN (i := 7) sc__law_put_in.nd rfl (by first | exact .inl rfl | exact .inr rfl) (by decide) (ped_binS sc_fSub op_fSub ped_int (ped_go (ok__law_pick (P := P) (w := w) (base := base) M) hgd hr (by decide) rfl (pcd_lend (pv 0) (pcd_val ped_int pcd_nil)) (by decide) rfl)))
  (pbd_cons (psd_setN (i := 8) sc__law_put_in.nd rfl (by first | exact .inl rfl | exact .inr rfl) (by decide) (ped_binD op_fAdd ped_int (ped_binD op_fMul (ped_V (pv 7)) (ped_binS sc_fSub op_fSub (ped_V (pv 4)) ped_int))))
  (pbd_cons (psd_if (ptd_not (ptd_val (ped_go (ok__law_same (P := P) (w := w) (base := base) M) hgd hr (by decide) rfl (pcd_val (ped_fz (ped_go (ok_scattered_number (P := P) (w := w) (base := base) M) hgd hr (by decide) rfl (pcd_val (ped_binS sc_fSub op_fSub (ped_V (pv 7)) ped_int) (pcd_val ped_int (pcd_val (ped_V (pv 4)) pcd_nil))) (by decide) rfl)) (pcd_val (ped_V (pv 8)) pcd_nil)) (by decide) rfl)))
  (pbd_one (psd_ret ped_bl))
  pbd_nil)
  (pbd_cons (psd_setN (i := 9) sc__law_put_in.nd rfl (by first | exact .inl rfl | exact .inr rfl) (by decide) (ped_binD op_fAdd ped_int (ped_binS sc_fMod op_fMod (ped_tS sc_fInt c_fInt rfl (M.free 7 rfl) PyProof.Rows.boot_int (pad_cons (ped_go (ok__law_pick (P := P) (w := w) (base := base) M) hgd hr (by decide) rfl (pcd_lend (pv 0) (pcd_val ped_int pcd_nil)) (by decide) rfl) pad_nil)) (ped_binD op_fAdd (ped_V (pv 1)) ped_int))))
  (pbd_cons (psd_if (ptd_not (ptd_val (ped_go (ok__law_same (P := P) (w := w) (base := base) M) hgd hr (by decide) rfl (pcd_val (ped_fz (ped_go (ok_doubling_number (P := P) (w := w) (base := base) M) hgd hr (by decide) rfl (pcd_val (ped_fz (ped_binD op_fAdd (ped_V (pv 1)) ped_int)) (pcd_val (ped_V (pv 9)) (pcd_val (ped_V (pv 2)) pcd_nil))) (by decide) rfl)) (pcd_val (ped_fz (ped_go (ok__law_choose (P := P) (w := w) (base := base) M) hgd hr (by decide) rfl (pcd_val (ped_binS sc_fSub op_fSub (ped_binD op_fAdd (ped_V (pv 2)) (ped_V (pv 9))) ped_int) (pcd_val (ped_binS sc_fSub op_fSub (ped_V (pv 9)) ped_int) pcd_nil)) (by decide) rfl)) pcd_nil)) (by decide) rfl)))
  (pbd_one (psd_ret ped_bl))
  pbd_nil)
  (pbd_one (psd_ret (ped_and (ped_go (ok__law_same (P := P) (w := w) (base := base) M) hgd hr (by decide) rfl (pcd_val (ped_fz (ped_go (ok_doubling_number (P := P) (w := w) (base := base) M) hgd hr (by decide) rfl (pcd_val (ped_fz (ped_binD op_fAdd (ped_V (pv 1)) ped_int)) (pcd_val ped_int (pcd_val (ped_V (pv 2)) pcd_nil))) (by decide) rfl)) (pcd_val ped_int pcd_nil)) (by decide) rfl) (ped_one (ped_go (ok__law_same (P := P) (w := w) (base := base) M) hgd hr (by decide) rfl (pcd_val (ped_fz (ped_go (ok_doubling_number (P := P) (w := w) (base := base) M) hgd hr (by decide) rfl (pcd_val (ped_V (pv 7)) (pcd_val (ped_V (pv 7)) (pcd_val ped_int pcd_nil))) (by decide) rfl)) (pcd_val (ped_V (pv 7)) pcd_nil)) (by decide) rfl))))))))))))))))
theorem sc_turning_by : FnScope ["n", "k"] ["n", "k"] (defScope (top 24)) := ⟨rfl, rfl, rfl, by decide +kernel, rfl, by decide +kernel, by decide +kernel⟩
theorem ok_turning_by (M : Mo ts fn K mg) : Good P w K mg base 43 "turning_by" ["n", "k"] [] f_turning_by :=
  good_of (k := 42) (N := ["n", "k"]) (body := m_turning_by) (M.fun_ 29 rfl) (M.glo 39 rfl) sc_turning_by (by decide) (by decide) (fun _ _ _ _ _ _ us hl => match us, hl with | [_, _], _ => rfl) fun cdv A outer s H E hgd hr =>
  (pbd_cons (psd_expr (ped_go (ok_check_number (P := P) (w := w) (base := base) M) hgd hr (by decide) rfl (pcd_val (ped_V (pv 0)) (pcd_val ped_int pcd_nil)) (by decide) rfl))
  (pbd_cons (psd_expr (ped_go (ok_check_number (P := P) (w := w) (base := base) M) hgd hr (by decide) rfl (pcd_val (ped_V (pv 1)) (pcd_val ped_int pcd_nil)) (by decide) rfl))
  (pbd_cons (psd_if (ptd_cmp sc_fGt op_fGt (ped_binD op_fMul ped_int (ped_V (pv 1))) (ped_V (pv 0)) rfl)
  (pbd_one (psd_ret ped_int))
  pbd_nil)
  (pbd_one (psd_ret (ped_go (ok_chosen (P := P) (w := w) (base := base) M) hgd hr (by decide) rfl (pcd_val (ped_binS sc_fSub op_fSub (ped_V (pv 0)) (ped_V (pv 1))) (pcd_val (ped_V (pv 1)) pcd_nil)) (by decide) rfl))))))
theorem sc_turning_number : FnScope ["n", "told", "after", "_"] ["n"] (defScope (top 23)) := ⟨rfl, rfl, rfl, by decide +kernel, rfl, by decide +kernel, by decide +kernel⟩
theorem ok_turning_number (M : Mo ts fn K mg) : Good P w K mg base 43 "turning_number" ["n"] [] f_turning_number :=
  good_of (k := 42) (N := ["n", "told", "after", "_"]) (body := m_turning_number) (M.fun_ 30 rfl) (M.glo 40 rfl) sc_turning_number (by decide) (by decide) (fun _ _ _ _ _ _ us hl => match us, hl with | [_], _ => rfl) fun cdv A outer s H E hgd hr =>
  (pbd_cons (psd_expr (ped_go (ok_check_number (P := P) (w := w) (base := base) M) hgd hr (by decide) rfl (pcd_val (ped_V (pv 0)) (pcd_val ped_int pcd_nil)) (by decide) rfl))
  (pbd_cons (psd_asgT (pgd_tup rfl (pgsd_cons (pgd_name (i := 1) (by decide) (pg_name sc_turning_number.nd rfl (by first | exact .inl rfl | exact .inr rfl))) (pgsd_cons (pgd_name (i := 2) (by decide) (pg_name sc_turning_number.nd rfl (by first | exact .inl rfl | exact .inr rfl))) pgsd_nil))) (ped_tup (pad_cons ped_int (pad_cons ped_int pad_nil))))
  (pbd_cons (psd_for rfl (pid_range1 rfl (M.free 1 rfl) (pad_cons (ped_V (pv 0)) pad_nil)) (pgd_name (i := 3) (by decide) (pg_name sc_turning_number.nd rfl (by first | exact .inl rfl | exact .inr rfl)))
  (pbd_one (psd_par (is := [1, 2]) (xs := ["told", "after"]) (.inl rfl) sc_turning_number.nd (.cons ⟨rfl, rfl⟩ (.cons ⟨rfl, rfl⟩ .nil)) (by decide) (pad_cons (ped_V (pv 2)) (pad_cons (ped_binD op_fAdd (ped_V (pv 1)) (ped_V (pv 2))) pad_nil)) rfl (by decide))))
  (pbd_one (psd_ret (ped_V (pv 1)))))))
theorem sc__law_call : FnScope ["ask", "args"] ["ask", "args"] (defScope (top 41)) := ⟨rfl, rfl, rfl, by decide +kernel, rfl, by decide +kernel, by decide +kernel⟩
theorem ok__law_call (M : Mo ts fn K mg) : Good P w K mg base 45 "_law_call" ["ask", "args"] [] f__law_call :=
  good_of (k := 44) (N := ["ask", "args"]) (body := m__law_call) (M.fun_ 31 rfl) (M.glo 41 rfl) sc__law_call (by decide) (by decide) (fun _ _ _ _ _ _ us hl => match us, hl with | [_, _], _ => rfl) fun cdv A outer s H E hgd hr =>
  (pbd_cons (psd_if (ptd_cmp sc_fEq (op_fEq (u64 hr)) (ped_bS sc_fLen c_fLen rfl (M.free 3 rfl) PySem.boot_len (pad_cons (ped_V (pv 1)) pad_nil)) ped_int rfl)
  (pbd_one (psd_ret (ped_callL (n := 1) (holds_cons (ok_turning_number (P := P) (w := w) (base := base) M) rfl (by decide) (holds_nil)) hgd hr (pv 0) (pcd_val (ped_ix (ped_V (pv 1)) ped_int (fun _ _ => rfl)) pcd_nil) rfl rfl)))
  pbd_nil)
  (pbd_cons (psd_if (ptd_cmp sc_fEq (op_fEq (u64 hr)) (ped_bS sc_fLen c_fLen rfl (M.free 3 rfl) PySem.boot_len (pad_cons (ped_V (pv 1)) pad_nil)) ped_int rfl)
  (pbd_one (psd_ret (ped_callL (n := 2) (holds_cons (ok_choose (P := P) (w := w) (base := base) M) rfl (by decide) (holds_cons (ok_lookalike_number (P := P) (w := w) (base := base) M) rfl (by decide) (holds_cons (ok_symmetric (P := P) (w := w) (base := base) M) rfl (by decide) (holds_cons (ok_turning_by (P := P) (w := w) (base := base) M) rfl (by decide) (holds_nil))))) hgd hr (pv 0) (pcd_val (ped_ix (ped_V (pv 1)) ped_int (fun _ _ => rfl)) (pcd_val (ped_ix (ped_V (pv 1)) ped_int (fun _ _ => rfl)) pcd_nil)) rfl rfl)))
  pbd_nil)
  (pbd_cons (psd_if (ptd_cmp sc_fEq (op_fEq (u64 hr)) (ped_bS sc_fLen c_fLen rfl (M.free 3 rfl) PySem.boot_len (pad_cons (ped_V (pv 1)) pad_nil)) ped_int rfl)
  (pbd_one (psd_ret (ped_callL (n := 3) (holds_cons (ok_doubling_number (P := P) (w := w) (base := base) M) rfl (by decide) (holds_cons (ok_noise_number (P := P) (w := w) (base := base) M) rfl (by decide) (holds_cons (ok_scattered_number (P := P) (w := w) (base := base) M) rfl (by decide) (holds_nil)))) hgd hr (pv 0) (pcd_val (ped_ix (ped_V (pv 1)) ped_int (fun _ _ => rfl)) (pcd_val (ped_ix (ped_V (pv 1)) ped_int (fun _ _ => rfl)) (pcd_val (ped_ix (ped_V (pv 1)) ped_int (fun _ _ => rfl)) pcd_nil))) rfl rfl)))
  pbd_nil)
  (pbd_one (psd_ret (ped_callL (n := 4) (holds_cons (ok_mixed_ways (P := P) (w := w) (base := base) M) rfl (by decide) (holds_nil)) hgd hr (pv 0) (pcd_val (ped_ix (ped_V (pv 1)) ped_int (fun _ _ => rfl)) (pcd_val (ped_ix (ped_V (pv 1)) ped_int (fun _ _ => rfl)) (pcd_val (ped_ix (ped_V (pv 1)) ped_int (fun _ _ => rfl)) (pcd_val (ped_ix (ped_V (pv 1)) ped_int (fun _ _ => rfl)) pcd_nil)))) rfl rfl))))))
theorem sc__law_is_heard : FnScope ["ask", "args", "due", "place", "word", "at", "raised"] ["ask", "args", "due", "place"] (defScope (top 42)) := ⟨rfl, rfl, rfl, by decide +kernel, rfl, by decide +kernel, by decide +kernel⟩
theorem ok__law_is_heard (M : Mo ts fn K mg) : Good P w K mg base 46 "_law_is_heard" ["ask", "args", "due", "place"] [] f__law_is_heard :=
  good_of (k := 45) (N := ["ask", "args", "due", "place", "word", "at", "raised"]) (body := m__law_is_heard) (M.fun_ 32 rfl) (M.glo 49 rfl) sc__law_is_heard (by decide) (by decide) (fun _ _ _ _ _ _ us hl => match us, hl with | [_, _, _, _], _ => rfl) fun cdv A outer s H E hgd hr =>
  (pbd_cons (psd_asgT (pgd_tup rfl (pgsd_cons (pgd_name (i := 4) (by decide) (pg_name sc__law_is_heard.nd rfl (by first | exact .inl rfl | exact .inr rfl))) (pgsd_cons (pgd_name (i := 5) (by decide) (pg_name sc__law_is_heard.nd rfl (by first | exact .inl rfl | exact .inr rfl))) pgsd_nil))) (ped_tup (pad_cons ped_str (pad_cons ped_non pad_nil))))
  (pbd_cons (psd_try rfl rfl sc__law_is_heard.nd (fun pn xe => (pbd_one (psd_expr (ped_go (ok__law_call (P := P) (w := w) (base := base) M) hgd hr (by decide) rfl (pcd_val (ped_V (pv 0)) (pcd_val (ped_V (pv 1)) pcd_nil)) (by decide) rfl))))
  (.named (i := 6) rfl (by decide) rfl (M.glo 42 rfl) rfl (by decide) (sud_pair (i := 4) (j := 5) (n := 6) sc__law_is_heard.nd (by decide) (by decide) ⟨rfl, rfl⟩ ⟨rfl, rfl⟩ (M.fld 43 rfl) rfl (fun a pn => pv 6) rfl rfl rfl rfl) (.named (i := 6) rfl (by decide) rfl (M.glo 44 rfl) rfl (by decide) (sud_pair (i := 4) (j := 5) (n := 6) sc__law_is_heard.nd (by decide) (by decide) ⟨rfl, rfl⟩ ⟨rfl, rfl⟩ (M.fld 43 rfl) rfl (fun a pn => pv 6) rfl rfl rfl rfl) (.named (i := 6) rfl (by decide) rfl (M.glo 45 rfl) rfl (by decide) (sud_pair (i := 4) (j := 5) (n := 6) sc__law_is_heard.nd (by decide) (by decide) ⟨rfl, rfl⟩ ⟨rfl, rfl⟩ (M.fld 43 rfl) rfl (fun a pn => pv 6) rfl rfl rfl rfl) (.plain (M.glo 46 rfl) rfl (by decide) (sud_plain fun a pn => (pbd_one (psd_setN (i := 4) sc__law_is_heard.nd rfl (by first | exact .inl rfl | exact .inr rfl) (by decide) ped_str))) .nil)))) (M.tab 47 rfl))
  (pbd_one (psd_ret (ped_and (ped_cmp sc_fEq (op_fEq (u64 hr)) (ped_V (pv 4)) (ped_V (pv 2)) rfl) (ped_one (ped_cmp sc_fEq (op_fEq (u64 hr)) (ped_bS sc_fReprX (c_fReprX hgd (u64 hr)) rfl (M.free 48 rfl) PyProof.Rows.boot_repr (pad_cons (ped_V (pv 5)) pad_nil)) (ped_bS sc_fReprX (c_fReprX hgd (u64 hr)) rfl (M.free 48 rfl) PyProof.Rows.boot_repr (pad_cons (ped_V (pv 3)) pad_nil)) rfl)))))))
theorem sc__law_first_told : FnScope ["ask", "goods", "bads", "places", "mix", "first", "args", "later", "word"] ["ask", "goods", "bads", "places", "mix"] (defScope (top 43)) := ⟨rfl, rfl, rfl, by decide +kernel, rfl, by decide +kernel, by decide +kernel⟩
theorem ok__law_first_told (M : Mo ts fn K mg) : Good P w K mg base 47 "_law_first_told" ["ask", "goods", "bads", "places", "mix"] [] f__law_first_told :=
  good_of (k := 46) (N := ["ask", "goods", "bads", "places", "mix", "first", "args", "later", "word"]) (body := m__law_first_told) (M.fun_ 33 rfl) (M.glo 50 rfl) sc__law_first_told (by decide) (by decide) (fun _ _ _ _ _ _ us hl => match us, hl with | [_, _, _, _, _], _ => rfl) fun cdv A outer s H E hgd hr =>
  (pbd_cons (psd_if (ptd_not (ptd_val (ped_go (ok__law_is_heard (P := P) (w := w) (base := base) M) hgd hr (by decide) rfl (pcd_val (ped_V (pv 0)) (pcd_val (ped_V (pv 1)) (pcd_val ped_str (pcd_val ped_non pcd_nil)))) (by decide) rfl)))
  (pbd_one (psd_ret ped_bl))
  pbd_nil)
  (pbd_cons (psd_for rfl (pid_range1 rfl (M.free 1 rfl) (pad_cons (ped_bS sc_fLen c_fLen rfl (M.free 3 rfl) PySem.boot_len (pad_cons (ped_V (pv 1)) pad_nil)) pad_nil)) (pgd_name (i := 5) (by decide) (pg_name sc__law_first_told.nd rfl (by first | exact .inl rfl | exact .inr rfl)))
  (pbd_cons (psd_setON (i := 6) sc__law_first_told.nd rfl (by first | exact .inl rfl | exact .inr rfl) (by decide) (ped_tD c_fList rfl (M.free 11 rfl) PyProof.Rows.boot_list (pad_cons (ped_V (pv 1)) pad_nil)))
  (pbd_cons (psd_setIx (pv 6) (ped_V (pv 5)) (ped_ix (ped_V (pv 2)) (ped_V (pv 5)) (fun _ _ => rfl)))
  (pbd_cons (psd_for rfl (pid_range2 rfl (M.free 1 rfl) (pad_cons (ped_binD op_fAdd (ped_V (pv 5)) ped_int) (pad_cons (ped_bS sc_fLen c_fLen rfl (M.free 3 rfl) PySem.boot_len (pad_cons (ped_V (pv 1)) pad_nil)) pad_nil))) (pgd_name (i := 7) (by decide) (pg_name sc__law_first_told.nd rfl (by first | exact .inl rfl | exact .inr rfl)))
  (pbd_one (psd_if (ptd_cmp sc_fGt op_fGt (ped_ix (ped_V (pv 4)) (ped_V (pv 7)) (fun _ _ => rfl)) ped_int rfl)
  (pbd_one (psd_setIx (pv 6) (ped_V (pv 7)) (ped_ix (ped_V (pv 2)) (ped_V (pv 7)) (fun _ _ => rfl))))
  pbd_nil)))
  (pbd_cons (psd_setN (i := 8) sc__law_first_told.nd rfl (by first | exact .inl rfl | exact .inr rfl) (by decide) ped_str)
  (pbd_cons (psd_if (ptd_val (ped_isi rfl (M.free 6 rfl) rfl (M.free 12 rfl) (by decide +kernel) (by decide) (ped_ix (ped_V (pv 1)) (ped_V (pv 5)) (fun _ _ => rfl))))
  (pbd_one (psd_setN (i := 8) sc__law_first_told.nd rfl (by first | exact .inl rfl | exact .inr rfl) (by decide) ped_str))
  pbd_nil)
  (pbd_one (psd_if (ptd_not (ptd_val (ped_go (ok__law_is_heard (P := P) (w := w) (base := base) M) hgd hr (by decide) rfl (pcd_val (ped_V (pv 0)) (pcd_val (ped_Share (pv 6)) (pcd_val (ped_V (pv 8)) (pcd_val (ped_ix (ped_V (pv 3)) (ped_V (pv 5)) (fun _ _ => rfl)) pcd_nil)))) (by decide) rfl)))
  (pbd_one (psd_ret ped_bl))
  pbd_nil))))))))
  (pbd_one (psd_ret ped_bl))))
theorem sc__law_wrong : FnScope ["purse", "least", "menu"] ["purse", "least"] (defScope (top 44)) := ⟨rfl, rfl, rfl, by decide +kernel, rfl, by decide +kernel, by decide +kernel⟩
theorem ok__law_wrong (M : Mo ts fn K mg) : Good P w K mg base 2 "_law_wrong" ["purse", "least"] [0] f__law_wrong :=
  good_of (k := 1) (N := ["purse", "least", "menu"]) (body := m__law_wrong) (M.fun_ 34 rfl) (M.glo 51 rfl) sc__law_wrong (by decide) (by decide) (fun _ _ _ _ _ _ us hl => match us, hl with | [_, _], _ => rfl) fun cdv A outer s H E hgd hr =>
  (pbd_cons (psd_setN (i := 2) sc__law_wrong.nd rfl (by first | exact .inl rfl | exact .inr rfl) (by decide) (ped_tup (pad_cons (ped_tup (pad_cons (ped_neg ped_int) (pad_cons (ped_neg ped_int) pad_nil))) (pad_cons (ped_tup (pad_cons ped_non (pad_cons ped_non pad_nil))) (pad_cons (ped_tup (pad_cons ped_bl (pad_cons ped_bl pad_nil))) (pad_cons (ped_tup (pad_cons ped_str (pad_cons ped_str pad_nil))) (pad_cons (ped_tup (pad_cons (ped_tup (pad_cons ped_int pad_nil)) (pad_cons (ped_tup (pad_cons ped_int pad_nil)) pad_nil))) (pad_cons (ped_tup (pad_cons (ped_lst (pad_cons ped_int (pad_cons (ped_fz (ped_lst (pad_cons ped_int pad_nil))) pad_nil))) (pad_cons (ped_tup (pad_cons ped_int (pad_cons (ped_tup (pad_cons ped_int pad_nil)) pad_nil))) pad_nil))) (pad_cons (ped_tup (pad_cons ped_bl (pad_cons ped_bl pad_nil))) pad_nil)))))))))
  (pbd_one (psd_ret (ped_ix (ped_binD op_fAdd (ped_V (pv 2)) (ped_tup (pad_cons (ped_tup (pad_cons (ped_binS sc_fSub op_fSub (ped_V (pv 1)) ped_int) (pad_cons (ped_binS sc_fSub op_fSub (ped_V (pv 1)) ped_int) pad_nil))) pad_nil))) (ped_go (ok__law_pick (P := P) (w := w) (base := base) M) hgd hr (by decide) rfl (pcd_lend (pv 0) (pcd_val ped_int pcd_nil)) (by decide) rfl) (fun _ _ => rfl)))))
theorem sc__law_refusals : FnScope ["purse", "mix", "x", "y", "low", "other", "j", "spoilt", "lot", "place", "bads", "places"] ["purse", "mix"] (defScope (top 45)) := ⟨rfl, rfl, rfl, by decide +kernel, rfl, by decide +kernel, by decide +kernel⟩
theorem ok__law_refusals (M : Mo ts fn K mg) : Good P w K mg base 48 "_law_refusals" ["purse", "mix"] [0] f__law_refusals :=
  good_of (k := 47) (N := ["purse", "mix", "x", "y", "low", "other", "j", "spoilt", "lot", "place", "bads", "places"]) (body := m__law_refusals) (M.fun_ 35 rfl) (M.glo 52 rfl) sc__law_refusals (by decide) (by decide) (fun _ _ _ _ _ _ us hl => match us, hl with | [_, _], _ => rfl) fun cdv A outer s H E hgd hr =>
  (pbd_cons (psd_par (is := [2, 3]) (xs := ["x", "y"]) (.inl rfl) sc__law_refusals.nd (.cons ⟨rfl, rfl⟩ (.cons ⟨rfl, rfl⟩ .nil)) (by decide) (pad_cons (ped_go (ok__law_wrong (P := P) (w := w) (base := base) M) hgd hr (by decide) rfl (pcd_lend (pv 0) (pcd_val ped_int pcd_nil)) (by decide) rfl) (pad_cons (ped_go (ok__law_wrong (P := P) (w := w) (base := base) M) hgd hr (by decide) rfl (pcd_lend (pv 0) (pcd_val ped_int pcd_nil)) (by decide) rfl) pad_nil)) rfl (by decide))
  (pbd_cons (psd_par (is := [4, 5]) (xs := ["low", "other"]) (.inl rfl) sc__law_refusals.nd (.cons ⟨rfl, rfl⟩ (.cons ⟨rfl, rfl⟩ .nil)) (by decide) (pad_cons (ped_go (ok__law_wrong (P := P) (w := w) (base := base) M) hgd hr (by decide) rfl (pcd_lend (pv 0) (pcd_val ped_int pcd_nil)) (by decide) rfl) (pad_cons (ped_go (ok__law_wrong (P := P) (w := w) (base := base) M) hgd hr (by decide) rfl (pcd_lend (pv 0) (pcd_val ped_int pcd_nil)) (by decide) rfl) pad_nil)) rfl (by decide))
  (pbd_cons (psd_setN (i := 6) sc__law_refusals.nd rfl (by first | exact .inl rfl | exact .inr rfl) (by decide) (ped_go (ok__law_pick (P := P) (w := w) (base := base) M) hgd hr (by decide) rfl (pcd_lend (pv 0) (pcd_val ped_int pcd_nil)) (by decide) rfl))
  (pbd_cons (psd_setN (i := 7) sc__law_refusals.nd rfl (by first | exact .inl rfl | exact .inr rfl) (by decide) (ped_binD op_fAdd (ped_slice (ped_lst (pad_cons ped_int (pad_cons ped_int (pad_cons ped_int (pad_cons ped_int pad_nil))))) pod_none (pod_some (ped_V (pv 6)))) (ped_lst (pad_cons (ped_ix (ped_V (pv 2)) ped_int (fun _ _ => rfl)) (pad_cons ped_int (pad_cons (ped_neg ped_int) pad_nil))))))
  (pbd_cons (psd_asgT (pgd_tup rfl (pgsd_cons (pgd_name (i := 8) (by decide) (pg_name sc__law_refusals.nd rfl (by first | exact .inl rfl | exact .inr rfl))) (pgsd_cons (pgd_name (i := 9) (by decide) (pg_name sc__law_refusals.nd rfl (by first | exact .inl rfl | exact .inr rfl))) pgsd_nil))) (ped_ix (ped_tup (pad_cons (ped_tup (pad_cons (ped_V (pv 7)) (pad_cons (ped_V (pv 6)) pad_nil))) (pad_cons (ped_tup (pad_cons ped_non (pad_cons (ped_neg ped_int) pad_nil))) (pad_cons (ped_tup (pad_cons ped_int (pad_cons (ped_neg ped_int) pad_nil))) (pad_cons (ped_tup (pad_cons ped_str (pad_cons (ped_neg ped_int) pad_nil))) pad_nil))))) (ped_go (ok__law_pick (P := P) (w := w) (base := base) M) hgd hr (by decide) rfl (pcd_lend (pv 0) (pcd_val ped_int pcd_nil)) (by decide) rfl) (fun _ _ => rfl)))
  (pbd_cons (psd_if (ptd_not (ptd_val (ped_go (ok__law_first_told (P := P) (w := w) (base := base) M) hgd hr (by decide) rfl (pcd_val (ped_fnV rfl (M.glo 16 rfl)) (pcd_val (ped_tup (pad_cons ped_int (pad_cons ped_int pad_nil))) (pcd_val (ped_tup (pad_cons (ped_ix (ped_V (pv 2)) ped_int (fun _ _ => rfl)) (pad_cons (ped_ix (ped_V (pv 3)) ped_int (fun _ _ => rfl)) pad_nil))) (pcd_val (ped_tup (pad_cons (ped_ix (ped_V (pv 2)) ped_int (fun _ _ => rfl)) (pad_cons (ped_ix (ped_V (pv 3)) ped_int (fun _ _ => rfl)) pad_nil))) (pcd_val (ped_V (pv 1)) pcd_nil))))) (by decide) rfl)))
  (pbd_one (psd_ret ped_bl))
  pbd_nil)
  (pbd_cons (psd_if (ptd_not (ptd_val (ped_go (ok__law_first_told (P := P) (w := w) (base := base) M) hgd hr (by decide) rfl (pcd_val (ped_fnV rfl (M.glo 31 rfl)) (pcd_val (ped_tup (pad_cons (ped_tup (pad_cons ped_int (pad_cons ped_int pad_nil))) (pad_cons ped_int pad_nil))) (pcd_val (ped_tup (pad_cons (ped_V (pv 8)) (pad_cons (ped_ix (ped_V (pv 3)) ped_int (fun _ _ => rfl)) pad_nil))) (pcd_val (ped_tup (pad_cons (ped_V (pv 9)) (pad_cons (ped_ix (ped_V (pv 3)) ped_int (fun _ _ => rfl)) pad_nil))) (pcd_val (ped_V (pv 1)) pcd_nil))))) (by decide) rfl)))
  (pbd_one (psd_ret ped_bl))
  pbd_nil)
  (pbd_cons (psd_par (is := [10, 11]) (xs := ["bads", "places"]) (.inl rfl) sc__law_refusals.nd (.cons ⟨rfl, rfl⟩ (.cons ⟨rfl, rfl⟩ .nil)) (by decide) (pad_cons (ped_tup (pad_cons (ped_V (pv 8)) (pad_cons (ped_ix (ped_V (pv 2)) ped_int (fun _ _ => rfl)) (pad_cons (ped_ix (ped_V (pv 3)) ped_int (fun _ _ => rfl)) (pad_cons (ped_ix (ped_V (pv 2)) ped_int (fun _ _ => rfl)) pad_nil))))) (pad_cons (ped_tup (pad_cons (ped_V (pv 9)) (pad_cons (ped_ix (ped_V (pv 2)) ped_int (fun _ _ => rfl)) (pad_cons (ped_ix (ped_V (pv 3)) ped_int (fun _ _ => rfl)) (pad_cons (ped_ix (ped_V (pv 2)) ped_int (fun _ _ => rfl)) pad_nil))))) pad_nil)) rfl (by decide))
  (pbd_cons (psd_if (ptd_not (ptd_val (ped_go (ok__law_first_told (P := P) (w := w) (base := base) M) hgd hr (by decide) rfl (pcd_val (ped_fnV rfl (M.glo 30 rfl)) (pcd_val (ped_tup (pad_cons (ped_tup (pad_cons ped_int (pad_cons ped_int pad_nil))) (pad_cons ped_int (pad_cons ped_int (pad_cons ped_int pad_nil))))) (pcd_val (ped_V (pv 10)) (pcd_val (ped_V (pv 11)) (pcd_val (ped_V (pv 1)) pcd_nil))))) (by decide) rfl)))
  (pbd_one (psd_ret ped_bl))
  pbd_nil)
  (pbd_cons (psd_if (ptd_not (ptd_val (ped_go (ok__law_first_told (P := P) (w := w) (base := base) M) hgd hr (by decide) rfl (pcd_val (ped_fnV rfl (M.glo 28 rfl)) (pcd_val (ped_tup (pad_cons (ped_tup (pad_cons ped_int (pad_cons ped_int pad_nil))) (pad_cons ped_int pad_nil))) (pcd_val (ped_tup (pad_cons (ped_V (pv 8)) (pad_cons (ped_ix (ped_V (pv 2)) ped_int (fun _ _ => rfl)) pad_nil))) (pcd_val (ped_tup (pad_cons (ped_V (pv 9)) (pad_cons (ped_ix (ped_V (pv 2)) ped_int (fun _ _ => rfl)) pad_nil))) (pcd_val (ped_V (pv 1)) pcd_nil))))) (by decide) rfl)))
  (pbd_one (psd_ret ped_bl))
  pbd_nil)
  (pbd_cons (psd_if (ptd_not (ptd_val (ped_go (ok__law_is_heard (P := P) (w := w) (base := base) M) hgd hr (by decide) rfl (pcd_val (ped_fnV rfl (M.glo 28 rfl)) (pcd_val (ped_tup (pad_cons (ped_tup (pad_cons ped_int (pad_cons ped_int pad_nil))) (pad_cons ped_str pad_nil))) (pcd_val ped_str (pcd_val ped_str pcd_nil)))) (by decide) rfl)))
  (pbd_one (psd_ret ped_bl))
  pbd_nil)
  (pbd_cons (psd_if (ptd_not (ptd_val (ped_go (ok__law_first_told (P := P) (w := w) (base := base) M) hgd hr (by decide) rfl (pcd_val (ped_fnV rfl (M.glo 36 rfl)) (pcd_val (ped_tup (pad_cons ped_int (pad_cons ped_int (pad_cons ped_int pad_nil)))) (pcd_val (ped_tup (pad_cons (ped_ix (ped_V (pv 2)) ped_int (fun _ _ => rfl)) (pad_cons (ped_ix (ped_V (pv 3)) ped_int (fun _ _ => rfl)) (pad_cons (ped_ix (ped_V (pv 2)) ped_int (fun _ _ => rfl)) pad_nil)))) (pcd_val (ped_tup (pad_cons (ped_ix (ped_V (pv 2)) ped_int (fun _ _ => rfl)) (pad_cons (ped_ix (ped_V (pv 3)) ped_int (fun _ _ => rfl)) (pad_cons (ped_ix (ped_V (pv 2)) ped_int (fun _ _ => rfl)) pad_nil)))) (pcd_val (ped_V (pv 1)) pcd_nil))))) (by decide) rfl)))
  (pbd_one (psd_ret ped_bl))
  pbd_nil)
  (pbd_cons (psd_if (ptd_not (ptd_val (ped_go (ok__law_first_told (P := P) (w := w) (base := base) M) hgd hr (by decide) rfl (pcd_val (ped_fnV rfl (M.glo 37 rfl)) (pcd_val (ped_tup (pad_cons ped_int (pad_cons ped_int (pad_cons ped_int pad_nil)))) (pcd_val (ped_tup (pad_cons (ped_ix (ped_V (pv 2)) ped_int (fun _ _ => rfl)) (pad_cons (ped_ix (ped_V (pv 3)) ped_int (fun _ _ => rfl)) (pad_cons (ped_ix (ped_V (pv 4)) ped_int (fun _ _ => rfl)) pad_nil)))) (pcd_val (ped_tup (pad_cons (ped_ix (ped_V (pv 2)) ped_int (fun _ _ => rfl)) (pad_cons (ped_ix (ped_V (pv 3)) ped_int (fun _ _ => rfl)) (pad_cons (ped_ix (ped_V (pv 4)) ped_int (fun _ _ => rfl)) pad_nil)))) (pcd_val (ped_V (pv 1)) pcd_nil))))) (by decide) rfl)))
  (pbd_one (psd_ret ped_bl))
  pbd_nil)
  (pbd_cons (psd_if (ptd_not (ptd_val (ped_go (ok__law_first_told (P := P) (w := w) (base := base) M) hgd hr (by decide) rfl (pcd_val (ped_fnV rfl (M.glo 35 rfl)) (pcd_val (ped_tup (pad_cons ped_int (pad_cons ped_int (pad_cons ped_int pad_nil)))) (pcd_val (ped_tup (pad_cons (ped_ix (ped_V (pv 4)) ped_int (fun _ _ => rfl)) (pad_cons (ped_ix (ped_V (pv 5)) ped_int (fun _ _ => rfl)) (pad_cons (ped_ix (ped_V (pv 3)) ped_int (fun _ _ => rfl)) pad_nil)))) (pcd_val (ped_tup (pad_cons (ped_ix (ped_V (pv 4)) ped_int (fun _ _ => rfl)) (pad_cons (ped_ix (ped_V (pv 5)) ped_int (fun _ _ => rfl)) (pad_cons (ped_ix (ped_V (pv 3)) ped_int (fun _ _ => rfl)) pad_nil)))) (pcd_val (ped_V (pv 1)) pcd_nil))))) (by decide) rfl)))
  (pbd_one (psd_ret ped_bl))
  pbd_nil)
  (pbd_cons (psd_if (ptd_not (ptd_val (ped_go (ok__law_is_heard (P := P) (w := w) (base := base) M) hgd hr (by decide) rfl (pcd_val (ped_fnV rfl (M.glo 35 rfl)) (pcd_val (ped_tup (pad_cons (ped_binD op_fAdd ped_int (ped_V (pv 6))) (pad_cons (ped_binD op_fAdd ped_int (ped_V (pv 6))) (pad_cons ped_int pad_nil)))) (pcd_val ped_str (pcd_val ped_str pcd_nil)))) (by decide) rfl)))
  (pbd_one (psd_ret ped_bl))
  pbd_nil)
  (pbd_cons (psd_if (ptd_not (ptd_val (ped_go (ok__law_is_heard (P := P) (w := w) (base := base) M) hgd hr (by decide) rfl (pcd_val (ped_fnV rfl (M.glo 35 rfl)) (pcd_val (ped_tup (pad_cons (ped_binD op_fAdd ped_int (ped_V (pv 6))) (pad_cons (ped_binD op_fAdd ped_int (ped_V (pv 6))) (pad_cons (ped_ix (ped_V (pv 3)) ped_int (fun _ _ => rfl)) pad_nil)))) (pcd_val ped_str (pcd_val (ped_ix (ped_V (pv 3)) ped_int (fun _ _ => rfl)) pcd_nil)))) (by decide) rfl)))
  (pbd_one (psd_ret ped_bl))
  pbd_nil)
  (pbd_cons (psd_if (ptd_not (ptd_val (ped_go (ok__law_first_told (P := P) (w := w) (base := base) M) hgd hr (by decide) rfl (pcd_val (ped_fnV rfl (M.glo 40 rfl)) (pcd_val (ped_tup (pad_cons ped_int pad_nil)) (pcd_val (ped_tup (pad_cons (ped_ix (ped_V (pv 2)) ped_int (fun _ _ => rfl)) pad_nil)) (pcd_val (ped_tup (pad_cons (ped_ix (ped_V (pv 2)) ped_int (fun _ _ => rfl)) pad_nil)) (pcd_val (ped_V (pv 1)) pcd_nil))))) (by decide) rfl)))
  (pbd_one (psd_ret ped_bl))
  pbd_nil)
  (pbd_one (psd_ret (ped_go (ok__law_first_told (P := P) (w := w) (base := base) M) hgd hr (by decide) rfl (pcd_val (ped_fnV rfl (M.glo 39 rfl)) (pcd_val (ped_tup (pad_cons ped_int (pad_cons ped_int pad_nil))) (pcd_val (ped_tup (pad_cons (ped_ix (ped_V (pv 2)) ped_int (fun _ _ => rfl)) (pad_cons (ped_ix (ped_V (pv 3)) ped_int (fun _ _ => rfl)) pad_nil))) (pcd_val (ped_tup (pad_cons (ped_ix (ped_V (pv 2)) ped_int (fun _ _ => rfl)) (pad_cons (ped_ix (ped_V (pv 3)) ped_int (fun _ _ => rfl)) pad_nil))) (pcd_val (ped_V (pv 1)) pcd_nil))))) (by decide) rfl))))))))))))))))))))
theorem sc__law_turned : FnScope ["n", "rows", "m", "longer", "shorter", "k"] ["n"] (defScope (top 35)) := ⟨rfl, rfl, rfl, by decide +kernel, rfl, by decide +kernel, by decide +kernel⟩
theorem ok__law_turned (M : Mo ts fn K mg) : Good P w K mg base 1 "_law_turned" ["n"] [] f__law_turned :=
  good_of (k := 0) (N := ["n", "rows", "m", "longer", "shorter", "k"]) (body := m__law_turned) (M.fun_ 36 rfl) (M.glo 53 rfl) sc__law_turned (by decide) (by decide) (fun _ _ _ _ _ _ us hl => match us, hl with | [_], _ => rfl) fun cdv A outer s H E hgd hr =>
  (pbd_cons (psd_setON (i := 1) sc__law_turned.nd rfl (by first | exact .inl rfl | exact .inr rfl) (by decide) (ped_lst (pad_cons (ped_fz (ped_lst (pad_cons ped_int pad_nil))) (pad_cons (ped_fz (ped_lst (pad_cons ped_int pad_nil))) pad_nil))))
  (pbd_cons (psd_for rfl (pid_range2 rfl (M.free 1 rfl) (pad_cons ped_int (pad_cons (ped_binD op_fAdd (ped_V (pv 0)) ped_int) pad_nil))) (pgd_name (i := 2) (by decide) (pg_name sc__law_turned.nd rfl (by first | exact .inl rfl | exact .inr rfl)))
  (pbd_cons (psd_asgT (pgd_tup rfl (pgsd_cons (pgd_name (i := 3) (by decide) (pg_name sc__law_turned.nd rfl (by first | exact .inl rfl | exact .inr rfl))) (pgsd_cons (pgd_name (i := 4) (by decide) (pg_name sc__law_turned.nd rfl (by first | exact .inl rfl | exact .inr rfl))) pgsd_nil))) (ped_tup (pad_cons (ped_binD op_fAdd (ped_ixPk (pv 1) (ped_binS sc_fSub op_fSub (ped_V (pv 2)) ped_int) (fun _ _ => rfl)) (ped_lst (pad_cons ped_int pad_nil))) (pad_cons (ped_binD op_fAdd (ped_binD op_fAdd (ped_lst (pad_cons ped_int pad_nil)) (ped_ixPk (pv 1) (ped_binS sc_fSub op_fSub (ped_V (pv 2)) ped_int) (fun _ _ => rfl))) (ped_lst (pad_cons ped_int pad_nil))) pad_nil))))
  (pbd_one (psd_expr (ped_append (pv 1) (ped_fz (ped_comp (own := ([("k", 5)] : List (Str × Nat))) rfl sc__law_turned.nd (pid_range1 rfl (M.free 1 rfl) (pad_cons (ped_bS sc_fLen c_fLen rfl (M.free 3 rfl) PySem.boot_len (pad_cons (ped_V (pv 3)) pad_nil)) pad_nil)) (blkOk_by (N := ["n", "rows", "m", "longer", "shorter", "k"]) (sc := defScope (top 35)) (by decide +kernel)) (by decide) (by decide) (fun s H C cl fp => (pgd_name (i := 5) (by decide) (pg_name sc__law_turned.nd rfl (by first | exact .inl rfl | exact .inr rfl)))) (fun s H C cl fp => .nil) (fun s H C cl fp => (ped_binD op_fAdd (ped_ix (ped_V (pv 3)) (ped_V (pv 5)) (fun _ _ => rfl)) (ped_ix (ped_V (pv 4)) (ped_V (pv 5)) (fun _ _ => rfl)))))))))))
  (pbd_one (psd_ret (ped_ixPk (pv 1) (ped_V (pv 0)) (fun _ _ => rfl))))))
theorem sc__law_turnings : FnScope ["n", "k", "due", "after", "turn", "row", "few", "i"] ["n", "k"] (defScope (top 40)) := ⟨rfl, rfl, rfl, by decide +kernel, rfl, by decide +kernel, by decide +kernel⟩
theorem ok__law_turnings (M : Mo ts fn K mg) : Good P w K mg base 44 "_law_turnings" ["n", "k"] [] f__law_turnings :=
  good_of (k := 43) (N := ["n", "k", "due", "after", "turn", "row", "few", "i"]) (body := m__law_turnings) (M.fun_ 37 rfl) (M.glo 55 rfl) sc__law_turnings (by decide) (by decide) (fun _ _ _ _ _ _ us hl => match us, hl with | [_, _], _ => rfl) fun cdv A outer s H E hgd hr =>
  (pbd_cons (psd_asgT (pgd_tup rfl (pgsd_cons (pgd_name (i := 2) (by decide) (pg_name sc__law_turnings.nd rfl (by first | exact .inl rfl | exact .inr rfl))) (pgsd_cons (pgd_name (i := 3) (by decide) (pg_name sc__law_turnings.nd rfl (by first | exact .inl rfl | exact .inr rfl))) pgsd_nil))) (ped_tup (pad_cons ped_int (pad_cons ped_int pad_nil))))
  (pbd_cons (psd_for rfl (pid_range1 rfl (M.free 1 rfl) (pad_cons (ped_V (pv 0)) pad_nil)) (pgd_name (i := 4) (by decide) (pg_name sc__law_turnings.nd rfl (by first | exact .inl rfl | exact .inr rfl)))
  (pbd_one (psd_par (is := [2, 3]) (xs := ["due", "after"]) (.inl rfl) sc__law_turnings.nd (.cons ⟨rfl, rfl⟩ (.cons ⟨rfl, rfl⟩ .nil)) (by decide) (pad_cons (ped_V (pv 3)) (pad_cons (ped_binD op_fAdd (ped_V (pv 2)) (ped_V (pv 3))) pad_nil)) rfl (by decide))))
  (pbd_cons (psd_if (PTd.ofW (pwd_or (ptd_not (ptd_val (ped_go (ok__law_same (P := P) (w := w) (base := base) M) hgd hr (by decide) rfl (pcd_val (ped_fz (ped_go (ok_turning_number (P := P) (w := w) (base := base) M) hgd hr (by decide) rfl (pcd_val (ped_V (pv 0)) pcd_nil) (by decide) rfl)) (pcd_val (ped_V (pv 2)) pcd_nil)) (by decide) rfl))) (pwd_or1 (ptd_not (ptd_val (ped_go (ok__law_same (P := P) (w := w) (base := base) M) hgd hr (by decide) rfl (pcd_val (ped_fz (ped_go (ok_turning_by (P := P) (w := w) (base := base) M) hgd hr (by decide) rfl (pcd_val (ped_V (pv 0)) (pcd_val ped_int pcd_nil)) (by decide) rfl)) (pcd_val ped_int pcd_nil)) (by decide) rfl))))))
  (pbd_one (psd_ret ped_bl))
  pbd_nil)
  (pbd_cons (psd_if (ptd_not (ptd_val (ped_go (ok__law_same (P := P) (w := w) (base := base) M) hgd hr (by decide) rfl (pcd_val (ped_fz (ped_go (ok_turning_by (P := P) (w := w) (base := base) M) hgd hr (by decide) rfl (pcd_val (ped_V (pv 0)) (pcd_val (ped_V (pv 1)) pcd_nil)) (by decide) rfl)) (pcd_val (ped_fz (ped_go (ok__law_choose (P := P) (w := w) (base := base) M) hgd hr (by decide) rfl (pcd_val (ped_bS sc_fMax (c_fMax rfl) rfl (M.free 54 rfl) PyProof.Rows.boot_max (pad_cons (ped_binS sc_fSub op_fSub (ped_V (pv 0)) (ped_V (pv 1))) (pad_cons ped_int pad_nil))) (pcd_val (ped_V (pv 1)) pcd_nil)) (by decide) rfl)) pcd_nil)) (by decide) rfl)))
  (pbd_one (psd_ret ped_bl))
  pbd_nil)
  (pbd_cons (psd_setN (i := 5) sc__law_turnings.nd rfl (by first | exact .inl rfl | exact .inr rfl) (by decide) (ped_binD op_fAdd (ped_go (ok__law_turned (P := P) (w := w) (base := base) M) hgd hr (by decide) rfl (pcd_val (ped_bS sc_fMin (c_fMin rfl) rfl (M.free 0 rfl) PyProof.Rows.boot_min (pad_cons (ped_V (pv 0)) (pad_cons ped_int pad_nil))) pcd_nil) (by decide) rfl) (ped_lst (pad_cons ped_int (pad_cons ped_int pad_nil)))))
  (pbd_cons (psd_setN (i := 6) sc__law_turnings.nd rfl (by first | exact .inl rfl | exact .inr rfl) (by decide) (ped_bS sc_fMin (c_fMin rfl) rfl (M.free 0 rfl) PyProof.Rows.boot_min (pad_cons (ped_V (pv 0)) (pad_cons ped_int pad_nil))))
  (pbd_cons (psd_if (ptd_cmp sc_fGt op_fGt (ped_bS sc_fLen c_fLen rfl (M.free 3 rfl) PySem.boot_len (pad_cons (ped_comp (own := ([("i", 7)] : List (Str × Nat))) rfl sc__law_turnings.nd (pid_range1 rfl (M.free 1 rfl) (pad_cons (ped_bS sc_fLen c_fLen rfl (M.free 3 rfl) PySem.boot_len (pad_cons (ped_V (pv 5)) pad_nil)) pad_nil)) (blkOk_by (N := ["n", "k", "due", "after", "turn", "row", "few", "i"]) (sc := defScope (top 40)) (by decide +kernel)) (by decide) (by decide) (fun s H C cl fp => (pgd_name (i := 7) (by decide) (pg_name sc__law_turnings.nd rfl (by first | exact .inl rfl | exact .inr rfl)))) (fun s H C cl fp => (.one (ptd_not (ptd_val (ped_go (ok__law_same (P := P) (w := w) (base := base) M) hgd hr (by decide) rfl (pcd_val (ped_fz (ped_go (ok_turning_by (P := P) (w := w) (base := base) M) hgd hr (by decide) rfl (pcd_val (ped_V (pv 6)) (pcd_val (ped_V (pv 7)) pcd_nil)) (by decide) rfl)) (pcd_val (ped_ix (ped_V (pv 5)) (ped_V (pv 7)) (fun _ _ => rfl)) pcd_nil)) (by decide) rfl))))) (fun s H C cl fp => (ped_V (pv 7)))) pad_nil)) ped_int rfl)
  (pbd_one (psd_ret ped_bl))
  pbd_nil)
  (pbd_one (psd_ret (ped_and (ped_cmp sc_fEq (op_fEq (u64 hr)) (ped_bS sc_fSum (c_fSum rfl) rfl (M.free 27 rfl) PyProof.Rows.boot_sum (pad_cons (ped_V (pv 5)) pad_nil)) (ped_go (ok_turning_number (P := P) (w := w) (base := base) M) hgd hr (by decide) rfl (pcd_val (ped_V (pv 6)) pcd_nil) (by decide) rfl) rfl) (ped_one (ped_go (ok__law_same (P := P) (w := w) (base := base) M) hgd hr (by decide) rfl (pcd_val (ped_fz (ped_go (ok_turning_number (P := P) (w := w) (base := base) M) hgd hr (by decide) rfl (pcd_val ped_int pcd_nil) (by decide) rfl)) (pcd_val ped_int pcd_nil)) (by decide) rfl))))))))))))
theorem sc_law : FnScope ["script", "purse", "mix", "n", "k", "z", "numbers"] ["script"] (defScope (top 46)) := ⟨rfl, rfl, rfl, by decide +kernel, rfl, by decide +kernel, by decide +kernel⟩
theorem ok_law (M : Mo ts fn K mg) : Good P w K mg base 49 "law" ["script"] [] f_law :=
  good_of (k := 48) (N := ["script", "purse", "mix", "n", "k", "z", "numbers"]) (body := m_law) (M.fun_ 38 rfl) (M.glo 56 rfl) sc_law (by decide) (by decide) (fun _ _ _ _ _ _ us hl => match us, hl with | [_], _ => rfl) fun cdv A outer s H E hgd hr =>
  (pbd_cons (psd_setON (i := 1) sc_law.nd rfl (by first | exact .inl rfl | exact .inr rfl) (by decide) (ped_go (ok__law_purse (P := P) (w := w) (base := base) M) hgd hr (by decide) rfl (pcd_val (ped_V (pv 0)) pcd_nil) (by decide) rfl))
  (pbd_cons (psd_setLcS (i := 2) (own := ([("k", 4)] : List (Str × Nat))) rfl sc_law.nd (pid_range1 rfl (M.free 1 rfl) (pad_cons ped_int pad_nil)) (blkOk_by (N := ["script", "purse", "mix", "n", "k", "z", "numbers"]) (sc := defScope (top 46)) (by decide +kernel)) (by decide) (by decide) (fun s H C cl fp => (pgd_name (i := 4) (by decide) (pg_name sc_law.nd rfl (by first | exact .inl rfl | exact .inr rfl)))) (fun s H C cl fp => .nil) (fun s H C cl fp => (ped_go (ok__law_pick (P := P) (w := w) (base := base) M) hgd hr (by decide) rfl (pcd_lend (pv 1) (pcd_val ped_int pcd_nil)) (by decide) rfl)) (hs := by intro _; rfl) (by decide) rfl rfl (sw_true rfl rfl rfl (by decide +kernel)))
  (pbd_cons (psd_par (is := [3, 4]) (xs := ["n", "k"]) (.inl rfl) sc_law.nd (.cons ⟨rfl, rfl⟩ (.cons ⟨rfl, rfl⟩ .nil)) (by decide) (pad_cons (ped_go (ok__law_number (P := P) (w := w) (base := base) M) hgd hr (by decide) rfl (pcd_lend (pv 1) (pcd_val ped_int pcd_nil)) (by decide) rfl) (pad_cons (ped_go (ok__law_number (P := P) (w := w) (base := base) M) hgd hr (by decide) rfl (pcd_lend (pv 1) (pcd_val ped_int pcd_nil)) (by decide) rfl) pad_nil)) rfl (by decide))
  (pbd_cons (psd_setN (i := 5) sc_law.nd rfl (by first | exact .inl rfl | exact .inr rfl) (by decide) (ped_go (ok__law_pick (P := P) (w := w) (base := base) M) hgd hr (by decide) rfl (pcd_lend (pv 1) (pcd_val ped_int pcd_nil)) (by decide) rfl))
  (pbd_cons (psd_setN (i := 6) sc_law.nd rfl (by first | exact .inl rfl | exact .inr rfl) (by decide) (ped_go (ok__law_numbers (P := P) (w := w) (base := base) M) hgd hr (by decide) rfl (pcd_lend (pv 1) pcd_nil) (by decide) rfl))
  (pbd_cons (psd_if (PTd.ofW (pwd_or (ptd_not (ptd_val (ped_go (ok__law_choices (P := P) (w := w) (base := base) M) hgd hr (by decide) rfl (pcd_lend (pv 1) (pcd_val (ped_V (pv 3)) (pcd_val (ped_V (pv 4)) pcd_nil))) (by decide) rfl))) (pwd_or1 (ptd_not (ptd_val (ped_go (ok__law_products (P := P) (w := w) (base := base) M) hgd hr (by decide) rfl (pcd_lend (pv 1) (pcd_val (ped_V (pv 6)) (pcd_val (ped_V (pv 5)) (pcd_val (ped_bS sc_fMin (c_fMin rfl) rfl (M.free 0 rfl) PyProof.Rows.boot_min (pad_cons (ped_V (pv 4)) (pad_cons ped_int pad_nil))) pcd_nil)))) (by decide) rfl))))))
  (pbd_one (psd_ret ped_bl))
  pbd_nil)
  (pbd_cons (psd_if (PTd.ofW (pwd_or (ptd_not (ptd_val (ped_go (ok__law_put_in (P := P) (w := w) (base := base) M) hgd hr (by decide) rfl (pcd_lend (pv 1) (pcd_val (ped_V (pv 3)) (pcd_val (ped_V (pv 4)) pcd_nil))) (by decide) rfl))) (pwd_or1 (ptd_not (ptd_val (ped_go (ok__law_turnings (P := P) (w := w) (base := base) M) hgd hr (by decide) rfl (pcd_val (ped_V (pv 3)) (pcd_val (ped_V (pv 4)) pcd_nil)) (by decide) rfl))))))
  (pbd_one (psd_ret ped_bl))
  pbd_nil)
  (pbd_one (psd_ret (ped_go (ok__law_refusals (P := P) (w := w) (base := base) M) hgd hr (by decide) rfl (pcd_lend (pv 1) (pcd_val (ped_V (pv 2)) pcd_nil)) (by decide) rfl))))))))))
end
end Law

set_option maxHeartbeats 4000000
namespace Y
open PySem L2 Q
/-! Y0: typed readings of mirrors: encodings, expressions, statements -/
section
variable {α β γ δ σ κ : Type}
def eL (e : α → D) (l : List α) : D := .lst (l.map e)
def eU (e : α → D) (l : List α) : D := .tup (l.map e)
def eF (e : α → D) (l : List α) : D := .fz (l.map e)
def eN (_ : Unit) : D := .non
def eO (e : α → D) : Option α → D
  | none => .non
  | some a => e a
def eP0 (_ : Unit) : D := .tup []
def eP1 (e : α → D) (p : α) : D := .tup [e p]
def oL (e : α → D) (l : List α) : T := .node (l.map fun x => .leaf (e x))
def oP2 (e : α → D) (f : β → D) (p : α × β) : T := .node [.leaf (e p.1), .leaf (f p.2)]
/-- parts of a fixed tuple, from the right -/
def pZ (e : α → D) (p : α) : List D := [e p]
def pC (e : α → D) (r : β → List D) (p : α × β) : List D := e p.1 :: r p.2
def eP (r : β → List D) (p : β) : D := .tup (r p)
theorem oL_toD (e : α → D) (l : List α) : (oL e l).toD = eL e l := by
  simp [oL, eL, T.toD, T.toDs_map, List.map_map, Function.comp_def]
def letY (v : α) (p : α → β) : β := p v
theorem letY_eq (v : α) (p : α → β) : letY v p = p v := rfl
/-! statements -/
def NY (m : SM) (ρ : Q.Env) (g : Prop) (R : σ → δ → Q.Env) (s : σ) : Prop := g → ∃ d, m ρ = .nx (R s d)
def TY (lent : List Nat) (m : SM) (ρ : Q.Env) (g : Prop) (et : β → T) (el : β → List T) (v : β) : Prop := g → ∃ ρ', m ρ = .rt (et v) ρ' ∧ Q.pick lent ρ' = some (el v)
/-- ways out of a loop's turn -/
inductive C (σ κ β : Type) where
  | nx (s : σ) | rt (b : β) | bk (k : κ) | ct (k : κ)
def CY {σ δ κ δk β : Type} (lent : List Nat) (m : SM) (ρ : Q.Env) (g : Prop) (R : σ → δ → Q.Env) (K : κ → δk → Q.Env) (et : β → T) (el : β → List T) (o : C σ κ β) : Prop := g → match o with
  | .nx s => ∃ d, m ρ = .nx (R s d)
  | .bk k => ∃ d, m ρ = .bk (K k d)
  | .ct k => ∃ d, m ρ = .ct (K k d)
  | .rt b => ∃ ρ', m ρ = .rt (et b) ρ' ∧ Q.pick lent ρ' = some (el b)
theorem fn_of {lent : List Nat} {n : Nat} {body : SM} {ts : List T} {ρ : Q.Env} {g : Prop} {et : β → T} {el : β → List T} {v : β} (hρ : env0 n ts = ρ) (h : TY lent body ρ g et el v) (hg : g) : mkF lent n body ts = .ok (et v) (el v) := by
  obtain ⟨ρ', h1, h2⟩ := h hg
  unfold mkF
  rw [hρ, h1]
  simp only [SRes.toF, h2]
/-! tail mode -/
theorem t_ret {lent : List Nat} {m : M T} {ρ ρ' : Q.Env} {g : Prop} {et : β → T} {el : β → List T} {v : β} (h : g → m ρ = .ok (et v) ρ') (hp : Q.pick lent ρ' = some (el v)) : TY lent (mRet m) ρ g et el v := fun hg =>
  ⟨ρ', by simp only [mRet, h hg, Res.toS], hp⟩
theorem t_retN {lent : List Nat} {ρ : Q.Env} {et : β → T} {el : β → List T} {v : β} (h : et v = .leaf .non) (hp : Q.pick lent ρ = some (el v)) : TY lent mRetN ρ True et el v := fun _ =>
  ⟨ρ, by rw [h]; rfl, hp⟩
theorem t_seqN {lent : List Nat} {a b : SM} {ρ : Q.Env} {ga : Prop} {R : σ → δ → Q.Env} {s : σ} {g : σ → Prop} {et : β → T} {el : β → List T} {p : σ → β} (ha : NY a ρ ga R s) (hb : ∀ s d, TY lent b (R s d) (g s) et el (p s)) : TY lent (mSeq a b) ρ (ga ∧ letY s g) et el (letY s p) := fun hg => by
  obtain ⟨d, h⟩ := ha hg.1
  obtain ⟨ρ', h1, h2⟩ := hb s d hg.2
  exact ⟨ρ', by unfold mSeq; rw [h]; exact h1, h2⟩
theorem t_seqN0 {lent : List Nat} {a b : SM} {ρ : Q.Env} {R : σ → δ → Q.Env} {s : σ} {g : σ → Prop} {et : β → T} {el : β → List T} {p : σ → β} (ha : NY a ρ True R s) (hb : ∀ s d, TY lent b (R s d) (g s) et el (p s)) : TY lent (mSeq a b) ρ (letY s g) et el (letY s p) := fun hg => t_seqN ha hb ⟨trivial, hg⟩
/-- a statement that only tests -/
theorem t_seqU {lent : List Nat} {a b : SM} {ρ : Q.Env} {ga g : Prop} {R : Unit → δ → Q.Env} {et : β → T} {el : β → List T} {v : β} (ha : NY a ρ ga R ()) (hb : ∀ d, TY lent b (R () d) g et el v) : TY lent (mSeq a b) ρ (ga ∧ g) et el v := fun hg => by
  obtain ⟨d, h⟩ := ha hg.1
  obtain ⟨ρ', h1, h2⟩ := hb d hg.2
  exact ⟨ρ', by unfold mSeq; rw [h]; exact h1, h2⟩
theorem t_seqU0 {lent : List Nat} {a b : SM} {ρ : Q.Env} {g : Prop} {R : Unit → δ → Q.Env} {et : β → T} {el : β → List T} {v : β} (ha : NY a ρ True R ()) (hb : ∀ d, TY lent b (R () d) g et el v) : TY lent (mSeq a b) ρ g et el v := fun hg => t_seqU ha hb ⟨trivial, hg⟩
theorem t_if {lent : List Nat} {c : M Bool} {a b : SM} {ρ ρ1 : Q.Env} {gc ga gb : Prop} {x : Bool} {et : β → T} {el : β → List T} {va vb : β} (hc : gc → c ρ = .ok x ρ1) (ha : TY lent a ρ1 ga et el va) (hb : TY lent b ρ1 gb et el vb) :
    TY lent (mIf c a b) ρ (gc ∧ (x = true → ga) ∧ (x = false → gb)) et el (bif x then va else vb) := fun hg => by
  have h := hc hg.1
  cases x with
  | true =>
    obtain ⟨ρ', h1, h2⟩ := ha (hg.2.1 rfl)
    exact ⟨ρ', by simp only [mIf, h, Res.toS, if_true]; exact h1, h2⟩
  | false =>
    obtain ⟨ρ', h1, h2⟩ := hb (hg.2.2 rfl)
    exact ⟨ρ', by simp only [mIf, h, Res.toS]; exact h1, h2⟩
theorem t_ifr {lent : List Nat} {c : M Bool} {a r : SM} {ρ ρ1 : Q.Env} {gc ga gr : Prop} {x : Bool} {et : β → T} {el : β → List T} {va vr : β} (hc : gc → c ρ = .ok x ρ1) (ha : TY lent a ρ1 ga et el va) (hr : TY lent r ρ1 gr et el vr) :
    TY lent (mSeq (mIf c a mNext) r) ρ (gc ∧ (x = true → ga) ∧ (x = false → gr)) et el (bif x then va else vr) := fun hg => by
  have h := hc hg.1
  cases x with
  | true =>
    obtain ⟨ρ', h1, h2⟩ := ha (hg.2.1 rfl)
    exact ⟨ρ', by simp only [mSeq, mIf, h, Res.toS, if_true, h1, cond_true], h2⟩
  | false =>
    obtain ⟨ρ', h1, h2⟩ := hr (hg.2.2 rfl)
    exact ⟨ρ', by simp only [mSeq, mIf, h, Res.toS]; exact h1, h2⟩
/-- an if whose else part goes on, its then part ends -/
theorem t_ife {lent : List Nat} {c : M Bool} {a b r : SM} {ρ ρ1 : Q.Env} {gc ga gr : Prop} {x : Bool} {et : β → T} {el : β → List T} {va vr : β} (hc : gc → c ρ = .ok x ρ1) (ha : TY lent a ρ1 ga et el va) (hr : TY lent (mSeq b r) ρ1 gr et el vr) :
    TY lent (mSeq (mIf c a b) r) ρ (gc ∧ (x = true → ga) ∧ (x = false → gr)) et el (bif x then va else vr) := fun hg => by
  have h := hc hg.1
  cases x with
  | true =>
    obtain ⟨ρ', h1, h2⟩ := ha (hg.2.1 rfl)
    exact ⟨ρ', by simp only [mSeq, mIf, h, Res.toS, if_true, h1, cond_true], h2⟩
  | false =>
    obtain ⟨ρ', h1, h2⟩ := hr (hg.2.2 rfl)
    exact ⟨ρ', by simp only [mSeq, mIf, h, Res.toS]; exact h1, h2⟩
def cT (o : C σ κ β) (p : σ → β) (z : β) : β := match o with
  | .nx s => p s
  | .rt b => b
  | _ => z
def cG (o : C σ κ β) (g : σ → Prop) : Prop := match o with
  | .nx s => g s
  | .rt _ => True
  | _ => False
theorem t_seqC {δk : Type} {lent : List Nat} {a b : SM} {ρ : Q.Env} {ga : Prop} {R : σ → δ → Q.Env} {K : κ → δk → Q.Env} {o : C σ κ β} {g : σ → Prop} {et : β → T} {el : β → List T} {p : σ → β} {z : β} (ha : CY lent a ρ ga R K et el o) (hb : ∀ s d, TY lent b (R s d) (g s) et el (p s)) :
    TY lent (mSeq a b) ρ (ga ∧ cG o g) et el (cT o p z) := fun hg => by
  have h := ha hg.1
  have h' := hg.2
  cases o with
  | nx s =>
    obtain ⟨d, h⟩ := h
    obtain ⟨ρ', h1, h2⟩ := hb s d h'
    exact ⟨ρ', by unfold mSeq; rw [h]; exact h1, h2⟩
  | rt v =>
    obtain ⟨ρ', h1, h2⟩ := h
    exact ⟨ρ', by unfold mSeq; rw [h1]; rfl, h2⟩
  | bk _ => exact h'.elim
  | ct _ => exact h'.elim
/-! next mode -/
theorem n_next {ρ : Q.Env} {R : σ → δ → Q.Env} {s : σ} {d : δ} (h : ρ = R s d) : NY mNext ρ True R s := fun _ => ⟨d, by rw [← h]; rfl⟩
theorem n_seq {σ' δ' : Type} {a b : SM} {ρ : Q.Env} {ga : Prop} {R : σ → δ → Q.Env} {s : σ} {g : σ → Prop} {R' : σ' → δ' → Q.Env} {p : σ → σ'} (ha : NY a ρ ga R s) (hb : ∀ s d, NY b (R s d) (g s) R' (p s)) : NY (mSeq a b) ρ (ga ∧ letY s g) R' (letY s p) := fun hg => by
  obtain ⟨d, h⟩ := ha hg.1
  obtain ⟨d', h1⟩ := hb s d hg.2
  exact ⟨d', by unfold mSeq; rw [h]; exact h1⟩
theorem n_seq0 {σ' δ' : Type} {a b : SM} {ρ : Q.Env} {R : σ → δ → Q.Env} {s : σ} {g : σ → Prop} {R' : σ' → δ' → Q.Env} {p : σ → σ'} (ha : NY a ρ True R s) (hb : ∀ s d, NY b (R s d) (g s) R' (p s)) : NY (mSeq a b) ρ (letY s g) R' (letY s p) := fun hg => n_seq ha hb ⟨trivial, hg⟩
theorem n_seqU {σ' δ' : Type} {a b : SM} {ρ : Q.Env} {ga g : Prop} {R : Unit → δ → Q.Env} {R' : σ' → δ' → Q.Env} {v : σ'} (ha : NY a ρ ga R ()) (hb : ∀ d, NY b (R () d) g R' v) : NY (mSeq a b) ρ (ga ∧ g) R' v := fun hg => by
  obtain ⟨d, h⟩ := ha hg.1
  obtain ⟨d', h1⟩ := hb d hg.2
  exact ⟨d', by unfold mSeq; rw [h]; exact h1⟩
theorem n_seqU0 {σ' δ' : Type} {a b : SM} {ρ : Q.Env} {g : Prop} {R : Unit → δ → Q.Env} {R' : σ' → δ' → Q.Env} {v : σ'} (ha : NY a ρ True R ()) (hb : ∀ d, NY b (R () d) g R' v) : NY (mSeq a b) ρ g R' v := fun hg => n_seqU ha hb ⟨trivial, hg⟩
theorem n_if {c : M Bool} {a b : SM} {ρ ρ1 : Q.Env} {gc ga gb : Prop} {x : Bool} {R : σ → δ → Q.Env} {va vb : σ} (hc : gc → c ρ = .ok x ρ1) (ha : NY a ρ1 ga R va) (hb : NY b ρ1 gb R vb) :
    NY (mIf c a b) ρ (gc ∧ (x = true → ga) ∧ (x = false → gb)) R (bif x then va else vb) := fun hg => by
  have h := hc hg.1
  cases x with
  | true =>
    obtain ⟨d, h1⟩ := ha (hg.2.1 rfl)
    exact ⟨d, by simp only [mIf, h, Res.toS, if_true]; exact h1⟩
  | false =>
    obtain ⟨d, h1⟩ := hb (hg.2.2 rfl)
    exact ⟨d, by simp only [mIf, h, Res.toS]; exact h1⟩
/-- an if that must not be taken (it raises) -/
theorem n_ifno {c : M Bool} {a : SM} {ρ ρ1 : Q.Env} {gc : Prop} {x : Bool} {R : Unit → δ → Q.Env} {d : δ} (hc : gc → c ρ = .ok x ρ1) (hR : ρ1 = R () d) : NY (mIf c a mNext) ρ (gc ∧ x = false) R () := fun hg => by
  have h := hc hg.1
  rw [hg.2] at h
  exact ⟨d, by simp only [mIf, h, Res.toS, mNext, hR]; rfl⟩
theorem set_eq {i : Nat} {m : M T} {ρ ρ1 : Q.Env} {t : T} {r : SRes} (hm : m ρ = .ok t ρ1) (h : putS i (.leaf t.toD) ρ1 = r) : mSet i m ρ = r := by
  simp only [mSet, hm, Res.toS]; exact h
theorem set_eqL {e : α → D} {l : List α} {i : Nat} {m : M T} {ρ ρ1 : Q.Env} {r : SRes} (hm : m ρ = .ok (oL e l) ρ1) (h : putS i (.leaf (eL e l)) ρ1 = r) : mSet i m ρ = r := by
  simp only [mSet, hm, Res.toS, oL_toD]; exact h
theorem setO_eq {i : Nat} {m : M T} {ρ ρ1 : Q.Env} {t : T} {r : SRes} (hm : m ρ = .ok t ρ1) (h : putS i t ρ1 = r) : mSetO i m ρ = r := by
  simp only [mSetO, hm, Res.toS]; exact h
theorem drop_eq {m : M T} {ρ ρ1 : Q.Env} {t : T} (hm : m ρ = .ok t ρ1) : mDrop m ρ = .nx ρ1 := by simp only [mDrop, hm, Res.toS]
theorem aug_eq {i : Nat} {f : Int → Int → Int} {m : M T} {ρ ρ1 : Q.Env} {a b : Int} {r : SRes} (hi : ρ[i]? = some (some (.leaf (.int a)))) (hm : m ρ = .ok (.leaf (.int b)) ρ1) (h : putS i (.leaf (.int (f a b))) ρ1 = r) : mAug i f m ρ = r := by
  simp only [mAug, hi, hm, Res.toS, T.toD]; exact h
theorem asg_eq {t : TgM} {m : M T} {ρ ρ1 ρ2 : Q.Env} {u : T} (hm : m ρ = .ok u ρ1) (ht : t u.toD ρ1 = some ρ2) : mAsg t m ρ = .nx ρ2 := by
  simp only [mAsg, hm, Res.toS, ht]
theorem par_eq {is : List Nat} {ms : List (M T)} {ρ ρ1 : Q.Env} {ts : List T} {r : SRes} (hm : mArgs ms ρ = .ok ts ρ1) (hl : ts.length = is.length) (h : putL (is.zip ts).reverse ρ1 = r) : mPar is ms ρ = r := by
  simp only [mPar, hm, Res.toS, hl, if_true]; exact h
theorem app_eq {e : α → D} {i : Nat} {m : M T} {ρ ρ1 : Q.Env} {l l0 : List α} {v : α} (h0 : ρ[i]? = some (some (oL e l0))) (hm : m ρ = .ok (.leaf (e v)) ρ1) (h1 : ρ1[i]? = some (some (oL e l))) (hg : l.length < 16000000) (h : ρ1.set i (some (oL e (l ++ [v]))) = ρ2) : mAppend i m ρ = .ok (.leaf .non) ρ2 := by
  have hl : (l.map fun x => T.leaf (e x)).length < 16000000 := by simpa using hg
  simp only [mAppend, h0, oL, hm, Res.bind, h1]
  rw [if_pos hl, ← h]
  simp [oL]
theorem app_eqL {e : α → D} {i : Nat} {m : M T} {ρ ρ1 : Q.Env} {l l0 : List α} {v : α} (h0 : ρ[i]? = some (some (oL e l0))) (hm : m ρ = .ok (.leaf (e v)) ρ1) (h1 : ρ1[i]? = some (some (oL e l))) (hg : l.length < 16000000) : mDrop (mAppend i m) ρ = .nx (ρ1.set i (some (oL e (l ++ [v])))) :=
  drop_eq (app_eq h0 hm h1 hg rfl)
/-! lists by place -/
def okIx (n : Nat) (i : Int) : Prop := (ixN n i).isSome = true
def ixY [Inhabited α] (l : List α) (i : Int) : α := ((ixN l.length i).bind fun j => l[j]?).getD default
theorem ixN_lt {n : Nat} {i : Int} {j : Nat} (h : ixN n i = some j) : j < n := (ixN_seq h).2.1
theorem ixY_spec [Inhabited α] {l : List α} {i : Int} (h : okIx l.length i) (e : α → β) : L2.atI (l.map e) i = some (e (ixY l i)) := by
  unfold okIx at h
  cases c : ixN l.length i with
  | none => rw [c] at h; cases h
  | some j =>
    have hj := ixN_lt c
    unfold L2.atI ixY
    rw [List.length_map, c, Option.bind_some, Option.bind_some, List.getElem?_map, List.getElem?_eq_getElem hj]
    rfl
def setY (l : List α) (i : Int) (v : α) : List α := match ixN l.length i with
  | some j => l.set j v
  | none => l
theorem setix_eq {e : α → D} {i : Nat} {mb m : M T} {ρ ρ1 ρ2 : Q.Env} {j : Int} {l : List α} {v : α} {r : SRes} (hm : m ρ = .ok (.leaf (e v)) ρ1) (h1 : (ρ1[i]?).isSome = true) (h1' : ((ρ1[i]?).bind id).isSome = true) (hb : mb ρ1 = .ok (.leaf (.int j)) ρ2) (h2 : ρ2[i]? = some (some (oL e l))) (hg : okIx l.length j) (h : .nx (ρ2.set i (some (oL e (setY l j v)))) = r) : mSetIx i mb m ρ = r := by
  unfold okIx at hg
  cases c : ixN l.length j with
  | none => rw [c] at hg; cases hg
  | some k =>
    cases e1 : ρ1[i]? with
    | none => rw [e1] at h1; cases h1
    | some o =>
      cases o with
      | none => rw [e1] at h1'; cases h1'
      | some t =>
        rw [← h]
        simp only [mSetIx, hm, Res.toS, e1, hb, T.toD, h2, oL, List.length_map, c, setY, List.map_set]
/-! loops -/
def foldG (g : α → σ → Prop) (f : α → σ → σ) : List α → σ → Prop
  | [], _ => True
  | a :: r, s => g a s ∧ foldG g f r (f a s)
def foldY (f : α → σ → σ) : List α → σ → σ
  | [], s => s
  | a :: r, s => foldY f r (f a s)
theorem foldY_eq (f : α → σ → σ) : ∀ (l : List α) (s : σ), foldY f l s = l.foldl (fun s a => f a s) s
  | [], _ => rfl
  | _ :: r, s => foldY_eq f r _
theorem forM_nx {e : α → D} {tg : TgM} {body : SM} {R : σ → δ → Q.Env} {Rt : α → σ → δ → Q.Env} {gb : α → σ → Prop} {f : α → σ → σ} (htg : ∀ a s d, tg (e a) (R s d) = some (Rt a s d)) (hb : ∀ a s d, NY body (Rt a s d) (gb a s) R (f a s)) :
    ∀ (l : List α) (s : σ) (d : δ), foldG gb f l s → ∃ d', forM' tg body (l.map e) (R s d) = .nx (R (foldY f l s) d')
  | [], s, d, _ => ⟨d, rfl⟩
  | a :: r, s, d, hg => by
    obtain ⟨d1, h1⟩ := hb a s d hg.1
    obtain ⟨d2, h2⟩ := forM_nx htg hb r (f a s) d1 hg.2
    refine ⟨d2, ?_⟩
    simp only [List.map_cons, forM', htg, h1]
    exact h2
theorem n_for {e : α → D} {src : M (List D)} {tg : TgM} {body : SM} {ρ ρ1 : Q.Env} {l : List α} {s : σ} {d0 : δ} {gs : Prop} {R : σ → δ → Q.Env} {Rt : α → σ → δ → Q.Env} {gb : α → σ → Prop} {f : α → σ → σ}
    (hs : gs → src ρ = .ok (l.map e) ρ1) (hR : ρ1 = R s d0) (htg : ∀ a s d, tg (e a) (R s d) = some (Rt a s d)) (hb : ∀ a s d, NY body (Rt a s d) (gb a s) R (f a s)) : NY (mFor src tg body) ρ (gs ∧ foldG gb f l s) R (foldY f l s) := fun hg => by
  obtain ⟨d', h⟩ := forM_nx htg hb l s d0 hg.2
  exact ⟨d', by simp only [mFor, hs hg.1, Res.toS, hR]; exact h⟩
/-! control mode -/
variable {δk : Type}
theorem c_ofN {lent : List Nat} {a : SM} {ρ : Q.Env} {g : Prop} {R : σ → δ → Q.Env} {K : κ → δk → Q.Env} {et : β → T} {el : β → List T} {s : σ} (h : NY a ρ g R s) : CY lent a ρ g R K et el (.nx s) := fun hg => h hg
theorem c_ofT {lent : List Nat} {a : SM} {ρ : Q.Env} {g : Prop} {R : σ → δ → Q.Env} {K : κ → δk → Q.Env} {et : β → T} {el : β → List T} {v : β} (h : TY lent a ρ g et el v) : CY lent a ρ g R K et el (.rt v) := fun hg => h hg
theorem c_break {lent : List Nat} {ρ : Q.Env} {R : σ → δ → Q.Env} {K : κ → δk → Q.Env} {et : β → T} {el : β → List T} {k : κ} {d : δk} (h : ρ = K k d) : CY lent mBreak ρ True R K et el (.bk k) := fun _ => ⟨d, by rw [← h]; rfl⟩
theorem c_cont {lent : List Nat} {ρ : Q.Env} {R : σ → δ → Q.Env} {K : κ → δk → Q.Env} {et : β → T} {el : β → List T} {k : κ} {d : δk} (h : ρ = K k d) : CY lent mCont ρ True R K et el (.ct k) := fun _ => ⟨d, by rw [← h]; rfl⟩
theorem c_seqN {σ' δ' : Type} {lent : List Nat} {a b : SM} {ρ : Q.Env} {ga : Prop} {R : σ → δ → Q.Env} {s : σ} {g : σ → Prop} {R' : σ' → δ' → Q.Env} {K : κ → δk → Q.Env} {et : β → T} {el : β → List T} {p : σ → C σ' κ β} (ha : NY a ρ ga R s) (hb : ∀ s d, CY lent b (R s d) (g s) R' K et el (p s)) : CY lent (mSeq a b) ρ (ga ∧ letY s g) R' K et el (letY s p) := fun hg => by
  obtain ⟨d, h⟩ := ha hg.1
  have h1 := hb s d hg.2
  have e : mSeq a b ρ = b (R s d) := by unfold mSeq; rw [h]
  rw [e]
  exact h1
theorem c_seqN0 {σ' δ' : Type} {lent : List Nat} {a b : SM} {ρ : Q.Env} {R : σ → δ → Q.Env} {s : σ} {g : σ → Prop} {R' : σ' → δ' → Q.Env} {K : κ → δk → Q.Env} {et : β → T} {el : β → List T} {p : σ → C σ' κ β} (ha : NY a ρ True R s) (hb : ∀ s d, CY lent b (R s d) (g s) R' K et el (p s)) : CY lent (mSeq a b) ρ (letY s g) R' K et el (letY s p) := fun hg => c_seqN ha hb ⟨trivial, hg⟩
theorem c_seqU {σ' δ' : Type} {lent : List Nat} {a b : SM} {ρ : Q.Env} {ga g : Prop} {R : Unit → δ → Q.Env} {R' : σ' → δ' → Q.Env} {K : κ → δk → Q.Env} {et : β → T} {el : β → List T} {o : C σ' κ β} (ha : NY a ρ ga R ()) (hb : ∀ d, CY lent b (R () d) g R' K et el o) : CY lent (mSeq a b) ρ (ga ∧ g) R' K et el o := fun hg => by
  obtain ⟨d, h⟩ := ha hg.1
  have h1 := hb d hg.2
  have e : mSeq a b ρ = b (R () d) := by unfold mSeq; rw [h]
  rw [e]
  exact h1
theorem c_seqU0 {σ' δ' : Type} {lent : List Nat} {a b : SM} {ρ : Q.Env} {g : Prop} {R : Unit → δ → Q.Env} {R' : σ' → δ' → Q.Env} {K : κ → δk → Q.Env} {et : β → T} {el : β → List T} {o : C σ' κ β} (ha : NY a ρ True R ()) (hb : ∀ d, CY lent b (R () d) g R' K et el o) : CY lent (mSeq a b) ρ g R' K et el o := fun hg => c_seqU ha hb ⟨trivial, hg⟩
theorem c_if {σ' δ' : Type} {lent : List Nat} {c : M Bool} {a b : SM} {ρ ρ1 : Q.Env} {gc ga gb : Prop} {x : Bool} {R' : σ' → δ' → Q.Env} {K : κ → δk → Q.Env} {et : β → T} {el : β → List T} {va vb : C σ' κ β} (hc : gc → c ρ = .ok x ρ1) (ha : CY lent a ρ1 ga R' K et el va) (hb : CY lent b ρ1 gb R' K et el vb) :
    CY lent (mIf c a b) ρ (gc ∧ (x = true → ga) ∧ (x = false → gb)) R' K et el (bif x then va else vb) := fun hg => by
  have h := hc hg.1
  cases x with
  | true =>
    have h1 := ha (hg.2.1 rfl)
    have e : mIf c a b ρ = a ρ1 := by simp only [mIf, h, Res.toS, if_true]
    rw [e]; exact h1
  | false =>
    have h1 := hb (hg.2.2 rfl)
    have e : mIf c a b ρ = b ρ1 := by simp only [mIf, h, Res.toS]; rfl
    rw [e]; exact h1
/-- an if whose then part ends (return, break, continue): the rest behind it -/
theorem c_ifr {σ' δ' : Type} {lent : List Nat} {c : M Bool} {a r : SM} {ρ ρ1 : Q.Env} {gc ga gr : Prop} {x : Bool} {R0 : σ' → δ' → Q.Env} {R' : σ' → δ' → Q.Env} {K : κ → δk → Q.Env} {et : β → T} {el : β → List T} {va vr : C σ' κ β} (hc : gc → c ρ = .ok x ρ1) (ha : CY lent a ρ1 ga R' K et el va) (hn : match va with
    | .nx _ => False
    | _ => True) (hr : CY lent r ρ1 gr R' K et el vr) :
    CY lent (mSeq (mIf c a mNext) r) ρ (gc ∧ (x = true → ga) ∧ (x = false → gr)) R' K et el (bif x then va else vr) := fun hg => by
  have h := hc hg.1
  cases x with
  | true =>
    have h1 := ha (hg.2.1 rfl)
    rw [cond_true]
    cases va with
    | nx s => exact hn.elim
    | bk k => obtain ⟨d, h1⟩ := h1; exact ⟨d, by simp only [mSeq, mIf, h, Res.toS, if_true, h1]⟩
    | ct k => obtain ⟨d, h1⟩ := h1; exact ⟨d, by simp only [mSeq, mIf, h, Res.toS, if_true, h1]⟩
    | rt b => obtain ⟨d, h1, h2⟩ := h1; exact ⟨d, by simp only [mSeq, mIf, h, Res.toS, if_true, h1], h2⟩
  | false =>
    have h1 := hr (hg.2.2 rfl)
    have e : mSeq (mIf c a mNext) r ρ = r ρ1 := by simp only [mSeq, mIf, h, Res.toS]; rfl
    rw [e]; exact h1
def cB {σ' : Type} (o : C σ κ β) (p : σ → C σ' κ β) : C σ' κ β := match o with
  | .nx s => p s
  | .rt b => .rt b
  | .bk k => .bk k
  | .ct k => .ct k
def cBG (o : C σ κ β) (g : σ → Prop) : Prop := match o with
  | .nx s => g s
  | _ => True
theorem c_seq {σ' δ' : Type} {lent : List Nat} {a b : SM} {ρ : Q.Env} {ga : Prop} {R : σ → δ → Q.Env} {o : C σ κ β} {g : σ → Prop} {R' : σ' → δ' → Q.Env} {K : κ → δk → Q.Env} {et : β → T} {el : β → List T} {p : σ → C σ' κ β} (ha : CY lent a ρ ga R K et el o) (hb : ∀ s d, CY lent b (R s d) (g s) R' K et el (p s)) :
    CY lent (mSeq a b) ρ (ga ∧ cBG o g) R' K et el (cB o p) := fun hg => by
  have h := ha hg.1
  have h' := hg.2
  cases o with
  | nx s =>
    obtain ⟨d, h⟩ := h
    have h1 := hb s d h'
    have e : mSeq a b ρ = b (R s d) := by unfold mSeq; rw [h]
    rw [e]
    exact h1
  | rt v =>
    obtain ⟨ρ', h1, h2⟩ := h
    exact ⟨ρ', by unfold mSeq; rw [h1], h2⟩
  | bk k => obtain ⟨d, h⟩ := h; exact ⟨d, by unfold mSeq; rw [h]⟩
  | ct k => obtain ⟨d, h⟩ := h; exact ⟨d, by unfold mSeq; rw [h]⟩
/-- loops with break, continue, return -/
def forC {κ' : Type} (f : α → σ → C σ σ β) : List α → σ → C σ κ' β
  | [], s => .nx s
  | a :: r, s => match f a s with
    | .nx s1 => forC f r s1
    | .ct s1 => forC f r s1
    | .bk s1 => .nx s1
    | .rt b => .rt b
def forG (g : α → σ → Prop) (f : α → σ → C σ σ β) : List α → σ → Prop
  | [], _ => True
  | a :: r, s => g a s ∧ match f a s with
    | .nx s1 => forG g f r s1
    | .ct s1 => forG g f r s1
    | _ => True
theorem forM_c {κ' δk' : Type} {K' : κ' → δk' → Q.Env} {lent : List Nat} {et : β → T} {el : β → List T} {e : α → D} {tg : TgM} {body : SM} {R : σ → δ → Q.Env} {Rt : α → σ → δ → Q.Env} {gb : α → σ → Prop} {f : α → σ → C σ σ β} (htg : ∀ a s d, tg (e a) (R s d) = some (Rt a s d)) (hb : ∀ a s d, CY lent body (Rt a s d) (gb a s) R R et el (f a s)) :
    ∀ (l : List α) (s : σ) (d : δ), CY lent (forM' tg body (l.map e)) (R s d) (forG gb f l s) R K' et el (forC f l s)
  | [], s, d => fun _ => ⟨d, rfl⟩
  | a :: r, s, d => fun hg => by
    have h := hb a s d hg.1
    have h' := hg.2
    have st : forM' tg body ((a :: r).map e) (R s d) = match body (Rt a s d) with
      | .nx ρ2 => forM' tg body (r.map e) ρ2
      | .ct ρ2 => forM' tg body (r.map e) ρ2
      | .bk ρ2 => .nx ρ2
      | r => r := by
      simp only [List.map_cons, forM', htg]
      try (cases body (Rt a s d) <;> rfl)
    cases c : f a s with
    | nx s1 =>
      simp only [c] at h h'
      obtain ⟨d1, h1⟩ := h
      have ih := forM_c (K' := K') htg hb r s1 d1 h'
      rw [h1] at st
      simp only [forC, c, st]
      exact ih
    | ct s1 =>
      simp only [c] at h h'
      obtain ⟨d1, h1⟩ := h
      have ih := forM_c (K' := K') htg hb r s1 d1 h'
      rw [h1] at st
      simp only [forC, c, st]
      exact ih
    | bk s1 =>
      simp only [c] at h
      obtain ⟨d1, h1⟩ := h
      rw [h1] at st
      simp only [forC, c]
      exact ⟨d1, st⟩
    | rt b =>
      simp only [c] at h
      obtain ⟨ρ', h1, h2⟩ := h
      rw [h1] at st
      simp only [forC, c]
      exact ⟨ρ', st, h2⟩
theorem c_for {κ' δk' : Type} {K' : κ' → δk' → Q.Env} {lent : List Nat} {et : β → T} {el : β → List T} {e : α → D} {src : M (List D)} {tg : TgM} {body : SM} {ρ ρ1 : Q.Env} {l : List α} {s : σ} {d0 : δ} {gs : Prop} {R : σ → δ → Q.Env} {Rt : α → σ → δ → Q.Env} {gb : α → σ → Prop} {f : α → σ → C σ σ β}
    (hs : gs → src ρ = .ok (l.map e) ρ1) (hR : ρ1 = R s d0) (htg : ∀ a s d, tg (e a) (R s d) = some (Rt a s d)) (hb : ∀ a s d, CY lent body (Rt a s d) (gb a s) R R et el (f a s)) : CY lent (mFor src tg body) ρ (gs ∧ forG gb f l s) R K' et el (forC f l s) := fun hg => by
  have h := forM_c (K' := K') htg hb l s d0 hg.2
  have e : mFor src tg body ρ = forM' tg body (l.map e) (R s d0) := by simp only [mFor, hs hg.1, Res.toS, hR]
  rw [e]
  exact h
/-! while -/
def whY (c : σ → Bool) (f : σ → σ) : Nat → σ → σ
  | 0, s => s
  | n + 1, s => bif c s then whY c f n (f s) else s
def whG (gc : σ → Prop) (c : σ → Bool) (gb : σ → Prop) (f : σ → σ) : Nat → σ → Prop
  | 0, _ => False
  | n + 1, s => gc s ∧ (c s = true → gb s ∧ whG gc c gb f n (f s))
theorem whM_nx {c : M Bool} {body : SM} {R R1 : σ → δ → Q.Env} {gc gb : σ → Prop} {x : σ → Bool} {f : σ → σ} (hc : ∀ s d, gc s → ∃ d', c (R s d) = .ok (x s) (R1 s d')) (hR : ∀ s d, ∃ d', R1 s d = R s d') (hb : ∀ s d, NY body (R1 s d) (gb s) R (f s)) :
    ∀ (n : Nat) (s : σ) (d : δ), whG gc x gb f n s → ∃ d', whM c body n (R s d) = .nx (R (whY x f n s) d')
  | 0, _, _, h => h.elim
  | n + 1, s, d, h => by
    obtain ⟨d1, h1⟩ := hc s d h.1
    cases e : x s with
    | false =>
      rw [e] at h1
      obtain ⟨d2, h2⟩ := hR s d1
      refine ⟨d2, ?_⟩
      simp only [whM, h1, Res.toS, whY, e, cond_false, h2]
      rfl
    | true =>
      rw [e] at h1
      have hh := h.2 e
      obtain ⟨d2, h2⟩ := hb s d1 hh.1
      obtain ⟨d3, h3⟩ := whM_nx hc hR hb n (f s) d2 hh.2
      refine ⟨d3, ?_⟩
      simp only [whM, h1, Res.toS, whY, e, cond_true, if_true, h2]
      exact h3
theorem n_wh {c : M Bool} {body : SM} {n : Nat} {ρ : Q.Env} {s : σ} {d0 : δ} {R R1 : σ → δ → Q.Env} {gc gb : σ → Prop} {x : σ → Bool} {f : σ → σ} (hR0 : ρ = R s d0) (hc : ∀ s d, gc s → ∃ d', c (R s d) = .ok (x s) (R1 s d')) (hR : ∀ s d, ∃ d', R1 s d = R s d') (hb : ∀ s d, NY body (R1 s d) (gb s) R (f s)) : NY (whM c body n) ρ (whG gc x gb f n s) R (whY x f n s) := fun hg => by
  obtain ⟨d', h⟩ := whM_nx hc hR hb n s d0 hg
  exact ⟨d', by rw [hR0]; exact h⟩
end
end Y

set_option maxHeartbeats 4000000
namespace Y
open PySem L2 Q
/-! Y1: expressions -/
section
variable {α β γ δ σ κ : Type} {ρ ρ1 ρ2 ρ3 : Q.Env} {a b c : M T}
theorem y_c (d : D) : mC d ρ = .ok (.leaf d) ρ := rfl
theorem y_v {i : Nat} (d : D) (h : ρ[i]? = some (some (.leaf d))) : mV i ρ = .ok (.leaf d) ρ := by simp only [mV, h]
theorem y_shareL {i : Nat} {e : α → D} {l : List α} (h : ρ[i]? = some (some (oL e l))) (hρ : ρ.set i (some (.leaf (eL e l))) = ρ1) : mShare i ρ = .ok (.leaf (eL e l)) ρ1 := by
  simp only [mShare, h, oL_toD, hρ]
theorem y_shareV {i : Nat} (d : D) (h : ρ[i]? = some (some (.leaf d))) (hρ : ρ.set i (some (.leaf d)) = ρ1) : mShare i ρ = .ok (.leaf d) ρ1 := by
  simp only [mShare, h, T.toD, hρ]
theorem y_move {i : Nat} {t : T} (h : ρ[i]? = some (some t)) (hρ : ρ.set i none = ρ1) : mMove i ρ = .ok t ρ1 := by
  simp only [mMove, h, hρ]
/-! numbers -/
theorem y_add {x y : Int} (ha : a ρ = .ok (.leaf (.int x)) ρ1) (hb : b ρ1 = .ok (.leaf (.int y)) ρ2) : mD2 fAdd a b ρ = .ok (.leaf (.int (x + y))) ρ2 := by
  simp only [mD2, ha, hb, Res.bind, T.toD, fAdd]
theorem y_sub {x y : Int} (ha : a ρ = .ok (.leaf (.int x)) ρ1) (hb : b ρ1 = .ok (.leaf (.int y)) ρ2) : mS2 fSub a b ρ = .ok (.leaf (.int (x - y))) ρ2 := by
  simp only [mS2, ha, hb, Res.bind, T.toD, fSub]
theorem y_mul {x y : Int} (ha : a ρ = .ok (.leaf (.int x)) ρ1) (hb : b ρ1 = .ok (.leaf (.int y)) ρ2) (hg : okMul x y = true) : mD2 fMul a b ρ = .ok (.leaf (.int (x * y))) ρ2 := by
  simp only [mD2, ha, hb, Res.bind, T.toD, fMul, hg, if_true]
def okDiv (y : Int) : Prop := (decide (0 < y) && Nat.ble y.natAbs (2 ^ 8000)) = true
theorem y_fdiv {x y : Int} (ha : a ρ = .ok (.leaf (.int x)) ρ1) (hb : b ρ1 = .ok (.leaf (.int y)) ρ2) (hg : okDiv y) : mS2 fFdiv a b ρ = .ok (.leaf (.int (x / y))) ρ2 := by
  unfold okDiv at hg
  simp only [mS2, ha, hb, Res.bind, T.toD, fFdiv, hg, if_true]
theorem y_mod {x y : Int} (ha : a ρ = .ok (.leaf (.int x)) ρ1) (hb : b ρ1 = .ok (.leaf (.int y)) ρ2) (hg : 0 < y) : mS2 fMod a b ρ = .ok (.leaf (.int (x % y))) ρ2 := by
  simp only [mS2, ha, hb, Res.bind, T.toD, fMod, hg, if_true]
def okPow (x y : Int) : Prop := (decide (0 ≤ y) && decide (y ≤ 1000000) && decide (x.natAbs < 2 ^ 64)) = true
theorem y_pow {x y : Int} (ha : a ρ = .ok (.leaf (.int x)) ρ1) (hb : b ρ1 = .ok (.leaf (.int y)) ρ2) (hg : okPow x y) : mS2 fPow a b ρ = .ok (.leaf (.int (x ^ y.toNat))) ρ2 := by
  unfold okPow at hg
  simp only [mS2, ha, hb, Res.bind, T.toD, fPow, hg, if_true]
theorem y_neg {x : Int} (ha : a ρ = .ok (.leaf (.int x)) ρ1) : mNeg a ρ = .ok (.leaf (.int (-x))) ρ1 := by
  simp only [mNeg, ha, Res.bind, T.toD]
/-! comparisons -/
theorem y_lt {x y : Int} (ha : a ρ = .ok (.leaf (.int x)) ρ1) (hb : b ρ1 = .ok (.leaf (.int y)) ρ2) : mS2 fLt a b ρ = .ok (.leaf (.bl (decide (x < y)))) ρ2 := by
  simp only [mS2, ha, hb, Res.bind, T.toD, fLt, ltD, Option.map_some]
theorem y_gt {x y : Int} (ha : a ρ = .ok (.leaf (.int x)) ρ1) (hb : b ρ1 = .ok (.leaf (.int y)) ρ2) : mS2 fGt a b ρ = .ok (.leaf (.bl (decide (y < x)))) ρ2 := by
  simp only [mS2, ha, hb, Res.bind, T.toD, fGt, ltD, Option.map_some]
theorem y_le {x y : Int} (ha : a ρ = .ok (.leaf (.int x)) ρ1) (hb : b ρ1 = .ok (.leaf (.int y)) ρ2) : mS2 fLe a b ρ = .ok (.leaf (.bl (decide (x ≤ y)))) ρ2 := by
  simp only [mS2, ha, hb, Res.bind, T.toD, fLe, leD, Option.map_some]
theorem y_ge {x y : Int} (ha : a ρ = .ok (.leaf (.int x)) ρ1) (hb : b ρ1 = .ok (.leaf (.int y)) ρ2) : mS2 fGe a b ρ = .ok (.leaf (.bl (decide (y ≤ x)))) ρ2 := by
  simp only [mS2, ha, hb, Res.bind, T.toD, fGe, leD, Option.map_some]
/-- data that == compares: its reading as PyData -/
structure QP (e : α → D) where
  P : α → PyData
  dep : Nat
  ok : α → Prop
  toP : ∀ x, (e x).toP = some (P x)
  lay : ∀ x, ok x → (P x).canLay0 = true
  depth : ∀ x, (P x).depth ≤ dep
  inj : ∀ x y, PyData.eqv (P x) (P y) = true ↔ x = y
/-- what == says of two such values -/
structure QE (e : α → D) (ok : α → Prop) : Prop where
  eq : ∀ [DecidableEq α] x y, ok x → ok y → fEq (e x) (e y) = some (.bl (decide (x = y)))
theorem qe_int : QE D.int (fun _ => True) := ⟨fun x y _ _ => by
  simp only [fEq, eqD, D.toV?, scal, if_true, Option.map_some, V.int.injEq]; try congr⟩
theorem qe_str : QE D.str (fun _ => True) := ⟨fun x y _ _ => by
  simp only [fEq, eqD, D.toV?, scal, if_true, Option.map_some, V.str.injEq]; try congr⟩
theorem qe_bl : QE D.bl (fun _ => True) := ⟨fun x y _ _ => by
  simp only [fEq, eqD, D.toV?, scal, if_true, Option.map_some, V.bl.injEq]; try congr⟩
theorem qe_of (e : α → D) (q : QP e) (hd : q.dep ≤ 64) (hv : ∀ x, (e x).toV? = none) : QE e q.ok := ⟨fun x y ox oy => by
  have s : ∀ x, q.ok x → SeqAt.shaped (q.P x) = true := fun x o => by
    unfold SeqAt.shaped
    rw [q.lay x o, Bool.true_and, decide_eq_true_eq]
    exact Nat.le_trans (q.depth x) hd
  have e1 : eqD (e x) (e y) = some (PyData.eqv (q.P x) (q.P y)) := by
    unfold eqD
    rw [hv x]
    simp only [q.toP, s x ox, s y oy, Bool.and_self, if_true]
  unfold fEq
  rw [e1, Option.map_some]
  congr 2
  rw [Bool.eq_iff_iff, q.inj, decide_eq_true_eq]⟩
theorem y_eq [DecidableEq α] {e : α → D} {ok : α → Prop} (q : QE e ok) {x y : α} (ox : ok x) (oy : ok y) (ha : a ρ = .ok (.leaf (e x)) ρ1) (hb : b ρ1 = .ok (.leaf (e y)) ρ2) : mS2 fEq a b ρ = .ok (.leaf (.bl (decide (x = y)))) ρ2 := by
  simp only [mS2, ha, hb, Res.bind, T.toD, q.eq x y ox oy]
theorem y_ne [DecidableEq α] {e : α → D} {ok : α → Prop} (q : QE e ok) {x y : α} (ox : ok x) (oy : ok y) (ha : a ρ = .ok (.leaf (e x)) ρ1) (hb : b ρ1 = .ok (.leaf (e y)) ρ2) : mS2 fNe a b ρ = .ok (.leaf (.bl (!decide (x = y)))) ρ2 := by
  have h : fNe (e x) (e y) = some (.bl (!decide (x = y))) := by
    have := q.eq x y ox oy
    unfold fEq at this
    unfold fNe
    cases c : eqD (e x) (e y) with
    | none => rw [c] at this; cases this
    | some v =>
      rw [c] at this
      simp only [Option.map_some, Option.some.injEq, D.bl.injEq] at this
      rw [Option.map_some, this]
  simp only [mS2, ha, hb, Res.bind, T.toD, h]
/-- an owned result compared -/
theorem y_eqT {f : D → D → Option D} {t : T} {d : D} {r : Res T} (ht : t.toD = d) (ha : a ρ = .ok t ρ1) (h : ∀ m : M T, m ρ = .ok (.leaf d) ρ1 → mS2 f m b ρ = r) : mS2 f a b ρ = r := by
  rw [← h (fun _ => .ok (.leaf d) ρ1) rfl]
  simp only [mS2, ha, Res.bind, ht, T.toD]
/-! QP of the usual data -/
def qp_int : QP D.int := ⟨fun i => .int i, 0, fun _ => True, fun _ => rfl, fun _ _ => rfl, fun _ => Nat.le_refl _, fun x y => by simp [PyData.eqv]⟩
def qp_str : QP D.str := ⟨fun i => .str i, 0, fun z => PyData.canLay0 (.str z) = true, fun _ => rfl, fun _ h => h, fun _ => Nat.le_refl _, fun x y => by simp [PyData.eqv]⟩
def qp_bl : QP D.bl := ⟨fun i => .bool i, 0, fun _ => True, fun _ => rfl, fun _ _ => rfl, fun _ => Nat.le_refl _, fun x y => by simp [PyData.eqv]⟩
theorem qp_toPs {e : α → D} (q : QP e) : ∀ l : List α, D.toPs (l.map e) = some (l.map q.P)
  | [] => rfl
  | x :: r => by simp only [List.map_cons, D.toPs, q.toP, qp_toPs q r]
theorem qp_lays {e : α → D} (q : QP e) : ∀ l : List α, (∀ x ∈ l, q.ok x) → PyData.canLayAll0 (l.map q.P) = true
  | [], _ => rfl
  | x :: r, h => by simp only [List.map_cons, PyData.canLayAll0, q.lay x (h x List.mem_cons_self), qp_lays q r (fun y hy => h y (List.mem_cons_of_mem _ hy)), Bool.and_self]
theorem qp_depths {e : α → D} (q : QP e) : ∀ l : List α, PyData.depthAll (l.map q.P) ≤ q.dep
  | [] => Nat.zero_le _
  | x :: r => by
    simp only [List.map_cons, PyData.depthAll]
    exact Nat.max_le.mpr ⟨q.depth x, qp_depths q r⟩
theorem qp_injs {e : α → D} (q : QP e) : ∀ l k : List α, PyData.eqvAll (l.map q.P) (k.map q.P) = true ↔ l = k
  | [], [] => by simp [PyData.eqvAll]
  | [], y :: k => by simp [PyData.eqvAll]
  | x :: r, [] => by simp [PyData.eqvAll]
  | x :: r, y :: k => by
    simp only [List.map_cons, PyData.eqvAll, Bool.and_eq_true, q.inj, qp_injs q r k, List.cons.injEq]
def qp_U {e : α → D} (q : QP e) : QP (eU e) := ⟨fun l => .tuple (l.map q.P), q.dep + 1, fun l => ∀ x ∈ l, q.ok x, fun l => by simp only [eU, D.toP, qp_toPs q, Option.map_some], fun l => qp_lays q l, fun l => Nat.succ_le_succ (qp_depths q l), fun l k => qp_injs q l k⟩
def qp_L {e : α → D} (q : QP e) : QP (eL e) := ⟨fun l => .list (l.map q.P), q.dep + 1, fun l => ∀ x ∈ l, q.ok x, fun l => by simp only [eL, D.toP, qp_toPs q, Option.map_some], fun l => qp_lays q l, fun l => Nat.succ_le_succ (qp_depths q l), fun l k => qp_injs q l k⟩
/-- parts of a fixed tuple -/
structure QPs (r : α → List D) where
  P : α → List PyData
  dep : Nat
  ok : α → Prop
  toP : ∀ x, D.toPs (r x) = some (P x)
  lay : ∀ x, ok x → PyData.canLayAll0 (P x) = true
  depth : ∀ x, PyData.depthAll (P x) ≤ dep
  inj : ∀ x y, PyData.eqvAll (P x) (P y) = true ↔ x = y
def qp_Z {e : α → D} (q : QP e) : QPs (pZ e) := ⟨fun x => [q.P x], q.dep, q.ok, fun x => by simp only [pZ, D.toPs, q.toP], fun x h => by simp only [PyData.canLayAll0, q.lay x h, Bool.and_self], fun x => by
  simp only [PyData.depthAll]
  exact Nat.max_le.mpr ⟨q.depth x, Nat.zero_le _⟩, fun x y => by simp [PyData.eqvAll, q.inj]⟩
def qp_C {e : α → D} {r : β → List D} (q : QP e) (s : QPs r) : QPs (pC e r) := ⟨fun x => q.P x.1 :: s.P x.2, max q.dep s.dep, fun x => q.ok x.1 ∧ s.ok x.2, fun x => by simp only [pC, D.toPs, q.toP, s.toP], fun x h => by simp only [PyData.canLayAll0, q.lay _ h.1, s.lay _ h.2, Bool.and_self], fun x => by
  simp only [PyData.depthAll]
  exact Nat.max_le.mpr ⟨Nat.le_trans (q.depth _) (Nat.le_max_left _ _), Nat.le_trans (s.depth _) (Nat.le_max_right _ _)⟩, fun x y => by
  simp only [PyData.eqvAll, Bool.and_eq_true, q.inj, s.inj]
  exact ⟨fun h => Prod.ext h.1 h.2, fun h => h ▸ ⟨rfl, rfl⟩⟩⟩
def qp_P {r : α → List D} (s : QPs r) : QP (eP r) := ⟨fun x => .tuple (s.P x), s.dep + 1, s.ok, fun x => by simp only [eP, D.toP, s.toP, Option.map_some], s.lay, fun x => Nat.succ_le_succ (s.depth x), s.inj⟩
theorem qe_U {e : α → D} (q : QP e) (hd : q.dep ≤ 60) : QE (eU e) (qp_U q).ok := qe_of _ (qp_U q) (Nat.succ_le_succ (Nat.le_trans hd (by decide))) fun _ => rfl
theorem qe_L {e : α → D} (q : QP e) (hd : q.dep ≤ 60) : QE (eL e) (qp_L q).ok := qe_of _ (qp_L q) (Nat.succ_le_succ (Nat.le_trans hd (by decide))) fun _ => rfl
theorem qe_P {r : α → List D} (q : QPs r) (hd : q.dep ≤ 60) : QE (eP r) (qp_P q).ok := qe_of _ (qp_P q) (Nat.succ_le_succ (Nat.le_trans hd (by decide))) fun _ => rfl
/-! None -/
theorem y_isN {e : α → D} {x : Option α} (he : ∀ a, isN (e a) = some false) (ha : a ρ = .ok (.leaf (eO e x)) ρ1) : mS2 fIsN a (mC .non) ρ = .ok (.leaf (.bl x.isNone)) ρ1 := by
  have h : fIsN (eO e x) .non = some (.bl x.isNone) := by
    cases x with
    | none => rfl
    | some v => simp only [eO, fIsN, he, Option.map_some]; rfl
  simp only [mS2, ha, Res.bind, T.toD, mC, h]
theorem y_notN {e : α → D} {x : Option α} (he : ∀ a, isN (e a) = some false) (ha : a ρ = .ok (.leaf (eO e x)) ρ1) : mS2 fNotN a (mC .non) ρ = .ok (.leaf (.bl x.isSome)) ρ1 := by
  have h : fNotN (eO e x) .non = some (.bl x.isSome) := by
    cases x with
    | none => rfl
    | some v => simp only [eO, fNotN, he, Option.map_some]; rfl
  simp only [mS2, ha, Res.bind, T.toD, mC, h]
/-! in -/
def inS (c z : Str) : Bool := match c.cps.toList with
  | [k] => decide (k ∈ z.cps.toList)
  | _ => !(Builtin.Str.occurrences z c 0 z.length 1).isEmpty
theorem inS_eq (c z : Str) : inD (.str c) (.str z) = some (inS c z) := by
  unfold inS
  simp only [inD]
  cases c.cps.toList with
  | nil => rfl
  | cons k r => cases r <;> rfl
theorem y_inS {x z : Str} (ha : a ρ = .ok (.leaf (.str x)) ρ1) (hb : b ρ1 = .ok (.leaf (.str z)) ρ2) : mS2 fIn a b ρ = .ok (.leaf (.bl (inS x z))) ρ2 := by
  simp only [mS2, ha, hb, Res.bind, T.toD, fIn, inS_eq, Option.map_some]
theorem y_ninS {x z : Str} (ha : a ρ = .ok (.leaf (.str x)) ρ1) (hb : b ρ1 = .ok (.leaf (.str z)) ρ2) : mS2 fNotIn a b ρ = .ok (.leaf (.bl (!inS x z))) ρ2 := by
  simp only [mS2, ha, hb, Res.bind, T.toD, fNotIn, inS_eq, Option.map_some]
/-- membership in sequences -/
structure QI (e : α → D) : Prop where
  tup : ∀ [DecidableEq α] (x : α) (l : List α), inD (e x) (.tup (l.map e)) = some (decide (x ∈ l))
  lst : ∀ [DecidableEq α] (x : α) (l : List α), inD (e x) (.lst (l.map e)) = some (decide (x ∈ l))
theorem anyFlat_of {e : α → D} {f : α → V} [DecidableEq α] (hv : ∀ x, (e x).toV? = some (f x)) (he : ∀ x y, eqV (f x) (f y) = decide (x = y)) (x : α) (l : List α) : anyFlat (e x) (l.map e) = some (decide (x ∈ l)) := by
  have h : ∀ l : List α, (l.map e).mapM D.toV? = some (l.map f) := by
    intro l
    induction l with
    | nil => rfl
    | cons y r ih => simp [List.mapM_cons, hv, ih]
  unfold anyFlat
  rw [hv x]
  simp only [h, Option.map_some, inV]
  congr 1
  rw [Bool.eq_iff_iff]
  simp only [List.any_map, List.any_eq_true, Function.comp, he, decide_eq_true_eq]
  exact ⟨fun ⟨y, hy, e⟩ => e ▸ hy, fun h => ⟨x, h, rfl⟩⟩
theorem qi_flat {e : α → D} {f : α → V} (hv : ∀ x, (e x).toV? = some (f x)) (he : ∀ [DecidableEq α] x y, eqV (f x) (f y) = decide (x = y)) : QI e := ⟨fun x l => anyFlat_of hv he x l, fun x l => by
  show (match anyFlat (e x) (l.map e) with
    | some b => some b
    | none => anyDeep (e x) (l.map e)) = _
  rw [anyFlat_of hv he x l]⟩
theorem qi_int : QI D.int := qi_flat (f := V.int) (fun _ => rfl) fun x y => by
  by_cases h : x = y
  · subst h; simp [eqV]
  · simp [eqV, h]
theorem qi_str : QI D.str := qi_flat (f := V.str) (fun _ => rfl) fun x y => by
  by_cases h : x = y
  · subst h; simp [eqV]
  · simp [eqV, h]
theorem y_inU [DecidableEq α] {e : α → D} (q : QI e) {x : α} {l : List α} (ha : a ρ = .ok (.leaf (e x)) ρ1) (hb : b ρ1 = .ok (.leaf (eU e l)) ρ2) : mS2 fIn a b ρ = .ok (.leaf (.bl (decide (x ∈ l)))) ρ2 := by
  simp only [mS2, ha, hb, Res.bind, T.toD, fIn, eU, q.tup, Option.map_some]
theorem y_ninU [DecidableEq α] {e : α → D} (q : QI e) {x : α} {l : List α} (ha : a ρ = .ok (.leaf (e x)) ρ1) (hb : b ρ1 = .ok (.leaf (eU e l)) ρ2) : mS2 fNotIn a b ρ = .ok (.leaf (.bl (!decide (x ∈ l)))) ρ2 := by
  simp only [mS2, ha, hb, Res.bind, T.toD, fNotIn, eU, q.tup, Option.map_some]
theorem y_inL [DecidableEq α] {e : α → D} (q : QI e) {x : α} {l : List α} (ha : a ρ = .ok (.leaf (e x)) ρ1) (hb : b ρ1 = .ok (.leaf (eL e l)) ρ2) : mS2 fIn a b ρ = .ok (.leaf (.bl (decide (x ∈ l)))) ρ2 := by
  simp only [mS2, ha, hb, Res.bind, T.toD, fIn, eL, q.lst, Option.map_some]
theorem y_ninL [DecidableEq α] {e : α → D} (q : QI e) {x : α} {l : List α} (ha : a ρ = .ok (.leaf (e x)) ρ1) (hb : b ρ1 = .ok (.leaf (eL e l)) ρ2) : mS2 fNotIn a b ρ = .ok (.leaf (.bl (!decide (x ∈ l)))) ρ2 := by
  simp only [mS2, ha, hb, Res.bind, T.toD, fNotIn, eL, q.lst, Option.map_some]
/-! tests -/
variable {x y : Bool} {ca cb : M Bool}
theorem y_test (h : a ρ = .ok (.leaf (.bl x)) ρ1) : mTest a ρ = .ok x ρ1 := by simp only [mTest, asB, h, Res.bind]
theorem y_not (h : ca ρ = .ok x ρ1) : mNot ca ρ = .ok (!x) ρ1 := by simp only [mNot, h, Res.bind]
theorem y_and (h1 : ca ρ = .ok x ρ1) (h2 : x = true → cb ρ1 = .ok y ρ1) : mAnd ca cb ρ = .ok (x && y) ρ1 := by
  cases x with
  | true => simp only [mAnd, h1, Res.bind, if_true, h2 rfl, Bool.true_and]
  | false => simp only [mAnd, h1, Res.bind, Bool.false_and]; rfl
theorem y_or (h1 : ca ρ = .ok x ρ1) (h2 : x = false → cb ρ1 = .ok y ρ1) : mOr ca cb ρ = .ok (x || y) ρ1 := by
  cases x with
  | false => simp only [mOr, h1, Res.bind, h2 rfl, Bool.false_or]; rfl
  | true => simp only [mOr, h1, Res.bind, if_true, Bool.true_or]
theorem y_notV (h : a ρ = .ok (.leaf (.bl x)) ρ1) : mNotV a ρ = .ok (.leaf (.bl (!x))) ρ1 := by
  simp only [mNotV, y_test h, Res.bind]
theorem y_andV (h1 : a ρ = .ok (.leaf (.bl x)) ρ1) (h2 : x = true → b ρ1 = .ok (.leaf (.bl y)) ρ1) : mAndV a b ρ = .ok (.leaf (.bl (x && y))) ρ1 := by
  cases x with
  | true => simp only [mAndV, y_test h1, Res.bind, if_true, h2 rfl, Bool.true_and]
  | false => simp only [mAndV, y_test h1, Res.bind, Bool.false_and]; rfl
theorem y_orV (h1 : a ρ = .ok (.leaf (.bl x)) ρ1) (h2 : x = false → b ρ1 = .ok (.leaf (.bl y)) ρ1) : mOrV a b ρ = .ok (.leaf (.bl (x || y))) ρ1 := by
  cases x with
  | false => simp only [mOrV, y_test h1, Res.bind, h2 rfl, Bool.false_or]; rfl
  | true => simp only [mOrV, y_test h1, Res.bind, if_true, Bool.true_or]
theorem y_ifE {e : α → D} {v w : α} (h1 : ca ρ = .ok x ρ1) (h2 : x = true → a ρ1 = .ok (.leaf (e v)) ρ1) (h3 : x = false → b ρ1 = .ok (.leaf (e w)) ρ1) : mIfE ca a b ρ = .ok (.leaf (e (bif x then v else w))) ρ1 := by
  cases x with
  | true => simp only [mIfE, h1, Res.bind, if_true, h2 rfl, cond_true]
  | false => simp only [mIfE, h1, Res.bind, h3 rfl, cond_false]; rfl
theorem y_chainI {f g : D → D → Option D} {u v w : Int} {p q : Bool} (ha : a ρ = .ok (.leaf (.int u)) ρ1) (hb : b ρ1 = .ok (.leaf (.int v)) ρ1) (h1 : f (.int u) (.int v) = some (.bl p)) (hc : p = true → c ρ1 = .ok (.leaf (.int w)) ρ1) (h2 : g (.int v) (.int w) = some (.bl q)) : mChain f g a b c ρ = .ok (.leaf (.bl (p && q))) ρ1 := by
  cases p with
  | true => simp only [mChain, ha, hb, Res.bind, T.toD, h1, hc rfl, h2, Bool.true_and]
  | false => simp only [mChain, ha, hb, Res.bind, T.toD, h1, Bool.false_and]
theorem cLe (u v : Int) : fLe (.int u) (.int v) = some (.bl (decide (u ≤ v))) := rfl
theorem cLt (u v : Int) : fLt (.int u) (.int v) = some (.bl (decide (u < v))) := rfl
/-! arguments -/
variable {ms : List (M T)} {ts : List T} {t : T}
theorem ya_nil : mArgs [] ρ = .ok [] ρ := rfl
theorem ya_cons (h : a ρ = .ok t ρ1) (hs : mArgs ms ρ1 = .ok ts ρ2) : mArgs (a :: ms) ρ = .ok (t :: ts) ρ2 := by
  simp only [mArgs, h, hs, Res.bind]
theorem y_tup {ds : List D} (h : mArgs ms ρ = .ok ts ρ1) (hd : ts.map T.toD = ds) (hl : Nat.ble ts.length 16000000 = true) : mTup ms ρ = .ok (.leaf (.tup ds)) ρ1 := by
  have := Nat.le_of_ble_eq_true hl
  simp only [mTup, h, Res.bind, this, if_true, hd]
theorem y_lst (h : mArgs ms ρ = .ok ts ρ1) (hl : Nat.ble ts.length 16000000 = true) : mLst ms ρ = .ok (.node ts) ρ1 := by
  have := Nat.le_of_ble_eq_true hl
  simp only [mLst, h, Res.bind, this, if_true]
theorem y_Sn {f : List D → Option D} {d : D} (h : mArgs ms ρ = .ok ts ρ1) (hf : f (ts.map T.toD) = some d) : mSn f ms ρ = .ok (.leaf d) ρ1 := by
  simp only [mSn, h, Res.bind, hf]
theorem y_Dn {f : List D → Option T} (h : mArgs ms ρ = .ok ts ρ1) (hf : f (ts.map T.toD) = some t) : mDn f ms ρ = .ok t ρ1 := by
  simp only [mDn, h, Res.bind, hf]
/-! lengths -/
theorem y_lenU {e : α → D} {l : List α} (h : a ρ = .ok (.leaf (eU e l)) ρ1) : mSn fLen [a] ρ = .ok (.leaf (.int (l.length : Nat))) ρ1 :=
  y_Sn (ya_cons h ya_nil) (by simp [eU, T.toD, fLen, lenD])
theorem y_lenL {e : α → D} {l : List α} (h : a ρ = .ok (.leaf (eL e l)) ρ1) : mSn fLen [a] ρ = .ok (.leaf (.int (l.length : Nat))) ρ1 :=
  y_Sn (ya_cons h ya_nil) (by simp [eL, T.toD, fLen, lenD])
theorem y_lenF {e : α → D} {l : List α} (h : a ρ = .ok (.leaf (eF e l)) ρ1) : mSn fLen [a] ρ = .ok (.leaf (.int (l.length : Nat))) ρ1 :=
  y_Sn (ya_cons h ya_nil) (by simp [eF, T.toD, fLen, lenD])
theorem y_lenO {e : α → D} {l : List α} (h : a ρ = .ok (oL e l) ρ1) : mSn fLen [a] ρ = .ok (.leaf (.int (l.length : Nat))) ρ1 :=
  y_Sn (ya_cons h ya_nil) (by simp [oL_toD, eL, fLen, lenD])
theorem y_lenS {z : Str} (h : a ρ = .ok (.leaf (.str z)) ρ1) (hg : z.length ≤ big) : mSn fLen [a] ρ = .ok (.leaf (.int (z.length : Nat))) ρ1 :=
  y_Sn (ya_cons h ya_nil) (by simp [T.toD, fLen, lenD, hg])
theorem y_lenPk {e : α → D} {l : List α} {i : Nat} (h : ρ[i]? = some (some (oL e l))) : mLenPk i ρ = .ok (.leaf (.int (l.length : Nat))) ρ := by
  simp only [mLenPk, h, oL_toD, eL, lenD, List.length_map]
theorem y_lenPkV {e : α → D} {l : List α} {i : Nat} (h : ρ[i]? = some (some (.leaf (eL e l)))) : mLenPk i ρ = .ok (.leaf (.int (l.length : Nat))) ρ := by
  simp only [mLenPk, h, T.toD, eL, lenD, List.length_map]
/-! items -/
theorem y_ixU [Inhabited α] {e : α → D} {l : List α} {i : Int} (ha : a ρ = .ok (.leaf (eU e l)) ρ1) (hb : b ρ1 = .ok (.leaf (.int i)) ρ2) (hg : okIx l.length i) : mD2 fIx a b ρ = .ok (.leaf (e (ixY l i))) ρ2 := by
  simp only [mD2, ha, hb, Res.bind, T.toD, eU, fIx, ixY_spec hg e, Option.map_some]
theorem y_ixL [Inhabited α] {e : α → D} {l : List α} {i : Int} (ha : a ρ = .ok (.leaf (eL e l)) ρ1) (hb : b ρ1 = .ok (.leaf (.int i)) ρ2) (hg : okIx l.length i) : mD2 fIx a b ρ = .ok (.leaf (e (ixY l i))) ρ2 := by
  simp only [mD2, ha, hb, Res.bind, T.toD, eL, fIx, ixY_spec hg e, Option.map_some]
theorem y_ixF [Inhabited α] {e : α → D} {l : List α} {i : Int} (ha : a ρ = .ok (.leaf (eF e l)) ρ1) (hb : b ρ1 = .ok (.leaf (.int i)) ρ2) (hg : okIx l.length i) : mD2 fIx a b ρ = .ok (.leaf (e (ixY l i))) ρ2 := by
  simp only [mD2, ha, hb, Res.bind, T.toD, eF, fIx, ixY_spec hg e, Option.map_some]
def ixS (z : Str) (i : Int) : Str := ⟨#[ixY z.cps.toList i]⟩
theorem y_ixS {z : Str} {i : Int} (ha : a ρ = .ok (.leaf (.str z)) ρ1) (hb : b ρ1 = .ok (.leaf (.int i)) ρ2) (hl : z.length ≤ big) (hg : okIx z.length i) : mD2 fIx a b ρ = .ok (.leaf (.str (ixS z i))) ρ2 := by
  have h : L2.atI z.cps.toList i = some (ixY z.cps.toList i) := by
    have := ixY_spec (l := z.cps.toList) (i := i) (by simpa [Str.length] using hg) (id : Nat → Nat)
    simpa using this
  simp only [mD2, ha, hb, Res.bind, T.toD, fIx, hl, if_true, h, Option.map_some, ixS]
/-- an item of a fixed tuple at a written place -/
theorem y_ixP {ds : List D} {i : Int} {d : D} (ha : a ρ = .ok (.leaf (.tup ds)) ρ1) (hb : b ρ1 = .ok (.leaf (.int i)) ρ2) (h : L2.atI ds i = some d) : mD2 fIx a b ρ = .ok (.leaf d) ρ2 := by
  simp only [mD2, ha, hb, Res.bind, T.toD, fIx, h, Option.map_some]
theorem y_ixPk [Inhabited α] {e : α → D} {l : List α} {k : Nat} {i : Int} (h0 : ((ρ[k]?).bind id).isSome = true) (hb : b ρ = .ok (.leaf (.int i)) ρ1) (h1 : ρ1[k]? = some (some (oL e l))) (hg : okIx l.length i) : mIxPk k b ρ = .ok (.leaf (e (ixY l i))) ρ1 := by
  have s := ixY_spec hg (fun x => T.leaf (e x))
  cases c : ρ[k]? with
  | none => rw [c] at h0; cases h0
  | some o =>
    cases o with
    | none => rw [c] at h0; cases h0
    | some t0 => simp only [mIxPk, c, hb, Res.bind, T.toD, h1, oL, nodeIx, s]
theorem y_ixPkP {ts : List T} {k : Nat} {i : Int} {d : D} (h0 : ((ρ[k]?).bind id).isSome = true) (hb : b ρ = .ok (.leaf (.int i)) ρ1) (h1 : ρ1[k]? = some (some (.node ts))) (h : L2.atI ts i = some (.leaf d)) : mIxPk k b ρ = .ok (.leaf d) ρ1 := by
  cases c : ρ[k]? with
  | none => rw [c] at h0; cases h0
  | some o =>
    cases o with
    | none => rw [c] at h0; cases h0
    | some t0 => simp only [mIxPk, c, hb, Res.bind, T.toD, h1, nodeIx, h]
/-! texts and lists joined, cut -/
theorem y_addS {u z : Str} (ha : a ρ = .ok (.leaf (.str u)) ρ1) (hb : b ρ1 = .ok (.leaf (.str z)) ρ2) (hg : u.length + z.length ≤ big) : mD2 fAdd a b ρ = .ok (.leaf (.str (u ++ z))) ρ2 := by
  simp only [mD2, ha, hb, Res.bind, T.toD, fAdd, hg, if_true]
theorem y_addU {e : α → D} {l k : List α} (ha : a ρ = .ok (.leaf (eU e l)) ρ1) (hb : b ρ1 = .ok (.leaf (eU e k)) ρ2) (hg : l.length + k.length ≤ big) : mD2 fAdd a b ρ = .ok (.leaf (eU e (l ++ k))) ρ2 := by
  have h : (l.map e).length + (k.map e).length ≤ big := by simpa using hg
  simp only [mD2, ha, hb, Res.bind, T.toD, eU, fAdd, h, if_true, List.map_append]
theorem y_addL {e : α → D} {l k : List α} {ta tb : T} (ha : a ρ = .ok ta ρ1) (hta : ta.toD = eL e l) (hb : b ρ1 = .ok tb ρ2) (htb : tb.toD = eL e k) (hg : l.length + k.length ≤ big) : mD2 fAdd a b ρ = .ok (oL e (l ++ k)) ρ2 := by
  have h : (l.map e).length + (k.map e).length ≤ big := by simpa using hg
  simp only [mD2, ha, hb, Res.bind, hta, htb, eL, fAdd, h, if_true, List.map_append, oL, List.map_map, Function.comp_def]
def okRep (n : Nat) (j : Int) : Prop := (decide (-(2 ^ 63) ≤ j) && decide (j < 2 ^ 63) && decide (n * j.toNat ≤ big)) = true
def repY (l : List α) (j : Int) : List α := (List.replicate j.toNat l).flatten
theorem y_mulL {e : α → D} {l : List α} {ta : T} {j : Int} (ha : a ρ = .ok ta ρ1) (hta : ta.toD = eL e l) (hb : b ρ1 = .ok (.leaf (.int j)) ρ2) (hg : okRep l.length j) : mD2 fMul a b ρ = .ok (oL e (repY l j)) ρ2 := by
  unfold okRep at hg
  have h : (decide (-(2 ^ 63) ≤ j) && decide (j < 2 ^ 63) && decide ((l.map e).length * j.toNat ≤ big)) = true := by simpa using hg
  simp only [mD2, ha, hb, Res.bind, hta, T.toD, eL, fMul, h, if_true, oL, repY]
  congr 2
  rw [← List.map_replicate, ← List.map_flatten, List.map_map]
  rfl
def cutY (l : List α) (lo hi : Option Int) : List α := (l.drop (HT.sIx l.length 0 lo)).take (HT.sIx l.length l.length hi - HT.sIx l.length 0 lo)
theorem cutD_map (e : α → D) (l : List α) (lo hi : Option Int) : cutD (l.map e) lo hi = (cutY l lo hi).map e := by
  simp only [cutD, cutY, List.length_map, List.map_take, List.map_drop]
theorem yp_none : mPart none ρ = .ok none ρ := rfl
theorem yp_some {i : Int} (h : a ρ = .ok (.leaf (.int i)) ρ1) : mPart (some a) ρ = .ok (some i) ρ1 := by simp only [mPart, h, Res.bind, T.toD]
variable {lo hi : Option (M T)} {lv hv : Option Int}
theorem y_slU {e : α → D} {l : List α} (ha : a ρ = .ok (.leaf (eU e l)) ρ1) (hl : mPart lo ρ1 = .ok lv ρ2) (hh : mPart hi ρ2 = .ok hv ρ3) : mSlice a lo hi ρ = .ok (.leaf (eU e (cutY l lv hv))) ρ3 := by
  simp only [mSlice, ha, hl, hh, Res.bind, T.toD, eU, fSl, cutD_map]
theorem y_slL {e : α → D} {l : List α} {ta : T} (ha : a ρ = .ok ta ρ1) (hta : ta.toD = eL e l) (hl : mPart lo ρ1 = .ok lv ρ2) (hh : mPart hi ρ2 = .ok hv ρ3) : mSlice a lo hi ρ = .ok (oL e (cutY l lv hv)) ρ3 := by
  simp only [mSlice, ha, hl, hh, Res.bind, hta, eL, fSl, cutD_map, oL, List.map_map, Function.comp_def]
theorem y_slS {z : Str} (ha : a ρ = .ok (.leaf (.str z)) ρ1) (hl : mPart lo ρ1 = .ok lv ρ2) (hh : mPart hi ρ2 = .ok hv ρ3) (hg : z.length ≤ big) : mSlice a lo hi ρ = .ok (.leaf (.str (cutS z lv hv))) ρ3 := by
  simp only [mSlice, ha, hl, hh, Res.bind, T.toD, fSl, hg, if_true]
/-! built-ins -/
theorem y_min {i j : Int} (ha : a ρ = .ok (.leaf (.int i)) ρ1) (hb : b ρ1 = .ok (.leaf (.int j)) ρ2) : mSn fMin [a, b] ρ = .ok (.leaf (.int (min i j))) ρ2 :=
  y_Sn (ya_cons ha (ya_cons hb ya_nil)) (by
    simp only [List.map_cons, List.map_nil, T.toD, fMin]
    congr 2
    by_cases h : j < i
    · rw [if_pos h]; omega
    · rw [if_neg h]; omega)
theorem y_max {i j : Int} (ha : a ρ = .ok (.leaf (.int i)) ρ1) (hb : b ρ1 = .ok (.leaf (.int j)) ρ2) : mSn fMax [a, b] ρ = .ok (.leaf (.int (max i j))) ρ2 :=
  y_Sn (ya_cons ha (ya_cons hb ya_nil)) (by
    simp only [List.map_cons, List.map_nil, T.toD, fMax]
    congr 2
    by_cases h : j > i
    · rw [if_pos h]; omega
    · rw [if_neg h]; omega)
theorem y_int {i : Int} (ha : a ρ = .ok (.leaf (.int i)) ρ1) : mSn fInt [a] ρ = .ok (.leaf (.int i)) ρ1 := y_Sn (ya_cons ha ya_nil) rfl
theorem y_tupleU {e : α → D} {l : List α} (ha : a ρ = .ok (.leaf (eU e l)) ρ1) : mDn fTuple [a] ρ = .ok (.leaf (eU e l)) ρ1 := y_Dn (ya_cons ha ya_nil) rfl
theorem y_tupleL {e : α → D} {l : List α} {ta : T} (ha : a ρ = .ok ta ρ1) (hta : ta.toD = eL e l) : mDn fTuple [a] ρ = .ok (.leaf (eU e l)) ρ1 := y_Dn (ya_cons ha ya_nil) (by simp only [List.map_cons, List.map_nil, hta]; rfl)
theorem y_listL {e : α → D} {l : List α} {ta : T} (ha : a ρ = .ok ta ρ1) (hta : ta.toD = eL e l) : mDn fList [a] ρ = .ok (oL e l) ρ1 := y_Dn (ya_cons ha ya_nil) (by
  simp only [List.map_cons, List.map_nil, hta, eL, fList, oL, List.map_map, Function.comp_def])
theorem y_listU {e : α → D} {l : List α} (ha : a ρ = .ok (.leaf (eU e l)) ρ1) : mDn fList [a] ρ = .ok (oL e l) ρ1 := y_Dn (ya_cons ha ya_nil) (by
  simp only [List.map_cons, List.map_nil, T.toD, eU, fList, oL, List.map_map, Function.comp_def])
theorem y_isi {ns : List String} {d : D} {v : Bool} (ha : a ρ = .ok (.leaf d) ρ1) (h0 : d.tyN ≠ "?") (hv : (ns.any fun n => isiB d.tyN n) = v) : mIsi ns a ρ = .ok (.leaf (.bl v)) ρ1 := by
  simp only [mIsi, ha, Res.bind, T.toD, h0, if_false, hv]
theorem y_isiT {ns : List String} {ta : T} {v : Bool} (ha : a ρ = .ok ta ρ1) (h0 : ta.toD.tyN ≠ "?") (hv : (ns.any fun n => isiB ta.toD.tyN n) = v) : mIsi ns a ρ = .ok (.leaf (.bl v)) ρ1 := by
  simp only [mIsi, ha, Res.bind, h0, if_false, hv]
def okRepr (p : PyData) : Prop := (dispD p && p.showable && !p.hasDict && decide (p.depth ≤ 60) && fitsP p) = true
theorem y_repr {e : α → D} (q : QP e) {v : α} {ta : T} (ha : a ρ = .ok ta ρ1) (hta : ta.toD = e v) (hg : okRepr (q.P v)) : mSn fRepr [a] ρ = .ok (.leaf (.str (q.P v).shown)) ρ1 := y_Sn (ya_cons ha ya_nil) (by
  unfold okRepr at hg
  simp only [List.map_cons, List.map_nil, hta, fRepr, q.toP, hg, if_true])
def okInd (z c : Str) : Prop := (sIdx z c).isSome = true
def indS (z c : Str) : Int := ((sIdx z c).getD 0 : Nat)
theorem y_index {z u : Str} (ha : a ρ = .ok (.leaf (.str z)) ρ1) (hb : b ρ1 = .ok (.leaf (.str u)) ρ2) (hg : okInd z u) : mMt "str" fIndexS a [b] ρ = .ok (.leaf (.int (indS z u))) ρ2 := by
  unfold okInd at hg
  cases e : sIdx z u with
  | none => rw [e] at hg; cases hg
  | some i =>
    have h : (D.str z).tyN = "str" := rfl
    simp only [mMt, ha, Res.bind, T.toD, h, and_self, if_true, mArgs, hb, List.map_cons, List.map_nil, fIndexS, e, Option.map_some, indS, Option.getD_some]
/-! iterations -/
theorem yi_U {e : α → D} {l : List α} (h : a ρ = .ok (.leaf (eU e l)) ρ1) : mIter a ρ = .ok (l.map e) ρ1 := by simp only [mIter, h, Res.bind, T.toD, eU, D.items?]
theorem yi_F {e : α → D} {l : List α} (h : a ρ = .ok (.leaf (eF e l)) ρ1) : mIter a ρ = .ok (l.map e) ρ1 := by simp only [mIter, h, Res.bind, T.toD, eF, D.items?]
theorem yi_L {e : α → D} {l : List α} {ta : T} (h : a ρ = .ok ta ρ1) (hta : ta.toD = eL e l) : mIter a ρ = .ok (l.map e) ρ1 := by simp only [mIter, h, Res.bind, hta, eL, D.items?]
def chars (z : Str) : List Str := z.cps.toList.map fun c => ⟨#[c]⟩
theorem yi_S {z : Str} (h : a ρ = .ok (.leaf (.str z)) ρ1) : mIter a ρ = .ok ((chars z).map D.str) ρ1 := by simp only [mIter, h, Res.bind, T.toD, D.items?, chars, List.map_map, Function.comp_def]
def rangeY (lo hi : Int) : List Int := (List.range (hi - lo).toNat).map fun i => lo + (i : Nat)
def okR (i : Int) : Prop := small62 i = true
theorem yi_range1 {j : Int} (h : a ρ = .ok (.leaf (.int j)) ρ1) (hg : okR j) : mRange1 [a] ρ = .ok ((rangeY 0 j).map D.int) ρ1 := by
  unfold okR at hg
  simp only [mRange1, ya_cons h ya_nil, Res.bind, hg, if_true, rangeY, rangeD, List.map_map, Function.comp_def, Int.sub_zero]
theorem yi_range2 {i j : Int} (h : a ρ = .ok (.leaf (.int i)) ρ1) (h2 : b ρ1 = .ok (.leaf (.int j)) ρ2) (hg : okR i) (hg2 : okR j) : mRange2 [a, b] ρ = .ok ((rangeY i j).map D.int) ρ2 := by
  unfold okR at hg hg2
  simp only [mRange2, ya_cons h (ya_cons h2 ya_nil), Res.bind, hg, hg2, Bool.and_self, if_true, rangeY, rangeD, List.map_map, Function.comp_def]
/-! comprehensions without effect -/
theorem compM_eq {e : α → D} {e' : β → T} {vs : List Nat} {tg : TgM} {test : M Bool} {elt : M T} {ρ : Q.Env} {Rt : α → Q.Env} {x : α → Bool} {f : α → β} (hw : wipeE ρ vs = ρ) (htg : ∀ v, tg (e v) ρ = some (Rt v)) (hwt : ∀ v, wipeE (Rt v) vs = ρ) :
    ∀ (l : List α), (∀ v ∈ l, test (Rt v) = .ok (x v) (Rt v)) → (∀ v ∈ l, x v = true → elt (Rt v) = .ok (e' (f v)) (Rt v)) → compM vs tg test elt (l.map e) ρ = .ok ((l.filter x).map fun v => e' (f v)) ρ
  | [], _, _ => rfl
  | v :: r, h1, h2 => by
    have ih := compM_eq hw htg hwt r (fun u hu => h1 u (List.mem_cons_of_mem _ hu)) (fun u hu => h2 u (List.mem_cons_of_mem _ hu))
    have g := h1 v List.mem_cons_self
    cases c : x v with
    | true =>
      rw [c] at g
      simp only [List.map_cons, compM, htg, g, Res.bind, if_true, h2 v List.mem_cons_self c, hwt, ih, List.filter_cons, c]
    | false =>
      rw [c] at g
      simp only [List.map_cons, compM, htg, g, Res.bind, hwt, ih, List.filter_cons, c]
      rfl
theorem y_comp {e : α → D} {e' : β → D} {vs : List Nat} {src : M (List D)} {tg : TgM} {test : M Bool} {elt : M T} {l : List α} {Rt : α → Q.Env} {x : α → Bool} {f : α → β} (hs : src ρ = .ok (l.map e) ρ1) (hw : wipeE ρ1 vs = ρ1) (htg : ∀ v, tg (e v) ρ1 = some (Rt v)) (hwt : ∀ v, wipeE (Rt v) vs = ρ1) (hl : l.length ≤ big)
    (h1 : ∀ v ∈ l, test (Rt v) = .ok (x v) (Rt v)) (h2 : ∀ v ∈ l, x v = true → elt (Rt v) = .ok (.leaf (e' (f v))) (Rt v)) : mComp vs src tg test elt ρ = .ok (oL e' ((l.filter x).map f)) ρ1 := by
  have hl' : (l.map e).length ≤ 16000000 := by rw [List.length_map]; exact hl
  have c := compM_eq (e' := fun v => T.leaf (e' v)) hw htg hwt l h1 h2
  simp only [mComp, hs, Res.bind, hl', if_true, hw, c, Res.noX, oL, List.map_map, Function.comp_def]
theorem y_compA {e : α → D} {e' : β → D} {vs : List Nat} {src : M (List D)} {tg : TgM} {elt : M T} {l : List α} {Rt : α → Q.Env} {f : α → β} (hs : src ρ = .ok (l.map e) ρ1) (hw : wipeE ρ1 vs = ρ1) (htg : ∀ v, tg (e v) ρ1 = some (Rt v)) (hwt : ∀ v, wipeE (Rt v) vs = ρ1) (hl : l.length ≤ big)
    (h2 : ∀ v ∈ l, elt (Rt v) = .ok (.leaf (e' (f v))) (Rt v)) : mComp vs src tg mYes elt ρ = .ok (oL e' (l.map f)) ρ1 := by
  have h := y_comp (test := mYes) (x := fun _ => true) hs hw htg hwt hl (fun _ _ => rfl) (fun v hv _ => h2 v hv)
  rw [h, List.filter_eq_self.mpr fun _ _ => rfl]
/-- a comprehension whose elements change a state -/
def mapS (f : σ → α → β × σ) : List α → σ → List β × σ
  | [], s => ([], s)
  | a :: r, s => let p := f s a; let q := mapS f r p.2; (p.1 :: q.1, q.2)
def mapSG (g : σ → α → Prop) (f : σ → α → β × σ) : List α → σ → Prop
  | [], _ => True
  | a :: r, s => g s a ∧ mapSG g f r (f s a).2
theorem compM_S {e : α → D} {e' : β → D} {vs : List Nat} {tg : TgM} {elt : M T} {R : σ → Q.Env} {Rt : σ → α → Q.Env} {g : σ → α → Prop} {f : σ → α → β × σ} {R2 : σ → α → Q.Env} (htg : ∀ s v, tg (e v) (R s) = some (Rt s v)) (hw : ∀ s v, wipeE (R2 s v) vs = R s)
    (h : ∀ s v, g s v → elt (Rt s v) = .ok (.leaf (e' (f s v).1)) (R2 (f s v).2 v)) : ∀ (l : List α) (s : σ), mapSG g f l s → compM vs tg mYes elt (l.map e) (R s) = .ok (((mapS f l s).1).map fun v => .leaf (e' v)) (R (mapS f l s).2)
  | [], s, _ => rfl
  | v :: r, s, hg => by
    have ih := compM_S htg hw h r (f s v).2 hg.2
    simp only [List.map_cons, compM, htg, mYes, Res.bind, if_true, h s v hg.1, hw, ih, mapS]
theorem y_compS {e : α → D} {e' : β → D} {vs : List Nat} {src : M (List D)} {tg : TgM} {elt : M T} {l : List α} {s : σ} {R : σ → Q.Env} {Rt : σ → α → Q.Env} {g : σ → α → Prop} {f : σ → α → β × σ} {R2 : σ → α → Q.Env} (hs : src ρ = .ok (l.map e) ρ1) (hR : wipeE ρ1 vs = R s) (htg : ∀ s v, tg (e v) (R s) = some (Rt s v)) (hw : ∀ s v, wipeE (R2 s v) vs = R s) (hl : l.length ≤ big)
    (h : ∀ s v, g s v → elt (Rt s v) = .ok (.leaf (e' (f s v).1)) (R2 (f s v).2 v)) (hg : mapSG g f l s) : mComp vs src tg mYes elt ρ = .ok (oL e' (mapS f l s).1) (R (mapS f l s).2) := by
  have hl' : (l.map e).length ≤ 16000000 := by rw [List.length_map]; exact hl
  have c := compM_S htg hw h l s hg
  simp only [mComp, hs, Res.bind, hl', if_true, hR, c, Res.noX, oL]
/-! calls -/
theorem y_call {f : List T → FRes} {as : List AM} {t : T} {ls : List T} (ha : mArgs (as.map AM.toM) ρ = .ok ts ρ1) (hfr : freeS ρ1 (lendSlots as) = true) (hf : f ts = .ok t ls) (hl : ls.length = (lendSlots as).length) (hρ : putBack (lendSlots as) ls ρ1 = ρ2) : mCall f as ρ = .ok t ρ2 := by
  simp only [mCall, ha, Res.bind, hfr, if_true, hf, hl, hρ]
end
end Y

set_option maxHeartbeats 4000000
namespace Y
open PySem L2 Q
/-! Y2: more rules -/
section
variable {α β γ δ σ κ : Type} {ρ ρ1 ρ2 ρ3 : Q.Env} {a b c : M T}
def eK (x : Str) (_ : Unit) : D := .str x
def oN (r : α → List D) (p : α) : T := .node ((r p).map T.leaf)
theorem okDiv_small {y : Int} (h : (decide (0 < y) && decide (y < 1000000)) = true) : okDiv y := by
  rw [Bool.and_eq_true, decide_eq_true_eq, decide_eq_true_eq] at h
  unfold okDiv
  rw [Bool.and_eq_true, decide_eq_true_eq]
  refine ⟨h.1, Nat.ble_eq_true_of_le (Nat.le_trans (by omega : y.natAbs ≤ 2 ^ 20) (Nat.pow_le_pow_right (by decide) (by decide)))⟩
theorem okR_small {i : Int} (h : (decide (-1000000 < i) && decide (i < 1000000)) = true) : okR i := by
  rw [Bool.and_eq_true, decide_eq_true_eq, decide_eq_true_eq] at h
  unfold okR small62
  rw [Bool.and_eq_true, decide_eq_true_eq, decide_eq_true_eq]
  omega
/-! arguments of calls -/
theorem yc_nil : mArgs (([] : List AM).map AM.toM) ρ = .ok [] ρ := rfl
theorem yc_val {as : List AM} {t : T} {ts : List T} (h : a ρ = .ok t ρ1) (hs : mArgs (as.map AM.toM) ρ1 = .ok ts ρ2) : mArgs ((AM.val a :: as).map AM.toM) ρ = .ok (t :: ts) ρ2 := ya_cons h hs
theorem yc_lend {as : List AM} {i : Nat} {t : T} {ts : List T} (h : mMove i ρ = .ok t ρ1) (hs : mArgs (as.map AM.toM) ρ1 = .ok ts ρ2) : mArgs ((AM.lend i :: as).map AM.toM) ρ = .ok (t :: ts) ρ2 := ya_cons h hs
/-! next mode -/
theorem n_last {σ' δ' : Type} {m : SM} {g : Prop} {R0 : σ → δ → Q.Env} {s0 : σ} {R : σ' → δ' → Q.Env} {p : σ → σ'} (h : NY m ρ g R0 s0) (hf : ∀ s d, ∃ d', R0 s d = R (p s) d') : NY m ρ g R (letY s0 p) := fun hg => by
  obtain ⟨d, e⟩ := h hg
  obtain ⟨d', e'⟩ := hf s0 d
  exact ⟨d', by rw [e, e']; rfl⟩
theorem n_lastI {δ' : Type} {m : SM} {g : Prop} {R0 : σ → δ → Q.Env} {s0 : σ} {R : σ → δ' → Q.Env} (h : NY m ρ g R0 s0) (hf : ∀ s d, ∃ d', R0 s d = R s d') : NY m ρ g R s0 := fun hg => by
  obtain ⟨d, e⟩ := h hg
  obtain ⟨d', e'⟩ := hf s0 d
  exact ⟨d', by rw [e, e']⟩
theorem n_lastU {σ' δ' : Type} {m : SM} {g : Prop} {R0 : Unit → δ → Q.Env} {R : σ' → δ' → Q.Env} {v : σ'} (h : NY m ρ g R0 ()) (hf : ∀ d, ∃ d', R0 () d = R v d') : NY m ρ g R v := fun hg => by
  obtain ⟨d, e⟩ := h hg
  obtain ⟨d', e'⟩ := hf d
  exact ⟨d', by rw [e, e']⟩
theorem n_seqP {σ' δ' : Type} {a b : SM} {ga : Prop} {R : σ → δ → Q.Env} {s : σ} {R' : σ' → δ' → Q.Env} {p : σ → σ'} (ha : NY a ρ ga R s) (hb : ∀ s d, NY b (R s d) True R' (p s)) : NY (mSeq a b) ρ ga R' (letY s p) := fun hg => n_seq (g := fun _ => True) ha hb ⟨hg, trivial⟩
theorem t_seqNP {lent : List Nat} {a b : SM} {ga : Prop} {R : σ → δ → Q.Env} {s : σ} {et : β → T} {el : β → List T} {p : σ → β} (ha : NY a ρ ga R s) (hb : ∀ s d, TY lent b (R s d) True et el (p s)) : TY lent (mSeq a b) ρ ga et el (letY s p) := fun hg => t_seqN (g := fun _ => True) ha hb ⟨hg, trivial⟩
theorem n_if0 {c : M Bool} {a b : SM} {x : Bool} {R : σ → δ → Q.Env} {va vb : σ} (hc : c ρ = .ok x ρ1) (ha : NY a ρ1 True R va) (hb : NY b ρ1 True R vb) : NY (mIf c a b) ρ True R (bif x then va else vb) := fun _ => n_if (gc := True) (fun _ => hc) ha hb ⟨trivial, fun _ => trivial, fun _ => trivial⟩
theorem n_ifT {c : M Bool} {a b : SM} {g : Prop} {R : σ → δ → Q.Env} {v : σ} (hc : c ρ = .ok true ρ1) (ha : NY a ρ1 g R v) : NY (mIf c a b) ρ g R v := fun hg => by
  obtain ⟨d, e⟩ := ha hg
  exact ⟨d, by simp only [mIf, hc, Res.toS, if_true]; exact e⟩
theorem n_ifF {c : M Bool} {a b : SM} {g : Prop} {R : σ → δ → Q.Env} {v : σ} (hc : c ρ = .ok false ρ1) (hb : NY b ρ1 g R v) : NY (mIf c a b) ρ g R v := fun hg => by
  obtain ⟨d, e⟩ := hb hg
  exact ⟨d, by simp only [mIf, hc, Res.toS]; exact e⟩
theorem n_ifno0 {c : M Bool} {a : SM} {R : Unit → δ → Q.Env} {d : δ} (hc : c ρ = .ok false ρ1) (hR : ρ1 = R () d) : NY (mIf c a mNext) ρ True R () := fun _ =>
  ⟨d, by simp only [mIf, hc, Res.toS, mNext, hR]; rfl⟩
theorem n_ifno1 {c : M Bool} {a : SM} {g : Prop} {R : Unit → δ → Q.Env} {d : δ} (hc : g → c ρ = .ok false ρ1) (hR : ρ1 = R () d) : NY (mIf c a mNext) ρ g R () := fun hg => n_ifno0 (hc hg) hR trivial
theorem foldG_true {f : α → σ → σ} : ∀ (l : List α) (s : σ), foldG (fun _ _ => True) f l s
  | [], _ => trivial
  | _ :: r, _ => ⟨trivial, foldG_true r _⟩
theorem n_for0 {e : α → D} {src : M (List D)} {tg : TgM} {body : SM} {l : List α} {s : σ} {d0 : δ} {gs : Prop} {R : σ → δ → Q.Env} {Rt : α → σ → δ → Q.Env} {f : α → σ → σ}
    (hs : gs → src ρ = .ok (l.map e) ρ1) (hR : ρ1 = R s d0) (htg : ∀ a s d, tg (e a) (R s d) = some (Rt a s d)) (hb : ∀ a s d, NY body (Rt a s d) True R (f a s)) : NY (mFor src tg body) ρ gs R (foldY f l s) := fun hg =>
  n_for (gb := fun _ _ => True) hs hR htg hb ⟨hg, foldG_true l s⟩
/-- loops with break and continue -/
def forB (f : α → σ → C σ σ Empty) : List α → σ → σ
  | [], s => s
  | a :: r, s => match f a s with
    | .nx s1 => forB f r s1
    | .ct s1 => forB f r s1
    | .bk s1 => s1
    | .rt b => nomatch b
theorem forB_eq {κ' : Type} (f : α → σ → C σ σ Empty) : ∀ (l : List α) (s : σ), forC (κ' := κ') f l s = .nx (forB f l s)
  | [], _ => rfl
  | a :: r, s => by
    simp only [forC, forB]
    cases f a s with
    | nx s1 => exact forB_eq f r s1
    | ct s1 => exact forB_eq f r s1
    | bk s1 => rfl
    | rt b => exact nomatch b
theorem n_forB {e : α → D} {src : M (List D)} {tg : TgM} {body : SM} {l : List α} {s : σ} {d0 : δ} {gs : Prop} {R : σ → δ → Q.Env} {Rt : α → σ → δ → Q.Env} {gb : α → σ → Prop} {f : α → σ → C σ σ Empty}
    (hs : gs → src ρ = .ok (l.map e) ρ1) (hR : ρ1 = R s d0) (htg : ∀ a s d, tg (e a) (R s d) = some (Rt a s d)) (hb : ∀ a s d, CY [] body (Rt a s d) (gb a s) R R (fun x => nomatch x) (fun x => nomatch x) (f a s)) : NY (mFor src tg body) ρ (gs ∧ forG gb f l s) R (forB f l s) := fun hg => by
  have h := c_for (K' := fun (_ : Unit) (_ : Unit) => ([] : Q.Env)) hs hR htg hb hg
  rw [forB_eq] at h
  exact h
theorem forG_true {f : α → σ → C σ σ β} : ∀ (l : List α) (s : σ), forG (fun _ _ => True) f l s
  | [], _ => trivial
  | a :: r, s => ⟨trivial, by
    cases f a s with
    | nx s1 => exact forG_true r s1
    | ct s1 => exact forG_true r s1
    | bk s1 => trivial
    | rt b => trivial⟩
theorem n_forB0 {e : α → D} {src : M (List D)} {tg : TgM} {body : SM} {l : List α} {s : σ} {d0 : δ} {gs : Prop} {R : σ → δ → Q.Env} {Rt : α → σ → δ → Q.Env} {f : α → σ → C σ σ Empty}
    (hs : gs → src ρ = .ok (l.map e) ρ1) (hR : ρ1 = R s d0) (htg : ∀ a s d, tg (e a) (R s d) = some (Rt a s d)) (hb : ∀ a s d, CY [] body (Rt a s d) True R R (fun x => nomatch x) (fun x => nomatch x) (f a s)) : NY (mFor src tg body) ρ gs R (forB f l s) := fun hg =>
  n_forB (gb := fun _ _ => True) hs hR htg hb ⟨hg, forG_true l s⟩
theorem fn_ofN {lent : List Nat} {n : Nat} {body : SM} {ts ls : List T} {g : Prop} {R : σ → δ → Q.Env} {s : σ} (hρ : env0 n ts = ρ) (h : NY body ρ g R s) (hg : g) (hl : ∀ d, Q.pick lent (R s d) = some ls) : mkF lent n body ts = .ok (.leaf .non) ls := by
  obtain ⟨d, h1⟩ := h hg
  unfold mkF
  rw [hρ, h1]
  simp only [SRes.toF, hl]
/-! control mode -/
variable {δk : Type}
theorem c_seqNP {σ' δ' : Type} {lent : List Nat} {a b : SM} {ga : Prop} {R : σ → δ → Q.Env} {s : σ} {R' : σ' → δ' → Q.Env} {K : κ → δk → Q.Env} {et : β → T} {el : β → List T} {p : σ → C σ' κ β} (ha : NY a ρ ga R s) (hb : ∀ s d, CY lent b (R s d) True R' K et el (p s)) : CY lent (mSeq a b) ρ ga R' K et el (letY s p) := fun hg => c_seqN (g := fun _ => True) ha hb ⟨hg, trivial⟩
theorem c_ifrt {σ' δ' : Type} {lent : List Nat} {c : M Bool} {a r : SM} {gc ga gr : Prop} {x : Bool} {R' : σ' → δ' → Q.Env} {K : κ → δk → Q.Env} {et : β → T} {el : β → List T} {va : β} {vr : C σ' κ β} (hc : gc → c ρ = .ok x ρ1) (ha : TY lent a ρ1 ga et el va) (hr : CY lent r ρ1 gr R' K et el vr) :
    CY lent (mSeq (mIf c a mNext) r) ρ (gc ∧ (x = true → ga) ∧ (x = false → gr)) R' K et el (bif x then .rt va else vr) :=
  c_ifr (R0 := R') hc (c_ofT ha) trivial hr
theorem c_ifrtL {σ' δ' : Type} {lent : List Nat} {c : M Bool} {a : SM} {gc ga gr : Prop} {x : Bool} {R' : σ' → δ' → Q.Env} {K : κ → δk → Q.Env} {et : β → T} {el : β → List T} {va : β} {vr : C σ' κ β} (hc : gc → c ρ = .ok x ρ1) (ha : TY lent a ρ1 ga et el va) (hr : CY lent mNext ρ1 gr R' K et el vr) :
    CY lent (mIf c a mNext) ρ (gc ∧ (x = true → ga) ∧ (x = false → gr)) R' K et el (bif x then .rt va else vr) :=
  c_if hc (c_ofT ha) hr
theorem c_ifk {σ' δ' : Type} {lent : List Nat} {c : M Bool} {a r : SM} {gc ga gr : Prop} {x : Bool} {R' : σ' → δ' → Q.Env} {K : κ → δk → Q.Env} {et : β → T} {el : β → List T} {va vr : C σ' κ β} (hc : gc → c ρ = .ok x ρ1) (ha : CY lent a ρ1 ga R' K et el va) (hr : CY lent r ρ1 gr R' K et el vr) (hn : (match va with
    | .nx _ => false
    | _ => true) = true) :
    CY lent (mSeq (mIf c a mNext) r) ρ (gc ∧ (x = true → ga) ∧ (x = false → gr)) R' K et el (bif x then va else vr) :=
  c_ifr (R0 := R') hc ha (by cases va <;> first | trivial | cases hn) hr
theorem c_ifkL {σ' δ' : Type} {lent : List Nat} {c : M Bool} {a : SM} {gc ga gr : Prop} {x : Bool} {R' : σ' → δ' → Q.Env} {K : κ → δk → Q.Env} {et : β → T} {el : β → List T} {va vr : C σ' κ β} (hc : gc → c ρ = .ok x ρ1) (ha : CY lent a ρ1 ga R' K et el va) (hr : CY lent mNext ρ1 gr R' K et el vr) :
    CY lent (mIf c a mNext) ρ (gc ∧ (x = true → ga) ∧ (x = false → gr)) R' K et el (bif x then va else vr) := c_if hc ha hr
theorem c_seqL {σ' δ' : Type} {lent : List Nat} {a : SM} {ga : Prop} {R : σ → δ → Q.Env} {o : C σ κ β} {g : σ → Prop} {R' : σ' → δ' → Q.Env} {K : κ → δk → Q.Env} {et : β → T} {el : β → List T} {p : σ → C σ' κ β} (ha : CY lent a ρ ga R K et el o) (hb : ∀ s d, CY lent mNext (R s d) (g s) R' K et el (p s)) :
    CY lent a ρ (ga ∧ cBG o g) R' K et el (cB o p) := by
  have h := c_seq ha hb
  have e : mSeq a mNext = a := by
    funext ρ
    unfold mSeq
    cases a ρ <;> rfl
  rw [e] at h
  exact h
theorem c_for0 {κ' δk' : Type} {K' : κ' → δk' → Q.Env} {lent : List Nat} {et : β → T} {el : β → List T} {e : α → D} {src : M (List D)} {tg : TgM} {body : SM} {l : List α} {s : σ} {d0 : δ} {gs : Prop} {R : σ → δ → Q.Env} {Rt : α → σ → δ → Q.Env} {f : α → σ → C σ σ β}
    (hs : gs → src ρ = .ok (l.map e) ρ1) (hR : ρ1 = R s d0) (htg : ∀ a s d, tg (e a) (R s d) = some (Rt a s d)) (hb : ∀ a s d, CY lent body (Rt a s d) True R R et el (f a s)) : CY lent (mFor src tg body) ρ gs R K' et el (forC f l s) := fun hg =>
  c_for (gb := fun _ _ => True) hs hR htg hb ⟨hg, forG_true l s⟩
/-! tail mode, static tests -/
theorem t_ifT {lent : List Nat} {c : M Bool} {a b : SM} {g : Prop} {et : β → T} {el : β → List T} {v : β} (hc : c ρ = .ok true ρ1) (ha : TY lent a ρ1 g et el v) : TY lent (mIf c a b) ρ g et el v := fun hg => by
  obtain ⟨ρ', h1, h2⟩ := ha hg
  exact ⟨ρ', by simp only [mIf, hc, Res.toS, if_true]; exact h1, h2⟩
theorem t_ifF {lent : List Nat} {c : M Bool} {a b : SM} {g : Prop} {et : β → T} {el : β → List T} {v : β} (hc : c ρ = .ok false ρ1) (ha : TY lent b ρ1 g et el v) : TY lent (mIf c a b) ρ g et el v := fun hg => by
  obtain ⟨ρ', h1, h2⟩ := ha hg
  exact ⟨ρ', by simp only [mIf, hc, Res.toS]; exact h1, h2⟩
theorem t_ifTr {lent : List Nat} {c : M Bool} {a b r : SM} {g : Prop} {et : β → T} {el : β → List T} {v : β} (hc : c ρ = .ok true ρ1) (ha : TY lent a ρ1 g et el v) : TY lent (mSeq (mIf c a b) r) ρ g et el v := fun hg => by
  obtain ⟨ρ', h1, h2⟩ := ha hg
  exact ⟨ρ', by simp only [mSeq, mIf, hc, Res.toS, if_true, h1], h2⟩
theorem t_ifFr {lent : List Nat} {c : M Bool} {a b r : SM} {g : Prop} {et : β → T} {el : β → List T} {v : β} (hc : c ρ = .ok false ρ1) (ha : TY lent b ρ1 g et el v) : TY lent (mSeq (mIf c a b) r) ρ g et el v := fun hg => by
  obtain ⟨ρ', h1, h2⟩ := ha hg
  refine ⟨ρ', ?_, h2⟩
  have e : mIf c a b ρ = b ρ1 := by simp only [mIf, hc, Res.toS]; rfl
  unfold mSeq
  rw [e, h1]
theorem t_ifFn {lent : List Nat} {c : M Bool} {a r : SM} {g : Prop} {et : β → T} {el : β → List T} {v : β} (hc : c ρ = .ok false ρ1) (ha : TY lent r ρ1 g et el v) : TY lent (mSeq (mIf c a mNext) r) ρ g et el v := fun hg => by
  obtain ⟨ρ', h1, h2⟩ := ha hg
  exact ⟨ρ', by simp only [mSeq, mIf, hc, Res.toS]; exact h1, h2⟩
/-! static and / or -/
variable {x y : Bool} {ca cb : M Bool}
theorem y_orT (h : ca ρ = .ok true ρ1) : mOr ca cb ρ = .ok true ρ1 := by simp only [mOr, h, Res.bind, if_true]
theorem y_andF (h : ca ρ = .ok false ρ1) : mAnd ca cb ρ = .ok false ρ1 := by simp only [mAnd, h, Res.bind]; rfl
theorem y_orS (h : ca ρ = .ok false ρ1) (h2 : cb ρ1 = .ok y ρ2) : mOr ca cb ρ = .ok y ρ2 := by simp only [mOr, h, Res.bind]; exact h2
theorem y_andS (h : ca ρ = .ok true ρ1) (h2 : cb ρ1 = .ok y ρ2) : mAnd ca cb ρ = .ok y ρ2 := by simp only [mAnd, h, Res.bind, if_true, h2]
theorem y_orVT (h : a ρ = .ok (.leaf (.bl true)) ρ1) : mOrV a b ρ = .ok (.leaf (.bl true)) ρ1 := by simp only [mOrV, y_test h, Res.bind, if_true]
theorem y_andVF (h : a ρ = .ok (.leaf (.bl false)) ρ1) : mAndV a b ρ = .ok (.leaf (.bl false)) ρ1 := by simp only [mAndV, y_test h, Res.bind]; rfl
theorem y_orVS (h : a ρ = .ok (.leaf (.bl false)) ρ1) (h2 : b ρ1 = .ok (.leaf (.bl y)) ρ2) : mOrV a b ρ = .ok (.leaf (.bl y)) ρ2 := by simp only [mOrV, y_test h, Res.bind]; exact h2
theorem y_andVS (h : a ρ = .ok (.leaf (.bl true)) ρ1) (h2 : b ρ1 = .ok (.leaf (.bl y)) ρ2) : mAndV a b ρ = .ok (.leaf (.bl y)) ρ2 := by simp only [mAndV, y_test h, Res.bind, if_true, h2]
theorem y_eqX {d f : D} {v : Bool} (ha : a ρ = .ok (.leaf d) ρ1) (hb : b ρ1 = .ok (.leaf f) ρ2) (h : fEq d f = some (.bl v)) : mS2 fEq a b ρ = .ok (.leaf (.bl v)) ρ2 := by simp only [mS2, ha, hb, Res.bind, T.toD, h]
theorem y_neX {d f : D} {v : Bool} (ha : a ρ = .ok (.leaf d) ρ1) (hb : b ρ1 = .ok (.leaf f) ρ2) (h : fNe d f = some (.bl v)) : mS2 fNe a b ρ = .ok (.leaf (.bl v)) ρ2 := by simp only [mS2, ha, hb, Res.bind, T.toD, h]
theorem y_isX {d : D} {v : Bool} (ha : a ρ = .ok (.leaf d) ρ1) (h : fIsN d .non = some (.bl v)) : mS2 fIsN a (mC .non) ρ = .ok (.leaf (.bl v)) ρ1 := by simp only [mS2, ha, mC, Res.bind, T.toD, h]
theorem y_isnX {d : D} {v : Bool} (ha : a ρ = .ok (.leaf d) ρ1) (h : fNotN d .non = some (.bl v)) : mS2 fNotN a (mC .non) ρ = .ok (.leaf (.bl v)) ρ1 := by simp only [mS2, ha, mC, Res.bind, T.toD, h]
theorem y_eqO [DecidableEq α] {e : α → D} {ok : α → Prop} (q : QE e ok) {x y : α} (ox : ok x) (oy : ok y) {ta tb : T} (ha : a ρ = .ok ta ρ1) (hta : ta.toD = e x) (hb : b ρ1 = .ok tb ρ2) (htb : tb.toD = e y) : mS2 fEq a b ρ = .ok (.leaf (.bl (decide (x = y)))) ρ2 := by
  simp only [mS2, ha, hb, Res.bind, hta, htb, q.eq x y ox oy]
theorem y_neO [DecidableEq α] {e : α → D} {ok : α → Prop} (q : QE e ok) {x y : α} (ox : ok x) (oy : ok y) {ta tb : T} (ha : a ρ = .ok ta ρ1) (hta : ta.toD = e x) (hb : b ρ1 = .ok tb ρ2) (htb : tb.toD = e y) : mS2 fNe a b ρ = .ok (.leaf (.bl (!decide (x = y)))) ρ2 := by
  have h := y_ne q ox oy (a := fun r => .ok (.leaf (e x)) r) (b := fun r => .ok (.leaf (e y)) r) (ρ := ρ) rfl rfl
  simp only [mS2, Res.bind, T.toD] at h
  simp only [mS2, ha, hb, Res.bind, hta, htb]
  cases c : fNe (e x) (e y) with
  | none => rw [c] at h; cases h
  | some d => rw [c] at h; cases h; rfl
/-! more -/
theorem y_lenP {ds : List D} {n : Nat} (h : a ρ = .ok (.leaf (.tup ds)) ρ1) (hn : ds.length = n) : mSn fLen [a] ρ = .ok (.leaf (.int (n : Nat))) ρ1 :=
  y_Sn (ya_cons h ya_nil) (by simp [T.toD, fLen, lenD, hn])
theorem y_tupleP {ds : List D} (h : a ρ = .ok (.leaf (.tup ds)) ρ1) : mDn fTuple [a] ρ = .ok (.leaf (.tup ds)) ρ1 := y_Dn (ya_cons h ya_nil) rfl
def setLen (z : Str) : Int := (dcnt [] (z.cps.toList.map sign1) : Nat)
theorem y_lenSet {z : Str} (h : a ρ = .ok (.leaf (.str z)) ρ1) (hg : z.length ≤ 2000) : mLenSet a ρ = .ok (.leaf (.int (setLen z))) ρ1 := by
  simp only [mLenSet, h, Res.bind, hg, if_true, setLen]
theorem intsOf_map : ∀ l : List Int, intsOf (l.map D.int) = some l
  | [] => rfl
  | i :: r => by simp only [List.map_cons, intsOf, intsOf_map r, Option.map_some]
theorem y_sortI {l : List Int} {ta : T} (ha : a ρ = .ok ta ρ1) (hta : ta.toD = eL D.int l) : mDn fSortedI [a] ρ = .ok (oL D.int (sortI l)) ρ1 := y_Dn (ya_cons ha ya_nil) (by
  simp only [List.map_cons, List.map_nil, hta, eL, fSortedI, intsOf_map, Option.map_some, oL])
theorem setixM_eq {i : Nat} {mb m : M T} {r : SRes} {j : Int} {v : D} {ts : List T} {k : Nat} (hm : m ρ = .ok (.leaf v) ρ1) (h1' : ((ρ1[i]?).bind id).isSome = true) (hb : mb ρ1 = .ok (.leaf (.int j)) ρ2) (h2 : ρ2[i]? = some (some (.node ts))) (hk : ixN ts.length j = some k) (h : .nx (ρ2.set i (some (.node (ts.set k (.leaf v))))) = r) : mSetIx i mb m ρ = r := by
  cases e1 : ρ1[i]? with
  | none => rw [e1] at h1'; cases h1'
  | some o =>
    cases o with
    | none => rw [e1] at h1'; cases h1'
    | some t => rw [← h]; simp only [mSetIx, hm, Res.toS, e1, hb, T.toD, h2, hk]
/-- deep membership in lists -/
theorem y_inD [DecidableEq α] {e : α → D} (q : QP e) (hd : Nat.ble q.dep 60 = true) (hv : ∀ x, (e x).toV? = none) {x : α} {l : List α} (ox : q.ok x) (ol : ∀ z ∈ l, q.ok z) (ha : a ρ = .ok (.leaf (e x)) ρ1) (hb : b ρ1 = .ok (.leaf (eL e l)) ρ2) : mS2 fIn a b ρ = .ok (.leaf (.bl (decide (x ∈ l)))) ρ2 := by
  have hd := Nat.le_of_ble_eq_true hd
  have s1 : SeqAt.shaped (q.P x) = true := by
    unfold SeqAt.shaped
    rw [q.lay x ox, Bool.true_and, decide_eq_true_eq]
    exact Nat.le_trans (q.depth x) (Nat.le_trans hd (by decide))
  have s2 : SeqAt.shaped (.list (l.map q.P)) = true := by
    show (PyData.canLayAll0 (l.map q.P) && decide (PyData.depthAll (l.map q.P) + 1 ≤ 64)) = true
    rw [qp_lays q l ol, Bool.true_and, decide_eq_true_eq]
    have := qp_depths q l
    omega
  have f1 : anyFlat (e x) (l.map e) = none := by unfold anyFlat; rw [hv x]
  have f2 : anyDeep (e x) (l.map e) = some (decide (x ∈ l)) := by
    unfold anyDeep
    simp only [q.toP, qp_toPs q, s1, s2, Bool.and_self, if_true]
    congr 1
    rw [Bool.eq_iff_iff]
    simp only [List.any_map, List.any_eq_true, Function.comp, q.inj, decide_eq_true_eq]
    exact ⟨fun ⟨y, hy, e⟩ => e ▸ hy, fun h => ⟨x, h, rfl⟩⟩
  have f3 : inD (e x) (.lst (l.map e)) = some (decide (x ∈ l)) := by
    show (match anyFlat (e x) (l.map e) with
      | some b => some b
      | none => anyDeep (e x) (l.map e)) = _
    rw [f1, f2]
  simp only [mS2, ha, hb, Res.bind, T.toD, fIn, eL, f3, Option.map_some]
end
end Y

set_option maxHeartbeats 4000000
namespace Y
open PySem L2 Q
section
variable {α β γ δ σ κ : Type} {ρ ρ1 ρ2 ρ3 : Q.Env} {a b c : M T}
theorem y_sum {l : List Int} {ta : T} (ha : a ρ = .ok ta ρ1) (hta : ta.toD = eL D.int l) : mSn fSum [a] ρ = .ok (.leaf (.int l.sum)) ρ1 := y_Sn (ya_cons ha ya_nil) (by
  simp only [List.map_cons, List.map_nil, hta, eL, fSum, intsOf_map, Option.map_some])
theorem y_fz {t : T} {d : D} (h : a ρ = .ok t ρ1) (hd : t.toD = d) : mFz a ρ = .ok (.leaf d) ρ1 := by
  simp only [mFz, h, Res.bind, hd]
theorem y_ixO [Inhabited α] {e : α → D} {l : List α} {ta : T} {i : Int} (ha : a ρ = .ok ta ρ1) (hta : ta.toD = eL e l) (hb : b ρ1 = .ok (.leaf (.int i)) ρ2) (hg : okIx l.length i) : mD2 fIx a b ρ = .ok (.leaf (e (ixY l i))) ρ2 := by
  simp only [mD2, ha, hb, Res.bind, hta, T.toD, eL, fIx, ixY_spec hg e, Option.map_some]
theorem y_reprX {e : α → D} (q : QP e) (hs : ∀ v, fReprX [e v] = fRepr [e v]) {v : α} {ta : T} (ha : a ρ = .ok ta ρ1) (hta : ta.toD = e v) (hg : okRepr (q.P v)) : mSn fReprX [a] ρ = .ok (.leaf (.str (q.P v).shown)) ρ1 := y_Sn (ya_cons ha ya_nil) (by
  unfold okRepr at hg
  simp only [List.map_cons, List.map_nil, hta, hs, fRepr, q.toP, hg, if_true])
def downY (hi lo : Int) : List Int := (List.range (hi - lo).toNat).map fun i => hi + (i : Nat) * (-1)
theorem yi_down {i j : Int} (h : a ρ = .ok (.leaf (.int i)) ρ1) (h2 : b ρ1 = .ok (.leaf (.int j)) ρ2) (h3 : c ρ2 = .ok (.leaf (.int (-1))) ρ3) (hg : okR i) (hg2 : okR j) : mRange3 [a, b, c] ρ = .ok ((downY i j).map D.int) ρ3 := by
  unfold okR at hg hg2
  simp only [mRange3, ya_cons h (ya_cons h2 (ya_cons h3 ya_nil)), Res.bind, hg, hg2, Bool.and_self, decide_true, if_true, downY, downD, List.map_map, Function.comp_def]
end
end Y

set_option maxHeartbeats 4000000
set_option exponentiation.threshold 200000
namespace Y
open PySem L2 Q
/-! Y4: reasoning about typed readings: loops by invariants, bounds -/
section
variable {α β σ κ : Type}
theorem rangeY_nat (n : Nat) : rangeY 0 (n : Int) = (List.range n).map fun (i : Nat) => (i : Int) := by
  simp [rangeY]
theorem rangeY_len (lo hi : Int) : (rangeY lo hi).length = (hi - lo).toNat := by simp [rangeY]
theorem mem_rangeY {lo hi x : Int} : x ∈ rangeY lo hi ↔ lo ≤ x ∧ x < hi := by
  simp only [rangeY, List.mem_map, List.mem_range]
  constructor
  · rintro ⟨i, h, rfl⟩; omega
  · intro h; exact ⟨(x - lo).toNat, by omega, by omega⟩
theorem fold_at {g : α → σ → Prop} {f : α → σ → σ} (P : Nat → σ → Prop) : ∀ (l : List α) (j : Nat) (s : σ), P j s → (∀ i a s, l[i]? = some a → P (j + i) s → g a s ∧ P (j + i + 1) (f a s)) → foldG g f l s ∧ P (j + l.length) (foldY f l s)
  | [], j, s, h, _ => ⟨trivial, h⟩
  | a :: r, j, s, h, hs => by
    have h0 := hs 0 a s rfl h
    have ih := fold_at P r (j + 1) (f a s) h0.2 fun i b t e p => by
      have := hs (i + 1) b t (by simpa using e) (by rw [show j + (i + 1) = j + 1 + i by omega]; exact p)
      rw [show j + (i + 1) = j + 1 + i by omega] at this
      exact this
    refine ⟨⟨h0.1, ih.1⟩, ?_⟩
    rw [show j + (a :: r).length = j + 1 + r.length by simp; omega]
    exact ih.2
theorem range_at (lo hi : Int) {i : Nat} {a : Int} (h : (rangeY lo hi)[i]? = some a) : a = lo + i ∧ i < (hi - lo).toNat := by
  simp only [rangeY, List.getElem?_map] at h
  cases e : (List.range (hi - lo).toNat)[i]? with
  | none => rw [e] at h; cases h
  | some j =>
    rw [e] at h
    obtain ⟨h1, h2⟩ := List.getElem?_eq_some_iff.mp e
    rw [List.getElem_range] at h2
    subst h2
    simp only [Option.map_some, Option.some.injEq] at h
    exact ⟨h.symm, by simpa using h1⟩
/-- a loop over a range: an invariant by turns -/
theorem fold_range {g : Int → σ → Prop} {f : Int → σ → σ} (P : Nat → σ → Prop) {lo hi : Int} {n : Nat} (hn : (hi - lo).toNat = n) {s : σ} (h0 : P 0 s) (hs : ∀ (i : Nat) s, i < n → P i s → g (lo + i) s ∧ P (i + 1) (f (lo + i) s)) : foldG g f (rangeY lo hi) s ∧ P n (foldY f (rangeY lo hi) s) := by
  have h := fold_at (g := g) (f := f) P (rangeY lo hi) 0 s h0 fun i a s e p => by
    obtain ⟨e1, e2⟩ := range_at lo hi e
    subst e1
    rw [Nat.zero_add] at p ⊢
    exact hs i s (by omega) p
  rw [rangeY_len, hn, Nat.zero_add] at h
  exact h
/-- a loop without guards -/
theorem foldY_range {f : Int → σ → σ} (P : Nat → σ → Prop) {lo hi : Int} {n : Nat} (hn : (hi - lo).toNat = n) {s : σ} (h0 : P 0 s) (hs : ∀ (i : Nat) s, i < n → P i s → P (i + 1) (f (lo + i) s)) : P n (foldY f (rangeY lo hi) s) :=
  (fold_range (g := fun _ _ => True) P hn h0 fun i s h p => ⟨trivial, hs i s h p⟩).2
theorem fold_list {g : α → σ → Prop} {f : α → σ → σ} (P : List α → σ → Prop) : ∀ (l pre : List α) (s : σ), P pre s → (∀ pre a s, P pre s → g a s ∧ P (pre ++ [a]) (f a s)) → foldG g f l s ∧ P (pre ++ l) (foldY f l s)
  | [], pre, s, h, _ => ⟨trivial, by rw [List.append_nil]; exact h⟩
  | a :: r, pre, s, h, hs => by
    have h0 := hs pre a s h
    have ih := fold_list P r (pre ++ [a]) (f a s) h0.2 hs
    refine ⟨⟨h0.1, ih.1⟩, ?_⟩
    have := ih.2
    rw [List.append_assoc] at this
    exact this
/-- a loop that only tests -/
theorem forC_all {κ' : Type} {g : α → σ → Prop} {f : α → σ → C σ σ β} {s : σ} : ∀ (l : List α), (∀ a ∈ l, g a s ∧ f a s = .nx s) → forG g f l s ∧ forC (κ' := κ') f l s = .nx s
  | [], _ => ⟨trivial, rfl⟩
  | a :: r, h => by
    have h0 := h a List.mem_cons_self
    have ih := forC_all (κ' := κ') r fun b hb => h b (List.mem_cons_of_mem _ hb)
    simp only [forG, forC, h0.2]
    exact ⟨⟨h0.1, ih.1⟩, ih.2⟩
/-! bounds -/
theorem p2 {j k : Nat} (h : j ≤ k) : (2 : Nat) ^ j ≤ 2 ^ k := Nat.pow_le_pow_right (by decide) h
theorem okM {x y : Int} (a b : Nat) (hx : x.natAbs ≤ 2 ^ a) (hy : y.natAbs ≤ 2 ^ b) (ha : a ≤ 100000) (hb : b ≤ 100000) : okMul x y = true := by
  unfold okMul
  rw [Nat.ble_eq_true_of_le (Nat.le_trans hx (p2 ha)), Nat.ble_eq_true_of_le (Nat.le_trans hy (p2 hb))]
  rfl
theorem okMn {x y : Nat} (a b : Nat) (hx : x ≤ 2 ^ a) (hy : y ≤ 2 ^ b) (ha : a ≤ 100000) (hb : b ≤ 100000) : okMul (x : Int) (y : Int) = true := okM a b (by simpa using hx) (by simpa using hy) ha hb
theorem okDn {y : Nat} (a : Nat) (h0 : 0 < y) (hy : y ≤ 2 ^ a) (ha : a ≤ 8000) : okDiv (y : Int) := by
  unfold okDiv
  rw [Bool.and_eq_true, decide_eq_true_eq]
  exact ⟨by omega, Nat.ble_eq_true_of_le (Nat.le_trans (by simpa using hy) (p2 ha))⟩
theorem okRn {i : Int} (h : -(2 ^ 62) ≤ i ∧ i < 2 ^ 62) : okR i := by
  unfold okR small62
  rw [Bool.and_eq_true, decide_eq_true_eq, decide_eq_true_eq]
  exact h
theorem okIx_nat {n : Nat} {i : Int} (h : 0 ≤ i ∧ i < n) : okIx n i := by
  unfold okIx ixN
  rw [if_pos h.1, if_pos h.2]
  rfl
theorem ixN_nat {n k : Nat} (h : k < n) : ixN n (k : Int) = some k := by
  unfold ixN
  rw [if_pos (by omega), if_pos (by omega)]
  simp
theorem ixY_nat [Inhabited α] {l : List α} {k : Nat} {v : α} (h : l[k]? = some v) : ixY l (k : Int) = v := by
  have hk := (List.getElem?_eq_some_iff.mp h).1
  unfold ixY
  rw [ixN_nat hk, Option.bind_some, h]
  rfl
end
end Y

set_option maxHeartbeats 4000000
namespace Y
open PySem L2 Q
section
variable {α β : Type} {ρ ρ1 : Q.Env} {a : M T}
def eD (d : D) : D := d
theorem y_coL {e : α → D} {l : List α} (h : a ρ = .ok (oL e l) ρ1) : a ρ = .ok (oL eD (l.map e)) ρ1 := by
  rw [h]
  simp [oL, eD, List.map_map, Function.comp_def]
def isiD (ns : List String) (d : D) : Bool := ns.any fun n => isiB d.tyN n
theorem y_isiD {ns : List String} {d : D} (ha : a ρ = .ok (.leaf d) ρ1) (h0 : d.tyN ≠ "?") : mIsi ns a ρ = .ok (.leaf (.bl (isiD ns d))) ρ1 := by
  simp only [mIsi, ha, Res.bind, T.toD, h0, if_false, isiD]
end
end Y
namespace Y
open PySem L2 Q
section
variable {σ : Type} {ρ : Q.Env} {ca cb : M Bool} {x y : Bool} {a b : M T}
theorem y_orE {R : σ → Q.Env} {s1 s2 : σ} (h1 : ca ρ = .ok x (R s1)) (h2 : x = false → cb (R s1) = .ok y (R s2)) : mOr ca cb ρ = .ok (x || y) (R (bif x then s1 else s2)) := by
  cases x with
  | false => simp only [mOr, h1, Res.bind, Bool.false_or, cond_false]; exact h2 rfl
  | true => simp only [mOr, h1, Res.bind, if_true, Bool.true_or, cond_true]
theorem y_andE {R : σ → Q.Env} {s1 s2 : σ} (h1 : ca ρ = .ok x (R s1)) (h2 : x = true → cb (R s1) = .ok y (R s2)) : mAnd ca cb ρ = .ok (x && y) (R (bif x then s2 else s1)) := by
  cases x with
  | true => simp only [mAnd, h1, Res.bind, if_true, Bool.true_and, cond_true]; exact h2 rfl
  | false => simp only [mAnd, h1, Res.bind, Bool.false_and, cond_false]; rfl
theorem y_andVE {R : σ → Q.Env} {s1 s2 : σ} (h1 : a ρ = .ok (.leaf (.bl x)) (R s1)) (h2 : x = true → b (R s1) = .ok (.leaf (.bl y)) (R s2)) : mAndV a b ρ = .ok (.leaf (.bl (x && y))) (R (bif x then s2 else s1)) := by
  cases x with
  | true => simp only [mAndV, y_test h1, Res.bind, if_true, Bool.true_and, cond_true]; exact h2 rfl
  | false => simp only [mAndV, y_test h1, Res.bind, Bool.false_and, cond_false]; rfl
theorem y_orVE {R : σ → Q.Env} {s1 s2 : σ} (h1 : a ρ = .ok (.leaf (.bl x)) (R s1)) (h2 : x = false → b (R s1) = .ok (.leaf (.bl y)) (R s2)) : mOrV a b ρ = .ok (.leaf (.bl (x || y))) (R (bif x then s1 else s2)) := by
  cases x with
  | false => simp only [mOrV, y_test h1, Res.bind, Bool.false_or, cond_false]; exact h2 rfl
  | true => simp only [mOrV, y_test h1, Res.bind, if_true, Bool.true_or, cond_true]
end
end Y

set_option maxHeartbeats 4000000
namespace Law
open PySem L2 Q Y
def b__law_purse_1 (a12 : Int) (s13 : ((List Int) × Int)) : C ((List Int) × Int) ((List Int) × Int) Empty :=
  (letY (s13.1 ++ [(s13.2 % (24 : Int))]) fun (s16 : (List Int)) => (letY (s13.2 / (24 : Int)) fun (s19 : Int) => (bif (decide (s19 = (0 : Int))) then .bk (s16, s19) else .nx (s16, s19))))
def gb__law_purse_1 (a12 : Int) (s13 : ((List Int) × Int)) : Prop :=
  ((s13.1.length < 16000000) ∧ (letY (s13.1 ++ [(s13.2 % (24 : Int))]) fun (s16 : (List Int)) => (letY (s13.2 / (24 : Int)) fun (s19 : Int) => (True ∧ ((decide (s19 = (0 : Int))) = true → True) ∧ ((decide (s19 = (0 : Int))) = false → True)))))
def b__law_purse_2 (script : (List Int)) (a5 : Int) (s6 : (List Int)) : (List Int) :=
  (letY ((ixY script a5) % ((24 : Int) ^ ((20 : Int) : Int).toNat)) fun (s9 : Int) => (letY (forB b__law_purse_1 (rangeY 0 (20 : Int)) (s6, s9)) fun (s22 : ((List Int) × Int)) => s22.1))
def gb__law_purse_2 (script : (List Int)) (a5 : Int) (s6 : (List Int)) : Prop :=
  (((okIx script.length a5) ∧ (okPow (24 : Int) (20 : Int)) ∧ (0 < ((24 : Int) ^ ((20 : Int) : Int).toNat))) ∧ (letY ((ixY script a5) % ((24 : Int) ^ ((20 : Int) : Int).toNat)) fun (s9 : Int) => (True ∧ forG gb__law_purse_1 b__law_purse_1 (rangeY 0 (20 : Int)) (s6, s9))))
def p__law_purse (script : (List Int)) : (Int × (List Int)) :=
  (letY ([] : List Int) fun (s2 : (List Int)) => (letY (foldY (b__law_purse_2 script) (rangeY 0 (min (script.length : Int) (24 : Int))) s2) fun (s24 : (List Int)) => ((0 : Int), s24)))
def g__law_purse (script : (List Int)) : Prop :=
  (letY ([] : List Int) fun (s2 : (List Int)) => ((okR (min (script.length : Int) (24 : Int))) ∧ foldG (gb__law_purse_2 script) (b__law_purse_2 script) (rangeY 0 (min (script.length : Int) (24 : Int))) s2))
theorem s__law_purse (script : (List Int)) (hg : g__law_purse script) : f__law_purse [(.leaf ((eF D.int) script))] = .ok ((oN (pC D.int (pZ (eL D.int)))) (p__law_purse script)) [] :=
  Y.fn_of (lent := []) (n := 5) (ρ := ([some (.leaf ((eF D.int) script)), none, none, none, none] : Q.Env)) (g := g__law_purse script) (et := (fun b : (Int × (List Int)) => (oN (pC D.int (pZ (eL D.int)))) b)) (el := (fun b : (Int × (List Int)) => [])) (v := p__law_purse script) rfl
  (t_seqN0 (s := ([] : List Int)) (show NY _ _ True (fun (s : (List Int)) (d : Unit) => ([some (.leaf ((eF D.int) script)), some ((oL D.int) s), none, none, none] : Q.Env)) ([] : List Int) from (fun (h1 : True) => ⟨(), (setO_eq (y_lst ya_nil rfl) rfl)⟩)) (fun s2 d3 => (t_seqNP (s := (foldY (b__law_purse_2 script) (rangeY 0 (min (script.length : Int) (24 : Int))) s2)) (n_for (e := D.int) (l := (rangeY 0 (min (script.length : Int) (24 : Int)))) (s := s2) (d0 := ((none : Option T), (none : Option T), (none : Option T))) (R := (fun (s : (List Int)) (d : Option T × Option T × Option T) => ([some (.leaf ((eF D.int) script)), some ((oL D.int) s), d.1, d.2.1, d.2.2] : Q.Env))) (Rt := (fun (a5 : Int) (s6 : (List Int)) (d7 : Option T × Option T × Option T) => ([some (.leaf ((eF D.int) script)), some ((oL D.int) s6), some (.leaf (D.int a5)), d7.2.1, d7.2.2] : Q.Env))) (gb := (gb__law_purse_2 script)) (f := (b__law_purse_2 script)) (fun (h4 : (okR (min (script.length : Int) (24 : Int)))) => (yi_range1 (y_min (y_lenF (e := D.int) (y_v ((eF D.int) script) rfl)) (y_c (D.int 24))) h4)) rfl (fun _ _ _ => rfl) (fun a5 s6 d7 => (n_seq (s := ((ixY script a5) % ((24 : Int) ^ ((20 : Int) : Int).toNat))) (show NY _ _ ((okIx script.length a5) ∧ (okPow (24 : Int) (20 : Int)) ∧ (0 < ((24 : Int) ^ ((20 : Int) : Int).toNat))) (fun (s : Int) (d : Unit) => ([some (.leaf ((eF D.int) script)), some ((oL D.int) s6), some (.leaf (D.int a5)), some (.leaf (D.int s)), d7.2.2] : Q.Env)) ((ixY script a5) % ((24 : Int) ^ ((20 : Int) : Int).toNat)) from (fun (h8 : (okIx script.length a5) ∧ (okPow (24 : Int) (20 : Int)) ∧ (0 < ((24 : Int) ^ ((20 : Int) : Int).toNat))) => ⟨(), (set_eq (y_mod (y_int (y_ixF (e := D.int) (y_v ((eF D.int) script) rfl) (y_v (D.int a5) rfl) h8.1)) (y_pow (y_c (D.int 24)) (y_c (D.int 20)) h8.2.1) h8.2.2) rfl)⟩)) (fun s9 d10 => (n_last (R := (fun (s : (List Int)) (d : Option T × Option T × Option T) => ([some (.leaf ((eF D.int) script)), some ((oL D.int) s), d.1, d.2.1, d.2.2] : Q.Env))) (p := fun (s22 : ((List Int) × Int)) => s22.1) (n_forB (e := D.int) (l := (rangeY 0 (20 : Int))) (s := (s6, s9)) (d0 := (d7.2.2 : Option T)) (R := (fun (s : ((List Int) × Int)) (d : Option T) => ([some (.leaf ((eF D.int) script)), some ((oL D.int) s.1), some (.leaf (D.int a5)), some (.leaf (D.int s.2)), d] : Q.Env))) (Rt := (fun (a12 : Int) (s13 : ((List Int) × Int)) (d14 : Option T) => ([some (.leaf ((eF D.int) script)), some ((oL D.int) s13.1), some (.leaf (D.int a5)), some (.leaf (D.int s13.2)), some (.leaf (D.int a12))] : Q.Env))) (gb := gb__law_purse_1) (f := b__law_purse_1) (fun (h11 : True) => (yi_range1 (y_c (D.int 20)) (okR_small (by decide)))) rfl (fun _ _ _ => rfl) (fun a12 s13 d14 => (c_seqN (s := (s13.1 ++ [(s13.2 % (24 : Int))])) (show NY _ _ (s13.1.length < 16000000) (fun (s : (List Int)) (d : Unit) => ([some (.leaf ((eF D.int) script)), some ((oL D.int) s), some (.leaf (D.int a5)), some (.leaf (D.int s13.2)), some (.leaf (D.int a12))] : Q.Env)) (s13.1 ++ [(s13.2 % (24 : Int))]) from (fun (h15 : (s13.1.length < 16000000)) => ⟨(), (app_eqL (e := D.int) (l0 := s13.1) (l := s13.1) (v := (s13.2 % (24 : Int))) rfl (y_mod (y_v (D.int s13.2) rfl) (y_c (D.int 24)) (by decide)) rfl h15)⟩)) (fun s16 d17 => (c_seqN0 (s := (s13.2 / (24 : Int))) (show NY _ _ True (fun (s : Int) (d : Unit) => ([some (.leaf ((eF D.int) script)), some ((oL D.int) s16), some (.leaf (D.int a5)), some (.leaf (D.int s)), some (.leaf (D.int a12))] : Q.Env)) (s13.2 / (24 : Int)) from (fun (h18 : True) => ⟨(), (set_eq (y_fdiv (y_v (D.int s13.2) rfl) (y_c (D.int 24)) (okDiv_small (by decide))) rfl)⟩)) (fun s19 d20 => (c_ifkL (x := (decide (s19 = (0 : Int)))) (fun (h21 : True) => (y_test (y_eq (e := D.int) qe_int (x := s19) (y := (0 : Int)) trivial trivial (y_v (D.int s19) rfl) (y_c (D.int 0))))) (c_break (k := (s16, s19)) (d := (some (.leaf (D.int a12)) : Option T)) rfl) (c_ofN (n_next (R := (fun (s : ((List Int) × Int)) (d : Option T) => ([some (.leaf ((eF D.int) script)), some ((oL D.int) s.1), some (.leaf (D.int a5)), some (.leaf (D.int s.2)), d] : Q.Env))) (s := (s16, s19)) (d := (some (.leaf (D.int a12)) : Option T)) rfl)) ))))))) (fun s22 d23 => ⟨((some (.leaf (D.int a5)) : Option T), (some (.leaf (D.int s22.2)) : Option T), (d23 : Option T)), rfl⟩)))))) (fun s24 d25 => (t_ret (v := (((0 : Int), s24) : (Int × (List Int)))) (g := True) (fun (h26 : True) => (y_lst (ya_cons (y_c (D.int 0)) (ya_cons (y_shareL (e := D.int) (l := s24) rfl rfl) ya_nil)) rfl)) rfl))))) hg
def p__law_pick (purse : (Int × (List Int))) (many : Int) : (Int × (Int × (List Int))) :=
  (letY purse.1 fun (s2 : Int) => (letY ((s2 + (1 : Int)), purse.2) fun (s5 : (Int × (List Int))) => (bif (decide ((s5.2.length : Int) ≤ s2)) then ((0 : Int), s5) else (((ixY s5.2 s2) % many), s5))))
def g__law_pick (purse : (Int × (List Int))) (many : Int) : Prop :=
  (letY purse.1 fun (s2 : Int) => (letY ((s2 + (1 : Int)), purse.2) fun (s5 : (Int × (List Int))) => (True ∧ ((decide ((s5.2.length : Int) ≤ s2)) = true → True) ∧ ((decide ((s5.2.length : Int) ≤ s2)) = false → ((okIx s5.2.length s2) ∧ (0 < many))))))
theorem s__law_pick (purse : (Int × (List Int))) (many : Int) (hg : g__law_pick purse many) : f__law_pick [((oN (pC D.int (pZ (eL D.int)))) purse), (.leaf (D.int many))] = .ok (.leaf (D.int (p__law_pick purse many).1)) [(oN (pC D.int (pZ (eL D.int)))) (p__law_pick purse many).2] :=
  Y.fn_of (lent := [0]) (n := 3) (ρ := ([some ((oN (pC D.int (pZ (eL D.int)))) purse), some (.leaf (D.int many)), none] : Q.Env)) (g := g__law_pick purse many) (et := (fun b : (Int × (Int × (List Int))) => .leaf (D.int b.1))) (el := (fun b : (Int × (Int × (List Int))) => [(oN (pC D.int (pZ (eL D.int)))) b.2])) (v := p__law_pick purse many) rfl
  (t_seqN0 (s := purse.1) (show NY _ _ True (fun (s : Int) (d : Unit) => ([some ((oN (pC D.int (pZ (eL D.int)))) purse), some (.leaf (D.int many)), some (.leaf (D.int s))] : Q.Env)) purse.1 from (fun (h1 : True) => ⟨(), (set_eq (y_ixPkP rfl (y_c (D.int 0)) rfl rfl) rfl)⟩)) (fun s2 d3 => (t_seqN0 (s := ((s2 + (1 : Int)), purse.2)) (show NY _ _ True (fun (s : (Int × (List Int))) (d : Unit) => ([some ((oN (pC D.int (pZ (eL D.int)))) s), some (.leaf (D.int many)), some (.leaf (D.int s2))] : Q.Env)) ((s2 + (1 : Int)), purse.2) from (fun (h4 : True) => ⟨(), (setixM_eq (y_add (y_v (D.int s2) rfl) (y_c (D.int 1))) rfl (y_c (D.int 0)) rfl rfl rfl)⟩)) (fun s5 d6 => (t_ifr (x := (decide ((s5.2.length : Int) ≤ s2))) (fun (h7 : True) => (y_test (y_ge (y_v (D.int s2) rfl) (y_lenL (e := D.int) (y_ixPkP rfl (y_c (D.int 1)) rfl rfl))))) (t_ret (v := (((0 : Int), s5) : (Int × (Int × (List Int))))) (g := True) (fun (h8 : True) => (y_c (D.int 0))) rfl) (t_ret (v := ((((ixY s5.2 s2) % many), s5) : (Int × (Int × (List Int))))) (g := ((okIx s5.2.length s2) ∧ (0 < many))) (fun (h9 : (okIx s5.2.length s2) ∧ (0 < many)) => (y_mod (y_ixL (e := D.int) (y_ixPkP rfl (y_c (D.int 1)) rfl rfl) (y_v (D.int s2) rfl) h9.1) (y_v (D.int many) rfl) h9.2)) rfl) ))))) hg
def p__law_number (purse : (Int × (List Int))) (most : Int) : (Int × (Int × (List Int))) :=
  (letY ((p__law_pick purse (6 : Int)).2, (p__law_pick purse (6 : Int)).1) fun (s2 : ((Int × (List Int)) × Int)) => (letY ((p__law_pick (p__law_pick s2.1 (24 : Int)).2 (17 : Int)).2, (p__law_pick s2.1 (24 : Int)).1, (p__law_pick (p__law_pick s2.1 (24 : Int)).2 (17 : Int)).1) fun (s5 : ((Int × (List Int)) × Int × Int)) => ((min (ixY ([(5 : Int), (0 : Int), (1 : Int), s5.2.1, (((24 : Int) * (s5.2.2 % (5 : Int))) + s5.2.1), (((24 : Int) * s5.2.2) + s5.2.1)] : List Int) s2.2) most), s5.1)))
def g__law_number (purse : (Int × (List Int))) (most : Int) : Prop :=
  ((g__law_pick purse (6 : Int)) ∧ (letY ((p__law_pick purse (6 : Int)).2, (p__law_pick purse (6 : Int)).1) fun (s2 : ((Int × (List Int)) × Int)) => (((g__law_pick s2.1 (24 : Int)) ∧ (g__law_pick (p__law_pick s2.1 (24 : Int)).2 (17 : Int))) ∧ (letY ((p__law_pick (p__law_pick s2.1 (24 : Int)).2 (17 : Int)).2, (p__law_pick s2.1 (24 : Int)).1, (p__law_pick (p__law_pick s2.1 (24 : Int)).2 (17 : Int)).1) fun (s5 : ((Int × (List Int)) × Int × Int)) => ((okMul (24 : Int) (s5.2.2 % (5 : Int)) = true) ∧ (okMul (24 : Int) s5.2.2 = true) ∧ (okIx ([(5 : Int), (0 : Int), (1 : Int), s5.2.1, (((24 : Int) * (s5.2.2 % (5 : Int))) + s5.2.1), (((24 : Int) * s5.2.2) + s5.2.1)] : List Int).length s2.2))))))
theorem s__law_number (purse : (Int × (List Int))) (most : Int) (hg : g__law_number purse most) : f__law_number [((oN (pC D.int (pZ (eL D.int)))) purse), (.leaf (D.int most))] = .ok (.leaf (D.int (p__law_number purse most).1)) [(oN (pC D.int (pZ (eL D.int)))) (p__law_number purse most).2] :=
  Y.fn_of (lent := [0]) (n := 5) (ρ := ([some ((oN (pC D.int (pZ (eL D.int)))) purse), some (.leaf (D.int most)), none, none, none] : Q.Env)) (g := g__law_number purse most) (et := (fun b : (Int × (Int × (List Int))) => .leaf (D.int b.1))) (el := (fun b : (Int × (Int × (List Int))) => [(oN (pC D.int (pZ (eL D.int)))) b.2])) (v := p__law_number purse most) rfl
  (t_seqN (s := ((p__law_pick purse (6 : Int)).2, (p__law_pick purse (6 : Int)).1)) (show NY _ _ (g__law_pick purse (6 : Int)) (fun (s : ((Int × (List Int)) × Int)) (d : Unit) => ([some ((oN (pC D.int (pZ (eL D.int)))) s.1), some (.leaf (D.int most)), some (.leaf (D.int s.2)), none, none] : Q.Env)) ((p__law_pick purse (6 : Int)).2, (p__law_pick purse (6 : Int)).1) from (fun (h1 : (g__law_pick purse (6 : Int))) => ⟨(), (set_eq (y_call (yc_lend (y_move (t := (oN (pC D.int (pZ (eL D.int)))) purse) rfl rfl) (yc_val (y_c (D.int 6)) yc_nil)) rfl (s__law_pick purse (6 : Int) h1) rfl rfl) rfl)⟩)) (fun s2 d3 => (t_seqN (s := ((p__law_pick (p__law_pick s2.1 (24 : Int)).2 (17 : Int)).2, (p__law_pick s2.1 (24 : Int)).1, (p__law_pick (p__law_pick s2.1 (24 : Int)).2 (17 : Int)).1)) (show NY _ _ ((g__law_pick s2.1 (24 : Int)) ∧ (g__law_pick (p__law_pick s2.1 (24 : Int)).2 (17 : Int))) (fun (s : ((Int × (List Int)) × Int × Int)) (d : Unit) => ([some ((oN (pC D.int (pZ (eL D.int)))) s.1), some (.leaf (D.int most)), some (.leaf (D.int s2.2)), some (.leaf (D.int s.2.1)), some (.leaf (D.int s.2.2))] : Q.Env)) ((p__law_pick (p__law_pick s2.1 (24 : Int)).2 (17 : Int)).2, (p__law_pick s2.1 (24 : Int)).1, (p__law_pick (p__law_pick s2.1 (24 : Int)).2 (17 : Int)).1) from (fun (h4 : (g__law_pick s2.1 (24 : Int)) ∧ (g__law_pick (p__law_pick s2.1 (24 : Int)).2 (17 : Int))) => ⟨(), (par_eq (ya_cons (y_call (yc_lend (y_move (t := (oN (pC D.int (pZ (eL D.int)))) s2.1) rfl rfl) (yc_val (y_c (D.int 24)) yc_nil)) rfl (s__law_pick s2.1 (24 : Int) h4.1) rfl rfl) (ya_cons (y_call (yc_lend (y_move (t := (oN (pC D.int (pZ (eL D.int)))) (p__law_pick s2.1 (24 : Int)).2) rfl rfl) (yc_val (y_c (D.int 17)) yc_nil)) rfl (s__law_pick (p__law_pick s2.1 (24 : Int)).2 (17 : Int) h4.2) rfl rfl) ya_nil)) rfl rfl)⟩)) (fun s5 d6 => (t_ret (v := (((min (ixY ([(5 : Int), (0 : Int), (1 : Int), s5.2.1, (((24 : Int) * (s5.2.2 % (5 : Int))) + s5.2.1), (((24 : Int) * s5.2.2) + s5.2.1)] : List Int) s2.2) most), s5.1) : (Int × (Int × (List Int))))) (g := ((okMul (24 : Int) (s5.2.2 % (5 : Int)) = true) ∧ (okMul (24 : Int) s5.2.2 = true) ∧ (okIx ([(5 : Int), (0 : Int), (1 : Int), s5.2.1, (((24 : Int) * (s5.2.2 % (5 : Int))) + s5.2.1), (((24 : Int) * s5.2.2) + s5.2.1)] : List Int).length s2.2))) (fun (h7 : (okMul (24 : Int) (s5.2.2 % (5 : Int)) = true) ∧ (okMul (24 : Int) s5.2.2 = true) ∧ (okIx ([(5 : Int), (0 : Int), (1 : Int), s5.2.1, (((24 : Int) * (s5.2.2 % (5 : Int))) + s5.2.1), (((24 : Int) * s5.2.2) + s5.2.1)] : List Int).length s2.2)) => (y_min (y_ixU (e := D.int) (y_tup (ds := List.map D.int ([(5 : Int), (0 : Int), (1 : Int), s5.2.1, (((24 : Int) * (s5.2.2 % (5 : Int))) + s5.2.1), (((24 : Int) * s5.2.2) + s5.2.1)] : List Int)) (ya_cons (y_c (D.int 5)) (ya_cons (y_c (D.int 0)) (ya_cons (y_c (D.int 1)) (ya_cons (y_v (D.int s5.2.1) rfl) (ya_cons (y_add (y_mul (y_c (D.int 24)) (y_mod (y_v (D.int s5.2.2) rfl) (y_c (D.int 5)) (by decide)) h7.1) (y_v (D.int s5.2.1) rfl)) (ya_cons (y_add (y_mul (y_c (D.int 24)) (y_v (D.int s5.2.2) rfl) h7.2.1) (y_v (D.int s5.2.1) rfl)) ya_nil)))))) rfl rfl) (y_v (D.int s2.2) rfl) h7.2.2) (y_v (D.int most) rfl))) rfl))))) hg
def b__law_numbers_1 (a5 : Int) (s6 : ((Int × (List Int)) × (List Int))) : ((Int × (List Int)) × (List Int)) :=
  (letY ((p__law_pick (p__law_pick s6.1 (5 : Int)).2 (24 : Int)).2, (p__law_pick s6.1 (5 : Int)).1, (p__law_pick (p__law_pick s6.1 (5 : Int)).2 (24 : Int)).1) fun (s9 : ((Int × (List Int)) × Int × Int)) => (letY (s6.2 ++ [(ixY ([(a5 + (2 : Int)), (0 : Int), (1 : Int), s9.2.2, ((2000 : Int) - s9.2.2)] : List Int) s9.2.1)]) fun (s12 : (List Int)) => (s9.1, s12)))
def gb__law_numbers_1 (a5 : Int) (s6 : ((Int × (List Int)) × (List Int))) : Prop :=
  (((g__law_pick s6.1 (5 : Int)) ∧ (g__law_pick (p__law_pick s6.1 (5 : Int)).2 (24 : Int))) ∧ (letY ((p__law_pick (p__law_pick s6.1 (5 : Int)).2 (24 : Int)).2, (p__law_pick s6.1 (5 : Int)).1, (p__law_pick (p__law_pick s6.1 (5 : Int)).2 (24 : Int)).1) fun (s9 : ((Int × (List Int)) × Int × Int)) => ((okIx ([(a5 + (2 : Int)), (0 : Int), (1 : Int), s9.2.2, ((2000 : Int) - s9.2.2)] : List Int).length s9.2.1) ∧ (s6.2.length < 16000000))))
def p__law_numbers (purse : (Int × (List Int))) : ((List Int) × (Int × (List Int))) :=
  (letY ([] : List Int) fun (s2 : (List Int)) => (letY (foldY b__law_numbers_1 (rangeY 0 (ixY ([(3 : Int), (1 : Int), (0 : Int), (2 : Int), (8 : Int), (12 : Int)] : List Int) (p__law_pick purse (6 : Int)).1)) ((p__law_pick purse (6 : Int)).2, s2)) fun (s14 : ((Int × (List Int)) × (List Int))) => (s14.2, s14.1)))
def g__law_numbers (purse : (Int × (List Int))) : Prop :=
  (letY ([] : List Int) fun (s2 : (List Int)) => (((g__law_pick purse (6 : Int)) ∧ (okIx ([(3 : Int), (1 : Int), (0 : Int), (2 : Int), (8 : Int), (12 : Int)] : List Int).length (p__law_pick purse (6 : Int)).1) ∧ (okR (ixY ([(3 : Int), (1 : Int), (0 : Int), (2 : Int), (8 : Int), (12 : Int)] : List Int) (p__law_pick purse (6 : Int)).1))) ∧ foldG gb__law_numbers_1 b__law_numbers_1 (rangeY 0 (ixY ([(3 : Int), (1 : Int), (0 : Int), (2 : Int), (8 : Int), (12 : Int)] : List Int) (p__law_pick purse (6 : Int)).1)) ((p__law_pick purse (6 : Int)).2, s2)))
theorem s__law_numbers (purse : (Int × (List Int))) (hg : g__law_numbers purse) : f__law_numbers [((oN (pC D.int (pZ (eL D.int)))) purse)] = .ok ((oL D.int) (p__law_numbers purse).1) [(oN (pC D.int (pZ (eL D.int)))) (p__law_numbers purse).2] :=
  Y.fn_of (lent := [0]) (n := 5) (ρ := ([some ((oN (pC D.int (pZ (eL D.int)))) purse), none, none, none, none] : Q.Env)) (g := g__law_numbers purse) (et := (fun b : ((List Int) × (Int × (List Int))) => (oL D.int) b.1)) (el := (fun b : ((List Int) × (Int × (List Int))) => [(oN (pC D.int (pZ (eL D.int)))) b.2])) (v := p__law_numbers purse) rfl
  (t_seqN0 (s := ([] : List Int)) (show NY _ _ True (fun (s : (List Int)) (d : Unit) => ([some ((oN (pC D.int (pZ (eL D.int)))) purse), some ((oL D.int) s), none, none, none] : Q.Env)) ([] : List Int) from (fun (h1 : True) => ⟨(), (setO_eq (y_lst ya_nil rfl) rfl)⟩)) (fun s2 d3 => (t_seqNP (s := (foldY b__law_numbers_1 (rangeY 0 (ixY ([(3 : Int), (1 : Int), (0 : Int), (2 : Int), (8 : Int), (12 : Int)] : List Int) (p__law_pick purse (6 : Int)).1)) ((p__law_pick purse (6 : Int)).2, s2))) (n_for (e := D.int) (l := (rangeY 0 (ixY ([(3 : Int), (1 : Int), (0 : Int), (2 : Int), (8 : Int), (12 : Int)] : List Int) (p__law_pick purse (6 : Int)).1))) (s := ((p__law_pick purse (6 : Int)).2, s2)) (d0 := ((none : Option T), (none : Option T), (none : Option T))) (R := (fun (s : ((Int × (List Int)) × (List Int))) (d : Option T × Option T × Option T) => ([some ((oN (pC D.int (pZ (eL D.int)))) s.1), some ((oL D.int) s.2), d.1, d.2.1, d.2.2] : Q.Env))) (Rt := (fun (a5 : Int) (s6 : ((Int × (List Int)) × (List Int))) (d7 : Option T × Option T × Option T) => ([some ((oN (pC D.int (pZ (eL D.int)))) s6.1), some ((oL D.int) s6.2), some (.leaf (D.int a5)), d7.2.1, d7.2.2] : Q.Env))) (gb := gb__law_numbers_1) (f := b__law_numbers_1) (fun (h4 : (g__law_pick purse (6 : Int)) ∧ (okIx ([(3 : Int), (1 : Int), (0 : Int), (2 : Int), (8 : Int), (12 : Int)] : List Int).length (p__law_pick purse (6 : Int)).1) ∧ (okR (ixY ([(3 : Int), (1 : Int), (0 : Int), (2 : Int), (8 : Int), (12 : Int)] : List Int) (p__law_pick purse (6 : Int)).1))) => (yi_range1 (y_ixU (e := D.int) (y_tup (ds := List.map D.int ([(3 : Int), (1 : Int), (0 : Int), (2 : Int), (8 : Int), (12 : Int)] : List Int)) (ya_cons (y_c (D.int 3)) (ya_cons (y_c (D.int 1)) (ya_cons (y_c (D.int 0)) (ya_cons (y_c (D.int 2)) (ya_cons (y_c (D.int 8)) (ya_cons (y_c (D.int 12)) ya_nil)))))) rfl rfl) (y_call (yc_lend (y_move (t := (oN (pC D.int (pZ (eL D.int)))) purse) rfl rfl) (yc_val (y_c (D.int 6)) yc_nil)) rfl (s__law_pick purse (6 : Int) h4.1) rfl rfl) h4.2.1) h4.2.2)) rfl (fun _ _ _ => rfl) (fun a5 s6 d7 => (n_seq (s := ((p__law_pick (p__law_pick s6.1 (5 : Int)).2 (24 : Int)).2, (p__law_pick s6.1 (5 : Int)).1, (p__law_pick (p__law_pick s6.1 (5 : Int)).2 (24 : Int)).1)) (show NY _ _ ((g__law_pick s6.1 (5 : Int)) ∧ (g__law_pick (p__law_pick s6.1 (5 : Int)).2 (24 : Int))) (fun (s : ((Int × (List Int)) × Int × Int)) (d : Unit) => ([some ((oN (pC D.int (pZ (eL D.int)))) s.1), some ((oL D.int) s6.2), some (.leaf (D.int a5)), some (.leaf (D.int s.2.1)), some (.leaf (D.int s.2.2))] : Q.Env)) ((p__law_pick (p__law_pick s6.1 (5 : Int)).2 (24 : Int)).2, (p__law_pick s6.1 (5 : Int)).1, (p__law_pick (p__law_pick s6.1 (5 : Int)).2 (24 : Int)).1) from (fun (h8 : (g__law_pick s6.1 (5 : Int)) ∧ (g__law_pick (p__law_pick s6.1 (5 : Int)).2 (24 : Int))) => ⟨(), (par_eq (ya_cons (y_call (yc_lend (y_move (t := (oN (pC D.int (pZ (eL D.int)))) s6.1) rfl rfl) (yc_val (y_c (D.int 5)) yc_nil)) rfl (s__law_pick s6.1 (5 : Int) h8.1) rfl rfl) (ya_cons (y_call (yc_lend (y_move (t := (oN (pC D.int (pZ (eL D.int)))) (p__law_pick s6.1 (5 : Int)).2) rfl rfl) (yc_val (y_c (D.int 24)) yc_nil)) rfl (s__law_pick (p__law_pick s6.1 (5 : Int)).2 (24 : Int) h8.2) rfl rfl) ya_nil)) rfl rfl)⟩)) (fun s9 d10 => (n_last (R := (fun (s : ((Int × (List Int)) × (List Int))) (d : Option T × Option T × Option T) => ([some ((oN (pC D.int (pZ (eL D.int)))) s.1), some ((oL D.int) s.2), d.1, d.2.1, d.2.2] : Q.Env))) (p := fun (s12 : (List Int)) => (s9.1, s12)) (show NY _ _ ((okIx ([(a5 + (2 : Int)), (0 : Int), (1 : Int), s9.2.2, ((2000 : Int) - s9.2.2)] : List Int).length s9.2.1) ∧ (s6.2.length < 16000000)) (fun (s : (List Int)) (d : Unit) => ([some ((oN (pC D.int (pZ (eL D.int)))) s9.1), some ((oL D.int) s), some (.leaf (D.int a5)), some (.leaf (D.int s9.2.1)), some (.leaf (D.int s9.2.2))] : Q.Env)) (s6.2 ++ [(ixY ([(a5 + (2 : Int)), (0 : Int), (1 : Int), s9.2.2, ((2000 : Int) - s9.2.2)] : List Int) s9.2.1)]) from (fun (h11 : (okIx ([(a5 + (2 : Int)), (0 : Int), (1 : Int), s9.2.2, ((2000 : Int) - s9.2.2)] : List Int).length s9.2.1) ∧ (s6.2.length < 16000000)) => ⟨(), (app_eqL (e := D.int) (l0 := s6.2) (l := s6.2) (v := (ixY ([(a5 + (2 : Int)), (0 : Int), (1 : Int), s9.2.2, ((2000 : Int) - s9.2.2)] : List Int) s9.2.1)) rfl (y_ixU (e := D.int) (y_tup (ds := List.map D.int ([(a5 + (2 : Int)), (0 : Int), (1 : Int), s9.2.2, ((2000 : Int) - s9.2.2)] : List Int)) (ya_cons (y_add (y_v (D.int a5) rfl) (y_c (D.int 2))) (ya_cons (y_c (D.int 0)) (ya_cons (y_c (D.int 1)) (ya_cons (y_v (D.int s9.2.2) rfl) (ya_cons (y_sub (y_c (D.int 2000)) (y_v (D.int s9.2.2) rfl)) ya_nil))))) rfl rfl) (y_v (D.int s9.2.1) rfl) h11.1) rfl h11.2)⟩)) (fun s12 d13 => ⟨((some (.leaf (D.int a5)) : Option T), (some (.leaf (D.int s9.2.1)) : Option T), (some (.leaf (D.int s9.2.2)) : Option T)), rfl⟩)))))) (fun s14 d15 => (t_ret (v := ((s14.2, s14.1) : ((List Int) × (Int × (List Int))))) (g := True) (fun (h16 : True) => (y_move (t := (oL D.int) s14.2) rfl rfl)) rfl))))) hg
def b__law_power_1 (q : Int) (a5 : Int) (s6 : Int) : Int :=
  (s6 * q)
def gb__law_power_1 (q : Int) (a5 : Int) (s6 : Int) : Prop :=
  (okMul s6 q = true)
def p__law_power (q : Int) (m : Int) : Int :=
  (letY (1 : Int) fun (s2 : Int) => (letY (foldY (b__law_power_1 q) (rangeY 0 m) s2) fun (s11 : Int) => s11))
def g__law_power (q : Int) (m : Int) : Prop :=
  (letY (1 : Int) fun (s2 : Int) => ((okR m) ∧ foldG (gb__law_power_1 q) (b__law_power_1 q) (rangeY 0 m) s2))
theorem s__law_power (q : Int) (m : Int) (hg : g__law_power q m) : f__law_power [(.leaf (D.int q)), (.leaf (D.int m))] = .ok (.leaf (D.int (p__law_power q m))) [] :=
  Y.fn_of (lent := []) (n := 4) (ρ := ([some (.leaf (D.int q)), some (.leaf (D.int m)), none, none] : Q.Env)) (g := g__law_power q m) (et := (fun b : Int => .leaf (D.int b))) (el := (fun b : Int => [])) (v := p__law_power q m) rfl
  (t_seqN0 (s := (1 : Int)) (show NY _ _ True (fun (s : Int) (d : Unit) => ([some (.leaf (D.int q)), some (.leaf (D.int m)), some (.leaf (D.int s)), none] : Q.Env)) (1 : Int) from (fun (h1 : True) => ⟨(), (set_eq (y_c (D.int 1)) rfl)⟩)) (fun s2 d3 => (t_seqNP (s := (foldY (b__law_power_1 q) (rangeY 0 m) s2)) (n_for (e := D.int) (l := (rangeY 0 m)) (s := s2) (d0 := (none : Option T)) (R := (fun (s : Int) (d : Option T) => ([some (.leaf (D.int q)), some (.leaf (D.int m)), some (.leaf (D.int s)), d] : Q.Env))) (Rt := (fun (a5 : Int) (s6 : Int) (d7 : Option T) => ([some (.leaf (D.int q)), some (.leaf (D.int m)), some (.leaf (D.int s6)), some (.leaf (D.int a5))] : Q.Env))) (gb := (gb__law_power_1 q)) (f := (b__law_power_1 q)) (fun (h4 : (okR m)) => (yi_range1 (y_v (D.int m) rfl) h4)) rfl (fun _ _ _ => rfl) (fun a5 s6 d7 => (n_lastI (R := (fun (s : Int) (d : Option T) => ([some (.leaf (D.int q)), some (.leaf (D.int m)), some (.leaf (D.int s)), d] : Q.Env))) (show NY _ _ (okMul s6 q = true) (fun (s : Int) (d : Unit) => ([some (.leaf (D.int q)), some (.leaf (D.int m)), some (.leaf (D.int s)), some (.leaf (D.int a5))] : Q.Env)) (s6 * q) from (fun (h8 : (okMul s6 q = true)) => ⟨(), (set_eq (y_mul (y_v (D.int s6) rfl) (y_v (D.int q) rfl) h8) rfl)⟩)) (fun s9 d10 => ⟨(some (.leaf (D.int a5)) : Option T), rfl⟩)))) (fun s11 d12 => (t_ret (v := (s11 : Int)) (g := True) (fun (h13 : True) => (y_v (D.int s11) rfl)) rfl))))) hg
def b__law_choose_1 (n : Int) (a7 : Int) (s8 : (Int × Int)) : (Int × Int) :=
  (letY (s8.1 * (n - a7)) fun (s11 : Int) => (letY (s8.2 * (a7 + (1 : Int))) fun (s14 : Int) => (s11, s14)))
def gb__law_choose_1 (n : Int) (a7 : Int) (s8 : (Int × Int)) : Prop :=
  ((okMul s8.1 (n - a7) = true) ∧ (letY (s8.1 * (n - a7)) fun (s11 : Int) => (okMul s8.2 (a7 + (1 : Int)) = true)))
def p__law_choose (n : Int) (k : Int) : Int :=
  (bif (decide (n < k)) then (0 : Int) else (letY ((1 : Int), (1 : Int)) fun (s4 : (Int × Int)) => (letY (foldY (b__law_choose_1 n) (rangeY 0 (min k (n - k))) (s4.1, s4.2)) fun (s16 : (Int × Int)) => (s16.1 / s16.2))))
def g__law_choose (n : Int) (k : Int) : Prop :=
  (True ∧ ((decide (n < k)) = true → True) ∧ ((decide (n < k)) = false → (letY ((1 : Int), (1 : Int)) fun (s4 : (Int × Int)) => (((okR (min k (n - k))) ∧ foldG (gb__law_choose_1 n) (b__law_choose_1 n) (rangeY 0 (min k (n - k))) (s4.1, s4.2)) ∧ (letY (foldY (b__law_choose_1 n) (rangeY 0 (min k (n - k))) (s4.1, s4.2)) fun (s16 : (Int × Int)) => (okDiv s16.2))))))
theorem s__law_choose (n : Int) (k : Int) (hg : g__law_choose n k) : f__law_choose [(.leaf (D.int n)), (.leaf (D.int k))] = .ok (.leaf (D.int (p__law_choose n k))) [] :=
  Y.fn_of (lent := []) (n := 5) (ρ := ([some (.leaf (D.int n)), some (.leaf (D.int k)), none, none, none] : Q.Env)) (g := g__law_choose n k) (et := (fun b : Int => .leaf (D.int b))) (el := (fun b : Int => [])) (v := p__law_choose n k) rfl
  (t_ifr (x := (decide (n < k))) (fun (h1 : True) => (y_test (y_gt (y_v (D.int k) rfl) (y_v (D.int n) rfl)))) (t_ret (v := ((0 : Int) : Int)) (g := True) (fun (h2 : True) => (y_c (D.int 0))) rfl) (t_seqN0 (s := ((1 : Int), (1 : Int))) (show NY _ _ True (fun (s : (Int × Int)) (d : Unit) => ([some (.leaf (D.int n)), some (.leaf (D.int k)), some (.leaf (D.int s.1)), some (.leaf (D.int s.2)), none] : Q.Env)) ((1 : Int), (1 : Int)) from (fun (h3 : True) => ⟨(), (asg_eq (y_tup (ds := ((pC D.int (pZ D.int))) ((1 : Int), (1 : Int))) (ya_cons (y_c (D.int 1)) (ya_cons (y_c (D.int 1)) ya_nil)) rfl rfl) rfl)⟩)) (fun s4 d5 => (t_seqN (s := (foldY (b__law_choose_1 n) (rangeY 0 (min k (n - k))) (s4.1, s4.2))) (n_for (e := D.int) (l := (rangeY 0 (min k (n - k)))) (s := (s4.1, s4.2)) (d0 := (none : Option T)) (R := (fun (s : (Int × Int)) (d : Option T) => ([some (.leaf (D.int n)), some (.leaf (D.int k)), some (.leaf (D.int s.1)), some (.leaf (D.int s.2)), d] : Q.Env))) (Rt := (fun (a7 : Int) (s8 : (Int × Int)) (d9 : Option T) => ([some (.leaf (D.int n)), some (.leaf (D.int k)), some (.leaf (D.int s8.1)), some (.leaf (D.int s8.2)), some (.leaf (D.int a7))] : Q.Env))) (gb := (gb__law_choose_1 n)) (f := (b__law_choose_1 n)) (fun (h6 : (okR (min k (n - k)))) => (yi_range1 (y_min (y_v (D.int k) rfl) (y_sub (y_v (D.int n) rfl) (y_v (D.int k) rfl))) h6)) rfl (fun _ _ _ => rfl) (fun a7 s8 d9 => (n_seq (s := (s8.1 * (n - a7))) (show NY _ _ (okMul s8.1 (n - a7) = true) (fun (s : Int) (d : Unit) => ([some (.leaf (D.int n)), some (.leaf (D.int k)), some (.leaf (D.int s)), some (.leaf (D.int s8.2)), some (.leaf (D.int a7))] : Q.Env)) (s8.1 * (n - a7)) from (fun (h10 : (okMul s8.1 (n - a7) = true)) => ⟨(), (set_eq (y_mul (y_v (D.int s8.1) rfl) (y_sub (y_v (D.int n) rfl) (y_v (D.int a7) rfl)) h10) rfl)⟩)) (fun s11 d12 => (n_last (R := (fun (s : (Int × Int)) (d : Option T) => ([some (.leaf (D.int n)), some (.leaf (D.int k)), some (.leaf (D.int s.1)), some (.leaf (D.int s.2)), d] : Q.Env))) (p := fun (s14 : Int) => (s11, s14)) (show NY _ _ (okMul s8.2 (a7 + (1 : Int)) = true) (fun (s : Int) (d : Unit) => ([some (.leaf (D.int n)), some (.leaf (D.int k)), some (.leaf (D.int s11)), some (.leaf (D.int s)), some (.leaf (D.int a7))] : Q.Env)) (s8.2 * (a7 + (1 : Int))) from (fun (h13 : (okMul s8.2 (a7 + (1 : Int)) = true)) => ⟨(), (set_eq (y_mul (y_v (D.int s8.2) rfl) (y_add (y_v (D.int a7) rfl) (y_c (D.int 1))) h13) rfl)⟩)) (fun s14 d15 => ⟨(some (.leaf (D.int a7)) : Option T), rfl⟩)))))) (fun s16 d17 => (t_ret (v := ((s16.1 / s16.2) : Int)) (g := (okDiv s16.2)) (fun (h18 : (okDiv s16.2)) => (y_fdiv (y_v (D.int s16.1) rfl) (y_v (D.int s16.2) rfl) h18)) rfl))))) ) hg
def b__law_pascal_1 (a5 : Int) (s6 : (List Int)) : (List Int) :=
  ((([(1 : Int)] : List Int) ++ ((rangeY 0 ((s6.length : Int) - (1 : Int))).map fun (x9 : Int) => ((ixY s6 x9) + (ixY s6 (x9 + (1 : Int)))))) ++ ([(1 : Int)] : List Int))
def gb__law_pascal_1 (a5 : Int) (s6 : (List Int)) : Prop :=
  ((okR ((s6.length : Int) - (1 : Int))) ∧ (∀ x9 ∈ (rangeY 0 ((s6.length : Int) - (1 : Int))), okIx s6.length x9) ∧ (∀ x9 ∈ (rangeY 0 ((s6.length : Int) - (1 : Int))), okIx s6.length (x9 + (1 : Int))) ∧ ((rangeY 0 ((s6.length : Int) - (1 : Int))).length ≤ big) ∧ (([(1 : Int)] : List Int).length + ((rangeY 0 ((s6.length : Int) - (1 : Int))).map fun (x9 : Int) => ((ixY s6 x9) + (ixY s6 (x9 + (1 : Int))))).length ≤ big) ∧ ((([(1 : Int)] : List Int) ++ ((rangeY 0 ((s6.length : Int) - (1 : Int))).map fun (x9 : Int) => ((ixY s6 x9) + (ixY s6 (x9 + (1 : Int)))))).length + ([(1 : Int)] : List Int).length ≤ big))
def p__law_pascal (n : Int) : (List Int) :=
  (letY ([(1 : Int)] : List Int) fun (s2 : (List Int)) => (letY (foldY b__law_pascal_1 (rangeY 0 n) s2) fun (s13 : (List Int)) => s13))
def g__law_pascal (n : Int) : Prop :=
  (letY ([(1 : Int)] : List Int) fun (s2 : (List Int)) => ((okR n) ∧ foldG gb__law_pascal_1 b__law_pascal_1 (rangeY 0 n) s2))
theorem s__law_pascal (n : Int) (hg : g__law_pascal n) : f__law_pascal [(.leaf (D.int n))] = .ok (.leaf ((eL D.int) (p__law_pascal n))) [] :=
  Y.fn_of (lent := []) (n := 4) (ρ := ([some (.leaf (D.int n)), none, none, none] : Q.Env)) (g := g__law_pascal n) (et := (fun b : (List Int) => .leaf ((eL D.int) b))) (el := (fun b : (List Int) => [])) (v := p__law_pascal n) rfl
  (t_seqN0 (s := ([(1 : Int)] : List Int)) (show NY _ _ True (fun (s : (List Int)) (d : Unit) => ([some (.leaf (D.int n)), some (.leaf ((eL D.int) s)), none, none] : Q.Env)) ([(1 : Int)] : List Int) from (fun (h1 : True) => ⟨(), (set_eqL (e := D.int) (l := ([(1 : Int)] : List Int)) (y_lst (ya_cons (y_c (D.int 1)) ya_nil) rfl) rfl)⟩)) (fun s2 d3 => (t_seqNP (s := (foldY b__law_pascal_1 (rangeY 0 n) s2)) (n_for (e := D.int) (l := (rangeY 0 n)) (s := s2) (d0 := (none : Option T)) (R := (fun (s : (List Int)) (d : Option T) => ([some (.leaf (D.int n)), some (.leaf ((eL D.int) s)), d, none] : Q.Env))) (Rt := (fun (a5 : Int) (s6 : (List Int)) (d7 : Option T) => ([some (.leaf (D.int n)), some (.leaf ((eL D.int) s6)), some (.leaf (D.int a5)), none] : Q.Env))) (gb := gb__law_pascal_1) (f := b__law_pascal_1) (fun (h4 : (okR n)) => (yi_range1 (y_v (D.int n) rfl) h4)) rfl (fun _ _ _ => rfl) (fun a5 s6 d7 => (n_lastI (R := (fun (s : (List Int)) (d : Option T) => ([some (.leaf (D.int n)), some (.leaf ((eL D.int) s)), d, none] : Q.Env))) (show NY _ _ ((okR ((s6.length : Int) - (1 : Int))) ∧ (∀ x9 ∈ (rangeY 0 ((s6.length : Int) - (1 : Int))), okIx s6.length x9) ∧ (∀ x9 ∈ (rangeY 0 ((s6.length : Int) - (1 : Int))), okIx s6.length (x9 + (1 : Int))) ∧ ((rangeY 0 ((s6.length : Int) - (1 : Int))).length ≤ big) ∧ (([(1 : Int)] : List Int).length + ((rangeY 0 ((s6.length : Int) - (1 : Int))).map fun (x9 : Int) => ((ixY s6 x9) + (ixY s6 (x9 + (1 : Int))))).length ≤ big) ∧ ((([(1 : Int)] : List Int) ++ ((rangeY 0 ((s6.length : Int) - (1 : Int))).map fun (x9 : Int) => ((ixY s6 x9) + (ixY s6 (x9 + (1 : Int)))))).length + ([(1 : Int)] : List Int).length ≤ big)) (fun (s : (List Int)) (d : Unit) => ([some (.leaf (D.int n)), some (.leaf ((eL D.int) s)), some (.leaf (D.int a5)), none] : Q.Env)) ((([(1 : Int)] : List Int) ++ ((rangeY 0 ((s6.length : Int) - (1 : Int))).map fun (x9 : Int) => ((ixY s6 x9) + (ixY s6 (x9 + (1 : Int)))))) ++ ([(1 : Int)] : List Int)) from (fun (h8 : (okR ((s6.length : Int) - (1 : Int))) ∧ (∀ x9 ∈ (rangeY 0 ((s6.length : Int) - (1 : Int))), okIx s6.length x9) ∧ (∀ x9 ∈ (rangeY 0 ((s6.length : Int) - (1 : Int))), okIx s6.length (x9 + (1 : Int))) ∧ ((rangeY 0 ((s6.length : Int) - (1 : Int))).length ≤ big) ∧ (([(1 : Int)] : List Int).length + ((rangeY 0 ((s6.length : Int) - (1 : Int))).map fun (x9 : Int) => ((ixY s6 x9) + (ixY s6 (x9 + (1 : Int))))).length ≤ big) ∧ ((([(1 : Int)] : List Int) ++ ((rangeY 0 ((s6.length : Int) - (1 : Int))).map fun (x9 : Int) => ((ixY s6 x9) + (ixY s6 (x9 + (1 : Int)))))).length + ([(1 : Int)] : List Int).length ≤ big)) => ⟨(), (set_eqL (e := D.int) (l := ((([(1 : Int)] : List Int) ++ ((rangeY 0 ((s6.length : Int) - (1 : Int))).map fun (x9 : Int) => ((ixY s6 x9) + (ixY s6 (x9 + (1 : Int)))))) ++ ([(1 : Int)] : List Int))) (y_addL (e := D.int) (y_addL (e := D.int) (y_lst (ya_cons (y_c (D.int 1)) ya_nil) rfl) (oL_toD D.int ([(1 : Int)] : List Int)) (y_compA (e := D.int) (e' := D.int) (l := (rangeY 0 ((s6.length : Int) - (1 : Int)))) (Rt := (fun (x9 : Int) => ([some (.leaf (D.int n)), some (.leaf ((eL D.int) s6)), some (.leaf (D.int a5)), some (.leaf (D.int x9))] : Q.Env))) (f := fun (x9 : Int) => ((ixY s6 x9) + (ixY s6 (x9 + (1 : Int))))) (ρ1 := ([some (.leaf (D.int n)), some (.leaf ((eL D.int) s6)), some (.leaf (D.int a5)), none] : Q.Env)) (yi_range1 (y_sub (y_lenL (e := D.int) (y_v ((eL D.int) s6) rfl)) (y_c (D.int 1))) h8.1) rfl (fun _ => rfl) (fun _ => rfl) h8.2.2.2.1 (fun x9 m10 => (y_add (y_ixL (e := D.int) (y_v ((eL D.int) s6) rfl) (y_v (D.int x9) rfl) (h8.2.1 x9 m10)) (y_ixL (e := D.int) (y_v ((eL D.int) s6) rfl) (y_add (y_v (D.int x9) rfl) (y_c (D.int 1))) (h8.2.2.1 x9 m10))))) (oL_toD D.int ((rangeY 0 ((s6.length : Int) - (1 : Int))).map fun (x9 : Int) => ((ixY s6 x9) + (ixY s6 (x9 + (1 : Int)))))) h8.2.2.2.2.1) (oL_toD D.int (([(1 : Int)] : List Int) ++ ((rangeY 0 ((s6.length : Int) - (1 : Int))).map fun (x9 : Int) => ((ixY s6 x9) + (ixY s6 (x9 + (1 : Int))))))) (y_lst (ya_cons (y_c (D.int 1)) ya_nil) rfl) (oL_toD D.int ([(1 : Int)] : List Int)) h8.2.2.2.2.2) rfl)⟩)) (fun s11 d12 => ⟨(some (.leaf (D.int a5)) : Option T), rfl⟩)))) (fun s13 d14 => (t_ret (v := (s13 : (List Int))) (g := True) (fun (h15 : True) => (y_v ((eL D.int) s13) rfl)) rfl))))) hg
def b__law_sums_1 (a5 : Int) (s6 : Int) : Int :=
  (s6 * ((1 : Int) + a5))
def gb__law_sums_1 (a5 : Int) (s6 : Int) : Prop :=
  (okMul s6 ((1 : Int) + a5) = true)
def b__law_sums_2 (s14 : Int) (a17 : Int) (s18 : Int) : Int :=
  (s18 * ((1 : Int) + (a17 * s14)))
def gb__law_sums_2 (s14 : Int) (a17 : Int) (s18 : Int) : Prop :=
  ((okMul a17 s14 = true) ∧ (okMul s18 ((1 : Int) + (a17 * s14)) = true))
def b__law_sums_3 (s14 : Int) (a29 : Int) (s30 : (Int × (List Int))) : (Int × (List Int)) :=
  (letY (s30.2 ++ [(s30.1 % s14)]) fun (s33 : (List Int)) => (letY (s30.1 / s14) fun (s36 : Int) => (s36, s33)))
def gb__law_sums_3 (s14 : Int) (a29 : Int) (s30 : (Int × (List Int))) : Prop :=
  (((0 < s14) ∧ (s30.2.length < 16000000)) ∧ (letY (s30.2 ++ [(s30.1 % s14)]) fun (s33 : (List Int)) => (okDiv s14)))
def p__law_sums (numbers : (List Int)) : (List Int) :=
  (letY ((1 : Int), (1 : Int)) fun (s2 : (Int × Int)) => (letY (foldY b__law_sums_1 numbers s2.1) fun (s11 : Int) => (letY (s11 + (1 : Int)) fun (s14 : Int) => (letY (foldY (b__law_sums_2 s14) numbers s2.2) fun (s23 : Int) => (letY ([] : List Int) fun (s26 : (List Int)) => (letY (foldY (b__law_sums_3 s14) (rangeY 0 ((numbers.length : Int) + (1 : Int))) (s23, s26)) fun (s38 : (Int × (List Int))) => (s38.2 ++ ([(0 : Int), (0 : Int), (0 : Int)] : List Int))))))))
def g__law_sums (numbers : (List Int)) : Prop :=
  (letY ((1 : Int), (1 : Int)) fun (s2 : (Int × Int)) => ((True ∧ foldG gb__law_sums_1 b__law_sums_1 numbers s2.1) ∧ (letY (foldY b__law_sums_1 numbers s2.1) fun (s11 : Int) => (letY (s11 + (1 : Int)) fun (s14 : Int) => ((True ∧ foldG (gb__law_sums_2 s14) (b__law_sums_2 s14) numbers s2.2) ∧ (letY (foldY (b__law_sums_2 s14) numbers s2.2) fun (s23 : Int) => (letY ([] : List Int) fun (s26 : (List Int)) => (((okR ((numbers.length : Int) + (1 : Int))) ∧ foldG (gb__law_sums_3 s14) (b__law_sums_3 s14) (rangeY 0 ((numbers.length : Int) + (1 : Int))) (s23, s26)) ∧ (letY (foldY (b__law_sums_3 s14) (rangeY 0 ((numbers.length : Int) + (1 : Int))) (s23, s26)) fun (s38 : (Int × (List Int))) => (s38.2.length + ([(0 : Int), (0 : Int), (0 : Int)] : List Int).length ≤ big))))))))))
theorem s__law_sums (numbers : (List Int)) (hg : g__law_sums numbers) : f__law_sums [(.leaf ((eL D.int) numbers))] = .ok ((oL D.int) (p__law_sums numbers)) [] :=
  Y.fn_of (lent := []) (n := 6) (ρ := ([some (.leaf ((eL D.int) numbers)), none, none, none, none, none] : Q.Env)) (g := g__law_sums numbers) (et := (fun b : (List Int) => (oL D.int) b)) (el := (fun b : (List Int) => [])) (v := p__law_sums numbers) rfl
  (t_seqN0 (s := ((1 : Int), (1 : Int))) (show NY _ _ True (fun (s : (Int × Int)) (d : Unit) => ([some (.leaf ((eL D.int) numbers)), some (.leaf (D.int s.1)), some (.leaf (D.int s.2)), none, none, none] : Q.Env)) ((1 : Int), (1 : Int)) from (fun (h1 : True) => ⟨(), (asg_eq (y_tup (ds := ((pC D.int (pZ D.int))) ((1 : Int), (1 : Int))) (ya_cons (y_c (D.int 1)) (ya_cons (y_c (D.int 1)) ya_nil)) rfl rfl) rfl)⟩)) (fun s2 d3 => (t_seqN (s := (foldY b__law_sums_1 numbers s2.1)) (n_for (e := D.int) (l := numbers) (s := s2.1) (d0 := (none : Option T)) (R := (fun (s : Int) (d : Option T) => ([some (.leaf ((eL D.int) numbers)), some (.leaf (D.int s)), some (.leaf (D.int s2.2)), d, none, none] : Q.Env))) (Rt := (fun (a5 : Int) (s6 : Int) (d7 : Option T) => ([some (.leaf ((eL D.int) numbers)), some (.leaf (D.int s6)), some (.leaf (D.int s2.2)), some (.leaf (D.int a5)), none, none] : Q.Env))) (gb := gb__law_sums_1) (f := b__law_sums_1) (fun (h4 : True) => (yi_L (e := D.int) (l := numbers) (y_v ((eL D.int) numbers) rfl) rfl)) rfl (fun _ _ _ => rfl) (fun a5 s6 d7 => (n_lastI (R := (fun (s : Int) (d : Option T) => ([some (.leaf ((eL D.int) numbers)), some (.leaf (D.int s)), some (.leaf (D.int s2.2)), d, none, none] : Q.Env))) (show NY _ _ (okMul s6 ((1 : Int) + a5) = true) (fun (s : Int) (d : Unit) => ([some (.leaf ((eL D.int) numbers)), some (.leaf (D.int s)), some (.leaf (D.int s2.2)), some (.leaf (D.int a5)), none, none] : Q.Env)) (s6 * ((1 : Int) + a5)) from (fun (h8 : (okMul s6 ((1 : Int) + a5) = true)) => ⟨(), (set_eq (y_mul (y_v (D.int s6) rfl) (y_add (y_c (D.int 1)) (y_v (D.int a5) rfl)) h8) rfl)⟩)) (fun s9 d10 => ⟨(some (.leaf (D.int a5)) : Option T), rfl⟩)))) (fun s11 d12 => (t_seqN0 (s := (s11 + (1 : Int))) (show NY _ _ True (fun (s : Int) (d : Unit) => ([some (.leaf ((eL D.int) numbers)), some (.leaf (D.int s)), some (.leaf (D.int s2.2)), d12, none, none] : Q.Env)) (s11 + (1 : Int)) from (fun (h13 : True) => ⟨(), (set_eq (y_add (y_v (D.int s11) rfl) (y_c (D.int 1))) rfl)⟩)) (fun s14 d15 => (t_seqN (s := (foldY (b__law_sums_2 s14) numbers s2.2)) (n_for (e := D.int) (l := numbers) (s := s2.2) (d0 := (d12 : Option T)) (R := (fun (s : Int) (d : Option T) => ([some (.leaf ((eL D.int) numbers)), some (.leaf (D.int s14)), some (.leaf (D.int s)), d, none, none] : Q.Env))) (Rt := (fun (a17 : Int) (s18 : Int) (d19 : Option T) => ([some (.leaf ((eL D.int) numbers)), some (.leaf (D.int s14)), some (.leaf (D.int s18)), some (.leaf (D.int a17)), none, none] : Q.Env))) (gb := (gb__law_sums_2 s14)) (f := (b__law_sums_2 s14)) (fun (h16 : True) => (yi_L (e := D.int) (l := numbers) (y_v ((eL D.int) numbers) rfl) rfl)) rfl (fun _ _ _ => rfl) (fun a17 s18 d19 => (n_lastI (R := (fun (s : Int) (d : Option T) => ([some (.leaf ((eL D.int) numbers)), some (.leaf (D.int s14)), some (.leaf (D.int s)), d, none, none] : Q.Env))) (show NY _ _ ((okMul a17 s14 = true) ∧ (okMul s18 ((1 : Int) + (a17 * s14)) = true)) (fun (s : Int) (d : Unit) => ([some (.leaf ((eL D.int) numbers)), some (.leaf (D.int s14)), some (.leaf (D.int s)), some (.leaf (D.int a17)), none, none] : Q.Env)) (s18 * ((1 : Int) + (a17 * s14))) from (fun (h20 : (okMul a17 s14 = true) ∧ (okMul s18 ((1 : Int) + (a17 * s14)) = true)) => ⟨(), (set_eq (y_mul (y_v (D.int s18) rfl) (y_add (y_c (D.int 1)) (y_mul (y_v (D.int a17) rfl) (y_v (D.int s14) rfl) h20.1)) h20.2) rfl)⟩)) (fun s21 d22 => ⟨(some (.leaf (D.int a17)) : Option T), rfl⟩)))) (fun s23 d24 => (t_seqN0 (s := ([] : List Int)) (show NY _ _ True (fun (s : (List Int)) (d : Unit) => ([some (.leaf ((eL D.int) numbers)), some (.leaf (D.int s14)), some (.leaf (D.int s23)), d24, some ((oL D.int) s), none] : Q.Env)) ([] : List Int) from (fun (h25 : True) => ⟨(), (setO_eq (y_lst ya_nil rfl) rfl)⟩)) (fun s26 d27 => (t_seqN (s := (foldY (b__law_sums_3 s14) (rangeY 0 ((numbers.length : Int) + (1 : Int))) (s23, s26))) (n_for (e := D.int) (l := (rangeY 0 ((numbers.length : Int) + (1 : Int)))) (s := (s23, s26)) (d0 := (none : Option T)) (R := (fun (s : (Int × (List Int))) (d : Option T) => ([some (.leaf ((eL D.int) numbers)), some (.leaf (D.int s14)), some (.leaf (D.int s.1)), d24, some ((oL D.int) s.2), d] : Q.Env))) (Rt := (fun (a29 : Int) (s30 : (Int × (List Int))) (d31 : Option T) => ([some (.leaf ((eL D.int) numbers)), some (.leaf (D.int s14)), some (.leaf (D.int s30.1)), d24, some ((oL D.int) s30.2), some (.leaf (D.int a29))] : Q.Env))) (gb := (gb__law_sums_3 s14)) (f := (b__law_sums_3 s14)) (fun (h28 : (okR ((numbers.length : Int) + (1 : Int)))) => (yi_range1 (y_add (y_lenL (e := D.int) (y_v ((eL D.int) numbers) rfl)) (y_c (D.int 1))) h28)) rfl (fun _ _ _ => rfl) (fun a29 s30 d31 => (n_seq (s := (s30.2 ++ [(s30.1 % s14)])) (show NY _ _ ((0 < s14) ∧ (s30.2.length < 16000000)) (fun (s : (List Int)) (d : Unit) => ([some (.leaf ((eL D.int) numbers)), some (.leaf (D.int s14)), some (.leaf (D.int s30.1)), d24, some ((oL D.int) s), some (.leaf (D.int a29))] : Q.Env)) (s30.2 ++ [(s30.1 % s14)]) from (fun (h32 : (0 < s14) ∧ (s30.2.length < 16000000)) => ⟨(), (app_eqL (e := D.int) (l0 := s30.2) (l := s30.2) (v := (s30.1 % s14)) rfl (y_mod (y_int (y_v (D.int s30.1) rfl)) (y_v (D.int s14) rfl) h32.1) rfl h32.2)⟩)) (fun s33 d34 => (n_last (R := (fun (s : (Int × (List Int))) (d : Option T) => ([some (.leaf ((eL D.int) numbers)), some (.leaf (D.int s14)), some (.leaf (D.int s.1)), d24, some ((oL D.int) s.2), d] : Q.Env))) (p := fun (s36 : Int) => (s36, s33)) (show NY _ _ (okDiv s14) (fun (s : Int) (d : Unit) => ([some (.leaf ((eL D.int) numbers)), some (.leaf (D.int s14)), some (.leaf (D.int s)), d24, some ((oL D.int) s33), some (.leaf (D.int a29))] : Q.Env)) (s30.1 / s14) from (fun (h35 : (okDiv s14)) => ⟨(), (set_eq (y_fdiv (y_v (D.int s30.1) rfl) (y_v (D.int s14) rfl) h35) rfl)⟩)) (fun s36 d37 => ⟨(some (.leaf (D.int a29)) : Option T), rfl⟩)))))) (fun s38 d39 => (t_ret (v := ((s38.2 ++ ([(0 : Int), (0 : Int), (0 : Int)] : List Int)) : (List Int))) (g := (s38.2.length + ([(0 : Int), (0 : Int), (0 : Int)] : List Int).length ≤ big)) (fun (h40 : (s38.2.length + ([(0 : Int), (0 : Int), (0 : Int)] : List Int).length ≤ big)) => (y_addL (e := D.int) (y_shareL (e := D.int) (l := s38.2) rfl rfl) rfl (y_lst (ya_cons (y_c (D.int 0)) (ya_cons (y_c (D.int 0)) (ya_cons (y_c (D.int 0)) ya_nil))) rfl) (oL_toD D.int ([(0 : Int), (0 : Int), (0 : Int)] : List Int)) h40)) rfl))))))))))))) hg
def b__law_scattered_1 (q : Int) (n : Int) (a5 : Int) (s6 : (List Int)) : (List Int) :=
  (([((ixY s6 (0 : Int)) * q)] : List Int) ++ ((rangeY (1 : Int) (n + (1 : Int))).map fun (x9 : Int) => ((ixY s6 (x9 - (1 : Int))) + ((q - (1 : Int)) * (ixY s6 x9)))))
def gb__law_scattered_1 (q : Int) (n : Int) (a5 : Int) (s6 : (List Int)) : Prop :=
  ((okIx s6.length (0 : Int)) ∧ (okMul (ixY s6 (0 : Int)) q = true) ∧ (okR (n + (1 : Int))) ∧ (∀ x9 ∈ (rangeY (1 : Int) (n + (1 : Int))), okIx s6.length (x9 - (1 : Int))) ∧ (∀ x9 ∈ (rangeY (1 : Int) (n + (1 : Int))), okIx s6.length x9) ∧ (∀ x9 ∈ (rangeY (1 : Int) (n + (1 : Int))), okMul (q - (1 : Int)) (ixY s6 x9) = true) ∧ ((rangeY (1 : Int) (n + (1 : Int))).length ≤ big) ∧ (([((ixY s6 (0 : Int)) * q)] : List Int).length + ((rangeY (1 : Int) (n + (1 : Int))).map fun (x9 : Int) => ((ixY s6 (x9 - (1 : Int))) + ((q - (1 : Int)) * (ixY s6 x9)))).length ≤ big))
def p__law_scattered (n : Int) (k : Int) (q : Int) : Int :=
  (letY (([(1 : Int)] : List Int) ++ (repY ([(0 : Int)] : List Int) n)) fun (s2 : (List Int)) => (letY (foldY (b__law_scattered_1 q n) (rangeY 0 (n + k)) s2) fun (s13 : (List Int)) => (ixY s13 n)))
def g__law_scattered (n : Int) (k : Int) (q : Int) : Prop :=
  (((okRep ([(0 : Int)] : List Int).length n) ∧ (([(1 : Int)] : List Int).length + (repY ([(0 : Int)] : List Int) n).length ≤ big)) ∧ (letY (([(1 : Int)] : List Int) ++ (repY ([(0 : Int)] : List Int) n)) fun (s2 : (List Int)) => (((okR (n + k)) ∧ foldG (gb__law_scattered_1 q n) (b__law_scattered_1 q n) (rangeY 0 (n + k)) s2) ∧ (letY (foldY (b__law_scattered_1 q n) (rangeY 0 (n + k)) s2) fun (s13 : (List Int)) => (okIx s13.length n)))))
theorem s__law_scattered (n : Int) (k : Int) (q : Int) (hg : g__law_scattered n k q) : f__law_scattered [(.leaf (D.int n)), (.leaf (D.int k)), (.leaf (D.int q))] = .ok (.leaf (D.int (p__law_scattered n k q))) [] :=
  Y.fn_of (lent := []) (n := 6) (ρ := ([some (.leaf (D.int n)), some (.leaf (D.int k)), some (.leaf (D.int q)), none, none, none] : Q.Env)) (g := g__law_scattered n k q) (et := (fun b : Int => .leaf (D.int b))) (el := (fun b : Int => [])) (v := p__law_scattered n k q) rfl
  (t_seqN (s := (([(1 : Int)] : List Int) ++ (repY ([(0 : Int)] : List Int) n))) (show NY _ _ ((okRep ([(0 : Int)] : List Int).length n) ∧ (([(1 : Int)] : List Int).length + (repY ([(0 : Int)] : List Int) n).length ≤ big)) (fun (s : (List Int)) (d : Unit) => ([some (.leaf (D.int n)), some (.leaf (D.int k)), some (.leaf (D.int q)), some (.leaf ((eL D.int) s)), none, none] : Q.Env)) (([(1 : Int)] : List Int) ++ (repY ([(0 : Int)] : List Int) n)) from (fun (h1 : (okRep ([(0 : Int)] : List Int).length n) ∧ (([(1 : Int)] : List Int).length + (repY ([(0 : Int)] : List Int) n).length ≤ big)) => ⟨(), (set_eqL (e := D.int) (l := (([(1 : Int)] : List Int) ++ (repY ([(0 : Int)] : List Int) n))) (y_addL (e := D.int) (y_lst (ya_cons (y_c (D.int 1)) ya_nil) rfl) (oL_toD D.int ([(1 : Int)] : List Int)) (y_mulL (e := D.int) (y_lst (ya_cons (y_c (D.int 0)) ya_nil) rfl) (oL_toD D.int ([(0 : Int)] : List Int)) (y_v (D.int n) rfl) h1.1) (oL_toD D.int (repY ([(0 : Int)] : List Int) n)) h1.2) rfl)⟩)) (fun s2 d3 => (t_seqN (s := (foldY (b__law_scattered_1 q n) (rangeY 0 (n + k)) s2)) (n_for (e := D.int) (l := (rangeY 0 (n + k))) (s := s2) (d0 := (none : Option T)) (R := (fun (s : (List Int)) (d : Option T) => ([some (.leaf (D.int n)), some (.leaf (D.int k)), some (.leaf (D.int q)), some (.leaf ((eL D.int) s)), d, none] : Q.Env))) (Rt := (fun (a5 : Int) (s6 : (List Int)) (d7 : Option T) => ([some (.leaf (D.int n)), some (.leaf (D.int k)), some (.leaf (D.int q)), some (.leaf ((eL D.int) s6)), some (.leaf (D.int a5)), none] : Q.Env))) (gb := (gb__law_scattered_1 q n)) (f := (b__law_scattered_1 q n)) (fun (h4 : (okR (n + k))) => (yi_range1 (y_add (y_v (D.int n) rfl) (y_v (D.int k) rfl)) h4)) rfl (fun _ _ _ => rfl) (fun a5 s6 d7 => (n_lastI (R := (fun (s : (List Int)) (d : Option T) => ([some (.leaf (D.int n)), some (.leaf (D.int k)), some (.leaf (D.int q)), some (.leaf ((eL D.int) s)), d, none] : Q.Env))) (show NY _ _ ((okIx s6.length (0 : Int)) ∧ (okMul (ixY s6 (0 : Int)) q = true) ∧ (okR (n + (1 : Int))) ∧ (∀ x9 ∈ (rangeY (1 : Int) (n + (1 : Int))), okIx s6.length (x9 - (1 : Int))) ∧ (∀ x9 ∈ (rangeY (1 : Int) (n + (1 : Int))), okIx s6.length x9) ∧ (∀ x9 ∈ (rangeY (1 : Int) (n + (1 : Int))), okMul (q - (1 : Int)) (ixY s6 x9) = true) ∧ ((rangeY (1 : Int) (n + (1 : Int))).length ≤ big) ∧ (([((ixY s6 (0 : Int)) * q)] : List Int).length + ((rangeY (1 : Int) (n + (1 : Int))).map fun (x9 : Int) => ((ixY s6 (x9 - (1 : Int))) + ((q - (1 : Int)) * (ixY s6 x9)))).length ≤ big)) (fun (s : (List Int)) (d : Unit) => ([some (.leaf (D.int n)), some (.leaf (D.int k)), some (.leaf (D.int q)), some (.leaf ((eL D.int) s)), some (.leaf (D.int a5)), none] : Q.Env)) (([((ixY s6 (0 : Int)) * q)] : List Int) ++ ((rangeY (1 : Int) (n + (1 : Int))).map fun (x9 : Int) => ((ixY s6 (x9 - (1 : Int))) + ((q - (1 : Int)) * (ixY s6 x9))))) from (fun (h8 : (okIx s6.length (0 : Int)) ∧ (okMul (ixY s6 (0 : Int)) q = true) ∧ (okR (n + (1 : Int))) ∧ (∀ x9 ∈ (rangeY (1 : Int) (n + (1 : Int))), okIx s6.length (x9 - (1 : Int))) ∧ (∀ x9 ∈ (rangeY (1 : Int) (n + (1 : Int))), okIx s6.length x9) ∧ (∀ x9 ∈ (rangeY (1 : Int) (n + (1 : Int))), okMul (q - (1 : Int)) (ixY s6 x9) = true) ∧ ((rangeY (1 : Int) (n + (1 : Int))).length ≤ big) ∧ (([((ixY s6 (0 : Int)) * q)] : List Int).length + ((rangeY (1 : Int) (n + (1 : Int))).map fun (x9 : Int) => ((ixY s6 (x9 - (1 : Int))) + ((q - (1 : Int)) * (ixY s6 x9)))).length ≤ big)) => ⟨(), (set_eqL (e := D.int) (l := (([((ixY s6 (0 : Int)) * q)] : List Int) ++ ((rangeY (1 : Int) (n + (1 : Int))).map fun (x9 : Int) => ((ixY s6 (x9 - (1 : Int))) + ((q - (1 : Int)) * (ixY s6 x9)))))) (y_addL (e := D.int) (y_lst (ya_cons (y_fz (y_mul (y_ixL (e := D.int) (y_v ((eL D.int) s6) rfl) (y_c (D.int 0)) h8.1) (y_v (D.int q) rfl) h8.2.1) rfl) ya_nil) rfl) (oL_toD D.int ([((ixY s6 (0 : Int)) * q)] : List Int)) (y_compA (e := D.int) (e' := D.int) (l := (rangeY (1 : Int) (n + (1 : Int)))) (Rt := (fun (x9 : Int) => ([some (.leaf (D.int n)), some (.leaf (D.int k)), some (.leaf (D.int q)), some (.leaf ((eL D.int) s6)), some (.leaf (D.int a5)), some (.leaf (D.int x9))] : Q.Env))) (f := fun (x9 : Int) => ((ixY s6 (x9 - (1 : Int))) + ((q - (1 : Int)) * (ixY s6 x9)))) (ρ1 := ([some (.leaf (D.int n)), some (.leaf (D.int k)), some (.leaf (D.int q)), some (.leaf ((eL D.int) s6)), some (.leaf (D.int a5)), none] : Q.Env)) (yi_range2 (y_c (D.int 1)) (y_add (y_v (D.int n) rfl) (y_c (D.int 1))) (okR_small (by decide)) h8.2.2.1) rfl (fun _ => rfl) (fun _ => rfl) h8.2.2.2.2.2.2.1 (fun x9 m10 => (y_add (y_ixL (e := D.int) (y_v ((eL D.int) s6) rfl) (y_sub (y_v (D.int x9) rfl) (y_c (D.int 1))) (h8.2.2.2.1 x9 m10)) (y_mul (y_sub (y_v (D.int q) rfl) (y_c (D.int 1))) (y_ixL (e := D.int) (y_v ((eL D.int) s6) rfl) (y_v (D.int x9) rfl) (h8.2.2.2.2.1 x9 m10)) (h8.2.2.2.2.2.1 x9 m10))))) (oL_toD D.int ((rangeY (1 : Int) (n + (1 : Int))).map fun (x9 : Int) => ((ixY s6 (x9 - (1 : Int))) + ((q - (1 : Int)) * (ixY s6 x9))))) h8.2.2.2.2.2.2.2) rfl)⟩)) (fun s11 d12 => ⟨(some (.leaf (D.int a5)) : Option T), rfl⟩)))) (fun s13 d14 => (t_ret (v := ((ixY s13 n) : Int)) (g := (okIx s13.length n)) (fun (h15 : (okIx s13.length n)) => (y_ixL (e := D.int) (y_v ((eL D.int) s13) rfl) (y_v (D.int n) rfl) h15)) rfl))))) hg
def b__law_turned_1 (a5 : Int) (s6 : (List (List Int))) : (List (List Int)) :=
  (letY (((ixY s6 (a5 - (1 : Int))) ++ ([(0 : Int)] : List Int)), ((([(0 : Int)] : List Int) ++ (ixY s6 (a5 - (2 : Int)))) ++ ([(0 : Int)] : List Int))) fun (s9 : ((List Int) × (List Int))) => (s6 ++ [((rangeY 0 (s9.1.length : Int)).map fun (x12 : Int) => ((ixY s9.1 x12) + (ixY s9.2 x12)))]))
def gb__law_turned_1 (a5 : Int) (s6 : (List (List Int))) : Prop :=
  (((okIx s6.length (a5 - (1 : Int))) ∧ ((ixY s6 (a5 - (1 : Int))).length + ([(0 : Int)] : List Int).length ≤ big) ∧ (okIx s6.length (a5 - (2 : Int))) ∧ (([(0 : Int)] : List Int).length + (ixY s6 (a5 - (2 : Int))).length ≤ big) ∧ ((([(0 : Int)] : List Int) ++ (ixY s6 (a5 - (2 : Int)))).length + ([(0 : Int)] : List Int).length ≤ big)) ∧ (letY (((ixY s6 (a5 - (1 : Int))) ++ ([(0 : Int)] : List Int)), ((([(0 : Int)] : List Int) ++ (ixY s6 (a5 - (2 : Int)))) ++ ([(0 : Int)] : List Int))) fun (s9 : ((List Int) × (List Int))) => ((okR (s9.1.length : Int)) ∧ (∀ x12 ∈ (rangeY 0 (s9.1.length : Int)), okIx s9.1.length x12) ∧ (∀ x12 ∈ (rangeY 0 (s9.1.length : Int)), okIx s9.2.length x12) ∧ ((rangeY 0 (s9.1.length : Int)).length ≤ big) ∧ (s6.length < 16000000))))
def p__law_turned (n : Int) : (List Int) :=
  (letY ([([(1 : Int)] : List Int), ([(1 : Int)] : List Int)] : List (List Int)) fun (s2 : (List (List Int))) => (letY (foldY b__law_turned_1 (rangeY (2 : Int) (n + (1 : Int))) s2) fun (s16 : (List (List Int))) => (ixY s16 n)))
def g__law_turned (n : Int) : Prop :=
  (letY ([([(1 : Int)] : List Int), ([(1 : Int)] : List Int)] : List (List Int)) fun (s2 : (List (List Int))) => (((okR (n + (1 : Int))) ∧ foldG gb__law_turned_1 b__law_turned_1 (rangeY (2 : Int) (n + (1 : Int))) s2) ∧ (letY (foldY b__law_turned_1 (rangeY (2 : Int) (n + (1 : Int))) s2) fun (s16 : (List (List Int))) => (okIx s16.length n))))
theorem s__law_turned (n : Int) (hg : g__law_turned n) : f__law_turned [(.leaf (D.int n))] = .ok (.leaf ((eL D.int) (p__law_turned n))) [] :=
  Y.fn_of (lent := []) (n := 6) (ρ := ([some (.leaf (D.int n)), none, none, none, none, none] : Q.Env)) (g := g__law_turned n) (et := (fun b : (List Int) => .leaf ((eL D.int) b))) (el := (fun b : (List Int) => [])) (v := p__law_turned n) rfl
  (t_seqN0 (s := ([([(1 : Int)] : List Int), ([(1 : Int)] : List Int)] : List (List Int))) (show NY _ _ True (fun (s : (List (List Int))) (d : Unit) => ([some (.leaf (D.int n)), some ((oL (eL D.int)) s), none, none, none, none] : Q.Env)) ([([(1 : Int)] : List Int), ([(1 : Int)] : List Int)] : List (List Int)) from (fun (h1 : True) => ⟨(), (setO_eq (y_lst (ya_cons (y_fz (y_lst (ya_cons (y_c (D.int 1)) ya_nil) rfl) (oL_toD D.int ([(1 : Int)] : List Int))) (ya_cons (y_fz (y_lst (ya_cons (y_c (D.int 1)) ya_nil) rfl) (oL_toD D.int ([(1 : Int)] : List Int))) ya_nil)) rfl) rfl)⟩)) (fun s2 d3 => (t_seqN (s := (foldY b__law_turned_1 (rangeY (2 : Int) (n + (1 : Int))) s2)) (n_for (e := D.int) (l := (rangeY (2 : Int) (n + (1 : Int)))) (s := s2) (d0 := ((none : Option T), (none : Option T), (none : Option T))) (R := (fun (s : (List (List Int))) (d : Option T × Option T × Option T) => ([some (.leaf (D.int n)), some ((oL (eL D.int)) s), d.1, d.2.1, d.2.2, none] : Q.Env))) (Rt := (fun (a5 : Int) (s6 : (List (List Int))) (d7 : Option T × Option T × Option T) => ([some (.leaf (D.int n)), some ((oL (eL D.int)) s6), some (.leaf (D.int a5)), d7.2.1, d7.2.2, none] : Q.Env))) (gb := gb__law_turned_1) (f := b__law_turned_1) (fun (h4 : (okR (n + (1 : Int)))) => (yi_range2 (y_c (D.int 2)) (y_add (y_v (D.int n) rfl) (y_c (D.int 1))) (okR_small (by decide)) h4)) rfl (fun _ _ _ => rfl) (fun a5 s6 d7 => (n_seq (s := (((ixY s6 (a5 - (1 : Int))) ++ ([(0 : Int)] : List Int)), ((([(0 : Int)] : List Int) ++ (ixY s6 (a5 - (2 : Int)))) ++ ([(0 : Int)] : List Int)))) (show NY _ _ ((okIx s6.length (a5 - (1 : Int))) ∧ ((ixY s6 (a5 - (1 : Int))).length + ([(0 : Int)] : List Int).length ≤ big) ∧ (okIx s6.length (a5 - (2 : Int))) ∧ (([(0 : Int)] : List Int).length + (ixY s6 (a5 - (2 : Int))).length ≤ big) ∧ ((([(0 : Int)] : List Int) ++ (ixY s6 (a5 - (2 : Int)))).length + ([(0 : Int)] : List Int).length ≤ big)) (fun (s : ((List Int) × (List Int))) (d : Unit) => ([some (.leaf (D.int n)), some ((oL (eL D.int)) s6), some (.leaf (D.int a5)), some (.leaf ((eL D.int) s.1)), some (.leaf ((eL D.int) s.2)), none] : Q.Env)) (((ixY s6 (a5 - (1 : Int))) ++ ([(0 : Int)] : List Int)), ((([(0 : Int)] : List Int) ++ (ixY s6 (a5 - (2 : Int)))) ++ ([(0 : Int)] : List Int))) from (fun (h8 : (okIx s6.length (a5 - (1 : Int))) ∧ ((ixY s6 (a5 - (1 : Int))).length + ([(0 : Int)] : List Int).length ≤ big) ∧ (okIx s6.length (a5 - (2 : Int))) ∧ (([(0 : Int)] : List Int).length + (ixY s6 (a5 - (2 : Int))).length ≤ big) ∧ ((([(0 : Int)] : List Int) ++ (ixY s6 (a5 - (2 : Int)))).length + ([(0 : Int)] : List Int).length ≤ big)) => ⟨(), (asg_eq (y_tup (ds := ((pC (eL D.int) (pZ (eL D.int)))) (((ixY s6 (a5 - (1 : Int))) ++ ([(0 : Int)] : List Int)), ((([(0 : Int)] : List Int) ++ (ixY s6 (a5 - (2 : Int)))) ++ ([(0 : Int)] : List Int)))) (ya_cons (y_addL (e := D.int) (y_ixPk (e := (eL D.int)) (l := s6) rfl (y_sub (y_v (D.int a5) rfl) (y_c (D.int 1))) rfl h8.1) rfl (y_lst (ya_cons (y_c (D.int 0)) ya_nil) rfl) (oL_toD D.int ([(0 : Int)] : List Int)) h8.2.1) (ya_cons (y_addL (e := D.int) (y_addL (e := D.int) (y_lst (ya_cons (y_c (D.int 0)) ya_nil) rfl) (oL_toD D.int ([(0 : Int)] : List Int)) (y_ixPk (e := (eL D.int)) (l := s6) rfl (y_sub (y_v (D.int a5) rfl) (y_c (D.int 2))) rfl h8.2.2.1) rfl h8.2.2.2.1) (oL_toD D.int (([(0 : Int)] : List Int) ++ (ixY s6 (a5 - (2 : Int))))) (y_lst (ya_cons (y_c (D.int 0)) ya_nil) rfl) (oL_toD D.int ([(0 : Int)] : List Int)) h8.2.2.2.2) ya_nil)) (by simp only [List.map_cons, List.map_nil, T.toD, oL_toD]; rfl) rfl) rfl)⟩)) (fun s9 d10 => (n_lastI (R := (fun (s : (List (List Int))) (d : Option T × Option T × Option T) => ([some (.leaf (D.int n)), some ((oL (eL D.int)) s), d.1, d.2.1, d.2.2, none] : Q.Env))) (show NY _ _ ((okR (s9.1.length : Int)) ∧ (∀ x12 ∈ (rangeY 0 (s9.1.length : Int)), okIx s9.1.length x12) ∧ (∀ x12 ∈ (rangeY 0 (s9.1.length : Int)), okIx s9.2.length x12) ∧ ((rangeY 0 (s9.1.length : Int)).length ≤ big) ∧ (s6.length < 16000000)) (fun (s : (List (List Int))) (d : Unit) => ([some (.leaf (D.int n)), some ((oL (eL D.int)) s), some (.leaf (D.int a5)), some (.leaf ((eL D.int) s9.1)), some (.leaf ((eL D.int) s9.2)), none] : Q.Env)) (s6 ++ [((rangeY 0 (s9.1.length : Int)).map fun (x12 : Int) => ((ixY s9.1 x12) + (ixY s9.2 x12)))]) from (fun (h11 : (okR (s9.1.length : Int)) ∧ (∀ x12 ∈ (rangeY 0 (s9.1.length : Int)), okIx s9.1.length x12) ∧ (∀ x12 ∈ (rangeY 0 (s9.1.length : Int)), okIx s9.2.length x12) ∧ ((rangeY 0 (s9.1.length : Int)).length ≤ big) ∧ (s6.length < 16000000)) => ⟨(), (app_eqL (e := (eL D.int)) (l0 := s6) (l := s6) (v := ((rangeY 0 (s9.1.length : Int)).map fun (x12 : Int) => ((ixY s9.1 x12) + (ixY s9.2 x12)))) rfl (y_fz (y_compA (e := D.int) (e' := D.int) (l := (rangeY 0 (s9.1.length : Int))) (Rt := (fun (x12 : Int) => ([some (.leaf (D.int n)), some ((oL (eL D.int)) s6), some (.leaf (D.int a5)), some (.leaf ((eL D.int) s9.1)), some (.leaf ((eL D.int) s9.2)), some (.leaf (D.int x12))] : Q.Env))) (f := fun (x12 : Int) => ((ixY s9.1 x12) + (ixY s9.2 x12))) (ρ1 := ([some (.leaf (D.int n)), some ((oL (eL D.int)) s6), some (.leaf (D.int a5)), some (.leaf ((eL D.int) s9.1)), some (.leaf ((eL D.int) s9.2)), none] : Q.Env)) (yi_range1 (y_lenL (e := D.int) (y_v ((eL D.int) s9.1) rfl)) h11.1) rfl (fun _ => rfl) (fun _ => rfl) h11.2.2.2.1 (fun x12 m13 => (y_add (y_ixL (e := D.int) (y_v ((eL D.int) s9.1) rfl) (y_v (D.int x12) rfl) (h11.2.1 x12 m13)) (y_ixL (e := D.int) (y_v ((eL D.int) s9.2) rfl) (y_v (D.int x12) rfl) (h11.2.2.1 x12 m13))))) (oL_toD D.int ((rangeY 0 (s9.1.length : Int)).map fun (x12 : Int) => ((ixY s9.1 x12) + (ixY s9.2 x12))))) rfl h11.2.2.2.2)⟩)) (fun s14 d15 => ⟨((some (.leaf (D.int a5)) : Option T), (some (.leaf ((eL D.int) s9.1)) : Option T), (some (.leaf ((eL D.int) s9.2)) : Option T)), rfl⟩)))))) (fun s16 d17 => (t_ret (v := ((ixY s16 n) : (List Int))) (g := (okIx s16.length n)) (fun (h18 : (okIx s16.length n)) => (y_ixPk (e := (eL D.int)) (l := s16) rfl (y_v (D.int n) rfl) rfl h18)) rfl))))) hg
def p__law_same (told : Int) (due : Int) : Bool :=
  (decide (told = due))
theorem s__law_same (told : Int) (due : Int) : f__law_same [(.leaf (D.int told)), (.leaf (D.int due))] = .ok (.leaf (D.bl (p__law_same told due))) [] :=
  Y.fn_of (lent := []) (n := 2) (ρ := ([some (.leaf (D.int told)), some (.leaf (D.int due))] : Q.Env)) (g := True) (et := (fun b : Bool => .leaf (D.bl b))) (el := (fun b : Bool => [])) (v := p__law_same told due) rfl
  (t_ret (v := ((decide (told = due)) : Bool)) (g := True) (fun (h1 : True) => (y_andVS (y_isiT (v := true) (y_v (D.int told) rfl) (show ("int" : String) ≠ "?" by decide) (by rfl)) (y_andVS (y_notV (y_isiT (v := false) (y_v (D.int told) rfl) (show ("int" : String) ≠ "?" by decide) (by rfl))) (y_eq (e := D.int) qe_int (x := told) (y := due) trivial trivial (y_v (D.int told) rfl) (y_v (D.int due) rfl))))) rfl) trivial
def p_is_int (x : Int) : Bool :=
  true
theorem s_is_int (x : Int) : f_is_int [(.leaf (D.int x))] = .ok (.leaf (D.bl (p_is_int x))) [] :=
  Y.fn_of (lent := []) (n := 1) (ρ := ([some (.leaf (D.int x))] : Q.Env)) (g := True) (et := (fun b : Bool => .leaf (D.bl b))) (el := (fun b : Bool => [])) (v := p_is_int x) rfl
  (t_ret (v := (true : Bool)) (g := True) (fun (h1 : True) => (y_andVS (y_isiT (v := true) (y_v (D.int x) rfl) (show ("int" : String) ≠ "?" by decide) (by rfl)) (y_notV (y_isiT (v := false) (y_v (D.int x) rfl) (show ("int" : String) ≠ "?" by decide) (by rfl))))) rfl) trivial
def p_check_number (x : Int) (least : Int) : Int :=
  x
def g_check_number (x : Int) (least : Int) : Prop :=
  ((True ∧ ((!(p_is_int x)) || (decide (x < least))) = false) ∧ True)
theorem s_check_number (x : Int) (least : Int) (hg : g_check_number x least) : f_check_number [(.leaf (D.int x)), (.leaf (D.int least))] = .ok (.leaf (D.int (p_check_number x least))) [] :=
  Y.fn_of (lent := []) (n := 2) (ρ := ([some (.leaf (D.int x)), some (.leaf (D.int least))] : Q.Env)) (g := g_check_number x least) (et := (fun b : Int => .leaf (D.int b))) (el := (fun b : Int => [])) (v := p_check_number x least) rfl
  (t_seqU (n_ifno (R := (fun (s : Unit) (d : Unit) => ([some (.leaf (D.int x)), some (.leaf (D.int least))] : Q.Env))) (d := ()) (fun (h1 : True) => (y_or (y_not (y_test (y_call (yc_val (y_v (D.int x) rfl) yc_nil) rfl (s_is_int x ) rfl rfl))) (fun k2 => (y_test (y_lt (y_v (D.int x) rfl) (y_v (D.int least) rfl)))))) rfl) (fun d4 => (t_ret (v := (x : Int)) (g := True) (fun (h5 : True) => (y_v (D.int x) rfl)) rfl))) hg
def b_chosen_1 (n : Int) (a7 : Int) (s8 : Int) : Int :=
  ((s8 * (n - a7)) / (a7 + (1 : Int)))
def gb_chosen_1 (n : Int) (a7 : Int) (s8 : Int) : Prop :=
  ((okMul s8 (n - a7) = true) ∧ (okDiv (a7 + (1 : Int))))
def p_chosen (n : Int) (k : Int) : Int :=
  (bif (decide (n < k)) then (0 : Int) else (letY (1 : Int) fun (s4 : Int) => (letY (foldY (b_chosen_1 n) (rangeY 0 (min k (n - k))) s4) fun (s13 : Int) => s13)))
def g_chosen (n : Int) (k : Int) : Prop :=
  (True ∧ ((decide (n < k)) = true → True) ∧ ((decide (n < k)) = false → (letY (1 : Int) fun (s4 : Int) => ((okR (min k (n - k))) ∧ foldG (gb_chosen_1 n) (b_chosen_1 n) (rangeY 0 (min k (n - k))) s4))))
theorem s_chosen (n : Int) (k : Int) (hg : g_chosen n k) : f_chosen [(.leaf (D.int n)), (.leaf (D.int k))] = .ok (.leaf (D.int (p_chosen n k))) [] :=
  Y.fn_of (lent := []) (n := 4) (ρ := ([some (.leaf (D.int n)), some (.leaf (D.int k)), none, none] : Q.Env)) (g := g_chosen n k) (et := (fun b : Int => .leaf (D.int b))) (el := (fun b : Int => [])) (v := p_chosen n k) rfl
  (t_ifr (x := (decide (n < k))) (fun (h1 : True) => (y_test (y_gt (y_v (D.int k) rfl) (y_v (D.int n) rfl)))) (t_ret (v := ((0 : Int) : Int)) (g := True) (fun (h2 : True) => (y_c (D.int 0))) rfl) (t_seqN0 (s := (1 : Int)) (show NY _ _ True (fun (s : Int) (d : Unit) => ([some (.leaf (D.int n)), some (.leaf (D.int k)), some (.leaf (D.int s)), none] : Q.Env)) (1 : Int) from (fun (h3 : True) => ⟨(), (set_eq (y_c (D.int 1)) rfl)⟩)) (fun s4 d5 => (t_seqNP (s := (foldY (b_chosen_1 n) (rangeY 0 (min k (n - k))) s4)) (n_for (e := D.int) (l := (rangeY 0 (min k (n - k)))) (s := s4) (d0 := (none : Option T)) (R := (fun (s : Int) (d : Option T) => ([some (.leaf (D.int n)), some (.leaf (D.int k)), some (.leaf (D.int s)), d] : Q.Env))) (Rt := (fun (a7 : Int) (s8 : Int) (d9 : Option T) => ([some (.leaf (D.int n)), some (.leaf (D.int k)), some (.leaf (D.int s8)), some (.leaf (D.int a7))] : Q.Env))) (gb := (gb_chosen_1 n)) (f := (b_chosen_1 n)) (fun (h6 : (okR (min k (n - k)))) => (yi_range1 (y_min (y_v (D.int k) rfl) (y_sub (y_v (D.int n) rfl) (y_v (D.int k) rfl))) h6)) rfl (fun _ _ _ => rfl) (fun a7 s8 d9 => (n_lastI (R := (fun (s : Int) (d : Option T) => ([some (.leaf (D.int n)), some (.leaf (D.int k)), some (.leaf (D.int s)), d] : Q.Env))) (show NY _ _ ((okMul s8 (n - a7) = true) ∧ (okDiv (a7 + (1 : Int)))) (fun (s : Int) (d : Unit) => ([some (.leaf (D.int n)), some (.leaf (D.int k)), some (.leaf (D.int s)), some (.leaf (D.int a7))] : Q.Env)) ((s8 * (n - a7)) / (a7 + (1 : Int))) from (fun (h10 : (okMul s8 (n - a7) = true) ∧ (okDiv (a7 + (1 : Int)))) => ⟨(), (set_eq (y_fdiv (y_mul (y_v (D.int s8) rfl) (y_sub (y_v (D.int n) rfl) (y_v (D.int a7) rfl)) h10.1) (y_add (y_v (D.int a7) rfl) (y_c (D.int 1))) h10.2) rfl)⟩)) (fun s11 d12 => ⟨(some (.leaf (D.int a7)) : Option T), rfl⟩)))) (fun s13 d14 => (t_ret (v := (s13 : Int)) (g := True) (fun (h15 : True) => (y_v (D.int s13) rfl)) rfl))))) ) hg
def p_choose (n : Int) (k : Int) : Int :=
  (p_chosen n k)
def g_choose (n : Int) (k : Int) : Prop :=
  ((g_check_number n (0 : Int)) ∧ ((g_check_number k (0 : Int)) ∧ (g_chosen n k)))
theorem s_choose (n : Int) (k : Int) (hg : g_choose n k) : f_choose [(.leaf (D.int n)), (.leaf (D.int k))] = .ok (.leaf (D.int (p_choose n k))) [] :=
  Y.fn_of (lent := []) (n := 2) (ρ := ([some (.leaf (D.int n)), some (.leaf (D.int k))] : Q.Env)) (g := g_choose n k) (et := (fun b : Int => .leaf (D.int b))) (el := (fun b : Int => [])) (v := p_choose n k) rfl
  (t_seqU (show NY _ _ (g_check_number n (0 : Int)) (fun (s : Unit) (d : Unit) => ([some (.leaf (D.int n)), some (.leaf (D.int k))] : Q.Env)) () from (fun (h1 : (g_check_number n (0 : Int))) => ⟨(), (drop_eq (y_call (yc_val (y_v (D.int n) rfl) (yc_val (y_c (D.int 0)) yc_nil)) rfl (s_check_number n (0 : Int) h1) rfl rfl))⟩)) (fun d3 => (t_seqU (show NY _ _ (g_check_number k (0 : Int)) (fun (s : Unit) (d : Unit) => ([some (.leaf (D.int n)), some (.leaf (D.int k))] : Q.Env)) () from (fun (h4 : (g_check_number k (0 : Int))) => ⟨(), (drop_eq (y_call (yc_val (y_v (D.int k) rfl) (yc_val (y_c (D.int 0)) yc_nil)) rfl (s_check_number k (0 : Int) h4) rfl rfl))⟩)) (fun d6 => (t_ret (v := ((p_chosen n k) : Int)) (g := (g_chosen n k)) (fun (h7 : (g_chosen n k)) => (y_call (yc_val (y_v (D.int n) rfl) (yc_val (y_v (D.int k) rfl) yc_nil)) rfl (s_chosen n k h7) rfl rfl)) rfl))))) hg
def p__law_choices (purse : (Int × (List Int))) (n : Int) (k : Int) : (Bool × (Int × (List Int))) :=
  (letY ((p__law_pick (p__law_pick purse (24 : Int)).2 (24 : Int)).2, ((2000 : Int) - (p__law_pick purse (24 : Int)).1), (p__law_pick (p__law_pick purse (24 : Int)).2 (24 : Int)).1) fun (s2 : ((Int × (List Int)) × Int × Int)) => (letY (p__law_choose s2.2.1 s2.2.2) fun (s5 : Int) => (bif ((!(p__law_same (p_choose s2.2.1 s2.2.2) s5)) || (!(p__law_same (p_choose s2.2.1 (s2.2.1 - s2.2.2)) s5))) then (false, s2.1) else (letY ((n, k), (k, n), (n, (0 : Int)), (n, n), (n, (n + (1 : Int))), ((0 : Int), n), ((n + k), k)) fun (s11 : ((Int × Int) × (Int × Int) × (Int × Int) × (Int × Int) × (Int × Int) × (Int × Int) × (Int × Int))) => (bif (decide ((0 : Int) < (((([s11.1, s11.2.1, s11.2.2.1, s11.2.2.2.1, s11.2.2.2.2.1, s11.2.2.2.2.2.1, s11.2.2.2.2.2.2] : List (Int × Int)).filter fun (x14 : (Int × Int)) => (!(p__law_same (p_choose x14.1 x14.2) (p__law_choose x14.1 x14.2)))).map fun (x14 : (Int × Int)) => x14).length : Int))) then (false, s2.1) else (letY ((p__law_pascal s2.2.2) ++ ([(0 : Int)] : List Int)) fun (s19 : (List Int)) => ((decide (((((rangeY 0 (s19.length : Int)).filter fun (x22 : Int) => (!(p__law_same (p_choose s2.2.2 x22) (ixY s19 x22)))).map fun (x22 : Int) => x22).length : Int) = (0 : Int))), s2.1)))))))
def g__law_choices (purse : (Int × (List Int))) (n : Int) (k : Int) : Prop :=
  (((g__law_pick purse (24 : Int)) ∧ (g__law_pick (p__law_pick purse (24 : Int)).2 (24 : Int))) ∧ (letY ((p__law_pick (p__law_pick purse (24 : Int)).2 (24 : Int)).2, ((2000 : Int) - (p__law_pick purse (24 : Int)).1), (p__law_pick (p__law_pick purse (24 : Int)).2 (24 : Int)).1) fun (s2 : ((Int × (List Int)) × Int × Int)) => ((g__law_choose s2.2.1 s2.2.2) ∧ (letY (p__law_choose s2.2.1 s2.2.2) fun (s5 : Int) => (((g_choose s2.2.1 s2.2.2) ∧ ((!(p__law_same (p_choose s2.2.1 s2.2.2) s5)) = false → g_choose s2.2.1 (s2.2.1 - s2.2.2))) ∧ (((!(p__law_same (p_choose s2.2.1 s2.2.2) s5)) || (!(p__law_same (p_choose s2.2.1 (s2.2.1 - s2.2.2)) s5))) = true → True) ∧ (((!(p__law_same (p_choose s2.2.1 s2.2.2) s5)) || (!(p__law_same (p_choose s2.2.1 (s2.2.1 - s2.2.2)) s5))) = false → (letY ((n, k), (k, n), (n, (0 : Int)), (n, n), (n, (n + (1 : Int))), ((0 : Int), n), ((n + k), k)) fun (s11 : ((Int × Int) × (Int × Int) × (Int × Int) × (Int × Int) × (Int × Int) × (Int × Int) × (Int × Int))) => (((∀ x14 ∈ ([s11.1, s11.2.1, s11.2.2.1, s11.2.2.2.1, s11.2.2.2.2.1, s11.2.2.2.2.2.1, s11.2.2.2.2.2.2] : List (Int × Int)), g_choose x14.1 x14.2) ∧ (∀ x14 ∈ ([s11.1, s11.2.1, s11.2.2.1, s11.2.2.2.1, s11.2.2.2.2.1, s11.2.2.2.2.2.1, s11.2.2.2.2.2.2] : List (Int × Int)), g__law_choose x14.1 x14.2) ∧ (([s11.1, s11.2.1, s11.2.2.1, s11.2.2.2.1, s11.2.2.2.2.1, s11.2.2.2.2.2.1, s11.2.2.2.2.2.2] : List (Int × Int)).length ≤ big)) ∧ ((decide ((0 : Int) < (((([s11.1, s11.2.1, s11.2.2.1, s11.2.2.2.1, s11.2.2.2.2.1, s11.2.2.2.2.2.1, s11.2.2.2.2.2.2] : List (Int × Int)).filter fun (x14 : (Int × Int)) => (!(p__law_same (p_choose x14.1 x14.2) (p__law_choose x14.1 x14.2)))).map fun (x14 : (Int × Int)) => x14).length : Int))) = true → True) ∧ ((decide ((0 : Int) < (((([s11.1, s11.2.1, s11.2.2.1, s11.2.2.2.1, s11.2.2.2.2.1, s11.2.2.2.2.2.1, s11.2.2.2.2.2.2] : List (Int × Int)).filter fun (x14 : (Int × Int)) => (!(p__law_same (p_choose x14.1 x14.2) (p__law_choose x14.1 x14.2)))).map fun (x14 : (Int × Int)) => x14).length : Int))) = false → (((g__law_pascal s2.2.2) ∧ ((p__law_pascal s2.2.2).length + ([(0 : Int)] : List Int).length ≤ big)) ∧ (letY ((p__law_pascal s2.2.2) ++ ([(0 : Int)] : List Int)) fun (s19 : (List Int)) => ((okR (s19.length : Int)) ∧ (∀ x22 ∈ (rangeY 0 (s19.length : Int)), g_choose s2.2.2 x22) ∧ (∀ x22 ∈ (rangeY 0 (s19.length : Int)), okIx s19.length x22) ∧ ((rangeY 0 (s19.length : Int)).length ≤ big)))))))))))))
theorem s__law_choices (purse : (Int × (List Int))) (n : Int) (k : Int) (hg : g__law_choices purse n k) : f__law_choices [((oN (pC D.int (pZ (eL D.int)))) purse), (.leaf (D.int n)), (.leaf (D.int k))] = .ok (.leaf (D.bl (p__law_choices purse n k).1)) [(oN (pC D.int (pZ (eL D.int)))) (p__law_choices purse n k).2] :=
  Y.fn_of (lent := [0]) (n := 10) (ρ := ([some ((oN (pC D.int (pZ (eL D.int)))) purse), some (.leaf (D.int n)), some (.leaf (D.int k)), none, none, none, none, none, none, none] : Q.Env)) (g := g__law_choices purse n k) (et := (fun b : (Bool × (Int × (List Int))) => .leaf (D.bl b.1))) (el := (fun b : (Bool × (Int × (List Int))) => [(oN (pC D.int (pZ (eL D.int)))) b.2])) (v := p__law_choices purse n k) rfl
  (t_seqN (s := ((p__law_pick (p__law_pick purse (24 : Int)).2 (24 : Int)).2, ((2000 : Int) - (p__law_pick purse (24 : Int)).1), (p__law_pick (p__law_pick purse (24 : Int)).2 (24 : Int)).1)) (show NY _ _ ((g__law_pick purse (24 : Int)) ∧ (g__law_pick (p__law_pick purse (24 : Int)).2 (24 : Int))) (fun (s : ((Int × (List Int)) × Int × Int)) (d : Unit) => ([some ((oN (pC D.int (pZ (eL D.int)))) s.1), some (.leaf (D.int n)), some (.leaf (D.int k)), some (.leaf (D.int s.2.1)), some (.leaf (D.int s.2.2)), none, none, none, none, none] : Q.Env)) ((p__law_pick (p__law_pick purse (24 : Int)).2 (24 : Int)).2, ((2000 : Int) - (p__law_pick purse (24 : Int)).1), (p__law_pick (p__law_pick purse (24 : Int)).2 (24 : Int)).1) from (fun (h1 : (g__law_pick purse (24 : Int)) ∧ (g__law_pick (p__law_pick purse (24 : Int)).2 (24 : Int))) => ⟨(), (asg_eq (y_tup (ds := ((pC D.int (pZ D.int))) (((2000 : Int) - (p__law_pick purse (24 : Int)).1), (p__law_pick (p__law_pick purse (24 : Int)).2 (24 : Int)).1)) (ya_cons (y_sub (y_c (D.int 2000)) (y_call (yc_lend (y_move (t := (oN (pC D.int (pZ (eL D.int)))) purse) rfl rfl) (yc_val (y_c (D.int 24)) yc_nil)) rfl (s__law_pick purse (24 : Int) h1.1) rfl rfl)) (ya_cons (y_call (yc_lend (y_move (t := (oN (pC D.int (pZ (eL D.int)))) (p__law_pick purse (24 : Int)).2) rfl rfl) (yc_val (y_c (D.int 24)) yc_nil)) rfl (s__law_pick (p__law_pick purse (24 : Int)).2 (24 : Int) h1.2) rfl rfl) ya_nil)) rfl rfl) rfl)⟩)) (fun s2 d3 => (t_seqN (s := (p__law_choose s2.2.1 s2.2.2)) (show NY _ _ (g__law_choose s2.2.1 s2.2.2) (fun (s : Int) (d : Unit) => ([some ((oN (pC D.int (pZ (eL D.int)))) s2.1), some (.leaf (D.int n)), some (.leaf (D.int k)), some (.leaf (D.int s2.2.1)), some (.leaf (D.int s2.2.2)), some (.leaf (D.int s)), none, none, none, none] : Q.Env)) (p__law_choose s2.2.1 s2.2.2) from (fun (h4 : (g__law_choose s2.2.1 s2.2.2)) => ⟨(), (set_eq (y_call (yc_val (y_v (D.int s2.2.1) rfl) (yc_val (y_v (D.int s2.2.2) rfl) yc_nil)) rfl (s__law_choose s2.2.1 s2.2.2 h4) rfl rfl) rfl)⟩)) (fun s5 d6 => (t_ifr (x := ((!(p__law_same (p_choose s2.2.1 s2.2.2) s5)) || (!(p__law_same (p_choose s2.2.1 (s2.2.1 - s2.2.2)) s5)))) (fun (h7 : (g_choose s2.2.1 s2.2.2) ∧ ((!(p__law_same (p_choose s2.2.1 s2.2.2) s5)) = false → g_choose s2.2.1 (s2.2.1 - s2.2.2))) => (y_or (y_not (y_test (y_call (yc_val (y_fz (y_call (yc_val (y_v (D.int s2.2.1) rfl) (yc_val (y_v (D.int s2.2.2) rfl) yc_nil)) rfl (s_choose s2.2.1 s2.2.2 h7.1) rfl rfl) rfl) (yc_val (y_v (D.int s5) rfl) yc_nil)) rfl (s__law_same (p_choose s2.2.1 s2.2.2) s5 ) rfl rfl))) (fun k8 => (y_not (y_test (y_call (yc_val (y_fz (y_call (yc_val (y_v (D.int s2.2.1) rfl) (yc_val (y_sub (y_v (D.int s2.2.1) rfl) (y_v (D.int s2.2.2) rfl)) yc_nil)) rfl (s_choose s2.2.1 (s2.2.1 - s2.2.2) (h7.2 k8)) rfl rfl) rfl) (yc_val (y_v (D.int s5) rfl) yc_nil)) rfl (s__law_same (p_choose s2.2.1 (s2.2.1 - s2.2.2)) s5 ) rfl rfl)))))) (t_ret (v := ((false, s2.1) : (Bool × (Int × (List Int))))) (g := True) (fun (h9 : True) => (y_c (D.bl false))) rfl) (t_seqN0 (s := ((n, k), (k, n), (n, (0 : Int)), (n, n), (n, (n + (1 : Int))), ((0 : Int), n), ((n + k), k))) (show NY _ _ True (fun (s : ((Int × Int) × (Int × Int) × (Int × Int) × (Int × Int) × (Int × Int) × (Int × Int) × (Int × Int))) (d : Unit) => ([some ((oN (pC D.int (pZ (eL D.int)))) s2.1), some (.leaf (D.int n)), some (.leaf (D.int k)), some (.leaf (D.int s2.2.1)), some (.leaf (D.int s2.2.2)), some (.leaf (D.int s5)), some (.leaf ((eP (pC (eP (pC D.int (pZ D.int))) (pC (eP (pC D.int (pZ D.int))) (pC (eP (pC D.int (pZ D.int))) (pC (eP (pC D.int (pZ D.int))) (pC (eP (pC D.int (pZ D.int))) (pC (eP (pC D.int (pZ D.int))) (pZ (eP (pC D.int (pZ D.int))))))))))) s)), none, none, none] : Q.Env)) ((n, k), (k, n), (n, (0 : Int)), (n, n), (n, (n + (1 : Int))), ((0 : Int), n), ((n + k), k)) from (fun (h10 : True) => ⟨(), (set_eq (y_tup (ds := ((pC (eP (pC D.int (pZ D.int))) (pC (eP (pC D.int (pZ D.int))) (pC (eP (pC D.int (pZ D.int))) (pC (eP (pC D.int (pZ D.int))) (pC (eP (pC D.int (pZ D.int))) (pC (eP (pC D.int (pZ D.int))) (pZ (eP (pC D.int (pZ D.int))))))))))) ((n, k), (k, n), (n, (0 : Int)), (n, n), (n, (n + (1 : Int))), ((0 : Int), n), ((n + k), k))) (ya_cons (y_tup (ds := ((pC D.int (pZ D.int))) (n, k)) (ya_cons (y_v (D.int n) rfl) (ya_cons (y_v (D.int k) rfl) ya_nil)) rfl rfl) (ya_cons (y_tup (ds := ((pC D.int (pZ D.int))) (k, n)) (ya_cons (y_v (D.int k) rfl) (ya_cons (y_v (D.int n) rfl) ya_nil)) rfl rfl) (ya_cons (y_tup (ds := ((pC D.int (pZ D.int))) (n, (0 : Int))) (ya_cons (y_v (D.int n) rfl) (ya_cons (y_c (D.int 0)) ya_nil)) rfl rfl) (ya_cons (y_tup (ds := ((pC D.int (pZ D.int))) (n, n)) (ya_cons (y_v (D.int n) rfl) (ya_cons (y_v (D.int n) rfl) ya_nil)) rfl rfl) (ya_cons (y_tup (ds := ((pC D.int (pZ D.int))) (n, (n + (1 : Int)))) (ya_cons (y_v (D.int n) rfl) (ya_cons (y_add (y_v (D.int n) rfl) (y_c (D.int 1))) ya_nil)) rfl rfl) (ya_cons (y_tup (ds := ((pC D.int (pZ D.int))) ((0 : Int), n)) (ya_cons (y_c (D.int 0)) (ya_cons (y_v (D.int n) rfl) ya_nil)) rfl rfl) (ya_cons (y_tup (ds := ((pC D.int (pZ D.int))) ((n + k), k)) (ya_cons (y_add (y_v (D.int n) rfl) (y_v (D.int k) rfl)) (ya_cons (y_v (D.int k) rfl) ya_nil)) rfl rfl) ya_nil))))))) rfl rfl) rfl)⟩)) (fun s11 d12 => (t_ifr (x := (decide ((0 : Int) < (((([s11.1, s11.2.1, s11.2.2.1, s11.2.2.2.1, s11.2.2.2.2.1, s11.2.2.2.2.2.1, s11.2.2.2.2.2.2] : List (Int × Int)).filter fun (x14 : (Int × Int)) => (!(p__law_same (p_choose x14.1 x14.2) (p__law_choose x14.1 x14.2)))).map fun (x14 : (Int × Int)) => x14).length : Int)))) (fun (h13 : (∀ x14 ∈ ([s11.1, s11.2.1, s11.2.2.1, s11.2.2.2.1, s11.2.2.2.2.1, s11.2.2.2.2.2.1, s11.2.2.2.2.2.2] : List (Int × Int)), g_choose x14.1 x14.2) ∧ (∀ x14 ∈ ([s11.1, s11.2.1, s11.2.2.1, s11.2.2.2.1, s11.2.2.2.2.1, s11.2.2.2.2.2.1, s11.2.2.2.2.2.2] : List (Int × Int)), g__law_choose x14.1 x14.2) ∧ (([s11.1, s11.2.1, s11.2.2.1, s11.2.2.2.1, s11.2.2.2.2.1, s11.2.2.2.2.2.1, s11.2.2.2.2.2.2] : List (Int × Int)).length ≤ big)) => (y_test (y_gt (y_lenO (e := (eP (pC D.int (pZ D.int)))) (y_comp (e := (eP (pC D.int (pZ D.int)))) (e' := (eP (pC D.int (pZ D.int)))) (l := ([s11.1, s11.2.1, s11.2.2.1, s11.2.2.2.1, s11.2.2.2.2.1, s11.2.2.2.2.2.1, s11.2.2.2.2.2.2] : List (Int × Int))) (Rt := (fun (x14 : (Int × Int)) => ([some ((oN (pC D.int (pZ (eL D.int)))) s2.1), some (.leaf (D.int n)), some (.leaf (D.int k)), some (.leaf (D.int s2.2.1)), some (.leaf (D.int s2.2.2)), some (.leaf (D.int s5)), some (.leaf ((eP (pC (eP (pC D.int (pZ D.int))) (pC (eP (pC D.int (pZ D.int))) (pC (eP (pC D.int (pZ D.int))) (pC (eP (pC D.int (pZ D.int))) (pC (eP (pC D.int (pZ D.int))) (pC (eP (pC D.int (pZ D.int))) (pZ (eP (pC D.int (pZ D.int))))))))))) s11)), none, some (.leaf ((eP (pC D.int (pZ D.int))) x14)), none] : Q.Env))) (x := fun (x14 : (Int × Int)) => (!(p__law_same (p_choose x14.1 x14.2) (p__law_choose x14.1 x14.2)))) (f := fun (x14 : (Int × Int)) => x14) (ρ1 := ([some ((oN (pC D.int (pZ (eL D.int)))) s2.1), some (.leaf (D.int n)), some (.leaf (D.int k)), some (.leaf (D.int s2.2.1)), some (.leaf (D.int s2.2.2)), some (.leaf (D.int s5)), some (.leaf ((eP (pC (eP (pC D.int (pZ D.int))) (pC (eP (pC D.int (pZ D.int))) (pC (eP (pC D.int (pZ D.int))) (pC (eP (pC D.int (pZ D.int))) (pC (eP (pC D.int (pZ D.int))) (pC (eP (pC D.int (pZ D.int))) (pZ (eP (pC D.int (pZ D.int))))))))))) s11)), none, none, none] : Q.Env)) (yi_U (e := (eP (pC D.int (pZ D.int)))) (id (y_v ((eP (pC (eP (pC D.int (pZ D.int))) (pC (eP (pC D.int (pZ D.int))) (pC (eP (pC D.int (pZ D.int))) (pC (eP (pC D.int (pZ D.int))) (pC (eP (pC D.int (pZ D.int))) (pC (eP (pC D.int (pZ D.int))) (pZ (eP (pC D.int (pZ D.int))))))))))) s11) rfl) : _ = Res.ok (T.leaf (eU (eP (pC D.int (pZ D.int))) ([s11.1, s11.2.1, s11.2.2.1, s11.2.2.2.1, s11.2.2.2.2.1, s11.2.2.2.2.2.1, s11.2.2.2.2.2.2] : List (Int × Int)))) _)) rfl (fun _ => rfl) (fun _ => rfl) h13.2.2 (fun x14 m15 => (y_not (y_test (y_call (yc_val (y_fz (y_call (yc_val (y_ixP (y_v ((eP (pC D.int (pZ D.int))) x14) rfl) (y_c (D.int 0)) rfl) (yc_val (y_ixP (y_v ((eP (pC D.int (pZ D.int))) x14) rfl) (y_c (D.int 1)) rfl) yc_nil)) rfl (s_choose x14.1 x14.2 (h13.1 x14 m15)) rfl rfl) rfl) (yc_val (y_fz (y_call (yc_val (y_ixP (y_v ((eP (pC D.int (pZ D.int))) x14) rfl) (y_c (D.int 0)) rfl) (yc_val (y_ixP (y_v ((eP (pC D.int (pZ D.int))) x14) rfl) (y_c (D.int 1)) rfl) yc_nil)) rfl (s__law_choose x14.1 x14.2 (h13.2.1 x14 m15)) rfl rfl) rfl) yc_nil)) rfl (s__law_same (p_choose x14.1 x14.2) (p__law_choose x14.1 x14.2) ) rfl rfl)))) (fun x14 m15 k16 => (y_v ((eP (pC D.int (pZ D.int))) x14) rfl)))) (y_c (D.int 0))))) (t_ret (v := ((false, s2.1) : (Bool × (Int × (List Int))))) (g := True) (fun (h17 : True) => (y_c (D.bl false))) rfl) (t_seqN (s := ((p__law_pascal s2.2.2) ++ ([(0 : Int)] : List Int))) (show NY _ _ ((g__law_pascal s2.2.2) ∧ ((p__law_pascal s2.2.2).length + ([(0 : Int)] : List Int).length ≤ big)) (fun (s : (List Int)) (d : Unit) => ([some ((oN (pC D.int (pZ (eL D.int)))) s2.1), some (.leaf (D.int n)), some (.leaf (D.int k)), some (.leaf (D.int s2.2.1)), some (.leaf (D.int s2.2.2)), some (.leaf (D.int s5)), some (.leaf ((eP (pC (eP (pC D.int (pZ D.int))) (pC (eP (pC D.int (pZ D.int))) (pC (eP (pC D.int (pZ D.int))) (pC (eP (pC D.int (pZ D.int))) (pC (eP (pC D.int (pZ D.int))) (pC (eP (pC D.int (pZ D.int))) (pZ (eP (pC D.int (pZ D.int))))))))))) s11)), some (.leaf ((eL D.int) s)), none, none] : Q.Env)) ((p__law_pascal s2.2.2) ++ ([(0 : Int)] : List Int)) from (fun (h18 : (g__law_pascal s2.2.2) ∧ ((p__law_pascal s2.2.2).length + ([(0 : Int)] : List Int).length ≤ big)) => ⟨(), (set_eqL (e := D.int) (l := ((p__law_pascal s2.2.2) ++ ([(0 : Int)] : List Int))) (y_addL (e := D.int) (y_call (yc_val (y_v (D.int s2.2.2) rfl) yc_nil) rfl (s__law_pascal s2.2.2 h18.1) rfl rfl) rfl (y_lst (ya_cons (y_c (D.int 0)) ya_nil) rfl) (oL_toD D.int ([(0 : Int)] : List Int)) h18.2) rfl)⟩)) (fun s19 d20 => (t_ret (v := (((decide (((((rangeY 0 (s19.length : Int)).filter fun (x22 : Int) => (!(p__law_same (p_choose s2.2.2 x22) (ixY s19 x22)))).map fun (x22 : Int) => x22).length : Int) = (0 : Int))), s2.1) : (Bool × (Int × (List Int))))) (g := ((okR (s19.length : Int)) ∧ (∀ x22 ∈ (rangeY 0 (s19.length : Int)), g_choose s2.2.2 x22) ∧ (∀ x22 ∈ (rangeY 0 (s19.length : Int)), okIx s19.length x22) ∧ ((rangeY 0 (s19.length : Int)).length ≤ big))) (fun (h21 : (okR (s19.length : Int)) ∧ (∀ x22 ∈ (rangeY 0 (s19.length : Int)), g_choose s2.2.2 x22) ∧ (∀ x22 ∈ (rangeY 0 (s19.length : Int)), okIx s19.length x22) ∧ ((rangeY 0 (s19.length : Int)).length ≤ big)) => (y_eq (e := D.int) qe_int (x := ((((rangeY 0 (s19.length : Int)).filter fun (x22 : Int) => (!(p__law_same (p_choose s2.2.2 x22) (ixY s19 x22)))).map fun (x22 : Int) => x22).length : Int)) (y := (0 : Int)) trivial trivial (y_lenO (e := D.int) (y_comp (e := D.int) (e' := D.int) (l := (rangeY 0 (s19.length : Int))) (Rt := (fun (x22 : Int) => ([some ((oN (pC D.int (pZ (eL D.int)))) s2.1), some (.leaf (D.int n)), some (.leaf (D.int k)), some (.leaf (D.int s2.2.1)), some (.leaf (D.int s2.2.2)), some (.leaf (D.int s5)), some (.leaf ((eP (pC (eP (pC D.int (pZ D.int))) (pC (eP (pC D.int (pZ D.int))) (pC (eP (pC D.int (pZ D.int))) (pC (eP (pC D.int (pZ D.int))) (pC (eP (pC D.int (pZ D.int))) (pC (eP (pC D.int (pZ D.int))) (pZ (eP (pC D.int (pZ D.int))))))))))) s11)), some (.leaf ((eL D.int) s19)), none, some (.leaf (D.int x22))] : Q.Env))) (x := fun (x22 : Int) => (!(p__law_same (p_choose s2.2.2 x22) (ixY s19 x22)))) (f := fun (x22 : Int) => x22) (ρ1 := ([some ((oN (pC D.int (pZ (eL D.int)))) s2.1), some (.leaf (D.int n)), some (.leaf (D.int k)), some (.leaf (D.int s2.2.1)), some (.leaf (D.int s2.2.2)), some (.leaf (D.int s5)), some (.leaf ((eP (pC (eP (pC D.int (pZ D.int))) (pC (eP (pC D.int (pZ D.int))) (pC (eP (pC D.int (pZ D.int))) (pC (eP (pC D.int (pZ D.int))) (pC (eP (pC D.int (pZ D.int))) (pC (eP (pC D.int (pZ D.int))) (pZ (eP (pC D.int (pZ D.int))))))))))) s11)), some (.leaf ((eL D.int) s19)), none, none] : Q.Env)) (yi_range1 (y_lenL (e := D.int) (y_v ((eL D.int) s19) rfl)) h21.1) rfl (fun _ => rfl) (fun _ => rfl) h21.2.2.2 (fun x22 m23 => (y_not (y_test (y_call (yc_val (y_fz (y_call (yc_val (y_v (D.int s2.2.2) rfl) (yc_val (y_v (D.int x22) rfl) yc_nil)) rfl (s_choose s2.2.2 x22 (h21.2.1 x22 m23)) rfl rfl) rfl) (yc_val (y_ixL (e := D.int) (y_v ((eL D.int) s19) rfl) (y_v (D.int x22) rfl) (h21.2.2.1 x22 m23)) yc_nil)) rfl (s__law_same (p_choose s2.2.2 x22) (ixY s19 x22) ) rfl rfl)))) (fun x22 m23 k24 => (y_v (D.int x22) rfl)))) (y_c (D.int 0)))) rfl))) ))) ))))) hg
def p_is_list (x : (List Int)) : Bool :=
  true
theorem s_is_list (x : (List Int)) : f_is_list [(.leaf ((eL D.int) x))] = .ok (.leaf (D.bl (p_is_list x))) [] :=
  Y.fn_of (lent := []) (n := 1) (ρ := ([some (.leaf ((eL D.int) x))] : Q.Env)) (g := True) (et := (fun b : Bool => .leaf (D.bl b))) (el := (fun b : Bool => [])) (v := p_is_list x) rfl
  (t_ret (v := (true : Bool)) (g := True) (fun (h1 : True) => (y_isiT (v := true) (y_v ((eL D.int) x) rfl) (show ("list" : String) ≠ "?" by decide) (by rfl))) rfl) trivial
def b_check_counts_1 (numbers : (List Int)) (a5 : Int) (s6 : Unit) : Unit :=
  ()
def gb_check_counts_1 (numbers : (List Int)) (a5 : Int) (s6 : Unit) : Prop :=
  (((okIx numbers.length a5) ∧ ((!(p_is_int (ixY numbers a5))) = false → okIx numbers.length a5)) ∧ ((!(p_is_int (ixY numbers a5))) || (decide ((ixY numbers a5) < (0 : Int)))) = false)
def p_check_counts (numbers : (List Int)) : (List Int) :=
  numbers
def g_check_counts (numbers : (List Int)) : Prop :=
  ((True ∧ (!(p_is_list numbers)) = false) ∧ (((okR (numbers.length : Int)) ∧ foldG (gb_check_counts_1 numbers) (b_check_counts_1 numbers) (rangeY 0 (numbers.length : Int)) ()) ∧ True))
theorem s_check_counts (numbers : (List Int)) (hg : g_check_counts numbers) : f_check_counts [(.leaf ((eL D.int) numbers))] = .ok (.leaf ((eU D.int) (p_check_counts numbers))) [] :=
  Y.fn_of (lent := []) (n := 2) (ρ := ([some (.leaf ((eL D.int) numbers)), none] : Q.Env)) (g := g_check_counts numbers) (et := (fun b : (List Int) => .leaf ((eU D.int) b))) (el := (fun b : (List Int) => [])) (v := p_check_counts numbers) rfl
  (t_seqU (n_ifno (R := (fun (s : Unit) (d : Unit) => ([some (.leaf ((eL D.int) numbers)), none] : Q.Env))) (d := ()) (fun (h1 : True) => (y_not (y_test (y_call (yc_val (y_v ((eL D.int) numbers) rfl) yc_nil) rfl (s_is_list numbers ) rfl rfl)))) rfl) (fun d3 => (t_seqU (n_for (e := D.int) (l := (rangeY 0 (numbers.length : Int))) (s := ()) (d0 := (none : Option T)) (R := (fun (s : Unit) (d : Option T) => ([some (.leaf ((eL D.int) numbers)), d] : Q.Env))) (Rt := (fun (a5 : Int) (s6 : Unit) (d7 : Option T) => ([some (.leaf ((eL D.int) numbers)), some (.leaf (D.int a5))] : Q.Env))) (gb := (gb_check_counts_1 numbers)) (f := (b_check_counts_1 numbers)) (fun (h4 : (okR (numbers.length : Int))) => (yi_range1 (y_lenL (e := D.int) (y_v ((eL D.int) numbers) rfl)) h4)) rfl (fun _ _ _ => rfl) (fun a5 s6 d7 => (n_lastU (R := (fun (s : Unit) (d : Option T) => ([some (.leaf ((eL D.int) numbers)), d] : Q.Env))) (v := ()) (n_ifno (R := (fun (s : Unit) (d : Unit) => ([some (.leaf ((eL D.int) numbers)), some (.leaf (D.int a5))] : Q.Env))) (d := ()) (fun (h8 : (okIx numbers.length a5) ∧ ((!(p_is_int (ixY numbers a5))) = false → okIx numbers.length a5)) => (y_or (y_not (y_test (y_call (yc_val (y_ixL (e := D.int) (y_v ((eL D.int) numbers) rfl) (y_v (D.int a5) rfl) h8.1) yc_nil) rfl (s_is_int (ixY numbers a5) ) rfl rfl))) (fun k9 => (y_test (y_lt (y_ixL (e := D.int) (y_v ((eL D.int) numbers) rfl) (y_v (D.int a5) rfl) (h8.2 k9)) (y_c (D.int 0))))))) rfl) (fun d11 => ⟨(some (.leaf (D.int a5)) : Option T), rfl⟩)))) (fun d13 => (t_ret (v := (numbers : (List Int))) (g := True) (fun (h14 : True) => (y_tupleL (e := D.int) (l := numbers) (y_v ((eL D.int) numbers) rfl) rfl)) rfl))))) hg
def b_product_sums_1 (a8 : Int) (a12 : Int) (s13 : (List Int)) : (List Int) :=
  (setY s13 a12 ((ixY s13 a12) + (a8 * (ixY s13 (a12 - (1 : Int))))))
def gb_product_sums_1 (a8 : Int) (a12 : Int) (s13 : (List Int)) : Prop :=
  ((okIx s13.length a12) ∧ (okIx s13.length (a12 - (1 : Int))) ∧ (okMul a8 (ixY s13 (a12 - (1 : Int))) = true) ∧ (okIx s13.length a12))
def b_product_sums_2 (j : Int) (a8 : Int) (s9 : (List Int)) : (List Int) :=
  (foldY (b_product_sums_1 a8) (downY j (0 : Int)) s9)
def gb_product_sums_2 (j : Int) (a8 : Int) (s9 : (List Int)) : Prop :=
  ((okR j) ∧ foldG (gb_product_sums_1 a8) (b_product_sums_1 a8) (downY j (0 : Int)) s9)
def p_product_sums (numbers : (List Int)) (j : Int) : (List Int) :=
  (letY (repY ([(0 : Int)] : List Int) (j + (1 : Int))) fun (s2 : (List Int)) => (letY (setY s2 (0 : Int) (1 : Int)) fun (s5 : (List Int)) => (letY (foldY (b_product_sums_2 j) numbers s5) fun (s20 : (List Int)) => s20)))
def g_product_sums (numbers : (List Int)) (j : Int) : Prop :=
  ((okRep ([(0 : Int)] : List Int).length (j + (1 : Int))) ∧ (letY (repY ([(0 : Int)] : List Int) (j + (1 : Int))) fun (s2 : (List Int)) => ((okIx s2.length (0 : Int)) ∧ (letY (setY s2 (0 : Int) (1 : Int)) fun (s5 : (List Int)) => (True ∧ foldG (gb_product_sums_2 j) (b_product_sums_2 j) numbers s5)))))
theorem s_product_sums (numbers : (List Int)) (j : Int) (hg : g_product_sums numbers j) : f_product_sums [(.leaf ((eU D.int) numbers)), (.leaf (D.int j))] = .ok ((oL D.int) (p_product_sums numbers j)) [] :=
  Y.fn_of (lent := []) (n := 5) (ρ := ([some (.leaf ((eU D.int) numbers)), some (.leaf (D.int j)), none, none, none] : Q.Env)) (g := g_product_sums numbers j) (et := (fun b : (List Int) => (oL D.int) b)) (el := (fun b : (List Int) => [])) (v := p_product_sums numbers j) rfl
  (t_seqN (s := (repY ([(0 : Int)] : List Int) (j + (1 : Int)))) (show NY _ _ (okRep ([(0 : Int)] : List Int).length (j + (1 : Int))) (fun (s : (List Int)) (d : Unit) => ([some (.leaf ((eU D.int) numbers)), some (.leaf (D.int j)), some ((oL D.int) s), none, none] : Q.Env)) (repY ([(0 : Int)] : List Int) (j + (1 : Int))) from (fun (h1 : (okRep ([(0 : Int)] : List Int).length (j + (1 : Int)))) => ⟨(), (setO_eq (y_mulL (e := D.int) (y_lst (ya_cons (y_c (D.int 0)) ya_nil) rfl) (oL_toD D.int ([(0 : Int)] : List Int)) (y_add (y_v (D.int j) rfl) (y_c (D.int 1))) h1) rfl)⟩)) (fun s2 d3 => (t_seqN (s := (setY s2 (0 : Int) (1 : Int))) (show NY _ _ (okIx s2.length (0 : Int)) (fun (s : (List Int)) (d : Unit) => ([some (.leaf ((eU D.int) numbers)), some (.leaf (D.int j)), some ((oL D.int) s), none, none] : Q.Env)) (setY s2 (0 : Int) (1 : Int)) from (fun (h4 : (okIx s2.length (0 : Int))) => ⟨(), (setix_eq (e := D.int) (l := s2) (v := (1 : Int)) (y_c (D.int 1)) rfl rfl (y_c (D.int 0)) rfl h4 rfl)⟩)) (fun s5 d6 => (t_seqNP (s := (foldY (b_product_sums_2 j) numbers s5)) (n_for (e := D.int) (l := numbers) (s := s5) (d0 := ((none : Option T), (none : Option T))) (R := (fun (s : (List Int)) (d : Option T × Option T) => ([some (.leaf ((eU D.int) numbers)), some (.leaf (D.int j)), some ((oL D.int) s), d.1, d.2] : Q.Env))) (Rt := (fun (a8 : Int) (s9 : (List Int)) (d10 : Option T × Option T) => ([some (.leaf ((eU D.int) numbers)), some (.leaf (D.int j)), some ((oL D.int) s9), some (.leaf (D.int a8)), d10.2] : Q.Env))) (gb := (gb_product_sums_2 j)) (f := (b_product_sums_2 j)) (fun (h7 : True) => (yi_U (e := D.int) (y_v ((eU D.int) numbers) rfl))) rfl (fun _ _ _ => rfl) (fun a8 s9 d10 => (n_lastI (R := (fun (s : (List Int)) (d : Option T × Option T) => ([some (.leaf ((eU D.int) numbers)), some (.leaf (D.int j)), some ((oL D.int) s), d.1, d.2] : Q.Env))) (n_for (e := D.int) (l := (downY j (0 : Int))) (s := s9) (d0 := (d10.2 : Option T)) (R := (fun (s : (List Int)) (d : Option T) => ([some (.leaf ((eU D.int) numbers)), some (.leaf (D.int j)), some ((oL D.int) s), some (.leaf (D.int a8)), d] : Q.Env))) (Rt := (fun (a12 : Int) (s13 : (List Int)) (d14 : Option T) => ([some (.leaf ((eU D.int) numbers)), some (.leaf (D.int j)), some ((oL D.int) s13), some (.leaf (D.int a8)), some (.leaf (D.int a12))] : Q.Env))) (gb := (gb_product_sums_1 a8)) (f := (b_product_sums_1 a8)) (fun (h11 : (okR j)) => (yi_down (y_v (D.int j) rfl) (y_c (D.int 0)) (y_neg (y_c (D.int 1))) h11 (okR_small (by decide)))) rfl (fun _ _ _ => rfl) (fun a12 s13 d14 => (n_lastI (R := (fun (s : (List Int)) (d : Option T) => ([some (.leaf ((eU D.int) numbers)), some (.leaf (D.int j)), some ((oL D.int) s), some (.leaf (D.int a8)), d] : Q.Env))) (show NY _ _ ((okIx s13.length a12) ∧ (okIx s13.length (a12 - (1 : Int))) ∧ (okMul a8 (ixY s13 (a12 - (1 : Int))) = true) ∧ (okIx s13.length a12)) (fun (s : (List Int)) (d : Unit) => ([some (.leaf ((eU D.int) numbers)), some (.leaf (D.int j)), some ((oL D.int) s), some (.leaf (D.int a8)), some (.leaf (D.int a12))] : Q.Env)) (setY s13 a12 ((ixY s13 a12) + (a8 * (ixY s13 (a12 - (1 : Int)))))) from (fun (h15 : (okIx s13.length a12) ∧ (okIx s13.length (a12 - (1 : Int))) ∧ (okMul a8 (ixY s13 (a12 - (1 : Int))) = true) ∧ (okIx s13.length a12)) => ⟨(), (setix_eq (e := D.int) (l := s13) (v := ((ixY s13 a12) + (a8 * (ixY s13 (a12 - (1 : Int)))))) (y_add (y_ixPk (e := D.int) (l := s13) rfl (y_v (D.int a12) rfl) rfl h15.1) (y_mul (y_v (D.int a8) rfl) (y_ixPk (e := D.int) (l := s13) rfl (y_sub (y_v (D.int a12) rfl) (y_c (D.int 1))) rfl h15.2.1) h15.2.2.1)) rfl rfl (y_v (D.int a12) rfl) rfl h15.2.2.2 rfl)⟩)) (fun s16 d17 => ⟨(some (.leaf (D.int a12)) : Option T), rfl⟩)))) (fun s18 d19 => ⟨((some (.leaf (D.int a8)) : Option T), (d19 : Option T)), rfl⟩)))) (fun s20 d21 => (t_ret (v := (s20 : (List Int))) (g := True) (fun (h22 : True) => (y_move (t := (oL D.int) s20) rfl rfl)) rfl))))))) hg
def p_symmetric (numbers : (List Int)) (j : Int) : Int :=
  (letY (p_check_counts numbers) fun (s2 : (List Int)) => (bif (decide ((s2.length : Int) < j)) then (0 : Int) else (ixY (p_product_sums s2 j) j)))
def g_symmetric (numbers : (List Int)) (j : Int) : Prop :=
  ((g_check_counts numbers) ∧ (letY (p_check_counts numbers) fun (s2 : (List Int)) => ((g_check_number j (0 : Int)) ∧ (True ∧ ((decide ((s2.length : Int) < j)) = true → True) ∧ ((decide ((s2.length : Int) < j)) = false → ((g_product_sums s2 j) ∧ (okIx (p_product_sums s2 j).length j)))))))
theorem s_symmetric (numbers : (List Int)) (j : Int) (hg : g_symmetric numbers j) : f_symmetric [(.leaf ((eL D.int) numbers)), (.leaf (D.int j))] = .ok (.leaf (D.int (p_symmetric numbers j))) [] :=
  Y.fn_of (lent := []) (n := 3) (ρ := ([some (.leaf ((eL D.int) numbers)), some (.leaf (D.int j)), none] : Q.Env)) (g := g_symmetric numbers j) (et := (fun b : Int => .leaf (D.int b))) (el := (fun b : Int => [])) (v := p_symmetric numbers j) rfl
  (t_seqN (s := (p_check_counts numbers)) (show NY _ _ (g_check_counts numbers) (fun (s : (List Int)) (d : Unit) => ([some (.leaf ((eL D.int) numbers)), some (.leaf (D.int j)), some (.leaf ((eU D.int) s))] : Q.Env)) (p_check_counts numbers) from (fun (h1 : (g_check_counts numbers)) => ⟨(), (set_eq (y_call (yc_val (y_v ((eL D.int) numbers) rfl) yc_nil) rfl (s_check_counts numbers h1) rfl rfl) rfl)⟩)) (fun s2 d3 => (t_seqU (show NY _ _ (g_check_number j (0 : Int)) (fun (s : Unit) (d : Unit) => ([some (.leaf ((eL D.int) numbers)), some (.leaf (D.int j)), some (.leaf ((eU D.int) s2))] : Q.Env)) () from (fun (h4 : (g_check_number j (0 : Int))) => ⟨(), (drop_eq (y_call (yc_val (y_v (D.int j) rfl) (yc_val (y_c (D.int 0)) yc_nil)) rfl (s_check_number j (0 : Int) h4) rfl rfl))⟩)) (fun d6 => (t_ifr (x := (decide ((s2.length : Int) < j))) (fun (h7 : True) => (y_test (y_gt (y_v (D.int j) rfl) (y_lenU (e := D.int) (y_v ((eU D.int) s2) rfl))))) (t_ret (v := ((0 : Int) : Int)) (g := True) (fun (h8 : True) => (y_c (D.int 0))) rfl) (t_ret (v := ((ixY (p_product_sums s2 j) j) : Int)) (g := ((g_product_sums s2 j) ∧ (okIx (p_product_sums s2 j).length j))) (fun (h9 : (g_product_sums s2 j) ∧ (okIx (p_product_sums s2 j).length j)) => (y_ixO (e := D.int) (l := (p_product_sums s2 j)) (y_call (yc_val (y_v ((eU D.int) s2) rfl) (yc_val (y_v (D.int j) rfl) yc_nil)) rfl (s_product_sums s2 j h9.1) rfl rfl) (oL_toD D.int (p_product_sums s2 j)) (y_v (D.int j) rfl) h9.2)) rfl) ))))) hg
def p_is_list_2 (x : (List Int)) : Bool :=
  true
theorem s_is_list_2 (x : (List Int)) : f_is_list [(.leaf ((eU D.int) x))] = .ok (.leaf (D.bl (p_is_list_2 x))) [] :=
  Y.fn_of (lent := []) (n := 1) (ρ := ([some (.leaf ((eU D.int) x))] : Q.Env)) (g := True) (et := (fun b : Bool => .leaf (D.bl b))) (el := (fun b : Bool => [])) (v := p_is_list_2 x) rfl
  (t_ret (v := (true : Bool)) (g := True) (fun (h1 : True) => (y_isiT (v := true) (y_v ((eU D.int) x) rfl) (show ("tuple" : String) ≠ "?" by decide) (by rfl))) rfl) trivial
def b_check_counts_2_1 (numbers : (List Int)) (a5 : Int) (s6 : Unit) : Unit :=
  ()
def gb_check_counts_2_1 (numbers : (List Int)) (a5 : Int) (s6 : Unit) : Prop :=
  (((okIx numbers.length a5) ∧ ((!(p_is_int (ixY numbers a5))) = false → okIx numbers.length a5)) ∧ ((!(p_is_int (ixY numbers a5))) || (decide ((ixY numbers a5) < (0 : Int)))) = false)
def p_check_counts_2 (numbers : (List Int)) : (List Int) :=
  numbers
def g_check_counts_2 (numbers : (List Int)) : Prop :=
  ((True ∧ (!(p_is_list_2 numbers)) = false) ∧ (((okR (numbers.length : Int)) ∧ foldG (gb_check_counts_2_1 numbers) (b_check_counts_2_1 numbers) (rangeY 0 (numbers.length : Int)) ()) ∧ True))
theorem s_check_counts_2 (numbers : (List Int)) (hg : g_check_counts_2 numbers) : f_check_counts [(.leaf ((eU D.int) numbers))] = .ok (.leaf ((eU D.int) (p_check_counts_2 numbers))) [] :=
  Y.fn_of (lent := []) (n := 2) (ρ := ([some (.leaf ((eU D.int) numbers)), none] : Q.Env)) (g := g_check_counts_2 numbers) (et := (fun b : (List Int) => .leaf ((eU D.int) b))) (el := (fun b : (List Int) => [])) (v := p_check_counts_2 numbers) rfl
  (t_seqU (n_ifno (R := (fun (s : Unit) (d : Unit) => ([some (.leaf ((eU D.int) numbers)), none] : Q.Env))) (d := ()) (fun (h1 : True) => (y_not (y_test (y_call (yc_val (y_v ((eU D.int) numbers) rfl) yc_nil) rfl (s_is_list_2 numbers ) rfl rfl)))) rfl) (fun d3 => (t_seqU (n_for (e := D.int) (l := (rangeY 0 (numbers.length : Int))) (s := ()) (d0 := (none : Option T)) (R := (fun (s : Unit) (d : Option T) => ([some (.leaf ((eU D.int) numbers)), d] : Q.Env))) (Rt := (fun (a5 : Int) (s6 : Unit) (d7 : Option T) => ([some (.leaf ((eU D.int) numbers)), some (.leaf (D.int a5))] : Q.Env))) (gb := (gb_check_counts_2_1 numbers)) (f := (b_check_counts_2_1 numbers)) (fun (h4 : (okR (numbers.length : Int))) => (yi_range1 (y_lenU (e := D.int) (y_v ((eU D.int) numbers) rfl)) h4)) rfl (fun _ _ _ => rfl) (fun a5 s6 d7 => (n_lastU (R := (fun (s : Unit) (d : Option T) => ([some (.leaf ((eU D.int) numbers)), d] : Q.Env))) (v := ()) (n_ifno (R := (fun (s : Unit) (d : Unit) => ([some (.leaf ((eU D.int) numbers)), some (.leaf (D.int a5))] : Q.Env))) (d := ()) (fun (h8 : (okIx numbers.length a5) ∧ ((!(p_is_int (ixY numbers a5))) = false → okIx numbers.length a5)) => (y_or (y_not (y_test (y_call (yc_val (y_ixU (e := D.int) (y_v ((eU D.int) numbers) rfl) (y_v (D.int a5) rfl) h8.1) yc_nil) rfl (s_is_int (ixY numbers a5) ) rfl rfl))) (fun k9 => (y_test (y_lt (y_ixU (e := D.int) (y_v ((eU D.int) numbers) rfl) (y_v (D.int a5) rfl) (h8.2 k9)) (y_c (D.int 0))))))) rfl) (fun d11 => ⟨(some (.leaf (D.int a5)) : Option T), rfl⟩)))) (fun d13 => (t_ret (v := (numbers : (List Int))) (g := True) (fun (h14 : True) => (y_tupleU (e := D.int) (y_v ((eU D.int) numbers) rfl))) rfl))))) hg
def p_symmetric_2 (numbers : (List Int)) (j : Int) : Int :=
  (letY (p_check_counts_2 numbers) fun (s2 : (List Int)) => (bif (decide ((s2.length : Int) < j)) then (0 : Int) else (ixY (p_product_sums s2 j) j)))
def g_symmetric_2 (numbers : (List Int)) (j : Int) : Prop :=
  ((g_check_counts_2 numbers) ∧ (letY (p_check_counts_2 numbers) fun (s2 : (List Int)) => ((g_check_number j (0 : Int)) ∧ (True ∧ ((decide ((s2.length : Int) < j)) = true → True) ∧ ((decide ((s2.length : Int) < j)) = false → ((g_product_sums s2 j) ∧ (okIx (p_product_sums s2 j).length j)))))))
theorem s_symmetric_2 (numbers : (List Int)) (j : Int) (hg : g_symmetric_2 numbers j) : f_symmetric [(.leaf ((eU D.int) numbers)), (.leaf (D.int j))] = .ok (.leaf (D.int (p_symmetric_2 numbers j))) [] :=
  Y.fn_of (lent := []) (n := 3) (ρ := ([some (.leaf ((eU D.int) numbers)), some (.leaf (D.int j)), none] : Q.Env)) (g := g_symmetric_2 numbers j) (et := (fun b : Int => .leaf (D.int b))) (el := (fun b : Int => [])) (v := p_symmetric_2 numbers j) rfl
  (t_seqN (s := (p_check_counts_2 numbers)) (show NY _ _ (g_check_counts_2 numbers) (fun (s : (List Int)) (d : Unit) => ([some (.leaf ((eU D.int) numbers)), some (.leaf (D.int j)), some (.leaf ((eU D.int) s))] : Q.Env)) (p_check_counts_2 numbers) from (fun (h1 : (g_check_counts_2 numbers)) => ⟨(), (set_eq (y_call (yc_val (y_v ((eU D.int) numbers) rfl) yc_nil) rfl (s_check_counts_2 numbers h1) rfl rfl) rfl)⟩)) (fun s2 d3 => (t_seqU (show NY _ _ (g_check_number j (0 : Int)) (fun (s : Unit) (d : Unit) => ([some (.leaf ((eU D.int) numbers)), some (.leaf (D.int j)), some (.leaf ((eU D.int) s2))] : Q.Env)) () from (fun (h4 : (g_check_number j (0 : Int))) => ⟨(), (drop_eq (y_call (yc_val (y_v (D.int j) rfl) (yc_val (y_c (D.int 0)) yc_nil)) rfl (s_check_number j (0 : Int) h4) rfl rfl))⟩)) (fun d6 => (t_ifr (x := (decide ((s2.length : Int) < j))) (fun (h7 : True) => (y_test (y_gt (y_v (D.int j) rfl) (y_lenU (e := D.int) (y_v ((eU D.int) s2) rfl))))) (t_ret (v := ((0 : Int) : Int)) (g := True) (fun (h8 : True) => (y_c (D.int 0))) rfl) (t_ret (v := ((ixY (p_product_sums s2 j) j) : Int)) (g := ((g_product_sums s2 j) ∧ (okIx (p_product_sums s2 j).length j))) (fun (h9 : (g_product_sums s2 j) ∧ (okIx (p_product_sums s2 j).length j)) => (y_ixO (e := D.int) (l := (p_product_sums s2 j)) (y_call (yc_val (y_v ((eU D.int) s2) rfl) (yc_val (y_v (D.int j) rfl) yc_nil)) rfl (s_product_sums s2 j h9.1) rfl rfl) (oL_toD D.int (p_product_sums s2 j)) (y_v (D.int j) rfl) h9.2)) rfl) ))))) hg
def b_times_over_1 (s4 : (Int × Int × Int)) : Bool :=
  (decide ((0 : Int) < s4.2.1))
def gb_times_over_1 (s4 : (Int × Int × Int)) : Prop :=
  True
def b_times_over_2 (s4 : (Int × Int × Int)) : (Int × Int × Int) :=
  (letY (bif (decide ((s4.2.1 % (2 : Int)) = (1 : Int))) then (s4.2.2 * s4.1) else s4.2.2) fun (s11 : Int) => (letY (s4.1 * s4.1) fun (s14 : Int) => (letY (s4.2.1 / (2 : Int)) fun (s17 : Int) => (s14, s17, s11))))
def gb_times_over_2 (s4 : (Int × Int × Int)) : Prop :=
  ((True ∧ ((decide ((s4.2.1 % (2 : Int)) = (1 : Int))) = true → (okMul s4.2.2 s4.1 = true)) ∧ ((decide ((s4.2.1 % (2 : Int)) = (1 : Int))) = false → True)) ∧ (letY (bif (decide ((s4.2.1 % (2 : Int)) = (1 : Int))) then (s4.2.2 * s4.1) else s4.2.2) fun (s11 : Int) => (okMul s4.1 s4.1 = true)))
def p_times_over (base : Int) (many : Int) : Int :=
  (letY (1 : Int) fun (s2 : Int) => (letY (whY b_times_over_1 b_times_over_2 100000 (base, many, s2)) fun (s19 : (Int × Int × Int)) => s19.2.2))
def g_times_over (base : Int) (many : Int) : Prop :=
  (letY (1 : Int) fun (s2 : Int) => (whG gb_times_over_1 b_times_over_1 gb_times_over_2 b_times_over_2 100000 (base, many, s2)))
theorem s_times_over (base : Int) (many : Int) (hg : g_times_over base many) : f_times_over [(.leaf (D.int base)), (.leaf (D.int many))] = .ok (.leaf (D.int (p_times_over base many))) [] :=
  Y.fn_of (lent := []) (n := 3) (ρ := ([some (.leaf (D.int base)), some (.leaf (D.int many)), none] : Q.Env)) (g := g_times_over base many) (et := (fun b : Int => .leaf (D.int b))) (el := (fun b : Int => [])) (v := p_times_over base many) rfl
  (t_seqN0 (s := (1 : Int)) (show NY _ _ True (fun (s : Int) (d : Unit) => ([some (.leaf (D.int base)), some (.leaf (D.int many)), some (.leaf (D.int s))] : Q.Env)) (1 : Int) from (fun (h1 : True) => ⟨(), (set_eq (y_c (D.int 1)) rfl)⟩)) (fun s2 d3 => (t_seqNP (s := (whY b_times_over_1 b_times_over_2 100000 (base, many, s2))) (n_wh (R := (fun (s : (Int × Int × Int)) (d : Unit) => ([some (.leaf (D.int s.1)), some (.leaf (D.int s.2.1)), some (.leaf (D.int s.2.2))] : Q.Env))) (R1 := (fun (s : (Int × Int × Int)) (d : Unit) => ([some (.leaf (D.int s.1)), some (.leaf (D.int s.2.1)), some (.leaf (D.int s.2.2))] : Q.Env))) (s := (base, many, s2)) (d0 := ()) (gc := gb_times_over_1) (gb := gb_times_over_2) (x := b_times_over_1) (f := b_times_over_2) rfl (fun s4 d5 => (fun (h6 : True) => ⟨d5, (y_test (y_gt (y_v (D.int s4.2.1) rfl) (y_c (D.int 0))))⟩)) (fun _ d => ⟨d, rfl⟩) (fun s4 d5 => (n_seq (s := (bif (decide ((s4.2.1 % (2 : Int)) = (1 : Int))) then (s4.2.2 * s4.1) else s4.2.2)) (n_if (x := (decide ((s4.2.1 % (2 : Int)) = (1 : Int)))) (fun (h7 : True) => (y_test (y_eq (e := D.int) qe_int (x := (s4.2.1 % (2 : Int))) (y := (1 : Int)) trivial trivial (y_mod (y_v (D.int s4.2.1) rfl) (y_c (D.int 2)) (by decide)) (y_c (D.int 1))))) (n_lastI (R := (fun (s : Int) (d : Unit) => ([some (.leaf (D.int s4.1)), some (.leaf (D.int s4.2.1)), some (.leaf (D.int s))] : Q.Env))) (show NY _ _ (okMul s4.2.2 s4.1 = true) (fun (s : Int) (d : Unit) => ([some (.leaf (D.int s4.1)), some (.leaf (D.int s4.2.1)), some (.leaf (D.int s))] : Q.Env)) (s4.2.2 * s4.1) from (fun (h8 : (okMul s4.2.2 s4.1 = true)) => ⟨(), (set_eq (y_mul (y_v (D.int s4.2.2) rfl) (y_v (D.int s4.1) rfl) h8) rfl)⟩)) (fun s9 d10 => ⟨(), rfl⟩)) (n_next (R := (fun (s : Int) (d : Unit) => ([some (.leaf (D.int s4.1)), some (.leaf (D.int s4.2.1)), some (.leaf (D.int s))] : Q.Env))) (s := s4.2.2) (d := ()) rfl)) (fun s11 d12 => (n_seqP (s := (s4.1 * s4.1)) (show NY _ _ (okMul s4.1 s4.1 = true) (fun (s : Int) (d : Unit) => ([some (.leaf (D.int s)), some (.leaf (D.int s4.2.1)), some (.leaf (D.int s11))] : Q.Env)) (s4.1 * s4.1) from (fun (h13 : (okMul s4.1 s4.1 = true)) => ⟨(), (set_eq (y_mul (y_v (D.int s4.1) rfl) (y_v (D.int s4.1) rfl) h13) rfl)⟩)) (fun s14 d15 => (n_last (R := (fun (s : (Int × Int × Int)) (d : Unit) => ([some (.leaf (D.int s.1)), some (.leaf (D.int s.2.1)), some (.leaf (D.int s.2.2))] : Q.Env))) (p := fun (s17 : Int) => (s14, s17, s11)) (show NY _ _ True (fun (s : Int) (d : Unit) => ([some (.leaf (D.int s14)), some (.leaf (D.int s)), some (.leaf (D.int s11))] : Q.Env)) (s4.2.1 / (2 : Int)) from (fun (h16 : True) => ⟨(), (set_eq (y_fdiv (y_v (D.int s4.2.1) rfl) (y_c (D.int 2)) (okDiv_small (by decide))) rfl)⟩)) (fun s17 d18 => ⟨(), rfl⟩)))))))) (fun s19 d20 => (t_ret (v := (s19.2.2 : Int)) (g := True) (fun (h21 : True) => (y_v (D.int s19.2.2) rfl)) rfl))))) hg
def p_mixed_ways (numbers : (List Int)) (z : Int) (j : Int) (k : Int) : Int :=
  (letY (p_check_counts numbers) fun (s2 : (List Int)) => (bif (decide ((s2.length : Int) < j)) then (0 : Int) else (((ixY (p_product_sums s2 j) j) * (p_chosen ((s2.length : Int) + k) k)) * (p_times_over z k))))
def g_mixed_ways (numbers : (List Int)) (z : Int) (j : Int) (k : Int) : Prop :=
  ((g_check_counts numbers) ∧ (letY (p_check_counts numbers) fun (s2 : (List Int)) => ((g_check_number z (0 : Int)) ∧ ((g_check_number j (0 : Int)) ∧ ((g_check_number k (0 : Int)) ∧ (True ∧ ((decide ((s2.length : Int) < j)) = true → True) ∧ ((decide ((s2.length : Int) < j)) = false → ((g_product_sums s2 j) ∧ (okIx (p_product_sums s2 j).length j) ∧ (g_chosen ((s2.length : Int) + k) k) ∧ (okMul (ixY (p_product_sums s2 j) j) (p_chosen ((s2.length : Int) + k) k) = true) ∧ (g_times_over z k) ∧ (okMul ((ixY (p_product_sums s2 j) j) * (p_chosen ((s2.length : Int) + k) k)) (p_times_over z k) = true)))))))))
theorem s_mixed_ways (numbers : (List Int)) (z : Int) (j : Int) (k : Int) (hg : g_mixed_ways numbers z j k) : f_mixed_ways [(.leaf ((eL D.int) numbers)), (.leaf (D.int z)), (.leaf (D.int j)), (.leaf (D.int k))] = .ok (.leaf (D.int (p_mixed_ways numbers z j k))) [] :=
  Y.fn_of (lent := []) (n := 5) (ρ := ([some (.leaf ((eL D.int) numbers)), some (.leaf (D.int z)), some (.leaf (D.int j)), some (.leaf (D.int k)), none] : Q.Env)) (g := g_mixed_ways numbers z j k) (et := (fun b : Int => .leaf (D.int b))) (el := (fun b : Int => [])) (v := p_mixed_ways numbers z j k) rfl
  (t_seqN (s := (p_check_counts numbers)) (show NY _ _ (g_check_counts numbers) (fun (s : (List Int)) (d : Unit) => ([some (.leaf ((eL D.int) numbers)), some (.leaf (D.int z)), some (.leaf (D.int j)), some (.leaf (D.int k)), some (.leaf ((eU D.int) s))] : Q.Env)) (p_check_counts numbers) from (fun (h1 : (g_check_counts numbers)) => ⟨(), (set_eq (y_call (yc_val (y_v ((eL D.int) numbers) rfl) yc_nil) rfl (s_check_counts numbers h1) rfl rfl) rfl)⟩)) (fun s2 d3 => (t_seqU (show NY _ _ (g_check_number z (0 : Int)) (fun (s : Unit) (d : Unit) => ([some (.leaf ((eL D.int) numbers)), some (.leaf (D.int z)), some (.leaf (D.int j)), some (.leaf (D.int k)), some (.leaf ((eU D.int) s2))] : Q.Env)) () from (fun (h4 : (g_check_number z (0 : Int))) => ⟨(), (drop_eq (y_call (yc_val (y_v (D.int z) rfl) (yc_val (y_c (D.int 0)) yc_nil)) rfl (s_check_number z (0 : Int) h4) rfl rfl))⟩)) (fun d6 => (t_seqU (show NY _ _ (g_check_number j (0 : Int)) (fun (s : Unit) (d : Unit) => ([some (.leaf ((eL D.int) numbers)), some (.leaf (D.int z)), some (.leaf (D.int j)), some (.leaf (D.int k)), some (.leaf ((eU D.int) s2))] : Q.Env)) () from (fun (h7 : (g_check_number j (0 : Int))) => ⟨(), (drop_eq (y_call (yc_val (y_v (D.int j) rfl) (yc_val (y_c (D.int 0)) yc_nil)) rfl (s_check_number j (0 : Int) h7) rfl rfl))⟩)) (fun d9 => (t_seqU (show NY _ _ (g_check_number k (0 : Int)) (fun (s : Unit) (d : Unit) => ([some (.leaf ((eL D.int) numbers)), some (.leaf (D.int z)), some (.leaf (D.int j)), some (.leaf (D.int k)), some (.leaf ((eU D.int) s2))] : Q.Env)) () from (fun (h10 : (g_check_number k (0 : Int))) => ⟨(), (drop_eq (y_call (yc_val (y_v (D.int k) rfl) (yc_val (y_c (D.int 0)) yc_nil)) rfl (s_check_number k (0 : Int) h10) rfl rfl))⟩)) (fun d12 => (t_ifr (x := (decide ((s2.length : Int) < j))) (fun (h13 : True) => (y_test (y_gt (y_v (D.int j) rfl) (y_lenU (e := D.int) (y_v ((eU D.int) s2) rfl))))) (t_ret (v := ((0 : Int) : Int)) (g := True) (fun (h14 : True) => (y_c (D.int 0))) rfl) (t_ret (v := ((((ixY (p_product_sums s2 j) j) * (p_chosen ((s2.length : Int) + k) k)) * (p_times_over z k)) : Int)) (g := ((g_product_sums s2 j) ∧ (okIx (p_product_sums s2 j).length j) ∧ (g_chosen ((s2.length : Int) + k) k) ∧ (okMul (ixY (p_product_sums s2 j) j) (p_chosen ((s2.length : Int) + k) k) = true) ∧ (g_times_over z k) ∧ (okMul ((ixY (p_product_sums s2 j) j) * (p_chosen ((s2.length : Int) + k) k)) (p_times_over z k) = true))) (fun (h15 : (g_product_sums s2 j) ∧ (okIx (p_product_sums s2 j).length j) ∧ (g_chosen ((s2.length : Int) + k) k) ∧ (okMul (ixY (p_product_sums s2 j) j) (p_chosen ((s2.length : Int) + k) k) = true) ∧ (g_times_over z k) ∧ (okMul ((ixY (p_product_sums s2 j) j) * (p_chosen ((s2.length : Int) + k) k)) (p_times_over z k) = true)) => (y_mul (y_mul (y_ixO (e := D.int) (l := (p_product_sums s2 j)) (y_call (yc_val (y_v ((eU D.int) s2) rfl) (yc_val (y_v (D.int j) rfl) yc_nil)) rfl (s_product_sums s2 j h15.1) rfl rfl) (oL_toD D.int (p_product_sums s2 j)) (y_v (D.int j) rfl) h15.2.1) (y_call (yc_val (y_fz (y_add (y_lenU (e := D.int) (y_v ((eU D.int) s2) rfl)) (y_v (D.int k) rfl)) rfl) (yc_val (y_v (D.int k) rfl) yc_nil)) rfl (s_chosen ((s2.length : Int) + k) k h15.2.2.1) rfl rfl) h15.2.2.2.1) (y_call (yc_val (y_v (D.int z) rfl) (yc_val (y_v (D.int k) rfl) yc_nil)) rfl (s_times_over z k h15.2.2.2.2.1) rfl rfl) h15.2.2.2.2.2)) rfl) ))))))))) hg
def p_mixed_ways_2 (numbers : (List Int)) (z : Int) (j : Int) (k : Int) : Int :=
  (letY (p_check_counts_2 numbers) fun (s2 : (List Int)) => (bif (decide ((s2.length : Int) < j)) then (0 : Int) else (((ixY (p_product_sums s2 j) j) * (p_chosen ((s2.length : Int) + k) k)) * (p_times_over z k))))
def g_mixed_ways_2 (numbers : (List Int)) (z : Int) (j : Int) (k : Int) : Prop :=
  ((g_check_counts_2 numbers) ∧ (letY (p_check_counts_2 numbers) fun (s2 : (List Int)) => ((g_check_number z (0 : Int)) ∧ ((g_check_number j (0 : Int)) ∧ ((g_check_number k (0 : Int)) ∧ (True ∧ ((decide ((s2.length : Int) < j)) = true → True) ∧ ((decide ((s2.length : Int) < j)) = false → ((g_product_sums s2 j) ∧ (okIx (p_product_sums s2 j).length j) ∧ (g_chosen ((s2.length : Int) + k) k) ∧ (okMul (ixY (p_product_sums s2 j) j) (p_chosen ((s2.length : Int) + k) k) = true) ∧ (g_times_over z k) ∧ (okMul ((ixY (p_product_sums s2 j) j) * (p_chosen ((s2.length : Int) + k) k)) (p_times_over z k) = true)))))))))
theorem s_mixed_ways_2 (numbers : (List Int)) (z : Int) (j : Int) (k : Int) (hg : g_mixed_ways_2 numbers z j k) : f_mixed_ways [(.leaf ((eU D.int) numbers)), (.leaf (D.int z)), (.leaf (D.int j)), (.leaf (D.int k))] = .ok (.leaf (D.int (p_mixed_ways_2 numbers z j k))) [] :=
  Y.fn_of (lent := []) (n := 5) (ρ := ([some (.leaf ((eU D.int) numbers)), some (.leaf (D.int z)), some (.leaf (D.int j)), some (.leaf (D.int k)), none] : Q.Env)) (g := g_mixed_ways_2 numbers z j k) (et := (fun b : Int => .leaf (D.int b))) (el := (fun b : Int => [])) (v := p_mixed_ways_2 numbers z j k) rfl
  (t_seqN (s := (p_check_counts_2 numbers)) (show NY _ _ (g_check_counts_2 numbers) (fun (s : (List Int)) (d : Unit) => ([some (.leaf ((eU D.int) numbers)), some (.leaf (D.int z)), some (.leaf (D.int j)), some (.leaf (D.int k)), some (.leaf ((eU D.int) s))] : Q.Env)) (p_check_counts_2 numbers) from (fun (h1 : (g_check_counts_2 numbers)) => ⟨(), (set_eq (y_call (yc_val (y_v ((eU D.int) numbers) rfl) yc_nil) rfl (s_check_counts_2 numbers h1) rfl rfl) rfl)⟩)) (fun s2 d3 => (t_seqU (show NY _ _ (g_check_number z (0 : Int)) (fun (s : Unit) (d : Unit) => ([some (.leaf ((eU D.int) numbers)), some (.leaf (D.int z)), some (.leaf (D.int j)), some (.leaf (D.int k)), some (.leaf ((eU D.int) s2))] : Q.Env)) () from (fun (h4 : (g_check_number z (0 : Int))) => ⟨(), (drop_eq (y_call (yc_val (y_v (D.int z) rfl) (yc_val (y_c (D.int 0)) yc_nil)) rfl (s_check_number z (0 : Int) h4) rfl rfl))⟩)) (fun d6 => (t_seqU (show NY _ _ (g_check_number j (0 : Int)) (fun (s : Unit) (d : Unit) => ([some (.leaf ((eU D.int) numbers)), some (.leaf (D.int z)), some (.leaf (D.int j)), some (.leaf (D.int k)), some (.leaf ((eU D.int) s2))] : Q.Env)) () from (fun (h7 : (g_check_number j (0 : Int))) => ⟨(), (drop_eq (y_call (yc_val (y_v (D.int j) rfl) (yc_val (y_c (D.int 0)) yc_nil)) rfl (s_check_number j (0 : Int) h7) rfl rfl))⟩)) (fun d9 => (t_seqU (show NY _ _ (g_check_number k (0 : Int)) (fun (s : Unit) (d : Unit) => ([some (.leaf ((eU D.int) numbers)), some (.leaf (D.int z)), some (.leaf (D.int j)), some (.leaf (D.int k)), some (.leaf ((eU D.int) s2))] : Q.Env)) () from (fun (h10 : (g_check_number k (0 : Int))) => ⟨(), (drop_eq (y_call (yc_val (y_v (D.int k) rfl) (yc_val (y_c (D.int 0)) yc_nil)) rfl (s_check_number k (0 : Int) h10) rfl rfl))⟩)) (fun d12 => (t_ifr (x := (decide ((s2.length : Int) < j))) (fun (h13 : True) => (y_test (y_gt (y_v (D.int j) rfl) (y_lenU (e := D.int) (y_v ((eU D.int) s2) rfl))))) (t_ret (v := ((0 : Int) : Int)) (g := True) (fun (h14 : True) => (y_c (D.int 0))) rfl) (t_ret (v := ((((ixY (p_product_sums s2 j) j) * (p_chosen ((s2.length : Int) + k) k)) * (p_times_over z k)) : Int)) (g := ((g_product_sums s2 j) ∧ (okIx (p_product_sums s2 j).length j) ∧ (g_chosen ((s2.length : Int) + k) k) ∧ (okMul (ixY (p_product_sums s2 j) j) (p_chosen ((s2.length : Int) + k) k) = true) ∧ (g_times_over z k) ∧ (okMul ((ixY (p_product_sums s2 j) j) * (p_chosen ((s2.length : Int) + k) k)) (p_times_over z k) = true))) (fun (h15 : (g_product_sums s2 j) ∧ (okIx (p_product_sums s2 j).length j) ∧ (g_chosen ((s2.length : Int) + k) k) ∧ (okMul (ixY (p_product_sums s2 j) j) (p_chosen ((s2.length : Int) + k) k) = true) ∧ (g_times_over z k) ∧ (okMul ((ixY (p_product_sums s2 j) j) * (p_chosen ((s2.length : Int) + k) k)) (p_times_over z k) = true)) => (y_mul (y_mul (y_ixO (e := D.int) (l := (p_product_sums s2 j)) (y_call (yc_val (y_v ((eU D.int) s2) rfl) (yc_val (y_v (D.int j) rfl) yc_nil)) rfl (s_product_sums s2 j h15.1) rfl rfl) (oL_toD D.int (p_product_sums s2 j)) (y_v (D.int j) rfl) h15.2.1) (y_call (yc_val (y_fz (y_add (y_lenU (e := D.int) (y_v ((eU D.int) s2) rfl)) (y_v (D.int k) rfl)) rfl) (yc_val (y_v (D.int k) rfl) yc_nil)) rfl (s_chosen ((s2.length : Int) + k) k h15.2.2.1) rfl rfl) h15.2.2.2.1) (y_call (yc_val (y_v (D.int z) rfl) (yc_val (y_v (D.int k) rfl) yc_nil)) rfl (s_times_over z k h15.2.2.2.2.1) rfl rfl) h15.2.2.2.2.2)) rfl) ))))))))) hg
def p_check_most (x : Int) : Int :=
  (p_check_number x (0 : Int))
def g_check_most (x : Int) : Prop :=
  (g_check_number x (0 : Int))
theorem s_check_most (x : Int) (hg : g_check_most x) : f_check_most [(.leaf (D.int x))] = .ok (.leaf (D.int (p_check_most x))) [] :=
  Y.fn_of (lent := []) (n := 1) (ρ := ([some (.leaf (D.int x))] : Q.Env)) (g := g_check_most x) (et := (fun b : Int => .leaf (D.int b))) (el := (fun b : Int => [])) (v := p_check_most x) rfl
  (t_ifFn ((fun (h1 : True) => (y_andF (y_test (y_isiT (v := false) (y_v (D.int x) rfl) (show ("int" : String) ≠ "?" by decide) (by rfl))))) trivial) (t_ret (v := ((p_check_number x (0 : Int)) : Int)) (g := (g_check_number x (0 : Int))) (fun (h2 : (g_check_number x (0 : Int))) => (y_call (yc_val (y_v (D.int x) rfl) (yc_val (y_c (D.int 0)) yc_nil)) rfl (s_check_number x (0 : Int) h2) rfl rfl)) rfl)) hg
def p_lookalike_number (numbers : (List Int)) (most : Int) : Int :=
  (letY (p_check_counts numbers) fun (s2 : (List Int)) => (bif (decide ((s2.length : Int) < most)) then (List.sum (p_product_sums s2 (s2.length : Int))) else (List.sum (p_product_sums s2 most))))
def g_lookalike_number (numbers : (List Int)) (most : Int) : Prop :=
  ((g_check_counts numbers) ∧ (letY (p_check_counts numbers) fun (s2 : (List Int)) => ((g_check_most most) ∧ (True ∧ ((decide ((s2.length : Int) < most)) = true → (g_product_sums s2 (s2.length : Int))) ∧ ((decide ((s2.length : Int) < most)) = false → (g_product_sums s2 most))))))
theorem s_lookalike_number (numbers : (List Int)) (most : Int) (hg : g_lookalike_number numbers most) : f_lookalike_number [(.leaf ((eL D.int) numbers)), (.leaf (D.int most))] = .ok (.leaf (D.int (p_lookalike_number numbers most))) [] :=
  Y.fn_of (lent := []) (n := 3) (ρ := ([some (.leaf ((eL D.int) numbers)), some (.leaf (D.int most)), none] : Q.Env)) (g := g_lookalike_number numbers most) (et := (fun b : Int => .leaf (D.int b))) (el := (fun b : Int => [])) (v := p_lookalike_number numbers most) rfl
  (t_seqN (s := (p_check_counts numbers)) (show NY _ _ (g_check_counts numbers) (fun (s : (List Int)) (d : Unit) => ([some (.leaf ((eL D.int) numbers)), some (.leaf (D.int most)), some (.leaf ((eU D.int) s))] : Q.Env)) (p_check_counts numbers) from (fun (h1 : (g_check_counts numbers)) => ⟨(), (set_eq (y_call (yc_val (y_v ((eL D.int) numbers) rfl) yc_nil) rfl (s_check_counts numbers h1) rfl rfl) rfl)⟩)) (fun s2 d3 => (t_seqU (show NY _ _ (g_check_most most) (fun (s : Unit) (d : Unit) => ([some (.leaf ((eL D.int) numbers)), some (.leaf (D.int most)), some (.leaf ((eU D.int) s2))] : Q.Env)) () from (fun (h4 : (g_check_most most)) => ⟨(), (drop_eq (y_call (yc_val (y_v (D.int most) rfl) yc_nil) rfl (s_check_most most h4) rfl rfl))⟩)) (fun d6 => (t_ifr (x := (decide ((s2.length : Int) < most))) (fun (h7 : True) => (y_orS (y_test (y_eqX (y_v (D.int most) rfl) (y_c (D.str "any")) rfl)) (y_test (y_gt (y_v (D.int most) rfl) (y_lenU (e := D.int) (y_v ((eU D.int) s2) rfl)))))) (t_ret (v := ((List.sum (p_product_sums s2 (s2.length : Int))) : Int)) (g := (g_product_sums s2 (s2.length : Int))) (fun (h9 : (g_product_sums s2 (s2.length : Int))) => (y_sum (l := (p_product_sums s2 (s2.length : Int))) (y_call (yc_val (y_v ((eU D.int) s2) rfl) (yc_val (y_lenU (e := D.int) (y_v ((eU D.int) s2) rfl)) yc_nil)) rfl (s_product_sums s2 (s2.length : Int) h9) rfl rfl) (oL_toD D.int (p_product_sums s2 (s2.length : Int))))) rfl) (t_ret (v := ((List.sum (p_product_sums s2 most)) : Int)) (g := (g_product_sums s2 most)) (fun (h10 : (g_product_sums s2 most)) => (y_sum (l := (p_product_sums s2 most)) (y_call (yc_val (y_v ((eU D.int) s2) rfl) (yc_val (y_v (D.int most) rfl) yc_nil)) rfl (s_product_sums s2 most h10) rfl rfl) (oL_toD D.int (p_product_sums s2 most)))) rfl) ))))) hg
def p_check_most_2 (x : Unit) : Unit :=
  x
theorem s_check_most_2 (x : Unit) : f_check_most [(.leaf ((eK "any") x))] = .ok (.leaf ((eK "any") (p_check_most_2 x))) [] :=
  Y.fn_of (lent := []) (n := 1) (ρ := ([some (.leaf ((eK "any") x))] : Q.Env)) (g := True) (et := (fun b : Unit => .leaf ((eK "any") b))) (el := (fun b : Unit => [])) (v := p_check_most_2 x) rfl
  (t_ifTr ((fun (h1 : True) => (y_andS (y_test (y_isiT (v := true) (y_v ((eK "any") x) rfl) (show ("str" : String) ≠ "?" by decide) (by rfl))) (y_test (y_eqX (y_v ((eK "any") x) rfl) (y_c (D.str "any")) (by rfl))))) trivial) (t_ret (v := (x : Unit)) (g := True) (fun (h3 : True) => (y_v ((eK "any") x) rfl)) rfl)) trivial
def p_lookalike_number_2 (numbers : (List Int)) (most : Unit) : Int :=
  (letY (p_check_counts numbers) fun (s2 : (List Int)) => (List.sum (p_product_sums s2 (s2.length : Int))))
def g_lookalike_number_2 (numbers : (List Int)) (most : Unit) : Prop :=
  ((g_check_counts numbers) ∧ (letY (p_check_counts numbers) fun (s2 : (List Int)) => (g_product_sums s2 (s2.length : Int))))
theorem s_lookalike_number_2 (numbers : (List Int)) (most : Unit) (hg : g_lookalike_number_2 numbers most) : f_lookalike_number [(.leaf ((eL D.int) numbers)), (.leaf ((eK "any") most))] = .ok (.leaf (D.int (p_lookalike_number_2 numbers most))) [] :=
  Y.fn_of (lent := []) (n := 3) (ρ := ([some (.leaf ((eL D.int) numbers)), some (.leaf ((eK "any") most)), none] : Q.Env)) (g := g_lookalike_number_2 numbers most) (et := (fun b : Int => .leaf (D.int b))) (el := (fun b : Int => [])) (v := p_lookalike_number_2 numbers most) rfl
  (t_seqN (s := (p_check_counts numbers)) (show NY _ _ (g_check_counts numbers) (fun (s : (List Int)) (d : Unit) => ([some (.leaf ((eL D.int) numbers)), some (.leaf ((eK "any") most)), some (.leaf ((eU D.int) s))] : Q.Env)) (p_check_counts numbers) from (fun (h1 : (g_check_counts numbers)) => ⟨(), (set_eq (y_call (yc_val (y_v ((eL D.int) numbers) rfl) yc_nil) rfl (s_check_counts numbers h1) rfl rfl) rfl)⟩)) (fun s2 d3 => (t_seqU0 (show NY _ _ True (fun (s : Unit) (d : Unit) => ([some (.leaf ((eL D.int) numbers)), some (.leaf ((eK "any") most)), some (.leaf ((eU D.int) s2))] : Q.Env)) () from (fun (h4 : True) => ⟨(), (drop_eq (y_call (yc_val (y_v ((eK "any") most) rfl) yc_nil) rfl (s_check_most_2 most ) rfl rfl))⟩)) (fun d6 => (t_ifTr ((fun (h7 : True) => (y_orT (y_test (y_eqX (y_v ((eK "any") most) rfl) (y_c (D.str "any")) (by rfl))))) trivial) (t_ret (v := ((List.sum (p_product_sums s2 (s2.length : Int))) : Int)) (g := (g_product_sums s2 (s2.length : Int))) (fun (h8 : (g_product_sums s2 (s2.length : Int))) => (y_sum (l := (p_product_sums s2 (s2.length : Int))) (y_call (yc_val (y_v ((eU D.int) s2) rfl) (yc_val (y_lenU (e := D.int) (y_v ((eU D.int) s2) rfl)) yc_nil)) rfl (s_product_sums s2 (s2.length : Int) h8) rfl rfl) (oL_toD D.int (p_product_sums s2 (s2.length : Int))))) rfl)))))) hg
def b__law_products_1 (numbers : (List Int)) (s2 : (List Int)) (s5 : (List Int)) (purse : (Int × (List Int))) (k : Int) (z : Int) (a8 : Int) (s9 : Unit) : C Unit Unit (Bool × (Int × (List Int))) :=
  (bif ((!(p__law_same (p_symmetric numbers a8) (ixY s2 a8))) || (!(p__law_same (p_symmetric_2 s5 a8) (ixY s2 a8)))) then .rt (false, purse) else (letY (((ixY s2 a8) * (p__law_choose ((s5.length : Int) + k) k)) * (p__law_power z k)) fun (s15 : Int) => (bif (!(p__law_same (p_mixed_ways numbers z a8 k) s15)) then .rt (false, purse) else (bif (!(p__law_same (p_mixed_ways_2 s5 z a8 (0 : Int)) (ixY s2 a8))) then .rt (false, purse) else (bif (!(p__law_same (p_lookalike_number numbers a8) (List.sum (cutY s2 none (some (a8 + (1 : Int))))))) then .rt (false, purse) else .nx ())))))
def gb__law_products_1 (numbers : (List Int)) (s2 : (List Int)) (s5 : (List Int)) (purse : (Int × (List Int))) (k : Int) (z : Int) (a8 : Int) (s9 : Unit) : Prop :=
  (((g_symmetric numbers a8) ∧ (okIx s2.length a8) ∧ ((!(p__law_same (p_symmetric numbers a8) (ixY s2 a8))) = false → g_symmetric_2 s5 a8) ∧ ((!(p__law_same (p_symmetric numbers a8) (ixY s2 a8))) = false → okIx s2.length a8)) ∧ (((!(p__law_same (p_symmetric numbers a8) (ixY s2 a8))) || (!(p__law_same (p_symmetric_2 s5 a8) (ixY s2 a8)))) = true → True) ∧ (((!(p__law_same (p_symmetric numbers a8) (ixY s2 a8))) || (!(p__law_same (p_symmetric_2 s5 a8) (ixY s2 a8)))) = false → (((okIx s2.length a8) ∧ (g__law_choose ((s5.length : Int) + k) k) ∧ (okMul (ixY s2 a8) (p__law_choose ((s5.length : Int) + k) k) = true) ∧ (g__law_power z k) ∧ (okMul ((ixY s2 a8) * (p__law_choose ((s5.length : Int) + k) k)) (p__law_power z k) = true)) ∧ (letY (((ixY s2 a8) * (p__law_choose ((s5.length : Int) + k) k)) * (p__law_power z k)) fun (s15 : Int) => ((g_mixed_ways numbers z a8 k) ∧ ((!(p__law_same (p_mixed_ways numbers z a8 k) s15)) = true → True) ∧ ((!(p__law_same (p_mixed_ways numbers z a8 k) s15)) = false → (((g_mixed_ways_2 s5 z a8 (0 : Int)) ∧ (okIx s2.length a8)) ∧ ((!(p__law_same (p_mixed_ways_2 s5 z a8 (0 : Int)) (ixY s2 a8))) = true → True) ∧ ((!(p__law_same (p_mixed_ways_2 s5 z a8 (0 : Int)) (ixY s2 a8))) = false → ((g_lookalike_number numbers a8) ∧ ((!(p__law_same (p_lookalike_number numbers a8) (List.sum (cutY s2 none (some (a8 + (1 : Int))))))) = true → True) ∧ ((!(p__law_same (p_lookalike_number numbers a8) (List.sum (cutY s2 none (some (a8 + (1 : Int))))))) = false → True))))))))))
def b__law_products_2 (a29 : Int) (s30 : Int) : Int :=
  (s30 * ((1 : Int) + a29))
def gb__law_products_2 (a29 : Int) (s30 : Int) : Prop :=
  (okMul s30 ((1 : Int) + a29) = true)
def p__law_products (purse : (Int × (List Int))) (numbers : (List Int)) (z : Int) (k : Int) : (Bool × (Int × (List Int))) :=
  (letY (p__law_sums numbers) fun (s2 : (List Int)) => (letY numbers fun (s5 : (List Int)) => (cT (forC (κ' := Unit) (b__law_products_1 numbers s2 s5 purse k z) (rangeY 0 ((s2.length : Int) - (1 : Int))) () : C Unit Unit (Bool × (Int × (List Int)))) (fun (s23 : Unit) => (letY (1 : Int) fun (s26 : Int) => (letY (foldY b__law_products_2 s5 s26) fun (s35 : Int) => (bif ((!(p__law_same (p_lookalike_number_2 numbers ()) s35)) || (!decide (numbers = s5))) then (false, purse) else (letY ((p__law_pick (p__law_pick (p__law_pick purse (24 : Int)).2 (24 : Int)).2 (24 : Int)).2, (p__law_pick (p__law_pick (p__law_pick purse (24 : Int)).2 (24 : Int)).2 (24 : Int)).1, ((20 : Int) + ((8 : Int) * (p__law_pick purse (24 : Int)).1)), (p__law_pick (p__law_pick purse (24 : Int)).2 (24 : Int)).1) fun (s41 : ((Int × (List Int)) × Int × Int × Int)) => ((p__law_same (p_symmetric (repY ([s41.2.2.2] : List Int) s41.2.2.1) s41.2.1) ((p__law_choose s41.2.2.1 s41.2.1) * (p__law_power s41.2.2.2 s41.2.1))), s41.1)))))) default)))
def g__law_products (purse : (Int × (List Int))) (numbers : (List Int)) (z : Int) (k : Int) : Prop :=
  ((g__law_sums numbers) ∧ (letY (p__law_sums numbers) fun (s2 : (List Int)) => (letY numbers fun (s5 : (List Int)) => (((okR ((s2.length : Int) - (1 : Int))) ∧ forG (gb__law_products_1 numbers s2 s5 purse k z) (b__law_products_1 numbers s2 s5 purse k z) (rangeY 0 ((s2.length : Int) - (1 : Int))) ()) ∧ cG (forC (κ' := Unit) (b__law_products_1 numbers s2 s5 purse k z) (rangeY 0 ((s2.length : Int) - (1 : Int))) () : C Unit Unit (Bool × (Int × (List Int)))) (fun (s23 : Unit) => (letY (1 : Int) fun (s26 : Int) => ((True ∧ foldG gb__law_products_2 b__law_products_2 s5 s26) ∧ (letY (foldY b__law_products_2 s5 s26) fun (s35 : Int) => ((g_lookalike_number_2 numbers ()) ∧ (((!(p__law_same (p_lookalike_number_2 numbers ()) s35)) || (!decide (numbers = s5))) = true → True) ∧ (((!(p__law_same (p_lookalike_number_2 numbers ()) s35)) || (!decide (numbers = s5))) = false → (((g__law_pick purse (24 : Int)) ∧ (okMul (8 : Int) (p__law_pick purse (24 : Int)).1 = true) ∧ (g__law_pick (p__law_pick purse (24 : Int)).2 (24 : Int)) ∧ (g__law_pick (p__law_pick (p__law_pick purse (24 : Int)).2 (24 : Int)).2 (24 : Int))) ∧ (letY ((p__law_pick (p__law_pick (p__law_pick purse (24 : Int)).2 (24 : Int)).2 (24 : Int)).2, (p__law_pick (p__law_pick (p__law_pick purse (24 : Int)).2 (24 : Int)).2 (24 : Int)).1, ((20 : Int) + ((8 : Int) * (p__law_pick purse (24 : Int)).1)), (p__law_pick (p__law_pick purse (24 : Int)).2 (24 : Int)).1) fun (s41 : ((Int × (List Int)) × Int × Int × Int)) => ((okRep ([s41.2.2.2] : List Int).length s41.2.2.1) ∧ (g_symmetric (repY ([s41.2.2.2] : List Int) s41.2.2.1) s41.2.1) ∧ (g__law_choose s41.2.2.1 s41.2.1) ∧ (g__law_power s41.2.2.2 s41.2.1) ∧ (okMul (p__law_choose s41.2.2.1 s41.2.1) (p__law_power s41.2.2.2 s41.2.1) = true))))))))))))))
theorem s__law_products (purse : (Int × (List Int))) (numbers : (List Int)) (z : Int) (k : Int) (hg : g__law_products purse numbers z k) : f__law_products [((oN (pC D.int (pZ (eL D.int)))) purse), (.leaf ((eL D.int) numbers)), (.leaf (D.int z)), (.leaf (D.int k))] = .ok (.leaf (D.bl (p__law_products purse numbers z k).1)) [(oN (pC D.int (pZ (eL D.int)))) (p__law_products purse numbers z k).2] :=
  Y.fn_of (lent := [0]) (n := 12) (ρ := ([some ((oN (pC D.int (pZ (eL D.int)))) purse), some (.leaf ((eL D.int) numbers)), some (.leaf (D.int z)), some (.leaf (D.int k)), none, none, none, none, none, none, none, none] : Q.Env)) (g := g__law_products purse numbers z k) (et := (fun b : (Bool × (Int × (List Int))) => .leaf (D.bl b.1))) (el := (fun b : (Bool × (Int × (List Int))) => [(oN (pC D.int (pZ (eL D.int)))) b.2])) (v := p__law_products purse numbers z k) rfl
  (t_seqN (s := (p__law_sums numbers)) (show NY _ _ (g__law_sums numbers) (fun (s : (List Int)) (d : Unit) => ([some ((oN (pC D.int (pZ (eL D.int)))) purse), some (.leaf ((eL D.int) numbers)), some (.leaf (D.int z)), some (.leaf (D.int k)), some (.leaf ((eL D.int) s)), none, none, none, none, none, none, none] : Q.Env)) (p__law_sums numbers) from (fun (h1 : (g__law_sums numbers)) => ⟨(), (set_eqL (e := D.int) (l := (p__law_sums numbers)) (y_call (yc_val (y_v ((eL D.int) numbers) rfl) yc_nil) rfl (s__law_sums numbers h1) rfl rfl) rfl)⟩)) (fun s2 d3 => (t_seqN0 (s := numbers) (show NY _ _ True (fun (s : (List Int)) (d : Unit) => ([some ((oN (pC D.int (pZ (eL D.int)))) purse), some (.leaf ((eL D.int) numbers)), some (.leaf (D.int z)), some (.leaf (D.int k)), some (.leaf ((eL D.int) s2)), some (.leaf ((eL D.int) s)), none, none, none, none, none, none] : Q.Env)) numbers from (fun (h4 : True) => ⟨(), (set_eqL (e := D.int) (l := numbers) (y_listL (e := D.int) (l := numbers) (y_v ((eL D.int) numbers) rfl) rfl) rfl)⟩)) (fun s5 d6 => (t_seqC (K := (fun (_ : Unit) (_ : Unit) => ([] : Q.Env))) (o := (forC (κ' := Unit) (b__law_products_1 numbers s2 s5 purse k z) (rangeY 0 ((s2.length : Int) - (1 : Int))) () : C Unit Unit (Bool × (Int × (List Int))))) (z := default) (c_for (e := D.int) (l := (rangeY 0 ((s2.length : Int) - (1 : Int)))) (s := ()) (d0 := ((none : Option T), (none : Option T))) (R := (fun (s : Unit) (d : Option T × Option T) => ([some ((oN (pC D.int (pZ (eL D.int)))) purse), some (.leaf ((eL D.int) numbers)), some (.leaf (D.int z)), some (.leaf (D.int k)), some (.leaf ((eL D.int) s2)), some (.leaf ((eL D.int) s5)), d.1, d.2, none, none, none, none] : Q.Env))) (Rt := (fun (a8 : Int) (s9 : Unit) (d10 : Option T × Option T) => ([some ((oN (pC D.int (pZ (eL D.int)))) purse), some (.leaf ((eL D.int) numbers)), some (.leaf (D.int z)), some (.leaf (D.int k)), some (.leaf ((eL D.int) s2)), some (.leaf ((eL D.int) s5)), some (.leaf (D.int a8)), d10.2, none, none, none, none] : Q.Env))) (gb := (gb__law_products_1 numbers s2 s5 purse k z)) (f := (b__law_products_1 numbers s2 s5 purse k z)) (fun (h7 : (okR ((s2.length : Int) - (1 : Int)))) => (yi_range1 (y_sub (y_lenL (e := D.int) (y_v ((eL D.int) s2) rfl)) (y_c (D.int 1))) h7)) rfl (fun _ _ _ => rfl) (fun a8 s9 d10 => (c_ifrt (x := ((!(p__law_same (p_symmetric numbers a8) (ixY s2 a8))) || (!(p__law_same (p_symmetric_2 s5 a8) (ixY s2 a8))))) (fun (h11 : (g_symmetric numbers a8) ∧ (okIx s2.length a8) ∧ ((!(p__law_same (p_symmetric numbers a8) (ixY s2 a8))) = false → g_symmetric_2 s5 a8) ∧ ((!(p__law_same (p_symmetric numbers a8) (ixY s2 a8))) = false → okIx s2.length a8)) => (y_or (y_not (y_test (y_call (yc_val (y_fz (y_call (yc_val (y_v ((eL D.int) numbers) rfl) (yc_val (y_v (D.int a8) rfl) yc_nil)) rfl (s_symmetric numbers a8 h11.1) rfl rfl) rfl) (yc_val (y_ixL (e := D.int) (y_v ((eL D.int) s2) rfl) (y_v (D.int a8) rfl) h11.2.1) yc_nil)) rfl (s__law_same (p_symmetric numbers a8) (ixY s2 a8) ) rfl rfl))) (fun k12 => (y_not (y_test (y_call (yc_val (y_fz (y_call (yc_val (y_tupleL (e := D.int) (l := s5) (y_v ((eL D.int) s5) rfl) rfl) (yc_val (y_v (D.int a8) rfl) yc_nil)) rfl (s_symmetric_2 s5 a8 (h11.2.2.1 k12)) rfl rfl) rfl) (yc_val (y_ixL (e := D.int) (y_v ((eL D.int) s2) rfl) (y_v (D.int a8) rfl) (h11.2.2.2 k12)) yc_nil)) rfl (s__law_same (p_symmetric_2 s5 a8) (ixY s2 a8) ) rfl rfl)))))) (t_ret (v := ((false, purse) : (Bool × (Int × (List Int))))) (g := True) (fun (h13 : True) => (y_c (D.bl false))) rfl) (c_seqN (s := (((ixY s2 a8) * (p__law_choose ((s5.length : Int) + k) k)) * (p__law_power z k))) (show NY _ _ ((okIx s2.length a8) ∧ (g__law_choose ((s5.length : Int) + k) k) ∧ (okMul (ixY s2 a8) (p__law_choose ((s5.length : Int) + k) k) = true) ∧ (g__law_power z k) ∧ (okMul ((ixY s2 a8) * (p__law_choose ((s5.length : Int) + k) k)) (p__law_power z k) = true)) (fun (s : Int) (d : Unit) => ([some ((oN (pC D.int (pZ (eL D.int)))) purse), some (.leaf ((eL D.int) numbers)), some (.leaf (D.int z)), some (.leaf (D.int k)), some (.leaf ((eL D.int) s2)), some (.leaf ((eL D.int) s5)), some (.leaf (D.int a8)), some (.leaf (D.int s)), none, none, none, none] : Q.Env)) (((ixY s2 a8) * (p__law_choose ((s5.length : Int) + k) k)) * (p__law_power z k)) from (fun (h14 : (okIx s2.length a8) ∧ (g__law_choose ((s5.length : Int) + k) k) ∧ (okMul (ixY s2 a8) (p__law_choose ((s5.length : Int) + k) k) = true) ∧ (g__law_power z k) ∧ (okMul ((ixY s2 a8) * (p__law_choose ((s5.length : Int) + k) k)) (p__law_power z k) = true)) => ⟨(), (set_eq (y_mul (y_mul (y_ixL (e := D.int) (y_v ((eL D.int) s2) rfl) (y_v (D.int a8) rfl) h14.1) (y_call (yc_val (y_fz (y_add (y_lenL (e := D.int) (y_v ((eL D.int) s5) rfl)) (y_v (D.int k) rfl)) rfl) (yc_val (y_v (D.int k) rfl) yc_nil)) rfl (s__law_choose ((s5.length : Int) + k) k h14.2.1) rfl rfl) h14.2.2.1) (y_call (yc_val (y_v (D.int z) rfl) (yc_val (y_v (D.int k) rfl) yc_nil)) rfl (s__law_power z k h14.2.2.2.1) rfl rfl) h14.2.2.2.2) rfl)⟩)) (fun s15 d16 => (c_ifrt (x := (!(p__law_same (p_mixed_ways numbers z a8 k) s15))) (fun (h17 : (g_mixed_ways numbers z a8 k)) => (y_not (y_test (y_call (yc_val (y_fz (y_call (yc_val (y_v ((eL D.int) numbers) rfl) (yc_val (y_v (D.int z) rfl) (yc_val (y_v (D.int a8) rfl) (yc_val (y_v (D.int k) rfl) yc_nil)))) rfl (s_mixed_ways numbers z a8 k h17) rfl rfl) rfl) (yc_val (y_v (D.int s15) rfl) yc_nil)) rfl (s__law_same (p_mixed_ways numbers z a8 k) s15 ) rfl rfl)))) (t_ret (v := ((false, purse) : (Bool × (Int × (List Int))))) (g := True) (fun (h18 : True) => (y_c (D.bl false))) rfl) (c_ifrt (x := (!(p__law_same (p_mixed_ways_2 s5 z a8 (0 : Int)) (ixY s2 a8)))) (fun (h19 : (g_mixed_ways_2 s5 z a8 (0 : Int)) ∧ (okIx s2.length a8)) => (y_not (y_test (y_call (yc_val (y_fz (y_call (yc_val (y_tupleL (e := D.int) (l := s5) (y_v ((eL D.int) s5) rfl) rfl) (yc_val (y_v (D.int z) rfl) (yc_val (y_v (D.int a8) rfl) (yc_val (y_c (D.int 0)) yc_nil)))) rfl (s_mixed_ways_2 s5 z a8 (0 : Int) h19.1) rfl rfl) rfl) (yc_val (y_ixL (e := D.int) (y_v ((eL D.int) s2) rfl) (y_v (D.int a8) rfl) h19.2) yc_nil)) rfl (s__law_same (p_mixed_ways_2 s5 z a8 (0 : Int)) (ixY s2 a8) ) rfl rfl)))) (t_ret (v := ((false, purse) : (Bool × (Int × (List Int))))) (g := True) (fun (h20 : True) => (y_c (D.bl false))) rfl) (c_ifrtL (x := (!(p__law_same (p_lookalike_number numbers a8) (List.sum (cutY s2 none (some (a8 + (1 : Int)))))))) (fun (h21 : (g_lookalike_number numbers a8)) => (y_not (y_test (y_call (yc_val (y_fz (y_call (yc_val (y_v ((eL D.int) numbers) rfl) (yc_val (y_v (D.int a8) rfl) yc_nil)) rfl (s_lookalike_number numbers a8 h21) rfl rfl) rfl) (yc_val (y_sum (l := (cutY s2 none (some (a8 + (1 : Int))))) (y_slL (e := D.int) (y_v ((eL D.int) s2) rfl) rfl yp_none (yp_some (y_add (y_v (D.int a8) rfl) (y_c (D.int 1))))) (oL_toD D.int (cutY s2 none (some (a8 + (1 : Int)))))) yc_nil)) rfl (s__law_same (p_lookalike_number numbers a8) (List.sum (cutY s2 none (some (a8 + (1 : Int))))) ) rfl rfl)))) (t_ret (v := ((false, purse) : (Bool × (Int × (List Int))))) (g := True) (fun (h22 : True) => (y_c (D.bl false))) rfl) (c_ofN (n_next (R := (fun (s : Unit) (d : Option T × Option T) => ([some ((oN (pC D.int (pZ (eL D.int)))) purse), some (.leaf ((eL D.int) numbers)), some (.leaf (D.int z)), some (.leaf (D.int k)), some (.leaf ((eL D.int) s2)), some (.leaf ((eL D.int) s5)), d.1, d.2, none, none, none, none] : Q.Env))) (s := ()) (d := ((some (.leaf (D.int a8)) : Option T), (some (.leaf (D.int s15)) : Option T))) rfl)) ) ) ))) ))) (fun s23 d24 => (t_seqN0 (s := (1 : Int)) (show NY _ _ True (fun (s : Int) (d : Unit) => ([some ((oN (pC D.int (pZ (eL D.int)))) purse), some (.leaf ((eL D.int) numbers)), some (.leaf (D.int z)), some (.leaf (D.int k)), some (.leaf ((eL D.int) s2)), some (.leaf ((eL D.int) s5)), d24.1, d24.2, some (.leaf (D.int s)), none, none, none] : Q.Env)) (1 : Int) from (fun (h25 : True) => ⟨(), (set_eq (y_c (D.int 1)) rfl)⟩)) (fun s26 d27 => (t_seqN (s := (foldY b__law_products_2 s5 s26)) (n_for (e := D.int) (l := s5) (s := s26) (d0 := (none : Option T)) (R := (fun (s : Int) (d : Option T) => ([some ((oN (pC D.int (pZ (eL D.int)))) purse), some (.leaf ((eL D.int) numbers)), some (.leaf (D.int z)), some (.leaf (D.int k)), some (.leaf ((eL D.int) s2)), some (.leaf ((eL D.int) s5)), d24.1, d24.2, some (.leaf (D.int s)), d, none, none] : Q.Env))) (Rt := (fun (a29 : Int) (s30 : Int) (d31 : Option T) => ([some ((oN (pC D.int (pZ (eL D.int)))) purse), some (.leaf ((eL D.int) numbers)), some (.leaf (D.int z)), some (.leaf (D.int k)), some (.leaf ((eL D.int) s2)), some (.leaf ((eL D.int) s5)), d24.1, d24.2, some (.leaf (D.int s30)), some (.leaf (D.int a29)), none, none] : Q.Env))) (gb := gb__law_products_2) (f := b__law_products_2) (fun (h28 : True) => (yi_L (e := D.int) (l := s5) (y_v ((eL D.int) s5) rfl) rfl)) rfl (fun _ _ _ => rfl) (fun a29 s30 d31 => (n_lastI (R := (fun (s : Int) (d : Option T) => ([some ((oN (pC D.int (pZ (eL D.int)))) purse), some (.leaf ((eL D.int) numbers)), some (.leaf (D.int z)), some (.leaf (D.int k)), some (.leaf ((eL D.int) s2)), some (.leaf ((eL D.int) s5)), d24.1, d24.2, some (.leaf (D.int s)), d, none, none] : Q.Env))) (show NY _ _ (okMul s30 ((1 : Int) + a29) = true) (fun (s : Int) (d : Unit) => ([some ((oN (pC D.int (pZ (eL D.int)))) purse), some (.leaf ((eL D.int) numbers)), some (.leaf (D.int z)), some (.leaf (D.int k)), some (.leaf ((eL D.int) s2)), some (.leaf ((eL D.int) s5)), d24.1, d24.2, some (.leaf (D.int s)), some (.leaf (D.int a29)), none, none] : Q.Env)) (s30 * ((1 : Int) + a29)) from (fun (h32 : (okMul s30 ((1 : Int) + a29) = true)) => ⟨(), (set_eq (y_mul (y_v (D.int s30) rfl) (y_add (y_c (D.int 1)) (y_v (D.int a29) rfl)) h32) rfl)⟩)) (fun s33 d34 => ⟨(some (.leaf (D.int a29)) : Option T), rfl⟩)))) (fun s35 d36 => (t_ifr (x := ((!(p__law_same (p_lookalike_number_2 numbers ()) s35)) || (!decide (numbers = s5)))) (fun (h37 : (g_lookalike_number_2 numbers ())) => (y_or (y_not (y_test (y_call (yc_val (y_fz (y_call (yc_val (y_v ((eL D.int) numbers) rfl) (yc_val (y_c (D.str "any")) yc_nil)) rfl (s_lookalike_number_2 numbers () h37) rfl rfl) rfl) (yc_val (y_v (D.int s35) rfl) yc_nil)) rfl (s__law_same (p_lookalike_number_2 numbers ()) s35 ) rfl rfl))) (fun k38 => (y_test (y_ne (e := (eL D.int)) (qe_L qp_int (by decide)) (x := numbers) (y := s5) (fun _ _ => trivial) (fun _ _ => trivial) (y_v ((eL D.int) numbers) rfl) (y_v ((eL D.int) s5) rfl)))))) (t_ret (v := ((false, purse) : (Bool × (Int × (List Int))))) (g := True) (fun (h39 : True) => (y_c (D.bl false))) rfl) (t_seqN (s := ((p__law_pick (p__law_pick (p__law_pick purse (24 : Int)).2 (24 : Int)).2 (24 : Int)).2, (p__law_pick (p__law_pick (p__law_pick purse (24 : Int)).2 (24 : Int)).2 (24 : Int)).1, ((20 : Int) + ((8 : Int) * (p__law_pick purse (24 : Int)).1)), (p__law_pick (p__law_pick purse (24 : Int)).2 (24 : Int)).1)) (show NY _ _ ((g__law_pick purse (24 : Int)) ∧ (okMul (8 : Int) (p__law_pick purse (24 : Int)).1 = true) ∧ (g__law_pick (p__law_pick purse (24 : Int)).2 (24 : Int)) ∧ (g__law_pick (p__law_pick (p__law_pick purse (24 : Int)).2 (24 : Int)).2 (24 : Int))) (fun (s : ((Int × (List Int)) × Int × Int × Int)) (d : Unit) => ([some ((oN (pC D.int (pZ (eL D.int)))) s.1), some (.leaf ((eL D.int) numbers)), some (.leaf (D.int z)), some (.leaf (D.int k)), some (.leaf ((eL D.int) s2)), some (.leaf ((eL D.int) s5)), some (.leaf (D.int s.2.1)), d24.2, some (.leaf (D.int s35)), d36, some (.leaf (D.int s.2.2.1)), some (.leaf (D.int s.2.2.2))] : Q.Env)) ((p__law_pick (p__law_pick (p__law_pick purse (24 : Int)).2 (24 : Int)).2 (24 : Int)).2, (p__law_pick (p__law_pick (p__law_pick purse (24 : Int)).2 (24 : Int)).2 (24 : Int)).1, ((20 : Int) + ((8 : Int) * (p__law_pick purse (24 : Int)).1)), (p__law_pick (p__law_pick purse (24 : Int)).2 (24 : Int)).1) from (fun (h40 : (g__law_pick purse (24 : Int)) ∧ (okMul (8 : Int) (p__law_pick purse (24 : Int)).1 = true) ∧ (g__law_pick (p__law_pick purse (24 : Int)).2 (24 : Int)) ∧ (g__law_pick (p__law_pick (p__law_pick purse (24 : Int)).2 (24 : Int)).2 (24 : Int))) => ⟨(), (par_eq (ya_cons (y_add (y_c (D.int 20)) (y_mul (y_c (D.int 8)) (y_call (yc_lend (y_move (t := (oN (pC D.int (pZ (eL D.int)))) purse) rfl rfl) (yc_val (y_c (D.int 24)) yc_nil)) rfl (s__law_pick purse (24 : Int) h40.1) rfl rfl) h40.2.1)) (ya_cons (y_call (yc_lend (y_move (t := (oN (pC D.int (pZ (eL D.int)))) (p__law_pick purse (24 : Int)).2) rfl rfl) (yc_val (y_c (D.int 24)) yc_nil)) rfl (s__law_pick (p__law_pick purse (24 : Int)).2 (24 : Int) h40.2.2.1) rfl rfl) (ya_cons (y_call (yc_lend (y_move (t := (oN (pC D.int (pZ (eL D.int)))) (p__law_pick (p__law_pick purse (24 : Int)).2 (24 : Int)).2) rfl rfl) (yc_val (y_c (D.int 24)) yc_nil)) rfl (s__law_pick (p__law_pick (p__law_pick purse (24 : Int)).2 (24 : Int)).2 (24 : Int) h40.2.2.2) rfl rfl) ya_nil))) rfl rfl)⟩)) (fun s41 d42 => (t_ret (v := (((p__law_same (p_symmetric (repY ([s41.2.2.2] : List Int) s41.2.2.1) s41.2.1) ((p__law_choose s41.2.2.1 s41.2.1) * (p__law_power s41.2.2.2 s41.2.1))), s41.1) : (Bool × (Int × (List Int))))) (g := ((okRep ([s41.2.2.2] : List Int).length s41.2.2.1) ∧ (g_symmetric (repY ([s41.2.2.2] : List Int) s41.2.2.1) s41.2.1) ∧ (g__law_choose s41.2.2.1 s41.2.1) ∧ (g__law_power s41.2.2.2 s41.2.1) ∧ (okMul (p__law_choose s41.2.2.1 s41.2.1) (p__law_power s41.2.2.2 s41.2.1) = true))) (fun (h43 : (okRep ([s41.2.2.2] : List Int).length s41.2.2.1) ∧ (g_symmetric (repY ([s41.2.2.2] : List Int) s41.2.2.1) s41.2.1) ∧ (g__law_choose s41.2.2.1 s41.2.1) ∧ (g__law_power s41.2.2.2 s41.2.1) ∧ (okMul (p__law_choose s41.2.2.1 s41.2.1) (p__law_power s41.2.2.2 s41.2.1) = true)) => (y_call (yc_val (y_fz (y_call (yc_val (y_fz (y_mulL (e := D.int) (y_lst (ya_cons (y_v (D.int s41.2.2.2) rfl) ya_nil) rfl) (oL_toD D.int ([s41.2.2.2] : List Int)) (y_v (D.int s41.2.2.1) rfl) h43.1) (oL_toD D.int (repY ([s41.2.2.2] : List Int) s41.2.2.1))) (yc_val (y_v (D.int s41.2.1) rfl) yc_nil)) rfl (s_symmetric (repY ([s41.2.2.2] : List Int) s41.2.2.1) s41.2.1 h43.2.1) rfl rfl) rfl) (yc_val (y_fz (y_mul (y_call (yc_val (y_v (D.int s41.2.2.1) rfl) (yc_val (y_v (D.int s41.2.1) rfl) yc_nil)) rfl (s__law_choose s41.2.2.1 s41.2.1 h43.2.2.1) rfl rfl) (y_call (yc_val (y_v (D.int s41.2.2.2) rfl) (yc_val (y_v (D.int s41.2.1) rfl) yc_nil)) rfl (s__law_power s41.2.2.2 s41.2.1 h43.2.2.2.1) rfl rfl) h43.2.2.2.2) rfl) yc_nil)) rfl (s__law_same (p_symmetric (repY ([s41.2.2.2] : List Int) s41.2.2.1) s41.2.1) ((p__law_choose s41.2.2.1 s41.2.1) * (p__law_power s41.2.2.2 s41.2.1)) ) rfl rfl)) rfl))) ))))))))))) hg
def p_noise_number (n : Int) (k : Int) (many : Int) : Int :=
  ((p_chosen (n + k) k) * (p_times_over many k))
def g_noise_number (n : Int) (k : Int) (many : Int) : Prop :=
  ((g_check_number n (0 : Int)) ∧ ((g_check_number k (0 : Int)) ∧ ((g_check_number many (0 : Int)) ∧ ((g_chosen (n + k) k) ∧ (g_times_over many k) ∧ (okMul (p_chosen (n + k) k) (p_times_over many k) = true)))))
theorem s_noise_number (n : Int) (k : Int) (many : Int) (hg : g_noise_number n k many) : f_noise_number [(.leaf (D.int n)), (.leaf (D.int k)), (.leaf (D.int many))] = .ok (.leaf (D.int (p_noise_number n k many))) [] :=
  Y.fn_of (lent := []) (n := 3) (ρ := ([some (.leaf (D.int n)), some (.leaf (D.int k)), some (.leaf (D.int many))] : Q.Env)) (g := g_noise_number n k many) (et := (fun b : Int => .leaf (D.int b))) (el := (fun b : Int => [])) (v := p_noise_number n k many) rfl
  (t_seqU (show NY _ _ (g_check_number n (0 : Int)) (fun (s : Unit) (d : Unit) => ([some (.leaf (D.int n)), some (.leaf (D.int k)), some (.leaf (D.int many))] : Q.Env)) () from (fun (h1 : (g_check_number n (0 : Int))) => ⟨(), (drop_eq (y_call (yc_val (y_v (D.int n) rfl) (yc_val (y_c (D.int 0)) yc_nil)) rfl (s_check_number n (0 : Int) h1) rfl rfl))⟩)) (fun d3 => (t_seqU (show NY _ _ (g_check_number k (0 : Int)) (fun (s : Unit) (d : Unit) => ([some (.leaf (D.int n)), some (.leaf (D.int k)), some (.leaf (D.int many))] : Q.Env)) () from (fun (h4 : (g_check_number k (0 : Int))) => ⟨(), (drop_eq (y_call (yc_val (y_v (D.int k) rfl) (yc_val (y_c (D.int 0)) yc_nil)) rfl (s_check_number k (0 : Int) h4) rfl rfl))⟩)) (fun d6 => (t_seqU (show NY _ _ (g_check_number many (0 : Int)) (fun (s : Unit) (d : Unit) => ([some (.leaf (D.int n)), some (.leaf (D.int k)), some (.leaf (D.int many))] : Q.Env)) () from (fun (h7 : (g_check_number many (0 : Int))) => ⟨(), (drop_eq (y_call (yc_val (y_v (D.int many) rfl) (yc_val (y_c (D.int 0)) yc_nil)) rfl (s_check_number many (0 : Int) h7) rfl rfl))⟩)) (fun d9 => (t_ret (v := (((p_chosen (n + k) k) * (p_times_over many k)) : Int)) (g := ((g_chosen (n + k) k) ∧ (g_times_over many k) ∧ (okMul (p_chosen (n + k) k) (p_times_over many k) = true))) (fun (h10 : (g_chosen (n + k) k) ∧ (g_times_over many k) ∧ (okMul (p_chosen (n + k) k) (p_times_over many k) = true)) => (y_mul (y_call (yc_val (y_fz (y_add (y_v (D.int n) rfl) (y_v (D.int k) rfl)) rfl) (yc_val (y_v (D.int k) rfl) yc_nil)) rfl (s_chosen (n + k) k h10.1) rfl rfl) (y_call (yc_val (y_v (D.int many) rfl) (yc_val (y_v (D.int k) rfl) yc_nil)) rfl (s_times_over many k h10.2.1) rfl rfl) h10.2.2)) rfl))))))) hg
def b_scattered_number_1 (n : Int) (k : Int) (q : Int) (a20 : Int) (s21 : (Int × Int × Int)) : (Int × Int × Int) :=
  (letY (s21.1 + (s21.2.1 * s21.2.2)) fun (s24 : Int) => (letY ((s21.2.1 * ((n + k) - a20)) / (a20 + (1 : Int))) fun (s27 : Int) => (letY (s21.2.2 * (q - (1 : Int))) fun (s30 : Int) => (s24, s27, s30))))
def gb_scattered_number_1 (n : Int) (k : Int) (q : Int) (a20 : Int) (s21 : (Int × Int × Int)) : Prop :=
  ((okMul s21.2.1 s21.2.2 = true) ∧ (letY (s21.1 + (s21.2.1 * s21.2.2)) fun (s24 : Int) => (((okMul s21.2.1 ((n + k) - a20) = true) ∧ (okDiv (a20 + (1 : Int)))) ∧ (letY ((s21.2.1 * ((n + k) - a20)) / (a20 + (1 : Int))) fun (s27 : Int) => (okMul s21.2.2 (q - (1 : Int)) = true)))))
def p_scattered_number (n : Int) (k : Int) (q : Int) : Int :=
  (letY (0 : Int) fun (s11 : Int) => (letY (1 : Int) fun (s14 : Int) => (letY (1 : Int) fun (s17 : Int) => (letY (foldY (b_scattered_number_1 n k q) (rangeY 0 (k + (1 : Int))) (s11, s14, s17)) fun (s32 : (Int × Int × Int)) => s32.1))))
def g_scattered_number (n : Int) (k : Int) (q : Int) : Prop :=
  ((g_check_number n (0 : Int)) ∧ ((g_check_number k (0 : Int)) ∧ ((g_check_number q (1 : Int)) ∧ (letY (0 : Int) fun (s11 : Int) => (letY (1 : Int) fun (s14 : Int) => (letY (1 : Int) fun (s17 : Int) => ((okR (k + (1 : Int))) ∧ foldG (gb_scattered_number_1 n k q) (b_scattered_number_1 n k q) (rangeY 0 (k + (1 : Int))) (s11, s14, s17))))))))
theorem s_scattered_number (n : Int) (k : Int) (q : Int) (hg : g_scattered_number n k q) : f_scattered_number [(.leaf (D.int n)), (.leaf (D.int k)), (.leaf (D.int q))] = .ok (.leaf (D.int (p_scattered_number n k q))) [] :=
  Y.fn_of (lent := []) (n := 7) (ρ := ([some (.leaf (D.int n)), some (.leaf (D.int k)), some (.leaf (D.int q)), none, none, none, none] : Q.Env)) (g := g_scattered_number n k q) (et := (fun b : Int => .leaf (D.int b))) (el := (fun b : Int => [])) (v := p_scattered_number n k q) rfl
  (t_seqU (show NY _ _ (g_check_number n (0 : Int)) (fun (s : Unit) (d : Unit) => ([some (.leaf (D.int n)), some (.leaf (D.int k)), some (.leaf (D.int q)), none, none, none, none] : Q.Env)) () from (fun (h1 : (g_check_number n (0 : Int))) => ⟨(), (drop_eq (y_call (yc_val (y_v (D.int n) rfl) (yc_val (y_c (D.int 0)) yc_nil)) rfl (s_check_number n (0 : Int) h1) rfl rfl))⟩)) (fun d3 => (t_seqU (show NY _ _ (g_check_number k (0 : Int)) (fun (s : Unit) (d : Unit) => ([some (.leaf (D.int n)), some (.leaf (D.int k)), some (.leaf (D.int q)), none, none, none, none] : Q.Env)) () from (fun (h4 : (g_check_number k (0 : Int))) => ⟨(), (drop_eq (y_call (yc_val (y_v (D.int k) rfl) (yc_val (y_c (D.int 0)) yc_nil)) rfl (s_check_number k (0 : Int) h4) rfl rfl))⟩)) (fun d6 => (t_seqU (show NY _ _ (g_check_number q (1 : Int)) (fun (s : Unit) (d : Unit) => ([some (.leaf (D.int n)), some (.leaf (D.int k)), some (.leaf (D.int q)), none, none, none, none] : Q.Env)) () from (fun (h7 : (g_check_number q (1 : Int))) => ⟨(), (drop_eq (y_call (yc_val (y_v (D.int q) rfl) (yc_val (y_c (D.int 1)) yc_nil)) rfl (s_check_number q (1 : Int) h7) rfl rfl))⟩)) (fun d9 => (t_seqN0 (s := (0 : Int)) (show NY _ _ True (fun (s : Int) (d : Unit) => ([some (.leaf (D.int n)), some (.leaf (D.int k)), some (.leaf (D.int q)), some (.leaf (D.int s)), none, none, none] : Q.Env)) (0 : Int) from (fun (h10 : True) => ⟨(), (set_eq (y_c (D.int 0)) rfl)⟩)) (fun s11 d12 => (t_seqN0 (s := (1 : Int)) (show NY _ _ True (fun (s : Int) (d : Unit) => ([some (.leaf (D.int n)), some (.leaf (D.int k)), some (.leaf (D.int q)), some (.leaf (D.int s11)), some (.leaf (D.int s)), none, none] : Q.Env)) (1 : Int) from (fun (h13 : True) => ⟨(), (set_eq (y_c (D.int 1)) rfl)⟩)) (fun s14 d15 => (t_seqN0 (s := (1 : Int)) (show NY _ _ True (fun (s : Int) (d : Unit) => ([some (.leaf (D.int n)), some (.leaf (D.int k)), some (.leaf (D.int q)), some (.leaf (D.int s11)), some (.leaf (D.int s14)), some (.leaf (D.int s)), none] : Q.Env)) (1 : Int) from (fun (h16 : True) => ⟨(), (set_eq (y_c (D.int 1)) rfl)⟩)) (fun s17 d18 => (t_seqNP (s := (foldY (b_scattered_number_1 n k q) (rangeY 0 (k + (1 : Int))) (s11, s14, s17))) (n_for (e := D.int) (l := (rangeY 0 (k + (1 : Int)))) (s := (s11, s14, s17)) (d0 := (none : Option T)) (R := (fun (s : (Int × Int × Int)) (d : Option T) => ([some (.leaf (D.int n)), some (.leaf (D.int k)), some (.leaf (D.int q)), some (.leaf (D.int s.1)), some (.leaf (D.int s.2.1)), some (.leaf (D.int s.2.2)), d] : Q.Env))) (Rt := (fun (a20 : Int) (s21 : (Int × Int × Int)) (d22 : Option T) => ([some (.leaf (D.int n)), some (.leaf (D.int k)), some (.leaf (D.int q)), some (.leaf (D.int s21.1)), some (.leaf (D.int s21.2.1)), some (.leaf (D.int s21.2.2)), some (.leaf (D.int a20))] : Q.Env))) (gb := (gb_scattered_number_1 n k q)) (f := (b_scattered_number_1 n k q)) (fun (h19 : (okR (k + (1 : Int)))) => (yi_range1 (y_add (y_v (D.int k) rfl) (y_c (D.int 1))) h19)) rfl (fun _ _ _ => rfl) (fun a20 s21 d22 => (n_seq (s := (s21.1 + (s21.2.1 * s21.2.2))) (show NY _ _ (okMul s21.2.1 s21.2.2 = true) (fun (s : Int) (d : Unit) => ([some (.leaf (D.int n)), some (.leaf (D.int k)), some (.leaf (D.int q)), some (.leaf (D.int s)), some (.leaf (D.int s21.2.1)), some (.leaf (D.int s21.2.2)), some (.leaf (D.int a20))] : Q.Env)) (s21.1 + (s21.2.1 * s21.2.2)) from (fun (h23 : (okMul s21.2.1 s21.2.2 = true)) => ⟨(), (set_eq (y_add (y_v (D.int s21.1) rfl) (y_mul (y_v (D.int s21.2.1) rfl) (y_v (D.int s21.2.2) rfl) h23)) rfl)⟩)) (fun s24 d25 => (n_seq (s := ((s21.2.1 * ((n + k) - a20)) / (a20 + (1 : Int)))) (show NY _ _ ((okMul s21.2.1 ((n + k) - a20) = true) ∧ (okDiv (a20 + (1 : Int)))) (fun (s : Int) (d : Unit) => ([some (.leaf (D.int n)), some (.leaf (D.int k)), some (.leaf (D.int q)), some (.leaf (D.int s24)), some (.leaf (D.int s)), some (.leaf (D.int s21.2.2)), some (.leaf (D.int a20))] : Q.Env)) ((s21.2.1 * ((n + k) - a20)) / (a20 + (1 : Int))) from (fun (h26 : (okMul s21.2.1 ((n + k) - a20) = true) ∧ (okDiv (a20 + (1 : Int)))) => ⟨(), (set_eq (y_fdiv (y_mul (y_v (D.int s21.2.1) rfl) (y_sub (y_add (y_v (D.int n) rfl) (y_v (D.int k) rfl)) (y_v (D.int a20) rfl)) h26.1) (y_add (y_v (D.int a20) rfl) (y_c (D.int 1))) h26.2) rfl)⟩)) (fun s27 d28 => (n_last (R := (fun (s : (Int × Int × Int)) (d : Option T) => ([some (.leaf (D.int n)), some (.leaf (D.int k)), some (.leaf (D.int q)), some (.leaf (D.int s.1)), some (.leaf (D.int s.2.1)), some (.leaf (D.int s.2.2)), d] : Q.Env))) (p := fun (s30 : Int) => (s24, s27, s30)) (show NY _ _ (okMul s21.2.2 (q - (1 : Int)) = true) (fun (s : Int) (d : Unit) => ([some (.leaf (D.int n)), some (.leaf (D.int k)), some (.leaf (D.int q)), some (.leaf (D.int s24)), some (.leaf (D.int s27)), some (.leaf (D.int s)), some (.leaf (D.int a20))] : Q.Env)) (s21.2.2 * (q - (1 : Int))) from (fun (h29 : (okMul s21.2.2 (q - (1 : Int)) = true)) => ⟨(), (set_eq (y_mul (y_v (D.int s21.2.2) rfl) (y_sub (y_v (D.int q) rfl) (y_c (D.int 1))) h29) rfl)⟩)) (fun s30 d31 => ⟨(some (.leaf (D.int a20)) : Option T), rfl⟩)))))))) (fun s32 d33 => (t_ret (v := (s32.1 : Int)) (g := True) (fun (h34 : True) => (y_v (D.int s32.1) rfl)) rfl))))))))))))))) hg
def p_doubling_number (n : Int) (runs : Int) (k : Int) : Int :=
  (p_chosen ((k + runs) - (1 : Int)) k)
def g_doubling_number (n : Int) (runs : Int) (k : Int) : Prop :=
  ((g_check_number n (1 : Int)) ∧ ((g_check_number runs (1 : Int)) ∧ ((g_check_number k (0 : Int)) ∧ ((True ∧ (decide (n < runs)) = false) ∧ (g_chosen ((k + runs) - (1 : Int)) k)))))
theorem s_doubling_number (n : Int) (runs : Int) (k : Int) (hg : g_doubling_number n runs k) : f_doubling_number [(.leaf (D.int n)), (.leaf (D.int runs)), (.leaf (D.int k))] = .ok (.leaf (D.int (p_doubling_number n runs k))) [] :=
  Y.fn_of (lent := []) (n := 3) (ρ := ([some (.leaf (D.int n)), some (.leaf (D.int runs)), some (.leaf (D.int k))] : Q.Env)) (g := g_doubling_number n runs k) (et := (fun b : Int => .leaf (D.int b))) (el := (fun b : Int => [])) (v := p_doubling_number n runs k) rfl
  (t_seqU (show NY _ _ (g_check_number n (1 : Int)) (fun (s : Unit) (d : Unit) => ([some (.leaf (D.int n)), some (.leaf (D.int runs)), some (.leaf (D.int k))] : Q.Env)) () from (fun (h1 : (g_check_number n (1 : Int))) => ⟨(), (drop_eq (y_call (yc_val (y_v (D.int n) rfl) (yc_val (y_c (D.int 1)) yc_nil)) rfl (s_check_number n (1 : Int) h1) rfl rfl))⟩)) (fun d3 => (t_seqU (show NY _ _ (g_check_number runs (1 : Int)) (fun (s : Unit) (d : Unit) => ([some (.leaf (D.int n)), some (.leaf (D.int runs)), some (.leaf (D.int k))] : Q.Env)) () from (fun (h4 : (g_check_number runs (1 : Int))) => ⟨(), (drop_eq (y_call (yc_val (y_v (D.int runs) rfl) (yc_val (y_c (D.int 1)) yc_nil)) rfl (s_check_number runs (1 : Int) h4) rfl rfl))⟩)) (fun d6 => (t_seqU (show NY _ _ (g_check_number k (0 : Int)) (fun (s : Unit) (d : Unit) => ([some (.leaf (D.int n)), some (.leaf (D.int runs)), some (.leaf (D.int k))] : Q.Env)) () from (fun (h7 : (g_check_number k (0 : Int))) => ⟨(), (drop_eq (y_call (yc_val (y_v (D.int k) rfl) (yc_val (y_c (D.int 0)) yc_nil)) rfl (s_check_number k (0 : Int) h7) rfl rfl))⟩)) (fun d9 => (t_seqU (n_ifno (R := (fun (s : Unit) (d : Unit) => ([some (.leaf (D.int n)), some (.leaf (D.int runs)), some (.leaf (D.int k))] : Q.Env))) (d := ()) (fun (h10 : True) => (y_test (y_gt (y_v (D.int runs) rfl) (y_v (D.int n) rfl)))) rfl) (fun d12 => (t_ret (v := ((p_chosen ((k + runs) - (1 : Int)) k) : Int)) (g := (g_chosen ((k + runs) - (1 : Int)) k)) (fun (h13 : (g_chosen ((k + runs) - (1 : Int)) k)) => (y_call (yc_val (y_sub (y_add (y_v (D.int k) rfl) (y_v (D.int runs) rfl)) (y_c (D.int 1))) (yc_val (y_v (D.int k) rfl) yc_nil)) rfl (s_chosen ((k + runs) - (1 : Int)) k h13) rfl rfl)) rfl))))))))) hg
def p__law_put_in (purse : (Int × (List Int))) (n : Int) (k : Int) : (Bool × (Int × (List Int))) :=
  (letY ((p__law_pick purse (6 : Int)).2, (ixY ([(2 : Int), (1 : Int), (0 : Int), (3 : Int), (2000 : Int), (23 : Int)] : List Int) (p__law_pick purse (6 : Int)).1)) fun (s2 : ((Int × (List Int)) × Int)) => (bif (!(p__law_same (p_noise_number n k s2.2) ((p__law_choose (n + k) k) * (p__law_power s2.2 k)))) then (false, s2.1) else (letY ((p__law_pick s2.1 (12 : Int)).2, ((1 : Int) + (p__law_pick s2.1 (12 : Int)).1), (min k (30 : Int))) fun (s7 : ((Int × (List Int)) × Int × Int)) => (letY ((p__law_pick s7.1 (6 : Int)).2, (((1 : Int) + s7.2.2) + (p__law_pick s7.1 (6 : Int)).1)) fun (s10 : ((Int × (List Int)) × Int)) => (bif (!(p__law_same (p_scattered_number (min n (40 : Int)) s7.2.2 s7.2.1) (p__law_scattered (min n (40 : Int)) s7.2.2 s7.2.1))) then (false, s10.1) else (bif (!(p__law_same (p_scattered_number (0 : Int) s10.2 s7.2.1) (p__law_power s7.2.1 s10.2))) then (false, s10.1) else (letY ((p__law_pick s10.1 (24 : Int)).2, ((2000 : Int) - (p__law_pick s10.1 (24 : Int)).1)) fun (s17 : ((Int × (List Int)) × Int)) => (letY ((1 : Int) + (s17.2 * (s7.2.1 - (1 : Int)))) fun (s20 : Int) => (bif (!(p__law_same (p_scattered_number (s17.2 - (1 : Int)) (1 : Int) s7.2.1) s20)) then (false, s17.1) else (letY ((p__law_pick s17.1 (24 : Int)).2, ((1 : Int) + ((p__law_pick s17.1 (24 : Int)).1 % (n + (1 : Int))))) fun (s25 : ((Int × (List Int)) × Int)) => (bif (!(p__law_same (p_doubling_number (n + (1 : Int)) s25.2 k) (p__law_choose ((k + s25.2) - (1 : Int)) (s25.2 - (1 : Int))))) then (false, s25.1) else (((p__law_same (p_doubling_number (n + (1 : Int)) (1 : Int) k) (1 : Int)) && (p__law_same (p_doubling_number s17.2 s17.2 (1 : Int)) s17.2)), s25.1))))))))))))
def g__law_put_in (purse : (Int × (List Int))) (n : Int) (k : Int) : Prop :=
  (((g__law_pick purse (6 : Int)) ∧ (okIx ([(2 : Int), (1 : Int), (0 : Int), (3 : Int), (2000 : Int), (23 : Int)] : List Int).length (p__law_pick purse (6 : Int)).1)) ∧ (letY ((p__law_pick purse (6 : Int)).2, (ixY ([(2 : Int), (1 : Int), (0 : Int), (3 : Int), (2000 : Int), (23 : Int)] : List Int) (p__law_pick purse (6 : Int)).1)) fun (s2 : ((Int × (List Int)) × Int)) => (((g_noise_number n k s2.2) ∧ (g__law_choose (n + k) k) ∧ (g__law_power s2.2 k) ∧ (okMul (p__law_choose (n + k) k) (p__law_power s2.2 k) = true)) ∧ ((!(p__law_same (p_noise_number n k s2.2) ((p__law_choose (n + k) k) * (p__law_power s2.2 k)))) = true → True) ∧ ((!(p__law_same (p_noise_number n k s2.2) ((p__law_choose (n + k) k) * (p__law_power s2.2 k)))) = false → ((g__law_pick s2.1 (12 : Int)) ∧ (letY ((p__law_pick s2.1 (12 : Int)).2, ((1 : Int) + (p__law_pick s2.1 (12 : Int)).1), (min k (30 : Int))) fun (s7 : ((Int × (List Int)) × Int × Int)) => ((g__law_pick s7.1 (6 : Int)) ∧ (letY ((p__law_pick s7.1 (6 : Int)).2, (((1 : Int) + s7.2.2) + (p__law_pick s7.1 (6 : Int)).1)) fun (s10 : ((Int × (List Int)) × Int)) => (((g_scattered_number (min n (40 : Int)) s7.2.2 s7.2.1) ∧ (g__law_scattered (min n (40 : Int)) s7.2.2 s7.2.1)) ∧ ((!(p__law_same (p_scattered_number (min n (40 : Int)) s7.2.2 s7.2.1) (p__law_scattered (min n (40 : Int)) s7.2.2 s7.2.1))) = true → True) ∧ ((!(p__law_same (p_scattered_number (min n (40 : Int)) s7.2.2 s7.2.1) (p__law_scattered (min n (40 : Int)) s7.2.2 s7.2.1))) = false → (((g_scattered_number (0 : Int) s10.2 s7.2.1) ∧ (g__law_power s7.2.1 s10.2)) ∧ ((!(p__law_same (p_scattered_number (0 : Int) s10.2 s7.2.1) (p__law_power s7.2.1 s10.2))) = true → True) ∧ ((!(p__law_same (p_scattered_number (0 : Int) s10.2 s7.2.1) (p__law_power s7.2.1 s10.2))) = false → ((g__law_pick s10.1 (24 : Int)) ∧ (letY ((p__law_pick s10.1 (24 : Int)).2, ((2000 : Int) - (p__law_pick s10.1 (24 : Int)).1)) fun (s17 : ((Int × (List Int)) × Int)) => ((okMul s17.2 (s7.2.1 - (1 : Int)) = true) ∧ (letY ((1 : Int) + (s17.2 * (s7.2.1 - (1 : Int)))) fun (s20 : Int) => ((g_scattered_number (s17.2 - (1 : Int)) (1 : Int) s7.2.1) ∧ ((!(p__law_same (p_scattered_number (s17.2 - (1 : Int)) (1 : Int) s7.2.1) s20)) = true → True) ∧ ((!(p__law_same (p_scattered_number (s17.2 - (1 : Int)) (1 : Int) s7.2.1) s20)) = false → (((g__law_pick s17.1 (24 : Int)) ∧ (0 < (n + (1 : Int)))) ∧ (letY ((p__law_pick s17.1 (24 : Int)).2, ((1 : Int) + ((p__law_pick s17.1 (24 : Int)).1 % (n + (1 : Int))))) fun (s25 : ((Int × (List Int)) × Int)) => (((g_doubling_number (n + (1 : Int)) s25.2 k) ∧ (g__law_choose ((k + s25.2) - (1 : Int)) (s25.2 - (1 : Int)))) ∧ ((!(p__law_same (p_doubling_number (n + (1 : Int)) s25.2 k) (p__law_choose ((k + s25.2) - (1 : Int)) (s25.2 - (1 : Int))))) = true → True) ∧ ((!(p__law_same (p_doubling_number (n + (1 : Int)) s25.2 k) (p__law_choose ((k + s25.2) - (1 : Int)) (s25.2 - (1 : Int))))) = false → ((g_doubling_number (n + (1 : Int)) (1 : Int) k) ∧ ((p__law_same (p_doubling_number (n + (1 : Int)) (1 : Int) k) (1 : Int)) = true → g_doubling_number s17.2 s17.2 (1 : Int)))))))))))))))))))))))))
theorem s__law_put_in (purse : (Int × (List Int))) (n : Int) (k : Int) (hg : g__law_put_in purse n k) : f__law_put_in [((oN (pC D.int (pZ (eL D.int)))) purse), (.leaf (D.int n)), (.leaf (D.int k))] = .ok (.leaf (D.bl (p__law_put_in purse n k).1)) [(oN (pC D.int (pZ (eL D.int)))) (p__law_put_in purse n k).2] :=
  Y.fn_of (lent := [0]) (n := 10) (ρ := ([some ((oN (pC D.int (pZ (eL D.int)))) purse), some (.leaf (D.int n)), some (.leaf (D.int k)), none, none, none, none, none, none, none] : Q.Env)) (g := g__law_put_in purse n k) (et := (fun b : (Bool × (Int × (List Int))) => .leaf (D.bl b.1))) (el := (fun b : (Bool × (Int × (List Int))) => [(oN (pC D.int (pZ (eL D.int)))) b.2])) (v := p__law_put_in purse n k) rfl
  (t_seqN (s := ((p__law_pick purse (6 : Int)).2, (ixY ([(2 : Int), (1 : Int), (0 : Int), (3 : Int), (2000 : Int), (23 : Int)] : List Int) (p__law_pick purse (6 : Int)).1))) (show NY _ _ ((g__law_pick purse (6 : Int)) ∧ (okIx ([(2 : Int), (1 : Int), (0 : Int), (3 : Int), (2000 : Int), (23 : Int)] : List Int).length (p__law_pick purse (6 : Int)).1)) (fun (s : ((Int × (List Int)) × Int)) (d : Unit) => ([some ((oN (pC D.int (pZ (eL D.int)))) s.1), some (.leaf (D.int n)), some (.leaf (D.int k)), some (.leaf (D.int s.2)), none, none, none, none, none, none] : Q.Env)) ((p__law_pick purse (6 : Int)).2, (ixY ([(2 : Int), (1 : Int), (0 : Int), (3 : Int), (2000 : Int), (23 : Int)] : List Int) (p__law_pick purse (6 : Int)).1)) from (fun (h1 : (g__law_pick purse (6 : Int)) ∧ (okIx ([(2 : Int), (1 : Int), (0 : Int), (3 : Int), (2000 : Int), (23 : Int)] : List Int).length (p__law_pick purse (6 : Int)).1)) => ⟨(), (set_eq (y_ixU (e := D.int) (y_tup (ds := List.map D.int ([(2 : Int), (1 : Int), (0 : Int), (3 : Int), (2000 : Int), (23 : Int)] : List Int)) (ya_cons (y_c (D.int 2)) (ya_cons (y_c (D.int 1)) (ya_cons (y_c (D.int 0)) (ya_cons (y_c (D.int 3)) (ya_cons (y_c (D.int 2000)) (ya_cons (y_c (D.int 23)) ya_nil)))))) rfl rfl) (y_call (yc_lend (y_move (t := (oN (pC D.int (pZ (eL D.int)))) purse) rfl rfl) (yc_val (y_c (D.int 6)) yc_nil)) rfl (s__law_pick purse (6 : Int) h1.1) rfl rfl) h1.2) rfl)⟩)) (fun s2 d3 => (t_ifr (x := (!(p__law_same (p_noise_number n k s2.2) ((p__law_choose (n + k) k) * (p__law_power s2.2 k))))) (fun (h4 : (g_noise_number n k s2.2) ∧ (g__law_choose (n + k) k) ∧ (g__law_power s2.2 k) ∧ (okMul (p__law_choose (n + k) k) (p__law_power s2.2 k) = true)) => (y_not (y_test (y_call (yc_val (y_fz (y_call (yc_val (y_v (D.int n) rfl) (yc_val (y_v (D.int k) rfl) (yc_val (y_v (D.int s2.2) rfl) yc_nil))) rfl (s_noise_number n k s2.2 h4.1) rfl rfl) rfl) (yc_val (y_fz (y_mul (y_call (yc_val (y_fz (y_add (y_v (D.int n) rfl) (y_v (D.int k) rfl)) rfl) (yc_val (y_v (D.int k) rfl) yc_nil)) rfl (s__law_choose (n + k) k h4.2.1) rfl rfl) (y_call (yc_val (y_v (D.int s2.2) rfl) (yc_val (y_v (D.int k) rfl) yc_nil)) rfl (s__law_power s2.2 k h4.2.2.1) rfl rfl) h4.2.2.2) rfl) yc_nil)) rfl (s__law_same (p_noise_number n k s2.2) ((p__law_choose (n + k) k) * (p__law_power s2.2 k)) ) rfl rfl)))) (t_ret (v := ((false, s2.1) : (Bool × (Int × (List Int))))) (g := True) (fun (h5 : True) => (y_c (D.bl false))) rfl) (t_seqN (s := ((p__law_pick s2.1 (12 : Int)).2, ((1 : Int) + (p__law_pick s2.1 (12 : Int)).1), (min k (30 : Int)))) (show NY _ _ (g__law_pick s2.1 (12 : Int)) (fun (s : ((Int × (List Int)) × Int × Int)) (d : Unit) => ([some ((oN (pC D.int (pZ (eL D.int)))) s.1), some (.leaf (D.int n)), some (.leaf (D.int k)), some (.leaf (D.int s2.2)), some (.leaf (D.int s.2.1)), some (.leaf (D.int s.2.2)), none, none, none, none] : Q.Env)) ((p__law_pick s2.1 (12 : Int)).2, ((1 : Int) + (p__law_pick s2.1 (12 : Int)).1), (min k (30 : Int))) from (fun (h6 : (g__law_pick s2.1 (12 : Int))) => ⟨(), (par_eq (ya_cons (y_add (y_c (D.int 1)) (y_call (yc_lend (y_move (t := (oN (pC D.int (pZ (eL D.int)))) s2.1) rfl rfl) (yc_val (y_c (D.int 12)) yc_nil)) rfl (s__law_pick s2.1 (12 : Int) h6) rfl rfl)) (ya_cons (y_min (y_v (D.int k) rfl) (y_c (D.int 30))) ya_nil)) rfl rfl)⟩)) (fun s7 d8 => (t_seqN (s := ((p__law_pick s7.1 (6 : Int)).2, (((1 : Int) + s7.2.2) + (p__law_pick s7.1 (6 : Int)).1))) (show NY _ _ (g__law_pick s7.1 (6 : Int)) (fun (s : ((Int × (List Int)) × Int)) (d : Unit) => ([some ((oN (pC D.int (pZ (eL D.int)))) s.1), some (.leaf (D.int n)), some (.leaf (D.int k)), some (.leaf (D.int s2.2)), some (.leaf (D.int s7.2.1)), some (.leaf (D.int s7.2.2)), some (.leaf (D.int s.2)), none, none, none] : Q.Env)) ((p__law_pick s7.1 (6 : Int)).2, (((1 : Int) + s7.2.2) + (p__law_pick s7.1 (6 : Int)).1)) from (fun (h9 : (g__law_pick s7.1 (6 : Int))) => ⟨(), (set_eq (y_add (y_add (y_c (D.int 1)) (y_v (D.int s7.2.2) rfl)) (y_call (yc_lend (y_move (t := (oN (pC D.int (pZ (eL D.int)))) s7.1) rfl rfl) (yc_val (y_c (D.int 6)) yc_nil)) rfl (s__law_pick s7.1 (6 : Int) h9) rfl rfl)) rfl)⟩)) (fun s10 d11 => (t_ifr (x := (!(p__law_same (p_scattered_number (min n (40 : Int)) s7.2.2 s7.2.1) (p__law_scattered (min n (40 : Int)) s7.2.2 s7.2.1)))) (fun (h12 : (g_scattered_number (min n (40 : Int)) s7.2.2 s7.2.1) ∧ (g__law_scattered (min n (40 : Int)) s7.2.2 s7.2.1)) => (y_not (y_test (y_call (yc_val (y_fz (y_call (yc_val (y_min (y_v (D.int n) rfl) (y_c (D.int 40))) (yc_val (y_v (D.int s7.2.2) rfl) (yc_val (y_v (D.int s7.2.1) rfl) yc_nil))) rfl (s_scattered_number (min n (40 : Int)) s7.2.2 s7.2.1 h12.1) rfl rfl) rfl) (yc_val (y_fz (y_call (yc_val (y_min (y_v (D.int n) rfl) (y_c (D.int 40))) (yc_val (y_v (D.int s7.2.2) rfl) (yc_val (y_v (D.int s7.2.1) rfl) yc_nil))) rfl (s__law_scattered (min n (40 : Int)) s7.2.2 s7.2.1 h12.2) rfl rfl) rfl) yc_nil)) rfl (s__law_same (p_scattered_number (min n (40 : Int)) s7.2.2 s7.2.1) (p__law_scattered (min n (40 : Int)) s7.2.2 s7.2.1) ) rfl rfl)))) (t_ret (v := ((false, s10.1) : (Bool × (Int × (List Int))))) (g := True) (fun (h13 : True) => (y_c (D.bl false))) rfl) (t_ifr (x := (!(p__law_same (p_scattered_number (0 : Int) s10.2 s7.2.1) (p__law_power s7.2.1 s10.2)))) (fun (h14 : (g_scattered_number (0 : Int) s10.2 s7.2.1) ∧ (g__law_power s7.2.1 s10.2)) => (y_not (y_test (y_call (yc_val (y_fz (y_call (yc_val (y_c (D.int 0)) (yc_val (y_v (D.int s10.2) rfl) (yc_val (y_v (D.int s7.2.1) rfl) yc_nil))) rfl (s_scattered_number (0 : Int) s10.2 s7.2.1 h14.1) rfl rfl) rfl) (yc_val (y_fz (y_call (yc_val (y_v (D.int s7.2.1) rfl) (yc_val (y_v (D.int s10.2) rfl) yc_nil)) rfl (s__law_power s7.2.1 s10.2 h14.2) rfl rfl) rfl) yc_nil)) rfl (s__law_same (p_scattered_number (0 : Int) s10.2 s7.2.1) (p__law_power s7.2.1 s10.2) ) rfl rfl)))) (t_ret (v := ((false, s10.1) : (Bool × (Int × (List Int))))) (g := True) (fun (h15 : True) => (y_c (D.bl false))) rfl) (t_seqN (s := ((p__law_pick s10.1 (24 : Int)).2, ((2000 : Int) - (p__law_pick s10.1 (24 : Int)).1))) (show NY _ _ (g__law_pick s10.1 (24 : Int)) (fun (s : ((Int × (List Int)) × Int)) (d : Unit) => ([some ((oN (pC D.int (pZ (eL D.int)))) s.1), some (.leaf (D.int n)), some (.leaf (D.int k)), some (.leaf (D.int s2.2)), some (.leaf (D.int s7.2.1)), some (.leaf (D.int s7.2.2)), some (.leaf (D.int s10.2)), some (.leaf (D.int s.2)), none, none] : Q.Env)) ((p__law_pick s10.1 (24 : Int)).2, ((2000 : Int) - (p__law_pick s10.1 (24 : Int)).1)) from (fun (h16 : (g__law_pick s10.1 (24 : Int))) => ⟨(), (set_eq (y_sub (y_c (D.int 2000)) (y_call (yc_lend (y_move (t := (oN (pC D.int (pZ (eL D.int)))) s10.1) rfl rfl) (yc_val (y_c (D.int 24)) yc_nil)) rfl (s__law_pick s10.1 (24 : Int) h16) rfl rfl)) rfl)⟩)) (fun s17 d18 => (t_seqN (s := ((1 : Int) + (s17.2 * (s7.2.1 - (1 : Int))))) (show NY _ _ (okMul s17.2 (s7.2.1 - (1 : Int)) = true) (fun (s : Int) (d : Unit) => ([some ((oN (pC D.int (pZ (eL D.int)))) s17.1), some (.leaf (D.int n)), some (.leaf (D.int k)), some (.leaf (D.int s2.2)), some (.leaf (D.int s7.2.1)), some (.leaf (D.int s7.2.2)), some (.leaf (D.int s10.2)), some (.leaf (D.int s17.2)), some (.leaf (D.int s)), none] : Q.Env)) ((1 : Int) + (s17.2 * (s7.2.1 - (1 : Int)))) from (fun (h19 : (okMul s17.2 (s7.2.1 - (1 : Int)) = true)) => ⟨(), (set_eq (y_add (y_c (D.int 1)) (y_mul (y_v (D.int s17.2) rfl) (y_sub (y_v (D.int s7.2.1) rfl) (y_c (D.int 1))) h19)) rfl)⟩)) (fun s20 d21 => (t_ifr (x := (!(p__law_same (p_scattered_number (s17.2 - (1 : Int)) (1 : Int) s7.2.1) s20))) (fun (h22 : (g_scattered_number (s17.2 - (1 : Int)) (1 : Int) s7.2.1)) => (y_not (y_test (y_call (yc_val (y_fz (y_call (yc_val (y_sub (y_v (D.int s17.2) rfl) (y_c (D.int 1))) (yc_val (y_c (D.int 1)) (yc_val (y_v (D.int s7.2.1) rfl) yc_nil))) rfl (s_scattered_number (s17.2 - (1 : Int)) (1 : Int) s7.2.1 h22) rfl rfl) rfl) (yc_val (y_v (D.int s20) rfl) yc_nil)) rfl (s__law_same (p_scattered_number (s17.2 - (1 : Int)) (1 : Int) s7.2.1) s20 ) rfl rfl)))) (t_ret (v := ((false, s17.1) : (Bool × (Int × (List Int))))) (g := True) (fun (h23 : True) => (y_c (D.bl false))) rfl) (t_seqN (s := ((p__law_pick s17.1 (24 : Int)).2, ((1 : Int) + ((p__law_pick s17.1 (24 : Int)).1 % (n + (1 : Int)))))) (show NY _ _ ((g__law_pick s17.1 (24 : Int)) ∧ (0 < (n + (1 : Int)))) (fun (s : ((Int × (List Int)) × Int)) (d : Unit) => ([some ((oN (pC D.int (pZ (eL D.int)))) s.1), some (.leaf (D.int n)), some (.leaf (D.int k)), some (.leaf (D.int s2.2)), some (.leaf (D.int s7.2.1)), some (.leaf (D.int s7.2.2)), some (.leaf (D.int s10.2)), some (.leaf (D.int s17.2)), some (.leaf (D.int s20)), some (.leaf (D.int s.2))] : Q.Env)) ((p__law_pick s17.1 (24 : Int)).2, ((1 : Int) + ((p__law_pick s17.1 (24 : Int)).1 % (n + (1 : Int))))) from (fun (h24 : (g__law_pick s17.1 (24 : Int)) ∧ (0 < (n + (1 : Int)))) => ⟨(), (set_eq (y_add (y_c (D.int 1)) (y_mod (y_int (y_call (yc_lend (y_move (t := (oN (pC D.int (pZ (eL D.int)))) s17.1) rfl rfl) (yc_val (y_c (D.int 24)) yc_nil)) rfl (s__law_pick s17.1 (24 : Int) h24.1) rfl rfl)) (y_add (y_v (D.int n) rfl) (y_c (D.int 1))) h24.2)) rfl)⟩)) (fun s25 d26 => (t_ifr (x := (!(p__law_same (p_doubling_number (n + (1 : Int)) s25.2 k) (p__law_choose ((k + s25.2) - (1 : Int)) (s25.2 - (1 : Int)))))) (fun (h27 : (g_doubling_number (n + (1 : Int)) s25.2 k) ∧ (g__law_choose ((k + s25.2) - (1 : Int)) (s25.2 - (1 : Int)))) => (y_not (y_test (y_call (yc_val (y_fz (y_call (yc_val (y_fz (y_add (y_v (D.int n) rfl) (y_c (D.int 1))) rfl) (yc_val (y_v (D.int s25.2) rfl) (yc_val (y_v (D.int k) rfl) yc_nil))) rfl (s_doubling_number (n + (1 : Int)) s25.2 k h27.1) rfl rfl) rfl) (yc_val (y_fz (y_call (yc_val (y_sub (y_add (y_v (D.int k) rfl) (y_v (D.int s25.2) rfl)) (y_c (D.int 1))) (yc_val (y_sub (y_v (D.int s25.2) rfl) (y_c (D.int 1))) yc_nil)) rfl (s__law_choose ((k + s25.2) - (1 : Int)) (s25.2 - (1 : Int)) h27.2) rfl rfl) rfl) yc_nil)) rfl (s__law_same (p_doubling_number (n + (1 : Int)) s25.2 k) (p__law_choose ((k + s25.2) - (1 : Int)) (s25.2 - (1 : Int))) ) rfl rfl)))) (t_ret (v := ((false, s25.1) : (Bool × (Int × (List Int))))) (g := True) (fun (h28 : True) => (y_c (D.bl false))) rfl) (t_ret (v := ((((p__law_same (p_doubling_number (n + (1 : Int)) (1 : Int) k) (1 : Int)) && (p__law_same (p_doubling_number s17.2 s17.2 (1 : Int)) s17.2)), s25.1) : (Bool × (Int × (List Int))))) (g := ((g_doubling_number (n + (1 : Int)) (1 : Int) k) ∧ ((p__law_same (p_doubling_number (n + (1 : Int)) (1 : Int) k) (1 : Int)) = true → g_doubling_number s17.2 s17.2 (1 : Int)))) (fun (h29 : (g_doubling_number (n + (1 : Int)) (1 : Int) k) ∧ ((p__law_same (p_doubling_number (n + (1 : Int)) (1 : Int) k) (1 : Int)) = true → g_doubling_number s17.2 s17.2 (1 : Int))) => (y_andV (y_call (yc_val (y_fz (y_call (yc_val (y_fz (y_add (y_v (D.int n) rfl) (y_c (D.int 1))) rfl) (yc_val (y_c (D.int 1)) (yc_val (y_v (D.int k) rfl) yc_nil))) rfl (s_doubling_number (n + (1 : Int)) (1 : Int) k h29.1) rfl rfl) rfl) (yc_val (y_c (D.int 1)) yc_nil)) rfl (s__law_same (p_doubling_number (n + (1 : Int)) (1 : Int) k) (1 : Int) ) rfl rfl) (fun k30 => (y_call (yc_val (y_fz (y_call (yc_val (y_v (D.int s17.2) rfl) (yc_val (y_v (D.int s17.2) rfl) (yc_val (y_c (D.int 1)) yc_nil))) rfl (s_doubling_number s17.2 s17.2 (1 : Int) (h29.2 k30)) rfl rfl) rfl) (yc_val (y_v (D.int s17.2) rfl) yc_nil)) rfl (s__law_same (p_doubling_number s17.2 s17.2 (1 : Int)) s17.2 ) rfl rfl)))) rfl) ))) ))))) ) ))))) ))) hg
def b_turning_number_1 (a8 : Int) (s9 : (Int × Int)) : (Int × Int) :=
  (letY (s9.2, (s9.1 + s9.2)) fun (s12 : (Int × Int)) => (s12.1, s12.2))
def p_turning_number (n : Int) : Int :=
  (letY ((1 : Int), (1 : Int)) fun (s5 : (Int × Int)) => (letY (foldY b_turning_number_1 (rangeY 0 n) (s5.1, s5.2)) fun (s14 : (Int × Int)) => s14.1))
def g_turning_number (n : Int) : Prop :=
  ((g_check_number n (0 : Int)) ∧ (letY ((1 : Int), (1 : Int)) fun (s5 : (Int × Int)) => (okR n)))
theorem s_turning_number (n : Int) (hg : g_turning_number n) : f_turning_number [(.leaf (D.int n))] = .ok (.leaf (D.int (p_turning_number n))) [] :=
  Y.fn_of (lent := []) (n := 4) (ρ := ([some (.leaf (D.int n)), none, none, none] : Q.Env)) (g := g_turning_number n) (et := (fun b : Int => .leaf (D.int b))) (el := (fun b : Int => [])) (v := p_turning_number n) rfl
  (t_seqU (show NY _ _ (g_check_number n (0 : Int)) (fun (s : Unit) (d : Unit) => ([some (.leaf (D.int n)), none, none, none] : Q.Env)) () from (fun (h1 : (g_check_number n (0 : Int))) => ⟨(), (drop_eq (y_call (yc_val (y_v (D.int n) rfl) (yc_val (y_c (D.int 0)) yc_nil)) rfl (s_check_number n (0 : Int) h1) rfl rfl))⟩)) (fun d3 => (t_seqN0 (s := ((1 : Int), (1 : Int))) (show NY _ _ True (fun (s : (Int × Int)) (d : Unit) => ([some (.leaf (D.int n)), some (.leaf (D.int s.1)), some (.leaf (D.int s.2)), none] : Q.Env)) ((1 : Int), (1 : Int)) from (fun (h4 : True) => ⟨(), (asg_eq (y_tup (ds := ((pC D.int (pZ D.int))) ((1 : Int), (1 : Int))) (ya_cons (y_c (D.int 1)) (ya_cons (y_c (D.int 1)) ya_nil)) rfl rfl) rfl)⟩)) (fun s5 d6 => (t_seqNP (s := (foldY b_turning_number_1 (rangeY 0 n) (s5.1, s5.2))) (n_for0 (e := D.int) (l := (rangeY 0 n)) (s := (s5.1, s5.2)) (d0 := (none : Option T)) (R := (fun (s : (Int × Int)) (d : Option T) => ([some (.leaf (D.int n)), some (.leaf (D.int s.1)), some (.leaf (D.int s.2)), d] : Q.Env))) (Rt := (fun (a8 : Int) (s9 : (Int × Int)) (d10 : Option T) => ([some (.leaf (D.int n)), some (.leaf (D.int s9.1)), some (.leaf (D.int s9.2)), some (.leaf (D.int a8))] : Q.Env))) (f := b_turning_number_1) (fun (h7 : (okR n)) => (yi_range1 (y_v (D.int n) rfl) h7)) rfl (fun _ _ _ => rfl) (fun a8 s9 d10 => (n_last (R := (fun (s : (Int × Int)) (d : Option T) => ([some (.leaf (D.int n)), some (.leaf (D.int s.1)), some (.leaf (D.int s.2)), d] : Q.Env))) (p := fun (s12 : (Int × Int)) => (s12.1, s12.2)) (show NY _ _ True (fun (s : (Int × Int)) (d : Unit) => ([some (.leaf (D.int n)), some (.leaf (D.int s.1)), some (.leaf (D.int s.2)), some (.leaf (D.int a8))] : Q.Env)) (s9.2, (s9.1 + s9.2)) from (fun (h11 : True) => ⟨(), (par_eq (ya_cons (y_v (D.int s9.2) rfl) (ya_cons (y_add (y_v (D.int s9.1) rfl) (y_v (D.int s9.2) rfl)) ya_nil)) rfl rfl)⟩)) (fun s12 d13 => ⟨(some (.leaf (D.int a8)) : Option T), rfl⟩)))) (fun s14 d15 => (t_ret (v := (s14.1 : Int)) (g := True) (fun (h16 : True) => (y_v (D.int s14.1) rfl)) rfl))))))) hg
def p_turning_by (n : Int) (k : Int) : Int :=
  (bif (decide (n < ((2 : Int) * k))) then (0 : Int) else (p_chosen (n - k) k))
def g_turning_by (n : Int) (k : Int) : Prop :=
  ((g_check_number n (0 : Int)) ∧ ((g_check_number k (0 : Int)) ∧ ((okMul (2 : Int) k = true) ∧ ((decide (n < ((2 : Int) * k))) = true → True) ∧ ((decide (n < ((2 : Int) * k))) = false → (g_chosen (n - k) k)))))
theorem s_turning_by (n : Int) (k : Int) (hg : g_turning_by n k) : f_turning_by [(.leaf (D.int n)), (.leaf (D.int k))] = .ok (.leaf (D.int (p_turning_by n k))) [] :=
  Y.fn_of (lent := []) (n := 2) (ρ := ([some (.leaf (D.int n)), some (.leaf (D.int k))] : Q.Env)) (g := g_turning_by n k) (et := (fun b : Int => .leaf (D.int b))) (el := (fun b : Int => [])) (v := p_turning_by n k) rfl
  (t_seqU (show NY _ _ (g_check_number n (0 : Int)) (fun (s : Unit) (d : Unit) => ([some (.leaf (D.int n)), some (.leaf (D.int k))] : Q.Env)) () from (fun (h1 : (g_check_number n (0 : Int))) => ⟨(), (drop_eq (y_call (yc_val (y_v (D.int n) rfl) (yc_val (y_c (D.int 0)) yc_nil)) rfl (s_check_number n (0 : Int) h1) rfl rfl))⟩)) (fun d3 => (t_seqU (show NY _ _ (g_check_number k (0 : Int)) (fun (s : Unit) (d : Unit) => ([some (.leaf (D.int n)), some (.leaf (D.int k))] : Q.Env)) () from (fun (h4 : (g_check_number k (0 : Int))) => ⟨(), (drop_eq (y_call (yc_val (y_v (D.int k) rfl) (yc_val (y_c (D.int 0)) yc_nil)) rfl (s_check_number k (0 : Int) h4) rfl rfl))⟩)) (fun d6 => (t_ifr (x := (decide (n < ((2 : Int) * k)))) (fun (h7 : (okMul (2 : Int) k = true)) => (y_test (y_gt (y_mul (y_c (D.int 2)) (y_v (D.int k) rfl) h7) (y_v (D.int n) rfl)))) (t_ret (v := ((0 : Int) : Int)) (g := True) (fun (h8 : True) => (y_c (D.int 0))) rfl) (t_ret (v := ((p_chosen (n - k) k) : Int)) (g := (g_chosen (n - k) k)) (fun (h9 : (g_chosen (n - k) k)) => (y_call (yc_val (y_sub (y_v (D.int n) rfl) (y_v (D.int k) rfl)) (yc_val (y_v (D.int k) rfl) yc_nil)) rfl (s_chosen (n - k) k h9) rfl rfl)) rfl) ))))) hg
def b__law_turnings_1 (a5 : Int) (s6 : (Int × Int)) : (Int × Int) :=
  (letY (s6.2, (s6.1 + s6.2)) fun (s9 : (Int × Int)) => (s9.1, s9.2))
def p__law_turnings (n : Int) (k : Int) : Bool :=
  (letY ((1 : Int), (1 : Int)) fun (s2 : (Int × Int)) => (letY (foldY b__law_turnings_1 (rangeY 0 n) (s2.1, s2.2)) fun (s11 : (Int × Int)) => (bif ((!(p__law_same (p_turning_number n) s11.1)) || (!(p__law_same (p_turning_by n (0 : Int)) (1 : Int)))) then false else (bif (!(p__law_same (p_turning_by n k) (p__law_choose (max (n - k) (0 : Int)) k))) then false else (letY ((p__law_turned (min n (60 : Int))) ++ ([(0 : Int), (0 : Int)] : List Int)) fun (s19 : (List Int)) => (letY (min n (60 : Int)) fun (s22 : Int) => (bif (decide ((0 : Int) < ((((rangeY 0 (s19.length : Int)).filter fun (x25 : Int) => (!(p__law_same (p_turning_by s22 x25) (ixY s19 x25)))).map fun (x25 : Int) => x25).length : Int))) then false else ((decide ((List.sum s19) = (p_turning_number s22))) && (p__law_same (p_turning_number (0 : Int)) (1 : Int))))))))))
def g__law_turnings (n : Int) (k : Int) : Prop :=
  (letY ((1 : Int), (1 : Int)) fun (s2 : (Int × Int)) => ((okR n) ∧ (letY (foldY b__law_turnings_1 (rangeY 0 n) (s2.1, s2.2)) fun (s11 : (Int × Int)) => (((g_turning_number n) ∧ ((!(p__law_same (p_turning_number n) s11.1)) = false → g_turning_by n (0 : Int))) ∧ (((!(p__law_same (p_turning_number n) s11.1)) || (!(p__law_same (p_turning_by n (0 : Int)) (1 : Int)))) = true → True) ∧ (((!(p__law_same (p_turning_number n) s11.1)) || (!(p__law_same (p_turning_by n (0 : Int)) (1 : Int)))) = false → (((g_turning_by n k) ∧ (g__law_choose (max (n - k) (0 : Int)) k)) ∧ ((!(p__law_same (p_turning_by n k) (p__law_choose (max (n - k) (0 : Int)) k))) = true → True) ∧ ((!(p__law_same (p_turning_by n k) (p__law_choose (max (n - k) (0 : Int)) k))) = false → (((g__law_turned (min n (60 : Int))) ∧ ((p__law_turned (min n (60 : Int))).length + ([(0 : Int), (0 : Int)] : List Int).length ≤ big)) ∧ (letY ((p__law_turned (min n (60 : Int))) ++ ([(0 : Int), (0 : Int)] : List Int)) fun (s19 : (List Int)) => (letY (min n (60 : Int)) fun (s22 : Int) => (((okR (s19.length : Int)) ∧ (∀ x25 ∈ (rangeY 0 (s19.length : Int)), g_turning_by s22 x25) ∧ (∀ x25 ∈ (rangeY 0 (s19.length : Int)), okIx s19.length x25) ∧ ((rangeY 0 (s19.length : Int)).length ≤ big)) ∧ ((decide ((0 : Int) < ((((rangeY 0 (s19.length : Int)).filter fun (x25 : Int) => (!(p__law_same (p_turning_by s22 x25) (ixY s19 x25)))).map fun (x25 : Int) => x25).length : Int))) = true → True) ∧ ((decide ((0 : Int) < ((((rangeY 0 (s19.length : Int)).filter fun (x25 : Int) => (!(p__law_same (p_turning_by s22 x25) (ixY s19 x25)))).map fun (x25 : Int) => x25).length : Int))) = false → ((g_turning_number s22) ∧ ((decide ((List.sum s19) = (p_turning_number s22))) = true → g_turning_number (0 : Int)))))))))))))))
theorem s__law_turnings (n : Int) (k : Int) (hg : g__law_turnings n k) : f__law_turnings [(.leaf (D.int n)), (.leaf (D.int k))] = .ok (.leaf (D.bl (p__law_turnings n k))) [] :=
  Y.fn_of (lent := []) (n := 8) (ρ := ([some (.leaf (D.int n)), some (.leaf (D.int k)), none, none, none, none, none, none] : Q.Env)) (g := g__law_turnings n k) (et := (fun b : Bool => .leaf (D.bl b))) (el := (fun b : Bool => [])) (v := p__law_turnings n k) rfl
  (t_seqN0 (s := ((1 : Int), (1 : Int))) (show NY _ _ True (fun (s : (Int × Int)) (d : Unit) => ([some (.leaf (D.int n)), some (.leaf (D.int k)), some (.leaf (D.int s.1)), some (.leaf (D.int s.2)), none, none, none, none] : Q.Env)) ((1 : Int), (1 : Int)) from (fun (h1 : True) => ⟨(), (asg_eq (y_tup (ds := ((pC D.int (pZ D.int))) ((1 : Int), (1 : Int))) (ya_cons (y_c (D.int 1)) (ya_cons (y_c (D.int 1)) ya_nil)) rfl rfl) rfl)⟩)) (fun s2 d3 => (t_seqN (s := (foldY b__law_turnings_1 (rangeY 0 n) (s2.1, s2.2))) (n_for0 (e := D.int) (l := (rangeY 0 n)) (s := (s2.1, s2.2)) (d0 := (none : Option T)) (R := (fun (s : (Int × Int)) (d : Option T) => ([some (.leaf (D.int n)), some (.leaf (D.int k)), some (.leaf (D.int s.1)), some (.leaf (D.int s.2)), d, none, none, none] : Q.Env))) (Rt := (fun (a5 : Int) (s6 : (Int × Int)) (d7 : Option T) => ([some (.leaf (D.int n)), some (.leaf (D.int k)), some (.leaf (D.int s6.1)), some (.leaf (D.int s6.2)), some (.leaf (D.int a5)), none, none, none] : Q.Env))) (f := b__law_turnings_1) (fun (h4 : (okR n)) => (yi_range1 (y_v (D.int n) rfl) h4)) rfl (fun _ _ _ => rfl) (fun a5 s6 d7 => (n_last (R := (fun (s : (Int × Int)) (d : Option T) => ([some (.leaf (D.int n)), some (.leaf (D.int k)), some (.leaf (D.int s.1)), some (.leaf (D.int s.2)), d, none, none, none] : Q.Env))) (p := fun (s9 : (Int × Int)) => (s9.1, s9.2)) (show NY _ _ True (fun (s : (Int × Int)) (d : Unit) => ([some (.leaf (D.int n)), some (.leaf (D.int k)), some (.leaf (D.int s.1)), some (.leaf (D.int s.2)), some (.leaf (D.int a5)), none, none, none] : Q.Env)) (s6.2, (s6.1 + s6.2)) from (fun (h8 : True) => ⟨(), (par_eq (ya_cons (y_v (D.int s6.2) rfl) (ya_cons (y_add (y_v (D.int s6.1) rfl) (y_v (D.int s6.2) rfl)) ya_nil)) rfl rfl)⟩)) (fun s9 d10 => ⟨(some (.leaf (D.int a5)) : Option T), rfl⟩)))) (fun s11 d12 => (t_ifr (x := ((!(p__law_same (p_turning_number n) s11.1)) || (!(p__law_same (p_turning_by n (0 : Int)) (1 : Int))))) (fun (h13 : (g_turning_number n) ∧ ((!(p__law_same (p_turning_number n) s11.1)) = false → g_turning_by n (0 : Int))) => (y_or (y_not (y_test (y_call (yc_val (y_fz (y_call (yc_val (y_v (D.int n) rfl) yc_nil) rfl (s_turning_number n h13.1) rfl rfl) rfl) (yc_val (y_v (D.int s11.1) rfl) yc_nil)) rfl (s__law_same (p_turning_number n) s11.1 ) rfl rfl))) (fun k14 => (y_not (y_test (y_call (yc_val (y_fz (y_call (yc_val (y_v (D.int n) rfl) (yc_val (y_c (D.int 0)) yc_nil)) rfl (s_turning_by n (0 : Int) (h13.2 k14)) rfl rfl) rfl) (yc_val (y_c (D.int 1)) yc_nil)) rfl (s__law_same (p_turning_by n (0 : Int)) (1 : Int) ) rfl rfl)))))) (t_ret (v := (false : Bool)) (g := True) (fun (h15 : True) => (y_c (D.bl false))) rfl) (t_ifr (x := (!(p__law_same (p_turning_by n k) (p__law_choose (max (n - k) (0 : Int)) k)))) (fun (h16 : (g_turning_by n k) ∧ (g__law_choose (max (n - k) (0 : Int)) k)) => (y_not (y_test (y_call (yc_val (y_fz (y_call (yc_val (y_v (D.int n) rfl) (yc_val (y_v (D.int k) rfl) yc_nil)) rfl (s_turning_by n k h16.1) rfl rfl) rfl) (yc_val (y_fz (y_call (yc_val (y_max (y_sub (y_v (D.int n) rfl) (y_v (D.int k) rfl)) (y_c (D.int 0))) (yc_val (y_v (D.int k) rfl) yc_nil)) rfl (s__law_choose (max (n - k) (0 : Int)) k h16.2) rfl rfl) rfl) yc_nil)) rfl (s__law_same (p_turning_by n k) (p__law_choose (max (n - k) (0 : Int)) k) ) rfl rfl)))) (t_ret (v := (false : Bool)) (g := True) (fun (h17 : True) => (y_c (D.bl false))) rfl) (t_seqN (s := ((p__law_turned (min n (60 : Int))) ++ ([(0 : Int), (0 : Int)] : List Int))) (show NY _ _ ((g__law_turned (min n (60 : Int))) ∧ ((p__law_turned (min n (60 : Int))).length + ([(0 : Int), (0 : Int)] : List Int).length ≤ big)) (fun (s : (List Int)) (d : Unit) => ([some (.leaf (D.int n)), some (.leaf (D.int k)), some (.leaf (D.int s11.1)), some (.leaf (D.int s11.2)), d12, some (.leaf ((eL D.int) s)), none, none] : Q.Env)) ((p__law_turned (min n (60 : Int))) ++ ([(0 : Int), (0 : Int)] : List Int)) from (fun (h18 : (g__law_turned (min n (60 : Int))) ∧ ((p__law_turned (min n (60 : Int))).length + ([(0 : Int), (0 : Int)] : List Int).length ≤ big)) => ⟨(), (set_eqL (e := D.int) (l := ((p__law_turned (min n (60 : Int))) ++ ([(0 : Int), (0 : Int)] : List Int))) (y_addL (e := D.int) (y_call (yc_val (y_min (y_v (D.int n) rfl) (y_c (D.int 60))) yc_nil) rfl (s__law_turned (min n (60 : Int)) h18.1) rfl rfl) rfl (y_lst (ya_cons (y_c (D.int 0)) (ya_cons (y_c (D.int 0)) ya_nil)) rfl) (oL_toD D.int ([(0 : Int), (0 : Int)] : List Int)) h18.2) rfl)⟩)) (fun s19 d20 => (t_seqN0 (s := (min n (60 : Int))) (show NY _ _ True (fun (s : Int) (d : Unit) => ([some (.leaf (D.int n)), some (.leaf (D.int k)), some (.leaf (D.int s11.1)), some (.leaf (D.int s11.2)), d12, some (.leaf ((eL D.int) s19)), some (.leaf (D.int s)), none] : Q.Env)) (min n (60 : Int)) from (fun (h21 : True) => ⟨(), (set_eq (y_min (y_v (D.int n) rfl) (y_c (D.int 60))) rfl)⟩)) (fun s22 d23 => (t_ifr (x := (decide ((0 : Int) < ((((rangeY 0 (s19.length : Int)).filter fun (x25 : Int) => (!(p__law_same (p_turning_by s22 x25) (ixY s19 x25)))).map fun (x25 : Int) => x25).length : Int)))) (fun (h24 : (okR (s19.length : Int)) ∧ (∀ x25 ∈ (rangeY 0 (s19.length : Int)), g_turning_by s22 x25) ∧ (∀ x25 ∈ (rangeY 0 (s19.length : Int)), okIx s19.length x25) ∧ ((rangeY 0 (s19.length : Int)).length ≤ big)) => (y_test (y_gt (y_lenO (e := D.int) (y_comp (e := D.int) (e' := D.int) (l := (rangeY 0 (s19.length : Int))) (Rt := (fun (x25 : Int) => ([some (.leaf (D.int n)), some (.leaf (D.int k)), some (.leaf (D.int s11.1)), some (.leaf (D.int s11.2)), d12, some (.leaf ((eL D.int) s19)), some (.leaf (D.int s22)), some (.leaf (D.int x25))] : Q.Env))) (x := fun (x25 : Int) => (!(p__law_same (p_turning_by s22 x25) (ixY s19 x25)))) (f := fun (x25 : Int) => x25) (ρ1 := ([some (.leaf (D.int n)), some (.leaf (D.int k)), some (.leaf (D.int s11.1)), some (.leaf (D.int s11.2)), d12, some (.leaf ((eL D.int) s19)), some (.leaf (D.int s22)), none] : Q.Env)) (yi_range1 (y_lenL (e := D.int) (y_v ((eL D.int) s19) rfl)) h24.1) rfl (fun _ => rfl) (fun _ => rfl) h24.2.2.2 (fun x25 m26 => (y_not (y_test (y_call (yc_val (y_fz (y_call (yc_val (y_v (D.int s22) rfl) (yc_val (y_v (D.int x25) rfl) yc_nil)) rfl (s_turning_by s22 x25 (h24.2.1 x25 m26)) rfl rfl) rfl) (yc_val (y_ixL (e := D.int) (y_v ((eL D.int) s19) rfl) (y_v (D.int x25) rfl) (h24.2.2.1 x25 m26)) yc_nil)) rfl (s__law_same (p_turning_by s22 x25) (ixY s19 x25) ) rfl rfl)))) (fun x25 m26 k27 => (y_v (D.int x25) rfl)))) (y_c (D.int 0))))) (t_ret (v := (false : Bool)) (g := True) (fun (h28 : True) => (y_c (D.bl false))) rfl) (t_ret (v := (((decide ((List.sum s19) = (p_turning_number s22))) && (p__law_same (p_turning_number (0 : Int)) (1 : Int))) : Bool)) (g := ((g_turning_number s22) ∧ ((decide ((List.sum s19) = (p_turning_number s22))) = true → g_turning_number (0 : Int)))) (fun (h29 : (g_turning_number s22) ∧ ((decide ((List.sum s19) = (p_turning_number s22))) = true → g_turning_number (0 : Int))) => (y_andV (y_eq (e := D.int) qe_int (x := (List.sum s19)) (y := (p_turning_number s22)) trivial trivial (y_sum (l := s19) (y_v ((eL D.int) s19) rfl) rfl) (y_call (yc_val (y_v (D.int s22) rfl) yc_nil) rfl (s_turning_number s22 h29.1) rfl rfl)) (fun k30 => (y_call (yc_val (y_fz (y_call (yc_val (y_c (D.int 0)) yc_nil) rfl (s_turning_number (0 : Int) (h29.2 k30)) rfl rfl) rfl) (yc_val (y_c (D.int 1)) yc_nil)) rfl (s__law_same (p_turning_number (0 : Int)) (1 : Int) ) rfl rfl)))) rfl) ))))) ) ))))) hg
end Law

set_option maxHeartbeats 4000000
set_option exponentiation.threshold 200000
namespace Law
open PySem L2 Q Y
/-! k15: binomials -/
def binom : Nat → Nat → Nat
  | _, 0 => 1
  | 0, _ + 1 => 0
  | n + 1, k + 1 => binom n k + binom n (k + 1)
theorem binom_zero (n : Nat) : binom n 0 = 1 := by cases n <;> rfl
theorem binom_succ (n k : Nat) : binom (n + 1) (k + 1) = binom n k + binom n (k + 1) := rfl
theorem binom_lt : ∀ {n k : Nat}, n < k → binom n k = 0
  | 0, k + 1, _ => rfl
  | n + 1, k + 1, h => by rw [binom_succ, binom_lt (by omega : n < k), binom_lt (by omega : n < k + 1)]
theorem binom_self : ∀ n : Nat, binom n n = 1
  | 0 => rfl
  | n + 1 => by rw [binom_succ, binom_self n, binom_lt (by omega : n < n + 1)]
theorem binom_one : ∀ n : Nat, binom n 1 = n
  | 0 => rfl
  | n + 1 => by rw [binom_succ, binom_zero, binom_one n]; omega
theorem binom_mul : ∀ n k : Nat, binom n (k + 1) * (k + 1) = binom n k * (n - k)
  | 0, k => by simp [binom]
  | n + 1, 0 => by rw [binom_one, binom_zero]; omega
  | n + 1, k + 1 => by
    have h1 := binom_mul n k
    have h2 := binom_mul n (k + 1)
    rw [binom_succ n (k + 1), binom_succ n k]
    by_cases hk : k + 1 ≤ n
    · have e1 : n + 1 - (k + 1) = n - k := by omega
      have e2 : n - k = (n - (k + 1)) + 1 := by omega
      rw [e1, Nat.add_mul, Nat.add_mul, h2, show k + 1 + 1 = (k + 1) + 1 by rfl, Nat.mul_add (binom n (k + 1)) (k + 1) 1, h1, e2, Nat.mul_add, Nat.mul_add]
      omega
    · rw [binom_lt (by omega : n < k + 1), binom_lt (by omega : n < k + 1 + 1)]
      by_cases hk2 : k = n
      · subst hk2; simp
      · rw [binom_lt (by omega : n < k)]; simp
theorem binom_le : ∀ n k : Nat, binom n k ≤ 2 ^ n
  | n, 0 => by rw [binom_zero]; exact Nat.one_le_two_pow
  | 0, k + 1 => by simp [binom]
  | n + 1, k + 1 => by
    have h1 := binom_le n k
    have h2 := binom_le n (k + 1)
    rw [binom_succ, Nat.pow_succ]
    omega
theorem binom_pos : ∀ {n k : Nat}, k ≤ n → 0 < binom n k
  | n, 0, _ => by rw [binom_zero]; decide
  | n + 1, k + 1, h => by
    rw [binom_succ]
    have := binom_pos (by omega : k ≤ n)
    omega
/-- the number of choices, as both texts reckon it -/
def cho (N K : Nat) : Nat := if N < K then 0 else binom N (min K (N - K))
theorem minC {N K : Nat} (h : K ≤ N) : ((min (K : Int) ((N : Int) - (K : Int))) - 0).toNat = min K (N - K) := by omega
theorem chosen_ok (N K : Nat) (hN : N ≤ 3000) : g_chosen N K ∧ p_chosen N K = (cho N K : Nat) := by
  unfold g_chosen p_chosen cho
  by_cases h : N < K
  · have h' : (N : Int) < (K : Int) := by omega
    simp [h, h', letY]
  · have h' : ¬ (N : Int) < (K : Int) := by omega
    have L := fold_range (g := gb_chosen_1 N) (f := b_chosen_1 N) (fun i (s : Int) => s = (binom N i : Nat)) (lo := 0) (hi := min (K : Int) ((N : Int) - (K : Int))) (n := min K (N - K)) (minC (by omega)) (s := 1) (by simp [binom_zero]) fun i s hi e => by
      have hm := binom_mul N i
      have hb := binom_le N i
      have e1 : ((N : Int) - (0 + (i : Int))) = ((N - i : Nat) : Int) := by omega
      have e2 : ((0 : Int) + (i : Int) + 1) = ((i + 1 : Nat) : Int) := by omega
      subst e
      unfold gb_chosen_1 b_chosen_1
      rw [e1, e2]
      refine ⟨⟨okMn 3000 3000 (Nat.le_trans hb (p2 hN)) (Nat.le_trans (by omega : N - i ≤ 2 ^ 12) (p2 (by decide))) (by decide) (by decide), okDn 12 (by omega) (by omega) (by decide)⟩, ?_⟩
      rw [← Int.natCast_mul, ← hm, Int.natCast_mul]
      exact Int.mul_ediv_cancel _ (by omega)
    refine ⟨?_, ?_⟩
    · simp only [letY, h', decide_false]
      refine ⟨trivial, fun _ => trivial, fun _ => ⟨okRn (by omega), L.1⟩⟩
    · simp only [letY, h', decide_false, cond_false, if_neg h]
      exact L.2
/-! factorials -/
def fact : Nat → Nat
  | 0 => 1
  | n + 1 => fact n * (n + 1)
def fall (N : Nat) : Nat → Nat
  | 0 => 1
  | i + 1 => fall N i * (N - i)
theorem fall_eq (N : Nat) : ∀ i, fall N i = binom N i * fact i
  | 0 => by simp [fall, fact, binom_zero]
  | i + 1 => by
    have h := binom_mul N i
    simp only [fall, fact, fall_eq N i]
    rw [← Nat.mul_assoc (binom N (i + 1)), Nat.mul_right_comm (binom N (i + 1)), h, Nat.mul_right_comm]
theorem fact_pos : ∀ n, 0 < fact n
  | 0 => by decide
  | n + 1 => Nat.mul_pos (fact_pos n) (by omega)
theorem fact_le : ∀ n, n ≤ 512 → fact n ≤ 2 ^ (9 * n)
  | 0, _ => by decide
  | n + 1, h => by
    have ih := fact_le n (by omega)
    have e : 9 * (n + 1) = 9 * n + 9 := by omega
    rw [e, Nat.pow_add]
    exact Nat.mul_le_mul ih (by omega)
theorem fall_le {N : Nat} (hN : N ≤ 3000) : ∀ i, fall N i ≤ 2 ^ (12 * i)
  | 0 => by simp [fall]
  | i + 1 => by
    have ih := fall_le hN i
    have e : 12 * (i + 1) = 12 * i + 12 := by omega
    rw [e, Nat.pow_add]
    exact Nat.mul_le_mul ih (by omega)
theorem lchoose_ok (N K : Nat) (hN : N ≤ 3000) (hm : min K (N - K) ≤ 500) : g__law_choose N K ∧ p__law_choose N K = (cho N K : Nat) := by
  unfold g__law_choose p__law_choose cho
  by_cases h : N < K
  · have h' : (N : Int) < (K : Int) := by omega
    simp [h, h', letY]
  · have h' : ¬ (N : Int) < (K : Int) := by omega
    have L := fold_range (g := gb__law_choose_1 N) (f := b__law_choose_1 N) (fun i (s : Int × Int) => i ≤ 500 ∧ s = (((fall N i : Nat) : Int), ((fact i : Nat) : Int))) (lo := 0) (hi := min (K : Int) ((N : Int) - (K : Int))) (n := min K (N - K)) (minC (by omega)) (s := (1, 1)) (by simp [fall, fact]) fun i s hi e => by
      obtain ⟨hi5, e⟩ := e
      have e1 : ((N : Int) - (0 + (i : Int))) = ((N - i : Nat) : Int) := by omega
      have e2 : ((0 : Int) + (i : Int) + 1) = ((i + 1 : Nat) : Int) := by omega
      subst e
      unfold gb__law_choose_1 b__law_choose_1
      simp only [letY]
      rw [e1, e2]
      have f1 := fall_le hN i
      have f2 := fact_le i (by omega)
      refine ⟨⟨okMn 6000 12 (Nat.le_trans f1 (p2 (by omega))) (by omega) (by decide) (by decide), okMn 6000 12 (Nat.le_trans f2 (p2 (by omega))) (by omega) (by decide) (by decide)⟩, by omega, ?_⟩
      simp only [fall, fact, Int.natCast_mul]
    obtain ⟨L1, L2, L3⟩ := L
    refine ⟨?_, ?_⟩
    · simp only [letY, h', decide_false]
      refine ⟨trivial, fun _ => trivial, fun _ => ⟨⟨okRn (by omega), L1⟩, ?_⟩⟩
      rw [L3]
      exact okDn 4608 (fact_pos _) (Nat.le_trans (fact_le _ (by omega)) (p2 (by omega))) (by decide)
    · simp only [letY, h', decide_false, cond_false, if_neg h]
      rw [L3]
      show ((fall N (min K (N - K)) : Nat) : Int) / ((fact (min K (N - K)) : Nat) : Int) = _
      rw [fall_eq, Int.natCast_mul]
      exact Int.mul_ediv_cancel _ (by have := fact_pos (min K (N - K)); omega)
/-! powers -/
theorem pow_le2 {q b : Nat} (hq : q ≤ 2 ^ b) (m : Nat) : q ^ m ≤ 2 ^ (b * m) := by
  rw [Nat.pow_mul]; exact Nat.pow_le_pow_left hq m
theorem lpower_ok (q m : Nat) (b : Nat) (hq : q ≤ 2 ^ b) (hb : b * m + b ≤ 50000) (hm : m ≤ 100000) : g__law_power q m ∧ p__law_power q m = (q ^ m : Nat) := by
  have L := fold_range (g := gb__law_power_1 q) (f := b__law_power_1 q) (fun i (s : Int) => i ≤ m ∧ s = ((q ^ i : Nat) : Int)) (lo := 0) (hi := (m : Int)) (n := m) (by omega) (s := 1) ⟨Nat.zero_le _, by simp⟩ fun i s hi e => by
    obtain ⟨_, e⟩ := e
    subst e
    have h1 := pow_le2 hq i
    have h2 : b * i ≤ b * m := Nat.mul_le_mul_left b (by omega)
    exact ⟨okMn (b * i) b h1 hq (by omega) (by omega), by omega, by rw [Nat.pow_succ, Int.natCast_mul]; rfl⟩
  unfold g__law_power p__law_power
  exact ⟨⟨okRn (by omega), L.1⟩, L.2.2⟩
end Law

set_option maxHeartbeats 4000000
set_option exponentiation.threshold 200000
namespace Law
open PySem L2 Q Y
/-- squaring -/
theorem times_ok (q m : Nat) (b : Nat) (hq : q ≤ 2 ^ b) (hm : m < 1024) (hb : b ≤ 12) : g_times_over q m ∧ p_times_over q m = (q ^ m : Nat) := by
  have key : ∀ (n : Nat) (base many told : Nat) (c : Nat), many < 2 ^ c → c ≤ 10 → c < n → base ≤ 2 ^ (12 * 2 ^ (10 - c)) → told ≤ 2 ^ (12 * 2 ^ (10 - c)) → whG gb_times_over_1 b_times_over_1 gb_times_over_2 b_times_over_2 n ((base : Int), (many : Int), (told : Int)) ∧ (whY b_times_over_1 b_times_over_2 n ((base : Int), (many : Int), (told : Int))).2.2 = ((told * base ^ many : Nat) : Int) := by
    intro n
    induction n with
    | zero => intro _ _ _ c _ _ h; omega
    | succ n ih =>
      intro base many told c hmc hc hn h1 h2
      by_cases h0 : many = 0
      · subst h0
        refine ⟨⟨trivial, fun z => ?_⟩, ?_⟩
        · simp [b_times_over_1] at z
        · simp [whY, b_times_over_1]
      · have hx : b_times_over_1 ((base : Int), (many : Int), (told : Int)) = true := by simp [b_times_over_1]; omega
        have c0 : c ≠ 0 := by intro e; subst e; simp at hmc; exact h0 hmc
        obtain ⟨c', rfl⟩ : ∃ c', c = c' + 1 := ⟨c - 1, by omega⟩
        have e10 : 10 - c' = (10 - (c' + 1)) + 1 := by omega
        have hE : 2 ^ (12 * 2 ^ (10 - (c' + 1))) * 2 ^ (12 * 2 ^ (10 - (c' + 1))) = 2 ^ (12 * 2 ^ (10 - c')) := by
          rw [← Nat.pow_add, e10, Nat.pow_succ]
          congr 1
          omega
        have hle : 12 * 2 ^ (10 - (c' + 1)) ≤ 12 * 2 ^ 10 := Nat.mul_le_mul_left 12 (p2 (by omega))
        have hb2 : base * base ≤ 2 ^ (12 * 2 ^ (10 - c')) := hE ▸ Nat.mul_le_mul h1 h1
        have h12 : 2 ^ (12 * 2 ^ (10 - (c' + 1))) ≤ 2 ^ (12 * 2 ^ (10 - c')) := p2 (Nat.mul_le_mul_left 12 (p2 (by omega)))
        have k0 : 12 * 2 ^ 10 ≤ 100000 := by decide
        let told' := if many % 2 = 1 then told * base else told
        have ht : told' ≤ 2 ^ (12 * 2 ^ (10 - c')) := by
          show (if many % 2 = 1 then told * base else told) ≤ _
          split
          · exact hE ▸ Nat.mul_le_mul h2 h1
          · exact Nat.le_trans h2 h12
        have st : b_times_over_2 ((base : Int), (many : Int), (told : Int)) = (((base * base : Nat) : Int), ((many / 2 : Nat) : Int), (told' : Int)) := by
          show _ = (((base * base : Nat) : Int), ((many / 2 : Nat) : Int), (((if many % 2 = 1 then told * base else told) : Nat) : Int))
          simp only [b_times_over_2, letY]
          by_cases hmod : many % 2 = 1
          · have : (many : Int) % 2 = 1 := by omega
            simp [hmod, this]
          · have : ¬ (many : Int) % 2 = 1 := by omega
            simp [hmod, this]
        have r := ih (base * base) (many / 2) told' c' (by rw [Nat.pow_succ] at hmc; omega) (by omega) (by omega) hb2 ht
        refine ⟨⟨trivial, fun _ => ⟨?_, ?_⟩⟩, ?_⟩
        · unfold gb_times_over_2
          simp only [letY]
          refine ⟨⟨trivial, fun _ => okMn _ _ h2 h1 (by omega) (by omega), fun _ => trivial⟩, okMn _ _ h1 h1 (by omega) (by omega)⟩
        · rw [st]; exact r.1
        · simp only [whY, hx, cond_true]
          rw [st, r.2]
          congr 1
          show (if many % 2 = 1 then told * base else told) * (base * base) ^ (many / 2) = told * base ^ many
          have e2 : (base * base) ^ (many / 2) = base ^ (2 * (many / 2)) := by rw [Nat.pow_mul, Nat.pow_two]
          rw [e2]
          by_cases hmod : many % 2 = 1
          · rw [if_pos hmod]
            have : base * base ^ (2 * (many / 2)) = base ^ many := by
              rw [← Nat.pow_succ']
              congr 1
              omega
            rw [Nat.mul_assoc, this]
          · rw [if_neg hmod]
            have : 2 * (many / 2) = many := by omega
            rw [this]
  have e1 : ((1 : Nat) : Int) = 1 := rfl
  have r := key 100000 q m 1 10 (by omega) (Nat.le_refl _) (by decide) (Nat.le_trans hq (p2 (by simpa using hb))) Nat.one_le_two_pow
  rw [Nat.one_mul, e1] at r
  unfold g_times_over p_times_over
  simp only [letY]
  exact r
end Law

set_option maxHeartbeats 4000000
set_option exponentiation.threshold 200000
namespace Law
open PySem L2 Q Y
/-! k15: sums of products -/
def es : List Nat → Nat → Nat
  | _, 0 => 1
  | [], _ + 1 => 0
  | x :: r, j + 1 => es r (j + 1) + x * es r j
theorem es_zero (r : List Nat) : es r 0 = 1 := by cases r <;> rfl
theorem es_cons (x : Nat) (r : List Nat) (j : Nat) : es (x :: r) (j + 1) = es r (j + 1) + x * es r j := rfl
def prodB (B : Nat) : List Nat → Nat
  | [] => 1
  | x :: r => prodB B r * (1 + x * B)
theorem es_le : ∀ (r : List Nat) (j : Nat), es r j ≤ prodB 1 r
  | r, 0 => by
    rw [es_zero]
    induction r with
    | nil => exact Nat.le_refl _
    | cons x r ih => exact Nat.le_trans ih (Nat.le_mul_of_pos_right _ (by omega))
  | [], j + 1 => by simp [es]
  | x :: r, j + 1 => by
    have h1 := es_le r (j + 1)
    have h2 := es_le r j
    rw [es_cons]
    simp only [prodB, Nat.mul_one, Nat.mul_add]
    rw [Nat.mul_comm (prodB 1 r) x]
    exact Nat.add_le_add h1 (Nat.mul_le_mul_left x h2)
theorem es_lt : ∀ {r : List Nat} {j : Nat}, r.length < j → es r j = 0
  | [], j + 1, _ => rfl
  | x :: r, j + 1, h => by
    simp only [List.length_cons] at h
    rw [es_cons, es_lt (by omega : r.length < j + 1), es_lt (by omega : r.length < j)]
    simp
theorem prodB_le {b B : Nat} : ∀ (r : List Nat), (∀ x ∈ r, 1 + x * B ≤ 2 ^ b) → prodB B r ≤ 2 ^ (b * r.length)
  | [], _ => by simp [prodB]
  | x :: r, h => by
    have ih := prodB_le r fun y hy => h y (List.mem_cons_of_mem _ hy)
    have := h x List.mem_cons_self
    simp only [prodB, List.length_cons]
    have e : b * (r.length + 1) = b * r.length + b := by rw [Nat.mul_add, Nat.mul_one]
    rw [e, Nat.pow_add]
    exact Nat.mul_le_mul ih this
/-! tables -/
def tbl (n : Nat) (f : Nat → Nat) : List Int := (List.range n).map fun i => ((f i : Nat) : Int)
theorem tbl_len (n : Nat) (f : Nat → Nat) : (tbl n f).length = n := by simp [tbl]
theorem tbl_ix {n k : Nat} (f : Nat → Nat) (h : k < n) : ixY (tbl n f) (k : Int) = (f k : Nat) := ixY_nat (by simp [tbl, List.getElem?_range, h])
theorem tbl_ok {n k : Nat} (f : Nat → Nat) (h : k < n) : okIx (tbl n f).length (k : Int) := okIx_nat (by rw [tbl_len]; omega)
theorem tbl_congr {n : Nat} {f g : Nat → Nat} (h : ∀ i, i < n → f i = g i) : tbl n f = tbl n g := by
  unfold tbl
  exact List.map_congr_left fun i hi => by rw [h i (List.mem_range.mp hi)]
theorem tbl_set {n k : Nat} (f : Nat → Nat) (v : Nat) (h : k < n) : setY (tbl n f) (k : Int) (v : Int) = tbl n fun i => if i = k then v else f i := by
  unfold setY
  rw [tbl_len, ixN_nat h]
  refine List.ext_getElem? fun i => ?_
  simp only [tbl, List.getElem?_set, List.length_map, List.length_range, List.getElem?_map]
  by_cases hik : k = i
  · subst hik
    rw [if_pos rfl, if_pos h, List.getElem?_range h]
    simp
  · rw [if_neg hik]
    by_cases hi : i < n
    · rw [List.getElem?_range hi]
      have : ¬ i = k := fun e => hik e.symm
      simp [this]
    · rw [List.getElem?_eq_none (by simpa using hi)]
      rfl
theorem tbl_append (n : Nat) (f : Nat → Nat) : tbl (n + 1) f = tbl n f ++ [((f n : Nat) : Int)] := by
  simp [tbl, List.range_succ]
theorem fold_down {σ : Type} {g : Int → σ → Prop} {f : Int → σ → σ} (P : Nat → σ → Prop) {hi : Nat} {s : σ} (h0 : P 0 s) (hs : ∀ (i : Nat) s, i < hi → P i s → g ((hi - i : Nat) : Int) s ∧ P (i + 1) (f ((hi - i : Nat) : Int) s)) : foldG g f (downY (hi : Int) 0) s ∧ P hi (foldY f (downY (hi : Int) 0) s) := by
  have e : downY (hi : Int) 0 = (List.range hi).map fun (i : Nat) => ((hi - i : Nat) : Int) := by
    unfold downY
    rw [show ((hi : Int) - 0).toNat = hi by omega]
    exact List.map_congr_left fun i h => by have := List.mem_range.mp h; omega
  have h := fold_at (g := g) (f := f) P (downY (hi : Int) 0) 0 s h0 fun i a s e' p => by
    rw [e, List.getElem?_map] at e'
    cases c : (List.range hi)[i]? with
    | none => rw [c] at e'; cases e'
    | some k =>
      rw [c] at e'
      obtain ⟨hl, e2⟩ := List.getElem?_eq_some_iff.mp c
      rw [List.getElem_range] at e2
      subst e2
      cases e'
      rw [Nat.zero_add] at p ⊢
      exact hs i s (by simpa using hl) p
  rw [show (downY (hi : Int) 0).length = hi by rw [e]; simp, Nat.zero_add] at h
  exact h
def zl (l : List Nat) : List Int := l.map fun (n : Nat) => (n : Int)
/-- one number more -/
theorem psums_step (r : List Nat) (x j b : Nat) (hj : j ≤ 1000) (hb : b ≤ 50000) (hx : x ≤ 2 ^ b) (hr : prodB 1 r ≤ 2 ^ b) : gb_product_sums_2 j x (tbl (j + 1) (es r)) ∧ b_product_sums_2 j x (tbl (j + 1) (es r)) = tbl (j + 1) (es (x :: r)) := by
  have L := fold_down (g := gb_product_sums_1 x) (f := b_product_sums_1 x) (fun t (s : List Int) => s = tbl (j + 1) fun i => if j - t < i then es (x :: r) i else es r i) (hi := j) (s := tbl (j + 1) (es r)) (tbl_congr fun i hi => by rw [if_neg (by omega)]) fun t s ht e => by
    subst e
    have k1 : j - t < j + 1 := by omega
    have k2 : ((j - t : Nat) : Int) - 1 = ((j - t - 1 : Nat) : Int) := by omega
    have k3 : j - t - 1 < j + 1 := by omega
    unfold gb_product_sums_1 b_product_sums_1
    rw [k2, tbl_ix _ k1, tbl_ix _ k3, if_neg (by omega), if_neg (by omega)]
    refine ⟨⟨tbl_ok _ k1, tbl_ok _ k3, okMn b b hx (Nat.le_trans (es_le r _) hr) (by omega) (by omega), tbl_ok _ k1⟩, ?_⟩
    have e1 : ((es r (j - t) : Nat) : Int) + (x : Int) * ((es r (j - t - 1) : Nat) : Int) = ((es (x :: r) (j - t) : Nat) : Int) := by
      obtain ⟨m, hm⟩ : ∃ m, j - t = m + 1 := ⟨j - t - 1, by omega⟩
      rw [hm, es_cons, Int.natCast_add, Int.natCast_mul]
      rfl
    rw [e1, tbl_set _ _ k1]
    refine tbl_congr fun i hi => ?_
    by_cases h : i = j - t
    · subst h; rw [if_pos rfl, if_pos (by omega)]
    · rw [if_neg h]
      by_cases h2 : j - t < i
      · rw [if_pos h2, if_pos (by omega)]
      · rw [if_neg h2, if_neg (by omega)]
  unfold gb_product_sums_2 b_product_sums_2
  refine ⟨⟨okRn (by omega), L.1⟩, ?_⟩
  rw [L.2]
  refine tbl_congr fun i hi => ?_
  by_cases h : i = 0
  · subst h; rw [if_neg (by omega), es_zero, es_zero]
  · rw [if_pos (by omega)]
theorem psums_ok (l : List Nat) (j b : Nat) (hj : j ≤ 1000) (hb : b * l.length + b ≤ 50000) (hl : ∀ x ∈ l, 1 + x ≤ 2 ^ b) : g_product_sums (zl l) j ∧ p_product_sums (zl l) j = tbl (j + 1) (es l.reverse) := by
  have key : ∀ (post pre : List Nat), (∀ x ∈ pre ++ post, 1 + x ≤ 2 ^ b) → b * (pre ++ post).length + b ≤ 50000 → foldG (gb_product_sums_2 j) (b_product_sums_2 j) (zl post) (tbl (j + 1) (es pre.reverse)) ∧ foldY (b_product_sums_2 j) (zl post) (tbl (j + 1) (es pre.reverse)) = tbl (j + 1) (es (pre ++ post).reverse) := by
    intro post
    induction post with
    | nil => intro pre _ _; simp [zl, foldG, foldY]
    | cons x post ih =>
      intro pre h1 h2
      have hx := h1 x (by simp)
      have hp : prodB 1 pre.reverse ≤ 2 ^ (b * pre.reverse.length) := prodB_le _ fun y hy => by
        rw [Nat.mul_one]; exact h1 y (by simp at hy; simp [hy])
      have e1 : (pre ++ x :: post).length = pre.length + 1 + post.length := by simp; omega
      have h3 : b * pre.length ≤ b * (pre ++ x :: post).length := Nat.mul_le_mul_left b (by omega)
      have st := psums_step pre.reverse x j (b * pre.length + b) hj (by omega) (Nat.le_trans (by omega) (p2 (by omega : b ≤ b * pre.length + b))) (Nat.le_trans hp (p2 (by rw [List.length_reverse]; omega)))
      have e2 : es (x :: pre.reverse) = es (pre ++ [x]).reverse := by simp
      rw [e2] at st
      have r := ih (pre ++ [x]) (by simpa using h1) (by simpa using h2)
      simp only [zl, List.map_cons, foldG, foldY]
      rw [st.2]
      refine ⟨⟨st.1, r.1⟩, ?_⟩
      have := r.2
      simp only [zl, List.append_assoc, List.singleton_append] at this
      exact this
  have k := key l [] (by simpa using hl) (by simpa using hb)
  have i0 : repY ([(0 : Int)] : List Int) ((j : Int) + 1) = tbl (j + 1) fun _ => 0 := by
    have : ((j : Int) + 1).toNat = j + 1 := by omega
    unfold repY tbl
    rw [this]
    refine List.ext_getElem? fun i => ?_
    by_cases h : i < j + 1
    · simp [List.flatten_replicate_singleton, List.getElem?_replicate, List.getElem?_range, h]
    · simp [List.flatten_replicate_singleton, List.getElem?_replicate, h]
  have i1 : setY (repY ([(0 : Int)] : List Int) ((j : Int) + 1)) 0 1 = tbl (j + 1) (es []) := by
    rw [i0]
    have := tbl_set (n := j + 1) (k := 0) (fun _ => 0) 1 (by omega)
    refine Eq.trans this (tbl_congr fun i hi => ?_)
    cases i <;> simp [es]
  unfold g_product_sums p_product_sums
  simp only [letY]
  rw [i1]
  refine ⟨⟨?_, ?_, trivial, k.1⟩, by simpa using k.2⟩
  · unfold okRep
    rw [Bool.and_eq_true, Bool.and_eq_true, decide_eq_true_eq, decide_eq_true_eq, decide_eq_true_eq]
    refine ⟨⟨by omega, by omega⟩, ?_⟩
    have : (1001 : Nat) ≤ big := by decide
    simp; omega
  · rw [i0]; exact tbl_ok (k := 0) _ (by omega)
end Law

set_option maxHeartbeats 4000000
set_option exponentiation.threshold 200000
namespace Law
open PySem L2 Q Y
/-! k15: symmetric, mixed_ways, lookalike_number; the law's sums -/
theorem zl_len (l : List Nat) : (zl l).length = l.length := by simp [zl]
theorem zl_ix {l : List Nat} {k : Nat} (h : k < l.length) : ixY (zl l) (k : Int) = (l[k] : Nat) := ixY_nat (by simp [zl, h])
theorem counts_ok (l : List Nat) (h : l.length < 1000000) : g_check_counts (zl l) ∧ p_check_counts (zl l) = zl l := by
  have L := fold_range (g := gb_check_counts_1 (zl l)) (f := b_check_counts_1 (zl l)) (fun _ _ => True) (lo := 0) (hi := ((zl l).length : Int)) (n := l.length) (by rw [zl_len]; omega) (s := ()) trivial fun i s hi _ => by
    have e : (0 : Int) + (i : Int) = (i : Int) := by omega
    unfold gb_check_counts_1
    rw [e, zl_ix hi]
    have o : okIx (zl l).length (i : Int) := okIx_nat (by rw [zl_len]; omega)
    have : ¬ ((l[i] : Nat) : Int) < 0 := by omega
    refine ⟨⟨⟨o, fun _ => o⟩, ?_⟩, trivial⟩
    simp [p_is_int, this]
  refine ⟨⟨⟨trivial, rfl⟩, ⟨okRn (by rw [zl_len]; omega), L.1⟩, trivial⟩, rfl⟩
theorem counts2_ok (l : List Nat) (h : l.length < 1000000) : g_check_counts_2 (zl l) ∧ p_check_counts_2 (zl l) = zl l := by
  have L := fold_range (g := gb_check_counts_2_1 (zl l)) (f := b_check_counts_2_1 (zl l)) (fun _ _ => True) (lo := 0) (hi := ((zl l).length : Int)) (n := l.length) (by rw [zl_len]; omega) (s := ()) trivial fun i s hi _ => by
    have e : (0 : Int) + (i : Int) = (i : Int) := by omega
    unfold gb_check_counts_2_1
    rw [e, zl_ix hi]
    have o : okIx (zl l).length (i : Int) := okIx_nat (by rw [zl_len]; omega)
    have : ¬ ((l[i] : Nat) : Int) < 0 := by omega
    refine ⟨⟨⟨o, fun _ => o⟩, ?_⟩, trivial⟩
    simp [p_is_int, this]
  refine ⟨⟨⟨trivial, rfl⟩, ⟨okRn (by rw [zl_len]; omega), L.1⟩, trivial⟩, rfl⟩
theorem num_ok (x y : Int) (h : y ≤ x) : g_check_number x y := by
  have : ¬ x < y := by omega
  exact ⟨⟨trivial, by simp [p_is_int, this]⟩, trivial⟩
theorem sym_ok (l : List Nat) (j b : Nat) (hj : j ≤ 1000) (hn : l.length ≤ 1000) (hb : b * l.length + b ≤ 50000) (hl : ∀ x ∈ l, 1 + x ≤ 2 ^ b) : g_symmetric (zl l) j ∧ p_symmetric (zl l) j = (es l.reverse j : Nat) := by
  have c := counts_ok l (by omega)
  have p := psums_ok l j b hj hb hl
  unfold g_symmetric p_symmetric
  simp only [letY, c.2, zl_len]
  refine ⟨⟨c.1, num_ok _ _ (by omega), trivial, fun _ => trivial, fun _ => ⟨p.1, by rw [p.2]; exact tbl_ok _ (by omega)⟩⟩, ?_⟩
  by_cases h : (l.length : Int) < (j : Int)
  · rw [decide_eq_true h, cond_true, es_lt (by rw [List.length_reverse]; omega)]; rfl
  · rw [decide_eq_false h, cond_false, p.2, tbl_ix _ (by omega)]
theorem sym2_ok (l : List Nat) (j b : Nat) (hj : j ≤ 1000) (hn : l.length ≤ 1000) (hb : b * l.length + b ≤ 50000) (hl : ∀ x ∈ l, 1 + x ≤ 2 ^ b) : g_symmetric_2 (zl l) j ∧ p_symmetric_2 (zl l) j = (es l.reverse j : Nat) := by
  have c := counts2_ok l (by omega)
  have p := psums_ok l j b hj hb hl
  unfold g_symmetric_2 p_symmetric_2
  simp only [letY, c.2, zl_len]
  refine ⟨⟨c.1, num_ok _ _ (by omega), trivial, fun _ => trivial, fun _ => ⟨p.1, by rw [p.2]; exact tbl_ok _ (by omega)⟩⟩, ?_⟩
  by_cases h : (l.length : Int) < (j : Int)
  · rw [decide_eq_true h, cond_true, es_lt (by rw [List.length_reverse]; omega)]; rfl
  · rw [decide_eq_false h, cond_false, p.2, tbl_ix _ (by omega)]
theorem es_bound {l : List Nat} {b : Nat} (hl : ∀ x ∈ l, 1 + x ≤ 2 ^ b) (j : Nat) : es l.reverse j ≤ 2 ^ (b * l.length) := by
  have h := prodB_le (b := b) (B := 1) l.reverse fun y hy => by rw [Nat.mul_one]; exact hl y (by simpa using hy)
  rw [List.length_reverse] at h
  exact Nat.le_trans (es_le _ _) h
/-- what both texts reckon for mixed ways -/
theorem mixed_gen {g1 : Prop} {s2 : List Int} (l : List Nat) (z j k b : Nat) (hg : g1) (hs : s2 = zl l) (hj : j ≤ 1000) (hn : l.length ≤ 1000) (hb : b * l.length + b ≤ 40000) (hl : ∀ x ∈ l, 1 + x ≤ 2 ^ b) (hk : k ≤ 1000) (hz : z ≤ 2 ^ 12) :
    (g1 ∧ (letY s2 fun s2 => ((g_check_number z (0 : Int)) ∧ ((g_check_number j (0 : Int)) ∧ ((g_check_number k (0 : Int)) ∧ (True ∧ ((decide ((s2.length : Int) < (j : Int))) = true → True) ∧ ((decide ((s2.length : Int) < (j : Int))) = false → ((g_product_sums s2 j) ∧ (okIx (p_product_sums s2 j).length j) ∧ (g_chosen ((s2.length : Int) + k) k) ∧ (okMul (ixY (p_product_sums s2 j) j) (p_chosen ((s2.length : Int) + k) k) = true) ∧ (g_times_over z k) ∧ (okMul ((ixY (p_product_sums s2 j) j) * (p_chosen ((s2.length : Int) + k) k)) (p_times_over z k) = true))))))))) ∧
    (letY s2 fun s2 => (bif (decide ((s2.length : Int) < (j : Int))) then (0 : Int) else (((ixY (p_product_sums s2 j) j) * (p_chosen ((s2.length : Int) + k) k)) * (p_times_over z k)))) = ((es l.reverse j * cho (l.length + k) k * z ^ k : Nat) : Int) := by
  subst hs
  have p := psums_ok l j b hj (by omega) hl
  have c := chosen_ok (l.length + k) k (by omega)
  have t := times_ok z k 12 hz (by omega) (Nat.le_refl _)
  have e1 : ((zl l).length : Int) + (k : Int) = ((l.length + k : Nat) : Int) := by rw [zl_len]; omega
  have hc : cho (l.length + k) k ≤ 2 ^ 3000 := by
    unfold cho
    split
    · exact Nat.zero_le _
    · exact Nat.le_trans (binom_le _ _) (p2 (by omega))
  have hzk : z ^ k ≤ 2 ^ (12 * k) := pow_le2 hz k
  have he := es_bound hl j
  simp only [letY]
  rw [e1, p.2, c.2, t.2, tbl_ix _ (by omega : j < j + 1), zl_len]
  refine ⟨⟨hg, num_ok _ _ (by omega), num_ok _ _ (by omega), num_ok _ _ (by omega), trivial, fun _ => trivial, fun _ => ⟨p.1, tbl_ok _ (by omega), c.1, okMn _ _ he hc (by omega) (by decide), t.1, ?_⟩⟩, ?_⟩
  · rw [← Int.natCast_mul]
    refine okMn (b * l.length + 3000) (12 * k) ?_ hzk (by omega) (by omega)
    rw [Nat.pow_add]
    exact Nat.mul_le_mul he hc
  · by_cases h : (l.length : Int) < (j : Int)
    · rw [decide_eq_true h, cond_true, es_lt (by rw [List.length_reverse]; omega)]; simp
    · rw [decide_eq_false h, cond_false, ← Int.natCast_mul, ← Int.natCast_mul]
theorem mixed_ok (l : List Nat) (z j k b : Nat) (hj : j ≤ 1000) (hn : l.length ≤ 1000) (hb : b * l.length + b ≤ 40000) (hl : ∀ x ∈ l, 1 + x ≤ 2 ^ b) (hk : k ≤ 1000) (hz : z ≤ 2 ^ 12) : g_mixed_ways (zl l) z j k ∧ p_mixed_ways (zl l) z j k = ((es l.reverse j * cho (l.length + k) k * z ^ k : Nat) : Int) :=
  mixed_gen l z j k b (counts_ok l (by omega)).1 (counts_ok l (by omega)).2 hj hn hb hl hk hz
theorem mixed2_ok (l : List Nat) (z j k b : Nat) (hj : j ≤ 1000) (hn : l.length ≤ 1000) (hb : b * l.length + b ≤ 40000) (hl : ∀ x ∈ l, 1 + x ≤ 2 ^ b) (hk : k ≤ 1000) (hz : z ≤ 2 ^ 12) : g_mixed_ways_2 (zl l) z j k ∧ p_mixed_ways_2 (zl l) z j k = ((es l.reverse j * cho (l.length + k) k * z ^ k : Nat) : Int) :=
  mixed_gen l z j k b (counts2_ok l (by omega)).1 (counts2_ok l (by omega)).2 hj hn hb hl hk hz
/-- the sum of a table -/
def tsum (f : Nat → Nat) : Nat → Nat
  | 0 => 0
  | n + 1 => tsum f n + f n
theorem tbl_sum (f : Nat → Nat) : ∀ n, (tbl n f).sum = (tsum f n : Nat)
  | 0 => rfl
  | n + 1 => by rw [tbl_append, List.sum_append, tbl_sum f n, tsum]; simp
theorem look_ok (l : List Nat) (j b : Nat) (hj : j ≤ 1000) (hn : l.length ≤ 1000) (hb : b * l.length + b ≤ 40000) (hl : ∀ x ∈ l, 1 + x ≤ 2 ^ b) : g_lookalike_number (zl l) j ∧ p_lookalike_number (zl l) j = (tsum (es l.reverse) (min j l.length + 1) : Nat) := by
  have c := counts_ok l (by omega)
  have p := psums_ok l j b hj (by omega) hl
  have p' := psums_ok l l.length b hn (by omega) hl
  unfold g_lookalike_number p_lookalike_number
  simp only [letY, c.2, zl_len]
  refine ⟨⟨c.1, num_ok _ _ (by omega), trivial, fun _ => p'.1, fun _ => p.1⟩, ?_⟩
  by_cases h : (l.length : Int) < (j : Int)
  · rw [decide_eq_true h, cond_true, p'.2, tbl_sum]; congr 2; omega
  · rw [decide_eq_false h, cond_false, p.2, tbl_sum]; congr 2; omega
theorem look2_ok (l : List Nat) (b : Nat) (hn : l.length ≤ 1000) (hb : b * l.length + b ≤ 40000) (hl : ∀ x ∈ l, 1 + x ≤ 2 ^ b) : g_lookalike_number_2 (zl l) () ∧ p_lookalike_number_2 (zl l) () = (tsum (es l.reverse) (l.length + 1) : Nat) := by
  have c := counts_ok l (by omega)
  have p' := psums_ok l l.length b hn (by omega) hl
  unfold g_lookalike_number_2 p_lookalike_number_2
  simp only [letY, c.2, zl_len]
  exact ⟨⟨c.1, p'.1⟩, by rw [p'.2, tbl_sum]⟩
/-! the law's digits -/
def dsum (B : Nat) : Nat → (Nat → Nat) → Nat
  | 0, _ => 0
  | n + 1, f => f 0 + B * dsum B n fun i => f (i + 1)
theorem dsum_add (B : Nat) : ∀ (n : Nat) (f g : Nat → Nat), dsum B n (fun i => f i + g i) = dsum B n f + dsum B n g
  | 0, _, _ => rfl
  | n + 1, f, g => by
    simp only [dsum, dsum_add B n (fun i => f (i + 1)) (fun i => g (i + 1)), Nat.mul_add]
    omega
theorem dsum_mul (B c : Nat) : ∀ (n : Nat) (f : Nat → Nat), dsum B n (fun i => c * f i) = c * dsum B n f
  | 0, _ => rfl
  | n + 1, f => by
    simp only [dsum, dsum_mul B c n (fun i => f (i + 1)), Nat.mul_add]
    rw [Nat.mul_left_comm]
theorem dsum_last (B : Nat) : ∀ (n : Nat) (f : Nat → Nat), f n = 0 → dsum B (n + 1) f = dsum B n f
  | 0, f, h => by simp [dsum, h]
  | n + 1, f, h => by
    have := dsum_last B n (fun i => f (i + 1)) h
    rw [dsum, this, dsum]
theorem dsum_cons (B x : Nat) (r : List Nat) (n : Nat) : dsum B (n + 1) (es (x :: r)) = dsum B (n + 1) (es r) + x * B * dsum B n (es r) := by
  have e : (fun i => es (x :: r) (i + 1)) = fun i => es r (i + 1) + x * es r i := by funext i; rw [es_cons]
  simp only [dsum]
  rw [e, dsum_add, dsum_mul, es_zero, es_zero, Nat.mul_add, Nat.mul_left_comm B x, ← Nat.mul_assoc x B]
  omega
theorem prod_dsum (B : Nat) : ∀ r : List Nat, prodB B r = dsum B (r.length + 1) (es r)
  | [] => by simp [prodB, dsum, es]
  | x :: r => by
    simp only [prodB, List.length_cons]
    rw [dsum_cons, dsum_last B (r.length + 1) (es r) (es_lt (by omega)), ← prod_dsum B r, Nat.mul_add, Nat.mul_one, Nat.mul_comm (prodB B r)]
theorem prod_one (r : List Nat) : prodB 1 r = tsum (es r) (r.length + 1) := by
  rw [prod_dsum]
  have : ∀ (n : Nat) (f : Nat → Nat), dsum 1 n f = tsum f n := by
    intro n
    induction n with
    | zero => intro f; rfl
    | succ n ih =>
      intro f
      rw [dsum, ih, Nat.one_mul]
      clear ih
      induction n with
      | zero => simp [tsum]
      | succ n ih =>
        rw [tsum, ← Nat.add_assoc, ih]
        rfl
  exact this _ _
end Law

set_option maxHeartbeats 4000000
set_option exponentiation.threshold 200000
namespace Law
open PySem L2 Q Y
theorem dsum_digit {B : Nat} {n : Nat} {f : Nat → Nat} (h : f 0 < B) : dsum B (n + 1) f % B = f 0 ∧ dsum B (n + 1) f / B = dsum B n fun i => f (i + 1) := by
  simp only [dsum]
  constructor
  · rw [Nat.add_mul_mod_self_left, Nat.mod_eq_of_lt h]
  · rw [Nat.add_mul_div_left _ _ (by omega), Nat.div_eq_of_lt h, Nat.zero_add]
theorem lprod_ok (B : Nat) {g : Int → Int → Prop} {f : Int → Int → Int} (l : List Nat) (hf : ∀ (pre : List Nat) (x : Nat), x ∈ l → (∀ y ∈ pre, y ∈ l) → pre.length < l.length → g x (prodB B pre : Nat) ∧ f x (prodB B pre : Nat) = ((prodB B (x :: pre) : Nat) : Int)) : foldG g f (zl l) 1 ∧ foldY f (zl l) 1 = ((prodB B l.reverse : Nat) : Int) := by
  have key : ∀ (post pre : List Nat), (∀ y ∈ pre ++ post, y ∈ l) → pre.length + post.length = l.length → foldG g f (zl post) (prodB B pre.reverse : Nat) ∧ foldY f (zl post) (prodB B pre.reverse : Nat) = ((prodB B (pre ++ post).reverse : Nat) : Int) := by
    intro post
    induction post with
    | nil => intro pre _ _; simp [zl, foldG, foldY]
    | cons x post ih =>
      intro pre h1 h2
      simp only [List.length_cons] at h2
      have st := hf pre.reverse x (h1 x (by simp)) (fun y hy => h1 y (by simp at hy; simp [hy])) (by simp; omega)
      have e2 : x :: pre.reverse = (pre ++ [x]).reverse := by simp
      rw [e2] at st
      have r := ih (pre ++ [x]) (by simpa using h1) (by simp; omega)
      simp only [zl, List.map_cons, foldG, foldY]
      rw [st.2]
      refine ⟨⟨st.1, r.1⟩, ?_⟩
      have := r.2
      simp only [zl, List.append_assoc, List.singleton_append] at this
      exact this
  have k := key l [] (by simp) (by simp)
  simpa [prodB] using k
theorem lsums_ok (l : List Nat) (hn : l.length ≤ 12) (hl : ∀ x ∈ l, 1 + x ≤ 2 ^ 12) : g__law_sums (zl l) ∧ p__law_sums (zl l) = tbl (l.length + 4) (es l.reverse) := by
  have bd : ∀ (pre : List Nat), (∀ y ∈ pre, y ∈ l) → pre.length ≤ l.length → prodB 1 pre ≤ 2 ^ 144 := fun pre h1 h2 =>
    Nat.le_trans (prodB_le (b := 12) pre fun y hy => by rw [Nat.mul_one]; exact hl y (h1 y hy)) (p2 (by omega))
  have L1 := lprod_ok 1 (g := gb__law_sums_1) (f := b__law_sums_1) l fun pre x hx hp hlen => by
    unfold gb__law_sums_1 b__law_sums_1
    have e : (1 : Int) + (x : Int) = ((1 + x : Nat) : Int) := by omega
    rw [e]
    refine ⟨okMn 144 12 (bd pre hp (by omega)) (hl x hx) (by decide) (by decide), ?_⟩
    simp only [prodB, Nat.mul_one, Int.natCast_mul]
  have hbase : prodB 1 l.reverse + 1 ≤ 2 ^ 145 := by
    have := bd l.reverse (by simp) (by simp)
    have h2 : (2 : Nat) ^ 144 + 1 ≤ 2 ^ 145 := by decide +kernel
    omega
  have hx1 : ∀ x ∈ l, 1 + x * (prodB 1 l.reverse + 1) ≤ 2 ^ 157 := fun x hx => by
    have h1 := hl x hx
    have h2 : 2 ^ 12 * 2 ^ 145 = (2 : Nat) ^ 157 := by rw [← Nat.pow_add]
    have h3 : (1 + x) * (prodB 1 l.reverse + 1) ≤ 2 ^ 157 := h2 ▸ Nat.mul_le_mul h1 hbase
    rw [Nat.add_mul] at h3
    omega
  have bd2 : ∀ (pre : List Nat), (∀ y ∈ pre, y ∈ l) → pre.length ≤ l.length → prodB (prodB 1 l.reverse + 1) pre ≤ 2 ^ 1884 := fun pre h1 h2 =>
    Nat.le_trans (prodB_le (b := 157) pre fun y hy => hx1 y (h1 y hy)) (p2 (by omega))
  have L2 := lprod_ok (prodB 1 l.reverse + 1) (g := gb__law_sums_2 ((prodB 1 l.reverse + 1 : Nat) : Int)) (f := b__law_sums_2 ((prodB 1 l.reverse + 1 : Nat) : Int)) l fun pre x hx hp hlen => by
    unfold gb__law_sums_2 b__law_sums_2
    have e : (1 : Int) + (x : Int) * ((prodB 1 l.reverse + 1 : Nat) : Int) = ((1 + x * (prodB 1 l.reverse + 1) : Nat) : Int) := by
      rw [← Int.natCast_mul]; omega
    rw [e]
    refine ⟨⟨okMn 12 145 (by have := hl x hx; omega) hbase (by decide) (by decide), okMn 1884 157 (bd2 pre hp (by omega)) (hx1 x hx) (by decide) (by decide)⟩, ?_⟩
    simp only [prodB, Int.natCast_mul]
  have hB : ∀ j, es l.reverse j < prodB 1 l.reverse + 1 := fun j => by have := es_le l.reverse j; omega
  have L3 := fold_range (g := gb__law_sums_3 ((prodB 1 l.reverse + 1 : Nat) : Int)) (f := b__law_sums_3 ((prodB 1 l.reverse + 1 : Nat) : Int)) (fun i (s : Int × List Int) => i ≤ l.length + 1 ∧ s = (((dsum (prodB 1 l.reverse + 1) (l.length + 1 - i) (fun t => es l.reverse (i + t)) : Nat) : Int), tbl i (es l.reverse))) (lo := 0) (hi := (((zl l).length : Int) + 1)) (n := l.length + 1) (by rw [zl_len]; omega) (s := (((prodB (prodB 1 l.reverse + 1) l.reverse : Nat) : Int), [])) ⟨by omega, by
      rw [prod_dsum, List.length_reverse]
      simp [tbl]⟩ fun i s hi e => by
    obtain ⟨_, e⟩ := e
    subst e
    obtain ⟨m, hm⟩ : ∃ m, l.length + 1 - i = m + 1 := ⟨l.length - i, by omega⟩
    have hd := dsum_digit (B := prodB 1 l.reverse + 1) (n := m) (f := fun t => es l.reverse (i + t)) (hB (i + 0))
    unfold gb__law_sums_3 b__law_sums_3
    simp only [letY]
    rw [hm, ← Int.natCast_emod, ← Int.natCast_ediv, hd.1, hd.2]
    refine ⟨⟨⟨by omega, by rw [tbl_len]; omega⟩, okDn 145 (by omega) hbase (by decide)⟩, by omega, ?_⟩
    have e3 : l.length + 1 - (i + 1) = m := by omega
    rw [e3, tbl_append]
    congr 3
    funext t
    rw [Nat.add_right_comm]; rfl
  have e4 : ((prodB 1 l.reverse : Nat) : Int) + 1 = ((prodB 1 l.reverse + 1 : Nat) : Int) := by omega
  unfold g__law_sums p__law_sums
  simp only [letY]
  rw [L1.2, e4, L2.2, L3.2.2]
  refine ⟨⟨⟨trivial, L1.1⟩, ⟨trivial, L2.1⟩, ⟨okRn (by rw [zl_len]; omega), L3.1⟩, ?_⟩, ?_⟩
  · rw [tbl_len]
    have : (20 : Nat) ≤ big := by decide
    simp; omega
  · have z : ∀ j, l.length < j → es l.reverse j = 0 := fun j h => es_lt (by rw [List.length_reverse]; exact h)
    show tbl (l.length + 1) (es l.reverse) ++ [0, 0, 0] = _
    rw [tbl_append (l.length + 3), tbl_append (l.length + 2), tbl_append (l.length + 1) (es l.reverse), z (l.length + 1) (by omega), z (l.length + 2) (by omega), z (l.length + 3) (by omega)]
    simp
end Law

set_option maxHeartbeats 4000000
set_option exponentiation.threshold 200000
namespace Law
open PySem L2 Q Y
/-! k15: scattered words -/
def bsum (N y : Nat) : Nat → Nat
  | 0 => 0
  | t + 1 => bsum N y t + binom N t * y ^ t
theorem bsum_step (m y : Nat) : ∀ t, bsum (m + 1) y (t + 1) = bsum m y (t + 1) + y * bsum m y t
  | 0 => by simp [bsum, binom_zero]
  | t + 1 => by
    have ih := bsum_step m y t
    rw [bsum, ih, bsum, bsum, bsum, binom_succ, Nat.add_mul, Nat.mul_add, Nat.pow_succ]
    rw [show y * (binom m t * y ^ t) = binom m t * (y ^ t * y) by rw [Nat.mul_comm, Nat.mul_assoc]]
    omega
theorem bsum_full (m y : Nat) : bsum (m + 1) y (m + 2) = bsum m y (m + 1) * (y + 1) := by
  rw [bsum_step, show bsum m y (m + 1 + 1) = bsum m y (m + 1) + binom m (m + 1) * y ^ (m + 1) from rfl, binom_lt (Nat.lt_succ_self m), Nat.mul_add, Nat.mul_comm y]
  omega
theorem bsum_pow (y : Nat) : ∀ m, bsum m y (m + 1) = (y + 1) ^ m
  | 0 => by simp [bsum, binom_zero]
  | m + 1 => by rw [bsum_full, bsum_pow y m, Nat.pow_succ]
theorem bsum_mono (m y : Nat) {s t : Nat} (h : s ≤ t) : bsum m y s ≤ bsum m y t := by
  induction h with
  | refl => exact Nat.le_refl _
  | step _ ih => exact Nat.le_trans ih (Nat.le_add_right _ _)
theorem bsum_le (m y t : Nat) : bsum m y t ≤ (y + 1) ^ m := by
  by_cases h : t ≤ m + 1
  · rw [← bsum_pow]; exact bsum_mono m y h
  · have : ∀ d, bsum m y (m + 1 + d) = bsum m y (m + 1) := by
      intro d
      induction d with
      | zero => rfl
      | succ d ih =>
        show bsum m y (m + 1 + d) + binom m (m + 1 + d) * y ^ (m + 1 + d) = _
        rw [ih, binom_lt (by omega)]
        omega
    obtain ⟨d, rfl⟩ : ∃ d, t = m + 1 + d := ⟨t - (m + 1), by omega⟩
    rw [this, bsum_pow]
    exact Nat.le_refl _
theorem tbl_cons (n : Nat) (f : Nat → Nat) : tbl (n + 1) f = ((f 0 : Nat) : Int) :: tbl n fun i => f (i + 1) := by
  simp [tbl, List.range_succ_eq_map, List.map_map, Function.comp_def]
theorem scat_step (n m y : Nat) (hy : y ≤ 100) (hm : m ≤ 5000) (hn : n ≤ 1000000) : gb__law_scattered_1 ((y + 1 : Nat) : Int) n 0 (tbl (n + 1) fun j => bsum m y (m + 1 - j)) ∧ b__law_scattered_1 ((y + 1 : Nat) : Int) n 0 (tbl (n + 1) fun j => bsum m y (m + 1 - j)) = tbl (n + 1) fun j => bsum (m + 1) y (m + 1 + 1 - j) := by
  have bd : ∀ t, bsum m y t ≤ 2 ^ 35000 := fun t => Nat.le_trans (bsum_le m y t) (Nat.le_trans (pow_le2 (b := 7) (by omega : y + 1 ≤ 2 ^ 7) m) (p2 (by omega)))
  have e0 : ((y + 1 : Nat) : Int) - 1 = (y : Int) := by omega
  have el : (tbl (n + 1) fun j => bsum m y (m + 1 - j)).length = n + 1 := tbl_len _ _
  have x0 : ixY (tbl (n + 1) fun j => bsum m y (m + 1 - j)) 0 = ((bsum m y (m + 1) : Nat) : Int) := tbl_ix (k := 0) _ (by omega)
  have xs : ∀ x ∈ rangeY 1 ((n : Int) + 1), ∃ i : Nat, x = ((i + 1 : Nat) : Int) ∧ i < n := fun x hx => by
    have := mem_rangeY.mp hx
    exact ⟨(x - 1).toNat, by omega, by omega⟩
  unfold gb__law_scattered_1 b__law_scattered_1
  rw [x0, el, e0]
  refine ⟨⟨okIx_nat (by omega), okMn 35000 7 (bd _) (by omega) (by decide) (by decide), okRn (by omega), fun x hx => ?_, fun x hx => ?_, fun x hx => ?_, ?_, ?_⟩, ?_⟩
  · obtain ⟨i, rfl, hi⟩ := xs x hx
    exact okIx_nat (by omega)
  · obtain ⟨i, rfl, hi⟩ := xs x hx
    exact okIx_nat (by omega)
  · obtain ⟨i, rfl, hi⟩ := xs x hx
    rw [tbl_ix _ (by omega)]
    exact okMn 7 35000 (by omega) (bd _) (by decide) (by decide)
  · rw [rangeY_len]
    have : (1000001 : Nat) ≤ big := by decide
    omega
  · have : (1000002 : Nat) ≤ big := by decide
    simp [rangeY_len]; omega
  · refine Eq.trans ?_ (tbl_cons n fun j => bsum (m + 1) y (m + 1 + 1 - j)).symm
    show _ :: _ = _
    have h0 : ((bsum m y (m + 1) : Nat) : Int) * ((y + 1 : Nat) : Int) = ((bsum (m + 1) y (m + 1 + 1 - 0) : Nat) : Int) := by
      rw [← Int.natCast_mul, ← bsum_full]
      rfl
    rw [h0]
    congr 1
    have er : rangeY 1 ((n : Int) + 1) = (List.range n).map fun (i : Nat) => ((i + 1 : Nat) : Int) := by
      unfold rangeY
      rw [show ((n : Int) + 1 - 1).toNat = n by omega]
      exact List.map_congr_left fun i _ => by omega
    rw [er]
    show ((List.range n).map _).map _ = (List.range n).map _
    rw [List.map_map]
    refine List.map_congr_left fun i hi => ?_
    have hi := List.mem_range.mp hi
    have k1 : ((i + 1 : Nat) : Int) - 1 = (i : Int) := by omega
    show ixY _ (((i + 1 : Nat) : Int) - 1) + (y : Int) * ixY _ ((i + 1 : Nat) : Int) = _
    rw [k1, tbl_ix _ (by omega), tbl_ix _ (by omega), ← Int.natCast_mul, ← Int.natCast_add]
    congr 1
    show _ = bsum (m + 1) y (m + 1 + 1 - (i + 1))
    by_cases h : i ≤ m
    · have a1 : m + 1 - i = (m - i) + 1 := by omega
      have a2 : m + 1 - (i + 1) = m - i := by omega
      have a3 : m + 1 + 1 - (i + 1) = (m - i) + 1 := by omega
      rw [a1, a2, a3, bsum_step]
    · have a1 : m + 1 - (i + 1) = 0 := by omega
      have a3 : m + 1 + 1 - (i + 1) = m + 1 - i := by omega
      have a4 : m + 1 - i = 0 := by omega
      rw [a1, a3, a4]
      simp [bsum]
theorem lscat_ok (n k y : Nat) (hy : y ≤ 100) (hm : n + k ≤ 5000) : g__law_scattered n k ((y + 1 : Nat) : Int) ∧ p__law_scattered n k ((y + 1 : Nat) : Int) = ((bsum (n + k) y (k + 1) : Nat) : Int) := by
  have i0 : ([(1 : Int)] : List Int) ++ repY ([(0 : Int)] : List Int) (n : Int) = tbl (n + 1) fun j => bsum 0 y (0 + 1 - j) := by
    rw [tbl_cons]
    show (1 : Int) :: _ = _
    have e1 : ((bsum 0 y (0 + 1 - 0) : Nat) : Int) = 1 := by simp [bsum, binom_zero]
    rw [e1]
    congr 1
    unfold repY tbl
    refine List.ext_getElem? fun i => ?_
    by_cases h : i < n
    · simp [List.flatten_replicate_singleton, List.getElem?_replicate, List.getElem?_range, h, bsum]
    · simp [List.flatten_replicate_singleton, List.getElem?_replicate, h]
  have L := fold_range (g := gb__law_scattered_1 ((y + 1 : Nat) : Int) n) (f := b__law_scattered_1 ((y + 1 : Nat) : Int) n) (fun m (s : List Int) => m ≤ n + k ∧ s = tbl (n + 1) fun j => bsum m y (m + 1 - j)) (lo := 0) (hi := (n : Int) + (k : Int)) (n := n + k) (by omega) (s := tbl (n + 1) fun j => bsum 0 y (0 + 1 - j)) ⟨by omega, rfl⟩ fun m s hm' e => by
    obtain ⟨_, e⟩ := e
    subst e
    have st := scat_step n m y hy (by omega) (by omega)
    exact ⟨st.1, by omega, st.2⟩
  unfold g__law_scattered p__law_scattered
  simp only [letY]
  rw [i0, L.2.2]
  refine ⟨⟨⟨?_, ?_⟩, ⟨okRn (by omega), L.1⟩, tbl_ok _ (by omega)⟩, ?_⟩
  · unfold okRep
    rw [Bool.and_eq_true, Bool.and_eq_true, decide_eq_true_eq, decide_eq_true_eq, decide_eq_true_eq]
    have : (5001 : Nat) ≤ big := by decide
    refine ⟨⟨by omega, by omega⟩, ?_⟩
    simp; omega
  · have : (5002 : Nat) ≤ big := by decide
    simp [repY, List.flatten_replicate_singleton]; omega
  · rw [tbl_ix _ (by omega)]
    congr 2
    omega
theorem scat_ok (n k y : Nat) (hy : y ≤ 100) (hn : n + k ≤ 3000) (hk : k ≤ 1000) : g_scattered_number n k ((y + 1 : Nat) : Int) ∧ p_scattered_number n k ((y + 1 : Nat) : Int) = ((bsum (n + k) y (k + 1) : Nat) : Int) := by
  have e0 : ((y + 1 : Nat) : Int) - 1 = (y : Int) := by omega
  have L := fold_range (g := gb_scattered_number_1 n k ((y + 1 : Nat) : Int)) (f := b_scattered_number_1 n k ((y + 1 : Nat) : Int)) (fun i (s : Int × Int × Int) => i ≤ k + 1 ∧ s = (((bsum (n + k) y i : Nat) : Int), ((binom (n + k) i : Nat) : Int), ((y ^ i : Nat) : Int))) (lo := 0) (hi := (k : Int) + 1) (n := k + 1) (by omega) (s := (0, 1, 1)) ⟨by omega, by simp [bsum, binom_zero]⟩ fun i s hi e => by
    obtain ⟨_, e⟩ := e
    subst e
    have hb := Nat.le_trans (binom_le (n + k) i) (p2 hn)
    have hy' : y ^ i ≤ 2 ^ (7 * i) := pow_le2 (by omega) i
    have e1 : ((n : Int) + (k : Int)) - (0 + (i : Int)) = ((n + k - i : Nat) : Int) := by omega
    have e2 : (0 : Int) + (i : Int) + 1 = ((i + 1 : Nat) : Int) := by omega
    unfold gb_scattered_number_1 b_scattered_number_1
    simp only [letY]
    rw [e0, e1, e2]
    refine ⟨⟨okMn 3000 (7 * i) hb hy' (by decide) (by omega), ⟨okMn 3000 12 hb (by omega) (by decide) (by decide), okDn 12 (by omega) (by omega) (by decide)⟩, okMn (7 * i) 7 hy' (by omega) (by omega) (by decide)⟩, by omega, ?_⟩
    have h1 : ((binom (n + k) i : Nat) : Int) * ((n + k - i : Nat) : Int) / ((i + 1 : Nat) : Int) = ((binom (n + k) (i + 1) : Nat) : Int) := by
      rw [← Int.natCast_mul, ← binom_mul, Int.natCast_mul]
      exact Int.mul_ediv_cancel _ (by omega)
    rw [h1, ← Int.natCast_mul, ← Int.natCast_add, ← Int.natCast_mul, ← Nat.pow_succ]
    rfl
  unfold g_scattered_number p_scattered_number
  simp only [letY]
  rw [L.2.2]
  exact ⟨⟨num_ok _ _ (by omega), num_ok _ _ (by omega), num_ok _ _ (by omega), okRn (by omega), L.1⟩, rfl⟩
/-! rows of Pascal -/
theorem binom_sym : ∀ {n k : Nat}, k ≤ n → binom n (n - k) = binom n k
  | n, 0, _ => by rw [Nat.sub_zero, binom_self, binom_zero]
  | n + 1, k + 1, h => by
    by_cases hk : k = n
    · subst hk; rw [Nat.sub_self, binom_zero, binom_self]
    · have a := binom_sym (n := n) (k := k) (by omega)
      have b := binom_sym (n := n) (k := k + 1) (by omega)
      obtain ⟨m, hm⟩ : ∃ m, n - k = m + 1 := ⟨n - k - 1, by omega⟩
      have hm2 : n - (k + 1) = m := by omega
      rw [hm] at a
      rw [hm2] at b
      rw [show n + 1 - (k + 1) = m + 1 by omega, binom_succ, binom_succ, a, b]
      omega
theorem cho_binom (N K : Nat) : cho N K = binom N K := by
  unfold cho
  by_cases h : N < K
  · rw [if_pos h, binom_lt h]
  · rw [if_neg h]
    by_cases h2 : K ≤ N - K
    · rw [Nat.min_eq_left h2]
    · rw [Nat.min_eq_right (by omega), binom_sym (by omega)]
theorem pascal_ok (n : Nat) (hn : n ≤ 1000) : g__law_pascal n ∧ p__law_pascal n = tbl (n + 1) (binom n) := by
  have L := fold_range (g := gb__law_pascal_1) (f := b__law_pascal_1) (fun m (s : List Int) => m ≤ n ∧ s = tbl (m + 1) (binom m)) (lo := 0) (hi := (n : Int)) (n := n) (by omega) (s := [1]) ⟨by omega, by rfl⟩ fun m s hm e => by
    obtain ⟨_, e⟩ := e
    subst e
    have el := tbl_len (m + 1) (binom m)
    have er : rangeY 0 (((tbl (m + 1) (binom m)).length : Int) - 1) = (List.range m).map fun (i : Nat) => (i : Int) := by
      rw [el, show ((m + 1 : Nat) : Int) - 1 = (m : Int) by omega, rangeY_nat]
    have xs : ∀ x ∈ rangeY 0 (((tbl (m + 1) (binom m)).length : Int) - 1), ∃ i : Nat, x = (i : Int) ∧ i < m := fun x hx => by
      have := mem_rangeY.mp hx
      rw [el] at this
      exact ⟨x.toNat, by omega, by omega⟩
    have bg : (2000 : Nat) ≤ big := by decide
    unfold gb__law_pascal_1 b__law_pascal_1
    refine ⟨⟨okRn (by rw [el]; omega), fun x hx => ?_, fun x hx => ?_, ?_, ?_, ?_⟩, by omega, ?_⟩
    · obtain ⟨i, rfl, hi⟩ := xs x hx
      exact tbl_ok _ (by omega)
    · obtain ⟨i, rfl, hi⟩ := xs x hx
      exact tbl_ok (k := i + 1) _ (by omega)
    · rw [er]; simp; omega
    · rw [er]; simp; omega
    · rw [er]; simp; omega
    · have e1 : (((binom (m + 1) 0 : Nat) : Int)) = 1 := by rw [binom_zero]; rfl
      have e2 : (((binom (m + 1) (m + 1) : Nat) : Int)) = 1 := by rw [binom_self]; rfl
      have e3 : tbl (m + 1 + 1) (binom (m + 1)) = ((1 : Int) :: tbl m fun i => binom (m + 1) (i + 1)) ++ [1] := by rw [tbl_append, tbl_cons, e1, e2]
      rw [e3, er, List.map_map]
      show (1 : Int) :: _ ++ [1] = (1 : Int) :: _ ++ [1]
      congr 2
      unfold tbl
      refine List.map_congr_left fun i hi => ?_
      have hi := List.mem_range.mp hi
      show ixY (tbl (m + 1) (binom m)) (i : Int) + ixY (tbl (m + 1) (binom m)) ((i + 1 : Nat) : Int) = _
      rw [tbl_ix _ (by omega), tbl_ix _ (by omega), ← Int.natCast_add]
      show _ = ((binom (m + 1) (i + 1) : Nat) : Int)
      rw [binom_succ]
  unfold g__law_pascal p__law_pascal
  simp only [letY]
  exact ⟨⟨okRn (by omega), L.1⟩, L.2.2⟩
end Law

set_option maxHeartbeats 4000000
set_option exponentiation.threshold 200000
namespace Law
open PySem L2 Q Y
/-! k15: turnings -/
def tw (m k : Nat) : Nat := binom (m - k) k
theorem tw_big {m k : Nat} (h : m < 2 * k) : tw m k = 0 := binom_lt (by omega)
theorem tw_step (m k : Nat) : tw (m + 2) (k + 1) = tw (m + 1) (k + 1) + tw m k := by
  unfold tw
  by_cases h : k ≤ m
  · rw [show m + 2 - (k + 1) = (m - k) + 1 by omega, show m + 1 - (k + 1) = m - k by omega, binom_succ]
    omega
  · rw [binom_lt (by omega : m + 2 - (k + 1) < k + 1), binom_lt (by omega : m + 1 - (k + 1) < k + 1), binom_lt (by omega : m - k < k)]
def wd (m : Nat) : Nat := max 1 m
theorem tblL_ix {l : List (List Int)} {k : Nat} {v : List Int} (h : l[k]? = some v) : ixY l (k : Int) = v := ixY_nat h
def rowsT (m : Nat) : List (List Int) := (List.range m).map fun k => tbl (wd k) (tw k)
theorem rowsT_ix {m k : Nat} (h : k < m) : ixY (rowsT m) (k : Int) = tbl (wd k) (tw k) := ixY_nat (by simp [rowsT, List.getElem?_range, h])
theorem rowsT_len (m : Nat) : (rowsT m).length = m := by simp [rowsT]
theorem turned_ok (n : Nat) (hn : n ≤ 1000) : g__law_turned n ∧ p__law_turned n = tbl (wd n) (tw n) := by
  have bg : (3000 : Nat) ≤ big := by decide
  have L := fold_range (g := gb__law_turned_1) (f := b__law_turned_1) (fun m (s : List (List Int)) => m ≤ n ∧ s = rowsT (m + 2)) (lo := 2) (hi := (n : Int) + 1) (n := n - 1) (by omega) (s := [[1], [1]]) ⟨by omega, by rfl⟩ fun m s hm e => by
    obtain ⟨_, e⟩ := e
    subst e
    have k1 : (2 + (m : Int)) - 1 = ((m + 1 : Nat) : Int) := by omega
    have k2 : (2 + (m : Int)) - 2 = (m : Int) := by omega
    have w1 : wd (m + 1) = m + 1 := by unfold wd; omega
    have w2 : wd (m + 2) = m + 2 := by unfold wd; omega
    have w0 : m ≤ wd m ∧ wd m ≤ m + 1 := by unfold wd; omega
    have ll : ((tbl (wd (m + 1)) (tw (m + 1)) ++ [0] : List Int)).length = m + 2 := by simp [tbl_len, w1]
    have ls : ((([0] ++ tbl (wd m) (tw m)) ++ [0] : List Int)).length = wd m + 2 := by simp [tbl_len]
    have el : (tbl (wd (m + 1)) (tw (m + 1)) ++ [0] : List Int) = tbl (m + 2) (tw (m + 1)) := by
      rw [w1, tbl_append (m + 1), tw_big (by omega : m + 1 < 2 * (m + 1))]
      rfl
    have er : rangeY 0 ((m + 2 : Nat) : Int) = (List.range (m + 2)).map fun (i : Nat) => (i : Int) := rangeY_nat _
    have xs : ∀ x ∈ rangeY 0 ((m + 2 : Nat) : Int), ∃ i : Nat, x = (i : Int) ∧ i < m + 2 := fun x hx => by
      have := mem_rangeY.mp hx
      exact ⟨x.toNat, by omega, by omega⟩
    have sx : ∀ i, i < m + 2 → ixY (([0] ++ tbl (wd m) (tw m)) ++ [0] : List Int) (i : Int) = ((match i with
        | 0 => 0
        | k + 1 => tw m k : Nat) : Int) := fun i hi => by
      refine ixY_nat ?_
      match i with
      | 0 => rfl
      | k + 1 =>
        show (tbl (wd m) (tw m) ++ [0])[k]? = _
        by_cases hk : k < wd m
        · rw [List.getElem?_append_left (by rw [tbl_len]; exact hk)]
          simp [tbl, List.getElem?_range, hk]
        · have hk2 : k = wd m := by omega
          have hk3 : m < 2 * k := by unfold wd at hk2; omega
          have z : tw m k = 0 := tw_big hk3
          rw [List.getElem?_append_right (by rw [tbl_len]; omega), tbl_len, show k - wd m = 0 by omega]
          show some (0 : Int) = some ((tw m k : Nat) : Int)
          rw [z]
          rfl
    unfold gb__law_turned_1 b__law_turned_1
    simp only [letY]
    rw [k1, k2, rowsT_ix (by omega), rowsT_ix (by omega), ll]
    refine ⟨⟨⟨okIx_nat (by rw [rowsT_len]; omega), ?_, okIx_nat (by rw [rowsT_len]; omega), ?_, ?_⟩, okRn (by omega), fun x hx => ?_, fun x hx => ?_, ?_, ?_⟩, by omega, ?_⟩
    · simp [tbl_len]; omega
    · simp [tbl_len]; omega
    · simp [tbl_len]; omega
    · obtain ⟨i, rfl, hi⟩ := xs x hx
      exact okIx_nat (by omega)
    · obtain ⟨i, rfl, hi⟩ := xs x hx
      exact okIx_nat (by rw [ls]; omega)
    · rw [er]; simp; omega
    · rw [rowsT_len]; omega
    · have : rowsT (m + 1 + 2) = rowsT (m + 2) ++ [tbl (wd (m + 2)) (tw (m + 2))] := by simp [rowsT, List.range_succ]
      rw [this, er, w2]
      congr 2
      unfold tbl
      rw [List.map_map]
      refine List.map_congr_left fun i hi => ?_
      have hi := List.mem_range.mp hi
      show ixY (tbl (wd (m + 1)) (tw (m + 1)) ++ [0] : List Int) (i : Int) + ixY (([0] ++ tbl (wd m) (tw m)) ++ [0] : List Int) (i : Int) = _
      rw [sx i hi, el, tbl_ix _ hi]
      match i with
      | 0 => simp [tw, binom_zero]
      | k + 1 => rw [tw_step]; simp
  unfold g__law_turned p__law_turned
  simp only [letY]
  have e : (n - 1) + 2 = max 2 (n + 1) := by omega
  rw [L.2.2]
  refine ⟨⟨⟨okRn (by omega), L.1⟩, okIx_nat (by rw [rowsT_len]; omega)⟩, rowsT_ix (by omega)⟩
def fibT : Nat → Nat
  | 0 => 1
  | 1 => 1
  | n + 2 => fibT (n + 1) + fibT n
theorem tsum_add (f g : Nat → Nat) : ∀ n, tsum (fun i => f i + g i) n = tsum f n + tsum g n
  | 0 => rfl
  | n + 1 => by simp only [tsum, tsum_add f g n]; omega
theorem tsum_head (f : Nat → Nat) : ∀ n, tsum f (n + 1) = f 0 + tsum (fun i => f (i + 1)) n
  | 0 => by simp [tsum]
  | n + 1 => by rw [tsum, tsum_head f n, tsum]; omega
theorem tw_sum : ∀ m, tsum (tw m) (wd m) = fibT m
  | 0 => rfl
  | 1 => rfl
  | m + 2 => by
    have h1 := tw_sum (m + 1)
    have h0 := tw_sum m
    have w2 : wd (m + 2) = m + 2 := by unfold wd; omega
    have w1 : wd (m + 1) = m + 1 := by unfold wd; omega
    rw [w2, fibT, ← h1, ← h0, w1, tsum_head]
    have e : (fun i => tw (m + 2) (i + 1)) = fun i => tw (m + 1) (i + 1) + tw m i := by funext i; rw [tw_step]
    rw [e, tsum_add, ← Nat.add_assoc]
    have e0 : tw (m + 2) 0 = tw (m + 1) 0 := by simp [tw, binom_zero]
    rw [e0, ← tsum_head (tw (m + 1)) (m + 1)]
    have e2 : tsum (tw (m + 1)) (m + 1 + 1) = tsum (tw (m + 1)) (m + 1) := by
      rw [tsum, tw_big (by omega), Nat.add_zero]
    rw [e2]
    congr 1
    by_cases hm : m = 0
    · subst hm; rfl
    · have : wd m = m := by unfold wd; omega
      rw [this, tsum, tw_big (by omega), Nat.add_zero]
theorem fib_loop {f : Int → Int × Int → Int × Int} (hf : ∀ a s, f a s = (s.2, s.1 + s.2)) (n : Nat) : foldY f (rangeY 0 (n : Int)) (1, 1) = (((fibT n : Nat) : Int), ((fibT (n + 1) : Nat) : Int)) :=
  foldY_range (f := f) (fun i (s : Int × Int) => s = (((fibT i : Nat) : Int), ((fibT (i + 1) : Nat) : Int))) (lo := 0) (hi := (n : Int)) (n := n) (by omega) (by rfl) fun i s hi e => by
    subst e
    rw [hf, ← Int.natCast_add, show fibT (i + 1 + 1) = fibT (i + 1) + fibT i from rfl, Nat.add_comm (fibT (i + 1))]
theorem tnum_ok (n : Nat) (hn : n ≤ 1000000) : g_turning_number n ∧ p_turning_number n = (fibT n : Nat) := by
  unfold g_turning_number p_turning_number
  simp only [letY]
  refine ⟨⟨num_ok _ _ (by omega), okRn (by omega)⟩, ?_⟩
  rw [fib_loop (f := b_turning_number_1) (fun a s => rfl) n]
theorem tby_ok (n k : Nat) (hn : n ≤ 3000) (hk : k ≤ 3000) : g_turning_by n k ∧ p_turning_by n k = (tw n k : Nat) := by
  unfold g_turning_by p_turning_by
  refine ⟨⟨num_ok _ _ (by omega), num_ok _ _ (by omega), okMn (x := 2) 2 12 (by decide) (by omega) (by decide) (by decide), fun _ => trivial, fun h => ?_⟩, ?_⟩
  · have h := of_decide_eq_false h
    rw [show (n : Int) - (k : Int) = ((n - k : Nat) : Int) by omega]
    exact (chosen_ok (n - k) k (by omega)).1
  · by_cases h : (n : Int) < 2 * (k : Int)
    · rw [decide_eq_true h, cond_true, tw_big (by omega)]; rfl
    · rw [decide_eq_false h, cond_false, show (n : Int) - (k : Int) = ((n - k : Nat) : Int) by omega, (chosen_ok (n - k) k (by omega)).2, cho_binom]
      rfl
theorem same_ok (x : Int) : p__law_same x x = true := by simp [p__law_same]
theorem choose_ok (N K : Nat) (hN : N ≤ 3000) : g_choose N K ∧ p_choose N K = (binom N K : Nat) := by
  have c := chosen_ok N K hN
  unfold g_choose p_choose
  refine ⟨⟨num_ok _ _ (by omega), num_ok _ _ (by omega), c.1⟩, ?_⟩
  rw [← cho_binom]; exact c.2
theorem lchoose' (N K : Nat) (hN : N ≤ 3000) (hm : min K (N - K) ≤ 500) : g__law_choose N K ∧ p__law_choose N K = (binom N K : Nat) := by
  rw [← cho_binom]; exact lchoose_ok N K hN hm
theorem turnings_true (n k : Nat) (hn : n ≤ 400) (hk : k ≤ 400) : g__law_turnings n k ∧ p__law_turnings n k = true := by
  have F := fib_loop (f := b__law_turnings_1) (fun a s => rfl) n
  have t1 := tnum_ok n (by omega)
  have t2 := tby_ok n 0 (by omega) (by omega)
  have t3 := tby_ok n k (by omega) (by omega)
  have em : max ((n : Int) - (k : Int)) 0 = ((n - k : Nat) : Int) := by omega
  have c := lchoose' (n - k) k (by omega) (by omega)
  have few : min (n : Int) 60 = ((min n 60 : Nat) : Int) := by omega
  have T := turned_ok (min n 60) (by omega)
  have bg : (3000 : Nat) ≤ big := by decide
  have row : tbl (wd (min n 60)) (tw (min n 60)) ++ ([0, 0] : List Int) = tbl (wd (min n 60) + 2) (tw (min n 60)) := by
    have z1 : tw (min n 60) (wd (min n 60)) = 0 := tw_big (by unfold wd; omega)
    have z2 : tw (min n 60) (wd (min n 60) + 1) = 0 := tw_big (by unfold wd; omega)
    rw [tbl_append (wd (min n 60) + 1), tbl_append (wd (min n 60)), z1, z2]
    simp
  have wb : wd (min n 60) ≤ 61 := by unfold wd; omega
  have s1 : tw n 0 = 1 := by simp [tw, binom_zero]
  have s2 : ((tw n k : Nat) : Int) = ((binom (n - k) k : Nat) : Int) := rfl
  have tn := tnum_ok (min n 60) (by omega)
  have tn0 := tnum_ok 0 (by omega)
  have xs : ∀ x ∈ rangeY 0 ((wd (min n 60) + 2 : Nat) : Int), ∃ i : Nat, x = (i : Int) ∧ i < wd (min n 60) + 2 := fun x hx => by
    have := mem_rangeY.mp hx
    exact ⟨x.toNat, by omega, by omega⟩
  have by_i : ∀ x ∈ rangeY 0 ((wd (min n 60) + 2 : Nat) : Int), g_turning_by ((min n 60 : Nat) : Int) x ∧ okIx (tbl (wd (min n 60) + 2) (tw (min n 60))).length x ∧ p__law_same (p_turning_by ((min n 60 : Nat) : Int) x) (ixY (tbl (wd (min n 60) + 2) (tw (min n 60))) x) = true := fun x hx => by
    obtain ⟨i, rfl, hi⟩ := xs x hx
    have t := tby_ok (min n 60) i (by omega) (by omega)
    refine ⟨t.1, tbl_ok _ hi, ?_⟩
    rw [t.2, tbl_ix _ hi]
    exact same_ok _
  have fil : (rangeY 0 ((wd (min n 60) + 2 : Nat) : Int)).filter (fun (x25 : Int) => (!(p__law_same (p_turning_by ((min n 60 : Nat) : Int) x25) (ixY (tbl (wd (min n 60) + 2) (tw (min n 60))) x25)))) = [] := by
    rw [List.filter_eq_nil_iff]
    intro x hx
    rw [(by_i x hx).2.2]
    decide
  have sm : List.sum (tbl (wd (min n 60) + 2) (tw (min n 60))) = p_turning_number ((min n 60 : Nat) : Int) := by
    rw [tbl_sum, tn.2, ← tw_sum, tsum, tsum, tw_big (by unfold wd; omega : min n 60 < 2 * wd (min n 60)), tw_big (by unfold wd; omega : min n 60 < 2 * (wd (min n 60) + 1))]
    simp
  unfold g__law_turnings p__law_turnings
  simp only [letY]
  rw [F, em, few, T.2, row]
  have tl := tbl_len (wd (min n 60) + 2) (tw (min n 60))
  have q1 : p__law_same (p_turning_number n) ((fibT n : Nat) : Int) = true := by rw [t1.2]; exact same_ok _
  have q2 : p__law_same (p_turning_by n 0) 1 = true := by
    have := t2.2
    rw [show ((0 : Nat) : Int) = 0 from rfl] at this
    rw [this, s1]
    rfl
  have q3 : p__law_same (p_turning_by n k) (p__law_choose ((n - k : Nat) : Int) k) = true := by rw [t3.2, c.2]; exact same_ok _
  have q4 : p__law_same (p_turning_number 0) 1 = true := by
    have := tn0.2
    rw [show ((0 : Nat) : Int) = 0 from rfl] at this
    rw [this]
    rfl
  simp only [tl, q1, q2, q3, q4, fil, sm, List.map_nil, List.length_nil, Bool.not_true, Bool.or_false, Bool.false_or, cond_false, decide_true, Bool.and_self, Bool.true_and, Bool.and_true]
  have bb : wd (min n 60) + 2 ≤ big := by omega
  refine ⟨⟨okRn (by omega), ⟨t1.1, fun _ => t2.1⟩, fun _ => trivial, fun _ => ⟨⟨t3.1, c.1⟩, fun _ => trivial, fun _ => ⟨⟨T.1, ?_⟩, ⟨okRn (by omega), fun x hx => (by_i x hx).1, fun x hx => ?_, ?_⟩, fun _ => trivial, fun _ => ?_⟩⟩⟩, ?_⟩
  · rw [tbl_len]; simp; omega
  · exact okIx_nat (by have := mem_rangeY.mp hx; omega)
  · rw [rangeY_len]; omega
  · exact ⟨tn.1, fun _ => tn0.1⟩
  · rfl
end Law

set_option maxHeartbeats 4000000
set_option exponentiation.threshold 200000
namespace Law
open PySem L2 Q Y
/-! k15: the parts of the law -/
theorem pick_ok (fs : List Int) (k : Nat) (m : Int) (hm : 0 < m) : g__law_pick ((k : Int), fs) m ∧ ∃ v : Nat, (v : Int) < m ∧ p__law_pick ((k : Int), fs) m = ((v : Int), (((k + 1 : Nat) : Int), fs)) := by
  unfold g__law_pick p__law_pick
  simp only [letY]
  by_cases h : (fs.length : Int) ≤ (k : Int)
  · rw [decide_eq_true h]
    exact ⟨⟨trivial, fun _ => trivial, fun z => nomatch z⟩, 0, by omega, rfl⟩
  · rw [decide_eq_false h]
    have h1 := Int.emod_nonneg (ixY fs (k : Int)) (by omega : m ≠ 0)
    have h2 := Int.emod_lt_of_pos (ixY fs (k : Int)) hm
    refine ⟨⟨trivial, fun _ => trivial, fun _ => ⟨okIx_nat (by omega), hm⟩⟩, (ixY fs (k : Int) % m).toNat, by omega, ?_⟩
    rw [cond_false, Int.toNat_of_nonneg h1]
    rfl
def okPair (x : Int × Int) : Prop := g_choose x.1 x.2 ∧ g__law_choose x.1 x.2 ∧ p__law_same (p_choose x.1 x.2) (p__law_choose x.1 x.2) = true
theorem pair_ok (N K : Nat) (hN : N ≤ 3000) (hm : min K (N - K) ≤ 500) : okPair ((N : Int), (K : Int)) := by
  have a := choose_ok N K hN
  have b := lchoose' N K hN hm
  exact ⟨a.1, b.1, by rw [a.2, b.2]; exact same_ok _⟩
theorem pairs_all {l : List (Int × Int)} (h : ∀ x ∈ l, okPair x) : (∀ x ∈ l, g_choose x.1 x.2) ∧ (∀ x ∈ l, g__law_choose x.1 x.2) ∧ l.filter (fun (x14 : (Int × Int)) => (!(p__law_same (p_choose x14.1 x14.2) (p__law_choose x14.1 x14.2)))) = [] := by
  refine ⟨fun x hx => (h x hx).1, fun x hx => (h x hx).2.1, ?_⟩
  rw [List.filter_eq_nil_iff]
  intro x hx
  rw [(h x hx).2.2]
  decide
theorem choices_true (fs : List Int) (k0 n k : Nat) (hn : n ≤ 400) (hk : k ≤ 400) : g__law_choices ((k0 : Int), fs) n k ∧ ∃ k1 : Nat, p__law_choices ((k0 : Int), fs) n k = (true, ((k1 : Int), fs)) := by
  obtain ⟨gp, v, hv, e1⟩ := pick_ok fs k0 24 (by decide)
  obtain ⟨gq, w, hw, e2⟩ := pick_ok fs (k0 + 1) 24 (by decide)
  have ef : (2000 : Int) - (v : Int) = ((2000 - v : Nat) : Int) := by omega
  have ed : ((2000 - v : Nat) : Int) - (w : Int) = ((2000 - v - w : Nat) : Int) := by omega
  have c1 := choose_ok (2000 - v) w (by omega)
  have c2 := choose_ok (2000 - v) (2000 - v - w) (by omega)
  have c3 := lchoose' (2000 - v) w (by omega) (by omega)
  have q1 : p__law_same (p_choose ((2000 - v : Nat) : Int) w) (p__law_choose ((2000 - v : Nat) : Int) w) = true := by rw [c1.2, c3.2]; exact same_ok _
  have q2 : p__law_same (p_choose ((2000 - v : Nat) : Int) ((2000 - v - w : Nat) : Int)) (p__law_choose ((2000 - v : Nat) : Int) w) = true := by
    rw [c2.2, c3.2, binom_sym (by omega)]; exact same_ok _
  have A := pairs_all (l := [((n : Int), (k : Int)), ((k : Int), (n : Int)), ((n : Int), (0 : Int)), ((n : Int), (n : Int)), ((n : Int), (n : Int) + 1), ((0 : Int), (n : Int)), ((n : Int) + (k : Int), (k : Int))]) fun x hx => by
    simp only [List.mem_cons, List.not_mem_nil, or_false] at hx
    rcases hx with e | e | e | e | e | e | e
    · rw [e]; exact pair_ok n k (by omega) (by omega)
    · rw [e]; exact pair_ok k n (by omega) (by omega)
    · rw [e]; exact pair_ok n 0 (by omega) (by omega)
    · rw [e]; exact pair_ok n n (by omega) (by omega)
    · rw [e]; exact pair_ok n (n + 1) (by omega) (by omega)
    · rw [e]; exact pair_ok 0 n (by omega) (by omega)
    · rw [e]; exact pair_ok (n + k) k (by omega) (by omega)
  have P := pascal_ok w (by omega)
  have bg : (3000 : Nat) ≤ big := by decide
  have row : tbl (w + 1) (binom w) ++ ([0] : List Int) = tbl (w + 2) (binom w) := by
    rw [tbl_append (w + 1), binom_lt (by omega : w < w + 1)]
    rfl
  have rl := tbl_len (w + 2) (binom w)
  have xs : ∀ x ∈ rangeY 0 ((w + 2 : Nat) : Int), g_choose (w : Int) x ∧ p__law_same (p_choose (w : Int) x) (ixY (tbl (w + 2) (binom w)) x) = true := fun x hx => by
    have := mem_rangeY.mp hx
    obtain ⟨i, rfl⟩ : ∃ i : Nat, x = (i : Int) := ⟨x.toNat, by omega⟩
    have c := choose_ok w i (by omega)
    refine ⟨c.1, ?_⟩
    rw [c.2, tbl_ix _ (by omega)]
    exact same_ok _
  have fil : (rangeY 0 ((w + 2 : Nat) : Int)).filter (fun (x22 : Int) => (!(p__law_same (p_choose (w : Int) x22) (ixY (tbl (w + 2) (binom w)) x22)))) = [] := by
    rw [List.filter_eq_nil_iff]
    intro x hx
    rw [(xs x hx).2]
    decide
  unfold g__law_choices p__law_choices
  rw [e1, e2]
  simp only [letY]
  rw [ef, ed, P.2, row]
  simp only [rl, q1, q2, A.2.2, fil, List.map_nil, List.length_nil, Bool.not_true, Bool.or_false, Bool.false_or, cond_false]
  refine ⟨⟨⟨gp, gq⟩, c3.1, ⟨c1.1, fun _ => c2.1⟩, fun _ => trivial, fun _ => ⟨⟨A.1, A.2.1, by simp; omega⟩, fun _ => trivial, fun _ => ⟨⟨P.1, by rw [tbl_len]; simp; omega⟩, okRn (by omega), fun x hx => (xs x hx).1, fun x hx => okIx_nat (by have := mem_rangeY.mp hx; omega), by rw [rangeY_len]; omega⟩⟩⟩, k0 + 1 + 1, ?_⟩
  rfl
theorem six {v : Nat} (h : (v : Int) < 6) : ∃ c : Nat, c ≤ 2000 ∧ ixY ([(2 : Int), (1 : Int), (0 : Int), (3 : Int), (2000 : Int), (23 : Int)] : List Int) (v : Int) = (c : Int) := by
  have : v = 0 ∨ v = 1 ∨ v = 2 ∨ v = 3 ∨ v = 4 ∨ v = 5 := by omega
  rcases this with rfl | rfl | rfl | rfl | rfl | rfl
  · exact ⟨2, by omega, rfl⟩
  · exact ⟨1, by omega, rfl⟩
  · exact ⟨0, by omega, rfl⟩
  · exact ⟨3, by omega, rfl⟩
  · exact ⟨2000, by omega, rfl⟩
  · exact ⟨23, by omega, rfl⟩
theorem doubling_ok (n runs k : Nat) (hn : 1 ≤ n) (hr : 1 ≤ runs) (h : runs ≤ n) (hb : k + runs ≤ 3000) : g_doubling_number n runs k ∧ p_doubling_number n runs k = (binom (k + runs - 1) k : Nat) := by
  have e : (k : Int) + (runs : Int) - 1 = ((k + runs - 1 : Nat) : Int) := by omega
  have c := chosen_ok (k + runs - 1) k (by omega)
  unfold g_doubling_number p_doubling_number
  rw [e, ← cho_binom]
  have h' : ¬ (n : Int) < (runs : Int) := by omega
  exact ⟨⟨num_ok _ _ (by omega), num_ok _ _ (by omega), num_ok _ _ (by omega), ⟨trivial, decide_eq_false h'⟩, c.1⟩, c.2⟩
theorem put_in_true (fs : List Int) (k0 n k : Nat) (hn : n ≤ 400) (hk : k ≤ 400) : g__law_put_in ((k0 : Int), fs) n k ∧ ∃ k1 : Nat, p__law_put_in ((k0 : Int), fs) n k = (true, ((k1 : Int), fs)) := by
  obtain ⟨g1, v, hv, e1⟩ := pick_ok fs k0 6 (by decide)
  obtain ⟨g2, y, hy, e2⟩ := pick_ok fs (k0 + 1) 12 (by decide)
  obtain ⟨g3, r, hr, e3⟩ := pick_ok fs (k0 + 1 + 1) 6 (by decide)
  obtain ⟨g4, f, hf, e4⟩ := pick_ok fs (k0 + 1 + 1 + 1) 24 (by decide)
  obtain ⟨g5, u, hu, e5⟩ := pick_ok fs (k0 + 1 + 1 + 1 + 1) 24 (by decide)
  obtain ⟨c, hc, ec⟩ := six hv
  have a1 : (n : Int) + (k : Int) = ((n + k : Nat) : Int) := by omega
  have a2 : (1 : Int) + (y : Int) = ((y + 1 : Nat) : Int) := by omega
  have a3 : min (k : Int) 30 = ((min k 30 : Nat) : Int) := by omega
  have a4 : min (n : Int) 40 = ((min n 40 : Nat) : Int) := by omega
  have a5 : (1 : Int) + ((min k 30 : Nat) : Int) + (r : Int) = ((1 + min k 30 + r : Nat) : Int) := by omega
  have a6 : (2000 : Int) - (f : Int) = ((2000 - f : Nat) : Int) := by omega
  have a7 : ((2000 - f : Nat) : Int) - 1 = ((2000 - f - 1 : Nat) : Int) := by omega
  have a8 : (1 : Int) + (u : Int) % ((n : Int) + 1) = ((1 + u % (n + 1) : Nat) : Int) := by
    rw [Int.natCast_add, Int.natCast_emod]; rfl
  have hrun : u % (n + 1) ≤ n := by have := Nat.mod_lt u (by omega : 0 < n + 1); omega
  generalize u % (n + 1) = w at a8 hrun
  have a9 : (k : Int) + ((1 + w : Nat) : Int) - 1 = ((k + w : Nat) : Int) := by omega
  have a10 : ((1 + w : Nat) : Int) - 1 = (w : Int) := by omega
  have a11 : (n : Int) + 1 = ((n + 1 : Nat) : Int) := by omega
  -- noise
  have n1 := chosen_ok (n + k) k (by omega)
  have n2 := times_ok c k 12 (by omega) (by omega) (Nat.le_refl _)
  have n3 := lchoose_ok (n + k) k (by omega) (by omega)
  have n4 := lpower_ok c k 12 (by omega) (by omega) (by omega)
  have hcho : cho (n + k) k ≤ 2 ^ 800 := by rw [cho_binom]; exact Nat.le_trans (binom_le _ _) (p2 (by omega))
  have hpow : c ^ k ≤ 2 ^ 4800 := Nat.le_trans (pow_le2 (b := 12) (by omega) k) (p2 (by omega))
  have nz : g_noise_number n k c ∧ p_noise_number n k c = ((cho (n + k) k * c ^ k : Nat) : Int) := by
    unfold g_noise_number p_noise_number
    rw [a1, n1.2, n2.2]
    exact ⟨⟨num_ok _ _ (by omega), num_ok _ _ (by omega), num_ok _ _ (by omega), n1.1, n2.1, okMn _ _ hcho hpow (by decide) (by decide)⟩, by rw [Int.natCast_mul]⟩
  have q1 : p__law_same (p_noise_number n k c) (p__law_choose ((n + k : Nat) : Int) k * p__law_power c k) = true := by
    rw [nz.2, n3.2, n4.2, ← Int.natCast_mul]; exact same_ok _
  -- scattered
  have s1 := scat_ok (min n 40) (min k 30) y (by omega) (by omega) (by omega)
  have s2 := lscat_ok (min n 40) (min k 30) y (by omega) (by omega)
  have q2 : p__law_same (p_scattered_number ((min n 40 : Nat) : Int) ((min k 30 : Nat) : Int) ((y + 1 : Nat) : Int)) (p__law_scattered ((min n 40 : Nat) : Int) ((min k 30 : Nat) : Int) ((y + 1 : Nat) : Int)) = true := by rw [s1.2, s2.2]; exact same_ok _
  have s3 := scat_ok 0 (1 + min k 30 + r) y (by omega) (by omega) (by omega)
  have s4 := lpower_ok (y + 1) (1 + min k 30 + r) 12 (by omega) (by omega) (by omega)
  have q3 : p__law_same (p_scattered_number 0 ((1 + min k 30 + r : Nat) : Int) ((y + 1 : Nat) : Int)) (p__law_power ((y + 1 : Nat) : Int) ((1 + min k 30 + r : Nat) : Int)) = true := by
    have h := s3.2
    rw [show ((0 : Nat) : Int) = 0 from rfl] at h
    rw [h, s4.2, show 0 + (1 + min k 30 + r) = 1 + min k 30 + r by omega, bsum_pow]
    exact same_ok _
  have s5 := scat_ok (2000 - f - 1) 1 y (by omega) (by omega) (by omega)
  have q4 : p__law_same (p_scattered_number ((2000 - f - 1 : Nat) : Int) 1 ((y + 1 : Nat) : Int)) (1 + ((2000 - f : Nat) : Int) * (((y + 1 : Nat) : Int) - 1)) = true := by
    have h := s5.2
    rw [show ((1 : Nat) : Int) = 1 from rfl] at h
    have e : ((y + 1 : Nat) : Int) - 1 = (y : Int) := by omega
    rw [h, e, show 2000 - f - 1 + 1 = 2000 - f by omega]
    have e2 : bsum (2000 - f) y (1 + 1) = 1 + (2000 - f) * y := by simp [bsum, binom_zero, binom_one]
    rw [e2, Int.natCast_add, Int.natCast_mul]
    exact same_ok _
  -- doubling
  have d1 := doubling_ok (n + 1) (1 + w) k (by omega) (by omega) (by omega) (by omega)
  have d2 := lchoose' (k + w) w (by omega) (by omega)
  have q5 : p__law_same (p_doubling_number ((n + 1 : Nat) : Int) ((1 + w : Nat) : Int) k) (p__law_choose ((k + w : Nat) : Int) w) = true := by
    rw [d1.2, d2.2, show k + (1 + w) - 1 = k + w by omega]
    have := binom_sym (n := k + w) (k := w) (by omega)
    rw [show k + w - w = k by omega] at this
    rw [this]
    exact same_ok _
  have d3 := doubling_ok (n + 1) 1 k (by omega) (by omega) (by omega) (by omega)
  have q6 : p__law_same (p_doubling_number ((n + 1 : Nat) : Int) 1 k) 1 = true := by
    have h := d3.2
    rw [show ((1 : Nat) : Int) = 1 from rfl] at h
    rw [h, show k + 1 - 1 = k by omega, binom_self]
    rfl
  have d4 := doubling_ok (2000 - f) (2000 - f) 1 (by omega) (by omega) (by omega) (by omega)
  have q7 : p__law_same (p_doubling_number ((2000 - f : Nat) : Int) ((2000 - f : Nat) : Int) 1) ((2000 - f : Nat) : Int) = true := by
    have h := d4.2
    rw [show ((1 : Nat) : Int) = 1 from rfl] at h
    rw [h, show 1 + (2000 - f) - 1 = 2000 - f by omega, binom_one]
    exact same_ok _
  unfold g__law_put_in p__law_put_in
  rw [e1]
  simp only [letY]
  rw [e2]
  simp only []
  rw [e3]
  simp only []
  rw [e4]
  simp only []
  rw [e5]
  simp only []
  rw [ec, a8, a1, a2, a3, a4, a5, a6, a7, a9, a10, a11]
  simp only [q1, q2, q3, q4, q5, q6, q7, Bool.not_true, cond_false, Bool.and_self]
  refine ⟨?_, k0 + 1 + 1 + 1 + 1 + 1, rfl⟩
  refine ⟨⟨g1, okIx_nat ⟨by omega, by simpa using hv⟩⟩, ⟨nz.1, n3.1, n4.1, by rw [n3.2, n4.2]; exact okMn _ _ hcho hpow (by decide) (by decide)⟩, fun _ => trivial, fun _ => ⟨g2, g3, ⟨s1.1, s2.1⟩, fun _ => trivial, fun _ => ⟨⟨s3.1, s4.1⟩, fun _ => trivial, fun _ => ⟨g4, ?_, s5.1, fun _ => trivial, fun _ => ⟨⟨g5, by omega⟩, ⟨d1.1, d2.1⟩, fun _ => trivial, fun _ => ⟨d3.1, fun _ => d4.1⟩⟩⟩⟩⟩⟩
  rw [show ((y + 1 : Nat) : Int) - 1 = (y : Int) by omega]
  exact okMn 12 12 (by omega) (by omega) (by decide) (by decide)
end Law

set_option maxHeartbeats 4000000
set_option exponentiation.threshold 200000
namespace Law
open PySem L2 Q Y
theorem sIx_nat (n m : Nat) : HT.sIx n n (some (m : Int)) = min m n := by
  simp [HT.sIx]
  try omega
theorem sIx_none (n : Nat) : HT.sIx n 0 none = 0 := by simp [HT.sIx]
theorem cut_take {α : Type} (l : List α) (m : Nat) : cutY l none (some (m : Int)) = l.take m := by
  unfold cutY
  rw [sIx_nat, sIx_none, List.drop_zero, Nat.sub_zero]
  by_cases h : m ≤ l.length
  · rw [Nat.min_eq_left h]
  · rw [Nat.min_eq_right (by omega), List.take_of_length_le (Nat.le_refl _), List.take_of_length_le (by omega)]
theorem tbl_take {n m : Nat} (f : Nat → Nat) (h : m ≤ n) : (tbl n f).take m = tbl m f := by
  unfold tbl
  rw [← List.map_take, List.take_range, Nat.min_eq_left h]
theorem tsum_cut {f : Nat → Nat} {n : Nat} (h : ∀ i, n ≤ i → f i = 0) : ∀ d, tsum f (n + d) = tsum f n
  | 0 => rfl
  | d + 1 => by rw [← Nat.add_assoc, tsum, tsum_cut h d, h _ (by omega)]; rfl
theorem es_rep (c : Nat) : ∀ (n j : Nat), es (List.replicate n c) j = binom n j * c ^ j
  | n, 0 => by rw [es_zero, binom_zero]; rfl
  | 0, j + 1 => by simp [es, binom]
  | n + 1, j + 1 => by
    rw [List.replicate_succ, es_cons, es_rep c n (j + 1), es_rep c n j, binom_succ, Nat.add_mul, Nat.pow_succ, Nat.mul_comm c, Nat.mul_assoc (binom n j)]
    omega
theorem rep_zl (c n : Nat) : repY ([(c : Int)] : List Int) (n : Int) = zl (List.replicate n c) := by
  unfold repY zl
  rw [Int.toNat_natCast, List.flatten_replicate_singleton, List.map_replicate]
theorem turn_ok (l : List Nat) (P : Int × List Int) (z k : Nat) (hn : l.length ≤ 12) (hl : ∀ x ∈ l, 1 + x ≤ 2 ^ 12) (hz : z ≤ 23) (hk : k ≤ 60) (a : Int) (ha : a ∈ rangeY 0 ((l.length + 4 : Nat) - 1)) :
    gb__law_products_1 (zl l) (tbl (l.length + 4) (es l.reverse)) (zl l) P k z a () ∧ b__law_products_1 (zl l) (tbl (l.length + 4) (es l.reverse)) (zl l) P k z a () = .nx () := by
  obtain ⟨j, rfl, hj⟩ : ∃ j : Nat, a = (j : Int) ∧ j < l.length + 3 := by
    have := mem_rangeY.mp ha
    exact ⟨a.toNat, by omega, by omega⟩
  have hb : 12 * l.length + 12 ≤ 40000 := by omega
  have s1 := sym_ok l j 12 (by omega) (by omega) (by omega) hl
  have s2 := sym2_ok l j 12 (by omega) (by omega) (by omega) hl
  have m1 := mixed_ok l z j k 12 (by omega) (by omega) hb hl (by omega) (by omega)
  have m2 := mixed2_ok l z j 0 12 (by omega) (by omega) hb hl (by omega) (by omega)
  have k1 := look_ok l j 12 (by omega) (by omega) hb hl
  have c := lchoose_ok (l.length + k) k (by omega) (by omega)
  have p := lpower_ok z k 12 (by omega) (by omega) (by omega)
  have ix := tbl_ix (n := l.length + 4) (k := j) (es l.reverse) (by omega)
  have oix := tbl_ok (n := l.length + 4) (k := j) (es l.reverse) (by omega)
  have el : ((zl l).length : Int) + (k : Int) = ((l.length + k : Nat) : Int) := by rw [zl_len]; omega
  have cut : cutY (tbl (l.length + 4) (es l.reverse)) none (some ((j : Int) + 1)) = tbl (j + 1) (es l.reverse) := by
    rw [show (j : Int) + 1 = ((j + 1 : Nat) : Int) by omega, cut_take, tbl_take _ (by omega)]
  have z0 : ∀ i, l.length + 1 ≤ i → es l.reverse i = 0 := fun i h => es_lt (by rw [List.length_reverse]; omega)
  have hcho : cho (l.length + k) k ≤ 2 ^ 72 := by rw [cho_binom]; exact Nat.le_trans (binom_le _ _) (p2 (by omega))
  have hpow : z ^ k ≤ 2 ^ 720 := Nat.le_trans (pow_le2 (b := 12) (by omega) k) (p2 (by omega))
  have hes := es_bound hl j
  have q1 : p__law_same (p_symmetric (zl l) j) (((es l.reverse j : Nat) : Int)) = true := by rw [s1.2]; exact same_ok _
  have q2 : p__law_same (p_symmetric_2 (zl l) j) (((es l.reverse j : Nat) : Int)) = true := by rw [s2.2]; exact same_ok _
  have q3 : p__law_same (p_mixed_ways (zl l) z j k) (((es l.reverse j : Nat) : Int) * ((cho (l.length + k) k : Nat) : Int) * ((z ^ k : Nat) : Int)) = true := by
    rw [m1.2, ← Int.natCast_mul, ← Int.natCast_mul]; exact same_ok _
  have q4 : p__law_same (p_mixed_ways_2 (zl l) z j 0) (((es l.reverse j : Nat) : Int)) = true := by
    have h := m2.2
    rw [show ((0 : Nat) : Int) = 0 from rfl] at h
    rw [h, cho_binom, binom_zero, Nat.pow_zero, Nat.mul_one, Nat.mul_one]
    exact same_ok _
  have q5 : p__law_same (p_lookalike_number (zl l) j) (List.sum (tbl (j + 1) (es l.reverse))) = true := by
    rw [k1.2, tbl_sum]
    have : tsum (es l.reverse) (min j l.length + 1) = tsum (es l.reverse) (j + 1) := by
      by_cases h : j ≤ l.length
      · rw [Nat.min_eq_left h]
      · rw [Nat.min_eq_right (by omega)]
        obtain ⟨d, hd⟩ : ∃ d, j + 1 = l.length + 1 + d := ⟨j - l.length, by omega⟩
        rw [hd, tsum_cut z0]
    rw [this]
    exact same_ok _
  unfold gb__law_products_1 b__law_products_1
  simp only [letY]
  rw [el, ix, c.2, p.2, cut]
  simp only [q1, q2, q3, q4, q5, Bool.not_true, Bool.or_self, cond_false]
  refine ⟨⟨⟨s1.1, oix, fun _ => s2.1, fun _ => oix⟩, fun _ => trivial, fun _ => ⟨⟨oix, c.1, okMn (12 * l.length) 72 hes hcho (by omega) (by decide), p.1, ?_⟩, m1.1, fun _ => trivial, fun _ => ⟨⟨m2.1, oix⟩, fun _ => trivial, fun _ => ⟨k1.1, fun _ => trivial, fun _ => trivial⟩⟩⟩⟩, trivial⟩
  rw [← Int.natCast_mul]
  refine okMn (12 * l.length + 72) 720 ?_ hpow (by omega) (by decide)
  rw [Nat.pow_add]
  exact Nat.mul_le_mul hes hcho
theorem products_true (fs : List Int) (k0 : Nat) (l : List Nat) (z k : Nat) (hn : l.length ≤ 12) (hl : ∀ x ∈ l, 1 + x ≤ 2 ^ 12) (hz : z ≤ 23) (hk : k ≤ 60) :
    g__law_products ((k0 : Int), fs) (zl l) z k ∧ ∃ k1 : Nat, p__law_products ((k0 : Int), fs) (zl l) z k = (true, ((k1 : Int), fs)) := by
  obtain ⟨g1, v, hv, e1⟩ := pick_ok fs k0 24 (by decide)
  obtain ⟨g2, c, hc, e2⟩ := pick_ok fs (k0 + 1) 24 (by decide)
  obtain ⟨g3, j, hj, e3⟩ := pick_ok fs (k0 + 1 + 1) 24 (by decide)
  have L := lsums_ok l hn hl
  have F := forC_all (κ' := Unit) (g := gb__law_products_1 (zl l) (tbl (l.length + 4) (es l.reverse)) (zl l) ((k0 : Int), fs) k z) (f := b__law_products_1 (zl l) (tbl (l.length + 4) (es l.reverse)) (zl l) ((k0 : Int), fs) k z) (s := ()) (rangeY 0 ((l.length + 4 : Nat) - 1)) fun a ha => turn_ok l _ z k hn hl hz hk a ha
  have tl := tbl_len (l.length + 4) (es l.reverse)
  have L1 := lprod_ok 1 (g := gb__law_products_2) (f := b__law_products_2) l fun pre x hx hp hlen => by
    unfold gb__law_products_2 b__law_products_2
    have e : (1 : Int) + (x : Int) = ((1 + x : Nat) : Int) := by omega
    rw [e]
    have bd : prodB 1 pre ≤ 2 ^ 144 := Nat.le_trans (prodB_le (b := 12) pre fun y hy => by rw [Nat.mul_one]; exact hl y (hp y hy)) (p2 (by omega))
    refine ⟨okMn 144 12 bd (hl x hx) (by decide) (by decide), ?_⟩
    simp only [prodB, Nat.mul_one, Int.natCast_mul]
  have k2 := look2_ok l 12 (by omega) (by omega) hl
  have q1 : p__law_same (p_lookalike_number_2 (zl l) ()) ((prodB 1 l.reverse : Nat) : Int) = true := by
    rw [k2.2, prod_one, List.length_reverse]; exact same_ok _
  have a1 : (20 : Int) + 8 * (v : Int) = ((20 + 8 * v : Nat) : Int) := by omega
  have hr : ∀ x ∈ List.replicate (20 + 8 * v) c, 1 + x ≤ 2 ^ 12 := fun x hx => by
    rw [List.eq_of_mem_replicate hx]; omega
  have s := sym_ok (List.replicate (20 + 8 * v) c) j 12 (by omega) (by rw [List.length_replicate]; omega) (by rw [List.length_replicate]; omega) hr
  have ch := lchoose' (20 + 8 * v) j (by omega) (by omega)
  have pw := lpower_ok c j 12 (by omega) (by omega) (by omega)
  have hcho : binom (20 + 8 * v) j ≤ 2 ^ 204 := Nat.le_trans (binom_le _ _) (p2 (by omega))
  have hpow : c ^ j ≤ 2 ^ 276 := Nat.le_trans (pow_le2 (b := 12) (by omega) j) (p2 (by omega))
  have q2 : p__law_same (p_symmetric (repY ([(c : Int)] : List Int) ((20 + 8 * v : Nat) : Int)) j) (p__law_choose ((20 + 8 * v : Nat) : Int) j * p__law_power c j) = true := by
    rw [rep_zl, s.2, ch.2, pw.2, List.reverse_replicate, es_rep, ← Int.natCast_mul]
    exact same_ok _
  have bg : (3000 : Nat) ≤ big := by decide
  unfold g__law_products p__law_products
  simp only [letY]
  rw [L.2]
  simp only [tl]
  rw [F.2, L1.2]
  simp only [cT, cG, e1, e2, e3, a1, q1, q2, Bool.not_true, decide_true, Bool.or_self, cond_false]
  refine ⟨⟨L.1, ⟨okRn (by omega), F.1⟩, ⟨trivial, L1.1⟩, k2.1, fun _ => trivial, fun _ => ⟨⟨g1, okMn (x := 8) 4 5 (by decide) (by omega) (by decide) (by decide), g2, g3⟩, ?_, ?_, ch.1, pw.1, ?_⟩⟩, k0 + 1 + 1 + 1, rfl⟩
  · unfold okRep
    rw [Bool.and_eq_true, Bool.and_eq_true, decide_eq_true_eq, decide_eq_true_eq, decide_eq_true_eq]
    exact ⟨⟨by omega, by omega⟩, by simp; omega⟩
  · rw [rep_zl]; exact s.1
  · rw [ch.2, pw.2]; exact okMn _ _ hcho hpow (by decide) (by decide)
end Law

set_option maxHeartbeats 4000000
set_option exponentiation.threshold 200000
namespace Law
open PySem L2 Q Y
/-! k15: refusals -/
def p_heard (ask : D) (args : List D) (due : Str) (place : D) : Bool := true
def g_heard (ask : D) (args : List D) (due : Str) (place : D) : Prop := f__law_is_heard [.leaf (eD ask), .leaf (eL eD args), .leaf (.str due), .leaf (eD place)] = .ok (.leaf (.bl true)) []
theorem s_heard (ask : D) (args : List D) (due : Str) (place : D) (hg : g_heard ask args due place) : f__law_is_heard [.leaf (eD ask), .leaf (eL eD args), .leaf (.str due), .leaf (eD place)] = .ok (.leaf (.bl (p_heard ask args due place))) [] := hg
def p_heardN (ask : D) (args : List D) (due : Unit) (place : Unit) : Bool := true
def g_heardN (ask : D) (args : List D) (due : Unit) (place : Unit) : Prop := f__law_is_heard [.leaf (eD ask), .leaf (eU eD args), .leaf (eK "none" due), .leaf (eN place)] = .ok (.leaf (.bl true)) []
theorem s_heardN (ask : D) (args : List D) (due : Unit) (place : Unit) (hg : g_heardN ask args due place) : f__law_is_heard [.leaf (eD ask), .leaf (eU eD args), .leaf (eK "none" due), .leaf (eN place)] = .ok (.leaf (.bl (p_heardN ask args due place))) [] := hg
end Law

set_option maxHeartbeats 4000000
namespace Law
open PySem L2 Q Y
def b__law_first_told_1 (mix : (List Int)) (bads : (List Q.D)) (a14 : Int) (s15 : (List Q.D)) : (List Q.D) :=
  (bif (decide ((0 : Int) < (ixY mix a14))) then (setY s15 a14 (ixY bads a14)) else s15)
def gb__law_first_told_1 (mix : (List Int)) (bads : (List Q.D)) (a14 : Int) (s15 : (List Q.D)) : Prop :=
  ((okIx mix.length a14) ∧ ((decide ((0 : Int) < (ixY mix a14))) = true → ((okIx bads.length a14) ∧ (okIx s15.length a14))) ∧ ((decide ((0 : Int) < (ixY mix a14))) = false → True))
def b__law_first_told_2 (goods : (List Q.D)) (bads : (List Q.D)) (mix : (List Int)) (ask : Q.D) (places : (List Q.D)) (a4 : Int) (s5 : Unit) : C Unit Unit Bool :=
  (letY goods fun (s8 : (List Q.D)) => (letY (setY s8 a4 (ixY bads a4)) fun (s11 : (List Q.D)) => (letY (foldY (b__law_first_told_1 mix bads) (rangeY (a4 + (1 : Int)) (goods.length : Int)) s11) fun (s23 : (List Q.D)) => (letY ("BadNumber" : Str) fun (s26 : Str) => (letY (bif (isiD ["tuple"] (ixY goods a4)) then ("BadLot" : Str) else s26) fun (s33 : Str) => (bif (!(p_heard ask s23 s33 (ixY places a4))) then .rt false else .nx ()))))))
def gb__law_first_told_2 (goods : (List Q.D)) (bads : (List Q.D)) (mix : (List Int)) (ask : Q.D) (places : (List Q.D)) (a4 : Int) (s5 : Unit) : Prop :=
  (letY goods fun (s8 : (List Q.D)) => (((okIx bads.length a4) ∧ (okIx s8.length a4)) ∧ (letY (setY s8 a4 (ixY bads a4)) fun (s11 : (List Q.D)) => ((((okR (a4 + (1 : Int))) ∧ (okR (goods.length : Int))) ∧ foldG (gb__law_first_told_1 mix bads) (b__law_first_told_1 mix bads) (rangeY (a4 + (1 : Int)) (goods.length : Int)) s11) ∧ (letY (foldY (b__law_first_told_1 mix bads) (rangeY (a4 + (1 : Int)) (goods.length : Int)) s11) fun (s23 : (List Q.D)) => (letY ("BadNumber" : Str) fun (s26 : Str) => ((((okIx goods.length a4) ∧ (((ixY goods a4)).tyN ≠ "?")) ∧ ((isiD ["tuple"] (ixY goods a4)) = true → True) ∧ ((isiD ["tuple"] (ixY goods a4)) = false → True)) ∧ (letY (bif (isiD ["tuple"] (ixY goods a4)) then ("BadLot" : Str) else s26) fun (s33 : Str) => (((okIx places.length a4) ∧ (g_heard ask s23 s33 (ixY places a4))) ∧ ((!(p_heard ask s23 s33 (ixY places a4))) = true → True) ∧ ((!(p_heard ask s23 s33 (ixY places a4))) = false → True))))))))))
def p__law_first_told (ask : Q.D) (goods : (List Q.D)) (bads : (List Q.D)) (places : (List Q.D)) (mix : (List Int)) : Bool :=
  (bif (!(p_heardN ask goods () ())) then false else (cT (forC (κ' := Unit) (b__law_first_told_2 goods bads mix ask places) (rangeY 0 (goods.length : Int)) () : C Unit Unit Bool) (fun (s37 : Unit) => true) default))
def g__law_first_told (ask : Q.D) (goods : (List Q.D)) (bads : (List Q.D)) (places : (List Q.D)) (mix : (List Int)) : Prop :=
  ((g_heardN ask goods () ()) ∧ ((!(p_heardN ask goods () ())) = true → True) ∧ ((!(p_heardN ask goods () ())) = false → (((okR (goods.length : Int)) ∧ forG (gb__law_first_told_2 goods bads mix ask places) (b__law_first_told_2 goods bads mix ask places) (rangeY 0 (goods.length : Int)) ()) ∧ cG (forC (κ' := Unit) (b__law_first_told_2 goods bads mix ask places) (rangeY 0 (goods.length : Int)) () : C Unit Unit Bool) (fun (s37 : Unit) => True))))
theorem s__law_first_told (ask : Q.D) (goods : (List Q.D)) (bads : (List Q.D)) (places : (List Q.D)) (mix : (List Int)) (hg : g__law_first_told ask goods bads places mix) : f__law_first_told [(.leaf (eD ask)), (.leaf ((eU eD) goods)), (.leaf ((eU eD) bads)), (.leaf ((eU eD) places)), (.leaf ((eL D.int) mix))] = .ok (.leaf (D.bl (p__law_first_told ask goods bads places mix))) [] :=
  Y.fn_of (lent := []) (n := 9) (ρ := ([some (.leaf (eD ask)), some (.leaf ((eU eD) goods)), some (.leaf ((eU eD) bads)), some (.leaf ((eU eD) places)), some (.leaf ((eL D.int) mix)), none, none, none, none] : Q.Env)) (g := g__law_first_told ask goods bads places mix) (et := (fun b : Bool => .leaf (D.bl b))) (el := (fun b : Bool => [])) (v := p__law_first_told ask goods bads places mix) rfl
  (t_ifr (x := (!(p_heardN ask goods () ()))) (fun (h1 : (g_heardN ask goods () ())) => (y_not (y_test (y_call (yc_val (y_v (eD ask) rfl) (yc_val (y_v ((eU eD) goods) rfl) (yc_val (y_c (D.str "none")) (yc_val (y_c D.non) yc_nil)))) rfl (s_heardN ask goods () () h1) rfl rfl)))) (t_ret (v := (false : Bool)) (g := True) (fun (h2 : True) => (y_c (D.bl false))) rfl) (t_seqC (K := (fun (_ : Unit) (_ : Unit) => ([] : Q.Env))) (o := (forC (κ' := Unit) (b__law_first_told_2 goods bads mix ask places) (rangeY 0 (goods.length : Int)) () : C Unit Unit Bool)) (z := default) (c_for (e := D.int) (l := (rangeY 0 (goods.length : Int))) (s := ()) (d0 := ((none : Option T), (none : Option T), (none : Option T), (none : Option T))) (R := (fun (s : Unit) (d : Option T × Option T × Option T × Option T) => ([some (.leaf (eD ask)), some (.leaf ((eU eD) goods)), some (.leaf ((eU eD) bads)), some (.leaf ((eU eD) places)), some (.leaf ((eL D.int) mix)), d.1, d.2.1, d.2.2.1, d.2.2.2] : Q.Env))) (Rt := (fun (a4 : Int) (s5 : Unit) (d6 : Option T × Option T × Option T × Option T) => ([some (.leaf (eD ask)), some (.leaf ((eU eD) goods)), some (.leaf ((eU eD) bads)), some (.leaf ((eU eD) places)), some (.leaf ((eL D.int) mix)), some (.leaf (D.int a4)), d6.2.1, d6.2.2.1, d6.2.2.2] : Q.Env))) (gb := (gb__law_first_told_2 goods bads mix ask places)) (f := (b__law_first_told_2 goods bads mix ask places)) (fun (h3 : (okR (goods.length : Int))) => (yi_range1 (y_lenU (e := eD) (y_v ((eU eD) goods) rfl)) h3)) rfl (fun _ _ _ => rfl) (fun a4 s5 d6 => (c_seqN0 (s := goods) (show NY _ _ True (fun (s : (List Q.D)) (d : Unit) => ([some (.leaf (eD ask)), some (.leaf ((eU eD) goods)), some (.leaf ((eU eD) bads)), some (.leaf ((eU eD) places)), some (.leaf ((eL D.int) mix)), some (.leaf (D.int a4)), some ((oL eD) s), d6.2.2.1, d6.2.2.2] : Q.Env)) goods from (fun (h7 : True) => ⟨(), (setO_eq (y_listU (e := eD) (y_v ((eU eD) goods) rfl)) rfl)⟩)) (fun s8 d9 => (c_seqN (s := (setY s8 a4 (ixY bads a4))) (show NY _ _ ((okIx bads.length a4) ∧ (okIx s8.length a4)) (fun (s : (List Q.D)) (d : Unit) => ([some (.leaf (eD ask)), some (.leaf ((eU eD) goods)), some (.leaf ((eU eD) bads)), some (.leaf ((eU eD) places)), some (.leaf ((eL D.int) mix)), some (.leaf (D.int a4)), some ((oL eD) s), d6.2.2.1, d6.2.2.2] : Q.Env)) (setY s8 a4 (ixY bads a4)) from (fun (h10 : (okIx bads.length a4) ∧ (okIx s8.length a4)) => ⟨(), (setix_eq (e := eD) (l := s8) (v := (ixY bads a4)) (y_ixU (e := eD) (y_v ((eU eD) bads) rfl) (y_v (D.int a4) rfl) h10.1) rfl rfl (y_v (D.int a4) rfl) rfl h10.2 rfl)⟩)) (fun s11 d12 => (c_seqN (s := (foldY (b__law_first_told_1 mix bads) (rangeY (a4 + (1 : Int)) (goods.length : Int)) s11)) (n_for (e := D.int) (l := (rangeY (a4 + (1 : Int)) (goods.length : Int))) (s := s11) (d0 := (d6.2.2.1 : Option T)) (R := (fun (s : (List Q.D)) (d : Option T) => ([some (.leaf (eD ask)), some (.leaf ((eU eD) goods)), some (.leaf ((eU eD) bads)), some (.leaf ((eU eD) places)), some (.leaf ((eL D.int) mix)), some (.leaf (D.int a4)), some ((oL eD) s), d, d6.2.2.2] : Q.Env))) (Rt := (fun (a14 : Int) (s15 : (List Q.D)) (d16 : Option T) => ([some (.leaf (eD ask)), some (.leaf ((eU eD) goods)), some (.leaf ((eU eD) bads)), some (.leaf ((eU eD) places)), some (.leaf ((eL D.int) mix)), some (.leaf (D.int a4)), some ((oL eD) s15), some (.leaf (D.int a14)), d6.2.2.2] : Q.Env))) (gb := (gb__law_first_told_1 mix bads)) (f := (b__law_first_told_1 mix bads)) (fun (h13 : (okR (a4 + (1 : Int))) ∧ (okR (goods.length : Int))) => (yi_range2 (y_add (y_v (D.int a4) rfl) (y_c (D.int 1))) (y_lenU (e := eD) (y_v ((eU eD) goods) rfl)) h13.1 h13.2)) rfl (fun _ _ _ => rfl) (fun a14 s15 d16 => (n_lastI (R := (fun (s : (List Q.D)) (d : Option T) => ([some (.leaf (eD ask)), some (.leaf ((eU eD) goods)), some (.leaf ((eU eD) bads)), some (.leaf ((eU eD) places)), some (.leaf ((eL D.int) mix)), some (.leaf (D.int a4)), some ((oL eD) s), d, d6.2.2.2] : Q.Env))) (n_if (x := (decide ((0 : Int) < (ixY mix a14)))) (fun (h17 : (okIx mix.length a14)) => (y_test (y_gt (y_ixL (e := D.int) (y_v ((eL D.int) mix) rfl) (y_v (D.int a14) rfl) h17) (y_c (D.int 0))))) (n_lastI (R := (fun (s : (List Q.D)) (d : Unit) => ([some (.leaf (eD ask)), some (.leaf ((eU eD) goods)), some (.leaf ((eU eD) bads)), some (.leaf ((eU eD) places)), some (.leaf ((eL D.int) mix)), some (.leaf (D.int a4)), some ((oL eD) s), some (.leaf (D.int a14)), d6.2.2.2] : Q.Env))) (show NY _ _ ((okIx bads.length a14) ∧ (okIx s15.length a14)) (fun (s : (List Q.D)) (d : Unit) => ([some (.leaf (eD ask)), some (.leaf ((eU eD) goods)), some (.leaf ((eU eD) bads)), some (.leaf ((eU eD) places)), some (.leaf ((eL D.int) mix)), some (.leaf (D.int a4)), some ((oL eD) s), some (.leaf (D.int a14)), d6.2.2.2] : Q.Env)) (setY s15 a14 (ixY bads a14)) from (fun (h18 : (okIx bads.length a14) ∧ (okIx s15.length a14)) => ⟨(), (setix_eq (e := eD) (l := s15) (v := (ixY bads a14)) (y_ixU (e := eD) (y_v ((eU eD) bads) rfl) (y_v (D.int a14) rfl) h18.1) rfl rfl (y_v (D.int a14) rfl) rfl h18.2 rfl)⟩)) (fun s19 d20 => ⟨(), rfl⟩)) (n_next (R := (fun (s : (List Q.D)) (d : Unit) => ([some (.leaf (eD ask)), some (.leaf ((eU eD) goods)), some (.leaf ((eU eD) bads)), some (.leaf ((eU eD) places)), some (.leaf ((eL D.int) mix)), some (.leaf (D.int a4)), some ((oL eD) s), some (.leaf (D.int a14)), d6.2.2.2] : Q.Env))) (s := s15) (d := ()) rfl)) (fun s21 d22 => ⟨(some (.leaf (D.int a14)) : Option T), rfl⟩)))) (fun s23 d24 => (c_seqN0 (s := ("BadNumber" : Str)) (show NY _ _ True (fun (s : Str) (d : Unit) => ([some (.leaf (eD ask)), some (.leaf ((eU eD) goods)), some (.leaf ((eU eD) bads)), some (.leaf ((eU eD) places)), some (.leaf ((eL D.int) mix)), some (.leaf (D.int a4)), some ((oL eD) s23), d24, some (.leaf (D.str s))] : Q.Env)) ("BadNumber" : Str) from (fun (h25 : True) => ⟨(), (set_eq (y_c (D.str "BadNumber")) rfl)⟩)) (fun s26 d27 => (c_seqN (s := (bif (isiD ["tuple"] (ixY goods a4)) then ("BadLot" : Str) else s26)) (n_if (x := (isiD ["tuple"] (ixY goods a4))) (fun (h29 : (okIx goods.length a4) ∧ (((ixY goods a4)).tyN ≠ "?")) => (y_test (y_isiD (d := (ixY goods a4)) (y_ixU (e := eD) (y_v ((eU eD) goods) rfl) (y_v (D.int a4) rfl) h29.1) h29.2))) (n_lastI (R := (fun (s : Str) (d : Unit) => ([some (.leaf (eD ask)), some (.leaf ((eU eD) goods)), some (.leaf ((eU eD) bads)), some (.leaf ((eU eD) places)), some (.leaf ((eL D.int) mix)), some (.leaf (D.int a4)), some ((oL eD) s23), d24, some (.leaf (D.str s))] : Q.Env))) (show NY _ _ True (fun (s : Str) (d : Unit) => ([some (.leaf (eD ask)), some (.leaf ((eU eD) goods)), some (.leaf ((eU eD) bads)), some (.leaf ((eU eD) places)), some (.leaf ((eL D.int) mix)), some (.leaf (D.int a4)), some ((oL eD) s23), d24, some (.leaf (D.str s))] : Q.Env)) ("BadLot" : Str) from (fun (h30 : True) => ⟨(), (set_eq (y_c (D.str "BadLot")) rfl)⟩)) (fun s31 d32 => ⟨(), rfl⟩)) (n_next (R := (fun (s : Str) (d : Unit) => ([some (.leaf (eD ask)), some (.leaf ((eU eD) goods)), some (.leaf ((eU eD) bads)), some (.leaf ((eU eD) places)), some (.leaf ((eL D.int) mix)), some (.leaf (D.int a4)), some ((oL eD) s23), d24, some (.leaf (D.str s))] : Q.Env))) (s := s26) (d := ()) rfl)) (fun s33 d34 => (c_ifrtL (x := (!(p_heard ask s23 s33 (ixY places a4)))) (fun (h35 : (okIx places.length a4) ∧ (g_heard ask s23 s33 (ixY places a4))) => (y_not (y_test (y_call (yc_val (y_v (eD ask) rfl) (yc_val (y_shareL (e := eD) (l := s23) rfl rfl) (yc_val (y_v (D.str s33) rfl) (yc_val (y_ixU (e := eD) (y_v ((eU eD) places) rfl) (y_v (D.int a4) rfl) h35.1) yc_nil)))) rfl (s_heard ask s23 s33 (ixY places a4) h35.2) rfl rfl)))) (t_ret (v := (false : Bool)) (g := True) (fun (h36 : True) => (y_c (D.bl false))) rfl) (c_ofN (n_next (R := (fun (s : Unit) (d : Option T × Option T × Option T × Option T) => ([some (.leaf (eD ask)), some (.leaf ((eU eD) goods)), some (.leaf ((eU eD) bads)), some (.leaf ((eU eD) places)), some (.leaf ((eL D.int) mix)), d.1, d.2.1, d.2.2.1, d.2.2.2] : Q.Env))) (s := ()) (d := ((some (.leaf (D.int a4)) : Option T), (some (.leaf ((eL eD) s23)) : Option T), (d24 : Option T), (some (.leaf (D.str s33)) : Option T))) rfl)) ))))))))))))) (fun s37 d38 => (t_ret (v := (true : Bool)) (g := True) (fun (h39 : True) => (y_c (D.bl true))) rfl))) ) hg
end Law

set_option maxHeartbeats 4000000
set_option exponentiation.threshold 200000
namespace Law
open PySem L2 Q Y
theorem setY_nat {α : Type} {l : List α} {k : Nat} (h : k < l.length) (v : α) : setY l (k : Int) v = l.set k v := by
  unfold setY
  rw [ixN_nat h]
theorem first_true (ask : Q.D) (goods bads places : List Q.D) (mix : List Int) (n : Nat) (lg : goods.length = n) (lb : bads.length = n) (lp : places.length = n) (lm : n ≤ mix.length) (hn : n < 100) (hty : ∀ d ∈ goods, d.tyN ≠ "?") (HG : g_heardN ask goods () ())
    (H : ∀ (j : Nat) (g b p : Q.D) (args : List Q.D), goods[j]? = some g → bads[j]? = some b → places[j]? = some p → args.length = n → (∀ i, i < j → args[i]? = goods[i]?) → args[j]? = some b → g_heard ask args (bif isiD ["tuple"] g then "BadLot" else "BadNumber") p) :
    g__law_first_told ask goods bads places mix ∧ p__law_first_told ask goods bads places mix = true := by
  have F := forC_all (κ' := Unit) (g := gb__law_first_told_2 goods bads mix ask places) (f := b__law_first_told_2 goods bads mix ask places) (s := ()) (rangeY 0 (goods.length : Int)) fun a ha => by
    have ha := mem_rangeY.mp ha
    obtain ⟨j, rfl⟩ : ∃ j : Nat, a = (j : Int) := ⟨a.toNat, by omega⟩
    have hj : j < n := by omega
    have eg : goods[j]? = some goods[j] := List.getElem?_eq_getElem (by omega)
    have eb : bads[j]? = some bads[j] := List.getElem?_eq_getElem (by omega)
    have ep : places[j]? = some places[j] := List.getElem?_eq_getElem (by omega)
    have L := fold_range (g := gb__law_first_told_1 mix bads) (f := b__law_first_told_1 mix bads) (fun _ (s : List Q.D) => s.length = n ∧ (∀ i, i < j → s[i]? = goods[i]?) ∧ s[j]? = some bads[j]) (lo := (j : Int) + 1) (hi := (goods.length : Int)) (n := n - (j + 1)) (by omega) (s := goods.set j bads[j]) ⟨by rw [List.length_set]; exact lg, fun i hi => by rw [List.getElem?_set_ne (by omega)], by rw [List.getElem?_set_self (by omega)]⟩ fun i s hi e => by
      obtain ⟨e1, e2, e3⟩ := e
      have k : (j : Int) + 1 + (i : Int) = ((j + 1 + i : Nat) : Int) := by omega
      unfold gb__law_first_told_1 b__law_first_told_1
      rw [k]
      refine ⟨⟨okIx_nat (by omega), fun _ => ⟨okIx_nat (by omega), okIx_nat (by omega)⟩, fun _ => trivial⟩, ?_⟩
      cases decide ((0 : Int) < ixY mix ((j + 1 + i : Nat) : Int)) with
      | false => exact ⟨e1, e2, e3⟩
      | true =>
        rw [cond_true, setY_nat (by omega)]
        exact ⟨by rw [List.length_set]; exact e1, fun q hq => by rw [List.getElem?_set_ne (by omega)]; exact e2 q hq, by rw [List.getElem?_set_ne (by omega)]; exact e3⟩
    have h := H j goods[j] bads[j] places[j] _ eg eb ep L.2.1 L.2.2.1 L.2.2.2
    unfold gb__law_first_told_2 b__law_first_told_2
    simp only [letY]
    rw [ixY_nat eb, ixY_nat eg, ixY_nat ep, setY_nat (by omega)]
    refine ⟨⟨⟨okIx_nat (by omega), okIx_nat (by omega)⟩, ⟨⟨okRn (by omega), okRn (by omega)⟩, L.1⟩, ⟨⟨okIx_nat (by omega), hty _ (List.getElem_mem _)⟩, fun _ => trivial, fun _ => trivial⟩, ⟨okIx_nat (by omega), h⟩, fun _ => trivial, fun _ => trivial⟩, rfl⟩
  unfold g__law_first_told p__law_first_told
  rw [F.2]
  exact ⟨⟨HG, fun _ => trivial, fun _ => ⟨⟨okRn (by omega), F.1⟩, trivial⟩⟩, rfl⟩
/-! the errors heard -/
theorem seq_nx {a b : SM} {ρ ρ1 : Q.Env} (h : a ρ = .nx ρ1) : mSeq a b ρ = b ρ1 := by unfold mSeq; rw [h]
theorem fun_rt {lent : List Nat} {n : Nat} {b : SM} {ts : List Q.T} {t : Q.T} {ρ : Q.Env} {ls : List Q.T} (h : b (env0 n ts) = .rt t ρ) (hp : Q.pick lent ρ = some ls) : mkF lent n b ts = .ok t ls := by unfold mkF; rw [h]; simp only [SRes.toF, hp]
theorem try_exc {tb : Tab} {b : SM} {hs : List Hd} {ρ ρ1 : Q.Env} {c f : Str} {d : Q.D} {p : Str × List Str} (hb : b ρ = .exc c f d ρ1) (ht : tb.find? (fun p => decide (p.1 = c)) = some p) : mTry tb b hs ρ = mHs p.2 hs c f d ρ1 := by
  unfold mTry
  rw [hb]
  simp only [ht]
theorem tab_N : tab.find? (fun p => decide (p.1 = ("BadNumber" : Str))) = some (("BadNumber" : Str), (["BadNumber", "DisguiseError"] : List Str)) := by kernel_rfl
theorem tab_L : tab.find? (fun p => decide (p.1 = ("BadLot" : Str))) = some (("BadLot" : Str), (["BadLot", "DisguiseError"] : List Str)) := by kernel_rfl
theorem tab_C : tab.find? (fun p => decide (p.1 = ("BadCase" : Str))) = some (("BadCase" : Str), (["BadCase", "DisguiseError"] : List Str)) := by kernel_rfl
theorem eqS (x : Str) : fEq (.str x) (.str x) = some (.bl true) := by simp [fEq, eqD, D.toV?, scal]
theorem heard_end {ask args d : Q.D} {c s : Str} (hr : fReprX [d] = some (.str s)) : mRet (mAndV (mS2 fEq (mV 4) (mV 2)) (mS2 fEq (mSn fReprX [(mV 5)]) (mSn fReprX [(mV 3)]))) [some (.leaf ask), some (.leaf args), some (.leaf (.str c)), some (.leaf d), some (.leaf (.str c)), some (.leaf d), none] = .rt (.leaf (.bl true)) [some (.leaf ask), some (.leaf args), some (.leaf (.str c)), some (.leaf d), some (.leaf (.str c)), some (.leaf d), none] := by
  simp [mRet, mAndV, mTest, asB, mS2, mV, mSn, mArgs, Res.bind, Res.toS, T.toD, hr, eqS]
theorem heard_exc {ask args d : Q.D} {c s : Str} (hc : c = "BadNumber" ∨ c = "BadLot" ∨ c = "BadCase") (h : f__law_call [.leaf ask, .leaf args] = .exc c "at" d []) (hr : fReprX [d] = some (.str s)) : f__law_is_heard [.leaf ask, .leaf args, .leaf (.str c), .leaf d] = .ok (.leaf (.bl true)) [] := by
  have hb : mDrop (mCall f__law_call [(.val (mV 0)), (.val (mV 1))]) [some (.leaf ask), some (.leaf args), some (.leaf (.str c)), some (.leaf d), some (.leaf (.str "none")), some (.leaf .non), none] = .exc c "at" d [some (.leaf ask), some (.leaf args), some (.leaf (.str c)), some (.leaf d), some (.leaf (.str "none")), some (.leaf .non), none] := by
    simp [mDrop, mCall, AM.toM, mArgs, mV, Res.bind, Res.toS, lendSlots, freeS, putBack, h]
  refine fun_rt (b := m__law_is_heard) (ρ := [some (.leaf ask), some (.leaf args), some (.leaf (.str c)), some (.leaf d), some (.leaf (.str c)), some (.leaf d), none]) ?_ rfl
  refine Eq.trans (seq_nx (ρ1 := [some (.leaf ask), some (.leaf args), some (.leaf (.str c)), some (.leaf d), some (.leaf (.str "none")), some (.leaf .non), none]) (by rfl)) ?_
  refine Eq.trans (seq_nx (ρ1 := [some (.leaf ask), some (.leaf args), some (.leaf (.str c)), some (.leaf d), some (.leaf (.str c)), some (.leaf d), none]) ?_) (heard_end hr)
  rcases hc with e | e | e <;> subst e
  · exact Eq.trans (try_exc hb tab_N) (by rfl)
  · exact Eq.trans (try_exc hb tab_L) (by rfl)
  · exact Eq.trans (try_exc hb tab_C) (by rfl)
theorem try_ok {tb : Tab} {b : SM} {hs : List Hd} {ρ ρ1 : Q.Env} (hb : b ρ = .nx ρ1) : mTry tb b hs ρ = .nx ρ1 := by
  unfold mTry
  rw [hb]
theorem heard_ok {ask args : Q.D} {t : Q.T} (h : f__law_call [.leaf ask, .leaf args] = .ok t []) : f__law_is_heard [.leaf ask, .leaf args, .leaf (.str "none"), .leaf .non] = .ok (.leaf (.bl true)) [] := by
  have hb : mDrop (mCall f__law_call [(.val (mV 0)), (.val (mV 1))]) [some (.leaf ask), some (.leaf args), some (.leaf (.str "none")), some (.leaf .non), some (.leaf (.str "none")), some (.leaf .non), none] = .nx [some (.leaf ask), some (.leaf args), some (.leaf (.str "none")), some (.leaf .non), some (.leaf (.str "none")), some (.leaf .non), none] := by
    simp [mDrop, mCall, AM.toM, mArgs, mV, Res.bind, Res.toS, lendSlots, freeS, putBack, h]
  refine fun_rt (b := m__law_is_heard) (ρ := [some (.leaf ask), some (.leaf args), some (.leaf (.str "none")), some (.leaf .non), some (.leaf (.str "none")), some (.leaf .non), none]) ?_ rfl
  refine Eq.trans (seq_nx (ρ1 := [some (.leaf ask), some (.leaf args), some (.leaf (.str "none")), some (.leaf .non), some (.leaf (.str "none")), some (.leaf .non), none]) (by rfl)) ?_
  exact Eq.trans (seq_nx (try_ok hb)) (heard_end (s := "None") (by rfl))
/-! calls through a name -/
theorem callL_eq {i : Nat} {tbl : List (Str × (List Q.T → FRes))} {as : List AM} {ρ : Q.Env} {y : Str} {f : List Q.T → FRes} (h : ρ[i]? = some (some (.leaf (.glo y)))) (hf : tbl.find? (fun p => decide (p.1 = y)) = some (y, f)) : mCallL i tbl as ρ = mCall f as ρ := by
  unfold mCallL
  rw [h]
  simp only [hf]
def seqOf (l : List Q.D) (s : Q.D) : Prop := s = .tup l ∨ s = .lst l
def plainR (r : FRes) : Prop := (∃ t, r = .ok t []) ∨ ∃ c g d, r = .exc c g d []
theorem ret_call {f : List Q.T → FRes} {as : List AM} {ρ : Q.Env} {ts : List Q.T} {r : FRes} (ha : mArgs (as.map AM.toM) ρ = .ok ts ρ) (hl : lendSlots as = []) (hf : f ts = r) (hr : plainR r) : (mRet (mCall f as) ρ).toF [] = r := by
  rcases hr with ⟨t, e⟩ | ⟨c, g, d, e⟩ <;> subst e <;> simp [mRet, mCall, ha, hl, Res.bind, Res.toS, freeS, putBack, hf, SRes.toF, Q.pick]
theorem seq_ret {c : M Bool} {m : M Q.T} {r : SM} {ρ : Q.Env} (hc : c ρ = .ok true ρ) : mSeq (mIf c (mRet m) mNext) r ρ = mRet m ρ := by
  simp only [mSeq, mIf, hc, Res.toS, if_true]
  unfold mRet
  cases m ρ <;> rfl
theorem seq_skip {c : M Bool} {a r : SM} {ρ : Q.Env} (hc : c ρ = .ok false ρ) : mSeq (mIf c a mNext) r ρ = r ρ := by
  simp only [mSeq, mIf, hc, Res.toS, mNext]
  rfl
theorem ret_L {i : Nat} {tbl : List (Str × (List Q.T → FRes))} {as : List AM} {ρ : Q.Env} {y : Str} {f : List Q.T → FRes} (h : ρ[i]? = some (some (.leaf (.glo y)))) (hf : tbl.find? (fun p => decide (p.1 = y)) = some (y, f)) : mRet (mCallL i tbl as) ρ = mRet (mCall f as) ρ := by
  unfold mRet
  rw [callL_eq h hf]
abbrev tb1 : List (Str × (List Q.T → FRes)) := [("turning_number", f_turning_number)]
abbrev tb2 : List (Str × (List Q.T → FRes)) := [("choose", f_choose), ("lookalike_number", f_lookalike_number), ("symmetric", f_symmetric), ("turning_by", f_turning_by)]
abbrev tb3 : List (Str × (List Q.T → FRes)) := [("doubling_number", f_doubling_number), ("noise_number", f_noise_number), ("scattered_number", f_scattered_number)]
abbrev tb4 : List (Str × (List Q.T → FRes)) := [("mixed_ways", f_mixed_ways)]
theorem law_call1 {x : Str} {f : List Q.T → FRes} {a seq : Q.D} {r : FRes} (hs : seqOf [a] seq) (hx : tb1.find? (fun p => decide (p.1 = x)) = some (x, f)) (hf : f [.leaf a] = r) (hr : plainR r) : f__law_call [.leaf (.glo x), .leaf seq] = r := by
  rcases hs with e | e <;> subst e
  · refine Eq.trans (congrArg (SRes.toF []) ((seq_ret (by rfl)).trans (ret_L rfl hx))) (ret_call (ts := [.leaf a]) (by rfl) rfl hf hr)
  · refine Eq.trans (congrArg (SRes.toF []) ((seq_ret (by rfl)).trans (ret_L rfl hx))) (ret_call (ts := [.leaf a]) (by rfl) rfl hf hr)
theorem law_call2 {x : Str} {f : List Q.T → FRes} {a b seq : Q.D} {r : FRes} (hs : seqOf [a, b] seq) (hx : tb2.find? (fun p => decide (p.1 = x)) = some (x, f)) (hf : f [.leaf a, .leaf b] = r) (hr : plainR r) : f__law_call [.leaf (.glo x), .leaf seq] = r := by
  rcases hs with e | e <;> subst e
  · refine Eq.trans (congrArg (SRes.toF []) ((seq_skip (by rfl)).trans ((seq_ret (by rfl)).trans (ret_L rfl hx)))) (ret_call (ts := [.leaf a, .leaf b]) (by rfl) rfl hf hr)
  · refine Eq.trans (congrArg (SRes.toF []) ((seq_skip (by rfl)).trans ((seq_ret (by rfl)).trans (ret_L rfl hx)))) (ret_call (ts := [.leaf a, .leaf b]) (by rfl) rfl hf hr)
theorem law_call3 {x : Str} {f : List Q.T → FRes} {a b c seq : Q.D} {r : FRes} (hs : seqOf [a, b, c] seq) (hx : tb3.find? (fun p => decide (p.1 = x)) = some (x, f)) (hf : f [.leaf a, .leaf b, .leaf c] = r) (hr : plainR r) : f__law_call [.leaf (.glo x), .leaf seq] = r := by
  rcases hs with e | e <;> subst e
  · refine Eq.trans (congrArg (SRes.toF []) ((seq_skip (by rfl)).trans ((seq_skip (by rfl)).trans ((seq_ret (by rfl)).trans (ret_L rfl hx))))) (ret_call (ts := [.leaf a, .leaf b, .leaf c]) (by rfl) rfl hf hr)
  · refine Eq.trans (congrArg (SRes.toF []) ((seq_skip (by rfl)).trans ((seq_skip (by rfl)).trans ((seq_ret (by rfl)).trans (ret_L rfl hx))))) (ret_call (ts := [.leaf a, .leaf b, .leaf c]) (by rfl) rfl hf hr)
theorem law_call4 {x : Str} {f : List Q.T → FRes} {a b c d seq : Q.D} {r : FRes} (hs : seqOf [a, b, c, d] seq) (hx : tb4.find? (fun p => decide (p.1 = x)) = some (x, f)) (hf : f [.leaf a, .leaf b, .leaf c, .leaf d] = r) (hr : plainR r) : f__law_call [.leaf (.glo x), .leaf seq] = r := by
  rcases hs with e | e <;> subst e
  · refine Eq.trans (congrArg (SRes.toF []) ((seq_skip (by rfl)).trans ((seq_skip (by rfl)).trans ((seq_skip (by rfl)).trans (ret_L rfl hx))))) (ret_call (ts := [.leaf a, .leaf b, .leaf c, .leaf d]) (by rfl) rfl hf hr)
  · refine Eq.trans (congrArg (SRes.toF []) ((seq_skip (by rfl)).trans ((seq_skip (by rfl)).trans ((seq_skip (by rfl)).trans (ret_L rfl hx))))) (ret_call (ts := [.leaf a, .leaf b, .leaf c, .leaf d]) (by rfl) rfl hf hr)
/-! the wrong values -/
def bads (L : Int) : List (Q.D × Q.D) := [(.int (-1), .int (-1)), (.non, .non), (.bl true, .bl true), (.str "3", .str "3"), (.tup [.int 2], .tup [.int 2]), (.lst [.int 4, .lst [.int 5]], .tup [.int 4, .tup [.int 5]]), (.bl false, .bl false), (.int (L - 1), .int (L - 1))]
theorem chk0 {p : Q.D × Q.D} (h : p ∈ bads 0) : f_check_number [.leaf p.1, .leaf (.int 0)] = .exc "BadNumber" "at" p.2 [] := by
  simp only [bads, List.mem_cons, List.not_mem_nil, or_false] at h
  rcases h with e | e | e | e | e | e | e | e <;> rw [e] <;> kernel_rfl
theorem chk1 {p : Q.D × Q.D} (h : p ∈ bads 1) : f_check_number [.leaf p.1, .leaf (.int 1)] = .exc "BadNumber" "at" p.2 [] := by
  simp only [bads, List.mem_cons, List.not_mem_nil, or_false] at h
  rcases h with e | e | e | e | e | e | e | e <;> rw [e] <;> kernel_rfl
def isStrO : Option Q.D → Bool
  | some (.str _) => true
  | _ => false
theorem isStrO_ok {o : Option Q.D} (h : isStrO o = true) : ∃ s, o = some (.str s) := by
  unfold isStrO at h
  split at h
  · exact ⟨_, rfl⟩
  · cases h
theorem rep0 {L : Int} {p : Q.D × Q.D} (hL : L = 0 ∨ L = 1) (h : p ∈ bads L) : ∃ s, fReprX [p.2] = some (.str s) := by
  refine isStrO_ok ?_
  rcases hL with e | e <;> subst e <;> simp only [bads, List.mem_cons, List.not_mem_nil, or_false] at h <;> rcases h with e | e | e | e | e | e | e | e <;> rw [e] <;> kernel_rfl
def spoil (j : Nat) (x : Q.D) : Q.D := .lst (([.int 3, .int 0, .int 0, .int 7] : List Q.D).take j ++ [x, .int 2, .int (-5)])
def lots (j : Nat) (x : Q.D) : List (Q.D × Q.D) := [(spoil j x, .int (j : Nat)), (.non, .int (-1)), (.int 7, .int (-1)), (.str "12", .int (-1))]
theorem cnt {j : Nat} {x p : Q.D × Q.D} (hj : j < 4) (hx : x ∈ bads 0) (h : p ∈ lots j x.1) : f_check_counts [.leaf p.1] = .exc "BadLot" "at" p.2 [] := by
  simp only [lots, List.mem_cons, List.not_mem_nil, or_false] at h
  rcases h with e | e | e | e
  · rw [e]
    have : j = 0 ∨ j = 1 ∨ j = 2 ∨ j = 3 := by omega
    simp only [bads, List.mem_cons, List.not_mem_nil, or_false] at hx
    rcases this with e | e | e | e <;> subst e <;> rcases hx with e | e | e | e | e | e | e | e <;> rw [e] <;> kernel_rfl
  · rw [e]; kernel_rfl
  · rw [e]; kernel_rfl
  · rw [e]; kernel_rfl
end Law

set_option maxHeartbeats 4000000
set_option exponentiation.threshold 200000
namespace Law
open PySem L2 Q Y
theorem ck50 : f_check_number [.leaf (.int 5), .leaf (.int 0)] = .ok (.leaf (.int 5)) [] := by kernel_rfl
theorem ck30 : f_check_number [.leaf (.int 3), .leaf (.int 0)] = .ok (.leaf (.int 3)) [] := by kernel_rfl
theorem ck20 : f_check_number [.leaf (.int 2), .leaf (.int 0)] = .ok (.leaf (.int 2)) [] := by kernel_rfl
theorem ck10 : f_check_number [.leaf (.int 1), .leaf (.int 0)] = .ok (.leaf (.int 1)) [] := by kernel_rfl
theorem ck00 : f_check_number [.leaf (.int 0), .leaf (.int 0)] = .ok (.leaf (.int 0)) [] := by kernel_rfl
theorem ck31 : f_check_number [.leaf (.int 3), .leaf (.int 1)] = .ok (.leaf (.int 3)) [] := by kernel_rfl
theorem cc12 : f_check_counts [.leaf (.tup [.int 1, .int 2])] = .ok (.leaf (.tup [.int 1, .int 2])) [] := by kernel_rfl
theorem cc11 : f_check_counts [.leaf (.tup [.int 1, .int 1])] = .ok (.leaf (.tup [.int 1, .int 1])) [] := by kernel_rfl
theorem cc02 : f_check_counts [.leaf (.tup [.int 0, .int 2])] = .ok (.leaf (.tup [.int 0, .int 2])) [] := by kernel_rfl
theorem cm {p : Q.D × Q.D} (h : p ∈ bads 0) : f_check_most [.leaf p.1] = .exc "BadNumber" "at" p.2 [] := by
  simp only [bads, List.mem_cons, List.not_mem_nil, or_false] at h
  rcases h with e | e | e | e | e | e | e | e <;> rw [e] <;> kernel_rfl
section
variable {x y z w p q : Q.D} {c g : Str}
theorem choose_1 (h : f_check_number [.leaf x, .leaf (.int 0)] = .exc c g p []) : f_choose [.leaf x, .leaf y] = .exc c g p [] := by
  simp [f_choose, m_choose, h, mkF, env0, mSeq, mSet, mSetO, mIxPk, mC, Res.bind, Res.toS, T.toD, T.toDs, nodeIx, atI, putS, mSetIx, mD2, mV, fAdd, mIf, mTest, asB, mS2, mSn, mArgs, fLen, lenD, fGe, fGt, fLe, fLt, leD, ltD, mRet, mNext, SRes.toF, Q.pick, fIx, fMod, fSub,  fEq, fNe, eqD, D.toV?, scal, mDrop, mNot, mAnd, mOr, mAndV, mOrV, mNotV, mIsi, isiB, D.tyN, mCall, freeS, lendSlots, putBack, AM.toM, fInt, mAug, mRaise, mTup, Nat.le_refl, mShare, mMove, wipeE]
theorem choose_2 (h : f_check_number [.leaf y, .leaf (.int 0)] = .exc c g p []) : f_choose [.leaf (.int 5), .leaf y] = .exc c g p [] := by
  simp [f_choose, m_choose, ck50, h, mkF, env0, mSeq, mSet, mSetO, mIxPk, mC, Res.bind, Res.toS, T.toD, T.toDs, nodeIx, atI, putS, mSetIx, mD2, mV, fAdd, mIf, mTest, asB, mS2, mSn, mArgs, fLen, lenD, fGe, fGt, fLe, fLt, leD, ltD, mRet, mNext, SRes.toF, Q.pick, fIx, fMod, fSub,  fEq, fNe, eqD, D.toV?, scal, mDrop, mNot, mAnd, mOr, mAndV, mOrV, mNotV, mIsi, isiB, D.tyN, mCall, freeS, lendSlots, putBack, AM.toM, fInt, mAug, mRaise, mTup, Nat.le_refl, mShare, mMove, wipeE]
theorem sym_1 (h : f_check_counts [.leaf x] = .exc c g p []) : f_symmetric [.leaf x, .leaf y] = .exc c g p [] := by
  simp [f_symmetric, m_symmetric, h, mkF, env0, mSeq, mSet, mSetO, mIxPk, mC, Res.bind, Res.toS, T.toD, T.toDs, nodeIx, atI, putS, mSetIx, mD2, mV, fAdd, mIf, mTest, asB, mS2, mSn, mArgs, fLen, lenD, fGe, fGt, fLe, fLt, leD, ltD, mRet, mNext, SRes.toF, Q.pick, fIx, fMod, fSub,  fEq, fNe, eqD, D.toV?, scal, mDrop, mNot, mAnd, mOr, mAndV, mOrV, mNotV, mIsi, isiB, D.tyN, mCall, freeS, lendSlots, putBack, AM.toM, fInt, mAug, mRaise, mTup, Nat.le_refl, mShare, mMove, wipeE]
theorem sym_2 (h : f_check_number [.leaf y, .leaf (.int 0)] = .exc c g p []) : f_symmetric [.leaf (.tup [.int 1, .int 2]), .leaf y] = .exc c g p [] := by
  simp [f_symmetric, m_symmetric, cc12, h, mkF, env0, mSeq, mSet, mSetO, mIxPk, mC, Res.bind, Res.toS, T.toD, T.toDs, nodeIx, atI, putS, mSetIx, mD2, mV, fAdd, mIf, mTest, asB, mS2, mSn, mArgs, fLen, lenD, fGe, fGt, fLe, fLt, leD, ltD, mRet, mNext, SRes.toF, Q.pick, fIx, fMod, fSub,  fEq, fNe, eqD, D.toV?, scal, mDrop, mNot, mAnd, mOr, mAndV, mOrV, mNotV, mIsi, isiB, D.tyN, mCall, freeS, lendSlots, putBack, AM.toM, fInt, mAug, mRaise, mTup, Nat.le_refl, mShare, mMove, wipeE]
theorem mix_1 (h : f_check_counts [.leaf x] = .exc c g p []) : f_mixed_ways [.leaf x, .leaf y, .leaf z, .leaf w] = .exc c g p [] := by
  simp [f_mixed_ways, m_mixed_ways, h, mkF, env0, mSeq, mSet, mSetO, mIxPk, mC, Res.bind, Res.toS, T.toD, T.toDs, nodeIx, atI, putS, mSetIx, mD2, mV, fAdd, mIf, mTest, asB, mS2, mSn, mArgs, fLen, lenD, fGe, fGt, fLe, fLt, leD, ltD, mRet, mNext, SRes.toF, Q.pick, fIx, fMod, fSub,  fEq, fNe, eqD, D.toV?, scal, mDrop, mNot, mAnd, mOr, mAndV, mOrV, mNotV, mIsi, isiB, D.tyN, mCall, freeS, lendSlots, putBack, AM.toM, fInt, mAug, mRaise, mTup, Nat.le_refl, mShare, mMove, wipeE]
theorem mix_2 (h : f_check_number [.leaf y, .leaf (.int 0)] = .exc c g p []) : f_mixed_ways [.leaf (.tup [.int 1, .int 1]), .leaf y, .leaf z, .leaf w] = .exc c g p [] := by
  simp [f_mixed_ways, m_mixed_ways, cc11, h, mkF, env0, mSeq, mSet, mSetO, mIxPk, mC, Res.bind, Res.toS, T.toD, T.toDs, nodeIx, atI, putS, mSetIx, mD2, mV, fAdd, mIf, mTest, asB, mS2, mSn, mArgs, fLen, lenD, fGe, fGt, fLe, fLt, leD, ltD, mRet, mNext, SRes.toF, Q.pick, fIx, fMod, fSub,  fEq, fNe, eqD, D.toV?, scal, mDrop, mNot, mAnd, mOr, mAndV, mOrV, mNotV, mIsi, isiB, D.tyN, mCall, freeS, lendSlots, putBack, AM.toM, fInt, mAug, mRaise, mTup, Nat.le_refl, mShare, mMove, wipeE]
theorem mix_3 (h : f_check_number [.leaf z, .leaf (.int 0)] = .exc c g p []) : f_mixed_ways [.leaf (.tup [.int 1, .int 1]), .leaf (.int 1), .leaf z, .leaf w] = .exc c g p [] := by
  simp [f_mixed_ways, m_mixed_ways, cc11, ck10, h, mkF, env0, mSeq, mSet, mSetO, mIxPk, mC, Res.bind, Res.toS, T.toD, T.toDs, nodeIx, atI, putS, mSetIx, mD2, mV, fAdd, mIf, mTest, asB, mS2, mSn, mArgs, fLen, lenD, fGe, fGt, fLe, fLt, leD, ltD, mRet, mNext, SRes.toF, Q.pick, fIx, fMod, fSub,  fEq, fNe, eqD, D.toV?, scal, mDrop, mNot, mAnd, mOr, mAndV, mOrV, mNotV, mIsi, isiB, D.tyN, mCall, freeS, lendSlots, putBack, AM.toM, fInt, mAug, mRaise, mTup, Nat.le_refl, mShare, mMove, wipeE]
theorem mix_4 (h : f_check_number [.leaf w, .leaf (.int 0)] = .exc c g p []) : f_mixed_ways [.leaf (.tup [.int 1, .int 1]), .leaf (.int 1), .leaf (.int 1), .leaf w] = .exc c g p [] := by
  simp [f_mixed_ways, m_mixed_ways, cc11, ck10, h, mkF, env0, mSeq, mSet, mSetO, mIxPk, mC, Res.bind, Res.toS, T.toD, T.toDs, nodeIx, atI, putS, mSetIx, mD2, mV, fAdd, mIf, mTest, asB, mS2, mSn, mArgs, fLen, lenD, fGe, fGt, fLe, fLt, leD, ltD, mRet, mNext, SRes.toF, Q.pick, fIx, fMod, fSub,  fEq, fNe, eqD, D.toV?, scal, mDrop, mNot, mAnd, mOr, mAndV, mOrV, mNotV, mIsi, isiB, D.tyN, mCall, freeS, lendSlots, putBack, AM.toM, fInt, mAug, mRaise, mTup, Nat.le_refl, mShare, mMove, wipeE]
theorem look_1 (h : f_check_counts [.leaf x] = .exc c g p []) : f_lookalike_number [.leaf x, .leaf y] = .exc c g p [] := by
  simp [f_lookalike_number, m_lookalike_number, h, mkF, env0, mSeq, mSet, mSetO, mIxPk, mC, Res.bind, Res.toS, T.toD, T.toDs, nodeIx, atI, putS, mSetIx, mD2, mV, fAdd, mIf, mTest, asB, mS2, mSn, mArgs, fLen, lenD, fGe, fGt, fLe, fLt, leD, ltD, mRet, mNext, SRes.toF, Q.pick, fIx, fMod, fSub,  fEq, fNe, eqD, D.toV?, scal, mDrop, mNot, mAnd, mOr, mAndV, mOrV, mNotV, mIsi, isiB, D.tyN, mCall, freeS, lendSlots, putBack, AM.toM, fInt, mAug, mRaise, mTup, Nat.le_refl, mShare, mMove, wipeE]
theorem look_2 (h : f_check_most [.leaf y] = .exc c g p []) : f_lookalike_number [.leaf (.tup [.int 0, .int 2]), .leaf y] = .exc c g p [] := by
  simp [f_lookalike_number, m_lookalike_number, cc02, h, mkF, env0, mSeq, mSet, mSetO, mIxPk, mC, Res.bind, Res.toS, T.toD, T.toDs, nodeIx, atI, putS, mSetIx, mD2, mV, fAdd, mIf, mTest, asB, mS2, mSn, mArgs, fLen, lenD, fGe, fGt, fLe, fLt, leD, ltD, mRet, mNext, SRes.toF, Q.pick, fIx, fMod, fSub,  fEq, fNe, eqD, D.toV?, scal, mDrop, mNot, mAnd, mOr, mAndV, mOrV, mNotV, mIsi, isiB, D.tyN, mCall, freeS, lendSlots, putBack, AM.toM, fInt, mAug, mRaise, mTup, Nat.le_refl, mShare, mMove, wipeE]
theorem noise_1 (h : f_check_number [.leaf x, .leaf (.int 0)] = .exc c g p []) : f_noise_number [.leaf x, .leaf y, .leaf z] = .exc c g p [] := by
  simp [f_noise_number, m_noise_number, h, mkF, env0, mSeq, mSet, mSetO, mIxPk, mC, Res.bind, Res.toS, T.toD, T.toDs, nodeIx, atI, putS, mSetIx, mD2, mV, fAdd, mIf, mTest, asB, mS2, mSn, mArgs, fLen, lenD, fGe, fGt, fLe, fLt, leD, ltD, mRet, mNext, SRes.toF, Q.pick, fIx, fMod, fSub,  fEq, fNe, eqD, D.toV?, scal, mDrop, mNot, mAnd, mOr, mAndV, mOrV, mNotV, mIsi, isiB, D.tyN, mCall, freeS, lendSlots, putBack, AM.toM, fInt, mAug, mRaise, mTup, Nat.le_refl, mShare, mMove, wipeE]
theorem noise_2 (h : f_check_number [.leaf y, .leaf (.int 0)] = .exc c g p []) : f_noise_number [.leaf (.int 2), .leaf y, .leaf z] = .exc c g p [] := by
  simp [f_noise_number, m_noise_number, ck20, h, mkF, env0, mSeq, mSet, mSetO, mIxPk, mC, Res.bind, Res.toS, T.toD, T.toDs, nodeIx, atI, putS, mSetIx, mD2, mV, fAdd, mIf, mTest, asB, mS2, mSn, mArgs, fLen, lenD, fGe, fGt, fLe, fLt, leD, ltD, mRet, mNext, SRes.toF, Q.pick, fIx, fMod, fSub,  fEq, fNe, eqD, D.toV?, scal, mDrop, mNot, mAnd, mOr, mAndV, mOrV, mNotV, mIsi, isiB, D.tyN, mCall, freeS, lendSlots, putBack, AM.toM, fInt, mAug, mRaise, mTup, Nat.le_refl, mShare, mMove, wipeE]
theorem noise_3 (h : f_check_number [.leaf z, .leaf (.int 0)] = .exc c g p []) : f_noise_number [.leaf (.int 2), .leaf (.int 1), .leaf z] = .exc c g p [] := by
  simp [f_noise_number, m_noise_number, ck20, ck10, h, mkF, env0, mSeq, mSet, mSetO, mIxPk, mC, Res.bind, Res.toS, T.toD, T.toDs, nodeIx, atI, putS, mSetIx, mD2, mV, fAdd, mIf, mTest, asB, mS2, mSn, mArgs, fLen, lenD, fGe, fGt, fLe, fLt, leD, ltD, mRet, mNext, SRes.toF, Q.pick, fIx, fMod, fSub,  fEq, fNe, eqD, D.toV?, scal, mDrop, mNot, mAnd, mOr, mAndV, mOrV, mNotV, mIsi, isiB, D.tyN, mCall, freeS, lendSlots, putBack, AM.toM, fInt, mAug, mRaise, mTup, Nat.le_refl, mShare, mMove, wipeE]
theorem scat_1 (h : f_check_number [.leaf x, .leaf (.int 0)] = .exc c g p []) : f_scattered_number [.leaf x, .leaf y, .leaf z] = .exc c g p [] := by
  simp [f_scattered_number, m_scattered_number, h, mkF, env0, mSeq, mSet, mSetO, mIxPk, mC, Res.bind, Res.toS, T.toD, T.toDs, nodeIx, atI, putS, mSetIx, mD2, mV, fAdd, mIf, mTest, asB, mS2, mSn, mArgs, fLen, lenD, fGe, fGt, fLe, fLt, leD, ltD, mRet, mNext, SRes.toF, Q.pick, fIx, fMod, fSub,  fEq, fNe, eqD, D.toV?, scal, mDrop, mNot, mAnd, mOr, mAndV, mOrV, mNotV, mIsi, isiB, D.tyN, mCall, freeS, lendSlots, putBack, AM.toM, fInt, mAug, mRaise, mTup, Nat.le_refl, mShare, mMove, wipeE]
theorem scat_2 (h : f_check_number [.leaf y, .leaf (.int 0)] = .exc c g p []) : f_scattered_number [.leaf (.int 2), .leaf y, .leaf z] = .exc c g p [] := by
  simp [f_scattered_number, m_scattered_number, ck20, h, mkF, env0, mSeq, mSet, mSetO, mIxPk, mC, Res.bind, Res.toS, T.toD, T.toDs, nodeIx, atI, putS, mSetIx, mD2, mV, fAdd, mIf, mTest, asB, mS2, mSn, mArgs, fLen, lenD, fGe, fGt, fLe, fLt, leD, ltD, mRet, mNext, SRes.toF, Q.pick, fIx, fMod, fSub,  fEq, fNe, eqD, D.toV?, scal, mDrop, mNot, mAnd, mOr, mAndV, mOrV, mNotV, mIsi, isiB, D.tyN, mCall, freeS, lendSlots, putBack, AM.toM, fInt, mAug, mRaise, mTup, Nat.le_refl, mShare, mMove, wipeE]
theorem scat_3 (h : f_check_number [.leaf z, .leaf (.int 1)] = .exc c g p []) : f_scattered_number [.leaf (.int 2), .leaf (.int 1), .leaf z] = .exc c g p [] := by
  simp [f_scattered_number, m_scattered_number, ck20, ck10, h, mkF, env0, mSeq, mSet, mSetO, mIxPk, mC, Res.bind, Res.toS, T.toD, T.toDs, nodeIx, atI, putS, mSetIx, mD2, mV, fAdd, mIf, mTest, asB, mS2, mSn, mArgs, fLen, lenD, fGe, fGt, fLe, fLt, leD, ltD, mRet, mNext, SRes.toF, Q.pick, fIx, fMod, fSub,  fEq, fNe, eqD, D.toV?, scal, mDrop, mNot, mAnd, mOr, mAndV, mOrV, mNotV, mIsi, isiB, D.tyN, mCall, freeS, lendSlots, putBack, AM.toM, fInt, mAug, mRaise, mTup, Nat.le_refl, mShare, mMove, wipeE]
theorem doub_1 (h : f_check_number [.leaf x, .leaf (.int 1)] = .exc c g p []) : f_doubling_number [.leaf x, .leaf y, .leaf z] = .exc c g p [] := by
  simp [f_doubling_number, m_doubling_number, h, mkF, env0, mSeq, mSet, mSetO, mIxPk, mC, Res.bind, Res.toS, T.toD, T.toDs, nodeIx, atI, putS, mSetIx, mD2, mV, fAdd, mIf, mTest, asB, mS2, mSn, mArgs, fLen, lenD, fGe, fGt, fLe, fLt, leD, ltD, mRet, mNext, SRes.toF, Q.pick, fIx, fMod, fSub,  fEq, fNe, eqD, D.toV?, scal, mDrop, mNot, mAnd, mOr, mAndV, mOrV, mNotV, mIsi, isiB, D.tyN, mCall, freeS, lendSlots, putBack, AM.toM, fInt, mAug, mRaise, mTup, Nat.le_refl, mShare, mMove, wipeE]
theorem doub_2 (h : f_check_number [.leaf y, .leaf (.int 1)] = .exc c g p []) : f_doubling_number [.leaf (.int 3), .leaf y, .leaf z] = .exc c g p [] := by
  simp [f_doubling_number, m_doubling_number, ck31, h, mkF, env0, mSeq, mSet, mSetO, mIxPk, mC, Res.bind, Res.toS, T.toD, T.toDs, nodeIx, atI, putS, mSetIx, mD2, mV, fAdd, mIf, mTest, asB, mS2, mSn, mArgs, fLen, lenD, fGe, fGt, fLe, fLt, leD, ltD, mRet, mNext, SRes.toF, Q.pick, fIx, fMod, fSub,  fEq, fNe, eqD, D.toV?, scal, mDrop, mNot, mAnd, mOr, mAndV, mOrV, mNotV, mIsi, isiB, D.tyN, mCall, freeS, lendSlots, putBack, AM.toM, fInt, mAug, mRaise, mTup, Nat.le_refl, mShare, mMove, wipeE]
theorem doub_3 {a b : Int} (ha : f_check_number [.leaf (.int a), .leaf (.int 1)] = .ok (.leaf (.int a)) []) (hb : f_check_number [.leaf (.int b), .leaf (.int 1)] = .ok (.leaf (.int b)) []) (h : f_check_number [.leaf z, .leaf (.int 0)] = .exc c g p []) : f_doubling_number [.leaf (.int a), .leaf (.int b), .leaf z] = .exc c g p [] := by
  simp [f_doubling_number, m_doubling_number, ha, hb, h, mkF, env0, mSeq, mSet, mSetO, mIxPk, mC, Res.bind, Res.toS, T.toD, T.toDs, nodeIx, atI, putS, mSetIx, mD2, mV, fAdd, mIf, mTest, asB, mS2, mSn, mArgs, fLen, lenD, fGe, fGt, fLe, fLt, leD, ltD, mRet, mNext, SRes.toF, Q.pick, fIx, fMod, fSub,  fEq, fNe, eqD, D.toV?, scal, mDrop, mNot, mAnd, mOr, mAndV, mOrV, mNotV, mIsi, isiB, D.tyN, mCall, freeS, lendSlots, putBack, AM.toM, fInt, mAug, mRaise, mTup, Nat.le_refl, mShare, mMove, wipeE]
theorem tnum_1 (h : f_check_number [.leaf x, .leaf (.int 0)] = .exc c g p []) : f_turning_number [.leaf x] = .exc c g p [] := by
  simp [f_turning_number, m_turning_number, h, mkF, env0, mSeq, mSet, mSetO, mIxPk, mC, Res.bind, Res.toS, T.toD, T.toDs, nodeIx, atI, putS, mSetIx, mD2, mV, fAdd, mIf, mTest, asB, mS2, mSn, mArgs, fLen, lenD, fGe, fGt, fLe, fLt, leD, ltD, mRet, mNext, SRes.toF, Q.pick, fIx, fMod, fSub,  fEq, fNe, eqD, D.toV?, scal, mDrop, mNot, mAnd, mOr, mAndV, mOrV, mNotV, mIsi, isiB, D.tyN, mCall, freeS, lendSlots, putBack, AM.toM, fInt, mAug, mRaise, mTup, Nat.le_refl, mShare, mMove, wipeE]
theorem tby_1 (h : f_check_number [.leaf x, .leaf (.int 0)] = .exc c g p []) : f_turning_by [.leaf x, .leaf y] = .exc c g p [] := by
  simp [f_turning_by, m_turning_by, h, mkF, env0, mSeq, mSet, mSetO, mIxPk, mC, Res.bind, Res.toS, T.toD, T.toDs, nodeIx, atI, putS, mSetIx, mD2, mV, fAdd, mIf, mTest, asB, mS2, mSn, mArgs, fLen, lenD, fGe, fGt, fLe, fLt, leD, ltD, mRet, mNext, SRes.toF, Q.pick, fIx, fMod, fSub,  fEq, fNe, eqD, D.toV?, scal, mDrop, mNot, mAnd, mOr, mAndV, mOrV, mNotV, mIsi, isiB, D.tyN, mCall, freeS, lendSlots, putBack, AM.toM, fInt, mAug, mRaise, mTup, Nat.le_refl, mShare, mMove, wipeE]
theorem tby_2 (h : f_check_number [.leaf y, .leaf (.int 0)] = .exc c g p []) : f_turning_by [.leaf (.int 3), .leaf y] = .exc c g p [] := by
  simp [f_turning_by, m_turning_by, ck30, h, mkF, env0, mSeq, mSet, mSetO, mIxPk, mC, Res.bind, Res.toS, T.toD, T.toDs, nodeIx, atI, putS, mSetIx, mD2, mV, fAdd, mIf, mTest, asB, mS2, mSn, mArgs, fLen, lenD, fGe, fGt, fLe, fLt, leD, ltD, mRet, mNext, SRes.toF, Q.pick, fIx, fMod, fSub,  fEq, fNe, eqD, D.toV?, scal, mDrop, mNot, mAnd, mOr, mAndV, mOrV, mNotV, mIsi, isiB, D.tyN, mCall, freeS, lendSlots, putBack, AM.toM, fInt, mAug, mRaise, mTup, Nat.le_refl, mShare, mMove, wipeE]
end
/-! the tellings: arity by arity -/
theorem two_lst {α : Type} {l : List α} (h : l.length = 2) : ∃ a b, l = [a, b] := by
  match l, h with
  | [a, b], _ => exact ⟨a, b, rfl⟩
theorem three_lst {α : Type} {l : List α} (h : l.length = 3) : ∃ a b c, l = [a, b, c] := by
  match l, h with
  | [a, b, c], _ => exact ⟨a, b, c, rfl⟩
theorem four_lst {α : Type} {l : List α} (h : l.length = 4) : ∃ a b c d, l = [a, b, c, d] := by
  match l, h with
  | [a, b, c, d], _ => exact ⟨a, b, c, d, rfl⟩
theorem one_lst {α : Type} {l : List α} (h : l.length = 1) : ∃ a, l = [a] := by
  match l, h with
  | [a], _ => exact ⟨a, rfl⟩
def wd1 (g : Q.D) : Str := bif isiD ["tuple"] g then "BadLot" else "BadNumber"
/-- what a bad argument must bring -/
def Hears (x : Str) (args : List Q.D) (g p : Q.D) : Prop := (∃ s, fReprX [p] = some (.str s)) ∧ f__law_call [.leaf (.glo x), .leaf (.lst args)] = .exc (wd1 g) "at" p []
theorem map_eD (l : List Q.D) : l.map eD = l := by
  induction l with
  | nil => rfl
  | cons a r ih => rw [List.map_cons, ih]; rfl
theorem Hears.heard {x : Str} {args : List Q.D} {g p : Q.D} (h : Hears x args g p) : g_heard (.glo x) args (wd1 g) p := by
  obtain ⟨⟨s, hs⟩, hc⟩ := h
  have e : eL eD args = .lst args := by unfold eL; rw [map_eD]
  unfold g_heard
  rw [e]
  refine heard_exc ?_ hc hs
  unfold wd1
  cases isiD ["tuple"] g
  · exact .inl rfl
  · exact .inr (.inl rfl)
theorem goodN {x : Str} {goods : List Q.D} {t : Q.T} (h : f__law_call [.leaf (.glo x), .leaf (.tup goods)] = .ok t []) : g_heardN (.glo x) goods () () := by
  have e : eU eD goods = .tup goods := by unfold eU; rw [map_eD]
  unfold g_heardN
  rw [e]
  exact heard_ok h
theorem told2 {x : Str} {g0 g1 b0 b1 p0 p1 : Q.D} {mix : List Int} {t : Q.T} (lm : 4 ≤ mix.length) (hty : g0.tyN ≠ "?" ∧ g1.tyN ≠ "?") (HG : f__law_call [.leaf (.glo x), .leaf (.tup [g0, g1])] = .ok t []) (H0 : ∀ y, Hears x [b0, y] g0 p0) (H1 : Hears x [g0, b1] g1 p1) :
    g__law_first_told (.glo x) [g0, g1] [b0, b1] [p0, p1] mix ∧ p__law_first_told (.glo x) [g0, g1] [b0, b1] [p0, p1] mix = true := by
  refine first_true _ _ _ _ mix 2 rfl rfl rfl (by omega) (by decide) (fun d hd => ?_) (goodN HG) fun j g b p args eg eb ep hl hi hj => ?_
  · simp only [List.mem_cons, List.not_mem_nil, or_false] at hd
    rcases hd with e | e <;> rw [e]
    · exact hty.1
    · exact hty.2
  · obtain ⟨a, a', rfl⟩ := two_lst hl
    match j with
    | 0 => cases eg; cases eb; cases ep; cases hj; exact (H0 a').heard
    | 1 =>
      cases eg; cases eb; cases ep; cases hj
      have := hi 0 (by decide)
      cases this
      exact H1.heard
    | j + 2 => cases eg
theorem told1 {x : Str} {g0 b0 p0 : Q.D} {mix : List Int} {t : Q.T} (lm : 4 ≤ mix.length) (hty : g0.tyN ≠ "?") (HG : f__law_call [.leaf (.glo x), .leaf (.tup [g0])] = .ok t []) (H0 : Hears x [b0] g0 p0) :
    g__law_first_told (.glo x) [g0] [b0] [p0] mix ∧ p__law_first_told (.glo x) [g0] [b0] [p0] mix = true := by
  refine first_true _ _ _ _ mix 1 rfl rfl rfl (by omega) (by decide) (fun d hd => ?_) (goodN HG) fun j g b p args eg eb ep hl hi hj => ?_
  · simp only [List.mem_cons, List.not_mem_nil, or_false] at hd
    rw [hd]; exact hty
  · obtain ⟨a, rfl⟩ := one_lst hl
    match j with
    | 0 => cases eg; cases eb; cases ep; cases hj; exact H0.heard
    | j + 1 => cases eg
theorem told3 {x : Str} {g0 g1 g2 b0 b1 b2 p0 p1 p2 : Q.D} {mix : List Int} {t : Q.T} (lm : 4 ≤ mix.length) (hty : g0.tyN ≠ "?" ∧ g1.tyN ≠ "?" ∧ g2.tyN ≠ "?") (HG : f__law_call [.leaf (.glo x), .leaf (.tup [g0, g1, g2])] = .ok t []) (H0 : ∀ y z, Hears x [b0, y, z] g0 p0) (H1 : ∀ z, Hears x [g0, b1, z] g1 p1) (H2 : Hears x [g0, g1, b2] g2 p2) :
    g__law_first_told (.glo x) [g0, g1, g2] [b0, b1, b2] [p0, p1, p2] mix ∧ p__law_first_told (.glo x) [g0, g1, g2] [b0, b1, b2] [p0, p1, p2] mix = true := by
  refine first_true _ _ _ _ mix 3 rfl rfl rfl (by omega) (by decide) (fun d hd => ?_) (goodN HG) fun j g b p args eg eb ep hl hi hj => ?_
  · simp only [List.mem_cons, List.not_mem_nil, or_false] at hd
    rcases hd with e | e | e <;> rw [e]
    · exact hty.1
    · exact hty.2.1
    · exact hty.2.2
  · obtain ⟨a, a', a'', rfl⟩ := three_lst hl
    match j with
    | 0 => cases eg; cases eb; cases ep; cases hj; exact (H0 a' a'').heard
    | 1 =>
      cases eg; cases eb; cases ep; cases hj
      cases hi 0 (by decide)
      exact (H1 a'').heard
    | 2 =>
      cases eg; cases eb; cases ep; cases hj
      cases hi 0 (by decide)
      cases hi 1 (by decide)
      exact H2.heard
    | j + 3 => cases eg
theorem told4 {x : Str} {g0 g1 g2 g3 b0 b1 b2 b3 p0 p1 p2 p3 : Q.D} {mix : List Int} {t : Q.T} (lm : 4 ≤ mix.length) (hty : g0.tyN ≠ "?" ∧ g1.tyN ≠ "?" ∧ g2.tyN ≠ "?" ∧ g3.tyN ≠ "?") (HG : f__law_call [.leaf (.glo x), .leaf (.tup [g0, g1, g2, g3])] = .ok t []) (H0 : ∀ y z w, Hears x [b0, y, z, w] g0 p0) (H1 : ∀ z w, Hears x [g0, b1, z, w] g1 p1) (H2 : ∀ w, Hears x [g0, g1, b2, w] g2 p2) (H3 : Hears x [g0, g1, g2, b3] g3 p3) :
    g__law_first_told (.glo x) [g0, g1, g2, g3] [b0, b1, b2, b3] [p0, p1, p2, p3] mix ∧ p__law_first_told (.glo x) [g0, g1, g2, g3] [b0, b1, b2, b3] [p0, p1, p2, p3] mix = true := by
  refine first_true _ _ _ _ mix 4 rfl rfl rfl (by omega) (by decide) (fun d hd => ?_) (goodN HG) fun j g b p args eg eb ep hl hi hj => ?_
  · simp only [List.mem_cons, List.not_mem_nil, or_false] at hd
    rcases hd with e | e | e | e <;> rw [e]
    · exact hty.1
    · exact hty.2.1
    · exact hty.2.2.1
    · exact hty.2.2.2
  · obtain ⟨a, a', a'', a3, rfl⟩ := four_lst hl
    match j with
    | 0 => cases eg; cases eb; cases ep; cases hj; exact (H0 a' a'' a3).heard
    | 1 =>
      cases eg; cases eb; cases ep; cases hj
      cases hi 0 (by decide)
      exact (H1 a'' a3).heard
    | 2 =>
      cases eg; cases eb; cases ep; cases hj
      cases hi 0 (by decide)
      cases hi 1 (by decide)
      exact (H2 a3).heard
    | 3 =>
      cases eg; cases eb; cases ep; cases hj
      cases hi 0 (by decide)
      cases hi 1 (by decide)
      cases hi 2 (by decide)
      exact H3.heard
    | j + 4 => cases eg
end Law

set_option maxHeartbeats 4000000
set_option exponentiation.threshold 200000
namespace Law
open PySem L2 Q Y
theorem tyI (i : Int) : (Q.D.int i).tyN ≠ "?" := by show ("int" : String) ≠ "?"; decide
theorem tyT (l : List Q.D) : (Q.D.tup l).tyN ≠ "?" := by show ("tuple" : String) ≠ "?"; decide
theorem wI (i : Int) : wd1 (.int i) = "BadNumber" := by rfl
theorem wT (l : List Q.D) : wd1 (.tup l) = "BadLot" := by rfl
section
variable {x y z u v lo : Q.D × Q.D} {j : Nat} {mix : List Int}
theorem hearN {nm : Str} {args : List Q.D} {i L : Int} {b : Q.D × Q.D} (hL : L = 0 ∨ L = 1) (hb : b ∈ bads L) (h : f__law_call [.leaf (.glo nm), .leaf (.lst args)] = .exc "BadNumber" "at" b.2 []) : Hears nm args (.int i) b.2 := ⟨rep0 hL hb, by rw [wI]; exact h⟩
theorem repL {p : Q.D × Q.D} (hj : j < 4) (h : p ∈ lots j x.1) : ∃ s, fReprX [p.2] = some (.str s) := by
  simp only [lots, List.mem_cons, List.not_mem_nil, or_false] at h
  rcases h with e | e | e | e <;> rw [e]
  · refine ⟨(toString (j : Int) : String), ?_⟩
    show (if Nat.ble (j : Int).natAbs (2 ^ 60) = true then some (Q.D.str (toString (j : Int))) else none) = _
    rw [if_pos (Nat.ble_eq_true_of_le (by omega))]
  · exact isStrO_ok (by kernel_rfl)
  · exact isStrO_ok (by kernel_rfl)
  · exact isStrO_ok (by kernel_rfl)
theorem hearL {nm : Str} {args l : List Q.D} {b : Q.D × Q.D} (hj : j < 4) (hb : b ∈ lots j x.1) (h : f__law_call [.leaf (.glo nm), .leaf (.lst args)] = .exc "BadLot" "at" b.2 []) : Hears nm args (.tup l) b.2 := ⟨repL hj hb, by rw [wT]; exact h⟩
theorem ex {c g : Str} {d : Q.D} : plainR (.exc c g d []) := .inr ⟨c, g, d, rfl⟩
theorem t_choose (lm : 4 ≤ mix.length) (hx : x ∈ bads 0) (hy : y ∈ bads 0) : g__law_first_told (.glo "choose") [.int 5, .int 2] [x.1, y.1] [x.2, y.2] mix ∧ p__law_first_told (.glo "choose") [.int 5, .int 2] [x.1, y.1] [x.2, y.2] mix = true :=
  told2 lm ⟨tyI _, tyI _⟩ (t := .leaf (.int 10)) (by kernel_rfl)
    (fun w => hearN (.inl rfl) hx (law_call2 (.inr rfl) (by kernel_rfl) (choose_1 (chk0 hx)) ex))
    (hearN (.inl rfl) hy (law_call2 (.inr rfl) (by kernel_rfl) (choose_2 (chk0 hy)) ex))
theorem t_sym (lm : 4 ≤ mix.length) (hj : j < 4) (hx : x ∈ bads 0) (hl : lo ∈ lots j x.1) (hy : y ∈ bads 0) : g__law_first_told (.glo "symmetric") [.tup [.int 1, .int 2], .int 1] [lo.1, y.1] [lo.2, y.2] mix ∧ p__law_first_told (.glo "symmetric") [.tup [.int 1, .int 2], .int 1] [lo.1, y.1] [lo.2, y.2] mix = true :=
  told2 lm ⟨tyT _, tyI _⟩ (t := .leaf (.int 3)) (by kernel_rfl)
    (fun w => hearL hj hl (law_call2 (.inr rfl) (by kernel_rfl) (sym_1 (cnt hj hx hl)) ex))
    (hearN (.inl rfl) hy (law_call2 (.inr rfl) (by kernel_rfl) (sym_2 (chk0 hy)) ex))
theorem t_mix (lm : 4 ≤ mix.length) (hj : j < 4) (hx : x ∈ bads 0) (hl : lo ∈ lots j x.1) (hy : y ∈ bads 0) : g__law_first_told (.glo "mixed_ways") [.tup [.int 1, .int 1], .int 1, .int 1, .int 1] [lo.1, x.1, y.1, x.1] [lo.2, x.2, y.2, x.2] mix ∧ p__law_first_told (.glo "mixed_ways") [.tup [.int 1, .int 1], .int 1, .int 1, .int 1] [lo.1, x.1, y.1, x.1] [lo.2, x.2, y.2, x.2] mix = true :=
  told4 lm ⟨tyT _, tyI _, tyI _, tyI _⟩ (t := .leaf (.int 6)) (by kernel_rfl)
    (fun w w' w'' => hearL hj hl (law_call4 (.inr rfl) (by kernel_rfl) (mix_1 (cnt hj hx hl)) ex))
    (fun w w' => hearN (.inl rfl) hx (law_call4 (.inr rfl) (by kernel_rfl) (mix_2 (chk0 hx)) ex))
    (fun w => hearN (.inl rfl) hy (law_call4 (.inr rfl) (by kernel_rfl) (mix_3 (chk0 hy)) ex))
    (hearN (.inl rfl) hx (law_call4 (.inr rfl) (by kernel_rfl) (mix_4 (chk0 hx)) ex))
theorem t_look (lm : 4 ≤ mix.length) (hj : j < 4) (hx : x ∈ bads 0) (hl : lo ∈ lots j x.1) : g__law_first_told (.glo "lookalike_number") [.tup [.int 0, .int 2], .int 1] [lo.1, x.1] [lo.2, x.2] mix ∧ p__law_first_told (.glo "lookalike_number") [.tup [.int 0, .int 2], .int 1] [lo.1, x.1] [lo.2, x.2] mix = true :=
  told2 lm ⟨tyT _, tyI _⟩ (t := .leaf (.int 3)) (by kernel_rfl)
    (fun w => hearL hj hl (law_call2 (.inr rfl) (by kernel_rfl) (look_1 (cnt hj hx hl)) ex))
    (hearN (.inl rfl) hx (law_call2 (.inr rfl) (by kernel_rfl) (look_2 (cm hx)) ex))
theorem t_noise (lm : 4 ≤ mix.length) (hx : x ∈ bads 0) (hy : y ∈ bads 0) : g__law_first_told (.glo "noise_number") [.int 2, .int 1, .int 1] [x.1, y.1, x.1] [x.2, y.2, x.2] mix ∧ p__law_first_told (.glo "noise_number") [.int 2, .int 1, .int 1] [x.1, y.1, x.1] [x.2, y.2, x.2] mix = true :=
  told3 lm ⟨tyI _, tyI _, tyI _⟩ (t := .leaf (.int 3)) (by kernel_rfl)
    (fun w w' => hearN (.inl rfl) hx (law_call3 (.inr rfl) (by kernel_rfl) (noise_1 (chk0 hx)) ex))
    (fun w => hearN (.inl rfl) hy (law_call3 (.inr rfl) (by kernel_rfl) (noise_2 (chk0 hy)) ex))
    (hearN (.inl rfl) hx (law_call3 (.inr rfl) (by kernel_rfl) (noise_3 (chk0 hx)) ex))
theorem t_scat (lm : 4 ≤ mix.length) (hx : x ∈ bads 0) (hy : y ∈ bads 0) (hu : u ∈ bads 1) : g__law_first_told (.glo "scattered_number") [.int 2, .int 1, .int 1] [x.1, y.1, u.1] [x.2, y.2, u.2] mix ∧ p__law_first_told (.glo "scattered_number") [.int 2, .int 1, .int 1] [x.1, y.1, u.1] [x.2, y.2, u.2] mix = true :=
  told3 lm ⟨tyI _, tyI _, tyI _⟩ (t := .leaf (.int 1)) (by kernel_rfl)
    (fun w w' => hearN (.inl rfl) hx (law_call3 (.inr rfl) (by kernel_rfl) (scat_1 (chk0 hx)) ex))
    (fun w => hearN (.inl rfl) hy (law_call3 (.inr rfl) (by kernel_rfl) (scat_2 (chk0 hy)) ex))
    (hearN (.inr rfl) hu (law_call3 (.inr rfl) (by kernel_rfl) (scat_3 (chk1 hu)) ex))
theorem t_doub (lm : 4 ≤ mix.length) (hu : u ∈ bads 1) (hv : v ∈ bads 1) (hy : y ∈ bads 0) : g__law_first_told (.glo "doubling_number") [.int 3, .int 3, .int 0] [u.1, v.1, y.1] [u.2, v.2, y.2] mix ∧ p__law_first_told (.glo "doubling_number") [.int 3, .int 3, .int 0] [u.1, v.1, y.1] [u.2, v.2, y.2] mix = true :=
  told3 lm ⟨tyI _, tyI _, tyI _⟩ (t := .leaf (.int 1)) (by kernel_rfl)
    (fun w w' => hearN (.inr rfl) hu (law_call3 (.inr rfl) (by kernel_rfl) (doub_1 (chk1 hu)) ex))
    (fun w => hearN (.inr rfl) hv (law_call3 (.inr rfl) (by kernel_rfl) (doub_2 (chk1 hv)) ex))
    (hearN (.inl rfl) hy (law_call3 (.inr rfl) (by kernel_rfl) (doub_3 ck31 ck31 (chk0 hy)) ex))
theorem t_tnum (lm : 4 ≤ mix.length) (hx : x ∈ bads 0) : g__law_first_told (.glo "turning_number") [.int 3] [x.1] [x.2] mix ∧ p__law_first_told (.glo "turning_number") [.int 3] [x.1] [x.2] mix = true :=
  told1 lm (tyI _) (t := .leaf (.int 3)) (by kernel_rfl)
    (hearN (.inl rfl) hx (law_call1 (.inr rfl) (by kernel_rfl) (tnum_1 (chk0 hx)) ex))
theorem t_tby (lm : 4 ≤ mix.length) (hx : x ∈ bads 0) (hy : y ∈ bads 0) : g__law_first_told (.glo "turning_by") [.int 3, .int 1] [x.1, y.1] [x.2, y.2] mix ∧ p__law_first_told (.glo "turning_by") [.int 3, .int 1] [x.1, y.1] [x.2, y.2] mix = true :=
  told2 lm ⟨tyI _, tyI _⟩ (t := .leaf (.int 2)) (by kernel_rfl)
    (fun w => hearN (.inl rfl) hx (law_call2 (.inr rfl) (by kernel_rfl) (tby_1 (chk0 hx)) ex))
    (hearN (.inl rfl) hy (law_call2 (.inr rfl) (by kernel_rfl) (tby_2 (chk0 hy)) ex))
end
/-! calls heard directly -/
def p_heardT (ask : Q.D) (args : List Q.D) (due : Str) (place : Q.D) : Bool := true
def g_heardT (ask : Q.D) (args : List Q.D) (due : Str) (place : Q.D) : Prop := f__law_is_heard [.leaf (eD ask), .leaf (eU eD args), .leaf (.str due), .leaf (eD place)] = .ok (.leaf (.bl true)) []
theorem s_heardT (ask : Q.D) (args : List Q.D) (due : Str) (place : Q.D) (hg : g_heardT ask args due place) : f__law_is_heard [.leaf (eD ask), .leaf (eU eD args), .leaf (.str due), .leaf (eD place)] = .ok (.leaf (.bl (p_heardT ask args due place))) [] := hg
theorem h_all : g_heardT (.glo "lookalike_number") [.tup [.int 0, .int 2], .str "all"] "BadNumber" (.str "all") := by unfold g_heardT; kernel_rfl
theorem h_runs {j : Nat} (hj : j < 4) : g_heardT (.glo "doubling_number") [.int (2 + (j : Int)), .int (3 + (j : Int)), .int 0] "BadCase" (.str "runs") := by
  have : j = 0 ∨ j = 1 ∨ j = 2 ∨ j = 3 := by omega
  rcases this with e | e | e | e <;> subst e <;> unfold g_heardT <;> kernel_rfl
theorem h_runsN {j : Nat} {y : Q.D × Q.D} (hj : j < 4) (hy : y ∈ bads 0) : g_heardT (.glo "doubling_number") [.int (2 + (j : Int)), .int (3 + (j : Int)), y.1] "BadNumber" y.2 := by
  have : j = 0 ∨ j = 1 ∨ j = 2 ∨ j = 3 := by omega
  simp only [bads, List.mem_cons, List.not_mem_nil, or_false] at hy
  rcases this with e | e | e | e <;> subst e <;> rcases hy with e | e | e | e | e | e | e | e <;> rw [e] <;> unfold g_heardT <;> kernel_rfl
end Law

set_option maxHeartbeats 4000000
namespace Law
open PySem L2 Q Y
def p__law_wrong (purse : (Int × (List Int))) (least : Int) : ((Q.D × Q.D) × (Int × (List Int))) :=
  (letY (((-1 : Int), (-1 : Int)), ((), ()), (true, true), ((), ()), ((2 : Int), (2 : Int)), (([(D.int (4 : Int)), ((eL D.int) ([(5 : Int)] : List Int))] : List Q.D), ((4 : Int), (5 : Int))), (false, false)) fun (s2 : ((Int × Int) × (Unit × Unit) × (Bool × Bool) × (Unit × Unit) × ((Int) × (Int)) × ((List Q.D) × (Int × (Int))) × (Bool × Bool))) => ((ixY (([((D.int s2.1.1), (D.int s2.1.2)), ((eN s2.2.1.1), (eN s2.2.1.2)), ((D.bl s2.2.2.1.1), (D.bl s2.2.2.1.2)), (((eK "3") s2.2.2.2.1.1), ((eK "3") s2.2.2.2.1.2)), (((eP (pZ D.int)) s2.2.2.2.2.1.1), ((eP (pZ D.int)) s2.2.2.2.2.1.2)), (((eL eD) s2.2.2.2.2.2.1.1), ((eP (pC D.int (pZ (eP (pZ D.int))))) s2.2.2.2.2.2.1.2)), ((D.bl s2.2.2.2.2.2.2.1), (D.bl s2.2.2.2.2.2.2.2))] : List (Q.D × Q.D)) ++ ([((D.int (least - (1 : Int))), (D.int (least - (1 : Int))))] : List (Q.D × Q.D))) (p__law_pick purse (8 : Int)).1), (p__law_pick purse (8 : Int)).2))
def g__law_wrong (purse : (Int × (List Int))) (least : Int) : Prop :=
  (letY (((-1 : Int), (-1 : Int)), ((), ()), (true, true), ((), ()), ((2 : Int), (2 : Int)), (([(D.int (4 : Int)), ((eL D.int) ([(5 : Int)] : List Int))] : List Q.D), ((4 : Int), (5 : Int))), (false, false)) fun (s2 : ((Int × Int) × (Unit × Unit) × (Bool × Bool) × (Unit × Unit) × ((Int) × (Int)) × ((List Q.D) × (Int × (Int))) × (Bool × Bool))) => ((([((D.int s2.1.1), (D.int s2.1.2)), ((eN s2.2.1.1), (eN s2.2.1.2)), ((D.bl s2.2.2.1.1), (D.bl s2.2.2.1.2)), (((eK "3") s2.2.2.2.1.1), ((eK "3") s2.2.2.2.1.2)), (((eP (pZ D.int)) s2.2.2.2.2.1.1), ((eP (pZ D.int)) s2.2.2.2.2.1.2)), (((eL eD) s2.2.2.2.2.2.1.1), ((eP (pC D.int (pZ (eP (pZ D.int))))) s2.2.2.2.2.2.1.2)), ((D.bl s2.2.2.2.2.2.2.1), (D.bl s2.2.2.2.2.2.2.2))] : List (Q.D × Q.D)).length + ([((D.int (least - (1 : Int))), (D.int (least - (1 : Int))))] : List (Q.D × Q.D)).length ≤ big) ∧ (g__law_pick purse (8 : Int)) ∧ (okIx (([((D.int s2.1.1), (D.int s2.1.2)), ((eN s2.2.1.1), (eN s2.2.1.2)), ((D.bl s2.2.2.1.1), (D.bl s2.2.2.1.2)), (((eK "3") s2.2.2.2.1.1), ((eK "3") s2.2.2.2.1.2)), (((eP (pZ D.int)) s2.2.2.2.2.1.1), ((eP (pZ D.int)) s2.2.2.2.2.1.2)), (((eL eD) s2.2.2.2.2.2.1.1), ((eP (pC D.int (pZ (eP (pZ D.int))))) s2.2.2.2.2.2.1.2)), ((D.bl s2.2.2.2.2.2.2.1), (D.bl s2.2.2.2.2.2.2.2))] : List (Q.D × Q.D)) ++ ([((D.int (least - (1 : Int))), (D.int (least - (1 : Int))))] : List (Q.D × Q.D))).length (p__law_pick purse (8 : Int)).1)))
theorem s__law_wrong (purse : (Int × (List Int))) (least : Int) (hg : g__law_wrong purse least) : f__law_wrong [((oN (pC D.int (pZ (eL D.int)))) purse), (.leaf (D.int least))] = .ok (.leaf ((eP (pC eD (pZ eD))) (p__law_wrong purse least).1)) [(oN (pC D.int (pZ (eL D.int)))) (p__law_wrong purse least).2] :=
  Y.fn_of (lent := [0]) (n := 3) (ρ := ([some ((oN (pC D.int (pZ (eL D.int)))) purse), some (.leaf (D.int least)), none] : Q.Env)) (g := g__law_wrong purse least) (et := (fun b : ((Q.D × Q.D) × (Int × (List Int))) => .leaf ((eP (pC eD (pZ eD))) b.1))) (el := (fun b : ((Q.D × Q.D) × (Int × (List Int))) => [(oN (pC D.int (pZ (eL D.int)))) b.2])) (v := p__law_wrong purse least) rfl
  (t_seqN0 (s := (((-1 : Int), (-1 : Int)), ((), ()), (true, true), ((), ()), ((2 : Int), (2 : Int)), (([(D.int (4 : Int)), ((eL D.int) ([(5 : Int)] : List Int))] : List Q.D), ((4 : Int), (5 : Int))), (false, false))) (show NY _ _ True (fun (s : ((Int × Int) × (Unit × Unit) × (Bool × Bool) × (Unit × Unit) × ((Int) × (Int)) × ((List Q.D) × (Int × (Int))) × (Bool × Bool))) (d : Unit) => ([some ((oN (pC D.int (pZ (eL D.int)))) purse), some (.leaf (D.int least)), some (.leaf ((eP (pC (eP (pC D.int (pZ D.int))) (pC (eP (pC eN (pZ eN))) (pC (eP (pC D.bl (pZ D.bl))) (pC (eP (pC (eK "3") (pZ (eK "3")))) (pC (eP (pC (eP (pZ D.int)) (pZ (eP (pZ D.int))))) (pC (eP (pC (eL eD) (pZ (eP (pC D.int (pZ (eP (pZ D.int)))))))) (pZ (eP (pC D.bl (pZ D.bl))))))))))) s))] : Q.Env)) (((-1 : Int), (-1 : Int)), ((), ()), (true, true), ((), ()), ((2 : Int), (2 : Int)), (([(D.int (4 : Int)), ((eL D.int) ([(5 : Int)] : List Int))] : List Q.D), ((4 : Int), (5 : Int))), (false, false)) from (fun (h1 : True) => ⟨(), (set_eq (y_tup (ds := ((pC (eP (pC D.int (pZ D.int))) (pC (eP (pC eN (pZ eN))) (pC (eP (pC D.bl (pZ D.bl))) (pC (eP (pC (eK "3") (pZ (eK "3")))) (pC (eP (pC (eP (pZ D.int)) (pZ (eP (pZ D.int))))) (pC (eP (pC (eL eD) (pZ (eP (pC D.int (pZ (eP (pZ D.int)))))))) (pZ (eP (pC D.bl (pZ D.bl))))))))))) (((-1 : Int), (-1 : Int)), ((), ()), (true, true), ((), ()), ((2 : Int), (2 : Int)), (([(D.int (4 : Int)), ((eL D.int) ([(5 : Int)] : List Int))] : List Q.D), ((4 : Int), (5 : Int))), (false, false))) (ya_cons (y_tup (ds := ((pC D.int (pZ D.int))) ((-1 : Int), (-1 : Int))) (ya_cons (y_neg (y_c (D.int 1))) (ya_cons (y_neg (y_c (D.int 1))) ya_nil)) rfl rfl) (ya_cons (y_tup (ds := ((pC eN (pZ eN))) ((), ())) (ya_cons (y_c D.non) (ya_cons (y_c D.non) ya_nil)) rfl rfl) (ya_cons (y_tup (ds := ((pC D.bl (pZ D.bl))) (true, true)) (ya_cons (y_c (D.bl true)) (ya_cons (y_c (D.bl true)) ya_nil)) rfl rfl) (ya_cons (y_tup (ds := ((pC (eK "3") (pZ (eK "3")))) ((), ())) (ya_cons (y_c (D.str "3")) (ya_cons (y_c (D.str "3")) ya_nil)) rfl rfl) (ya_cons (y_tup (ds := ((pC (eP (pZ D.int)) (pZ (eP (pZ D.int))))) ((2 : Int), (2 : Int))) (ya_cons (y_tup (ds := ((pZ D.int)) (2 : Int)) (ya_cons (y_c (D.int 2)) ya_nil) rfl rfl) (ya_cons (y_tup (ds := ((pZ D.int)) (2 : Int)) (ya_cons (y_c (D.int 2)) ya_nil) rfl rfl) ya_nil)) rfl rfl) (ya_cons (y_tup (ds := ((pC (eL eD) (pZ (eP (pC D.int (pZ (eP (pZ D.int)))))))) (([(D.int (4 : Int)), ((eL D.int) ([(5 : Int)] : List Int))] : List Q.D), ((4 : Int), (5 : Int)))) (ya_cons (y_lst (ya_cons (y_c (D.int 4)) (ya_cons (y_fz (y_lst (ya_cons (y_c (D.int 5)) ya_nil) rfl) (oL_toD D.int ([(5 : Int)] : List Int))) ya_nil)) rfl) (ya_cons (y_tup (ds := ((pC D.int (pZ (eP (pZ D.int))))) ((4 : Int), (5 : Int))) (ya_cons (y_c (D.int 4)) (ya_cons (y_tup (ds := ((pZ D.int)) (5 : Int)) (ya_cons (y_c (D.int 5)) ya_nil) rfl rfl) ya_nil)) rfl rfl) ya_nil)) (by simp only [List.map_cons, List.map_nil, T.toD, oL_toD]; rfl) rfl) (ya_cons (y_tup (ds := ((pC D.bl (pZ D.bl))) (false, false)) (ya_cons (y_c (D.bl false)) (ya_cons (y_c (D.bl false)) ya_nil)) rfl rfl) ya_nil))))))) rfl rfl) rfl)⟩)) (fun s2 d3 => (t_ret (v := (((ixY (([((D.int s2.1.1), (D.int s2.1.2)), ((eN s2.2.1.1), (eN s2.2.1.2)), ((D.bl s2.2.2.1.1), (D.bl s2.2.2.1.2)), (((eK "3") s2.2.2.2.1.1), ((eK "3") s2.2.2.2.1.2)), (((eP (pZ D.int)) s2.2.2.2.2.1.1), ((eP (pZ D.int)) s2.2.2.2.2.1.2)), (((eL eD) s2.2.2.2.2.2.1.1), ((eP (pC D.int (pZ (eP (pZ D.int))))) s2.2.2.2.2.2.1.2)), ((D.bl s2.2.2.2.2.2.2.1), (D.bl s2.2.2.2.2.2.2.2))] : List (Q.D × Q.D)) ++ ([((D.int (least - (1 : Int))), (D.int (least - (1 : Int))))] : List (Q.D × Q.D))) (p__law_pick purse (8 : Int)).1), (p__law_pick purse (8 : Int)).2) : ((Q.D × Q.D) × (Int × (List Int))))) (g := ((([((D.int s2.1.1), (D.int s2.1.2)), ((eN s2.2.1.1), (eN s2.2.1.2)), ((D.bl s2.2.2.1.1), (D.bl s2.2.2.1.2)), (((eK "3") s2.2.2.2.1.1), ((eK "3") s2.2.2.2.1.2)), (((eP (pZ D.int)) s2.2.2.2.2.1.1), ((eP (pZ D.int)) s2.2.2.2.2.1.2)), (((eL eD) s2.2.2.2.2.2.1.1), ((eP (pC D.int (pZ (eP (pZ D.int))))) s2.2.2.2.2.2.1.2)), ((D.bl s2.2.2.2.2.2.2.1), (D.bl s2.2.2.2.2.2.2.2))] : List (Q.D × Q.D)).length + ([((D.int (least - (1 : Int))), (D.int (least - (1 : Int))))] : List (Q.D × Q.D)).length ≤ big) ∧ (g__law_pick purse (8 : Int)) ∧ (okIx (([((D.int s2.1.1), (D.int s2.1.2)), ((eN s2.2.1.1), (eN s2.2.1.2)), ((D.bl s2.2.2.1.1), (D.bl s2.2.2.1.2)), (((eK "3") s2.2.2.2.1.1), ((eK "3") s2.2.2.2.1.2)), (((eP (pZ D.int)) s2.2.2.2.2.1.1), ((eP (pZ D.int)) s2.2.2.2.2.1.2)), (((eL eD) s2.2.2.2.2.2.1.1), ((eP (pC D.int (pZ (eP (pZ D.int))))) s2.2.2.2.2.2.1.2)), ((D.bl s2.2.2.2.2.2.2.1), (D.bl s2.2.2.2.2.2.2.2))] : List (Q.D × Q.D)) ++ ([((D.int (least - (1 : Int))), (D.int (least - (1 : Int))))] : List (Q.D × Q.D))).length (p__law_pick purse (8 : Int)).1))) (fun (h4 : (([((D.int s2.1.1), (D.int s2.1.2)), ((eN s2.2.1.1), (eN s2.2.1.2)), ((D.bl s2.2.2.1.1), (D.bl s2.2.2.1.2)), (((eK "3") s2.2.2.2.1.1), ((eK "3") s2.2.2.2.1.2)), (((eP (pZ D.int)) s2.2.2.2.2.1.1), ((eP (pZ D.int)) s2.2.2.2.2.1.2)), (((eL eD) s2.2.2.2.2.2.1.1), ((eP (pC D.int (pZ (eP (pZ D.int))))) s2.2.2.2.2.2.1.2)), ((D.bl s2.2.2.2.2.2.2.1), (D.bl s2.2.2.2.2.2.2.2))] : List (Q.D × Q.D)).length + ([((D.int (least - (1 : Int))), (D.int (least - (1 : Int))))] : List (Q.D × Q.D)).length ≤ big) ∧ (g__law_pick purse (8 : Int)) ∧ (okIx (([((D.int s2.1.1), (D.int s2.1.2)), ((eN s2.2.1.1), (eN s2.2.1.2)), ((D.bl s2.2.2.1.1), (D.bl s2.2.2.1.2)), (((eK "3") s2.2.2.2.1.1), ((eK "3") s2.2.2.2.1.2)), (((eP (pZ D.int)) s2.2.2.2.2.1.1), ((eP (pZ D.int)) s2.2.2.2.2.1.2)), (((eL eD) s2.2.2.2.2.2.1.1), ((eP (pC D.int (pZ (eP (pZ D.int))))) s2.2.2.2.2.2.1.2)), ((D.bl s2.2.2.2.2.2.2.1), (D.bl s2.2.2.2.2.2.2.2))] : List (Q.D × Q.D)) ++ ([((D.int (least - (1 : Int))), (D.int (least - (1 : Int))))] : List (Q.D × Q.D))).length (p__law_pick purse (8 : Int)).1)) => (y_ixU (e := (eP (pC eD (pZ eD)))) (y_addU (id (y_v ((eP (pC (eP (pC D.int (pZ D.int))) (pC (eP (pC eN (pZ eN))) (pC (eP (pC D.bl (pZ D.bl))) (pC (eP (pC (eK "3") (pZ (eK "3")))) (pC (eP (pC (eP (pZ D.int)) (pZ (eP (pZ D.int))))) (pC (eP (pC (eL eD) (pZ (eP (pC D.int (pZ (eP (pZ D.int)))))))) (pZ (eP (pC D.bl (pZ D.bl))))))))))) s2) rfl) : _ = Res.ok (T.leaf ((eU (eP (pC eD (pZ eD)))) ([((D.int s2.1.1), (D.int s2.1.2)), ((eN s2.2.1.1), (eN s2.2.1.2)), ((D.bl s2.2.2.1.1), (D.bl s2.2.2.1.2)), (((eK "3") s2.2.2.2.1.1), ((eK "3") s2.2.2.2.1.2)), (((eP (pZ D.int)) s2.2.2.2.2.1.1), ((eP (pZ D.int)) s2.2.2.2.2.1.2)), (((eL eD) s2.2.2.2.2.2.1.1), ((eP (pC D.int (pZ (eP (pZ D.int))))) s2.2.2.2.2.2.1.2)), ((D.bl s2.2.2.2.2.2.2.1), (D.bl s2.2.2.2.2.2.2.2))] : List (Q.D × Q.D)))) _) (y_tup (ds := List.map (eP (pC eD (pZ eD))) ([((D.int (least - (1 : Int))), (D.int (least - (1 : Int))))] : List (Q.D × Q.D))) (ya_cons (y_tup (ds := ((pC eD (pZ eD))) ((D.int (least - (1 : Int))), (D.int (least - (1 : Int))))) (ya_cons (y_sub (y_v (D.int least) rfl) (y_c (D.int 1))) (ya_cons (y_sub (y_v (D.int least) rfl) (y_c (D.int 1))) ya_nil)) rfl rfl) ya_nil) rfl rfl) h4.1) (y_call (yc_lend (y_move (t := (oN (pC D.int (pZ (eL D.int)))) purse) rfl rfl) (yc_val (y_c (D.int 8)) yc_nil)) rfl (s__law_pick purse (8 : Int) h4.2.1) rfl rfl) h4.2.2)) rfl))) hg
def p__law_refusals (purse : (Int × (List Int))) (mix : (List Int)) : (Bool × (Int × (List Int))) :=
  (letY ((p__law_wrong (p__law_wrong purse (0 : Int)).2 (0 : Int)).2, (p__law_wrong purse (0 : Int)).1, (p__law_wrong (p__law_wrong purse (0 : Int)).2 (0 : Int)).1) fun (s2 : ((Int × (List Int)) × (Q.D × Q.D) × (Q.D × Q.D))) => (letY ((p__law_wrong (p__law_wrong s2.1 (1 : Int)).2 (1 : Int)).2, (p__law_wrong s2.1 (1 : Int)).1, (p__law_wrong (p__law_wrong s2.1 (1 : Int)).2 (1 : Int)).1) fun (s5 : ((Int × (List Int)) × (Q.D × Q.D) × (Q.D × Q.D))) => (letY ((p__law_pick s5.1 (4 : Int)).2, (p__law_pick s5.1 (4 : Int)).1) fun (s8 : ((Int × (List Int)) × Int)) => (letY ((List.map D.int (cutY ([(3 : Int), (0 : Int), (0 : Int), (7 : Int)] : List Int) none (some s8.2))) ++ ([s2.2.1.1, (D.int (2 : Int)), (D.int (-5 : Int))] : List Q.D)) fun (s11 : (List Q.D)) => (letY ((p__law_pick s8.1 (4 : Int)).2, (ixY ([(((eL eD) s11), s8.2), ((eN ()), (-1 : Int)), ((D.int (7 : Int)), (-1 : Int)), (((eK "12") ()), (-1 : Int))] : List (Q.D × Int)) (p__law_pick s8.1 (4 : Int)).1).1, (ixY ([(((eL eD) s11), s8.2), ((eN ()), (-1 : Int)), ((D.int (7 : Int)), (-1 : Int)), (((eK "12") ()), (-1 : Int))] : List (Q.D × Int)) (p__law_pick s8.1 (4 : Int)).1).2) fun (s14 : ((Int × (List Int)) × Q.D × Int)) => (bif (!(p__law_first_told (D.glo "choose") ([(D.int (5 : Int)), (D.int (2 : Int))] : List Q.D) ([s2.2.1.1, s2.2.2.1] : List Q.D) ([s2.2.1.2, s2.2.2.2] : List Q.D) mix)) then (false, s14.1) else (bif (!(p__law_first_told (D.glo "symmetric") ([((eP (pC D.int (pZ D.int))) ((1 : Int), (2 : Int))), (D.int (1 : Int))] : List Q.D) ([s14.2.1, s2.2.2.1] : List Q.D) ([(D.int s14.2.2), s2.2.2.2] : List Q.D) mix)) then (false, s14.1) else (letY ((s14.2.1, s2.2.1.1, s2.2.2.1, s2.2.1.1), (s14.2.2, s2.2.1.2, s2.2.2.2, s2.2.1.2)) fun (s21 : ((Q.D × Q.D × Q.D × Q.D) × (Int × Q.D × Q.D × Q.D))) => (bif (!(p__law_first_told (D.glo "mixed_ways") ([((eP (pC D.int (pZ D.int))) ((1 : Int), (1 : Int))), (D.int (1 : Int)), (D.int (1 : Int)), (D.int (1 : Int))] : List Q.D) ([s21.1.1, s21.1.2.1, s21.1.2.2.1, s21.1.2.2.2] : List Q.D) ([(D.int s21.2.1), s21.2.2.1, s21.2.2.2.1, s21.2.2.2.2] : List Q.D) mix)) then (false, s14.1) else (bif (!(p__law_first_told (D.glo "lookalike_number") ([((eP (pC D.int (pZ D.int))) ((0 : Int), (2 : Int))), (D.int (1 : Int))] : List Q.D) ([s14.2.1, s2.2.1.1] : List Q.D) ([(D.int s14.2.2), s2.2.1.2] : List Q.D) mix)) then (false, s14.1) else (bif (!(p_heardT (D.glo "lookalike_number") ([((eP (pC D.int (pZ D.int))) ((0 : Int), (2 : Int))), ((eK "all") ())] : List Q.D) ("BadNumber" : Str) ((eK "all") ()))) then (false, s14.1) else (bif (!(p__law_first_told (D.glo "noise_number") ([(D.int (2 : Int)), (D.int (1 : Int)), (D.int (1 : Int))] : List Q.D) ([s2.2.1.1, s2.2.2.1, s2.2.1.1] : List Q.D) ([s2.2.1.2, s2.2.2.2, s2.2.1.2] : List Q.D) mix)) then (false, s14.1) else (bif (!(p__law_first_told (D.glo "scattered_number") ([(D.int (2 : Int)), (D.int (1 : Int)), (D.int (1 : Int))] : List Q.D) ([s2.2.1.1, s2.2.2.1, s5.2.1.1] : List Q.D) ([s2.2.1.2, s2.2.2.2, s5.2.1.2] : List Q.D) mix)) then (false, s14.1) else (bif (!(p__law_first_told (D.glo "doubling_number") ([(D.int (3 : Int)), (D.int (3 : Int)), (D.int (0 : Int))] : List Q.D) ([s5.2.1.1, s5.2.2.1, s2.2.2.1] : List Q.D) ([s5.2.1.2, s5.2.2.2, s2.2.2.2] : List Q.D) mix)) then (false, s14.1) else (bif (!(p_heardT (D.glo "doubling_number") ([(D.int ((2 : Int) + s8.2)), (D.int ((3 : Int) + s8.2)), (D.int (0 : Int))] : List Q.D) ("BadCase" : Str) ((eK "runs") ()))) then (false, s14.1) else (bif (!(p_heardT (D.glo "doubling_number") ([(D.int ((2 : Int) + s8.2)), (D.int ((3 : Int) + s8.2)), s2.2.2.1] : List Q.D) ("BadNumber" : Str) s2.2.2.2)) then (false, s14.1) else (bif (!(p__law_first_told (D.glo "turning_number") ([(D.int (3 : Int))] : List Q.D) ([s2.2.1.1] : List Q.D) ([s2.2.1.2] : List Q.D) mix)) then (false, s14.1) else ((p__law_first_told (D.glo "turning_by") ([(D.int (3 : Int)), (D.int (1 : Int))] : List Q.D) ([s2.2.1.1, s2.2.2.1] : List Q.D) ([s2.2.1.2, s2.2.2.2] : List Q.D) mix), s14.1))))))))))))))))))
def g__law_refusals (purse : (Int × (List Int))) (mix : (List Int)) : Prop :=
  (((g__law_wrong purse (0 : Int)) ∧ (g__law_wrong (p__law_wrong purse (0 : Int)).2 (0 : Int))) ∧ (letY ((p__law_wrong (p__law_wrong purse (0 : Int)).2 (0 : Int)).2, (p__law_wrong purse (0 : Int)).1, (p__law_wrong (p__law_wrong purse (0 : Int)).2 (0 : Int)).1) fun (s2 : ((Int × (List Int)) × (Q.D × Q.D) × (Q.D × Q.D))) => (((g__law_wrong s2.1 (1 : Int)) ∧ (g__law_wrong (p__law_wrong s2.1 (1 : Int)).2 (1 : Int))) ∧ (letY ((p__law_wrong (p__law_wrong s2.1 (1 : Int)).2 (1 : Int)).2, (p__law_wrong s2.1 (1 : Int)).1, (p__law_wrong (p__law_wrong s2.1 (1 : Int)).2 (1 : Int)).1) fun (s5 : ((Int × (List Int)) × (Q.D × Q.D) × (Q.D × Q.D))) => ((g__law_pick s5.1 (4 : Int)) ∧ (letY ((p__law_pick s5.1 (4 : Int)).2, (p__law_pick s5.1 (4 : Int)).1) fun (s8 : ((Int × (List Int)) × Int)) => (((List.map D.int (cutY ([(3 : Int), (0 : Int), (0 : Int), (7 : Int)] : List Int) none (some s8.2))).length + ([s2.2.1.1, (D.int (2 : Int)), (D.int (-5 : Int))] : List Q.D).length ≤ big) ∧ (letY ((List.map D.int (cutY ([(3 : Int), (0 : Int), (0 : Int), (7 : Int)] : List Int) none (some s8.2))) ++ ([s2.2.1.1, (D.int (2 : Int)), (D.int (-5 : Int))] : List Q.D)) fun (s11 : (List Q.D)) => (((g__law_pick s8.1 (4 : Int)) ∧ (okIx ([(((eL eD) s11), s8.2), ((eN ()), (-1 : Int)), ((D.int (7 : Int)), (-1 : Int)), (((eK "12") ()), (-1 : Int))] : List (Q.D × Int)).length (p__law_pick s8.1 (4 : Int)).1)) ∧ (letY ((p__law_pick s8.1 (4 : Int)).2, (ixY ([(((eL eD) s11), s8.2), ((eN ()), (-1 : Int)), ((D.int (7 : Int)), (-1 : Int)), (((eK "12") ()), (-1 : Int))] : List (Q.D × Int)) (p__law_pick s8.1 (4 : Int)).1).1, (ixY ([(((eL eD) s11), s8.2), ((eN ()), (-1 : Int)), ((D.int (7 : Int)), (-1 : Int)), (((eK "12") ()), (-1 : Int))] : List (Q.D × Int)) (p__law_pick s8.1 (4 : Int)).1).2) fun (s14 : ((Int × (List Int)) × Q.D × Int)) => ((g__law_first_told (D.glo "choose") ([(D.int (5 : Int)), (D.int (2 : Int))] : List Q.D) ([s2.2.1.1, s2.2.2.1] : List Q.D) ([s2.2.1.2, s2.2.2.2] : List Q.D) mix) ∧ ((!(p__law_first_told (D.glo "choose") ([(D.int (5 : Int)), (D.int (2 : Int))] : List Q.D) ([s2.2.1.1, s2.2.2.1] : List Q.D) ([s2.2.1.2, s2.2.2.2] : List Q.D) mix)) = true → True) ∧ ((!(p__law_first_told (D.glo "choose") ([(D.int (5 : Int)), (D.int (2 : Int))] : List Q.D) ([s2.2.1.1, s2.2.2.1] : List Q.D) ([s2.2.1.2, s2.2.2.2] : List Q.D) mix)) = false → ((g__law_first_told (D.glo "symmetric") ([((eP (pC D.int (pZ D.int))) ((1 : Int), (2 : Int))), (D.int (1 : Int))] : List Q.D) ([s14.2.1, s2.2.2.1] : List Q.D) ([(D.int s14.2.2), s2.2.2.2] : List Q.D) mix) ∧ ((!(p__law_first_told (D.glo "symmetric") ([((eP (pC D.int (pZ D.int))) ((1 : Int), (2 : Int))), (D.int (1 : Int))] : List Q.D) ([s14.2.1, s2.2.2.1] : List Q.D) ([(D.int s14.2.2), s2.2.2.2] : List Q.D) mix)) = true → True) ∧ ((!(p__law_first_told (D.glo "symmetric") ([((eP (pC D.int (pZ D.int))) ((1 : Int), (2 : Int))), (D.int (1 : Int))] : List Q.D) ([s14.2.1, s2.2.2.1] : List Q.D) ([(D.int s14.2.2), s2.2.2.2] : List Q.D) mix)) = false → (letY ((s14.2.1, s2.2.1.1, s2.2.2.1, s2.2.1.1), (s14.2.2, s2.2.1.2, s2.2.2.2, s2.2.1.2)) fun (s21 : ((Q.D × Q.D × Q.D × Q.D) × (Int × Q.D × Q.D × Q.D))) => ((g__law_first_told (D.glo "mixed_ways") ([((eP (pC D.int (pZ D.int))) ((1 : Int), (1 : Int))), (D.int (1 : Int)), (D.int (1 : Int)), (D.int (1 : Int))] : List Q.D) ([s21.1.1, s21.1.2.1, s21.1.2.2.1, s21.1.2.2.2] : List Q.D) ([(D.int s21.2.1), s21.2.2.1, s21.2.2.2.1, s21.2.2.2.2] : List Q.D) mix) ∧ ((!(p__law_first_told (D.glo "mixed_ways") ([((eP (pC D.int (pZ D.int))) ((1 : Int), (1 : Int))), (D.int (1 : Int)), (D.int (1 : Int)), (D.int (1 : Int))] : List Q.D) ([s21.1.1, s21.1.2.1, s21.1.2.2.1, s21.1.2.2.2] : List Q.D) ([(D.int s21.2.1), s21.2.2.1, s21.2.2.2.1, s21.2.2.2.2] : List Q.D) mix)) = true → True) ∧ ((!(p__law_first_told (D.glo "mixed_ways") ([((eP (pC D.int (pZ D.int))) ((1 : Int), (1 : Int))), (D.int (1 : Int)), (D.int (1 : Int)), (D.int (1 : Int))] : List Q.D) ([s21.1.1, s21.1.2.1, s21.1.2.2.1, s21.1.2.2.2] : List Q.D) ([(D.int s21.2.1), s21.2.2.1, s21.2.2.2.1, s21.2.2.2.2] : List Q.D) mix)) = false → ((g__law_first_told (D.glo "lookalike_number") ([((eP (pC D.int (pZ D.int))) ((0 : Int), (2 : Int))), (D.int (1 : Int))] : List Q.D) ([s14.2.1, s2.2.1.1] : List Q.D) ([(D.int s14.2.2), s2.2.1.2] : List Q.D) mix) ∧ ((!(p__law_first_told (D.glo "lookalike_number") ([((eP (pC D.int (pZ D.int))) ((0 : Int), (2 : Int))), (D.int (1 : Int))] : List Q.D) ([s14.2.1, s2.2.1.1] : List Q.D) ([(D.int s14.2.2), s2.2.1.2] : List Q.D) mix)) = true → True) ∧ ((!(p__law_first_told (D.glo "lookalike_number") ([((eP (pC D.int (pZ D.int))) ((0 : Int), (2 : Int))), (D.int (1 : Int))] : List Q.D) ([s14.2.1, s2.2.1.1] : List Q.D) ([(D.int s14.2.2), s2.2.1.2] : List Q.D) mix)) = false → ((g_heardT (D.glo "lookalike_number") ([((eP (pC D.int (pZ D.int))) ((0 : Int), (2 : Int))), ((eK "all") ())] : List Q.D) ("BadNumber" : Str) ((eK "all") ())) ∧ ((!(p_heardT (D.glo "lookalike_number") ([((eP (pC D.int (pZ D.int))) ((0 : Int), (2 : Int))), ((eK "all") ())] : List Q.D) ("BadNumber" : Str) ((eK "all") ()))) = true → True) ∧ ((!(p_heardT (D.glo "lookalike_number") ([((eP (pC D.int (pZ D.int))) ((0 : Int), (2 : Int))), ((eK "all") ())] : List Q.D) ("BadNumber" : Str) ((eK "all") ()))) = false → ((g__law_first_told (D.glo "noise_number") ([(D.int (2 : Int)), (D.int (1 : Int)), (D.int (1 : Int))] : List Q.D) ([s2.2.1.1, s2.2.2.1, s2.2.1.1] : List Q.D) ([s2.2.1.2, s2.2.2.2, s2.2.1.2] : List Q.D) mix) ∧ ((!(p__law_first_told (D.glo "noise_number") ([(D.int (2 : Int)), (D.int (1 : Int)), (D.int (1 : Int))] : List Q.D) ([s2.2.1.1, s2.2.2.1, s2.2.1.1] : List Q.D) ([s2.2.1.2, s2.2.2.2, s2.2.1.2] : List Q.D) mix)) = true → True) ∧ ((!(p__law_first_told (D.glo "noise_number") ([(D.int (2 : Int)), (D.int (1 : Int)), (D.int (1 : Int))] : List Q.D) ([s2.2.1.1, s2.2.2.1, s2.2.1.1] : List Q.D) ([s2.2.1.2, s2.2.2.2, s2.2.1.2] : List Q.D) mix)) = false → ((g__law_first_told (D.glo "scattered_number") ([(D.int (2 : Int)), (D.int (1 : Int)), (D.int (1 : Int))] : List Q.D) ([s2.2.1.1, s2.2.2.1, s5.2.1.1] : List Q.D) ([s2.2.1.2, s2.2.2.2, s5.2.1.2] : List Q.D) mix) ∧ ((!(p__law_first_told (D.glo "scattered_number") ([(D.int (2 : Int)), (D.int (1 : Int)), (D.int (1 : Int))] : List Q.D) ([s2.2.1.1, s2.2.2.1, s5.2.1.1] : List Q.D) ([s2.2.1.2, s2.2.2.2, s5.2.1.2] : List Q.D) mix)) = true → True) ∧ ((!(p__law_first_told (D.glo "scattered_number") ([(D.int (2 : Int)), (D.int (1 : Int)), (D.int (1 : Int))] : List Q.D) ([s2.2.1.1, s2.2.2.1, s5.2.1.1] : List Q.D) ([s2.2.1.2, s2.2.2.2, s5.2.1.2] : List Q.D) mix)) = false → ((g__law_first_told (D.glo "doubling_number") ([(D.int (3 : Int)), (D.int (3 : Int)), (D.int (0 : Int))] : List Q.D) ([s5.2.1.1, s5.2.2.1, s2.2.2.1] : List Q.D) ([s5.2.1.2, s5.2.2.2, s2.2.2.2] : List Q.D) mix) ∧ ((!(p__law_first_told (D.glo "doubling_number") ([(D.int (3 : Int)), (D.int (3 : Int)), (D.int (0 : Int))] : List Q.D) ([s5.2.1.1, s5.2.2.1, s2.2.2.1] : List Q.D) ([s5.2.1.2, s5.2.2.2, s2.2.2.2] : List Q.D) mix)) = true → True) ∧ ((!(p__law_first_told (D.glo "doubling_number") ([(D.int (3 : Int)), (D.int (3 : Int)), (D.int (0 : Int))] : List Q.D) ([s5.2.1.1, s5.2.2.1, s2.2.2.1] : List Q.D) ([s5.2.1.2, s5.2.2.2, s2.2.2.2] : List Q.D) mix)) = false → ((g_heardT (D.glo "doubling_number") ([(D.int ((2 : Int) + s8.2)), (D.int ((3 : Int) + s8.2)), (D.int (0 : Int))] : List Q.D) ("BadCase" : Str) ((eK "runs") ())) ∧ ((!(p_heardT (D.glo "doubling_number") ([(D.int ((2 : Int) + s8.2)), (D.int ((3 : Int) + s8.2)), (D.int (0 : Int))] : List Q.D) ("BadCase" : Str) ((eK "runs") ()))) = true → True) ∧ ((!(p_heardT (D.glo "doubling_number") ([(D.int ((2 : Int) + s8.2)), (D.int ((3 : Int) + s8.2)), (D.int (0 : Int))] : List Q.D) ("BadCase" : Str) ((eK "runs") ()))) = false → ((g_heardT (D.glo "doubling_number") ([(D.int ((2 : Int) + s8.2)), (D.int ((3 : Int) + s8.2)), s2.2.2.1] : List Q.D) ("BadNumber" : Str) s2.2.2.2) ∧ ((!(p_heardT (D.glo "doubling_number") ([(D.int ((2 : Int) + s8.2)), (D.int ((3 : Int) + s8.2)), s2.2.2.1] : List Q.D) ("BadNumber" : Str) s2.2.2.2)) = true → True) ∧ ((!(p_heardT (D.glo "doubling_number") ([(D.int ((2 : Int) + s8.2)), (D.int ((3 : Int) + s8.2)), s2.2.2.1] : List Q.D) ("BadNumber" : Str) s2.2.2.2)) = false → ((g__law_first_told (D.glo "turning_number") ([(D.int (3 : Int))] : List Q.D) ([s2.2.1.1] : List Q.D) ([s2.2.1.2] : List Q.D) mix) ∧ ((!(p__law_first_told (D.glo "turning_number") ([(D.int (3 : Int))] : List Q.D) ([s2.2.1.1] : List Q.D) ([s2.2.1.2] : List Q.D) mix)) = true → True) ∧ ((!(p__law_first_told (D.glo "turning_number") ([(D.int (3 : Int))] : List Q.D) ([s2.2.1.1] : List Q.D) ([s2.2.1.2] : List Q.D) mix)) = false → (g__law_first_told (D.glo "turning_by") ([(D.int (3 : Int)), (D.int (1 : Int))] : List Q.D) ([s2.2.1.1, s2.2.2.1] : List Q.D) ([s2.2.1.2, s2.2.2.2] : List Q.D) mix))))))))))))))))))))))))))))))))))
theorem s__law_refusals (purse : (Int × (List Int))) (mix : (List Int)) (hg : g__law_refusals purse mix) : f__law_refusals [((oN (pC D.int (pZ (eL D.int)))) purse), (.leaf ((eL D.int) mix))] = .ok (.leaf (D.bl (p__law_refusals purse mix).1)) [(oN (pC D.int (pZ (eL D.int)))) (p__law_refusals purse mix).2] :=
  Y.fn_of (lent := [0]) (n := 12) (ρ := ([some ((oN (pC D.int (pZ (eL D.int)))) purse), some (.leaf ((eL D.int) mix)), none, none, none, none, none, none, none, none, none, none] : Q.Env)) (g := g__law_refusals purse mix) (et := (fun b : (Bool × (Int × (List Int))) => .leaf (D.bl b.1))) (el := (fun b : (Bool × (Int × (List Int))) => [(oN (pC D.int (pZ (eL D.int)))) b.2])) (v := p__law_refusals purse mix) rfl
  (t_seqN (s := ((p__law_wrong (p__law_wrong purse (0 : Int)).2 (0 : Int)).2, (p__law_wrong purse (0 : Int)).1, (p__law_wrong (p__law_wrong purse (0 : Int)).2 (0 : Int)).1)) (show NY _ _ ((g__law_wrong purse (0 : Int)) ∧ (g__law_wrong (p__law_wrong purse (0 : Int)).2 (0 : Int))) (fun (s : ((Int × (List Int)) × (Q.D × Q.D) × (Q.D × Q.D))) (d : Unit) => ([some ((oN (pC D.int (pZ (eL D.int)))) s.1), some (.leaf ((eL D.int) mix)), some (.leaf ((eP (pC eD (pZ eD))) s.2.1)), some (.leaf ((eP (pC eD (pZ eD))) s.2.2)), none, none, none, none, none, none, none, none] : Q.Env)) ((p__law_wrong (p__law_wrong purse (0 : Int)).2 (0 : Int)).2, (p__law_wrong purse (0 : Int)).1, (p__law_wrong (p__law_wrong purse (0 : Int)).2 (0 : Int)).1) from (fun (h1 : (g__law_wrong purse (0 : Int)) ∧ (g__law_wrong (p__law_wrong purse (0 : Int)).2 (0 : Int))) => ⟨(), (par_eq (ya_cons (y_call (yc_lend (y_move (t := (oN (pC D.int (pZ (eL D.int)))) purse) rfl rfl) (yc_val (y_c (D.int 0)) yc_nil)) rfl (s__law_wrong purse (0 : Int) h1.1) rfl rfl) (ya_cons (y_call (yc_lend (y_move (t := (oN (pC D.int (pZ (eL D.int)))) (p__law_wrong purse (0 : Int)).2) rfl rfl) (yc_val (y_c (D.int 0)) yc_nil)) rfl (s__law_wrong (p__law_wrong purse (0 : Int)).2 (0 : Int) h1.2) rfl rfl) ya_nil)) rfl rfl)⟩)) (fun s2 d3 => (t_seqN (s := ((p__law_wrong (p__law_wrong s2.1 (1 : Int)).2 (1 : Int)).2, (p__law_wrong s2.1 (1 : Int)).1, (p__law_wrong (p__law_wrong s2.1 (1 : Int)).2 (1 : Int)).1)) (show NY _ _ ((g__law_wrong s2.1 (1 : Int)) ∧ (g__law_wrong (p__law_wrong s2.1 (1 : Int)).2 (1 : Int))) (fun (s : ((Int × (List Int)) × (Q.D × Q.D) × (Q.D × Q.D))) (d : Unit) => ([some ((oN (pC D.int (pZ (eL D.int)))) s.1), some (.leaf ((eL D.int) mix)), some (.leaf ((eP (pC eD (pZ eD))) s2.2.1)), some (.leaf ((eP (pC eD (pZ eD))) s2.2.2)), some (.leaf ((eP (pC eD (pZ eD))) s.2.1)), some (.leaf ((eP (pC eD (pZ eD))) s.2.2)), none, none, none, none, none, none] : Q.Env)) ((p__law_wrong (p__law_wrong s2.1 (1 : Int)).2 (1 : Int)).2, (p__law_wrong s2.1 (1 : Int)).1, (p__law_wrong (p__law_wrong s2.1 (1 : Int)).2 (1 : Int)).1) from (fun (h4 : (g__law_wrong s2.1 (1 : Int)) ∧ (g__law_wrong (p__law_wrong s2.1 (1 : Int)).2 (1 : Int))) => ⟨(), (par_eq (ya_cons (y_call (yc_lend (y_move (t := (oN (pC D.int (pZ (eL D.int)))) s2.1) rfl rfl) (yc_val (y_c (D.int 1)) yc_nil)) rfl (s__law_wrong s2.1 (1 : Int) h4.1) rfl rfl) (ya_cons (y_call (yc_lend (y_move (t := (oN (pC D.int (pZ (eL D.int)))) (p__law_wrong s2.1 (1 : Int)).2) rfl rfl) (yc_val (y_c (D.int 1)) yc_nil)) rfl (s__law_wrong (p__law_wrong s2.1 (1 : Int)).2 (1 : Int) h4.2) rfl rfl) ya_nil)) rfl rfl)⟩)) (fun s5 d6 => (t_seqN (s := ((p__law_pick s5.1 (4 : Int)).2, (p__law_pick s5.1 (4 : Int)).1)) (show NY _ _ (g__law_pick s5.1 (4 : Int)) (fun (s : ((Int × (List Int)) × Int)) (d : Unit) => ([some ((oN (pC D.int (pZ (eL D.int)))) s.1), some (.leaf ((eL D.int) mix)), some (.leaf ((eP (pC eD (pZ eD))) s2.2.1)), some (.leaf ((eP (pC eD (pZ eD))) s2.2.2)), some (.leaf ((eP (pC eD (pZ eD))) s5.2.1)), some (.leaf ((eP (pC eD (pZ eD))) s5.2.2)), some (.leaf (D.int s.2)), none, none, none, none, none] : Q.Env)) ((p__law_pick s5.1 (4 : Int)).2, (p__law_pick s5.1 (4 : Int)).1) from (fun (h7 : (g__law_pick s5.1 (4 : Int))) => ⟨(), (set_eq (y_call (yc_lend (y_move (t := (oN (pC D.int (pZ (eL D.int)))) s5.1) rfl rfl) (yc_val (y_c (D.int 4)) yc_nil)) rfl (s__law_pick s5.1 (4 : Int) h7) rfl rfl) rfl)⟩)) (fun s8 d9 => (t_seqN (s := ((List.map D.int (cutY ([(3 : Int), (0 : Int), (0 : Int), (7 : Int)] : List Int) none (some s8.2))) ++ ([s2.2.1.1, (D.int (2 : Int)), (D.int (-5 : Int))] : List Q.D))) (show NY _ _ ((List.map D.int (cutY ([(3 : Int), (0 : Int), (0 : Int), (7 : Int)] : List Int) none (some s8.2))).length + ([s2.2.1.1, (D.int (2 : Int)), (D.int (-5 : Int))] : List Q.D).length ≤ big) (fun (s : (List Q.D)) (d : Unit) => ([some ((oN (pC D.int (pZ (eL D.int)))) s8.1), some (.leaf ((eL D.int) mix)), some (.leaf ((eP (pC eD (pZ eD))) s2.2.1)), some (.leaf ((eP (pC eD (pZ eD))) s2.2.2)), some (.leaf ((eP (pC eD (pZ eD))) s5.2.1)), some (.leaf ((eP (pC eD (pZ eD))) s5.2.2)), some (.leaf (D.int s8.2)), some (.leaf ((eL eD) s)), none, none, none, none] : Q.Env)) ((List.map D.int (cutY ([(3 : Int), (0 : Int), (0 : Int), (7 : Int)] : List Int) none (some s8.2))) ++ ([s2.2.1.1, (D.int (2 : Int)), (D.int (-5 : Int))] : List Q.D)) from (fun (h10 : ((List.map D.int (cutY ([(3 : Int), (0 : Int), (0 : Int), (7 : Int)] : List Int) none (some s8.2))).length + ([s2.2.1.1, (D.int (2 : Int)), (D.int (-5 : Int))] : List Q.D).length ≤ big)) => ⟨(), (set_eqL (e := eD) (l := ((List.map D.int (cutY ([(3 : Int), (0 : Int), (0 : Int), (7 : Int)] : List Int) none (some s8.2))) ++ ([s2.2.1.1, (D.int (2 : Int)), (D.int (-5 : Int))] : List Q.D))) (y_addL (e := eD) (y_coL (e := D.int) (y_slL (e := D.int) (y_lst (ya_cons (y_c (D.int 3)) (ya_cons (y_c (D.int 0)) (ya_cons (y_c (D.int 0)) (ya_cons (y_c (D.int 7)) ya_nil)))) rfl) (oL_toD D.int ([(3 : Int), (0 : Int), (0 : Int), (7 : Int)] : List Int)) yp_none (yp_some (y_v (D.int s8.2) rfl)))) (oL_toD eD (List.map D.int (cutY ([(3 : Int), (0 : Int), (0 : Int), (7 : Int)] : List Int) none (some s8.2)))) (y_lst (ya_cons (y_ixP (y_v ((eP (pC eD (pZ eD))) s2.2.1) rfl) (y_c (D.int 0)) rfl) (ya_cons (y_c (D.int 2)) (ya_cons (y_neg (y_c (D.int 5))) ya_nil))) rfl) (oL_toD eD ([s2.2.1.1, (D.int (2 : Int)), (D.int (-5 : Int))] : List Q.D)) h10) rfl)⟩)) (fun s11 d12 => (t_seqN (s := ((p__law_pick s8.1 (4 : Int)).2, (ixY ([(((eL eD) s11), s8.2), ((eN ()), (-1 : Int)), ((D.int (7 : Int)), (-1 : Int)), (((eK "12") ()), (-1 : Int))] : List (Q.D × Int)) (p__law_pick s8.1 (4 : Int)).1).1, (ixY ([(((eL eD) s11), s8.2), ((eN ()), (-1 : Int)), ((D.int (7 : Int)), (-1 : Int)), (((eK "12") ()), (-1 : Int))] : List (Q.D × Int)) (p__law_pick s8.1 (4 : Int)).1).2)) (show NY _ _ ((g__law_pick s8.1 (4 : Int)) ∧ (okIx ([(((eL eD) s11), s8.2), ((eN ()), (-1 : Int)), ((D.int (7 : Int)), (-1 : Int)), (((eK "12") ()), (-1 : Int))] : List (Q.D × Int)).length (p__law_pick s8.1 (4 : Int)).1)) (fun (s : ((Int × (List Int)) × Q.D × Int)) (d : Unit) => ([some ((oN (pC D.int (pZ (eL D.int)))) s.1), some (.leaf ((eL D.int) mix)), some (.leaf ((eP (pC eD (pZ eD))) s2.2.1)), some (.leaf ((eP (pC eD (pZ eD))) s2.2.2)), some (.leaf ((eP (pC eD (pZ eD))) s5.2.1)), some (.leaf ((eP (pC eD (pZ eD))) s5.2.2)), some (.leaf (D.int s8.2)), some (.leaf ((eL eD) s11)), some (.leaf (eD s.2.1)), some (.leaf (D.int s.2.2)), none, none] : Q.Env)) ((p__law_pick s8.1 (4 : Int)).2, (ixY ([(((eL eD) s11), s8.2), ((eN ()), (-1 : Int)), ((D.int (7 : Int)), (-1 : Int)), (((eK "12") ()), (-1 : Int))] : List (Q.D × Int)) (p__law_pick s8.1 (4 : Int)).1).1, (ixY ([(((eL eD) s11), s8.2), ((eN ()), (-1 : Int)), ((D.int (7 : Int)), (-1 : Int)), (((eK "12") ()), (-1 : Int))] : List (Q.D × Int)) (p__law_pick s8.1 (4 : Int)).1).2) from (fun (h13 : (g__law_pick s8.1 (4 : Int)) ∧ (okIx ([(((eL eD) s11), s8.2), ((eN ()), (-1 : Int)), ((D.int (7 : Int)), (-1 : Int)), (((eK "12") ()), (-1 : Int))] : List (Q.D × Int)).length (p__law_pick s8.1 (4 : Int)).1)) => ⟨(), (asg_eq (y_ixU (e := (eP (pC eD (pZ D.int)))) (y_tup (ds := List.map (eP (pC eD (pZ D.int))) ([(((eL eD) s11), s8.2), ((eN ()), (-1 : Int)), ((D.int (7 : Int)), (-1 : Int)), (((eK "12") ()), (-1 : Int))] : List (Q.D × Int))) (ya_cons (y_tup (ds := ((pC eD (pZ D.int))) (((eL eD) s11), s8.2)) (ya_cons (y_v ((eL eD) s11) rfl) (ya_cons (y_v (D.int s8.2) rfl) ya_nil)) rfl rfl) (ya_cons (y_tup (ds := ((pC eD (pZ D.int))) ((eN ()), (-1 : Int))) (ya_cons (y_c D.non) (ya_cons (y_neg (y_c (D.int 1))) ya_nil)) rfl rfl) (ya_cons (y_tup (ds := ((pC eD (pZ D.int))) ((D.int (7 : Int)), (-1 : Int))) (ya_cons (y_c (D.int 7)) (ya_cons (y_neg (y_c (D.int 1))) ya_nil)) rfl rfl) (ya_cons (y_tup (ds := ((pC eD (pZ D.int))) (((eK "12") ()), (-1 : Int))) (ya_cons (y_c (D.str "12")) (ya_cons (y_neg (y_c (D.int 1))) ya_nil)) rfl rfl) ya_nil)))) rfl rfl) (y_call (yc_lend (y_move (t := (oN (pC D.int (pZ (eL D.int)))) s8.1) rfl rfl) (yc_val (y_c (D.int 4)) yc_nil)) rfl (s__law_pick s8.1 (4 : Int) h13.1) rfl rfl) h13.2) rfl)⟩)) (fun s14 d15 => (t_ifr (x := (!(p__law_first_told (D.glo "choose") ([(D.int (5 : Int)), (D.int (2 : Int))] : List Q.D) ([s2.2.1.1, s2.2.2.1] : List Q.D) ([s2.2.1.2, s2.2.2.2] : List Q.D) mix))) (fun (h16 : (g__law_first_told (D.glo "choose") ([(D.int (5 : Int)), (D.int (2 : Int))] : List Q.D) ([s2.2.1.1, s2.2.2.1] : List Q.D) ([s2.2.1.2, s2.2.2.2] : List Q.D) mix)) => (y_not (y_test (y_call (yc_val (y_c (D.glo "choose")) (yc_val (y_tup (ds := List.map eD ([(D.int (5 : Int)), (D.int (2 : Int))] : List Q.D)) (ya_cons (y_c (D.int 5)) (ya_cons (y_c (D.int 2)) ya_nil)) rfl rfl) (yc_val (y_tup (ds := List.map eD ([s2.2.1.1, s2.2.2.1] : List Q.D)) (ya_cons (y_ixP (y_v ((eP (pC eD (pZ eD))) s2.2.1) rfl) (y_c (D.int 0)) rfl) (ya_cons (y_ixP (y_v ((eP (pC eD (pZ eD))) s2.2.2) rfl) (y_c (D.int 0)) rfl) ya_nil)) rfl rfl) (yc_val (y_tup (ds := List.map eD ([s2.2.1.2, s2.2.2.2] : List Q.D)) (ya_cons (y_ixP (y_v ((eP (pC eD (pZ eD))) s2.2.1) rfl) (y_c (D.int 1)) rfl) (ya_cons (y_ixP (y_v ((eP (pC eD (pZ eD))) s2.2.2) rfl) (y_c (D.int 1)) rfl) ya_nil)) rfl rfl) (yc_val (y_v ((eL D.int) mix) rfl) yc_nil))))) rfl (s__law_first_told (D.glo "choose") ([(D.int (5 : Int)), (D.int (2 : Int))] : List Q.D) ([s2.2.1.1, s2.2.2.1] : List Q.D) ([s2.2.1.2, s2.2.2.2] : List Q.D) mix h16) rfl rfl)))) (t_ret (v := ((false, s14.1) : (Bool × (Int × (List Int))))) (g := True) (fun (h17 : True) => (y_c (D.bl false))) rfl) (t_ifr (x := (!(p__law_first_told (D.glo "symmetric") ([((eP (pC D.int (pZ D.int))) ((1 : Int), (2 : Int))), (D.int (1 : Int))] : List Q.D) ([s14.2.1, s2.2.2.1] : List Q.D) ([(D.int s14.2.2), s2.2.2.2] : List Q.D) mix))) (fun (h18 : (g__law_first_told (D.glo "symmetric") ([((eP (pC D.int (pZ D.int))) ((1 : Int), (2 : Int))), (D.int (1 : Int))] : List Q.D) ([s14.2.1, s2.2.2.1] : List Q.D) ([(D.int s14.2.2), s2.2.2.2] : List Q.D) mix)) => (y_not (y_test (y_call (yc_val (y_c (D.glo "symmetric")) (yc_val (y_tup (ds := List.map eD ([((eP (pC D.int (pZ D.int))) ((1 : Int), (2 : Int))), (D.int (1 : Int))] : List Q.D)) (ya_cons (y_tup (ds := ((pC D.int (pZ D.int))) ((1 : Int), (2 : Int))) (ya_cons (y_c (D.int 1)) (ya_cons (y_c (D.int 2)) ya_nil)) rfl rfl) (ya_cons (y_c (D.int 1)) ya_nil)) rfl rfl) (yc_val (y_tup (ds := List.map eD ([s14.2.1, s2.2.2.1] : List Q.D)) (ya_cons (y_v (eD s14.2.1) rfl) (ya_cons (y_ixP (y_v ((eP (pC eD (pZ eD))) s2.2.2) rfl) (y_c (D.int 0)) rfl) ya_nil)) rfl rfl) (yc_val (y_tup (ds := List.map eD ([(D.int s14.2.2), s2.2.2.2] : List Q.D)) (ya_cons (y_v (D.int s14.2.2) rfl) (ya_cons (y_ixP (y_v ((eP (pC eD (pZ eD))) s2.2.2) rfl) (y_c (D.int 1)) rfl) ya_nil)) rfl rfl) (yc_val (y_v ((eL D.int) mix) rfl) yc_nil))))) rfl (s__law_first_told (D.glo "symmetric") ([((eP (pC D.int (pZ D.int))) ((1 : Int), (2 : Int))), (D.int (1 : Int))] : List Q.D) ([s14.2.1, s2.2.2.1] : List Q.D) ([(D.int s14.2.2), s2.2.2.2] : List Q.D) mix h18) rfl rfl)))) (t_ret (v := ((false, s14.1) : (Bool × (Int × (List Int))))) (g := True) (fun (h19 : True) => (y_c (D.bl false))) rfl) (t_seqN0 (s := ((s14.2.1, s2.2.1.1, s2.2.2.1, s2.2.1.1), (s14.2.2, s2.2.1.2, s2.2.2.2, s2.2.1.2))) (show NY _ _ True (fun (s : ((Q.D × Q.D × Q.D × Q.D) × (Int × Q.D × Q.D × Q.D))) (d : Unit) => ([some ((oN (pC D.int (pZ (eL D.int)))) s14.1), some (.leaf ((eL D.int) mix)), some (.leaf ((eP (pC eD (pZ eD))) s2.2.1)), some (.leaf ((eP (pC eD (pZ eD))) s2.2.2)), some (.leaf ((eP (pC eD (pZ eD))) s5.2.1)), some (.leaf ((eP (pC eD (pZ eD))) s5.2.2)), some (.leaf (D.int s8.2)), some (.leaf ((eL eD) s11)), some (.leaf (eD s14.2.1)), some (.leaf (D.int s14.2.2)), some (.leaf ((eP (pC eD (pC eD (pC eD (pZ eD))))) s.1)), some (.leaf ((eP (pC D.int (pC eD (pC eD (pZ eD))))) s.2))] : Q.Env)) ((s14.2.1, s2.2.1.1, s2.2.2.1, s2.2.1.1), (s14.2.2, s2.2.1.2, s2.2.2.2, s2.2.1.2)) from (fun (h20 : True) => ⟨(), (par_eq (ya_cons (y_tup (ds := ((pC eD (pC eD (pC eD (pZ eD))))) (s14.2.1, s2.2.1.1, s2.2.2.1, s2.2.1.1)) (ya_cons (y_v (eD s14.2.1) rfl) (ya_cons (y_ixP (y_v ((eP (pC eD (pZ eD))) s2.2.1) rfl) (y_c (D.int 0)) rfl) (ya_cons (y_ixP (y_v ((eP (pC eD (pZ eD))) s2.2.2) rfl) (y_c (D.int 0)) rfl) (ya_cons (y_ixP (y_v ((eP (pC eD (pZ eD))) s2.2.1) rfl) (y_c (D.int 0)) rfl) ya_nil)))) rfl rfl) (ya_cons (y_tup (ds := ((pC D.int (pC eD (pC eD (pZ eD))))) (s14.2.2, s2.2.1.2, s2.2.2.2, s2.2.1.2)) (ya_cons (y_v (D.int s14.2.2) rfl) (ya_cons (y_ixP (y_v ((eP (pC eD (pZ eD))) s2.2.1) rfl) (y_c (D.int 1)) rfl) (ya_cons (y_ixP (y_v ((eP (pC eD (pZ eD))) s2.2.2) rfl) (y_c (D.int 1)) rfl) (ya_cons (y_ixP (y_v ((eP (pC eD (pZ eD))) s2.2.1) rfl) (y_c (D.int 1)) rfl) ya_nil)))) rfl rfl) ya_nil)) rfl rfl)⟩)) (fun s21 d22 => (t_ifr (x := (!(p__law_first_told (D.glo "mixed_ways") ([((eP (pC D.int (pZ D.int))) ((1 : Int), (1 : Int))), (D.int (1 : Int)), (D.int (1 : Int)), (D.int (1 : Int))] : List Q.D) ([s21.1.1, s21.1.2.1, s21.1.2.2.1, s21.1.2.2.2] : List Q.D) ([(D.int s21.2.1), s21.2.2.1, s21.2.2.2.1, s21.2.2.2.2] : List Q.D) mix))) (fun (h23 : (g__law_first_told (D.glo "mixed_ways") ([((eP (pC D.int (pZ D.int))) ((1 : Int), (1 : Int))), (D.int (1 : Int)), (D.int (1 : Int)), (D.int (1 : Int))] : List Q.D) ([s21.1.1, s21.1.2.1, s21.1.2.2.1, s21.1.2.2.2] : List Q.D) ([(D.int s21.2.1), s21.2.2.1, s21.2.2.2.1, s21.2.2.2.2] : List Q.D) mix)) => (y_not (y_test (y_call (yc_val (y_c (D.glo "mixed_ways")) (yc_val (y_tup (ds := List.map eD ([((eP (pC D.int (pZ D.int))) ((1 : Int), (1 : Int))), (D.int (1 : Int)), (D.int (1 : Int)), (D.int (1 : Int))] : List Q.D)) (ya_cons (y_tup (ds := ((pC D.int (pZ D.int))) ((1 : Int), (1 : Int))) (ya_cons (y_c (D.int 1)) (ya_cons (y_c (D.int 1)) ya_nil)) rfl rfl) (ya_cons (y_c (D.int 1)) (ya_cons (y_c (D.int 1)) (ya_cons (y_c (D.int 1)) ya_nil)))) rfl rfl) (yc_val (id (y_v ((eP (pC eD (pC eD (pC eD (pZ eD))))) s21.1) rfl) : _ = Res.ok (T.leaf (eU eD ([s21.1.1, s21.1.2.1, s21.1.2.2.1, s21.1.2.2.2] : List Q.D))) _) (yc_val (id (y_v ((eP (pC D.int (pC eD (pC eD (pZ eD))))) s21.2) rfl) : _ = Res.ok (T.leaf ((eU eD) ([(D.int s21.2.1), s21.2.2.1, s21.2.2.2.1, s21.2.2.2.2] : List Q.D))) _) (yc_val (y_v ((eL D.int) mix) rfl) yc_nil))))) rfl (s__law_first_told (D.glo "mixed_ways") ([((eP (pC D.int (pZ D.int))) ((1 : Int), (1 : Int))), (D.int (1 : Int)), (D.int (1 : Int)), (D.int (1 : Int))] : List Q.D) ([s21.1.1, s21.1.2.1, s21.1.2.2.1, s21.1.2.2.2] : List Q.D) ([(D.int s21.2.1), s21.2.2.1, s21.2.2.2.1, s21.2.2.2.2] : List Q.D) mix h23) rfl rfl)))) (t_ret (v := ((false, s14.1) : (Bool × (Int × (List Int))))) (g := True) (fun (h24 : True) => (y_c (D.bl false))) rfl) (t_ifr (x := (!(p__law_first_told (D.glo "lookalike_number") ([((eP (pC D.int (pZ D.int))) ((0 : Int), (2 : Int))), (D.int (1 : Int))] : List Q.D) ([s14.2.1, s2.2.1.1] : List Q.D) ([(D.int s14.2.2), s2.2.1.2] : List Q.D) mix))) (fun (h25 : (g__law_first_told (D.glo "lookalike_number") ([((eP (pC D.int (pZ D.int))) ((0 : Int), (2 : Int))), (D.int (1 : Int))] : List Q.D) ([s14.2.1, s2.2.1.1] : List Q.D) ([(D.int s14.2.2), s2.2.1.2] : List Q.D) mix)) => (y_not (y_test (y_call (yc_val (y_c (D.glo "lookalike_number")) (yc_val (y_tup (ds := List.map eD ([((eP (pC D.int (pZ D.int))) ((0 : Int), (2 : Int))), (D.int (1 : Int))] : List Q.D)) (ya_cons (y_tup (ds := ((pC D.int (pZ D.int))) ((0 : Int), (2 : Int))) (ya_cons (y_c (D.int 0)) (ya_cons (y_c (D.int 2)) ya_nil)) rfl rfl) (ya_cons (y_c (D.int 1)) ya_nil)) rfl rfl) (yc_val (y_tup (ds := List.map eD ([s14.2.1, s2.2.1.1] : List Q.D)) (ya_cons (y_v (eD s14.2.1) rfl) (ya_cons (y_ixP (y_v ((eP (pC eD (pZ eD))) s2.2.1) rfl) (y_c (D.int 0)) rfl) ya_nil)) rfl rfl) (yc_val (y_tup (ds := List.map eD ([(D.int s14.2.2), s2.2.1.2] : List Q.D)) (ya_cons (y_v (D.int s14.2.2) rfl) (ya_cons (y_ixP (y_v ((eP (pC eD (pZ eD))) s2.2.1) rfl) (y_c (D.int 1)) rfl) ya_nil)) rfl rfl) (yc_val (y_v ((eL D.int) mix) rfl) yc_nil))))) rfl (s__law_first_told (D.glo "lookalike_number") ([((eP (pC D.int (pZ D.int))) ((0 : Int), (2 : Int))), (D.int (1 : Int))] : List Q.D) ([s14.2.1, s2.2.1.1] : List Q.D) ([(D.int s14.2.2), s2.2.1.2] : List Q.D) mix h25) rfl rfl)))) (t_ret (v := ((false, s14.1) : (Bool × (Int × (List Int))))) (g := True) (fun (h26 : True) => (y_c (D.bl false))) rfl) (t_ifr (x := (!(p_heardT (D.glo "lookalike_number") ([((eP (pC D.int (pZ D.int))) ((0 : Int), (2 : Int))), ((eK "all") ())] : List Q.D) ("BadNumber" : Str) ((eK "all") ())))) (fun (h27 : (g_heardT (D.glo "lookalike_number") ([((eP (pC D.int (pZ D.int))) ((0 : Int), (2 : Int))), ((eK "all") ())] : List Q.D) ("BadNumber" : Str) ((eK "all") ()))) => (y_not (y_test (y_call (yc_val (y_c (D.glo "lookalike_number")) (yc_val (y_tup (ds := List.map eD ([((eP (pC D.int (pZ D.int))) ((0 : Int), (2 : Int))), ((eK "all") ())] : List Q.D)) (ya_cons (y_tup (ds := ((pC D.int (pZ D.int))) ((0 : Int), (2 : Int))) (ya_cons (y_c (D.int 0)) (ya_cons (y_c (D.int 2)) ya_nil)) rfl rfl) (ya_cons (y_c (D.str "all")) ya_nil)) rfl rfl) (yc_val (y_c (D.str "BadNumber")) (yc_val (y_c (D.str "all")) yc_nil)))) rfl (s_heardT (D.glo "lookalike_number") ([((eP (pC D.int (pZ D.int))) ((0 : Int), (2 : Int))), ((eK "all") ())] : List Q.D) ("BadNumber" : Str) ((eK "all") ()) h27) rfl rfl)))) (t_ret (v := ((false, s14.1) : (Bool × (Int × (List Int))))) (g := True) (fun (h28 : True) => (y_c (D.bl false))) rfl) (t_ifr (x := (!(p__law_first_told (D.glo "noise_number") ([(D.int (2 : Int)), (D.int (1 : Int)), (D.int (1 : Int))] : List Q.D) ([s2.2.1.1, s2.2.2.1, s2.2.1.1] : List Q.D) ([s2.2.1.2, s2.2.2.2, s2.2.1.2] : List Q.D) mix))) (fun (h29 : (g__law_first_told (D.glo "noise_number") ([(D.int (2 : Int)), (D.int (1 : Int)), (D.int (1 : Int))] : List Q.D) ([s2.2.1.1, s2.2.2.1, s2.2.1.1] : List Q.D) ([s2.2.1.2, s2.2.2.2, s2.2.1.2] : List Q.D) mix)) => (y_not (y_test (y_call (yc_val (y_c (D.glo "noise_number")) (yc_val (y_tup (ds := List.map eD ([(D.int (2 : Int)), (D.int (1 : Int)), (D.int (1 : Int))] : List Q.D)) (ya_cons (y_c (D.int 2)) (ya_cons (y_c (D.int 1)) (ya_cons (y_c (D.int 1)) ya_nil))) rfl rfl) (yc_val (y_tup (ds := List.map eD ([s2.2.1.1, s2.2.2.1, s2.2.1.1] : List Q.D)) (ya_cons (y_ixP (y_v ((eP (pC eD (pZ eD))) s2.2.1) rfl) (y_c (D.int 0)) rfl) (ya_cons (y_ixP (y_v ((eP (pC eD (pZ eD))) s2.2.2) rfl) (y_c (D.int 0)) rfl) (ya_cons (y_ixP (y_v ((eP (pC eD (pZ eD))) s2.2.1) rfl) (y_c (D.int 0)) rfl) ya_nil))) rfl rfl) (yc_val (y_tup (ds := List.map eD ([s2.2.1.2, s2.2.2.2, s2.2.1.2] : List Q.D)) (ya_cons (y_ixP (y_v ((eP (pC eD (pZ eD))) s2.2.1) rfl) (y_c (D.int 1)) rfl) (ya_cons (y_ixP (y_v ((eP (pC eD (pZ eD))) s2.2.2) rfl) (y_c (D.int 1)) rfl) (ya_cons (y_ixP (y_v ((eP (pC eD (pZ eD))) s2.2.1) rfl) (y_c (D.int 1)) rfl) ya_nil))) rfl rfl) (yc_val (y_v ((eL D.int) mix) rfl) yc_nil))))) rfl (s__law_first_told (D.glo "noise_number") ([(D.int (2 : Int)), (D.int (1 : Int)), (D.int (1 : Int))] : List Q.D) ([s2.2.1.1, s2.2.2.1, s2.2.1.1] : List Q.D) ([s2.2.1.2, s2.2.2.2, s2.2.1.2] : List Q.D) mix h29) rfl rfl)))) (t_ret (v := ((false, s14.1) : (Bool × (Int × (List Int))))) (g := True) (fun (h30 : True) => (y_c (D.bl false))) rfl) (t_ifr (x := (!(p__law_first_told (D.glo "scattered_number") ([(D.int (2 : Int)), (D.int (1 : Int)), (D.int (1 : Int))] : List Q.D) ([s2.2.1.1, s2.2.2.1, s5.2.1.1] : List Q.D) ([s2.2.1.2, s2.2.2.2, s5.2.1.2] : List Q.D) mix))) (fun (h31 : (g__law_first_told (D.glo "scattered_number") ([(D.int (2 : Int)), (D.int (1 : Int)), (D.int (1 : Int))] : List Q.D) ([s2.2.1.1, s2.2.2.1, s5.2.1.1] : List Q.D) ([s2.2.1.2, s2.2.2.2, s5.2.1.2] : List Q.D) mix)) => (y_not (y_test (y_call (yc_val (y_c (D.glo "scattered_number")) (yc_val (y_tup (ds := List.map eD ([(D.int (2 : Int)), (D.int (1 : Int)), (D.int (1 : Int))] : List Q.D)) (ya_cons (y_c (D.int 2)) (ya_cons (y_c (D.int 1)) (ya_cons (y_c (D.int 1)) ya_nil))) rfl rfl) (yc_val (y_tup (ds := List.map eD ([s2.2.1.1, s2.2.2.1, s5.2.1.1] : List Q.D)) (ya_cons (y_ixP (y_v ((eP (pC eD (pZ eD))) s2.2.1) rfl) (y_c (D.int 0)) rfl) (ya_cons (y_ixP (y_v ((eP (pC eD (pZ eD))) s2.2.2) rfl) (y_c (D.int 0)) rfl) (ya_cons (y_ixP (y_v ((eP (pC eD (pZ eD))) s5.2.1) rfl) (y_c (D.int 0)) rfl) ya_nil))) rfl rfl) (yc_val (y_tup (ds := List.map eD ([s2.2.1.2, s2.2.2.2, s5.2.1.2] : List Q.D)) (ya_cons (y_ixP (y_v ((eP (pC eD (pZ eD))) s2.2.1) rfl) (y_c (D.int 1)) rfl) (ya_cons (y_ixP (y_v ((eP (pC eD (pZ eD))) s2.2.2) rfl) (y_c (D.int 1)) rfl) (ya_cons (y_ixP (y_v ((eP (pC eD (pZ eD))) s5.2.1) rfl) (y_c (D.int 1)) rfl) ya_nil))) rfl rfl) (yc_val (y_v ((eL D.int) mix) rfl) yc_nil))))) rfl (s__law_first_told (D.glo "scattered_number") ([(D.int (2 : Int)), (D.int (1 : Int)), (D.int (1 : Int))] : List Q.D) ([s2.2.1.1, s2.2.2.1, s5.2.1.1] : List Q.D) ([s2.2.1.2, s2.2.2.2, s5.2.1.2] : List Q.D) mix h31) rfl rfl)))) (t_ret (v := ((false, s14.1) : (Bool × (Int × (List Int))))) (g := True) (fun (h32 : True) => (y_c (D.bl false))) rfl) (t_ifr (x := (!(p__law_first_told (D.glo "doubling_number") ([(D.int (3 : Int)), (D.int (3 : Int)), (D.int (0 : Int))] : List Q.D) ([s5.2.1.1, s5.2.2.1, s2.2.2.1] : List Q.D) ([s5.2.1.2, s5.2.2.2, s2.2.2.2] : List Q.D) mix))) (fun (h33 : (g__law_first_told (D.glo "doubling_number") ([(D.int (3 : Int)), (D.int (3 : Int)), (D.int (0 : Int))] : List Q.D) ([s5.2.1.1, s5.2.2.1, s2.2.2.1] : List Q.D) ([s5.2.1.2, s5.2.2.2, s2.2.2.2] : List Q.D) mix)) => (y_not (y_test (y_call (yc_val (y_c (D.glo "doubling_number")) (yc_val (y_tup (ds := List.map eD ([(D.int (3 : Int)), (D.int (3 : Int)), (D.int (0 : Int))] : List Q.D)) (ya_cons (y_c (D.int 3)) (ya_cons (y_c (D.int 3)) (ya_cons (y_c (D.int 0)) ya_nil))) rfl rfl) (yc_val (y_tup (ds := List.map eD ([s5.2.1.1, s5.2.2.1, s2.2.2.1] : List Q.D)) (ya_cons (y_ixP (y_v ((eP (pC eD (pZ eD))) s5.2.1) rfl) (y_c (D.int 0)) rfl) (ya_cons (y_ixP (y_v ((eP (pC eD (pZ eD))) s5.2.2) rfl) (y_c (D.int 0)) rfl) (ya_cons (y_ixP (y_v ((eP (pC eD (pZ eD))) s2.2.2) rfl) (y_c (D.int 0)) rfl) ya_nil))) rfl rfl) (yc_val (y_tup (ds := List.map eD ([s5.2.1.2, s5.2.2.2, s2.2.2.2] : List Q.D)) (ya_cons (y_ixP (y_v ((eP (pC eD (pZ eD))) s5.2.1) rfl) (y_c (D.int 1)) rfl) (ya_cons (y_ixP (y_v ((eP (pC eD (pZ eD))) s5.2.2) rfl) (y_c (D.int 1)) rfl) (ya_cons (y_ixP (y_v ((eP (pC eD (pZ eD))) s2.2.2) rfl) (y_c (D.int 1)) rfl) ya_nil))) rfl rfl) (yc_val (y_v ((eL D.int) mix) rfl) yc_nil))))) rfl (s__law_first_told (D.glo "doubling_number") ([(D.int (3 : Int)), (D.int (3 : Int)), (D.int (0 : Int))] : List Q.D) ([s5.2.1.1, s5.2.2.1, s2.2.2.1] : List Q.D) ([s5.2.1.2, s5.2.2.2, s2.2.2.2] : List Q.D) mix h33) rfl rfl)))) (t_ret (v := ((false, s14.1) : (Bool × (Int × (List Int))))) (g := True) (fun (h34 : True) => (y_c (D.bl false))) rfl) (t_ifr (x := (!(p_heardT (D.glo "doubling_number") ([(D.int ((2 : Int) + s8.2)), (D.int ((3 : Int) + s8.2)), (D.int (0 : Int))] : List Q.D) ("BadCase" : Str) ((eK "runs") ())))) (fun (h35 : (g_heardT (D.glo "doubling_number") ([(D.int ((2 : Int) + s8.2)), (D.int ((3 : Int) + s8.2)), (D.int (0 : Int))] : List Q.D) ("BadCase" : Str) ((eK "runs") ()))) => (y_not (y_test (y_call (yc_val (y_c (D.glo "doubling_number")) (yc_val (y_tup (ds := List.map eD ([(D.int ((2 : Int) + s8.2)), (D.int ((3 : Int) + s8.2)), (D.int (0 : Int))] : List Q.D)) (ya_cons (y_add (y_c (D.int 2)) (y_v (D.int s8.2) rfl)) (ya_cons (y_add (y_c (D.int 3)) (y_v (D.int s8.2) rfl)) (ya_cons (y_c (D.int 0)) ya_nil))) rfl rfl) (yc_val (y_c (D.str "BadCase")) (yc_val (y_c (D.str "runs")) yc_nil)))) rfl (s_heardT (D.glo "doubling_number") ([(D.int ((2 : Int) + s8.2)), (D.int ((3 : Int) + s8.2)), (D.int (0 : Int))] : List Q.D) ("BadCase" : Str) ((eK "runs") ()) h35) rfl rfl)))) (t_ret (v := ((false, s14.1) : (Bool × (Int × (List Int))))) (g := True) (fun (h36 : True) => (y_c (D.bl false))) rfl) (t_ifr (x := (!(p_heardT (D.glo "doubling_number") ([(D.int ((2 : Int) + s8.2)), (D.int ((3 : Int) + s8.2)), s2.2.2.1] : List Q.D) ("BadNumber" : Str) s2.2.2.2))) (fun (h37 : (g_heardT (D.glo "doubling_number") ([(D.int ((2 : Int) + s8.2)), (D.int ((3 : Int) + s8.2)), s2.2.2.1] : List Q.D) ("BadNumber" : Str) s2.2.2.2)) => (y_not (y_test (y_call (yc_val (y_c (D.glo "doubling_number")) (yc_val (y_tup (ds := List.map eD ([(D.int ((2 : Int) + s8.2)), (D.int ((3 : Int) + s8.2)), s2.2.2.1] : List Q.D)) (ya_cons (y_add (y_c (D.int 2)) (y_v (D.int s8.2) rfl)) (ya_cons (y_add (y_c (D.int 3)) (y_v (D.int s8.2) rfl)) (ya_cons (y_ixP (y_v ((eP (pC eD (pZ eD))) s2.2.2) rfl) (y_c (D.int 0)) rfl) ya_nil))) rfl rfl) (yc_val (y_c (D.str "BadNumber")) (yc_val (y_ixP (y_v ((eP (pC eD (pZ eD))) s2.2.2) rfl) (y_c (D.int 1)) rfl) yc_nil)))) rfl (s_heardT (D.glo "doubling_number") ([(D.int ((2 : Int) + s8.2)), (D.int ((3 : Int) + s8.2)), s2.2.2.1] : List Q.D) ("BadNumber" : Str) s2.2.2.2 h37) rfl rfl)))) (t_ret (v := ((false, s14.1) : (Bool × (Int × (List Int))))) (g := True) (fun (h38 : True) => (y_c (D.bl false))) rfl) (t_ifr (x := (!(p__law_first_told (D.glo "turning_number") ([(D.int (3 : Int))] : List Q.D) ([s2.2.1.1] : List Q.D) ([s2.2.1.2] : List Q.D) mix))) (fun (h39 : (g__law_first_told (D.glo "turning_number") ([(D.int (3 : Int))] : List Q.D) ([s2.2.1.1] : List Q.D) ([s2.2.1.2] : List Q.D) mix)) => (y_not (y_test (y_call (yc_val (y_c (D.glo "turning_number")) (yc_val (y_tup (ds := List.map eD ([(D.int (3 : Int))] : List Q.D)) (ya_cons (y_c (D.int 3)) ya_nil) rfl rfl) (yc_val (y_tup (ds := List.map eD ([s2.2.1.1] : List Q.D)) (ya_cons (y_ixP (y_v ((eP (pC eD (pZ eD))) s2.2.1) rfl) (y_c (D.int 0)) rfl) ya_nil) rfl rfl) (yc_val (y_tup (ds := List.map eD ([s2.2.1.2] : List Q.D)) (ya_cons (y_ixP (y_v ((eP (pC eD (pZ eD))) s2.2.1) rfl) (y_c (D.int 1)) rfl) ya_nil) rfl rfl) (yc_val (y_v ((eL D.int) mix) rfl) yc_nil))))) rfl (s__law_first_told (D.glo "turning_number") ([(D.int (3 : Int))] : List Q.D) ([s2.2.1.1] : List Q.D) ([s2.2.1.2] : List Q.D) mix h39) rfl rfl)))) (t_ret (v := ((false, s14.1) : (Bool × (Int × (List Int))))) (g := True) (fun (h40 : True) => (y_c (D.bl false))) rfl) (t_ret (v := (((p__law_first_told (D.glo "turning_by") ([(D.int (3 : Int)), (D.int (1 : Int))] : List Q.D) ([s2.2.1.1, s2.2.2.1] : List Q.D) ([s2.2.1.2, s2.2.2.2] : List Q.D) mix), s14.1) : (Bool × (Int × (List Int))))) (g := (g__law_first_told (D.glo "turning_by") ([(D.int (3 : Int)), (D.int (1 : Int))] : List Q.D) ([s2.2.1.1, s2.2.2.1] : List Q.D) ([s2.2.1.2, s2.2.2.2] : List Q.D) mix)) (fun (h41 : (g__law_first_told (D.glo "turning_by") ([(D.int (3 : Int)), (D.int (1 : Int))] : List Q.D) ([s2.2.1.1, s2.2.2.1] : List Q.D) ([s2.2.1.2, s2.2.2.2] : List Q.D) mix)) => (y_call (yc_val (y_c (D.glo "turning_by")) (yc_val (y_tup (ds := List.map eD ([(D.int (3 : Int)), (D.int (1 : Int))] : List Q.D)) (ya_cons (y_c (D.int 3)) (ya_cons (y_c (D.int 1)) ya_nil)) rfl rfl) (yc_val (y_tup (ds := List.map eD ([s2.2.1.1, s2.2.2.1] : List Q.D)) (ya_cons (y_ixP (y_v ((eP (pC eD (pZ eD))) s2.2.1) rfl) (y_c (D.int 0)) rfl) (ya_cons (y_ixP (y_v ((eP (pC eD (pZ eD))) s2.2.2) rfl) (y_c (D.int 0)) rfl) ya_nil)) rfl rfl) (yc_val (y_tup (ds := List.map eD ([s2.2.1.2, s2.2.2.2] : List Q.D)) (ya_cons (y_ixP (y_v ((eP (pC eD (pZ eD))) s2.2.1) rfl) (y_c (D.int 1)) rfl) (ya_cons (y_ixP (y_v ((eP (pC eD (pZ eD))) s2.2.2) rfl) (y_c (D.int 1)) rfl) ya_nil)) rfl rfl) (yc_val (y_v ((eL D.int) mix) rfl) yc_nil))))) rfl (s__law_first_told (D.glo "turning_by") ([(D.int (3 : Int)), (D.int (1 : Int))] : List Q.D) ([s2.2.1.1, s2.2.2.1] : List Q.D) ([s2.2.1.2, s2.2.2.2] : List Q.D) mix h41) rfl rfl)) rfl) ) ) ) ) ) ) ) ) ))) ) ))))))))))) hg
end Law

set_option maxHeartbeats 4000000
set_option exponentiation.threshold 200000
namespace Law
open PySem L2 Q Y
theorem ixY_mem {α : Type} [Inhabited α] {l : List α} {k : Nat} (h : k < l.length) : ixY l (k : Int) ∈ l := by
  rw [ixY_nat (List.getElem?_eq_getElem h)]
  exact List.getElem_mem h
theorem wrong_ok (fs : List Int) (k : Nat) (L : Int) : g__law_wrong ((k : Int), fs) L ∧ ∃ p ∈ bads L, p__law_wrong ((k : Int), fs) L = (p, (((k + 1 : Nat) : Int), fs)) := by
  obtain ⟨g, v, hv, e⟩ := pick_ok fs k 8 (by decide)
  have bl : (bads L).length = 8 := rfl
  have bg : (20 : Nat) ≤ big := by decide
  unfold g__law_wrong p__law_wrong
  rw [e]
  refine ⟨⟨?_, g, okIx_nat ?_⟩, ixY (bads L) (v : Int), ixY_mem (by omega), rfl⟩
  · simp; omega
  · show 0 ≤ (v : Int) ∧ (v : Int) < ((8 : Nat) : Int)
    omega
theorem spoil_eq {j : Nat} (x : Q.D) : eL eD (List.map D.int (cutY ([(3 : Int), (0 : Int), (0 : Int), (7 : Int)] : List Int) none (some (j : Int))) ++ ([x, (D.int (2 : Int)), (D.int (-5 : Int))] : List Q.D)) = spoil j x := by
  unfold eL spoil
  rw [map_eD, cut_take, List.map_take]
  rfl
theorem lot_pick {j w : Nat} (x : Q.D) (hw : w < 4) : ∃ lo ∈ lots j x, ∃ i : Int, lo.2 = D.int i ∧ ixY ([(spoil j x, (j : Int)), ((eN ()), (-1 : Int)), ((D.int (7 : Int)), (-1 : Int)), (((eK "12") ()), (-1 : Int))] : List (Q.D × Int)) (w : Int) = (lo.1, i) := by
  have : w = 0 ∨ w = 1 ∨ w = 2 ∨ w = 3 := by omega
  rcases this with e | e | e | e <;> subst e
  · exact ⟨(spoil j x, .int (j : Nat)), by simp [lots], (j : Int), rfl, rfl⟩
  · exact ⟨(.non, .int (-1)), by simp [lots], -1, rfl, rfl⟩
  · exact ⟨(.int 7, .int (-1)), by simp [lots], -1, rfl, rfl⟩
  · exact ⟨(.str "12", .int (-1)), by simp [lots], -1, rfl, rfl⟩
theorem refusals_true (fs : List Int) (k0 : Nat) (mix : List Int) (lm : 4 ≤ mix.length) : g__law_refusals ((k0 : Int), fs) mix ∧ ∃ k1 : Nat, p__law_refusals ((k0 : Int), fs) mix = (true, ((k1 : Int), fs)) := by
  obtain ⟨g1, x, hx, e1⟩ := wrong_ok fs k0 0
  obtain ⟨g2, y, hy, e2⟩ := wrong_ok fs (k0 + 1) 0
  obtain ⟨g3, u, hu, e3⟩ := wrong_ok fs (k0 + 1 + 1) 1
  obtain ⟨g4, v, hv, e4⟩ := wrong_ok fs (k0 + 1 + 1 + 1) 1
  obtain ⟨g5, j, hj, e5⟩ := pick_ok fs (k0 + 1 + 1 + 1 + 1) 4 (by decide)
  obtain ⟨g6, w, hw, e6⟩ := pick_ok fs (k0 + 1 + 1 + 1 + 1 + 1) 4 (by decide)
  have hj : j < 4 := by omega
  have hw : w < 4 := by omega
  obtain ⟨lo, hl, i, ei, el⟩ := lot_pick (j := j) x.1 hw
  have sp := spoil_eq (j := j) x.1
  have q1 := t_choose (x := x) (y := y) lm hx hy
  have q2 := t_sym (x := x) (y := y) (lo := lo) lm hj hx hl hy
  have q3 := t_mix (x := x) (y := y) (lo := lo) lm hj hx hl hy
  have q4 := t_look (x := x) (lo := lo) lm hj hx hl
  rw [ei] at q2 q3 q4
  have q5 := t_noise (x := x) (y := y) lm hx hy
  have q6 := t_scat (x := x) (y := y) (u := u) lm hx hy hu
  have q7 := t_doub (u := u) (v := v) (y := y) lm hu hv hy
  have q8 := t_tnum (x := x) lm hx
  have q9 := t_tby (x := x) (y := y) lm hx hy
  have r2 : p__law_first_told (D.glo "symmetric") ([((eP (pC D.int (pZ D.int))) ((1 : Int), (2 : Int))), (D.int (1 : Int))] : List Q.D) [lo.1, y.1] [.int i, y.2] mix = true := q2.2
  have r3 : p__law_first_told (D.glo "mixed_ways") ([((eP (pC D.int (pZ D.int))) ((1 : Int), (1 : Int))), (D.int (1 : Int)), (D.int (1 : Int)), (D.int (1 : Int))] : List Q.D) [lo.1, x.1, y.1, x.1] [.int i, x.2, y.2, x.2] mix = true := q3.2
  have r4 : p__law_first_told (D.glo "lookalike_number") ([((eP (pC D.int (pZ D.int))) ((0 : Int), (2 : Int))), (D.int (1 : Int))] : List Q.D) [lo.1, x.1] [.int i, x.2] mix = true := q4.2
  have bg : (20 : Nat) ≤ big := by decide
  unfold g__law_refusals p__law_refusals
  rw [e1]
  simp only [letY]
  rw [e2]
  simp only []
  rw [e3]
  simp only []
  rw [e4]
  simp only []
  rw [e5]
  simp only []
  rw [e6]
  simp only []
  rw [sp, el]
  simp only [q1.2, r2, r3, r4, q5.2, q6.2, q7.2, q8.2, q9.2, p_heardT, Bool.not_true, cond_false]
  refine ⟨?_, k0 + 1 + 1 + 1 + 1 + 1 + 1, rfl⟩
  refine ⟨⟨g1, g2⟩, ⟨g3, g4⟩, g5, ?_, ⟨g6, okIx_nat ⟨by omega, by show (w : Int) < ((4 : Nat) : Int); omega⟩⟩, q1.1, fun _ => trivial, fun _ => ⟨q2.1, fun _ => trivial, fun _ => ⟨q3.1, fun _ => trivial, fun _ => ⟨q4.1, fun _ => trivial, fun _ => ⟨h_all, fun _ => trivial, fun _ => ⟨q5.1, fun _ => trivial, fun _ => ⟨q6.1, fun _ => trivial, fun _ => ⟨q7.1, fun _ => trivial, fun _ => ⟨h_runs hj, fun _ => trivial, fun _ => ⟨h_runsN hj hy, fun _ => trivial, fun _ => ⟨q8.1, fun _ => trivial, fun _ => q9.1⟩⟩⟩⟩⟩⟩⟩⟩⟩⟩⟩
  rw [cut_take]
  simp
  omega
end Law

set_option maxHeartbeats 4000000
namespace Law
open PySem L2 Q Y
def p_law (script : (List Int)) : Bool :=
  (letY (p__law_purse script) fun (s2 : (Int × (List Int))) => (letY ((mapS (fun (s7 : (Int × (List Int))) (x5 : Int) => ((p__law_pick s7 (2 : Int)).1, (p__law_pick s7 (2 : Int)).2)) (rangeY 0 (4 : Int)) s2).2, (mapS (fun (s7 : (Int × (List Int))) (x5 : Int) => ((p__law_pick s7 (2 : Int)).1, (p__law_pick s7 (2 : Int)).2)) (rangeY 0 (4 : Int)) s2).1) fun (s9 : ((Int × (List Int)) × (List Int))) => (letY ((p__law_number (p__law_number s9.1 (400 : Int)).2 (400 : Int)).2, (p__law_number s9.1 (400 : Int)).1, (p__law_number (p__law_number s9.1 (400 : Int)).2 (400 : Int)).1) fun (s12 : ((Int × (List Int)) × Int × Int)) => (letY ((p__law_pick s12.1 (24 : Int)).2, (p__law_pick s12.1 (24 : Int)).1) fun (s15 : ((Int × (List Int)) × Int)) => (letY ((p__law_numbers s15.1).2, (p__law_numbers s15.1).1) fun (s18 : ((Int × (List Int)) × (List Int))) => (bif ((!(p__law_choices s18.1 s12.2.1 s12.2.2).1) || (!(p__law_products (p__law_choices s18.1 s12.2.1 s12.2.2).2 s18.2 s15.2 (min s12.2.2 (60 : Int))).1)) then false else (bif ((!(p__law_put_in (bif (!(p__law_choices s18.1 s12.2.1 s12.2.2).1) then (p__law_choices s18.1 s12.2.1 s12.2.2).2 else (p__law_products (p__law_choices s18.1 s12.2.1 s12.2.2).2 s18.2 s15.2 (min s12.2.2 (60 : Int))).2) s12.2.1 s12.2.2).1) || (!(p__law_turnings s12.2.1 s12.2.2))) then false else (p__law_refusals (p__law_put_in (bif (!(p__law_choices s18.1 s12.2.1 s12.2.2).1) then (p__law_choices s18.1 s12.2.1 s12.2.2).2 else (p__law_products (p__law_choices s18.1 s12.2.1 s12.2.2).2 s18.2 s15.2 (min s12.2.2 (60 : Int))).2) s12.2.1 s12.2.2).2 s9.2).1)))))))
def g_law (script : (List Int)) : Prop :=
  ((g__law_purse script) ∧ (letY (p__law_purse script) fun (s2 : (Int × (List Int))) => ((((rangeY 0 (4 : Int)).length ≤ big) ∧ (mapSG (fun (s7 : (Int × (List Int))) (x5 : Int) => (g__law_pick s7 (2 : Int))) (fun (s7 : (Int × (List Int))) (x5 : Int) => ((p__law_pick s7 (2 : Int)).1, (p__law_pick s7 (2 : Int)).2)) (rangeY 0 (4 : Int)) s2)) ∧ (letY ((mapS (fun (s7 : (Int × (List Int))) (x5 : Int) => ((p__law_pick s7 (2 : Int)).1, (p__law_pick s7 (2 : Int)).2)) (rangeY 0 (4 : Int)) s2).2, (mapS (fun (s7 : (Int × (List Int))) (x5 : Int) => ((p__law_pick s7 (2 : Int)).1, (p__law_pick s7 (2 : Int)).2)) (rangeY 0 (4 : Int)) s2).1) fun (s9 : ((Int × (List Int)) × (List Int))) => (((g__law_number s9.1 (400 : Int)) ∧ (g__law_number (p__law_number s9.1 (400 : Int)).2 (400 : Int))) ∧ (letY ((p__law_number (p__law_number s9.1 (400 : Int)).2 (400 : Int)).2, (p__law_number s9.1 (400 : Int)).1, (p__law_number (p__law_number s9.1 (400 : Int)).2 (400 : Int)).1) fun (s12 : ((Int × (List Int)) × Int × Int)) => ((g__law_pick s12.1 (24 : Int)) ∧ (letY ((p__law_pick s12.1 (24 : Int)).2, (p__law_pick s12.1 (24 : Int)).1) fun (s15 : ((Int × (List Int)) × Int)) => ((g__law_numbers s15.1) ∧ (letY ((p__law_numbers s15.1).2, (p__law_numbers s15.1).1) fun (s18 : ((Int × (List Int)) × (List Int))) => (((g__law_choices s18.1 s12.2.1 s12.2.2) ∧ ((!(p__law_choices s18.1 s12.2.1 s12.2.2).1) = false → g__law_products (p__law_choices s18.1 s12.2.1 s12.2.2).2 s18.2 s15.2 (min s12.2.2 (60 : Int)))) ∧ (((!(p__law_choices s18.1 s12.2.1 s12.2.2).1) || (!(p__law_products (p__law_choices s18.1 s12.2.1 s12.2.2).2 s18.2 s15.2 (min s12.2.2 (60 : Int))).1)) = true → True) ∧ (((!(p__law_choices s18.1 s12.2.1 s12.2.2).1) || (!(p__law_products (p__law_choices s18.1 s12.2.1 s12.2.2).2 s18.2 s15.2 (min s12.2.2 (60 : Int))).1)) = false → (((g__law_put_in (bif (!(p__law_choices s18.1 s12.2.1 s12.2.2).1) then (p__law_choices s18.1 s12.2.1 s12.2.2).2 else (p__law_products (p__law_choices s18.1 s12.2.1 s12.2.2).2 s18.2 s15.2 (min s12.2.2 (60 : Int))).2) s12.2.1 s12.2.2) ∧ ((!(p__law_put_in (bif (!(p__law_choices s18.1 s12.2.1 s12.2.2).1) then (p__law_choices s18.1 s12.2.1 s12.2.2).2 else (p__law_products (p__law_choices s18.1 s12.2.1 s12.2.2).2 s18.2 s15.2 (min s12.2.2 (60 : Int))).2) s12.2.1 s12.2.2).1) = false → g__law_turnings s12.2.1 s12.2.2)) ∧ (((!(p__law_put_in (bif (!(p__law_choices s18.1 s12.2.1 s12.2.2).1) then (p__law_choices s18.1 s12.2.1 s12.2.2).2 else (p__law_products (p__law_choices s18.1 s12.2.1 s12.2.2).2 s18.2 s15.2 (min s12.2.2 (60 : Int))).2) s12.2.1 s12.2.2).1) || (!(p__law_turnings s12.2.1 s12.2.2))) = true → True) ∧ (((!(p__law_put_in (bif (!(p__law_choices s18.1 s12.2.1 s12.2.2).1) then (p__law_choices s18.1 s12.2.1 s12.2.2).2 else (p__law_products (p__law_choices s18.1 s12.2.1 s12.2.2).2 s18.2 s15.2 (min s12.2.2 (60 : Int))).2) s12.2.1 s12.2.2).1) || (!(p__law_turnings s12.2.1 s12.2.2))) = false → (g__law_refusals (p__law_put_in (bif (!(p__law_choices s18.1 s12.2.1 s12.2.2).1) then (p__law_choices s18.1 s12.2.1 s12.2.2).2 else (p__law_products (p__law_choices s18.1 s12.2.1 s12.2.2).2 s18.2 s15.2 (min s12.2.2 (60 : Int))).2) s12.2.1 s12.2.2).2 s9.2)))))))))))))))
theorem s_law (script : (List Int)) (hg : g_law script) : f_law [(.leaf ((eF D.int) script))] = .ok (.leaf (D.bl (p_law script))) [] :=
  Y.fn_of (lent := []) (n := 7) (ρ := ([some (.leaf ((eF D.int) script)), none, none, none, none, none, none] : Q.Env)) (g := g_law script) (et := (fun b : Bool => .leaf (D.bl b))) (el := (fun b : Bool => [])) (v := p_law script) rfl
  (t_seqN (s := (p__law_purse script)) (show NY _ _ (g__law_purse script) (fun (s : (Int × (List Int))) (d : Unit) => ([some (.leaf ((eF D.int) script)), some ((oN (pC D.int (pZ (eL D.int)))) s), none, none, none, none, none] : Q.Env)) (p__law_purse script) from (fun (h1 : (g__law_purse script)) => ⟨(), (setO_eq (y_call (yc_val (y_v ((eF D.int) script) rfl) yc_nil) rfl (s__law_purse script h1) rfl rfl) rfl)⟩)) (fun s2 d3 => (t_seqN (s := ((mapS (fun (s7 : (Int × (List Int))) (x5 : Int) => ((p__law_pick s7 (2 : Int)).1, (p__law_pick s7 (2 : Int)).2)) (rangeY 0 (4 : Int)) s2).2, (mapS (fun (s7 : (Int × (List Int))) (x5 : Int) => ((p__law_pick s7 (2 : Int)).1, (p__law_pick s7 (2 : Int)).2)) (rangeY 0 (4 : Int)) s2).1)) (show NY _ _ (((rangeY 0 (4 : Int)).length ≤ big) ∧ (mapSG (fun (s7 : (Int × (List Int))) (x5 : Int) => (g__law_pick s7 (2 : Int))) (fun (s7 : (Int × (List Int))) (x5 : Int) => ((p__law_pick s7 (2 : Int)).1, (p__law_pick s7 (2 : Int)).2)) (rangeY 0 (4 : Int)) s2)) (fun (s : ((Int × (List Int)) × (List Int))) (d : Unit) => ([some (.leaf ((eF D.int) script)), some ((oN (pC D.int (pZ (eL D.int)))) s.1), some (.leaf ((eL D.int) s.2)), none, none, none, none] : Q.Env)) ((mapS (fun (s7 : (Int × (List Int))) (x5 : Int) => ((p__law_pick s7 (2 : Int)).1, (p__law_pick s7 (2 : Int)).2)) (rangeY 0 (4 : Int)) s2).2, (mapS (fun (s7 : (Int × (List Int))) (x5 : Int) => ((p__law_pick s7 (2 : Int)).1, (p__law_pick s7 (2 : Int)).2)) (rangeY 0 (4 : Int)) s2).1) from (fun (h4 : ((rangeY 0 (4 : Int)).length ≤ big) ∧ (mapSG (fun (s7 : (Int × (List Int))) (x5 : Int) => (g__law_pick s7 (2 : Int))) (fun (s7 : (Int × (List Int))) (x5 : Int) => ((p__law_pick s7 (2 : Int)).1, (p__law_pick s7 (2 : Int)).2)) (rangeY 0 (4 : Int)) s2)) => ⟨(), (set_eqL (e := D.int) (l := (mapS (fun (s7 : (Int × (List Int))) (x5 : Int) => ((p__law_pick s7 (2 : Int)).1, (p__law_pick s7 (2 : Int)).2)) (rangeY 0 (4 : Int)) s2).1) (y_compS (e := D.int) (e' := D.int) (l := (rangeY 0 (4 : Int))) (s := s2) (R := (fun (s7 : (Int × (List Int))) => ([some (.leaf ((eF D.int) script)), some ((oN (pC D.int (pZ (eL D.int)))) s7), none, none, none, none, none] : Q.Env))) (Rt := (fun (s7 : (Int × (List Int))) (x5 : Int) => ([some (.leaf ((eF D.int) script)), some ((oN (pC D.int (pZ (eL D.int)))) s7), none, none, some (.leaf (D.int x5)), none, none] : Q.Env))) (g := (fun (s7 : (Int × (List Int))) (x5 : Int) => (g__law_pick s7 (2 : Int)))) (f := (fun (s7 : (Int × (List Int))) (x5 : Int) => ((p__law_pick s7 (2 : Int)).1, (p__law_pick s7 (2 : Int)).2))) (R2 := (fun (s7 : (Int × (List Int))) (x5 : Int) => ([some (.leaf ((eF D.int) script)), some ((oN (pC D.int (pZ (eL D.int)))) s7), none, none, some (.leaf (D.int x5)), none, none] : Q.Env))) (yi_range1 (y_c (D.int 4)) (okR_small (by decide))) rfl (fun _ _ => rfl) (fun _ _ => rfl) h4.1 (fun s7 x5 => (fun (h8 : (g__law_pick s7 (2 : Int))) => (y_call (yc_lend (y_move (t := (oN (pC D.int (pZ (eL D.int)))) s7) rfl rfl) (yc_val (y_c (D.int 2)) yc_nil)) rfl (s__law_pick s7 (2 : Int) h8) rfl rfl))) h4.2) rfl)⟩)) (fun s9 d10 => (t_seqN (s := ((p__law_number (p__law_number s9.1 (400 : Int)).2 (400 : Int)).2, (p__law_number s9.1 (400 : Int)).1, (p__law_number (p__law_number s9.1 (400 : Int)).2 (400 : Int)).1)) (show NY _ _ ((g__law_number s9.1 (400 : Int)) ∧ (g__law_number (p__law_number s9.1 (400 : Int)).2 (400 : Int))) (fun (s : ((Int × (List Int)) × Int × Int)) (d : Unit) => ([some (.leaf ((eF D.int) script)), some ((oN (pC D.int (pZ (eL D.int)))) s.1), some (.leaf ((eL D.int) s9.2)), some (.leaf (D.int s.2.1)), some (.leaf (D.int s.2.2)), none, none] : Q.Env)) ((p__law_number (p__law_number s9.1 (400 : Int)).2 (400 : Int)).2, (p__law_number s9.1 (400 : Int)).1, (p__law_number (p__law_number s9.1 (400 : Int)).2 (400 : Int)).1) from (fun (h11 : (g__law_number s9.1 (400 : Int)) ∧ (g__law_number (p__law_number s9.1 (400 : Int)).2 (400 : Int))) => ⟨(), (par_eq (ya_cons (y_call (yc_lend (y_move (t := (oN (pC D.int (pZ (eL D.int)))) s9.1) rfl rfl) (yc_val (y_c (D.int 400)) yc_nil)) rfl (s__law_number s9.1 (400 : Int) h11.1) rfl rfl) (ya_cons (y_call (yc_lend (y_move (t := (oN (pC D.int (pZ (eL D.int)))) (p__law_number s9.1 (400 : Int)).2) rfl rfl) (yc_val (y_c (D.int 400)) yc_nil)) rfl (s__law_number (p__law_number s9.1 (400 : Int)).2 (400 : Int) h11.2) rfl rfl) ya_nil)) rfl rfl)⟩)) (fun s12 d13 => (t_seqN (s := ((p__law_pick s12.1 (24 : Int)).2, (p__law_pick s12.1 (24 : Int)).1)) (show NY _ _ (g__law_pick s12.1 (24 : Int)) (fun (s : ((Int × (List Int)) × Int)) (d : Unit) => ([some (.leaf ((eF D.int) script)), some ((oN (pC D.int (pZ (eL D.int)))) s.1), some (.leaf ((eL D.int) s9.2)), some (.leaf (D.int s12.2.1)), some (.leaf (D.int s12.2.2)), some (.leaf (D.int s.2)), none] : Q.Env)) ((p__law_pick s12.1 (24 : Int)).2, (p__law_pick s12.1 (24 : Int)).1) from (fun (h14 : (g__law_pick s12.1 (24 : Int))) => ⟨(), (set_eq (y_call (yc_lend (y_move (t := (oN (pC D.int (pZ (eL D.int)))) s12.1) rfl rfl) (yc_val (y_c (D.int 24)) yc_nil)) rfl (s__law_pick s12.1 (24 : Int) h14) rfl rfl) rfl)⟩)) (fun s15 d16 => (t_seqN (s := ((p__law_numbers s15.1).2, (p__law_numbers s15.1).1)) (show NY _ _ (g__law_numbers s15.1) (fun (s : ((Int × (List Int)) × (List Int))) (d : Unit) => ([some (.leaf ((eF D.int) script)), some ((oN (pC D.int (pZ (eL D.int)))) s.1), some (.leaf ((eL D.int) s9.2)), some (.leaf (D.int s12.2.1)), some (.leaf (D.int s12.2.2)), some (.leaf (D.int s15.2)), some (.leaf ((eL D.int) s.2))] : Q.Env)) ((p__law_numbers s15.1).2, (p__law_numbers s15.1).1) from (fun (h17 : (g__law_numbers s15.1)) => ⟨(), (set_eqL (e := D.int) (l := (p__law_numbers s15.1).1) (y_call (yc_lend (y_move (t := (oN (pC D.int (pZ (eL D.int)))) s15.1) rfl rfl) yc_nil) rfl (s__law_numbers s15.1 h17) rfl rfl) rfl)⟩)) (fun s18 d19 => (t_ifr (x := ((!(p__law_choices s18.1 s12.2.1 s12.2.2).1) || (!(p__law_products (p__law_choices s18.1 s12.2.1 s12.2.2).2 s18.2 s15.2 (min s12.2.2 (60 : Int))).1))) (fun (h20 : (g__law_choices s18.1 s12.2.1 s12.2.2) ∧ ((!(p__law_choices s18.1 s12.2.1 s12.2.2).1) = false → g__law_products (p__law_choices s18.1 s12.2.1 s12.2.2).2 s18.2 s15.2 (min s12.2.2 (60 : Int)))) => (y_orE (R := fun (s : (Int × (List Int))) => ([some (.leaf ((eF D.int) script)), some ((oN (pC D.int (pZ (eL D.int)))) s), some (.leaf ((eL D.int) s9.2)), some (.leaf (D.int s12.2.1)), some (.leaf (D.int s12.2.2)), some (.leaf (D.int s15.2)), some (.leaf ((eL D.int) s18.2))] : Q.Env)) (s1 := (p__law_choices s18.1 s12.2.1 s12.2.2).2) (s2 := (p__law_products (p__law_choices s18.1 s12.2.1 s12.2.2).2 s18.2 s15.2 (min s12.2.2 (60 : Int))).2) (y_not (y_test (y_call (yc_lend (y_move (t := (oN (pC D.int (pZ (eL D.int)))) s18.1) rfl rfl) (yc_val (y_v (D.int s12.2.1) rfl) (yc_val (y_v (D.int s12.2.2) rfl) yc_nil))) rfl (s__law_choices s18.1 s12.2.1 s12.2.2 h20.1) rfl rfl))) (fun k21 => (y_not (y_test (y_call (yc_lend (y_move (t := (oN (pC D.int (pZ (eL D.int)))) (p__law_choices s18.1 s12.2.1 s12.2.2).2) rfl rfl) (yc_val (y_v ((eL D.int) s18.2) rfl) (yc_val (y_v (D.int s15.2) rfl) (yc_val (y_min (y_v (D.int s12.2.2) rfl) (y_c (D.int 60))) yc_nil)))) rfl (s__law_products (p__law_choices s18.1 s12.2.1 s12.2.2).2 s18.2 s15.2 (min s12.2.2 (60 : Int)) (h20.2 k21)) rfl rfl)))))) (t_ret (v := (false : Bool)) (g := True) (fun (h22 : True) => (y_c (D.bl false))) rfl) (t_ifr (x := ((!(p__law_put_in (bif (!(p__law_choices s18.1 s12.2.1 s12.2.2).1) then (p__law_choices s18.1 s12.2.1 s12.2.2).2 else (p__law_products (p__law_choices s18.1 s12.2.1 s12.2.2).2 s18.2 s15.2 (min s12.2.2 (60 : Int))).2) s12.2.1 s12.2.2).1) || (!(p__law_turnings s12.2.1 s12.2.2)))) (fun (h23 : (g__law_put_in (bif (!(p__law_choices s18.1 s12.2.1 s12.2.2).1) then (p__law_choices s18.1 s12.2.1 s12.2.2).2 else (p__law_products (p__law_choices s18.1 s12.2.1 s12.2.2).2 s18.2 s15.2 (min s12.2.2 (60 : Int))).2) s12.2.1 s12.2.2) ∧ ((!(p__law_put_in (bif (!(p__law_choices s18.1 s12.2.1 s12.2.2).1) then (p__law_choices s18.1 s12.2.1 s12.2.2).2 else (p__law_products (p__law_choices s18.1 s12.2.1 s12.2.2).2 s18.2 s15.2 (min s12.2.2 (60 : Int))).2) s12.2.1 s12.2.2).1) = false → g__law_turnings s12.2.1 s12.2.2)) => (y_or (y_not (y_test (y_call (yc_lend (y_move (t := (oN (pC D.int (pZ (eL D.int)))) (bif (!(p__law_choices s18.1 s12.2.1 s12.2.2).1) then (p__law_choices s18.1 s12.2.1 s12.2.2).2 else (p__law_products (p__law_choices s18.1 s12.2.1 s12.2.2).2 s18.2 s15.2 (min s12.2.2 (60 : Int))).2)) rfl rfl) (yc_val (y_v (D.int s12.2.1) rfl) (yc_val (y_v (D.int s12.2.2) rfl) yc_nil))) rfl (s__law_put_in (bif (!(p__law_choices s18.1 s12.2.1 s12.2.2).1) then (p__law_choices s18.1 s12.2.1 s12.2.2).2 else (p__law_products (p__law_choices s18.1 s12.2.1 s12.2.2).2 s18.2 s15.2 (min s12.2.2 (60 : Int))).2) s12.2.1 s12.2.2 h23.1) rfl rfl))) (fun k24 => (y_not (y_test (y_call (yc_val (y_v (D.int s12.2.1) rfl) (yc_val (y_v (D.int s12.2.2) rfl) yc_nil)) rfl (s__law_turnings s12.2.1 s12.2.2 (h23.2 k24)) rfl rfl)))))) (t_ret (v := (false : Bool)) (g := True) (fun (h25 : True) => (y_c (D.bl false))) rfl) (t_ret (v := ((p__law_refusals (p__law_put_in (bif (!(p__law_choices s18.1 s12.2.1 s12.2.2).1) then (p__law_choices s18.1 s12.2.1 s12.2.2).2 else (p__law_products (p__law_choices s18.1 s12.2.1 s12.2.2).2 s18.2 s15.2 (min s12.2.2 (60 : Int))).2) s12.2.1 s12.2.2).2 s9.2).1 : Bool)) (g := (g__law_refusals (p__law_put_in (bif (!(p__law_choices s18.1 s12.2.1 s12.2.2).1) then (p__law_choices s18.1 s12.2.1 s12.2.2).2 else (p__law_products (p__law_choices s18.1 s12.2.1 s12.2.2).2 s18.2 s15.2 (min s12.2.2 (60 : Int))).2) s12.2.1 s12.2.2).2 s9.2)) (fun (h26 : (g__law_refusals (p__law_put_in (bif (!(p__law_choices s18.1 s12.2.1 s12.2.2).1) then (p__law_choices s18.1 s12.2.1 s12.2.2).2 else (p__law_products (p__law_choices s18.1 s12.2.1 s12.2.2).2 s18.2 s15.2 (min s12.2.2 (60 : Int))).2) s12.2.1 s12.2.2).2 s9.2)) => (y_call (yc_lend (y_move (t := (oN (pC D.int (pZ (eL D.int)))) (p__law_put_in (bif (!(p__law_choices s18.1 s12.2.1 s12.2.2).1) then (p__law_choices s18.1 s12.2.1 s12.2.2).2 else (p__law_products (p__law_choices s18.1 s12.2.1 s12.2.2).2 s18.2 s15.2 (min s12.2.2 (60 : Int))).2) s12.2.1 s12.2.2).2) rfl rfl) (yc_val (y_v ((eL D.int) s9.2) rfl) yc_nil)) rfl (s__law_refusals (p__law_put_in (bif (!(p__law_choices s18.1 s12.2.1 s12.2.2).1) then (p__law_choices s18.1 s12.2.1 s12.2.2).2 else (p__law_products (p__law_choices s18.1 s12.2.1 s12.2.2).2 s18.2 s15.2 (min s12.2.2 (60 : Int))).2) s12.2.1 s12.2.2).2 s9.2 h26) rfl rfl)) rfl) ) ))))))))))) hg
end Law

set_option maxHeartbeats 4000000
set_option exponentiation.threshold 200000
namespace Law
open PySem L2 Q Y
theorem forB_at {α σ : Type} {g : α → σ → Prop} {f : α → σ → C σ σ Empty} (P : Nat → σ → Prop) (hm : ∀ i s, P i s → P (i + 1) s) : ∀ (l : List α) (j : Nat) (s : σ), P j s → (∀ a i s, i < j + l.length → P i s → g a s ∧ ∀ s1, (f a s = .nx s1 ∨ f a s = .ct s1 ∨ f a s = .bk s1) → P (i + 1) s1) → forG g f l s ∧ P (j + l.length) (forB f l s)
  | [], j, s, h, _ => ⟨trivial, h⟩
  | a :: r, j, s, h, hs => by
    have h0 := hs a j s (by simp) h
    have up : ∀ d i s, P i s → P (i + d) s := by
      intro d
      induction d with
      | zero => intro i s h; exact h
      | succ d ih => intro i s h; exact hm _ _ (ih i s h)
    simp only [forG, forB]
    rw [show j + (a :: r).length = j + 1 + r.length by simp; omega]
    cases c : f a s with
    | nx s1 =>
      have ih := forB_at P hm r (j + 1) s1 (h0.2 s1 (.inl c)) fun b i t hi hp => hs b i t (by simp; omega) hp
      exact ⟨⟨h0.1, ih.1⟩, ih.2⟩
    | ct s1 =>
      have ih := forB_at P hm r (j + 1) s1 (h0.2 s1 (.inr (.inl c))) fun b i t hi hp => hs b i t (by simp; omega) hp
      exact ⟨⟨h0.1, ih.1⟩, ih.2⟩
    | bk s1 => exact ⟨⟨h0.1, trivial⟩, up r.length (j + 1) s1 (h0.2 s1 (.inr (.inr c)))⟩
    | rt b => exact nomatch b
theorem purse_ok (ns : List Int) : g__law_purse ns ∧ ∃ fs : List Int, p__law_purse ns = (((0 : Nat) : Int), fs) := by
  have hlen : (min (ns.length : Int) 24 - 0).toNat = min ns.length 24 := by omega
  have L := fold_range (g := gb__law_purse_2 ns) (f := b__law_purse_2 ns) (fun i (s : List Int) => i ≤ 24 ∧ s.length ≤ 20 * i) (lo := 0) (hi := min (ns.length : Int) 24) (n := min ns.length 24) hlen (s := []) ⟨by omega, by simp⟩ fun i s hi e => by
    have B := forB_at (g := gb__law_purse_1) (f := b__law_purse_1) (fun t (s : List Int × Int) => s.1.length ≤ 20 * i + t ∧ True) (fun _ _ h => ⟨by have := h.1; omega, trivial⟩) (rangeY 0 20) 0 (s, ixY ns (0 + (i : Int)) % 24 ^ (20 : Int).toNat) ⟨by simpa using e.2, trivial⟩ fun a t s ht h => by
      unfold gb__law_purse_1 b__law_purse_1
      simp only [letY]
      have ht : t < 20 := by simpa [rangeY_len] using ht
      refine ⟨⟨by have := e.1; have := h.1; omega, trivial, fun _ => trivial, fun _ => trivial⟩, fun s1 h1 => ?_⟩
      have : s1.1 = s.1 ++ [s.2 % 24] := by
        by_cases hz : s.2 / 24 = 0
        · rw [decide_eq_true hz, cond_true] at h1
          rcases h1 with h1 | h1 | h1 <;> cases h1
          rfl
        · rw [decide_eq_false hz, cond_false] at h1
          rcases h1 with h1 | h1 | h1 <;> cases h1
          rfl
      have h0 := h.1
      refine ⟨?_, trivial⟩
      rw [this]
      simp
      omega
    unfold gb__law_purse_2 b__law_purse_2
    simp only [letY]
    refine ⟨⟨⟨okIx_nat (by omega), by unfold okPow; decide, by decide⟩, trivial, B.1⟩, by omega, ?_⟩
    have := B.2.1
    rw [Nat.zero_add, show (rangeY 0 20).length = 20 by rfl] at this
    omega
  unfold g__law_purse p__law_purse
  simp only [letY]
  exact ⟨⟨okRn (by omega), L.1⟩, _, rfl⟩
theorem number_ok (fs : List Int) (k : Nat) : g__law_number ((k : Int), fs) 400 ∧ ∃ n : Nat, n ≤ 400 ∧ ∃ k1 : Nat, p__law_number ((k : Int), fs) 400 = ((n : Int), ((k1 : Int), fs)) := by
  obtain ⟨g1, v, hv, e1⟩ := pick_ok fs k 6 (by decide)
  obtain ⟨g2, l, hl, e2⟩ := pick_ok fs (k + 1) 24 (by decide)
  obtain ⟨g3, h, hh, e3⟩ := pick_ok fs (k + 1 + 1) 17 (by decide)
  have a1 : (24 : Int) * ((h : Int) % 5) + (l : Int) = ((24 * (h % 5) + l : Nat) : Int) := by omega
  have a2 : (24 : Int) * (h : Int) + (l : Int) = ((24 * h + l : Nat) : Int) := by omega
  have it : ∃ c : Nat, ixY ([(5 : Int), (0 : Int), (1 : Int), (l : Int), ((24 * (h % 5) + l : Nat) : Int), ((24 * h + l : Nat) : Int)] : List Int) (v : Int) = (c : Int) := by
    have : v = 0 ∨ v = 1 ∨ v = 2 ∨ v = 3 ∨ v = 4 ∨ v = 5 := by omega
    rcases this with rfl | rfl | rfl | rfl | rfl | rfl
    · exact ⟨5, rfl⟩
    · exact ⟨0, rfl⟩
    · exact ⟨1, rfl⟩
    · exact ⟨l, rfl⟩
    · exact ⟨24 * (h % 5) + l, rfl⟩
    · exact ⟨24 * h + l, rfl⟩
  obtain ⟨c, hc⟩ := it
  unfold g__law_number p__law_number
  rw [e1]
  simp only [letY]
  rw [e2]
  simp only []
  rw [e3]
  simp only []
  rw [a1, a2, hc]
  refine ⟨⟨g1, ⟨g2, g3⟩, ?_, okMn (x := 24) 5 5 (by decide) (by omega) (by decide) (by decide), okIx_nat ⟨by omega, by simpa using hv⟩⟩, min c 400, by omega, k + 1 + 1 + 1, ?_⟩
  · rw [show (h : Int) % 5 = ((h % 5 : Nat) : Int) by omega]
    exact okMn (x := 24) 5 5 (by decide) (by omega) (by decide) (by decide)
  · rw [show min (c : Int) 400 = ((min c 400 : Nat) : Int) by omega]
theorem numbers_ok (fs : List Int) (k : Nat) : g__law_numbers ((k : Int), fs) ∧ ∃ l : List Nat, l.length ≤ 12 ∧ (∀ x ∈ l, 1 + x ≤ 2 ^ 12) ∧ ∃ k1 : Nat, p__law_numbers ((k : Int), fs) = (zl l, ((k1 : Int), fs)) := by
  obtain ⟨g1, v, hv, e1⟩ := pick_ok fs k 6 (by decide)
  have it : ∃ c : Nat, c ≤ 12 ∧ ixY ([(3 : Int), (1 : Int), (0 : Int), (2 : Int), (8 : Int), (12 : Int)] : List Int) (v : Int) = (c : Int) := by
    have : v = 0 ∨ v = 1 ∨ v = 2 ∨ v = 3 ∨ v = 4 ∨ v = 5 := by omega
    rcases this with rfl | rfl | rfl | rfl | rfl | rfl
    · exact ⟨3, by omega, rfl⟩
    · exact ⟨1, by omega, rfl⟩
    · exact ⟨0, by omega, rfl⟩
    · exact ⟨2, by omega, rfl⟩
    · exact ⟨8, by omega, rfl⟩
    · exact ⟨12, by omega, rfl⟩
  obtain ⟨c, hc, ec⟩ := it
  have L := fold_range (g := gb__law_numbers_1) (f := b__law_numbers_1) (fun i (s : (Int × List Int) × List Int) => i ≤ 12 ∧ ∃ (k1 : Nat) (l : List Nat), l.length = i ∧ (∀ x ∈ l, 1 + x ≤ 2 ^ 12) ∧ s = (((k1 : Int), fs), zl l)) (lo := 0) (hi := (c : Int)) (n := c) (by omega) (s := ((((k + 1 : Nat) : Int), fs), [])) ⟨by omega, k + 1, [], rfl, by simp, rfl⟩ fun i s hi e => by
    obtain ⟨hi12, k1, l, hl, hx, e⟩ := e
    subst e
    obtain ⟨g2, a, ha, e2⟩ := pick_ok fs k1 5 (by decide)
    obtain ⟨g3, b, hb, e3⟩ := pick_ok fs (k1 + 1) 24 (by decide)
    have it : ∃ c : Nat, c ≤ 2000 ∧ ixY ([(0 + (i : Int) + (2 : Int)), (0 : Int), (1 : Int), (b : Int), ((2000 : Int) - (b : Int))] : List Int) (a : Int) = (c : Int) := by
      have : a = 0 ∨ a = 1 ∨ a = 2 ∨ a = 3 ∨ a = 4 := by omega
      rcases this with rfl | rfl | rfl | rfl | rfl
      · exact ⟨i + 2, by omega, by show 0 + (i : Int) + 2 = _; omega⟩
      · exact ⟨0, by omega, rfl⟩
      · exact ⟨1, by omega, rfl⟩
      · exact ⟨b, by omega, rfl⟩
      · exact ⟨2000 - b, by omega, by show (2000 : Int) - (b : Int) = _; omega⟩
    obtain ⟨q, hq, eq⟩ := it
    unfold gb__law_numbers_1 b__law_numbers_1
    simp only []
    rw [e2]
    simp only []
    rw [e3]
    simp only [letY]
    rw [eq]
    refine ⟨⟨⟨g2, g3⟩, okIx_nat ⟨by omega, by simpa using ha⟩, by rw [zl_len]; omega⟩, by omega, k1 + 1 + 1, l ++ [q], by simp; omega, fun x hx' => ?_, by simp [zl]⟩
    rcases List.mem_append.mp hx' with h | h
    · exact hx x h
    · simp at h; omega
  obtain ⟨L1, _, k1, l, hl, hx, e⟩ := L
  unfold g__law_numbers p__law_numbers
  rw [e1]
  simp only [letY]
  rw [ec, e]
  exact ⟨⟨⟨g1, okIx_nat ⟨by omega, by simpa using hv⟩, okRn (by omega)⟩, L1⟩, l, by omega, hx, k1, rfl⟩
theorem law_holds (ns : List Int) : g_law ns ∧ p_law ns = true := by
  obtain ⟨g0, fs, e0⟩ := purse_ok ns
  obtain ⟨m0, v0, _, f0⟩ := pick_ok fs 0 2 (by decide)
  obtain ⟨m1, v1, _, f1⟩ := pick_ok fs (0 + 1) 2 (by decide)
  obtain ⟨m2, v2, _, f2⟩ := pick_ok fs (0 + 1 + 1) 2 (by decide)
  obtain ⟨m3, v3, _, f3⟩ := pick_ok fs (0 + 1 + 1 + 1) 2 (by decide)
  have r4 : rangeY 0 (4 : Int) = [0, 1, 2, 3] := by rfl
  have ms : mapS (fun (s7 : (Int × (List Int))) (x5 : Int) => ((p__law_pick s7 (2 : Int)).1, (p__law_pick s7 (2 : Int)).2)) [0, 1, 2, 3] (((0 : Nat) : Int), fs) = ([(v0 : Int), v1, v2, v3], (((0 + 1 + 1 + 1 + 1 : Nat) : Int), fs)) := by
    simp only [mapS]
    rw [f0]
    simp only []
    rw [f1]
    simp only []
    rw [f2]
    simp only []
    rw [f3]
  have mg : mapSG (fun (s7 : (Int × (List Int))) (x5 : Int) => (g__law_pick s7 (2 : Int))) (fun (s7 : (Int × (List Int))) (x5 : Int) => ((p__law_pick s7 (2 : Int)).1, (p__law_pick s7 (2 : Int)).2)) [0, 1, 2, 3] (((0 : Nat) : Int), fs) := by
    simp only [mapSG]
    refine ⟨m0, ?_⟩
    rw [f0]
    refine ⟨m1, ?_⟩
    rw [f1]
    refine ⟨m2, ?_⟩
    rw [f2]
    exact ⟨m3, trivial⟩
  obtain ⟨gn, n, hn, k1, en⟩ := number_ok fs (0 + 1 + 1 + 1 + 1)
  obtain ⟨gk, k, hk, k2, ek⟩ := number_ok fs k1
  obtain ⟨gz, z, hz, ez⟩ := pick_ok fs k2 24 (by decide)
  obtain ⟨gl, l, hl, hx, k3, el⟩ := numbers_ok fs (k2 + 1)
  obtain ⟨gc, k4, ec⟩ := choices_true fs k3 n k hn hk
  obtain ⟨gp, k5, ep⟩ := products_true fs k4 l z (min k 60) hl hx (by omega) (by omega)
  obtain ⟨gi, k6, ei⟩ := put_in_true fs k5 n k hn hk
  have tt := turnings_true n k hn hk
  obtain ⟨gr, k7, er⟩ := refusals_true fs k6 [(v0 : Int), v1, v2, v3] (by simp)
  have a1 : min (k : Int) 60 = ((min k 60 : Nat) : Int) := by omega
  have bg : (20 : Nat) ≤ big := by decide
  unfold g_law p_law
  rw [e0, r4]
  simp only [letY]
  rw [ms]
  simp only []
  rw [en]
  simp only []
  rw [ek]
  simp only []
  rw [ez]
  simp only []
  rw [el]
  simp only []
  rw [ec, a1]
  simp only []
  rw [ep]
  simp only [Bool.not_true, cond_false]
  rw [ei]
  simp only [Bool.not_true, Bool.or_self, cond_false, tt.2]
  rw [er]
  refine ⟨⟨g0, ⟨by simp; omega, mg⟩, ⟨gn, gk⟩, gz, gl, ⟨gc, fun _ => gp⟩, fun _ => trivial, fun _ => ⟨⟨gi, fun _ => tt.1⟩, fun _ => trivial, fun _ => gr⟩⟩, rfl⟩
theorem law_true (ns : List Int) (hn : ns.length ≤ 63) : f_law [.leaf (.fz (ns.map D.int))] = .ok (.leaf (.bl true)) [] := by
  have h := law_holds ns
  have s := s_law ns h.1
  rw [h.2] at s
  exact s
end Law


namespace Law
open PySem PySem.Spec PyProof.Rows L2 He Q
/-! ### the head, the end -/
abbrev R : PySem.W.OpenRow := PySem.W.OpenLaw.row PySem.Challenge.rw_nodisguise_k15_formulas_great
abbrev hk : PySem.W.Hook := hookQ 5 ts fn
def ob (s : PySem.W.SharedT) : Al := obsQG 5 ts fn (HandSHeadRun.getT s)
theorem ob_eq (s : PySem.W.SharedT) : ob s = hk.obs s.abs := obsQG_eq (HandSHeadRun.getT_eq s)
def names : List PySem.Str := (["DisguiseError", "BadNumber", "BadLot", "BadCase", "is_int", "is_list", "plain_form", "check_number", "check_most", "check_counts", "chosen", "times_over", "product_sums", "choose", "symmetric", "mixed_ways", "lookalike_number", "noise_number", "scattered_number", "doubling_number"] : List PySem.Str) ++ (["turning_number", "turning_by", "_law_purse", "_law_pick", "_law_number", "_law_numbers", "_law_power", "_law_choose", "_law_pascal", "_law_sums", "_law_scattered", "_law_turned", "_law_same", "_law_choices", "_law_products", "_law_put_in", "_law_turnings", "_law_call", "_law_is_heard", "_law_first_told"] : List PySem.Str) ++ (["_law_wrong", "_law_refusals"] : List PySem.Str)
set_option maxHeartbeats 0 in
theorem run (w : World) : HandSHeadRun.RunEq R (PySem.W.view R.prog [46]) hk ob 20000 names w := by
  intro os
  kernel_rfl
end Law
open PySem PySem.W PySem.Calls PyProof.Rows in
set_option maxHeartbeats 0 in
theorem PySem.Challenge.cw_nodisguise_k15_formulas_great_holds : PySem.Challenge.rw_nodisguise_k15_formulas_great.Holds := by
  w_on; o_law
  refine HandSHeadRun.head_any (r := OpenLaw.row PySem.Challenge.rw_nodisguise_k15_formulas_great) (q := view (OpenLaw.row PySem.Challenge.rw_nodisguise_k15_formulas_great).prog [46]) (H := Law.hk) (ob := Law.ob) (M := 20000) (loose := Law.names) (d := HandSHeadRun.topDef (OpenLaw.row PySem.Challenge.rw_nodisguise_k15_formulas_great).prog 46) (kwd := []) Law.ob_eq
    (by kernel_rfl) (fun s => by kernel_rfl) Law.run (by kernel_rfl) (by kernel_rfl) (by kernel_rfl) (by rfl) (by first | assumption | decide +kernel) (by decide +kernel) ⟨rfl, rfl, rfl, rfl, rfl, by decide +kernel⟩ ?hw ?hc
  case hw => w_witness2
  case hc =>
    refine Q.walkQ (l := PySem.Challenge.rw_nodisguise_k15_formulas_great) (n := 63) (k := 49) (x := "script") (m := Law.f_law) rfl (by decide) (by kernel_rfl) ⟨rfl, by decide, by decide⟩ ?F Law.law_true
    intro w mg h Y G
    obtain ⟨K, KX, c⟩ := Y
    refine ⟨K, KX, fun base _ _ => ?_⟩
    have e : (HandSHeadRun.topDef (OpenLaw.row PySem.Challenge.rw_nodisguise_k15_formulas_great).prog 46).name = ("law" : PySem.Str) := by kernel_rfl
    rw [e]
    exact Law.ok_law ⟨⟨h, KX, G⟩, c⟩
