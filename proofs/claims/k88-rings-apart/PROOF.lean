import PyProof.Rows.All
import Wide.All
import OpenK.AllK
import Wide.FinOn
import HandS.ForMost
import HandS.ForExc
import HandS.ExcCtx
import HandS.HotCalls
import HandS.ExcInitHot
import HandS.ExcOwn
import HandS.TryOnly
import HandS.TryMany
import HandS.WordsExc
import HandS.Comp
import HandS.Iter
import HandS.Wide
import HandS.TupAny
import HandS.TupMul
import HandS.IsInst
import HandS.Deep
import HandS.Text
import HandS.StrMore
import HandS.SortInts
import KE.OsSort
import HandS.ExcInit
import HandS.ExcField
import HandS.Hot
import HandS.Strs
import HandS.Replace
import HandS.FStrTup
import HandS.Head2
import HandS.HeadEnd
import HandS.HeadHook1
import HandS.TupSets
import PySem.Challenge.RW_nodisguise_k88_rings_apart
set_option Elab.async false
set_option linter.all false
set_option maxRecDepth 100000
/-! Core of my own layer over HandS: pure data, ownership of mutable lists, the state's invariant. -/
namespace Q
open PySem PySem.Spec PyProof.Rows L2

/-! ### data -/
inductive D where
  | non | bl (b : Bool) | int (i : Int) | str (s : Str)
  | tup (ds : List D) | lst (ds : List D) | fz (ds : List D)
  | glo (x : Str)
  deriving Inhabited
/-- what a slot holds: data that nobody changes, or a list that this slot alone owns -/
inductive T where
  | leaf (d : D)
  | node (ts : List T)
  deriving Inhabited
mutual
def T.toD : T → D
  | .leaf d => d
  | .node ts => .lst (T.toDs ts)
def T.toDs : List T → List D
  | [] => []
  | t :: ts => t.toD :: T.toDs ts
end
theorem T.toDs_map : ∀ ts : List T, T.toDs ts = ts.map T.toD
  | [] => rfl
  | t :: ts => by rw [T.toDs, T.toDs_map ts]; rfl

structure Gx where
  K : PySem.W.Frag
  mg : Str → Option Value

mutual
def Rep (G : Gx) (H : Hp) : D → V → Prop
  | .non, v => v = .non
  | .bl b, v => v = .bl b
  | .int i, v => v = .int i
  | .str s, v => v = .str s
  | .tup ds, v => ∃ a xs, v = .ref a ∧ SqT G.K H a xs ∧ Reps G H ds xs
  | .lst ds, v => ∃ a xs, v = .ref a ∧ H a = some (.lst xs) ∧ Reps G H ds xs
  | .fz ds, v => ∃ a xs, v = .ref a ∧ SqL G.K H a xs ∧ Reps G H ds xs
  | .glo x, v => ∃ u, G.mg x = some u ∧ RelV v u
def Reps (G : Gx) (H : Hp) : List D → List V → Prop
  | [], xs => xs = []
  | d :: ds, xs => ∃ x r, xs = x :: r ∧ Rep G H d x ∧ Reps G H ds r
end

theorem SqT.same {K : PySem.W.Frag} {H H' : Hp} {a : Addr} {xs : List V} (e : Same H H') (h : SqT K H a xs) : SqT K H' a xs := by
  rcases h with (h | ⟨o, h⟩) | h
  · exact .inl (.inl (e _ _ h))
  · exact .inl (.inr ⟨o, e _ _ h⟩)
  · exact .inr h
mutual
theorem rep_mono {G : Gx} {H H' : Hp} (s : Same H H') : ∀ (d : D) {v : V}, Rep G H d v → Rep G H' d v
  | .non, v, h => h
  | .bl _, v, h => h
  | .int _, v, h => h
  | .str _, v, h => h
  | .tup ds, v, ⟨a, xs, e, q, r⟩ => ⟨a, xs, e, SqT.same s q, reps_mono s ds r⟩
  | .lst ds, v, ⟨a, xs, e, q, r⟩ => ⟨a, xs, e, s _ _ q, reps_mono s ds r⟩
  | .fz ds, v, ⟨a, xs, e, q, r⟩ => ⟨a, xs, e, s.seq q, reps_mono s ds r⟩
  | .glo x, v, h => h
theorem reps_mono {G : Gx} {H H' : Hp} (s : Same H H') : ∀ (ds : List D) {xs : List V}, Reps G H ds xs → Reps G H' ds xs
  | [], xs, h => h
  | d :: ds, xs, ⟨x, r, e, h1, h2⟩ => ⟨x, r, e, rep_mono s d h1, reps_mono s ds h2⟩
end
theorem Reps.length {G : Gx} {H : Hp} : ∀ {ds : List D} {xs : List V}, Reps G H ds xs → xs.length = ds.length
  | [], xs, h => by rw [show xs = [] from h]; rfl
  | d :: ds, xs, ⟨x, r, e, _, h⟩ => by rw [e, List.length_cons, List.length_cons, Reps.length h]
theorem Reps.get {G : Gx} {H : Hp} : ∀ {ds : List D} {xs : List V} {i : Nat} {d : D}, Reps G H ds xs → ds[i]? = some d → ∃ x, xs[i]? = some x ∧ Rep G H d x
  | [], xs, i, d, h, e => by simp at e
  | d :: ds, xs, 0, d', ⟨x, r, e, h1, _⟩, q => by
    simp at q; subst q; subst e; exact ⟨x, rfl, h1⟩
  | d :: ds, xs, i + 1, d', ⟨x, r, e, _, h⟩, q => by
    subst e; obtain ⟨y, e1, e2⟩ := Reps.get (i := i) h (by simpa using q); exact ⟨y, by simpa using e1, e2⟩
theorem Reps.getV {G : Gx} {H : Hp} : ∀ {ds : List D} {xs : List V} {i : Nat} {x : V}, Reps G H ds xs → xs[i]? = some x → ∃ d, ds[i]? = some d ∧ Rep G H d x
  | [], xs, i, x, h, e => by rw [show xs = [] from h] at e; simp at e
  | d :: ds, xs, 0, x, ⟨y, r, e, h1, _⟩, q => by
    subst e; simp at q; subst q; exact ⟨d, rfl, h1⟩
  | d :: ds, xs, i + 1, x, ⟨y, r, e, _, h⟩, q => by
    subst e; obtain ⟨z, e1, e2⟩ := Reps.getV (i := i) h (by simpa using q); exact ⟨z, by simpa using e1, e2⟩
theorem Reps.append {G : Gx} {H : Hp} : ∀ {ds es : List D} {xs ys : List V}, Reps G H ds xs → Reps G H es ys → Reps G H (ds ++ es) (xs ++ ys)
  | [], es, xs, ys, h, q => by rw [show xs = [] from h]; exact q
  | d :: ds, es, xs, ys, ⟨x, r, e, h1, h⟩, q => by subst e; exact ⟨x, r ++ ys, rfl, h1, Reps.append h q⟩
theorem Reps.take {G : Gx} {H : Hp} : ∀ {ds : List D} {xs : List V} (n : Nat), Reps G H ds xs → Reps G H (ds.take n) (xs.take n)
  | ds, xs, 0, h => rfl
  | [], xs, n + 1, h => by rw [show xs = [] from h]; rfl
  | d :: ds, xs, n + 1, ⟨x, r, e, h1, h⟩ => by subst e; exact ⟨x, r.take n, rfl, h1, Reps.take n h⟩
theorem Reps.drop {G : Gx} {H : Hp} : ∀ {ds : List D} {xs : List V} (n : Nat), Reps G H ds xs → Reps G H (ds.drop n) (xs.drop n)
  | ds, xs, 0, h => h
  | [], xs, n + 1, h => by rw [show xs = [] from h]; rfl
  | d :: ds, xs, n + 1, ⟨x, r, e, h1, h⟩ => by subst e; exact Reps.drop n h
theorem reps_iff {G : Gx} {H : Hp} {ds : List D} {xs : List V} (hl : xs.length = ds.length) (h : ∀ (i : Nat) (d : D) (x : V), ds[i]? = some d → xs[i]? = some x → Rep G H d x) : Reps G H ds xs := by
  induction ds generalizing xs with
  | nil => cases xs with
    | nil => rfl
    | cons _ _ => simp at hl
  | cons d ds ih =>
    cases xs with
    | nil => simp at hl
    | cons x r =>
      refine ⟨x, r, rfl, h 0 d x rfl rfl, ih (by simpa using hl) fun i d' x' e1 e2 => h (i + 1) d' x' (by simpa using e1) (by simpa using e2)⟩
theorem Reps.ints {G : Gx} {H : Hp} : ∀ {ns : List Int} {xs : List V}, Reps G H (ns.map D.int) xs ↔ xs = ns.map V.int
  | [], xs => by simp [Reps]
  | n :: ns, xs => by
    constructor
    · rintro ⟨x, r, rfl, h1, h2⟩
      rw [show x = V.int n from h1, Reps.ints.mp h2]; rfl
    · rintro rfl
      exact ⟨_, _, rfl, rfl, Reps.ints.mpr rfl⟩

/-! ### ownership -/
def mask (H : Hp) (F : List Addr) : Hp := fun b => if b ∈ F then none else H b
theorem mask_in {H : Hp} {F : List Addr} {b : Addr} (h : b ∈ F) : mask H F b = none := if_pos h
theorem mask_out {H : Hp} {F : List Addr} {b : Addr} (h : b ∉ F) : mask H F b = H b := if_neg h
theorem mask_some {H : Hp} {F : List Addr} {b : Addr} {o : HO} (h : mask H F b = some o) : b ∉ F ∧ H b = some o := by
  by_cases q : b ∈ F
  · rw [mask_in q] at h; cases h
  · rw [mask_out q] at h; exact ⟨q, h⟩
theorem mask_same (H : Hp) (F : List Addr) : Same (mask H F) H := fun b o h => (mask_some h).2
theorem mask_mono {H H' : Hp} {F F' : List Addr} (h : ∀ b o, H b = some o → b ∉ F → H' b = some o ∧ b ∉ F') : Same (mask H F) (mask H' F') := fun b o e => by
  obtain ⟨n, e⟩ := mask_some e
  obtain ⟨e', n'⟩ := h b o e n
  rw [mask_out n']; exact e'

mutual
def RepT (G : Gx) (H Hm : Hp) : T → V → List Addr → Prop
  | .leaf d, v, F => F = [] ∧ Rep G Hm d v
  | .node ts, v, F => ∃ a xs F', v = .ref a ∧ H a = some (.lst xs) ∧ F = a :: F' ∧ RepTs G H Hm ts xs F'
def RepTs (G : Gx) (H Hm : Hp) : List T → List V → List Addr → Prop
  | [], xs, F => xs = [] ∧ F = []
  | t :: ts, xs, F => ∃ x r F1 F2, xs = x :: r ∧ F = F1 ++ F2 ∧ RepT G H Hm t x F1 ∧ RepTs G H Hm ts r F2
end
mutual
theorem repT_mono {G : Gx} {H Hm H' Hm' : Hp} (s : Same Hm Hm') : ∀ (t : T) {v : V} {F : List Addr}, RepT G H Hm t v F → (∀ b ∈ F, H' b = H b) → RepT G H' Hm' t v F
  | .leaf d, v, F, ⟨e, h⟩, _ => ⟨e, rep_mono s d h⟩
  | .node ts, v, F, ⟨a, xs, F', e, h, eF, r⟩, k => ⟨a, xs, F', e, by rw [k a (by rw [eF]; exact List.mem_cons_self)]; exact h, eF,
      repTs_mono s ts r fun b hb => k b (by rw [eF]; exact List.mem_cons_of_mem _ hb)⟩
theorem repTs_mono {G : Gx} {H Hm H' Hm' : Hp} (s : Same Hm Hm') : ∀ (ts : List T) {xs : List V} {F : List Addr}, RepTs G H Hm ts xs F → (∀ b ∈ F, H' b = H b) → RepTs G H' Hm' ts xs F
  | [], xs, F, h, _ => h
  | t :: ts, xs, F, ⟨x, r, F1, F2, e, eF, h1, h2⟩, k => ⟨x, r, F1, F2, e, eF, repT_mono s t h1 fun b hb => k b (by rw [eF]; exact List.mem_append_left _ hb),
      repTs_mono s ts h2 fun b hb => k b (by rw [eF]; exact List.mem_append_right _ hb)⟩
end
mutual
theorem repT_toD {G : Gx} {H Hm Hm' : Hp} (s : Same Hm Hm') : ∀ (t : T) {v : V} {F : List Addr}, RepT G H Hm t v F → (∀ b ∈ F, Hm' b = H b) → Rep G Hm' t.toD v
  | .leaf d, v, F, ⟨e, h⟩, _ => rep_mono s d h
  | .node ts, v, F, ⟨a, xs, F', e, h, eF, r⟩, k => ⟨a, xs, e, (by rw [k a (by rw [eF]; exact List.mem_cons_self)]; exact h),
      repTs_toD s ts r fun b hb => k b (by rw [eF]; exact List.mem_cons_of_mem _ hb)⟩
theorem repTs_toD {G : Gx} {H Hm Hm' : Hp} (s : Same Hm Hm') : ∀ (ts : List T) {xs : List V} {F : List Addr}, RepTs G H Hm ts xs F → (∀ b ∈ F, Hm' b = H b) → Reps G Hm' (T.toDs ts) xs
  | [], xs, F, h, _ => h.1
  | t :: ts, xs, F, ⟨x, r, F1, F2, e, eF, h1, h2⟩, k => ⟨x, r, e, repT_toD s t h1 fun b hb => k b (by rw [eF]; exact List.mem_append_left _ hb),
      repTs_toD s ts h2 fun b hb => k b (by rw [eF]; exact List.mem_append_right _ hb)⟩
end
/-- the footprint is held by the heap -/
theorem repT_there {G : Gx} {H Hm : Hp} : ∀ (t : T) {v : V} {F : List Addr}, RepT G H Hm t v F → ∀ b ∈ F, ∃ xs, H b = some (.lst xs) := by
  have both : (∀ (t : T) (v : V) (F : List Addr), RepT G H Hm t v F → ∀ b ∈ F, ∃ xs, H b = some (.lst xs)) := by
    intro t
    refine T.rec (motive_1 := fun t => ∀ (v : V) (F : List Addr), RepT G H Hm t v F → ∀ b ∈ F, ∃ xs, H b = some (.lst xs))
      (motive_2 := fun ts => ∀ (xs : List V) (F : List Addr), RepTs G H Hm ts xs F → ∀ b ∈ F, ∃ xs, H b = some (.lst xs)) ?_ ?_ ?_ ?_ t
    · rintro d v F ⟨e, _⟩ b hb
      rw [e] at hb; cases hb
    · rintro ts ih v F ⟨a, xs, F', e, h, eF, r⟩ b hb
      rw [eF] at hb
      rcases List.mem_cons.mp hb with z | z
      · exact ⟨xs, by rw [z]; exact h⟩
      · exact ih _ _ r b z
    · rintro xs F ⟨_, e⟩ b hb
      rw [e] at hb; cases hb
    · rintro t ts ih1 ih2 xs F ⟨x, r, F1, F2, e, eF, h1, h2⟩ b hb
      rw [eF] at hb
      rcases List.mem_append.mp hb with z | z
      · exact ih1 _ _ h1 b z
      · exact ih2 _ _ h2 b z
  exact fun t {v F} h => both t v F h

abbrev Item := V × T
def Its (G : Gx) (H Hm : Hp) : List Item → List Addr → Prop
  | [], F => F = []
  | p :: r, F => ∃ F1 F2, F = F1 ++ F2 ∧ RepT G H Hm p.2 p.1 F1 ∧ Its G H Hm r F2
theorem Its.mono {G : Gx} {H Hm H' Hm' : Hp} (s : Same Hm Hm') : ∀ {its : List Item} {F : List Addr}, Its G H Hm its F → (∀ b ∈ F, H' b = H b) → Its G H' Hm' its F
  | [], F, h, _ => h
  | p :: r, F, ⟨F1, F2, e, h1, h2⟩, k => ⟨F1, F2, e, repT_mono s _ h1 fun b hb => k b (by rw [e]; exact List.mem_append_left _ hb), Its.mono s h2 fun b hb => k b (by rw [e]; exact List.mem_append_right _ hb)⟩
theorem Its.there {G : Gx} {H Hm : Hp} : ∀ {its : List Item} {F : List Addr}, Its G H Hm its F → ∀ b ∈ F, ∃ xs, H b = some (.lst xs)
  | [], F, h, b, hb => by rw [show F = [] from h] at hb; cases hb
  | p :: r, F, ⟨F1, F2, e, h1, h2⟩, b, hb => by
    rw [e] at hb
    rcases List.mem_append.mp hb with z | z
    · exact repT_there _ h1 b z
    · exact Its.there h2 b z
theorem Its.append {G : Gx} {H Hm : Hp} : ∀ {its jts : List Item} {F : List Addr}, Its G H Hm (its ++ jts) F ↔ ∃ F1 F2, F = F1 ++ F2 ∧ Its G H Hm its F1 ∧ Its G H Hm jts F2
  | [], jts, F => ⟨fun h => ⟨[], F, rfl, rfl, h⟩, fun ⟨F1, F2, e, h1, h2⟩ => by rw [e, show F1 = [] from h1]; exact h2⟩
  | p :: r, jts, F => by
    constructor
    · rintro ⟨F1, F2, e, h1, h2⟩
      obtain ⟨F3, F4, e2, h3, h4⟩ := Its.append.mp h2
      exact ⟨F1 ++ F3, F4, by rw [e, e2, List.append_assoc], ⟨F1, F3, rfl, h1, h3⟩, h4⟩
    · rintro ⟨F1, F2, e, ⟨F3, F4, e2, h3, h4⟩, h2⟩
      exact ⟨F3, F4 ++ F2, by rw [e, e2, List.append_assoc], h3, Its.append.mpr ⟨F4, F2, rfl, h4, h2⟩⟩
theorem Its.perm {G : Gx} {H Hm : Hp} {its jts : List Item} (p : its.Perm jts) : ∀ {F : List Addr}, Its G H Hm its F → ∃ F', F.Perm F' ∧ Its G H Hm jts F' := by
  induction p with
  | nil => exact fun {F} h => ⟨F, .refl _, h⟩
  | cons x _ ih =>
    rintro F ⟨F1, F2, e, h1, h2⟩
    obtain ⟨F', q, h⟩ := ih h2
    exact ⟨F1 ++ F', by rw [e]; exact List.Perm.append_left _ q, F1, F', rfl, h1, h⟩
  | swap x y l =>
    rintro F ⟨F1, F2, e, h1, ⟨F3, F4, e2, h3, h4⟩⟩
    refine ⟨F3 ++ (F1 ++ F4), ?_, F3, F1 ++ F4, rfl, h3, F1, F4, rfl, h1, h4⟩
    rw [e, e2, ← List.append_assoc, ← List.append_assoc]
    exact List.Perm.append_right _ List.perm_append_comm
  | trans _ _ ih1 ih2 =>
    intro F h
    obtain ⟨F', q, h'⟩ := ih1 h
    obtain ⟨F'', q', h''⟩ := ih2 h'
    exact ⟨F'', q.trans q', h''⟩

/-- the def's frame: heap and lent footprint at the entry; what the callers own besides (never looked at); the lent slots with their values -/
structure Fr where
  H0 : Hp
  F0 : List Addr
  hid : List Addr
  lent : List (Nat × V)
abbrev Fr.msk (R : Fr) (H : Hp) (F : List Addr) : Hp := mask H (F ++ R.hid)
structure OwnF (G : Gx) (R : Fr) (H : Hp) (its : List Item) (F : List Addr) : Prop where
  nd : F.Nodup
  rep : Its G H (R.msk H F) its F
  new : ∀ b ∈ F, b ∈ R.F0 ∨ R.H0 b = none
  old : ∀ b o, R.H0 b = some o → b ∉ R.F0 → H b = some o
  dis : ∀ b ∈ F, b ∉ R.hid
  hid : ∀ b ∈ R.hid, ∃ o, H b = some o
def Own (G : Gx) (R : Fr) (H : Hp) (its : List Item) : Prop := ∃ F, OwnF G R H its F
theorem mask_perm {H : Hp} {F F' : List Addr} (p : F.Perm F') : mask H F = mask H F' := by
  funext b
  unfold mask
  by_cases h : b ∈ F
  · rw [if_pos h, if_pos (p.mem_iff.mp h)]
  · rw [if_neg h, if_neg (fun q => h (p.mem_iff.mpr q))]
/-- less is masked -/
theorem mask_sub {H : Hp} {F F' : List Addr} (h : ∀ b, b ∈ F' → b ∈ F) : Same (mask H F) (mask H F') := mask_mono fun b o e n => ⟨e, fun m => n (h b m)⟩
section
variable {G : Gx} {R : Fr} {H H' : Hp} {its jts : List Item} {F : List Addr}
theorem Own.perm (p : its.Perm jts) (h : Own G R H its) : Own G R H jts := by
  obtain ⟨F, h⟩ := h
  obtain ⟨F', q, r⟩ := Its.perm p h.rep
  exact ⟨F', q.nodup_iff.mp h.nd, by unfold Fr.msk; rw [← mask_perm (List.Perm.append_right _ q)]; exact r, fun b hb => h.new b (q.mem_iff.mpr hb), h.old, fun b hb => h.dis b (q.mem_iff.mpr hb), h.hid⟩
theorem mem_app2 {F1 F2 X : List Addr} : ∀ b, b ∈ F2 ++ X → b ∈ (F1 ++ F2) ++ X := fun b hb => by
  rcases List.mem_append.mp hb with z | z
  · exact List.mem_append_left _ (List.mem_append_right _ z)
  · exact List.mem_append_right _ z
theorem Own.drop {p : Item} (h : Own G R H (p :: its)) : Own G R H its := by
  obtain ⟨F, h⟩ := h
  obtain ⟨F1, F2, e, h1, h2⟩ := h.rep
  subst e
  exact ⟨F2, (List.nodup_append.mp h.nd).2.1, h2.mono (mask_sub mem_app2) fun _ _ => rfl, fun b hb => h.new b (List.mem_append_right _ hb), h.old, fun b hb => h.dis b (List.mem_append_right _ hb), h.hid⟩
theorem Own.dropAll {ps : List Item} (h : Own G R H (ps ++ its)) : Own G R H its := by
  induction ps with
  | nil => exact h
  | cons p r ih => exact ih h.drop
theorem Own.freeze {v : V} {t : T} (h : Own G R H ((v, t) :: its)) : Own G R H ((v, .leaf t.toD) :: its) := by
  obtain ⟨F, h⟩ := h
  obtain ⟨F1, F2, e, h1, h2⟩ := h.rep
  subst e
  have nd := List.nodup_append.mp h.nd
  have s : Same (R.msk H (F1 ++ F2)) (R.msk H F2) := mask_sub mem_app2
  refine ⟨F2, nd.2.1, ⟨[], F2, rfl, ⟨rfl, ?_⟩, h2.mono s fun _ _ => rfl⟩, fun b hb => h.new b (List.mem_append_right _ hb), h.old, fun b hb => h.dis b (List.mem_append_right _ hb), h.hid⟩
  exact repT_toD s t h1 fun b hb => mask_out fun m => (List.mem_append.mp m).elim (fun m => nd.2.2 b hb b m rfl) (h.dis b (List.mem_append_left _ hb))
/-- data that stands in the unowned part may be noted -/
theorem Own.note {v : V} {d : D} (h : Own G R H its) (q : ∀ F, OwnF G R H its F → Rep G (R.msk H F) d v) : Own G R H ((v, .leaf d) :: its) := by
  obtain ⟨F, h⟩ := h
  exact ⟨F, h.nd, ⟨[], F, rfl, ⟨rfl, q F h⟩, h.rep⟩, h.new, h.old, h.dis, h.hid⟩
theorem Own.scal {v : V} {d : D} (h : Own G R H its) (q : ∀ H, Rep G H d v) : Own G R H ((v, .leaf d) :: its) := h.note fun _ _ => q _
theorem Own.dup {v : V} {d : D} (h : Own G R H ((v, .leaf d) :: its)) : Own G R H ((v, .leaf d) :: (v, .leaf d) :: its) := h.note fun F hF => by
  obtain ⟨F1, F2, e, ⟨e1, h1⟩, _⟩ := hF.rep
  exact h1
/-- what a leaf item says, in the whole heap -/
theorem Own.rep {v : V} {d : D} (h : Own G R H ((v, .leaf d) :: its)) : Rep G H d v := by
  obtain ⟨F, h⟩ := h
  obtain ⟨F1, F2, e, ⟨e1, h1⟩, _⟩ := h.rep
  exact rep_mono (mask_same _ _) d h1
theorem Own.repT {v : V} {t : T} (h : Own G R H ((v, t) :: its)) : Rep G H t.toD v := h.freeze.rep
/-- a new object -/
theorem OwnF.grow {p : Addr} {o : HO} (h : OwnF G R H its F) (hp : H p = none) : OwnF G R (upd H p o) its F ∧ p ∉ F ++ R.hid ∧ R.msk (upd H p o) F = upd (R.msk H F) p o ∧ (p ∈ R.F0 ∨ R.H0 p = none) := by
  have np : p ∉ F ++ R.hid := fun m => by
    rcases List.mem_append.mp m with m | m
    · obtain ⟨xs, e⟩ := h.rep.there p m
      rw [hp] at e; cases e
    · obtain ⟨o, e⟩ := h.hid p m
      rw [hp] at e; cases e
  have em : R.msk (upd H p o) F = upd (R.msk H F) p o := by
    funext b
    by_cases hb : b = p
    · subst hb; rw [Fr.msk, mask_out np, upd_same, upd_same]
    · rw [upd_ne hb]
      by_cases m : b ∈ F ++ R.hid
      · rw [Fr.msk, Fr.msk, mask_in m, mask_in m]
      · rw [Fr.msk, Fr.msk, mask_out m, mask_out m, upd_ne hb]
  have hk : ∀ b ∈ F, upd H p o b = H b := fun b hb => upd_ne fun e => np (by rw [← e]; exact List.mem_append_left _ hb)
  refine ⟨⟨h.nd, h.rep.mono ?_ hk, h.new, fun b u e n => ?_, h.dis, fun b hb => ?_⟩, np, em, ?_⟩
  · rw [em]
    intro b u e
    rw [upd_ne (ne_of_none (mask_same _ _ b u e) hp)]; exact e
  · have q := h.old b u e n
    rw [upd_ne (ne_of_none q hp)]; exact q
  · obtain ⟨u, e⟩ := h.hid b hb
    exact ⟨u, by rw [upd_ne (ne_of_none e hp)]; exact e⟩
  · by_cases m : p ∈ R.F0
    · exact .inl m
    · cases e : R.H0 p with
      | none => exact .inr rfl
      | some u => have q := h.old p u e m; rw [hp] at q; cases q
theorem OwnF.head {v : V} {d : D} (h : OwnF G R H ((v, .leaf d) :: its) F) : Rep G (R.msk H F) d v := by
  obtain ⟨F1, F2, e, ⟨e1, h1⟩, _⟩ := h.rep
  exact h1
theorem OwnF.tail {v : V} {d : D} (h : OwnF G R H ((v, .leaf d) :: its) F) : OwnF G R H its F := by
  obtain ⟨nd, ⟨F1, F2, e, ⟨e1, h1⟩, h2⟩, hn, ho, h3, h4⟩ := h
  subst e1
  rw [List.nil_append] at e
  subst e
  exact ⟨nd, h2, hn, ho, h3, h4⟩
theorem OwnF.add {v : V} {d : D} (h : OwnF G R H its F) (q : Rep G (R.msk H F) d v) : OwnF G R H ((v, .leaf d) :: its) F :=
  ⟨h.nd, ⟨[], F, rfl, ⟨rfl, q⟩, h.rep⟩, h.new, h.old, h.dis, h.hid⟩
/-- a new object of data -/
theorem OwnF.newObj {p : Addr} {o : HO} {d : D} {v : V} (h : OwnF G R H its F) (hp : H p = none) (q : Rep G (upd (R.msk H F) p o) d v) : OwnF G R (upd H p o) ((v, .leaf d) :: its) F := by
  obtain ⟨h', np, em, _⟩ := h.grow (o := o) hp
  exact h'.add (by rw [em]; exact q)
theorem msk_none {p : Addr} (hp : H p = none) : R.msk H F p = none := by
  by_cases m : p ∈ F ++ R.hid
  · exact mask_in m
  · rw [Fr.msk, mask_out m]; exact hp
theorem OwnF.newTup {p : Addr} {xs : List V} {ds : List D} (h : OwnF G R H its F) (hp : H p = none) (q : Reps G (R.msk H F) ds xs) : OwnF G R (upd H p (.tup xs)) ((.ref p, .leaf (.tup ds)) :: its) F :=
  h.newObj hp ⟨p, xs, rfl, SqT.of upd_same, reps_mono (fun b u e => by rw [upd_ne (ne_of_none e (msk_none hp))]; exact e) ds q⟩
theorem repTs_leaf {G : Gx} {H Hm : Hp} : ∀ {ds : List D} {xs : List V}, Reps G Hm ds xs → RepTs G H Hm (ds.map T.leaf) xs []
  | [], xs, h => ⟨h, rfl⟩
  | d :: ds, xs, ⟨x, r, e, h1, h2⟩ => ⟨x, r, [], [], e, rfl, ⟨rfl, h1⟩, repTs_leaf h2⟩
theorem its_zip {G : Gx} {H Hm : Hp} : ∀ {xs : List V} {ts : List T} {F : List Addr}, xs.length = ts.length → Its G H Hm (xs.zip ts) F → RepTs G H Hm ts xs F
  | [], [], F, _, h => ⟨rfl, h⟩
  | x :: xs, t :: ts, F, hl, ⟨F1, F2, e, h1, h2⟩ => ⟨x, xs, F1, F2, rfl, e, h1, its_zip (by simpa using hl) h2⟩
  | [], _ :: _, _, hl, _ => by simp at hl
  | _ :: _, [], _, hl, _ => by simp at hl
theorem zip_its {G : Gx} {H Hm : Hp} : ∀ {xs : List V} {ts : List T} {F : List Addr}, RepTs G H Hm ts xs F → Its G H Hm (xs.zip ts) F ∧ xs.length = ts.length
  | xs, [], F, h => by rw [h.1]; exact ⟨h.2, rfl⟩
  | xs, t :: ts, F, ⟨x, r, F1, F2, e, eF, h1, h2⟩ => by
    subst e
    obtain ⟨h3, h4⟩ := zip_its h2
    exact ⟨⟨F1, F2, eF, h1, h3⟩, by simp [h4]⟩
/-- a new list, owned -/
theorem Own.newLst {p : Addr} {xs : List V} {ts : List T} (h : Own G R H (xs.zip ts ++ its)) (hl : xs.length = ts.length) (hp : H p = none) : Own G R (upd H p (.lst xs)) ((.ref p, .node ts) :: its) := by
  obtain ⟨F, h⟩ := h
  obtain ⟨h', np, em, hnew⟩ := h.grow (o := .lst xs) hp
  have hm : R.msk (upd H p (.lst xs)) (p :: F) = R.msk H F := by
    funext b
    unfold Fr.msk
    by_cases m : b ∈ (p :: F) ++ R.hid
    · rw [mask_in m]
      rcases List.mem_cons.mp (show b ∈ p :: (F ++ R.hid) from m) with z | z
      · rw [z, mask_out np, hp]
      · rw [mask_in z]
    · rw [mask_out m]
      have m1 : b ≠ p := fun z => m (by rw [z]; exact List.mem_cons_self)
      have m2 : b ∉ F ++ R.hid := fun z => m (List.mem_cons_of_mem _ z)
      rw [mask_out m2, upd_ne m1]
  refine ⟨p :: F, List.nodup_cons.mpr ⟨fun m => np (List.mem_append_left _ m), h.nd⟩, ?_, fun b hb => ?_, h'.old, fun b hb => ?_, h'.hid⟩
  · obtain ⟨F1', F2', e', g1, g2⟩ := Its.append.mp h.rep
    have hk : ∀ b ∈ F, upd H p (.lst xs) b = H b := fun b hb => upd_ne fun e => np (by rw [← e]; exact List.mem_append_left _ hb)
    refine ⟨p :: F1', F2', by rw [e']; rfl, ⟨p, xs, F1', rfl, upd_same, rfl, ?_⟩, ?_⟩
    · rw [hm]
      exact repTs_mono (Same.refl _) ts (its_zip hl g1) fun b hb => hk b (by rw [e']; exact List.mem_append_left _ hb)
    · rw [hm]
      exact g2.mono (Same.refl _) fun b hb => hk b (by rw [e']; exact List.mem_append_right _ hb)
  · rcases List.mem_cons.mp hb with z | z
    · rw [z]; exact hnew
    · exact h.new b z
  · rcases List.mem_cons.mp hb with z | z
    · rw [z]; exact fun m => np (List.mem_append_right _ m)
    · exact h.dis b z
theorem OwnF.newLst {p : Addr} {xs : List V} {ds : List D} (h : OwnF G R H its F) (hp : H p = none) (q : Reps G (R.msk H F) ds xs) : Own G R (upd H p (.lst xs)) ((.ref p, .node (ds.map T.leaf)) :: its) := by
  have hl : xs.length = (ds.map T.leaf).length := by rw [q.length, List.length_map]
  refine Own.newLst ⟨F, h.nd, ?_, h.new, h.old, h.dis, h.hid⟩ hl hp
  exact Its.append.mpr ⟨[], F, rfl, (zip_its (repTs_leaf q)).1, h.rep⟩
/-- an owned list is rewritten; its new items come of the old ones and of the temps -/
theorem Own.write {a : Addr} {xs ys : List V} {ts us : List T} {tmps : List Item} (h : Own G R H ((.ref a, .node ts) :: (tmps ++ its))) (hx : H a = some (.lst xs))
    (q : ∀ Hm F1 F2, RepTs G H Hm ts xs F1 → Its G H Hm tmps F2 → ∃ F' X, (F1 ++ F2).Perm (F' ++ X) ∧ RepTs G H Hm us ys F') : Own G R (upd H a (.lst ys)) ((.ref a, .node us) :: its) := by
  obtain ⟨F, h⟩ := h
  obtain ⟨F1, F2, e, ⟨a', xs', F1', ea, hx', e1, h1⟩, h2⟩ := h.rep
  obtain ⟨F3, F4, e2, h3, h4⟩ := Its.append.mp h2
  cases ea
  rw [hx] at hx'
  cases hx'
  subst e1 e2
  obtain ⟨F', X, p, h5⟩ := q _ _ _ h1 h3
  subst e
  have pF : ((a :: F1') ++ (F3 ++ F4)).Perm ((a :: (F' ++ F4)) ++ X) := by
    have p1 : ((a :: F1') ++ (F3 ++ F4)).Perm (a :: ((F1' ++ F3) ++ F4)) := by rw [List.append_assoc]; exact .refl _
    refine p1.trans (List.Perm.cons _ ((List.Perm.append_right _ p).trans ?_))
    show ((F' ++ X) ++ F4).Perm ((F' ++ F4) ++ X)
    rw [List.append_assoc, List.append_assoc]
    exact List.Perm.append_left _ List.perm_append_comm
  have nd2 := pF.nodup_iff.mp h.nd
  have nd3 : (a :: (F' ++ F4)).Nodup := (List.nodup_append.mp nd2).1
  have sub : ∀ b, b ∈ a :: (F' ++ F4) → b ∈ (a :: F1') ++ (F3 ++ F4) := fun b hb => pF.mem_iff.mpr (List.mem_append_left _ hb)
  have na : a ∉ F' ++ F4 := (List.nodup_cons.mp nd3).1
  have ha : a ∉ R.hid := h.dis a (List.mem_append_left _ List.mem_cons_self)
  have hk : ∀ b ∈ F' ++ F4, upd H a (.lst ys) b = H b := fun b hb => upd_ne fun z => na (by rw [← z]; exact hb)
  have sm : Same (R.msk H ((a :: F1') ++ (F3 ++ F4))) (R.msk (upd H a (.lst ys)) (a :: (F' ++ F4))) := mask_mono fun b o e n => by
    have nb : b ≠ a := fun z => n (by rw [z]; exact List.mem_append_left _ (List.mem_append_left _ List.mem_cons_self))
    refine ⟨by rw [upd_ne nb]; exact e, fun m => n ?_⟩
    rcases List.mem_append.mp m with m | m
    · exact List.mem_append_left _ (sub b m)
    · exact List.mem_append_right _ m
  refine ⟨a :: (F' ++ F4), nd3, ⟨a :: F', F4, rfl, ⟨a, ys, F', rfl, upd_same, rfl, repTs_mono sm us h5 fun b hb => hk b (List.mem_append_left _ hb)⟩, h4.mono sm fun b hb => hk b (List.mem_append_right _ hb)⟩,
    fun b hb => h.new b (sub b hb), fun b o e n => ?_, fun b hb => h.dis b (sub b hb), fun b hb => ?_⟩
  · have nb : b ≠ a := fun z => by
      subst z
      rcases h.new b (List.mem_append_left _ List.mem_cons_self) with m | m
      · exact n m
      · rw [e] at m; cases m
    rw [upd_ne nb]; exact h.old b o e n
  · obtain ⟨u, e⟩ := h.hid b hb
    have nb : b ≠ a := fun z => ha (by rw [← z]; exact hb)
    exact ⟨u, by rw [upd_ne nb]; exact e⟩
theorem RepTs.append {G : Gx} {H Hm : Hp} : ∀ {ts us : List T} {xs ys : List V} {F F' : List Addr}, RepTs G H Hm ts xs F → RepTs G H Hm us ys F' → RepTs G H Hm (ts ++ us) (xs ++ ys) (F ++ F')
  | [], us, xs, ys, F, F', h, q => by rw [h.1, h.2]; exact q
  | t :: ts, us, xs, ys, F, F', ⟨x, r, F1, F2, e, eF, h1, h2⟩, q => ⟨x, r ++ ys, F1, F2 ++ F', by rw [e]; rfl, by rw [eF, List.append_assoc], h1, h2.append q⟩
theorem RepTs.length {G : Gx} {H Hm : Hp} : ∀ {ts : List T} {xs : List V} {F : List Addr}, RepTs G H Hm ts xs F → xs.length = ts.length
  | [], xs, F, h => by rw [h.1]; rfl
  | t :: ts, xs, F, ⟨x, r, F1, F2, e, eF, h1, h2⟩ => by rw [e, List.length_cons, List.length_cons, h2.length]
theorem RepTs.set {G : Gx} {H Hm : Hp} : ∀ {ts : List T} {xs : List V} {F Fu : List Addr} {i : Nat} {u : T} {w : V}, RepTs G H Hm ts xs F → RepT G H Hm u w Fu → i < ts.length → ∃ F' X, (F ++ Fu).Perm (F' ++ X) ∧ RepTs G H Hm (ts.set i u) (xs.set i w) F'
  | [], xs, F, Fu, i, u, w, h, q, hi => by simp at hi
  | t :: ts, xs, F, Fu, 0, u, w, ⟨x, r, F1, F2, e, eF, h1, h2⟩, q, _ => by
    subst e eF
    refine ⟨Fu ++ F2, F1, ?_, w, r, Fu, F2, rfl, rfl, q, h2⟩
    have p1 : ((F1 ++ F2) ++ Fu).Perm (F1 ++ (F2 ++ Fu)) := by rw [List.append_assoc]
    refine p1.trans (List.perm_append_comm.trans ?_)
    exact List.Perm.append_right _ List.perm_append_comm
  | t :: ts, xs, F, Fu, i + 1, u, w, ⟨x, r, F1, F2, e, eF, h1, h2⟩, q, hi => by
    subst e eF
    obtain ⟨F', X, p, h3⟩ := h2.set (i := i) q (by simpa using hi)
    refine ⟨F1 ++ F', X, ?_, x, r.set i w, F1, F', rfl, rfl, h1, h3⟩
    rw [List.append_assoc, List.append_assoc]
    exact List.Perm.append_left _ p
theorem Own.append {a : Addr} {xs : List V} {ts : List T} {w : V} {u : T} (h : Own G R H ((.ref a, .node ts) :: (w, u) :: its)) (hx : H a = some (.lst xs)) : Own G R (upd H a (.lst (xs ++ [w]))) ((.ref a, .node (ts ++ [u])) :: its) :=
  Own.write (tmps := [(w, u)]) h hx fun Hm F1 F2 h1 ⟨F3, F4, e, h3, h4⟩ => ⟨F1 ++ F2, [], by rw [List.append_nil], RepTs.append h1 ⟨w, [], F3, [], rfl, by rw [e, show F4 = [] from h4], h3, rfl, rfl⟩⟩
theorem Own.setAt {a : Addr} {xs : List V} {ts : List T} {w : V} {u : T} {i : Nat} (h : Own G R H ((.ref a, .node ts) :: (w, u) :: its)) (hx : H a = some (.lst xs)) (hi : i < ts.length) : Own G R (upd H a (.lst (xs.set i w))) ((.ref a, .node (ts.set i u)) :: its) :=
  Own.write (tmps := [(w, u)]) h hx fun Hm F1 F2 h1 ⟨F3, F4, e, h3, h4⟩ => by
    rw [show F4 = [] from h4, List.append_nil] at e
    subst e
    exact RepTs.set h1 h3 hi
theorem Own.nodeAt {v : V} {ts : List T} (h : Own G R H ((v, .node ts) :: its)) : ∃ a xs, v = .ref a ∧ H a = some (.lst xs) ∧ xs.length = ts.length := by
  obtain ⟨F, h⟩ := h
  obtain ⟨F1, F2, e, ⟨a', xs', F1', ea, hx', e1, h1⟩, h2⟩ := h.rep
  exact ⟨a', xs', ea, hx', h1.length⟩
end

/-! ### slots -/
abbrev Env := List (Option T)
def items : L2.St → Env → List Item
  | some v :: σ, some t :: ρ => (v, t) :: items σ ρ
  | _ :: σ, _ :: ρ => items σ ρ
  | _, _ => []
def Fits : L2.St → Env → Prop
  | [], [] => True
  | s :: σ, r :: ρ => (r.isSome = true → s.isSome = true) ∧ Fits σ ρ
  | _, _ => False
theorem Fits.length : ∀ {σ : L2.St} {ρ : Env}, Fits σ ρ → σ.length = ρ.length
  | [], [], _ => rfl
  | _ :: _, _ :: _, h => by simp [Fits.length h.2]
  | [], _ :: _, h => h.elim
  | _ :: _, [], h => h.elim
theorem items_none {o : Option V} {σ : L2.St} {ρ : Env} : items (o :: σ) (none :: ρ) = items σ ρ := by cases o <;> rfl
theorem items_set_none : ∀ {σ : L2.St} {ρ : Env} {i : Nat} {t : T}, Fits σ ρ → ρ[i]? = some (some t) → ∃ v, σ[i]? = some (some v) ∧ (items σ ρ).Perm ((v, t) :: items σ (ρ.set i none)) ∧ Fits σ (ρ.set i none)
  | [], [], i, t, _, e => by simp at e
  | s :: σ, r :: ρ, 0, t, h, e => by
    simp at e; subst e
    cases s with
    | none => simp [Fits] at h
    | some v => exact ⟨v, rfl, .refl _, by simp, h.2⟩
  | s :: σ, r :: ρ, i + 1, t, h, e => by
    obtain ⟨v, e1, p, f⟩ := items_set_none (i := i) h.2 (by simpa using e)
    refine ⟨v, by simpa using e1, ?_, ?_⟩
    · cases r with
      | none => rw [items_none, List.set_cons_succ, items_none]; exact p
      | some t' =>
        cases s with
        | none => simp [Fits] at h
        | some v' => exact (List.Perm.cons _ p).trans (.swap _ _ _)
    · exact ⟨h.1, f⟩
  | [], _ :: _, _, _, h, _ => h.elim
  | _ :: _, [], _, _, h, _ => h.elim
/-- a slot is filled -/
theorem items_set : ∀ {σ : L2.St} {ρ : Env} {i : Nat} (v : V) (t : T), Fits σ ρ → i < ρ.length → (items (σ.set i (some v)) (ρ.set i (some t))).Perm ((v, t) :: items σ (ρ.set i none)) ∧ Fits (σ.set i (some v)) (ρ.set i (some t))
  | [], [], i, v, t, _, e => by simp at e
  | s :: σ, r :: ρ, 0, v, t, h, e => ⟨by rw [List.set_cons_zero, List.set_cons_zero, List.set_cons_zero, items_none]; exact .refl _, by simp, h.2⟩
  | s :: σ, r :: ρ, i + 1, v, t, h, e => by
    obtain ⟨p, f⟩ := items_set (i := i) v t h.2 (by simpa using e)
    refine ⟨?_, h.1, f⟩
    rw [List.set_cons_succ, List.set_cons_succ, List.set_cons_succ]
    cases r with
    | none => rw [items_none, items_none]; exact p
    | some t' =>
      cases s with
      | none => simp [Fits] at h
      | some v' => exact (List.Perm.cons _ p).trans (.swap _ _ _)
  | [], _ :: _, _, _, _, h, _ => h.elim
  | _ :: _, [], _, _, _, h, _ => h.elim
/-- the same slot, other contents -/
theorem items_put : ∀ {σ : L2.St} {ρ : Env} {i : Nat} {v : V} (t : T), Fits σ ρ → i < ρ.length → σ[i]? = some (some v) → (items σ (ρ.set i (some t))).Perm ((v, t) :: items σ (ρ.set i none)) ∧ Fits σ (ρ.set i (some t)) := by
  intro σ ρ i v t h hi e
  have q := items_set v t h hi
  have e2 : σ.set i (some v) = σ := by
    obtain ⟨hlt, e'⟩ := List.getElem?_eq_some_iff.mp e
    exact List.ext_getElem? fun j => by
      by_cases hj : i = j
      · subst hj; rw [List.getElem?_set_self hlt, e]
      · rw [List.getElem?_set_ne hj]
  rw [e2] at q
  exact q
theorem items_drop {σ : L2.St} {ρ : Env} (i : Nat) (h : Fits σ ρ) : (∃ p, (items σ ρ).Perm (p :: items σ (ρ.set i none))) ∨ items σ (ρ.set i none) = items σ ρ := by
  cases e : ρ[i]? with
  | none =>
    refine .inr ?_
    rw [List.set_eq_of_length_le (List.getElem?_eq_none_iff.mp e)]
  | some r =>
    cases r with
    | none =>
      refine .inr ?_
      have : ρ.set i none = ρ := List.ext_getElem? fun j => by
        by_cases hj : i = j
        · subst hj
          obtain ⟨hlt, _⟩ := List.getElem?_eq_some_iff.mp e
          rw [List.getElem?_set_self hlt, e]
        · rw [List.getElem?_set_ne hj]
      rw [this]
    | some t =>
      obtain ⟨v, _, p, _⟩ := items_set_none h e
      exact .inl ⟨_, p⟩
theorem fits_none : ∀ {σ : L2.St} {ρ : Env} (i : Nat), Fits σ ρ → Fits σ (ρ.set i none)
  | [], [], i, _ => by simp [Fits]
  | s :: σ, r :: ρ, 0, h => ⟨by simp, h.2⟩
  | s :: σ, r :: ρ, i + 1, h => ⟨h.1, fits_none i h.2⟩
  | [], _ :: _, _, h => h.elim
  | _ :: _, [], _, h => h.elim

/-- the state: the slots, what they own, what is held besides -/
structure Sta (G : Gx) (R : Fr) (σ : L2.St) (ρ : Env) (H : Hp) (tm : List Item) : Prop where
  fits : Fits σ ρ
  lent : ∀ p ∈ R.lent, σ[p.1]? = some (some p.2)
  own : Own G R H (items σ ρ ++ tm)
section
variable {G : Gx} {R : Fr} {H H' : Hp} {σ : L2.St} {ρ : Env} {tm : List Item}
theorem Sta.re (S : Sta G R σ ρ H tm) {tm' : List Item} (h : Own G R H (items σ ρ ++ tm) → Own G R H' (items σ ρ ++ tm')) : Sta G R σ ρ H' tm' := ⟨S.fits, S.lent, h S.own⟩
theorem perm_mid {α : Type} (p : α) (a b : List α) : (a ++ p :: b).Perm (p :: (a ++ b)) := List.perm_middle
/-- as the items of one list, the temps ahead -/
theorem Sta.front {p : Item} (S : Sta G R σ ρ H (p :: tm)) : Own G R H (p :: (items σ ρ ++ tm)) := S.own.perm (perm_mid _ _ _)
theorem Sta.back {p : Item} (f : Fits σ ρ) (l : ∀ p ∈ R.lent, σ[p.1]? = some (some p.2)) (h : Own G R H (p :: (items σ ρ ++ tm))) : Sta G R σ ρ H (p :: tm) := ⟨f, l, h.perm (perm_mid _ _ _).symm⟩
theorem Sta.with {p : Item} (S : Sta G R σ ρ H tm) (h : Own G R H (items σ ρ ++ tm) → Own G R H' (p :: (items σ ρ ++ tm))) : Sta G R σ ρ H' (p :: tm) := Sta.back S.fits S.lent (h S.own)
theorem Sta.pop {p : Item} (S : Sta G R σ ρ H (p :: tm)) : Sta G R σ ρ H tm := ⟨S.fits, S.lent, S.front.drop⟩
/-- what slot i holds is taken out -/
theorem Sta.take {i : Nat} {t : T} (S : Sta G R σ ρ H tm) (e : ρ[i]? = some (some t)) : ∃ v, σ[i]? = some (some v) ∧ Sta G R σ (ρ.set i none) H ((v, t) :: tm) := by
  obtain ⟨v, e1, p, f⟩ := items_set_none S.fits e
  exact ⟨v, e1, Sta.back f S.lent (S.own.perm (List.Perm.append_right _ p))⟩
/-- and put back -/
theorem Sta.put {i : Nat} {v : V} {t : T} (S : Sta G R σ (ρ.set i none) H ((v, t) :: tm)) (f : Fits σ ρ) (e : σ[i]? = some (some v)) : Sta G R σ (ρ.set i (some t)) H tm := by
  have hi : i < ρ.length := by rw [← f.length]; exact (List.getElem?_eq_some_iff.mp e).1
  obtain ⟨p, f'⟩ := items_put t f hi e
  exact ⟨f', S.lent, S.front.perm (List.Perm.append_right _ p).symm⟩
/-- a slot is stored into -/
theorem Sta.store {i : Nat} {v : V} {t : T} (S : Sta G R σ ρ H ((v, t) :: tm)) (hi : i < ρ.length) (hl : i ∉ R.lent.map (·.1)) : Sta G R (σ.set i (some v)) (ρ.set i (some t)) H tm := by
  obtain ⟨p, f'⟩ := items_set v t S.fits hi
  refine ⟨f', fun q hq => ?_, ?_⟩
  · have hne : i ≠ q.1 := fun z => hl (by rw [z]; exact List.mem_map_of_mem hq)
    rw [List.getElem?_set_ne hne]; exact S.lent q hq
  · have h := S.front
    rcases items_drop i S.fits with ⟨q, pq⟩ | e
    · have h2 : Own G R H (q :: ((v, t) :: (items σ (ρ.set i none) ++ tm))) := h.perm ((List.Perm.cons _ (List.Perm.append_right _ pq)).trans (.swap _ _ _))
      exact h2.drop.perm (List.Perm.append_right _ p).symm
    · rw [← e] at h
      exact h.perm (List.Perm.append_right _ p).symm
/-- a slot is read: what is shared -/
theorem Sta.read {i : Nat} {d : D} (S : Sta G R σ ρ H tm) (e : ρ[i]? = some (some (.leaf d))) : ∃ v, σ[i]? = some (some v) ∧ Sta G R σ ρ H ((v, .leaf d) :: tm) := by
  obtain ⟨v, e1, S1⟩ := S.take e
  refine ⟨v, e1, ?_⟩
  have S2 : Sta G R σ (ρ.set i none) H ((v, .leaf d) :: (v, .leaf d) :: tm) := Sta.back S1.fits S1.lent (by
    have h := S1.front.dup
    exact h.perm (List.Perm.cons _ (perm_mid _ _ _).symm))
  have S3 := S2.put S.fits e1
  have e3 : ρ.set i (some (.leaf d)) = ρ := List.ext_getElem? fun j => by
    by_cases hj : i = j
    · subst hj
      obtain ⟨hlt, _⟩ := List.getElem?_eq_some_iff.mp e
      rw [List.getElem?_set_self hlt, e]
    · rw [List.getElem?_set_ne hj]
  rw [e3] at S3
  exact S3
end
end Q

/-! Judgements: denotations and what they promise. -/
namespace Q
open PySem PySem.Spec PyProof.Rows L2

inductive Res (α : Type) where
  | ok (a : α) (ρ : Env)
  | exc (c at' : Str) (d : D) (ρ : Env)
  | stuck
abbrev M (α : Type) := Env → Res α
def Res.bind {α β : Type} (r : Res α) (k : α → Env → Res β) : Res β :=
  match r with
  | .ok a ρ => k a ρ
  | .exc c a d ρ => .exc c a d ρ
  | .stuck => .stuck
theorem bind_ok {α β : Type} {a : α} {ρ : Env} {k : α → Env → Res β} : (Res.ok a ρ).bind k = k a ρ := rfl
theorem bind_exc {α β : Type} {c a : Str} {d : D} {ρ : Env} {k : α → Env → Res β} : (Res.exc c a d ρ).bind k = .exc c a d ρ := rfl
theorem bind_stuck {α β : Type} {k : α → Env → Res β} : (Res.stuck : Res α).bind k = .stuck := rfl

abbrev gx (X : Cx) : Gx := ⟨X.K, X.mg⟩
def ExcEnd (G : Gx) (R : Fr) (σ : L2.St) (tm : List Item) (W : WX) (c at' : Str) (d : D) (ρ : Env) : Prop :=
  ∀ (C a : Addr) (v : V) (H : Hp), G.mg c = some (.ref C) → H a = some (.xd [(at', v)]) → Sta G R σ ρ H ((v, .leaf d) :: tm) → W (.ref C) (some a) σ H
theorem ExcEnd.push {G : Gx} {R : Fr} {σ : L2.St} {tm : List Item} {W : WX} {c at' : Str} {d : D} {ρ : Env} (h : ExcEnd G R σ tm W c at' d ρ) (p : Item) : ExcEnd G R σ (p :: tm) W c at' d ρ :=
  fun C a v H hm ha S => h C a v H hm ha (by
    refine Sta.back S.fits S.lent ?_
    have q := S.front.perm (List.Perm.cons _ (perm_mid _ _ _))
    exact (q.perm (.swap _ _ _)).drop)
/-- what a result is to reach -/
def End (G : Gx) (R : Fr) (σ : L2.St) (tm : List Item) (W : WX) {α : Type} (P : α → Env → Prop) : Res α → Prop
  | .ok a ρ => P a ρ
  | .exc c a d ρ => ExcEnd G R σ tm W c a d ρ
  | .stuck => False
section
variable {G : Gx} {R : Fr} {σ : L2.St} {tm : List Item} {W : WX} {α β : Type} {P P' : α → Env → Prop}
theorem End.mono {r : Res α} (h : End G R σ tm W P r) (f : ∀ a ρ, r = .ok a ρ → P a ρ → P' a ρ) : End G R σ tm W P' r := by
  cases r with
  | ok a ρ => exact f a ρ rfl h
  | exc => exact h
  | stuck => exact h
theorem End.push {r : Res α} (h : End G R σ tm W P r) (p : Item) : End G R σ (p :: tm) W P r := by
  cases r with
  | ok a ρ => exact h
  | exc => exact ExcEnd.push h p
  | stuck => exact h
theorem End.bind {Pb : β → Env → Prop} {r : Res α} {k : α → Env → Res β} (h : End G R σ tm W Pb (r.bind k)) : End G R σ tm W (fun a ρ => End G R σ tm W Pb (k a ρ)) r := by
  cases r with
  | ok a ρ => exact h
  | exc => exact h
  | stuck => exact h
end
/-- behind an expression: its value v is of t, besides what is held -/
def toQ (G : Gx) (R : Fr) (σ : L2.St) (tm : List Item) (Q : VK) : T → Env → Prop := fun t ρ => ∀ v H, Sta G R σ ρ H ((v, t) :: tm) → Q v H
def toB (G : Gx) (R : Fr) (σ : L2.St) (tm : List Item) (Q : Bool → Hp → Prop) : Bool → Env → Prop := fun b ρ => ∀ H, Sta G R σ ρ H tm → Q b H
def TEm (G : Gx) (L : List Nat) (W : WX) (m : M T) : TE := fun σ H Q => ∃ R ρ tm, R.lent.map (·.1) = L ∧ Sta G R σ ρ H tm ∧ End G R σ tm W (toQ G R σ tm Q) (m ρ)
def TTm (G : Gx) (L : List Nat) (W : WX) (m : M Bool) : TT := fun σ H Q => ∃ R ρ tm, R.lent.map (·.1) = L ∧ Sta G R σ ρ H tm ∧ End G R σ tm W (toB G R σ tm Q) (m ρ)
structure PEd (X : Cx) (L : List Nat) (e : Expr) (m : M T) : Prop where
  run : ∀ W, L2N.Takes X W → PE X e (TEm (gx X) L W m)
structure PTd (X : Cx) (L : List Nat) (e : Expr) (m : M Bool) : Prop where
  run : ∀ W, L2N.Takes X W → PT X e (TTm (gx X) L W m)
structure PWd (X : Cx) (L : List Nat) (e : Expr) (m : M Bool) : Prop where
  run : ∀ W, L2N.Takes X W → PW X e (TTm (gx X) L W m)
theorem PE.imp {X : Cx} {e : Expr} {t t' : TE} (h : PE X e t) (f : ∀ σ H Q, t' σ H Q → t σ H Q) : PE X e t' := ⟨fun pins s σ H Q I q => h.run pins s σ H Q I (f _ _ _ q)⟩
theorem PT.imp {X : Cx} {e : Expr} {t t' : TT} (h : PT X e t) (f : ∀ σ H Q, t' σ H Q → t σ H Q) : PT X e t' := ⟨fun pins s σ H Q I q => h.run pins s σ H Q I (f _ _ _ q)⟩
theorem PW.imp {X : Cx} {e : Expr} {t t' : TT} (h : PW X e t) (f : ∀ σ H Q, t' σ H Q → t σ H Q) : PW X e t' := ⟨fun wh pins s σ H Q I q => h.run wh pins s σ H Q I (f _ _ _ q)⟩
theorem PTd.ofW {X : Cx} {L : List Nat} {e : Expr} {m : M Bool} (h : PWd X L e m) : PTd X L e m := ⟨fun W tk => (h.run W tk).pt⟩

/-! ### statements -/
inductive SRes where
  | nx (ρ : Env) | rt (t : T) (ρ : Env) | bk (ρ : Env) | ct (ρ : Env)
  | exc (c at' : Str) (d : D) (ρ : Env)
  | stuck
abbrev SM := Env → SRes
def EndS (G : Gx) (R : Fr) (tm : List Item) (W : WX) (D : Ends) : SRes → Prop
  | .nx ρ => ∀ σ H, Sta G R σ ρ H tm → D.nx σ H
  | .bk ρ => ∀ σ H, Sta G R σ ρ H tm → D.bk σ H
  | .ct ρ => ∀ σ H, Sta G R σ ρ H tm → D.ct σ H
  | .rt t ρ => ∀ v σ H, Sta G R σ ρ H ((v, t) :: tm) → D.rt v H
  | .exc c a d ρ => ∀ σ, ExcEnd G R σ tm W c a d ρ
  | .stuck => False
def TSm (G : Gx) (L : List Nat) (W : WX) (m : SM) : TS := fun D σ H => ∃ R ρ tm, R.lent.map (·.1) = L ∧ Sta G R σ ρ H tm ∧ EndS G R tm W D (m ρ)
/-- hp: what a loop asks of the wish about exceptions -/
structure PSd (X : Cx) (L : List Nat) (st : Stmt) (m : SM) : Prop where
  run : ∀ W, L2N.Takes X W → PassesOwn (model X.prog X.w) X.A X.env X.xe → PS X st (TSm (gx X) L W m)
structure PBd (X : Cx) (L : List Nat) (st : List Stmt) (m : SM) : Prop where
  run : ∀ W, L2N.Takes X W → PassesOwn (model X.prog X.w) X.A X.env X.xe → PSs X st (TSm (gx X) L W m)
theorem PS.imp {X : Cx} {st : Stmt} {t t' : TS} (h : PS X st t) (f : ∀ D σ H, t' D σ H → t D σ H) : PS X st t' := ⟨fun pins s σ H D I q => h.run pins s σ H D I (f _ _ _ q)⟩
theorem PSs.imp {X : Cx} {st : List Stmt} {t t' : TS} (h : PSs X st t) (f : ∀ D σ H, t' D σ H → t D σ H) : PSs X st t' := ⟨fun pins s σ H D I q => h.run pins s σ H D I (f _ _ _ q)⟩

/-! ### names and constants -/
def D.toV? : D → Option V
  | .non => some .non
  | .bl b => some (.bl b)
  | .int i => some (.int i)
  | .str s => some (.str s)
  | _ => none
theorem rep_scal {G : Gx} {H : Hp} {d : D} {v : V} (h : d.toV? = some v) : Rep G H d v := by
  cases d <;> simp [D.toV?] at h <;> subst h <;> rfl
def mC (d : D) : M T := fun ρ => .ok (.leaf d) ρ
def mV (i : Nat) : M T := fun ρ =>
  match ρ[i]? with
  | some (some (.leaf d)) => .ok (.leaf d) ρ
  | _ => .stuck
/-- an owned list is given away: from now on it is data -/
def mShare (i : Nat) : M T := fun ρ =>
  match ρ[i]? with
  | some (some t) => .ok (.leaf t.toD) (ρ.set i (some (.leaf t.toD)))
  | _ => .stuck
/-- an owned list is handed on, the slot is empty -/
def mMove (i : Nat) : M T := fun ρ =>
  match ρ[i]? with
  | some (some t) => .ok t (ρ.set i none)
  | _ => .stuck
section
variable {X : Cx} {L : List Nat}
theorem ped_scal {e : Expr} {d : D} {v : V} (h : PE X e (tC v)) (hd : d.toV? = some v) : PEd X L e (mC d) := ⟨fun W _ => PE.imp h fun σ H Q ⟨R, ρ, tm, _, S, q⟩ =>
  q v H (S.with fun o => o.scal fun _ => rep_scal hd)⟩
theorem ped_int {i : Int} {j : Nat} {pos : Pos} : PEd X L (.Constant (.int i) j pos) (mC (.int i)) := ped_scal pe_int rfl
theorem ped_str {s : Str} {j : Nat} {pos : Pos} : PEd X L (.Constant (.str s) j pos) (mC (.str s)) := ped_scal pe_str rfl
theorem ped_bl {b : Bool} {j : Nat} {pos : Pos} : PEd X L (.Constant (.bool b) j pos) (mC (.bl b)) := ped_scal pe_bl rfl
theorem ped_non {j : Nat} {pos : Pos} : PEd X L (.Constant .none j pos) (mC .non) := ped_scal pe_non rfl
theorem ped_V {i : Nat} {x : Str} {pos : Pos} (h : PE X (.Name x pos) (tVar i)) : PEd X L (.Name x pos) (mV i) := ⟨fun W _ => PE.imp h fun σ H Q ⟨R, ρ, tm, _, S, q⟩ => by
  unfold mV at q
  split at q
  · rename_i d e
    obtain ⟨v, e1, S1⟩ := S.read e
    exact ⟨v, e1, q v H S1⟩
  · exact q.elim⟩
theorem ped_Share {i : Nat} {x : Str} {pos : Pos} (h : PE X (.Name x pos) (tVar i)) : PEd X L (.Name x pos) (mShare i) := ⟨fun W _ => PE.imp h fun σ H Q ⟨R, ρ, tm, _, S, q⟩ => by
  unfold mShare at q
  split at q
  · rename_i t e
    obtain ⟨v, e1, S1⟩ := S.take e
    have S2 : Sta (gx X) R σ (ρ.set i none) H ((v, .leaf t.toD) :: (v, .leaf t.toD) :: tm) :=
      Sta.back S1.fits S1.lent (S1.front.freeze.dup.perm (List.Perm.cons _ (perm_mid _ _ _).symm))
    have S3 : Sta (gx X) R σ (ρ.set i none) H ((v, .leaf t.toD) :: (v, .leaf t.toD) :: tm) := S2
    exact ⟨v, e1, q v H (S3.put S.fits e1)⟩
  · exact q.elim⟩
theorem ped_Move {i : Nat} {x : Str} {pos : Pos} (h : PE X (.Name x pos) (tVar i)) : PEd X L (.Name x pos) (mMove i) := ⟨fun W _ => PE.imp h fun σ H Q ⟨R, ρ, tm, _, S, q⟩ => by
  unfold mMove at q
  split at q
  · rename_i t e
    obtain ⟨v, e1, S1⟩ := S.take e
    exact ⟨v, e1, q v H S1⟩
  · exact q.elim⟩
end

/-! ### operators: scalar answers (the operands may be owned), and answers of data -/
def ScalF (f : D → D → Option D) : Prop := ∀ x y d, f x y = some d → ∃ v, d.toV? = some v
def rS (G : Gx) (f : D → D → Option D) : R2 := fun x y H Q => ∃ dx dy d v, Rep G H dx x ∧ Rep G H dy y ∧ f dx dy = some d ∧ d.toV? = some v ∧ Q v H
def rD (G : Gx) (f : D → D → Option T) : R2 := fun x y H Q => ∃ R its dx dy t, Own G R H ((y, .leaf dy) :: (x, .leaf dx) :: its) ∧ f dx dy = some t ∧ ∀ v H', Own G R H' ((v, t) :: its) → Q v H'
def mS2 (f : D → D → Option D) (ma mb : M T) : M T := fun ρ => (ma ρ).bind fun t1 ρ1 => (mb ρ1).bind fun t2 ρ2 =>
  match f t1.toD t2.toD with
  | some d => .ok (.leaf d) ρ2
  | none => .stuck
def mD2 (f : D → D → Option T) (ma mb : M T) : M T := fun ρ => (ma ρ).bind fun t1 ρ1 => (mb ρ1).bind fun t2 ρ2 =>
  match f t1.toD t2.toD with
  | some t => .ok t ρ2
  | none => .stuck
section
variable {X : Cx} {L : List Nat} {a b : Expr} {ma mb : M T} {pos : Pos}
theorem tem_two {W : WX} {σ : L2.St} {H : Hp} {Q : VK} {k : T → T → Env → Res T} {r : R2}
    (h : TEm (gx X) L W (fun ρ => (ma ρ).bind fun t1 ρ1 => (mb ρ1).bind fun t2 ρ2 => k t1 t2 ρ2) σ H Q)
    (hr : ∀ R ρ tm x y t1 t2 H2, R.lent.map (·.1) = L → Sta (gx X) R σ ρ H2 ((y, t2) :: (x, t1) :: tm) → End (gx X) R σ tm W (toQ (gx X) R σ tm Q) (k t1 t2 ρ) → r x y H2 Q) :
    tOp r (TEm (gx X) L W ma) (TEm (gx X) L W mb) σ H Q := by
  obtain ⟨R, ρ, tm, hL, S, h⟩ := h
  refine ⟨R, ρ, tm, hL, S, h.bind.mono fun t1 ρ1 _ h1 x H1 S1 => ?_⟩
  refine ⟨R, ρ1, (x, t1) :: tm, hL, S1, (h1.bind.push (x, t1)).mono fun t2 ρ2 _ h2 y H2 S2 => ?_⟩
  exact hr R ρ2 tm x y t1 t2 H2 hL S2 h2
theorem rS_of {f : D → D → Option D} {W : WX} {σ : L2.St} {Q : VK} (hf : ScalF f) {R : Fr} {ρ : Env} {tm : List Item} {x y : V} {t1 t2 : T} {H2 : Hp} (S : Sta (gx X) R σ ρ H2 ((y, t2) :: (x, t1) :: tm))
    (h : End (gx X) R σ tm W (toQ (gx X) R σ tm Q) (match f t1.toD t2.toD with
      | some d => .ok (.leaf d) ρ
      | none => .stuck)) : rS (gx X) f x y H2 Q := by
  cases e : f t1.toD t2.toD with
  | none => rw [e] at h; exact h.elim
  | some d =>
    rw [e] at h
    obtain ⟨v, hv⟩ := hf _ _ _ e
    exact ⟨t1.toD, t2.toD, d, v, S.pop.front.repT, S.front.repT, e, hv, h v H2 (S.pop.pop.with fun o => o.scal fun _ => rep_scal hv)⟩
theorem rD_of {f : D → D → Option T} {W : WX} {σ : L2.St} {Q : VK} {R : Fr} {ρ : Env} {tm : List Item} {x y : V} {t1 t2 : T} {H2 : Hp} (S : Sta (gx X) R σ ρ H2 ((y, t2) :: (x, t1) :: tm))
    (h : End (gx X) R σ tm W (toQ (gx X) R σ tm Q) (match f t1.toD t2.toD with
      | some t => .ok t ρ
      | none => .stuck)) : rD (gx X) f x y H2 Q := by
  cases e : f t1.toD t2.toD with
  | none => rw [e] at h; exact h.elim
  | some t =>
    rw [e] at h
    refine ⟨R, items σ ρ ++ tm, t1.toD, t2.toD, t, ?_, e, fun v H' o => h v H' (Sta.back S.fits S.lent o)⟩
    have o1 := S.front.freeze
    have o2 : Own (gx X) R H2 ((x, t1) :: (y, .leaf t2.toD) :: (items σ ρ ++ tm)) := o1.perm ((List.Perm.cons _ (perm_mid _ _ _)).trans (.swap _ _ _))
    exact o2.freeze.perm (.swap _ _ _)
theorem ped_binS {op : Operator} {f : D → D → Option D} (hf : ScalF f) (ho : OpR X (binaryOp op) (rS (gx X) f)) (ha : PEd X L a ma) (hb : PEd X L b mb) : PEd X L (.BinOp a op b pos) (mS2 f ma mb) :=
  ⟨fun W tk => PE.imp (pe_op ho (ha.run W tk) (hb.run W tk)) fun σ H Q h => tem_two h fun R ρ tm x y t1 t2 H2 _ S q => rS_of hf S q⟩
theorem ped_binD {op : Operator} {f : D → D → Option T} (ho : OpR X (binaryOp op) (rD (gx X) f)) (ha : PEd X L a ma) (hb : PEd X L b mb) : PEd X L (.BinOp a op b pos) (mD2 f ma mb) :=
  ⟨fun W tk => PE.imp (pe_op ho (ha.run W tk) (hb.run W tk)) fun σ H Q h => tem_two h fun R ρ tm x y t1 t2 H2 _ S q => rD_of S q⟩
theorem ped_cmp {op : CmpOp} {f : D → D → Option D} (hf : ScalF f) (ho : OpR X (compareOp op) (rS (gx X) f)) (ha : PEd X L a ma) (hb : PEd X L b mb) (hm : behindInMarks op b = false) : PEd X L (.Compare a [op] [b] pos) (mS2 f ma mb) :=
  ⟨fun W tk => PE.imp (pe_cmpR ho (ha.run W tk) (hb.run W tk) hm) fun σ H Q h => tem_two h fun R ρ tm x y t1 t2 H2 _ S q => rS_of hf S q⟩
/-- as a test -/
def asB : Res T → Res Bool := fun r => r.bind fun t ρ => match t with
  | .leaf (.bl b) => .ok b ρ
  | _ => .stuck
def mTest (m : M T) : M Bool := fun ρ => asB (m ρ)
theorem tem_test {m : M T} {W : WX} {σ : L2.St} {H : Hp} {Q : Bool → Hp → Prop} (h : TTm (gx X) L W (mTest m) σ H Q) : TEm (gx X) L W m σ H fun x H' => ∃ k, x = .bl k ∧ Q k H' := by
  obtain ⟨R, ρ, tm, hL, S, h⟩ := h
  refine ⟨R, ρ, tm, hL, S, (End.bind h).mono fun t ρ1 _ q v H1 S1 => ?_⟩
  cases t with
  | leaf d =>
    cases d with
    | bl b =>
      refine ⟨b, S1.front.rep, q H1 S1.pop⟩
    | _ => exact q.elim
  | node ts => exact q.elim
theorem ptd_cmp {op : CmpOp} {f : D → D → Option D} (hf : ScalF f) (ho : OpR X (compareOp op) (rS (gx X) f)) (ha : PEd X L a ma) (hb : PEd X L b mb) (hm : behindInMarks op b = false) : PTd X L (.Compare a [op] [b] pos) (mTest (mS2 f ma mb)) :=
  ⟨fun W tk => PT.imp (pt_cmpR ho (ha.run W tk) (hb.run W tk) hm) fun σ H Q h => by
    have q := tem_test h
    exact tem_two q fun R ρ tm x y t1 t2 H2 _ S q => rS_of hf S q⟩
theorem ptd_val {e : Expr} {m : M T} (h : PEd X L e m) (he : ∀ whole, isTrue e X.env whole = (do let v ← whole; standAt e.pos; holding [v] (truthy v)) := by intro _; rfl) : PTd X L e (mTest m) :=
  ⟨fun W tk => PT.imp (pt_val (h.run W tk) he) fun σ H Q q => tem_test q⟩
/-! ### and, or, not -/
def mAnd (a b : M Bool) : M Bool := fun ρ => (a ρ).bind fun c ρ1 => if c = true then b ρ1 else .ok false ρ1
def mOr (a b : M Bool) : M Bool := fun ρ => (a ρ).bind fun c ρ1 => if c = true then .ok true ρ1 else b ρ1
def mNot (a : M Bool) : M Bool := fun ρ => (a ρ).bind fun c ρ1 => .ok (!c) ρ1
variable {ca cb : M Bool} {rest : List Expr}
theorem pwd_and1 (ha : PTd X L a ca) : PWd X L (.BoolOp .And [a] pos) ca := ⟨fun W tk => pw_and1 (ha.run W tk)⟩
theorem pwd_or1 (ha : PTd X L a ca) : PWd X L (.BoolOp .Or [a] pos) ca := ⟨fun W tk => pw_or1 (ha.run W tk)⟩
theorem pwd_and (ha : PTd X L a ca) (hb : PWd X L (.BoolOp .And (b :: rest) pos) cb) : PWd X L (.BoolOp .And (a :: b :: rest) pos) (mAnd ca cb) :=
  ⟨fun W tk => PW.imp (pw_and (ha.run W tk) (hb.run W tk)) fun σ H Q ⟨R, ρ, tm, hL, S, h⟩ => ⟨R, ρ, tm, hL, S, (End.bind h).mono fun c ρ1 _ q H1 S1 => by
    cases c with
    | true => rw [if_pos rfl] at q ⊢; exact ⟨R, ρ1, tm, hL, S1, q⟩
    | false => rw [if_neg Bool.false_ne_true] at q ⊢; exact q H1 S1⟩⟩
theorem pwd_or (ha : PTd X L a ca) (hb : PWd X L (.BoolOp .Or (b :: rest) pos) cb) : PWd X L (.BoolOp .Or (a :: b :: rest) pos) (mOr ca cb) :=
  ⟨fun W tk => PW.imp (pw_or (ha.run W tk) (hb.run W tk)) fun σ H Q ⟨R, ρ, tm, hL, S, h⟩ => ⟨R, ρ, tm, hL, S, (End.bind h).mono fun c ρ1 _ q H1 S1 => by
    cases c with
    | false => rw [if_neg Bool.false_ne_true] at q ⊢; exact ⟨R, ρ1, tm, hL, S1, q⟩
    | true => rw [if_pos rfl] at q ⊢; exact q H1 S1⟩⟩
theorem ptd_not (ha : PTd X L a ca) : PTd X L (.UnaryOp .Not a pos) (mNot ca) :=
  ⟨fun W tk => PT.imp (pt_not (ha.run W tk)) fun σ H Q ⟨R, ρ, tm, hL, S, h⟩ => ⟨R, ρ, tm, hL, S, (End.bind h).mono fun c ρ1 _ q H1 S1 => q H1 S1⟩⟩
/-- as values: all but the last True or False -/
def mAndV (a b : M T) : M T := fun ρ => (mTest a ρ).bind fun c ρ1 => if c = true then b ρ1 else .ok (.leaf (.bl false)) ρ1
def mOrV (a b : M T) : M T := fun ρ => (mTest a ρ).bind fun c ρ1 => if c = true then .ok (.leaf (.bl true)) ρ1 else b ρ1
def mNotV (a : M T) : M T := fun ρ => (mTest a ρ).bind fun c ρ1 => .ok (.leaf (.bl (!c))) ρ1
theorem ped_one {op : BoolOp} {m : M T} (h : PEd X L a m) : PEd X L (.BoolOp op [a] pos) m := ⟨fun W tk => pe_one (h.run W tk)⟩
theorem tem_testB {m : M T} {W : WX} {σ : L2.St} {H : Hp} {Q : VK} {k : Bool → Env → Res T} {P : Bool → Hp → Prop} (h : TEm (gx X) L W (fun ρ => (mTest m ρ).bind k) σ H Q)
    (hk : ∀ R ρ tm c H1, R.lent.map (·.1) = L → Sta (gx X) R σ ρ H1 tm → End (gx X) R σ tm W (toQ (gx X) R σ tm Q) (k c ρ) → P c H1) :
    TEm (gx X) L W m σ H fun x H1 => ∃ c, x = .bl c ∧ P c H1 := by
  obtain ⟨R, ρ, tm, hL, S, h⟩ := h
  refine tem_test ⟨R, ρ, tm, hL, S, (End.bind h).mono fun c ρ1 _ q H1 S1 => hk R ρ1 tm c H1 hL S1 q⟩
theorem ped_and (ha : PEd X L a ma) (hb : PEd X L (.BoolOp .And (b :: rest) pos) mb) : PEd X L (.BoolOp .And (a :: b :: rest) pos) (mAndV ma mb) :=
  ⟨fun W tk => PE.imp (pe_and (ha.run W tk) (hb.run W tk)) fun σ H Q h => tem_testB (P := fun c H1 => if c = true then TEm (gx X) L W mb σ H1 Q else Q (.bl false) H1) h fun R ρ tm c H1 hL S q => by
    cases c with
    | true => rw [if_pos rfl] at q ⊢; exact ⟨R, ρ, tm, hL, S, q⟩
    | false => rw [if_neg Bool.false_ne_true] at q ⊢; exact q _ H1 (S.with fun o => o.scal fun _ => rfl)⟩
theorem ped_or (ha : PEd X L a ma) (hb : PEd X L (.BoolOp .Or (b :: rest) pos) mb) : PEd X L (.BoolOp .Or (a :: b :: rest) pos) (mOrV ma mb) :=
  ⟨fun W tk => PE.imp (pe_or (ha.run W tk) (hb.run W tk)) fun σ H Q h => tem_testB (P := fun c H1 => if c = true then Q (.bl true) H1 else TEm (gx X) L W mb σ H1 Q) h fun R ρ tm c H1 hL S q => by
    cases c with
    | false => rw [if_neg Bool.false_ne_true] at q ⊢; exact ⟨R, ρ, tm, hL, S, q⟩
    | true => rw [if_pos rfl] at q ⊢; exact q _ H1 (S.with fun o => o.scal fun _ => rfl)⟩
theorem ped_not (ha : PEd X L a ma) : PEd X L (.UnaryOp .Not a pos) (mNotV ma) :=
  ⟨fun W tk => PE.imp (pe_not (ha.run W tk)) fun σ H Q h => tem_testB (P := fun c H1 => Q (.bl (!c)) H1) h fun R ρ tm c H1 hL S q => q _ H1 (S.with fun o => o.scal fun _ => rfl)⟩
/-- a if t else b -/
def mIfE (c : M Bool) (a b : M T) : M T := fun ρ => (c ρ).bind fun k ρ1 => if k = true then a ρ1 else b ρ1
theorem ped_ifE {c : Expr} (hc : PTd X L c ca) (ha : PEd X L a ma) (hb : PEd X L b mb) : PEd X L (.IfExp c a b pos) (mIfE ca ma mb) :=
  ⟨fun W tk => PE.imp (pe_ifExp (hc.run W tk) (ha.run W tk) (hb.run W tk)) fun σ H Q ⟨R, ρ, tm, hL, S, h⟩ => ⟨R, ρ, tm, hL, S, (End.bind h).mono fun c ρ1 _ q H1 S1 => by
    cases c with
    | true => rw [if_pos rfl] at q ⊢; exact ⟨R, ρ1, tm, hL, S1, q⟩
    | false => rw [if_neg Bool.false_ne_true] at q ⊢; exact ⟨R, ρ1, tm, hL, S1, q⟩⟩⟩
end

/-! ### argument lists, displays -/
/-- arguments from the left -/
def mArgs : List (M T) → Env → Res (List T)
  | [], ρ => .ok [] ρ
  | m :: ms, ρ => (m ρ).bind fun t ρ1 => (mArgs ms ρ1).bind fun ts ρ2 => .ok (t :: ts) ρ2
def toA (G : Gx) (R : Fr) (σ : L2.St) (tm : List Item) (Q : List V → Hp → Prop) : List T → Env → Prop := fun ts ρ => ∀ vs H, vs.length = ts.length → Sta G R σ ρ H (vs.zip ts ++ tm) → Q vs H
def TAm (G : Gx) (L : List Nat) (W : WX) (m : Env → Res (List T)) : TA := fun σ H Q => ∃ R ρ tm, R.lent.map (·.1) = L ∧ Sta G R σ ρ H tm ∧ End G R σ tm W (toA G R σ tm Q) (m ρ)
structure PAd (X : Cx) (L : List Nat) (es : List Expr) (ms : List (M T)) : Prop where
  run : ∀ W, L2N.Takes X W → PA X es (TAm (gx X) L W (mArgs ms))
theorem PA.imp {X : Cx} {es : List Expr} {t t' : TA} (h : PA X es t) (f : ∀ σ H Q, t' σ H Q → t σ H Q) : PA X es t' := ⟨fun pos pins s σ H Q I q => h.run pos pins s σ H Q I (f _ _ _ q)⟩
section
variable {X : Cx} {L : List Nat} {e : Expr} {es : List Expr} {m : M T} {ms : List (M T)} {pos : Pos}
theorem pad_nil : PAd X L [] [] := ⟨fun W _ => PA.imp pa_nil fun σ H Q ⟨R, ρ, tm, _, S, h⟩ => h [] H rfl S⟩
theorem pad_cons (he : PEd X L e m) (hs : PAd X L es ms) (hq : starEach (e :: es) X.env = (false, eval e X.env) :: starEach es X.env := by rfl) : PAd X L (e :: es) (m :: ms) :=
  ⟨fun W tk => PA.imp (pa_cons (he.run W tk) (hs.run W tk) hq) fun σ H Q ⟨R, ρ, tm, hL, S, h⟩ => by
    refine ⟨R, ρ, tm, hL, S, (End.bind h).mono fun t ρ1 _ q x H1 S1 => ?_⟩
    refine ⟨R, ρ1, (x, t) :: tm, hL, S1, ((End.bind q).push (x, t)).mono fun ts ρ2 _ q2 xs H2 hl S2 => ?_⟩
    refine q2 (x :: xs) H2 (by simp [hl]) ⟨S2.fits, S2.lent, S2.own.perm (List.Perm.append_left _ ?_)⟩
    exact perm_mid _ _ _⟩
def mTup (ms : List (M T)) : M T := fun ρ => (mArgs ms ρ).bind fun ts ρ1 => if ts.length ≤ 16000000 then .ok (.leaf (.tup (ts.map T.toD))) ρ1 else .stuck
def mLst (ms : List (M T)) : M T := fun ρ => (mArgs ms ρ).bind fun ts ρ1 => if ts.length ≤ 16000000 then .ok (.node ts) ρ1 else .stuck
theorem line16 {n : Nat} (h : n ≤ 16000000) : n ≤ sizeLine := by rw [sizeLine_eq]; omega
/-- values of a list of owned things, as data -/
theorem Own.freezeAll {G : Gx} {R : Fr} {H : Hp} {its : List Item} : ∀ {vs : List V} {ts : List T}, vs.length = ts.length → Own G R H (vs.zip ts ++ its) → Own G R H (vs.zip (ts.map fun t => T.leaf t.toD) ++ its)
  | [], [], _, h => h
  | v :: vs, t :: ts, hl, h => by
    have h1 : Own G R H (vs.zip ts ++ ((v, .leaf t.toD) :: its)) := (Own.freeze h).perm (perm_mid _ _ _).symm
    have h2 := Own.freezeAll (by simpa using hl) h1
    exact h2.perm (perm_mid _ _ _)
  | [], _ :: _, hl, _ => by simp at hl
  | _ :: _, [], hl, _ => by simp at hl
theorem OwnF.reps {G : Gx} {R : Fr} {H : Hp} {its : List Item} {F : List Addr} : ∀ {vs : List V} {ds : List D}, vs.length = ds.length → OwnF G R H (vs.zip (ds.map T.leaf) ++ its) F → Reps G (R.msk H F) ds vs
  | [], [], _, _ => rfl
  | v :: vs, d :: ds, hl, h => ⟨v, vs, rfl, OwnF.head h, OwnF.reps (by simpa using hl) (OwnF.tail h)⟩
  | [], _ :: _, hl, _ => by simp at hl
  | _ :: _, [], hl, _ => by simp at hl
theorem OwnF.tails {G : Gx} {R : Fr} {H : Hp} {its : List Item} {F : List Addr} : ∀ {vs : List V} {ds : List D}, vs.length = ds.length → OwnF G R H (vs.zip (ds.map T.leaf) ++ its) F → OwnF G R H its F
  | [], [], _, h => h
  | v :: vs, d :: ds, hl, h => OwnF.tails (by simpa using hl) (OwnF.tail h)
  | [], _ :: _, hl, _ => by simp at hl
  | _ :: _, [], hl, _ => by simp at hl
theorem Sta.frontL {G : Gx} {R : Fr} {σ : L2.St} {ρ : Env} {H : Hp} {l tm : List Item} (S : Sta G R σ ρ H (l ++ tm)) : Own G R H (l ++ (items σ ρ ++ tm)) := S.own.perm (by
  rw [← List.append_assoc, ← List.append_assoc]; exact List.Perm.append_right _ List.perm_append_comm)
theorem Sta.backL {G : Gx} {R : Fr} {σ : L2.St} {ρ : Env} {H : Hp} {l tm : List Item} (f : Fits σ ρ) (l' : ∀ p ∈ R.lent, σ[p.1]? = some (some p.2)) (h : Own G R H (l ++ (items σ ρ ++ tm))) : Sta G R σ ρ H (l ++ tm) := ⟨f, l', h.perm (by
  rw [← List.append_assoc, ← List.append_assoc]; exact List.Perm.append_right _ List.perm_append_comm)⟩
theorem ped_tup {k : Nat} (h : PAd X L es ms) : PEd X L (.Tuple es k pos) (mTup ms) :=
  ⟨fun W tk => PE.imp (pe_tup (h.run W tk)) fun σ H Q ⟨R, ρ, tm, hL, S, h⟩ => ⟨R, ρ, tm, hL, S, (End.bind h).mono fun ts ρ1 _ q vs H1 hl S1 => by
    by_cases hz : ts.length ≤ 16000000
    · rw [if_pos hz] at q
      refine ⟨by rw [hl]; exact line16 hz, fun p hp => q (.ref p) _ (Sta.back S1.fits S1.lent ?_)⟩
      have o := Own.freezeAll hl S1.frontL
      have e : ts.map (fun t => T.leaf t.toD) = (ts.map T.toD).map T.leaf := by rw [List.map_map]; rfl
      rw [e] at o
      obtain ⟨F, o⟩ := o
      have hl2 : vs.length = (ts.map T.toD).length := by rw [List.length_map]; exact hl
      exact ⟨F, OwnF.newTup (OwnF.tails hl2 o) hp (OwnF.reps hl2 o)⟩
    · rw [if_neg hz] at q; exact q.elim⟩⟩
theorem ped_lst (h : PAd X L es ms) : PEd X L (.List es pos) (mLst ms) :=
  ⟨fun W tk => PE.imp (pe_lst (h.run W tk)) fun σ H Q ⟨R, ρ, tm, hL, S, h⟩ => ⟨R, ρ, tm, hL, S, (End.bind h).mono fun ts ρ1 _ q vs H1 hl S1 => by
    by_cases hz : ts.length ≤ 16000000
    · rw [if_pos hz] at q
      exact ⟨by rw [hl]; exact line16 hz, fun p hp => q (.ref p) _ (Sta.back S1.fits S1.lent (Own.newLst S1.frontL hl hp))⟩
    · rw [if_neg hz] at q; exact q.elim⟩⟩
end

/-! ### statements -/
def mSeq (a b : SM) : SM := fun ρ => match a ρ with
  | .nx ρ1 => b ρ1
  | r => r
def mNext : SM := fun ρ => .nx ρ
def mBreak : SM := fun ρ => .bk ρ
def mCont : SM := fun ρ => .ct ρ
def Res.toS {α : Type} (r : Res α) (k : α → Env → SRes) : SRes := match r with
  | .ok a ρ => k a ρ
  | .exc c a d ρ => .exc c a d ρ
  | .stuck => .stuck
def putS (i : Nat) (t : T) (ρ : Env) : SRes := match ρ[i]? with
  | some _ => .nx (ρ.set i (some t))
  | none => .stuck
/-- name = e, the name's list owned; its data shared -/
def mSetO (i : Nat) (m : M T) : SM := fun ρ => (m ρ).toS fun t ρ1 => putS i t ρ1
def mSet (i : Nat) (m : M T) : SM := fun ρ => (m ρ).toS fun t ρ1 => putS i (.leaf t.toD) ρ1
def mRet (m : M T) : SM := fun ρ => (m ρ).toS fun t ρ1 => .rt t ρ1
def mRetN : SM := fun ρ => .rt (.leaf .non) ρ
def mDrop (m : M T) : SM := fun ρ => (m ρ).toS fun _ ρ1 => .nx ρ1
def mIf (c : M Bool) (a b : SM) : SM := fun ρ => (c ρ).toS fun k ρ1 => if k = true then a ρ1 else b ρ1
section
variable {X : Cx} {L : List Nat} {st : Stmt} {rest : List Stmt} {m1 m2 : SM} {e : Expr} {m : M T} {pos : Pos}
theorem EndS.seq {G : Gx} {R : Fr} {tm : List Item} {W : WX} {D : Ends} {a : SRes} {b : SM} {ρ : Env} (h : EndS G R tm W D (mSeq m1 b ρ)) : EndS G R tm W { D with nx := fun σ H => ∃ ρ1, Sta G R σ ρ1 H tm ∧ EndS G R tm W D (b ρ1) } (m1 ρ) := by
  unfold mSeq at h
  cases e : m1 ρ with
  | nx ρ1 => rw [e] at h; exact fun σ H S => ⟨ρ1, S, h⟩
  | rt t ρ1 => rw [e] at h; exact h
  | bk ρ1 => rw [e] at h; exact h
  | ct ρ1 => rw [e] at h; exact h
  | exc => rw [e] at h; exact h
  | stuck => rw [e] at h; exact h
theorem pbd_nil : PBd X L [] mNext := ⟨fun W _ _ => PSs.imp pss_nil fun D σ H ⟨R, ρ, tm, _, S, h⟩ => h σ H S⟩
theorem pbd_cons (h1 : PSd X L st m1) (h2 : PBd X L rest m2) : PBd X L (st :: rest) (mSeq m1 m2) :=
  ⟨fun W tk hp => PSs.imp (pss_cons (h1.run W tk hp) (h2.run W tk hp)) fun D σ H ⟨R, ρ, tm, hL, S, h⟩ => ⟨R, ρ, tm, hL, S, by
    have q := EndS.seq (a := m1 ρ) h
    cases e : m1 ρ with
    | nx ρ1 =>
      rw [e] at q
      intro σ' H' S'
      obtain ⟨ρ2, S2, q2⟩ := q σ' H' S'
      exact ⟨R, ρ2, tm, hL, S2, q2⟩
    | rt t ρ1 => rw [e] at q; exact q
    | bk ρ1 => rw [e] at q; exact q
    | ct ρ1 => rw [e] at q; exact q
    | exc => rw [e] at q; exact q
    | stuck => rw [e] at q; exact q⟩⟩
theorem pbd_one (h1 : PSd X L st m1) : PBd X L [st] m1 := ⟨fun W tk hp => pss_one (h1.run W tk hp)⟩
theorem psd_pass : PSd X L (.Pass pos) mNext := ⟨fun W _ _ => PS.imp ps_pass fun D σ H ⟨R, ρ, tm, _, S, h⟩ => h σ H S⟩
theorem psd_break : PSd X L (.Break pos) mBreak := ⟨fun W _ _ => PS.imp ps_break fun D σ H ⟨R, ρ, tm, _, S, h⟩ => h σ H S⟩
theorem psd_cont : PSd X L (.Continue pos) mCont := ⟨fun W _ _ => PS.imp ps_continue fun D σ H ⟨R, ρ, tm, _, S, h⟩ => h σ H S⟩
theorem psd_doc {x : Str} {j : Nat} {pos' : Pos} : PSd X L (.Expr (.Constant (.str x) j pos) pos') mNext := ⟨fun W _ _ => PS.imp ps_doc fun D σ H ⟨R, ρ, tm, _, S, h⟩ => h σ H S⟩
/-- an expression's end, a statement behind it -/
theorem tem_toS {W : WX} {D : Ends} {σ : L2.St} {H : Hp} {k : T → Env → SRes} {Q : VK} (h : TSm (gx X) L W (fun ρ => (m ρ).toS k) D σ H)
    (hk : ∀ R ρ tm v t H1, R.lent.map (·.1) = L → Sta (gx X) R σ ρ H1 ((v, t) :: tm) → EndS (gx X) R tm W D (k t ρ) → Q v H1) : TEm (gx X) L W m σ H Q := by
  obtain ⟨R, ρ, tm, hL, S, h⟩ := h
  refine ⟨R, ρ, tm, hL, S, ?_⟩
  cases e : m ρ with
  | ok t ρ1 => simp only [e, Res.toS] at h; exact fun v H1 S1 => hk R ρ1 tm v t H1 hL S1 h
  | exc => simp only [e, Res.toS] at h; exact h σ
  | stuck => simp only [e, Res.toS] at h; exact h
theorem ttm_toS {c : M Bool} {W : WX} {D : Ends} {σ : L2.St} {H : Hp} {k : Bool → Env → SRes} {Q : Bool → Hp → Prop} (h : TSm (gx X) L W (fun ρ => (c ρ).toS k) D σ H)
    (hk : ∀ R ρ tm b H1, R.lent.map (·.1) = L → Sta (gx X) R σ ρ H1 tm → EndS (gx X) R tm W D (k b ρ) → Q b H1) : TTm (gx X) L W c σ H Q := by
  obtain ⟨R, ρ, tm, hL, S, h⟩ := h
  refine ⟨R, ρ, tm, hL, S, ?_⟩
  cases e : c ρ with
  | ok t ρ1 => simp only [e, Res.toS] at h; exact fun H1 S1 => hk R ρ1 tm t H1 hL S1 h
  | exc => simp only [e, Res.toS] at h; exact h σ
  | stuck => simp only [e, Res.toS] at h; exact h
theorem put_ok {W : WX} {D : Ends} {R : Fr} {ρ : Env} {tm : List Item} {v : V} {t : T} {σ : L2.St} {H : Hp} {i : Nat} (hi : i ∉ R.lent.map (·.1)) (S : Sta (gx X) R σ ρ H ((v, t) :: tm)) (q : EndS (gx X) R tm W D (putS i t ρ)) : D.nx (σ.set i (some v)) H := by
  unfold putS at q
  split at q
  · rename_i o e
    exact q _ _ (S.store (List.getElem?_eq_some_iff.mp e).1 hi)
  · exact q.elim
/-- name = e: h is the rule's own «he ↦ ps_set .. he» -/
theorem psd_setO {i : Nat} (hi : i ∉ L) (he : PEd X L e m) (h : ∀ te, PE X e te → PS X st (tAsg te (gName i))) : PSd X L st (mSetO i m) :=
  ⟨fun W tk _ => PS.imp (h _ (he.run W tk)) fun D σ H q => tem_toS q fun R ρ tm v t H1 hL S q => put_ok (by rw [hL]; exact hi) S q⟩
theorem psd_set {i : Nat} (hi : i ∉ L) (he : PEd X L e m) (h : ∀ te, PE X e te → PS X st (tAsg te (gName i))) : PSd X L st (mSet i m) :=
  ⟨fun W tk _ => PS.imp (h _ (he.run W tk)) fun D σ H q => tem_toS q fun R ρ tm v t H1 hL S q => put_ok (by rw [hL]; exact hi) (Sta.back S.fits S.lent S.front.freeze) q⟩
theorem psd_ret (he : PEd X L e m) : PSd X L (.Return (some e) pos) (mRet m) :=
  ⟨fun W tk _ => PS.imp (ps_ret (he.run W tk)) fun D σ H q => tem_toS q fun R ρ tm v t H1 hL S q => q v σ H1 S⟩
theorem psd_retN : PSd X L (.Return none pos) mRetN :=
  ⟨fun W tk _ => PS.imp ps_retN fun D σ H ⟨R, ρ, tm, _, S, h⟩ => h .non σ H (S.with fun o => o.scal fun _ => rfl)⟩
theorem psd_expr (he : PEd X L e m) (hs : swapsWith e none pos.line X.env = pure false := by rfl) : PSd X L (.Expr e pos) (mDrop m) :=
  ⟨fun W tk _ => PS.imp (ps_expr (he.run W tk) hs) fun D σ H q => tem_toS q fun R ρ tm v t H1 hL S q => q σ H1 S.pop⟩
theorem psd_if {c : Expr} {cm : M Bool} {a b : List Stmt} (hc : PTd X L c cm) (ha : PBd X L a m1) (hb : PBd X L b m2) : PSd X L (.If c a b pos) (mIf cm m1 m2) :=
  ⟨fun W tk hp => PS.imp (ps_if (hc.run W tk) (ha.run W tk hp) (hb.run W tk hp)) fun D σ H q => ttm_toS q fun R ρ tm k H1 hL S q => by
    cases k with
    | true => rw [if_pos rfl] at q ⊢; exact ⟨R, ρ, tm, hL, S, q⟩
    | false => rw [if_neg Bool.false_ne_true] at q ⊢; exact ⟨R, ρ, tm, hL, S, q⟩⟩
end
end Q

/-! Defs: what a def promises, how it is called. -/
namespace Q
open PySem PySem.Spec PyProof.Rows L2

theorem Own.frame {G : Gx} {R : Fr} {H : Hp} {its rest : List Item} (h : Own G R H (its ++ rest)) (l : List (Nat × V)) :
    ∃ R' : Fr, R'.lent = l ∧ Own G R' H its ∧ ∀ H' its', Own G R' H' its' → Own G R H' (its' ++ rest) := by
  obtain ⟨F, h⟩ := h
  obtain ⟨Fa, Fb, e, h1, h2⟩ := Its.append.mp h.rep
  subst e
  have nd := List.nodup_append.mp h.nd
  have em : ∀ (H : Hp) (A : List Addr), mask H (A ++ (Fb ++ R.hid)) = mask H ((A ++ Fb) ++ R.hid) := fun H A => by rw [List.append_assoc]
  refine ⟨⟨H, Fa, Fb ++ R.hid, l⟩, rfl, ⟨Fa, nd.1, ?_, fun b hb => .inl hb, fun b o e _ => e, fun b hb m => ?_, fun b hb => ?_⟩, fun H' its' ⟨F', o⟩ => ?_⟩
  · show Its G H (mask H (Fa ++ (Fb ++ R.hid))) its Fa
    rw [em]; exact h1
  · rcases List.mem_append.mp m with m | m
    · exact nd.2.2 b hb b m rfl
    · exact h.dis b (List.mem_append_left _ hb) m
  · rcases List.mem_append.mp hb with m | m
    · obtain ⟨xs, e⟩ := h2.there b m
      exact ⟨_, e⟩
    · exact h.hid b m
  · have nA : ∀ b ∈ Fb, b ∉ Fa := fun b hb m => nd.2.2 b m b hb rfl
    have keep : ∀ b o, H b = some o → b ∉ Fa → H' b = some o := fun b u e n => o.old b u e n
    have nF : ∀ b o, H b = some o → b ∉ Fa → b ∉ F' := fun b u e n m => by
      rcases o.new b m with z | z
      · exact n z
      · have z' : H b = none := z
        rw [e] at z'; cases z'
    have r1 : Its G H' (mask H' (F' ++ (Fb ++ R.hid))) its' F' := o.rep
    rw [em] at r1
    refine ⟨F' ++ Fb, List.nodup_append.mpr ⟨o.nd, nd.2.1, fun b hb c hc z => ?_⟩, Its.append.mpr ⟨F', Fb, rfl, r1, h2.mono ?_ fun b hb => ?_⟩, fun b hb => ?_, fun b u e n => ?_, fun b hb => ?_, fun b hb => ?_⟩
    · subst z
      exact o.dis b hb (List.mem_append_left _ hc)
    · refine mask_mono fun b u e n => ?_
      have n1 : b ∉ Fa := fun m => n (List.mem_append_left _ (List.mem_append_left _ m))
      refine ⟨keep b u e n1, fun m => ?_⟩
      rcases List.mem_append.mp m with m | m
      · rcases List.mem_append.mp m with m | m
        · exact nF b u e n1 m
        · exact n (List.mem_append_left _ (List.mem_append_right _ m))
      · exact n (List.mem_append_right _ m)
    · obtain ⟨xs, e⟩ := h2.there b hb
      rw [keep b _ e (nA b hb), e]
    · rcases List.mem_append.mp hb with m | m
      · rcases o.new b m with z | z
        · exact h.new b (List.mem_append_left _ z)
        · by_cases q : b ∈ R.F0
          · exact .inl q
          · cases e : R.H0 b with
            | none => exact .inr rfl
            | some u =>
              have q2 := h.old b u e q
              have z' : H b = none := z
              rw [z'] at q2; cases q2
      · exact h.new b (List.mem_append_right _ m)
    · refine keep b u (h.old b u e n) fun m => ?_
      rcases h.new b (List.mem_append_left _ m) with z | z
      · exact n z
      · rw [e] at z; cases z
    · rcases List.mem_append.mp hb with m | m
      · exact fun z => o.dis b m (List.mem_append_right _ z)
      · exact h.dis b (List.mem_append_right _ m)
    · obtain ⟨u, e⟩ := h.hid b hb
      exact ⟨u, keep b u e fun m => h.dis b (List.mem_append_left _ m) hb⟩

inductive FRes where
  | ok (t : T) (ls : List T)
  | exc (c at' : Str) (d : D) (ls : List T)
  | stuck
def pick : List Nat → Env → Option (List T)
  | [], _ => some []
  | i :: is, ρ => match ρ[i]? with
    | some (some t) => (pick is ρ).map (t :: ·)
    | _ => none
def SRes.toF (lent : List Nat) : SRes → FRes
  | .nx ρ => match pick lent ρ with
    | some ls => .ok (.leaf .non) ls
    | none => .stuck
  | .rt t ρ => match pick lent ρ with
    | some ls => .ok t ls
    | none => .stuck
  | .exc c a d ρ => match pick lent ρ with
    | some ls => .exc c a d ls
    | none => .stuck
  | _ => .stuck
def env0 (n : Nat) (ts : List T) : Env := ts.map some ++ List.replicate (n - ts.length) none
/-- a def of n names, its parameters first, of which lent are handed in to be changed -/
def mkF (lent : List Nat) (n : Nat) (body : SM) : List T → FRes := fun ts => (body (env0 n ts)).toF lent
def lentV (lent : List Nat) (vs : List V) : List (Nat × V) := lent.filterMap fun i => vs[i]?.map fun v => (i, v)
/-- what a def promises: n parameters -/
def spF (G : Gx) (n : Nat) (lent : List Nat) (m : List T → FRes) : Sp := fun vs H Q E => ∃ (R : Fr) (ts : List T), vs.length = n ∧ ts.length = n ∧ R.lent = lentV lent vs ∧ Own G R H (vs.zip ts) ∧
  match m ts with
  | .ok t ls => ∀ v H', Own G R H' ((v, t) :: (R.lent.map (·.2)).zip ls) → Q v H'
  | .exc c at' d ls => ∀ C a v H', G.mg c = some (.ref C) → H' a = some (.xd [(at', v)]) → Own G R H' ((v, .leaf d) :: (R.lent.map (·.2)).zip ls) → E (.ref C) (some a) H'
  | .stuck => False

theorem pick_set {i : Nat} {o : Option T} : ∀ {is : List Nat} {ρ : Env}, i ∉ is → pick is (ρ.set i o) = pick is ρ
  | [], ρ, _ => rfl
  | j :: js, ρ, h => by
    have hj : i ≠ j := fun z => h (by rw [z]; exact List.mem_cons_self)
    unfold pick
    rw [List.getElem?_set_ne hj, pick_set fun m => h (List.mem_cons_of_mem _ m)]
theorem pick_own {G : Gx} {R : Fr} {H : Hp} {σ : L2.St} {tm : List Item} : ∀ {l : List (Nat × V)} {ρ : Env} {ls : List T}, (∀ p ∈ l, σ[p.1]? = some (some p.2)) → (l.map (·.1)).Nodup → pick (l.map (·.1)) ρ = some ls → Fits σ ρ → Own G R H (items σ ρ ++ tm) → Own G R H ((l.map (·.2)).zip ls ++ tm)
  | [], ρ, ls, _, _, e, _, h => by
    have e' : [] = ls := Option.some.inj e
    subst e'
    exact h.dropAll
  | p :: l, ρ, ls, hl, nd, e, f, h => by
    simp only [List.map_cons, pick] at e
    split at e
    · rename_i t et
      obtain ⟨v, e1, pm, f'⟩ := items_set_none f et
      have ev : v = p.2 := by have := hl p List.mem_cons_self; rw [e1] at this; simpa using this
      subst ev
      cases e2 : pick (l.map (·.1)) ρ with
      | none => rw [e2] at e; cases e
      | some ls' =>
        rw [e2] at e
        have e3 : t :: ls' = ls := Option.some.inj e
        subst e3
        have nd' : p.1 ∉ l.map (·.1) ∧ (l.map (·.1)).Nodup := List.nodup_cons.mp nd
        have h1 : Own G R H (items σ (ρ.set p.1 none) ++ ((p.2, t) :: tm)) := (h.perm (List.Perm.append_right _ pm)).perm (perm_mid _ _ _).symm
        have h2 := pick_own (l := l) (fun q hq => hl q (List.mem_cons_of_mem _ hq)) nd'.2 (by rw [pick_set nd'.1]; exact e2) f' h1
        exact h2.perm (perm_mid _ _ _)
    · cases e
theorem items_start : ∀ {vs : List V} {ts : List T} {k : Nat}, vs.length = ts.length → items (vs.map some ++ List.replicate k none) (ts.map some ++ List.replicate k none) = vs.zip ts ∧ Fits (vs.map some ++ List.replicate k none) (ts.map some ++ List.replicate k none)
  | [], [], 0, _ => ⟨rfl, trivial⟩
  | [], [], k + 1, _ => by
    have q := items_start (vs := []) (ts := []) (k := k) rfl
    exact ⟨q.1, by simp, q.2⟩
  | v :: vs, t :: ts, k, h => by
    have q := items_start (vs := vs) (ts := ts) (k := k) (by simpa using h)
    exact ⟨by simp only [List.map_cons, List.cons_append, items, List.zip_cons_cons, q.1], by simp, q.2⟩
  | [], _ :: _, _, h => by simp at h
  | _ :: _, [], _, h => by simp at h
theorem lentV_at {lent : List Nat} {vs : List V} : ∀ p ∈ lentV lent vs, vs[p.1]? = some p.2 := fun p hp => by
  obtain ⟨i, _, e⟩ := List.mem_filterMap.mp hp
  cases q : vs[i]? with
  | none => rw [q] at e; cases e
  | some v =>
    rw [q] at e
    have e' : (i, v) = p := Option.some.inj e
    subst e'
    exact q
theorem lentV_fst {vs : List V} : ∀ {lent : List Nat}, (∀ i ∈ lent, i < vs.length) → (lentV lent vs).map (·.1) = lent
  | [], _ => rfl
  | i :: is, h => by
    have hi := h i List.mem_cons_self
    have e : vs[i]? = some vs[i] := List.getElem?_eq_getElem hi
    unfold lentV
    rw [List.filterMap_cons, e]
    show i :: ((lentV is vs).map (·.1)) = i :: is
    rw [lentV_fst fun j hj => h j (List.mem_cons_of_mem _ hj)]
/-- HandS's FnOk where no repr is under way -/
structure FnG (P : Program) (w : World) (K : PySem.W.Frag) (mg : Str → Option Value) (base : Heap) (k : Nat) (f : Addr) (fd : FuncData) (ps : List Str) (sp : Sp) : Prop where
  len : ∀ vs H Q E, sp vs H Q E → vs.length = ps.length
  run : ∀ (A : Around) (outer : List PySem.Env) (s : Shared) (H : Hp) (args : Args) (us : List Value) (vs : List V) (Q : VK) (E : XK), A.guards = some [] → Room k A → Env0 P w K mg base A outer s H →
    BindsTo s fd args (ps.zip us) → Vals vs us → sp vs H Q E → codeAny (model P w) A (.call (.ref f) args) (CR (L2N.CX P w) outer P w H s Q E) s
theorem FnG.mono {P : Program} {w : World} {K : PySem.W.Frag} {mg : Str → Option Value} {base : Heap} {j k : Nat} {f : Addr} {fd : FuncData} {ps : List Str} {sp : Sp} (F : FnG P w K mg base j f fd ps sp) (h : j ≤ k) : FnG P w K mg base k f fd ps sp :=
  ⟨F.len, fun A o s H ar us vs Q E g r => F.run A o s H ar us vs Q E g (r.mono h)⟩
theorem fng_of {P : Program} {w : World} {K : PySem.W.Frag} {mg : Str → Option Value} {base : Heap} {x qual : Str} {st : Stmt} {f : Addr} {fd : FuncData} {N ps : List Str} {k : Nat} {sp : Sp} (F : Fun K x qual st f fd) (S : FnScope N ps (defScope st))
    (len : ∀ vs H Q E, sp vs H Q E → vs.length = ps.length)
    (hb : ∀ (cdv : Value) (A : Around) (outer : List PySem.Env) (s : Shared) (H : Hp) (vs : List V) (Q : VK) (E : XK), A.guards = some [] → Room k (A.deeper (envOfC qual (defScope st) s.heap.objs.size f cdv)) → sp vs H Q E →
      ∃ t, PSs (cxOf (L2N.CX P w) P w K mg base N qual (defScope st) f cdv A outer s H E) (defBody st) t ∧ t { nx := fun _ H' => Q .non H', rt := Q } (L2.start N vs) H) : FnG P w K mg base (k + 1) f fd ps sp := by
  obtain ⟨oc, od, kV, doc, pm, an, cdv, ct, osl, rfl, lk, hcd⟩ := F.ex
  refine ⟨len, fun A outer s H args us vs Q E hgd hr e0 hbind r hsp => ?_⟩
  have old : ∀ b o, base.get? b = some o → s.heap.get? b = some o := fun b o e => (e0.bs b o e).1
  have kin := e0.mod.kin.keeps old
  have par : ∀ y ∈ ps.zip us, (defScope st).names.lookup y.1 = some .local ∨ ((defScope st).names.lookup y.1 = some .cell ∧ ((cellsFrom (s.heap.objs.size + 1) (defScope st).names []).lookup y.1).isSome = true) :=
    fun y hy => (S.par y.1 (List.of_mem_zip hy).1).imp id fun q => ⟨q, PySem.W.cellsFrom_some _ _ _ (.inl q)⟩
  refine codeAny_call_function hr.depth (kin _ _ lk) rfl S.co S.gen rfl (PySem.W.codeRec_of kin hcd) (hbind _ _ _ _ (wpAny_newFunctionEnv_cells S.kind par fun env he s1 x => ?_))
  subst he
  refine ⟨(e0.mod.nolimit.keeps old).keeps x.toInCall.keep, codeAny_func ?_⟩
  obtain ⟨t, ht, hq⟩ := hb cdv A outer s H vs Q E hgd (hr.deeper _) hsp
  refine wpAny_mono (ht.run [] s1 _ H _ (inv_start S hr.hd e0 (len _ _ _ _ hsp) r x) hq) (fun fl s' hs => ?_) fun e s' hs => hs
  cases fl with
  | ret u => obtain ⟨v, σ', H', J, rv, q⟩ := hs; exact ⟨v, H', J.os, J.bare, J.base, J.hok, rv, q⟩
  | next => obtain ⟨σ', H', J, q⟩ := hs; exact ⟨V.non, H', J.os, J.bare, J.base, J.hok, rfl, q⟩
  | brk => obtain ⟨_, _, _, q⟩ := hs; exact q.elim
  | cont => obtain ⟨_, _, _, q⟩ := hs; exact q.elim
theorem run_fnG {X : Cx} {k : Nat} {f : Addr} {fd : FuncData} {ps : List Str} {sp : Sp} {E : XK} {pins : List (Addr × Obj)} {σ : L2.St} {H : Hp} {s : Shared} {Q : VK} {us : List Value} {vs : List V} (F : FnG X.prog X.w X.K X.mg X.base k f fd ps sp) (hgd : X.A.guards = some []) (hr : Room k X.A)
    (hb : Binds X.K fd ps []) (hx : PassesAt (L2N.CX X.prog X.w) X σ E) (I : Inv X pins σ H s) (r : Vals vs us) (h : sp vs H Q E) : wpAny (model X.prog X.w) X.A (call (.ref f) us) (EP X pins σ Q) X.xe s := by
  have b := hb s us I.kIn (by rw [List.append_nil, ← r.length]; exact F.len _ _ _ _ h)
  rw [List.append_nil] at b
  refine wpAny_call (codeAny_mono (F.run _ X.stack _ _ _ us vs _ _ hgd hr I.env0 b r h) fun res s' hq => ?_)
  rcases res with er | fl
  · exact hx pins H s er s' I hq
  · cases fl with
    | ret u => exact I.after hq
    | _ => exact hq.elim
theorem pe_callG {X : Cx} {k : Nat} {f : Addr} {fd : FuncData} {ps : List Str} {sp : Sp} {E : L2.St → XK} {x : Str} {e : Expr} {es : List Expr} {t : TA} {p pos : Pos} (F : FnG X.prog X.w X.K X.mg X.base k f fd ps sp) (hgd : X.A.guards = some []) (hr : Room k X.A) (hg : Gl X x) (hm : X.mg x = some (.ref f))
    (hk : PySem.W.keepIn X.K (.ref f) = true) (hb : Binds X.K fd ps []) (hx : ∀ σ, PassesAt (L2N.CX X.prog X.w) X σ (E σ)) (ha : PA X (e :: es) t) (hdb : (x == ("__debug__" : Str)) = false)
    (he : starEach (e :: es) X.env = (false, eval e X.env) :: starEach es X.env) (hpl : (backTo pos (starEach es X.env)).any (·.1) = false) : PE X (.Call (.Name x p) (e :: es) [] pos) (tCallS sp E t) :=
  ⟨fun pins s σ H Q I h => wpAny_Call_Name_kw (ld_glob I hg hm (PySem.W.callWith_K (h₀ := X.base) I.ok.mod.kin hk (thn (ha.run pos pins s σ H _ I h) fun us s1 ⟨_, _, I1, r, q⟩ => ⟨I1.kIn, run_fnG F hgd hr hb (hx σ) I1 r q⟩) he hpl) hdb)⟩
/-- THE RULE for a def -/
theorem fnd_ok {P : Program} {w : World} {K : PySem.W.Frag} {mg : Str → Option Value} {base : Heap} {x qual : Str} {st : Stmt} {f : Addr} {fd : FuncData} {N ps : List Str} {k : Nat} {lent : List Nat} {body : SM}
    (F : Fun K x qual st f fd) (S : FnScope N ps (defScope st)) (hl : lent.Nodup) (hl2 : ∀ i ∈ lent, i < ps.length)
    (hb : ∀ (cdv : Value) (A : Around) (outer : List PySem.Env) (s : Shared) (H : Hp) (E : XK), A.guards = some [] → Room k (A.deeper (envOfC qual (defScope st) s.heap.objs.size f cdv)) →
      PBd (cxOf (L2N.CX P w) P w K mg base N qual (defScope st) f cdv A outer s H E) lent (defBody st) body) :
    FnG P w K mg base (k + 1) f fd ps (spF ⟨K, mg⟩ ps.length lent (mkF lent N.length body)) := by
  refine fng_of F S (fun vs H Q E ⟨R, ts, h1, _⟩ => h1) fun cdv A outer s H vs Q E hgd hr ⟨R, ts, h1, h2, h3, h4, h5⟩ => ?_
  refine ⟨_, (hb cdv A outer s H E hgd hr).run (fun cls d _ H => E cls d H) (L2N.takes_of rfl rfl rfl rfl) (passes_of rfl), R, env0 N.length ts, [], ?_, ?_, ?_⟩
  · rw [h3]
    exact lentV_fst fun i hi => by rw [h1]; exact hl2 i hi
  · have q := items_start (vs := vs) (ts := ts) (k := N.length - ts.length) (h1.trans h2.symm)
    have es : L2.start N vs = vs.map some ++ List.replicate (N.length - ts.length) none := by unfold L2.start; rw [h1, h2]
    rw [es]
    refine ⟨q.2, fun p hp => ?_, ?_⟩
    · rw [h3] at hp
      have e := lentV_at p hp
      have hlt := (List.getElem?_eq_some_iff.mp e).1
      rw [List.getElem?_append_left (by simpa using hlt), List.getElem?_map, e]; rfl
    · unfold env0
      rw [q.1, List.append_nil]; exact h4
  · have hnd : (R.lent.map (·.1)).Nodup := by rw [h3, lentV_fst fun i hi => by rw [h1]; exact hl2 i hi]; exact hl
    have hfst : R.lent.map (·.1) = lent := by rw [h3]; exact lentV_fst fun i hi => by rw [h1]; exact hl2 i hi
    unfold mkF at h5
    cases e : body (env0 N.length ts) with
    | nx ρ =>
      rw [e] at h5
      simp only [SRes.toF] at h5
      cases e2 : pick lent ρ with
      | none => rw [e2] at h5; exact h5.elim
      | some ls =>
        rw [e2] at h5
        intro σ' H' S'
        have o := pick_own S'.lent hnd (by rw [hfst]; exact e2) S'.fits S'.own
        rw [List.append_nil] at o
        exact h5 .non H' (o.scal fun _ => rfl)
    | rt t ρ =>
      rw [e] at h5
      simp only [SRes.toF] at h5
      cases e2 : pick lent ρ with
      | none => rw [e2] at h5; exact h5.elim
      | some ls =>
        rw [e2] at h5
        intro v σ' H' S'
        have o := pick_own S'.lent hnd (by rw [hfst]; exact e2) S'.fits S'.own
        exact h5 v H' (o.perm List.perm_append_comm)
    | exc c a d ρ =>
      rw [e] at h5
      simp only [SRes.toF] at h5
      cases e2 : pick lent ρ with
      | none => rw [e2] at h5; exact h5.elim
      | some ls =>
        rw [e2] at h5
        intro σ' C a' v H' hm ha S'
        have o := pick_own S'.lent hnd (by rw [hfst]; exact e2) S'.fits S'.own
        exact h5 C a' v H' hm ha (o.perm List.perm_append_comm)
    | bk ρ => rw [e] at h5; exact h5.elim
    | ct ρ => rw [e] at h5; exact h5.elim
    | stuck => rw [e] at h5; exact h5.elim

/-! ### calls -/
inductive AM where
  | val (m : M T)
  | lend (i : Nat)
def AM.toM : AM → M T
  | .val m => m
  | .lend i => mMove i
def Lk (σ : L2.St) : List AM → List V → Prop
  | .lend i :: as, v :: vs => σ[i]? = some (some v) ∧ Lk σ as vs
  | .val _ :: as, _ :: vs => Lk σ as vs
  | _, _ => True
def TCm (G : Gx) (L : List Nat) (W : WX) (as : List AM) : TA := fun σ H Q => ∃ R ρ tm, R.lent.map (·.1) = L ∧ Sta G R σ ρ H tm ∧
  End G R σ tm W (fun ts ρ1 => ∀ vs H', vs.length = ts.length → Lk σ as vs → Sta G R σ ρ1 H' (vs.zip ts ++ tm) → Q vs H') (mArgs (as.map AM.toM) ρ)
structure PCd (X : Cx) (L : List Nat) (es : List Expr) (as : List AM) : Prop where
  run : ∀ W, L2N.Takes X W → PA X es (TCm (gx X) L W as)
def lendPos : Nat → List AM → List Nat
  | _, [] => []
  | n, .lend _ :: as => n :: lendPos (n + 1) as
  | n, .val _ :: as => lendPos (n + 1) as
def lendSlots : List AM → List Nat
  | [] => []
  | .lend i :: as => i :: lendSlots as
  | .val _ :: as => lendSlots as
def putBack : List Nat → List T → Env → Env
  | i :: is, t :: ts, ρ => putBack is ts (ρ.set i (some t))
  | _, _, ρ => ρ
/-- the slots that were lent out stand empty, each another -/
def freeS (ρ : Env) (is : List Nat) : Bool := is.all (fun i => match ρ[i]? with
  | some none => true
  | _ => false) && decide is.Nodup
def mCall (f : List T → FRes) (as : List AM) : M T := fun ρ => (mArgs (as.map AM.toM) ρ).bind fun ts ρ1 =>
  if freeS ρ1 (lendSlots as) = true then
    match f ts with
    | .ok t ls => if ls.length = (lendSlots as).length then .ok t (putBack (lendSlots as) ls ρ1) else .stuck
    | .exc c a d ls => if ls.length = (lendSlots as).length then .exc c a d (putBack (lendSlots as) ls ρ1) else .stuck
    | .stuck => .stuck
  else .stuck
section
variable {X : Cx} {L : List Nat} {e : Expr} {es : List Expr} {m : M T} {as : List AM} {pos : Pos}
theorem pcd_nil : PCd X L [] [] := ⟨fun W _ => PA.imp pa_nil fun σ H Q ⟨R, ρ, tm, _, S, h⟩ => h [] H rfl trivial S⟩
theorem pcd_val (he : PEd X L e m) (hs : PCd X L es as) (hq : starEach (e :: es) X.env = (false, eval e X.env) :: starEach es X.env := by rfl) : PCd X L (e :: es) (.val m :: as) :=
  ⟨fun W tk => PA.imp (pa_cons (he.run W tk) (hs.run W tk) hq) fun σ H Q ⟨R, ρ, tm, hL, S, h⟩ => by
    refine ⟨R, ρ, tm, hL, S, (End.bind h).mono fun t ρ1 _ q x H1 S1 => ?_⟩
    refine ⟨R, ρ1, (x, t) :: tm, hL, S1, ((End.bind q).push (x, t)).mono fun ts ρ2 _ q2 xs H2 hl lk S2 => ?_⟩
    exact q2 (x :: xs) H2 (by simp [hl]) lk ⟨S2.fits, S2.lent, S2.own.perm (List.Perm.append_left _ (perm_mid _ _ _))⟩⟩
theorem pcd_lend {i : Nat} {x : Str} (hv : PE X (.Name x pos) (tVar i)) (hs : PCd X L es as) (hq : starEach (.Name x pos :: es) X.env = (false, eval (.Name x pos) X.env) :: starEach es X.env := by rfl) : PCd X L (.Name x pos :: es) (.lend i :: as) :=
  ⟨fun W tk => PA.imp (pa_cons hv (hs.run W tk) hq) fun σ H Q ⟨R, ρ, tm, hL, S, h⟩ => by
    have h := End.bind h
    simp only [AM.toM, mMove] at h
    cases e : ρ[i]? with
    | none => rw [e] at h; exact h.elim
    | some o =>
      cases o with
      | none => rw [e] at h; exact h.elim
      | some t =>
        rw [e] at h
        obtain ⟨v, e1, S1⟩ := S.take e
        refine ⟨v, e1, R, _, (v, t) :: tm, hL, S1, ((End.bind h).push (v, t)).mono fun ts ρ2 _ q2 xs H2 hl lk S2 => ?_⟩
        exact q2 (v :: xs) H2 (by simp [hl]) ⟨e1, lk⟩ ⟨S2.fits, S2.lent, S2.own.perm (List.Perm.append_left _ (perm_mid _ _ _))⟩⟩
theorem lk_vals {σ : L2.St} : ∀ {as : List AM} {vs : List V} {n : Nat} {us : List V}, Lk σ as vs → vs.length = as.length → us.length = n → ∃ l : List (Nat × V), l.map (·.1) = lendSlots as ∧ (∀ p ∈ l, σ[p.1]? = some (some p.2)) ∧ l.map (·.2) = (lentV (lendPos n as) (us ++ vs)).map (·.2)
  | [], [], n, us, _, _, _ => ⟨[], rfl, (fun _ h => by cases h), rfl⟩
  | .val m :: as, v :: vs, n, us, lk, hl, hn => by
    obtain ⟨l, h1, h2, h3⟩ := lk_vals (as := as) (vs := vs) (n := n + 1) (us := us ++ [v]) lk (by simpa using hl) (by simp [hn])
    refine ⟨l, h1, h2, ?_⟩
    rw [h3]
    show _ = (lentV (lendPos (n + 1) as) (us ++ v :: vs)).map (·.2)
    rw [List.append_assoc]; rfl
  | .lend i :: as, v :: vs, n, us, lk, hl, hn => by
    obtain ⟨l, h1, h2, h3⟩ := lk_vals (as := as) (vs := vs) (n := n + 1) (us := us ++ [v]) lk.2 (by simpa using hl) (by simp [hn])
    refine ⟨(i, v) :: l, by simp [lendSlots, h1], fun p hp => ?_, ?_⟩
    · rcases List.mem_cons.mp hp with z | z
      · rw [z]; exact lk.1
      · exact h2 p z
    · have e : (us ++ v :: vs)[n]? = some v := by rw [List.getElem?_append_right (by omega)]; simp [hn]
      show v :: l.map (·.2) = ((n :: lendPos (n + 1) as).filterMap fun i => (us ++ v :: vs)[i]?.map fun v => (i, v)).map (·.2)
      rw [List.filterMap_cons, e, h3]
      show _ = v :: (lentV (lendPos (n + 1) as) (us ++ v :: vs)).map (·.2)
      rw [List.append_assoc]; rfl
  | [], _ :: _, _, _, _, h, _ => by simp at h
  | _ :: _, [], _, _, _, h, _ => by simp at h
/-- lent slots are filled again -/
theorem put_back {G : Gx} {R : Fr} {σ : L2.St} {H : Hp} {tm : List Item} : ∀ {l : List (Nat × V)} {ls : List T} {ρ : Env}, (∀ p ∈ l, σ[p.1]? = some (some p.2)) → (l.map (·.1)).Nodup → (∀ i ∈ l.map (·.1), ρ[i]? = some none) → ls.length = l.length →
    Sta G R σ ρ H ((l.map (·.2)).zip ls ++ tm) → Sta G R σ (putBack (l.map (·.1)) ls ρ) H tm
  | [], ls, ρ, _, _, _, hl, S => by
    have : ls = [] := List.length_eq_zero_iff.mp hl
    subst this
    exact S
  | p :: l, t :: ls, ρ, h1, nd, h2, hl, S => by
    have nd' : p.1 ∉ l.map (·.1) ∧ (l.map (·.1)).Nodup := List.nodup_cons.mp nd
    have hp := h2 p.1 List.mem_cons_self
    have e : ρ.set p.1 none = ρ := List.ext_getElem? fun j => by
      by_cases hj : p.1 = j
      · subst hj
        obtain ⟨hlt, _⟩ := List.getElem?_eq_some_iff.mp hp
        rw [List.getElem?_set_self hlt, hp]
      · rw [List.getElem?_set_ne hj]
    have S' : Sta G R σ (ρ.set p.1 none) H ((p.2, t) :: ((l.map (·.2)).zip ls ++ tm)) := by rw [e]; exact S
    have S2 := S'.put S.fits (h1 p List.mem_cons_self)
    exact put_back (l := l) (fun q hq => h1 q (List.mem_cons_of_mem _ hq)) nd'.2 (fun i hi => by
      rw [List.getElem?_set_ne (fun (z : p.1 = i) => nd'.1 (by rw [z]; exact hi))]
      exact h2 i (List.mem_cons_of_mem _ hi)) (by simpa using hl) S2
  | p :: l, [], _, _, _, _, hl, _ => by simp at hl
theorem freeS_of {ρ : Env} {is : List Nat} (h : freeS ρ is = true) : (∀ i ∈ is, ρ[i]? = some none) ∧ is.Nodup := by
  unfold freeS at h
  rw [Bool.and_eq_true] at h
  refine ⟨fun i hi => ?_, of_decide_eq_true h.2⟩
  have q := List.all_eq_true.mp h.1 i hi
  split at q
  · assumption
  · cases q
theorem args_length : ∀ {ms : List (M T)} {ρ ρ1 : Env} {ts : List T}, mArgs ms ρ = .ok ts ρ1 → ts.length = ms.length
  | [], ρ, ρ1, ts, h => by simp only [mArgs, Res.ok.injEq] at h; rw [← h.1]; rfl
  | m :: ms, ρ, ρ1, ts, h => by
    simp only [mArgs] at h
    cases e : m ρ with
    | ok t ρ2 =>
      rw [e, bind_ok] at h
      cases e2 : mArgs ms ρ2 with
      | ok ts' ρ3 =>
        rw [e2, bind_ok] at h
        cases h
        simp [args_length e2]
      | exc => rw [e2] at h; cases h
      | stuck => rw [e2] at h; cases h
    | exc => rw [e] at h; cases h
    | stuck => rw [e] at h; cases h
/-- the state behind a call -/
theorem call_sta {G : Gx} {R : Fr} {σ : L2.St} {ρ : Env} {H' : Hp} {tm : List Item} {l : List (Nat × V)} {ls : List T} {v : V} {t : T} (h1 : ∀ p ∈ l, σ[p.1]? = some (some p.2)) (nd : (l.map (·.1)).Nodup) (h2 : ∀ i ∈ l.map (·.1), ρ[i]? = some none) (hl : ls.length = l.length)
    (f : Fits σ ρ) (le : ∀ p ∈ R.lent, σ[p.1]? = some (some p.2)) (o : Own G R H' (((v, t) :: (l.map (·.2)).zip ls) ++ (items σ ρ ++ tm))) : Sta G R σ (putBack (l.map (·.1)) ls ρ) H' ((v, t) :: tm) := by
  refine put_back h1 nd h2 hl (Sta.backL f le ?_)
  refine o.perm ?_
  rw [← List.append_assoc (l.map (·.2) |>.zip ls) (items σ ρ) ((v, t) :: tm)]
  refine List.Perm.trans ?_ (perm_mid _ _ _).symm
  rw [List.append_assoc]
  exact .refl _
theorem ped_call {k : Nat} {f : Addr} {fd : FuncData} {ps : List Str} {lent : List Nat} {mf : List T → FRes} {x : Str} {p : Pos}
    (F : FnG X.prog X.w X.K X.mg X.base k f fd ps (spF (gx X) ps.length lent mf)) (hgd : X.A.guards = some []) (hr : Room k X.A) (hg : Gl X x) (hm : X.mg x = some (.ref f)) (hk : PySem.W.keepIn X.K (.ref f) = true) (hb : Binds X.K fd ps [])
    (ha : PCd X L (e :: es) as) (hlent : lendPos 0 as = lent) (hn : as.length = ps.length) (hdb : (x == ("__debug__" : Str)) = false := by decide)
    (he : starEach (e :: es) X.env = (false, eval e X.env) :: starEach es X.env := by rfl) (hpl : (backTo pos (starEach es X.env)).any (·.1) = false := by rfl) :
    PEd X L (.Call (.Name x p) (e :: es) [] pos) (mCall mf as) := by
  refine ⟨fun W tk => PE.imp (pe_callG F hgd hr hg hm hk hb (fun σ => L2N.passAt tk σ) (ha.run W tk) hdb he hpl) fun σ H Q ⟨R, ρ, tm, hL, S, h⟩ => ?_⟩
  refine ⟨R, ρ, tm, hL, S, (End.bind h).mono fun ts ρ1 ets q vs H1 hl lk S1 => ?_⟩
  have hts : ts.length = as.length := by rw [args_length ets, List.length_map]
  by_cases hfree : freeS ρ1 (lendSlots as) = true
  · rw [if_pos hfree] at q
    obtain ⟨hf1, hf2⟩ := freeS_of hfree
    obtain ⟨l, l1, l2, l3⟩ := lk_vals (as := as) (vs := vs) (n := 0) (us := []) lk (by omega) rfl
    rw [List.nil_append, hlent] at l3
    obtain ⟨R', e1, o1, back⟩ := S1.frontL.frame (lentV lent vs)
    have ndl : (l.map (·.1)).Nodup := by rw [l1]; exact hf2
    have frl : ∀ i ∈ l.map (·.1), ρ1[i]? = some none := by rw [l1]; exact hf1
    have hll : l.length = (lendSlots as).length := by rw [← l1, List.length_map]
    refine ⟨R', ts, by omega, by omega, e1, o1, ?_⟩
    cases ef : mf ts with
    | ok t ls =>
      rw [ef] at q
      show ∀ v H', _
      intro v H' o2
      have o3 := back H' _ o2
      rw [e1, ← l3] at o3
      by_cases hls : ls.length = (lendSlots as).length
      · simp only [if_pos hls] at q
        have S2 := call_sta l2 ndl frl (by rw [hls, hll]) S1.fits S1.lent o3
        rw [l1] at S2
        exact q v H' S2
      · simp only [if_neg hls] at q; exact q.elim
    | exc c a d ls =>
      rw [ef] at q
      intro C a' v H' hm' ha' o2
      have o3 := back H' _ o2
      rw [e1, ← l3] at o3
      by_cases hls : ls.length = (lendSlots as).length
      · simp only [if_pos hls] at q
        have S2 := call_sta l2 ndl frl (by rw [hls, hll]) S1.fits S1.lent o3
        rw [l1] at S2
        exact q C a' v H' hm' ha' S2
      · simp only [if_neg hls] at q; exact q.elim
    | stuck => rw [ef] at q; exact q.elim
  · rw [if_neg hfree] at q; exact q.elim
/-- a call without arguments -/
theorem ped_call0 {k : Nat} {f : Addr} {fd : FuncData} {mf : List T → FRes} {x : Str} {p : Pos}
    (F : FnG X.prog X.w X.K X.mg X.base k f fd [] (spF (gx X) 0 [] mf)) (hgd : X.A.guards = some []) (hr : Room k X.A) (hg : Gl X x) (hm : X.mg x = some (.ref f)) (hk : PySem.W.keepIn X.K (.ref f) = true) (hb : Binds X.K fd [] [])
    (hdb : (x == ("__debug__" : Str)) = false := by decide) : PEd X L (.Call (.Name x p) [] [] pos) (mCall mf []) := by
  refine ⟨fun W tk => ⟨fun pins s σ H Q I ⟨R, ρ, tm, hL, S, q⟩ => ?_⟩⟩
  refine wpAny_Call_Name_kw (ld_glob I hg hm ?_ hdb)
  refine PySem.W.callWith_K0 I.kIn hk (run_fnG (us := []) (E := WE W σ) F hgd hr hb (L2N.passAt tk σ) I .nil ?_)
  obtain ⟨R', e1, o1, back⟩ := (Sta.frontL (l := []) S).frame ([] : List (Nat × V))
  refine ⟨R', [], rfl, rfl, e1, o1, ?_⟩
  have q : End (gx X) R σ tm W (toQ (gx X) R σ tm Q) (mCall mf [] ρ) := q
  simp only [mCall, List.map_nil, mArgs, bind_ok, lendSlots, freeS, List.all_nil, Bool.true_and, List.nodup_nil, decide_true, if_true, List.length_nil, putBack] at q
  cases ef : mf [] with
  | ok t ls =>
    rw [ef] at q
    intro v H' o2
    have o3 := back H' _ o2
    rw [e1] at o3
    by_cases hls : ls.length = 0
    · simp only [if_pos hls] at q
      have : ls = [] := List.length_eq_zero_iff.mp hls
      subst this
      exact q v H' (Sta.back S.fits S.lent o3)
    · simp only [if_neg hls] at q; exact q.elim
  | exc c a d ls =>
    rw [ef] at q
    intro C a' v H' hm' ha' o2
    have o3 := back H' _ o2
    rw [e1] at o3
    by_cases hls : ls.length = 0
    · simp only [if_pos hls] at q
      have : ls = [] := List.length_eq_zero_iff.mp hls
      subst this
      exact q C a' v H' hm' ha' (Sta.back S.fits S.lent o3)
    · simp only [if_neg hls] at q; exact q.elim
  | stuck => rw [ef] at q; exact q.elim
end
end Q

/-! Loops and comprehensions. -/
namespace Q
open PySem PySem.Spec PyProof.Rows L2

theorem Sta.dropL {G : Gx} {R : Fr} {σ : L2.St} {ρ : Env} {H : Hp} {l tm : List Item} (S : Sta G R σ ρ H (l ++ tm)) : Sta G R σ ρ H tm := ⟨S.fits, S.lent, S.frontL.dropAll⟩
theorem Sta.dropL1 {G : Gx} {R : Fr} {σ : L2.St} {ρ : Env} {H : Hp} {p : Item} {l tm : List Item} (S : Sta G R σ ρ H (p :: (l ++ tm))) : Sta G R σ ρ H (p :: tm) := by
  have S' : Sta G R σ ρ H (l ++ (p :: tm)) := ⟨S.fits, S.lent, S.own.perm (List.Perm.append_left _ (perm_mid _ _ _).symm)⟩
  exact S'.dropL
theorem ExcEnd.pushL {G : Gx} {R : Fr} {σ : L2.St} {tm : List Item} {W : WX} {c at' : Str} {d : D} {ρ : Env} (h : ExcEnd G R σ tm W c at' d ρ) (l : List Item) : ExcEnd G R σ (l ++ tm) W c at' d ρ :=
  fun C a v H hm ha S => h C a v H hm ha S.dropL1
theorem End.pushL {G : Gx} {R : Fr} {σ : L2.St} {tm : List Item} {W : WX} {α : Type} {P : α → Env → Prop} {r : Res α} (h : End G R σ tm W P r) (l : List Item) : End G R σ (l ++ tm) W P r := by
  cases r with
  | ok a ρ => exact h
  | exc => exact ExcEnd.pushL h l
  | stuck => exact h

theorem tk0 {X : Cx} : L2N.Takes X (fun _ _ _ _ => False) := fun _ _ x => by
  obtain ⟨_, _, _, _, _, _, _, _, _, _, _, _, _, _, _, _, z⟩ := x
  exact z.elim
/-! ### targets -/
abbrev TgM := D → Env → Option Env
structure PGd (X : Cx) (L sl : List Nat) (tg : Expr) (g : TG) (t : TgM) : Prop where
  pg : PG X tg g
  run : ∀ (R : Fr) (σ : L2.St) (ρ ρ' : Env) (H : Hp) (tm : List Item) (v : V) (d : D) (Q : L2.St → Hp → Prop), R.lent.map (·.1) = L → Sta (gx X) R σ ρ H ((v, .leaf d) :: tm) → t d ρ = some ρ' →
    (∀ σ', σ'.length = σ.length → (∀ j, j ∉ sl → σ'[j]? = σ[j]?) → Sta (gx X) R σ' ρ' H tm → Q σ' H) → g v σ H Q
def tgName (i : Nat) : TgM := fun d ρ => match ρ[i]? with
  | some _ => some (ρ.set i (some (.leaf d)))
  | none => none
def tgs : List TgM → List D → Env → Option Env
  | [], [], ρ => some ρ
  | t :: ts, d :: ds, ρ => (t d ρ).bind fun ρ1 => tgs ts ds ρ1
  | _, _, _ => none
def tgTup (ts : List TgM) : TgM := fun d ρ => match d with
  | .tup ds => tgs ts ds ρ
  | _ => none
section
variable {X : Cx} {L sl sl' : List Nat} {pos : Pos}
theorem pgd_name {i : Nat} {x : Str} (hi : i ∉ L) (h : PG X (.Name x pos) (gName i)) : PGd X L [i] (.Name x pos) (gName i) (tgName i) := ⟨h, fun R σ ρ ρ' H tm v d Q hL S e q => by
  unfold tgName at e
  cases e1 : ρ[i]? with
  | none => rw [e1] at e; cases e
  | some o =>
    rw [e1] at e
    cases e
    refine q _ (List.length_set ..) (fun j hj => List.getElem?_set_ne fun z => hj (by rw [z]; exact List.mem_cons_self)) (S.store (List.getElem?_eq_some_iff.mp e1).1 (by rw [hL]; exact hi))⟩
structure PGsd (X : Cx) (L sl : List Nat) (es : List Expr) (g : TGs) (ts : List TgM) : Prop where
  pg : PGs X es g
  run : ∀ (R : Fr) (σ : L2.St) (ρ ρ' : Env) (H : Hp) (tm : List Item) (vs : List V) (ds : List D) (Q : L2.St → Hp → Prop), R.lent.map (·.1) = L → vs.length = ds.length → Sta (gx X) R σ ρ H (vs.zip (ds.map T.leaf) ++ tm) → tgs ts ds ρ = some ρ' →
    (∀ σ', σ'.length = σ.length → (∀ j, j ∉ sl → σ'[j]? = σ[j]?) → Sta (gx X) R σ' ρ' H tm → Q σ' H) → g vs σ H Q
theorem pgsd_nil : PGsd X L [] [] gNil [] := ⟨pgs_nil, fun R σ ρ ρ' H tm vs ds Q hL hl S e q => by
  cases ds with
  | nil =>
    cases e
    have : vs = [] := List.length_eq_zero_iff.mp hl
    subst this
    exact ⟨rfl, q σ rfl (fun _ _ => rfl) S⟩
  | cons d ds => cases e⟩
theorem pgsd_cons {e : Expr} {es : List Expr} {g : TG} {gs : TGs} {t : TgM} {ts : List TgM} (h1 : PGd X L sl e g t) (h2 : PGsd X L sl' es gs ts) (hs : (assignEach (e :: es) X.env).map (·.2) = assign e X.env :: (assignEach es X.env).map (·.2) := by rfl) :
    PGsd X L (sl ++ sl') (e :: es) (gCons g gs) (t :: ts) := ⟨pgs_cons h1.pg h2.pg hs, fun R σ ρ ρ' H tm vs ds Q hL hl S e q => by
  cases ds with
  | nil => cases e
  | cons d ds =>
    cases vs with
    | nil => simp at hl
    | cons v vs =>
      have e' : (t d ρ).bind (fun ρ1 => tgs ts ds ρ1) = some ρ' := e
      cases e1 : t d ρ with
      | none => rw [e1] at e'; cases e'
      | some ρ1 =>
        rw [e1] at e'
        refine ⟨v, vs, rfl, h1.run R σ ρ ρ1 H (vs.zip (ds.map T.leaf) ++ tm) v d _ hL S e1 fun σ1 l1 k1 S1 => ?_⟩
        refine h2.run R σ1 ρ1 ρ' H tm vs ds Q hL (by simpa using hl) S1 e' fun σ2 l2 k2 S2 => q σ2 (l2.trans l1) (fun j hj => ?_) S2
        rw [k2 j fun m => hj (List.mem_append_right _ m), k1 j fun m => hj (List.mem_append_left _ m)]⟩
/-- a tuple's parts -/
theorem Own.parts {G : Gx} {R : Fr} {H : Hp} {its : List Item} {v : V} {ds : List D} (h : Own G R H ((v, .leaf (.tup ds)) :: its)) : ∃ a xs, v = .ref a ∧ SqT G.K H a xs ∧ xs.length = ds.length ∧ Own G R H (xs.zip (ds.map T.leaf) ++ its) := by
  obtain ⟨F, h⟩ := h
  obtain ⟨a, xs, e, hs, hr⟩ := h.head
  refine ⟨a, xs, e, SqT.same (mask_same _ _) hs, hr.length, F, h.nd, Its.append.mpr ⟨[], F, rfl, (zip_its (repTs_leaf hr)).1, h.tail.rep⟩, h.new, h.old, h.dis, h.hid⟩
theorem pgd_tup {es : List Expr} {k : Nat} {gs : TGs} {ts : List TgM} (hc : X.calm = true) (h : PGsd X L sl es gs ts) (hn : (assignEach es X.env).length = ts.length := by rfl) (hst : (assignEach es X.env).findIdx? (·.1) = none := by rfl) :
    PGd X L sl (.Tuple es k pos) (gTup X.K ts.length gs) (tgTup ts) := ⟨pg_tup hc h.pg hn hst, fun R σ ρ ρ' H tm v d Q hL S e q => by
  cases d with
  | tup ds =>
    obtain ⟨a, xs, e1, hs, hl, o⟩ := S.front.parts
    have hlen : ∀ {ts : List TgM} {ds : List D} {ρ ρ' : Env}, tgs ts ds ρ = some ρ' → ds.length = ts.length := by
      intro ts
      induction ts with
      | nil => intro ds ρ ρ' e; cases ds with
        | nil => rfl
        | cons _ _ => cases e
      | cons t ts ih =>
        intro ds ρ ρ' e
        cases ds with
        | nil => cases e
        | cons d ds =>
          have e' : (t d ρ).bind (fun ρ1 => tgs ts ds ρ1) = some ρ' := e
          cases e1 : t d ρ with
          | none => rw [e1] at e'; cases e'
          | some ρ1 => rw [e1] at e'; simp [ih e']
    exact ⟨a, xs, e1, hs, by rw [hl]; exact hlen e, h.run R σ ρ ρ' H tm xs ds Q hL hl (Sta.backL S.fits S.lent o) e q⟩
  | _ => cases e⟩
end

/-! ### what is walked -/
structure ItD (G : Gx) (tmI : List Item) (ds : List D) (J : It) : Prop where
  go : ∀ (R : Fr) (σ : L2.St) (ρ : Env) (H : Hp) (tm : List Item) (i : Nat), Sta G R σ ρ H (tmI ++ tm) → i < ds.length → J.go i H
  yld : ∀ (R : Fr) (σ : L2.St) (ρ : Env) (H H' : Hp) (tm : List Item) (i : Nat) (x : V) (d : D), Sta G R σ ρ H (tmI ++ tm) → J.yld i H x H' → ds[i]? = some d → Sta G R σ ρ H' ((x, .leaf d) :: (tmI ++ tm))
  stop : ∀ (R : Fr) (σ : L2.St) (ρ : Env) (H : Hp) (tm : List Item) (i : Nat), Sta G R σ ρ H (tmI ++ tm) → ds.length ≤ i → J.stop i H
def TIm (G : Gx) (L : List Nat) (W : WX) (m : M (List D)) : TI := fun σ H Q => ∃ R ρ tm, R.lent.map (·.1) = L ∧ Sta G R σ ρ H tm ∧
  End G R σ tm W (fun ds ρ1 => ∀ tmI J H1, ItD G tmI ds J → Sta G R σ ρ1 H1 (tmI ++ tm) → Q J H1) (m ρ)
structure PId (X : Cx) (L : List Nat) (tg iter : Expr) (m : M (List D)) : Prop where
  run : ∀ W, L2N.Takes X W → PI X tg iter (TIm (gx X) L W m)
theorem PI.imp {X : Cx} {tg e : Expr} {t t' : TI} (h : PI X tg e t) (f : ∀ σ H Q, t' σ H Q → t σ H Q) : PI X tg e t' := ⟨fun pins s σ H Q I q => h.run pins s σ H Q I (f _ _ _ q)⟩
/-- the items of a value that a for walks -/
def D.items? : D → Option (List D)
  | .lst ds => some ds
  | .fz ds => some ds
  | .tup ds => some ds
  | .str s => some (s.cps.toList.map fun c => .str ⟨#[c]⟩)
  | _ => none
def mIter (m : M T) : M (List D) := fun ρ => (m ρ).bind fun t ρ1 => match t.toD.items? with
  | some ds => .ok ds ρ1
  | none => .stuck
section
variable {X : Cx} {L : List Nat} {tg e : Expr} {m : M T}
theorem head_at {G : Gx} {R : Fr} {σ : L2.St} {ρ : Env} {H : Hp} {v : V} {d : D} {tm : List Item} (S : Sta G R σ ρ H ((v, .leaf d) :: tm)) : ∃ F, OwnF G R H ((v, .leaf d) :: (items σ ρ ++ tm)) F := S.front
theorem itd_of {G : Gx} {v : V} {d : D} {ds : List D} {J : It} (hg : ∀ H, Rep G H d v → ∀ i, i < ds.length → J.go i H) (hs : ∀ H, Rep G H d v → ∀ i, ds.length ≤ i → J.stop i H)
    (hy : ∀ H Hm i x H' e, Same Hm H → Rep G Hm d v → J.yld i H x H' → ds[i]? = some e → H' = H ∧ Rep G Hm e x) : ItD G [(v, .leaf d)] ds J where
  go := fun R σ ρ H tm i S hi => hg H S.front.rep i hi
  stop := fun R σ ρ H tm i S hi => hs H S.front.rep i hi
  yld := fun R σ ρ H H' tm i x e S y he => by
    obtain ⟨F, h⟩ := head_at S
    obtain ⟨e1, r⟩ := hy H _ i x H' e (mask_same _ _) h.head y he
    subst e1
    exact Sta.back S.fits S.lent (Own.perm (List.Perm.cons _ (perm_mid _ _ _).symm) ⟨F, h.add r⟩)
theorem itd_lst {G : Gx} {a : Addr} {d : D} {ds : List D} (hr : ∀ H, Rep G H d (.ref a) → ∃ xs, SqL G.K H a xs ∧ Reps G H ds xs) : ItD G [(.ref a, .leaf d)] ds (Itl G.K a) :=
  itd_of (fun H r i hi => by
    obtain ⟨xs, h1, h2⟩ := hr H r
    exact ⟨xs, xs[i]'(by rw [h2.length]; exact hi), h1, List.getElem?_eq_getElem _⟩) (fun H r i hi => by
    obtain ⟨xs, h1, h2⟩ := hr H r
    exact ⟨xs, h1, by rw [h2.length]; exact hi⟩) fun H Hm i x H' e s r y he => by
    obtain ⟨xs, h1, h2⟩ := hr Hm r
    obtain ⟨y1, y2⟩ := y
    obtain ⟨x', q1, q2⟩ := h2.get he
    rw [y2 xs (s.seq h1)] at q1
    cases q1
    exact ⟨y1, q2⟩
theorem itd_tup {G : Gx} {a : Addr} {ds : List D} : ItD G [(.ref a, .leaf (.tup ds))] ds (Itt G.K a) := by
  have hr : ∀ H, Rep G H (.tup ds) (.ref a) → ∃ xs, SqT G.K H a xs ∧ Reps G H ds xs := fun H ⟨a', xs, e, h1, h2⟩ => by
    cases e; exact ⟨xs, h1, h2⟩
  refine itd_of (fun H r i hi => ?_) (fun H r i hi => ?_) fun H Hm i x H' e s r y he => ?_
  · obtain ⟨xs, h1, h2⟩ := hr H r
    exact ⟨xs, xs[i]'(by rw [h2.length]; exact hi), h1, List.getElem?_eq_getElem _⟩
  · obtain ⟨xs, h1, h2⟩ := hr H r
    exact ⟨xs, h1, by rw [h2.length]; exact hi⟩
  · obtain ⟨xs, h1, h2⟩ := hr Hm r
    obtain ⟨y1, y2⟩ := y
    obtain ⟨x', q1, q2⟩ := h2.get he
    rw [y2 xs (SqT.same s h1)] at q1
    cases q1
    exact ⟨y1, q2⟩
theorem itd_str {G : Gx} {z : Str} : ItD G [(.str z, .leaf (.str z))] (z.cps.toList.map fun c => D.str ⟨#[c]⟩) (L2.Its z) :=
  itd_of (fun H r i hi => by rw [List.length_map, Array.length_toList] at hi; exact hi) (fun H r i hi => by rw [List.length_map, Array.length_toList] at hi; exact hi) fun H Hm i x H' e s r y he => by
    obtain ⟨y1, c, hc, y2⟩ := y
    rw [List.getElem?_map, Array.getElem?_toList, hc] at he
    cases he
    exact ⟨y1, y2⟩
theorem PI.or {X : Cx} {tg e : Expr} {t t' : TI} (h : PI X tg e t) (h' : PI X tg e t') : PI X tg e (fun σ H R => t σ H R ∨ t' σ H R) := ⟨fun pins s σ H R I q => q.elim (h.run pins s σ H R I) (h'.run pins s σ H R I)⟩
theorem pid_seq (h : PEd X L e m) : PId X L tg e (mIter m) :=
  ⟨fun W tk => PI.imp (PI.or (pi_list (h.run W tk)) (PI.or (pi_tup (h.run W tk)) (pi_str (h.run W tk)))) fun σ H R' ⟨R, ρ, tm, hL, S, q⟩ => by
    have q := End.bind q
    cases em : m ρ with
    | stuck => rw [em] at q; exact q.elim
    | exc c a d ρ1 =>
      rw [em] at q
      exact .inl ⟨R, ρ, tm, hL, S, by rw [em]; exact q⟩
    | ok t ρ1 =>
      rw [em] at q
      have q : End (gx X) R σ tm W (fun ds ρ1 => ∀ tmI J H1, ItD (gx X) tmI ds J → Sta (gx X) R σ ρ1 H1 (tmI ++ tm) → R' J H1) (match t.toD.items? with
        | some ds => .ok ds ρ1
        | none => .stuck) := q
      have fz : ∀ {v : V} {H1 : Hp}, Sta (gx X) R σ ρ1 H1 ((v, t) :: tm) → Sta (gx X) R σ ρ1 H1 ([(v, .leaf t.toD)] ++ tm) := fun S => Sta.back S.fits S.lent S.front.freeze
      cases ed : t.toD with
      | lst ds =>
        rw [ed] at q
        refine .inl ⟨R, ρ, tm, hL, S, ?_⟩
        rw [em]
        intro v H1 S1
        have S2 := fz S1
        rw [ed] at S2
        obtain ⟨a, xs, e1, h1, h2⟩ := S2.front.rep
        subst e1
        exact ⟨a, rfl, ⟨xs, SqL.of h1⟩, q _ _ _ (itd_lst (d := .lst ds) fun H r => by
          obtain ⟨a', xs, e, h1, h2⟩ := r
          cases e
          exact ⟨xs, SqL.of h1, h2⟩) S2⟩
      | fz ds =>
        rw [ed] at q
        refine .inl ⟨R, ρ, tm, hL, S, ?_⟩
        rw [em]
        intro v H1 S1
        have S2 := fz S1
        rw [ed] at S2
        obtain ⟨a, xs, e1, h1, h2⟩ := S2.front.rep
        subst e1
        exact ⟨a, rfl, ⟨xs, h1⟩, q _ _ _ (itd_lst (d := .fz ds) fun H r => by
          obtain ⟨a', xs, e, h1, h2⟩ := r
          cases e
          exact ⟨xs, h1, h2⟩) S2⟩
      | tup ds =>
        rw [ed] at q
        refine .inr (.inl ⟨R, ρ, tm, hL, S, ?_⟩)
        rw [em]
        intro v H1 S1
        have S2 := fz S1
        rw [ed] at S2
        obtain ⟨a, xs, e1, h1, h2⟩ := S2.front.rep
        subst e1
        exact ⟨a, rfl, ⟨xs, h1⟩, q _ _ _ itd_tup S2⟩
      | str z =>
        rw [ed] at q
        refine .inr (.inr ⟨R, ρ, tm, hL, S, ?_⟩)
        rw [em]
        intro v H1 S1
        have S2 := fz S1
        rw [ed] at S2
        have e1 : v = .str z := S2.front.rep
        subst e1
        exact ⟨z, rfl, q _ _ _ itd_str S2⟩
      | non => rw [ed] at q; exact q.elim
      | bl b => rw [ed] at q; exact q.elim
      | int i => rw [ed] at q; exact q.elim
      | glo x => rw [ed] at q; exact q.elim⟩

/-! ### ranges -/
def rangeD (lo : Int) (n : Nat) : List D := (List.range n).map fun i => .int (lo + (i : Nat))
def small62 (i : Int) : Bool := decide (-(2 ^ 62) ≤ i) && decide (i < 2 ^ 62)
def mRange1 (ms : List (M T)) : M (List D) := fun ρ => (mArgs ms ρ).bind fun ts ρ1 => match ts with
  | [.leaf (.int j)] => if small62 j = true then .ok (rangeD 0 j.toNat) ρ1 else .stuck
  | _ => .stuck
def mRange2 (ms : List (M T)) : M (List D) := fun ρ => (mArgs ms ρ).bind fun ts ρ1 => match ts with
  | [.leaf (.int i), .leaf (.int j)] => if (small62 i && small62 j) = true then .ok (rangeD i (j - i).toNat) ρ1 else .stuck
  | _ => .stuck
theorem small62_of {i : Int} (h : small62 i = true) : -(2 ^ 62) ≤ i ∧ i < 2 ^ 62 := by
  unfold small62 at h
  rw [Bool.and_eq_true] at h
  exact ⟨of_decide_eq_true h.1, of_decide_eq_true h.2⟩
theorem itd_range {G : Gx} {lo : Int} {n : Nat} : ItD G [] (rangeD lo n) (Itr lo n) where
  go := fun R σ ρ H tm i S hi => (by simpa [rangeD] using hi : i < n)
  stop := fun R σ ρ H tm i S hi => (by simpa [rangeD] using hi : n ≤ i)
  yld := fun R σ ρ H H' tm i x d S y hd => by
    obtain ⟨e1, e2⟩ := y
    subst e1 e2
    unfold rangeD at hd
    rw [List.getElem?_map] at hd
    cases e : (List.range n)[i]? with
    | none => rw [e] at hd; cases hd
    | some k =>
      rw [e] at hd
      cases hd
      obtain ⟨hlt, ek⟩ := List.getElem?_eq_some_iff.mp e
      rw [List.getElem_range] at ek
      subst ek
      exact S.with fun o => o.scal fun _ => rfl
theorem pid_range1 {ms : List (M T)} {p pos : Pos} (hg : Gl X "range") (hm : X.mg "range" = none) (ha : PAd X L [e] ms) (hs : starEach [e] X.env = [(false, eval e X.env)] := by rfl) : PId X L tg (.Call (.Name "range" p) [e] [] pos) (mRange1 ms) :=
  ⟨fun W tk => PI.imp (pi_range1 hg hm (ha.run W tk) hs) fun σ H R' ⟨R, ρ, tm, hL, S, q⟩ => ⟨R, ρ, tm, hL, S, (End.bind q).mono fun ts ρ1 ets q vs H1 hl S1 => by
    clear ets
    split at q
    · rename_i j
      by_cases hj : small62 j = true
      · rw [if_pos hj] at q
        obtain ⟨v, rfl⟩ : ∃ v, vs = [v] := by
          cases vs with
          | nil => simp at hl
          | cons v r => cases r with
            | nil => exact ⟨v, rfl⟩
            | cons _ _ => simp at hl
        have ev : v = .int j := (show Sta (gx X) R σ ρ1 H1 ((v, .leaf (.int j)) :: tm) from S1).front.rep
        subst ev
        obtain ⟨h1, h2⟩ := small62_of hj
        exact ⟨j, rfl, h1, h2, q [] _ _ itd_range (Sta.pop S1)⟩
      · rw [if_neg hj] at q; exact q.elim
    · exact q.elim⟩⟩
theorem pid_range2 {e2 : Expr} {ms : List (M T)} {p pos : Pos} (hg : Gl X "range") (hm : X.mg "range" = none) (ha : PAd X L [e, e2] ms) (hs : starEach [e, e2] X.env = [(false, eval e X.env), (false, eval e2 X.env)] := by rfl) (hs2 : starEach [e2] X.env = [(false, eval e2 X.env)] := by rfl) : PId X L tg (.Call (.Name "range" p) [e, e2] [] pos) (mRange2 ms) :=
  ⟨fun W tk => PI.imp (pi_range2 hg hm (ha.run W tk) hs hs2) fun σ H R' ⟨R, ρ, tm, hL, S, q⟩ => ⟨R, ρ, tm, hL, S, (End.bind q).mono fun ts ρ1 ets q vs H1 hl S1 => by
    clear ets
    split at q
    · rename_i i j
      by_cases hj : (small62 i && small62 j) = true
      · rw [if_pos hj] at q
        rw [Bool.and_eq_true] at hj
        obtain ⟨v, w, rfl⟩ : ∃ v w, vs = [v, w] := by
          cases vs with
          | nil => simp at hl
          | cons v r => cases r with
            | nil => simp at hl
            | cons w r => cases r with
              | nil => exact ⟨v, w, rfl⟩
              | cons _ _ => simp at hl
        have S1 : Sta (gx X) R σ ρ1 H1 ((v, .leaf (.int i)) :: (w, .leaf (.int j)) :: tm) := S1
        have ev : v = .int i := S1.front.rep
        have ew : w = .int j := S1.pop.front.rep
        subst ev ew
        obtain ⟨h1, h2⟩ := small62_of hj.1
        obtain ⟨h3, h4⟩ := small62_of hj.2
        exact ⟨i, j, rfl, ⟨h1, h2, h3, h4⟩, q [] _ _ itd_range S1.pop.pop⟩
      · rw [if_neg hj] at q; exact q.elim
    · exact q.elim⟩⟩
end

/-! ### for -/
def forM' (t : TgM) (body : SM) : List D → SM
  | [], ρ => .nx ρ
  | d :: ds, ρ => match t d ρ with
    | none => .stuck
    | some ρ1 => match body ρ1 with
      | .nx ρ2 => forM' t body ds ρ2
      | .ct ρ2 => forM' t body ds ρ2
      | .bk ρ2 => .nx ρ2
      | r => r
def mFor (src : M (List D)) (t : TgM) (body : SM) : SM := fun ρ => (src ρ).toS fun ds ρ1 => forM' t body ds ρ1
theorem EndS.body {G : Gx} {R : Fr} {tm l : List Item} {W : WX} {D : Ends} {r : SRes} {k : SM} {N : L2.St → Hp → Prop} (h : EndS G R tm W D (match r with
      | .nx ρ2 => k ρ2
      | .ct ρ2 => k ρ2
      | .bk ρ2 => .nx ρ2
      | r => r)) (hN : ∀ ρ σ H, Sta G R σ ρ H (l ++ tm) → EndS G R tm W D (k ρ) → N σ H) : EndS G R (l ++ tm) W { D with nx := N, ct := N, bk := D.nx } r := by
  cases r with
  | nx ρ => exact fun σ H S => hN ρ σ H S h
  | ct ρ => exact fun σ H S => hN ρ σ H S h
  | bk ρ => exact fun σ H S => h σ H S.dropL
  | rt t ρ => exact fun v σ H S => h v σ H S.dropL1
  | exc c a d ρ => exact fun σ => ExcEnd.pushL (h σ) l
  | stuck => exact h
section
variable {X : Cx} {L sl : List Nat} {tg iter : Expr} {src : M (List D)} {g : TG} {t : TgM} {body : List Stmt} {mb : SM} {pos : Pos}
theorem psd_for (hc : X.calm = true) (hi : PId X L tg iter src) (hg : PGd X L sl tg g t) (hb : PBd X L body mb) (hs : ∀ x, foldedSetIterable iter X.env x = pure x := by intro _; rfl) : PSd X L (.For tg iter body [] pos) (mFor src t mb) :=
  ⟨fun W tk hp => PS.imp (ps_for hp hc (hi.run W tk) hg.pg (hb.run W tk hp) hs) fun D σ H ⟨R, ρ, tm, hL, S, h⟩ => by
    refine ⟨R, ρ, tm, hL, S, ?_⟩
    unfold mFor at h
    cases es : src ρ with
    | stuck => rw [es] at h; exact h
    | exc => rw [es] at h; exact h σ
    | ok ds ρ1 =>
      rw [es] at h
      have h : EndS (gx X) R tm W D (forM' t mb ds ρ1) := h
      intro tmI J H1 I S1
      refine ⟨fun i m σ' H' => m = ds.length - i ∧ i ≤ ds.length ∧ ∃ ρ', Sta (gx X) R σ' ρ' H' (tmI ++ tm) ∧ EndS (gx X) R tm W D (forM' t mb (ds.drop i) ρ'), ⟨ds.length, by simp, Nat.zero_le _, ρ1, S1, h⟩, ?_⟩
      rintro i m σ' H' ⟨rfl, hi', ρ', S', h'⟩
      by_cases hlt : i < ds.length
      · refine .inr ⟨I.go R σ' ρ' H' tm i S' hlt, fun σ2 H2 => ∃ ρ2, Sta (gx X) R σ2 ρ2 H2 (tmI ++ tm) ∧ EndS (gx X) R tm W D (forM' t mb (ds.drop (i + 1)) ρ2), fun σ2 H2 ⟨ρ2, S2, h2⟩ => ⟨ds.length - (i + 1), by omega, rfl, hlt, ρ2, S2, h2⟩, fun x H2 y => ?_⟩
        have S2 := I.yld R σ' ρ' H' H2 tm i x ds[i] S' y (List.getElem?_eq_getElem hlt)
        rw [List.drop_eq_getElem_cons hlt] at h'
        simp only [forM'] at h'
        cases et : t ds[i] ρ' with
        | none => rw [et] at h'; exact h'.elim
        | some ρ3 =>
          rw [et] at h'
          refine hg.run R σ' ρ' ρ3 H2 (tmI ++ tm) x ds[i] _ hL S2 et fun σ3 _ _ S3 => ⟨R, ρ3, tmI ++ tm, hL, S3, ?_⟩
          exact EndS.body h' fun ρ4 σ4 H4 S4 h4 => ⟨ρ4, S4, h4⟩
      · have e : i = ds.length := by omega
        subst e
        rw [List.drop_length] at h'
        exact .inl ⟨I.stop R σ' ρ' H' tm _ S' (Nat.le_refl _), h' σ' H' S'.dropL⟩⟩
/-! ### while -/
def whM (c : M Bool) (body : SM) : Nat → SM
  | 0, _ => .stuck
  | n + 1, ρ => (c ρ).toS fun b ρ1 => if b = true then (match body ρ1 with
      | .nx ρ2 => whM c body n ρ2
      | .ct ρ2 => whM c body n ρ2
      | .bk ρ2 => .nx ρ2
      | r => r) else .nx ρ1
theorem psd_while {c : Expr} {cm : M Bool} (n : Nat) (hc : PTd X L c cm) (hb : PBd X L body mb) : PSd X L (.While c body [] pos) (whM cm mb n) :=
  ⟨fun W tk hp => PS.imp (ps_while hp (hc.run W tk) (hb.run W tk hp)) fun D σ H ⟨R, ρ, tm, hL, S, h⟩ => by
    refine ⟨fun m σ' H' => ∃ ρ', Sta (gx X) R σ' ρ' H' tm ∧ EndS (gx X) R tm W D (whM cm mb m ρ'), ⟨n, ρ, S, h⟩, ?_⟩
    rintro m σ' H' ⟨ρ', S', h'⟩
    cases m with
    | zero => exact h'.elim
    | succ m =>
      refine ⟨R, ρ', tm, hL, S', ?_⟩
      simp only [whM] at h'
      cases ec : cm ρ' with
      | stuck => rw [ec] at h'; exact h'
      | exc => rw [ec] at h'; exact h' σ'
      | ok b ρ1 =>
        rw [ec] at h'
        intro H1 S1
        cases b with
        | false =>
          rw [if_neg Bool.false_ne_true]
          exact (show EndS (gx X) R tm W D (.nx ρ1) from h') σ' H1 S1
        | true =>
          rw [if_pos rfl]
          refine ⟨fun σ2 H2 => ∃ ρ2, Sta (gx X) R σ2 ρ2 H2 tm ∧ EndS (gx X) R tm W D (whM cm mb m ρ2), fun σ2 H2 ⟨ρ2, S2, h2⟩ => ⟨m, Nat.lt_succ_self m, ρ2, S2, h2⟩, R, ρ1, tm, hL, S1, ?_⟩
          exact EndS.body (l := []) h' fun ρ4 σ4 H4 S4 h4 => ⟨ρ4, S4, h4⟩⟩
end

/-! ### list comprehensions -/
def wipeE (ρ : Env) : List Nat → Env
  | [] => ρ
  | v :: vs => (wipeE ρ vs).set v none
def compM (vs : List Nat) (t : TgM) (test : M Bool) (elt : M T) : List D → Env → Res (List T)
  | [], ρ => .ok [] ρ
  | d :: ds, ρ => match t d ρ with
    | none => .stuck
    | some ρ1 => (test ρ1).bind fun b ρ2 =>
      if b = true then (elt ρ2).bind fun u ρ3 => (compM vs t test elt ds (wipeE ρ3 vs)).bind fun us ρ4 => .ok (u :: us) ρ4
      else compM vs t test elt ds (wipeE ρ2 vs)
def Res.noX {α : Type} : Res α → Res α
  | .ok a ρ => .ok a ρ
  | _ => .stuck
def mComp (vs : List Nat) (src : M (List D)) (t : TgM) (test : M Bool) (elt : M T) : M T := fun ρ => (src ρ).bind fun ds ρ1 =>
  if ds.length ≤ 16000000 then (compM vs t test elt ds (wipeE ρ1 vs)).noX.bind fun us ρ2 => .ok (.node us) ρ2 else .stuck
def mYes : M Bool := fun ρ => .ok true ρ
theorem items_irrel : ∀ {σ : L2.St} {ρ : Env} {i : Nat} (x : Option V), (∀ t, ρ[i]? ≠ some (some t)) → items (σ.set i x) ρ = items σ ρ ∧ (Fits (σ.set i x) ρ ↔ Fits σ ρ)
  | [], ρ, i, x, _ => by simp
  | s :: σ, [], i, x, _ => by
    cases i with
    | zero => exact ⟨by cases s <;> cases x <;> rfl, Iff.rfl⟩
    | succ i => exact ⟨by cases s <;> rfl, Iff.rfl⟩
  | s :: σ, r :: ρ, 0, x, h => by
    cases r with
    | none => exact ⟨by rw [List.set_cons_zero, items_none, items_none], by simp [Fits]⟩
    | some t => exact absurd rfl (h t)
  | s :: σ, r :: ρ, i + 1, x, h => by
    obtain ⟨q1, q2⟩ := items_irrel (σ := σ) (ρ := ρ) (i := i) x (fun t e => h t (by simpa using e))
    refine ⟨?_, by rw [List.set_cons_succ]; simp only [Fits, q2]⟩
    rw [List.set_cons_succ]
    cases r with
    | none => rw [items_none, items_none]; exact q1
    | some t => cases s with
      | none => show items (σ.set i x) ρ = items σ ρ; exact q1
      | some v => show (v, t) :: _ = (v, t) :: _; rw [q1]
theorem items_wipe {σ : L2.St} {ρ : Env} : ∀ {vs : List Nat}, (∀ v ∈ vs, ∀ t, ρ[v]? ≠ some (some t)) → items (wipe σ vs) ρ = items σ ρ ∧ (Fits (wipe σ vs) ρ ↔ Fits σ ρ)
  | [], _ => ⟨rfl, Iff.rfl⟩
  | v :: vs, h => by
    obtain ⟨h1, h2⟩ := items_irrel (σ := wipe σ vs) (ρ := ρ) (i := v) none (h v List.mem_cons_self)
    obtain ⟨h3, h4⟩ := items_wipe (σ := σ) (vs := vs) fun u hu => h u (List.mem_cons_of_mem _ hu)
    exact ⟨h1.trans h3, h2.trans h4⟩
theorem wipeE_none {ρ : Env} : ∀ {vs : List Nat} {v : Nat}, v ∈ vs → ∀ t, (wipeE ρ vs)[v]? ≠ some (some t)
  | u :: us, v, hv, t => by
    unfold wipeE
    by_cases e : u = v
    · subst e
      intro h
      rw [List.getElem?_set] at h
      rw [if_pos rfl] at h
      split at h <;> cases h
    · rw [List.getElem?_set_ne e]
      rcases List.mem_cons.mp hv with z | z
      · exact absurd z.symm e
      · exact wipeE_none z t
theorem fits_wipeE {σ : L2.St} {ρ : Env} (f : Fits σ ρ) : ∀ vs : List Nat, Fits σ (wipeE ρ vs)
  | [] => f
  | v :: vs => fits_none v (fits_wipeE f vs)
theorem items_wipeE {G : Gx} {R : Fr} {H : Hp} {σ : L2.St} {ρ : Env} {tm : List Item} (f : Fits σ ρ) : ∀ vs : List Nat, Own G R H (items σ ρ ++ tm) → Own G R H (items σ (wipeE ρ vs) ++ tm)
  | [], h => h
  | v :: vs, h => by
    have h1 := items_wipeE f vs h
    show Own G R H (items σ ((wipeE ρ vs).set v none) ++ tm)
    rcases items_drop v (fits_wipeE f vs) with ⟨p, q⟩ | e
    · exact (h1.perm (List.Perm.append_right _ q)).drop
    · rw [e]; exact h1
/-- what the slots vs hold is forgotten -/
theorem Sta.forget {G : Gx} {R : Fr} {σ : L2.St} {ρ : Env} {H : Hp} {tm : List Item} (S : Sta G R σ ρ H tm) (vs : List Nat) : Sta G R σ (wipeE ρ vs) H tm := ⟨fits_wipeE S.fits vs, S.lent, items_wipeE S.fits vs S.own⟩
theorem wipe_lent {σ : L2.St} {i : Nat} : ∀ {vs : List Nat}, i ∉ vs → (wipe σ vs)[i]? = σ[i]? := fun h => wipe_out h
/-- the block's slots, the def's -/
theorem Sta.toBlk {G : Gx} {R : Fr} {σ : L2.St} {ρ : Env} {H : Hp} {tm : List Item} {vs : List Nat} (S : Sta G R σ (wipeE ρ vs) H tm) (hv : ∀ i ∈ R.lent.map (·.1), i ∉ vs) : Sta G R (wipe σ vs) (wipeE ρ vs) H tm := by
  obtain ⟨h1, h2⟩ := items_wipe (σ := σ) (ρ := wipeE ρ vs) (vs := vs) fun v hv => wipeE_none hv
  exact ⟨h2.mpr S.fits, fun p hp => by rw [wipe_lent (hv p.1 (List.mem_map_of_mem hp))]; exact S.lent p hp, by rw [h1]; exact S.own⟩
theorem Sta.ofBlk {G : Gx} {R : Fr} {σ : L2.St} {ρ : Env} {H : Hp} {tm : List Item} {vs : List Nat} (S : Sta G R (wipe σ vs) (wipeE ρ vs) H tm) (hl : ∀ p ∈ R.lent, σ[p.1]? = some (some p.2)) : Sta G R σ (wipeE ρ vs) H tm := by
  obtain ⟨h1, h2⟩ := items_wipe (σ := σ) (ρ := wipeE ρ vs) (vs := vs) fun v hv => wipeE_none hv
  exact ⟨h2.mp S.fits, hl, by rw [← h1]; exact S.own⟩
theorem wipe_get {σ : L2.St} : ∀ {vs : List Nat} {j : Nat}, j ∈ vs → j < σ.length → (wipe σ vs)[j]? = some none
  | v :: vs, j, hj, hl => by
    unfold wipe
    by_cases e : v = j
    · subst e; rw [List.getElem?_set_self (by rw [wipe_length]; exact hl)]
    · rw [List.getElem?_set_ne e]
      rcases List.mem_cons.mp hj with z | z
      · exact absurd z.symm e
      · exact wipe_get z hl
/-- two states of slots that differ at vs alone -/
theorem wipe_eq {σ σ' : L2.St} {vs : List Nat} (hl : σ'.length = σ.length) (h : ∀ j, j ∉ vs → σ'[j]? = σ[j]?) : wipe σ' vs = wipe σ vs := by
  refine List.ext_getElem? fun j => ?_
  by_cases hj : j ∈ vs
  · by_cases hlt : j < σ.length
    · rw [wipe_get hj (by rw [hl]; exact hlt), wipe_get hj hlt]
    · rw [List.getElem?_eq_none (by rw [wipe_length, hl]; omega), List.getElem?_eq_none (by rw [wipe_length]; omega)]
  · rw [wipe_out hj, wipe_out hj, h j hj]
theorem wipe_wipe {σ : L2.St} {vs : List Nat} : wipe (wipe σ vs) vs = wipe σ vs := wipe_eq (wipe_length _ _) fun j hj => wipe_out hj

section
variable {X : Cx} {L sl : List Nat} {tg iter elt : Expr} {src : M (List D)} {g : TG} {t : TgM} {pos : Pos} {mt : M Bool} {me : M T}
/-- the comprehension's tests: none, or one -/
inductive PTsD (X : Cx) (L : List Nat) : List Expr → M Bool → Prop where
  | nil : PTsD X L [] mYes
  | one {c : Expr} {m : M Bool} (h : PTd X L c m) : PTsD X L [c] m
theorem ptsd_run {ifs : List Expr} (h : PTsD X L ifs mt) (W : WX) (tk : L2N.Takes X W) : PTs X ifs (TTm (gx X) L W mt) := by
  cases h with
  | nil => exact ⟨fun pins s σ H Q I ⟨R, ρ, tm, _, S, q⟩ => wpAny_tests_nil ⟨H, I, q H S⟩⟩
  | one h => exact pts_one (h.run W tk)
theorem noX_ok {α : Type} {r : Res α} {G : Gx} {R : Fr} {σ : L2.St} {tm : List Item} {W : WX} {P : α → Env → Prop} (h : End G R σ tm W P r.noX) : ∃ a ρ, r = .ok a ρ ∧ P a ρ := by
  cases r with
  | ok a ρ => exact ⟨a, ρ, rfl, h⟩
  | exc => exact h.elim
  | stuck => exact h.elim
theorem ok_bind {α β : Type} {r : Res α} {k : α → Env → Res β} {b : β} {ρ : Env} (h : r.bind k = .ok b ρ) : ∃ a ρ1, r = .ok a ρ1 ∧ k a ρ1 = .ok b ρ := by
  cases r with
  | ok a ρ1 => exact ⟨a, ρ1, rfl, h⟩
  | exc => cases h
  | stuck => cases h
abbrev W0 : WX := fun _ _ _ _ => False
theorem Own.append' {G : Gx} {R : Fr} {σ : L2.St} {ρ : Env} {H : Hp} {a : Addr} {ts : List T} {w : V} {u : T} {tm : List Item} (S : Sta G R σ ρ H ((w, u) :: (.ref a, .node ts) :: tm)) : ∃ xs, H a = some (.lst xs) ∧ xs.length = ts.length ∧ Sta G R σ ρ (upd H a (.lst (xs ++ [w]))) ((.ref a, .node (ts ++ [u])) :: tm) := by
  have o : Own G R H ((.ref a, .node ts) :: (w, u) :: (items σ ρ ++ tm)) := S.front.perm ((List.Perm.cons _ (perm_mid _ _ _)).trans (.swap _ _ _))
  obtain ⟨a', xs, e, hx, hl⟩ := o.nodeAt
  cases e
  exact ⟨xs, hx, hl, Sta.back S.fits S.lent (o.append hx)⟩
theorem lc_sta {vs : List Nat} {σ : L2.St} {R : Fr} {tm tmI : List Item} {J : It} {ds : List D} {Dr : Addr} {Q : VK} {us : List T} {ρe : Env} {wt : TT} {we : TE}
    (hL : R.lent.map (·.1) = L) (hlv : ∀ i ∈ L, i ∉ vs) (hsl : ∀ i ∈ sl, i ∈ vs) (I : ItD (gx X) tmI ds J) (hz : ds.length ≤ 16000000)
    (hg : ∀ (R : Fr) (σ : L2.St) (ρ ρ' : Env) (H : Hp) (tm : List Item) (v : V) (d : D) (Q : L2.St → Hp → Prop), R.lent.map (·.1) = L → Sta (gx X) R σ ρ H ((v, .leaf d) :: tm) → t d ρ = some ρ' →
      (∀ σ', σ'.length = σ.length → (∀ j, j ∉ sl → σ'[j]? = σ[j]?) → Sta (gx X) R σ' ρ' H tm → Q σ' H) → g v σ H Q)
    (ht : ∀ σ H Q, TTm (gx X) L W0 mt σ H Q → wt σ H Q) (he : ∀ σ H Q, TEm (gx X) L W0 me σ H Q → we σ H Q)
    (hq : ∀ H, Sta (gx X) R σ (wipeE ρe vs) H ((.ref Dr, .node us) :: tm) → Q (.ref Dr) H) (hle : ∀ p ∈ R.lent, σ[p.1]? = some (some p.2))
    {ρ1 : Env} (hok : compM vs t mt me ds (wipeE ρ1 vs) = .ok us (wipeE ρe vs)) {H1 : Hp} (S1 : Sta (gx X) R σ (wipeE ρ1 vs) (upd H1 Dr (.lst [])) ((.ref Dr, .node []) :: (tmI ++ tm))) :
    ∃ W : Nat → Nat → Hp → Prop, (∃ m, W 0 m (upd H1 Dr (.lst []))) ∧ ∀ i m H, W i m H →
      (J.stop i H ∧ Q (.ref Dr) H) ∨ (J.go i H ∧ ∃ Nx : Hp → Prop, (∀ H', Nx H' → ∃ m', m' < m ∧ W (i + 1) m' H') ∧ ∀ x H', J.yld i H x H' → g x (wipe σ vs) H' fun σ2 H2 => wipe σ2 vs = wipe σ vs ∧ wt σ2 H2 fun b H3 =>
        if b = true then we σ2 H3 fun y H4 => ∃ acc, H4 Dr = some (.lst acc) ∧ acc.length < sizeLine ∧ Nx (upd H4 Dr (.lst (acc ++ [y]))) else Nx H3) := by
  have hlR : ∀ i ∈ R.lent.map (·.1), i ∉ vs := by rw [hL]; exact hlv
  -- the invariant: behind i items the new list holds acc, the rest of the comprehension gives what is left
  refine ⟨fun i m H => m = ds.length - i ∧ i ≤ ds.length ∧ ∃ ρ' acc rest, Sta (gx X) R (wipe σ vs) (wipeE ρ' vs) H ((.ref Dr, .node acc) :: (tmI ++ tm)) ∧ acc.length ≤ i ∧ compM vs t mt me (ds.drop i) (wipeE ρ' vs) = .ok rest (wipeE ρe vs) ∧ acc ++ rest = us,
    ⟨ds.length, by simp, Nat.zero_le _, ρ1, [], us, S1.toBlk hlR, Nat.le_refl _, hok, rfl⟩, ?_⟩
  rintro i m H ⟨rfl, hi, ρ', acc, rest, S, ha, hc, hu⟩
  have SI : Sta (gx X) R (wipe σ vs) (wipeE ρ' vs) H (tmI ++ ((.ref Dr, .node acc) :: tm)) := ⟨S.fits, S.lent, S.own.perm (List.Perm.append_left _ (perm_mid _ _ _).symm)⟩
  by_cases hlt : i < ds.length
  · rw [List.drop_eq_getElem_cons hlt] at hc
    simp only [compM] at hc
    cases et : t ds[i] (wipeE ρ' vs) with
    | none => rw [et] at hc; cases hc
    | some ρ2 =>
      rw [et] at hc
      obtain ⟨b, ρ3, eb, hc⟩ := ok_bind hc
      refine .inr ⟨I.go R _ _ H _ i SI hlt, fun H' => ∃ ρ' acc rest, Sta (gx X) R (wipe σ vs) (wipeE ρ' vs) H' ((.ref Dr, .node acc) :: (tmI ++ tm)) ∧ acc.length ≤ i + 1 ∧ compM vs t mt me (ds.drop (i + 1)) (wipeE ρ' vs) = .ok rest (wipeE ρe vs) ∧ acc ++ rest = us,
        fun H' q => ⟨ds.length - (i + 1), by omega, rfl, hlt, q⟩, fun x H2 y => ?_⟩
      have S2 := I.yld R _ _ H H2 _ i x ds[i] SI y (List.getElem?_eq_getElem hlt)
      refine hg R (wipe σ vs) _ ρ2 H2 _ x ds[i] _ hL S2 et fun σ2 l2 k2 S3 => ?_
      have w2 : wipe σ2 vs = wipe σ vs := by
        rw [← wipe_wipe (σ := σ)]
        exact wipe_eq l2 fun j hj => k2 j fun m => hj (hsl j m)
      refine ⟨w2, ht _ _ _ ⟨R, ρ2, _, hL, S3, ?_⟩⟩
      rw [eb]
      intro H3 S4
      have back : ∀ {ρ4 : Env} {H4 : Hp} {tm4 : List Item}, Sta (gx X) R σ2 ρ4 H4 tm4 → Sta (gx X) R (wipe σ vs) (wipeE ρ4 vs) H4 tm4 := fun S => by
        rw [← w2]; exact (S.forget vs).toBlk hlR
      have re : ∀ {σ4 : L2.St} {ρ4 : Env} {H4 : Hp} {p : Item}, Sta (gx X) R σ4 ρ4 H4 (tmI ++ (p :: tm)) → Sta (gx X) R σ4 ρ4 H4 (p :: (tmI ++ tm)) := fun S => ⟨S.fits, S.lent, S.own.perm (List.Perm.append_left _ (perm_mid _ _ _))⟩
      cases b with
      | false =>
        rw [if_neg Bool.false_ne_true] at hc ⊢
        exact ⟨ρ3, acc, rest, re (back S4), by omega, hc, hu⟩
      | true =>
        rw [if_pos rfl] at hc ⊢
        obtain ⟨u, ρ4, eu, hc⟩ := ok_bind hc
        obtain ⟨us', ρ5, eus, hc⟩ := ok_bind hc
        cases hc
        refine he _ _ _ ⟨R, ρ3, _, hL, S4, ?_⟩
        rw [eu]
        intro y H4 S5
        have S6 : Sta (gx X) R σ2 ρ4 H4 ((y, u) :: (.ref Dr, .node acc) :: (tmI ++ tm)) := ⟨S5.fits, S5.lent, S5.own.perm (List.Perm.append_left _ (List.Perm.cons _ (perm_mid _ _ _)))⟩
        obtain ⟨xs, hx, hl, S7⟩ := Own.append' S6
        refine ⟨xs, hx, by rw [hl, sizeLine_eq]; omega, ρ4, acc ++ [u], us', back S7, by simp; omega, eus, by rw [← hu]; simp⟩
  · have e : i = ds.length := by omega
    subst e
    rw [List.drop_length] at hc
    simp only [compM, Res.ok.injEq] at hc
    obtain ⟨h1, h2⟩ := hc
    subst h1
    rw [List.append_nil] at hu
    subst hu
    refine .inl ⟨I.stop R _ _ H _ _ SI (Nat.le_refl _), hq H ?_⟩
    rw [← h2]
    exact (Sta.dropL1 S).ofBlk hle
theorem compM_end {vs : List Nat} : ∀ {ds : List D} {ρ ρ' : Env} {us : List T}, compM vs t mt me ds (wipeE ρ vs) = .ok us ρ' → ∃ ρe, ρ' = wipeE ρe vs
  | [], ρ, ρ', us, h => by simp only [compM, Res.ok.injEq] at h; exact ⟨ρ, h.2.symm⟩
  | d :: ds, ρ, ρ', us, h => by
    simp only [compM] at h
    split at h
    · cases h
    · obtain ⟨b, ρ2, _, h⟩ := ok_bind h
      cases b with
      | false => rw [if_neg Bool.false_ne_true] at h; exact compM_end h
      | true =>
        rw [if_pos rfl] at h
        obtain ⟨u, ρ3, _, h⟩ := ok_bind h
        obtain ⟨us', ρ4, h2, h⟩ := ok_bind h
        cases h
        exact compM_end h2
theorem comp_imp {ifs : List Expr} {scope : Scope} {own : List (Str × Nat)} (hc : X.calm = true) (hN : X.N.Nodup) (hi : PId X L tg iter src) (ok : BlkOk X.N X.env.scope scope own)
    (hlv : ∀ i ∈ L, i ∉ own.map (·.2)) (hsl : ∀ i ∈ sl, i ∈ own.map (·.2))
    (hg : ∀ (s : Shared) (H : Hp) (C : Addr) (cl : List (Str × Addr)) (fp : List Addr), PGd (X.blk s H scope (compEnvC scope cl C X.env) fp) L sl tg g t)
    (ht : ∀ (s : Shared) (H : Hp) (C : Addr) (cl : List (Str × Addr)) (fp : List Addr), PTsD (X.blk s H scope (compEnvC scope cl C X.env) fp) L ifs mt)
    (he : ∀ (s : Shared) (H : Hp) (C : Addr) (cl : List (Str × Addr)) (fp : List Addr), PEd (X.blk s H scope (compEnvC scope cl C X.env) fp) L elt me) (hs : ∀ x, foldedSetIterable iter X.env x = pure x := by intro _; rfl) {W : WX} {σ : L2.St} {H : Hp} {Q : VK} (q : TEm (gx X) L W (mComp (own.map (·.2)) src t mt me) σ H Q) : tLc (TIm (gx X) L W src) g (TTm (gx X) L W0 mt) (TEm (gx X) L W0 me) (own.map (·.2)) σ H Q := by
  obtain ⟨R, ρ, tm, hL, S, q⟩ := q
  refine ⟨R, ρ, tm, hL, S, (End.bind q).mono fun ds ρ1 _ q tmI J H1 I S1 D hD => ?_⟩
  by_cases hz : ds.length ≤ 16000000
  · rw [if_pos hz] at q
    obtain ⟨us, ρ2, ec, q⟩ := noX_ok (End.bind q)
    obtain ⟨ρe, e⟩ := compM_end ec
    subst e
    refine lc_sta (Dr := D) (us := us) (ρe := ρe) hL hlv hsl I hz (hg {} H1 0 [] []).run (fun _ _ _ h => h) (fun _ _ _ h => h) (fun H' S' => q (.ref D) H' S') S1.lent ec ?_
    have o : Own (gx X) R (upd H1 D (.lst [])) ((.ref D, .node []) :: (items σ ρ1 ++ (tmI ++ tm))) := Own.newLst (xs := []) (ts := []) S1.own rfl hD
    exact Sta.back (fits_wipeE S1.fits _) S1.lent (by
      have S2 : Sta (gx X) R σ ρ1 (upd H1 D (.lst [])) ((.ref D, .node []) :: (tmI ++ tm)) := Sta.back S1.fits S1.lent o
      exact (S2.forget (own.map (·.2))).front)
  · rw [if_neg hz] at q; exact q.elim
theorem ped_comp {ifs : List Expr} {scope : Scope} {own : List (Str × Nat)} (hc : X.calm = true) (hN : X.N.Nodup) (hi : PId X L tg iter src) (ok : BlkOk X.N X.env.scope scope own)
    (hlv : ∀ i ∈ L, i ∉ own.map (·.2)) (hsl : ∀ i ∈ sl, i ∈ own.map (·.2))
    (hg : ∀ (s : Shared) (H : Hp) (C : Addr) (cl : List (Str × Addr)) (fp : List Addr), PGd (X.blk s H scope (compEnvC scope cl C X.env) fp) L sl tg g t)
    (ht : ∀ (s : Shared) (H : Hp) (C : Addr) (cl : List (Str × Addr)) (fp : List Addr), PTsD (X.blk s H scope (compEnvC scope cl C X.env) fp) L ifs mt)
    (he : ∀ (s : Shared) (H : Hp) (C : Addr) (cl : List (Str × Addr)) (fp : List Addr), PEd (X.blk s H scope (compEnvC scope cl C X.env) fp) L elt me) (hs : ∀ x, foldedSetIterable iter X.env x = pure x := by intro _; rfl) :
    PEd X L (.ListComp elt [⟨tg, iter, ifs, 0⟩] scope pos) (mComp (own.map (·.2)) src t mt me)  :=
  ⟨fun W tk => PE.imp (pe_lc (g := g) (tt := TTm (gx X) L W0 mt) (te := TEm (gx X) L W0 me) hc hN (hi.run W tk) ok (fun s H C cl fp => (hg s H C cl fp).pg) (fun s H C cl fp => ptsd_run (ht s H C cl fp) W0 tk0) (fun s H C cl fp => (he s H C cl fp).run W0 tk0) hs)
    fun σ H Q q => comp_imp hc hN hi ok hlv hsl hg ht he hs q⟩
/-- name = [..] on one line -/
theorem psd_setLc {i : Nat} {y : Str} {py spos : Pos} {ifs : List Expr} {scope : Scope} {own : List (Str × Nat)} (hc : X.calm = true) (hN : X.N.Nodup) (hi : PId X L tg iter src) (ok : BlkOk X.N X.env.scope scope own)
    (hlv : ∀ i ∈ L, i ∉ own.map (·.2)) (hsl : ∀ i ∈ sl, i ∈ own.map (·.2))
    (hg : ∀ (s : Shared) (H : Hp) (C : Addr) (cl : List (Str × Addr)) (fp : List Addr), PGd (X.blk s H scope (compEnvC scope cl C X.env) fp) L sl tg g t)
    (ht : ∀ (s : Shared) (H : Hp) (C : Addr) (cl : List (Str × Addr)) (fp : List Addr), PTsD (X.blk s H scope (compEnvC scope cl C X.env) fp) L ifs mt)
    (he : ∀ (s : Shared) (H : Hp) (C : Addr) (cl : List (Str × Addr)) (fp : List Addr), PEd (X.blk s H scope (compEnvC scope cl C X.env) fp) L elt me) (hs : ∀ x, foldedSetIterable iter X.env x = pure x := by intro _; rfl) (hi' : i ∉ L) (hy : X.N[i]? = some y) (hyl : X.env.scope.names.lookup y = some .local)
    (hsw : swapsWith (.ListComp elt [⟨tg, iter, ifs, 0⟩] scope pos) (some (.Name y py)) spos.line X.env = pure true) (st : M T → SM) (hst : st = mSet i ∨ st = mSetO i) :
    PSd X L (.Assign [.Name y py] (.ListComp elt [⟨tg, iter, ifs, 0⟩] scope pos) spos) (st (mComp (own.map (·.2)) src t mt me)) :=
  ⟨fun W tk _ => PS.imp (ps_setLc (g := g) (tt := TTm (gx X) L W0 mt) (te := TEm (gx X) L W0 me) hc hN hy hyl hsw (hi.run W tk) ok (fun s H C cl fp => (hg s H C cl fp).pg) (fun s H C cl fp => ptsd_run (ht s H C cl fp) W0 tk0) (fun s H C cl fp => (he s H C cl fp).run W0 tk0) hs)
    fun D σ H q => comp_imp hc hN hi ok hlv hsl hg ht he hs (by
      rcases hst with e | e <;> subst e
      · exact tem_toS q fun R ρ tm v u H1 hL S q => put_ok (by rw [hL]; exact hi') (Sta.back S.fits S.lent S.front.freeze) q
      · exact tem_toS q fun R ρ tm v u H1 hL S q => put_ok (by rw [hL]; exact hi') S q)⟩
end
end Q

/-! Operators, subscripts, built-ins. -/
namespace Q
open PySem PySem.Spec PyProof.Rows L2

/-! ### + - * // % ** -/
def big : Nat := 16000000
def fAdd : D → D → Option T
  | .int i, .int j => some (.leaf (.int (i + j)))
  | .str a, .str b => if a.length + b.length ≤ big then some (.leaf (.str (a ++ b))) else none
  | .tup a, .tup b => if a.length + b.length ≤ big then some (.leaf (.tup (a ++ b))) else none
  | .lst a, .lst b => if a.length + b.length ≤ big then some (.node ((a ++ b).map T.leaf)) else none
  | _, _ => none
def fSub : D → D → Option D
  | .int i, .int j => some (.int (i - j))
  | _, _ => none
def okMul (i j : Int) : Bool := Nat.ble i.natAbs (2 ^ 100000) && Nat.ble j.natAbs (2 ^ 100000)
theorem log2_of_le {n k : Nat} (h : n ≤ 2 ^ k) : n.log2 ≤ k := by
  by_cases h0 : n = 0
  · subst h0; simp
  · have h1 := (Nat.log2_lt h0 (k := k + 1)).mpr (by rw [Nat.pow_succ]; have := Nat.two_pow_pos k; omega)
    omega
def fMul : D → D → Option T
  | .int i, .int j => if okMul i j = true then some (.leaf (.int (i * j))) else none
  | .lst a, .int j => if (decide (-(2 ^ 63) ≤ j) && decide (j < 2 ^ 63) && decide (a.length * j.toNat ≤ big)) = true then some (.node ((List.replicate j.toNat a).flatten.map T.leaf)) else none
  | _, _ => none
def fFdiv : D → D → Option D
  | .int i, .int j => if (decide (0 < j) && Nat.ble j.natAbs (2 ^ 8000)) = true then some (.int (i / j)) else none
  | _, _ => none
def fMod : D → D → Option D
  | .int i, .int j => if 0 < j then some (.int (i % j)) else none
  | _, _ => none
def fPow : D → D → Option D
  | .int i, .int j => if (decide (0 ≤ j) && decide (j ≤ 1000000) && decide (i.natAbs < 2 ^ 64)) = true then some (.int (i ^ j.toNat)) else none
  | _, _ => none
theorem big_line : big ≤ sizeLine := by rw [sizeLine_eq]; decide
section
variable {X : Cx}
theorem rD_scal {G : Gx} {R : Fr} {H : Hp} {its : List Item} {x y : V} {dx dy d : D} {v : V} {Q : VK} (o : Own G R H ((y, .leaf dy) :: (x, .leaf dx) :: its)) (q : ∀ v H', Own G R H' ((v, .leaf d) :: its) → Q v H') (h : d.toV? = some v) : Q v H :=
  q v H (o.drop.drop.scal fun _ => rep_scal h)
theorem op_fAdd : OpR X (binaryOp .Add) (rD (gx X) fAdd) := by
  intro pins s σ H x y v u Q I rx ry ⟨R, its, dx, dy, t, o, ef, q⟩
  have r1 := o.drop.rep
  have r2 := o.rep
  cases dx <;> cases dy <;> simp only [fAdd, reduceCtorEq] at ef
  · cases ef
    exact op_add pins s σ H x y v u Q I rx ry ⟨_, _, r1, r2, rD_scal o q rfl⟩
  · rename_i a b
    by_cases hz : a.length + b.length ≤ big
    · rw [if_pos hz] at ef; cases ef
      exact op_add_str pins s σ H x y v u Q I rx ry ⟨_, _, r1, r2, Nat.le_trans hz big_line, rD_scal o q rfl⟩
    · rw [if_neg hz] at ef; cases ef
  · rename_i a b
    by_cases hz : a.length + b.length ≤ big
    · rw [if_pos hz] at ef; cases ef
      obtain ⟨F, o⟩ := o
      obtain ⟨a2, xs2, e2, h2, q2⟩ := o.head
      obtain ⟨a1, xs1, e1, h1, q1⟩ := o.tail.head
      have l1 := q1.length
      have l2 := q2.length
      subst e1 e2
      have ot := o.tail.tail
      refine op_catA pins s σ H _ _ v u Q I rx ry ⟨a1, a2, xs1, xs2, rfl, rfl, SqT.same (mask_same _ _) h1, SqT.same (mask_same _ _) h2, by rw [l1, l2]; exact Nat.le_trans hz big_line, fun e => ?_, fun _ e => ?_, fun _ _ p hp => ?_⟩
      · subst e
        have : a = [] := List.length_eq_zero_iff.mp l1.symm
        subst this
        exact q _ _ ⟨F, ot.add (by rw [List.nil_append]; exact o.head)⟩
      · subst e
        have : b = [] := List.length_eq_zero_iff.mp l2.symm
        subst this
        exact q _ _ ⟨F, ot.add (by rw [List.append_nil]; exact o.tail.head)⟩
      · exact q _ _ ⟨F, OwnF.newTup ot hp (q1.append q2)⟩
    · rw [if_neg hz] at ef; cases ef
  · rename_i a b
    by_cases hz : a.length + b.length ≤ big
    · rw [if_pos hz] at ef; cases ef
      obtain ⟨F, o⟩ := o
      obtain ⟨a2, xs2, e2, h2, q2⟩ := o.head
      obtain ⟨a1, xs1, e1, h1, q1⟩ := o.tail.head
      have l1 := q1.length
      have l2 := q2.length
      subst e1 e2
      refine op_cat pins s σ H _ _ v u Q I rx ry ⟨a1, a2, xs1, xs2, rfl, rfl, mask_same _ _ _ _ h1, mask_same _ _ _ _ h2, by rw [l1, l2]; exact Nat.le_trans hz big_line, fun p hp => ?_⟩
      exact q _ _ (OwnF.newLst o.tail.tail hp (q1.append q2))
    · rw [if_neg hz] at ef; cases ef
theorem scal_int {f : D → D → Option D} (h : ∀ x y d, f x y = some d → ∃ i, d = .int i) : ScalF f := fun x y d e => by
  obtain ⟨i, rfl⟩ := h x y d e
  exact ⟨_, rfl⟩
theorem scal_bl {f : D → D → Option D} (h : ∀ x y d, f x y = some d → ∃ i, d = .bl i) : ScalF f := fun x y d e => by
  obtain ⟨i, rfl⟩ := h x y d e
  exact ⟨_, rfl⟩
theorem sc_fSub : ScalF fSub := scal_int fun x y d e => by
  cases x <;> cases y <;> simp only [fSub, Option.some.injEq, reduceCtorEq] at e
  exact ⟨_, e.symm⟩
theorem sc_fFdiv : ScalF fFdiv := scal_int fun x y d e => by
  cases x <;> cases y <;> simp only [fFdiv, reduceCtorEq] at e
  split at e
  · exact ⟨_, (Option.some.inj e).symm⟩
  · cases e
theorem sc_fMod : ScalF fMod := scal_int fun x y d e => by
  cases x <;> cases y <;> simp only [fMod, reduceCtorEq] at e
  split at e
  · exact ⟨_, (Option.some.inj e).symm⟩
  · cases e
theorem sc_fPow : ScalF fPow := scal_int fun x y d e => by
  cases x <;> cases y <;> simp only [fPow, reduceCtorEq] at e
  split at e
  · exact ⟨_, (Option.some.inj e).symm⟩
  · cases e
theorem op_fSub : OpR X (binaryOp .Sub) (rS (gx X) fSub) := by
  intro pins s σ H x y v u Q I rx ry ⟨dx, dy, d, w, r1, r2, ef, ev, q⟩
  cases dx <;> cases dy <;> simp only [fSub, Option.some.injEq, reduceCtorEq] at ef
  subst ef
  cases ev
  exact op_sub pins s σ H x y v u Q I rx ry ⟨_, _, r1, r2, q⟩
theorem op_fFdiv : OpR X (binaryOp .FloorDiv) (rS (gx X) fFdiv) := by
  intro pins s σ H x y v u Q I rx ry ⟨dx, dy, d, w, r1, r2, ef, ev, q⟩
  cases dx <;> cases dy <;> simp only [fFdiv, reduceCtorEq] at ef
  split at ef
  · rename_i hz
    rw [Bool.and_eq_true] at hz
    cases ef
    cases ev
    exact op_fdivW pins s σ H x y v u Q I rx ry ⟨_, _, r1, r2, ⟨of_decide_eq_true hz.1, by have := log2_of_le (Nat.le_of_ble_eq_true hz.2); omega⟩, q⟩
  · cases ef
theorem op_fMod : OpR X (binaryOp .Mod) (rS (gx X) fMod) := by
  intro pins s σ H x y v u Q I rx ry ⟨dx, dy, d, w, r1, r2, ef, ev, q⟩
  cases dx <;> cases dy <;> simp only [fMod, reduceCtorEq] at ef
  split at ef
  · rename_i hz
    cases ef
    cases ev
    exact op_mod pins s σ H x y v u Q I rx ry ⟨_, _, r1, r2, hz, q⟩
  · cases ef
theorem op_fPow : OpR X (binaryOp .Pow) (rS (gx X) fPow) := by
  intro pins s σ H x y v u Q I rx ry ⟨dx, dy, d, w, r1, r2, ef, ev, q⟩
  cases dx <;> cases dy <;> simp only [fPow, reduceCtorEq] at ef
  split at ef
  · rename_i hz
    rw [Bool.and_eq_true, Bool.and_eq_true] at hz
    cases ef
    cases ev
    exact op_pow pins s σ H x y v u Q I rx ry ⟨_, _, r1, r2, ⟨of_decide_eq_true hz.1.1, of_decide_eq_true hz.1.2, of_decide_eq_true hz.2⟩, q⟩
  · cases ef
theorem Reps.rep {G : Gx} {H : Hp} {ds : List D} {xs : List V} (h : Reps G H ds xs) : ∀ k : Nat, Reps G H (List.replicate k ds).flatten (List.replicate k xs).flatten
  | 0 => rfl
  | k + 1 => by
    rw [List.replicate_succ, List.replicate_succ, List.flatten_cons, List.flatten_cons]
    exact h.append (Reps.rep h k)
theorem op_fMul : OpR X (binaryOp .Mult) (rD (gx X) fMul) := by
  intro pins s σ H x y v u Q I rx ry ⟨R, its, dx, dy, t, o, ef, q⟩
  have r1 := o.drop.rep
  have r2 := o.rep
  cases dx <;> cases dy <;> simp only [fMul, reduceCtorEq] at ef
  · split at ef
    · rename_i hz
      cases ef
      unfold okMul at hz
      obtain ⟨z1, z2⟩ := Bool.and_eq_true_iff.mp hz
      have k1 := log2_of_le (Nat.le_of_ble_eq_true z1)
      have k2 := log2_of_le (Nat.le_of_ble_eq_true z2)
      have hz' := Nat.lt_of_le_of_lt (Nat.add_le_add k1 k2) (by decide : 100000 + 100000 < 1000000)
      exact op_mulW pins s σ H x y v u Q I rx ry ⟨_, _, r1, r2, hz', rD_scal o q rfl⟩
    · cases ef
  · split at ef
    · rename_i a j hz
      rw [Bool.and_eq_true, Bool.and_eq_true] at hz
      cases ef
      obtain ⟨F, o⟩ := o
      obtain ⟨a1, xs1, e1, h1, q1⟩ := o.tail.head
      have l1 := q1.length
      subst e1
      refine op_rep pins s σ H _ _ v u Q I rx ry ⟨a1, j, xs1, rfl, r2, mask_same _ _ _ _ h1, of_decide_eq_true hz.1.1, of_decide_eq_true hz.1.2, by rw [l1]; exact Nat.le_trans (of_decide_eq_true hz.2) big_line, fun p hp => ?_⟩
      exact q _ _ (OwnF.newLst o.tail.tail hp (q1.rep _))
    · cases ef
end
/-- -e -/
def mNeg (m : M T) : M T := fun ρ => (m ρ).bind fun t ρ1 => match t.toD with
  | .int i => .ok (.leaf (.int (-i))) ρ1
  | _ => .stuck
theorem toInt {G : Gx} {R : Fr} {σ : L2.St} {ρ : Env} {H : Hp} {tm : List Item} {v : V} {t : T} {d : D} (S : Sta G R σ ρ H ((v, t) :: tm)) (e : t.toD = d) : Sta G R σ ρ H ((v, .leaf d) :: tm) := by
  subst e
  exact Sta.back S.fits S.lent S.front.freeze
theorem ped_neg {X : Cx} {L : List Nat} {e : Expr} {m : M T} {pos : Pos} (he : PEd X L e m) : PEd X L (.UnaryOp .USub e pos) (mNeg m) :=
  ⟨fun W tk => PE.imp (pe_un un_neg (he.run W tk)) fun σ H Q ⟨R, ρ, tm, hL, S, q⟩ => ⟨R, ρ, tm, hL, S, (End.bind q).mono fun t ρ1 et q v H1 S1 => by
    clear et
    split at q
    · rename_i i e
      exact ⟨i, (toInt S1 e).front.rep, q _ H1 ((toInt S1 e).pop.with fun o => o.scal fun _ => rfl)⟩
    · exact q.elim⟩⟩

/-! ### comparisons -/
mutual
def D.toP : D → Option PyData
  | .non => some .none
  | .bl b => some (.bool b)
  | .int i => some (.int i)
  | .str s => some (.str s)
  | .tup ds => (D.toPs ds).map .tuple
  | .lst ds => (D.toPs ds).map .list
  | .fz ds => (D.toPs ds).map .list
  | .glo _ => none
def D.toPs : List D → Option (List PyData)
  | [] => some []
  | d :: ds => match d.toP, D.toPs ds with
    | some p, some ps => some (p :: ps)
    | _, _ => none
end
mutual
theorem toP_dp {G : Gx} {H : Hp} : ∀ (d : D) {p : PyData} {v : V}, d.toP = some p → Rep G H d v → Dp G.K H v p
  | .non, p, v, e, r => by cases e; rw [show v = .non from r]; exact .non
  | .bl b, p, v, e, r => by cases e; rw [show v = .bl b from r]; exact .bl b
  | .int i, p, v, e, r => by cases e; rw [show v = .int i from r]; exact .int i
  | .str s, p, v, e, r => by cases e; rw [show v = .str s from r]; exact .str s
  | .tup ds, p, v, e, ⟨a, xs, ev, h, hr⟩ => by
    simp only [D.toP] at e
    cases e2 : D.toPs ds with
    | none => rw [e2] at e; cases e
    | some ps => rw [e2] at e; cases e; subst ev; exact .tup h (toPs_dp ds e2 hr)
  | .lst ds, p, v, e, ⟨a, xs, ev, h, hr⟩ => by
    simp only [D.toP] at e
    cases e2 : D.toPs ds with
    | none => rw [e2] at e; cases e
    | some ps => rw [e2] at e; cases e; subst ev; exact .lst (SqL.of h) (toPs_dp ds e2 hr)
  | .fz ds, p, v, e, ⟨a, xs, ev, h, hr⟩ => by
    simp only [D.toP] at e
    cases e2 : D.toPs ds with
    | none => rw [e2] at e; cases e
    | some ps => rw [e2] at e; cases e; subst ev; exact .lst h (toPs_dp ds e2 hr)
  | .glo x, p, v, e, r => by cases e
theorem toPs_dp {G : Gx} {H : Hp} : ∀ (ds : List D) {ps : List PyData} {xs : List V}, D.toPs ds = some ps → Reps G H ds xs → DpAll G.K H xs ps
  | [], ps, xs, e, r => by cases e; rw [show xs = [] from r]; exact .nil
  | d :: ds, ps, xs, e, ⟨x, r, ex, h1, h2⟩ => by
    simp only [D.toPs] at e
    cases e1 : d.toP with
    | none => rw [e1] at e; cases e
    | some p =>
      cases e2 : D.toPs ds with
      | none => rw [e1, e2] at e; cases e
      | some ps' => rw [e1, e2] at e; cases e; subst ex; exact .cons (toP_dp d e1 h1) (toPs_dp ds e2 h2)
end
/-- x == y -/
def eqD (x y : D) : Option Bool :=
  match x.toV?, y.toV? with
  | some a, some b => if scal a b = true then some (decide (a = b)) else
      match x.toP, y.toP with
      | some p, some q => some (PyData.eqv p q)
      | _, _ => none
  | _, _ =>
    match x.toP, y.toP with
    | some p, some q => if (SeqAt.shaped p && SeqAt.shaped q) = true then some (PyData.eqv p q) else none
    | _, _ => none
def fEq (x y : D) : Option D := (eqD x y).map .bl
def fNe (x y : D) : Option D := (eqD x y).map fun b => .bl (!b)
theorem sc_map {f : D → D → Option Bool} {g : Bool → Bool} : ScalF fun x y => (f x y).map fun b => .bl (g b) := scal_bl fun x y d e => by
  cases e2 : f x y with
  | none => rw [e2] at e; cases e
  | some b => rw [e2] at e; cases e; exact ⟨_, rfl⟩
theorem sc_fEq : ScalF fEq := sc_map (g := id)
theorem sc_fNe : ScalF fNe := sc_map
theorem toV_rep {G : Gx} {H : Hp} {d : D} {v x : V} (e : d.toV? = some v) (r : Rep G H d x) : x = v := by
  cases d <;> simp [D.toV?] at e <;> subst e <;> exact r
theorem scal_shaped {d : D} {v : V} {p : PyData} (e : d.toV? = some v) (ep : d.toP = some p) (hs : ∀ s, d ≠ .str s) : SeqAt.shaped p = true := by
  cases d <;> simp [D.toV?] at e <;> simp [D.toP] at ep <;> subst ep <;> first
    | (exact absurd rfl (hs _))
    | simp [SeqAt.shaped, PyData.canLay0, PyData.depth]
theorem eq_cases {G : Gx} {H : Hp} {dx dy : D} {x y : V} {b : Bool} (r1 : Rep G H dx x) (r2 : Rep G H dy y) (e : eqD dx dy = some b) :
    (scal x y = true ∧ b = decide (x = y)) ∨ ∃ p q, Dp G.K H x p ∧ Dp G.K H y q ∧ SeqAt.shaped p = true ∧ SeqAt.shaped q = true ∧ b = PyData.eqv p q := by
  have deep : ∀ {p q}, dx.toP = some p → dy.toP = some q → (SeqAt.shaped p && SeqAt.shaped q) = true → PyData.eqv p q = b → ∃ p q, Dp G.K H x p ∧ Dp G.K H y q ∧ SeqAt.shaped p = true ∧ SeqAt.shaped q = true ∧ b = PyData.eqv p q := fun h1 h2 h3 h4 => by
    rw [Bool.and_eq_true] at h3
    exact ⟨_, _, toP_dp _ h1 r1, toP_dp _ h2 r2, h3.1, h3.2, h4.symm⟩
  unfold eqD at e
  split at e
  · rename_i a c ea ec
    have := toV_rep ea r1
    subst this
    have := toV_rep ec r2
    subst this
    by_cases hs : scal x y = true
    · rw [if_pos hs] at e
      exact .inl ⟨hs, (Option.some.inj e).symm⟩
    · rw [if_neg hs] at e
      split at e
      · rename_i p q ep eq
        refine .inr (deep ep eq ?_ (Option.some.inj e))
        rw [Bool.and_eq_true]
        refine ⟨scal_shaped ea ep fun s z => hs ?_, scal_shaped ec eq fun s z => hs ?_⟩
        · subst z; cases ea; cases dy <;> simp [D.toV?] at ec <;> subst ec <;> rfl
        · subst z; cases ec; cases dx <;> simp [D.toV?] at ea <;> subst ea <;> rfl
      · cases e
  · split at e
    · rename_i p q ep eq
      by_cases hs : (SeqAt.shaped p && SeqAt.shaped q) = true
      · rw [if_pos hs] at e
        exact .inr (deep ep eq hs (Option.some.inj e))
      · rw [if_neg hs] at e; cases e
    · cases e
section
variable {X : Cx}
theorem op_fEq (hu : X.A.units + 64 < cLine) : OpR X (compareOp .Eq) (rS (gx X) fEq) := by
  intro pins s σ H x y v u Q I rx ry ⟨dx, dy, d, w, r1, r2, ef, ev, q⟩
  unfold fEq at ef
  cases e : eqD dx dy with
  | none => rw [e] at ef; cases ef
  | some b =>
    rw [e] at ef
    cases ef
    cases ev
    rcases eq_cases r1 r2 e with ⟨h1, h2⟩ | ⟨p, p', h1, h2, h3, h4, h5⟩
    · subst h2; exact op_eq pins s σ H x y v u Q I rx ry ⟨h1, q⟩
    · subst h5; exact op_eqD hu pins s σ H x y v u Q I rx ry ⟨p, p', h1, h2, h3, h4, q⟩
theorem op_fNe (hu : X.A.units + 64 < cLine) : OpR X (compareOp .NotEq) (rS (gx X) fNe) := by
  intro pins s σ H x y v u Q I rx ry ⟨dx, dy, d, w, r1, r2, ef, ev, q⟩
  unfold fNe at ef
  cases e : eqD dx dy with
  | none => rw [e] at ef; cases ef
  | some b =>
    rw [e] at ef
    cases ef
    cases ev
    rcases eq_cases r1 r2 e with ⟨h1, h2⟩ | ⟨p, p', h1, h2, h3, h4, h5⟩
    · subst h2; exact op_ne pins s σ H x y v u Q I rx ry ⟨h1, q⟩
    · subst h5; exact op_neD hu pins s σ H x y v u Q I rx ry ⟨p, p', h1, h2, h3, h4, q⟩
end
/-- x < y of ints, of texts -/
def ltD : D → D → Option Bool
  | .int i, .int j => some (decide (i < j))
  | .str a, .str b => some (decide (a.cps.toList < b.cps.toList))
  | _, _ => none
def fLt (x y : D) : Option D := (ltD x y).map fun b => .bl b
def fGt (x y : D) : Option D := (ltD y x).map fun b => .bl b
def leD : D → D → Option Bool
  | .int i, .int j => some (decide (i ≤ j))
  | _, _ => none
def fLe (x y : D) : Option D := (leD x y).map fun b => .bl b
def fGe (x y : D) : Option D := (leD y x).map fun b => .bl b
theorem sc_fLt : ScalF fLt := sc_map (g := id)
theorem sc_fGt : ScalF fGt := sc_map (f := fun x y => ltD y x) (g := id)
theorem sc_fLe : ScalF fLe := sc_map (g := id)
theorem sc_fGe : ScalF fGe := sc_map (f := fun x y => leD y x) (g := id)
section
variable {X : Cx}
theorem op_fLt : OpR X (compareOp .Lt) (rS (gx X) fLt) := by
  intro pins s σ H x y v u Q I rx ry ⟨dx, dy, d, w, r1, r2, ef, ev, q⟩
  cases dx <;> cases dy <;> simp only [fLt, ltD, Option.map_some, Option.map_none, Option.some.injEq, reduceCtorEq] at ef <;> subst ef <;> cases ev
  · exact L2.op_lt pins s σ H x y v u Q I rx ry ⟨_, _, r1, r2, q⟩
  · exact op_lt_str pins s σ H x y v u Q I rx ry ⟨_, _, r1, r2, q⟩
theorem op_fGt : OpR X (compareOp .Gt) (rS (gx X) fGt) := by
  intro pins s σ H x y v u Q I rx ry ⟨dx, dy, d, w, r1, r2, ef, ev, q⟩
  cases dx <;> cases dy <;> simp only [fGt, ltD, Option.map_some, Option.map_none, Option.some.injEq, reduceCtorEq] at ef <;> subst ef <;> cases ev
  · exact L2.op_gt pins s σ H x y v u Q I rx ry ⟨_, _, r1, r2, q⟩
  · exact op_gt_str pins s σ H x y v u Q I rx ry ⟨_, _, r1, r2, q⟩
theorem op_fLe : OpR X (compareOp .LtE) (rS (gx X) fLe) := by
  intro pins s σ H x y v u Q I rx ry ⟨dx, dy, d, w, r1, r2, ef, ev, q⟩
  cases dx <;> cases dy <;> simp only [fLe, leD, Option.map_some, Option.map_none, Option.some.injEq, reduceCtorEq] at ef <;> subst ef <;> cases ev
  exact L2.op_le pins s σ H x y v u Q I rx ry ⟨_, _, r1, r2, q⟩
theorem op_fGe : OpR X (compareOp .GtE) (rS (gx X) fGe) := by
  intro pins s σ H x y v u Q I rx ry ⟨dx, dy, d, w, r1, r2, ef, ev, q⟩
  cases dx <;> cases dy <;> simp only [fGe, leD, Option.map_some, Option.map_none, Option.some.injEq, reduceCtorEq] at ef <;> subst ef <;> cases ev
  exact L2.op_ge pins s σ H x y v u Q I rx ry ⟨_, _, r1, r2, q⟩
end
/-- is None, is not None -/
def isN : D → Option Bool
  | .non => some true
  | .glo _ => none
  | _ => some false
def fIsN (x y : D) : Option D := match y with
  | .non => (isN x).map fun b => .bl b
  | _ => none
def fNotN (x y : D) : Option D := match y with
  | .non => (isN x).map fun b => .bl (!b)
  | _ => none
theorem sc_fIsN : ScalF fIsN := scal_bl fun x y d e => by
  cases y <;> simp only [fIsN, reduceCtorEq] at e
  cases e2 : isN x with
  | none => rw [e2] at e; cases e
  | some b => rw [e2] at e; exact ⟨_, (Option.some.inj e).symm⟩
theorem sc_fNotN : ScalF fNotN := scal_bl fun x y d e => by
  cases y <;> simp only [fNotN, reduceCtorEq] at e
  cases e2 : isN x with
  | none => rw [e2] at e; cases e
  | some b => rw [e2] at e; exact ⟨_, (Option.some.inj e).symm⟩
theorem isN_rep {G : Gx} {H : Hp} {d : D} {x : V} {b : Bool} (r : Rep G H d x) (e : isN d = some b) : decide (x = .non) = b := by
  cases d with
  | non => cases e; rw [show x = .non from r]; rfl
  | bl _ => cases e; rw [show x = .bl _ from r]; rfl
  | int _ => cases e; rw [show x = .int _ from r]; rfl
  | str _ => cases e; rw [show x = .str _ from r]; rfl
  | tup _ => cases e; obtain ⟨a, xs, e, _⟩ := r; rw [e]; rfl
  | lst _ => cases e; obtain ⟨a, xs, e, _⟩ := r; rw [e]; rfl
  | fz _ => cases e; obtain ⟨a, xs, e, _⟩ := r; rw [e]; rfl
  | glo y => cases e
section
variable {X : Cx}
theorem op_fIsN : OpR X (compareOp .Is) (rS (gx X) fIsN) := by
  intro pins s σ H x y v u Q I rx ry ⟨dx, dy, d, w, r1, r2, ef, ev, q⟩
  cases dy <;> simp only [fIsN, reduceCtorEq] at ef
  cases e2 : isN dx with
  | none => rw [e2] at ef; cases ef
  | some b =>
    rw [e2] at ef
    cases ef
    cases ev
    exact op_isN pins s σ H x y v u Q I rx ry ⟨r2, by rw [isN_rep r1 e2]; exact q⟩
theorem op_fNotN : OpR X (compareOp .IsNot) (rS (gx X) fNotN) := by
  intro pins s σ H x y v u Q I rx ry ⟨dx, dy, d, w, r1, r2, ef, ev, q⟩
  cases dy <;> simp only [fNotN, reduceCtorEq] at ef
  cases e2 : isN dx with
  | none => rw [e2] at ef; cases ef
  | some b =>
    rw [e2] at ef
    cases ef
    cases ev
    exact op_notN pins s σ H x y v u Q I rx ry ⟨r2, by rw [isN_rep r1 e2]; exact q⟩
end
/-! ### in, not in -/
/-- x among flat items; among items of any depth -/
def anyFlat (x : D) (ds : List D) : Option Bool := match x.toV? with
  | some v => (ds.mapM D.toV?).map fun vs => inV v vs
  | none => none
def anyDeep (x : D) (ds : List D) : Option Bool := match x.toP, D.toPs ds with
  | some p, some ps => if (SeqAt.shaped p && SeqAt.shaped (.list ps)) = true then some (ps.any fun z => PyData.eqv z p) else none
  | _, _ => none
/-- the text c of one sign in z; any text in z; x among the items of a list or tuple -/
def inD (x y : D) : Option Bool := match y with
  | .str z => match x with
    | .str c => match c.cps.toList with
      | [k] => some (decide (k ∈ z.cps.toList))
      | _ => some (!(Builtin.Str.occurrences z c 0 z.length 1).isEmpty)
    | _ => none
  | .tup ds => anyFlat x ds
  | .lst ds => match anyFlat x ds with
    | some b => some b
    | none => anyDeep x ds
  | _ => none
def fIn (x y : D) : Option D := (inD x y).map fun b => .bl b
def fNotIn (x y : D) : Option D := (inD x y).map fun b => .bl (!b)
theorem sc_fIn : ScalF fIn := sc_map (g := id)
theorem sc_fNotIn : ScalF fNotIn := sc_map
theorem flat_of {d : D} {v : V} (e : d.toV? = some v) : flatV v = true := by
  cases d <;> simp [D.toV?] at e <;> subst e <;> rfl
theorem reps_vals {G : Gx} {H : Hp} : ∀ {ds : List D} {xs vs : List V}, ds.mapM D.toV? = some vs → Reps G H ds xs → xs = vs ∧ xs.all flatV = true
  | [], xs, vs, e, r => by
    simp at e
    subst e
    exact ⟨r, by rw [show xs = [] from r]; rfl⟩
  | d :: ds, xs, vs, e, ⟨x, r, ex, h1, h2⟩ => by
    simp only [List.mapM_cons, Option.bind_eq_bind] at e
    cases e1 : d.toV? with
    | none => rw [e1] at e; cases e
    | some w =>
      rw [e1] at e
      cases e2 : ds.mapM D.toV? with
      | none => rw [e2] at e; cases e
      | some ws =>
        rw [e2] at e
        cases e
        obtain ⟨q1, q2⟩ := reps_vals e2 h2
        subst ex q1
        have := toV_rep e1 h1
        subst this
        exact ⟨rfl, by rw [List.all_cons, flat_of e1, q2]; rfl⟩
theorem anyFlat_of {G : Gx} {H : Hp} {dx : D} {ds : List D} {x : V} {xs : List V} {b : Bool} (e : anyFlat dx ds = some b) (r : Rep G H dx x) (rs : Reps G H ds xs) : flatV x = true ∧ xs.all flatV = true ∧ inV x xs = b := by
  unfold anyFlat at e
  cases e1 : dx.toV? with
  | none => rw [e1] at e; cases e
  | some v =>
    rw [e1] at e
    have := toV_rep e1 r
    subst this
    cases e2 : ds.mapM D.toV? with
    | none => simp only [e2] at e; cases e
    | some vs =>
      simp only [e2] at e
      cases e
      obtain ⟨q1, q2⟩ := reps_vals e2 rs
      subst q1
      exact ⟨flat_of e1, q2, rfl⟩
theorem anyDeep_of {G : Gx} {H : Hp} {dx : D} {ds : List D} {x y : V} {b : Bool} (e : anyDeep dx ds = some b) (r : Rep G H dx x) (rs : Rep G H (.lst ds) y) : ∃ p ps, Dp G.K H x p ∧ Dp G.K H y (.list ps) ∧ SeqAt.shaped p = true ∧ SeqAt.shaped (.list ps) = true ∧ (ps.any fun z => PyData.eqv z p) = b := by
  unfold anyDeep at e
  cases e1 : dx.toP with
  | none => simp only [e1] at e; cases e
  | some p =>
    cases e2 : D.toPs ds with
    | none => simp only [e1, e2] at e; cases e
    | some ps =>
      simp only [e1, e2] at e
      split at e
      · rename_i hs
        rw [Bool.and_eq_true] at hs
        refine ⟨p, ps, toP_dp _ e1 r, toP_dp (.lst ds) (by simp only [D.toP, e2]; rfl) rs, hs.1, hs.2, Option.some.inj e⟩
      · cases e
section
variable {X : Cx}
theorem sign_of {c : Str} {k : Nat} (e : c.cps.toList = [k]) : c = ⟨#[k]⟩ := by
  cases c with
  | mk a => simp only [Str.mk.injEq]; exact Array.ext' (by rw [e])
theorem op_fInB (hu : X.A.units + 65 < cLine) (neg : Bool) : OpR X (compareOp (if neg then .NotIn else .In)) (rS (gx X) fun x y => (inD x y).map fun b => .bl (if neg then !b else b)) := by
  intro pins s σ H x y v u Q I rx ry ⟨dx, dy, d, w, r1, r2, ef, ev, q⟩
  have ef : (inD dx dy).map (fun b => D.bl (if neg then !b else b)) = some d := ef
  cases e2 : inD dx dy with
  | none => rw [e2] at ef; cases ef
  | some b =>
    rw [e2] at ef
    cases ef
    cases ev
    have seq : ∀ (p : Addr) (xs : List V), y = .ref p → (SqL X.K H p xs ∨ SqT X.K H p xs) → flatV x = true → xs.all flatV = true → inV x xs = b → wpAny (model X.prog X.w) X.A (compareOp (if neg then .NotIn else .In) v u) (EP X pins σ Q) X.xe s := by
      intro p xs ey hq fx fs hb
      subst hb
      cases neg with
      | false => exact op_in_seq pins s σ H x y v u Q I rx ry ⟨p, xs, ey, hq, fx, fs, q⟩
      | true => exact op_notIn_seq pins s σ H x y v u Q I rx ry ⟨p, xs, ey, hq, fx, fs, q⟩
    cases dy with
    | str z =>
      cases dx with
      | str c =>
        simp only [inD] at e2
        split at e2
        · rename_i k ek
          cases e2
          have hc := sign_of ek
          subst hc
          cases neg with
          | false => exact op_in_sign pins s σ H x y v u Q I rx ry ⟨k, z, r1, r2, q⟩
          | true => exact op_notIn_sign pins s σ H x y v u Q I rx ry ⟨k, z, r1, r2, q⟩
        · cases e2
          cases neg with
          | false => exact op_in_str pins s σ H x y v u Q I rx ry ⟨c, z, r1, r2, q⟩
          | true => exact op_notin_str pins s σ H x y v u Q I rx ry ⟨c, z, r1, r2, q⟩
      | _ => cases e2
    | tup ds =>
      obtain ⟨a, xs, ey, h, hr⟩ := r2
      obtain ⟨f1, f2, f3⟩ := anyFlat_of (show anyFlat dx ds = some b from e2) r1 hr
      exact seq a xs ey (.inr h) f1 f2 f3
    | lst ds =>
      simp only [inD] at e2
      cases e3 : anyFlat dx ds with
      | some b' =>
        rw [e3] at e2
        cases e2
        obtain ⟨a, xs, ey, h, hr⟩ := r2
        obtain ⟨f1, f2, f3⟩ := anyFlat_of e3 r1 hr
        exact seq a xs ey (.inl (SqL.of h)) f1 f2 f3
      | none =>
        rw [e3] at e2
        obtain ⟨p, ps, d1, d2, s1, s2, hb⟩ := anyDeep_of e2 r1 r2
        subst hb
        cases neg with
        | false => exact op_inD hu pins s σ H x y v u Q I rx ry ⟨p, ps, d1, d2, s1, s2, q⟩
        | true => exact op_notInD hu pins s σ H x y v u Q I rx ry ⟨p, ps, d1, d2, s1, s2, q⟩
    | _ => cases e2
theorem op_fIn (hu : X.A.units + 65 < cLine) : OpR X (compareOp .In) (rS (gx X) fIn) := op_fInB hu false
theorem op_fNotIn (hu : X.A.units + 65 < cLine) : OpR X (compareOp .NotIn) (rS (gx X) fNotIn) := op_fInB hu true
end
theorem Sta.perm {G : Gx} {R : Fr} {σ : L2.St} {ρ : Env} {H : Hp} {tm tm' : List Item} (S : Sta G R σ ρ H tm) (p : tm.Perm tm') : Sta G R σ ρ H tm' := ⟨S.fits, S.lent, S.own.perm (List.Perm.append_left _ p)⟩
/-- a < b < c -/
def mChain (f g : D → D → Option D) (ma mb mc : M T) : M T := fun ρ => (ma ρ).bind fun t1 ρ1 => (mb ρ1).bind fun t2 ρ2 =>
  match f t1.toD t2.toD with
  | some (.bl true) => (mc ρ2).bind fun t3 ρ3 => match g t2.toD t3.toD with
    | some d => .ok (.leaf d) ρ3
    | none => .stuck
  | some (.bl false) => .ok (.leaf (.bl false)) ρ2
  | _ => .stuck
section
variable {X : Cx} {L : List Nat} {a b c : Expr} {ma mb mc : M T} {pos : Pos} {op op' : CmpOp} {f g : D → D → Option D}
theorem chain_ok {W : WX} {σ : L2.St} {H : Hp} {Q : VK} (hf : ScalF f) (hg : ScalF g) (h : TEm (gx X) L W (mChain f g ma mb mc) σ H Q) : tChain (rS (gx X) f) (rS (gx X) g) (TEm (gx X) L W ma) (TEm (gx X) L W mb) (TEm (gx X) L W mc) σ H Q := by
  obtain ⟨R, ρ, tm, hL, S, h⟩ := h
  refine ⟨R, ρ, tm, hL, S, (End.bind h).mono fun t1 ρ1 _ h1 x H1 S1 => ?_⟩
  refine ⟨R, ρ1, (x, t1) :: tm, hL, S1, ((End.bind h1).push (x, t1)).mono fun t2 ρ2 _ h2 y H2 S2 => ?_⟩
  cases e : f t1.toD t2.toD with
  | none => rw [e] at h2; exact h2.elim
  | some d =>
    obtain ⟨v, hv⟩ := hf _ _ _ e
    refine ⟨t1.toD, t2.toD, d, v, S2.pop.front.repT, S2.front.repT, e, hv, ?_⟩
    rw [e] at h2
    cases d with
    | bl k =>
      cases hv
      refine ⟨k, rfl, ?_⟩
      cases k with
      | false => rw [if_neg Bool.false_ne_true]; exact h2 _ H2 (S2.pop.pop.with fun o => o.scal fun _ => rfl)
      | true =>
        rw [if_pos rfl]
        refine ⟨R, ρ2, (y, t2) :: (x, t1) :: tm, hL, S2, (((End.bind h2).push (x, t1)).push (y, t2)).mono fun t3 ρ3 _ h3 w H3 S3 => ?_⟩
        have S4 : Sta (gx X) R σ ρ3 H3 ((w, t3) :: (y, t2) :: tm) := Sta.pop (p := (x, t1)) (S3.perm (List.perm_middle (l₁ := [(w, t3), (y, t2)])))
        exact rS_of hg S4 h3
    | _ => exact h2.elim
theorem ped_chain (hf : ScalF f) (hg : ScalF g) (ho : OpR X (compareOp op) (rS (gx X) f)) (ho' : OpR X (compareOp op') (rS (gx X) g)) (ha : PEd X L a ma) (hb : PEd X L b mb) (hc : PEd X L c mc) (hm : lastMarks [op, op'] [b, c] = false := by with_unfolding_all rfl) :
    PEd X L (.Compare a [op, op'] [b, c] pos) (mChain f g ma mb mc) := ⟨fun W tk => PE.imp (pe_chain ho ho' (ha.run W tk) (hb.run W tk) (hc.run W tk) hm) fun σ H Q h => chain_ok hf hg h⟩
theorem ptd_chain (hf : ScalF f) (hg : ScalF g) (ho : OpR X (compareOp op) (rS (gx X) f)) (ho' : OpR X (compareOp op') (rS (gx X) g)) (ha : PEd X L a ma) (hb : PEd X L b mb) (hc : PEd X L c mc) (hm : lastMarks [op, op'] [b, c] = false := by with_unfolding_all rfl) :
    PTd X L (.Compare a [op, op'] [b, c] pos) (mTest (mChain f g ma mb mc)) := ⟨fun W tk => PT.imp (pt_chain ho ho' (ha.run W tk) (hb.run W tk) (hc.run W tk) hm) fun σ H Q h => chain_ok hf hg (tem_test h)⟩
end
end Q

/-! Subscripts, slices, built-in calls, stores. -/
namespace Q
open PySem PySem.Spec PyProof.Rows L2

/-! ### x[i] -/
def fIx : D → D → Option T
  | .lst ds, .int i => (atI ds i).map T.leaf
  | .fz ds, .int i => (atI ds i).map T.leaf
  | .tup ds, .int i => (atI ds i).map T.leaf
  | .str z, .int i => if z.length ≤ big then (atI z.cps.toList i).map fun c => .leaf (.str ⟨#[c]⟩) else none
  | _, _ => none
theorem Reps.atI {G : Gx} {H : Hp} {ds : List D} {xs : List V} {i : Int} {d : D} (h : Reps G H ds xs) (e : L2.atI ds i = some d) : ∃ x, L2.atI xs i = some x ∧ Rep G H d x := by
  unfold L2.atI at e ⊢
  rw [h.length]
  cases e2 : ixN ds.length i with
  | none => rw [e2] at e; cases e
  | some j => rw [e2] at e; exact h.get e
section
variable {X : Cx} {L : List Nat}
theorem ix_fIx : IxR X (rD (gx X) fIx) := by
  intro value slice pins s σ H x y v u Q I rx ry ⟨R, its, dx, dy, t, o, ef, q⟩ hs
  have r2 := o.rep
  obtain ⟨F, o⟩ := o
  have ot := o.tail.tail
  have rh := o.tail.head
  cases dy with
  | int i =>
    have ey : y = .int i := r2
    cases dx with
    | lst ds =>
      simp only [fIx] at ef
      cases e : L2.atI ds i with
      | none => rw [e] at ef; cases ef
      | some d =>
        rw [e] at ef; cases ef
        obtain ⟨a, xs, ex, h1, h2⟩ := rh
        obtain ⟨w, e1, e2⟩ := h2.atI e
        exact ix_list value slice pins s σ H x y v u Q I rx ry ⟨a, xs, i, w, ex, ey, SqL.of (mask_same _ _ _ _ h1), e1, q _ _ ⟨F, ot.add e2⟩⟩ hs
    | fz ds =>
      simp only [fIx] at ef
      cases e : L2.atI ds i with
      | none => rw [e] at ef; cases ef
      | some d =>
        rw [e] at ef; cases ef
        obtain ⟨a, xs, ex, h1, h2⟩ := rh
        obtain ⟨w, e1, e2⟩ := h2.atI e
        exact ix_list value slice pins s σ H x y v u Q I rx ry ⟨a, xs, i, w, ex, ey, (mask_same _ _).seq h1, e1, q _ _ ⟨F, ot.add e2⟩⟩ hs
    | tup ds =>
      simp only [fIx] at ef
      cases e : L2.atI ds i with
      | none => rw [e] at ef; cases ef
      | some d =>
        rw [e] at ef; cases ef
        obtain ⟨a, xs, ex, h1, h2⟩ := rh
        obtain ⟨w, e1, e2⟩ := h2.atI e
        exact ix_tup value slice pins s σ H x y v u Q I rx ry ⟨a, xs, i, w, ex, ey, SqT.same (mask_same _ _) h1, e1, q _ _ ⟨F, ot.add e2⟩⟩ hs
    | str z =>
      simp only [fIx] at ef
      by_cases hz : z.length ≤ big
      · rw [if_pos hz] at ef
        cases e : L2.atI z.cps.toList i with
        | none => rw [e] at ef; cases ef
        | some c =>
          rw [e] at ef; cases ef
          exact ix_str value slice pins s σ H x y v u Q I rx ry ⟨z, i, c, rh, ey, Nat.le_trans hz big_line, e, q _ _ ⟨F, ot.add rfl⟩⟩ hs
      · rw [if_neg hz] at ef; cases ef
    | _ => cases ef
  | _ => cases dx <;> cases ef
theorem ped_ix {a b : Expr} {ma mb : M T} {pos : Pos} (ha : PEd X L a ma) (hb : PEd X L b mb) (hs : PlainIx b) : PEd X L (.Subscript a b pos) (mD2 fIx ma mb) :=
  ⟨fun W tk => PE.imp (pe_ix ix_fIx (ha.run W tk) (hb.run W tk) hs) fun σ H Q h => tem_two h fun R ρ tm x y t1 t2 H2 _ S q => rD_of S q⟩
/-- x[e], x's list owned: an item of data -/
def nodeIx (t : Option (Option T)) (j : Int) : Option D := match t with
  | some (some (.node ts)) => match L2.atI ts j with
    | some (.leaf d) => some d
    | _ => none
  | _ => none
def mIxPk (i : Nat) (mb : M T) : M T := fun ρ => match ρ[i]? with
  | some (some _) => (mb ρ).bind fun t ρ1 => match t.toD with
    | .int j => match nodeIx ρ1[i]? j with
      | some d => .ok (.leaf d) ρ1
      | none => .stuck
    | _ => .stuck
  | _ => .stuck
theorem repTs_get {G : Gx} {H Hm : Hp} : ∀ {ts : List T} {xs : List V} {F : List Addr} {i : Nat} {d : D}, RepTs G H Hm ts xs F → ts[i]? = some (.leaf d) → ∃ x, xs[i]? = some x ∧ Rep G Hm d x
  | [], xs, F, i, d, h, e => by simp at e
  | t :: ts, xs, F, 0, d, ⟨x, r, F1, F2, e, eF, h1, h2⟩, q => by
    simp at q; subst q; subst e; exact ⟨x, rfl, h1.2⟩
  | t :: ts, xs, F, i + 1, d, ⟨x, r, F1, F2, e, eF, h1, h2⟩, q => by
    subst e; obtain ⟨y, e1, e2⟩ := repTs_get (i := i) h2 (by simpa using q); exact ⟨y, by simpa using e1, e2⟩
theorem Sta.val {G : Gx} {R : Fr} {σ : L2.St} {ρ : Env} {H : Hp} {tm : List Item} {i : Nat} {t : T} (S : Sta G R σ ρ H tm) (e : ρ[i]? = some (some t)) : ∃ v, σ[i]? = some (some v) ∧ Rep G H t.toD v := by
  obtain ⟨v, e1, S1⟩ := S.take e
  exact ⟨v, e1, S1.front.repT⟩
/-- an item of a slot's own list -/
theorem Sta.nodeAt {G : Gx} {R : Fr} {σ : L2.St} {ρ : Env} {H : Hp} {tm : List Item} {i : Nat} {ts : List T} {j : Int} {d : D} (S : Sta G R σ ρ H tm) (e : ρ[i]? = some (some (.node ts))) (hj : L2.atI ts j = some (.leaf d)) :
    ∃ a xs x, σ[i]? = some (some (.ref a)) ∧ H a = some (.lst xs) ∧ L2.atI xs j = some x ∧ Sta G R σ ρ H ((x, .leaf d) :: tm) := by
  obtain ⟨v, e1, S1⟩ := S.take e
  obtain ⟨F, o⟩ := S1.front
  obtain ⟨F1, F2, eF, ⟨a, xs, F', ea, hx, e2, h1⟩, h2⟩ := o.rep
  subst ea
  have hlen := h1.length
  unfold L2.atI at hj
  cases e3 : ixN ts.length j with
  | none => rw [e3] at hj; cases hj
  | some k =>
    rw [e3] at hj
    obtain ⟨x, ex, rx⟩ := repTs_get h1 hj
    refine ⟨a, xs, x, e1, hx, by unfold L2.atI; rw [hlen, e3]; exact ex, ?_⟩
    obtain ⟨F3, o3⟩ := S.own
    refine S.with fun _ => ?_
    -- noted with the same footprint
    have S2 : Sta G R σ (ρ.set i none) H ((.ref a, .node ts) :: (x, .leaf d) :: tm) := by
      have o4 : Own G R H ((x, .leaf d) :: (.ref a, .node ts) :: (items σ (ρ.set i none) ++ tm)) := ⟨F, o.add rx⟩
      exact Sta.back S1.fits S1.lent (o4.perm ((List.Perm.swap _ _ _).trans (List.Perm.cons _ (perm_mid _ _ _).symm)))
    have S3 := S2.put S.fits e1
    have e5 : ρ.set i (some (.node ts)) = ρ := List.ext_getElem? fun j => by
      by_cases hj : i = j
      · subst hj
        obtain ⟨hlt, _⟩ := List.getElem?_eq_some_iff.mp e
        rw [List.getElem?_set_self hlt, e]
      · rw [List.getElem?_set_ne hj]
    rw [e5] at S3
    exact S3.front
theorem ped_ixPk {i : Nat} {x : Str} {b : Expr} {mb : M T} {pos p2 : Pos} (hv : PE X (.Name x p2) (tVar i)) (hb : PEd X L b mb) (hs : PlainIx b) : PEd X L (.Subscript (.Name x p2) b pos) (mIxPk i mb) :=
  ⟨fun W tk => PE.imp (pe_ix ix_list hv (hb.run W tk) hs) fun σ H Q ⟨R, ρ, tm, hL, S, q⟩ => by
    unfold mIxPk at q
    split at q
    · rename_i t e
      obtain ⟨v, e1, _⟩ := S.val e
      refine ⟨v, e1, R, ρ, tm, hL, S, (End.bind q).mono fun tb ρ1 eb q y H2 S2 => ?_⟩
      clear eb
      split at q
      · rename_i j ej
        cases en : nodeIx ρ1[i]? j with
        | none => rw [en] at q; exact q.elim
        | some d =>
          rw [en] at q
          have ey := (toInt S2 ej).front.rep
          unfold nodeIx at en
          split at en
          · rename_i ts e3
            split at en
            · rename_i d' ed
              cases en
              obtain ⟨a, xs, w, e4, hx, ew, S3⟩ := S2.pop.nodeAt e3 ed
              rw [e1] at e4
              cases e4
              exact ⟨a, xs, j, w, rfl, ey, SqL.of hx, ew, q w H2 S3⟩
            · cases en
          · cases en
      · exact q.elim
    · exact q.elim⟩
/-! ### slices -/
def mPart : Option (M T) → M (Option Int)
  | none, ρ => .ok none ρ
  | some m, ρ => (m ρ).bind fun t ρ1 => match t.toD with
    | .int i => .ok (some i) ρ1
    | _ => .stuck
def cutD (xs : List D) (lo hi : Option Int) : List D := (xs.drop (HT.sIx xs.length 0 lo)).take (HT.sIx xs.length xs.length hi - HT.sIx xs.length 0 lo)
def fSl : D → Option Int → Option Int → Option T
  | .lst ds, lo, hi => some (.node ((cutD ds lo hi).map T.leaf))
  | .tup ds, lo, hi => some (.leaf (.tup (cutD ds lo hi)))
  | .str z, lo, hi => if z.length ≤ big then some (.leaf (.str (cutS z lo hi))) else none
  | _, _, _ => none
def mSlice (ma : M T) (lo hi : Option (M T)) : M T := fun ρ => (ma ρ).bind fun t ρ1 => (mPart lo ρ1).bind fun l ρ2 => (mPart hi ρ2).bind fun h ρ3 => match fSl t.toD l h with
  | some u => .ok u ρ3
  | none => .stuck
structure POd (X : Cx) (L : List Nat) (e : Option Expr) (m : Option (M T)) (t : WX → TO) : Prop where
  po : ∀ W, L2N.Takes X W → PO X e (t W)
  run : ∀ W (R : Fr) (σ : L2.St) (ρ : Env) (H : Hp) (tm : List Item) (Q : Option Int → Hp → Prop), R.lent.map (·.1) = L → Sta (gx X) R σ ρ H tm → End (gx X) R σ tm W (fun o ρ1 => ∀ H1, Sta (gx X) R σ ρ1 H1 tm → Q o H1) (mPart m ρ) → t W σ H Q
theorem pod_none : POd X L none none (fun _ => tNoPart) := ⟨fun _ _ => po_none, fun W R σ ρ H tm Q hL S q => q H S⟩
theorem pod_some {e : Expr} {m : M T} (h : PEd X L e m) : POd X L (some e) (some m) (fun W => tPart (TEm (gx X) L W m)) := ⟨fun W tk => po_some (h.run W tk), fun W R σ ρ H tm Q hL S q =>
  ⟨R, ρ, tm, hL, S, (End.bind q).mono fun t ρ1 et q v H1 S1 => by
    clear et
    split at q
    · rename_i i e
      exact ⟨i, (toInt S1 e).front.rep, q H1 S1.pop⟩
    · exact q.elim⟩⟩
theorem reps_cut {G : Gx} {H : Hp} {ds : List D} {xs : List V} (h : Reps G H ds xs) (lo hi : Option Int) : Reps G H (cutD ds lo hi) (cutV xs lo hi) := by
  unfold cutD cutV
  rw [h.length]
  exact (h.drop _).take _
theorem sl_fSl {x : V} {d : D} {lo hi : Option Int} {u : T} {R : Fr} {H : Hp} {its : List Item} {Q : VK} (o : Own (gx X) R H ((x, .leaf d) :: its)) (e : fSl d lo hi = some u) (q : ∀ v H', Own (gx X) R H' ((v, u) :: its) → Q v H') :
    rSlL X.K x lo hi H Q ∨ rSlA X.K x lo hi H Q ∨ rSlS x lo hi H Q := by
  obtain ⟨F, o⟩ := o
  cases d with
  | lst ds =>
    cases e
    obtain ⟨a, xs, ex, h1, h2⟩ := o.head
    exact .inl ⟨a, xs, ex, SqL.of (mask_same _ _ _ _ h1), fun p hp => q _ _ (OwnF.newLst o.tail hp (reps_cut h2 lo hi))⟩
  | tup ds =>
    cases e
    have hd := o.head
    obtain ⟨a, xs, ex, h1, h2⟩ := o.head
    refine .inr (.inl ⟨a, xs, ex, SqT.same (mask_same _ _) h1, fun hw => ?_, fun _ p hp => q _ _ ⟨F, OwnF.newTup o.tail hp (reps_cut h2 lo hi)⟩⟩)
    have ec : cutD ds lo hi = ds := by
      unfold cutD
      rw [← h2.length, hw.1, hw.2, List.drop_zero, Nat.sub_zero, h2.length, List.take_length]
    rw [ec] at q
    subst ex
    exact q _ _ ⟨F, o.tail.add hd⟩
  | str z =>
    simp only [fSl] at e
    by_cases hz : z.length ≤ big
    · rw [if_pos hz] at e
      cases e
      exact .inr (.inr ⟨z, o.head, Nat.le_trans hz big_line, q _ _ ⟨F, o.tail.add rfl⟩⟩)
    · rw [if_neg hz] at e; cases e
  | _ => cases e
theorem ped_slice {a : Expr} {lo hi : Option Expr} {ma : M T} {ml mh : Option (M T)} {tl th : WX → TO} {p2 pos : Pos} (ha : PEd X L a ma) (hl : POd X L lo ml tl) (hh : POd X L hi mh th) : PEd X L (.Subscript a (.Slice lo hi none p2) pos) (mSlice ma ml mh) :=
  ⟨fun W tk => PE.imp (pe_slice (SlR.or sl_list (SlR.or sl_tupA sl_str)) (ha.run W tk) (hl.po W tk) (hh.po W tk)) fun σ H Q ⟨R, ρ, tm, hL, S, q⟩ => by
    refine ⟨R, ρ, tm, hL, S, (End.bind q).mono fun t ρ1 _ q x H1 S1 => ?_⟩
    refine hl.run W R σ ρ1 H1 ((x, t) :: tm) _ hL S1 (((End.bind q).push (x, t)).mono fun l ρ2 _ q H2 S2 => ?_)
    refine hh.run W R σ ρ2 H2 ((x, t) :: tm) _ hL S2 (((End.bind q).push (x, t)).mono fun h ρ3 _ q H3 S3 => ?_)
    cases e : fSl t.toD l h with
    | none => rw [e] at q; exact q.elim
    | some u => rw [e] at q; exact sl_fSl S3.front.freeze e fun v H' o => q v H' (Sta.back S3.fits S3.lent o)⟩

/-! ### built-ins by their name: scalar answers, answers of data -/
def rSn (G : Gx) (f : List D → Option D) : List V → Hp → VK → Prop := fun xs H Q => ∃ ds d v, Reps G H ds xs ∧ f ds = some d ∧ d.toV? = some v ∧ Q v H
def rDn (G : Gx) (f : List D → Option T) : List V → Hp → VK → Prop := fun xs H Q => ∃ R its ds t, xs.length = ds.length ∧ Own G R H (xs.zip (ds.map T.leaf) ++ its) ∧ f ds = some t ∧ ∀ v H', Own G R H' ((v, t) :: its) → Q v H'
def mSn (f : List D → Option D) (ms : List (M T)) : M T := fun ρ => (mArgs ms ρ).bind fun ts ρ1 => match f (ts.map T.toD) with
  | some d => .ok (.leaf d) ρ1
  | none => .stuck
def mDn (f : List D → Option T) (ms : List (M T)) : M T := fun ρ => (mArgs ms ρ).bind fun ts ρ1 => match f (ts.map T.toD) with
  | some t => .ok t ρ1
  | none => .stuck
theorem own_reps {G : Gx} {R : Fr} {H : Hp} {its : List Item} {xs : List V} {ts : List T} (hl : xs.length = ts.length) (o : Own G R H (xs.zip ts ++ its)) : Own G R H (xs.zip ((ts.map T.toD).map T.leaf) ++ its) ∧ Reps G H (ts.map T.toD) xs := by
  have o1 := Own.freezeAll hl o
  have e : ts.map (fun t => T.leaf t.toD) = (ts.map T.toD).map T.leaf := by rw [List.map_map]; rfl
  rw [e] at o1
  refine ⟨o1, ?_⟩
  obtain ⟨F, o2⟩ := o1
  exact reps_mono (mask_same _ _) _ (OwnF.reps (by rw [List.length_map]; exact hl) o2)
theorem tcb_S {f : List D → Option D} {ms : List (M T)} {W : WX} {σ : L2.St} {H : Hp} {Q : VK} (hf : ∀ ds d, f ds = some d → ∃ v, d.toV? = some v) (h : TEm (gx X) L W (mSn f ms) σ H Q) : tCB (rSn (gx X) f) (TAm (gx X) L W (mArgs ms)) σ H Q := by
  obtain ⟨R, ρ, tm, hL, S, q⟩ := h
  refine ⟨R, ρ, tm, hL, S, (End.bind q).mono fun ts ρ1 _ q vs H1 hl S1 => ?_⟩
  cases e : f (ts.map T.toD) with
  | none => rw [e] at q; exact q.elim
  | some d =>
    rw [e] at q
    obtain ⟨v, hv⟩ := hf _ _ e
    exact ⟨_, d, v, (own_reps hl S1.frontL).2, e, hv, q v H1 (S1.dropL.with fun o => o.scal fun _ => rep_scal hv)⟩
theorem tcb_D {f : List D → Option T} {ms : List (M T)} {W : WX} {σ : L2.St} {H : Hp} {Q : VK} (h : TEm (gx X) L W (mDn f ms) σ H Q) : tCB (rDn (gx X) f) (TAm (gx X) L W (mArgs ms)) σ H Q := by
  obtain ⟨R, ρ, tm, hL, S, q⟩ := h
  refine ⟨R, ρ, tm, hL, S, (End.bind q).mono fun ts ρ1 _ q vs H1 hl S1 => ?_⟩
  cases e : f (ts.map T.toD) with
  | none => rw [e] at q; exact q.elim
  | some t =>
    rw [e] at q
    exact ⟨R, _, _, t, by rw [List.length_map]; exact hl, (own_reps hl S1.frontL).1, e, fun v H' o => q v H' (Sta.back S1.fits S1.lent o)⟩
section
variable {e : Expr} {es : List Expr} {ms : List (M T)} {x : Str} {p pos : Pos} {id Ty : String}
theorem ped_bS {f : List D → Option D} (hf : ∀ ds d, f ds = some d → ∃ v, d.toV? = some v) (hc : CallR X (.builtin id) (rSn (gx X) f)) (hg : Gl X x) (hm : X.mg x = none) (hv : bootBuiltins x = some (.builtin id)) (ha : PAd X L (e :: es) ms) (hn : x ≠ "__name__" := by decide) (hdb : (x == ("__debug__" : Str)) = false := by decide)
    (he : starEach (e :: es) X.env = (false, eval e X.env) :: starEach es X.env := by rfl) (hpl : (backTo pos (starEach es X.env)).any (·.1) = false := by rfl) : PEd X L (.Call (.Name x p) (e :: es) [] pos) (mSn f ms) :=
  ⟨fun W tk => PE.imp (pe_callB hc hg hm hv (ha.run W tk) hn hdb he hpl) fun σ H Q h => tcb_S hf h⟩
theorem ped_bD {f : List D → Option T} (hc : CallR X (.builtin id) (rDn (gx X) f)) (hg : Gl X x) (hm : X.mg x = none) (hv : bootBuiltins x = some (.builtin id)) (ha : PAd X L (e :: es) ms) (hn : x ≠ "__name__" := by decide) (hdb : (x == ("__debug__" : Str)) = false := by decide)
    (he : starEach (e :: es) X.env = (false, eval e X.env) :: starEach es X.env := by rfl) (hpl : (backTo pos (starEach es X.env)).any (·.1) = false := by rfl) : PEd X L (.Call (.Name x p) (e :: es) [] pos) (mDn f ms) :=
  ⟨fun W tk => PE.imp (pe_callB hc hg hm hv (ha.run W tk) hn hdb he hpl) fun σ H Q h => tcb_D h⟩
theorem ped_tS {f : List D → Option D} (hf : ∀ ds d, f ds = some d → ∃ v, d.toV? = some v) (hc : CallR X (.type Ty) (rSn (gx X) f)) (hg : Gl X x) (hm : X.mg x = none) (hv : bootBuiltins x = some (.type Ty)) (ha : PAd X L (e :: es) ms) (hn : x ≠ "__name__" := by decide) (hdb : (x == ("__debug__" : Str)) = false := by decide)
    (he : starEach (e :: es) X.env = (false, eval e X.env) :: starEach es X.env := by rfl) (hpl : (backTo pos (starEach es X.env)).any (·.1) = false := by rfl) : PEd X L (.Call (.Name x p) (e :: es) [] pos) (mSn f ms) :=
  ⟨fun W tk => PE.imp (pe_callTy hc hg hm hv (ha.run W tk) hn hdb he hpl) fun σ H Q h => tcb_S hf h⟩
theorem ped_tD {f : List D → Option T} (hc : CallR X (.type Ty) (rDn (gx X) f)) (hg : Gl X x) (hm : X.mg x = none) (hv : bootBuiltins x = some (.type Ty)) (ha : PAd X L (e :: es) ms) (hn : x ≠ "__name__" := by decide) (hdb : (x == ("__debug__" : Str)) = false := by decide)
    (he : starEach (e :: es) X.env = (false, eval e X.env) :: starEach es X.env := by rfl) (hpl : (backTo pos (starEach es X.env)).any (·.1) = false := by rfl) : PEd X L (.Call (.Name x p) (e :: es) [] pos) (mDn f ms) :=
  ⟨fun W tk => PE.imp (pe_callTy hc hg hm hv (ha.run W tk) hn hdb he hpl) fun σ H Q h => tcb_D h⟩
end
/-- len -/
def lenD : D → Option Nat
  | .str z => if z.length ≤ big then some z.length else none
  | .tup ds => some ds.length
  | .lst ds => some ds.length
  | .fz ds => some ds.length
  | _ => none
def fLen : List D → Option D
  | [d] => (lenD d).map fun n => .int (n : Nat)
  | _ => none
theorem sc_fLen : ∀ ds d, fLen ds = some d → ∃ v, d.toV? = some v := fun ds d e => by
  unfold fLen at e
  split at e
  · rename_i d'
    cases e2 : lenD d' with
    | none => rw [e2] at e; cases e
    | some n => rw [e2] at e; cases e; exact ⟨_, rfl⟩
  · cases e
theorem lenV_of {G : Gx} {H : Hp} {d : D} {x : V} {n : Nat} (e : lenD d = some n) (r : Rep G H d x) : LenV G.K x H n := by
  cases d with
  | str z =>
    simp only [lenD] at e
    by_cases hz : z.length ≤ big
    · rw [if_pos hz] at e
      cases e
      rw [show x = .str z from r]
      exact ⟨Nat.le_trans hz big_line, rfl⟩
    · rw [if_neg hz] at e; cases e
  | tup ds => cases e; obtain ⟨a, xs, ex, h1, h2⟩ := r; subst ex; exact .inr ⟨xs, h1, h2.length.symm⟩
  | lst ds => cases e; obtain ⟨a, xs, ex, h1, h2⟩ := r; subst ex; exact .inl ⟨xs, SqL.of h1, h2.length.symm⟩
  | fz ds => cases e; obtain ⟨a, xs, ex, h1, h2⟩ := r; subst ex; exact .inl ⟨xs, h1, h2.length.symm⟩
  | _ => cases e
theorem reps_one {G : Gx} {H : Hp} {d : D} {xs : List V} (r : Reps G H [d] xs) : ∃ x, xs = [x] ∧ Rep G H d x := by
  obtain ⟨x, r', e, h1, h2⟩ := r
  rw [show r' = [] from h2] at e
  exact ⟨x, e, h1⟩
theorem reps_two {G : Gx} {H : Hp} {d e : D} {xs : List V} (r : Reps G H [d, e] xs) : ∃ x y, xs = [x, y] ∧ Rep G H d x ∧ Rep G H e y := by
  obtain ⟨x, r', e, h1, h2⟩ := r
  obtain ⟨y, e2, h3⟩ := reps_one h2
  exact ⟨x, y, by rw [e, e2], h1, h3⟩
theorem c_fLen : CallR X (.builtin "len") (rSn (gx X) fLen) := by
  intro pins s σ H xs us Q I r ⟨ds, d, v, rs, ef, ev, q⟩
  unfold fLen at ef
  split at ef
  · rename_i d'
    cases e2 : lenD d' with
    | none => rw [e2] at ef; cases ef
    | some n =>
      rw [e2] at ef; cases ef; cases ev
      obtain ⟨x, rfl, rx⟩ := reps_one rs
      exact call_len pins s σ H [x] us Q I r ⟨x, n, rfl, lenV_of e2 rx, q⟩
  · cases ef
/-- len(x), x's list owned -/
def mLenPk (i : Nat) : M T := fun ρ => match ρ[i]? with
  | some (some t) => match lenD t.toD with
    | some n => .ok (.leaf (.int (n : Nat))) ρ
    | none => .stuck
  | _ => .stuck
theorem ped_lenPk {i : Nat} {x y : Str} {p pos p2 : Pos} (hv : PE X (.Name x p2) (tVar i)) (hg : Gl X y) (hm : X.mg y = none) (hb : bootBuiltins y = some (.builtin "len")) (hn : y ≠ "__name__" := by decide) (hdb : (y == ("__debug__" : Str)) = false := by decide)
    (he : starEach [.Name x p2] X.env = (false, eval (.Name x p2) X.env) :: starEach [] X.env := by rfl) (hpl : (backTo pos (starEach [] X.env)).any (·.1) = false := by rfl) : PEd X L (.Call (.Name y p) [.Name x p2] [] pos) (mLenPk i) :=
  ⟨fun W tk => PE.imp (pe_callB call_len hg hm hb (pa_cons hv pa_nil he) hn hdb he hpl) fun σ H Q ⟨R, ρ, tm, hL, S, q⟩ => by
    unfold mLenPk at q
    split at q
    · rename_i t e
      obtain ⟨v, e1, r⟩ := S.val e
      cases e2 : lenD t.toD with
      | none => rw [e2] at q; exact q.elim
      | some n => rw [e2] at q; exact ⟨v, e1, v, n, rfl, lenV_of e2 r, q _ H (S.with fun o => o.scal fun _ => rfl)⟩
    · exact q.elim⟩
def fMin : List D → Option D
  | [.int i, .int j] => some (.int (if j < i then j else i))
  | _ => none
def fMax : List D → Option D
  | [.int i, .int j] => some (.int (if j > i then j else i))
  | _ => none
def fInt : List D → Option D
  | [.int i] => some (.int i)
  | [.bl b] => some (.int (if b then 1 else 0))
  | _ => none
theorem sc_fMin : ∀ ds d, fMin ds = some d → ∃ v, d.toV? = some v := fun ds d e => by
  unfold fMin at e
  split at e
  · cases e; exact ⟨_, rfl⟩
  · cases e
theorem sc_fMax : ∀ ds d, fMax ds = some d → ∃ v, d.toV? = some v := fun ds d e => by
  unfold fMax at e
  split at e
  · cases e; exact ⟨_, rfl⟩
  · cases e
theorem sc_fInt : ∀ ds d, fInt ds = some d → ∃ v, d.toV? = some v := fun ds d e => by
  unfold fInt at e
  split at e
  · cases e; exact ⟨_, rfl⟩
  · cases e; exact ⟨_, rfl⟩
  · cases e
theorem c_fMin (hc : X.calm = true) : CallR X (.builtin "min") (rSn (gx X) fMin) := by
  intro pins s σ H xs us Q I r ⟨ds, d, v, rs, ef, ev, q⟩
  unfold fMin at ef
  split at ef
  · rename_i i j
    cases ef; cases ev
    obtain ⟨x, y, rfl, rx, ry⟩ := reps_two rs
    rw [show x = .int i from rx, show y = .int j from ry] at r
    exact call_min2 hc pins s σ H _ us Q I r ⟨i, j, rfl, q⟩
  · cases ef
theorem c_fMax (hc : X.calm = true) : CallR X (.builtin "max") (rSn (gx X) fMax) := by
  intro pins s σ H xs us Q I r ⟨ds, d, v, rs, ef, ev, q⟩
  unfold fMax at ef
  split at ef
  · rename_i i j
    cases ef; cases ev
    obtain ⟨x, y, rfl, rx, ry⟩ := reps_two rs
    rw [show x = .int i from rx, show y = .int j from ry] at r
    exact call_max2 hc pins s σ H _ us Q I r ⟨i, j, rfl, q⟩
  · cases ef
theorem c_fInt : CallR X (.type "int") (rSn (gx X) fInt) := by
  intro pins s σ H xs us Q I r ⟨ds, d, v, rs, ef, ev, q⟩
  unfold fInt at ef
  split at ef
  · rename_i i
    cases ef; cases ev
    obtain ⟨x, rfl, rx⟩ := reps_one rs
    rw [show x = .int i from rx] at r
    exact call_int1 pins s σ H _ us Q I r (.inl ⟨i, rfl, q⟩)
  · rename_i b
    cases ef; cases ev
    obtain ⟨x, rfl, rx⟩ := reps_one rs
    rw [show x = .bl b from rx] at r
    exact call_int1 pins s σ H _ us Q I r (.inr ⟨b, rfl, q⟩)
  · cases ef
/-- tuple(x), list(x) -/
def fTuple : List D → Option T
  | [.lst ds] => some (.leaf (.tup ds))
  | [.tup ds] => some (.leaf (.tup ds))
  | _ => none
def fList : List D → Option T
  | [.lst ds] => some (.node (ds.map T.leaf))
  | [.fz ds] => some (.node (ds.map T.leaf))
  | [.tup ds] => some (.node (ds.map T.leaf))
  | _ => none
theorem own_one {G : Gx} {R : Fr} {H : Hp} {its : List Item} {xs : List V} {d : D} (hl : xs.length = [d].length) (o : Own G R H (xs.zip ([d].map T.leaf) ++ its)) : ∃ x F, xs = [x] ∧ OwnF G R H ((x, .leaf d) :: its) F := by
  cases xs with
  | nil => simp at hl
  | cons x r => cases r with
    | nil => obtain ⟨F, o⟩ := o; exact ⟨x, F, rfl, o⟩
    | cons _ _ => simp at hl
theorem c_fTuple : CallR X (.type "tuple") (rDn (gx X) fTuple) := by
  intro pins s σ H xs us Q I r ⟨R, its, ds, t, hl, o, ef, q⟩
  unfold fTuple at ef
  split at ef
  · cases ef
    obtain ⟨x, F, ex0, o2⟩ := own_one hl o
    subst ex0
    clear o
    obtain ⟨a, ys, ex, h1, h2⟩ := o2.head
    subst ex
    exact call_tuple_of pins s σ H _ us Q I r ⟨a, ys, rfl, .inl ⟨SqL.of (mask_same _ _ _ _ h1), fun l hl => q _ _ ⟨F, OwnF.newTup o2.tail hl h2⟩⟩⟩
  · cases ef
    obtain ⟨x, F, ex0, o2⟩ := own_one hl o
    subst ex0
    clear o
    have hd := o2.head
    obtain ⟨a, ys, ex, h1, h2⟩ := o2.head
    subst ex
    exact call_tuple_of pins s σ H _ us Q I r ⟨a, ys, rfl, .inr ⟨SqT.same (mask_same _ _) h1, q _ _ ⟨F, o2.tail.add hd⟩⟩⟩
  · cases ef
theorem c_fList : CallR X (.type "list") (rDn (gx X) fList) := by
  intro pins s σ H xs us Q I r ⟨R, its, ds, t, hl, o, ef, q⟩
  unfold fList at ef
  split at ef
  · cases ef
    obtain ⟨x, F, ex0, o2⟩ := own_one hl o
    subst ex0
    clear o
    obtain ⟨a, ys, ex, h1, h2⟩ := o2.head
    subst ex
    exact call_list_of pins s σ H _ us Q I r ⟨a, ys, rfl, .inl (SqL.of (mask_same _ _ _ _ h1)), fun l hl => q _ _ (OwnF.newLst o2.tail hl h2)⟩
  · cases ef
    obtain ⟨x, F, ex0, o2⟩ := own_one hl o
    subst ex0
    clear o
    obtain ⟨a, ys, ex, h1, h2⟩ := o2.head
    subst ex
    exact call_list_of pins s σ H _ us Q I r ⟨a, ys, rfl, .inl ((mask_same _ _).seq h1), fun l hl => q _ _ (OwnF.newLst o2.tail hl h2)⟩
  · cases ef
    obtain ⟨x, F, ex0, o2⟩ := own_one hl o
    subst ex0
    clear o
    obtain ⟨a, ys, ex, h1, h2⟩ := o2.head
    subst ex
    exact call_list_of pins s σ H _ us Q I r ⟨a, ys, rfl, .inr (SqT.same (mask_same _ _) h1), fun l hl => q _ _ (OwnF.newLst o2.tail hl h2)⟩
  · cases ef
/-- sorted(x) of ints -/
def intsOf : List D → Option (List Int)
  | [] => some []
  | .int i :: ds => (intsOf ds).map (i :: ·)
  | _ => none
def insI (x : Int) : List Int → List Int
  | [] => [x]
  | y :: ys => if x ≤ y then x :: y :: ys else y :: insI x ys
def sortI : List Int → List Int
  | [] => []
  | x :: xs => insI x (sortI xs)
theorem insI_perm (x : Int) : ∀ ys, (insI x ys).Perm (x :: ys)
  | [] => .refl _
  | y :: ys => by
    unfold insI
    split
    · exact .refl _
    · exact ((insI_perm x ys).cons y).trans (.swap _ _ _)
theorem sortI_perm : ∀ xs, (sortI xs).Perm xs
  | [] => .refl _
  | x :: xs => (insI_perm x _).trans ((sortI_perm xs).cons x)
theorem insI_sorted (x : Int) : ∀ {ys : List Int}, ys.Pairwise (· ≤ ·) → (insI x ys).Pairwise (· ≤ ·)
  | [], _ => by simp [insI]
  | y :: ys, h => by
    have h' := List.pairwise_cons.mp h
    unfold insI
    split
    · rename_i hxy
      exact List.pairwise_cons.mpr ⟨fun z hz => by
        rcases List.mem_cons.mp hz with e | e
        · omega
        · have := h'.1 z e; omega, h⟩
    · rename_i hxy
      refine List.pairwise_cons.mpr ⟨fun z hz => ?_, insI_sorted x h'.2⟩
      rcases List.mem_cons.mp ((insI_perm x ys).mem_iff.mp hz) with e | e
      · omega
      · exact h'.1 z e
theorem sortI_sorted : ∀ xs : List Int, (sortI xs).Pairwise (· ≤ ·)
  | [] => .nil
  | x :: xs => insI_sorted x (sortI_sorted xs)
theorem sortI_one {a b : List Int} (h : a.Perm b) (ha : a.Pairwise (· ≤ ·)) : a = sortI b := by
  rw [PySem.W.os_sorted_mergeSort h ha, PySem.W.os_sorted_mergeSort (sortI_perm b) (sortI_sorted b)]
theorem intsOf_eq : ∀ {ds : List D} {ns : List Int}, intsOf ds = some ns → ds = ns.map D.int
  | [], ns, e => by cases e; rfl
  | d :: ds, ns, e => by
    cases d <;> simp only [intsOf, reduceCtorEq] at e
    cases e2 : intsOf ds with
    | none => rw [e2] at e; cases e
    | some ms => rw [e2] at e; cases e; rw [List.map_cons, intsOf_eq e2]
def fSortedI : List D → Option T
  | [.lst ds] => (intsOf ds).map fun ns => .node ((sortI ns).map fun i => .leaf (.int i))
  | _ => none
theorem c_fSortedI : CallR X (.builtin "sorted") (rDn (gx X) fSortedI) := by
  intro pins s σ H xs us Q I r ⟨R, its, ds, t, hl, o, ef, q⟩
  unfold fSortedI at ef
  split at ef
  · rename_i es
    cases e2 : intsOf es with
    | none => rw [e2] at ef; cases ef
    | some ns =>
      rw [e2] at ef; cases ef
      have ee := intsOf_eq e2
      subst ee
      obtain ⟨x, F, ex0, o2⟩ := own_one hl o
      subst ex0
      clear o
      obtain ⟨a, ys, ex, h1, h2⟩ := o2.head
      subst ex
      rw [Reps.ints] at h2
      subst h2
      refine cr_sortedI pins s σ H _ us Q I r ⟨a, ns, rfl, SqL.of (mask_same _ _ _ _ h1), fun ns' p pm hs hp => ?_⟩
      rw [sortI_one pm hs]
      have e3 : (sortI ns).map (fun i => T.leaf (.int i)) = ((sortI ns).map D.int).map T.leaf := by rw [List.map_map]; rfl
      have q2 := OwnF.newLst o2.tail hp (Reps.ints (ns := sortI ns).mpr rfl)
      rw [← e3] at q2
      exact q _ _ q2
  · cases ef
end
end Q

set_option maxHeartbeats 2000000
/-! raise, try, an except suite. -/
namespace Q
open PySem PySem.Spec PyProof.Rows L2

/-! ### raise -/
/-- the exception's dict, the exception itself let go -/
theorem mkN_end {X : Cx} {pins : List (Addr × Obj)} {σ : L2.St} {H1 H2 : Hp} {Q : XK} {hp hp2 h2 : Heap} {g1 g2 : Array GenState} {d1 d2 : Drawn} {t1 t2 : Nat} {os1 os2 : OsState} {a C d : Addr} {fs : List (Str × V)} (T : Raises X (.ref C)) (I1 : Inv X pins σ H1 ⟨hp, g1, d1, t1, os1⟩)
    (ha : hp.objs.size ≤ a) (k : ∀ b o, hp.get? b = some o → hp2.get? b = some o) (un : Un (frs X.stack) [] (upd H1 a (exo a C none)) H2 hp2 h2) (hok : HOk X.prog X.w H2 h2) (ho : os2 = os1) (hb : AllBare g2)
    (ea : H2 a = some (exo a C (some d))) (ed : H2 d = some (exd d fs)) (hd1 : H1 d = none) (q : Q (.ref C) (some d) (upd (del H2 a) d (.xd fs))) : L2N.MkP X pins σ Q (.ref a) ⟨h2, g2, d2, t2, os2⟩ := by
  obtain ⟨t0, G, J, kG, ge, hoe, na⟩ := mk_end0 (d2 := d2) (t2 := t2) I1 ha k un hok ho hb ea ed hd1
  refine ⟨a, _, _, ⟨G, g2, d2, t2, os2⟩, _, .ref C, some d, rfl, J, kG, ge, hoe, ⟨rfl, rfl, ?_⟩, rfl, rfl, na, rfl, hb, T, q⟩
  intro vs e
  cases e
  rfl
theorem pmk_exc {X : Cx} {CX : CXT} {x : Str} {C fI : Addr} {k : Nat} {fd : FuncData} {ps : List Str} {sp : Sp} {e : Expr} {es : List Expr} {ta : TA} {p pos : Pos} (T : OexC X.K C) (iC : PySem.W.findIn X.K (.ref C) "__init__" = some (some (.ref fI))) (tI : PySem.W.typeIn X.K (.ref fI) = some (.type "function"))
    (F1 : FnOk X.prog X.w X.K X.mg X.base CX k fI fd ps sp) (hr : Room (k + 1) X.A) (hb : Binds X.K fd ps []) (hx : Passes CX X (fun _ _ _ => False)) (hg : Gl X x) (hm : X.mg x = some (.ref C)) (ha : PA X (e :: es) ta)
    (hdb : (x == ("__debug__" : Str)) = false := by decide) (he : starEach (e :: es) X.env = (false, eval e X.env) :: starEach es X.env := by rfl) (hpl : (backTo pos (starEach es X.env)).any (·.1) = false := by rfl) :
    L2N.PMk X (.Call (.Name x p) (e :: es) [] pos) (tMkO C sp [] ta) := by
  intro pins s σ H Q I h
  obtain ⟨nm, q, N, bs, bm, sn, sub, ab, col, dd, k0, k1, k2, k3, k5, hC, hbm⟩ := T.cls
  refine wpAny_Call_Name_kw (ld_glob I hg hm ?_ hdb)
  refine PySem.W.callWith_K (h₀ := X.base) I.ok.mod.kin T.kC (thn (ha.run pos pins s σ H _ I h) fun us s1 ⟨vs, H1, I1, r1, hz, q1⟩ => ⟨I1.kIn, ?_⟩) he hpl
  show wpAny _ _ (call (.ref C) us) _ _ _
  obtain ⟨hp, g, dr, tk, os⟩ := s1
  have sz1 : hp.objs.size ≤ hp.objs.size + 1 := Nat.le_succ _
  have hq := q1 (hp.objs.size + 1) (I1.hok.fresh sz1)
  rw [List.append_nil] at hq
  have keep : ∀ b o, hp.get? b = some o → ((hp.push (PySem.W.kdv_tup us)).push (PySem.HandSPX.excO C hp.objs.size)).get? b = some o := fun b o e =>
    Heap.get?_push_of_some _ (Heap.get?_push_of_some _ e)
  have new : ((hp.push (PySem.W.kdv_tup us)).push (PySem.HandSPX.excO C hp.objs.size)).get? (hp.objs.size + 1) = some (PySem.HandSPX.excO C hp.objs.size) := by heap_get
  have I2 : Inv X pins σ (upd H1 (hp.objs.size + 1) (exo (hp.objs.size + 1) C none)) ⟨(hp.push (PySem.W.kdv_tup us)).push (PySem.HandSPX.excO C hp.objs.size), g, dr, tk, os⟩ :=
    I1.laid (a := hp.objs.size + 1) (t' := tk) (o := exo (hp.objs.size + 1) C none) (h' := (hp.push (PySem.W.kdv_tup us)).push (PySem.HandSPX.excO C hp.objs.size)) keep sz1 (exo_ok new)
  have r2 : Vals (V.ref (hp.objs.size + 1) :: vs) (Value.ref (hp.objs.size + 1) :: us) := .cons rfl r1
  have len1 : (Value.ref (hp.objs.size + 1) :: us).length = ps.length := by rw [← r2.length]; exact F1.len _ _ _ _ hq
  have b1 := hb ⟨(hp.push (PySem.W.kdv_tup us)).push (PySem.HandSPX.excO C hp.objs.size), g, dr, tk, os⟩ (Value.ref (hp.objs.size + 1) :: us) I2.kIn (by rw [List.append_nil]; exact len1)
  rw [List.append_nil] at b1
  have lus : us.length ≤ sizeLine := by
    rw [← Paired.length r1, sizeLine_eq]; omega
  refine wpAny_call (PySem.HandSPX.call_own F.excBase_ValueError (fun Y => PySem.HandSPX.refsVE_contains Y bm hbm) (I1.kIn _ _ hC) (PySem.W.looks_findIn I1.kIn iC) (fun self => PySem.W.bind_fn I1.kIn self tI) lus ?_)
  refine codeAny_mono (F1.run _ X.stack _ _ ⟨Value.ref (hp.objs.size + 1) :: us, []⟩ (Value.ref (hp.objs.size + 1) :: us) _ _ (fun _ _ _ => False) (hr.make C us []) (I2.env0.make C us []) b1 r2 hq) fun r s' hq' => ?_
  cases r with
  | error er => exact hx pins σ _ _ er s' I2 hq'
  | ok fl =>
    cases fl with
    | next => exact False.elim hq'
    | brk => exact False.elim hq'
    | cont => exact False.elim hq'
    | ret u =>
      obtain ⟨v, H2, os2, bare2, un2, hok2, rv, ev, d, fs, ea, ed, hd1, q2⟩ := hq'
      subst ev
      obtain ⟨h2, g2, d2, t2, os'⟩ := s'
      exact ⟨rv, mkN_end (raises_own T.exC T.tyC) I1 sz1 keep un2 hok2 os2 bare2 ea ed hd1 q2⟩

/-- what __init__(self, at) promises: self.at = at -/
def spInit (C : Addr) (at' : Str) : Sp := fun vs H Q _ => ∃ a v, vs = [.ref a, v] ∧ H a = some (exo a C none) ∧ ∀ dx, H dx = none → dx ≠ a → Q .non (upd (upd H dx (exd dx [(at', v)])) a (exo a C (some dx)))
/-- what the written part says of an own exception class c with the one field at' -/
structure ExcC (K : PySem.W.Frag) (mg : Str → Option Value) (P : Program) (w : World) (base : Heap) (c at' : Str) (C : Addr) : Prop where
  gC : mg c = some (.ref C)
  oex : OexC K C
  xf : XfC K C
  no : PySem.W.findIn K (.ref C) at' = some none
  ini : ∃ fI fd, PySem.W.findIn K (.ref C) "__init__" = some (some (.ref fI)) ∧ PySem.W.typeIn K (.ref fI) = some (.type "function") ∧ FnOk P w K mg base CX0 1 fI fd ["self", at'] (spInit C at') ∧ Binds K fd ["self", at'] []
theorem init_ok {P : Program} {w : World} {K : PySem.W.Frag} {mg : Str → Option Value} {base : Heap} {at' x qual : Str} {C f : Addr} {fd : FuncData} {st : Stmt} {p1 p2 p3 p4 : Pos} (F : Fun K x qual st f fd) (S : FnScope ["self", at'] ["self", at'] (defScope st)) (T : OexC K C) (no : PySem.W.findIn K (.ref C) at' = some none)
    (hb : defBody st = [.Assign [.Attribute (.Name "self" p1) at' p2] (.Name at' p3) p4]) (h1 : Vis (defScope st) "self") (h2 : Vis (defScope st) at') (hd : (at' == ("__debug__" : Str)) = false) (hd2 : (at' == ("__classdict__" : Str)) = false) : FnOk P w K mg base CX0 1 f fd ["self", at'] (spInit C at') := by
  refine F.ok S (fun vs H Q E ⟨a, v, e, _⟩ => by rw [e]; rfl) (fun cdv A outer s H vs Q E hr ⟨a, v, e, ha, q⟩ => ?_)
  subst e
  refine ⟨_, by rw [hb]; exact pss_one (ps_ost (pe_var (i := 0) rfl h1 (by decide) (by decide)) (pe_var (i := 1) rfl h2 hd hd2)), ?_⟩
  exact ⟨v, rfl, .ref a, rfl, a, C, rfl, T, no, .inl ⟨ha, fun dx h ne => q dx h ne⟩⟩
def mRaise (c at' : Str) (m : M T) : SM := fun ρ => (m ρ).toS fun t ρ1 => .exc c at' t.toD ρ1
theorem psd_raise {X : Cx} {L : List Nat} {c at' : Str} {C : Addr} {e : Expr} {m : M T} {p pos pos2 : Pos} {k : Nat} (hc : X.calm = true) (E : ExcC X.K X.mg X.prog X.w X.base c at' C) (hr : Room k X.A) (hk : 2 ≤ k) (he : PEd X L e m) (hg : Gl X c)
    (hdb : (c == ("__debug__" : Str)) = false := by decide) (hq : starEach [e] X.env = (false, eval e X.env) :: starEach [] X.env := by rfl) (hpl : (backTo pos (starEach [] X.env)).any (·.1) = false := by rfl) :
    PSd X L (.Raise (some (.Call (.Name c p) [e] [] pos)) none pos2) (mRaise c at' m) := by
  obtain ⟨fI, fd, i1, i2, i3, i4⟩ := E.ini
  refine ⟨fun W tk _ => PS.imp (L2N.ps_raise hc tk (pmk_exc (ta := tCons (TEm (gx X) L W m) tNil) E.oex i1 i2 i3 (hr.mono hk) i4 pass0 hg E.gC (pa_cons (he.run W tk) pa_nil hq) hdb hq hpl)) fun D σ H h => ?_⟩
  refine tem_toS h fun R ρ tm v t H1 hL S q => ?_
  refine ⟨by simp, fun a ha => ⟨a, v, rfl, upd_same, fun dx hdx hne => ⟨rfl, dx, [(at', v)], upd_same, by rw [upd_ne hne, upd_same], ?_, ?_⟩⟩⟩
  · rw [upd_ne hne] at hdx; exact hdx
  · have h1 : H1 dx = none := by rw [upd_ne hne] at hdx; exact hdx
    have e1 : upd (del (upd (upd (upd H1 a (exo a C none)) dx (exd dx [(at', v)])) a (exo a C (some dx))) a) dx (.xd [(at', v)]) = upd H1 dx (.xd [(at', v)]) := by
      funext b
      by_cases hb : b = dx
      · subst hb; rw [upd_same, upd_same]
      · rw [upd_ne hb, upd_ne hb]
        by_cases ha' : b = a
        · subst ha'; rw [del_same, ha]
        · rw [del_ne ha', upd_ne ha', upd_ne hb, upd_ne ha']
    rw [e1]
    refine q σ C dx v _ E.gC upd_same ?_
    have o := S.front.freeze
    obtain ⟨F, o⟩ := o
    exact Sta.back S.fits S.lent ⟨F, (o.grow (o := .xd [(at', v)]) h1).1⟩

/-! ### try: several clauses, with and without a name -/
abbrev TSu := Addr → Value → Option Addr → TS
abbrev Ends.wipe (D : Ends) (i : Nat) : Ends := { nx := fun σ' H' => D.nx (σ'.set i none) H', rt := D.rt, bk := fun σ' H' => D.bk (σ'.set i none) H', ct := fun σ' H' => D.ct (σ'.set i none) H' }
def wMix (K : PySem.W.Frag) (Wout : WX) (D : Ends) : List (Value × Option Nat × TSu) → WX
  | [] => Wout
  | (c, o, ts) :: r => fun cls d σ H => ∃ b, PySem.W.exmOne K cls c = some b ∧ (b = true → ∀ a, H a = none → (match o with
      | none => ts a cls d D σ H
      | some i => ts a cls d (Ends.wipe D i) (σ.set i (some (.ref a))) H)) ∧ (b = false → wMix K Wout D r cls d σ H)
inductive HdsM (X : Cx) : List ExceptHandler → List (Value × Option Nat × TSu) → Prop
  | nil : HdsM X [] []
  | plain {x : Str} {c : Value} {ts : TSu} {b₀ : Stmt} {suite : List Stmt} {np pos' : Pos} {hds : List ExceptHandler} {l : List (Value × Option Nat × TSu)} (hc : Names X x c)
      (hsu : ∀ (a : Addr) (oe : Obj) (cls : Value) (d : Option Addr) (pn : List (Addr × Obj)), L2N.Zn cls d oe → (∃ vs, oe.data = .fields vs) → PSs (X.suite a ((a, oe) :: pn)) (b₀ :: suite) (ts a cls d)) (r : HdsM X hds l) :
      HdsM X (.ExceptHandler (some (.Name x np)) none (b₀ :: suite) pos' :: hds) ((c, none, ts) :: l)
  | named {x n : Str} {i : Nat} {c : Value} {ts : TSu} {b₀ : Stmt} {suite : List Stmt} {np pos' : Pos} {hds : List ExceptHandler} {l : List (Value × Option Nat × TSu)} (hi : X.N[i]? = some n) (hln : X.env.kindOf n = some .local) (hc : Names X x c)
      (hsu : ∀ (a : Addr) (oe : Obj) (cls : Value) (d : Option Addr) (pn : List (Addr × Obj)), L2N.Zn cls d oe → (∃ vs, oe.data = .fields vs) → PSs (X.suite a ((a, oe) :: pn)) (b₀ :: suite) (ts a cls d)) (r : HdsM X hds l) :
      HdsM X (.ExceptHandler (some (.Name x np)) (some n) (b₀ :: suite) pos' :: hds) ((c, some i, ts) :: l)
section
variable {X : Cx} {body : List Stmt} {h₀ : ExceptHandler} {hds : List ExceptHandler} {l : List (Value × Option Nat × TSu)} {pos : Pos} {tb : WX → TS} {Wout : WX}
theorem ps_try_mix (hs : X.stack = X.env :: X.outer) (hf : X.env.frame = some X.env.locals) (hN : X.N.Nodup) (tk : L2N.Takes X Wout)
    (hb : ∀ (W : WX) (pn : List (Addr × Obj)) (xe : Value → Shared → Prop), L2N.Takes (X.tr pn xe) W → PassesOwn (model X.prog X.w) X.A X.env xe → PSs (X.tr pn xe) body (tb W))
    (hh : HdsM X (h₀ :: hds) l) : PS X (.Try body (h₀ :: hds) [] [] pos) (fun D σ H => tb (wMix X.K Wout D l) D σ H) := by
  refine ⟨fun pins s σ H D I h => ?_⟩
  have ok := I.ok
  have hfr : X.A.frames = some (X.env :: X.outer) := ok.frames.trans (congrArg some hs)
  refine wpAny_Try_except ?_
  have run := (hb (wMix X.K Wout D l) (X.pn ++ pins) (fun e s₁ => wpAny (model X.prog X.w) X.A (noteFrame e X.env) (fun _ s₂ => wpAny (model X.prog X.w) X.A (setFlight e none) (fun _ s₃ =>
    wpAny (model X.prog X.w) X.A (handleBy e X.env (h₀ :: hds)) (SP X pins D) X.xe s₃) X.xe s₂) X.xe s₁) (fun u s' xx => ?_) PassesOwn.looking).run [] s σ H D (I.toTry _) h
  · refine wpAny_mono run (fun f s1 hsp => ?_) (fun e s1 he => he)
    cases f with
    | ret u => obtain ⟨v, σ', H', J, r, q⟩ := hsp; exact ⟨v, σ', H', J.ofTry ok, r, q⟩
    | next => obtain ⟨σ', H', J, q⟩ := hsp; exact wpAny_execs_nil ⟨σ', H', J.ofTry ok, q⟩
    | brk => obtain ⟨σ', H', J, q⟩ := hsp; exact ⟨σ', H', J.ofTry ok, q⟩
    | cont => obtain ⟨σ', H', J, q⟩ := hsp; exact ⟨σ', H', J.ofTry ok, q⟩
  -- an exception of the body
  obtain ⟨a, B, sI, pins', σ', H', cls, d, rfl, J', nb, up, sky, na, os, ag, w⟩ := xx
  have J : Inv X pins σ' H' sI := J'.ofTry ok
  have sky' : Sky B (X.env :: X.outer) a (L2N.Zn cls d) X.env.locals s'.heap := hs ▸ sky
  show wpAny (model X.prog X.w) X.A (noteFrame (.ref a) X.env) _ _ _
  refine L2N.Sky.land L2N.Zn.steady hfr hf sky' fun h3 fl3 up3 => ?_
  have up13 := up.trans up3
  have J3 : Inv X pins σ' H' { s' with heap := h3 } := J.landed nb fl3.1 up13 os ag
  obtain ⟨oe3, vs3, he3, hz3, hd3⟩ := fl3.there
  have nfr : a ∉ frs (X.env :: X.outer) := fun hm => by
    obtain ⟨_, o', e', hnf⟩ := (fl3.2.2.1 : h3.FunFrames B (X.env :: X.outer)).mem hm
    rw [he3] at e'; cases e'
    exact hnf _ hd3
  have nL : a ≠ X.env.locals := fun z => nfr (List.mem_filterMap.mpr ⟨X.env, List.mem_cons_self, z ▸ hf⟩)
  have nF : a ∉ X.fs := fun hm => by
    obtain ⟨e, he, q⟩ := List.mem_filterMap.mp hm
    exact nfr (List.mem_filterMap.mpr ⟨e, List.mem_cons_of_mem _ he, q⟩)
  have S3 := J3.suite he3 hd3 na nL nF
  have LT : PySem.W.Looks (model X.prog X.w) h3 (typeOf (.ref a)) cls := fun A Q E s k q => wpAny_typeOf_ref (k _ _ he3) (hz3.1 ▸ q)
  -- the clause's class is read
  have test : ∀ {x : Str} {c : Value} {np : Pos} {Q : Value → Shared → Prop} {E : Value → Shared → Prop}, Names X x c → Q c { s' with heap := h3 } → wpAny (model X.prog X.w) (X.A.mark (some (.ref a))) (eval (.Name x np) X.env) Q E { s' with heap := h3 } := fun hc q => by
    obtain ⟨hg, hdbg, hm | ⟨hm, hv, hnn⟩⟩ := hc
    · exact ld_glob (X := X.suite a ((a, oe3) :: (X.pn ++ pins))) S3 hg hm q hdbg
    · exact ld_blt (X := X.suite a ((a, oe3) :: (X.pn ++ pins))) S3 hg hm hv q hnn hdbg
  -- the suite's start
  have suite : ∀ {Q : Shared → Prop}, (∀ h4 oe4, Inv (X.suite a ((a, oe4) :: (X.pn ++ pins))) [] σ' H' { s' with heap := h4 } → L2N.Zn cls d oe4 → (∃ vs, oe4.data = .fields vs) → Q { s' with heap := h4 }) → ∀ h4, HandSPX.HeldZ B (X.env :: X.outer) a (L2N.Zn cls d) X.env.locals h4 → True := fun _ _ _ => trivial
  have go : ∀ {hds' : List ExceptHandler} {l' : List (Value × Option Nat × TSu)}, HdsM X hds' l' → wMix X.K Wout D l' cls d σ' H' → wpAny (model X.prog X.w) X.A (handleBy (.ref a) X.env hds') (SP X pins D) X.xe { s' with heap := h3 } := by
    intro hds' l' hk
    induction hk with
    | nil =>
      intro w
      refine wpAny_handleBy_nil ?_
      obtain ⟨k1, k2, k3, oe, vs, T, oT, ts', he, hz, hd, h1, hr⟩ := id fl3
      unfold PySem.passOn
      refine wpAny_bind (wpAny_field he hd h1 ?_)
      rw [if_neg (show ¬ ((Value.ref T == Value.none) = true) from by simp)]
      have fin : wpAny (model X.prog X.w) X.A (setFlight (.ref a) X.env.frame) (fun _ s4 => wpAny (model X.prog X.w) X.A (throw (.ref a) : Sem Flow) (SP X pins D) X.xe s4) X.xe { s' with heap := h3 } := by
        rw [hf]
        refine HandSPX.setFlight_upZ fl3 fun h4 hh4 up4 => wpAny_throw (tk _ _ ?_)
        exact ⟨a, B, sI, pins, σ', H', cls, d, rfl, J, nb, up13.trans up4, .inr (.inr (by rw [hs]; exact hh4)), na, os, ag, w⟩
      first
        | exact wpAny_bind (wpAny_pure (wpAny_bind fin))
        | exact wpAny_bind fin
    | @plain x c ts b₀ su np pos' hds2 l2 hc hsu r ih =>
      intro w
      obtain ⟨b, hb1, hyes, hno⟩ := w
      refine wpAny_handleBy_cons (codeAny_handlers_test ?_) (by intro q; cases q)
      have LM := PySem.W.exm_one (M := model X.prog X.w) J3.kIn LT hb1
      refine test hc (LM.here ?_)
      cases b with
      | false => exact ih (hno rfl)
      | true =>
        refine codeAny_handlers_suite ?_
        refine HandSPX.lands_againZ fl3 fun h4 fl4 up4 => ?_
        have J4 : Inv X pins σ' H' { s' with heap := h4 } := J.landed nb fl4.1 (up13.trans up4) os ag
        obtain ⟨oe4, vs4, he4, hz4, hd4⟩ := fl4.there
        have S4 := J4.suite he4 hd4 na nL nF
        refine wpAny_mono ((hsu a oe4 cls d (X.pn ++ pins) hz4 ⟨_, hd4⟩).run [] _ _ H' _ S4 (hyes rfl a na)) (fun f s6 hsp => ?_) (fun _ _ z => False.elim z)
        cases f with
        | ret u => obtain ⟨v6, σ6, H6, S6, r6, q6⟩ := hsp; exact ⟨_, _, _, S6.unsuite ok, r6, q6⟩
        | next => obtain ⟨σ6, H6, S6, q6⟩ := hsp; exact ⟨_, _, S6.unsuite ok, q6⟩
        | brk => obtain ⟨σ6, H6, S6, q6⟩ := hsp; exact ⟨_, _, S6.unsuite ok, q6⟩
        | cont => obtain ⟨σ6, H6, S6, q6⟩ := hsp; exact ⟨_, _, S6.unsuite ok, q6⟩
    | @named x n i c ts b₀ su np pos' hds2 l2 hi hln hc hsu r ih =>
      intro w
      obtain ⟨b, hb1, hyes, hno⟩ := w
      refine wpAny_handleBy_cons (codeAny_handlers_test ?_) (by intro q; cases q)
      have LM := PySem.W.exm_one (M := model X.prog X.w) J3.kIn LT hb1
      refine test hc (LM.here ?_)
      cases b with
      | false => exact ih (hno rfl)
      | true =>
        refine codeAny_handlers_suite_as ?_
        refine HandSPX.lands_againZ fl3 fun h4 fl4 up4 => ?_
        have J4 : Inv X pins σ' H' { s' with heap := h4 } := J.landed nb fl4.1 (up13.trans up4) os ag
        obtain ⟨oe4, vs4, he4, hz4, hd4⟩ := fl4.there
        have S4 := J4.suite he4 hd4 na nL nF
        refine store_ok (X := X.suite a ((a, oe4) :: (X.pn ++ pins))) (v := .ref a) S4 hN hi (.inl hln) rfl (fun s5 S5 => ?_) (.inr hln)
        refine wpAny_mono ((hsu a oe4 cls d (X.pn ++ pins) hz4 ⟨_, hd4⟩).run [] s5 _ H' _ S5 (hyes rfl a na)) (fun f s6 hsp => ?_) (fun _ _ z => False.elim z)
        have last : ∀ {σ6 : L2.St} {H6 : Hp} {Q : Shared → Prop}, Inv (X.suite a ((a, oe4) :: (X.pn ++ pins))) [] σ6 H6 s6 → (∀ s7, Inv X pins (σ6.set i none) H6 s7 → Q s7) →
            wpAny (model X.prog X.w) X.A (do bindName X.env n .none; unbindBehindTheSuite X.env n pos') (fun _ s7 => Q s7) X.xe s6 := fun S6 hq => gone_ok (S6.unsuite ok) hN hi hln hq
        cases f with
        | ret u => obtain ⟨v6, σ6, H6, S6, r6, q6⟩ := hsp; exact last S6 fun s7 J7 => ⟨_, _, _, J7, r6, q6⟩
        | next => obtain ⟨σ6, H6, S6, q6⟩ := hsp; exact last S6 fun s7 J7 => ⟨_, _, J7, q6⟩
        | brk => obtain ⟨σ6, H6, S6, q6⟩ := hsp; exact last S6 fun s7 J7 => ⟨_, _, J7, q6⟩
        | cont => obtain ⟨σ6, H6, S6, q6⟩ := hsp; exact last S6 fun s7 J7 => ⟨_, _, J7, q6⟩
  exact go hh w
end

/-! ### a, b = e1, e2 while an exception is handled -/
section
open HotX L2H
theorem next_end_hot {prog : Program} {w : World} {A : Around} {E : Value → Shared → Prop} {s : Shared} {it t x1 : Addr} {i : Nat} {items : Array Value} {Q : Option Value → Shared → Prop} (hot : HotAt A x1 s.heap)
    (hit : IsTupIter s.heap it t i) (ht : IsTup s.heap t items) (hx : items[i]? = none) (hne : x1 ≠ it) (hQ : ∀ h', Heap.ExtBut it s.heap h' → Q none { s with heap := h' }) : wpAny (model prog w) A (pyNext (.ref it)) Q E s := by
  obtain ⟨hh, o1, vs1, g1, d1, c1⟩ := hot
  obtain ⟨o, ho, hc, hd⟩ := id hit
  obtain ⟨ol, hol, _, nl, hdl⟩ := ht
  unfold pyNext
  refine wpAny_bind (wpAny_attempt (wpAny_callSpecial?_slot (name := Str.ofString "__next__") hit.typeIs slot_tupleiter_next (wpAny_call_entry slot_tupleiter_next hit.typeIs entry_tupleiter_next ?_ (args_tupleiter_next _))))
  show wpAny _ _ (field (.ref it) 0 >>= _) _ _ s
  refine wpAny_bind (wpAny_field ho hd (x := .ref t) rfl ?_)
  show wpAny _ _ (if (Value.ref t == Value.none) = true then _ else _) _ _ s
  rw [if_neg (show ¬ ((Value.ref t == Value.none) = true) from Bool.false_ne_true)]
  show wpAny _ _ (field (.ref it) 1 >>= _) _ _ s
  refine wpAny_bind (wpAny_field ho hd (x := .int i 0) rfl ?_)
  show wpAny _ _ (seqItems? (.ref t) >>= _) _ _ s
  refine wpAny_bind (wpAny_seqItems hol hdl ?_)
  simp only [Int.toNat_natCast, hx]
  refine wpAny_bind (wpAny_rule (wpAny_bind (wpAny_setField ho hd (by simp) ?_)))
  show wpAny _ _ (newExc (.type "StopIteration") [] >>= _) _ _ _
  refine wpAny_bind ?_
  simp only [newExc, newTuple]
  refine wpAny_bind (wpAny_newObj_type ?_ (by size_fits))
  refine wpAny_bind (m := firstArgMember _ _) (wpAny_of_eq (a := Value.none) (by first | rfl | (simp only [firstArgMember]; rfl)) ?_)
  refine wpAny_newObj_type ?_ (by size_fits)
  have k1 : (s.heap.update it (Obj.mapFields (·.setIfInBounds 0 .none))).get? x1 = some o1 := by
    first
      | exact (Heap.get?_update_other _ _ hne).trans g1
      | exact (Heap.get?_update_other _ _ (Ne.symm hne)).trans g1
  refine raiseNew_hot ⟨hh, o1, vs1, Heap.get?_push_of_some _ (Heap.get?_push_of_some _ k1), d1, c1⟩ (Nat.ne_of_lt (Heap.lt_size (Heap.get?_push_of_some _ k1))) (Heap.get?_push_size _ rfl) rfl (by first | (simp; done) | (simp; omega) | (simp only [Array.size_append]; simp; omega)) ?_
  refine wpAny_bind (wpAny_isInstance (T := "StopIteration") (b := true) ⟨_, Heap.get?_update_self _ (Heap.get?_push_size _ rfl) rfl, rfl⟩ isSubtype_stop ?_)
  refine wpAny_pure (hQ _ fun b o hb e => ?_)
  have e1 : (s.heap.update it (Obj.mapFields (·.setIfInBounds 0 .none))).get? b = some o := (Heap.SameBut.update ..).extBut b o hb e
  rw [Heap.get?_update_other _ _ (Nat.ne_of_gt (Heap.lt_size (Heap.get?_push_of_some _ e1)))]
  exact Heap.get?_push_of_some _ (Heap.get?_push_of_some _ e1)
theorem unpackItems_hot {prog : Program} {w : World} {A : Around} {E : Value → Shared → Prop} {s : Shared} {t x1 : Addr} {items : Array Value} {Q : List Value → Shared → Prop} (hot : HotAt A x1 s.heap) (ht : IsTup s.heap t items)
    (hQ : ∀ h', Heap.ExtBut s.heap.objs.size s.heap h' → Q items.toList { s with heap := h' }) : wpAny (model prog w) A (unpackItems (.ref t) items.size none) Q E s := by
  have hlt : t ≠ s.heap.objs.size := by obtain ⟨o, ho, _⟩ := ht; exact Nat.ne_of_lt (Heap.lt_size ho)
  obtain ⟨hh, o1, vs1, g1, d1, c1⟩ := hot
  have hx1 : x1 ≠ s.heap.objs.size := Nat.ne_of_lt (Heap.lt_size g1)
  unfold unpackItems
  refine wpAny_bind ?_
  unfold notIterableAtAll
  refine wpAny_bind (wpAny_specialOf ht.typeIs slot_tuple_iter.lookup ?_)
  refine wpAny_pure ?_
  simp only [Bool.false_eq_true, if_false]
  refine wpAny_bind (wpAny_holding (iter_tuple ht ?_))
  refine wpAny_bind (wpAny_holding (draw_tuple hlt items.size 0 _ _ ⟨_, Heap.get?_push_size _ rfl, rfl, rfl⟩ (ht.push _) (by omega) fun h₁ hit₁ hs₁ => ?_))
  have hall : List.take items.size (List.drop 0 items.toList) = items.toList := by
    rw [List.drop_zero]; exact List.take_of_length_le (by simp)
  rw [hall]
  rw [if_neg (by simp)]
  have ht₁ : IsTup h₁ t items := (ht.push _).extBut hs₁.extBut hlt
  refine wpAny_bind (wpAny_holding (next_end_hot (x1 := x1) ⟨hh, o1, vs1, hs₁.extBut x1 o1 hx1 (Heap.get?_push_of_some _ g1), d1, c1⟩ hit₁ ht₁ (by simp) hx1 fun h₂ he₂ => ?_))
  simp only [Option.isSome_none, Bool.false_eq_true, if_false]
  exact wpAny_pure (hQ h₂ fun b o hb e => he₂ b o hb (hs₁.extBut b o hb (Heap.get?_push_of_some _ e)))
end
end Q

set_option maxHeartbeats 3200000
/-! len(set(text)) -/
namespace Q
open PySem PySem.Spec PyProof.Rows L2
/-- how many unlike ones of the list are not in seen -/
def dcnt : List Str → List Str → Nat
  | _, [] => 0
  | seen, x :: r => (if x ∈ seen then 0 else 1) + dcnt (x :: seen) r
def sign1 (c : Nat) : Str := ⟨#[c]⟩
theorem drop_at' {α : Type} {l r : List α} {i : Nat} {x : α} (h : l.drop i = x :: r) : l[i]? = some x ∧ l.drop (i + 1) = r ∧ i < l.length := by
  have hlt : i < l.length := by
    by_cases q : i < l.length
    · exact q
    · rw [List.drop_eq_nil_of_le (by omega)] at h; cases h
  have e := List.drop_eq_getElem_cons hlt
  rw [h] at e
  obtain ⟨e1, e2⟩ := List.cons.inj e
  exact ⟨by rw [List.getElem?_eq_getElem hlt, e1], e2.symm, hlt⟩
theorem dcnt_le : ∀ (seen r : List Str), dcnt seen r ≤ r.length
  | _, [] => Nat.le_refl _
  | seen, x :: r => by
    have := dcnt_le (x :: seen) r
    unfold dcnt
    simp only [List.length_cons]
    split <;> omega
section
variable {prog : Program} {w : World} {A : Around} {R : Result → Shared → Prop} {I : Addr} {fp wr : List Addr} {G : Array GenState → Array GenState → Prop} {n : Nat} {P : Nat → Value → Prop} {St : Nat → Shared → Prop} {x : Str}
theorem signLoop (W : WalksS prog w A.in1 I fp wr G n P St) (S : Addr) (hSf : S ∉ fp) (hP : ∀ i v, P i v → SignAt x i v) :
    ∀ (r : List Nat) (i : Nat) (seen : List Str) (c : Nat) (s : Shared), n - i = r.length ∧ i ≤ n → x.cps.toList.drop i = r → c + r.length + 1 < scanBound → St i s →
      s.heap.SetOf (PySem.strKind prog w) S (fun k' => decide (k' ∈ seen)) c →
      (∀ s', Moved (S :: wr) G s s' → s'.heap.SetOf (PySem.strKind prog w) S (fun k' => decide (k' ∈ (r.map sign1).reverse ++ seen)) (c + dcnt seen (r.map sign1)) → R (.ok (.ret .none)) s') →
      codeAny (model prog w) A (.builtin "set.update.loop" ⟨[.ref S, .ref I], []⟩) R s := by
  have hSw : S ∉ wr := fun h => hSf (W.sub _ h)
  have hsub : ∀ b ∈ wr, b ∈ S :: wr := fun b hb => List.mem_cons_of_mem _ hb
  intro r
  induction r with
  | nil =>
    intro i seen c s hk hd hcb hst hS hR
    have hin : i = n := by simp at hk; omega
    subst hin
    refine codeAny_builtin PyProof.Rows.F.entry_set_update_loop ?_
    rw [Around.under_plainId PyProof.Rows.F.plain_set_update_loop _]
    show wpAny _ A.in1 (pyNext (.ref I) >>= _) _ _ s
    refine wpAny_bind (W.done s _ _ hst fun s' hm => ?_)
    show wpAny _ A.in1 (ret Value.none) _ _ s'
    exact wpAny_pure (hR s' (hm.mono hsub) (by
      obtain ⟨o, es, ep, t, ho, rest⟩ := hS
      exact ⟨o, es, ep, t, hm.heap S _ hSw ho, rest⟩))
  | cons z r ih =>
    intro i seen c s hk hd hcb hst hS hR
    have hlt : i < n := by have := hk.1; simp at this; omega
    obtain ⟨hz, hd', _⟩ := drop_at' hd
    refine codeAny_builtin PyProof.Rows.F.entry_set_update_loop ?_
    rw [Around.under_plainId PyProof.Rows.F.plain_set_update_loop _]
    show wpAny _ A.in1 (pyNext (.ref I) >>= _) _ _ s
    refine wpAny_bind (W.item i s _ _ hlt hst fun v s' hPv hst' hm => ?_)
    obtain ⟨z', t, hz', rfl⟩ := hP i v hPv
    obtain rfl : z' = z := by
      rw [Array.getElem?_toList] at hz
      rw [hz] at hz'
      exact (Option.some.inj hz').symm
    have hS' : s'.heap.SetOf (PySem.strKind prog w) S (fun k' => decide (k' ∈ seen)) c := by
      obtain ⟨o, es, ep, tb, ho, rest⟩ := hS
      exact ⟨o, es, ep, tb, hm.heap S _ hSw ho, rest⟩
    show wpAny _ A.in1 (holding [Value.str ⟨#[z']⟩ t] (setAdd S (.str ⟨#[z']⟩ t)) >>= _) _ _ s'
    refine wpAny_bind (wpAny_holding ?_)
    unfold setAdd
    refine wpAny_holding ?_
    refine wpAny_bind ((PySem.strKind prog w).pyHash (k := sign1 z') (strKind_is _ _ _ _) ?_)
    refine wpAny_setAddHashed_of (knd := PySem.strKind prog w) (s := { s' with toks := s'.toks + 1 }) (strKind_is _ _ _ _) rfl hS' (by simp at hcb; omega) fun h' hsb hS2 => ?_
    have hSi : h'.SetOf (PySem.strKind prog w) S (fun k' => decide (k' ∈ sign1 z' :: seen)) (c + if sign1 z' ∈ seen then 0 else 1) := by
      refine SetOf_congr hS2 (fun k' => ?_) ?_
      · by_cases e : k' = sign1 z' <;> by_cases e2 : k' ∈ seen <;> simp [e, e2]
      · by_cases e : sign1 z' ∈ seen <;> simp [e]
    refine wpAny_pure ⟨plainId_quiet PyProof.Rows.F.plain_set_update_loop _, ih (i + 1) (sign1 z' :: seen) _ _ ⟨by have := hk.1; simp at this; omega, hlt⟩ hd' (by simp at hcb; split <;> omega) (W.frame _ s' _ _ hst' (Nat.le_succ _) fun b hb o e => ?_) hSi fun s'' hm'' hS'' => ?_⟩
    · rw [hsb.2 b (fun h : b = S => hSf (by rw [← h]; exact hb))]; exact e
    · refine hR s'' (Moved.trans W.gtrans ((hm.mono hsub).then_heap (Nat.le_succ _) fun b o hb e => ?_) hm'') ?_
      · rw [hsb.2 b (fun h : b = S => hb (by rw [h]; exact List.mem_cons_self))]; exact e
      · refine SetOf_congr hS'' (fun k' => ?_) ?_
        · simp [List.map_cons, List.reverse_cons, List.append_assoc]
        · show _ = c + dcnt seen (sign1 z' :: r.map sign1)
          show _ = c + ((if sign1 z' ∈ seen then 0 else 1) + dcnt (sign1 z' :: seen) (r.map sign1))
          omega
end
section
variable {prog : Program} {w : World} {A : Around} {E : Value → Shared → Prop} {s : Shared}
theorem call_set_text {x : Str} {t : Tok} {Q : Value → Shared → Prop} (hh : A.handled = none) (hn1 : x.length + 1 < scanBound)
    (h : ∀ (h' : Heap) (tk : Nat), h'.SetOf (PySem.strKind prog w) s.heap.objs.size (fun k' => decide (k' ∈ (x.cps.toList.map sign1).reverse ++ [])) (dcnt [] (x.cps.toList.map sign1)) →
      (∀ b o, b < s.heap.objs.size → s.heap.get? b = some o → h'.get? b = some o) → Q (.ref s.heap.objs.size) { s with heap := h', toks := tk }) :
    wpAny (model prog w) A (call (.type "set") [.str x t]) Q E s := by
  obtain ⟨c, tl, hmro⟩ := PySem.F.called_set.mro
  have hmade := PySem.F.called_set.made
  have hsub := PySem.F.called_set.sub
  refine wpAny_call (codeAny_of_tree ?_)
  show wpAny _ _ (callAny (.type "set") _) _ _ _
  refine wpAny_pure ⟨Code.quiet_builtin _ (by decide +kernel), codeAny_builtin PySem.F.entry_type_call ?_⟩
  rw [Around.under_plain (weight_type_call_type "set" [.str x t] []) rfl]
  have h1 := PySem.F.called_set.notType
  have h2 := PySem.F.called_set.canCreate
  have hct := PySem.F.typeCall_set_1 (.str x t)
  repeat (any_goals (first | assumption | wp_step))

  refine codeAny_mono (code_set_new_1 (.str x t) (E := E) (Q₁ := fun obj s₁ => ∃ led : Bool, obj = .ref s.heap.objs.size ∧ s₁ = { s with heap := s.heap.push { cls := .type "set", dict := none, data := .set #[] 0 (.fresh 0 0 led) } }) fun led => ⟨led, rfl, rfl⟩) fun r s₁ hr => ?_
  cases r with
  | error e => exact hr
  | ok fl =>
    cases fl with
    | ret obj =>
      obtain ⟨led, rfl, rfl⟩ := hr
      have hS : (s.heap.push { cls := .type "set", dict := none, data := .set #[] 0 (.fresh 0 0 led) }).get? s.heap.objs.size = some { cls := .type "set", dict := none, data := .set #[] 0 (.fresh 0 0 led) } := Heap.get?_push_size _ rfl
      have hT : Shared.TypeIs { s with heap := s.heap.push { cls := .type "set", dict := none, data := .set #[] 0 (.fresh 0 0 led) } } (.ref s.heap.objs.size) "set" := ⟨_, hS, rfl⟩
      have hli := PySem.F.called_set.init.lookup
      have hbi := PySem.F.called_set.init.bind (.ref s.heap.objs.size)
      repeat (any_goals (first | assumption | wp_step))

      refine codeAny_mono (codeAny_call_builtin (R := wants (fun r s₂ => r = .none ∧ ∃ h' tk, s₂ = { s with heap := h', toks := tk } ∧
          h'.SetOf (PySem.strKind prog w) s.heap.objs.size (fun k' => decide (k' ∈ (x.cps.toList.map sign1).reverse ++ [])) (dcnt [] (x.cps.toList.map sign1)) ∧
          (∀ b o, b < s.heap.objs.size → s.heap.get? b = some o → h'.get? b = some o)) E) PySem.F.called_set.init.plain PySem.F.entry_set_init (check_set_init_1 hT ?_)) fun r₂ s₂ hr₂ => ?_
      · have hne : (Value.type "str" == Value.type "dict") = false := by decide
        unfold Builtin.«set.__init__» noKeywords Builtin.Frozenset.updateFrom Builtin.Frozenset.isAnySet
        have hsls := PySem.F.sub_str_set
        have hslf := PySem.F.sub_str_frozenset
        generalize hPI : pyIter = PI
        wp_walk
        subst hPI

        refine wpAny_pyIter_str fun oI St hW hst => ?_
        refine wpAny_bind (wpAny_runValue ?_)
        have hSf : s.heap.objs.size ∉ [(s.heap.push { cls := .type "set", dict := none, data := .set #[] 0 (.fresh 0 0 led) }).objs.size] := by
          rw [Heap.size_push]; simp only [List.mem_singleton]
          exact Nat.ne_of_lt (Nat.lt_succ_self _)
        refine signLoop ((hW _ (by simp [hh])).toS) s.heap.objs.size hSf (fun _ _ h => h) x.cps.toList 0 [] 0 _ (by simp) (by rw [List.drop_zero]) (by have e0 : x.length = x.cps.size := rfl; simp; omega)
          hst ?hS0 ?hR
        case hS0 =>
          have hget : ((s.heap.push { cls := .type "set", dict := none, data := .set #[] 0 (.fresh 0 0 led) }).push oI).get? s.heap.objs.size
              = some { cls := .type "set", dict := none, data := .set #[] 0 (.fresh 0 0 led) } := Heap.get?_push_of_some _ hS
          exact PyProof.Rows.SetOf_congr ((PyProof.Rows.setObjOf_fresh (knd := PySem.strKind prog w) led).setOf hget (by unfold scanBound; omega)) (fun _ => rfl) rfl
        case hR =>
          intro s' hm hS'
          obtain ⟨h', g', d', tk', os'⟩ := s'
          have eg : g' = s.gens := hm.gens
          have ed : d' = s.drawn := hm.drawn
          have eo : os' = s.os := hm.os
          subst eg; subst ed; subst eo
          show wpAny _ _ _ _ _ _
          refine wpAny_pure ?_
          show wpAny _ _ (ret Value.none) _ _ _
          refine wpAny_pure ⟨rfl, h', tk', rfl, SetOf_congr hS' (fun _ => rfl) (by omega), fun b o hb e => ?_⟩
          have hb1 : b ≠ s.heap.objs.size := Nat.ne_of_lt hb
          have hb2 : b ≠ (s.heap.push { cls := .type "set", dict := none, data := .set #[] 0 (.fresh 0 0 led) }).objs.size := by
            rw [Heap.size_push]; exact Nat.ne_of_lt (Nat.lt_succ_of_lt hb)
          exact hm.heap b o (by simp only [List.mem_cons, List.mem_singleton, List.not_mem_nil, or_false, not_or]; exact ⟨hb1, hb2⟩) (Heap.get?_push_of_some _ (Heap.get?_push_of_some _ e))

      · cases r₂ with
        | error e => exact hr₂
        | ok fl₂ =>
          cases fl₂ with
          | ret r =>
            obtain ⟨rfl, h', tk, rfl, hS', hk'⟩ := hr₂
            repeat (any_goals (first | assumption | wp_step))
            exact h _ _ hS' hk'
          | _ => exact hr₂.elim
    | _ => exact hr.elim
end
section
variable {X : Cx} {L : List Nat} {a : Expr}
/-- len(set(text)) -/
def mLenSet (m : M T) : M T := fun ρ => (m ρ).bind fun t ρ1 => match t with
  | .leaf (.str z) => if z.length ≤ 2000 then .ok (.leaf (.int (dcnt [] (z.cps.toList.map sign1)))) ρ1 else .stuck
  | _ => .stuck
def tLenSetS (ta : TE) : TE := fun σ H Q => ta σ H fun x H1 => ∃ z, x = .str z ∧ z.length ≤ 2000 ∧ Q (.int (dcnt [] (z.cps.toList.map sign1))) H1
theorem pe_lenSetS {ta : TE} {p p2 q pos : Pos} (hc : X.calm = true) (hg : Gl X "len") (hm : X.mg "len" = none) (hg2 : Gl X "set") (hm2 : X.mg "set" = none) (ha : PE X a ta)
    (na : starEach [a] X.env = (false, eval a X.env) :: starEach [] X.env := by rfl) : PE X (.Call (.Name "len" p) [.Call (.Name "set" p2) [a] [] q] [] pos) (tLenSetS ta) := by
  refine ⟨fun pins s σ H Q I h => ?_⟩
  refine Call_ (ld_blt I hg hm PySem.boot_len ?_)
  refine PyProof.Rows.callWith_builtin1 (PyProof.Rows.args_cons ?_ rfl) rfl rfl
  refine Call_ (ld_blt I hg2 hm2 PyProof.Rows.boot_set ?_)
  refine PyProof.Rows.callWith_type1 (PyProof.Rows.args_cons (thn (ha.run pins s σ H _ I h) fun v s1 ⟨x, H1, I1, r1, q1⟩ => PyProof.Rows.args_nil ?_) na) na rfl
  obtain ⟨z, rfl, hz, q1⟩ := q1
  obtain ⟨t, rfl⟩ := r1
  have hb : z.length + 1 < scanBound := by unfold scanBound; omega
  have hle : dcnt [] (z.cps.toList.map sign1) ≤ z.length := by
    have := dcnt_le [] (z.cps.toList.map sign1)
    rw [List.length_map, Array.length_toList] at this
    exact this
  refine call_set_text (I1.ok.hd hc) hb fun h' tk hS hk => ?_
  refine PyProof.Rows.args_nil ?_
  obtain ⟨o, es, ep, t', ho, hex, hd, _, _, _, hf, hn⟩ := hS
  have I2 : Inv X pins σ H1 { s1 with heap := h', toks := tk } := I1.kept fun b o e => hk b o (Heap.lt_size e) e
  refine call_len_set ho hex hd hf (by rw [hn]; unfold scanBound at hb; omega) ⟨.int (dcnt [] (z.cps.toList.map sign1)), H1, I2.tok _, ⟨_, by rw [hn]⟩, q1⟩
theorem ped_lenSet {m : M T} {p p2 q pos : Pos} (hc : X.calm = true) (hg : Gl X "len") (hm : X.mg "len" = none) (hg2 : Gl X "set") (hm2 : X.mg "set" = none) (ha : PEd X L a m)
    (na : starEach [a] X.env = (false, eval a X.env) :: starEach [] X.env := by rfl) : PEd X L (.Call (.Name "len" p) [.Call (.Name "set" p2) [a] [] q] [] pos) (mLenSet m) :=
  ⟨fun W tk => PE.imp (pe_lenSetS hc hg hm hg2 hm2 (ha.run W tk) na) fun σ H Q ⟨R, ρ, tm, hL, S, q⟩ => ⟨R, ρ, tm, hL, S, (End.bind q).mono fun t ρ1 _ q v H1 S1 => by
    rcases t with d | ts
    · cases d with
      | str z =>
        dsimp only at q
        by_cases hz : z.length ≤ 2000
        · rw [if_pos hz] at q
          have r := S1.front.rep
          obtain rfl : v = .str z := r
          exact ⟨z, rfl, hz, q (.int (dcnt [] (z.cps.toList.map sign1))) H1 (S1.pop.with fun o => o.scal fun _ => rfl)⟩
        · rw [if_neg hz] at q; exact q.elim
      | _ => exact q.elim
    · exact q.elim⟩⟩
end
end Q

set_option maxHeartbeats 1000000
/-! Assignments to several names, stores into owned lists, isinstance, repr. -/
namespace Q
open PySem PySem.Spec PyProof.Rows L2

/-! ### a, b = e; a, b = e1, e2 -/
def mAsg (t : TgM) (m : M T) : SM := fun ρ => (m ρ).toS fun u ρ1 => match t u.toD ρ1 with
  | some ρ2 => .nx ρ2
  | none => .stuck
section
variable {X : Cx} {L sl : List Nat} {st : Stmt} {tg e : Expr} {g : TG} {t : TgM} {m : M T}
theorem psd_asg (hg : PGd X L sl tg g t) (he : PEd X L e m) (h : ∀ te, PE X e te → PS X st (tAsg te g)) : PSd X L st (mAsg t m) :=
  ⟨fun W tk _ => PS.imp (h _ (he.run W tk)) fun D σ H q => tem_toS q fun R ρ tm v u H1 hL S q => by
    cases e1 : t u.toD ρ with
    | none => rw [e1] at q; exact q.elim
    | some ρ2 => rw [e1] at q; exact hg.run R σ ρ ρ2 H1 tm v _ _ hL (Sta.back S.fits S.lent S.front.freeze) e1 fun σ' _ _ S' => q σ' H1 S'⟩
end
def putL : List (Nat × T) → SM
  | [], ρ => .nx ρ
  | (i, t) :: r, ρ => match ρ[i]? with
    | some _ => putL r (ρ.set i (some t))
    | none => .stuck
def setL (σ : L2.St) : List (Nat × V) → L2.St
  | [] => σ
  | (i, v) :: r => setL (σ.set i (some v)) r
def mPar (is : List Nat) (ms : List (M T)) : SM := fun ρ => (mArgs ms ρ).toS fun ts ρ1 => if ts.length = is.length then putL (is.zip ts).reverse ρ1 else .stuck
theorem putL_ok {G : Gx} {R : Fr} {W : WX} {D : Ends} {H : Hp} {tm : List Item} : ∀ {l : List (Nat × V × T)} {σ : L2.St} {ρ : Env}, (∀ p ∈ l, p.1 ∉ R.lent.map (·.1)) → Sta G R σ ρ H (l.map (·.2) ++ tm) → EndS G R tm W D (putL (l.map fun p => (p.1, p.2.2)) ρ) →
    D.nx (setL σ (l.map fun p => (p.1, p.2.1))) H
  | [], σ, ρ, _, S, q => q σ H S
  | (i, v, t) :: r, σ, ρ, hl, S, q => by
    simp only [List.map_cons, putL] at q
    cases e : ρ[i]? with
    | none => rw [e] at q; exact q.elim
    | some o =>
      rw [e] at q
      exact putL_ok (l := r) (fun p hp => hl p (List.mem_cons_of_mem _ hp)) (Sta.store (i := i) S (List.getElem?_eq_some_iff.mp e).1 (hl _ List.mem_cons_self)) q
/-- plain stores from the right -/
def SwN (X : Cx) (i : Nat) (x : Str) : Prop := X.N[i]? = some x ∧ X.env.scope.names.lookup x = some .local
theorem swap_ok {X : Cx} {pins : List (Addr × Obj)} {H : Hp} {Q : Unit → Shared → Prop} (hN : X.N.Nodup) : ∀ {l : List (Nat × Str × V × Value)} {σ : L2.St} {s : Shared}, Inv X pins σ H s → (∀ p ∈ l, SwN X p.1 p.2.1 ∧ RelV p.2.2.1 p.2.2.2) →
    (∀ s', Inv X pins (setL σ (l.map fun p => (p.1, p.2.2.1))) H s' → Q () s') → wpAny (model X.prog X.w) X.A (assignInOrder (l.map fun p v => bindName X.env p.2.1 v) (l.map fun p => p.2.2.2)) Q X.xe s
  | [], σ, s, I, _, q => assignInOrder_nil (q s I)
  | (i, x, v, u) :: r, σ, s, I, h, q => by
    obtain ⟨⟨h1, h2⟩, h3⟩ := h _ List.mem_cons_self
    exact assignInOrder_cons (wpAny_bindName (store_ok I hN h1 (.inl h2) h3 (fun s1 I1 => swap_ok hN (l := r) I1 (fun p hp => h p (List.mem_cons_of_mem _ hp)) q) (.inr h2)))
def tSwap (is : List Nat) (ta : TA) : TS := fun D σ H => ta σ H fun vs H1 => vs.length = is.length ∧ D.nx (setL σ (is.zip vs).reverse) H1
def zip4 : List Nat → List Str → List V → List Value → List (Nat × Str × V × Value)
  | i :: is, x :: xs, v :: vs, u :: us => (i, x, v, u) :: zip4 is xs vs us
  | _, _, _, _ => []
theorem zip4_ok {X : Cx} : ∀ {is : List Nat} {xs : List Str} {vs : List V} {us : List Value}, Paired (SwN X) is xs → Vals vs us → vs.length = is.length →
    (∀ p ∈ zip4 is xs vs us, SwN X p.1 p.2.1 ∧ RelV p.2.2.1 p.2.2.2) ∧ (zip4 is xs vs us).map (·.2.1) = xs ∧ (zip4 is xs vs us).map (·.2.2.2) = us ∧ (zip4 is xs vs us).map (fun p => (p.1, p.2.2.1)) = is.zip vs
  | [], _, vs, us, .nil, r, hl => by
    have : vs = [] := List.length_eq_zero_iff.mp hl
    subst this
    cases r
    exact ⟨fun p hp => by simp [zip4] at hp, rfl, rfl, rfl⟩
  | i :: is, x :: xs, [], us, .cons a b, r, hl => by simp at hl
  | i :: is, x :: xs, v :: vs, _, .cons a b, .cons r1 r2, hl => by
    obtain ⟨h1, h2, h3, h4⟩ := zip4_ok b r2 (by simpa using hl)
    refine ⟨fun p hp => ?_, by simp [zip4, h2], by simp [zip4, h3], by simp [zip4, h4]⟩
    rcases List.mem_cons.mp hp with e | hp
    · subst e; exact ⟨a, r1⟩
    · exact h1 p hp
section
variable {X : Cx} {L : List Nat} {tgs es : List Expr} {ta : TA} {kt k2 : Nat} {pt p2 pos : Pos} {is : List Nat} {xs : List Str}
theorem ps_swap (hc : X.calm = true ∨ L2H.HotC X) (hN : X.N.Nodup) (hp : Paired (SwN X) is xs) (ha : PA X es ta) (hw : swappedStores [.Tuple tgs kt pt] (.Tuple es k2 p2) X.env = pure (some xs)) (hz : is.length ≤ 3)
    (hs : swapsWithSole [.Tuple tgs kt pt] (.Tuple es k2 p2) pos.line X.env = pure false := by rfl) : PS X (.Assign [.Tuple tgs kt pt] (.Tuple es k2 p2) pos) (tSwap is ta) := by
  refine ⟨fun pins s σ H D I h => Assign_Tuple_swapped (names := xs) (Tuple_ (thn (ha.run _ pins s σ H _ I h) fun us s1 ⟨vs, H1, I1, r1, hl, q1⟩ => ?_)) hs hw⟩
  have hu : us.length = xs.length := by rw [← r1.length, hl]; exact Paired.length hp
  have hx : xs.length ≤ 3 := by rw [← Paired.length hp]; exact hz
  refine wpAny_newObj_type ?_ (by show us.toArray.size ≤ sizeLine; rw [List.size_toArray, hu]; exact Nat.le_trans hx (by decide))
  have I2 : Inv X pins σ H1 { s1 with heap := s1.heap.push { cls := .type "tuple", data := .seq us.toArray } } := I1.kept (t' := s1.toks) fun b o e => Heap.get?_push_of_some _ e
  obtain ⟨z1, z2, z3, z4⟩ := zip4_ok hp r1 hl
  have fin : ∀ h', Heap.ExtBut (s1.heap.push { cls := .type "tuple", data := .seq us.toArray }).objs.size (s1.heap.push { cls := .type "tuple", data := .seq us.toArray }) h' →
      wpAny (model X.prog X.w) X.A (assignInOrder (xs.reverse.map fun n => bindName X.env n) us.toArray.toList.reverse) (fun _ => SP X pins D .next) X.xe { s1 with heap := h' } := fun h' hx' => by
    have I3 := I2.kept (h' := h') (t' := s1.toks) fun b o e => hx' b o (Nat.ne_of_lt (Heap.lt_size e)) e
    have g := swap_ok (Q := fun _ => SP X pins D .next) hN (l := (zip4 is xs vs us).reverse) I3 (fun p hp => z1 p (List.mem_reverse.mp hp)) fun s' I' => ⟨_, H1, I', by
      rw [List.map_reverse, z4]; exact q1⟩
    have e1 : (zip4 is xs vs us).reverse.map (fun p v => bindName X.env p.2.1 v) = xs.reverse.map fun n => bindName X.env n := by
      conv => rhs; rw [← z2]
      rw [← List.map_reverse, List.map_map]; rfl
    have e2 : (zip4 is xs vs us).reverse.map (fun p => p.2.2.2) = us.toArray.toList.reverse := by
      rw [List.map_reverse, z3]
    rw [e1, e2] at g
    exact g
  have hsz : xs.length = us.toArray.size := by rw [List.size_toArray, hu]
  rw [hsz]
  rcases hc with hc | hc
  · exact unpackItems_tuple (I.ok.hd hc) (IsTup.new s1.heap _) fin
  · obtain ⟨x1, hot⟩ := hc.at I2
    exact unpackItems_hot hot (IsTup.new s1.heap _) fin
theorem psd_par {ms : List (M T)} (hc : X.calm = true ∨ L2H.HotC X) (hN : X.N.Nodup) (hp : Paired (SwN X) is xs) (hi : ∀ i ∈ is, i ∉ L) (ha : PAd X L es ms) (hw : swappedStores [.Tuple tgs kt pt] (.Tuple es k2 p2) X.env = pure (some xs)) (hz : is.length ≤ 3)
    (hs : swapsWithSole [.Tuple tgs kt pt] (.Tuple es k2 p2) pos.line X.env = pure false := by rfl) : PSd X L (.Assign [.Tuple tgs kt pt] (.Tuple es k2 p2) pos) (mPar is ms) :=
  ⟨fun W tk _ => PS.imp (ps_swap hc hN hp (ha.run W tk) hw hz hs) fun D σ H ⟨R, ρ, tm, hL, S, q⟩ => by
    refine ⟨R, ρ, tm, hL, S, ?_⟩
    unfold mPar at q
    cases e : mArgs ms ρ with
    | stuck => rw [e] at q; exact q
    | exc => rw [e] at q; exact q σ
    | ok ts ρ1 =>
      rw [e] at q
      intro vs H1 hl S1
      simp only [Res.toS] at q
      by_cases hlen : ts.length = is.length
      · rw [if_pos hlen] at q
        refine ⟨hl.trans hlen, ?_⟩
        have k1 : ∀ {is : List Nat} {vs : List V} {ts : List T}, vs.length = ts.length → ts.length = is.length → (is.zip (vs.zip ts)).map (·.2) = vs.zip ts ∧ (is.zip (vs.zip ts)).map (fun p => (p.1, p.2.2)) = is.zip ts ∧ (is.zip (vs.zip ts)).map (fun p => (p.1, p.2.1)) = is.zip vs := by
          intro is
          induction is with
          | nil => intro vs ts h1 h2; obtain rfl := List.length_eq_zero_iff.mp h2; obtain rfl := List.length_eq_zero_iff.mp h1; exact ⟨rfl, rfl, rfl⟩
          | cons i is ih =>
            intro vs ts h1 h2
            cases ts with
            | nil => simp at h2
            | cons t ts =>
              cases vs with
              | nil => simp at h1
              | cons v vs =>
                obtain ⟨a, b, c⟩ := ih (vs := vs) (ts := ts) (by simpa using h1) (by simpa using h2)
                exact ⟨by simp [a], by simp [b], by simp [c]⟩
        obtain ⟨a, b, c⟩ := k1 hl hlen
        have S2 : Sta (gx X) R σ ρ1 H1 ((is.zip (vs.zip ts)).reverse.map (·.2) ++ tm) := S1.perm (by
          rw [List.map_reverse, a]; exact (List.reverse_perm _).symm.append_right _)
        have g := putL_ok (l := (is.zip (vs.zip ts)).reverse) (D := D) (W := W) (fun p hp => by
          have hm := List.mem_reverse.mp hp
          rw [hL]
          exact hi _ (List.of_mem_zip hm).1) S2 (by rw [List.map_reverse, b]; exact q)
        rw [List.map_reverse, c] at g
        exact g
      · rw [if_neg hlen] at q; exact q.elim⟩
end

/-! ### x op= e, ints -/
def mAug (i : Nat) (f : Int → Int → Int) (m : M T) : SM := fun ρ => match ρ[i]? with
  | some (some (.leaf (.int a))) => (m ρ).toS fun t ρ1 => match t.toD with
    | .int b => putS i (.leaf (.int (f a b))) ρ1
    | _ => .stuck
  | _ => .stuck
section
variable {X : Cx} {L : List Nat} {e b : Expr} {m mb : M T}
theorem psd_aug {i : Nat} {x : Str} {op : Operator} {f : Int → Int → Int} {pos pos' : Pos} (hi' : i ∉ L) (ip : PIp X op (ipI f)) (he : PEd X L e m) (h : ∀ te, PE X e te → PS X (.AugAssign (.Name x pos') op e pos) (tAug i te (ipI f))) : PSd X L (.AugAssign (.Name x pos') op e pos) (mAug i f m) :=
  ⟨fun W tk _ => PS.imp (h _ (he.run W tk)) fun D σ H ⟨R, ρ, tm, hL, S, q⟩ => by
    unfold mAug at q
    split at q
    · rename_i a e1
      obtain ⟨v, e2, S1⟩ := S.read e1
      obtain rfl : v = .int a := S1.front.rep
      refine ⟨_, e2, tem_toS ⟨R, ρ, tm, hL, S, q⟩ fun R ρ tm w t H1 hL S q => ?_⟩
      split at q
      · rename_i c ec
        exact ⟨a, c, rfl, (toInt S ec).front.rep, put_ok (v := .int (f a c)) (t := .leaf (.int (f a c))) (by rw [hL]; exact hi') (S.pop.with fun o => o.scal fun _ => rfl) q⟩
      · exact q.elim
    · exact q.elim⟩

/-! ### x[j] = e, x.append(e), x's list owned -/
def mSetIx (i : Nat) (mb m : M T) : SM := fun ρ => (m ρ).toS fun t ρ1 => match ρ1[i]? with
  | some (some _) => (mb ρ1).toS fun tb ρ2 => match tb.toD with
    | .int j => match ρ2[i]? with
      | some (some (.node ts)) => match ixN ts.length j with
        | some k => .nx (ρ2.set i (some (.node (ts.set k t))))
        | none => .stuck
      | _ => .stuck
    | _ => .stuck
  | _ => .stuck
theorem ixN_lt {n k : Nat} {j : Int} (h : ixN n j = some k) : k < n := by have := ixN_seq h; omega
theorem psd_setIx {i : Nat} {x : Str} {p2 p3 pos : Pos} (hv : PE X (.Name x p3) (tVar i)) (hb : PEd X L b mb) (he : PEd X L e m)
    (ha : ∀ v, assign (.Subscript (.Name x p3) b p2) X.env v = (do
      let ov ← holding [v] (eval (.Name x p3) X.env)
      let iv ← holding [v, ov] (eval b X.env)
      standAt p2
      holding [v, ov, iv] (setItem ov iv v)
      release [v, ov, iv] []) := by intro _; rfl)
    (hs : swapsWithSole [.Subscript (.Name x p3) b p2] e pos.line X.env = pure false := by rfl) (hw : swappedStores [.Subscript (.Name x p3) b p2] e X.env = pure none := by rfl)
    (h1 : (assignEach [.Subscript (.Name x p3) b p2] X.env).map (·.2) = [assign (.Subscript (.Name x p3) b p2) X.env] := by rfl) : PSd X L (.Assign [.Subscript (.Name x p3) b p2] e pos) (mSetIx i mb m) :=
  ⟨fun W tk _ => PS.imp (ps_asg (he.run W tk) (pg_sub hv (hb.run W tk) set_list ha) hs hw h1) fun D σ H q => tem_toS q fun R ρ tm v t H1 hL S q => by
    split at q
    · rename_i t0 e0
      obtain ⟨u, e1, _⟩ := S.pop.val e0
      have S0 : Sta (gx X) R σ ρ H1 ((v, t) :: tm) := S
      refine ⟨u, e1, R, ρ, (v, t) :: tm, hL, S, ?_⟩
      cases eb : mb ρ with
      | stuck => rw [eb] at q; exact q
      | exc => rw [eb] at q; exact ExcEnd.push (q σ) _
      | ok tb ρ2 =>
        rw [eb] at q
        intro y H2 S2
        simp only [Res.toS] at q
        split at q
        · rename_i j ej
          split at q
          · rename_i ts e2
            cases ek : ixN ts.length j with
            | none => rw [ek] at q; exact q.elim
            | some k =>
              rw [ek] at q
              have ey := (toInt S2 ej).front.rep
              obtain ⟨w, e3, S3⟩ := S2.pop.take e2
              rw [e1] at e3
              cases e3
              obtain ⟨a, xs, ea, hx, hlen⟩ := S3.front.nodeAt
              subst ea
              have o := Own.setAt (i := k) (S3.front.perm (List.Perm.cons _ (perm_mid (v, t) _ _))) hx (ixN_lt ek)
              exact ⟨a, xs, j, k, rfl, ey, hx, by rw [hlen]; exact ek, q σ _ ((Sta.back S3.fits S3.lent o).put S2.fits e1)⟩
          · exact q.elim
        · exact q.elim
    · exact q.elim⟩
def mAppend (i : Nat) (m : M T) : M T := fun ρ => match ρ[i]? with
  | some (some (.node _)) => (m ρ).bind fun t ρ1 => match ρ1[i]? with
    | some (some (.node ts)) => if ts.length < 16000000 then .ok (.leaf .non) (ρ1.set i (some (.node (ts ++ [t])))) else .stuck
    | _ => .stuck
  | _ => .stuck
theorem ped_append {i : Nat} {x : Str} {p3 apos cpos : Pos} (hv : PE X (.Name x p3) (tVar i)) (he : PEd X L e m)
    (hbase : attributeBase (.Name x p3) "append" X.env (eval (.Name x p3) X.env) = eval (.Name x p3) X.env := by rfl)
    (hfew : ((backTo cpos (starEach [e] X.env)).all (fun x => !x.1) && (backToKw cpos (keywordEach [] X.env)).all (fun x => x.1.isSome)
      && decide ([e].length + ([] : List Keyword).length + (if ([] : List Keyword).isEmpty then 0 else 1) < 30)) = true := by rfl)
    (hline : (apos.endLine == cpos.line) = true := by rfl) (hs : starEach [e] X.env = (false, eval e X.env) :: starEach [] X.env := by rfl) (hplain : (backTo cpos (starEach [] X.env)).any (·.1) = false := by rfl) :
    PEd X L (.Call (.Attribute (.Name x p3) "append" apos) [e] [] cpos) (mAppend i m) :=
  ⟨fun W tk => PE.imp (pe_bm PySem.F.plainAttrs_list PySem.F.slot_list_append PySem.F.type_list_append mt_append hv (pa_cons (he.run W tk) pa_nil hs) hbase hfew hline hs hplain) fun σ H Q ⟨R, ρ, tm, hL, S, q⟩ => by
    unfold mAppend at q
    split at q
    · rename_i ts0 e0
      obtain ⟨u, e1, S1⟩ := S.take e0
      obtain ⟨a, xs, ea, hx, hlen⟩ := S1.front.nodeAt
      subst ea
      refine ⟨_, e1, .inl ⟨rfl, _, SqL.of hx⟩, R, ρ, tm, hL, S, (End.bind q).mono fun t ρ1 _ q w H1 S2 => ?_⟩
      split at q
      · rename_i ts e2
        by_cases hz : ts.length < 16000000
        · rw [if_pos hz] at q
          obtain ⟨w', e3, S3⟩ := S2.pop.take e2
          rw [e1] at e3
          cases e3
          obtain ⟨a', xs', ea, hx', hlen'⟩ := S3.front.nodeAt
          cases ea
          have S4 := (S2.take e2)
          obtain ⟨w', e3, S4⟩ := S4
          rw [e1] at e3
          cases e3
          have o := Own.append (S4.front.perm (List.Perm.cons _ (perm_mid (w, t) _ _))) hx'
          refine ⟨a, xs', w, rfl, rfl, hx', by rw [hlen', sizeLine_eq]; omega, ?_⟩
          have S5 := (Sta.back S4.fits S4.lent o).put S2.fits e1
          exact q .non _ (S5.with fun o => o.scal fun _ => rfl)
        · rw [if_neg hz] at q; exact q.elim
      · exact q.elim
    · exact q.elim⟩
end
end Q

set_option maxHeartbeats 1000000
/-! isinstance, repr, methods of data, module constants. -/
namespace Q
open PySem PySem.Spec PyProof.Rows L2

/-! ### isinstance(x, T), isinstance(x, (T1, T2)) -/
def D.tyN : D → String
  | .non => "NoneType"
  | .bl _ => "bool"
  | .int _ => "int"
  | .str _ => "str"
  | .tup _ => "tuple"
  | .lst _ => "list"
  | .fz _ => "list"
  | .glo _ => "?"
def isiB (a b : String) : Bool := a == b || (a == "bool" && b == "int")
def knownT : List String := ["NoneType", "bool", "int", "str", "tuple", "list"]
theorem kitB_all : ∀ a ∈ knownT, ∀ b ∈ ["bool", "int", "str", "tuple", "list", "dict"], kitB a b = some (isiB a b) := by decide +kernel
theorem tyx_of {G : Gx} {H : Hp} {d : D} {x : V} (r : Rep G H d x) (hd : d.tyN ≠ "?") : TyX G.K H x (.type d.tyN) ∧ d.tyN ∈ knownT := by
  have sq : ∀ {a : Addr} {xs : List V}, SqL G.K H a xs → TyX G.K H (.ref a) (.type "list") := fun {a xs} h => by
    rcases h with (h | ⟨o, h⟩) | ⟨o, its, n, h1, h2, h3⟩
    · exact .base (.lst h)
    · exact .base (.frz h)
    · exact .kList h1 h2
  cases d with
  | non => rw [show x = .non from r]; exact ⟨.base .non, by simp [knownT, D.tyN]⟩
  | bl b => rw [show x = .bl b from r]; exact ⟨.base (.bl b), by simp [knownT, D.tyN]⟩
  | int b => rw [show x = .int b from r]; exact ⟨.base (.int b), by simp [knownT, D.tyN]⟩
  | str b => rw [show x = .str b from r]; exact ⟨.base (.str b), by simp [knownT, D.tyN]⟩
  | tup ds =>
    obtain ⟨a, xs, e, h, _⟩ := r
    subst e
    refine ⟨?_, by simp [knownT, D.tyN]⟩
    rcases h with (h | ⟨o, h⟩) | ⟨o, its, n, h1, h2, h3⟩
    · exact .base (.tup h)
    · exact .fTuple h
    · exact .kTuple h1 h2
  | lst ds => obtain ⟨a, xs, e, h, _⟩ := r; subst e; exact ⟨.base (.lst h), by simp [knownT, D.tyN]⟩
  | fz ds => obtain ⟨a, xs, e, h, _⟩ := r; subst e; exact ⟨sq h, by simp [knownT, D.tyN]⟩
  | glo g => exact absurd rfl hd
def mIsi (ns : List String) (m : M T) : M T := fun ρ => (m ρ).bind fun t ρ1 => if t.toD.tyN = "?" then .stuck else .ok (.leaf (.bl (ns.any fun n => isiB t.toD.tyN n))) ρ1
section
variable {X : Cx} {L : List Nat} {e : Expr} {m : M T} {p p2 pos : Pos}
theorem ped_isi {n : String} {x : Str} (hg : Gl X "isinstance") (hm : X.mg "isinstance" = none) (hg2 : Gl X x) (hm2 : X.mg x = none) (hb : bootBuiltins x = some (.type n)) (hn : n ∈ ["bool", "int", "str", "tuple", "list", "dict"]) (he : PEd X L e m) (hx : x ≠ "__name__" := by decide) (hdb : (x == ("__debug__" : Str)) = false := by decide)
    (h1 : starEach [e, .Name x p2] X.env = (false, eval e X.env) :: starEach [.Name x p2] X.env := by rfl) (h2 : starEach [.Name x p2] X.env = (false, eval (.Name x p2) X.env) :: starEach [] X.env := by rfl)
    (hpl : (backTo pos (starEach [.Name x p2] X.env)).any (·.1) = false := by rfl) :
    PEd X L (.Call (.Name "isinstance" p) [e, .Name x p2] [] pos) (mIsi [n] m) :=
  ⟨fun W tk => PE.imp (pe_callB call_isi hg hm PyProof.Rows.boot_isinstance (pa_cons (he.run W tk) (pa_cons (pe_bltn (v := .ty n) hg2 hm2 hb rfl hx hdb) pa_nil h2) h1) (by decide) (by decide) h1 hpl) fun σ H Q ⟨R, ρ, tm, hL, S, q⟩ => ⟨R, ρ, tm, hL, S, (End.bind q).mono fun t ρ1 _ q v H1 S1 => by
    by_cases hz : t.toD.tyN = "?"
    · rw [if_pos hz] at q; exact q.elim
    · rw [if_neg hz] at q
      obtain ⟨k1, k2⟩ := tyx_of S1.front.repT hz
      refine ⟨v, .ty n, _, .type n, isiB t.toD.tyN n, rfl, .ty n, k1, kit_ty (kitB_all _ k2 _ hn), ?_⟩
      have e : ([n].any fun n => isiB t.toD.tyN n) = isiB t.toD.tyN n := by simp
      rw [e] at q
      exact q _ H1 (S1.pop.with fun o => o.scal fun _ => rfl)⟩⟩
theorem pa_tys {es : List Expr} : True := trivial
inductive TysR (X : Cx) : List Expr → List String → Prop
  | nil : TysR X [] []
  | cons {x : Str} {n : String} {p : Pos} {es : List Expr} {ns : List String} (hg2 : Gl X x) (hm2 : X.mg x = none) (hb : bootBuiltins x = some (.type n)) (hn : n ∈ ["bool", "int", "str", "tuple", "list", "dict"]) (hx : x ≠ "__name__") (hdb : (x == ("__debug__" : Str)) = false)
      (hs : starEach (.Name x p :: es) X.env = (false, eval (.Name x p) X.env) :: starEach es X.env) (r : TysR X es ns) : TysR X (.Name x p :: es) (n :: ns)
theorem TysR.pa {es : List Expr} {ns : List String} (h : TysR X es ns) : ∃ ta, PA X es ta ∧ (∀ σ H Q, Q (ns.map V.ty) H → ta σ H Q) := by
  induction h with
  | nil => exact ⟨_, pa_nil, fun σ H Q q => q⟩
  | cons hg2 hm2 hb hn hx hdb hs r ih =>
    obtain ⟨ta, h1, h2⟩ := ih
    exact ⟨_, pa_cons (pe_bltn (v := .ty _) hg2 hm2 hb rfl hx hdb) h1 hs, fun σ H Q q => h2 σ H _ q⟩
theorem kitAny_all {K : PySem.W.Frag} {a : String} (ha : a ∈ knownT) : ∀ {ns : List String}, (∀ n ∈ ns, n ∈ ["bool", "int", "str", "tuple", "list", "dict"]) → PySem.W.kitAny K (.type a) (ns.map Value.type) = some (ns.any fun n => isiB a n)
  | [], _ => kitAny_nil
  | n :: ns, h => kitAny_cons (kit_ty (kitB_all a ha n (h n List.mem_cons_self))) (fun e => by rw [kitAny_all ha fun n hn => h n (List.mem_cons_of_mem _ hn)]; simp [e]) (fun e => by simp [e])
theorem cls_all : ∀ ns : List String, Paired ClsV (ns.map V.ty) (ns.map Value.type)
  | [] => .nil
  | n :: ns => .cons (.ty n) (cls_all ns)
theorem ped_isiT {es : List Expr} {ns : List String} {k : Nat} (hg : Gl X "isinstance") (hm : X.mg "isinstance" = none) (hs : TysR X es ns) (hns : ∀ n ∈ ns, n ∈ ["bool", "int", "str", "tuple", "list", "dict"]) (hlen : ns.length ≤ 6) (he : PEd X L e m)
    (h1 : starEach [e, .Tuple es k p2] X.env = (false, eval e X.env) :: starEach [.Tuple es k p2] X.env := by rfl) (h2 : starEach [.Tuple es k p2] X.env = (false, eval (.Tuple es k p2) X.env) :: starEach [] X.env := by rfl)
    (hpl : (backTo pos (starEach [.Tuple es k p2] X.env)).any (·.1) = false := by rfl) :
    PEd X L (.Call (.Name "isinstance" p) [e, .Tuple es k p2] [] pos) (mIsi ns m) := by
  obtain ⟨ta, a1, a2⟩ := hs.pa
  exact ⟨fun W tk => PE.imp (pe_callB call_isiT hg hm PyProof.Rows.boot_isinstance (pa_cons (he.run W tk) (pa_cons (pe_tup a1) pa_nil h2) h1) (by decide) (by decide) h1 hpl) fun σ H Q ⟨R, ρ, tm, hL, S, q⟩ => ⟨R, ρ, tm, hL, S, (End.bind q).mono fun t ρ1 _ q v H1 S1 => by
    by_cases hz : t.toD.tyN = "?"
    · rw [if_pos hz] at q; exact q.elim
    · rw [if_neg hz] at q
      refine a2 σ H1 _ ⟨by rw [List.length_map]; exact line16 (by omega), fun tp htp => ?_⟩
      have S2 : Sta (gx X) R σ ρ1 (upd H1 tp (.tup (ns.map V.ty))) ((v, .leaf t.toD) :: tm) := by
        obtain ⟨F, o⟩ := (Sta.back S1.fits S1.lent S1.front.freeze).own
        exact ⟨S1.fits, S1.lent, F, (o.grow htp).1⟩
      obtain ⟨k1, k2⟩ := tyx_of S2.front.rep hz
      exact ⟨v, tp, _, _, _, _, rfl, upd_same, cls_all ns, k1, kitAny_all k2 hns, q _ _ (S2.pop.with fun o => o.scal fun _ => rfl)⟩⟩⟩

/-! ### module constants -/
theorem ped_glob {x : Str} {d : D} {v : V} {u : Value} (hg : Gl X x) (hm : X.mg x = some u) (hd : d.toV? = some v) (r : RelV v u) (hdb : (x == ("__debug__" : Str)) = false := by decide) : PEd X L (.Name x pos) (mC d) := ped_scal (pe_glob hg hm r hdb) hd

/-! ### repr(x), x a tuple or a list -/
def dispD : PyData → Bool
  | .list _ => true
  | .tuple _ => true
  | _ => false
mutual
/-- no longer than this is the text; none: not told -/
def costP : PyData → Option Nat
  | .none => some 4
  | .bool _ => some 5
  | .str z => if z.cps.toList.all (fun c => Nat.ble c 1114111) = true then some (10 * z.length + 2) else none
  | .tuple xs => (costPs xs).map (· + 2)
  | _ => none
def costPs : List PyData → Option Nat
  | [] => some 0
  | x :: xs => match costP x, costPs xs with
    | some a, some b => some (a + 2 + b)
    | _, _ => none
end
mutual
theorem costP_ok : ∀ (p : PyData) {n : Nat}, costP p = some n → p.shown.length ≤ n
  | .none, n, e => by
    simp only [costP, Option.some.injEq] at e
    subst e
    exact Nat.le_of_eq (by decide +kernel)
  | .bool b, n, e => by
    simp only [costP, Option.some.injEq] at e
    subst e
    cases b
    · exact Nat.le_of_eq (by decide +kernel)
    · exact Nat.le_trans (Nat.le_of_eq (by decide +kernel : (PyData.bool true).shown.length = 4)) (by decide)
  | .str z, n, e => by
    simp only [costP] at e
    split at e
    · rename_i h
      cases e
      exact StrLaws.reprText_len z fun c hc => by
        have := Nat.le_of_ble_eq_true (List.all_eq_true.mp h c hc)
        omega
    · cases e
  | .tuple xs, n, e => by
    simp only [costP] at e
    cases e2 : costPs xs with
    | none => rw [e2] at e; cases e
    | some m =>
      rw [e2] at e
      cases e
      have h1 := fmt_text (PyData.shownAll xs)
      have h2 := costPs_ok xs e2
      show (tupleText (PyData.shownAll xs)).length ≤ m + 2
      omega
  | .int _, n, e => by simp [costP] at e
  | .list _, n, e => by simp [costP] at e
  | .dict _, n, e => by simp [costP] at e
theorem costPs_ok : ∀ (ps : List PyData) {n : Nat}, costPs ps = some n → piled (PyData.shownAll ps) ≤ n
  | [], n, e => by simp only [costPs, Option.some.injEq] at e; subst e; exact Nat.le_refl _
  | p :: ps, n, e => by
    simp only [costPs] at e
    cases e1 : costP p with
    | none => rw [e1] at e; cases e
    | some a =>
      cases e2 : costPs ps with
      | none => rw [e1, e2] at e; cases e
      | some b =>
        rw [e1, e2] at e
        cases e
        have h1 := costP_ok p e1
        have h2 := costPs_ok ps e2
        show piled (p.shown :: PyData.shownAll ps) ≤ _
        rw [piled_cons]
        omega
end
def fitsP (p : PyData) : Bool := match costP p with
  | some c => decide (c ≤ big)
  | none => decide (p.shown.length ≤ big)
theorem fitsP_ok {p : PyData} (h : fitsP p = true) : p.shown.length ≤ big := by
  unfold fitsP at h
  split at h
  · rename_i c e
    exact Nat.le_trans (costP_ok p e) (of_decide_eq_true h)
  · exact of_decide_eq_true h
def fRepr : List D → Option D
  | [d] => match d.toP with
    | some p => if (dispD p && p.showable && !p.hasDict && decide (p.depth ≤ 60) && fitsP p) = true then some (.str p.shown) else none
    | none => none
  | _ => none
theorem sc_fRepr : ∀ ds d, fRepr ds = some d → ∃ v, d.toV? = some v := fun ds d e => by
  unfold fRepr at e
  split at e
  · split at e
    · split at e
      · cases e; exact ⟨_, rfl⟩
      · cases e
    · cases e
  · cases e
theorem c_fRepr (hgd : X.A.guards = some []) (hu : X.A.units + 64 < cLine) : CallR X (.builtin "repr") (rSn (gx X) fRepr) := by
  intro pins s σ H xs us Q I r ⟨ds, d, v, rs, ef, ev, q⟩
  unfold fRepr at ef
  split at ef
  · rename_i d'
    split at ef
    · rename_i p ep
      split at ef
      · rename_i hz
        cases ef
        cases ev
        obtain ⟨x, rfl, rx⟩ := reps_one rs
        simp only [Bool.and_eq_true, decide_eq_true_eq, Bool.not_eq_true'] at hz
        obtain ⟨⟨⟨⟨h1, h2⟩, h3⟩, h4⟩, h5⟩ := hz
        have h5 := fitsP_ok h5
        obtain ⟨u, rfl, ru⟩ := r.one
        obtain ⟨as, rd⟩ := Dp.reads I p x u (toP_dp d' ep rx) ru
        have hu' : ∃ a, u = .ref a := by
          cases rd with
          | list _ _ _ _ => exact ⟨_, rfl⟩
          | tuple _ _ _ _ => exact ⟨_, rfl⟩
          | _ => cases h1
        obtain ⟨a, rfl⟩ := hu'
        exact repr_of_reads' rd h2 (PyData.noDict_hsm h3) hgd (by omega) (fun _ _ e => e) (fun h' u tk hk => ⟨.str p.shown, H, I.kept (t' := tk) hk, ⟨_, rfl⟩, q⟩) (Nat.le_trans h5 big_line)
      · cases ef
    · cases ef
  · cases ef

/-! ### methods of data -/
def rMt (G : Gx) (f : D → List D → Option T) : V → List V → Hp → VK → Prop := fun x xs H Q => ∃ R its dx ds t, xs.length = ds.length ∧ Own G R H ((x, .leaf dx) :: (xs.zip (ds.map T.leaf) ++ its)) ∧ f dx ds = some t ∧ ∀ v H', Own G R H' ((v, t) :: its) → Q v H'
def mMt (ty : String) (f : D → List D → Option T) (mo : M T) (ms : List (M T)) : M T := fun ρ => (mo ρ).bind fun t ρ1 => if t.toD.tyN = ty ∧ ty = "str" then (mArgs ms ρ1).bind fun ts ρ2 => match f t.toD (ts.map T.toD) with
    | some u => .ok u ρ2
    | none => .stuck
  else .stuck
/-- the first place of c -/
def idx1 (c : Nat) : List Nat → Nat → Option Nat
  | [], _ => none
  | x :: r, i => if x = c then some i else idx1 c r (i + 1)
section
open Builtin Builtin.Str StrLaws
theorem occ_stay (x y : Str) (hi : Nat) (k : Nat) : ∀ (l : List Nat) (f : Nat), (forIn l ((#[k] : Array Nat), f) (occBody x y hi 1)).run.fst = #[k]
  | [], f => rfl
  | a :: l, f => by
    rw [List.forIn_cons]
    unfold occBody
    rw [if_neg fun h => by simp at h]
    exact occ_stay x y hi k l f
theorem occ_first (x : Str) (c : Nat) : ∀ (n k f : Nat) (l : List Nat), x.cps.toList.drop k = l → l.length ≤ n → f ≤ k → (forIn (List.range' k n) ((#[] : Array Nat), f) (occBody x ⟨#[c]⟩ x.length 1)).run.fst.toList = match idx1 c l k with
    | some i => [i]
    | none => []
  | 0, k, f, l, h1, h2, h3 => by
    obtain rfl : l = [] := List.length_eq_zero_iff.mp (by omega)
    rfl
  | n + 1, k, f, l, h1, h2, h3 => by
    rw [List.range'_succ, List.forIn_cons]
    have iff := subAt_one x c k
    have at0 : x.cps.toList[k]? = l[0]? := by rw [← h1, List.getElem?_drop]; rfl
    have tl : x.cps.toList.drop (k + 1) = l.tail := by rw [← h1, List.tail_drop]
    by_cases hc : l[0]? = some c
    · have h := iff.mpr (at0.trans hc)
      unfold occBody
      rw [if_pos ⟨⟨⟨by simp, h3⟩, h.1⟩, h.2⟩]
      show (forIn (List.range' (k + 1) n) ((#[] : Array Nat).push k, _) (occBody x ⟨#[c]⟩ x.length 1)).run.fst.toList = _
      have e := occ_stay x ⟨#[c]⟩ x.length k (List.range' (k + 1) n) (k + (⟨#[c]⟩ : Str).length)
      show (forIn (List.range' (k + 1) n) ((#[k] : Array Nat), _) (occBody x ⟨#[c]⟩ x.length 1)).run.fst.toList = _
      rw [e]
      cases l with
      | nil => simp at hc
      | cons a r => simp at hc; subst hc; simp [idx1]
    · unfold occBody
      rw [if_neg fun h => hc (at0.symm.trans (iff.mp ⟨h.1.2, h.2⟩))]
      show (forIn (List.range' (k + 1) n) ((#[] : Array Nat), f) (occBody x ⟨#[c]⟩ x.length 1)).run.fst.toList = _
      rw [occ_first x c n (k + 1) f l.tail tl (by rw [List.length_tail]; omega) (by omega)]
      cases l with
      | nil => rfl
      | cons a r =>
        have : ¬ a = c := fun e => hc (by rw [e]; rfl)
        simp [idx1, this]
theorem occ_idx (x : Str) (c : Nat) : occurrences x ⟨#[c]⟩ 0 x.length 1 = match idx1 c x.cps.toList 0 with
    | some i => [i]
    | none => [] := by
  rw [occ_eq]
  exact occ_first x c _ 0 0 _ List.drop_zero (by have : x.length = x.cps.size := rfl; simp; omega) (Nat.le_refl _)
end
/-- s.index(t) -/
def sIdx (a b : Str) : Option Nat := match b.cps.toList with
  | [c] => idx1 c a.cps.toList 0
  | _ => (Builtin.Str.occurrences a b 0 a.length 1).head?
theorem sIdx_ok {a b : Str} {i : Nat} (h : sIdx a b = some i) : ∃ r, Builtin.Str.occurrences a b 0 a.length 1 = i :: r := by
  unfold sIdx at h
  split at h
  · rename_i c ec
    have : b = ⟨#[c]⟩ := by
      obtain ⟨⟨l⟩⟩ := b
      simp only at ec
      rw [ec]
    rw [this, occ_idx, h]
    exact ⟨[], rfl⟩
  · cases e : Builtin.Str.occurrences a b 0 a.length 1 with
    | nil => rw [e] at h; cases h
    | cons j r => rw [e] at h; cases h; exact ⟨r, rfl⟩
def fIndexS : D → List D → Option T
  | .str a, [.str b] => (sIdx a b).map fun i => .leaf (.int (i : Nat))
  | _, _ => none
theorem mt_fIndexS : MtR X "str.index" (rMt (gx X) fIndexS) := by
  intro pins s σ H x xs v us Q I rx rs ⟨R, its, dx, ds, t, hl, o, ef, q⟩
  unfold fIndexS at ef
  split at ef
  · rename_i a b
    cases ei : sIdx a b with
    | none => rw [ei] at ef; cases ef
    | some i =>
      rw [ei] at ef
      cases ef
      obtain ⟨rest, eo⟩ := sIdx_ok ei
      obtain ⟨F, o⟩ := o
      have ex : x = .str a := o.head
      cases xs with
      | nil => cases hl
      | cons y r =>
        cases r with
        | cons _ _ => simp at hl
        | nil =>
          have o1 : OwnF (gx X) R H ((y, .leaf (.str b)) :: its) F := o.tail
          have ey : y = .str b := o1.head
          exact mt_sindex pins s σ H x [y] v us Q I rx rs ⟨a, b, i, rest, ex, by rw [ey], eo, q _ H ⟨F, o1.tail.add rfl⟩⟩
  · cases ef
theorem ped_mtS {o e : Expr} {es : List Expr} {f : D → List D → Option T} {mo : M T} {ms : List (M T)} {name : Str} {id : String} {apos cpos : Pos} (slot : Slot "str" name id) (hty : typeOf (.builtin id) = pure (.type "method_descriptor")) (hm : MtR X id (rMt (gx X) f)) (ho : PEd X L o mo) (ha : PAd X L (e :: es) ms)
    (hbase : attributeBase o name X.env (eval o X.env) = eval o X.env := by rfl)
    (hfew : ((backTo cpos (starEach (e :: es) X.env)).all (fun x => !x.1) && (backToKw cpos (keywordEach [] X.env)).all (fun x => x.1.isSome)
      && decide ((e :: es).length + ([] : List Keyword).length + (if ([] : List Keyword).isEmpty then 0 else 1) < 30)) = true := by rfl)
    (hline : (apos.endLine == cpos.line) = true := by rfl) (hs : starEach (e :: es) X.env = (false, eval e X.env) :: starEach es X.env := by rfl) (hplain : (backTo cpos (starEach es X.env)).any (·.1) = false := by rfl) :
    PEd X L (.Call (.Attribute o name apos) (e :: es) [] cpos) (mMt "str" f mo ms) :=
  ⟨fun W tk => PE.imp (pe_bm PySem.F.plainAttrs_str slot hty hm (ho.run W tk) (ha.run W tk) hbase hfew hline hs hplain) fun σ H Q ⟨R, ρ, tm, hL, S, q⟩ => ⟨R, ρ, tm, hL, S, (End.bind q).mono fun t ρ1 _ q x H1 S1 => by
    by_cases hz : t.toD.tyN = "str" ∧ "str" = "str"
    · rw [if_pos hz] at q
      have rx := S1.front.repT
      have S1' : Sta (gx X) R σ ρ1 H1 ((x, .leaf t.toD) :: tm) := Sta.back S1.fits S1.lent S1.front.freeze
      cases ed : t.toD with
      | str z =>
        rw [ed] at rx q S1'
        obtain rfl : x = .str z := rx
        refine ⟨rfl, R, ρ1, (.str z, .leaf (.str z)) :: tm, hL, S1', ((End.bind q).push _).mono fun ts ρ2 _ q vs H2 hl S2 => ?_⟩
        cases ef : f (.str z) (ts.map T.toD) with
        | none => rw [ef] at q; exact q.elim
        | some u =>
          rw [ef] at q
          obtain ⟨o1, _⟩ := own_reps hl (S2.frontL)
          refine ⟨R, items σ ρ2 ++ tm, .str z, ts.map T.toD, u, by rw [List.length_map]; exact hl, o1.perm ?_, ef, fun v H' o => q v H' (Sta.back S2.fits S2.lent o)⟩
          have p1 : ((vs.zip ((ts.map T.toD).map T.leaf)) ++ (items σ ρ2 ++ (V.str z, T.leaf (.str z)) :: tm)).Perm ((vs.zip ((ts.map T.toD).map T.leaf)) ++ ((V.str z, T.leaf (.str z)) :: (items σ ρ2 ++ tm))) := List.Perm.append_left _ (perm_mid _ _ _)
          exact p1.trans (perm_mid _ _ _)
      | _ => rw [ed] at hz; exact absurd hz.1 (by simp [D.tyN])
    · rw [if_neg hz] at q; exact q.elim⟩⟩
end
end Q

set_option maxHeartbeats 1000000
/-! try with clauses. -/
namespace Q
open PySem PySem.Spec PyProof.Rows L2
abbrev Tab := List (Str × List Str)
structure Hd where
  cls : Str
  slot : Option Nat
  run : Str → D → SM
def SRes.noX : SRes → SRes
  | .exc _ _ _ _ => .stuck
  | r => r
def SRes.wipe (i : Nat) : SRes → SRes
  | .nx ρ => .nx (wipeE ρ [i])
  | .bk ρ => .bk (wipeE ρ [i])
  | .ct ρ => .ct (wipeE ρ [i])
  | r => r
def mHs (sups : List Str) : List Hd → Str → Str → D → SM
  | [], c, f, d, ρ => .exc c f d ρ
  | h :: r, c, f, d, ρ => if h.cls ∈ sups then (match h.slot with
      | none => (h.run f d ρ).noX
      | some i => ((h.run f d (wipeE ρ [i])).noX).wipe i) else mHs sups r c f d ρ
def mTry (tab : Tab) (b : SM) (hs : List Hd) : SM := fun ρ => match b ρ with
  | .exc c f d ρ1 => match tab.find? (fun p => decide (p.1 = c)) with
    | some p => mHs p.2 hs c f d ρ1
    | none => .stuck
  | r => r
def TSx (G : Gx) (tab : Tab) (L : List Nat) (o : Option Nat) (sm : Str → D → SM) (a : Addr) (cls : Value) (d : Option Addr) : TS := fun D σ H =>
  ∃ (R : Fr) (ρ : Env) (tm : List Item) (c f : Str) (dv : Q.D) (C dd : Addr) (v : V), R.lent.map (·.1) = L ∧ cls = .ref C ∧ G.mg c = some (.ref C) ∧ (∃ s, (c, s) ∈ tab) ∧ d = some dd ∧ H dd = some (.xd [(f, v)]) ∧ (∀ i, o = some i → i < σ.length → σ[i]? = some (some (.ref a))) ∧
    Sta G R σ ρ H ((v, .leaf dv) :: tm) ∧ EndS G R tm W0 D (sm f dv ρ).noX
def SuD (X : Cx) (tab : Tab) (L : List Nat) (o : Option Nat) (suite : List Stmt) (sm : Str → D → SM) : Prop :=
  ∀ (a : Addr) (oe : Obj) (cls : Value) (d : Option Addr) (pn : List (Addr × Obj)), L2N.Zn cls d oe → (∃ vs, oe.data = .fields vs) → PSs (X.suite a ((a, oe) :: pn)) suite (TSx (gx X) tab L o sm a cls d)
inductive HdsD (X : Cx) (tab : Tab) (L : List Nat) : List ExceptHandler → List Hd → Prop
  | nil : HdsD X tab L [] []
  | plain {x : Str} {np pos' : Pos} {b₀ : Stmt} {suite : List Stmt} {hds : List ExceptHandler} {hs : List Hd} {sm : Str → D → SM} {C : Addr} (hm : X.mg x = some (.ref C)) (hg : Gl X x) (hdb : (x == ("__debug__" : Str)) = false) (su : SuD X tab L none (b₀ :: suite) sm) (r : HdsD X tab L hds hs) :
      HdsD X tab L (.ExceptHandler (some (.Name x np)) none (b₀ :: suite) pos' :: hds) (⟨x, none, sm⟩ :: hs)
  | named {x n : Str} {i : Nat} {np pos' : Pos} {b₀ : Stmt} {suite : List Stmt} {hds : List ExceptHandler} {hs : List Hd} {sm : Str → D → SM} {C : Addr} (hi : X.N[i]? = some n) (hiL : i ∉ L) (hln : X.env.kindOf n = some .local) (hm : X.mg x = some (.ref C)) (hg : Gl X x) (hdb : (x == ("__debug__" : Str)) = false)
      (su : SuD X tab L (some i) (b₀ :: suite) sm) (r : HdsD X tab L hds hs) :
      HdsD X tab L (.ExceptHandler (some (.Name x np)) (some n) (b₀ :: suite) pos' :: hds) (⟨x, some i, sm⟩ :: hs)
/-- the table of classes is the module's -/
def TabOk (K : PySem.W.Frag) (mg : Str → Option Value) (tab : Tab) (hs : List Str) : Prop := ∀ p ∈ tab, ∀ h ∈ hs, ∀ C Ch, mg p.1 = some (.ref C) → mg h = some (.ref Ch) → PySem.W.exmOne K (.ref C) (.ref Ch) = some (decide (h ∈ p.2))
theorem wipeE_none' {ρ : Env} {i : Nat} : ∀ t, (wipeE ρ [i])[i]? ≠ some (some t) := wipeE_none (vs := [i]) List.mem_cons_self
theorem Sta.slot {G : Gx} {R : Fr} {σ : L2.St} {ρ : Env} {H : Hp} {tm : List Item} {i : Nat} (x : Option V) (S : Sta G R σ ρ H tm) (hi : i ∉ R.lent.map (·.1)) : Sta G R (σ.set i x) (wipeE ρ [i]) H tm := by
  have S1 := S.forget [i]
  obtain ⟨e1, e2⟩ := items_irrel (σ := σ) (ρ := wipeE ρ [i]) (i := i) x wipeE_none'
  refine ⟨e2.mpr S1.fits, fun p hp => ?_, by rw [e1]; exact S1.own⟩
  rw [List.getElem?_set_ne fun z => hi (by rw [z]; exact List.mem_map_of_mem hp)]
  exact S1.lent p hp
theorem EndS.wipe {G : Gx} {R : Fr} {tm : List Item} {W : WX} {D : Ends} {i : Nat} (hi : i ∉ R.lent.map (·.1)) : ∀ {r : SRes}, EndS G R tm W D (r.noX.wipe i) → EndS G R tm W0 (Ends.wipe D i) r.noX
  | .nx ρ, h => fun σ H S => h _ H (S.slot none hi)
  | .bk ρ, h => fun σ H S => h _ H (S.slot none hi)
  | .ct ρ, h => fun σ H S => h _ H (S.slot none hi)
  | .rt t ρ, h => h
  | .exc _ _ _ _, h => h.elim
  | .stuck, h => h.elim
theorem EndS.noX {G : Gx} {R : Fr} {tm : List Item} {W : WX} {D : Ends} : ∀ {r : SRes}, EndS G R tm W D r.noX → EndS G R tm W0 D r.noX
  | .nx ρ, h => h
  | .bk ρ, h => h
  | .ct ρ, h => h
  | .rt t ρ, h => h
  | .exc _ _ _ _, h => h.elim
  | .stuck, h => h.elim
theorem EndS.drop {G : Gx} {R : Fr} {tm : List Item} {W : WX} {D : Ends} (p : Item) : ∀ {r : SRes}, EndS G R tm W D r.noX → EndS G R (p :: tm) W D r.noX
  | .nx ρ, h => fun σ H S => h σ H S.pop
  | .bk ρ, h => fun σ H S => h σ H S.pop
  | .ct ρ, h => fun σ H S => h σ H S.pop
  | .rt t ρ, h => fun v σ H S => h v σ H (Sta.back S.fits S.lent (((S.front.perm (List.Perm.cons _ (perm_mid _ _ _))).perm (.swap _ _ _)).drop))
  | .exc _ _ _ _, h => h.elim
  | .stuck, h => h.elim
theorem hds_ok {X : Cx} {tab : Tab} {L : List Nat} {W : WX} {D : Ends} : ∀ {hds : List ExceptHandler} {hs : List Hd}, HdsD X tab L hds hs → ∃ l, HdsM X hds l ∧
    (∀ (p : Str × List Str) (D : Ends) (W : WX) (f : Str) (dv : Q.D) (ρ : Env) (R : Fr) (σ : L2.St) (tm : List Item) (C a : Addr) (v : V) (H : Hp), TabOk X.K X.mg tab (hs.map (·.cls)) → p ∈ tab → R.lent.map (·.1) = L → X.mg p.1 = some (.ref C) → H a = some (.xd [(f, v)]) →
      Sta (gx X) R σ ρ H ((v, .leaf dv) :: tm) → EndS (gx X) R tm W D (mHs p.2 hs p.1 f dv ρ) → wMix X.K W D l (.ref C) (some a) σ H) := by
  intro hds hs h
  induction h with
  | nil => exact ⟨[], .nil, fun p D W f dv ρ R σ tm C a v H _ _ _ hm ha S q => q σ C a v H hm ha S⟩
  | @plain x np pos' b₀ suite hds hs sm Ch hm hg hdb su r ih =>
    obtain ⟨l, h1, h2⟩ := ih
    refine ⟨_, .plain ⟨hg, hdb, .inl hm⟩ su h1, fun p D W f dv ρ R σ tm C a v H T hp hL hC ha S q => ?_⟩
    refine ⟨_, T p hp x List.mem_cons_self C Ch hC hm, fun hb a' na => ?_, fun hb => ?_⟩
    · rw [mHs, if_pos (of_decide_eq_true hb)] at q
      exact ⟨R, ρ, tm, p.1, f, dv, C, a, v, hL, rfl, hC, ⟨p.2, hp⟩, rfl, ha, fun i z => (nomatch z), S, q.noX⟩
    · rw [mHs, if_neg (of_decide_eq_false hb)] at q
      exact h2 p D W f dv ρ R σ tm C a v H (fun p hp h hh => T p hp h (List.mem_cons_of_mem _ hh)) hp hL hC ha S q
  | @named x n i np pos' b₀ suite hds hs sm Ch hi hiL hln hm hg hdb su r ih =>
    obtain ⟨l, h1, h2⟩ := ih
    refine ⟨_, .named hi hln ⟨hg, hdb, .inl hm⟩ su h1, fun p D W f dv ρ R σ tm C a v H T hp hL hC ha S q => ?_⟩
    refine ⟨_, T p hp x List.mem_cons_self C Ch hC hm, fun hb a' na => ?_, fun hb => ?_⟩
    · rw [mHs, if_pos (of_decide_eq_true hb)] at q
      refine ⟨R, wipeE ρ [i], tm, p.1, f, dv, C, a, v, hL, rfl, hC, ⟨p.2, hp⟩, rfl, ha, fun j z hlt => ?_, S.slot _ (by rw [hL]; exact hiL), EndS.wipe (by rw [hL]; exact hiL) q⟩
      cases z
      rw [List.length_set] at hlt
      rw [List.getElem?_set_self hlt]
    · rw [mHs, if_neg (of_decide_eq_false hb)] at q
      exact h2 p D W f dv ρ R σ tm C a v H (fun p hp h hh => T p hp h (List.mem_cons_of_mem _ hh)) hp hL hC ha S q
section
variable {X : Cx} {tab : Tab} {L : List Nat} {body : List Stmt} {h₀ : ExceptHandler} {hds : List ExceptHandler} {hs : List Hd} {mb : SM} {pos : Pos}
theorem psd_try (hst : X.stack = X.env :: X.outer) (hf : X.env.frame = some X.env.locals) (hN : X.N.Nodup) (hb : ∀ pn xe, PBd (X.tr pn xe) L body mb) (hh : HdsD X tab L (h₀ :: hds) hs) (T : TabOk X.K X.mg tab (hs.map (·.cls))) : PSd X L (.Try body (h₀ :: hds) [] [] pos) (mTry tab mb hs) := by
  obtain ⟨l, h1, h2⟩ := hds_ok (W := W0) (D := ⟨fun _ _ => False, fun _ _ => False, fun _ _ => False, fun _ _ => False⟩) hh
  refine ⟨fun W tk _ => PS.imp (ps_try_mix (tb := fun W => TSm (gx X) L W mb) hst hf hN tk (fun W pn xe tk' hp => (hb pn xe).run W tk' hp) h1) fun D σ H ⟨R, ρ, tm, hL, S, q⟩ => ⟨R, ρ, tm, hL, S, ?_⟩⟩
  unfold mTry at q
  cases e : mb ρ with
  | nx ρ1 => rw [e] at q; exact q
  | rt t ρ1 => rw [e] at q; exact q
  | bk ρ1 => rw [e] at q; exact q
  | ct ρ1 => rw [e] at q; exact q
  | stuck => rw [e] at q; exact q
  | exc c f d ρ1 =>
    rw [e] at q
    intro σ1 C a v H' hm ha S'
    simp only at q
    cases et : tab.find? (fun p => decide (p.1 = c)) with
    | none => rw [et] at q; exact q.elim
    | some p =>
      rw [et] at q
      have hp := List.mem_of_find?_eq_some et
      have hc : p.1 = c := of_decide_eq_true (List.find?_some (p := fun p : Str × List Str => decide (p.1 = c)) et)
      subst hc
      exact h2 p D W f d ρ1 R σ1 tm C a v H' T hp hL hm ha S' q
/-- a suite that does not look at the exception -/
theorem sud_plain {o : Option Nat} {suite : List Stmt} {m : SM} (h : ∀ a pn, PBd (X.suite a pn) L suite m) : SuD X tab L o suite fun _ _ => m := fun a oe cls d pn hz hf =>
  PSs.imp ((h a ((a, oe) :: pn)).run W0 tk0 PassesOwn.never) fun D σ H ⟨R, ρ, tm, c, f, dv, C, dd, v, hL, _, _, _, _, _, _, S, q⟩ => ⟨R, ρ, _, hL, S, by
    have q : EndS (gx X) R tm W0 D (m ρ).noX := q
    have q2 := EndS.drop (v, .leaf dv) q
    cases e : m ρ with
    | exc => rw [e] at q2; exact q2.elim
    | _ => rw [e] at q2; exact q2⟩
/-- x, y = 'lit', err.f -/
theorem sud_pair {i j n : Nat} {x y err f s : Str} {kt k2 kc : Nat} {px py pe pa pc pt p2 pos : Pos} (hN : X.N.Nodup) (hi : i ∉ L) (hj : j ∉ L) (hx : SwN X i x) (hy : SwN X j y) (hX : ∀ p ∈ tab, ∀ C, X.mg p.1 = some (.ref C) → XfC X.K C ∧ PySem.W.findIn X.K (.ref C) f = some none)
    (hn : X.N[n]? = some err) (hv : ∀ a pn, PE (X.suite a pn) (.Name err pe) (tVar n))
    (hb : attributeBase (.Name err pe) f X.env (eval (.Name err pe) X.env) = eval (.Name err pe) X.env := by rfl)
    (hq1 : starEach [.Constant (.str s) kc pc, .Attribute (.Name err pe) f pa] X.env = (false, eval (.Constant (.str s) kc pc) X.env) :: starEach [.Attribute (.Name err pe) f pa] X.env := by rfl)
    (hq2 : starEach [.Attribute (.Name err pe) f pa] X.env = (false, eval (.Attribute (.Name err pe) f pa) X.env) :: starEach [] X.env := by rfl)
    (hw : swappedStores [.Tuple [.Name x px, .Name y py] kt pt] (.Tuple [.Constant (.str s) kc pc, .Attribute (.Name err pe) f pa] k2 p2) X.env = pure (some [x, y]))
    (hs : swapsWithSole [.Tuple [.Name x px, .Name y py] kt pt] (.Tuple [.Constant (.str s) kc pc, .Attribute (.Name err pe) f pa] k2 p2) pos.line X.env = pure false := by rfl) :
    SuD X tab L (some n) [.Assign [.Tuple [.Name x px, .Name y py] kt pt] (.Tuple [.Constant (.str s) kc pc, .Attribute (.Name err pe) f pa] k2 p2) pos] fun f' dv ρ => if f' = f then putL [(j, .leaf dv), (i, .leaf (.str s))] ρ else .stuck := fun a oe cls d pn hz hf =>
  ⟨fun pins s0 σ H D I h => by
    obtain ⟨R, ρ, tm, c, f', dv, C, dd, v, hL, e1, hm, ⟨sups, ht⟩, e2, hdd, hsl, S, q⟩ := h
    obtain ⟨Xf, hno⟩ := hX _ ht C hm
    have hot : L2H.HotC (X.suite a ((a, oe) :: pn)) := ⟨(a, oe), ⟨rfl, by obtain ⟨vs, hd⟩ := hf; exact ⟨vs, hd, hz.2.2 vs hd⟩⟩, List.mem_cons_self⟩
    by_cases ef : f' = f
    · subst ef
      simp only [if_pos] at q
      refine (pss_one (ps_swap (X := X.suite a ((a, oe) :: pn)) (is := [i, j]) (xs := [x, y]) (.inr hot) hN (.cons hx (.cons hy .nil)) (pa_cons pe_str (pa_cons (pe_xf Xf hno hz.zc hf (hv a _) hb) pa_nil hq2) hq1) hw (by show 2 ≤ 3; omega) hs)).run pins s0 σ H D I ?_
      have hlt : n < σ.length := by rw [I.len]; exact (List.getElem?_eq_some_iff.mp hn).1
      have q' : EndS (gx X) R tm W0 D (putL [(j, .leaf dv), (i, .leaf (.str s))] ρ) := by
        cases e : putL [(j, .leaf dv), (i, .leaf (.str s))] ρ with
        | exc => rw [e] at q; exact q.elim
        | _ => rw [e] at q; exact q
      have S2 : Sta (gx X) R σ ρ H ([(j, v, T.leaf dv), (i, V.str s, T.leaf (.str s))].map (·.2) ++ tm) := by
        have S3 : Sta (gx X) R σ ρ H ((V.str s, T.leaf (.str s)) :: (v, .leaf dv) :: tm) := S.with fun o => o.scal fun _ => rfl
        exact S3.perm (.swap _ _ _)
      exact ⟨_, hsl n rfl hlt, rfl, e1, dd, _, v, e2, hdd, by simp [List.lookup], rfl, putL_ok (l := [(j, v, T.leaf dv), (i, V.str s, T.leaf (.str s))]) (D := D) (W := W0) (fun p hp => by
        rw [hL]
        rcases List.mem_cons.mp hp with e | hp
        · subst e; exact hj
        · rw [List.mem_singleton.mp hp]; exact hi) S2 q'⟩
    · simp only [if_neg ef] at q; exact q.elim⟩
end
end Q

set_option maxHeartbeats 1000000
/-! The module's facts by one hook, the law's end. -/
namespace Q
open PySem PySem.Spec PyProof.Rows L2 He

/-! ### own exception classes -/
def oexIn (K : PySem.W.Frag) (C : Addr) : Bool := match K.lookup C with
  | some ⟨.type "type", _, .cls cd, sl⟩ => (match cd.mro, sl.toList with
    | .ref D :: bm, [_, _, _, _, some (.builtin n), _] => D == C && (n == "ValueError.__new__" && (!cd.hasDel && (cd.hasDict && PySem.HandSPX.refsVE bm)))
    | _, _ => false)
  | _ => false
theorem oexIn_ok {K : PySem.W.Frag} {C : Addr} (h : oexIn K C = true) : ∃ nm q N bs bm sn sub ab col dd k0 k1 k2 k3 k5, K.lookup C = some (excClassObj nm q C N bs bm true sn sub ab col dd k0 k1 k2 k3 k5 "ValueError.__new__") ∧ PySem.HandSPX.refsVE bm = true := by
  unfold oexIn at h
  split at h
  · rename_i dd cd sl e
    split at h
    · rename_i D bm k0 k1 k2 k3 n k5 em es
      simp only [Bool.and_eq_true, beq_iff_eq, Bool.not_eq_true'] at h
      obtain ⟨rfl, rfl, h1, h2, h3⟩ := h
      obtain ⟨nm, bs, mro, ns, qn, hd, sn, sub, ab, col, del⟩ := cd
      dsimp only at em h1 h2
      subst em h1 h2
      have e2 : sl = #[k0, k1, k2, k3, some (.builtin "ValueError.__new__"), k5] := by cases sl; simp only at es; rw [es]
      subst e2
      exact ⟨nm, qn, ns, bs, bm, sn, sub, ab, col, dd, k0, k1, k2, k3, k5, e, h3⟩
    · cases h
  · cases h
/-- what is asked of an own exception class x whose __init__(self, f) keeps f -/
def xcIn (x f : Str) (K : PySem.W.Frag) : Bool :=
  (Fa.glo x).ok K && (oexIn K (ga K x) && (eqO (PySem.W.findIn K (.ref (ga K x)) "__setattr__") (some (some (.builtin "object.__setattr__"))) && (decide (PySem.W.typeIn K (.ref (ga K x)) = some (.type "type")) && (PySem.W.keepIn K (.ref (ga K x)) && (xfB K (ga K x) &&
    (eqO (PySem.W.findIn K (.ref (ga K x)) f) (some none) && (eqO (PySem.W.findIn K (.ref (ga K x)) "__init__") (some (some (.ref (ma K (ga K x) "__init__")))) && (decide (PySem.W.typeIn K (.ref (ma K (ga K x) "__init__")) = some (.type "function")) && PySem.W.keepIn K (.ref (ma K (ga K x) "__init__"))))))))))
/-- the classes and what they stand under -/
def tabIn (tab : Tab) (hs : List Str) (K : PySem.W.Frag) : Bool := tab.all (fun p => (Fa.glo p.1).ok K && hs.all fun h => (Fa.glo h).ok K && (Fa.exm p.1 h (decide (h ∈ p.2))).ok K)
def fldIn (tab : Tab) (f : Str) (K : PySem.W.Frag) : Bool := tab.all fun p => (Fa.glo p.1).ok K && (xfB K (ga K p.1) && eqO (PySem.W.findIn K (.ref (ga K p.1)) f) (some none))
theorem tab_ok {K : PySem.W.Frag} {h : Heap} {mg : Str → Option Value} {tab : Tab} {hs : List Str} (X : K.In h) (G : h.Ns mainGlobals mg) (c : tabIn tab hs K = true) : TabOk K mg tab hs := fun p hp x hx C Ch e1 e2 => by
  have c1 := List.all_eq_true.mp c p hp
  obtain ⟨g1, c2⟩ := ba c1
  obtain ⟨g2, c3⟩ := ba (List.all_eq_true.mp c2 x hx)
  have k1 := glo_ok X G g1
  have k2 := glo_ok X G g2
  rw [e1] at k1
  rw [e2] at k2
  cases k1
  cases k2
  exact exm_ok c3
theorem fld_ok {K : PySem.W.Frag} {h : Heap} {mg : Str → Option Value} {tab : Tab} {f : Str} (X : K.In h) (G : h.Ns mainGlobals mg) (c : fldIn tab f K = true) : ∀ p ∈ tab, ∀ C, mg p.1 = some (.ref C) → XfC K C ∧ PySem.W.findIn K (.ref C) f = some none := fun p hp C e1 => by
  obtain ⟨g1, c2⟩ := ba (List.all_eq_true.mp c p hp)
  have k1 := glo_ok X G g1
  rw [e1] at k1
  cases k1
  obtain ⟨c3, c4⟩ := ba c2
  exact ⟨xfB_ok c3, eqO_ok c4⟩

/-! ### the hook -/
abbrev Te : Type := PySem.W.Frag → Bool
def obsQ (ts : List Te) (fn : List FnD) (K : PySem.W.Frag) : Al := ((ts.all fun f => f K) && fn.all fun d => (Fa.code d.at_ d.qual).ok K && PySem.W.keepIn K (.ref (fAd K d.at_)), fn.map fun d => fnObs K d.at_)
def SaysQ (ts : List Te) (fn : List FnD) (K : PySem.W.Frag) : Prop := obsQ ts fn K = valE fn
def obsQG (n : Nat) (ts : List Te) (fn : List FnD) (g : Addr → Option Obj) : Al := obsQ ts fn (frG g (asG g n))
def hookQ (n : Nat) (ts : List Te) (fn : List FnD) : PySem.W.Hook where
  α := Al
  obs := fun s => obsQG n ts fn s.heap.get?
  val := fun _ => valE fn
  says := fun _ h => ∃ K : PySem.W.Frag, K.In h ∧ SaysQ ts fn K
  of := fun _ _ e => ⟨_, frG_in, e⟩
  keeps := fun _ _ _ ⟨K, hK, c⟩ k => ⟨K, PySem.W.Frag.In.keeps hK k, c⟩
theorem obsQG_eq {n : Nat} {ts : List Te} {fn : List FnD} {g : Addr → Option Obj} {s : Shared} (h : ∀ a, g a = s.heap.get? a) : obsQG n ts fn g = (hookQ n ts fn).obs s := by
  obtain rfl : g = s.heap.get? := funext h
  rfl
/-- the written part, the names, what was read of it -/
structure Mo (ts : List Te) (fn : List FnD) (K : PySem.W.Frag) (mg : Str → Option Value) : Prop where
  ex : ∃ h, K.In h ∧ h.Ns mainGlobals mg
  says : SaysQ ts fn K
section
variable {ts : List Te} {fn : List FnD} {K : PySem.W.Frag} {mg : Str → Option Value}
theorem Mo.fact (M : Mo ts fn K mg) (i : Nat) {f : Te} (h : ts[i]? = some f) : f K = true := by
  have c1 := (ba (show ((ts.all fun f => f K) && fn.all fun d => (Fa.code d.at_ d.qual).ok K && PySem.W.keepIn K (.ref (fAd K d.at_))) = true from congrArg (fun z : Al => z.1) M.says)).1
  exact List.all_eq_true.mp c1 f (List.mem_of_getElem? h)
theorem Mo.def_ (M : Mo ts fn K mg) (i : Nat) {d : FnD} (h : fn[i]? = some d) :
    (∃ oc od osl kV doc pm an cdv ct, K.lookup (fAd K d.at_) = some ⟨oc, od, .func (PySem.W.fnOf d.name d.qual d.params d.body d.scope .none kV doc pm an cdv ct), osl⟩ ∧ PySem.W.codeIn K cdv d.qual = true) ∧ PySem.W.keepIn K (.ref (fAd K d.at_)) = true := by
  have c2 := (ba (show ((ts.all fun f => f K) && fn.all fun d => (Fa.code d.at_ d.qual).ok K && PySem.W.keepIn K (.ref (fAd K d.at_))) = true from congrArg (fun z : Al => z.1) M.says)).2
  have e : fn.map (fun d => fnObs K d.at_) = fn.map FnD.val := congrArg (fun z : Al => z.2) M.says
  have e2 : (fn.map fun d => fnObs K d.at_)[i]? = (fn.map FnD.val)[i]? := by rw [e]
  rw [List.getElem?_map, List.getElem?_map, h] at e2
  obtain ⟨c3, c4⟩ := ba (List.all_eq_true.mp c2 d (List.mem_of_getElem? h))
  exact ⟨fn_ok (Option.some.inj e2) c3, c4⟩
theorem Mo.glo (M : Mo ts fn K mg) {x : Str} (i : Nat) (h : ts[i]? = some (Fa.ok · (.glo x))) : mg x = some (.ref (ga K x)) := by
  obtain ⟨hp, X, G⟩ := M.ex
  exact glo_ok X G (M.fact i h)
theorem Mo.free (M : Mo ts fn K mg) {x : Str} (i : Nat) (h : ts[i]? = some (Fa.ok · (.free x))) : mg x = none := by
  obtain ⟨hp, X, G⟩ := M.ex
  exact free_ok X G (M.fact i h)
theorem Mo.int (M : Mo ts fn K mg) {x : Str} {j : Int} (i : Nat) (h : ts[i]? = some (Fa.ok · (.int x j))) : ∃ t, mg x = some (.int j t) := by
  obtain ⟨hp, X, G⟩ := M.ex
  exact int_ok X G (M.fact i h)
theorem Mo.str (M : Mo ts fn K mg) {x z : Str} (i : Nat) (h : ts[i]? = some (Fa.ok · (.str x z))) : ∃ t, mg x = some (.str z t) := by
  obtain ⟨hp, X, G⟩ := M.ex
  exact str_ok X G (M.fact i h)
theorem Mo.tab (M : Mo ts fn K mg) {tab : Tab} {hs : List Str} (i : Nat) (h : ts[i]? = some (tabIn tab hs)) : TabOk K mg tab hs := by
  obtain ⟨hp, X, G⟩ := M.ex
  exact tab_ok X G (M.fact i h)
theorem Mo.fld (M : Mo ts fn K mg) {tab : Tab} {f : Str} (i : Nat) (h : ts[i]? = some (fldIn tab f)) : ∀ p ∈ tab, ∀ C, mg p.1 = some (.ref C) → XfC K C ∧ PySem.W.findIn K (.ref C) f = some none := by
  obtain ⟨hp, X, G⟩ := M.ex
  exact fld_ok X G (M.fact i h)
/-- a def of the text -/
def dOf (x : Str) (st : Stmt) : FnD := ⟨(x, none), x, x, defArgs st, defBody st, defScope st⟩
def iOf (C q : Str) (st : Stmt) : FnD := ⟨(C, some "__init__"), "__init__", q, defArgs st, defBody st, defScope st⟩
theorem Mo.fun_ (M : Mo ts fn K mg) {x : Str} {st : Stmt} (i : Nat) (h : fn[i]? = some (dOf x st)) : ∃ fd, Fun K x x st (ga K x) fd := by
  obtain ⟨⟨oc, od, osl, kV, doc, pm, an, cdv, ct, l, c⟩, k⟩ := M.def_ i h
  exact ⟨_, fun_mk (st := st) l c k⟩
/-- a def by its name -/
structure Good (P : Program) (w : World) (K : PySem.W.Frag) (mg : Str → Option Value) (base : Heap) (k : Nat) (x : Str) (ps : List Str) (lent : List Nat) (mf : List T → FRes) : Prop where
  nm : mg x = some (.ref (ga K x))
  ex : ∃ fd, FnG P w K mg base k (ga K x) fd ps (spF ⟨K, mg⟩ ps.length lent mf) ∧ Binds K fd ps [] ∧ PySem.W.keepIn K (.ref (ga K x)) = true
theorem good_of {P : Program} {w : World} {base : Heap} {x : Str} {st : Stmt} {N ps : List Str} {k : Nat} {lent : List Nat} {body : SM} (F : ∃ fd, Fun K x x st (ga K x) fd) (hm : mg x = some (.ref (ga K x))) (S : FnScope N ps (defScope st)) (hl : lent.Nodup) (hl2 : ∀ i ∈ lent, i < ps.length)
    (hbind : ∀ (kV doc pm : Value) (an : Option Addr) (cdv ct : Value) (us : List Value), us.length = ps.length → bindArgs (PySem.W.fnOf x x (defArgs st) (defBody st) (defScope st) .none kV doc pm an cdv ct) ⟨us, []⟩ = pure (ps.zip us))
    (hb : ∀ (cdv : Value) (A : Around) (outer : List PySem.Env) (s : Shared) (H : Hp) (E : XK), A.guards = some [] → Room k (A.deeper (envOfC x (defScope st) s.heap.objs.size (ga K x) cdv)) →
      PBd (cxOf (L2N.CX P w) P w K mg base N x (defScope st) (ga K x) cdv A outer s H E) lent (defBody st) body) : Good P w K mg base (k + 1) x ps lent (mkF lent N.length body) := by
  obtain ⟨fd, F⟩ := F
  exact ⟨hm, fd, fnd_ok F S hl hl2 hb, F.binds hbind, F.kp⟩
theorem Mo.exc {P : Program} {w : World} {base : Heap} (M : Mo ts fn K mg) {C f q : Str} {st : Stmt} {p1 p2 p3 p4 : Pos} (i j : Nat) (h : ts[i]? = some (xcIn C f)) (hd : fn[j]? = some (iOf C q st)) (S : FnScope ["self", f] ["self", f] (defScope st))
    (hb : defBody st = [.Assign [.Attribute (.Name "self" p1) f p2] (.Name f p3) p4]) (h1 : Vis (defScope st) "self") (h2 : Vis (defScope st) f) (hdb : (f == ("__debug__" : Str)) = false) (hdb2 : (f == ("__classdict__" : Str)) = false)
    (hbind : ∀ (kV doc pm : Value) (an : Option Addr) (cdv ct : Value) (us : List Value), us.length = (["self", f] : List Str).length → bindArgs (PySem.W.fnOf "__init__" q (defArgs st) (defBody st) (defScope st) .none kV doc pm an cdv ct) ⟨us, []⟩ = pure ((["self", f] : List Str).zip us)) :
    ExcC K mg P w base C f (ga K C) := by
  obtain ⟨hp, X, G⟩ := M.ex
  have c := M.fact i h
  obtain ⟨c1, c⟩ := ba c
  obtain ⟨c2, c⟩ := ba c
  obtain ⟨c3, c⟩ := ba c
  obtain ⟨c4, c⟩ := ba c
  obtain ⟨c5, c⟩ := ba c
  obtain ⟨c6, c⟩ := ba c
  obtain ⟨c7, c⟩ := ba c
  obtain ⟨c8, c⟩ := ba c
  obtain ⟨c9, c10⟩ := ba c
  have xf := xfB_ok c6
  have T : OexC K (ga K C) := ⟨oexIn_ok c2, eqO_ok c3, xf.exC, of_decide_eq_true c4, c5⟩
  obtain ⟨⟨oc, od, osl, kV, doc, pm, an, cdv, ct, l, cc⟩, k⟩ := M.def_ j hd
  have F : Fun K "__init__" q st (ma K (ga K C) "__init__") _ := fun_mk (st := st) l cc k
  exact ⟨glo_ok X G c1, T, xf, eqO_ok c7, _, _, eqO_ok c8, of_decide_eq_true c9, init_ok F S T (eqO_ok c7) hb h1 h2 hdb hdb2, F.binds hbind⟩
end
theorem u64 {k : Nat} {A : Around} (r : Room k A) : A.units + 64 < cLine := by have := r.un; omega
theorem u65 {k : Nat} {A : Around} (r : Room k A) : A.units + 65 < cLine := by have := r.un; omega
section
variable {X : Cx} {L : List Nat} {e : Expr} {es : List Expr} {as : List AM} {pos p : Pos} {k j : Nat} {ps : List Str} {lent : List Nat} {mf : List T → FRes} {x : Str}
theorem ped_go (g : Good X.prog X.w X.K X.mg X.base j x ps lent mf) (hgd : X.A.guards = some []) (hr : Room k X.A) (hj : j ≤ k) (hg : Gl X x) (ha : PCd X L (e :: es) as) (hlent : lendPos 0 as = lent) (hn : as.length = ps.length) (hdb : (x == ("__debug__" : Str)) = false := by decide)
    (he : starEach (e :: es) X.env = (false, eval e X.env) :: starEach es X.env := by rfl) (hpl : (backTo pos (starEach es X.env)).any (·.1) = false := by rfl) : PEd X L (.Call (.Name x p) (e :: es) [] pos) (mCall mf as) := by
  obtain ⟨fd, F, b, kp⟩ := g.ex
  exact ped_call (F.mono hj) hgd hr hg g.nm kp b ha hlent hn hdb he hpl
theorem ped_go0 (g : Good X.prog X.w X.K X.mg X.base j x [] [] mf) (hgd : X.A.guards = some []) (hr : Room k X.A) (hj : j ≤ k) (hg : Gl X x) (hdb : (x == ("__debug__" : Str)) = false := by decide) : PEd X L (.Call (.Name x p) [] [] pos) (mCall mf []) := by
  obtain ⟨fd, F, b, kp⟩ := g.ex
  exact ped_call0 (F.mono hj) hgd hr hg g.nm kp b hdb
theorem ped_gS {z : Str} (hg : Gl X x) (hm : ∃ t, X.mg x = some (.str z t)) (hdb : (x == ("__debug__" : Str)) = false := by decide) : PEd X L (.Name x pos) (mC (.str z)) := by
  obtain ⟨t, hm⟩ := hm
  exact ped_glob hg hm (d := .str z) rfl ⟨t, rfl⟩ hdb
theorem ped_gI {z : Int} (hg : Gl X x) (hm : ∃ t, X.mg x = some (.int z t)) (hdb : (x == ("__debug__" : Str)) = false := by decide) : PEd X L (.Name x pos) (mC (.int z)) := by
  obtain ⟨t, hm⟩ := hm
  exact ped_glob hg hm (d := .int z) rfl ⟨t, rfl⟩ hdb
theorem psd_setN {i : Nat} {y : Str} {py : Pos} {m : M T} (hN : X.N.Nodup) (hi : X.N[i]? = some y) (hx : Loc X.env.scope y) (hiL : i ∉ L) (he : PEd X L e m) (hs : swapsWith e (some (.Name y py)) pos.line X.env = pure false := by rfl)
    (hf : X.fn y = true ∨ X.env.scope.names.lookup y = some .local := by first | exact .inl rfl | exact .inr rfl) : PSd X L (.Assign [.Name y py] e pos) (mSet i m) := psd_set hiL he fun te he => ps_set hN hi hx he hs hf
theorem psd_setON {i : Nat} {y : Str} {py : Pos} {m : M T} (hN : X.N.Nodup) (hi : X.N[i]? = some y) (hx : Loc X.env.scope y) (hiL : i ∉ L) (he : PEd X L e m) (hs : swapsWith e (some (.Name y py)) pos.line X.env = pure false := by rfl)
    (hf : X.fn y = true ∨ X.env.scope.names.lookup y = some .local := by first | exact .inl rfl | exact .inr rfl) : PSd X L (.Assign [.Name y py] e pos) (mSetO i m) := psd_setO hiL he fun te he => ps_set hN hi hx he hs hf
theorem psd_asgT {tg : Expr} {g : TG} {t : TgM} {sl : List Nat} {m : M T} (hg : PGd X L sl tg g t) (he : PEd X L e m) (hs : swapsWithSole [tg] e pos.line X.env = pure false := by rfl) (hw : swappedStores [tg] e X.env = pure none := by rfl)
    (h1 : (assignEach [tg] X.env).map (·.2) = [assign tg X.env] := by rfl) : PSd X L (.Assign [tg] e pos) (mAsg t m) := psd_asg hg he fun te he => ps_asg he hg.pg hs hw h1
end
end Q
namespace Q
open PySem PySem.Spec PyProof.Rows L2 He
/-! ### the law's end -/
/-- the law's def meets its wish over a heap in which nothing but the script may be tracked -/
theorem lawG_core {P : Program} {w : World} {K : PySem.W.Frag} {mg mb : Str → Option Value} {k : Nat} {a : Addr} {nm x : Str} {m : List T → FRes} {s : Shared} {vs : List Value} {H : Hp} (KX : K.In s.heap) (hns : s.heap.Ns mainGlobals mg) (hb : s.heap.Ns builtinsNs mb) (hbb : ∀ x : Str, x ≠ "__name__" → mb x = bootBuiltins x)
    (hlim : s.heap.NoLimit) (hg : s.gens = #[]) (ha : s.heap.get? a = some { cls := .type "list", data := .seq vs.toArray }) (hr : Room k callerA) (F : ∀ base : Heap, K.In base → base.Ns mainGlobals mg → Good P w K mg base k nm [x] [] m)
    (hO : Only H) (hok : HOk P w H s.heap) (hA : ∀ b, H b ≠ none → b = a) (hK : H a ≠ none → K.lookup a = none) (hsp : spF ⟨K, mg⟩ 1 [] m [.ref a] H (fun v _ => v = .bl true) fun _ _ _ => False) :
    codeAny (model P w) callerA (.call (.ref (ga K nm)) ⟨[.ref a], []⟩) (fun r s' => r = .ok (.ret (.bool true)) ∧ OldK s.heap s'.heap ∧ s'.os = s.os ∧ AllBare s'.gens) s := by
  have only : ∀ {b : Addr} {o : Obj}, s.heap.get? b = some o → (∀ vs n, o.data ≠ .seq vs n) → H b = none := fun {b o} e hd => Classical.byContradiction fun q => by
    obtain rfl := hA b q
    rw [ha] at e
    cases e
    exact hd _ _ rfl
  have ns' : ∀ {b : Addr} {m : Str → Option Value}, s.heap.Ns b m → (hidT s.heap H).Ns b m := fun ⟨o, es, ep, e, d, r⟩ => ⟨o, es, ep, hidT_get e (only e fun _ _ z => by rw [d] at z; cases z), d, r⟩
  have kin : K.In (hidT s.heap H) := fun b o e => hidT_get (KX b o e) (Classical.byContradiction fun q => by
    obtain rfl := hA b q
    rw [hK q] at e
    cases e)
  obtain ⟨mc, c1, c2⟩ := hlim
  have e0 : Env0 P w K mg (hidT s.heap H) callerA [] s H :=
    ⟨rfl, ⟨kin, ns' hns, ⟨mb, ns' hb, hbb⟩, ⟨mc, ns' c1, c2⟩⟩, fun b o e => of_hidT e, Nat.le_of_eq (hidT_size _ _), trivial, fun b z => (nomatch (show b ∈ ([] : List Addr) from z)), hok, .of_eq hg⟩
  obtain ⟨fd, FG, hbind, _⟩ := (F _ kin (ns' hns)).ex
  refine codeAny_mono (FG.run callerA [] s H ⟨[.ref a], []⟩ [.ref a] [.ref a] _ _ rfl hr e0 (hbind s [.ref a] KX rfl) (.cons rfl .nil) hsp) fun r s' h => ?_
  rcases r with e | fl
  · obtain ⟨_, _, _, _, _, _, _, _, _, _, _, _, z⟩ := h
    exact z.elim
  · cases fl with
    | ret u =>
      obtain ⟨v, H', os, bare, un, hok', r', q⟩ := h
      obtain rfl : v = .bl true := q
      obtain rfl : u = Value.bool true := r'
      refine ⟨rfl, OldK.of_keep fun b o e => ?_, os, bare⟩
      rcases hO b with z | ⟨ob, xs, z⟩
      · exact un.keep b o e z (fun m => nomatch (show b ∈ ([] : List Addr) from m)) (fun m => nomatch m)
      · obtain ⟨e1, _⟩ := hok b _ z
        obtain ⟨e2, _⟩ := hok' b _ (un.frzs b ob _ z)
        rw [e] at e1
        cases e1
        exact e2
    | _ => exact False.elim h
theorem own_arg {G : Gx} {H : Hp} {v : V} {d : D} (h : Rep G H d v) (l : List (Nat × V)) : Own G ⟨H, [], [], l⟩ H [(v, .leaf d)] :=
  ⟨[], List.nodup_nil, ⟨[], [], rfl, ⟨rfl, by
    have e : mask H ([] ++ ([] : List Addr)) = H := funext fun b => if_neg (by simp)
    show Rep G (mask H ([] ++ [])) d v
    rw [e]; exact h⟩, rfl⟩, fun b hb => (nomatch hb), fun b o e _ => e, fun b hb => (nomatch hb), fun b hb => (nomatch hb)⟩
theorem sp_law {K : PySem.W.Frag} {mg : Str → Option Value} {H : Hp} {a : Addr} {ns : List Int} {m : List T → FRes} (h : SqL K H a (ns.map V.int)) (e : m [.leaf (.fz (ns.map D.int))] = .ok (.leaf (.bl true)) []) : spF ⟨K, mg⟩ 1 [] m [.ref a] H (fun v _ => v = .bl true) fun _ _ _ => False :=
  ⟨⟨H, [], [], []⟩, [.leaf (.fz (ns.map D.int))], rfl, rfl, rfl, own_arg (d := .fz (ns.map D.int)) ⟨a, _, rfl, h, Reps.ints.mpr rfl⟩ [], by rw [e]; exact fun v H' o => o.rep⟩
theorem walkQ {l : PySem.W.OpenLaw} {n k : Nat} {q : Program} {loose : List Str} {XP : (Str → Option Value) → Heap → Prop} {YP : World → Heap → Prop} {d : DefRec} {x : Str} {m : List T → FRes} (hn : l.most = some n) (hn2 : n ≤ sizeLine) (hdf : d.params.defaults = []) (hr : Room k callerA)
    (F : ∀ (w : World) (mg : Str → Option Value) (h : Heap), YP w h → h.Ns mainGlobals mg → ∃ K : PySem.W.Frag, K.In h ∧ ∀ base : Heap, K.In base → base.Ns mainGlobals mg → Good l.prog w K mg base k d.name [x] [] m)
    (law : ∀ ns : List Int, ns.length ≤ n → m [.leaf (.fz (ns.map D.int))] = .ok (.leaf (.bl true)) []) : PySem.W.WalkO q loose XP YP l.row.toRowW d [] (fun f vs => PySem.call f vs) := by
  refine Att.attach_call hn hdf fun w s₀ s mg mb fa o pm cd doc a vs ns G Y ho hd hcd hmg hobj hints hlen hg => ?_
  obtain ⟨K, KX, hF⟩ := F w mg _ Y G.T.g
  cases hmg.symm.trans (hF _ KX G.T.g).nm
  have lenV := hints.length
  have hz : ns.length ≤ sizeLine := Nat.le_trans hlen hn2
  have rv := vals_ints hints
  cases hk : K.lookup a with
  | some o =>
    have e := KX a o hk
    rw [hobj] at e
    cases e
    exact lawG_core (H := fun _ => none) KX G.T.g G.T.b G.T.builtins G.T.nolimit hg hobj hr hF (fun _ => .inl rfl) (fun b u z => nomatch z) (fun b z => absurd rfl z) (fun z => absurd rfl z)
      (sp_law (.inr ⟨_, vs.toArray, _, hk, rfl, rfl, rfl, by rw [List.size_toArray, lenV]; exact hz, by simpa using rv⟩) (law ns hlen))
  | none =>
    have at' : ∀ b, (fun b => if b = a then some (HO.frz { cls := .type "list", data := .seq vs.toArray } (.lst (ns.map V.int))) else none : Hp) b ≠ none → b = a := fun b z => Classical.byContradiction fun q => z (if_neg q)
    refine lawG_core (H := fun b => if b = a then some (.frz { cls := .type "list", data := .seq vs.toArray } (.lst (ns.map V.int))) else none) KX G.T.g G.T.b G.T.builtins G.T.nolimit hg hobj hr hF (fun b => ?_) (fun b u z => ?_) at' (fun _ => hk)
      (sp_law (.inl (.inr ⟨_, if_pos rfl⟩)) (law ns hlen))
    · by_cases hba : b = a
      · exact .inr ⟨_, _, if_pos hba⟩
      · exact .inl (if_neg hba)
    · obtain rfl := at' b (by rw [z]; exact nofun)
      cases (if_pos rfl).symm.trans z
      exact ⟨hobj, by rw [List.length_map]; exact hz, vs, _, rv, hobj⟩
end Q

set_option maxHeartbeats 1000000
/-! Comprehensions of two, slices with a step, sorted(set(xs)), a def that nothing is known of. -/
namespace Q
open PySem PySem.Spec PyProof.Rows L2

/-! ### [elt for t in src if c for t1 in src1 if c1] -/
section
variable {X : Cx} {L sl sl1 vs vs1 : List Nat} {g g1 : TG} {t t1 : TgM} {mt mt1 : M Bool} {me : M T} {src1 : M (List D)}
theorem lc_in {R : Fr} {σ : L2.St} {ρ ρe : Env} {tm tmI : List Item} {J : It} {ds : List D} {Dr : Addr} {acc0 us : List T} {wt : TT} {we : TE} {Nx : Hp → Prop} {H1 : Hp} (hL : R.lent.map (·.1) = L) (hlv : ∀ i ∈ L, i ∉ vs) (hsl : ∀ i ∈ sl, i ∈ vs) (I : ItD (gx X) tmI ds J)
    (hg : ∀ (R : Fr) (σ : L2.St) (ρ ρ' : Env) (H : Hp) (tm : List Item) (v : V) (d : D) (Q : L2.St → Hp → Prop), R.lent.map (·.1) = L → Sta (gx X) R σ ρ H ((v, .leaf d) :: tm) → t d ρ = some ρ' →
      (∀ σ', σ'.length = σ.length → (∀ j, j ∉ sl → σ'[j]? = σ[j]?) → Sta (gx X) R σ' ρ' H tm → Q σ' H) → g v σ H Q)
    (ht : ∀ σ H Q, TTm (gx X) L W0 mt σ H Q → wt σ H Q) (he : ∀ σ H Q, TEm (gx X) L W0 me σ H Q → we σ H Q)
    (hq : ∀ H, Sta (gx X) R (wipe σ vs) (wipeE ρe vs) H ((.ref Dr, .node (acc0 ++ us)) :: tm) → Nx H) (hz : acc0.length + us.length ≤ 16000000)
    (hok : compM vs t mt me ds (wipeE ρ vs) = .ok us (wipeE ρe vs)) (S : Sta (gx X) R (wipe σ vs) (wipeE ρ vs) H1 ((.ref Dr, .node acc0) :: (tmI ++ tm))) :
    ∃ W : Nat → Nat → Hp → Prop, (∃ m, W 0 m H1) ∧ ∀ i m H, W i m H →
      (J.stop i H ∧ Nx H) ∨ (J.go i H ∧ ∃ N1 : Hp → Prop, (∀ H', N1 H' → ∃ m', m' < m ∧ W (i + 1) m' H') ∧ ∀ x H', J.yld i H x H' → g x (wipe σ vs) H' fun σ2 H2 => wipe σ2 vs = wipe σ vs ∧ wt σ2 H2 fun b H3 =>
        if b = true then we σ2 H3 fun y H4 => ∃ acc, H4 Dr = some (.lst acc) ∧ acc.length < sizeLine ∧ N1 (upd H4 Dr (.lst (acc ++ [y]))) else N1 H3) := by
  have hlR : ∀ i ∈ R.lent.map (·.1), i ∉ vs := by rw [hL]; exact hlv
  let P : Nat → Hp → Prop := fun i H => ∃ ρ' acc rest, Sta (gx X) R (wipe σ vs) (wipeE ρ' vs) H ((.ref Dr, .node acc) :: (tmI ++ tm)) ∧ compM vs t mt me (ds.drop i) (wipeE ρ' vs) = .ok rest (wipeE ρe vs) ∧ acc ++ rest = acc0 ++ us
  refine ⟨fun i m H => m = ds.length - i ∧ i ≤ ds.length ∧ P i H, ⟨ds.length, by simp, Nat.zero_le _, ρ, acc0, us, S, hok, rfl⟩, ?_⟩
  rintro i m H ⟨rfl, hi, ρ', acc, rest, S, hc, hu⟩
  have SI : Sta (gx X) R (wipe σ vs) (wipeE ρ' vs) H (tmI ++ ((.ref Dr, .node acc) :: tm)) := ⟨S.fits, S.lent, S.own.perm (List.Perm.append_left _ (perm_mid _ _ _).symm)⟩
  by_cases hlt : i < ds.length
  · rw [List.drop_eq_getElem_cons hlt] at hc
    simp only [compM] at hc
    cases et : t ds[i] (wipeE ρ' vs) with
    | none => rw [et] at hc; cases hc
    | some ρ2 =>
      rw [et] at hc
      obtain ⟨b, ρ3, eb, hc⟩ := ok_bind hc
      refine .inr ⟨I.go R _ _ H _ i SI hlt, fun H' => P (i + 1) H', fun H' q => ⟨ds.length - (i + 1), by omega, rfl, hlt, q⟩, fun x H2 y => ?_⟩
      refine hg R (wipe σ vs) _ ρ2 H2 _ x ds[i] _ hL (I.yld R _ _ H H2 _ i x ds[i] SI y (List.getElem?_eq_getElem hlt)) et fun σ2 l2 k2 S3 => ?_
      have w2 : wipe σ2 vs = wipe σ vs := by
        rw [← wipe_wipe (σ := σ)]
        exact wipe_eq l2 fun j hj => k2 j fun m => hj (hsl j m)
      refine ⟨w2, ht _ _ _ ⟨R, ρ2, _, hL, S3, ?_⟩⟩
      rw [eb]
      intro H3 S4
      have back : ∀ {ρ4 : Env} {H4 : Hp} {tm4 : List Item}, Sta (gx X) R σ2 ρ4 H4 tm4 → Sta (gx X) R (wipe σ vs) (wipeE ρ4 vs) H4 tm4 := fun S => by
        rw [← w2]; exact (S.forget vs).toBlk hlR
      cases b with
      | false =>
        rw [if_neg Bool.false_ne_true] at hc ⊢
        exact ⟨ρ3, acc, rest, ⟨(back S4).fits, (back S4).lent, (back S4).own.perm (List.Perm.append_left _ (perm_mid _ _ _))⟩, hc, hu⟩
      | true =>
        rw [if_pos rfl] at hc ⊢
        obtain ⟨u, ρ4, eu, hc⟩ := ok_bind hc
        obtain ⟨us', ρ5, eus, hc⟩ := ok_bind hc
        cases hc
        refine he _ _ _ ⟨R, ρ3, _, hL, S4, ?_⟩
        rw [eu]
        intro y H4 S5
        have S6 : Sta (gx X) R σ2 ρ4 H4 ((y, u) :: (.ref Dr, .node acc) :: (tmI ++ tm)) := ⟨S5.fits, S5.lent, S5.own.perm (List.Perm.append_left _ (List.Perm.cons _ (perm_mid _ _ _)))⟩
        obtain ⟨xs, hx, hl, S7⟩ := Own.append' S6
        have hlen := congrArg List.length hu
        simp only [List.length_append, List.length_cons] at hlen
        exact ⟨xs, hx, by rw [hl, sizeLine_eq]; omega, ρ4, acc ++ [u], us', back S7, eus, by rw [← hu]; simp⟩
  · have e : i = ds.length := by omega
    subst e
    rw [List.drop_length] at hc
    simp only [compM, Res.ok.injEq] at hc
    obtain ⟨h1, h2⟩ := hc
    subst h1
    rw [List.append_nil] at hu
    subst hu
    refine .inl ⟨I.stop R _ _ H _ _ SI (Nat.le_refl _), hq H ?_⟩
    rw [← h2]
    exact Sta.dropL1 S
def compM2 (vs vs1 : List Nat) (t : TgM) (test : M Bool) (src1 : M (List D)) (t1 : TgM) (test1 : M Bool) (elt : M T) : List D → Env → Res (List T)
  | [], ρ => .ok [] ρ
  | d :: ds, ρ => match t d ρ with
    | none => .stuck
    | some ρ1 => (test ρ1).bind fun b ρ2 =>
      if b = true then (src1 ρ2).bind fun ds1 ρ3 => (compM vs1 t1 test1 elt ds1 (wipeE ρ3 vs1)).bind fun us ρ4 => (compM2 vs vs1 t test src1 t1 test1 elt ds (wipeE ρ4 vs)).bind fun us2 ρ5 => .ok (us ++ us2) ρ5
      else compM2 vs vs1 t test src1 t1 test1 elt ds (wipeE ρ2 vs)
def mComp2 (vs vs1 : List Nat) (src : M (List D)) (t : TgM) (test : M Bool) (src1 : M (List D)) (t1 : TgM) (test1 : M Bool) (elt : M T) : M T := fun ρ => (src ρ).bind fun ds ρ1 =>
  (compM2 vs vs1 t test src1 t1 test1 elt ds (wipeE ρ1 vs)).noX.bind fun us ρ2 => if us.length ≤ 16000000 then .ok (.node us) ρ2 else .stuck
theorem compM2_end {vs vs1 : List Nat} : ∀ {ds : List D} {ρ ρ' : Env} {us : List T}, compM2 vs vs1 t mt src1 t1 mt1 me ds (wipeE ρ vs) = .ok us ρ' → ∃ ρe, ρ' = wipeE ρe vs
  | [], ρ, ρ', us, h => by simp only [compM2, Res.ok.injEq] at h; exact ⟨ρ, h.2.symm⟩
  | d :: ds, ρ, ρ', us, h => by
    simp only [compM2] at h
    split at h
    · cases h
    · obtain ⟨b, ρ2, _, h⟩ := ok_bind h
      cases b with
      | false => rw [if_neg Bool.false_ne_true] at h; exact compM2_end h
      | true =>
        rw [if_pos rfl] at h
        obtain ⟨ds1, ρ3, _, h⟩ := ok_bind h
        obtain ⟨us1, ρ4, _, h⟩ := ok_bind h
        obtain ⟨us', ρ5, h2, h⟩ := ok_bind h
        cases h
        exact compM2_end h2
theorem lc2_sta {R : Fr} {σ : L2.St} {ρ ρe : Env} {tm tmI : List Item} {J : It} {ds : List D} {Dr : Addr} {us : List T} {wt wt1 : TT} {we : TE} {wi1 : TI} {Q : VK} {H1 : Hp} (hL : R.lent.map (·.1) = L) (hlv : ∀ i ∈ L, i ∉ vs) (hsl : ∀ i ∈ sl, i ∈ vs) (hv1 : ∀ i ∈ vs1, i ∈ vs) (hsl1 : ∀ i ∈ sl1, i ∈ vs1) (I : ItD (gx X) tmI ds J)
    (hg : ∀ (R : Fr) (σ : L2.St) (ρ ρ' : Env) (H : Hp) (tm : List Item) (v : V) (d : D) (Q : L2.St → Hp → Prop), R.lent.map (·.1) = L → Sta (gx X) R σ ρ H ((v, .leaf d) :: tm) → t d ρ = some ρ' →
      (∀ σ', σ'.length = σ.length → (∀ j, j ∉ sl → σ'[j]? = σ[j]?) → Sta (gx X) R σ' ρ' H tm → Q σ' H) → g v σ H Q)
    (hg1 : ∀ (R : Fr) (σ : L2.St) (ρ ρ' : Env) (H : Hp) (tm : List Item) (v : V) (d : D) (Q : L2.St → Hp → Prop), R.lent.map (·.1) = L → Sta (gx X) R σ ρ H ((v, .leaf d) :: tm) → t1 d ρ = some ρ' →
      (∀ σ', σ'.length = σ.length → (∀ j, j ∉ sl1 → σ'[j]? = σ[j]?) → Sta (gx X) R σ' ρ' H tm → Q σ' H) → g1 v σ H Q)
    (ht : ∀ σ H Q, TTm (gx X) L W0 mt σ H Q → wt σ H Q) (ht1 : ∀ σ H Q, TTm (gx X) L W0 mt1 σ H Q → wt1 σ H Q) (he : ∀ σ H Q, TEm (gx X) L W0 me σ H Q → we σ H Q) (hi1 : ∀ σ H Q, TIm (gx X) L W0 src1 σ H Q → wi1 σ H Q)
    (hq : ∀ H, Sta (gx X) R σ (wipeE ρe vs) H ((.ref Dr, .node us) :: tm) → Q (.ref Dr) H) (hle : ∀ p ∈ R.lent, σ[p.1]? = some (some p.2)) (hz : us.length ≤ 16000000)
    (hok : compM2 vs vs1 t mt src1 t1 mt1 me ds (wipeE ρ vs) = .ok us (wipeE ρe vs)) (S : Sta (gx X) R σ (wipeE ρ vs) (upd H1 Dr (.lst [])) ((.ref Dr, .node []) :: (tmI ++ tm))) :
    ∃ W : Nat → Nat → Hp → Prop, (∃ m, W 0 m (upd H1 Dr (.lst []))) ∧ ∀ i m H, W i m H →
      (J.stop i H ∧ Q (.ref Dr) H) ∨ (J.go i H ∧ ∃ Nx : Hp → Prop, (∀ H', Nx H' → ∃ m', m' < m ∧ W (i + 1) m' H') ∧ ∀ x H', J.yld i H x H' → g x (wipe σ vs) H' fun σ2 H2 => wipe σ2 vs = wipe σ vs ∧ wt σ2 H2 fun b H3 =>
        if b = true then wi1 σ2 H3 fun J1 H4 => ∃ W1 : Nat → Nat → Hp → Prop, (∃ m, W1 0 m H4) ∧ ∀ j k H, W1 j k H →
          (J1.stop j H ∧ Nx H) ∨ (J1.go j H ∧ ∃ Nx1 : Hp → Prop, (∀ H', Nx1 H' → ∃ k', k' < k ∧ W1 (j + 1) k' H') ∧ ∀ x H', J1.yld j H x H' → g1 x (wipe σ2 vs1) H' fun σ3 H5 => wipe σ3 vs1 = wipe σ2 vs1 ∧ wt1 σ3 H5 fun b H6 =>
            if b = true then we σ3 H6 fun y H7 => ∃ acc, H7 Dr = some (.lst acc) ∧ acc.length < sizeLine ∧ Nx1 (upd H7 Dr (.lst (acc ++ [y]))) else Nx1 H6)
        else Nx H3) := by
  have hlR : ∀ i ∈ R.lent.map (·.1), i ∉ vs := by rw [hL]; exact hlv
  let P : Nat → Hp → Prop := fun i H => ∃ ρ' acc rest, Sta (gx X) R (wipe σ vs) (wipeE ρ' vs) H ((.ref Dr, .node acc) :: (tmI ++ tm)) ∧ compM2 vs vs1 t mt src1 t1 mt1 me (ds.drop i) (wipeE ρ' vs) = .ok rest (wipeE ρe vs) ∧ acc ++ rest = us
  refine ⟨fun i m H => m = ds.length - i ∧ i ≤ ds.length ∧ P i H, ⟨ds.length, by simp, Nat.zero_le _, ρ, [], us, S.toBlk hlR, hok, rfl⟩, ?_⟩
  rintro i m H ⟨rfl, hi, ρ', acc, rest, S, hc, hu⟩
  have SI : Sta (gx X) R (wipe σ vs) (wipeE ρ' vs) H (tmI ++ ((.ref Dr, .node acc) :: tm)) := ⟨S.fits, S.lent, S.own.perm (List.Perm.append_left _ (perm_mid _ _ _).symm)⟩
  by_cases hlt : i < ds.length
  · rw [List.drop_eq_getElem_cons hlt] at hc
    simp only [compM2] at hc
    cases et : t ds[i] (wipeE ρ' vs) with
    | none => rw [et] at hc; cases hc
    | some ρ2 =>
      rw [et] at hc
      obtain ⟨b, ρ3, eb, hc⟩ := ok_bind hc
      refine .inr ⟨I.go R _ _ H _ i SI hlt, fun H' => P (i + 1) H', fun H' q => ⟨ds.length - (i + 1), by omega, rfl, hlt, q⟩, fun x H2 y => ?_⟩
      refine hg R (wipe σ vs) _ ρ2 H2 _ x ds[i] _ hL (I.yld R _ _ H H2 _ i x ds[i] SI y (List.getElem?_eq_getElem hlt)) et fun σ2 l2 k2 S3 => ?_
      have w2 : wipe σ2 vs = wipe σ vs := by
        rw [← wipe_wipe (σ := σ)]
        exact wipe_eq l2 fun j hj => k2 j fun m => hj (hsl j m)
      refine ⟨w2, ht _ _ _ ⟨R, ρ2, _, hL, S3, ?_⟩⟩
      rw [eb]
      intro H3 S4
      have back : ∀ {ρ4 : Env} {H4 : Hp} {tm4 : List Item}, Sta (gx X) R σ2 ρ4 H4 tm4 → Sta (gx X) R (wipe σ vs) (wipeE ρ4 vs) H4 tm4 := fun S => by
        rw [← w2]; exact (S.forget vs).toBlk hlR
      have S4' : Sta (gx X) R σ2 ρ3 H3 ((.ref Dr, .node acc) :: (tmI ++ tm)) := ⟨S4.fits, S4.lent, S4.own.perm (List.Perm.append_left _ (perm_mid _ _ _))⟩
      cases b with
      | false =>
        rw [if_neg Bool.false_ne_true] at hc ⊢
        exact ⟨ρ3, acc, rest, back S4', hc, hu⟩
      | true =>
        rw [if_pos rfl] at hc ⊢
        obtain ⟨ds1, ρ4, e1, hc⟩ := ok_bind hc
        obtain ⟨us1, ρ5, eus, hc⟩ := ok_bind hc
        obtain ⟨us2, ρ6, eus2, hc⟩ := ok_bind hc
        cases hc
        obtain ⟨ρe1, ee⟩ := compM_end eus
        subst ee
        refine hi1 _ _ _ ⟨R, ρ3, _, hL, S4', ?_⟩
        rw [e1]
        intro tmI1 J1 H4 I1 S5
        have hlen := congrArg List.length hu
        simp only [List.length_append] at hlen
        have S6 : Sta (gx X) R σ2 ρ4 H4 ((.ref Dr, .node acc) :: (tmI1 ++ (tmI ++ tm))) := ⟨S5.fits, S5.lent, S5.own.perm (List.Perm.append_left _ (perm_mid _ _ _))⟩
        refine lc_in (R := R) (σ := σ2) (acc0 := acc) (us := us1) (ρe := ρe1) hL (fun i hi hm => hlv i hi (hv1 i hm)) hsl1 I1 hg1 ht1 he (fun H S7 => ?_) (by omega) eus ((S6.forget vs1).toBlk fun i hi hm => hlR i hi (hv1 i hm))
        refine ⟨wipeE ρe1 vs1, acc ++ us1, us2, ?_, eus2, by rw [← hu]; simp⟩
        have S8 := (S7.forget vs).toBlk hlR
        have e8 : wipe (wipe σ2 vs1) vs = wipe σ vs := by
          rw [← w2]
          refine wipe_eq (wipe_length _ _) fun j hj => wipe_out fun hm => hj (hv1 j hm)
        rw [e8] at S8
        exact S8
  · have e : i = ds.length := by omega
    subst e
    rw [List.drop_length] at hc
    simp only [compM2, Res.ok.injEq] at hc
    obtain ⟨h1, h2⟩ := hc
    subst h1
    rw [List.append_nil] at hu
    subst hu
    refine .inl ⟨I.stop R _ _ H _ _ SI (Nat.le_refl _), hq H ?_⟩
    rw [← h2]
    exact (Sta.dropL1 S).ofBlk hle
end
section
variable {X : Cx} {L sl sl1 : List Nat} {tg iter tg1 iter1 elt : Expr} {src src1 : M (List D)} {g g1 : TG} {t t1 : TgM} {pos : Pos} {mt mt1 : M Bool} {me : M T}
theorem ped_comp2 {ifs ifs1 : List Expr} {scope : Scope} {own : List (Str × Nat)} {vs1 : List Nat} (hc : X.calm = true) (hN : X.N.Nodup) (hi : PId X L tg iter src) (ok : BlkOk X.N X.env.scope scope own) (hlv : ∀ i ∈ L, i ∉ own.map (·.2)) (hsl : ∀ i ∈ sl, i ∈ own.map (·.2)) (hv1 : ∀ i ∈ vs1, i ∈ own.map (·.2)) (hsl1 : ∀ i ∈ sl1, i ∈ vs1)
    (hg : ∀ (s : Shared) (H : Hp) (C : Addr) (cl : List (Str × Addr)) (fp : List Addr), PGd (X.blk s H scope (compEnvC scope cl C X.env) fp) L sl tg g t) (ht : ∀ (s : Shared) (H : Hp) (C : Addr) (cl : List (Str × Addr)) (fp : List Addr), PTsD (X.blk s H scope (compEnvC scope cl C X.env) fp) L ifs mt)
    (hi1 : ∀ (s : Shared) (H : Hp) (C : Addr) (cl : List (Str × Addr)) (fp : List Addr), PId (X.blk s H scope (compEnvC scope cl C X.env) fp) L tg1 iter1 src1) (hg1 : ∀ (s : Shared) (H : Hp) (C : Addr) (cl : List (Str × Addr)) (fp : List Addr), PGd (X.blk s H scope (compEnvC scope cl C X.env) fp) L sl1 tg1 g1 t1)
    (ht1 : ∀ (s : Shared) (H : Hp) (C : Addr) (cl : List (Str × Addr)) (fp : List Addr), PTsD (X.blk s H scope (compEnvC scope cl C X.env) fp) L ifs1 mt1) (he : ∀ (s : Shared) (H : Hp) (C : Addr) (cl : List (Str × Addr)) (fp : List Addr), PEd (X.blk s H scope (compEnvC scope cl C X.env) fp) L elt me)
    (hs : ∀ x, foldedSetIterable iter X.env x = pure x := by intro _; rfl) (hs1 : ∀ env x, foldedSetIterable iter1 env x = pure x := by intro _ _; rfl) : PEd X L (.ListComp elt [⟨tg, iter, ifs, 0⟩, ⟨tg1, iter1, ifs1, 0⟩] scope pos) (mComp2 (own.map (·.2)) vs1 src t mt src1 t1 mt1 me) :=
  ⟨fun W tk => PE.imp (pe_lc2 (g := g) (g1 := g1) (tt := TTm (gx X) L W0 mt) (tt1 := TTm (gx X) L W0 mt1) (te := TEm (gx X) L W0 me) (wi1 := TIm (gx X) L W0 src1) hc hN (hi.run W tk) ok hv1 (fun s H C cl fp => (hg s H C cl fp).pg) (fun s H C cl fp => ptsd_run (ht s H C cl fp) W0 tk0) (fun s H C cl fp => (hi1 s H C cl fp).run W0 tk0)
    (fun s H C cl fp => (hg1 s H C cl fp).pg) (fun s H C cl fp => ptsd_run (ht1 s H C cl fp) W0 tk0) (fun s H C cl fp => (he s H C cl fp).run W0 tk0) hs hs1) fun σ H Q ⟨R, ρ, tm, hL, S, q⟩ => ⟨R, ρ, tm, hL, S, (End.bind q).mono fun ds ρ1 _ q tmI J H1 I S1 D hD => by
    obtain ⟨us, ρ2, ec, q⟩ := noX_ok (End.bind q)
    by_cases hz : us.length ≤ 16000000
    · rw [if_pos hz] at q
      obtain ⟨ρe, e⟩ := compM2_end ec
      subst e
      have o : Own (gx X) R (upd H1 D (.lst [])) ((.ref D, .node []) :: (items σ ρ1 ++ (tmI ++ tm))) := Own.newLst (xs := []) (ts := []) S1.own rfl hD
      have S2 : Sta (gx X) R σ ρ1 (upd H1 D (.lst [])) ((.ref D, .node []) :: (tmI ++ tm)) := Sta.back S1.fits S1.lent o
      exact lc2_sta (us := us) (ρe := ρe) hL hlv hsl hv1 hsl1 I (hg {} H1 0 [] []).run (hg1 {} H1 0 [] []).run (fun _ _ _ h => h) (fun _ _ _ h => h) (fun _ _ _ h => h) (fun _ _ _ h => h) (fun H' S' => q (.ref D) H' S') S1.lent hz ec (S2.forget (own.map (·.2)))
    · rw [if_neg hz] at q; exact q.elim⟩⟩
end

/-! ### text[::k] -/
def stepS (z : Str) (k : Int) : Str := ⟨((Builtin.Str.strSliceIndices none none k z.length).filterMap (z.cps[·]?)).toArray⟩
def mStep (k : Int) (m : M T) : M T := fun ρ => (m ρ).bind fun t ρ1 => match t.toD with
  | .str z => if (stepS z k).length ≤ big then .ok (.leaf (.str (stepS z k))) ρ1 else .stuck
  | _ => .stuck
def tStepS (k : Int) (te : TE) : TE := fun σ H Q => te σ H fun x H1 => ∃ z, x = .str z ∧ (stepS z k).length ≤ big ∧ Q (.str (stepS z k)) H1
section
variable {X : Cx} {L : List Nat} {e se : Expr} {m : M T} {p3 pos : Pos} {k : Int}
theorem pe_stepS {te : TE} {tst : TO} (he : PE X e te) (hp : PO X (some se) tst) (hk : ∀ σ H, tst σ H fun o H' => o = some k ∧ H' = H) (k0 : (k == 0) = false) (k1 : (k == 1) = false) : PE X (.Subscript e (.Slice none none (some se) p3) pos) (tStepS k te) := by
  refine ⟨fun pins s σ H Q I h => Subscript_ (thn (he.run pins s σ H _ I h) fun v s1 ⟨x, H1, I1, r1, z, ex, hz, q⟩ => ?_)⟩
  subst ex
  obtain ⟨t, rfl⟩ := r1
  refine wpAny_Slice (thn (po_none.run pins s1 σ H1 (fun o H2 => o = none ∧ H2 = H1) I1 ⟨rfl, rfl⟩) fun vl s2 ⟨l, H2, I2, pl, el, e2⟩ => ?_)
  subst el e2
  refine thn (po_none.run pins s2 σ H2 (fun o H3 => o = none ∧ H3 = H2) I2 ⟨rfl, rfl⟩) fun vu s3 ⟨u, H3, I3, pu, eu, e3⟩ => ?_
  subst eu e3
  refine thn (hp.run pins s3 σ H3 _ I3 (hk σ H3)) fun vs s4 ⟨o, H4, I4, ps, eo, e4⟩ => ?_
  subst eo e4
  cases pl
  cases pu
  obtain ⟨w, rfl, ew⟩ := IsPart.raw ps
  have I5 : Inv X pins σ H4 { s4 with heap := s4.heap.push { cls := .type "slice", data := .fields #[.none, .none, partValue w] } } := I4.kept (t' := s4.toks) fun b ob q => Heap.get?_push_of_some _ q
  show wpAny (model X.prog X.w) X.A (subscriptTail e (.Slice none none (some se) p3) (.str z t) (.ref s4.heap.objs.size)) (EP X pins σ Q) X.xe { s4 with heap := s4.heap.push { cls := .type "slice", data := .fields #[.none, .none, partValue w] } }
  refine tail_any (ops := [.ref s4.heap.objs.size, .str z t]) (typeIs_str _ _ _) F.slot_str_getitem.lookup ?_ (by with_unfolding_all rfl)
  refine wpAny_getItem_str_slice (l := none) (u := none) (st := w) (Heap.IsSliceOf.new _ .none .none (partValue w)) (by rw [ew]; exact k0) ?_
  have e6 : ((w.map (·.1)).getD 1) = k := by rw [ew]; rfl
  show Made.post (if (((w.map (·.1)).getD 1) == 1 && (Builtin.Str.strSliceIndices none none ((w.map (·.1)).getD 1) z.length).length == z.length) = true then Made.val (.str z t)
    else Made.str ⟨((Builtin.Str.strSliceIndices none none ((w.map (·.1)).getD 1) z.length).filterMap (z.cps[·]?)).toArray⟩) (EP X pins σ Q) _
  rw [e6, k1, Bool.false_and, if_neg Bool.false_ne_true]
  exact ⟨Nat.le_trans hz big_line, .str _, H4, I5.tok _, ⟨_, rfl⟩, q⟩
theorem ped_stepS {tst : TO} (he : PEd X L e m) (hp : PO X (some se) tst) (hk : ∀ σ H, tst σ H fun o H' => o = some k ∧ H' = H) (k0 : (k == 0) = false) (k1 : (k == 1) = false) : PEd X L (.Subscript e (.Slice none none (some se) p3) pos) (mStep k m) :=
  ⟨fun W tk => PE.imp (pe_stepS (he.run W tk) hp hk k0 k1) fun σ H Q ⟨R, ρ, tm, hL, S, q⟩ => ⟨R, ρ, tm, hL, S, (End.bind q).mono fun t ρ1 et q v H1 S1 => by
    clear et
    split at q
    · rename_i z ez
      have ev := (toInt S1 ez).front.rep
      by_cases hz : (stepS z k).length ≤ big
      · rw [if_pos hz] at q
        exact ⟨z, ev, hz, q _ H1 (S1.pop.with fun o => o.scal fun _ => rfl)⟩
      · rw [if_neg hz] at q; exact q.elim
    · exact q.elim⟩⟩
theorem ped_step2 {j : Nat} {p1 : Pos} {i : Int} (he : PEd X L e m) (k0 : (i == 0) = false := by decide) (k1 : (i == 1) = false := by decide) : PEd X L (.Subscript e (.Slice none none (some (.Constant (.int i) j p1)) p3) pos) (mStep i m) := ped_stepS he (po_some pe_int) (fun σ H => ⟨_, rfl, rfl, rfl⟩) k0 k1
theorem ped_stepB {j : Nat} {p1 p2 : Pos} (he : PEd X L e m) : PEd X L (.Subscript e (.Slice none none (some (.UnaryOp .USub (.Constant (.int 1) j p1) p2)) p3) pos) (mStep (-1) m) := ped_stepS he (po_some (pe_un un_neg pe_int)) (fun σ H => ⟨1, rfl, -1, rfl, rfl, rfl⟩) (by decide) (by decide)
end

/-! ### a def of which nothing is asked -/
theorem good_stuck {P : Program} {w : World} {K : PySem.W.Frag} {mg : Str → Option Value} {base : Heap} {x : Str} {st : Stmt} {ps : List Str} {lent : List Nat} {k : Nat} (F : ∃ fd, Fun K x x st (He.ga K x) fd) (hm : mg x = some (.ref (He.ga K x)))
    (hbind : ∀ (kV doc pm : Value) (an : Option Addr) (cdv ct : Value) (us : List Value), us.length = ps.length → bindArgs (PySem.W.fnOf x x (defArgs st) (defBody st) (defScope st) .none kV doc pm an cdv ct) ⟨us, []⟩ = pure (ps.zip us)) : Good P w K mg base k x ps lent (fun _ => .stuck) := by
  obtain ⟨fd, F⟩ := F
  exact ⟨hm, fd, ⟨fun vs H Q E ⟨R, ts, h1, _⟩ => h1, fun A outer s H args us vs Q E _ _ _ _ _ ⟨R, ts, _, _, _, _, z⟩ => z.elim⟩, F.binds hbind, F.kp⟩
end Q

set_option maxHeartbeats 1000000
/-! sorted(set(xs)), xs tuples of ints that stand in order, none twice. -/
namespace Q
open PySem PySem.Spec PyProof.Rows L2
def intsD : List D → Option (List Int)
  | [] => some []
  | .int i :: r => (intsD r).map (i :: ·)
  | _ => none
def keysD : List D → Option (List (List Int))
  | [] => some []
  | .tup ds :: r => match intsD ds, keysD r with
    | some k, some ks => some (k :: ks)
    | _, _ => none
  | _ => none
def okKeys (ks : List (List Int)) : Bool := decide (ks.length < 64) && (decide ((ks.map (TS.code 1000000)).Pairwise (· < ·)) && match ks with
  | [] => true
  | k :: r => decide (1 ≤ k.length) && (k :: r).all fun q => decide (q.length = k.length) && q.all fun i => decide (0 ≤ i) && decide (i < 1000000))
def mSortSet (m : M T) : M T := fun ρ => (m ρ).bind fun t ρ1 => match t.toD with
  | .lst ds => match keysD ds with
    | some ks => if okKeys ks = true then .ok (.node (ds.map T.leaf)) ρ1 else .stuck
    | none => .stuck
  | _ => .stuck
theorem intsD_ok : ∀ {ds : List D} {k : List Int}, intsD ds = some k → ds = k.map D.int
  | [], k, e => by cases e; rfl
  | .int i :: r, k, e => by
    simp only [intsD] at e
    cases e2 : intsD r with
    | none => rw [e2] at e; cases e
    | some k' => rw [e2] at e; cases e; rw [intsD_ok e2]; rfl
theorem keysD_ok {G : Gx} {H : Hp} : ∀ {ds : List D} {ks : List (List Int)} {xs : List V}, keysD ds = some ks → Reps G H ds xs → ∃ kk : List (Addr × List Int), xs = kk.map (fun p => V.ref p.1) ∧ ks = kk.map (·.2) ∧ ds = kk.map (fun p => .tup (p.2.map D.int)) ∧ ∀ p ∈ kk, SqT G.K H p.1 (p.2.map V.int)
  | [], ks, xs, e, r => by cases e; rw [show xs = [] from r]; exact ⟨[], rfl, rfl, rfl, fun p hp => (nomatch hp)⟩
  | .tup d :: ds, ks, xs, e, r => by
    obtain ⟨x, r', ex, ⟨a, ys, ea, h1, h2⟩, h3⟩ := r
    simp only [keysD] at e
    cases e1 : intsD d with
    | none => rw [e1] at e; cases e
    | some k =>
      cases e2 : keysD ds with
      | none => rw [e1, e2] at e; cases e
      | some ks' =>
        rw [e1, e2] at e
        cases e
        obtain ⟨kk, a1, a2, a3, a4⟩ := keysD_ok e2 h3
        have ed := intsD_ok e1
        subst ed
        have ey := Reps.ints.mp h2
        subst ey ea ex
        refine ⟨(a, k) :: kk, by rw [a1]; rfl, by rw [a2]; rfl, by rw [a3]; rfl, fun p hp => ?_⟩
        rcases List.mem_cons.mp hp with z | z
        · subst z; exact h1
        · exact a4 p z
theorem reps_of {G : Gx} {H : Hp} : ∀ {kk : List (Addr × List Int)}, (∀ p ∈ kk, SqT G.K H p.1 (p.2.map V.int)) → Reps G H (kk.map fun p => .tup (p.2.map D.int)) (kk.map fun p => V.ref p.1)
  | [], _ => rfl
  | p :: kk, h => ⟨_, _, rfl, ⟨p.1, _, rfl, h p List.mem_cons_self, Reps.ints.mpr rfl⟩, reps_of fun q hq => h q (List.mem_cons_of_mem _ hq)⟩
def tSortSet (K : PySem.W.Frag) (P : Program) (w : World) (te : TE) : TE := tCB (rSortedT K P w) (tCons (tCB (rSetOfT K P w) (tCons te tNil)) tNil)
section
variable {X : Cx} {L : List Nat} {a : Expr} {m : M T} {p p2 pos pos2 : Pos}
theorem ped_sortSet (hc : X.calm = true) (hu : X.A.units + 64 < cLine) (hg : Gl X "sorted") (hm : X.mg "sorted" = none) (hg2 : Gl X "set") (hm2 : X.mg "set" = none) (ha : PEd X L a m)
    (h1 : starEach [a] X.env = (false, eval a X.env) :: starEach [] X.env := by rfl) (h2 : starEach [.Call (.Name "set" p2) [a] [] pos2] X.env = (false, eval (.Call (.Name "set" p2) [a] [] pos2) X.env) :: starEach [] X.env := by rfl)
    (hp1 : (backTo pos2 (starEach [] X.env)).any (·.1) = false := by rfl) (hp2 : (backTo pos (starEach [] X.env)).any (·.1) = false := by rfl) :
    PEd X L (.Call (.Name "sorted" p) [.Call (.Name "set" p2) [a] [] pos2] [] pos) (mSortSet m) :=
  ⟨fun W tk => PE.imp (pe_callB (cr_sortedT hc) hg hm PyProof.Rows.boot_sorted (pa_cons (pe_callTy (cr_setOfT hc hu) hg2 hm2 PyProof.Rows.boot_set (pa_cons (ha.run W tk) pa_nil h1) (by decide) (by decide) h1 hp1) pa_nil h2) (by decide) (by decide) h2 hp2) fun σ H Q ⟨R, ρ, tm, hL, S, q⟩ => ⟨R, ρ, tm, hL, S, (End.bind q).mono fun t ρ1 et q x H1 S1 => by
    clear et
    split at q
    · rename_i ds ed
      cases ek : keysD ds with
      | none => rw [ek] at q; exact q.elim
      | some ks =>
        simp only [ek] at q
        by_cases hz : okKeys ks = true
        · rw [if_pos hz] at q
          have S2 := toInt S1 ed
          obtain ⟨F, o⟩ := S2.front
          obtain ⟨l, xs, ex, hl, hr⟩ := o.head
          obtain ⟨kk, a1, a2, a3, a4⟩ := keysD_ok ek hr
          subst ex a1
          have low : ∀ p ∈ kk, SqT X.K H1 p.1 (p.2.map V.int) := fun p hp => SqT.same (mask_same _ _) (a4 p hp)
          unfold okKeys at hz
          simp only [Bool.and_eq_true] at hz
          obtain ⟨z1, z2, z3⟩ := hz
          have z1 : kk.length < 64 := by have := of_decide_eq_true z1; rw [a2, List.length_map] at this; exact this
          have z2 := of_decide_eq_true z2
          refine ⟨l, kk, rfl, SqL.of (mask_same _ _ _ _ hl), low, z1, fun b L0 hb m1 m2 => ?_⟩
          obtain ⟨g1, g2, g3, g4⟩ := o.tail.grow (o := SetTO X.prog X.w b L0) hb
          have sm : Same H1 (upd H1 b (SetTO X.prog X.w b L0)) := fun c u hcu => by
            by_cases hcb : c = b
            · subst hcb; rw [hb] at hcu; cases hcu
            · rw [upd_ne hcb]; exact hcu
          have size : ∃ d, 1 ≤ d ∧ ∀ p ∈ kk, p.2.length = d ∧ TS.Bd 1000000 p.2 := by
            cases ks with
            | nil =>
              refine ⟨1, Nat.le_refl _, fun p hp => ?_⟩
              have : kk = [] := List.map_eq_nil_iff.mp a2.symm
              rw [this] at hp; cases hp
            | cons k r =>
              simp only [Bool.and_eq_true] at z3
              refine ⟨k.length, of_decide_eq_true z3.1, fun p hp => ?_⟩
              have hm' : p.2 ∈ k :: r := by rw [a2]; exact List.mem_map_of_mem hp
              have := List.all_eq_true.mp z3.2 _ hm'
              simp only [Bool.and_eq_true, decide_eq_true_eq, List.all_eq_true] at this
              exact ⟨this.1, fun i hi => this.2 i hi⟩
          obtain ⟨d, d1, d2⟩ := size
          refine ⟨b, L0, d, 1000000, rfl, upd_same, fun p hp => SqT.same sm (low p (m1 p hp)), d1, fun p hp => d2 p (m1 p hp), fun L' c pm nd _ pw hc' => ?_⟩
          -- the order is the one that stood
          have sub : ∀ p ∈ L', p ∈ kk := fun p hp => m1 p (pm.mem_iff.mp hp)
          have mem : ∀ p ∈ kk, p.2 ∈ L'.map (·.2) := fun p hp => (pm.map (·.2)).mem_iff.mpr (m2 p hp)
          have pwk : (kk.map (·.2)).Pairwise (fun q r => TS.code 1000000 q < TS.code 1000000 r) := by
            rw [a2] at z2
            exact List.pairwise_map.mp z2
          have ndk : (kk.map (·.2)).Nodup := pwk.imp fun {a b} h e => by rw [e] at h; exact absurd h (Int.lt_irrefl _)
          have perm : (L'.map (·.2)).Perm (kk.map (·.2)) := (List.perm_ext_iff_of_nodup nd ndk).mpr fun q => ⟨fun h => by
            obtain ⟨p, hp, e⟩ := List.mem_map.mp h
            exact e ▸ List.mem_map_of_mem (sub p hp), fun h => by
            obtain ⟨p, hp, e⟩ := List.mem_map.mp h
            exact e ▸ mem p hp⟩
          have inj : ∀ q r, q ∈ kk.map (·.2) → r ∈ kk.map (·.2) → TS.code 1000000 q ≤ TS.code 1000000 r → TS.code 1000000 r ≤ TS.code 1000000 q → q = r := fun q r hq hr h1 h2 => by
            obtain ⟨i, hi, rfl⟩ := List.mem_iff_getElem.mp hq
            obtain ⟨j, hj, rfl⟩ := List.mem_iff_getElem.mp hr
            rcases Nat.lt_trichotomy i j with h | h | h
            · have := List.pairwise_iff_getElem.mp pwk i j hi hj h; omega
            · subst h; rfl
            · have := List.pairwise_iff_getElem.mp pwk j i hj hi h; omega
          have eq : L'.map (·.2) = kk.map (·.2) := List.Perm.eq_of_pairwise (le := fun q r => TS.code 1000000 q ≤ TS.code 1000000 r) (fun q r hq hr => inj q r (perm.mem_iff.mp hq) hr) (List.pairwise_map.mpr pw) (pwk.imp fun h => Int.le_of_lt h) perm
          have ed2 : ds = L'.map fun p => .tup (p.2.map D.int) := by
            rw [a3]
            have e1 : (kk.map fun p => (D.tup (p.2.map D.int))) = (kk.map (·.2)).map fun k => D.tup (k.map D.int) := by rw [List.map_map]; rfl
            have e2 : (L'.map fun p => (D.tup (p.2.map D.int))) = (L'.map (·.2)).map fun k => D.tup (k.map D.int) := by rw [List.map_map]; rfl
            rw [e1, e2, eq]
          have sm2 : Same (R.msk H1 F) (R.msk (upd H1 b (SetTO X.prog X.w b L0)) F) := by
            rw [g3]
            exact fun c u hcu => by
              by_cases hcb : c = b
              · subst hcb
                rw [msk_none hb] at hcu; cases hcu
              · rw [upd_ne hcb]; exact hcu
          have rr : Reps (gx X) (R.msk (upd H1 b (SetTO X.prog X.w b L0)) F) ds (L'.map fun q => V.ref q.1) := by
            rw [ed2]
            exact reps_of fun p hp => SqT.same sm2 (a4 p (sub p hp))
          exact q _ _ (Sta.back S2.fits S2.lent (OwnF.newLst g1 hc' rr))
        · rw [if_neg hz] at q; exact q.elim
    · exact q.elim⟩⟩
end
end Q

set_option maxHeartbeats 4000000
namespace Law
open PySem PySem.Spec PyProof.Rows L2 He Q
def top (i : Nat) : Stmt := PySem.Challenge.pw_nodisguise_k88_rings_apart.main.body.getD i (.Pass ⟨0, 0, 0, 0⟩)
def tab : Tab := [("BadCase", ["BadCase", "DisguiseError"]), ("BadLetters", ["BadLetters", "DisguiseError"]), ("BadNumber", ["BadNumber", "DisguiseError"])]
/-! _law_pick -/
def m__law_pick : SM :=
  (mSeq (mSet 2 (mIxPk 0 (mC (.int 0))))
  (mSeq (mSetIx 0 (mC (.int 0)) (mD2 fAdd (mV 2) (mC (.int 1))))
  (mSeq (mIf (mTest (mS2 fGe (mV 2) (mSn fLen [(mIxPk 0 (mC (.int 1)))])))
  (mRet (mC (.int 0)))
  mNext)
  (mRet (mS2 fMod (mD2 fIx (mIxPk 0 (mC (.int 1))) (mV 2)) (mV 1))))))
def f__law_pick : List T → FRes := mkF [0] 3 m__law_pick
/-! _law_great -/
def m__law_great : SM :=
  (mSeq (mSet 2 (mC (.int 0)))
  (mSeq (mFor (mRange1 [(mV 1)]) (tgName 3)
  (mSet 2 (mD2 fAdd (mD2 fMul (mV 2) (mC (.int 24))) (mCall f__law_pick [(.lend 0), (.val (mC (.int 24)))]))))
  (mRet (mV 2))))
def f__law_great : List T → FRes := mkF [0] 4 m__law_great
/-! _law_most -/
def m__law_most : SM :=
  (mSeq (mSet 1 (mS2 fFdiv (mV 0) (mC (.int 2))))
  (mSeq (mIf (mTest (mS2 fEq (mS2 fMod (mSn fInt [(mV 0)]) (mC (.int 2))) (mC (.int 0))))
  (mRet (mD2 fMul (mV 1) (mV 1)))
  mNext)
  (mRet (mS2 fFdiv (mS2 fSub (mD2 fMul (mV 0) (mV 1)) (mS2 fMod (mSn fInt [(mV 1)]) (mC (.int 2)))) (mC (.int 2))))))
def f__law_most : List T → FRes := mkF [] 2 m__law_most
/-! _law_near -/
def m__law_near : SM :=
  (mSeq (mSet 3 (mSn fLen [(mV 0)]))
  (mRet (mS2 fIn (mS2 fMod (mSn fInt [(mS2 fSub (mMt "str" fIndexS (mV 0) [(mV 1)]) (mMt "str" fIndexS (mV 0) [(mV 2)]))]) (mV 3)) (mTup [(mC (.int 0)), (mC (.int 1)), (mS2 fSub (mV 3) (mC (.int 1)))]))))
def f__law_near : List T → FRes := mkF [] 4 m__law_near
/-! _law_two_near -/
def m__law_two_near : SM :=
  (mRet (mAndV (mCall f__law_near [(.val (mV 0)), (.val (mD2 fIx (mV 1) (mC (.int 0)))), (.val (mD2 fIx (mV 2) (mC (.int 0))))]) (mCall f__law_near [(.val (mV 0)), (.val (mD2 fIx (mV 1) (mC (.int 1)))), (.val (mD2 fIx (mV 2) (mC (.int 1))))])))
def f__law_two_near : List T → FRes := mkF [] 3 m__law_two_near
/-! is_letters -/
def m_is_letters : SM :=
  (mSeq (mIf (mOr (mNot (mTest (mIsi ["str"] (mV 0)))) (mNot (mTest (mChain fLe fLe (mC (.int 1)) (mSn fLen [(mV 0)]) (mC (.int 12))))))
  (mRet (mC (.bl false)))
  mNext)
  (mRet (mAndV (mS2 fEq (mSn fLen [(mComp [1] (mIter (mV 0)) (tgName 1) (mTest (mS2 fIn (mV 1) (mC (.str "abcdefghijklmnopqrstuvwxyz0123456789._-!*@+")))) (mV 1))]) (mSn fLen [(mV 0)])) (mS2 fEq (mLenSet (mV 0)) (mSn fLen [(mV 0)])))))
def f_is_letters : List T → FRes := mkF [] 2 m_is_letters
/-! plain_form -/
def m_plain_form (rc : List T → FRes) : SM :=
  (mSeq (mIf (mTest (mIsi ["tuple", "list"] (mV 0)))
  (mRet (mDn fTuple [(mComp [1] (mIter (mV 0)) (tgName 1) mYes (mCall rc [(.val (mV 1))]))]))
  mNext)
  (mRet (mV 0)))
def r_plain_form : Nat → List T → FRes
  | 0 => fun _ => .stuck
  | n + 1 => mkF [] 2 (m_plain_form (r_plain_form n))
def f_plain_form : List T → FRes := r_plain_form 40
/-! check_letters -/
def m_check_letters : SM :=
  (mSeq (mIf (mNot (mTest (mCall f_is_letters [(.val (mV 0))])))
  (mRaise "BadLetters" "at" (mCall f_plain_form [(.val (mV 0))]))
  mNext)
  (mRet (mV 0)))
def f_check_letters : List T → FRes := mkF [] 1 m_check_letters
/-! check_ring -/
def m_check_ring : SM :=
  (mSeq (mDrop (mCall f_check_letters [(.val (mV 0))]))
  (mIf (mTest (mS2 fLt (mSn fLen [(mV 0)]) (mC (.int 3))))
  (mRaise "BadCase" "at" (mC (.str "ring")))
  mNext))
def f_check_ring : List T → FRes := mkF [] 1 m_check_ring
/-! even_names -/
def m_even_names : SM :=
  (mSeq (mSet 1 (mStep 2 (mV 0)))
  (mRet (mDn fTuple [(mComp2 [2, 3] [3] (mIter (mV 1)) (tgName 2) mYes (mIter (mV 1)) (tgName 3) mYes (mD2 fAdd (mV 2) (mV 3)))])))
def f_even_names : List T → FRes := mkF [] 4 m_even_names
/-! seconds_count -/
def m_seconds_count : SM :=
  (mSeq (mSet 2 (mS2 fFdiv (mV 0) (mC (.int 2))))
  (mRet (mD2 fAdd (mS2 fFdiv (mV 2) (mC (.int 2))) (mD2 fMul (mS2 fMod (mV 2) (mC (.int 2))) (mS2 fMod (mV 1) (mC (.int 2)))))))
def f_seconds_count : List T → FRes := mkF [] 3 m_seconds_count
/-! ring_names -/
def m_ring_names : SM :=
  (mSeq (mDrop (mCall f_check_ring [(.val (mV 0))]))
  (mSeq (mSet 1 (mSn fLen [(mV 0)]))
  (mSeq (mIf (mTest (mS2 fEq (mS2 fMod (mV 1) (mC (.int 2))) (mC (.int 0))))
  (mRet (mCall f_even_names [(.val (mV 0))]))
  mNext)
  (mSeq (mSetO 2 (mLst []))
  (mSeq (mSet 3 (mC (.int 0)))
  (mSeq (mFor (mRange1 [(mV 1)]) (tgName 4)
  (mSeq (mSet 5 (mCall f_seconds_count [(.val (mV 1)), (.val (mV 4))]))
  (mSeq (mFor (mIter (mDn fSortedI [(mComp [7] (mRange2 [(mV 3), (mD2 fAdd (mV 3) (mV 5))]) (tgName 7) mYes (mS2 fMod (mD2 fMul (mC (.int 2)) (mV 7)) (mV 1)))])) (tgName 6)
  (mDrop (mAppend 2 (mD2 fAdd (mD2 fIx (mV 0) (mV 4)) (mD2 fIx (mV 0) (mV 6))))))
  (mAug 3 (fun i j => i + j) (mV 5)))))
  (mRet (mDn fTuple [(mShare 2)]))))))))
def f_ring_names : List T → FRes := mkF [] 8 m_ring_names
/-! ring_pairs -/
def m_ring_pairs : SM :=
  (mSeq (mDrop (mCall f_check_ring [(.val (mV 0))]))
  (mRet (mD2 fAdd (mDn fTuple [(mComp [1] (mRange2 [(mC (.int 1)), (mSn fLen [(mV 0)])]) (tgName 1) mYes (mTup [(mD2 fIx (mV 0) (mS2 fSub (mV 1) (mC (.int 1)))), (mD2 fIx (mV 0) (mV 1))]))]) (mTup [(mTup [(mD2 fIx (mV 0) (mNeg (mC (.int 1)))), (mD2 fIx (mV 0) (mC (.int 0)))])]))))
def f_ring_pairs : List T → FRes := mkF [] 2 m_ring_pairs
/-! _law_names_right -/
def m__law_names_right : SM :=
  (mSeq (mSet 1 (mSn fLen [(mV 0)]))
  (mSeq (mSet 2 (mCall f_ring_names [(.val (mV 0))]))
  (mSeq (mIf (mOr (mNot (mTest (mIsi ["tuple"] (mV 2)))) (mTest (mS2 fNe (mSn fLen [(mV 2)]) (mCall f__law_most [(.val (mV 1))]))))
  (mRet (mC (.bl false)))
  mNext)
  (mSeq (mSetO 3 (mLst []))
  (mSeq (mFor (mIter (mV 2)) (tgName 4)
  (mSeq (mIf (mOr (mNot (mTest (mIsi ["str"] (mV 4)))) (mOr (mTest (mS2 fNe (mSn fLen [(mV 4)]) (mC (.int 2)))) (mOr (mTest (mS2 fNotIn (mD2 fIx (mV 4) (mC (.int 0))) (mV 0))) (mTest (mS2 fNotIn (mD2 fIx (mV 4) (mC (.int 1))) (mV 0))))))
  (mRet (mC (.bl false)))
  mNext)
  (mDrop (mAppend 3 (mTup [(mMt "str" fIndexS (mV 0) [(mD2 fIx (mV 4) (mC (.int 0)))]), (mMt "str" fIndexS (mV 0) [(mD2 fIx (mV 4) (mC (.int 1)))])])))))
  (mSeq (mIf (mTest (mS2 fNe (mShare 3) (mSortSet (mShare 3))))
  (mRet (mC (.bl false)))
  mNext)
  (mSeq (mFor (mRange1 [(mSn fLen [(mV 2)])]) (tgName 5)
  (mFor (mRange1 [(mV 5)]) (tgName 6)
  (mIf (mTest (mCall f__law_two_near [(.val (mV 0)), (.val (mD2 fIx (mV 2) (mV 5))), (.val (mD2 fIx (mV 2) (mV 6)))]))
  (mRet (mC (.bl false)))
  mNext)))
  (mSeq (mSet 7 (mDn fTuple [(mComp [5] (mRange1 [(mV 1)]) (tgName 5) mYes (mTup [(mD2 fIx (mV 0) (mV 5)), (mD2 fIx (mV 0) (mS2 fMod (mD2 fAdd (mV 5) (mC (.int 1))) (mV 1)))]))]))
  (mRet (mS2 fEq (mSn fRepr [(mCall f_ring_pairs [(.val (mV 0))])]) (mSn fRepr [(mV 7)])))))))))))
def f__law_names_right : List T → FRes := mkF [] 8 m__law_names_right
/-! _law_is_int -/
def m__law_is_int : SM :=
  (mRet (mAndV (mIsi ["int"] (mV 0)) (mAndV (mNotV (mIsi ["bool"] (mV 0))) (mS2 fEq (mV 0) (mV 1)))))
def f__law_is_int : List T → FRes := mkF [] 2 m__law_is_int
/-! is_int -/
def m_is_int : SM :=
  (mRet (mAndV (mIsi ["int"] (mV 0)) (mNotV (mIsi ["bool"] (mV 0)))))
def f_is_int : List T → FRes := mkF [] 1 m_is_int
/-! check_number -/
def m_check_number : SM :=
  (mSeq (mIf (mOr (mNot (mTest (mCall f_is_int [(.val (mV 0))]))) (mTest (mS2 fLt (mV 0) (mV 1))))
  (mRaise "BadNumber" "at" (mCall f_plain_form [(.val (mV 0))]))
  mNext)
  (mRet (mV 0)))
def f_check_number : List T → FRes := mkF [] 2 m_check_number
/-! power_of -/
def m_power_of : SM :=
  (mSeq (mSet 2 (mC (.int 1)))
  (mSeq (mFor (mRange1 [(mV 1)]) (tgName 3)
  (mSet 2 (mD2 fMul (mV 2) (mV 0))))
  (mRet (mV 2))))
def f_power_of : List T → FRes := mkF [] 4 m_power_of
/-! even_most -/
def m_even_most : SM :=
  (mSeq (mDrop (mCall f_check_number [(.val (mV 0)), (.val (mC (.int 3)))]))
  (mSeq (mDrop (mCall f_check_number [(.val (mV 1)), (.val (mC (.int 0)))]))
  (mSeq (mIf (mTest (mS2 fEq (mS2 fMod (mV 0) (mC (.int 2))) (mC (.int 1))))
  (mRaise "BadCase" "at" (mC (.str "odd")))
  mNext)
  (mRet (mCall f_power_of [(.val (mS2 fFdiv (mV 0) (mC (.int 2)))), (.val (mV 1))])))))
def f_even_most : List T → FRes := mkF [] 2 m_even_most
/-! ring_bound -/
def m_ring_bound : SM :=
  (mSeq (mDrop (mCall f_check_number [(.val (mV 0)), (.val (mC (.int 3)))]))
  (mSeq (mDrop (mCall f_check_number [(.val (mV 1)), (.val (mC (.int 0)))]))
  (mRet (mS2 fFdiv (mD2 fMul (mV 0) (mV 1)) (mC (.int 2))))))
def f_ring_bound : List T → FRes := mkF [] 2 m_ring_bound
/-! ring_most -/
def m_ring_most : SM :=
  (mSeq (mDrop (mCall f_check_number [(.val (mV 0)), (.val (mC (.int 3)))]))
  (mRet (mS2 fFdiv (mD2 fMul (mV 0) (mS2 fFdiv (mV 0) (mC (.int 2)))) (mC (.int 2)))))
def f_ring_most : List T → FRes := mkF [] 1 m_ring_most
/-! _law_numbers -/
def m__law_numbers : SM :=
  (mSeq (mSet 3 (mCall f_ring_bound [(.val (mV 0)), (.val (mV 1))]))
  (mSeq (mIf (mOr (mNot (mTest (mIsi ["int"] (mV 3)))) (mOr (mTest (mIsi ["bool"] (mV 3))) (mNot (mTest (mChain fLe fLt (mD2 fMul (mC (.int 2)) (mV 3)) (mD2 fMul (mV 0) (mV 1)) (mD2 fAdd (mD2 fMul (mC (.int 2)) (mV 3)) (mC (.int 2))))))))
  (mRet (mC (.bl false)))
  mNext)
  (mSeq (mIf (mNot (mTest (mCall f__law_is_int [(.val (mCall f_ring_most [(.val (mV 0))])), (.val (mCall f__law_most [(.val (mV 0))]))])))
  (mRet (mC (.bl false)))
  mNext)
  (mSeq (mSet 4 (mC (.int 1)))
  (mSeq (mFor (mRange1 [(mV 2)]) (tgName 5)
  (mSet 4 (mD2 fMul (mV 4) (mS2 fFdiv (mV 0) (mC (.int 2))))))
  (mSeq (mAsg (tgTup [(tgName 6), (tgName 7)]) (mTup [(mC (.str "none")), (mC .non)]))
  (mSeq (mTry tab (mSet 3 (mCall f_even_most [(.val (mV 0)), (.val (mV 2))]))
  [⟨"BadCase", some 8, fun f' dv ρ => if f' = "at" then putL [(7, .leaf dv), (6, .leaf (.str "case"))] ρ else .stuck⟩,
  ⟨"DisguiseError", none, fun _ _ => (mSet 6 (mC (.str "other")))⟩])
  (mSeq (mIf (mTest (mS2 fEq (mS2 fMod (mSn fInt [(mV 0)]) (mC (.int 2))) (mC (.int 1))))
  (mRet (mS2 fEq (mTup [(mV 6), (mV 7)]) (mTup [(mC (.str "case")), (mC (.str "odd"))])))
  mNext)
  (mRet (mAndV (mS2 fEq (mV 6) (mC (.str "none"))) (mCall f__law_is_int [(.val (mV 3)), (.val (mV 4))])))))))))))
def f__law_numbers : List T → FRes := mkF [] 9 m__law_numbers
/-! _law_purse -/
def m__law_purse : SM :=
  (mSeq (mSetO 1 (mLst []))
  (mSeq (mFor (mRange1 [(mSn fMin [(mSn fLen [(mV 0)]), (mC (.int 24))])]) (tgName 2)
  (mSeq (mSet 3 (mS2 fMod (mSn fInt [(mD2 fIx (mV 0) (mV 2))]) (mS2 fPow (mC (.int 24)) (mC (.int 20)))))
  (mFor (mRange1 [(mC (.int 20))]) (tgName 4)
  (mSeq (mDrop (mAppend 1 (mS2 fMod (mV 3) (mC (.int 24)))))
  (mSeq (mSet 3 (mS2 fFdiv (mV 3) (mC (.int 24))))
  (mIf (mTest (mS2 fEq (mV 3) (mC (.int 0))))
  mBreak
  mNext))))))
  (mRet (mLst [(mC (.int 0)), (mShare 1)]))))
def f__law_purse : List T → FRes := mkF [] 5 m__law_purse
/-! _law_word_of -/
def m__law_word_of : SM :=
  (mSeq (mAsg (tgTup [(tgName 3), (tgName 4)]) (mTup [(mC (.str "none")), (mC .non)]))
  (mSeq (mTry tab (mIf (mTest (mS2 fEq (mV 0) (mC (.int 0))))
  (mDrop (mCall f_ring_pairs [(.val (mV 1))]))
  (mIf (mTest (mS2 fEq (mV 0) (mC (.int 1))))
  (mDrop (mCall f_ring_names [(.val (mV 1))]))
  (mIf (mTest (mS2 fEq (mV 0) (mC (.int 2))))
  (mDrop (mCall f_ring_bound [(.val (mV 1)), (.val (mV 2))]))
  (mIf (mTest (mS2 fEq (mV 0) (mC (.int 3))))
  (mDrop (mCall f_ring_most [(.val (mV 1))]))
  (mDrop (mCall f_even_most [(.val (mV 1)), (.val (mV 2))]))))))
  [⟨"BadLetters", some 5, fun f' dv ρ => if f' = "at" then putL [(4, .leaf dv), (3, .leaf (.str "letters"))] ρ else .stuck⟩,
  ⟨"BadNumber", some 5, fun f' dv ρ => if f' = "at" then putL [(4, .leaf dv), (3, .leaf (.str "number"))] ρ else .stuck⟩,
  ⟨"BadCase", some 5, fun f' dv ρ => if f' = "at" then putL [(4, .leaf dv), (3, .leaf (.str "case"))] ρ else .stuck⟩,
  ⟨"DisguiseError", none, fun _ _ => (mSet 3 (mC (.str "other")))⟩])
  (mRet (mSn fRepr [(mTup [(mV 3), (mV 4)])]))))
def f__law_word_of : List T → FRes := mkF [] 6 m__law_word_of
/-! _law_refused -/
def m__law_refused : SM :=
  (mSeq (mSetO 0 (mLst []))
  (mSeq (mFor (mRange1 [(mC (.int 2))]) (tgName 1)
  (mSeq (mFor (mIter (mTup [(mC (.str "")), (mC (.str "aa")), (mC (.str "abca")), (mC (.str "ab^")), (mC (.str "Abc")), (mC .non), (mC (.int 3)), (mTup [(mC (.str "a")), (mC (.str "b")), (mC (.str "c"))]), (mC (.str "abcdefghijklm")), (mC (.bl true))])) (tgName 2)
  (mDrop (mAppend 0 (mTup [(mV 1), (mV 2), (mC .non), (mC (.str "letters")), (mV 2)]))))
  (mFor (mIter (mTup [(mC (.str "a")), (mC (.str "ba")), (mC (.str "."))])) (tgName 3)
  (mDrop (mAppend 0 (mTup [(mV 1), (mV 3), (mC .non), (mC (.str "case")), (mC (.str "ring"))]))))))
  (mSeq (mFor (mIter (mTup [(mC (.int 2)), (mC (.int 0)), (mNeg (mC (.int 1))), (mC (.bl true)), (mC .non), (mC (.str "3")), (mTup [(mC (.int 3))]), (mC (.str "any"))])) (tgName 2)
  (mSeq (mDrop (mAppend 0 (mTup [(mC (.int 2)), (mV 2), (mC .non), (mC (.str "number")), (mV 2)])))
  (mSeq (mDrop (mAppend 0 (mTup [(mC (.int 3)), (mV 2), (mC .non), (mC (.str "number")), (mV 2)])))
  (mDrop (mAppend 0 (mTup [(mC (.int 4)), (mV 2), (mNeg (mC (.int 1))), (mC (.str "number")), (mV 2)]))))))
  (mSeq (mFor (mIter (mTup [(mNeg (mC (.int 1))), (mC (.bl false)), (mC .non), (mC (.str "0")), (mC (.str "any"))])) (tgName 2)
  (mSeq (mDrop (mAppend 0 (mTup [(mC (.int 2)), (mC (.int 3)), (mV 2), (mC (.str "number")), (mV 2)])))
  (mSeq (mDrop (mAppend 0 (mTup [(mC (.int 4)), (mC (.int 5)), (mV 2), (mC (.str "number")), (mV 2)])))
  (mDrop (mAppend 0 (mTup [(mC (.int 4)), (mC (.int 4)), (mV 2), (mC (.str "number")), (mV 2)]))))))
  (mSeq (mSetO 0 (mD2 fAdd (mShare 0) (mLst [(mTup [(mC (.int 4)), (mC (.int 3)), (mC (.int 0)), (mC (.str "case")), (mC (.str "odd"))]), (mTup [(mC (.int 4)), (mC (.int 7)), (mC (.int 2)), (mC (.str "case")), (mC (.str "odd"))]), (mTup [(mC (.int 4)), (mC (.int 4)), (mC (.int 0)), (mC (.str "none")), (mC .non)])])))
  (mSeq (mDrop (mAppend 0 (mTup [(mC (.int 2)), (mC (.int 3)), (mC (.int 0)), (mC (.str "none")), (mC .non)])))
  (mSeq (mFor (mIter (mShare 0)) (tgTup [(tgName 1), (tgName 4), (tgName 5), (tgName 6), (tgName 7)])
  (mIf (mTest (mS2 fNe (mCall f__law_word_of [(.val (mV 1)), (.val (mV 4)), (.val (mV 5))]) (mSn fRepr [(mTup [(mV 6), (mV 7)])])))
  (mRet (mC (.bl false)))
  mNext))
  (mRet (mC (.bl true))))))))))
def f__law_refused : List T → FRes := mkF [] 8 m__law_refused
/-! _law_ring_letters -/
def m__law_ring_letters : SM :=
  (mSeq (mSet 2 (mD2 fIx (mTup [(mC (.str "abcdefghijkl")), (mC (.str "lkjihgfedcba")), (mC (.str "b0a1z.9-y!8x")), (mC (.str "qwertyuiop@+"))]) (mCall f__law_pick [(.lend 0), (.val (mC (.int 4)))])))
  (mSeq (mSet 3 (mCall f__law_pick [(.lend 0), (.val (mC (.int 12)))]))
  (mRet (mSlice (mD2 fAdd (mSlice (mV 2) (some (mV 3)) none) (mSlice (mV 2) none (some (mV 3)))) none (some (mV 1))))))
def f__law_ring_letters : List T → FRes := mkF [0] 4 m__law_ring_letters
/-! _law_pairs -/
def m__law_pairs : SM :=
  (mSeq (mSet 1 (mLst []))
  (mSeq (mFor (mIter (mV 0)) (tgName 2)
  (mSet 1 (mD2 fAdd (mV 1) (mComp [3] (mIter (mV 0)) (tgName 3) mYes (mD2 fAdd (mV 2) (mV 3))))))
  (mRet (mV 1))))
def f__law_pairs : List T → FRes := mkF [] 4 m__law_pairs
/-! _law_trying -/
def m__law_trying : SM :=
  (mSeq (mSet 0 (mCall f__law_pairs [(.val (mC (.str "abcde")))]))
  (mSeq (mSet 1 (mLst [(mTup [])]))
  (mSeq (mFor (mRange1 [(mC (.int 6))]) (tgName 2)
  (mSeq (mSetO 3 (mLst []))
  (mSeq (mFor (mIter (mV 1)) (tgName 4)
  (mSeq (mSet 5 (mC (.int 0)))
  (mSeq (mIf (mTest (mS2 fNe (mV 4) (mTup [])))
  (mSet 5 (mD2 fAdd (mD2 fIx (mV 4) (mNeg (mC (.int 1)))) (mC (.int 1))))
  mNext)
  (mFor (mRange2 [(mV 5), (mSn fLen [(mV 0)])]) (tgName 6)
  (mIf (mTest (mS2 fEq (mSn fLen [(mComp [7] (mIter (mV 4)) (tgName 7) (mTest (mCall f__law_two_near [(.val (mC (.str "abcde"))), (.val (mD2 fIx (mV 0) (mV 7))), (.val (mD2 fIx (mV 0) (mV 6)))])) (mV 7))]) (mC (.int 0))))
  (mDrop (mAppend 3 (mD2 fAdd (mV 4) (mTup [(mV 6)]))))
  mNext)))))
  (mSeq (mIf (mTest (mS2 fEq (mShare 3) (mLst [])))
  (mRet (mS2 fEq (mV 2) (mCall f_ring_most [(.val (mC (.int 5)))])))
  mNext)
  (mSet 1 (mShare 3))))))
  (mRet (mC (.bl false))))))
def f__law_trying : List T → FRes := mkF [] 8 m__law_trying
/-! law -/
def m_law : SM :=
  (mSeq (mSetO 1 (mCall f__law_purse [(.val (mV 0))]))
  (mSeq (mSet 2 (mD2 fIx (mTup [(mC (.int 5)), (mC (.int 3)), (mC (.int 4)), (mC (.int 6)), (mC (.int 7)), (mC (.int 8)), (mC (.int 9)), (mC (.int 10)), (mC (.int 11)), (mC (.int 12))]) (mCall f__law_pick [(.lend 1), (.val (mC (.int 10)))])))
  (mSeq (mFor (mIter (mTup [(mV 2), (mD2 fAdd (mC (.int 3)) (mCall f__law_pick [(.lend 1), (.val (mC (.int 10)))]))])) (tgName 3)
  (mSeq (mSet 4 (mCall f__law_ring_letters [(.lend 1), (.val (mV 3))]))
  (mIf (mOr (mNot (mTest (mCall f__law_names_right [(.val (mV 4))]))) (mNot (mTest (mCall f__law_numbers [(.val (mV 3)), (.val (mCall f__law_most [(.val (mV 3))])), (.val (mC (.int 2)))]))))
  (mRet (mC (.bl false)))
  mNext)))
  (mSeq (mFor (mRange2 [(mC (.int 3)), (mC (.int 14))]) (tgName 3)
  (mIf (mNot (mTest (mCall f__law_numbers [(.val (mV 3)), (.val (mS2 fSub (mV 3) (mC (.int 3)))), (.val (mS2 fSub (mV 3) (mC (.int 3))))])))
  (mRet (mC (.bl false)))
  mNext))
  (mSeq (mSet 5 (mD2 fAdd (mC (.int 3)) (mCall f__law_great [(.lend 1), (.val (mC (.int 14)))])))
  (mSeq (mIf (mNot (mTest (mCall f__law_numbers [(.val (mV 5)), (.val (mCall f__law_great [(.lend 1), (.val (mC (.int 12)))])), (.val (mD2 fAdd (mCall f__law_pick [(.lend 1), (.val (mC (.int 24)))]) (mD2 fMul (mC (.int 12)) (mCall f__law_pick [(.lend 1), (.val (mC (.int 24)))]))))])))
  (mRet (mC (.bl false)))
  mNext)
  (mSeq (mIf (mOr (mNot (mTest (mCall f__law_numbers [(.val (mD2 fAdd (mD2 fMul (mV 5) (mV 5)) (mC (.int 1)))), (.val (mV 5)), (.val (mC (.int 3)))]))) (mNot (mTest (mCall f__law_numbers [(.val (mD2 fAdd (mS2 fPow (mC (.int 10)) (mC (.int 60))) (mV 5))), (.val (mS2 fPow (mC (.int 10)) (mC (.int 50)))), (.val (mC (.int 2)))]))))
  (mRet (mC (.bl false)))
  mNext)
  (mSeq (mIf (mAnd (mTest (mS2 fEq (mCall f__law_pick [(.lend 1), (.val (mC (.int 4)))]) (mC (.int 1)))) (mNot (mTest (mCall f__law_trying []))))
  (mRet (mC (.bl false)))
  mNext)
  (mRet (mCall f__law_refused []))))))))))
def f_law : List T → FRes := mkF [] 6 m_law
/-! facts -/
def ts : List Te :=
  [fun K => (Fa.ok K (.free "len")),
  fun K => (Fa.ok K (.glo "_law_pick")),
  fun K => (Fa.ok K (.free "range")),
  fun K => (Fa.ok K (.glo "_law_great")),
  fun K => (Fa.ok K (.free "int")),
  fun K => (Fa.ok K (.glo "_law_most")),
  fun K => (Fa.ok K (.glo "_law_near")),
  fun K => (Fa.ok K (.glo "_law_two_near")),
  fun K => (Fa.ok K (.free "isinstance")),
  fun K => (Fa.ok K (.free "str")),
  fun K => (Fa.ok K (.int "MOST_SIGNS" 12)),
  fun K => (Fa.ok K (.str "SIGNS" "abcdefghijklmnopqrstuvwxyz0123456789._-!*@+")),
  fun K => (Fa.ok K (.free "set")),
  fun K => (Fa.ok K (.glo "is_letters")),
  fun K => (Fa.ok K (.free "list")),
  fun K => (Fa.ok K (.free "tuple")),
  fun K => (Fa.ok K (.glo "plain_form")),
  fun K => (Fa.ok K (.glo "check_letters")),
  fun K => (Fa.ok K (.int "LEAST_RING" 3)),
  fun K => (Fa.ok K (.glo "check_ring")),
  fun K => (Fa.ok K (.glo "even_names")),
  fun K => (Fa.ok K (.glo "seconds_count")),
  fun K => (Fa.ok K (.free "sorted")),
  fun K => (Fa.ok K (.glo "ring_names")),
  fun K => (Fa.ok K (.glo "ring_pairs")),
  fun K => (Fa.ok K (.free "repr")),
  fun K => (Fa.ok K (.glo "_law_names_right")),
  fun K => (Fa.ok K (.free "bool")),
  fun K => (Fa.ok K (.glo "_law_is_int")),
  fun K => (Fa.ok K (.glo "is_int")),
  fun K => (Fa.ok K (.glo "check_number")),
  fun K => (Fa.ok K (.glo "power_of")),
  fun K => (Fa.ok K (.glo "even_most")),
  fun K => (Fa.ok K (.glo "ring_bound")),
  fun K => (Fa.ok K (.glo "ring_most")),
  fun K => (Fa.ok K (.glo "BadCase")),
  (fldIn tab "at"),
  fun K => (Fa.ok K (.glo "DisguiseError")),
  (tabIn tab ["BadCase", "DisguiseError"]),
  fun K => (Fa.ok K (.glo "_law_numbers")),
  fun K => (Fa.ok K (.free "min")),
  fun K => (Fa.ok K (.glo "_law_purse")),
  fun K => (Fa.ok K (.glo "BadLetters")),
  fun K => (Fa.ok K (.glo "BadNumber")),
  (tabIn tab ["BadLetters", "BadNumber", "BadCase", "DisguiseError"]),
  fun K => (Fa.ok K (.glo "_law_word_of")),
  fun K => (Fa.ok K (.glo "_law_refused")),
  fun K => (Fa.ok K (.glo "_law_ring_letters")),
  fun K => (Fa.ok K (.glo "_law_pairs")),
  fun K => (Fa.ok K (.glo "_law_trying")),
  fun K => (Fa.ok K (.glo "law")),
  (xcIn "BadCase" "at"),
  (xcIn "BadLetters" "at"),
  (xcIn "BadNumber" "at")]
def fn : List FnD :=
  [dOf "_law_pick" (top 29),
  dOf "_law_great" (top 36),
  dOf "_law_most" (top 33),
  dOf "_law_near" (top 31),
  dOf "_law_two_near" (top 32),
  dOf "is_letters" (top 11),
  dOf "plain_form" (top 12),
  dOf "check_letters" (top 14),
  dOf "check_ring" (top 19),
  dOf "even_names" (top 23),
  dOf "seconds_count" (top 24),
  dOf "ring_names" (top 25),
  dOf "ring_pairs" (top 20),
  dOf "_law_names_right" (top 35),
  dOf "_law_is_int" (top 34),
  dOf "is_int" (top 10),
  dOf "check_number" (top 13),
  dOf "power_of" (top 16),
  dOf "even_most" (top 26),
  dOf "ring_bound" (top 21),
  dOf "ring_most" (top 22),
  dOf "_law_numbers" (top 37),
  dOf "_law_purse" (top 28),
  dOf "_law_word_of" (top 40),
  dOf "_law_refused" (top 41),
  dOf "_law_ring_letters" (top 30),
  dOf "_law_pairs" (top 39),
  dOf "_law_trying" (top 38),
  dOf "law" (top 42),
  iOf "BadCase" "BadCase.__init__" (inClass (top 4) 0),
  iOf "BadLetters" "BadLetters.__init__" (inClass (top 2) 0),
  iOf "BadNumber" "BadNumber.__init__" (inClass (top 3) 0)]
section
variable {P : Program} {w : World} {K : PySem.W.Frag} {mg : Str → Option Value} {base : Heap}
theorem sx_BadCase : FnScope ["self", "at"] ["self", "at"] (defScope (inClass (top 4) 0)) := ⟨rfl, rfl, rfl, by decide +kernel, rfl, by decide +kernel, by decide +kernel⟩
theorem exc_BadCase (M : Mo ts fn K mg) : ExcC K mg P w base "BadCase" "at" (ga K "BadCase") := M.exc 51 29 rfl rfl sx_BadCase rfl (.inl rfl) (.inl rfl) (by decide) (by decide) (fun _ _ _ _ _ _ us hl => match us, hl with | [_, _], _ => rfl)
theorem sx_BadLetters : FnScope ["self", "at"] ["self", "at"] (defScope (inClass (top 2) 0)) := ⟨rfl, rfl, rfl, by decide +kernel, rfl, by decide +kernel, by decide +kernel⟩
theorem exc_BadLetters (M : Mo ts fn K mg) : ExcC K mg P w base "BadLetters" "at" (ga K "BadLetters") := M.exc 52 30 rfl rfl sx_BadLetters rfl (.inl rfl) (.inl rfl) (by decide) (by decide) (fun _ _ _ _ _ _ us hl => match us, hl with | [_, _], _ => rfl)
theorem sx_BadNumber : FnScope ["self", "at"] ["self", "at"] (defScope (inClass (top 3) 0)) := ⟨rfl, rfl, rfl, by decide +kernel, rfl, by decide +kernel, by decide +kernel⟩
theorem exc_BadNumber (M : Mo ts fn K mg) : ExcC K mg P w base "BadNumber" "at" (ga K "BadNumber") := M.exc 53 31 rfl rfl sx_BadNumber rfl (.inl rfl) (.inl rfl) (by decide) (by decide) (fun _ _ _ _ _ _ us hl => match us, hl with | [_, _], _ => rfl)
theorem sc__law_pick : FnScope ["purse", "many", "at"] ["purse", "many"] (defScope (top 29)) := ⟨rfl, rfl, rfl, by decide +kernel, rfl, by decide +kernel, by decide +kernel⟩
theorem ok__law_pick (M : Mo ts fn K mg) : Good P w K mg base 1 "_law_pick" ["purse", "many"] [0] f__law_pick :=
  good_of (k := 0) (N := ["purse", "many", "at"]) (body := m__law_pick) (M.fun_ 0 rfl) (M.glo 1 rfl) sc__law_pick (by decide) (by decide) (fun _ _ _ _ _ _ us hl => match us, hl with | [_, _], _ => rfl) fun cdv A outer s H E hgd hr =>
  (pbd_cons (psd_setN (i := 2) sc__law_pick.nd rfl (by first | exact .inl rfl | exact .inr rfl) (by decide) (ped_ixPk (pv 0) ped_int (fun _ _ => rfl)))
  (pbd_cons (psd_setIx (pv 0) ped_int (ped_binD op_fAdd (ped_V (pv 2)) ped_int))
  (pbd_cons (psd_if (ptd_cmp sc_fGe op_fGe (ped_V (pv 2)) (ped_bS sc_fLen c_fLen rfl (M.free 0 rfl) PySem.boot_len (pad_cons (ped_ixPk (pv 0) ped_int (fun _ _ => rfl)) pad_nil)) rfl)
  (pbd_one (psd_ret ped_int))
  pbd_nil)
  (pbd_one (psd_ret (ped_binS sc_fMod op_fMod (ped_ix (ped_ixPk (pv 0) ped_int (fun _ _ => rfl)) (ped_V (pv 2)) (fun _ _ => rfl)) (ped_V (pv 1))))))))
theorem sc__law_great : FnScope ["purse", "many", "number", "turn"] ["purse", "many"] (defScope (top 36)) := ⟨rfl, rfl, rfl, by decide +kernel, rfl, by decide +kernel, by decide +kernel⟩
theorem ok__law_great (M : Mo ts fn K mg) : Good P w K mg base 2 "_law_great" ["purse", "many"] [0] f__law_great :=
  good_of (k := 1) (N := ["purse", "many", "number", "turn"]) (body := m__law_great) (M.fun_ 1 rfl) (M.glo 3 rfl) sc__law_great (by decide) (by decide) (fun _ _ _ _ _ _ us hl => match us, hl with | [_, _], _ => rfl) fun cdv A outer s H E hgd hr =>
  (pbd_cons (psd_setN (i := 2) sc__law_great.nd rfl (by first | exact .inl rfl | exact .inr rfl) (by decide) ped_int)
  (pbd_cons (psd_for rfl (pid_range1 rfl (M.free 2 rfl) (pad_cons (ped_V (pv 1)) pad_nil)) (pgd_name (i := 3) (by decide) (pg_name sc__law_great.nd rfl (by first | exact .inl rfl | exact .inr rfl)))
  (pbd_one (psd_setN (i := 2) sc__law_great.nd rfl (by first | exact .inl rfl | exact .inr rfl) (by decide) (ped_binD op_fAdd (ped_binD op_fMul (ped_V (pv 2)) ped_int) (ped_go (ok__law_pick (P := P) (w := w) (base := base) M) hgd hr (by decide) rfl (pcd_lend (pv 0) (pcd_val ped_int pcd_nil)) (by decide) rfl)))))
  (pbd_one (psd_ret (ped_V (pv 2))))))
theorem sc__law_most : FnScope ["q", "half"] ["q"] (defScope (top 33)) := ⟨rfl, rfl, rfl, by decide +kernel, rfl, by decide +kernel, by decide +kernel⟩
theorem ok__law_most (M : Mo ts fn K mg) : Good P w K mg base 1 "_law_most" ["q"] [] f__law_most :=
  good_of (k := 0) (N := ["q", "half"]) (body := m__law_most) (M.fun_ 2 rfl) (M.glo 5 rfl) sc__law_most (by decide) (by decide) (fun _ _ _ _ _ _ us hl => match us, hl with | [_], _ => rfl) fun cdv A outer s H E hgd hr =>
  (pbd_cons (psd_setN (i := 1) sc__law_most.nd rfl (by first | exact .inl rfl | exact .inr rfl) (by decide) (ped_binS sc_fFdiv op_fFdiv (ped_V (pv 0)) ped_int))
  (pbd_cons (psd_if (ptd_cmp sc_fEq (op_fEq (u64 hr)) (ped_binS sc_fMod op_fMod (ped_tS sc_fInt c_fInt rfl (M.free 4 rfl) PyProof.Rows.boot_int (pad_cons (ped_V (pv 0)) pad_nil)) ped_int) ped_int rfl)
  (pbd_one (psd_ret (ped_binD op_fMul (ped_V (pv 1)) (ped_V (pv 1)))))
  pbd_nil)
  (pbd_one (psd_ret (ped_binS sc_fFdiv op_fFdiv (ped_binS sc_fSub op_fSub (ped_binD op_fMul (ped_V (pv 0)) (ped_V (pv 1))) (ped_binS sc_fMod op_fMod (ped_tS sc_fInt c_fInt rfl (M.free 4 rfl) PyProof.Rows.boot_int (pad_cons (ped_V (pv 1)) pad_nil)) ped_int)) ped_int)))))
theorem sc__law_near : FnScope ["letters", "a", "b", "q"] ["letters", "a", "b"] (defScope (top 31)) := ⟨rfl, rfl, rfl, by decide +kernel, rfl, by decide +kernel, by decide +kernel⟩
theorem ok__law_near (M : Mo ts fn K mg) : Good P w K mg base 1 "_law_near" ["letters", "a", "b"] [] f__law_near :=
  good_of (k := 0) (N := ["letters", "a", "b", "q"]) (body := m__law_near) (M.fun_ 3 rfl) (M.glo 6 rfl) sc__law_near (by decide) (by decide) (fun _ _ _ _ _ _ us hl => match us, hl with | [_, _, _], _ => rfl) fun cdv A outer s H E hgd hr =>
  (pbd_cons (psd_setN (i := 3) sc__law_near.nd rfl (by first | exact .inl rfl | exact .inr rfl) (by decide) (ped_bS sc_fLen c_fLen rfl (M.free 0 rfl) PySem.boot_len (pad_cons (ped_V (pv 0)) pad_nil)))
  (pbd_one (psd_ret (ped_cmp sc_fIn (op_fIn (u65 hr)) (ped_binS sc_fMod op_fMod (ped_tS sc_fInt c_fInt rfl (M.free 4 rfl) PyProof.Rows.boot_int (pad_cons (ped_binS sc_fSub op_fSub (ped_mtS PySem.F.slot_str_index PySem.F.type_str_index mt_fIndexS (ped_V (pv 0)) (pad_cons (ped_V (pv 1)) pad_nil)) (ped_mtS PySem.F.slot_str_index PySem.F.type_str_index mt_fIndexS (ped_V (pv 0)) (pad_cons (ped_V (pv 2)) pad_nil))) pad_nil)) (ped_V (pv 3))) (ped_tup (pad_cons ped_int (pad_cons ped_int (pad_cons (ped_binS sc_fSub op_fSub (ped_V (pv 3)) ped_int) pad_nil)))) rfl))))
theorem sc__law_two_near : FnScope ["letters", "one", "two"] ["letters", "one", "two"] (defScope (top 32)) := ⟨rfl, rfl, rfl, by decide +kernel, rfl, by decide +kernel, by decide +kernel⟩
theorem ok__law_two_near (M : Mo ts fn K mg) : Good P w K mg base 2 "_law_two_near" ["letters", "one", "two"] [] f__law_two_near :=
  good_of (k := 1) (N := ["letters", "one", "two"]) (body := m__law_two_near) (M.fun_ 4 rfl) (M.glo 7 rfl) sc__law_two_near (by decide) (by decide) (fun _ _ _ _ _ _ us hl => match us, hl with | [_, _, _], _ => rfl) fun cdv A outer s H E hgd hr =>
  (pbd_one (psd_ret (ped_and (ped_go (ok__law_near (P := P) (w := w) (base := base) M) hgd hr (by decide) rfl (pcd_val (ped_V (pv 0)) (pcd_val (ped_ix (ped_V (pv 1)) ped_int (fun _ _ => rfl)) (pcd_val (ped_ix (ped_V (pv 2)) ped_int (fun _ _ => rfl)) pcd_nil))) (by decide) rfl) (ped_one (ped_go (ok__law_near (P := P) (w := w) (base := base) M) hgd hr (by decide) rfl (pcd_val (ped_V (pv 0)) (pcd_val (ped_ix (ped_V (pv 1)) ped_int (fun _ _ => rfl)) (pcd_val (ped_ix (ped_V (pv 2)) ped_int (fun _ _ => rfl)) pcd_nil))) (by decide) rfl)))))
theorem sc_is_letters : FnScope ["x", "sign"] ["x"] (defScope (top 11)) := ⟨rfl, rfl, rfl, by decide +kernel, rfl, by decide +kernel, by decide +kernel⟩
theorem ok_is_letters (M : Mo ts fn K mg) : Good P w K mg base 1 "is_letters" ["x"] [] f_is_letters :=
  good_of (k := 0) (N := ["x", "sign"]) (body := m_is_letters) (M.fun_ 5 rfl) (M.glo 13 rfl) sc_is_letters (by decide) (by decide) (fun _ _ _ _ _ _ us hl => match us, hl with | [_], _ => rfl) fun cdv A outer s H E hgd hr =>
  (pbd_cons (psd_if (PTd.ofW (pwd_or (ptd_not (ptd_val (ped_isi rfl (M.free 8 rfl) rfl (M.free 9 rfl) (by decide +kernel) (by decide) (ped_V (pv 0))))) (pwd_or1 (ptd_not (ptd_chain sc_fLe sc_fLe op_fLe op_fLe ped_int (ped_bS sc_fLen c_fLen rfl (M.free 0 rfl) PySem.boot_len (pad_cons (ped_V (pv 0)) pad_nil)) (ped_gI rfl (M.int 10 rfl)))))))
  (pbd_one (psd_ret ped_bl))
  pbd_nil)
  (pbd_one (psd_ret (ped_and (ped_cmp sc_fEq (op_fEq (u64 hr)) (ped_bS sc_fLen c_fLen rfl (M.free 0 rfl) PySem.boot_len (pad_cons (ped_comp (own := ([("sign", 1)] : List (Str × Nat))) rfl sc_is_letters.nd (pid_seq (ped_V (pv 0))) (blkOk_by (N := ["x", "sign"]) (sc := defScope (top 11)) (by decide +kernel)) (by decide) (by decide) (fun s H C cl fp => (pgd_name (i := 1) (by decide) (pg_name sc_is_letters.nd rfl (by first | exact .inl rfl | exact .inr rfl)))) (fun s H C cl fp => (.one (ptd_cmp sc_fIn (op_fIn (u65 hr)) (ped_V (pv 1)) (ped_gS rfl (M.str 11 rfl)) rfl))) (fun s H C cl fp => (ped_V (pv 1)))) pad_nil)) (ped_bS sc_fLen c_fLen rfl (M.free 0 rfl) PySem.boot_len (pad_cons (ped_V (pv 0)) pad_nil)) rfl) (ped_one (ped_cmp sc_fEq (op_fEq (u64 hr)) (ped_lenSet rfl rfl (M.free 0 rfl) rfl (M.free 12 rfl) (ped_V (pv 0))) (ped_bS sc_fLen c_fLen rfl (M.free 0 rfl) PySem.boot_len (pad_cons (ped_V (pv 0)) pad_nil)) rfl))))))
theorem sc_plain_form : FnScope ["x", "part"] ["x"] (defScope (top 12)) := ⟨rfl, rfl, rfl, by decide +kernel, rfl, by decide +kernel, by decide +kernel⟩
theorem okr_plain_form (M : Mo ts fn K mg) : ∀ n, Good P w K mg base (1 + n) "plain_form" ["x"] [] (r_plain_form n)
  | 0 => good_stuck (M.fun_ 6 rfl) (M.glo 16 rfl) (fun _ _ _ _ _ _ us hl => match us, hl with | [_], _ => rfl)
  | n + 1 =>
    have ih := okr_plain_form M n
    good_of (k := 1 + n) (N := ["x", "part"]) (body := m_plain_form (r_plain_form n)) (M.fun_ 6 rfl) (M.glo 16 rfl) sc_plain_form (by decide) (by decide) (fun _ _ _ _ _ _ us hl => match us, hl with | [_], _ => rfl) fun cdv A outer s H E hgd hr => (pbd_cons (psd_if (ptd_val (ped_isiT rfl (M.free 8 rfl) (.cons rfl (M.free 15 rfl) (by decide +kernel) (by decide) (by decide) (by decide) rfl (.cons rfl (M.free 14 rfl) (by decide +kernel) (by decide) (by decide) (by decide) rfl .nil)) (by decide) (by decide) (ped_V (pv 0))))
  (pbd_one (psd_ret (ped_tD c_fTuple rfl (M.free 15 rfl) PyProof.Rows.boot_tuple (pad_cons (ped_comp (own := ([("part", 1)] : List (Str × Nat))) rfl sc_plain_form.nd (pid_seq (ped_V (pv 0))) (blkOk_by (N := ["x", "part"]) (sc := defScope (top 12)) (by decide +kernel)) (by decide) (by decide) (fun s H C cl fp => (pgd_name (i := 1) (by decide) (pg_name sc_plain_form.nd rfl (by first | exact .inl rfl | exact .inr rfl)))) (fun s H C cl fp => .nil) (fun s H C cl fp => (ped_go ih hgd hr (by omega) rfl (pcd_val (ped_V (pv 1)) pcd_nil) (by decide) rfl))) pad_nil))))
  pbd_nil)
  (pbd_one (psd_ret (ped_V (pv 0)))))
theorem ok_plain_form (M : Mo ts fn K mg) : Good P w K mg base 41 "plain_form" ["x"] [] f_plain_form := okr_plain_form M 40
theorem sc_check_letters : FnScope ["x"] ["x"] (defScope (top 14)) := ⟨rfl, rfl, rfl, by decide +kernel, rfl, by decide +kernel, by decide +kernel⟩
theorem ok_check_letters (M : Mo ts fn K mg) : Good P w K mg base 42 "check_letters" ["x"] [] f_check_letters :=
  good_of (k := 41) (N := ["x"]) (body := m_check_letters) (M.fun_ 7 rfl) (M.glo 17 rfl) sc_check_letters (by decide) (by decide) (fun _ _ _ _ _ _ us hl => match us, hl with | [_], _ => rfl) fun cdv A outer s H E hgd hr =>
  (pbd_cons (psd_if (ptd_not (ptd_val (ped_go (ok_is_letters (P := P) (w := w) (base := base) M) hgd hr (by decide) rfl (pcd_val (ped_V (pv 0)) pcd_nil) (by decide) rfl)))
  (pbd_one (psd_raise rfl (exc_BadLetters (P := P) (w := w) (base := base) M) hr (by decide) (ped_go (ok_plain_form (P := P) (w := w) (base := base) M) hgd hr (by decide) rfl (pcd_val (ped_V (pv 0)) pcd_nil) (by decide) rfl) rfl))
  pbd_nil)
  (pbd_one (psd_ret (ped_V (pv 0)))))
theorem sc_check_ring : FnScope ["letters"] ["letters"] (defScope (top 19)) := ⟨rfl, rfl, rfl, by decide +kernel, rfl, by decide +kernel, by decide +kernel⟩
theorem ok_check_ring (M : Mo ts fn K mg) : Good P w K mg base 43 "check_ring" ["letters"] [] f_check_ring :=
  good_of (k := 42) (N := ["letters"]) (body := m_check_ring) (M.fun_ 8 rfl) (M.glo 19 rfl) sc_check_ring (by decide) (by decide) (fun _ _ _ _ _ _ us hl => match us, hl with | [_], _ => rfl) fun cdv A outer s H E hgd hr =>
  (pbd_cons (psd_expr (ped_go (ok_check_letters (P := P) (w := w) (base := base) M) hgd hr (by decide) rfl (pcd_val (ped_V (pv 0)) pcd_nil) (by decide) rfl))
  (pbd_one (psd_if (ptd_cmp sc_fLt op_fLt (ped_bS sc_fLen c_fLen rfl (M.free 0 rfl) PySem.boot_len (pad_cons (ped_V (pv 0)) pad_nil)) (ped_gI rfl (M.int 18 rfl)) rfl)
  (pbd_one (psd_raise rfl (exc_BadCase (P := P) (w := w) (base := base) M) hr (by decide) ped_str rfl))
  pbd_nil)))
theorem sc_even_names : FnScope ["letters", "half", "a", "b"] ["letters"] (defScope (top 23)) := ⟨rfl, rfl, rfl, by decide +kernel, rfl, by decide +kernel, by decide +kernel⟩
theorem ok_even_names (M : Mo ts fn K mg) : Good P w K mg base 1 "even_names" ["letters"] [] f_even_names :=
  good_of (k := 0) (N := ["letters", "half", "a", "b"]) (body := m_even_names) (M.fun_ 9 rfl) (M.glo 20 rfl) sc_even_names (by decide) (by decide) (fun _ _ _ _ _ _ us hl => match us, hl with | [_], _ => rfl) fun cdv A outer s H E hgd hr =>
  (pbd_cons (psd_setN (i := 1) sc_even_names.nd rfl (by first | exact .inl rfl | exact .inr rfl) (by decide) (ped_step2 (ped_V (pv 0))))
  (pbd_one (psd_ret (ped_tD c_fTuple rfl (M.free 15 rfl) PyProof.Rows.boot_tuple (pad_cons (ped_comp2 (own := ([("a", 2), ("b", 3)] : List (Str × Nat))) (vs1 := [3]) rfl sc_even_names.nd (pid_seq (ped_V (pv 1))) (blkOk_by (N := ["letters", "half", "a", "b"]) (sc := defScope (top 23)) (by decide +kernel)) (by decide) (by decide) (by decide) (by decide) (fun s H C cl fp => (pgd_name (i := 2) (by decide) (pg_name sc_even_names.nd rfl (by first | exact .inl rfl | exact .inr rfl)))) (fun s H C cl fp => .nil) (fun s H C cl fp => (pid_seq (ped_V (pv 1)))) (fun s H C cl fp => (pgd_name (i := 3) (by decide) (pg_name sc_even_names.nd rfl (by first | exact .inl rfl | exact .inr rfl)))) (fun s H C cl fp => .nil) (fun s H C cl fp => (ped_binD op_fAdd (ped_V (pv 2)) (ped_V (pv 3))))) pad_nil)))))
theorem sc_seconds_count : FnScope ["q", "x", "half"] ["q", "x"] (defScope (top 24)) := ⟨rfl, rfl, rfl, by decide +kernel, rfl, by decide +kernel, by decide +kernel⟩
theorem ok_seconds_count (M : Mo ts fn K mg) : Good P w K mg base 1 "seconds_count" ["q", "x"] [] f_seconds_count :=
  good_of (k := 0) (N := ["q", "x", "half"]) (body := m_seconds_count) (M.fun_ 10 rfl) (M.glo 21 rfl) sc_seconds_count (by decide) (by decide) (fun _ _ _ _ _ _ us hl => match us, hl with | [_, _], _ => rfl) fun cdv A outer s H E hgd hr =>
  (pbd_cons (psd_setN (i := 2) sc_seconds_count.nd rfl (by first | exact .inl rfl | exact .inr rfl) (by decide) (ped_binS sc_fFdiv op_fFdiv (ped_V (pv 0)) ped_int))
  (pbd_one (psd_ret (ped_binD op_fAdd (ped_binS sc_fFdiv op_fFdiv (ped_V (pv 2)) ped_int) (ped_binD op_fMul (ped_binS sc_fMod op_fMod (ped_V (pv 2)) ped_int) (ped_binS sc_fMod op_fMod (ped_V (pv 1)) ped_int))))))
theorem sc_ring_names : FnScope ["letters", "q", "names", "at", "x", "many", "z", "j"] ["letters"] (defScope (top 25)) := ⟨rfl, rfl, rfl, by decide +kernel, rfl, by decide +kernel, by decide +kernel⟩
theorem ok_ring_names (M : Mo ts fn K mg) : Good P w K mg base 44 "ring_names" ["letters"] [] f_ring_names :=
  good_of (k := 43) (N := ["letters", "q", "names", "at", "x", "many", "z", "j"]) (body := m_ring_names) (M.fun_ 11 rfl) (M.glo 23 rfl) sc_ring_names (by decide) (by decide) (fun _ _ _ _ _ _ us hl => match us, hl with | [_], _ => rfl) fun cdv A outer s H E hgd hr =>
  (pbd_cons (psd_expr (ped_go (ok_check_ring (P := P) (w := w) (base := base) M) hgd hr (by decide) rfl (pcd_val (ped_V (pv 0)) pcd_nil) (by decide) rfl))
  (pbd_cons (psd_setN (i := 1) sc_ring_names.nd rfl (by first | exact .inl rfl | exact .inr rfl) (by decide) (ped_bS sc_fLen c_fLen rfl (M.free 0 rfl) PySem.boot_len (pad_cons (ped_V (pv 0)) pad_nil)))
  (pbd_cons (psd_if (ptd_cmp sc_fEq (op_fEq (u64 hr)) (ped_binS sc_fMod op_fMod (ped_V (pv 1)) ped_int) ped_int rfl)
  (pbd_one (psd_ret (ped_go (ok_even_names (P := P) (w := w) (base := base) M) hgd hr (by decide) rfl (pcd_val (ped_V (pv 0)) pcd_nil) (by decide) rfl)))
  pbd_nil)
  (pbd_cons (psd_setON (i := 2) sc_ring_names.nd rfl (by first | exact .inl rfl | exact .inr rfl) (by decide) (ped_lst pad_nil))
  (pbd_cons (psd_setN (i := 3) sc_ring_names.nd rfl (by first | exact .inl rfl | exact .inr rfl) (by decide) ped_int)
  (pbd_cons (psd_for rfl (pid_range1 rfl (M.free 2 rfl) (pad_cons (ped_V (pv 1)) pad_nil)) (pgd_name (i := 4) (by decide) (pg_name sc_ring_names.nd rfl (by first | exact .inl rfl | exact .inr rfl)))
  (pbd_cons (psd_setN (i := 5) sc_ring_names.nd rfl (by first | exact .inl rfl | exact .inr rfl) (by decide) (ped_go (ok_seconds_count (P := P) (w := w) (base := base) M) hgd hr (by decide) rfl (pcd_val (ped_V (pv 1)) (pcd_val (ped_V (pv 4)) pcd_nil)) (by decide) rfl))
  (pbd_cons (psd_for rfl (pid_seq (ped_bD c_fSortedI rfl (M.free 22 rfl) PyProof.Rows.boot_sorted (pad_cons (ped_comp (own := ([("j", 7)] : List (Str × Nat))) rfl sc_ring_names.nd (pid_range2 rfl (M.free 2 rfl) (pad_cons (ped_V (pv 3)) (pad_cons (ped_binD op_fAdd (ped_V (pv 3)) (ped_V (pv 5))) pad_nil))) (blkOk_by (N := ["letters", "q", "names", "at", "x", "many", "z", "j"]) (sc := defScope (top 25)) (by decide +kernel)) (by decide) (by decide) (fun s H C cl fp => (pgd_name (i := 7) (by decide) (pg_name sc_ring_names.nd rfl (by first | exact .inl rfl | exact .inr rfl)))) (fun s H C cl fp => .nil) (fun s H C cl fp => (ped_binS sc_fMod op_fMod (ped_binD op_fMul ped_int (ped_V (pv 7))) (ped_V (pv 1))))) pad_nil))) (pgd_name (i := 6) (by decide) (pg_name sc_ring_names.nd rfl (by first | exact .inl rfl | exact .inr rfl)))
  (pbd_one (psd_expr (ped_append (pv 2) (ped_binD op_fAdd (ped_ix (ped_V (pv 0)) (ped_V (pv 4)) (fun _ _ => rfl)) (ped_ix (ped_V (pv 0)) (ped_V (pv 6)) (fun _ _ => rfl)))))))
  (pbd_one (psd_aug (i := 3) (by decide) ip_add (ped_V (pv 5)) (fun te he => ps_aug sc_ring_names.nd rfl (by first | exact .inl rfl | exact .inr rfl) he ip_add))))))
  (pbd_one (psd_ret (ped_tD c_fTuple rfl (M.free 15 rfl) PyProof.Rows.boot_tuple (pad_cons (ped_Share (pv 2)) pad_nil))))))))))
theorem sc_ring_pairs : FnScope ["letters", "i"] ["letters"] (defScope (top 20)) := ⟨rfl, rfl, rfl, by decide +kernel, rfl, by decide +kernel, by decide +kernel⟩
theorem ok_ring_pairs (M : Mo ts fn K mg) : Good P w K mg base 44 "ring_pairs" ["letters"] [] f_ring_pairs :=
  good_of (k := 43) (N := ["letters", "i"]) (body := m_ring_pairs) (M.fun_ 12 rfl) (M.glo 24 rfl) sc_ring_pairs (by decide) (by decide) (fun _ _ _ _ _ _ us hl => match us, hl with | [_], _ => rfl) fun cdv A outer s H E hgd hr =>
  (pbd_cons (psd_expr (ped_go (ok_check_ring (P := P) (w := w) (base := base) M) hgd hr (by decide) rfl (pcd_val (ped_V (pv 0)) pcd_nil) (by decide) rfl))
  (pbd_one (psd_ret (ped_binD op_fAdd (ped_tD c_fTuple rfl (M.free 15 rfl) PyProof.Rows.boot_tuple (pad_cons (ped_comp (own := ([("i", 1)] : List (Str × Nat))) rfl sc_ring_pairs.nd (pid_range2 rfl (M.free 2 rfl) (pad_cons ped_int (pad_cons (ped_bS sc_fLen c_fLen rfl (M.free 0 rfl) PySem.boot_len (pad_cons (ped_V (pv 0)) pad_nil)) pad_nil))) (blkOk_by (N := ["letters", "i"]) (sc := defScope (top 20)) (by decide +kernel)) (by decide) (by decide) (fun s H C cl fp => (pgd_name (i := 1) (by decide) (pg_name sc_ring_pairs.nd rfl (by first | exact .inl rfl | exact .inr rfl)))) (fun s H C cl fp => .nil) (fun s H C cl fp => (ped_tup (pad_cons (ped_ix (ped_V (pv 0)) (ped_binS sc_fSub op_fSub (ped_V (pv 1)) ped_int) (fun _ _ => rfl)) (pad_cons (ped_ix (ped_V (pv 0)) (ped_V (pv 1)) (fun _ _ => rfl)) pad_nil))))) pad_nil)) (ped_tup (pad_cons (ped_tup (pad_cons (ped_ix (ped_V (pv 0)) (ped_neg ped_int) (fun _ _ => rfl)) (pad_cons (ped_ix (ped_V (pv 0)) ped_int (fun _ _ => rfl)) pad_nil))) pad_nil))))))
theorem sc__law_names_right : FnScope ["letters", "q", "names", "keys", "name", "i", "j", "pairs"] ["letters"] (defScope (top 35)) := ⟨rfl, rfl, rfl, by decide +kernel, rfl, by decide +kernel, by decide +kernel⟩
theorem ok__law_names_right (M : Mo ts fn K mg) : Good P w K mg base 45 "_law_names_right" ["letters"] [] f__law_names_right :=
  good_of (k := 44) (N := ["letters", "q", "names", "keys", "name", "i", "j", "pairs"]) (body := m__law_names_right) (M.fun_ 13 rfl) (M.glo 26 rfl) sc__law_names_right (by decide) (by decide) (fun _ _ _ _ _ _ us hl => match us, hl with | [_], _ => rfl) fun cdv A outer s H E hgd hr =>
  (pbd_cons (psd_setN (i := 1) sc__law_names_right.nd rfl (by first | exact .inl rfl | exact .inr rfl) (by decide) (ped_bS sc_fLen c_fLen rfl (M.free 0 rfl) PySem.boot_len (pad_cons (ped_V (pv 0)) pad_nil)))
  (pbd_cons (psd_setN (i := 2) sc__law_names_right.nd rfl (by first | exact .inl rfl | exact .inr rfl) (by decide) (ped_go (ok_ring_names (P := P) (w := w) (base := base) M) hgd hr (by decide) rfl (pcd_val (ped_V (pv 0)) pcd_nil) (by decide) rfl))
  (pbd_cons (psd_if (PTd.ofW (pwd_or (ptd_not (ptd_val (ped_isi rfl (M.free 8 rfl) rfl (M.free 15 rfl) (by decide +kernel) (by decide) (ped_V (pv 2))))) (pwd_or1 (ptd_cmp sc_fNe (op_fNe (u64 hr)) (ped_bS sc_fLen c_fLen rfl (M.free 0 rfl) PySem.boot_len (pad_cons (ped_V (pv 2)) pad_nil)) (ped_go (ok__law_most (P := P) (w := w) (base := base) M) hgd hr (by decide) rfl (pcd_val (ped_V (pv 1)) pcd_nil) (by decide) rfl) rfl))))
  (pbd_one (psd_ret ped_bl))
  pbd_nil)
  (pbd_cons (psd_setON (i := 3) sc__law_names_right.nd rfl (by first | exact .inl rfl | exact .inr rfl) (by decide) (ped_lst pad_nil))
  (pbd_cons (psd_for rfl (pid_seq (ped_V (pv 2))) (pgd_name (i := 4) (by decide) (pg_name sc__law_names_right.nd rfl (by first | exact .inl rfl | exact .inr rfl)))
  (pbd_cons (psd_if (PTd.ofW (pwd_or (ptd_not (ptd_val (ped_isi rfl (M.free 8 rfl) rfl (M.free 9 rfl) (by decide +kernel) (by decide) (ped_V (pv 4))))) (pwd_or (ptd_cmp sc_fNe (op_fNe (u64 hr)) (ped_bS sc_fLen c_fLen rfl (M.free 0 rfl) PySem.boot_len (pad_cons (ped_V (pv 4)) pad_nil)) ped_int rfl) (pwd_or (ptd_cmp sc_fNotIn (op_fNotIn (u65 hr)) (ped_ix (ped_V (pv 4)) ped_int (fun _ _ => rfl)) (ped_V (pv 0)) rfl) (pwd_or1 (ptd_cmp sc_fNotIn (op_fNotIn (u65 hr)) (ped_ix (ped_V (pv 4)) ped_int (fun _ _ => rfl)) (ped_V (pv 0)) rfl))))))
  (pbd_one (psd_ret ped_bl))
  pbd_nil)
  (pbd_one (psd_expr (ped_append (pv 3) (ped_tup (pad_cons (ped_mtS PySem.F.slot_str_index PySem.F.type_str_index mt_fIndexS (ped_V (pv 0)) (pad_cons (ped_ix (ped_V (pv 4)) ped_int (fun _ _ => rfl)) pad_nil)) (pad_cons (ped_mtS PySem.F.slot_str_index PySem.F.type_str_index mt_fIndexS (ped_V (pv 0)) (pad_cons (ped_ix (ped_V (pv 4)) ped_int (fun _ _ => rfl)) pad_nil)) pad_nil))))))))
  (pbd_cons (psd_if (ptd_cmp sc_fNe (op_fNe (u64 hr)) (ped_Share (pv 3)) (ped_sortSet rfl (u64 hr) rfl (M.free 22 rfl) rfl (M.free 12 rfl) (ped_Share (pv 3))) rfl)
  (pbd_one (psd_ret ped_bl))
  pbd_nil)
  (pbd_cons (psd_for rfl (pid_range1 rfl (M.free 2 rfl) (pad_cons (ped_bS sc_fLen c_fLen rfl (M.free 0 rfl) PySem.boot_len (pad_cons (ped_V (pv 2)) pad_nil)) pad_nil)) (pgd_name (i := 5) (by decide) (pg_name sc__law_names_right.nd rfl (by first | exact .inl rfl | exact .inr rfl)))
  (pbd_one (psd_for rfl (pid_range1 rfl (M.free 2 rfl) (pad_cons (ped_V (pv 5)) pad_nil)) (pgd_name (i := 6) (by decide) (pg_name sc__law_names_right.nd rfl (by first | exact .inl rfl | exact .inr rfl)))
  (pbd_one (psd_if (ptd_val (ped_go (ok__law_two_near (P := P) (w := w) (base := base) M) hgd hr (by decide) rfl (pcd_val (ped_V (pv 0)) (pcd_val (ped_ix (ped_V (pv 2)) (ped_V (pv 5)) (fun _ _ => rfl)) (pcd_val (ped_ix (ped_V (pv 2)) (ped_V (pv 6)) (fun _ _ => rfl)) pcd_nil))) (by decide) rfl))
  (pbd_one (psd_ret ped_bl))
  pbd_nil)))))
  (pbd_cons (psd_setN (i := 7) sc__law_names_right.nd rfl (by first | exact .inl rfl | exact .inr rfl) (by decide) (ped_tD c_fTuple rfl (M.free 15 rfl) PyProof.Rows.boot_tuple (pad_cons (ped_comp (own := ([("i", 5)] : List (Str × Nat))) rfl sc__law_names_right.nd (pid_range1 rfl (M.free 2 rfl) (pad_cons (ped_V (pv 1)) pad_nil)) (blkOk_by (N := ["letters", "q", "names", "keys", "name", "i", "j", "pairs"]) (sc := defScope (top 35)) (by decide +kernel)) (by decide) (by decide) (fun s H C cl fp => (pgd_name (i := 5) (by decide) (pg_name sc__law_names_right.nd rfl (by first | exact .inl rfl | exact .inr rfl)))) (fun s H C cl fp => .nil) (fun s H C cl fp => (ped_tup (pad_cons (ped_ix (ped_V (pv 0)) (ped_V (pv 5)) (fun _ _ => rfl)) (pad_cons (ped_ix (ped_V (pv 0)) (ped_binS sc_fMod op_fMod (ped_binD op_fAdd (ped_V (pv 5)) ped_int) (ped_V (pv 1))) (fun _ _ => rfl)) pad_nil))))) pad_nil)))
  (pbd_one (psd_ret (ped_cmp sc_fEq (op_fEq (u64 hr)) (ped_bS sc_fRepr (c_fRepr hgd (u64 hr)) rfl (M.free 25 rfl) PyProof.Rows.boot_repr (pad_cons (ped_go (ok_ring_pairs (P := P) (w := w) (base := base) M) hgd hr (by decide) rfl (pcd_val (ped_V (pv 0)) pcd_nil) (by decide) rfl) pad_nil)) (ped_bS sc_fRepr (c_fRepr hgd (u64 hr)) rfl (M.free 25 rfl) PyProof.Rows.boot_repr (pad_cons (ped_V (pv 7)) pad_nil)) rfl)))))))))))
theorem sc__law_is_int : FnScope ["told", "due"] ["told", "due"] (defScope (top 34)) := ⟨rfl, rfl, rfl, by decide +kernel, rfl, by decide +kernel, by decide +kernel⟩
theorem ok__law_is_int (M : Mo ts fn K mg) : Good P w K mg base 1 "_law_is_int" ["told", "due"] [] f__law_is_int :=
  good_of (k := 0) (N := ["told", "due"]) (body := m__law_is_int) (M.fun_ 14 rfl) (M.glo 28 rfl) sc__law_is_int (by decide) (by decide) (fun _ _ _ _ _ _ us hl => match us, hl with | [_, _], _ => rfl) fun cdv A outer s H E hgd hr =>
  (pbd_one (psd_ret (ped_and (ped_isi rfl (M.free 8 rfl) rfl (M.free 4 rfl) (by decide +kernel) (by decide) (ped_V (pv 0))) (ped_and (ped_not (ped_isi rfl (M.free 8 rfl) rfl (M.free 27 rfl) (by decide +kernel) (by decide) (ped_V (pv 0)))) (ped_one (ped_cmp sc_fEq (op_fEq (u64 hr)) (ped_V (pv 0)) (ped_V (pv 1)) rfl))))))
theorem sc_is_int : FnScope ["x"] ["x"] (defScope (top 10)) := ⟨rfl, rfl, rfl, by decide +kernel, rfl, by decide +kernel, by decide +kernel⟩
theorem ok_is_int (M : Mo ts fn K mg) : Good P w K mg base 1 "is_int" ["x"] [] f_is_int :=
  good_of (k := 0) (N := ["x"]) (body := m_is_int) (M.fun_ 15 rfl) (M.glo 29 rfl) sc_is_int (by decide) (by decide) (fun _ _ _ _ _ _ us hl => match us, hl with | [_], _ => rfl) fun cdv A outer s H E hgd hr =>
  (pbd_one (psd_ret (ped_and (ped_isi rfl (M.free 8 rfl) rfl (M.free 4 rfl) (by decide +kernel) (by decide) (ped_V (pv 0))) (ped_one (ped_not (ped_isi rfl (M.free 8 rfl) rfl (M.free 27 rfl) (by decide +kernel) (by decide) (ped_V (pv 0))))))))
theorem sc_check_number : FnScope ["x", "least"] ["x", "least"] (defScope (top 13)) := ⟨rfl, rfl, rfl, by decide +kernel, rfl, by decide +kernel, by decide +kernel⟩
theorem ok_check_number (M : Mo ts fn K mg) : Good P w K mg base 42 "check_number" ["x", "least"] [] f_check_number :=
  good_of (k := 41) (N := ["x", "least"]) (body := m_check_number) (M.fun_ 16 rfl) (M.glo 30 rfl) sc_check_number (by decide) (by decide) (fun _ _ _ _ _ _ us hl => match us, hl with | [_, _], _ => rfl) fun cdv A outer s H E hgd hr =>
  (pbd_cons (psd_if (PTd.ofW (pwd_or (ptd_not (ptd_val (ped_go (ok_is_int (P := P) (w := w) (base := base) M) hgd hr (by decide) rfl (pcd_val (ped_V (pv 0)) pcd_nil) (by decide) rfl))) (pwd_or1 (ptd_cmp sc_fLt op_fLt (ped_V (pv 0)) (ped_V (pv 1)) rfl))))
  (pbd_one (psd_raise rfl (exc_BadNumber (P := P) (w := w) (base := base) M) hr (by decide) (ped_go (ok_plain_form (P := P) (w := w) (base := base) M) hgd hr (by decide) rfl (pcd_val (ped_V (pv 0)) pcd_nil) (by decide) rfl) rfl))
  pbd_nil)
  (pbd_one (psd_ret (ped_V (pv 0)))))
theorem sc_power_of : FnScope ["base", "m", "number", "_"] ["base", "m"] (defScope (top 16)) := ⟨rfl, rfl, rfl, by decide +kernel, rfl, by decide +kernel, by decide +kernel⟩
theorem ok_power_of (M : Mo ts fn K mg) : Good P w K mg base 1 "power_of" ["base", "m"] [] f_power_of :=
  good_of (k := 0) (N := ["base", "m", "number", "_"]) (body := m_power_of) (M.fun_ 17 rfl) (M.glo 31 rfl) sc_power_of (by decide) (by decide) (fun _ _ _ _ _ _ us hl => match us, hl with | [_, _], _ => rfl) fun cdv A outer s H E hgd hr =>
  (pbd_cons (psd_setN (i := 2) sc_power_of.nd rfl (by first | exact .inl rfl | exact .inr rfl) (by decide) ped_int)
  (pbd_cons (psd_for rfl (pid_range1 rfl (M.free 2 rfl) (pad_cons (ped_V (pv 1)) pad_nil)) (pgd_name (i := 3) (by decide) (pg_name sc_power_of.nd rfl (by first | exact .inl rfl | exact .inr rfl)))
  (pbd_one (psd_setN (i := 2) sc_power_of.nd rfl (by first | exact .inl rfl | exact .inr rfl) (by decide) (ped_binD op_fMul (ped_V (pv 2)) (ped_V (pv 0))))))
  (pbd_one (psd_ret (ped_V (pv 2))))))
theorem sc_even_most : FnScope ["q", "m"] ["q", "m"] (defScope (top 26)) := ⟨rfl, rfl, rfl, by decide +kernel, rfl, by decide +kernel, by decide +kernel⟩
theorem ok_even_most (M : Mo ts fn K mg) : Good P w K mg base 43 "even_most" ["q", "m"] [] f_even_most :=
  good_of (k := 42) (N := ["q", "m"]) (body := m_even_most) (M.fun_ 18 rfl) (M.glo 32 rfl) sc_even_most (by decide) (by decide) (fun _ _ _ _ _ _ us hl => match us, hl with | [_, _], _ => rfl) fun cdv A outer s H E hgd hr =>
  (pbd_cons (psd_expr (ped_go (ok_check_number (P := P) (w := w) (base := base) M) hgd hr (by decide) rfl (pcd_val (ped_V (pv 0)) (pcd_val (ped_gI rfl (M.int 18 rfl)) pcd_nil)) (by decide) rfl))
  (pbd_cons (psd_expr (ped_go (ok_check_number (P := P) (w := w) (base := base) M) hgd hr (by decide) rfl (pcd_val (ped_V (pv 1)) (pcd_val ped_int pcd_nil)) (by decide) rfl))
  (pbd_cons (psd_if (ptd_cmp sc_fEq (op_fEq (u64 hr)) (ped_binS sc_fMod op_fMod (ped_V (pv 0)) ped_int) ped_int rfl)
  (pbd_one (psd_raise rfl (exc_BadCase (P := P) (w := w) (base := base) M) hr (by decide) ped_str rfl))
  pbd_nil)
  (pbd_one (psd_ret (ped_go (ok_power_of (P := P) (w := w) (base := base) M) hgd hr (by decide) rfl (pcd_val (ped_binS sc_fFdiv op_fFdiv (ped_V (pv 0)) ped_int) (pcd_val (ped_V (pv 1)) pcd_nil)) (by decide) rfl))))))
theorem sc_ring_bound : FnScope ["q", "many"] ["q", "many"] (defScope (top 21)) := ⟨rfl, rfl, rfl, by decide +kernel, rfl, by decide +kernel, by decide +kernel⟩
theorem ok_ring_bound (M : Mo ts fn K mg) : Good P w K mg base 43 "ring_bound" ["q", "many"] [] f_ring_bound :=
  good_of (k := 42) (N := ["q", "many"]) (body := m_ring_bound) (M.fun_ 19 rfl) (M.glo 33 rfl) sc_ring_bound (by decide) (by decide) (fun _ _ _ _ _ _ us hl => match us, hl with | [_, _], _ => rfl) fun cdv A outer s H E hgd hr =>
  (pbd_cons (psd_expr (ped_go (ok_check_number (P := P) (w := w) (base := base) M) hgd hr (by decide) rfl (pcd_val (ped_V (pv 0)) (pcd_val (ped_gI rfl (M.int 18 rfl)) pcd_nil)) (by decide) rfl))
  (pbd_cons (psd_expr (ped_go (ok_check_number (P := P) (w := w) (base := base) M) hgd hr (by decide) rfl (pcd_val (ped_V (pv 1)) (pcd_val ped_int pcd_nil)) (by decide) rfl))
  (pbd_one (psd_ret (ped_binS sc_fFdiv op_fFdiv (ped_binD op_fMul (ped_V (pv 0)) (ped_V (pv 1))) ped_int)))))
theorem sc_ring_most : FnScope ["q"] ["q"] (defScope (top 22)) := ⟨rfl, rfl, rfl, by decide +kernel, rfl, by decide +kernel, by decide +kernel⟩
theorem ok_ring_most (M : Mo ts fn K mg) : Good P w K mg base 43 "ring_most" ["q"] [] f_ring_most :=
  good_of (k := 42) (N := ["q"]) (body := m_ring_most) (M.fun_ 20 rfl) (M.glo 34 rfl) sc_ring_most (by decide) (by decide) (fun _ _ _ _ _ _ us hl => match us, hl with | [_], _ => rfl) fun cdv A outer s H E hgd hr =>
  (pbd_cons (psd_expr (ped_go (ok_check_number (P := P) (w := w) (base := base) M) hgd hr (by decide) rfl (pcd_val (ped_V (pv 0)) (pcd_val (ped_gI rfl (M.int 18 rfl)) pcd_nil)) (by decide) rfl))
  (pbd_one (psd_ret (ped_binS sc_fFdiv op_fFdiv (ped_binD op_fMul (ped_V (pv 0)) (ped_binS sc_fFdiv op_fFdiv (ped_V (pv 0)) ped_int)) ped_int))))
theorem sc__law_numbers : FnScope ["q", "many", "m", "told", "due", "turn", "word", "at", "raised"] ["q", "many", "m"] (defScope (top 37)) := ⟨rfl, rfl, rfl, by decide +kernel, rfl, by decide +kernel, by decide +kernel⟩
theorem ok__law_numbers (M : Mo ts fn K mg) : Good P w K mg base 44 "_law_numbers" ["q", "many", "m"] [] f__law_numbers :=
  good_of (k := 43) (N := ["q", "many", "m", "told", "due", "turn", "word", "at", "raised"]) (body := m__law_numbers) (M.fun_ 21 rfl) (M.glo 39 rfl) sc__law_numbers (by decide) (by decide) (fun _ _ _ _ _ _ us hl => match us, hl with | [_, _, _], _ => rfl) fun cdv A outer s H E hgd hr =>
  (pbd_cons (psd_setN (i := 3) sc__law_numbers.nd rfl (by first | exact .inl rfl | exact .inr rfl) (by decide) (ped_go (ok_ring_bound (P := P) (w := w) (base := base) M) hgd hr (by decide) rfl (pcd_val (ped_V (pv 0)) (pcd_val (ped_V (pv 1)) pcd_nil)) (by decide) rfl))
  (pbd_cons (psd_if (PTd.ofW (pwd_or (ptd_not (ptd_val (ped_isi rfl (M.free 8 rfl) rfl (M.free 4 rfl) (by decide +kernel) (by decide) (ped_V (pv 3))))) (pwd_or (ptd_val (ped_isi rfl (M.free 8 rfl) rfl (M.free 27 rfl) (by decide +kernel) (by decide) (ped_V (pv 3)))) (pwd_or1 (ptd_not (ptd_chain sc_fLe sc_fLt op_fLe op_fLt (ped_binD op_fMul ped_int (ped_V (pv 3))) (ped_binD op_fMul (ped_V (pv 0)) (ped_V (pv 1))) (ped_binD op_fAdd (ped_binD op_fMul ped_int (ped_V (pv 3))) ped_int)))))))
  (pbd_one (psd_ret ped_bl))
  pbd_nil)
  (pbd_cons (psd_if (ptd_not (ptd_val (ped_go (ok__law_is_int (P := P) (w := w) (base := base) M) hgd hr (by decide) rfl (pcd_val (ped_go (ok_ring_most (P := P) (w := w) (base := base) M) hgd hr (by decide) rfl (pcd_val (ped_V (pv 0)) pcd_nil) (by decide) rfl) (pcd_val (ped_go (ok__law_most (P := P) (w := w) (base := base) M) hgd hr (by decide) rfl (pcd_val (ped_V (pv 0)) pcd_nil) (by decide) rfl) pcd_nil)) (by decide) rfl)))
  (pbd_one (psd_ret ped_bl))
  pbd_nil)
  (pbd_cons (psd_setN (i := 4) sc__law_numbers.nd rfl (by first | exact .inl rfl | exact .inr rfl) (by decide) ped_int)
  (pbd_cons (psd_for rfl (pid_range1 rfl (M.free 2 rfl) (pad_cons (ped_V (pv 2)) pad_nil)) (pgd_name (i := 5) (by decide) (pg_name sc__law_numbers.nd rfl (by first | exact .inl rfl | exact .inr rfl)))
  (pbd_one (psd_setN (i := 4) sc__law_numbers.nd rfl (by first | exact .inl rfl | exact .inr rfl) (by decide) (ped_binD op_fMul (ped_V (pv 4)) (ped_binS sc_fFdiv op_fFdiv (ped_V (pv 0)) ped_int)))))
  (pbd_cons (psd_asgT (pgd_tup rfl (pgsd_cons (pgd_name (i := 6) (by decide) (pg_name sc__law_numbers.nd rfl (by first | exact .inl rfl | exact .inr rfl))) (pgsd_cons (pgd_name (i := 7) (by decide) (pg_name sc__law_numbers.nd rfl (by first | exact .inl rfl | exact .inr rfl))) pgsd_nil))) (ped_tup (pad_cons ped_str (pad_cons ped_non pad_nil))))
  (pbd_cons (psd_try rfl rfl sc__law_numbers.nd (fun pn xe => (pbd_one (psd_setN (i := 3) sc__law_numbers.nd rfl (by first | exact .inl rfl | exact .inr rfl) (by decide) (ped_go (ok_even_most (P := P) (w := w) (base := base) M) hgd hr (by decide) rfl (pcd_val (ped_V (pv 0)) (pcd_val (ped_V (pv 2)) pcd_nil)) (by decide) rfl))))
  (.named (i := 8) rfl (by decide) rfl (M.glo 35 rfl) rfl (by decide) (sud_pair (i := 6) (j := 7) (n := 8) sc__law_numbers.nd (by decide) (by decide) ⟨rfl, rfl⟩ ⟨rfl, rfl⟩ (M.fld 36 rfl) rfl (fun a pn => pv 8) rfl rfl rfl rfl) (.plain (M.glo 37 rfl) rfl (by decide) (sud_plain fun a pn => (pbd_one (psd_setN (i := 6) sc__law_numbers.nd rfl (by first | exact .inl rfl | exact .inr rfl) (by decide) ped_str))) .nil)) (M.tab 38 rfl))
  (pbd_cons (psd_if (ptd_cmp sc_fEq (op_fEq (u64 hr)) (ped_binS sc_fMod op_fMod (ped_tS sc_fInt c_fInt rfl (M.free 4 rfl) PyProof.Rows.boot_int (pad_cons (ped_V (pv 0)) pad_nil)) ped_int) ped_int rfl)
  (pbd_one (psd_ret (ped_cmp sc_fEq (op_fEq (u64 hr)) (ped_tup (pad_cons (ped_V (pv 6)) (pad_cons (ped_V (pv 7)) pad_nil))) (ped_tup (pad_cons ped_str (pad_cons ped_str pad_nil))) rfl)))
  pbd_nil)
  (pbd_one (psd_ret (ped_and (ped_cmp sc_fEq (op_fEq (u64 hr)) (ped_V (pv 6)) ped_str rfl) (ped_one (ped_go (ok__law_is_int (P := P) (w := w) (base := base) M) hgd hr (by decide) rfl (pcd_val (ped_V (pv 3)) (pcd_val (ped_V (pv 4)) pcd_nil)) (by decide) rfl)))))))))))))
theorem sc__law_purse : FnScope ["script", "figures", "at", "rest", "turn"] ["script"] (defScope (top 28)) := ⟨rfl, rfl, rfl, by decide +kernel, rfl, by decide +kernel, by decide +kernel⟩
theorem ok__law_purse (M : Mo ts fn K mg) : Good P w K mg base 1 "_law_purse" ["script"] [] f__law_purse :=
  good_of (k := 0) (N := ["script", "figures", "at", "rest", "turn"]) (body := m__law_purse) (M.fun_ 22 rfl) (M.glo 41 rfl) sc__law_purse (by decide) (by decide) (fun _ _ _ _ _ _ us hl => match us, hl with | [_], _ => rfl) fun cdv A outer s H E hgd hr =>
  (pbd_cons (psd_setON (i := 1) sc__law_purse.nd rfl (by first | exact .inl rfl | exact .inr rfl) (by decide) (ped_lst pad_nil))
  (pbd_cons (psd_for rfl (pid_range1 rfl (M.free 2 rfl) (pad_cons (ped_bS sc_fMin (c_fMin rfl) rfl (M.free 40 rfl) PyProof.Rows.boot_min (pad_cons (ped_bS sc_fLen c_fLen rfl (M.free 0 rfl) PySem.boot_len (pad_cons (ped_V (pv 0)) pad_nil)) (pad_cons ped_int pad_nil))) pad_nil)) (pgd_name (i := 2) (by decide) (pg_name sc__law_purse.nd rfl (by first | exact .inl rfl | exact .inr rfl)))
  (pbd_cons (psd_setN (i := 3) sc__law_purse.nd rfl (by first | exact .inl rfl | exact .inr rfl) (by decide) (ped_binS sc_fMod op_fMod (ped_tS sc_fInt c_fInt rfl (M.free 4 rfl) PyProof.Rows.boot_int (pad_cons (ped_ix (ped_V (pv 0)) (ped_V (pv 2)) (fun _ _ => rfl)) pad_nil)) (ped_binS sc_fPow op_fPow ped_int ped_int)))
  (pbd_one (psd_for rfl (pid_range1 rfl (M.free 2 rfl) (pad_cons ped_int pad_nil)) (pgd_name (i := 4) (by decide) (pg_name sc__law_purse.nd rfl (by first | exact .inl rfl | exact .inr rfl)))
  (pbd_cons (psd_expr (ped_append (pv 1) (ped_binS sc_fMod op_fMod (ped_V (pv 3)) ped_int)))
  (pbd_cons (psd_setN (i := 3) sc__law_purse.nd rfl (by first | exact .inl rfl | exact .inr rfl) (by decide) (ped_binS sc_fFdiv op_fFdiv (ped_V (pv 3)) ped_int))
  (pbd_one (psd_if (ptd_cmp sc_fEq (op_fEq (u64 hr)) (ped_V (pv 3)) ped_int rfl)
  (pbd_one psd_break)
  pbd_nil))))))))
  (pbd_one (psd_ret (ped_lst (pad_cons ped_int (pad_cons (ped_Share (pv 1)) pad_nil)))))))
theorem sc__law_word_of : FnScope ["kind", "one", "two", "word", "at", "raised"] ["kind", "one", "two"] (defScope (top 40)) := ⟨rfl, rfl, rfl, by decide +kernel, rfl, by decide +kernel, by decide +kernel⟩
theorem ok__law_word_of (M : Mo ts fn K mg) : Good P w K mg base 45 "_law_word_of" ["kind", "one", "two"] [] f__law_word_of :=
  good_of (k := 44) (N := ["kind", "one", "two", "word", "at", "raised"]) (body := m__law_word_of) (M.fun_ 23 rfl) (M.glo 45 rfl) sc__law_word_of (by decide) (by decide) (fun _ _ _ _ _ _ us hl => match us, hl with | [_, _, _], _ => rfl) fun cdv A outer s H E hgd hr =>
  (pbd_cons (psd_asgT (pgd_tup rfl (pgsd_cons (pgd_name (i := 3) (by decide) (pg_name sc__law_word_of.nd rfl (by first | exact .inl rfl | exact .inr rfl))) (pgsd_cons (pgd_name (i := 4) (by decide) (pg_name sc__law_word_of.nd rfl (by first | exact .inl rfl | exact .inr rfl))) pgsd_nil))) (ped_tup (pad_cons ped_str (pad_cons ped_non pad_nil))))
  (pbd_cons (psd_try rfl rfl sc__law_word_of.nd (fun pn xe => (pbd_one (psd_if (ptd_cmp sc_fEq (op_fEq (u64 hr)) (ped_V (pv 0)) ped_int rfl)
  (pbd_one (psd_expr (ped_go (ok_ring_pairs (P := P) (w := w) (base := base) M) hgd hr (by decide) rfl (pcd_val (ped_V (pv 1)) pcd_nil) (by decide) rfl)))
  (pbd_one (psd_if (ptd_cmp sc_fEq (op_fEq (u64 hr)) (ped_V (pv 0)) ped_int rfl)
  (pbd_one (psd_expr (ped_go (ok_ring_names (P := P) (w := w) (base := base) M) hgd hr (by decide) rfl (pcd_val (ped_V (pv 1)) pcd_nil) (by decide) rfl)))
  (pbd_one (psd_if (ptd_cmp sc_fEq (op_fEq (u64 hr)) (ped_V (pv 0)) ped_int rfl)
  (pbd_one (psd_expr (ped_go (ok_ring_bound (P := P) (w := w) (base := base) M) hgd hr (by decide) rfl (pcd_val (ped_V (pv 1)) (pcd_val (ped_V (pv 2)) pcd_nil)) (by decide) rfl)))
  (pbd_one (psd_if (ptd_cmp sc_fEq (op_fEq (u64 hr)) (ped_V (pv 0)) ped_int rfl)
  (pbd_one (psd_expr (ped_go (ok_ring_most (P := P) (w := w) (base := base) M) hgd hr (by decide) rfl (pcd_val (ped_V (pv 1)) pcd_nil) (by decide) rfl)))
  (pbd_one (psd_expr (ped_go (ok_even_most (P := P) (w := w) (base := base) M) hgd hr (by decide) rfl (pcd_val (ped_V (pv 1)) (pcd_val (ped_V (pv 2)) pcd_nil)) (by decide) rfl))))))))))))
  (.named (i := 5) rfl (by decide) rfl (M.glo 42 rfl) rfl (by decide) (sud_pair (i := 3) (j := 4) (n := 5) sc__law_word_of.nd (by decide) (by decide) ⟨rfl, rfl⟩ ⟨rfl, rfl⟩ (M.fld 36 rfl) rfl (fun a pn => pv 5) rfl rfl rfl rfl) (.named (i := 5) rfl (by decide) rfl (M.glo 43 rfl) rfl (by decide) (sud_pair (i := 3) (j := 4) (n := 5) sc__law_word_of.nd (by decide) (by decide) ⟨rfl, rfl⟩ ⟨rfl, rfl⟩ (M.fld 36 rfl) rfl (fun a pn => pv 5) rfl rfl rfl rfl) (.named (i := 5) rfl (by decide) rfl (M.glo 35 rfl) rfl (by decide) (sud_pair (i := 3) (j := 4) (n := 5) sc__law_word_of.nd (by decide) (by decide) ⟨rfl, rfl⟩ ⟨rfl, rfl⟩ (M.fld 36 rfl) rfl (fun a pn => pv 5) rfl rfl rfl rfl) (.plain (M.glo 37 rfl) rfl (by decide) (sud_plain fun a pn => (pbd_one (psd_setN (i := 3) sc__law_word_of.nd rfl (by first | exact .inl rfl | exact .inr rfl) (by decide) ped_str))) .nil)))) (M.tab 44 rfl))
  (pbd_one (psd_ret (ped_bS sc_fRepr (c_fRepr hgd (u64 hr)) rfl (M.free 25 rfl) PyProof.Rows.boot_repr (pad_cons (ped_tup (pad_cons (ped_V (pv 3)) (pad_cons (ped_V (pv 4)) pad_nil))) pad_nil))))))
theorem sc__law_refused : FnScope ["calls", "kind", "bad", "few", "one", "two", "word", "at"] [] (defScope (top 41)) := ⟨rfl, rfl, rfl, by decide +kernel, rfl, by decide +kernel, by decide +kernel⟩
theorem ok__law_refused (M : Mo ts fn K mg) : Good P w K mg base 46 "_law_refused" [] [] f__law_refused :=
  good_of (k := 45) (N := ["calls", "kind", "bad", "few", "one", "two", "word", "at"]) (body := m__law_refused) (M.fun_ 24 rfl) (M.glo 46 rfl) sc__law_refused (by decide) (by decide) (fun _ _ _ _ _ _ us hl => match us, hl with | [], _ => rfl) fun cdv A outer s H E hgd hr =>
  (pbd_cons (psd_setON (i := 0) sc__law_refused.nd rfl (by first | exact .inl rfl | exact .inr rfl) (by decide) (ped_lst pad_nil))
  (pbd_cons (psd_for rfl (pid_range1 rfl (M.free 2 rfl) (pad_cons ped_int pad_nil)) (pgd_name (i := 1) (by decide) (pg_name sc__law_refused.nd rfl (by first | exact .inl rfl | exact .inr rfl)))
  (pbd_cons (psd_for rfl (pid_seq (ped_tup (pad_cons ped_str (pad_cons ped_str (pad_cons ped_str (pad_cons ped_str (pad_cons ped_str (pad_cons ped_non (pad_cons ped_int (pad_cons (ped_tup (pad_cons ped_str (pad_cons ped_str (pad_cons ped_str pad_nil)))) (pad_cons ped_str (pad_cons ped_bl pad_nil)))))))))))) (pgd_name (i := 2) (by decide) (pg_name sc__law_refused.nd rfl (by first | exact .inl rfl | exact .inr rfl)))
  (pbd_one (psd_expr (ped_append (pv 0) (ped_tup (pad_cons (ped_V (pv 1)) (pad_cons (ped_V (pv 2)) (pad_cons ped_non (pad_cons ped_str (pad_cons (ped_V (pv 2)) pad_nil))))))))))
  (pbd_one (psd_for rfl (pid_seq (ped_tup (pad_cons ped_str (pad_cons ped_str (pad_cons ped_str pad_nil))))) (pgd_name (i := 3) (by decide) (pg_name sc__law_refused.nd rfl (by first | exact .inl rfl | exact .inr rfl)))
  (pbd_one (psd_expr (ped_append (pv 0) (ped_tup (pad_cons (ped_V (pv 1)) (pad_cons (ped_V (pv 3)) (pad_cons ped_non (pad_cons ped_str (pad_cons ped_str pad_nil)))))))))))))
  (pbd_cons (psd_for rfl (pid_seq (ped_tup (pad_cons ped_int (pad_cons ped_int (pad_cons (ped_neg ped_int) (pad_cons ped_bl (pad_cons ped_non (pad_cons ped_str (pad_cons (ped_tup (pad_cons ped_int pad_nil)) (pad_cons ped_str pad_nil)))))))))) (pgd_name (i := 2) (by decide) (pg_name sc__law_refused.nd rfl (by first | exact .inl rfl | exact .inr rfl)))
  (pbd_cons (psd_expr (ped_append (pv 0) (ped_tup (pad_cons ped_int (pad_cons (ped_V (pv 2)) (pad_cons ped_non (pad_cons ped_str (pad_cons (ped_V (pv 2)) pad_nil))))))))
  (pbd_cons (psd_expr (ped_append (pv 0) (ped_tup (pad_cons ped_int (pad_cons (ped_V (pv 2)) (pad_cons ped_non (pad_cons ped_str (pad_cons (ped_V (pv 2)) pad_nil))))))))
  (pbd_one (psd_expr (ped_append (pv 0) (ped_tup (pad_cons ped_int (pad_cons (ped_V (pv 2)) (pad_cons (ped_neg ped_int) (pad_cons ped_str (pad_cons (ped_V (pv 2)) pad_nil))))))))))))
  (pbd_cons (psd_for rfl (pid_seq (ped_tup (pad_cons (ped_neg ped_int) (pad_cons ped_bl (pad_cons ped_non (pad_cons ped_str (pad_cons ped_str pad_nil))))))) (pgd_name (i := 2) (by decide) (pg_name sc__law_refused.nd rfl (by first | exact .inl rfl | exact .inr rfl)))
  (pbd_cons (psd_expr (ped_append (pv 0) (ped_tup (pad_cons ped_int (pad_cons ped_int (pad_cons (ped_V (pv 2)) (pad_cons ped_str (pad_cons (ped_V (pv 2)) pad_nil))))))))
  (pbd_cons (psd_expr (ped_append (pv 0) (ped_tup (pad_cons ped_int (pad_cons ped_int (pad_cons (ped_V (pv 2)) (pad_cons ped_str (pad_cons (ped_V (pv 2)) pad_nil))))))))
  (pbd_one (psd_expr (ped_append (pv 0) (ped_tup (pad_cons ped_int (pad_cons ped_int (pad_cons (ped_V (pv 2)) (pad_cons ped_str (pad_cons (ped_V (pv 2)) pad_nil))))))))))))
  (pbd_cons (psd_setON (i := 0) sc__law_refused.nd rfl (by first | exact .inl rfl | exact .inr rfl) (by decide) (ped_binD op_fAdd (ped_Share (pv 0)) (ped_lst (pad_cons (ped_tup (pad_cons ped_int (pad_cons ped_int (pad_cons ped_int (pad_cons ped_str (pad_cons ped_str pad_nil)))))) (pad_cons (ped_tup (pad_cons ped_int (pad_cons ped_int (pad_cons ped_int (pad_cons ped_str (pad_cons ped_str pad_nil)))))) (pad_cons (ped_tup (pad_cons ped_int (pad_cons ped_int (pad_cons ped_int (pad_cons ped_str (pad_cons ped_non pad_nil)))))) pad_nil))))))
  (pbd_cons (psd_expr (ped_append (pv 0) (ped_tup (pad_cons ped_int (pad_cons ped_int (pad_cons ped_int (pad_cons ped_str (pad_cons ped_non pad_nil))))))))
  (pbd_cons (psd_for rfl (pid_seq (ped_Share (pv 0))) (pgd_tup rfl (pgsd_cons (pgd_name (i := 1) (by decide) (pg_name sc__law_refused.nd rfl (by first | exact .inl rfl | exact .inr rfl))) (pgsd_cons (pgd_name (i := 4) (by decide) (pg_name sc__law_refused.nd rfl (by first | exact .inl rfl | exact .inr rfl))) (pgsd_cons (pgd_name (i := 5) (by decide) (pg_name sc__law_refused.nd rfl (by first | exact .inl rfl | exact .inr rfl))) (pgsd_cons (pgd_name (i := 6) (by decide) (pg_name sc__law_refused.nd rfl (by first | exact .inl rfl | exact .inr rfl))) (pgsd_cons (pgd_name (i := 7) (by decide) (pg_name sc__law_refused.nd rfl (by first | exact .inl rfl | exact .inr rfl))) pgsd_nil))))))
  (pbd_one (psd_if (ptd_cmp sc_fNe (op_fNe (u64 hr)) (ped_go (ok__law_word_of (P := P) (w := w) (base := base) M) hgd hr (by decide) rfl (pcd_val (ped_V (pv 1)) (pcd_val (ped_V (pv 4)) (pcd_val (ped_V (pv 5)) pcd_nil))) (by decide) rfl) (ped_bS sc_fRepr (c_fRepr hgd (u64 hr)) rfl (M.free 25 rfl) PyProof.Rows.boot_repr (pad_cons (ped_tup (pad_cons (ped_V (pv 6)) (pad_cons (ped_V (pv 7)) pad_nil))) pad_nil)) rfl)
  (pbd_one (psd_ret ped_bl))
  pbd_nil)))
  (pbd_one (psd_ret ped_bl)))))))))
theorem sc__law_ring_letters : FnScope ["purse", "q", "base", "begin"] ["purse", "q"] (defScope (top 30)) := ⟨rfl, rfl, rfl, by decide +kernel, rfl, by decide +kernel, by decide +kernel⟩
theorem ok__law_ring_letters (M : Mo ts fn K mg) : Good P w K mg base 2 "_law_ring_letters" ["purse", "q"] [0] f__law_ring_letters :=
  good_of (k := 1) (N := ["purse", "q", "base", "begin"]) (body := m__law_ring_letters) (M.fun_ 25 rfl) (M.glo 47 rfl) sc__law_ring_letters (by decide) (by decide) (fun _ _ _ _ _ _ us hl => match us, hl with | [_, _], _ => rfl) fun cdv A outer s H E hgd hr =>
  (pbd_cons (psd_setN (i := 2) sc__law_ring_letters.nd rfl (by first | exact .inl rfl | exact .inr rfl) (by decide) (ped_ix (ped_tup (pad_cons ped_str (pad_cons ped_str (pad_cons ped_str (pad_cons ped_str pad_nil))))) (ped_go (ok__law_pick (P := P) (w := w) (base := base) M) hgd hr (by decide) rfl (pcd_lend (pv 0) (pcd_val ped_int pcd_nil)) (by decide) rfl) (fun _ _ => rfl)))
  (pbd_cons (psd_setN (i := 3) sc__law_ring_letters.nd rfl (by first | exact .inl rfl | exact .inr rfl) (by decide) (ped_go (ok__law_pick (P := P) (w := w) (base := base) M) hgd hr (by decide) rfl (pcd_lend (pv 0) (pcd_val ped_int pcd_nil)) (by decide) rfl))
  (pbd_one (psd_ret (ped_slice (ped_binD op_fAdd (ped_slice (ped_V (pv 2)) (pod_some (ped_V (pv 3))) pod_none) (ped_slice (ped_V (pv 2)) pod_none (pod_some (ped_V (pv 3))))) pod_none (pod_some (ped_V (pv 1))))))))
theorem sc__law_pairs : FnScope ["letters", "found", "a", "b"] ["letters"] (defScope (top 39)) := ⟨rfl, rfl, rfl, by decide +kernel, rfl, by decide +kernel, by decide +kernel⟩
theorem ok__law_pairs (M : Mo ts fn K mg) : Good P w K mg base 1 "_law_pairs" ["letters"] [] f__law_pairs :=
  good_of (k := 0) (N := ["letters", "found", "a", "b"]) (body := m__law_pairs) (M.fun_ 26 rfl) (M.glo 48 rfl) sc__law_pairs (by decide) (by decide) (fun _ _ _ _ _ _ us hl => match us, hl with | [_], _ => rfl) fun cdv A outer s H E hgd hr =>
  (pbd_cons (psd_setN (i := 1) sc__law_pairs.nd rfl (by first | exact .inl rfl | exact .inr rfl) (by decide) (ped_lst pad_nil))
  (pbd_cons (psd_for rfl (pid_seq (ped_V (pv 0))) (pgd_name (i := 2) (by decide) (pg_name sc__law_pairs.nd rfl (by first | exact .inl rfl | exact .inr rfl)))
  (pbd_one (psd_setN (i := 1) sc__law_pairs.nd rfl (by first | exact .inl rfl | exact .inr rfl) (by decide) (ped_binD op_fAdd (ped_V (pv 1)) (ped_comp (own := ([("b", 3)] : List (Str × Nat))) rfl sc__law_pairs.nd (pid_seq (ped_V (pv 0))) (blkOk_by (N := ["letters", "found", "a", "b"]) (sc := defScope (top 39)) (by decide +kernel)) (by decide) (by decide) (fun s H C cl fp => (pgd_name (i := 3) (by decide) (pg_name sc__law_pairs.nd rfl (by first | exact .inl rfl | exact .inr rfl)))) (fun s H C cl fp => .nil) (fun s H C cl fp => (ped_binD op_fAdd (ped_V (pv 2)) (ped_V (pv 3)))))))))
  (pbd_one (psd_ret (ped_V (pv 1))))))
theorem sc__law_trying : FnScope ["names", "lots", "size", "longer", "lot", "begin", "k", "i"] [] (defScope (top 38)) := ⟨rfl, rfl, rfl, by decide +kernel, rfl, by decide +kernel, by decide +kernel⟩
theorem ok__law_trying (M : Mo ts fn K mg) : Good P w K mg base 44 "_law_trying" [] [] f__law_trying :=
  good_of (k := 43) (N := ["names", "lots", "size", "longer", "lot", "begin", "k", "i"]) (body := m__law_trying) (M.fun_ 27 rfl) (M.glo 49 rfl) sc__law_trying (by decide) (by decide) (fun _ _ _ _ _ _ us hl => match us, hl with | [], _ => rfl) fun cdv A outer s H E hgd hr =>
  (pbd_cons (psd_setN (i := 0) sc__law_trying.nd rfl (by first | exact .inl rfl | exact .inr rfl) (by decide) (ped_go (ok__law_pairs (P := P) (w := w) (base := base) M) hgd hr (by decide) rfl (pcd_val ped_str pcd_nil) (by decide) rfl))
  (pbd_cons (psd_setN (i := 1) sc__law_trying.nd rfl (by first | exact .inl rfl | exact .inr rfl) (by decide) (ped_lst (pad_cons (ped_tup pad_nil) pad_nil)))
  (pbd_cons (psd_for rfl (pid_range1 rfl (M.free 2 rfl) (pad_cons ped_int pad_nil)) (pgd_name (i := 2) (by decide) (pg_name sc__law_trying.nd rfl (by first | exact .inl rfl | exact .inr rfl)))
  (pbd_cons (psd_setON (i := 3) sc__law_trying.nd rfl (by first | exact .inl rfl | exact .inr rfl) (by decide) (ped_lst pad_nil))
  (pbd_cons (psd_for rfl (pid_seq (ped_V (pv 1))) (pgd_name (i := 4) (by decide) (pg_name sc__law_trying.nd rfl (by first | exact .inl rfl | exact .inr rfl)))
  (pbd_cons (psd_setN (i := 5) sc__law_trying.nd rfl (by first | exact .inl rfl | exact .inr rfl) (by decide) ped_int)
  (pbd_cons (psd_if (ptd_cmp sc_fNe (op_fNe (u64 hr)) (ped_V (pv 4)) (ped_tup pad_nil) rfl)
  (pbd_one (psd_setN (i := 5) sc__law_trying.nd rfl (by first | exact .inl rfl | exact .inr rfl) (by decide) (ped_binD op_fAdd (ped_ix (ped_V (pv 4)) (ped_neg ped_int) (fun _ _ => rfl)) ped_int)))
  pbd_nil)
  (pbd_one (psd_for rfl (pid_range2 rfl (M.free 2 rfl) (pad_cons (ped_V (pv 5)) (pad_cons (ped_bS sc_fLen c_fLen rfl (M.free 0 rfl) PySem.boot_len (pad_cons (ped_V (pv 0)) pad_nil)) pad_nil))) (pgd_name (i := 6) (by decide) (pg_name sc__law_trying.nd rfl (by first | exact .inl rfl | exact .inr rfl)))
  (pbd_one (psd_if (ptd_cmp sc_fEq (op_fEq (u64 hr)) (ped_bS sc_fLen c_fLen rfl (M.free 0 rfl) PySem.boot_len (pad_cons (ped_comp (own := ([("i", 7)] : List (Str × Nat))) rfl sc__law_trying.nd (pid_seq (ped_V (pv 4))) (blkOk_by (N := ["names", "lots", "size", "longer", "lot", "begin", "k", "i"]) (sc := defScope (top 38)) (by decide +kernel)) (by decide) (by decide) (fun s H C cl fp => (pgd_name (i := 7) (by decide) (pg_name sc__law_trying.nd rfl (by first | exact .inl rfl | exact .inr rfl)))) (fun s H C cl fp => (.one (ptd_val (ped_go (ok__law_two_near (P := P) (w := w) (base := base) M) hgd hr (by decide) rfl (pcd_val ped_str (pcd_val (ped_ix (ped_V (pv 0)) (ped_V (pv 7)) (fun _ _ => rfl)) (pcd_val (ped_ix (ped_V (pv 0)) (ped_V (pv 6)) (fun _ _ => rfl)) pcd_nil))) (by decide) rfl)))) (fun s H C cl fp => (ped_V (pv 7)))) pad_nil)) ped_int rfl)
  (pbd_one (psd_expr (ped_append (pv 3) (ped_binD op_fAdd (ped_V (pv 4)) (ped_tup (pad_cons (ped_V (pv 6)) pad_nil))))))
  pbd_nil)))))))
  (pbd_cons (psd_if (ptd_cmp sc_fEq (op_fEq (u64 hr)) (ped_Share (pv 3)) (ped_lst pad_nil) rfl)
  (pbd_one (psd_ret (ped_cmp sc_fEq (op_fEq (u64 hr)) (ped_V (pv 2)) (ped_go (ok_ring_most (P := P) (w := w) (base := base) M) hgd hr (by decide) rfl (pcd_val ped_int pcd_nil) (by decide) rfl) rfl)))
  pbd_nil)
  (pbd_one (psd_setN (i := 1) sc__law_trying.nd rfl (by first | exact .inl rfl | exact .inr rfl) (by decide) (ped_Share (pv 3))))))))
  (pbd_one (psd_ret ped_bl)))))
theorem sc_law : FnScope ["script", "purse", "first", "q", "letters", "great"] ["script"] (defScope (top 42)) := ⟨rfl, rfl, rfl, by decide +kernel, rfl, by decide +kernel, by decide +kernel⟩
theorem ok_law (M : Mo ts fn K mg) : Good P w K mg base 47 "law" ["script"] [] f_law :=
  good_of (k := 46) (N := ["script", "purse", "first", "q", "letters", "great"]) (body := m_law) (M.fun_ 28 rfl) (M.glo 50 rfl) sc_law (by decide) (by decide) (fun _ _ _ _ _ _ us hl => match us, hl with | [_], _ => rfl) fun cdv A outer s H E hgd hr =>
  (pbd_cons (psd_setON (i := 1) sc_law.nd rfl (by first | exact .inl rfl | exact .inr rfl) (by decide) (ped_go (ok__law_purse (P := P) (w := w) (base := base) M) hgd hr (by decide) rfl (pcd_val (ped_V (pv 0)) pcd_nil) (by decide) rfl))
  (pbd_cons (psd_setN (i := 2) sc_law.nd rfl (by first | exact .inl rfl | exact .inr rfl) (by decide) (ped_ix (ped_tup (pad_cons ped_int (pad_cons ped_int (pad_cons ped_int (pad_cons ped_int (pad_cons ped_int (pad_cons ped_int (pad_cons ped_int (pad_cons ped_int (pad_cons ped_int (pad_cons ped_int pad_nil))))))))))) (ped_go (ok__law_pick (P := P) (w := w) (base := base) M) hgd hr (by decide) rfl (pcd_lend (pv 1) (pcd_val ped_int pcd_nil)) (by decide) rfl) (fun _ _ => rfl)))
  (pbd_cons (psd_for rfl (pid_seq (ped_tup (pad_cons (ped_V (pv 2)) (pad_cons (ped_binD op_fAdd ped_int (ped_go (ok__law_pick (P := P) (w := w) (base := base) M) hgd hr (by decide) rfl (pcd_lend (pv 1) (pcd_val ped_int pcd_nil)) (by decide) rfl)) pad_nil)))) (pgd_name (i := 3) (by decide) (pg_name sc_law.nd rfl (by first | exact .inl rfl | exact .inr rfl)))
  (pbd_cons (psd_setN (i := 4) sc_law.nd rfl (by first | exact .inl rfl | exact .inr rfl) (by decide) (ped_go (ok__law_ring_letters (P := P) (w := w) (base := base) M) hgd hr (by decide) rfl (pcd_lend (pv 1) (pcd_val (ped_V (pv 3)) pcd_nil)) (by decide) rfl))
  (pbd_one (psd_if (PTd.ofW (pwd_or (ptd_not (ptd_val (ped_go (ok__law_names_right (P := P) (w := w) (base := base) M) hgd hr (by decide) rfl (pcd_val (ped_V (pv 4)) pcd_nil) (by decide) rfl))) (pwd_or1 (ptd_not (ptd_val (ped_go (ok__law_numbers (P := P) (w := w) (base := base) M) hgd hr (by decide) rfl (pcd_val (ped_V (pv 3)) (pcd_val (ped_go (ok__law_most (P := P) (w := w) (base := base) M) hgd hr (by decide) rfl (pcd_val (ped_V (pv 3)) pcd_nil) (by decide) rfl) (pcd_val ped_int pcd_nil))) (by decide) rfl))))))
  (pbd_one (psd_ret ped_bl))
  pbd_nil))))
  (pbd_cons (psd_for rfl (pid_range2 rfl (M.free 2 rfl) (pad_cons ped_int (pad_cons ped_int pad_nil))) (pgd_name (i := 3) (by decide) (pg_name sc_law.nd rfl (by first | exact .inl rfl | exact .inr rfl)))
  (pbd_one (psd_if (ptd_not (ptd_val (ped_go (ok__law_numbers (P := P) (w := w) (base := base) M) hgd hr (by decide) rfl (pcd_val (ped_V (pv 3)) (pcd_val (ped_binS sc_fSub op_fSub (ped_V (pv 3)) ped_int) (pcd_val (ped_binS sc_fSub op_fSub (ped_V (pv 3)) ped_int) pcd_nil))) (by decide) rfl)))
  (pbd_one (psd_ret ped_bl))
  pbd_nil)))
  (pbd_cons (psd_setN (i := 5) sc_law.nd rfl (by first | exact .inl rfl | exact .inr rfl) (by decide) (ped_binD op_fAdd ped_int (ped_go (ok__law_great (P := P) (w := w) (base := base) M) hgd hr (by decide) rfl (pcd_lend (pv 1) (pcd_val ped_int pcd_nil)) (by decide) rfl)))
  (pbd_cons (psd_if (ptd_not (ptd_val (ped_go (ok__law_numbers (P := P) (w := w) (base := base) M) hgd hr (by decide) rfl (pcd_val (ped_V (pv 5)) (pcd_val (ped_go (ok__law_great (P := P) (w := w) (base := base) M) hgd hr (by decide) rfl (pcd_lend (pv 1) (pcd_val ped_int pcd_nil)) (by decide) rfl) (pcd_val (ped_binD op_fAdd (ped_go (ok__law_pick (P := P) (w := w) (base := base) M) hgd hr (by decide) rfl (pcd_lend (pv 1) (pcd_val ped_int pcd_nil)) (by decide) rfl) (ped_binD op_fMul ped_int (ped_go (ok__law_pick (P := P) (w := w) (base := base) M) hgd hr (by decide) rfl (pcd_lend (pv 1) (pcd_val ped_int pcd_nil)) (by decide) rfl))) pcd_nil))) (by decide) rfl)))
  (pbd_one (psd_ret ped_bl))
  pbd_nil)
  (pbd_cons (psd_if (PTd.ofW (pwd_or (ptd_not (ptd_val (ped_go (ok__law_numbers (P := P) (w := w) (base := base) M) hgd hr (by decide) rfl (pcd_val (ped_binD op_fAdd (ped_binD op_fMul (ped_V (pv 5)) (ped_V (pv 5))) ped_int) (pcd_val (ped_V (pv 5)) (pcd_val ped_int pcd_nil))) (by decide) rfl))) (pwd_or1 (ptd_not (ptd_val (ped_go (ok__law_numbers (P := P) (w := w) (base := base) M) hgd hr (by decide) rfl (pcd_val (ped_binD op_fAdd (ped_binS sc_fPow op_fPow ped_int ped_int) (ped_V (pv 5))) (pcd_val (ped_binS sc_fPow op_fPow ped_int ped_int) (pcd_val ped_int pcd_nil))) (by decide) rfl))))))
  (pbd_one (psd_ret ped_bl))
  pbd_nil)
  (pbd_cons (psd_if (PTd.ofW (pwd_and (ptd_cmp sc_fEq (op_fEq (u64 hr)) (ped_go (ok__law_pick (P := P) (w := w) (base := base) M) hgd hr (by decide) rfl (pcd_lend (pv 1) (pcd_val ped_int pcd_nil)) (by decide) rfl) ped_int rfl) (pwd_and1 (ptd_not (ptd_val (ped_go0 (ok__law_trying (P := P) (w := w) (base := base) M) hgd hr (by decide) rfl))))))
  (pbd_one (psd_ret ped_bl))
  pbd_nil)
  (pbd_one (psd_ret (ped_go0 (ok__law_refused (P := P) (w := w) (base := base) M) hgd hr (by decide) rfl)))))))))))
end
end Law

set_option maxHeartbeats 4000000
namespace Law
open PySem L2 Q
/-! the plain law -/
def P (k : Nat) (fs : List Int) : T := .node [.leaf (.int k), .leaf (.lst (fs.map D.int))]
def pk (fs : List Int) (k : Nat) (n : Int) : Int := match fs[k]? with
  | some f => f % n
  | none => 0
theorem ixN_nat {n k : Nat} (h : k < n) : ixN n (k : Int) = some k := by
  unfold ixN
  rw [if_pos (by omega), if_pos (by omega)]
  simp
theorem e20 : ixN 2 0 = some 0 := by decide
theorem e21 : ixN 2 1 = some 1 := by decide
theorem pk_lt (fs : List Int) (k : Nat) {n : Int} (hn : 0 < n) : 0 ≤ pk fs k n ∧ pk fs k n < n := by
  unfold pk
  split
  · exact ⟨Int.emod_nonneg _ (by omega), Int.emod_lt_of_pos _ hn⟩
  · omega
theorem pick_ok (k : Nat) (fs : List Int) (n : Int) (hn : 0 < n) : f__law_pick [P k fs, .leaf (.int n)] = .ok (.leaf (.int (pk fs k n))) [P (k + 1) fs] := by
  by_cases h : k < fs.length
  · have h' : ¬ fs.length ≤ k := by omega
    simp [f__law_pick, m__law_pick, P, mkF, env0, mSeq, mSet, mSetO, mIxPk, mC, Res.bind, Res.toS, T.toD, T.toDs, nodeIx, atI, putS, mSetIx, mD2, mV, fAdd, mIf, mTest, asB, mS2, mSn, mArgs, fLen, lenD, fGe, fGt, fLe, fLt, leD, ltD, mRet, mNext, SRes.toF, Q.pick, fIx, fMod, fSub,  fEq, fNe, eqD, D.toV?, scal, mDrop, mNot, mAnd, mOr, mAndV, mOrV, mNotV, mIsi, isiB, D.tyN, mCall, freeS, lendSlots, putBack, AM.toM, fInt, mAug, mRaise, mTup, Nat.le_refl, mShare, mMove, wipeE, e20, e21, hn, ixN_nat h, h', pk, h]
  · have h' : fs.length ≤ k := by omega
    simp [f__law_pick, m__law_pick, P, mkF, env0, mSeq, mSet, mSetO, mIxPk, mC, Res.bind, Res.toS, T.toD, T.toDs, nodeIx, atI, putS, mSetIx, mD2, mV, fAdd, mIf, mTest, asB, mS2, mSn, mArgs, fLen, lenD, fGe, fGt, fLe, fLt, leD, ltD, mRet, mNext, SRes.toF, Q.pick, fIx, fMod, fSub,  fEq, fNe, eqD, D.toV?, scal, mDrop, mNot, mAnd, mOr, mAndV, mOrV, mNotV, mIsi, isiB, D.tyN, mCall, freeS, lendSlots, putBack, AM.toM, fInt, mAug, mRaise, mTup, Nat.le_refl, mShare, mMove, wipeE, e20, e21, hn, h', pk, h]
/-! loops -/
theorem for_nx {t : TgM} {body : SM} (Pm : Nat → Q.Env) : ∀ (ds : List D) (j : Nat), (∀ i d, ds[i]? = some d → ∃ ρ', t d (Pm (j + i)) = some ρ' ∧ body ρ' = .nx (Pm (j + i + 1))) → forM' t body ds (Pm j) = .nx (Pm (j + ds.length))
  | [], j, _ => rfl
  | d :: ds, j, h => by
    obtain ⟨ρ', h1, h2⟩ := h 0 d rfl
    simp only [forM', Nat.add_zero] at h1 h2 ⊢
    rw [h1]
    simp only [h2]
    have ih := for_nx Pm ds (j + 1) fun i d' e => by
      obtain ⟨ρ2, a, b⟩ := h (i + 1) d' (by simpa using e)
      exact ⟨ρ2, by rw [show j + 1 + i = j + (i + 1) by omega]; exact a, by rw [show j + 1 + i = j + (i + 1) by omega]; exact b⟩
    rw [ih]
    congr 2
    simp; omega
theorem range_at {lo : Int} {n i : Nat} {d : D} (h : (rangeD lo n)[i]? = some d) : d = .int (lo + (i : Nat)) ∧ i < n := by
  unfold rangeD at h
  rw [List.getElem?_map] at h
  cases e : (List.range n)[i]? with
  | none => rw [e] at h; cases h
  | some j =>
    rw [e] at h
    cases h
    obtain ⟨hlt, e2⟩ := List.getElem?_eq_some_iff.mp e
    simp at e2 hlt
    subst e2
    exact ⟨rfl, hlt⟩
end Law

set_option maxHeartbeats 4000000
namespace Law
open PySem L2 Q
theorem mul_int {i j : Int} (h : okMul i j = true) : fMul (.int i) (.int j) = some (.leaf (.int (i * j))) := by
  show (if okMul i j = true then some (T.leaf (D.int (i * j))) else none) = _
  rw [if_pos h]
theorem okMul_of {i j : Int} (h1 : i.natAbs ≤ 2 ^ 100000) (h2 : j.natAbs ≤ 2 ^ 100000) : okMul i j = true := by
  unfold okMul
  rw [Nat.ble_eq_true_of_le h1, Nat.ble_eq_true_of_le h2]
  rfl
theorem div_int {i j : Int} (h : 0 < j) (h2 : j.natAbs ≤ 2 ^ 8000) : fFdiv (.int i) (.int j) = some (.int (i / j)) := by
  show (if (decide (0 < j) && Nat.ble j.natAbs (2 ^ 8000)) = true then some (D.int (i / j)) else none) = _
  rw [if_pos]
  rw [Nat.ble_eq_true_of_le h2, decide_eq_true h]
  rfl
theorem pow_body (b : Int) (m : D) (i : Int) (x : Option T) (h : okMul i b = true) : mSet 2 (mD2 fMul (mV 2) (mV 0)) [some (.leaf (.int b)), some (.leaf m), some (.leaf (.int i)), x] = .nx [some (.leaf (.int b)), some (.leaf m), some (.leaf (.int (i * b))), x] := by
  simp [mSet, mD2, mV, Res.bind, Res.toS, T.toD, putS, mul_int h]
def powP (b : Int) (m : Nat) (i : Nat) : Q.Env := [some (.leaf (.int b)), some (.leaf (.int m)), some (.leaf (.int (b ^ i))), if i = 0 then none else some (.leaf (.int (i - 1 : Nat)))]
theorem pow_tg (b : Int) (m i : Nat) : tgName 3 (.int (0 + (i : Nat))) (powP b m (0 + i)) = some [some (.leaf (.int b)), some (.leaf (.int m)), some (.leaf (.int (b ^ i))), some (.leaf (.int (i : Nat)))] := by
  simp [powP, tgName]
theorem pow_next (b : Int) (m i : Nat) : SRes.nx [some (.leaf (.int b)), some (.leaf (.int m)), some (.leaf (.int (b ^ i * b))), some (.leaf (.int (i : Nat)))] = .nx (powP b m (0 + i + 1)) := by
  simp [powP, Int.pow_succ]
theorem pow_sa (b : Int) (m i : Nat) (hb : okMul (b ^ i) b = true) : mSet 2 (mD2 fMul (mV 2) (mV 0)) [some (.leaf (.int b)), some (.leaf (.int m)), some (.leaf (.int (b ^ i))), some (.leaf (.int (i : Nat)))] = .nx (powP b m (0 + i + 1)) :=
  Eq.trans (pow_body b (.int m) (b ^ i) (some (.leaf (.int (i : Nat)))) hb) (pow_next b m i)
theorem pow_sb (b : Int) (m i : Nat) (d : D) (e1 : d = .int (0 + (i : Nat))) : tgName 3 d (powP b m (0 + i)) = some [some (.leaf (.int b)), some (.leaf (.int m)), some (.leaf (.int (b ^ i))), some (.leaf (.int (i : Nat)))] := by
  rw [e1]; exact pow_tg b m i
theorem pow_step (b : Int) (m : Nat) (hb : ∀ i, i < m → okMul (b ^ i) b = true) (i : Nat) (d : D) (e : (rangeD 0 m)[i]? = some d) : ∃ ρ', tgName 3 d (powP b m (0 + i)) = some ρ' ∧ mSet 2 (mD2 fMul (mV 2) (mV 0)) ρ' = .nx (powP b m (0 + i + 1)) :=
  ⟨[some (.leaf (.int b)), some (.leaf (.int m)), some (.leaf (.int (b ^ i))), some (.leaf (.int (i : Nat)))], pow_sb b m i d (range_at e).1, pow_sa b m i (hb i (range_at e).2)⟩
theorem pow_loop (b : Int) (m : Nat) (hb : ∀ i, i < m → okMul (b ^ i) b = true) : forM' (tgName 3) (mSet 2 (mD2 fMul (mV 2) (mV 0))) (rangeD 0 m) (powP b m 0) = .nx (powP b m m) := by
  have loop := for_nx (t := tgName 3) (body := mSet 2 (mD2 fMul (mV 2) (mV 0))) (powP b m) (rangeD 0 m) 0 (pow_step b m hb)
  have len : (rangeD 0 m).length = m := by simp [rangeD]
  rw [len, Nat.zero_add] at loop
  exact loop
theorem seq_nx {a b : SM} {ρ ρ1 : Q.Env} (h : a ρ = .nx ρ1) : mSeq a b ρ = b ρ1 := by unfold mSeq; rw [h]
theorem seq_rt {a b : SM} {ρ ρ1 : Q.Env} {t : T} (h : a ρ = .rt t ρ1) : mSeq a b ρ = .rt t ρ1 := by unfold mSeq; rw [h]
theorem seq_exc {a b : SM} {ρ ρ1 : Q.Env} {c f : Str} {d : D} (h : a ρ = .exc c f d ρ1) : mSeq a b ρ = .exc c f d ρ1 := by unfold mSeq; rw [h]
theorem for_ok {src : M (List D)} {t : TgM} {b : SM} {ρ ρ1 : Q.Env} {ds : List D} (h : src ρ = .ok ds ρ1) : mFor src t b ρ = forM' t b ds ρ1 := by unfold mFor; rw [h]; rfl
theorem if_t {c : M Bool} {a b : SM} {ρ ρ1 : Q.Env} (h : c ρ = .ok true ρ1) : mIf c a b ρ = a ρ1 := by unfold mIf; rw [h]; rfl
theorem if_f {c : M Bool} {a b : SM} {ρ ρ1 : Q.Env} (h : c ρ = .ok false ρ1) : mIf c a b ρ = b ρ1 := by unfold mIf; rw [h]; rfl
theorem range1_ok {m : M T} {ρ ρ1 : Q.Env} {n : Nat} (h : m ρ = .ok (.leaf (.int (n : Int))) ρ1) (hn : n < 2 ^ 61) : mRange1 [m] ρ = .ok (rangeD 0 n) ρ1 := by
  have s1 : small62 (n : Int) = true := by
    unfold small62
    rw [Bool.and_eq_true, decide_eq_true_eq, decide_eq_true_eq]
    omega
  simp only [mRange1, mArgs, h, Res.bind, T.toD, s1, if_true, Int.toNat_natCast]
theorem fun_rt {lent : List Nat} {n : Nat} {b : SM} {ts : List T} {t : T} {ρ : Q.Env} {ls : List T} (h : b (env0 n ts) = .rt t ρ) (hp : Q.pick lent ρ = some ls) : mkF lent n b ts = .ok t ls := by unfold mkF; rw [h]; simp only [SRes.toF, hp]
theorem fun_nx {lent : List Nat} {n : Nat} {b : SM} {ts : List T} {ρ : Q.Env} {ls : List T} (h : b (env0 n ts) = .nx ρ) (hp : Q.pick lent ρ = some ls) : mkF lent n b ts = .ok (.leaf .non) ls := by unfold mkF; rw [h]; simp only [SRes.toF, hp]
theorem powP_zero (b : Int) (m : Nat) : powP b m 0 = [some (.leaf (.int b)), some (.leaf (.int m)), some (.leaf (.int 1)), none] := by simp [powP]
theorem power_ok (b : Int) (m : Nat) (hm : m < 400) (hb : ∀ i, i < m → okMul (b ^ i) b = true) : f_power_of [.leaf (.int b), .leaf (.int m)] = .ok (.leaf (.int (b ^ m))) [] := by
  have l := pow_loop b m hb
  rw [powP_zero] at l
  refine fun_rt (b := m_power_of) (ρ := powP b m m) ?_ rfl
  refine Eq.trans (seq_nx (ρ1 := [some (.leaf (.int b)), some (.leaf (.int m)), some (.leaf (.int 1)), none]) (by rfl)) ?_
  refine Eq.trans (seq_nx (Eq.trans (for_ok (range1_ok (n := m) (by rfl) (by omega))) l)) ?_
  rfl
end Law

set_option maxHeartbeats 4000000
namespace Law
open PySem L2 Q
theorem pick_call {fs : List Int} {k i : Nat} {m : M T} {ρ : Q.Env} {n : Int} (h : ρ[i]? = some (some (P k fs))) (hm : m (ρ.set i none) = .ok (.leaf (.int n)) (ρ.set i none)) (hn : 0 < n) : mCall f__law_pick [.lend i, .val m] ρ = .ok (.leaf (.int (pk fs k n))) (ρ.set i (some (P (k + 1) fs))) := by
  obtain ⟨hlt, _⟩ := List.getElem?_eq_some_iff.mp h
  have e1 : (ρ.set i none)[i]? = some (none : Option T) := by rw [List.getElem?_set_self hlt]
  have e2 : (ρ.set i none).set i (some (P (k + 1) fs)) = ρ.set i (some (P (k + 1) fs)) := by rw [List.set_set]
  simp [mCall, AM.toM, mArgs, mMove, h, hm, Res.bind, pick_ok k fs n hn, lendSlots, freeS, e1, putBack, e2]
def gr (fs : List Int) (k : Nat) : Nat → Int
  | 0 => 0
  | i + 1 => gr fs k i * 24 + pk fs (k + i) 24
theorem gr_lt (fs : List Int) (k : Nat) : ∀ i, 0 ≤ gr fs k i ∧ gr fs k i < 24 ^ i
  | 0 => by simp [gr]
  | i + 1 => by
    obtain ⟨a, b⟩ := gr_lt fs k i
    obtain ⟨c, d⟩ := pk_lt fs (k + i) (n := 24) (by decide)
    simp only [gr, Int.pow_succ]
    omega
end Law

set_option maxHeartbeats 4000000
set_option exponentiation.threshold 200000
namespace Law
open PySem L2 Q
abbrev I (i : Int) : T := .leaf (.int i)
theorem is_int_ok (x : Int) : f_is_int [I x] = .ok (.leaf (.bl true)) [] := by rfl
theorem check_ok {x y : Int} (h : y ≤ x) : f_check_number [I x, I y] = .ok (I x) [] := by
  have h' : ¬ x < y := by omega
  simp [f_check_number, m_check_number, is_int_ok, h', mkF, env0, mSeq, mSet, mSetO, mIxPk, mC, Res.bind, Res.toS, T.toD, T.toDs, nodeIx, atI, putS, mSetIx, mD2, mV, fAdd, mIf, mTest, asB, mS2, mSn, mArgs, fLen, lenD, fGe, fGt, fLe, fLt, leD, ltD, mRet, mNext, SRes.toF, Q.pick, fIx, fMod, fSub,  fEq, fNe, eqD, D.toV?, scal, mDrop, mNot, mAnd, mOr, mAndV, mOrV, mNotV, mIsi, isiB, D.tyN, mCall, freeS, lendSlots, putBack, AM.toM, fInt, mAug, mRaise, mTup, Nat.le_refl, mShare, mMove, wipeE]
theorem bound_ok {q many : Int} (h1 : 3 ≤ q) (h2 : 0 ≤ many) (h : okMul q many = true) : f_ring_bound [I q, I many] = .ok (I (q * many / 2)) [] := by
  simp [f_ring_bound, m_ring_bound, check_ok h1, check_ok h2, mul_int h, div_int (j := 2) (by decide) (by decide), mkF, env0, mSeq, mSet, mSetO, mIxPk, mC, Res.bind, Res.toS, T.toD, T.toDs, nodeIx, atI, putS, mSetIx, mD2, mV, fAdd, mIf, mTest, asB, mS2, mSn, mArgs, fLen, lenD, fGe, fGt, fLe, fLt, leD, ltD, mRet, mNext, SRes.toF, Q.pick, fIx, fMod, fSub,  fEq, fNe, eqD, D.toV?, scal, mDrop, mNot, mAnd, mOr, mAndV, mOrV, mNotV, mIsi, isiB, D.tyN, mCall, freeS, lendSlots, putBack, AM.toM, fInt, mAug, mRaise, mTup, Nat.le_refl, mShare, mMove, wipeE]
theorem rmost_ok {q : Int} (h1 : 3 ≤ q) (h : okMul q (q / 2) = true) : f_ring_most [I q] = .ok (I (q * (q / 2) / 2)) [] := by
  simp [f_ring_most, m_ring_most, check_ok h1, mul_int h, div_int (j := 2) (by decide) (by decide), mkF, env0, mSeq, mSet, mSetO, mIxPk, mC, Res.bind, Res.toS, T.toD, T.toDs, nodeIx, atI, putS, mSetIx, mD2, mV, fAdd, mIf, mTest, asB, mS2, mSn, mArgs, fLen, lenD, fGe, fGt, fLe, fLt, leD, ltD, mRet, mNext, SRes.toF, Q.pick, fIx, fMod, fSub,  fEq, fNe, eqD, D.toV?, scal, mDrop, mNot, mAnd, mOr, mAndV, mOrV, mNotV, mIsi, isiB, D.tyN, mCall, freeS, lendSlots, putBack, AM.toM, fInt, mAug, mRaise, mTup, Nat.le_refl, mShare, mMove, wipeE]
theorem most_half {q : Int} (h : q % 2 = 0) : q / 2 * (q / 2) = q * (q / 2) / 2 := by
  have e : q = q / 2 * 2 := by omega
  generalize q / 2 = k at *
  subst e
  rw [show k * 2 * k = k * k * 2 by rw [Int.mul_assoc, Int.mul_comm 2 k, ← Int.mul_assoc], Int.mul_ediv_cancel _ (by decide)]
theorem most_odd {q : Int} (h : q % 2 = 1) : (q * (q / 2) - q / 2 % 2) / 2 = q * (q / 2) / 2 := by
  have e : (q * (q / 2)) % 2 = q / 2 % 2 := by rw [Int.mul_emod, h]; omega
  omega
theorem most_ok {q : Int} (h1 : 3 ≤ q) (h : okMul q (q / 2) = true) (h' : okMul (q / 2) (q / 2) = true) : f__law_most [I q] = .ok (I (q * (q / 2) / 2)) [] := by
  by_cases h2 : q % 2 = 0
  · simp [f__law_most, m__law_most, mul_int h, mul_int h', div_int (j := 2) (by decide) (by decide), h2, most_half h2, mkF, env0, mSeq, mSet, mSetO, mIxPk, mC, Res.bind, Res.toS, T.toD, T.toDs, nodeIx, atI, putS, mSetIx, mD2, mV, fAdd, mIf, mTest, asB, mS2, mSn, mArgs, fLen, lenD, fGe, fGt, fLe, fLt, leD, ltD, mRet, mNext, SRes.toF, Q.pick, fIx, fMod, fSub,  fEq, fNe, eqD, D.toV?, scal, mDrop, mNot, mAnd, mOr, mAndV, mOrV, mNotV, mIsi, isiB, D.tyN, mCall, freeS, lendSlots, putBack, AM.toM, fInt, mAug, mRaise, mTup, Nat.le_refl, mShare, mMove, wipeE]
  · have h3 : q % 2 = 1 := by omega
    simp [f__law_most, m__law_most, mul_int h, mul_int h', div_int (j := 2) (by decide) (by decide), h3, most_odd h3, mkF, env0, mSeq, mSet, mSetO, mIxPk, mC, Res.bind, Res.toS, T.toD, T.toDs, nodeIx, atI, putS, mSetIx, mD2, mV, fAdd, mIf, mTest, asB, mS2, mSn, mArgs, fLen, lenD, fGe, fGt, fLe, fLt, leD, ltD, mRet, mNext, SRes.toF, Q.pick, fIx, fMod, fSub,  fEq, fNe, eqD, D.toV?, scal, mDrop, mNot, mAnd, mOr, mAndV, mOrV, mNotV, mIsi, isiB, D.tyN, mCall, freeS, lendSlots, putBack, AM.toM, fInt, mAug, mRaise, mTup, Nat.le_refl, mShare, mMove, wipeE]
theorem lis_ok (x : Int) : f__law_is_int [I x, I x] = .ok (.leaf (.bl true)) [] := by
  simp [f__law_is_int, m__law_is_int, mkF, env0, mSeq, mSet, mSetO, mIxPk, mC, Res.bind, Res.toS, T.toD, T.toDs, nodeIx, atI, putS, mSetIx, mD2, mV, fAdd, mIf, mTest, asB, mS2, mSn, mArgs, fLen, lenD, fGe, fGt, fLe, fLt, leD, ltD, mRet, mNext, SRes.toF, Q.pick, fIx, fMod, fSub,  fEq, fNe, eqD, D.toV?, scal, mDrop, mNot, mAnd, mOr, mAndV, mOrV, mNotV, mIsi, isiB, D.tyN, mCall, freeS, lendSlots, putBack, AM.toM, fInt, mAug, mRaise, mTup, Nat.le_refl, mShare, mMove, wipeE]
theorem call1 {f : List T → FRes} {m1 : M T} {ρ : Q.Env} {t1 t : T} (h1 : m1 ρ = .ok t1 ρ) (h : f [t1] = .ok t []) : mCall f [.val m1] ρ = .ok t ρ := by
  simp [mCall, AM.toM, mArgs, h1, Res.bind, lendSlots, freeS, h, putBack]
theorem call2 {f : List T → FRes} {m1 m2 : M T} {ρ : Q.Env} {t1 t2 t : T} (h1 : m1 ρ = .ok t1 ρ) (h2 : m2 ρ = .ok t2 ρ) (h : f [t1, t2] = .ok t []) : mCall f [.val m1, .val m2] ρ = .ok t ρ := by
  simp [mCall, AM.toM, mArgs, h1, h2, Res.bind, lendSlots, freeS, h, putBack]
theorem call2x {f : List T → FRes} {m1 m2 : M T} {ρ : Q.Env} {t1 t2 : T} {c g : Str} {d : D} (h1 : m1 ρ = .ok t1 ρ) (h2 : m2 ρ = .ok t2 ρ) (h : f [t1, t2] = .exc c g d []) : mCall f [.val m1, .val m2] ρ = .exc c g d ρ := by
  simp [mCall, AM.toM, mArgs, h1, h2, Res.bind, lendSlots, freeS, h, putBack]
theorem drop_ok {m : M T} {ρ ρ1 : Q.Env} {t : T} (h : m ρ = .ok t ρ1) : mDrop m ρ = .nx ρ1 := by simp [mDrop, h, Res.toS]
theorem ret_ok {m : M T} {ρ ρ1 : Q.Env} {t : T} (h : m ρ = .ok t ρ1) : mRet m ρ = .rt t ρ1 := by simp [mRet, h, Res.toS]
theorem even_if {q : Int} {m : Nat} (h2 : q % 2 = 0) : mIf (mTest (mS2 fEq (mS2 fMod (mV 0) (mC (.int 2))) (mC (.int 1)))) (mRaise "BadCase" "at" (mC (.str "odd"))) mNext [some (I q), some (I m)] = .nx [some (I q), some (I m)] := by
  simp [h2, mkF, env0, mSeq, mSet, mSetO, mIxPk, mC, Res.bind, Res.toS, T.toD, T.toDs, nodeIx, atI, putS, mSetIx, mD2, mV, fAdd, mIf, mTest, asB, mS2, mSn, mArgs, fLen, lenD, fGe, fGt, fLe, fLt, leD, ltD, mRet, mNext, SRes.toF, Q.pick, fIx, fMod, fSub,  fEq, fNe, eqD, D.toV?, scal, mDrop, mNot, mAnd, mOr, mAndV, mOrV, mNotV, mIsi, isiB, D.tyN, mCall, freeS, lendSlots, putBack, AM.toM, fInt, mAug, mRaise, mTup, Nat.le_refl, mShare, mMove, wipeE]
theorem half_ok {q : Int} {ρ : Q.Env} (h : ρ[0]? = some (some (I q))) : mS2 fFdiv (mV 0) (mC (.int 2)) ρ = .ok (I (q / 2)) ρ := by
  simp [mS2, mV, mC, h, Res.bind, T.toD, div_int (j := 2) (by decide) (by decide)]
theorem even_ok {q : Int} {m : Nat} (h1 : 3 ≤ q) (hm : m < 400) (h2 : q % 2 = 0) (hb : ∀ i, i < m → okMul ((q / 2) ^ i) (q / 2) = true) : f_even_most [I q, I m] = .ok (I ((q / 2) ^ m)) [] := by
  have h4 : (0 : Int) ≤ (m : Int) := by omega
  refine fun_rt (b := m_even_most) (ρ := [some (I q), some (I m)]) ?_ rfl
  refine Eq.trans (seq_nx (ρ1 := [some (I q), some (I m)]) (drop_ok (call2 (t1 := I q) (t2 := I 3) (by rfl) (by rfl) (check_ok h1)))) ?_
  refine Eq.trans (seq_nx (ρ1 := [some (I q), some (I m)]) (drop_ok (call2 (t1 := I m) (t2 := I 0) (by rfl) (by rfl) (check_ok h4)))) ?_
  refine Eq.trans (seq_nx (even_if h2)) ?_
  exact ret_ok (call2 (t1 := I (q / 2)) (t2 := I m) (half_ok rfl) (by rfl) (power_ok (q / 2) m hm hb))
theorem odd_ok {q : Int} {m : Nat} (h1 : 3 ≤ q) (h2 : q % 2 = 1) : f_even_most [I q, I m] = .exc "BadCase" "at" (.str "odd") [] := by
  have h4 : (0 : Int) ≤ (m : Int) := by omega
  simp [f_even_most, m_even_most, check_ok h1, check_ok h4, h2, mkF, env0, mSeq, mSet, mSetO, mIxPk, mC, Res.bind, Res.toS, T.toD, T.toDs, nodeIx, atI, putS, mSetIx, mD2, mV, fAdd, mIf, mTest, asB, mS2, mSn, mArgs, fLen, lenD, fGe, fGt, fLe, fLt, leD, ltD, mRet, mNext, SRes.toF, Q.pick, fIx, fMod, fSub,  fEq, fNe, eqD, D.toV?, scal, mDrop, mNot, mAnd, mOr, mAndV, mOrV, mNotV, mIsi, isiB, D.tyN, mCall, freeS, lendSlots, putBack, AM.toM, fInt, mAug, mRaise, mTup, Nat.le_refl, mShare, mMove, wipeE]
end Law

set_option maxHeartbeats 4000000
set_option exponentiation.threshold 200000
namespace Law
open PySem L2 Q
theorem set_ok {i : Nat} {m : M T} {ρ ρ1 : Q.Env} {t : T} (h : m ρ = .ok t ρ1) (hi : i < ρ1.length) : mSet i m ρ = .nx (ρ1.set i (some (.leaf t.toD))) := by
  have e : ρ1[i]? = some ρ1[i] := List.getElem?_eq_getElem hi
  simp [mSet, h, Res.toS, putS, e]
def nE (q many : Int) (m : Nat) (told due turn word at' raised : Option T) : Q.Env := [some (I q), some (I many), some (I m), told, due, turn, word, at', raised]
theorem num_if1 {q many : Int} {m : Nat} (h : okMul q many = true) (h2 : okMul 2 (q * many / 2) = true) :
    mIf (mOr (mNot (mTest (mIsi ["int"] (mV 3)))) (mOr (mTest (mIsi ["bool"] (mV 3))) (mNot (mTest (mChain fLe fLt (mD2 fMul (mC (.int 2)) (mV 3)) (mD2 fMul (mV 0) (mV 1)) (mD2 fAdd (mD2 fMul (mC (.int 2)) (mV 3)) (mC (.int 2)))))))) (mRet (mC (.bl false))) mNext
      (nE q many m (some (I (q * many / 2))) none none none none none) = .nx (nE q many m (some (I (q * many / 2))) none none none none none) := by
  have a1 : 2 * (q * many / 2) ≤ q * many := by omega
  have a2 : q * many < 2 * (q * many / 2) + 2 := by omega
  simp [nE, mChain, mul_int h, mul_int h2, a1, a2, mkF, env0, mSeq, mSet, mSetO, mIxPk, mC, Res.bind, Res.toS, T.toD, T.toDs, nodeIx, atI, putS, mSetIx, mD2, mV, fAdd, mIf, mTest, asB, mS2, mSn, mArgs, fLen, lenD, fGe, fGt, fLe, fLt, leD, ltD, mRet, mNext, SRes.toF, Q.pick, fIx, fMod, fSub,  fEq, fNe, eqD, D.toV?, scal, mDrop, mNot, mAnd, mOr, mAndV, mOrV, mNotV, mIsi, isiB, D.tyN, mCall, freeS, lendSlots, putBack, AM.toM, fInt, mAug, mRaise, mTup, Nat.le_refl, mShare, mMove, wipeE]
theorem num_if2 {q many : Int} {m : Nat} {told : Option T} (h1 : 3 ≤ q) (h : okMul q (q / 2) = true) (h' : okMul (q / 2) (q / 2) = true) :
    mIf (mNot (mTest (mCall f__law_is_int [.val (mCall f_ring_most [.val (mV 0)]), .val (mCall f__law_most [.val (mV 0)])]))) (mRet (mC (.bl false))) mNext (nE q many m told none none none none none) = .nx (nE q many m told none none none none none) := by
  have e1 : mCall f_ring_most [.val (mV 0)] (nE q many m told none none none none none) = .ok (I (q * (q / 2) / 2)) (nE q many m told none none none none none) := call1 (t1 := I q) (by rfl) (rmost_ok h1 h)
  have e2 : mCall f__law_most [.val (mV 0)] (nE q many m told none none none none none) = .ok (I (q * (q / 2) / 2)) (nE q many m told none none none none none) := call1 (t1 := I q) (by rfl) (most_ok h1 h h')
  have e3 := call2 e1 e2 (lis_ok (q * (q / 2) / 2))
  refine Eq.trans (if_f (ρ1 := nE q many m told none none none none none) ?_) (by rfl)
  simp only [mNot, mTest, asB, e3, Res.bind]
  rfl
theorem due_body (q many : Int) (m : Nat) (told turn : Option T) (i : Int) (h : okMul i (q / 2) = true) : mSet 4 (mD2 fMul (mV 4) (mS2 fFdiv (mV 0) (mC (.int 2)))) (nE q many m told (some (I i)) turn none none none) = .nx (nE q many m told (some (I (i * (q / 2)))) turn none none none) := by
  simp [nE, mSet, mD2, mS2, mV, mC, Res.bind, Res.toS, T.toD, putS, mul_int h, div_int (j := 2) (by decide) (by decide)]
def dueP (q many : Int) (m : Nat) (told : Option T) (i : Nat) : Q.Env := nE q many m told (some (I ((q / 2) ^ i))) (if i = 0 then none else some (I (i - 1 : Nat))) none none none
theorem due_tg (q many : Int) (m : Nat) (told : Option T) (i : Nat) : tgName 5 (.int (0 + (i : Nat))) (dueP q many m told (0 + i)) = some (nE q many m told (some (I ((q / 2) ^ i))) (some (I (i : Nat))) none none none) := by
  simp [dueP, nE, tgName]
theorem due_next (q many : Int) (m : Nat) (told : Option T) (i : Nat) : SRes.nx (nE q many m told (some (I ((q / 2) ^ i * (q / 2)))) (some (I (i : Nat))) none none none) = .nx (dueP q many m told (0 + i + 1)) := by
  simp [dueP, nE, Int.pow_succ]
theorem due_step (q many : Int) (m : Nat) (told : Option T) (hb : ∀ i, i < m → okMul ((q / 2) ^ i) (q / 2) = true) (i : Nat) (d : D) (e : (rangeD 0 m)[i]? = some d) : ∃ ρ', tgName 5 d (dueP q many m told (0 + i)) = some ρ' ∧ mSet 4 (mD2 fMul (mV 4) (mS2 fFdiv (mV 0) (mC (.int 2)))) ρ' = .nx (dueP q many m told (0 + i + 1)) :=
  ⟨nE q many m told (some (I ((q / 2) ^ i))) (some (I (i : Nat))) none none none, by rw [(range_at e).1]; exact due_tg q many m told i, Eq.trans (due_body q many m told _ _ (hb i (range_at e).2)) (due_next q many m told i)⟩
theorem due_loop (q many : Int) (m : Nat) (hm : m < 400) (told : Option T) (hb : ∀ i, i < m → okMul ((q / 2) ^ i) (q / 2) = true) : mFor (mRange1 [mV 2]) (tgName 5) (mSet 4 (mD2 fMul (mV 4) (mS2 fFdiv (mV 0) (mC (.int 2))))) (nE q many m told (some (I 1)) none none none none) = .nx (dueP q many m told m) := by
  refine Eq.trans (for_ok (ρ1 := nE q many m told (some (I 1)) none none none none) (range1_ok (n := m) (by rfl) (by omega))) ?_
  have loop := for_nx (t := tgName 5) (body := mSet 4 (mD2 fMul (mV 4) (mS2 fFdiv (mV 0) (mC (.int 2))))) (dueP q many m told) (rangeD 0 m) 0 (due_step q many m told hb)
  have len : (rangeD 0 m).length = m := by simp [rangeD]
  rw [len, Nat.zero_add] at loop
  have z : dueP q many m told 0 = nE q many m told (some (I 1)) none none none none := by simp [dueP]
  rw [z] at loop
  exact loop
theorem asg_ok (q many : Int) (m : Nat) (told due turn : Option T) : mAsg (tgTup [tgName 6, tgName 7]) (mTup [mC (.str "none"), mC .non]) (nE q many m told due turn none none none) = .nx (nE q many m told due turn (some (.leaf (.str "none"))) (some (.leaf .non)) none) := by rfl
end Law

set_option maxHeartbeats 4000000
set_option exponentiation.threshold 200000
namespace Law
open PySem L2 Q
def handlers : List Hd := [⟨"BadCase", some 8, fun f' dv ρ => if f' = "at" then putL [(7, .leaf dv), (6, .leaf (.str "case"))] ρ else .stuck⟩, ⟨"DisguiseError", none, fun _ _ => (mSet 6 (mC (.str "other")))⟩]
theorem try_even {q many : Int} {m : Nat} {told due turn : Option T} (h1 : 3 ≤ q) (hm : m < 400) (h2 : q % 2 = 0) (hb : ∀ i, i < m → okMul ((q / 2) ^ i) (q / 2) = true) : mTry tab (mSet 3 (mCall f_even_most [.val (mV 0), .val (mV 2)])) handlers (nE q many m told due turn (some (.leaf (.str "none"))) (some (.leaf .non)) none) =
    .nx (nE q many m (some (I ((q / 2) ^ m))) due turn (some (.leaf (.str "none"))) (some (.leaf .non)) none) := by
  have e := set_ok (i := 3) (call2 (ρ := nE q many m told due turn (some (.leaf (.str "none"))) (some (.leaf .non)) none) (m1 := mV 0) (m2 := mV 2) (t1 := I q) (t2 := I m) (by rfl) (by rfl) (even_ok h1 hm h2 hb)) (by simp [nE])
  unfold mTry
  rw [e]
  rfl
theorem set_exc {i : Nat} {m : M T} {ρ ρ1 : Q.Env} {c g : Str} {d : D} (h : m ρ = .exc c g d ρ1) : mSet i m ρ = .exc c g d ρ1 := by simp [mSet, h, Res.toS]
theorem try_odd {q many : Int} {m : Nat} {told due turn : Option T} (h1 : 3 ≤ q) (h2 : q % 2 = 1) : mTry tab (mSet 3 (mCall f_even_most [.val (mV 0), .val (mV 2)])) handlers (nE q many m told due turn (some (.leaf (.str "none"))) (some (.leaf .non)) none) =
    .nx (nE q many m told due turn (some (.leaf (.str "case"))) (some (.leaf (.str "odd"))) none) := by
  have e := set_exc (i := 3) (call2x (ρ := nE q many m told due turn (some (.leaf (.str "none"))) (some (.leaf .non)) none) (m1 := mV 0) (m2 := mV 2) (t1 := I q) (t2 := I m) (by rfl) (by rfl) (odd_ok h1 h2))
  unfold mTry
  rw [e]
  rfl
theorem eq_case : fEq (.tup [.str "case", .str "odd"]) (.tup [.str "case", .str "odd"]) = some (.bl true) := by kernel_rfl
theorem last_odd {q many : Int} {m : Nat} {told due turn : Option T} (h2 : q % 2 = 1) : mIf (mTest (mS2 fEq (mS2 fMod (mSn fInt [mV 0]) (mC (.int 2))) (mC (.int 1)))) (mRet (mS2 fEq (mTup [mV 6, mV 7]) (mTup [mC (.str "case"), mC (.str "odd")]))) mNext (nE q many m told due turn (some (.leaf (.str "case"))) (some (.leaf (.str "odd"))) none) =
    .rt (.leaf (.bl true)) (nE q many m told due turn (some (.leaf (.str "case"))) (some (.leaf (.str "odd"))) none) := by
  refine Eq.trans (if_t (ρ1 := nE q many m told due turn (some (.leaf (.str "case"))) (some (.leaf (.str "odd"))) none) ?_) ?_
  · simp [nE, h2, mkF, env0, mSeq, mSet, mSetO, mIxPk, mC, Res.bind, Res.toS, T.toD, T.toDs, nodeIx, atI, putS, mSetIx, mD2, mV, fAdd, mIf, mTest, asB, mS2, mSn, mArgs, fLen, lenD, fGe, fGt, fLe, fLt, leD, ltD, mRet, mNext, SRes.toF, Q.pick, fIx, fMod, fSub,  fEq, fNe, eqD, D.toV?, scal, mDrop, mNot, mAnd, mOr, mAndV, mOrV, mNotV, mIsi, isiB, D.tyN, mCall, freeS, lendSlots, putBack, AM.toM, fInt, mAug, mRaise, mTup, Nat.le_refl, mShare, mMove, wipeE]
  · simp [nE, mRet, mS2, mTup, mArgs, mV, mC, Res.bind, Res.toS, T.toD, eq_case]
theorem last_even {q many : Int} {m : Nat} {told due turn w a : Option T} (h2 : q % 2 = 0) {b : SM} : mIf (mTest (mS2 fEq (mS2 fMod (mSn fInt [mV 0]) (mC (.int 2))) (mC (.int 1)))) b mNext (nE q many m told due turn w a none) = .nx (nE q many m told due turn w a none) := by
  refine Eq.trans (if_f (ρ1 := nE q many m told due turn w a none) ?_) (by rfl)
  simp [nE, h2, mkF, env0, mSeq, mSet, mSetO, mIxPk, mC, Res.bind, Res.toS, T.toD, T.toDs, nodeIx, atI, putS, mSetIx, mD2, mV, fAdd, mIf, mTest, asB, mS2, mSn, mArgs, fLen, lenD, fGe, fGt, fLe, fLt, leD, ltD, mRet, mNext, SRes.toF, Q.pick, fIx, fMod, fSub,  fEq, fNe, eqD, D.toV?, scal, mDrop, mNot, mAnd, mOr, mAndV, mOrV, mNotV, mIsi, isiB, D.tyN, mCall, freeS, lendSlots, putBack, AM.toM, fInt, mAug, mRaise, mTup, Nat.le_refl, mShare, mMove, wipeE]
theorem last_ret {q many : Int} {m : Nat} {turn : Option T} {x : Int} : mRet (mAndV (mS2 fEq (mV 6) (mC (.str "none"))) (mCall f__law_is_int [.val (mV 3), .val (mV 4)])) (nE q many m (some (I x)) (some (I x)) turn (some (.leaf (.str "none"))) (some (.leaf .non)) none) =
    .rt (.leaf (.bl true)) (nE q many m (some (I x)) (some (I x)) turn (some (.leaf (.str "none"))) (some (.leaf .non)) none) := by
  refine ret_ok ?_
  have c := call2 (ρ := nE q many m (some (I x)) (some (I x)) turn (some (.leaf (.str "none"))) (some (.leaf .non)) none) (m1 := mV 3) (m2 := mV 4) (t1 := I x) (t2 := I x) (by rfl) (by rfl) (lis_ok x)
  have t : mTest (mS2 fEq (mV 6) (mC (.str "none"))) (nE q many m (some (I x)) (some (I x)) turn (some (.leaf (.str "none"))) (some (.leaf .non)) none) = .ok true (nE q many m (some (I x)) (some (I x)) turn (some (.leaf (.str "none"))) (some (.leaf .non)) none) := by rfl
  unfold mAndV
  rw [t]
  exact c
theorem numbers_ok {q many : Int} {m : Nat} (h1 : 3 ≤ q) (h2 : 0 ≤ many) (hm : m < 400) (k1 : okMul q many = true) (k2 : okMul 2 (q * many / 2) = true) (k3 : okMul q (q / 2) = true) (k4 : okMul (q / 2) (q / 2) = true) (hb : ∀ i, i < m → okMul ((q / 2) ^ i) (q / 2) = true) :
    f__law_numbers [I q, I many, I m] = .ok (.leaf (.bl true)) [] := by
  have go : ∃ ρ, m__law_numbers (nE q many m none none none none none none) = .rt (.leaf (.bl true)) ρ := by
    have s1 := set_ok (i := 3) (call2 (ρ := nE q many m none none none none none none) (m1 := mV 0) (m2 := mV 1) (t1 := I q) (t2 := I many) (by rfl) (by rfl) (bound_ok h1 h2 k1)) (by simp [nE])
    have s2 := num_if1 (m := m) k1 k2
    have s3 := num_if2 (many := many) (m := m) (told := some (I (q * many / 2))) h1 k3 k4
    have s5 := due_loop q many m hm (some (I (q * many / 2))) hb
    by_cases h : q % 2 = 0
    · apply Exists.intro
      refine Eq.trans (seq_nx s1) ?_
      refine Eq.trans (seq_nx s2) ?_
      refine Eq.trans (seq_nx s3) ?_
      refine Eq.trans (seq_nx (ρ1 := nE q many m (some (I (q * many / 2))) (some (I 1)) none none none none) (by rfl)) ?_
      refine Eq.trans (seq_nx s5) ?_
      refine Eq.trans (seq_nx (asg_ok _ _ _ _ _ _)) ?_
      refine Eq.trans (seq_nx (try_even h1 hm h hb)) ?_
      refine Eq.trans (seq_nx (last_even h)) ?_
      exact last_ret
    · have h' : q % 2 = 1 := by omega
      apply Exists.intro
      refine Eq.trans (seq_nx s1) ?_
      refine Eq.trans (seq_nx s2) ?_
      refine Eq.trans (seq_nx s3) ?_
      refine Eq.trans (seq_nx (ρ1 := nE q many m (some (I (q * many / 2))) (some (I 1)) none none none none) (by rfl)) ?_
      refine Eq.trans (seq_nx s5) ?_
      refine Eq.trans (seq_nx (asg_ok _ _ _ _ _ _)) ?_
      refine Eq.trans (seq_nx (try_odd h1 h')) ?_
      exact seq_rt (last_odd h')
  obtain ⟨ρ, e⟩ := go
  exact fun_rt (b := m__law_numbers) e rfl
end Law

set_option maxHeartbeats 4000000
set_option exponentiation.threshold 200000
namespace Law
open PySem L2 Q
abbrev S (z : Str) : T := .leaf (.str z)
theorem near_ok {z c d : Str} {i j : Nat} {b : Bool} (hz : z.length ≤ big) (h0 : 0 < z.length) (hi : sIdx z c = some i) (hj : sIdx z d = some j) (hb : inD (.int (((i : Int) - j) % (z.length : Int))) (.tup [.int 0, .int 1, .int ((z.length : Int) - 1)]) = some b) :
    f__law_near [S z, S c, S d] = .ok (.leaf (.bl b)) [] := by
  have h1 : (0 : Int) < (z.length : Int) := by omega
  simp [f__law_near, m__law_near, mMt, fIndexS, hi, hj, hz, h0, h1, hb, fIn, mkF, env0, mSeq, mSet, mSetO, mIxPk, mC, Res.bind, Res.toS, T.toD, T.toDs, nodeIx, atI, putS, mSetIx, mD2, mV, fAdd, mIf, mTest, asB, mS2, mSn, mArgs, fLen, lenD, fGe, fGt, fLe, fLt, leD, ltD, mRet, mNext, SRes.toF, Q.pick, fIx, fMod, fSub,  fEq, fNe, eqD, D.toV?, scal, mDrop, mNot, mAnd, mOr, mAndV, mOrV, mNotV, mIsi, isiB, D.tyN, mCall, freeS, lendSlots, putBack, AM.toM, fInt, mAug, mRaise, mTup, Nat.le_refl, mShare, mMove, wipeE]
theorem two_ok {z : Str} {x y x' y' : Nat} {i j i' j' : Nat} {b b' : Bool} (hz : z.length ≤ big) (h0 : 0 < z.length) (hi : sIdx z ⟨#[x]⟩ = some i) (hj : sIdx z ⟨#[x']⟩ = some j) (hi' : sIdx z ⟨#[y]⟩ = some i') (hj' : sIdx z ⟨#[y']⟩ = some j')
    (hb : inD (.int (((i : Int) - j) % (z.length : Int))) (.tup [.int 0, .int 1, .int ((z.length : Int) - 1)]) = some b) (hb' : inD (.int (((i' : Int) - j') % (z.length : Int))) (.tup [.int 0, .int 1, .int ((z.length : Int) - 1)]) = some b') :
    f__law_two_near [S z, S ⟨#[x, y]⟩, S ⟨#[x', y']⟩] = .ok (.leaf (.bl (b && b'))) [] := by
  have n1 := near_ok hz h0 hi hj hb
  have n2 := near_ok hz h0 hi' hj' hb'
  have g1 : mD2 fIx (mV 1) (mC (.int 0)) [some (S z), some (S ⟨#[x, y]⟩), some (S ⟨#[x', y']⟩)] = .ok (S ⟨#[x]⟩) [some (S z), some (S ⟨#[x, y]⟩), some (S ⟨#[x', y']⟩)] := by rfl
  have g2 : mD2 fIx (mV 2) (mC (.int 0)) [some (S z), some (S ⟨#[x, y]⟩), some (S ⟨#[x', y']⟩)] = .ok (S ⟨#[x']⟩) [some (S z), some (S ⟨#[x, y]⟩), some (S ⟨#[x', y']⟩)] := by rfl
  have g3 : mD2 fIx (mV 1) (mC (.int 1)) [some (S z), some (S ⟨#[x, y]⟩), some (S ⟨#[x', y']⟩)] = .ok (S ⟨#[y]⟩) [some (S z), some (S ⟨#[x, y]⟩), some (S ⟨#[x', y']⟩)] := by rfl
  have g4 : mD2 fIx (mV 2) (mC (.int 1)) [some (S z), some (S ⟨#[x, y]⟩), some (S ⟨#[x', y']⟩)] = .ok (S ⟨#[y']⟩) [some (S z), some (S ⟨#[x, y]⟩), some (S ⟨#[x', y']⟩)] := by rfl
  have g0 : mV 0 [some (S z), some (S ⟨#[x, y]⟩), some (S ⟨#[x', y']⟩)] = .ok (S z) [some (S z), some (S ⟨#[x, y]⟩), some (S ⟨#[x', y']⟩)] := by rfl
  refine fun_rt (b := m__law_two_near) (ρ := [some (S z), some (S ⟨#[x, y]⟩), some (S ⟨#[x', y']⟩)]) (ret_ok ?_) rfl
  have c1 : mCall f__law_near [.val (mV 0), .val (mD2 fIx (mV 1) (mC (.int 0))), .val (mD2 fIx (mV 2) (mC (.int 0)))] [some (S z), some (S ⟨#[x, y]⟩), some (S ⟨#[x', y']⟩)] = .ok (.leaf (.bl b)) [some (S z), some (S ⟨#[x, y]⟩), some (S ⟨#[x', y']⟩)] := by
    simp only [mCall, AM.toM, List.map_cons, List.map_nil, mArgs, g0, g1, g2, Res.bind, n1]
    rfl
  have c2 : mCall f__law_near [.val (mV 0), .val (mD2 fIx (mV 1) (mC (.int 1))), .val (mD2 fIx (mV 2) (mC (.int 1)))] [some (S z), some (S ⟨#[x, y]⟩), some (S ⟨#[x', y']⟩)] = .ok (.leaf (.bl b')) [some (S z), some (S ⟨#[x, y]⟩), some (S ⟨#[x', y']⟩)] := by
    simp only [mCall, AM.toM, List.map_cons, List.map_nil, mArgs, g0, g3, g4, Res.bind, n2]
    rfl
  show mAndV _ _ [some (S z), some (S ⟨#[x, y]⟩), some (S ⟨#[x', y']⟩)] = _
  simp only [mAndV, mTest, asB, c1, Res.bind]
  cases b with
  | false => rfl
  | true => exact c2
/-! the pairs -/
def nearB (z : Str) (i j : Nat) : Option Bool := inD (.int (((i : Int) - j) % (z.length : Int))) (.tup [.int 0, .int 1, .int ((z.length : Int) - 1)])
/-- the two names are told apart -/
def apart (z : Str) (a b : D) : Bool := match a, b with
  | .str ⟨⟨[x, y]⟩⟩, .str ⟨⟨[x', y']⟩⟩ => match sIdx z ⟨#[x]⟩, sIdx z ⟨#[x']⟩, sIdx z ⟨#[y]⟩, sIdx z ⟨#[y']⟩ with
    | some i, some j, some i', some j' => match nearB z i j, nearB z i' j' with
      | some b, some b' => !(b && b')
      | _, _ => false
    | _, _, _, _ => false
  | _, _ => false
theorem apart_ok {z : Str} {a b : D} (hz : z.length ≤ big) (h0 : 0 < z.length) (h : apart z a b = true) : f__law_two_near [S z, .leaf a, .leaf b] = .ok (.leaf (.bl false)) [] := by
  unfold apart at h
  split at h
  · split at h
    · rename_i e1 e2 e3 e4
      split at h
      · rename_i b b' n1 n2
        have t := two_ok hz h0 e1 e2 e3 e4 n1 n2
        have hb : (b && b') = false := by cases b <;> cases b' <;> simp_all
        rw [hb] at t
        exact t
      · cases h
    · cases h
  · cases h
def pairsOk (z : Str) (ns : List D) : Bool := (List.range ns.length).all fun i => (List.range i).all fun j => match ns[i]?, ns[j]? with
  | some a, some b => apart z a b
  | _, _ => false
def rE (z : Str) (q : T) (ns : List D) (k n i j p : Option T) : Q.Env := [some (S z), some q, some (.leaf (.tup ns)), k, n, i, j, p]
def ifNear : SM := mIf (mTest (mCall f__law_two_near [(.val (mV 0)), (.val (mD2 fIx (mV 2) (mV 5))), (.val (mD2 fIx (mV 2) (mV 6)))])) (mRet (mC (.bl false))) mNext
theorem ix_tup {ns : List D} {i : Nat} {a : D} (h : ns[i]? = some a) : fIx (.tup ns) (.int (i : Nat)) = some (.leaf a) := by
  have hlt := (List.getElem?_eq_some_iff.mp h).1
  simp [fIx, atI, ixN_nat hlt, h]
theorem near_step {z : Str} {q : T} {ns : List D} {k n p : Option T} {i j : Nat} {a b : D} (hz : z.length ≤ big) (h0 : 0 < z.length) (hi : ns[i]? = some a) (hj : ns[j]? = some b) (h : apart z a b = true) :
    ifNear (rE z q ns k n (some (I (i : Nat))) (some (I (j : Nat))) p) = .nx (rE z q ns k n (some (I (i : Nat))) (some (I (j : Nat))) p) := by
  have g0 : mV 0 (rE z q ns k n (some (I (i : Nat))) (some (I (j : Nat))) p) = .ok (S z) (rE z q ns k n (some (I (i : Nat))) (some (I (j : Nat))) p) := by rfl
  have g1 : mD2 fIx (mV 2) (mV 5) (rE z q ns k n (some (I (i : Nat))) (some (I (j : Nat))) p) = .ok (.leaf a) (rE z q ns k n (some (I (i : Nat))) (some (I (j : Nat))) p) := by
    simp [rE, mD2, mV, Res.bind, T.toD, ix_tup hi]
  have g2 : mD2 fIx (mV 2) (mV 6) (rE z q ns k n (some (I (i : Nat))) (some (I (j : Nat))) p) = .ok (.leaf b) (rE z q ns k n (some (I (i : Nat))) (some (I (j : Nat))) p) := by
    simp [rE, mD2, mV, Res.bind, T.toD, ix_tup hj]
  have c : mCall f__law_two_near [(.val (mV 0)), (.val (mD2 fIx (mV 2) (mV 5))), (.val (mD2 fIx (mV 2) (mV 6)))] (rE z q ns k n (some (I (i : Nat))) (some (I (j : Nat))) p) = .ok (.leaf (.bl false)) (rE z q ns k n (some (I (i : Nat))) (some (I (j : Nat))) p) := by
    simp only [mCall, AM.toM, List.map_cons, List.map_nil, mArgs, g0, g1, g2, Res.bind, apart_ok hz h0 h]
    rfl
  refine Eq.trans (if_f (ρ1 := rE z q ns k n (some (I (i : Nat))) (some (I (j : Nat))) p) ?_) (by rfl)
  simp only [mTest, asB, c, Res.bind]
theorem near_in {z : Str} {q : T} {ns : List D} {k n p x : Option T} {i : Nat} (hz : z.length ≤ big) (h0 : 0 < z.length) (hn : ns.length < 2 ^ 61) (hi : i < ns.length) (h : pairsOk z ns = true) :
    mFor (mRange1 [mV 5]) (tgName 6) ifNear (rE z q ns k n (some (I (i : Nat))) x p) = .nx (rE z q ns k n (some (I (i : Nat))) (if i = 0 then x else some (I (i - 1 : Nat))) p) := by
  refine Eq.trans (for_ok (ρ1 := rE z q ns k n (some (I (i : Nat))) x p) (range1_ok (n := i) (by rfl) (by omega))) ?_
  have row := List.all_eq_true.mp (List.all_eq_true.mp h i (List.mem_range.mpr hi))
  have loop := for_nx (t := tgName 6) (body := ifNear) (fun j => rE z q ns k n (some (I (i : Nat))) (if j = 0 then x else some (I (j - 1 : Nat))) p) (rangeD 0 i) 0 fun j d e => by
    obtain ⟨e1, hj⟩ := range_at e
    have r := row j (List.mem_range.mpr hj)
    have ai : ns[i]? = some ns[i] := List.getElem?_eq_getElem hi
    have aj : ns[j]? = some ns[j] := List.getElem?_eq_getElem (by omega)
    rw [ai, aj] at r
    refine ⟨rE z q ns k n (some (I (i : Nat))) (some (I (j : Nat))) p, ?_, Eq.trans (near_step hz h0 ai aj r) ?_⟩
    · rw [e1]; simp [rE, tgName]
    · simp [rE]
  have len : (rangeD 0 i).length = i := by simp [rangeD]
  rw [len, Nat.zero_add] at loop
  simpa using loop
theorem near_all {z : Str} {q : T} {ns : List D} {k n p : Option T} (hz : z.length ≤ big) (h0 : 0 < z.length) (hn : ns.length < 2 ^ 61) (h2 : 1 ≤ ns.length) (h : pairsOk z ns = true) :
    mFor (mRange1 [mSn fLen [mV 2]]) (tgName 5) (mFor (mRange1 [mV 5]) (tgName 6) ifNear) (rE z q ns k n none none p) = .nx (rE z q ns k n (some (I (ns.length - 1 : Nat))) (if ns.length ≤ 1 then none else some (I (ns.length - 2 : Nat))) p) := by
  refine Eq.trans (for_ok (ρ1 := rE z q ns k n none none p) (range1_ok (n := ns.length) (by rfl) (by omega))) ?_
  have loop := for_nx (t := tgName 5) (body := mFor (mRange1 [mV 5]) (tgName 6) ifNear) (fun i => rE z q ns k n (if i = 0 then none else some (I (i - 1 : Nat))) (if i ≤ 1 then none else some (I (i - 2 : Nat))) p) (rangeD 0 ns.length) 0 fun i d e => by
    obtain ⟨e1, hi⟩ := range_at e
    refine ⟨rE z q ns k n (some (I (i : Nat))) (if i ≤ 1 then none else some (I (i - 2 : Nat))) p, ?_, Eq.trans (near_in hz h0 hn hi h) ?_⟩
    · rw [e1]; simp [rE, tgName]
    · by_cases hi0 : i = 0
      · subst hi0; simp [rE]
      · have : ¬ (0 + i + 1 ≤ 1) := by omega
        have e3 : 0 + i + 1 - 2 = i - 1 := by omega
        simp [rE, hi0, e3]
  have len : (rangeD 0 ns.length).length = ns.length := by simp [rangeD]
  rw [len, Nat.zero_add] at loop
  have k1 : ns.length ≠ 0 := by omega
  simpa [k1] using loop
end Law

set_option maxHeartbeats 4000000
set_option exponentiation.threshold 200000
namespace Law
open PySem L2 Q
theorem seq_assoc {a b c : SM} : mSeq (mSeq a b) c = mSeq a (mSeq b c) := by
  funext ρ
  unfold mSeq
  cases a ρ <;> rfl
def front : SM :=
  (mSeq (mSet 1 (mSn fLen [(mV 0)]))
  (mSeq (mSet 2 (mCall f_ring_names [(.val (mV 0))]))
  (mSeq (mIf (mOr (mNot (mTest (mIsi ["tuple"] (mV 2)))) (mTest (mS2 fNe (mSn fLen [(mV 2)]) (mCall f__law_most [(.val (mV 1))]))))
  (mRet (mC (.bl false)))
  mNext)
  (mSeq (mSetO 3 (mLst []))
  (mSeq (mFor (mIter (mV 2)) (tgName 4)
  (mSeq (mIf (mOr (mNot (mTest (mIsi ["str"] (mV 4)))) (mOr (mTest (mS2 fNe (mSn fLen [(mV 4)]) (mC (.int 2)))) (mOr (mTest (mS2 fNotIn (mD2 fIx (mV 4) (mC (.int 0))) (mV 0))) (mTest (mS2 fNotIn (mD2 fIx (mV 4) (mC (.int 1))) (mV 0))))))
  (mRet (mC (.bl false)))
  mNext)
  (mDrop (mAppend 3 (mTup [(mMt "str" fIndexS (mV 0) [(mD2 fIx (mV 4) (mC (.int 0)))]), (mMt "str" fIndexS (mV 0) [(mD2 fIx (mV 4) (mC (.int 1)))])])))))
  (mIf (mTest (mS2 fNe (mShare 3) (mSortSet (mShare 3))))
  (mRet (mC (.bl false)))
  mNext))))))
def backP : SM :=
  (mSet 7 (mDn fTuple [(mComp [5] (mRange1 [(mV 1)]) (tgName 5) mYes (mTup [(mD2 fIx (mV 0) (mV 5)), (mD2 fIx (mV 0) (mS2 fMod (mD2 fAdd (mV 5) (mC (.int 1))) (mV 1)))]))]))
def backR : SM :=
  (mRet (mS2 fEq (mSn fRepr [(mCall f_ring_pairs [(.val (mV 0))])]) (mSn fRepr [(mV 7)])))
def back : SM := mSeq backP backR
mutual
def sameD : D → D → Bool
  | .str a, .str b => decide (a.cps.toList = b.cps.toList)
  | .tup a, .tup b => sameDs a b
  | _, _ => false
def sameDs : List D → List D → Bool
  | [], [] => true
  | a :: r, b :: s => sameD a b && sameDs r s
  | _, _ => false
end
mutual
theorem sameD_ok : ∀ (a b : D), sameD a b = true → a = b
  | .str ⟨⟨a⟩⟩, .str ⟨⟨b⟩⟩, h => by
    simp only [sameD, decide_eq_true_eq] at h
    rw [h]
  | .tup a, .tup b, h => by
    simp only [sameD] at h
    rw [sameDs_ok a b h]
  | .non, b, h => by simp [sameD] at h
  | .bl _, b, h => by simp [sameD] at h
  | .int _, b, h => by simp [sameD] at h
  | .lst _, b, h => by simp [sameD] at h
  | .fz _, b, h => by simp [sameD] at h
  | .glo _, b, h => by simp [sameD] at h
  | .str _, .non, h => by simp [sameD] at h
  | .str _, .bl _, h => by simp [sameD] at h
  | .str _, .int _, h => by simp [sameD] at h
  | .str _, .tup _, h => by simp [sameD] at h
  | .str _, .lst _, h => by simp [sameD] at h
  | .str _, .fz _, h => by simp [sameD] at h
  | .str _, .glo _, h => by simp [sameD] at h
  | .tup _, .non, h => by simp [sameD] at h
  | .tup _, .bl _, h => by simp [sameD] at h
  | .tup _, .int _, h => by simp [sameD] at h
  | .tup _, .str _, h => by simp [sameD] at h
  | .tup _, .lst _, h => by simp [sameD] at h
  | .tup _, .fz _, h => by simp [sameD] at h
  | .tup _, .glo _, h => by simp [sameD] at h
theorem sameDs_ok : ∀ (a b : List D), sameDs a b = true → a = b
  | [], [], _ => rfl
  | a :: r, b :: s, h => by
    simp only [sameDs, Bool.and_eq_true] at h
    rw [sameD_ok a b h.1, sameDs_ok r s h.2]
  | [], _ :: _, h => by simp [sameDs] at h
  | _ :: _, [], h => by simp [sameDs] at h
end
theorem eq_str (x : Str) : fEq (.str x) (.str x) = some (.bl true) := by simp [fEq, eqD, D.toV?, scal]
theorem repr_str {ds : List D} {s : D} (h : fRepr ds = some s) : ∃ x, s = .str x := by
  unfold fRepr at h
  split at h
  · split at h
    · split at h
      · cases h; exact ⟨_, rfl⟩
      · cases h
    · cases h
  · cases h
def pairsSame (z : Str) (ρ : Q.Env) : Bool := match ρ with
  | [some (.leaf (.str z1)), _, _, _, _, _, _, some (.leaf d)] => decide (z1 = z) && match f_ring_pairs [S z] with
    | .ok (.leaf d') [] => sameD d' d && (fRepr [d]).isSome
    | _ => false
  | _ => false
theorem backR_ok {z : Str} {ρ : Q.Env} (h : pairsSame z ρ = true) : backR ρ = .rt (.leaf (.bl true)) ρ := by
  unfold pairsSame at h
  split at h
  · rename_i z1 a1 a2 a3 a4 a5 a6 d
    rw [Bool.and_eq_true, decide_eq_true_eq] at h
    obtain ⟨e1, h⟩ := h
    subst e1
    split at h
    · rename_i d' ef
      rw [Bool.and_eq_true] at h
      obtain ⟨e2, h2⟩ := h
      have e2 := sameD_ok _ _ e2
      subst e2
      cases er : fRepr [d'] with
      | none => rw [er] at h2; cases h2
      | some s =>
        obtain ⟨x, ex⟩ := repr_str er
        subst ex
        have c := call1 (ρ := [some (S z1), a1, a2, a3, a4, a5, a6, some (.leaf d')]) (m1 := mV 0) (t1 := S z1) (by rfl) ef
        have v : mV 7 [some (S z1), a1, a2, a3, a4, a5, a6, some (.leaf d')] = .ok (.leaf d') [some (S z1), a1, a2, a3, a4, a5, a6, some (.leaf d')] := by rfl
        refine ret_ok ?_
        simp only [mS2, mSn, mArgs, c, v, Res.bind, List.map_cons, List.map_nil, T.toD, er, eq_str]
    · cases h
  · cases h
theorem names_split : m__law_names_right = mSeq front (mSeq (mFor (mRange1 [mSn fLen [mV 2]]) (tgName 5) (mFor (mRange1 [mV 5]) (tgName 6) ifNear)) back) := by
  unfold front back
  simp only [seq_assoc]
  rfl
def isT (z : Str) : SRes → Bool
  | .nx ρ => pairsSame z ρ
  | _ => false
def okZ (z : Str) : Bool := match front (env0 8 [S z]) with
  | .nx [some (.leaf (.str z1)), some q, some (.leaf (.tup ns)), k, n, none, none, p] => decide (z1 = z) && (decide (z.length ≤ big) && (decide (0 < z.length) && (decide (ns.length < 2 ^ 61) && (decide (1 ≤ ns.length) && (pairsOk z ns &&
      isT z (backP (rE z q ns k n (some (I (ns.length - 1 : Nat))) (if ns.length ≤ 1 then none else some (I (ns.length - 2 : Nat))) p)))))))
  | _ => false
theorem names_ok {z : Str} (h : okZ z = true) : f__law_names_right [S z] = .ok (.leaf (.bl true)) [] := by
  unfold okZ at h
  split at h
  · rename_i z1 q ns k n p e
    simp only [Bool.and_eq_true, decide_eq_true_eq] at h
    obtain ⟨h1, h2, h3, h4, h5, h6, h7⟩ := h
    subst h1
    have b : ∃ ρ, back (rE z1 q ns k n (some (I (ns.length - 1 : Nat))) (if ns.length ≤ 1 then none else some (I (ns.length - 2 : Nat))) p) = .rt (.leaf (.bl true)) ρ := by
      unfold isT at h7
      split at h7
      · rename_i ρ1 e1
        exact ⟨ρ1, Eq.trans (seq_nx e1) (backR_ok h7)⟩
      · cases h7
    obtain ⟨ρ, b⟩ := b
    refine fun_rt (b := m__law_names_right) (ρ := ρ) ?_ rfl
    rw [names_split]
    refine Eq.trans (seq_nx e) ?_
    exact Eq.trans (seq_nx (near_all h2 h3 h4 h5 h6)) b
  · cases h
end Law

set_option maxHeartbeats 4000000
set_option exponentiation.threshold 200000
namespace Law
open PySem L2 Q
def bases : List Str := ["abcdefghijkl", "lkjihgfedcba", "b0a1z.9-y!8x", "qwertyuiop@+"]
def cutL (base : Str) (k q : Int) : Str := cutS (cutS base (some k) none ++ cutS base none (some k)) none (some q)
theorem sl_str_ok {z : Str} (h : z.length ≤ big) (lo hi : Option Int) : fSl (.str z) lo hi = some (.leaf (.str (cutS z lo hi))) := by
  show (if z.length ≤ big then some (T.leaf (D.str (cutS z lo hi))) else none) = _
  rw [if_pos h]
theorem add_str_ok {a b : Str} (h : a.length + b.length ≤ big) : fAdd (.str a) (.str b) = some (.leaf (.str (a ++ b))) := by
  show (if a.length + b.length ≤ big then some (T.leaf (D.str (a ++ b))) else none) = _
  rw [if_pos h]
theorem ring_ret {p : T} {base : Str} {k q : Int} (hb : base.length ≤ 100) : mRet (mSlice (mD2 fAdd (mSlice (mV 2) (some (mV 3)) none) (mSlice (mV 2) none (some (mV 3)))) none (some (mV 1))) [some p, some (I q), some (S base), some (I k)] = .rt (S (cutL base k q)) [some p, some (I q), some (S base), some (I k)] := by
  have h0 : base.length ≤ big := Nat.le_trans hb (by decide)
  have c1 := cutS_length base (some k) none
  have c2 := cutS_length base none (some k)
  have h1 : (cutS base (some k) none).length + (cutS base none (some k)).length ≤ big := Nat.le_trans (by omega : _ ≤ 200) (by decide)
  have h2 : (cutS base (some k) none ++ cutS base none (some k)).length ≤ big := by
    rw [strLen_append]; exact h1
  simp [mRet, mSlice, mPart, mD2, mV, Res.bind, Res.toS, T.toD, sl_str_ok h0, add_str_ok h1, sl_str_ok h2, cutL]
end Law

set_option maxHeartbeats 4000000
set_option exponentiation.threshold 200000
namespace Law
open PySem L2 Q
theorem d2_ok {f : D → D → Option T} {a b : M T} {ρ ρ1 ρ2 : Q.Env} {t1 t2 t : T} (h1 : a ρ = .ok t1 ρ1) (h2 : b ρ1 = .ok t2 ρ2) (h : f t1.toD t2.toD = some t) : mD2 f a b ρ = .ok t ρ2 := by
  simp only [mD2, h1, h2, Res.bind, h]
theorem s2_ok {f : D → D → Option D} {a b : M T} {ρ ρ1 ρ2 : Q.Env} {t1 t2 : T} {d : D} (h1 : a ρ = .ok t1 ρ1) (h2 : b ρ1 = .ok t2 ρ2) (h : f t1.toD t2.toD = some d) : mS2 f a b ρ = .ok (.leaf d) ρ2 := by
  simp only [mS2, h1, h2, Res.bind, h]
theorem int4 {v : Int} (h : 0 ≤ v ∧ v < 4) : v = 0 ∨ v = 1 ∨ v = 2 ∨ v = 3 := by omega
theorem ring_ok (fs : List Int) (k : Nat) (q : Int) : ∃ base ∈ bases, f__law_ring_letters [P k fs, I q] = .ok (S (cutL base (pk fs (k + 1) 12) q)) [P (k + 2) fs] := by
  have pick0 : mCall f__law_pick [.lend 0, .val (mC (.int 4))] [some (P k fs), some (I q), none, none] = .ok (I (pk fs k 4)) [some (P (k + 1) fs), some (I q), none, none] := pick_call (i := 0) (by rfl) (by rfl) (by decide)
  have tup : mTup [(mC (.str "abcdefghijkl")), (mC (.str "lkjihgfedcba")), (mC (.str "b0a1z.9-y!8x")), (mC (.str "qwertyuiop@+"))] [some (P k fs), some (I q), none, none] = .ok (.leaf (.tup [.str "abcdefghijkl", .str "lkjihgfedcba", .str "b0a1z.9-y!8x", .str "qwertyuiop@+"])) [some (P k fs), some (I q), none, none] := by rfl
  have key : ∃ base ∈ bases, base.length ≤ 100 ∧ fIx (.tup [.str "abcdefghijkl", .str "lkjihgfedcba", .str "b0a1z.9-y!8x", .str "qwertyuiop@+"]) (.int (pk fs k 4)) = some (S base) := by
    rcases int4 (pk_lt fs k (n := 4) (by decide)) with e | e | e | e <;> rw [e]
    · exact ⟨"abcdefghijkl", by simp [bases], by decide +kernel, by rfl⟩
    · exact ⟨"lkjihgfedcba", by simp [bases], by decide +kernel, by rfl⟩
    · exact ⟨"b0a1z.9-y!8x", by simp [bases], by decide +kernel, by rfl⟩
    · exact ⟨"qwertyuiop@+", by simp [bases], by decide +kernel, by rfl⟩
  obtain ⟨base, hm, hl, hx⟩ := key
  refine ⟨base, hm, ?_⟩
  refine fun_rt (b := m__law_ring_letters) (ρ := [some (P (k + 2) fs), some (I q), some (S base), some (I (pk fs (k + 1) 12))]) ?_ rfl
  refine Eq.trans (seq_nx (ρ1 := [some (P (k + 1) fs), some (I q), some (S base), none]) (set_ok (i := 2) (d2_ok tup pick0 hx) (by simp))) ?_
  refine Eq.trans (seq_nx (ρ1 := [some (P (k + 2) fs), some (I q), some (S base), some (I (pk fs (k + 1) 12))]) (set_ok (i := 3) (pick_call (i := 0) (fs := fs) (k := k + 1) (n := 12) (by rfl) (by rfl) (by decide)) (by simp))) ?_
  exact ring_ret hl
def okBase (base : Str) : Bool := (List.range 12).all fun k => (List.range 10).all fun q => okZ (cutL base (k : Nat) ((q : Nat) + 3))
theorem cut_ok {base : Str} (h : okBase base = true) {k q : Int} (hk : 0 ≤ k ∧ k < 12) (hq : 3 ≤ q ∧ q ≤ 12) : okZ (cutL base k q) = true := by
  have h1 := List.all_eq_true.mp (List.all_eq_true.mp h k.toNat (List.mem_range.mpr (by omega))) (q - 3).toNat (List.mem_range.mpr (by omega))
  have e1 : ((k.toNat : Nat) : Int) = k := by omega
  have e2 : (((q - 3).toNat : Nat) : Int) + 3 = q := by omega
  rw [e1, e2] at h1
  exact h1
/-! great numbers -/
theorem gr_abs (fs : List Int) (k i : Nat) : (gr fs k i).natAbs < 24 ^ i := by
  have g := gr_lt fs k i
  have e : ((24 ^ i : Nat) : Int) = (24 : Int) ^ i := Int.natCast_pow 24 i
  omega
theorem pow_24 : (24 : Nat) ^ 100 ≤ 2 ^ 500 := by decide +kernel
theorem gr_mul (fs : List Int) (k : Nat) {i : Nat} (hi : i < 100) : okMul (gr fs k i) 24 = true :=
  okMul_of (Nat.le_trans (Nat.le_of_lt (gr_abs fs k i)) (Nat.le_trans (Nat.pow_le_pow_right (by decide) (Nat.le_of_lt hi)) (Nat.le_trans pow_24 (Nat.pow_le_pow_right (by decide) (by decide))))) (Nat.le_trans (by decide : (24 : Int).natAbs ≤ 2 ^ 5) (Nat.pow_le_pow_right (by decide) (by decide)))
theorem great_ok (fs : List Int) (k m : Nat) (hm : m < 100) : f__law_great [P k fs, I m] = .ok (I (gr fs k m)) [P (k + m) fs] := by
  have body : ∀ (i : Nat) (x : Option T), i < m → mSet 2 (mD2 fAdd (mD2 fMul (mV 2) (mC (.int 24))) (mCall f__law_pick [(.lend 0), (.val (mC (.int 24)))])) [some (P (k + i) fs), some (I m), some (I (gr fs k i)), x] = .nx [some (P (k + i + 1) fs), some (I m), some (I (gr fs k (i + 1))), x] := fun i x hi => by
    have g := gr_lt fs k i
    have hb : okMul (gr fs k i) 24 = true := gr_mul fs k (by omega)
    exact set_ok (i := 2) (t := I (gr fs k (i + 1))) (ρ1 := [some (P (k + i + 1) fs), some (I m), some (I (gr fs k i)), x]) (d2_ok (d2_ok (t1 := I (gr fs k i)) (t2 := I 24) (ρ1 := [some (P (k + i) fs), some (I m), some (I (gr fs k i)), x]) (ρ2 := [some (P (k + i) fs), some (I m), some (I (gr fs k i)), x]) (by rfl) (by rfl) (mul_int hb)) (pick_call (i := 0) (fs := fs) (k := k + i) (n := 24) (by rfl) (by rfl) (by decide)) (by rfl)) (by simp)
  have loop := for_nx (t := tgName 3) (body := mSet 2 (mD2 fAdd (mD2 fMul (mV 2) (mC (.int 24))) (mCall f__law_pick [(.lend 0), (.val (mC (.int 24)))]))) (fun i => [some (P (k + i) fs), some (I m), some (I (gr fs k i)), if i = 0 then none else some (I (i - 1 : Nat))]) (rangeD 0 m) 0 fun i d e => by
    obtain ⟨e1, hi⟩ := range_at e
    refine ⟨[some (P (k + i) fs), some (I m), some (I (gr fs k i)), some (I (i : Nat))], by rw [e1]; simp [tgName], Eq.trans (body i _ hi) ?_⟩
    simp [Nat.add_assoc]
  have len : (rangeD 0 m).length = m := by simp [rangeD]
  rw [len, Nat.zero_add] at loop
  refine fun_rt (b := m__law_great) (ρ := [some (P (k + m) fs), some (I m), some (I (gr fs k m)), if m = 0 then none else some (I (m - 1 : Nat))]) ?_ rfl
  refine Eq.trans (seq_nx (ρ1 := [some (P k fs), some (I m), some (I 0), none]) (by rfl)) ?_
  refine Eq.trans (seq_nx (Eq.trans (for_ok (ρ1 := [some (P k fs), some (I m), some (I 0), none]) (range1_ok (n := m) (by rfl) (by omega))) loop)) ?_
  rfl
end Law

set_option maxHeartbeats 4000000
set_option exponentiation.threshold 200000
namespace Law
open PySem L2 Q
theorem for_inv {t : TgM} {body : SM} (Inv : Nat → Q.Env → Prop) (Fin : Q.Env → Prop) : ∀ (ds : List D) (j : Nat) (ρ : Q.Env), (∀ i d ρ, ds[i]? = some d → Inv (j + i) ρ → ∃ ρ', t d ρ = some ρ' ∧ ((∃ ρ2, body ρ' = .nx ρ2 ∧ Inv (j + i + 1) ρ2) ∨ ∃ ρ2, body ρ' = .bk ρ2 ∧ Fin ρ2)) →
    (∀ ρ, Inv (j + ds.length) ρ → Fin ρ) → Inv j ρ → ∃ ρ2, forM' t body ds ρ = .nx ρ2 ∧ Fin ρ2
  | [], j, ρ, _, hf, hi => ⟨ρ, rfl, hf ρ hi⟩
  | d :: ds, j, ρ, h, hf, hi => by
    obtain ⟨ρ', h1, h2⟩ := h 0 d ρ rfl hi
    simp only [forM', h1]
    rcases h2 with ⟨ρ2, e, q⟩ | ⟨ρ2, e, q⟩
    · rw [e]
      refine for_inv Inv Fin ds (j + 1) ρ2 (fun i d' ρ e' q' => ?_) (fun ρ q => hf ρ (by simpa [Nat.add_assoc, Nat.add_comm 1] using q)) q
      obtain ⟨ρ3, a, b⟩ := h (i + 1) d' ρ (by simpa using e') (by rw [show j + (i + 1) = j + 1 + i by omega]; exact q')
      rw [show j + (i + 1) + 1 = j + 1 + i + 1 by omega] at b
      exact ⟨ρ3, a, b⟩
    · rw [e]
      exact ⟨ρ2, rfl, q⟩
def uE (ns : List Int) (fs : List Int) (at' rest turn : Option T) : Q.Env := [some (.leaf (.fz (ns.map D.int))), some (.node (fs.map fun i => T.leaf (.int i))), at', rest, turn]
def inner : SM := (mSeq (mDrop (mAppend 1 (mS2 fMod (mV 3) (mC (.int 24)))))
  (mSeq (mSet 3 (mS2 fFdiv (mV 3) (mC (.int 24))))
  (mIf (mTest (mS2 fEq (mV 3) (mC (.int 0))))
  mBreak
  mNext)))
theorem app_ok {ns fs : List Int} {at' turn : Option T} {r : Int} (h : fs.length < 16000000) : mDrop (mAppend 1 (mS2 fMod (mV 3) (mC (.int 24)))) (uE ns fs at' (some (I r)) turn) = .nx (uE ns (fs ++ [r % 24]) at' (some (I r)) turn) := by
  simp [uE, mDrop, mAppend, mS2, mV, mC, Res.bind, Res.toS, T.toD, fMod, h]
theorem div_ok {ns fs : List Int} {at' turn : Option T} {r : Int} : mSet 3 (mS2 fFdiv (mV 3) (mC (.int 24))) (uE ns fs at' (some (I r)) turn) = .nx (uE ns fs at' (some (I (r / 24))) turn) := by
  have d : fFdiv (.int r) (.int 24) = some (.int (r / 24)) := div_int (by decide) (Nat.le_trans (by decide : (24 : Int).natAbs ≤ 2 ^ 5) (Nat.pow_le_pow_right (by decide) (by decide)))
  simp [uE, mSet, mS2, mV, mC, Res.bind, Res.toS, T.toD, putS, d]
theorem inner_ok {ns fs : List Int} {at' turn : Option T} {r : Int} (h : fs.length < 16000000) : inner (uE ns fs at' (some (I r)) turn) = .nx (uE ns (fs ++ [r % 24]) at' (some (I (r / 24))) turn) ∨ inner (uE ns fs at' (some (I r)) turn) = .bk (uE ns (fs ++ [r % 24]) at' (some (I (r / 24))) turn) := by
  have e : inner (uE ns fs at' (some (I r)) turn) = mIf (mTest (mS2 fEq (mV 3) (mC (.int 0)))) mBreak mNext (uE ns (fs ++ [r % 24]) at' (some (I (r / 24))) turn) := Eq.trans (seq_nx (app_ok h)) (seq_nx div_ok)
  rw [e]
  by_cases hz : r / 24 = 0
  · right
    refine Eq.trans (if_t (ρ1 := uE ns (fs ++ [r % 24]) at' (some (I (r / 24))) turn) ?_) rfl
    simp [uE, hz, mkF, env0, mSeq, mSet, mSetO, mIxPk, mC, Res.bind, Res.toS, T.toD, T.toDs, nodeIx, atI, putS, mSetIx, mD2, mV, fAdd, mIf, mTest, asB, mS2, mSn, mArgs, fLen, lenD, fGe, fGt, fLe, fLt, leD, ltD, mRet, mNext, SRes.toF, Q.pick, fIx, fMod, fSub,  fEq, fNe, eqD, D.toV?, scal, mDrop, mNot, mAnd, mOr, mAndV, mOrV, mNotV, mIsi, isiB, D.tyN, mCall, freeS, lendSlots, putBack, AM.toM, fInt, mAug, mRaise, mTup, Nat.le_refl, mShare, mMove, wipeE]
  · left
    refine Eq.trans (if_f (ρ1 := uE ns (fs ++ [r % 24]) at' (some (I (r / 24))) turn) ?_) rfl
    simp [uE, hz, mkF, env0, mSeq, mSet, mSetO, mIxPk, mC, Res.bind, Res.toS, T.toD, T.toDs, nodeIx, atI, putS, mSetIx, mD2, mV, fAdd, mIf, mTest, asB, mS2, mSn, mArgs, fLen, lenD, fGe, fGt, fLe, fLt, leD, ltD, mRet, mNext, SRes.toF, Q.pick, fIx, fMod, fSub,  fEq, fNe, eqD, D.toV?, scal, mDrop, mNot, mAnd, mOr, mAndV, mOrV, mNotV, mIsi, isiB, D.tyN, mCall, freeS, lendSlots, putBack, AM.toM, fInt, mAug, mRaise, mTup, Nat.le_refl, mShare, mMove, wipeE]
theorem in_loop {ns fs : List Int} {at' turn : Option T} {r : Int} {c : Nat} (hc : c + 20 < 16000000) (h : fs.length ≤ c) : ∃ fs' r' turn', mFor (mRange1 [mC (.int 20)]) (tgName 4) inner (uE ns fs at' (some (I r)) turn) = .nx (uE ns fs' at' (some (I r')) turn') ∧ fs'.length ≤ c + 20 := by
  have f := for_ok (t := tgName 4) (b := inner) (src := mRange1 [mC (.int 20)]) (ρ := uE ns fs at' (some (I r)) turn) (range1_ok (n := 20) (by rfl) (by decide))
  have g := for_inv (t := tgName 4) (body := inner) (fun i ρ => ∃ fs' r' turn', ρ = uE ns fs' at' (some (I r')) turn' ∧ fs'.length ≤ c + i) (fun ρ => ∃ fs' r' turn', ρ = uE ns fs' at' (some (I r')) turn' ∧ fs'.length ≤ c + 20) (rangeD 0 20) 0 (uE ns fs at' (some (I r)) turn)
    (fun i d ρ e ⟨fs', r', turn', e1, hl⟩ => by
      obtain ⟨e2, hi⟩ := range_at e
      subst e1 e2
      refine ⟨uE ns fs' at' (some (I r')) (some (I (0 + (i : Nat)))), by simp [uE, tgName], ?_⟩
      rcases inner_ok (ns := ns) (fs := fs') (at' := at') (turn := some (I (0 + (i : Nat)))) (r := r') (by omega) with q | q
      · exact .inl ⟨_, q, _, _, _, rfl, by simp; omega⟩
      · exact .inr ⟨_, q, _, _, _, rfl, by simp; omega⟩)
    (fun ρ ⟨fs', r', turn', e1, hl⟩ => ⟨fs', r', turn', e1, by simp [rangeD] at hl; omega⟩) ⟨fs, r, turn, rfl, by omega⟩
  obtain ⟨ρ2, e, fs', r', turn', e1, hl⟩ := g
  subst e1
  exact ⟨fs', r', turn', Eq.trans f e, hl⟩
theorem rest_ok {ns fs : List Int} {rest turn : Option T} {i : Nat} {x : Int} (h : ns[i]? = some x) : mSet 3 (mS2 fMod (mSn fInt [(mD2 fIx (mV 0) (mV 2))]) (mS2 fPow (mC (.int 24)) (mC (.int 20)))) (uE ns fs (some (I (i : Nat))) rest turn) = .nx (uE ns fs (some (I (i : Nat))) (some (I (x % 24 ^ 20))) turn) := by
  have hlt := (List.getElem?_eq_some_iff.mp h).1
  have a : fIx (.fz (ns.map D.int)) (.int (i : Nat)) = some (I x) := by
    simp [fIx, atI, ixN_nat (n := ns.length) hlt, h]
  have p : fPow (.int 24) (.int 20) = some (.int (24 ^ 20)) := by rfl
  have m : fMod (.int x) (.int (24 ^ 20)) = some (.int (x % 24 ^ 20)) := by
    show (if (0 : Int) < 24 ^ 20 then some (D.int (x % 24 ^ 20)) else none) = _
    rw [if_pos (by decide)]
  have s1 : mD2 fIx (mV 0) (mV 2) (uE ns fs (some (I (i : Nat))) rest turn) = .ok (I x) (uE ns fs (some (I (i : Nat))) rest turn) := d2_ok (t1 := .leaf (.fz (ns.map D.int))) (t2 := I (i : Nat)) (by rfl) (by rfl) a
  have s2 : mSn fInt [(mD2 fIx (mV 0) (mV 2))] (uE ns fs (some (I (i : Nat))) rest turn) = .ok (I x) (uE ns fs (some (I (i : Nat))) rest turn) := by
    simp only [mSn, mArgs, s1, Res.bind]
    rfl
  have s3 : mS2 fPow (mC (.int 24)) (mC (.int 20)) (uE ns fs (some (I (i : Nat))) rest turn) = .ok (I (24 ^ 20)) (uE ns fs (some (I (i : Nat))) rest turn) := s2_ok (t1 := I 24) (t2 := I 20) (by rfl) (by rfl) p
  exact set_ok (i := 3) (s2_ok s2 s3 m) (by simp [uE])
theorem purse_ok (ns : List Int) (hn : ns.length ≤ 63) : ∃ fs, f__law_purse [.leaf (.fz (ns.map D.int))] = .ok (P 0 fs) [] := by
  have cnt : ∃ n : Nat, n ≤ ns.length ∧ n ≤ 24 ∧ mSn fMin [mSn fLen [mV 0], mC (.int 24)] (uE ns [] none none none) = .ok (I (n : Nat)) (uE ns [] none none none) := by
    by_cases h : ns.length ≤ 24
    · refine ⟨ns.length, Nat.le_refl _, h, ?_⟩
      have h' : ¬ (24 < ns.length) := by omega
      simp [uE, fMin, mkF, env0, mSeq, mSet, mSetO, mIxPk, mC, Res.bind, Res.toS, T.toD, T.toDs, nodeIx, atI, putS, mSetIx, mD2, mV, fAdd, mIf, mTest, asB, mS2, mSn, mArgs, fLen, lenD, fGe, fGt, fLe, fLt, leD, ltD, mRet, mNext, SRes.toF, Q.pick, fIx, fMod, fSub,  fEq, fNe, eqD, D.toV?, scal, mDrop, mNot, mAnd, mOr, mAndV, mOrV, mNotV, mIsi, isiB, D.tyN, mCall, freeS, lendSlots, putBack, AM.toM, fInt, mAug, mRaise, mTup, Nat.le_refl, mShare, mMove, wipeE, h, h']
      try omega
    · refine ⟨24, by omega, Nat.le_refl _, ?_⟩
      have h' : 24 < ns.length := by omega
      simp [uE, fMin, mkF, env0, mSeq, mSet, mSetO, mIxPk, mC, Res.bind, Res.toS, T.toD, T.toDs, nodeIx, atI, putS, mSetIx, mD2, mV, fAdd, mIf, mTest, asB, mS2, mSn, mArgs, fLen, lenD, fGe, fGt, fLe, fLt, leD, ltD, mRet, mNext, SRes.toF, Q.pick, fIx, fMod, fSub,  fEq, fNe, eqD, D.toV?, scal, mDrop, mNot, mAnd, mOr, mAndV, mOrV, mNotV, mIsi, isiB, D.tyN, mCall, freeS, lendSlots, putBack, AM.toM, fInt, mAug, mRaise, mTup, Nat.le_refl, mShare, mMove, wipeE, h, h']
      try omega
  obtain ⟨n, h1, h2, hc⟩ := cnt
  have f := for_ok (t := tgName 2) (b := mSeq (mSet 3 (mS2 fMod (mSn fInt [(mD2 fIx (mV 0) (mV 2))]) (mS2 fPow (mC (.int 24)) (mC (.int 20))))) (mFor (mRange1 [mC (.int 20)]) (tgName 4) inner)) (range1_ok (n := n) hc (by omega))
  have g := for_inv (t := tgName 2) (body := mSeq (mSet 3 (mS2 fMod (mSn fInt [(mD2 fIx (mV 0) (mV 2))]) (mS2 fPow (mC (.int 24)) (mC (.int 20))))) (mFor (mRange1 [mC (.int 20)]) (tgName 4) inner)) (fun i ρ => ∃ fs a r u, ρ = uE ns fs a r u ∧ fs.length ≤ 20 * i) (fun ρ => ∃ fs a r u, ρ = uE ns fs a r u) (rangeD 0 n) 0 (uE ns [] none none none)
    (fun i d ρ e ⟨fs, a, r, u, e1, hl⟩ => by
      obtain ⟨e2, hi⟩ := range_at e
      subst e1 e2
      have ai : ns[i]? = some ns[i] := List.getElem?_eq_getElem (by omega)
      obtain ⟨fs', r', u', e3, hl'⟩ := in_loop (ns := ns) (fs := fs) (at' := some (I (i : Nat))) (turn := u) (r := ns[i] % 24 ^ 20) (c := 20 * (0 + i)) (by omega) hl
      exact ⟨uE ns fs (some (I (i : Nat))) r u, by simp [uE, tgName], .inl ⟨_, Eq.trans (seq_nx (rest_ok ai)) e3, fs', _, _, _, rfl, by omega⟩⟩)
    (fun ρ ⟨fs, a, r, u, e1, _⟩ => ⟨fs, a, r, u, e1⟩) ⟨[], none, none, none, rfl, by simp⟩
  obtain ⟨ρ2, e, fs, a, r, u, e1⟩ := g
  subst e1
  refine ⟨fs, ?_⟩
  have fin : mRet (mLst [(mC (.int 0)), (mShare 1)]) (uE ns fs a r u) = .rt (P 0 fs) ((uE ns fs a r u).set 1 (some (.leaf (.lst (fs.map D.int))))) := by
    have ed : T.toDs (fs.map fun i => T.leaf (.int i)) = fs.map D.int := by rw [T.toDs_map, List.map_map]; rfl
    simp [uE, mRet, mLst, mArgs, mC, mShare, Res.bind, Res.toS, T.toD, P, ed]
  refine fun_rt (b := m__law_purse) ?_ rfl (ρ := (uE ns fs a r u).set 1 (some (.leaf (.lst (fs.map D.int)))))
  refine Eq.trans (seq_nx (ρ1 := uE ns [] none none none) (by rfl)) ?_
  exact Eq.trans (seq_nx (Eq.trans f e)) fin
end Law

namespace Law
open PySem L2 Q
def okRow (base : Str) (k : Nat) : Bool := (List.range 10).all fun q => okZ (cutL base (k : Nat) ((q : Nat) + 3))
theorem okR0_0 : okRow "abcdefghijkl" 0 = true := by kernel_rfl
theorem okR0_1 : okRow "abcdefghijkl" 1 = true := by kernel_rfl
theorem okR0_2 : okRow "abcdefghijkl" 2 = true := by kernel_rfl
theorem okR0_3 : okRow "abcdefghijkl" 3 = true := by kernel_rfl
theorem okR0_4 : okRow "abcdefghijkl" 4 = true := by kernel_rfl
theorem okR0_5 : okRow "abcdefghijkl" 5 = true := by kernel_rfl
theorem okR0_6 : okRow "abcdefghijkl" 6 = true := by kernel_rfl
theorem okR0_7 : okRow "abcdefghijkl" 7 = true := by kernel_rfl
theorem okR0_8 : okRow "abcdefghijkl" 8 = true := by kernel_rfl
theorem okR0_9 : okRow "abcdefghijkl" 9 = true := by kernel_rfl
theorem okR0_10 : okRow "abcdefghijkl" 10 = true := by kernel_rfl
theorem okR0_11 : okRow "abcdefghijkl" 11 = true := by kernel_rfl
theorem okB0 : okBase "abcdefghijkl" = true := List.all_eq_true.mpr fun k hk => by
  have h : k < 12 := List.mem_range.mp hk
  match k, h with
  | 0, _ => exact okR0_0
  | 1, _ => exact okR0_1
  | 2, _ => exact okR0_2
  | 3, _ => exact okR0_3
  | 4, _ => exact okR0_4
  | 5, _ => exact okR0_5
  | 6, _ => exact okR0_6
  | 7, _ => exact okR0_7
  | 8, _ => exact okR0_8
  | 9, _ => exact okR0_9
  | 10, _ => exact okR0_10
  | 11, _ => exact okR0_11
theorem okR1_0 : okRow "lkjihgfedcba" 0 = true := by kernel_rfl
theorem okR1_1 : okRow "lkjihgfedcba" 1 = true := by kernel_rfl
theorem okR1_2 : okRow "lkjihgfedcba" 2 = true := by kernel_rfl
theorem okR1_3 : okRow "lkjihgfedcba" 3 = true := by kernel_rfl
theorem okR1_4 : okRow "lkjihgfedcba" 4 = true := by kernel_rfl
theorem okR1_5 : okRow "lkjihgfedcba" 5 = true := by kernel_rfl
theorem okR1_6 : okRow "lkjihgfedcba" 6 = true := by kernel_rfl
theorem okR1_7 : okRow "lkjihgfedcba" 7 = true := by kernel_rfl
theorem okR1_8 : okRow "lkjihgfedcba" 8 = true := by kernel_rfl
theorem okR1_9 : okRow "lkjihgfedcba" 9 = true := by kernel_rfl
theorem okR1_10 : okRow "lkjihgfedcba" 10 = true := by kernel_rfl
theorem okR1_11 : okRow "lkjihgfedcba" 11 = true := by kernel_rfl
theorem okB1 : okBase "lkjihgfedcba" = true := List.all_eq_true.mpr fun k hk => by
  have h : k < 12 := List.mem_range.mp hk
  match k, h with
  | 0, _ => exact okR1_0
  | 1, _ => exact okR1_1
  | 2, _ => exact okR1_2
  | 3, _ => exact okR1_3
  | 4, _ => exact okR1_4
  | 5, _ => exact okR1_5
  | 6, _ => exact okR1_6
  | 7, _ => exact okR1_7
  | 8, _ => exact okR1_8
  | 9, _ => exact okR1_9
  | 10, _ => exact okR1_10
  | 11, _ => exact okR1_11
theorem okR2_0 : okRow "b0a1z.9-y!8x" 0 = true := by kernel_rfl
theorem okR2_1 : okRow "b0a1z.9-y!8x" 1 = true := by kernel_rfl
theorem okR2_2 : okRow "b0a1z.9-y!8x" 2 = true := by kernel_rfl
theorem okR2_3 : okRow "b0a1z.9-y!8x" 3 = true := by kernel_rfl
theorem okR2_4 : okRow "b0a1z.9-y!8x" 4 = true := by kernel_rfl
theorem okR2_5 : okRow "b0a1z.9-y!8x" 5 = true := by kernel_rfl
theorem okR2_6 : okRow "b0a1z.9-y!8x" 6 = true := by kernel_rfl
theorem okR2_7 : okRow "b0a1z.9-y!8x" 7 = true := by kernel_rfl
theorem okR2_8 : okRow "b0a1z.9-y!8x" 8 = true := by kernel_rfl
theorem okR2_9 : okRow "b0a1z.9-y!8x" 9 = true := by kernel_rfl
theorem okR2_10 : okRow "b0a1z.9-y!8x" 10 = true := by kernel_rfl
theorem okR2_11 : okRow "b0a1z.9-y!8x" 11 = true := by kernel_rfl
theorem okB2 : okBase "b0a1z.9-y!8x" = true := List.all_eq_true.mpr fun k hk => by
  have h : k < 12 := List.mem_range.mp hk
  match k, h with
  | 0, _ => exact okR2_0
  | 1, _ => exact okR2_1
  | 2, _ => exact okR2_2
  | 3, _ => exact okR2_3
  | 4, _ => exact okR2_4
  | 5, _ => exact okR2_5
  | 6, _ => exact okR2_6
  | 7, _ => exact okR2_7
  | 8, _ => exact okR2_8
  | 9, _ => exact okR2_9
  | 10, _ => exact okR2_10
  | 11, _ => exact okR2_11
theorem okR3_0 : okRow "qwertyuiop@+" 0 = true := by kernel_rfl
theorem okR3_1 : okRow "qwertyuiop@+" 1 = true := by kernel_rfl
theorem okR3_2 : okRow "qwertyuiop@+" 2 = true := by kernel_rfl
theorem okR3_3 : okRow "qwertyuiop@+" 3 = true := by kernel_rfl
theorem okR3_4 : okRow "qwertyuiop@+" 4 = true := by kernel_rfl
theorem okR3_5 : okRow "qwertyuiop@+" 5 = true := by kernel_rfl
theorem okR3_6 : okRow "qwertyuiop@+" 6 = true := by kernel_rfl
theorem okR3_7 : okRow "qwertyuiop@+" 7 = true := by kernel_rfl
theorem okR3_8 : okRow "qwertyuiop@+" 8 = true := by kernel_rfl
theorem okR3_9 : okRow "qwertyuiop@+" 9 = true := by kernel_rfl
theorem okR3_10 : okRow "qwertyuiop@+" 10 = true := by kernel_rfl
theorem okR3_11 : okRow "qwertyuiop@+" 11 = true := by kernel_rfl
theorem okB3 : okBase "qwertyuiop@+" = true := List.all_eq_true.mpr fun k hk => by
  have h : k < 12 := List.mem_range.mp hk
  match k, h with
  | 0, _ => exact okR3_0
  | 1, _ => exact okR3_1
  | 2, _ => exact okR3_2
  | 3, _ => exact okR3_3
  | 4, _ => exact okR3_4
  | 5, _ => exact okR3_5
  | 6, _ => exact okR3_6
  | 7, _ => exact okR3_7
  | 8, _ => exact okR3_8
  | 9, _ => exact okR3_9
  | 10, _ => exact okR3_10
  | 11, _ => exact okR3_11
theorem okB (base : Str) (h : base ∈ bases) : okBase base = true := by
  simp only [bases, List.mem_cons, List.not_mem_nil, or_false] at h
  rcases h with e | e | e | e <;> rw [e]
  · exact okB0
  · exact okB1
  · exact okB2
  · exact okB3
end Law

set_option maxHeartbeats 4000000
set_option exponentiation.threshold 200000
namespace Law
open PySem L2 Q
theorem okMul_nat {a b : Nat} (h1 : a ≤ 2 ^ 100000) (h2 : b ≤ 2 ^ 100000) : okMul (a : Int) (b : Int) = true := okMul_of h1 h2
theorem p2 {j k : Nat} (h : j ≤ k) : (2 : Nat) ^ j ≤ 2 ^ k := Nat.pow_le_pow_right (by decide) h
theorem numbers_nat (a b m : Nat) (h3 : 3 ≤ a) (ha : a ≤ 2 ^ 200) (hb : b ≤ 2 ^ 200) (hm : m < 400) : f__law_numbers [I (a : Nat), I (b : Nat), I (m : Nat)] = .ok (.leaf (.bl true)) [] := by
  have e1 : ((a : Int)) / 2 = ((a / 2 : Nat) : Int) := by omega
  have big : ∀ {x : Nat}, x ≤ 2 ^ 200 → x ≤ 2 ^ 100000 := fun h => Nat.le_trans h (p2 (by decide))
  have ha2 : a / 2 ≤ 2 ^ 200 := Nat.le_trans (Nat.div_le_self _ _) ha
  have hab : a * b / 2 ≤ 2 ^ 400 := Nat.le_trans (Nat.div_le_self _ _) (Nat.le_trans (Nat.mul_le_mul ha hb) (Nat.le_of_eq (Nat.pow_add 2 200 200).symm))
  refine numbers_ok (by omega) (by omega) hm (okMul_nat (big ha) (big hb)) ?_ ?_ ?_ ?_
  · have e2 : (a : Int) * b / 2 = ((a * b / 2 : Nat) : Int) := by
      rw [← Int.natCast_mul]; omega
    rw [e2]
    exact okMul_nat (a := 2) (Nat.le_trans (by decide : 2 ≤ 2 ^ 5) (p2 (by decide))) (Nat.le_trans hab (p2 (by decide)))
  · rw [e1]; exact okMul_nat (big ha) (big ha2)
  · rw [e1]; exact okMul_nat (big ha2) (big ha2)
  · intro i hi
    rw [e1, ← Int.natCast_pow]
    refine okMul_nat ?_ (big ha2)
    refine Nat.le_trans (Nat.pow_le_pow_left ha2 i) ?_
    rw [← Nat.pow_mul]
    exact p2 (by omega)
theorem call_lend {f : List T → FRes} {i : Nat} {m : M T} {ρ : Q.Env} {p p' t2 t : T} (h : ρ[i]? = some (some p)) (hm : m (ρ.set i none) = .ok t2 (ρ.set i none)) (hf : f [p, t2] = .ok t [p']) : mCall f [.lend i, .val m] ρ = .ok t (ρ.set i (some p')) := by
  obtain ⟨hlt, _⟩ := List.getElem?_eq_some_iff.mp h
  have e1 : (ρ.set i none)[i]? = some (none : Option T) := by rw [List.getElem?_set_self hlt]
  have e2 : (ρ.set i none).set i (some p') = ρ.set i (some p') := by rw [List.set_set]
  simp [mCall, AM.toM, mArgs, mMove, h, hm, Res.bind, hf, lendSlots, freeS, e1, putBack, e2]
theorem call3 {f : List T → FRes} {m1 m2 m3 : M T} {ρ ρ1 ρ2 ρ3 : Q.Env} {t1 t2 t3 t : T} (h1 : m1 ρ = .ok t1 ρ1) (h2 : m2 ρ1 = .ok t2 ρ2) (h3 : m3 ρ2 = .ok t3 ρ3) (h : f [t1, t2, t3] = .ok t []) : mCall f [.val m1, .val m2, .val m3] ρ = .ok t ρ3 := by
  simp [mCall, AM.toM, mArgs, h1, h2, h3, Res.bind, lendSlots, freeS, h, putBack]
theorem test_t {m : M T} {ρ ρ1 : Q.Env} {b : Bool} (h : m ρ = .ok (.leaf (.bl b)) ρ1) : mTest m ρ = .ok b ρ1 := by simp only [mTest, asB, h, Res.bind]
theorem not_ok {c : M Bool} {ρ ρ1 : Q.Env} {b : Bool} (h : c ρ = .ok b ρ1) : mNot c ρ = .ok (!b) ρ1 := by simp only [mNot, h, Res.bind]
theorem or_ff {a b : M Bool} {ρ ρ1 ρ2 : Q.Env} (h1 : a ρ = .ok false ρ1) (h2 : b ρ1 = .ok false ρ2) : mOr a b ρ = .ok false ρ2 := by simp [mOr, h1, h2, Res.bind]
theorem and_f {a b : M Bool} {ρ ρ1 : Q.Env} (h1 : a ρ = .ok false ρ1) : mAnd a b ρ = .ok false ρ1 := by simp [mAnd, h1, Res.bind]
theorem and_tf {a b : M Bool} {ρ ρ1 ρ2 : Q.Env} (h1 : a ρ = .ok true ρ1) (h2 : b ρ1 = .ok false ρ2) : mAnd a b ρ = .ok false ρ2 := by simp [mAnd, h1, h2, Res.bind]
theorem if_n {c : M Bool} {a : SM} {ρ ρ1 : Q.Env} (h : c ρ = .ok false ρ1) : mIf c a mNext ρ = .nx ρ1 := Eq.trans (if_f h) rfl
def lE (sc : T) (k : Nat) (fs : List Int) (first q letters great : Option T) : Q.Env := [some sc, some (P k fs), first, q, letters, great]
theorem body3 {sc : T} {k : Nat} {fs : List Int} {first x y : Option T} {q : Nat} (h3 : 3 ≤ q) (h12 : q ≤ 12) :
    ∃ z, (mSeq (mSet 4 (mCall f__law_ring_letters [(.lend 1), (.val (mV 3))]))
  (mIf (mOr (mNot (mTest (mCall f__law_names_right [(.val (mV 4))]))) (mNot (mTest (mCall f__law_numbers [(.val (mV 3)), (.val (mCall f__law_most [(.val (mV 3))])), (.val (mC (.int 2)))]))))
  (mRet (mC (.bl false)))
  mNext)) (lE sc k fs first (some (I (q : Nat))) x y) = .nx (lE sc (k + 2) fs first (some (I (q : Nat))) (some (S z)) y) := by
  obtain ⟨base, hb, e⟩ := ring_ok fs k (q : Int)
  refine ⟨cutL base (pk fs (k + 1) 12) q, ?_⟩
  have c := call_lend (i := 1) (m := mV 3) (ρ := lE sc k fs first (some (I (q : Nat))) x y) (by rfl) (by rfl) e
  refine Eq.trans (seq_nx (ρ1 := lE sc (k + 2) fs first (some (I (q : Nat))) (some (S (cutL base (pk fs (k + 1) 12) q))) y) (set_ok (i := 4) c (by simp [lE]))) ?_
  have n1 := test_t (call1 (m1 := mV 4) (ρ := lE sc (k + 2) fs first (some (I (q : Nat))) (some (S (cutL base (pk fs (k + 1) 12) q))) y) (by rfl) (names_ok (cut_ok (okB base hb) (pk_lt fs (k + 1) (n := 12) (by decide)) (q := (q : Int)) (by omega))))
  have hq : q ≤ 2 ^ 200 := Nat.le_trans h12 (Nat.le_trans (by decide : 12 ≤ 2 ^ 4) (p2 (by decide)))
  have e1 : ((q : Int)) / 2 = ((q / 2 : Nat) : Int) := by omega
  have m1 := most_ok (q := (q : Int)) (by omega) (by rw [e1]; exact okMul_nat (Nat.le_trans hq (p2 (by decide))) (Nat.le_trans (Nat.div_le_self _ _) (Nat.le_trans hq (p2 (by decide))))) (by rw [e1]; exact okMul_nat (Nat.le_trans (Nat.div_le_self _ _) (Nat.le_trans hq (p2 (by decide)))) (Nat.le_trans (Nat.div_le_self _ _) (Nat.le_trans hq (p2 (by decide)))))
  have e2 : (q : Int) * (q / 2) / 2 = ((q * (q / 2) / 2 : Nat) : Int) := by
    rw [e1, ← Int.natCast_mul]; omega
  rw [e2] at m1
  have hs : q * (q / 2) / 2 ≤ 2 ^ 200 := Nat.le_trans (Nat.div_le_self _ _) (Nat.le_trans (Nat.mul_le_mul h12 (by omega : q / 2 ≤ 12)) (Nat.le_trans (by decide : 12 * 12 ≤ 2 ^ 8) (p2 (by decide))))
  have m2 := call1 (m1 := mV 3) (ρ := lE sc (k + 2) fs first (some (I (q : Nat))) (some (S (cutL base (pk fs (k + 1) 12) q))) y) (by rfl) m1
  have n2 := test_t (call3 (ρ := lE sc (k + 2) fs first (some (I (q : Nat))) (some (S (cutL base (pk fs (k + 1) 12) q))) y) (m1 := mV 3) (m3 := mC (.int 2)) (t1 := I (q : Nat)) (t3 := I 2) (by rfl) m2 (by rfl) (numbers_nat q _ 2 h3 hq hs (by decide)))
  exact if_n (or_ff (not_ok n1) (not_ok n2))
def T1 : D := .tup [.int 5, .int 3, .int 4, .int 6, .int 7, .int 8, .int 9, .int 10, .int 11, .int 12]
theorem ten {v : Int} (h : 0 ≤ v ∧ v < 10) : v = 0 ∨ v = 1 ∨ v = 2 ∨ v = 3 ∨ v = 4 ∨ v = 5 ∨ v = 6 ∨ v = 7 ∨ v = 8 ∨ v = 9 := by omega
theorem first_ix {v : Int} (h : 0 ≤ v ∧ v < 10) : ∃ q : Nat, 3 ≤ q ∧ q ≤ 12 ∧ fIx T1 (.int v) = some (I (q : Nat)) := by
  rcases ten h with e | e | e | e | e | e | e | e | e | e <;> subst e
  · exact ⟨5, by decide, by decide, by rfl⟩
  · exact ⟨3, by decide, by decide, by rfl⟩
  · exact ⟨4, by decide, by decide, by rfl⟩
  · exact ⟨6, by decide, by decide, by rfl⟩
  · exact ⟨7, by decide, by decide, by rfl⟩
  · exact ⟨8, by decide, by decide, by rfl⟩
  · exact ⟨9, by decide, by decide, by rfl⟩
  · exact ⟨10, by decide, by decide, by rfl⟩
  · exact ⟨11, by decide, by decide, by rfl⟩
  · exact ⟨12, by decide, by decide, by rfl⟩
def B3 : SM := (mSeq (mSet 4 (mCall f__law_ring_letters [(.lend 1), (.val (mV 3))]))
  (mIf (mOr (mNot (mTest (mCall f__law_names_right [(.val (mV 4))]))) (mNot (mTest (mCall f__law_numbers [(.val (mV 3)), (.val (mCall f__law_most [(.val (mV 3))])), (.val (mC (.int 2)))]))))
  (mRet (mC (.bl false)))
  mNext))
theorem two_loop {sc : T} {k : Nat} {fs : List Int} {first : Option T} {q1 q2 : Nat} (h1 : 3 ≤ q1 ∧ q1 ≤ 12) (h2 : 3 ≤ q2 ∧ q2 ≤ 12) :
    ∃ z, forM' (tgName 3) B3 [.int (q1 : Nat), .int (q2 : Nat)] (lE sc k fs first none none none) = .nx (lE sc (k + 4) fs first (some (I (q2 : Nat))) (some (S z)) none) := by
  obtain ⟨z1, e1⟩ := body3 (sc := sc) (k := k) (fs := fs) (first := first) (x := none) (y := none) h1.1 h1.2
  obtain ⟨z2, e2⟩ := body3 (sc := sc) (k := k + 2) (fs := fs) (first := first) (x := some (S z1)) (y := none) h2.1 h2.2
  refine ⟨z2, ?_⟩
  have t1 : tgName 3 (.int (q1 : Nat)) (lE sc k fs first none none none) = some (lE sc k fs first (some (I (q1 : Nat))) none none) := by rfl
  have t2 : tgName 3 (.int (q2 : Nat)) (lE sc (k + 2) fs first (some (I (q1 : Nat))) (some (S z1)) none) = some (lE sc (k + 2) fs first (some (I (q2 : Nat))) (some (S z1)) none) := by rfl
  have b1 : B3 (lE sc k fs first (some (I (q1 : Nat))) none none) = .nx (lE sc (k + 2) fs first (some (I (q1 : Nat))) (some (S z1)) none) := e1
  have b2 : B3 (lE sc (k + 2) fs first (some (I (q2 : Nat))) (some (S z1)) none) = .nx (lE sc (k + 4) fs first (some (I (q2 : Nat))) (some (S z2)) none) := e2
  simp only [forM', t1, b1, t2, b2]
def B4 : SM := (mIf (mNot (mTest (mCall f__law_numbers [(.val (mV 3)), (.val (mS2 fSub (mV 3) (mC (.int 3)))), (.val (mS2 fSub (mV 3) (mC (.int 3))))])))
  (mRet (mC (.bl false)))
  mNext)
theorem body4 {sc : T} {k : Nat} {fs : List Int} {first l y : Option T} {q : Nat} (h3 : 3 ≤ q) (h12 : q ≤ 14) : B4 (lE sc k fs first (some (I (q : Nat))) l y) = .nx (lE sc k fs first (some (I (q : Nat))) l y) := by
  have s : fSub (.int (q : Nat)) (.int 3) = some (.int ((q - 3 : Nat) : Int)) := by
    show some (D.int ((q : Int) - 3)) = _
    rw [show (q : Int) - 3 = ((q - 3 : Nat) : Int) by omega]
  have m2 : mS2 fSub (mV 3) (mC (.int 3)) (lE sc k fs first (some (I (q : Nat))) l y) = .ok (I (q - 3 : Nat)) (lE sc k fs first (some (I (q : Nat))) l y) := s2_ok (t1 := I (q : Nat)) (t2 := I 3) (by rfl) (by rfl) s
  have hq : q ≤ 2 ^ 200 := Nat.le_trans h12 (Nat.le_trans (by decide : 14 ≤ 2 ^ 4) (p2 (by decide)))
  have n := test_t (call3 (ρ := lE sc k fs first (some (I (q : Nat))) l y) (m1 := mV 3) (t1 := I (q : Nat)) (by rfl) m2 m2 (numbers_nat q (q - 3) (q - 3) h3 hq (by omega) (by omega)))
  exact if_n (not_ok n)
theorem loop4 {sc : T} {k : Nat} {fs : List Int} {first q0 l y : Option T} : ∃ q, mFor (mRange2 [(mC (.int 3)), (mC (.int 14))]) (tgName 3) B4 (lE sc k fs first q0 l y) = .nx (lE sc k fs first q l y) := by
  have f := for_ok (t := tgName 3) (b := B4) (src := mRange2 [(mC (.int 3)), (mC (.int 14))]) (ρ := lE sc k fs first q0 l y) (ρ1 := lE sc k fs first q0 l y) (ds := rangeD 3 11) (by rfl)
  obtain ⟨ρ2, e, q, e1⟩ := for_inv (t := tgName 3) (body := B4) (fun _ ρ => ∃ q, ρ = lE sc k fs first q l y) (fun ρ => ∃ q, ρ = lE sc k fs first q l y) (rangeD 3 11) 0 (lE sc k fs first q0 l y)
    (fun i d ρ e ⟨q, e1⟩ => by
      obtain ⟨e2, hi⟩ := range_at e
      subst e1 e2
      have e3 : (3 : Int) + (i : Nat) = ((3 + i : Nat) : Int) := by omega
      rw [e3]
      exact ⟨lE sc k fs first (some (I (3 + i : Nat))) l y, by rfl, .inl ⟨_, body4 (by omega) (by omega), _, rfl⟩⟩)
    (fun ρ h => h) ⟨q0, rfl⟩
  subst e1
  exact ⟨q, Eq.trans f e⟩
end Law

set_option maxHeartbeats 4000000
set_option exponentiation.threshold 200000
namespace Law
open PySem L2 Q
/-! the trying of lots -/
def nm25 (i : Nat) : D := .str ⟨#[97 + i / 5, 97 + i % 5]⟩
def names25 : List D := (List.range 25).map nm25
def near5 (a b : Nat) : Bool := match (a + 5 - b) % 5 with
  | 0 => true
  | 1 => true
  | 4 => true
  | _ => false
def tb (i k : Nat) : Bool := near5 (i / 5) (k / 5) && near5 (i % 5) (k % 5)
def okTw : Bool := (List.range 25).all fun i => (List.range 25).all fun k => match f__law_two_near [S "abcde", .leaf (nm25 i), .leaf (nm25 k)] with
  | .ok (.leaf (.bl b)) [] => b == tb i k
  | _ => false
theorem okTw_ok : okTw = true := by kernel_rfl
theorem tw_ok {i k : Nat} (hi : i < 25) (hk : k < 25) : f__law_two_near [S "abcde", .leaf (nm25 i), .leaf (nm25 k)] = .ok (.leaf (.bl (tb i k))) [] := by
  have h := List.all_eq_true.mp (List.all_eq_true.mp okTw_ok i (List.mem_range.mpr hi)) k (List.mem_range.mpr hk)
  split at h
  · rename_i b e
    rw [e, beq_iff_eq.mp h]
  · cases h
theorem pairs_ok : f__law_pairs [S "abcde"] = .ok (.leaf (.lst names25)) [] := by kernel_rfl
def inD' (i : Nat) : D := .int (i : Nat)
def lotD (l : List Nat) : D := .tup (l.map inD')
def tE (lots size longer lot begin k i : Option T) : Q.Env := [some (.leaf (.lst names25)), lots, size, longer, lot, begin, k, i]
theorem nm_ix {i : Nat} (h : i < 25) : fIx (.lst names25) (.int (i : Nat)) = some (.leaf (nm25 i)) := by
  have h2 : i < names25.length := by simpa [names25] using h
  have e : ixN names25.length (i : Nat) = some i := ixN_nat h2
  have g : names25[i]? = some (nm25 i) := by
    unfold names25
    rw [List.getElem?_map, List.getElem?_range h]
    rfl
  simp only [fIx, atI, e, Option.bind_some, g, Option.map_some]
def tstM : M Bool := mTest (mCall f__law_two_near [(.val (mC (.str "abcde"))), (.val (mD2 fIx (mV 0) (mV 7))), (.val (mD2 fIx (mV 0) (mV 6)))])
theorem tst_ok {lots size longer lot begin : Option T} {i k : Nat} (hi : i < 25) (hk : k < 25) : tstM (tE lots size longer lot begin (some (I (k : Nat))) (some (I (i : Nat)))) = .ok (tb i k) (tE lots size longer lot begin (some (I (k : Nat))) (some (I (i : Nat)))) := by
  refine test_t (call3 (t1 := S "abcde") (ρ1 := tE lots size longer lot begin (some (I (k : Nat))) (some (I (i : Nat)))) (by rfl) (d2_ok (t1 := .leaf (.lst names25)) (t2 := I (i : Nat)) (by rfl) (by rfl) (nm_ix hi)) (d2_ok (t1 := .leaf (.lst names25)) (t2 := I (k : Nat)) (by rfl) (by rfl) (nm_ix hk)) (tw_ok hi hk))
theorem comp_ok {lots size longer lot begin : Option T} {k : Nat} (hk : k < 25) : ∀ (l : List Nat), (∀ i ∈ l, i < 25) → compM [7] (tgName 7) tstM (mV 7) (l.map inD') (tE lots size longer lot begin (some (I (k : Nat))) none) = .ok ((l.filter (tb · k)).map fun i => .leaf (inD' i)) (tE lots size longer lot begin (some (I (k : Nat))) none)
  | [], _ => rfl
  | i :: r, h => by
    have ih := comp_ok (lots := lots) (size := size) (longer := longer) (lot := lot) (begin := begin) hk r fun j hj => h j (List.mem_cons_of_mem _ hj)
    have t := tst_ok (lots := lots) (size := size) (longer := longer) (lot := lot) (begin := begin) (h i List.mem_cons_self) hk
    have g : tgName 7 (inD' i) (tE lots size longer lot begin (some (I (k : Nat))) none) = some (tE lots size longer lot begin (some (I (k : Nat))) (some (I (i : Nat)))) := by rfl
    simp only [List.map_cons, compM, g, t, Res.bind]
    have w : wipeE (tE lots size longer lot begin (some (I (k : Nat))) (some (I (i : Nat)))) [7] = tE lots size longer lot begin (some (I (k : Nat))) none := by rfl
    have v : mV 7 (tE lots size longer lot begin (some (I (k : Nat))) (some (I (i : Nat)))) = .ok (I (i : Nat)) (tE lots size longer lot begin (some (I (k : Nat))) (some (I (i : Nat)))) := by rfl
    cases c : tb i k with
    | true => simp only [if_true, v, w, ih, List.filter_cons, c, List.map_cons]; rfl
    | false => simp only [w, ih, List.filter_cons, c]; rfl
def clear (l : List Nat) (k : Nat) : Bool := (l.filter (tb · k)).length == 0
def stepM : SM := (mIf (mTest (mS2 fEq (mSn fLen [(mComp [7] (mIter (mV 4)) (tgName 7) tstM (mV 7))]) (mC (.int 0))))
  (mDrop (mAppend 3 (mD2 fAdd (mV 4) (mTup [(mV 6)]))))
  mNext)
theorem eq_nat0 (n : Nat) : fEq (.int (n : Nat)) (.int 0) = some (.bl (n == 0)) := by
  have : decide ((n : Int) = 0) = (n == 0) := by cases n <;> simp <;> omega
  simp [fEq, eqD, D.toV?, scal]
  cases n <;> simp <;> omega
theorem tgM_ok {lots size longer begin : Option T} {l : List Nat} {k : Nat} (hk : k < 25) (hl : ∀ i ∈ l, i < 25) (hn : l.length ≤ 100) :
    mTest (mS2 fEq (mSn fLen [(mComp [7] (mIter (mV 4)) (tgName 7) tstM (mV 7))]) (mC (.int 0))) (tE lots size longer (some (.leaf (lotD l))) begin (some (I (k : Nat))) none) = .ok (clear l k) (tE lots size longer (some (.leaf (lotD l))) begin (some (I (k : Nat))) none) := by
  have c := comp_ok (lots := lots) (size := size) (longer := longer) (lot := some (.leaf (lotD l))) (begin := begin) hk l hl
  have it : mIter (mV 4) (tE lots size longer (some (.leaf (lotD l))) begin (some (I (k : Nat))) none) = .ok (l.map inD') (tE lots size longer (some (.leaf (lotD l))) begin (some (I (k : Nat))) none) := by rfl
  have w : wipeE (tE lots size longer (some (.leaf (lotD l))) begin (some (I (k : Nat))) none) [7] = tE lots size longer (some (.leaf (lotD l))) begin (some (I (k : Nat))) none := by rfl
  have hn2 : (l.map inD').length ≤ 16000000 := by simp; omega
  have m : mComp [7] (mIter (mV 4)) (tgName 7) tstM (mV 7) (tE lots size longer (some (.leaf (lotD l))) begin (some (I (k : Nat))) none) = .ok (.node ((l.filter (tb · k)).map fun i => .leaf (inD' i))) (tE lots size longer (some (.leaf (lotD l))) begin (some (I (k : Nat))) none) := by
    simp only [mComp, it, Res.bind, if_pos hn2, w, c, Res.noX]
  have s : mSn fLen [(mComp [7] (mIter (mV 4)) (tgName 7) tstM (mV 7))] (tE lots size longer (some (.leaf (lotD l))) begin (some (I (k : Nat))) none) = .ok (I ((l.filter (tb · k)).length : Nat)) (tE lots size longer (some (.leaf (lotD l))) begin (some (I (k : Nat))) none) := by
    simp only [mSn, mArgs, m, Res.bind, List.map_cons, List.map_nil, T.toD, fLen, lenD, Option.map_some, T.toDs_map, List.length_map]
  exact test_t (s2_ok (t1 := I ((l.filter (tb · k)).length : Nat)) (t2 := I 0) s (by rfl) (eq_nat0 _))
theorem step_ok {lots size begin : Option T} {l : List Nat} {k : Nat} {L : List (List Nat)} (hk : k < 25) (hl : ∀ i ∈ l, i < 25) (hn : l.length ≤ 100) (hL : L.length < 1000000) :
    stepM (tE lots size (some (.node (L.map fun l => .leaf (lotD l)))) (some (.leaf (lotD l))) begin (some (I (k : Nat))) none) =
      .nx (tE lots size (some (.node ((if clear l k = true then L ++ [l ++ [k]] else L).map fun l => .leaf (lotD l)))) (some (.leaf (lotD l))) begin (some (I (k : Nat))) none) := by
  have t := tgM_ok (lots := lots) (size := size) (longer := some (.node (L.map fun l => .leaf (lotD l)))) (begin := begin) hk hl hn
  cases c : clear l k with
  | false =>
    rw [c] at t
    exact Eq.trans (if_f t) (by simp [mNext])
  | true =>
    rw [c] at t
    refine Eq.trans (if_t t) ?_
    have hn2 : (l.map inD').length + 1 ≤ big := by
      have : (100 : Nat) + 1 ≤ big := by decide
      simp; omega
    have a : mD2 fAdd (mV 4) (mTup [(mV 6)]) (tE lots size (some (.node (L.map fun l => .leaf (lotD l)))) (some (.leaf (lotD l))) begin (some (I (k : Nat))) none) = .ok (.leaf (lotD (l ++ [k]))) (tE lots size (some (.node (L.map fun l => .leaf (lotD l)))) (some (.leaf (lotD l))) begin (some (I (k : Nat))) none) := by
      refine d2_ok (t1 := .leaf (lotD l)) (t2 := .leaf (.tup [inD' k])) (by rfl) (by rfl) ?_
      show (if (l.map inD').length + 1 ≤ big then some (T.leaf (D.tup (l.map inD' ++ [inD' k]))) else none) = _
      rw [if_pos hn2]
      simp [lotD]
    refine drop_ok (t := .leaf .non) ?_
    have hL2 : (L.map fun l => T.leaf (lotD l)).length < 16000000 := by simp; omega
    simp only [mAppend]
    rw [show (tE lots size (some (.node (L.map fun l => .leaf (lotD l)))) (some (.leaf (lotD l))) begin (some (I (k : Nat))) none)[3]? = some (some (.node (L.map fun l => .leaf (lotD l)))) by rfl]
    simp only [a, Res.bind]
    rw [show (tE lots size (some (.node (L.map fun l => .leaf (lotD l)))) (some (.leaf (lotD l))) begin (some (I (k : Nat))) none)[3]? = some (some (.node (L.map fun l => .leaf (lotD l)))) by rfl]
    simp only [if_pos hL2, if_true, List.map_append, List.map_cons, List.map_nil]
    rfl
def more1 (l : List Nat) (ks : List Nat) : List (List Nat) := (ks.filter (clear l)).map fun k => l ++ [k]
theorem ks_ok {lots size begin : Option T} {l : List Nat} (hl : ∀ i ∈ l, i < 25) (hn : l.length ≤ 100) : ∀ (ks : List Nat) (L : List (List Nat)) (x : Option T), (∀ k ∈ ks, k < 25) → L.length + ks.length < 1000000 →
    ∃ x', forM' (tgName 6) stepM (ks.map inD') (tE lots size (some (.node (L.map fun l => .leaf (lotD l)))) (some (.leaf (lotD l))) begin x none) = .nx (tE lots size (some (.node ((L ++ more1 l ks).map fun l => .leaf (lotD l)))) (some (.leaf (lotD l))) begin x' none)
  | [], L, x, _, _ => ⟨x, by simp [forM', more1]⟩
  | k :: ks, L, x, h, hL => by
    have s := step_ok (lots := lots) (size := size) (begin := begin) (L := L) (h k List.mem_cons_self) hl hn (by omega)
    have g : tgName 6 (inD' k) (tE lots size (some (.node (L.map fun l => .leaf (lotD l)))) (some (.leaf (lotD l))) begin x none) = some (tE lots size (some (.node (L.map fun l => .leaf (lotD l)))) (some (.leaf (lotD l))) begin (some (I (k : Nat))) none) := by rfl
    have len : (if clear l k = true then L ++ [l ++ [k]] else L).length + ks.length < 1000000 := by
      simp only [List.length_cons] at hL
      cases clear l k
      · rw [if_neg (by decide)]; omega
      · rw [if_pos rfl, List.length_append]; simp; omega
    obtain ⟨x', ih⟩ := ks_ok hl hn ks (if clear l k = true then L ++ [l ++ [k]] else L) (some (I (k : Nat))) (fun j hj => h j (List.mem_cons_of_mem _ hj)) len (lots := lots) (size := size) (begin := begin)
    refine ⟨x', ?_⟩
    simp only [List.map_cons, forM', g, s, ih, more1, List.filter_cons]
    cases c : clear l k <;> simp
def beg (l : List Nat) : Nat := match l.getLast? with
  | some k => k + 1
  | none => 0
def tail25 (b : Nat) : List Nat := (List.range (25 - b)).map (b + ·)
def ext1 (l : List Nat) : List (List Nat) := more1 l (tail25 (beg l))
theorem range_in (b : Nat) (hb : b ≤ 25) : rangeD (b : Nat) ((25 : Int) - (b : Nat)).toNat = (tail25 b).map inD' := by
  have e : ((25 : Int) - (b : Nat)).toNat = 25 - b := by omega
  rw [e]
  simp [rangeD, tail25, inD']
theorem toPs_ints : ∀ (l : List Nat), D.toPs (l.map inD') = some (l.map fun i => PyData.int (i : Nat))
  | [] => rfl
  | i :: r => by simp only [List.map_cons, D.toPs, toPs_ints r, inD', D.toP]
theorem lay_ints : ∀ (l : List Nat), PyData.canLayAll0 (l.map fun i => PyData.int (i : Nat)) = true
  | [] => rfl
  | i :: r => by simp [PyData.canLayAll0, PyData.canLay0, lay_ints r]
theorem depth_ints : ∀ (l : List Nat), PyData.depthAll (l.map fun i => PyData.int (i : Nat)) = 0
  | [] => rfl
  | i :: r => by simp [PyData.depthAll, PyData.depth, depth_ints r]
theorem ne_nil (l : List Nat) : fNe (lotD l) (.tup []) = some (.bl (!l.isEmpty)) := by
  have s : SeqAt.shaped (.tuple (l.map fun i => PyData.int (i : Nat))) = true := by
    simp [SeqAt.shaped, PyData.canLay0, PyData.depth, lay_ints, depth_ints]
  have s2 : SeqAt.shaped (.tuple []) = true := by decide
  have e : (lotD l).toP = some (.tuple (l.map fun i => PyData.int (i : Nat))) := by simp [lotD, D.toP, toPs_ints]
  have e2 : (D.tup []).toP = some (.tuple []) := by rfl
  have v : (lotD l).toV? = none := by rfl
  have v2 : (D.tup []).toV? = none := by rfl
  simp only [fNe, eqD, v, e, e2, s, s2, Bool.and_self, if_true]
  cases l <;> rfl
def lotM : SM := (mSeq (mSet 5 (mC (.int 0)))
  (mSeq (mIf (mTest (mS2 fNe (mV 4) (mTup [])))
  (mSet 5 (mD2 fAdd (mD2 fIx (mV 4) (mNeg (mC (.int 1)))) (mC (.int 1))))
  mNext)
  (mFor (mRange2 [(mV 5), (mSn fLen [(mV 0)])]) (tgName 6) stepM)))
theorem beg_ok {lots size longer k : Option T} {l : List Nat} : mIf (mTest (mS2 fNe (mV 4) (mTup []))) (mSet 5 (mD2 fAdd (mD2 fIx (mV 4) (mNeg (mC (.int 1)))) (mC (.int 1)))) mNext (tE lots size longer (some (.leaf (lotD l))) (some (I 0)) k none) = .nx (tE lots size longer (some (.leaf (lotD l))) (some (I (beg l : Nat))) k none) := by
  have t := test_t (s2_ok (ρ := tE lots size longer (some (.leaf (lotD l))) (some (I 0)) k none) (a := mV 4) (b := mTup []) (t1 := .leaf (lotD l)) (t2 := .leaf (.tup [])) (by rfl) (by rfl) (ne_nil l))
  cases l with
  | nil => exact Eq.trans (if_f t) (by rfl)
  | cons i r =>
    refine Eq.trans (if_t t) ?_
    have e : fIx (lotD (i :: r)) (.int (-1)) = some (I (((i :: r).getLast (by simp) : Nat))) := by
      have e1 : ixN (r.length + 1) (-1) = some r.length := by
        unfold ixN
        rw [if_neg (by omega), if_pos (by omega)]
        congr 1
        omega
      have e2 : (List.map inD' (i :: r))[r.length]? = some (inD' ((i :: r).getLast (by simp))) := by
        have q : (i :: r)[r.length]? = (i :: r).getLast? := by
          rw [List.getLast?_eq_getElem?]; rfl
        rw [List.getElem?_map, q, List.getLast?_eq_some_getLast (by simp)]
        rfl
      have e3 : (List.map inD' (i :: r)).length = r.length + 1 := by simp
      show (L2.atI (List.map inD' (i :: r)) (-1)).map T.leaf = _
      unfold L2.atI
      rw [e3, e1, Option.bind_some, e2]
      rfl
    have eb : (beg (i :: r) : Int) = ((i :: r).getLast (by simp) : Nat) + 1 := by
      unfold beg
      rw [List.getLast?_eq_some_getLast (by simp)]
      rfl
    have s := set_ok (i := 5) (d2_ok (f := fAdd) (d2_ok (f := fIx) (a := mV 4) (b := mNeg (mC (.int 1))) (ρ := tE lots size longer (some (.leaf (lotD (i :: r)))) (some (I 0)) k none) (t1 := .leaf (lotD (i :: r))) (t2 := I (-1)) (by rfl) (by rfl) e) (by rfl : mC (.int 1) (tE lots size longer (some (.leaf (lotD (i :: r)))) (some (I 0)) k none) = .ok (I 1) (tE lots size longer (some (.leaf (lotD (i :: r)))) (some (I 0)) k none)) (by rfl)) (by simp [tE])
    refine Eq.trans s ?_
    rw [← eb]
    rfl
theorem range2_ok {a b : M T} {ρ ρ1 ρ2 : Q.Env} {i j : Int} (h1 : a ρ = .ok (I i) ρ1) (h2 : b ρ1 = .ok (I j) ρ2) (s1 : small62 i = true) (s2 : small62 j = true) : mRange2 [a, b] ρ = .ok (rangeD i (j - i).toNat) ρ2 := by
  simp only [mRange2, mArgs, h1, h2, Res.bind, s1, s2, Bool.and_self, if_true]
theorem lot_ok {lots size begin k : Option T} {l : List Nat} {L : List (List Nat)} (hl : ∀ i ∈ l, i < 25) (hn : l.length ≤ 100) (hL : L.length + 25 < 1000000) :
    ∃ begin' k', lotM (tE lots size (some (.node (L.map fun l => .leaf (lotD l)))) (some (.leaf (lotD l))) begin k none) = .nx (tE lots size (some (.node ((L ++ ext1 l).map fun l => .leaf (lotD l)))) (some (.leaf (lotD l))) begin' k' none) := by
  have hb : beg l ≤ 25 := by
    unfold beg
    split
    · rename_i j e
      have := hl j (List.mem_of_getLast? e)
      omega
    · omega
  obtain ⟨x', ks⟩ := ks_ok (lots := lots) (size := size) (begin := some (I (beg l : Nat))) hl hn (tail25 (beg l)) L k (fun j hj => by
    simp [tail25] at hj
    omega) (by simp [tail25]; omega)
  refine ⟨some (I (beg l : Nat)), x', ?_⟩
  refine Eq.trans (seq_nx (ρ1 := tE lots size (some (.node (L.map fun l => .leaf (lotD l)))) (some (.leaf (lotD l))) (some (I 0)) k none) (by rfl)) ?_
  refine Eq.trans (seq_nx beg_ok) ?_
  refine Eq.trans (for_ok (ds := (tail25 (beg l)).map inD') (ρ1 := tE lots size (some (.node (L.map fun l => .leaf (lotD l)))) (some (.leaf (lotD l))) (some (I (beg l : Nat))) k none) ?_) ks
  rw [← range_in _ hb]
  have s1 : small62 (beg l : Nat) = true := by
    simp only [small62, Bool.and_eq_true, decide_eq_true_eq]
    omega
  have s2 : small62 25 = true := by decide
  have l25 : (fLen [D.lst names25]) = some (.int 25) := by
    have : names25.length = 25 := by simp [names25]
    simp only [fLen, lenD, Option.map_some, this]
    rfl
  have h1 : ∀ x, mV 5 (tE lots size x (some (.leaf (lotD l))) (some (I (beg l : Nat))) k none) = .ok (I (beg l : Nat)) (tE lots size x (some (.leaf (lotD l))) (some (I (beg l : Nat))) k none) := fun _ => rfl
  have v : ∀ x, mV 0 (tE lots size x (some (.leaf (lotD l))) (some (I (beg l : Nat))) k none) = .ok (.leaf (.lst names25)) (tE lots size x (some (.leaf (lotD l))) (some (I (beg l : Nat))) k none) := fun _ => rfl
  have h2 : ∀ x, mSn fLen [mV 0] (tE lots size x (some (.leaf (lotD l))) (some (I (beg l : Nat))) k none) = .ok (I 25) (tE lots size x (some (.leaf (lotD l))) (some (I (beg l : Nat))) k none) := fun x => by
    simp only [mSn, mArgs, v, Res.bind, List.map_cons, List.map_nil, T.toD, l25]
  exact range2_ok (h1 _) (h2 _) s1 s2
theorem lots_ok {lots size : Option T} : ∀ (ls L : List (List Nat)) (lot begin k : Option T), (∀ l ∈ ls, (∀ i ∈ l, i < 25) ∧ l.length ≤ 100) → L.length + 25 * ls.length < 1000000 →
    ∃ lot' begin' k', forM' (tgName 4) lotM (ls.map lotD) (tE lots size (some (.node (L.map fun l => .leaf (lotD l)))) lot begin k none) = .nx (tE lots size (some (.node ((L ++ (ls.map ext1).flatten).map fun l => .leaf (lotD l)))) lot' begin' k' none)
  | [], L, lot, begin, k, _, _ => ⟨lot, begin, k, by simp [forM']⟩
  | l :: ls, L, lot, begin, k, h, hL => by
    simp only [List.length_cons] at hL
    obtain ⟨b', k', s⟩ := lot_ok (lots := lots) (size := size) (begin := begin) (k := k) (L := L) (h l List.mem_cons_self).1 (h l List.mem_cons_self).2 (by omega)
    have g : tgName 4 (lotD l) (tE lots size (some (.node (L.map fun l => .leaf (lotD l)))) lot begin k none) = some (tE lots size (some (.node (L.map fun l => .leaf (lotD l)))) (some (.leaf (lotD l))) begin k none) := by rfl
    have le : (ext1 l).length ≤ 25 := by
      unfold ext1 more1
      rw [List.length_map]
      refine Nat.le_trans (List.length_filter_le _ _) ?_
      simp [tail25]
    obtain ⟨lot', b2, k2, ih⟩ := lots_ok ls (L ++ ext1 l) (some (.leaf (lotD l))) b' k' (fun m hm => h m (List.mem_cons_of_mem _ hm)) (by simp; omega) (lots := lots) (size := size)
    refine ⟨lot', b2, k2, ?_⟩
    simp only [List.map_cons, forM', g, s, ih, List.flatten_cons, List.append_assoc]
def exts (ls : List (List Nat)) : List (List Nat) := (ls.map ext1).flatten
def fine (ls : List (List Nat)) : Bool := ls.all fun l => l.all (Nat.blt · 25) && Nat.ble l.length 100
theorem fine_of {ls : List (List Nat)} (h : fine ls = true) : ∀ l ∈ ls, (∀ i ∈ l, i < 25) ∧ l.length ≤ 100 := by
  intro l hl
  have := List.all_eq_true.mp h l hl
  rw [Bool.and_eq_true] at this
  exact ⟨fun i hi => by simpa using List.all_eq_true.mp this.1 i hi, Nat.le_of_ble_eq_true this.2⟩
def roundM : SM := (mSeq (mSetO 3 (mLst []))
  (mSeq (mFor (mIter (mV 1)) (tgName 4) lotM)
  (mSeq (mIf (mTest (mS2 fEq (mShare 3) (mLst [])))
  (mRet (mS2 fEq (mV 2) (mCall f_ring_most [(.val (mC (.int 5)))])))
  mNext)
  (mSet 1 (mShare 3)))))
theorem lotsP : ∀ (ls : List (List Nat)), ∃ ps, D.toPs (ls.map lotD) = some ps ∧ PyData.canLayAll0 ps = true ∧ PyData.depthAll ps ≤ 1
  | [] => ⟨[], rfl, rfl, Nat.zero_le _⟩
  | l :: r => by
    obtain ⟨ps, e, c, d⟩ := lotsP r
    refine ⟨.tuple (l.map fun i => PyData.int (i : Nat)) :: ps, ?_, ?_, ?_⟩
    · simp only [List.map_cons, D.toPs, e]
      simp [lotD, D.toP, toPs_ints]
    · simp [PyData.canLayAll0, PyData.canLay0, lay_ints, c]
    · simp only [PyData.depthAll, PyData.depth, depth_ints]
      exact Nat.max_le.mpr ⟨Nat.le_refl _, d⟩
theorem eq_lots' (ls : List (List Nat)) : fEq (.lst (ls.map lotD)) (.lst []) = some (.bl ls.isEmpty) := by
  obtain ⟨ps, e, c, d⟩ := lotsP ls
  have s : SeqAt.shaped (.list ps) = true := by
    show (PyData.canLayAll0 ps && decide (PyData.depthAll ps + 1 ≤ 64)) = true
    rw [c, decide_eq_true (by omega)]
    rfl
  have e1 : (D.lst (ls.map lotD)).toP = some (.list ps) := by simp [D.toP, e]
  have e2 : (D.lst []).toP = some (.list []) := by rfl
  have v : (D.lst (ls.map lotD)).toV? = none := by rfl
  have s2 : SeqAt.shaped (.list []) = true := by decide
  simp only [fEq, eqD, v, e1, e2, s, s2, Bool.and_self, if_true]
  cases ls with
  | nil => cases e; rfl
  | cons l r =>
    simp only [List.map_cons, D.toPs] at e
    split at e
    · cases e; rfl
    · cases e
theorem round_ok {ls : List (List Nat)} {size : Nat} {longer lot begin k : Option T} (h : fine ls = true) (hL : 25 * ls.length < 1000000) :
    ∃ lot' begin' k', roundM (tE (some (.leaf (.lst (ls.map lotD)))) (some (I (size : Nat))) longer lot begin k none) = (if (exts ls).isEmpty = true then .rt (.leaf (.bl (size == 5))) (tE (some (.leaf (.lst (ls.map lotD)))) (some (I (size : Nat))) (some (.leaf (.lst ((exts ls).map lotD)))) lot' begin' k' none)
      else .nx (tE (some (.leaf (.lst ((exts ls).map lotD)))) (some (I (size : Nat))) (some (.leaf (.lst ((exts ls).map lotD)))) lot' begin' k' none)) := by
  obtain ⟨lot', b', k', s⟩ := lots_ok (lots := some (.leaf (.lst (ls.map lotD)))) (size := some (I (size : Nat))) ls [] lot begin k (fine_of h) (by simpa using hL)
  refine ⟨lot', b', k', ?_⟩
  refine Eq.trans (seq_nx (ρ1 := tE (some (.leaf (.lst (ls.map lotD)))) (some (I (size : Nat))) (some (.node [])) lot begin k none) (by rfl)) ?_
  refine Eq.trans (seq_nx (Eq.trans (for_ok (ds := ls.map lotD) (ρ1 := tE (some (.leaf (.lst (ls.map lotD)))) (some (I (size : Nat))) (some (.node [])) lot begin k none) (by rfl)) s)) ?_
  rw [List.nil_append]
  have ed : T.toDs ((exts ls).map fun l => T.leaf (lotD l)) = (exts ls).map lotD := by rw [T.toDs_map, List.map_map]; rfl
  have sh : mShare 3 (tE (some (.leaf (.lst (ls.map lotD)))) (some (I (size : Nat))) (some (.node ((exts ls).map fun l => .leaf (lotD l)))) lot' b' k' none) = .ok (.leaf (.lst ((exts ls).map lotD))) (tE (some (.leaf (.lst (ls.map lotD)))) (some (I (size : Nat))) (some (.leaf (.lst ((exts ls).map lotD)))) lot' b' k' none) := by
    rw [← ed]; rfl
  have t := test_t (s2_ok (f := fEq) (b := mLst []) (t2 := .node []) sh (by rfl) (eq_lots' (exts ls)))
  cases c : (exts ls).isEmpty with
  | true =>
    rw [c] at t
    rw [if_pos rfl]
    refine seq_rt (Eq.trans (if_t t) ?_)
    have rm : mCall f_ring_most [(.val (mC (.int 5)))] (tE (some (.leaf (.lst (ls.map lotD)))) (some (I (size : Nat))) (some (.leaf (.lst ((exts ls).map lotD)))) lot' b' k' none) = .ok (I 5) (tE (some (.leaf (.lst (ls.map lotD)))) (some (I (size : Nat))) (some (.leaf (.lst ((exts ls).map lotD)))) lot' b' k' none) := call1 (t1 := I 5) (by rfl) (by kernel_rfl)
    have q : fEq (.int (size : Nat)) (.int 5) = some (.bl (size == 5)) := by
      have : decide ((size : Int) = 5) = (size == 5) := by
        by_cases h : size = 5
        · subst h; rfl
        · have h2 : ¬ ((size : Int) = 5) := by omega
          simp [h, h2]
      simp [fEq, eqD, D.toV?, scal, this]
    exact ret_ok (s2_ok (a := mV 2) (t1 := I (size : Nat)) (t2 := I 5) (by rfl) rm q)
  | false =>
    rw [c] at t
    rw [if_neg (by decide)]
    refine Eq.trans (seq_nx (if_n t)) ?_
    rfl
def lv : Nat → List (List Nat)
  | 0 => [[]]
  | n + 1 => exts (lv n)
def lvOk (n : Nat) : Bool := fine (lv n) && (Nat.blt (25 * (lv n).length) 1000000)
theorem lv_ok : (List.range 6).all lvOk = true := by kernel_rfl
theorem lv_full : (List.range 5).all (fun n => !(lv (n + 1)).isEmpty) = true := by kernel_rfl
theorem lv_end : (lv 6).isEmpty = true := by kernel_rfl
theorem trying_loop : ∀ (j : Nat), j ≤ 5 → ∀ (longer lot begin k size : Option T), ∃ ρ, forM' (tgName 2) roundM ((List.range (j + 1)).map fun i => .int ((5 - j + i : Nat) : Int)) (tE (some (.leaf (.lst ((lv (5 - j)).map lotD)))) size longer lot begin k none) = .rt (.leaf (.bl true)) ρ
  | 0, _, longer, lot, begin, k, size => by
    have hk := List.all_eq_true.mp lv_ok 5 (List.mem_range.mpr (by decide))
    simp only [lvOk, Bool.and_eq_true] at hk
    obtain ⟨a, b, c, r⟩ := round_ok (size := 5) (longer := longer) (lot := lot) (begin := begin) (k := k) hk.1 (by simpa using hk.2)
    have e : (exts (lv 5)).isEmpty = true := lv_end
    rw [if_pos e] at r
    refine ⟨tE (some (.leaf (.lst ((lv 5).map lotD)))) (some (I (5 : Nat))) (some (.leaf (.lst ((exts (lv 5)).map lotD)))) a b c none, ?_⟩
    show forM' (tgName 2) roundM [.int ((5 : Nat) : Int)] (tE (some (.leaf (.lst ((lv 5).map lotD)))) size longer lot begin k none) = _
    simp only [forM']
    rw [show tgName 2 (.int ((5 : Nat) : Int)) (tE (some (.leaf (.lst ((lv 5).map lotD)))) size longer lot begin k none) = some (tE (some (.leaf (.lst ((lv 5).map lotD)))) (some (I (5 : Nat))) longer lot begin k none) by rfl]
    simp only [r]
    rfl
  | j + 1, h, longer, lot, begin, k, size => by
    have hk := List.all_eq_true.mp lv_ok (5 - (j + 1)) (List.mem_range.mpr (by omega))
    simp only [lvOk, Bool.and_eq_true] at hk
    obtain ⟨a, b, c, r⟩ := round_ok (size := 5 - (j + 1)) (longer := longer) (lot := lot) (begin := begin) (k := k) hk.1 (by simpa using hk.2)
    have e : (exts (lv (5 - (j + 1)))).isEmpty = false := by
      have := List.all_eq_true.mp lv_full (5 - (j + 1)) (List.mem_range.mpr (by omega))
      simpa [lv] using this
    rw [if_neg (by rw [e]; decide)] at r
    have nx : exts (lv (5 - (j + 1))) = lv (5 - j) := by
      rw [show 5 - j = 5 - (j + 1) + 1 by omega]; rfl
    rw [nx] at r
    obtain ⟨ρ, ih⟩ := trying_loop j (by omega) (some (.leaf (.lst ((lv (5 - j)).map lotD)))) a b c (some (I (5 - (j + 1) : Nat)))
    refine ⟨ρ, ?_⟩
    rw [List.range_succ_eq_map, List.map_cons, List.map_map]
    simp only [forM']
    rw [show tgName 2 (.int ((5 - (j + 1) + 0 : Nat) : Int)) (tE (some (.leaf (.lst ((lv (5 - (j + 1))).map lotD)))) size longer lot begin k none) = some (tE (some (.leaf (.lst ((lv (5 - (j + 1))).map lotD)))) (some (I (5 - (j + 1) : Nat))) longer lot begin k none) by rfl]
    simp only [r]
    rw [← ih]
    congr 1
    refine List.map_congr_left fun i _ => ?_
    show D.int ((5 - (j + 1) + (i + 1) : Nat) : Int) = _
    rw [show 5 - (j + 1) + (i + 1) = 5 - j + i by omega]
theorem trying_ok : f__law_trying [] = .ok (.leaf (.bl true)) [] := by
  obtain ⟨ρ, l⟩ := trying_loop 5 (Nat.le_refl _) none none none none none
  refine fun_rt (b := m__law_trying) (ρ := ρ) ?_ rfl
  refine Eq.trans (seq_nx (ρ1 := tE none none none none none none none) (set_ok (i := 0) (t := .leaf (.lst names25)) (call1 (m1 := mC (.str "abcde")) (t1 := S "abcde") (by rfl) pairs_ok) (by simp [env0]))) ?_
  refine Eq.trans (seq_nx (ρ1 := tE (some (.leaf (.lst ([[]].map lotD)))) none none none none none none) (by rfl)) ?_
  refine seq_rt ?_
  refine Eq.trans (for_ok (ds := rangeD 0 6) (ρ1 := tE (some (.leaf (.lst ([[]].map lotD)))) none none none none none none) (by rfl)) ?_
  exact l
end Law

set_option maxHeartbeats 4000000
set_option exponentiation.threshold 200000
namespace Law
open PySem L2 Q
theorem refused_ok : f__law_refused [] = .ok (.leaf (.bl true)) [] := by
  kernel_rfl
theorem call0 {f : List T → FRes} {ρ : Q.Env} {t : T} (h : f [] = .ok t []) : mCall f [] ρ = .ok t ρ := by
  simp [mCall, mArgs, Res.bind, lendSlots, freeS, h, putBack]
theorem seto_ok {i : Nat} {m : M T} {ρ ρ1 : Q.Env} {t : T} (h : m ρ = .ok t ρ1) (hi : i < ρ1.length) : mSetO i m ρ = .nx (ρ1.set i (some t)) := by
  have e : ρ1[i]? = some ρ1[i] := List.getElem?_eq_getElem hi
  simp [mSetO, h, Res.toS, putS, e]
theorem iter2 {m1 m2 : M T} {ρ ρ1 ρ2 : Q.Env} {t1 t2 : T} (h1 : m1 ρ = .ok t1 ρ1) (h2 : m2 ρ1 = .ok t2 ρ2) : mIter (mTup [m1, m2]) ρ = .ok [t1.toD, t2.toD] ρ2 := by
  simp [mIter, mTup, mArgs, h1, h2, Res.bind, T.toD, D.items?]
theorem add_int (i j : Int) : fAdd (.int i) (.int j) = some (I (i + j)) := rfl
theorem pick_lE {sc : T} {k : Nat} {fs : List Int} {a b c d : Option T} {n : Int} {m : M T} (hm : ∀ ρ, m ρ = .ok (.leaf (.int n)) ρ) (hn : 0 < n) : mCall f__law_pick [.lend 1, .val m] (lE sc k fs a b c d) = .ok (I (pk fs k n)) (lE sc (k + 1) fs a b c d) := pick_call (i := 1) (fs := fs) (k := k) (by rfl) (hm _) hn
theorem great_lE {sc : T} {k : Nat} {fs : List Int} {a b c d : Option T} {n : Nat} {m : M T} (hm : ∀ ρ, m ρ = .ok (I (n : Nat)) ρ) (hn : n < 100) : mCall f__law_great [.lend 1, .val m] (lE sc k fs a b c d) = .ok (I (gr fs k n)) (lE sc (k + n) fs a b c d) := call_lend (i := 1) (by rfl) (hm _) (great_ok fs k n hn)
theorem pow14 : (24 : Nat) ^ 14 ≤ 2 ^ 80 := by decide +kernel
theorem gr_nat (fs : List Int) (k : Nat) {n : Nat} (hn : n ≤ 14) : ∃ g : Nat, gr fs k n = (g : Int) ∧ g ≤ 2 ^ 80 := by
  refine ⟨(gr fs k n).toNat, ?_, ?_⟩
  · have := (gr_lt fs k n).1; omega
  · have h1 := gr_abs fs k n
    have h2 := (gr_lt fs k n).1
    have h3 := Nat.le_trans (Nat.pow_le_pow_right (by decide : 0 < 24) hn) pow14
    omega
theorem pk_nat (fs : List Int) (k : Nat) {n : Nat} (hn : 0 < n) : ∃ g : Nat, pk fs k n = (g : Int) ∧ g < n := by
  have h := pk_lt fs k (n := (n : Int)) (by omega)
  exact ⟨(pk fs k n).toNat, by omega, by omega⟩
theorem law_true (ns : List Int) (hn : ns.length ≤ 63) : f_law [.leaf (.fz (ns.map D.int))] = .ok (.leaf (.bl true)) [] := by
  obtain ⟨fs, hp⟩ := purse_ok ns hn
  generalize hsc : T.leaf (.fz (ns.map D.int)) = sc at hp ⊢
  have s1 : mSetO 1 (mCall f__law_purse [(.val (mV 0))]) [some sc, none, none, none, none, none] = .nx (lE sc 0 fs none none none none) := by
    refine seto_ok (i := 1) (call1 (m1 := mV 0) (t1 := sc) ?_ hp) (by simp)
    rw [← hsc]; rfl
  obtain ⟨q1, a1, a2, hx⟩ := first_ix (pk_lt fs 0 (n := 10) (by decide))
  have s2 : mSet 2 (mD2 fIx (mTup [(mC (.int 5)), (mC (.int 3)), (mC (.int 4)), (mC (.int 6)), (mC (.int 7)), (mC (.int 8)), (mC (.int 9)), (mC (.int 10)), (mC (.int 11)), (mC (.int 12))]) (mCall f__law_pick [(.lend 1), (.val (mC (.int 10)))])) (lE sc 0 fs none none none none) = .nx (lE sc 1 fs (some (I (q1 : Nat))) none none none) :=
    set_ok (i := 2) (ρ1 := lE sc 1 fs none none none none) (d2_ok (t1 := .leaf T1) (by rfl) (pick_lE (fun _ => rfl) (by decide)) hx) (by simp [lE])
  obtain ⟨v2, b1, b2⟩ := pk_nat fs 1 (n := 10) (by decide)
  have it : mIter (mTup [(mV 2), (mD2 fAdd (mC (.int 3)) (mCall f__law_pick [(.lend 1), (.val (mC (.int 10)))]))]) (lE sc 1 fs (some (I (q1 : Nat))) none none none) = .ok [.int (q1 : Nat), .int (3 + v2 : Nat)] (lE sc 2 fs (some (I (q1 : Nat))) none none none) := by
    refine iter2 (t1 := I (q1 : Nat)) (t2 := I (3 + v2 : Nat)) (ρ1 := lE sc 1 fs (some (I (q1 : Nat))) none none none) (by rfl) (d2_ok (t1 := I 3) (t2 := I (v2 : Nat)) (ρ1 := lE sc 1 fs (some (I (q1 : Nat))) none none none) (by rfl) ?_ ?_)
    · rw [← b1]; exact pick_lE (fun _ => rfl) (by decide)
    · exact add_int 3 v2
  obtain ⟨z, s3⟩ := two_loop (sc := sc) (k := 2) (fs := fs) (first := some (I (q1 : Nat))) (q1 := q1) (q2 := 3 + v2) ⟨a1, a2⟩ ⟨by omega, by omega⟩
  obtain ⟨q4, s4⟩ := loop4 (sc := sc) (k := 6) (fs := fs) (first := some (I (q1 : Nat))) (q0 := some (I (3 + v2 : Nat))) (l := some (S z)) (y := none)
  obtain ⟨g, c1, c2⟩ := gr_nat fs 6 (n := 14) (Nat.le_refl _)
  have s5 : mSet 5 (mD2 fAdd (mC (.int 3)) (mCall f__law_great [(.lend 1), (.val (mC (.int 14)))])) (lE sc 6 fs (some (I (q1 : Nat))) q4 (some (S z)) none) = .nx (lE sc 20 fs (some (I (q1 : Nat))) q4 (some (S z)) (some (I (3 + g : Nat)))) := by
    refine set_ok (i := 5) (t := I (3 + g : Nat)) (ρ1 := lE sc 20 fs (some (I (q1 : Nat))) q4 (some (S z)) none) (d2_ok (t1 := I 3) (t2 := I (g : Nat)) (ρ1 := lE sc 6 fs (some (I (q1 : Nat))) q4 (some (S z)) none) (by rfl) ?_ (add_int 3 g)) (by simp [lE])
    rw [← c1]; exact great_lE (n := 14) (fun _ => rfl) (by decide)
  obtain ⟨g2, d1, d2⟩ := gr_nat fs 20 (n := 12) (by decide)
  obtain ⟨u1, e1, e2⟩ := pk_nat fs 32 (n := 24) (by decide)
  obtain ⟨u2, f1, f2⟩ := pk_nat fs 33 (n := 24) (by decide)
  have big80 : ∀ {x : Nat}, x ≤ 2 ^ 80 → 3 + x ≤ 2 ^ 200 := fun h => by
    have : (2 : Nat) ^ 80 + 3 ≤ 2 ^ 200 := by decide +kernel
    omega
  have s6 : mIf (mNot (mTest (mCall f__law_numbers [(.val (mV 5)), (.val (mCall f__law_great [(.lend 1), (.val (mC (.int 12)))])), (.val (mD2 fAdd (mCall f__law_pick [(.lend 1), (.val (mC (.int 24)))]) (mD2 fMul (mC (.int 12)) (mCall f__law_pick [(.lend 1), (.val (mC (.int 24)))]))))]))) (mRet (mC (.bl false))) mNext (lE sc 20 fs (some (I (q1 : Nat))) q4 (some (S z)) (some (I (3 + g : Nat)))) = .nx (lE sc 34 fs (some (I (q1 : Nat))) q4 (some (S z)) (some (I (3 + g : Nat)))) := by
    have k2 : mCall f__law_great [(.lend 1), (.val (mC (.int 12)))] (lE sc 20 fs (some (I (q1 : Nat))) q4 (some (S z)) (some (I (3 + g : Nat)))) = .ok (I (g2 : Nat)) (lE sc 32 fs (some (I (q1 : Nat))) q4 (some (S z)) (some (I (3 + g : Nat)))) := by
      rw [← d1]; exact great_lE (n := 12) (fun _ => rfl) (by decide)
    have k3 : mCall f__law_pick [(.lend 1), (.val (mC (.int 24)))] (lE sc 32 fs (some (I (q1 : Nat))) q4 (some (S z)) (some (I (3 + g : Nat)))) = .ok (I (u1 : Nat)) (lE sc 33 fs (some (I (q1 : Nat))) q4 (some (S z)) (some (I (3 + g : Nat)))) := by
      rw [← e1]; exact pick_lE (fun _ => rfl) (by decide)
    have k4 : mCall f__law_pick [(.lend 1), (.val (mC (.int 24)))] (lE sc 33 fs (some (I (q1 : Nat))) q4 (some (S z)) (some (I (3 + g : Nat)))) = .ok (I (u2 : Nat)) (lE sc 34 fs (some (I (q1 : Nat))) q4 (some (S z)) (some (I (3 + g : Nat)))) := by
      rw [← f1]; exact pick_lE (fun _ => rfl) (by decide)
    have mm : okMul 12 (u2 : Nat) = true := okMul_nat (a := 12) (Nat.le_trans (by decide : 12 ≤ 2 ^ 5) (p2 (by decide))) (Nat.le_trans (by omega : u2 ≤ 2 ^ 5) (p2 (by decide)))
    have k5 := d2_ok (f := fMul) (a := mC (.int 12)) (ρ := lE sc 33 fs (some (I (q1 : Nat))) q4 (some (S z)) (some (I (3 + g : Nat)))) (ρ1 := lE sc 33 fs (some (I (q1 : Nat))) q4 (some (S z)) (some (I (3 + g : Nat)))) (t1 := I 12) (t2 := I (u2 : Nat)) (by rfl) k4 (mul_int mm)
    have e8 : (u1 : Int) + 12 * (u2 : Int) = ((u1 + 12 * u2 : Nat) : Int) := by omega
    have k6 := d2_ok (f := fAdd) (t1 := I (u1 : Nat)) k3 k5 (add_int _ _)
    rw [e8] at k6
    have n := test_t (call3 (m1 := mV 5) (t1 := I (3 + g : Nat)) (ρ := lE sc 20 fs (some (I (q1 : Nat))) q4 (some (S z)) (some (I (3 + g : Nat)))) (ρ1 := lE sc 20 fs (some (I (q1 : Nat))) q4 (some (S z)) (some (I (3 + g : Nat)))) (by rfl) k2 k6 (numbers_nat (3 + g) g2 (u1 + 12 * u2) (by omega) (big80 c2) (Nat.le_trans d2 (p2 (by decide))) (by omega)))
    exact if_n (not_ok n)
  have gg : (3 + g) * (3 + g) + 1 ≤ 2 ^ 200 := by
    have h1 : 3 + g ≤ 2 ^ 90 := by
      have : (2 : Nat) ^ 80 + 3 ≤ 2 ^ 90 := by decide +kernel
      omega
    have h2 := Nat.mul_le_mul h1 h1
    have h3 : (2 : Nat) ^ 90 * 2 ^ 90 + 1 ≤ 2 ^ 200 := by decide +kernel
    omega
  have s7 : mIf (mOr (mNot (mTest (mCall f__law_numbers [(.val (mD2 fAdd (mD2 fMul (mV 5) (mV 5)) (mC (.int 1)))), (.val (mV 5)), (.val (mC (.int 3)))]))) (mNot (mTest (mCall f__law_numbers [(.val (mD2 fAdd (mS2 fPow (mC (.int 10)) (mC (.int 60))) (mV 5))), (.val (mS2 fPow (mC (.int 10)) (mC (.int 50)))), (.val (mC (.int 2)))]))))
      (mRet (mC (.bl false))) mNext (lE sc 34 fs (some (I (q1 : Nat))) q4 (some (S z)) (some (I (3 + g : Nat)))) = .nx (lE sc 34 fs (some (I (q1 : Nat))) q4 (some (S z)) (some (I (3 + g : Nat)))) := by
    have mm : okMul ((3 + g : Nat) : Int) ((3 + g : Nat) : Int) = true := okMul_nat (Nat.le_trans (big80 c2) (p2 (by decide))) (Nat.le_trans (big80 c2) (p2 (by decide)))
    have k1 := d2_ok (f := fMul) (a := mV 5) (b := mV 5) (ρ := lE sc 34 fs (some (I (q1 : Nat))) q4 (some (S z)) (some (I (3 + g : Nat)))) (t1 := I (3 + g : Nat)) (t2 := I (3 + g : Nat)) (by rfl) (by rfl) (mul_int mm)
    have k2 := d2_ok (f := fAdd) (b := mC (.int 1)) (t2 := I 1) k1 (by rfl) (add_int _ _)
    have e8 : ((3 + g : Nat) : Int) * ((3 + g : Nat) : Int) + 1 = (((3 + g) * (3 + g) + 1 : Nat) : Int) := by
      rw [Int.natCast_add ((3 + g) * (3 + g)) 1, Int.natCast_mul]
      rfl
    rw [e8] at k2
    have n1 := test_t (call3 (m2 := mV 5) (m3 := mC (.int 3)) (t2 := I (3 + g : Nat)) (t3 := I 3) k2 (by rfl) (by rfl) (numbers_nat ((3 + g) * (3 + g) + 1) (3 + g) 3 (Nat.le_trans (by decide : 3 ≤ 3 * 3 + 1) (Nat.add_le_add_right (Nat.mul_le_mul (Nat.le_add_right 3 g) (Nat.le_add_right 3 g)) 1)) gg (big80 c2) (by decide)))
    have p60 : fPow (.int 10) (.int 60) = some (.int ((10 ^ 60 : Nat) : Int)) := by kernel_rfl
    have p50 : fPow (.int 10) (.int 50) = some (.int ((10 ^ 50 : Nat) : Int)) := by kernel_rfl
    have j1 := s2_ok (f := fPow) (a := mC (.int 10)) (b := mC (.int 60)) (ρ := lE sc 34 fs (some (I (q1 : Nat))) q4 (some (S z)) (some (I (3 + g : Nat)))) (t1 := I 10) (t2 := I 60) (by rfl) (by rfl) p60
    have j2 := d2_ok (f := fAdd) (b := mV 5) (t2 := I (3 + g : Nat)) j1 (by rfl) (add_int _ _)
    have e9 : ((10 ^ 60 : Nat) : Int) + ((3 + g : Nat) : Int) = ((10 ^ 60 + (3 + g) : Nat) : Int) := by omega
    rw [e9] at j2
    have j3 := s2_ok (f := fPow) (a := mC (.int 10)) (b := mC (.int 50)) (ρ := lE sc 34 fs (some (I (q1 : Nat))) q4 (some (S z)) (some (I (3 + g : Nat)))) (t1 := I 10) (t2 := I 50) (by rfl) (by rfl) p50
    have g60 : 10 ^ 60 + (3 + g) ≤ 2 ^ 200 := by
      have : (10 : Nat) ^ 60 + 3 + 2 ^ 80 ≤ 2 ^ 200 := by decide +kernel
      omega
    have n2 := test_t (call3 (m3 := mC (.int 2)) (t3 := I 2) j2 j3 (by rfl) (numbers_nat (10 ^ 60 + (3 + g)) (10 ^ 50) 2 (by omega) g60 (by decide +kernel) (by decide)))
    exact if_n (or_ff (not_ok n1) (not_ok n2))
  have s8 : mIf (mAnd (mTest (mS2 fEq (mCall f__law_pick [(.lend 1), (.val (mC (.int 4)))]) (mC (.int 1)))) (mNot (mTest (mCall f__law_trying [])))) (mRet (mC (.bl false))) mNext (lE sc 34 fs (some (I (q1 : Nat))) q4 (some (S z)) (some (I (3 + g : Nat)))) = .nx (lE sc 35 fs (some (I (q1 : Nat))) q4 (some (S z)) (some (I (3 + g : Nat)))) := by
    have q : fEq (.int (pk fs 34 4)) (.int 1) = some (.bl (decide (pk fs 34 4 = 1))) := by simp [fEq, eqD, D.toV?, scal]
    have k := test_t (s2_ok (f := fEq) (b := mC (.int 1)) (t2 := I 1) (pick_lE (sc := sc) (k := 34) (fs := fs) (a := some (I (q1 : Nat))) (b := q4) (c := some (S z)) (d := some (I (3 + g : Nat))) (n := 4) (m := mC (.int 4)) (fun _ => rfl) (by decide)) (by rfl) q)
    have t := not_ok (test_t (call0 (ρ := lE sc 35 fs (some (I (q1 : Nat))) q4 (some (S z)) (some (I (3 + g : Nat)))) trying_ok))
    by_cases h : pk fs 34 4 = 1
    · rw [decide_eq_true h] at k
      exact if_n (and_tf k t)
    · rw [decide_eq_false h] at k
      exact if_n (and_f k)
  have s9 := ret_ok (call0 (ρ := lE sc 35 fs (some (I (q1 : Nat))) q4 (some (S z)) (some (I (3 + g : Nat)))) refused_ok)
  refine fun_rt (b := m_law) (ρ := lE sc 35 fs (some (I (q1 : Nat))) q4 (some (S z)) (some (I (3 + g : Nat)))) ?_ rfl
  refine Eq.trans (seq_nx s1) ?_
  refine Eq.trans (seq_nx s2) ?_
  refine Eq.trans (seq_nx (Eq.trans (for_ok it) s3)) ?_
  refine Eq.trans (seq_nx s4) ?_
  refine Eq.trans (seq_nx s5) ?_
  refine Eq.trans (seq_nx s6) ?_
  refine Eq.trans (seq_nx s7) ?_
  exact Eq.trans (seq_nx s8) s9
end Law


namespace Law
open PySem PySem.Spec PyProof.Rows L2 He Q
/-! ### the head, the end -/
abbrev R : PySem.W.OpenRow := PySem.W.OpenLaw.row PySem.Challenge.rw_nodisguise_k88_rings_apart
abbrev hk : PySem.W.Hook := hookQ 5 ts fn
def ob (s : PySem.W.SharedT) : Al := obsQG 5 ts fn (HandSHeadRun.getT s)
theorem ob_eq (s : PySem.W.SharedT) : ob s = hk.obs s.abs := obsQG_eq (HandSHeadRun.getT_eq s)
def names : List PySem.Str := (["DisguiseError", "BadLetters", "BadNumber", "BadCase", "SMALL", "FIGURES", "SIGNS", "MOST_SIGNS", "is_int", "is_letters", "plain_form", "check_number", "check_letters", "power_of", "LEAST_RING", "check_ring", "ring_pairs", "ring_bound", "ring_most", "even_names"] : List PySem.Str) ++ (["seconds_count", "ring_names", "even_most", "_law_purse", "_law_pick", "_law_ring_letters", "_law_near", "_law_two_near", "_law_most", "_law_is_int", "_law_names_right", "_law_great", "_law_numbers", "_law_trying", "_law_pairs", "_law_word_of", "_law_refused"] : List PySem.Str)
set_option maxHeartbeats 0 in
theorem run (w : World) : HandSHeadRun.RunEq R (PySem.W.view R.prog [42]) hk ob 20000 names w := by
  intro os
  kernel_rfl
end Law
open PySem PySem.W PySem.Calls PyProof.Rows in
set_option maxHeartbeats 0 in
theorem PySem.Challenge.cw_nodisguise_k88_rings_apart_holds : PySem.Challenge.rw_nodisguise_k88_rings_apart.Holds := by
  w_on; o_law
  refine HandSHeadRun.head_any (r := OpenLaw.row PySem.Challenge.rw_nodisguise_k88_rings_apart) (q := view (OpenLaw.row PySem.Challenge.rw_nodisguise_k88_rings_apart).prog [42]) (H := Law.hk) (ob := Law.ob) (M := 20000) (loose := Law.names) (d := HandSHeadRun.topDef (OpenLaw.row PySem.Challenge.rw_nodisguise_k88_rings_apart).prog 42) (kwd := []) Law.ob_eq
    (by kernel_rfl) (fun s => by kernel_rfl) Law.run (by kernel_rfl) (by kernel_rfl) (by kernel_rfl) (by rfl) (by first | assumption | decide +kernel) (by decide +kernel) ⟨rfl, rfl, rfl, rfl, rfl, by decide +kernel⟩ ?hw ?hc
  case hw => w_witness2
  case hc =>
    refine Q.walkQ (l := PySem.Challenge.rw_nodisguise_k88_rings_apart) (n := 63) (k := 47) (x := "script") (m := Law.f_law) rfl (by decide) (by kernel_rfl) ⟨rfl, by decide, by decide⟩ ?F Law.law_true
    intro w mg h Y G
    obtain ⟨K, KX, c⟩ := Y
    refine ⟨K, KX, fun base _ _ => ?_⟩
    have e : (HandSHeadRun.topDef (OpenLaw.row PySem.Challenge.rw_nodisguise_k88_rings_apart).prog 42).name = ("law" : PySem.Str) := by kernel_rfl
    rw [e]
    exact Law.ok_law ⟨⟨h, KX, G⟩, c⟩
