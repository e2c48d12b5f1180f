import PyProof.Rows.All
import Wide.All
import OpenK.AllK
import Wide.FinOn
import HandS.ForMost
import HandS.ForExc
import HandS.Defaults
import HandS.Style
import HandS.Flow
import HandS.IsInst
import HandS.DictComp
import HandS.Walk
import HandS.Conv
import HandS.More
import HandS.Small
import HandS.Strs
import HandS.SetKeys
import HandS.SortInts
import HandS.Wide
import HandS.Lambda
import HandS.TryMany
import HandS.ExcField
import HandS.ExcIs
import HandS.ExcInit
import HandS.ExcValue
import HandS.Zip
import HandS.Head0
import HandS.Head1
import HandS.Head2
import HandS.HeadEnd
import HandS.HeadHook1
import HandS.HeadHook2
import HandS.HeadHook3
import HandS.HeadHook4
import HandS.HeadWalk
import PySem.Challenge.RW_flatsum_k07_whole_edges_added
import KE.GoesMore
import KE.GoesEnumKw
import HandS.TupAny
import KE.KExcInit
import KE.KTryMore
import KE.KExcIs
import KE.KIsAll
import HandS.ExcOwn
import HandS.Exc
import PyProof.ExcBaseAll.RuntimeError
import HandS.SetFor
import HandS.FStrTup
import HandS.EndTab
/-! K07M -/
set_option linter.all false
set_option Elab.async false
namespace K07
/-! ### paths and cycles of a map on numbers -/
/-- each number of the list goes to the next one, the last to z -/
def Pth (f : Nat → Nat) : List Nat → Nat → Prop
  | [], _ => True
  | x :: r, z => f x = r.headD z ∧ Pth f r z
theorem headD_app (l r : List Nat) (z : Nat) : (l ++ r).headD z = l.headD (r.headD z) := by cases l <;> rfl
theorem pth_app {f : Nat → Nat} : ∀ {l r : List Nat} {z : Nat}, Pth f (l ++ r) z ↔ Pth f l (r.headD z) ∧ Pth f r z
  | [], r, z => ⟨fun h => ⟨True.intro, h⟩, fun h => h.2⟩
  | x :: l, r, z => by
    show (f x = (l ++ r).headD z ∧ Pth f (l ++ r) z) ↔ ((f x = l.headD (r.headD z) ∧ Pth f l (r.headD z)) ∧ Pth f r z)
    rw [headD_app, pth_app (l := l)]
    exact ⟨fun ⟨a, b, c⟩ => ⟨⟨a, b⟩, c⟩, fun ⟨⟨a, b⟩, c⟩ => ⟨a, b, c⟩⟩
theorem pth_redir {f f' g : Nat → Nat} : ∀ {l : List Nat} {z : Nat}, Pth f l z → (∀ x ∈ l, f' x = g (f x)) → (∀ y ∈ l.tail, g y = y) → Pth f' l (g z)
  | [], _, _, _, _ => True.intro
  | [x], z, h, hf, _ => ⟨by rw [hf x (by simp), h.1]; rfl, True.intro⟩
  | x :: y :: r, z, h, hf, hg => by
    refine ⟨?_, pth_redir (l := y :: r) h.2 (fun w hw => hf w (by simp at hw ⊢; exact .inr hw)) (fun w hw => hg w (by simp at hw ⊢; exact .inr hw))⟩
    rw [hf x (by simp), h.1]
    exact hg y (by simp)
theorem pth_congr {f f' : Nat → Nat} {l : List Nat} {z : Nat} (h : Pth f l z) (e : ∀ x ∈ l, f' x = f x) : Pth f' l z :=
  pth_redir (g := id) h e fun _ _ => rfl
theorem pth_all {f : Nat → Nat} {S : Nat → Prop} : ∀ {l : List Nat} {z : Nat}, Pth f l z → (∀ x ∈ l, S x → S (f x)) → S (l.headD z) → ∀ y ∈ l, S y
  | [], _, _, _, _, y, hy => by simp at hy
  | x :: r, z, h, hS, h0, y, hy => by
    rcases List.mem_cons.mp hy with e | hy
    · rw [e]; exact h0
    · exact pth_all (l := r) h.2 (fun w hw => hS w (List.mem_cons_of_mem _ hw)) (by rw [← h.1]; exact hS x (by simp) h0) y hy
/-- a cycle -/
def Cyc (f : Nat → Nat) (l : List Nat) : Prop := Pth f l (l.headD 0)
theorem headD_ne {l : List Nat} (h : l ≠ []) (a b : Nat) : l.headD a = l.headD b := by cases l with
  | nil => exact absurd rfl h
  | cons x r => rfl
theorem cyc_rot {f : Nat → Nat} {X Y : List Nat} {c : Nat} (h : Cyc f (X ++ c :: Y)) : Cyc f (c :: Y ++ X) := by
  unfold Cyc at h ⊢
  obtain ⟨h1, h2⟩ := pth_app.mp h
  have e : (X ++ c :: Y).headD 0 = X.headD c := by rw [headD_app]; rfl
  rw [e] at h2
  exact pth_app.mpr ⟨h2, h1⟩
theorem cyc_mem {f : Nat → Nat} {l : List Nat} {x : Nat} (h : Cyc f l) (hx : x ∈ l) : f x ∈ l := by
  obtain ⟨X, Y, rfl⟩ := List.append_of_mem hx
  have h2 := cyc_rot h
  have e : f x = (Y ++ X).headD x := h2.1
  have m : (Y ++ X).headD x ∈ x :: (Y ++ X) := by
    cases q : Y ++ X with
    | nil => simp
    | cons y r => simp
  rw [← e] at m
  simp only [List.mem_cons, List.mem_append] at m ⊢
  rcases m with m | m | m
  · exact .inr (.inl m)
  · exact .inr (.inr m)
  · exact .inl m
theorem pth_pred {f : Nat → Nat} : ∀ {l : List Nat} {z y : Nat}, Pth f l z → y ∈ l.tail ∨ (y = z ∧ l ≠ []) → ∃ x ∈ l, f x = y
  | [], z, y, _, h => by
    rcases h with h | ⟨_, h⟩
    · simp at h
    · exact absurd rfl h
  | x :: r, z, y, h, hy => by
    cases r with
    | nil =>
      rcases hy with hy | ⟨hy, _⟩
      · simp at hy
      · exact ⟨x, by simp, by rw [hy]; exact h.1⟩
    | cons w r =>
      by_cases e : y = w
      · exact ⟨x, by simp, by rw [e]; exact h.1⟩
      · obtain ⟨v, hv, ev⟩ := pth_pred (l := w :: r) (y := y) h.2 (by
          rcases hy with hy | ⟨hy, _⟩
          · simp only [List.tail_cons, List.mem_cons] at hy ⊢
            rcases hy with hy | hy
            · exact absurd hy e
            · exact .inl hy
          · exact .inr ⟨hy, by simp⟩)
        exact ⟨v, List.mem_cons_of_mem _ hv, ev⟩
theorem cyc_pred {f : Nat → Nat} {l : List Nat} {y : Nat} (h : Cyc f l) (hy : y ∈ l) : ∃ x ∈ l, f x = y := by
  cases l with
  | nil => simp at hy
  | cons a r =>
    refine pth_pred h ?_
    rcases List.mem_cons.mp hy with e | hy
    · exact .inr ⟨e, by simp⟩
    · exact .inl hy
theorem cyc_all {f : Nat → Nat} {S : Nat → Prop} {l : List Nat} {x : Nat} (h : Cyc f l) (hS : ∀ x ∈ l, S x → S (f x)) (hx : x ∈ l) (h0 : S x) : ∀ y ∈ l, S y := by
  obtain ⟨X, Y, rfl⟩ := List.append_of_mem hx
  have h2 := cyc_rot h
  intro y hy
  refine pth_all (S := S) h2 (fun w hw => hS w ?_) h0 y ?_
  · simp only [List.mem_cons, List.mem_append, List.cons_append] at hw ⊢
    rcases hw with hw | hw | hw
    · exact .inr (.inl hw)
    · exact .inr (.inr hw)
    · exact .inl hw
  · simp only [List.mem_cons, List.mem_append, List.cons_append] at hy ⊢
    rcases hy with hy | hy | hy
    · exact .inr (.inr hy)
    · exact .inl hy
    · exact .inr (.inl hy)
theorem pth_get {f : Nat → Nat} : ∀ {l : List Nat} {z i d : Nat}, Pth f l z → l[i]? = some d → f d = (l[i + 1]?).getD z
  | [], _, _, _, _, e => by simp at e
  | x :: r, z, 0, d, h, e => by
    simp only [List.getElem?_cons_zero, Option.some.injEq] at e
    subst e
    rw [h.1]
    cases r <;> simp
  | x :: r, z, i + 1, d, h, e => by
    simp only [List.getElem?_cons_succ] at e ⊢
    exact pth_get h.2 e
/-- what (place + 1) % len gives -/
theorem cyc_next {f : Nat → Nat} {l : List Nat} {i d : Nat} (h : Cyc f l) (e : l[i]? = some d) : l[(i + 1) % l.length]? = some (f d) := by
  have hi : i < l.length := (List.getElem?_eq_some_iff.mp e).1
  have q := pth_get h e
  by_cases hl : i + 1 < l.length
  · rw [Nat.mod_eq_of_lt hl, q]
    rw [List.getElem?_eq_getElem hl]
    rfl
  · have e1 : i + 1 = l.length := by omega
    rw [e1, Nat.mod_self, q, e1]
    rw [List.getElem?_eq_none (Nat.le_refl _)]
    cases l with
    | nil => simp at hi
    | cons x r => rfl
/-- cycles that share a number have the same numbers -/
theorem cyc_same {f : Nat → Nat} {l l' : List Nat} {x : Nat} (h : Cyc f l) (h' : Cyc f l') (hx : x ∈ l) (hx' : x ∈ l') : ∀ y, y ∈ l ↔ y ∈ l' := fun y =>
  ⟨fun hy => cyc_all (S := (· ∈ l')) h (fun w _ hw => cyc_mem h' hw) hx hx' y hy, fun hy => cyc_all (S := (· ∈ l)) h' (fun w _ hw => cyc_mem h hw) hx' hx y hy⟩
/-! ### sets of cycles -/
structure Dcs (f : Nat → Nat) (D : List (List Nat)) : Prop where
  cyc : ∀ l ∈ D, Cyc f l
  ne : ∀ l ∈ D, l ≠ []
  nd : D.flatten.Nodup
theorem headD_mem {l : List Nat} {z : Nat} (h : l ≠ []) : l.headD z ∈ l := by cases l with
  | nil => exact absurd rfl h
  | cons x r => simp
theorem Dcs.mid {f : Nat → Nat} {A B : List (List Nat)} {l : List Nat} (h : Dcs f (A ++ l :: B)) : Dcs f (A ++ B) ∧ Cyc f l ∧ l ≠ [] ∧ l.Nodup ∧ ∀ x ∈ l, x ∉ (A ++ B).flatten := by
  have nd := h.nd
  rw [List.flatten_append, List.flatten_cons] at nd
  obtain ⟨n1, n2, n3⟩ := List.nodup_append.mp nd
  obtain ⟨n4, n5, n6⟩ := List.nodup_append.mp n2
  refine ⟨⟨fun x hx => h.cyc x ?_, fun x hx => h.ne x ?_, ?_⟩, h.cyc l (by simp), h.ne l (by simp), n4, fun x hx hm => ?_⟩
  · simp only [List.mem_append, List.mem_cons] at hx ⊢
    exact hx.elim .inl fun q => .inr (.inr q)
  · simp only [List.mem_append, List.mem_cons] at hx ⊢
    exact hx.elim .inl fun q => .inr (.inr q)
  · rw [List.flatten_append]
    exact List.nodup_append.mpr ⟨n1, n5, fun a ha b hb => n3 a ha b (List.mem_append_right _ hb)⟩
  · rw [List.flatten_append] at hm
    rcases List.mem_append.mp hm with hm | hm
    · exact n3 x hm x (List.mem_append_left _ hx) rfl
    · exact n6 x hx x hm rfl
def cnt (k : Nat → Nat) (s : Nat) (D : List (List Nat)) : Nat := D.countP fun l => k (l.headD 0) == s
/-- how many cycles bear a key does not depend on the way in which they are told -/
theorem cnt_eq {f k : Nat → Nat} {s : Nat} : ∀ {D D' : List (List Nat)}, Dcs f D → Dcs f D' → (∀ d, d ∈ D.flatten ↔ d ∈ D'.flatten) → (∀ d ∈ D.flatten, k (f d) = k d) → cnt k s D = cnt k s D'
  | [], D', h, h', m, hk => by
    cases D' with
    | nil => rfl
    | cons l B =>
      have e := (m (l.headD 0)).mpr (List.mem_flatten.mpr ⟨l, by simp, headD_mem (h'.ne l (by simp))⟩)
      simp at e
  | l :: D, D', h, h', m, hk => by
    have hl0 := headD_mem (z := 0) (h.ne l (by simp))
    obtain ⟨l', hl', hx⟩ := List.mem_flatten.mp ((m (l.headD 0)).mp (List.mem_flatten.mpr ⟨l, by simp, hl0⟩))
    obtain ⟨A, B, rfl⟩ := List.append_of_mem hl'
    obtain ⟨g1, g2, g3, g4, g5⟩ := Dcs.mid (A := []) h
    obtain ⟨k1, k2, k3, k4, k5⟩ := Dcs.mid h'
    have same := cyc_same g2 k2 hl0 hx
    have key : ∀ y ∈ l, k y = k (l.headD 0) := cyc_all (S := fun y => k y = k (l.headD 0)) g2 (fun w hw e => by rw [hk w (List.mem_flatten.mpr ⟨l, by simp, hw⟩)]; exact e) hl0 rfl
    have e1 : k (l'.headD 0) = k (l.headD 0) := key _ ((same _).mpr (headD_mem k3))
    have ih := cnt_eq (k := k) (s := s) (D := D) (D' := A ++ B) g1 k1 (fun d => by
      constructor
      · intro hd
        have hd' := (m d).mp (by rw [List.flatten_cons]; exact List.mem_append_right _ hd)
        rw [List.flatten_append, List.flatten_cons] at hd'
        rw [List.flatten_append]
        simp only [List.mem_append] at hd' ⊢
        rcases hd' with q | q | q
        · exact .inl q
        · exact absurd hd (g5 d ((same d).mpr q))
        · exact .inr q
      · intro hd
        have hd' := (m d).mpr (by
          rw [List.flatten_append] at hd
          rw [List.flatten_append, List.flatten_cons]
          simp only [List.mem_append] at hd ⊢
          exact hd.elim .inl fun q => .inr (.inr q))
        rw [List.flatten_cons] at hd'
        rcases List.mem_append.mp hd' with q | q
        · exact absurd hd (k5 d ((same d).mp q))
        · exact q) (fun d hd => hk d (by rw [List.flatten_cons]; exact List.mem_append_right _ hd))
    unfold cnt at ih ⊢
    rw [List.countP_cons, List.countP_append, List.countP_cons, ih, List.countP_append, e1]
    omega
/-- all numbers below N, in cycles -/
structure Dec (f : Nat → Nat) (N : Nat) (D : List (List Nat)) : Prop extends Dcs f D where
  mem : ∀ d, d ∈ D.flatten ↔ d < N
/-- the cycles of l and l' that begin with their least number are one -/
theorem pth_eq {f : Nat → Nat} : ∀ {l l' : List Nat} {z z' : Nat}, Pth f l z → Pth f l' z' → l.length = l'.length → l.headD z = l'.headD z' → l = l'
  | [], [], _, _, _, _, _, _ => rfl
  | [], _ :: _, _, _, _, _, e, _ => by simp at e
  | _ :: _, [], _, _, _, _, e, _ => by simp at e
  | x :: r, y :: r', z, z', h, h', e, e0 => by
    have exy : x = y := e0
    subst exy
    rw [pth_eq (l := r) (l' := r') h.2 h'.2 (by simpa using e) (by rw [← h.1, ← h'.1])]
theorem len_same {l l' : List Nat} (n : l.Nodup) (n' : l'.Nodup) (m : ∀ y, y ∈ l ↔ y ∈ l') : l.length = l'.length :=
  ((List.perm_ext_iff_of_nodup n n').mpr m).length_eq
theorem cyc_one {f : Nat → Nat} {l l' : List Nat} {x : Nat} (h : Cyc f l) (h' : Cyc f l') (n : l.Nodup) (n' : l'.Nodup) (b : ∀ y ∈ l, l.headD 0 ≤ y) (b' : ∀ y ∈ l', l'.headD 0 ≤ y) (hx : x ∈ l) (hx' : x ∈ l') : l = l' := by
  have m := cyc_same h h' hx hx'
  have hl : l ≠ [] := fun q => by rw [q] at hx; simp at hx
  have hl' : l' ≠ [] := fun q => by rw [q] at hx'; simp at hx'
  refine pth_eq h h' (len_same n n' m) ?_
  have a := b _ ((m _).mpr (headD_mem (z := 0) hl'))
  have c := b' _ ((m _).mp (headD_mem (z := 0) hl))
  rw [headD_ne hl _ 0, headD_ne hl' _ 0]
  omega
theorem nodup_of_mem {D : List (List Nat)} {l : List Nat} (n : D.flatten.Nodup) (h : l ∈ D) : l.Nodup := by
  obtain ⟨A, B, rfl⟩ := List.append_of_mem h
  rw [List.flatten_append, List.flatten_cons] at n
  exact (List.nodup_append.mp (List.nodup_append.mp n).2.1).1
theorem in_one {D : List (List Nat)} {l l' : List Nat} {x : Nat} (n : D.flatten.Nodup) (h : l ∈ D) (h' : l' ∈ D) (hx : x ∈ l) (hx' : x ∈ l') : l = l' := by
  obtain ⟨A, B, rfl⟩ := List.append_of_mem h
  rw [List.flatten_append, List.flatten_cons] at n
  obtain ⟨n1, n2, n3⟩ := List.nodup_append.mp n
  obtain ⟨n4, n5, n6⟩ := List.nodup_append.mp n2
  rcases List.mem_append.mp h' with q | q
  · exact absurd rfl (n3 x (List.mem_flatten.mpr ⟨l', q, hx'⟩) x (List.mem_append_left _ hx))
  · rcases List.mem_cons.mp q with q | q
    · exact q.symm
    · exact absurd rfl (n6 x hx x (List.mem_flatten.mpr ⟨l', q, hx'⟩))
theorem mid_of_mem {D : List (List Nat)} {l : List Nat} (h : l ∈ D) : ∃ A B, D = A ++ l :: B := List.append_of_mem h
/-- a map with such cycles is one to one -/
theorem Dec.inj {f : Nat → Nat} {N : Nat} {D : List (List Nat)} (h : Dec f N D) {x y : Nat} (hx : x < N) (hy : y < N) (e : f x = f y) : x = y := by
  obtain ⟨l, hl, hxl⟩ := List.mem_flatten.mp ((h.mem x).mpr hx)
  obtain ⟨l', hl', hyl⟩ := List.mem_flatten.mp ((h.mem y).mpr hy)
  have a := cyc_mem (h.cyc l hl) hxl
  have b := cyc_mem (h.cyc l' hl') hyl
  rw [e] at a
  have q := in_one h.nd hl hl' a b
  subst q
  have n := nodup_of_mem h.nd hl
  obtain ⟨X, Y, rfl⟩ := List.append_of_mem hxl
  have c := cyc_rot (h.cyc _ hl)
  by_cases exy : y = x
  · exact exy.symm
  -- rotate so that x comes first; x goes to the second, so nothing else does
  have n2 : (x :: Y ++ X).Nodup := by
    have p : (x :: Y ++ X).Perm (X ++ x :: Y) := List.perm_append_comm
    exact p.nodup_iff.mpr n
  have hy2 : y ∈ Y ++ X := by
    simp only [List.mem_append, List.mem_cons] at hyl ⊢
    rcases hyl with q | q | q
    · exact .inr q
    · exact absurd q exy
    · exact .inl q
  have c1 : f x = (Y ++ X).headD x := c.1
  have c2 : Pth f (Y ++ X) x := c.2
  cases hq : Y ++ X with
  | nil => rw [hq] at hy2; simp at hy2
  | cons w r =>
    rw [hq] at c1 c2 hy2
    have n3 : (x :: w :: r).Nodup := by rw [← hq]; exact n2
    have fx : f x = w := c1
    -- y in w :: r goes into r or to x
    have key : ∀ {l : List Nat} {z : Nat}, Pth f l z → ∀ y ∈ l, f y ∈ l.tail ∨ f y = z := by
      intro l
      induction l with
      | nil => intro z _ y hy; simp at hy
      | cons a l ih =>
        intro z hp y hy
        rcases List.mem_cons.mp hy with q | q
        · subst q
          rw [hp.1]
          cases l with
          | nil => exact .inr rfl
          | cons b l => exact .inl (by simp)
        · rcases ih hp.2 y q with z1 | z1
          · exact .inl (List.mem_of_mem_tail z1)
          · exact .inr z1
    rcases key c2 y hy2 with z | z
    · rw [← e, fx] at z
      have z' : w ∈ r := z
      exact absurd z' (List.nodup_cons.mp (List.nodup_cons.mp n3).2).1
    · rw [← e, fx] at z
      have := (List.nodup_cons.mp n3).1
      rw [← z] at this
      simp at this
theorem Dec.lt {f : Nat → Nat} {N : Nat} {D : List (List Nat)} (h : Dec f N D) {x : Nat} (hx : x < N) : f x < N := by
  obtain ⟨l, hl, hxl⟩ := List.mem_flatten.mp ((h.mem x).mpr hx)
  exact (h.mem _).mp (List.mem_flatten.mpr ⟨l, hl, cyc_mem (h.cyc l hl) hxl⟩)
end K07
/-! K07M2 -/
set_option linter.all false
set_option Elab.async false
namespace K07
/-! ### the walk along a cycle -/
structure Wk (f : Nat → Nat) (N : Nat) (D : List (List Nat)) (l : List Nat) (st dart : Nat) : Prop where
  dcs : Dcs f D
  dlt : ∀ d ∈ D.flatten, d < N
  hd : ∀ z, l.headD z = st
  ne : l ≠ []
  pth : Pth f l dart
  nd : (D.flatten ++ l).Nodup
  lt : ∀ d ∈ l, d < N
  dl : dart < N
theorem last_get {l : List Nat} (h : l ≠ []) : l[l.length - 1]? = some (l.getLast h) := by
  rw [List.getLast_eq_getElem, List.getElem?_eq_getElem]
theorem nodup_get {l : List Nat} (n : l.Nodup) {i j : Nat} {x : Nat} (a : l[i]? = some x) (b : l[j]? = some x) : i = j := by
  obtain ⟨hi, ei⟩ := List.getElem?_eq_some_iff.mp a
  obtain ⟨hj, ej⟩ := List.getElem?_eq_some_iff.mp b
  have p := List.pairwise_iff_getElem.mp (List.nodup_iff_pairwise_ne.mp n)
  rcases Nat.lt_trichotomy i j with q | q | q
  · exact absurd (ei.trans ej.symm) (p i j hi hj q)
  · exact q
  · exact absurd (ej.trans ei.symm) (p j i hj hi q)
section
variable {f : Nat → Nat} {N : Nat} {D : List (List Nat)} {l : List Nat} {st dart : Nat}
theorem Wk.step (h : Wk f N D l st dart) (inj : ∀ x y, x < N → y < N → f x = f y → x = y) : dart ∉ D.flatten ∧ (dart ∈ l → dart = st) := by
  have hlen : 0 < l.length := List.length_pos_iff.mpr h.ne
  have eL := last_get h.ne
  have fL : f (l.getLast h.ne) = dart := by
    have q := pth_get h.pth eL
    rw [q, List.getElem?_eq_none (by omega)]
    rfl
  have ltL := h.lt _ (List.getLast_mem h.ne)
  obtain ⟨n1, n2, n3⟩ := List.nodup_append.mp h.nd
  refine ⟨fun hm => ?_, fun hm => ?_⟩
  · obtain ⟨l', hl', hd⟩ := List.mem_flatten.mp hm
    obtain ⟨y, hy, ey⟩ := cyc_pred (h.dcs.cyc l' hl') hd
    have hy' : y ∈ D.flatten := List.mem_flatten.mpr ⟨l', hl', hy⟩
    have e := inj _ _ (h.dlt y hy') ltL (ey.trans fL.symm)
    exact n3 y hy' _ (List.getLast_mem h.ne) e
  · obtain ⟨i, hi, ei⟩ := List.mem_iff_getElem.mp hm
    have gi : l[i]? = some dart := by rw [List.getElem?_eq_getElem hi, ei]
    cases i with
    | zero =>
      have q := h.hd 0
      cases l with
      | nil => simp at hi
      | cons x r =>
        simp at gi
        rw [← gi]
        exact q
    | succ j =>
      have hj : j < l.length := by omega
      have gj : l[j]? = some l[j] := List.getElem?_eq_getElem hj
      have fj := pth_get h.pth gj
      rw [gi] at fj
      have e := inj _ _ (h.lt _ (List.getElem_mem hj)) ltL (fj.trans fL.symm)
      rw [e] at gj
      have := nodup_get n2 gj eL
      omega
/-- the walk goes on -/
theorem Wk.on (h : Wk f N D l st dart) (inj : ∀ x y, x < N → y < N → f x = f y → x = y) (lt : ∀ x, x < N → f x < N) (hn : dart ≠ st) : Wk f N D (l ++ [dart]) st (f dart) := by
  obtain ⟨a, b⟩ := h.step inj
  refine ⟨h.dcs, h.dlt, fun z => ?_, by simp, pth_app.mpr ⟨h.pth, rfl, True.intro⟩, ?_, fun d hd => ?_, lt _ h.dl⟩
  · rw [headD_app]
    exact h.hd _
  · rw [← List.append_assoc]
    refine List.nodup_append.mpr ⟨h.nd, by simp, fun x hx y hy e => ?_⟩
    simp only [List.mem_singleton] at hy
    subst hy
    subst e
    rcases List.mem_append.mp hx with q | q
    · exact a q
    · exact hn (b q)
  · rcases List.mem_append.mp hd with q | q
    · exact h.lt d q
    · simp only [List.mem_singleton] at q
      rw [q]
      exact h.dl
/-- it is back -/
theorem Wk.done (h : Wk f N D l st dart) (e : dart = st) : Dcs f (D ++ [l]) ∧ (∀ d ∈ (D ++ [l]).flatten, d < N) ∧ (∀ d, d ∈ (D ++ [l]).flatten ↔ d ∈ D.flatten ∨ d ∈ l) := by
  have hf : (D ++ [l]).flatten = D.flatten ++ l := by rw [List.flatten_append]; simp
  refine ⟨⟨fun x hx => ?_, fun x hx => ?_, by rw [hf]; exact h.nd⟩, fun d hd => ?_, fun d => by rw [hf, List.mem_append]⟩
  · rcases List.mem_append.mp hx with q | q
    · exact h.dcs.cyc x q
    · simp only [List.mem_singleton] at q
      subst q
      unfold Cyc
      rw [h.hd, ← e]
      exact h.pth
  · rcases List.mem_append.mp hx with q | q
    · exact h.dcs.ne x q
    · simp only [List.mem_singleton] at q
      subst q
      exact h.ne
  · rw [hf] at hd
    rcases List.mem_append.mp hd with q | q
    · exact h.dlt d q
    · exact h.lt d q
theorem Wk.start (hD : Dcs f D) (hl : ∀ d ∈ D.flatten, d < N) (lt : ∀ x, x < N → f x < N) (hs : st < N) (hn : st ∉ D.flatten) : Wk f N D [st] st (f st) :=
  ⟨hD, hl, fun _ => rfl, by simp, ⟨rfl, True.intro⟩, List.nodup_append.mpr ⟨hD.nd, by simp, fun x hx y hy e => by
    simp only [List.mem_singleton] at hy
    subst hy
    subst e
    exact hn hx⟩, fun d hd => by simp only [List.mem_singleton] at hd; rw [hd]; exact hs, lt _ hs⟩
theorem nodup_len {l : List Nat} (n : l.Nodup) (h : ∀ d ∈ l, d < N) : l.length ≤ N := by
  have e : (l.filter fun d => d < N) = l := List.filter_eq_self.mpr fun d hd => decide_eq_true (h d hd)
  have p : ((List.range N).filter fun d => d ∈ l).Perm l := (List.perm_ext_iff_of_nodup (List.nodup_range.sublist List.filter_sublist |> id) n).mpr fun d => by
    rw [List.mem_filter, List.mem_range, decide_eq_true_iff]
    exact ⟨fun q => q.2, fun q => ⟨h d q, q⟩⟩
  rw [← p.length_eq]
  have := (List.filter_sublist (p := fun d => decide (d ∈ l)) (l := List.range N)).length_le
  rw [List.length_range] at this
  exact this
theorem Wk.len (h : Wk f N D l st dart) : l.length ≤ N := nodup_len (List.nodup_append.mp h.nd).2.1 h.lt
end
/-! ### graphs -/
def opp (d : Nat) : Nat := if d % 2 = 0 then d + 1 else d - 1
theorem opp_opp (d : Nat) : opp (opp d) = d := by
  unfold opp
  split
  · rw [if_neg (by omega)]; omega
  · rw [if_pos (by omega)]; omega
theorem opp_lt {d m : Nat} : opp d < 2 * m ↔ d < 2 * m := by
  unfold opp
  split <;> omega
theorem opp_cast (d : Nat) : ((opp d : Nat) : Int) = (d : Int) + 1 - 2 * ((d : Int) % 2) := by
  unfold opp
  split <;> omega
structure Hg (S : Nat → Prop) (G : List (List Nat)) (nx tl : Nat → Nat) : Prop where
  nd : G.flatten.Nodup
  mem : ∀ d, d ∈ G.flatten ↔ S d
  nx : ∀ r ∈ G, Cyc nx r
  tl : ∀ (i : Nat) (r : List Nat) (d : Nat), G[i]? = some r → d ∈ r → tl d = i
theorem split_at {α : Type} {G : List α} {u : Nat} {r : α} (h : G[u]? = some r) : ∃ A B, G = A ++ r :: B ∧ A.length = u := by
  obtain ⟨hi, e⟩ := List.getElem?_eq_some_iff.mp h
  refine ⟨G.take u, G.drop (u + 1), ?_, by rw [List.length_take]; omega⟩
  rw [← e]
  have q := List.take_append_drop u G
  rw [List.drop_eq_getElem_cons hi] at q
  exact q.symm
theorem set_split {α : Type} {A B : List α} {r r' : α} {u : Nat} (h : A.length = u) : (A ++ r :: B).set u r' = A ++ r' :: B := by
  subst h
  simp
theorem Hg.put {S : Nat → Prop} {G : List (List Nat)} {nx tl nx' : Nat → Nat} {u x : Nat} {r r' : List Nat} (h : Hg S G nx tl) (hu : G[u]? = some r) (hx : ¬ S x) (hp : r'.Perm (x :: r)) (hc : Cyc nx' r')
    (ho : ∀ y, S y → y ∉ r → nx' y = nx y) : Hg (fun d => S d ∨ d = x) (G.set u r') nx' (fun d => if d = x then u else tl d) := by
  obtain ⟨A, B, rfl, hA⟩ := split_at hu
  have es : (A ++ r :: B).set u r' = A ++ r' :: B := set_split hA
  rw [es]
  have nd := h.nd
  have pf : (A ++ r' :: B).flatten.Perm (x :: (A ++ r :: B).flatten) := by
    rw [List.flatten_append, List.flatten_append, List.flatten_cons, List.flatten_cons]
    refine ((hp.append_right B.flatten).append_left A.flatten).trans ?_
    exact List.perm_middle
  have hxm : x ∉ (A ++ r :: B).flatten := fun q => hx ((h.mem x).mp q)
  refine ⟨pf.nodup_iff.mpr (List.nodup_cons.mpr ⟨hxm, nd⟩), fun d => ?_, fun r2 h2 => ?_, fun i r2 d e hd => ?_⟩
  · rw [pf.mem_iff, List.mem_cons, h.mem]
    exact ⟨fun q => q.elim .inr .inl, fun q => q.elim .inr .inl⟩
  · have old : r2 ∈ A ++ r :: B → r2 ≠ r' → r2 ∈ A ∨ r2 ∈ B → Cyc nx' r2 := fun h3 _ h4 => by
      refine pth_congr (h.nx r2 h3) fun y hy => ho y ((h.mem y).mp (List.mem_flatten.mpr ⟨r2, h3, hy⟩)) fun hyr => ?_
      rw [List.flatten_append, List.flatten_cons] at nd
      obtain ⟨n1, n2, n3⟩ := List.nodup_append.mp nd
      obtain ⟨n4, n5, n6⟩ := List.nodup_append.mp n2
      rcases h4 with q | q
      · exact n3 y (List.mem_flatten.mpr ⟨r2, q, hy⟩) y (List.mem_append_left _ hyr) rfl
      · exact n6 y hyr y (List.mem_flatten.mpr ⟨r2, q, hy⟩) rfl
    by_cases e : r2 = r'
    · rw [e]
      exact hc
    · rcases List.mem_append.mp h2 with q | q
      · exact old (List.mem_append_left _ q) e (.inl q)
      · rcases List.mem_cons.mp q with q | q
        · exact absurd q e
        · exact old (List.mem_append_right _ (List.mem_cons_of_mem _ q)) e (.inr q)
  · by_cases ei : i = u
    · subst ei
      rw [← es, List.getElem?_set_self (by simp; omega)] at e
      cases e
      rcases List.mem_cons.mp (hp.mem_iff.mp hd) with q | q
      · rw [if_pos q]
      · have : d ≠ x := fun z => hxm (by rw [← z]; exact List.mem_flatten.mpr ⟨r, by simp, q⟩)
        rw [if_neg this]
        exact h.tl _ _ _ hu q
    · rw [← es, List.getElem?_set_ne (Ne.symm ei)] at e
      have : d ≠ x := fun z => hxm (by rw [← z]; exact List.mem_flatten.mpr ⟨r2, List.mem_of_getElem? e, hd⟩)
      rw [if_neg this]
      exact h.tl _ _ _ e hd
/-- before c -/
def nxI (x c : Nat) (nx : Nat → Nat) : Nat → Nat := fun y => if y = x then c else if nx y = c then x else nx y
def nxN (x : Nat) (nx : Nat → Nat) : Nat → Nat := fun y => if y = x then x else nx y
theorem cyc_rot' {f : Nat → Nat} {X Y : List Nat} (h : Cyc f (X ++ Y)) : Cyc f (Y ++ X) := by
  cases Y with
  | nil => simpa using h
  | cons c Y => exact cyc_rot h
theorem row_ins {nx : Nat → Nat} {A B : List Nat} {x c : Nat} (h : Cyc nx (A ++ c :: B)) (n : (A ++ c :: B).Nodup) (hx : x ∉ A ++ c :: B) : Cyc (nxI x c nx) (A ++ x :: c :: B) := by
  have h2 : Pth nx (c :: B ++ A) c := cyc_rot h
  have n2 : (c :: B ++ A).Nodup := (List.perm_append_comm (l₁ := A) (l₂ := c :: B)).nodup_iff.mp n
  have hx2 : ∀ w ∈ c :: B ++ A, w ≠ x := fun w hw e => hx (by
    rw [← e]
    exact (List.perm_append_comm (l₁ := A) (l₂ := c :: B)).mem_iff.mpr hw)
  have h3 : Pth (nxI x c nx) (c :: B ++ A) x := by
    have q := pth_redir (f' := nxI x c nx) (g := fun z => if z = c then x else z) h2 (fun w hw => by
      unfold nxI
      rw [if_neg (hx2 w hw)]) (fun y hy => by
      rw [if_neg]
      intro e
      rw [e] at hy
      exact (List.nodup_cons.mp n2).1 hy)
    simpa using q
  have h4 : Cyc (nxI x c nx) ((x :: c :: B) ++ A) := ⟨by unfold nxI; rw [if_pos rfl]; rfl, h3⟩
  exact cyc_rot' h4
theorem Hg.ins {S : Nat → Prop} {G : List (List Nat)} {nx tl : Nat → Nat} {u x c : Nat} {A B : List Nat} (h : Hg S G nx tl) (hu : G[u]? = some (A ++ c :: B)) (hx : ¬ S x) :
    Hg (fun d => S d ∨ d = x) (G.set u (A ++ x :: c :: B)) (nxI x c nx) (fun d => if d = x then u else tl d) := by
  have hr := List.mem_of_getElem? hu
  have hxr : x ∉ A ++ c :: B := fun q => hx ((h.mem x).mp (List.mem_flatten.mpr ⟨_, hr, q⟩))
  refine h.put hu hx List.perm_middle (row_ins (h.nx _ hr) (nodup_of_mem h.nd hr) hxr) fun y hy hyr => ?_
  unfold nxI
  have e1 : y ≠ x := fun e => hx (e ▸ hy)
  rw [if_neg e1, if_neg]
  intro e
  obtain ⟨r2, h2, hy2⟩ := List.mem_flatten.mp ((h.mem y).mpr hy)
  have m := cyc_mem (h.nx r2 h2) hy2
  rw [e] at m
  have q := in_one h.nd h2 hr m (show c ∈ A ++ c :: B by simp)
  rw [q] at hy2
  exact hyr hy2
theorem Hg.new {S : Nat → Prop} {G : List (List Nat)} {nx tl : Nat → Nat} {u x : Nat} (h : Hg S G nx tl) (hu : G[u]? = some []) (hx : ¬ S x) :
    Hg (fun d => S d ∨ d = x) (G.set u [x]) (nxN x nx) (fun d => if d = x then u else tl d) := by
  refine h.put hu hx (List.Perm.refl _) ⟨?_, True.intro⟩ fun y hy _ => ?_
  · unfold nxN
    rw [if_pos rfl]
    rfl
  · unfold nxN
    rw [if_neg (show ¬ y = x from fun e => hx (e ▸ hy))]
/-- behind the only one -/
theorem Hg.snd {S : Nat → Prop} {G : List (List Nat)} {nx tl : Nat → Nat} {u x b : Nat} (h : Hg S G nx tl) (hu : G[u]? = some [b]) (hx : ¬ S x) :
    Hg (fun d => S d ∨ d = x) (G.set u [b, x]) (nxI x b nx) (fun d => if d = x then u else tl d) := by
  have hr := List.mem_of_getElem? hu
  have hb : nx b = b := (h.nx _ hr).1
  have hbS : S b := (h.mem b).mp (List.mem_flatten.mpr ⟨_, hr, by simp⟩)
  have ebx : b ≠ x := fun e => hx (e ▸ hbS)
  refine h.put hu hx (List.Perm.swap _ _ _) ⟨?_, ?_, True.intro⟩ fun y hy hyr => ?_
  · unfold nxI
    rw [if_neg ebx, if_pos hb]
    rfl
  · unfold nxI
    rw [if_pos rfl]
    rfl
  · unfold nxI
    have e1 : y ≠ x := fun e => hx (e ▸ hy)
    rw [if_neg e1, if_neg]
    intro e
    obtain ⟨r2, h2, hy2⟩ := List.mem_flatten.mp ((h.mem y).mpr hy)
    have m := cyc_mem (h.nx r2 h2) hy2
    rw [e] at m
    have q := in_one h.nd h2 hr m (show b ∈ [b] by simp)
    rw [q] at hy2
    exact hyr hy2
structure Gr (n m : Nat) (G : List (List Nat)) (nx tl : Nat → Nat) : Prop where
  len : G.length = n
  hg : Hg (· < 2 * m) G nx tl
theorem flatten_ne : ∀ (G : List (List Nat)), (G.filter fun r => !r.isEmpty).flatten = G.flatten
  | [] => rfl
  | r :: G => by
    cases r with
    | nil => simpa using flatten_ne G
    | cons x r => simp [flatten_ne G]
section
variable {n m : Nat} {G : List (List Nat)} {nx tl : Nat → Nat}
theorem Gr.dec (h : Gr n m G nx tl) : Dec nx (2 * m) (G.filter fun r => !r.isEmpty) :=
  ⟨⟨fun l hl => h.hg.nx l (List.mem_filter.mp hl).1, fun l hl e => by have := (List.mem_filter.mp hl).2; rw [e] at this; simp at this, by rw [flatten_ne]; exact h.hg.nd⟩, fun d => by rw [flatten_ne]; exact h.hg.mem d⟩
theorem Gr.row (h : Gr n m G nx tl) {d : Nat} (hd : d < 2 * m) : ∃ r, G[tl d]? = some r ∧ d ∈ r := by
  obtain ⟨r, hr, hm⟩ := List.mem_flatten.mp ((h.hg.mem d).mpr hd)
  obtain ⟨i, hi, e⟩ := List.mem_iff_getElem.mp hr
  have g : G[i]? = some r := by rw [List.getElem?_eq_getElem hi, e]
  rw [h.hg.tl i r d g hm]
  exact ⟨r, g, hm⟩
theorem Gr.tlt (h : Gr n m G nx tl) {d : Nat} (hd : d < 2 * m) : tl d < n := by
  obtain ⟨r, e, _⟩ := h.row hd
  rw [← h.len]
  exact (List.getElem?_eq_some_iff.mp e).1
theorem Gr.tlnx (h : Gr n m G nx tl) {d : Nat} (hd : d < 2 * m) : tl (nx d) = tl d := by
  obtain ⟨r, e, hm⟩ := h.row hd
  exact h.hg.tl _ r _ e (cyc_mem (h.hg.nx r (List.mem_of_getElem? e)) hm)
def ph (nx : Nat → Nat) (d : Nat) : Nat := nx (opp d)
theorem Gr.phlt (h : Gr n m G nx tl) : ∀ d, d < 2 * m → ph nx d < 2 * m := fun d hd => h.dec.lt (opp_lt.mpr hd)
theorem Gr.phinj (h : Gr n m G nx tl) : ∀ x y, x < 2 * m → y < 2 * m → ph nx x = ph nx y → x = y := fun x y hx hy e => by
  have q := h.dec.inj (opp_lt.mpr hx) (opp_lt.mpr hy) e
  rw [← opp_opp x, q, opp_opp]
end
end K07
/-! K07M3 -/
set_option linter.all false
set_option Elab.async false
namespace K07
/-! ### new sets of cycles, when an edge is added -/
def b1 (p : Prop) [Decidable p] : Nat := if p then 1 else 0
theorem cnt_cons (k : Nat → Nat) (s : Nat) (l : List Nat) (D : List (List Nat)) : cnt k s (l :: D) = b1 (k (l.headD 0) = s) + cnt k s D := by
  unfold cnt b1
  rw [List.countP_cons, Nat.add_comm]
  by_cases h : k (l.headD 0) = s
  · rw [if_pos h, if_pos (beq_iff_eq.mpr h)]
  · rw [if_neg h, if_neg (fun e => h (beq_iff_eq.mp e))]
theorem cnt_mid (k : Nat → Nat) (s : Nat) (A : List (List Nat)) (l : List Nat) (B : List (List Nat)) : cnt k s (A ++ l :: B) = b1 (k (l.headD 0) = s) + cnt k s (A ++ B) := by
  have e : cnt k s (A ++ l :: B) = cnt k s (l :: (A ++ B)) := (List.Perm.countP_eq _ List.perm_middle)
  rw [e, cnt_cons]
theorem cyc_redir {f f2 g : Nat → Nat} {r : List Nat} (h : Cyc f r) (e : ∀ x ∈ r, f2 x = g (f x)) (hg : ∀ y ∈ r, g y = y) : Cyc f2 r := by
  cases r with
  | nil => exact True.intro
  | cons x r =>
    have q := pth_redir (f' := f2) (g := g) h e fun y hy => hg y (List.mem_of_mem_tail hy)
    have e2 : g ((x :: r).headD 0) = (x :: r).headD 0 := hg _ (by simp)
    rw [e2] at q
    exact q
theorem key_eq {f k : Nat → Nat} {l : List Nat} {x y : Nat} (h : Cyc f l) (hk : ∀ d ∈ l, k (f d) = k d) (hx : x ∈ l) (hy : y ∈ l) : k y = k x :=
  cyc_all (S := fun y => k y = k x) h (fun w hw e => (hk w hw).trans e) hx rfl y hy
theorem build {f f2 : Nat → Nat} {m : Nat} {D D2 : List (List Nat)} (hD : Dec f (2 * m) D) (hp : D2.flatten.Perm (2 * m :: (2 * m + 1) :: D.flatten)) (hc : ∀ l ∈ D2, Cyc f2 l) (hn : ∀ l ∈ D2, l ≠ []) : Dec f2 (2 * (m + 1)) D2 := by
  have nd : (2 * m :: (2 * m + 1) :: D.flatten).Nodup := by
    refine List.nodup_cons.mpr ⟨fun q => ?_, List.nodup_cons.mpr ⟨fun q => ?_, hD.nd⟩⟩
    · rcases List.mem_cons.mp q with q | q
      · omega
      · have := (hD.mem _).mp q; omega
    · have := (hD.mem _).mp q; omega
  refine ⟨⟨hc, hn, hp.nodup_iff.mpr nd⟩, fun d => ?_⟩
  rw [hp.mem_iff, List.mem_cons, List.mem_cons, hD.mem]
  omega
/-- a cycle, begun at one of its numbers -/
theorem begun {f : Nat → Nat} {l : List Nat} {p : Nat} (h : Cyc f l) (n : l.Nodup) (hp : p ∈ l) : ∃ U, Pth f (p :: U) p ∧ (p :: U).Perm l ∧ (p :: U).Nodup := by
  obtain ⟨X, Y, rfl⟩ := List.append_of_mem hp
  have q : (p :: Y ++ X).Perm (X ++ p :: Y) := List.perm_append_comm
  exact ⟨Y ++ X, cyc_rot h, q, q.nodup_iff.mpr n⟩
section
variable {f f2 : Nat → Nat} {m : Nat} {D : List (List Nat)} {p q : Nat} {l : List Nat}
theorem flat_mid (A B : List (List Nat)) (l : List Nat) : (A ++ l :: B).flatten.Perm (l ++ (A ++ B).flatten) := by
  rw [List.flatten_append, List.flatten_cons, List.flatten_append, ← List.append_assoc, ← List.append_assoc]
  exact List.perm_append_comm.append_right _
theorem mk_split (hD : Dec f (2 * m) D) (hl : l ∈ D) (hp : p ∈ l) (hq : q ∈ l) (hpq : p ≠ q) (hf : ∀ x, x < 2 * m → f2 x = if f x = q then 2 * m + 1 else if f x = p then 2 * m else f x) (ha : f2 (2 * m) = q) (hb : f2 (2 * m + 1) = p) :
    ∃ A B D2, D = A ++ l :: B ∧ Dec f2 (2 * (m + 1)) D2 ∧ ∀ k s, cnt k s D2 = b1 (k p = s) + b1 (k q = s) + cnt k s (A ++ B) := by
  obtain ⟨A, B, rfl⟩ := mid_of_mem hl
  obtain ⟨g1, g2, g3, g4, g5⟩ := Dcs.mid hD.toDcs
  have lt : ∀ x ∈ l, x < 2 * m := fun x hx => (hD.mem x).mp (List.mem_flatten.mpr ⟨l, hl, hx⟩)
  obtain ⟨R, hR, pR, nR⟩ := begun g2 g4 hp
  have hqR : q ∈ R := by
    have := pR.mem_iff.mpr hq
    rcases List.mem_cons.mp this with e | e
    · exact absurd e.symm hpq
    · exact e
  obtain ⟨U, W, rfl⟩ := List.append_of_mem hqR
  have h2 := (pth_app (l := p :: U) (r := q :: W)).mp hR
  have nR' : ((p :: U) ++ (q :: W)).Nodup := nR
  obtain ⟨n1, n2, n3⟩ := List.nodup_append.mp nR'
  let g : Nat → Nat := fun z => if z = q then 2 * m + 1 else if z = p then 2 * m else z
  have gp : g p = 2 * m := by show (if p = q then _ else if p = p then _ else _) = _; rw [if_neg hpq, if_pos rfl]
  have gq : g q = 2 * m + 1 := by show (if q = q then _ else _) = _; rw [if_pos rfl]
  have go : ∀ y, y ≠ p → y ≠ q → g y = y := fun y h1 h2 => by show (if y = q then _ else if y = p then _ else _) = _; rw [if_neg h2, if_neg h1]
  have P1 : Pth f2 (p :: U) (2 * m + 1) := by
    rw [← gq]
    refine pth_redir h2.1 (fun x hx => hf x (lt x (pR.mem_iff.mp (List.mem_append_left (q :: W) hx)))) fun y hy => go y ?_ ?_
    · intro e; rw [e] at hy; exact (List.nodup_cons.mp n1).1 hy
    · intro e; exact n3 y (List.mem_of_mem_tail hy) q (by simp) e
  have P2 : Pth f2 (q :: W) (2 * m) := by
    rw [← gp]
    refine pth_redir h2.2 (fun x hx => hf x (lt x (pR.mem_iff.mp (List.mem_append_right (p :: U) hx)))) fun y hy => go y ?_ ?_
    · intro e; exact n3 p (by simp) y (List.mem_of_mem_tail hy) e.symm
    · intro e; rw [e] at hy; exact (List.nodup_cons.mp n2).1 hy
  have C1 : Cyc f2 (p :: U ++ [2 * m + 1]) := pth_app.mpr ⟨P1, hb, True.intro⟩
  have C2 : Cyc f2 (q :: W ++ [2 * m]) := pth_app.mpr ⟨P2, ha, True.intro⟩
  refine ⟨A, B, (p :: U ++ [2 * m + 1]) :: (q :: W ++ [2 * m]) :: (A ++ B), rfl, build hD ?_ (fun x hx => ?_) (fun x hx => ?_), fun k s => ?_⟩
  · rw [List.flatten_cons, List.flatten_cons]
    have e1 : (p :: U ++ [2 * m + 1] ++ (q :: W ++ [2 * m] ++ (A ++ B).flatten)).Perm (2 * m :: (2 * m + 1) :: ((p :: U ++ q :: W) ++ (A ++ B).flatten)) := by
      simp only [List.append_assoc, List.cons_append, List.singleton_append, List.nil_append]
      refine (List.Perm.cons p (List.perm_middle)).trans ?_
      refine (List.Perm.swap _ _ _).trans ?_
      refine (List.Perm.cons _ (?_ : List.Perm _ (2 * m :: p :: (U ++ q :: (W ++ (A ++ B).flatten))))).trans (List.Perm.swap _ _ _)
      refine (List.Perm.cons p (?_ : List.Perm _ (2 * m :: (U ++ q :: (W ++ (A ++ B).flatten))))).trans (List.Perm.swap _ _ _)
      refine (List.Perm.append_left U (List.Perm.cons q List.perm_middle)).trans ?_
      refine (List.Perm.append_left U (List.Perm.swap _ _ _)).trans ?_
      exact List.perm_middle
    refine e1.trans (List.Perm.cons _ (List.Perm.cons _ ?_))
    exact ((show (p :: U ++ q :: W).Perm l from pR).append_right _).trans (flat_mid A B l).symm
  · rcases List.mem_cons.mp hx with e | hx
    · rw [e]; exact C1
    · rcases List.mem_cons.mp hx with e | hx
      · rw [e]; exact C2
      · refine cyc_redir (g := g) (g1.cyc x hx) (fun y hy => hf y ?_) fun y hy => ?_
        · refine (hD.mem y).mp ?_
          rw [(flat_mid A B l).mem_iff]
          exact List.mem_append_right _ (List.mem_flatten.mpr ⟨x, hx, hy⟩)
        · have hy' : y ∈ (A ++ B).flatten := List.mem_flatten.mpr ⟨x, hx, hy⟩
          exact go y (fun e => g5 p hp (e ▸ hy')) (fun e => g5 q hq (e ▸ hy'))
  · rcases List.mem_cons.mp hx with e | hx
    · rw [e]; simp
    · rcases List.mem_cons.mp hx with e | hx
      · rw [e]; simp
      · exact g1.ne x hx
  · rw [cnt_cons, cnt_cons]
    show b1 (k p = s) + (b1 (k q = s) + _) = _
    omega
/-- p :: U grown by a list Z of new darts -/
theorem mk_grow {Z : List Nat} {z : Nat} (hD : Dec f (2 * m) D) (hl : l ∈ D) (hp : p ∈ l) (hf : ∀ x, x < 2 * m → f2 x = if f x = p then z else f x) (hz : Z.headD p = z) (hZ : Pth f2 Z p) {News : List (List Nat)} (hN : ∀ l ∈ News, Cyc f2 l ∧ l ≠ []) (hZp : (Z ++ News.flatten).Perm [2 * m, 2 * m + 1]) :
    ∃ A B D2, D = A ++ l :: B ∧ Dec f2 (2 * (m + 1)) D2 ∧ ∀ k s, cnt k s D2 = b1 (k p = s) + cnt k s News + cnt k s (A ++ B) := by
  obtain ⟨A, B, rfl⟩ := mid_of_mem hl
  obtain ⟨g1, g2, g3, g4, g5⟩ := Dcs.mid hD.toDcs
  have lt : ∀ x ∈ l, x < 2 * m := fun x hx => (hD.mem x).mp (List.mem_flatten.mpr ⟨l, hl, hx⟩)
  obtain ⟨U, hU, pU, nU⟩ := begun g2 g4 hp
  let g : Nat → Nat := fun w => if w = p then z else w
  have gp : g p = z := if_pos rfl
  have go : ∀ y, y ≠ p → g y = y := fun y h => if_neg h
  have P1 : Pth f2 (p :: U) z := by
    rw [← gp]
    exact pth_redir hU (fun x hx => hf x (lt x (pU.mem_iff.mp hx))) fun y hy => go y fun e => by rw [e] at hy; exact (List.nodup_cons.mp nU).1 hy
  have C1 : Cyc f2 (p :: U ++ Z) := pth_app.mpr ⟨by rw [show Z.headD ((p :: U ++ Z).headD 0) = z from hz]; exact P1, hZ⟩
  refine ⟨A, B, (p :: U ++ Z) :: (News ++ (A ++ B)), rfl, build hD ?_ (fun x hx => ?_) (fun x hx => ?_), fun k s => ?_⟩
  · rw [List.flatten_cons, List.flatten_append]
    have e1 : (p :: U ++ Z ++ (News.flatten ++ (A ++ B).flatten)).Perm ((Z ++ News.flatten) ++ (p :: U ++ (A ++ B).flatten)) := by
      have x1 : p :: U ++ Z ++ (News.flatten ++ (A ++ B).flatten) = (p :: U) ++ (Z ++ News.flatten) ++ (A ++ B).flatten := by simp
      have x2 : (Z ++ News.flatten) ++ (p :: U ++ (A ++ B).flatten) = (Z ++ News.flatten) ++ (p :: U) ++ (A ++ B).flatten := by simp
      rw [x1, x2]
      exact List.perm_append_comm.append_right _
    refine e1.trans ((hZp.append_right _).trans ?_)
    exact List.Perm.cons _ (List.Perm.cons _ ((pU.append_right _).trans (flat_mid A B l).symm))
  · rcases List.mem_cons.mp hx with e | hx
    · rw [e]; exact C1
    · rcases List.mem_append.mp hx with hx | hx
      · exact (hN x hx).1
      · refine cyc_redir (g := g) (g1.cyc x hx) (fun y hy => hf y ?_) fun y hy => ?_
        · refine (hD.mem y).mp ?_
          rw [(flat_mid A B l).mem_iff]
          exact List.mem_append_right _ (List.mem_flatten.mpr ⟨x, hx, hy⟩)
        · have hy' : y ∈ (A ++ B).flatten := List.mem_flatten.mpr ⟨x, hx, hy⟩
          exact go y (fun e => g5 p hp (e ▸ hy'))
  · rcases List.mem_cons.mp hx with e | hx
    · rw [e]; simp
    · rcases List.mem_append.mp hx with hx | hx
      · exact (hN x hx).2
      · exact g1.ne x hx
  · rw [cnt_cons]
    show b1 (k p = s) + cnt k s (News ++ (A ++ B)) = _
    have e : cnt k s (News ++ (A ++ B)) = cnt k s News + cnt k s (A ++ B) := List.countP_append
    rw [e]
    omega
theorem mk_join {l' : List Nat} (hD : Dec f (2 * m) D) (hl : l ∈ D) (hl' : l' ∈ D) (hp : p ∈ l) (hq : q ∈ l') (hne : q ∉ l) (hf : ∀ x, x < 2 * m → f2 x = if f x = q then 2 * m + 1 else if f x = p then 2 * m else f x) (ha : f2 (2 * m) = q) (hb : f2 (2 * m + 1) = p) :
    ∃ R D2, Dec f2 (2 * (m + 1)) D2 ∧ (∀ k s, cnt k s D = b1 (k (l.headD 0) = s) + b1 (k (l'.headD 0) = s) + cnt k s R) ∧ ∀ k s, cnt k s D2 = b1 (k p = s) + cnt k s R := by
  obtain ⟨A, B, rfl⟩ := mid_of_mem hl
  obtain ⟨g1, g2, g3, g4, g5⟩ := Dcs.mid hD.toDcs
  have hl2 : l' ∈ A ++ B := by
    rcases List.mem_append.mp hl' with e | e
    · exact List.mem_append_left _ e
    · rcases List.mem_cons.mp e with e | e
      · exact absurd hq (e ▸ hne)
      · exact List.mem_append_right _ e
  obtain ⟨A', B', eAB⟩ := mid_of_mem hl2
  rw [eAB] at g1 g5
  obtain ⟨k1, k2, k3, k4, k5⟩ := Dcs.mid g1
  have lt : ∀ x ∈ l, x < 2 * m := fun x hx => (hD.mem x).mp (List.mem_flatten.mpr ⟨l, hl, hx⟩)
  have lt' : ∀ x ∈ l', x < 2 * m := fun x hx => (hD.mem x).mp (List.mem_flatten.mpr ⟨l', hl', hx⟩)
  obtain ⟨U, hU, pU, nU⟩ := begun g2 g4 hp
  obtain ⟨W, hW, pW, nW⟩ := begun k2 k4 hq
  have hpq : p ≠ q := fun e => hne (e ▸ hp)
  have hp' : p ∉ l' := fun e => g5 p hp (by rw [(flat_mid A' B' l').mem_iff]; exact List.mem_append_left _ e)
  let g : Nat → Nat := fun z => if z = q then 2 * m + 1 else if z = p then 2 * m else z
  have gp : g p = 2 * m := by show (if p = q then _ else if p = p then _ else _) = _; rw [if_neg hpq, if_pos rfl]
  have gq : g q = 2 * m + 1 := by show (if q = q then _ else _) = _; rw [if_pos rfl]
  have go : ∀ y, y ≠ p → y ≠ q → g y = y := fun y h1 h2 => by show (if y = q then _ else if y = p then _ else _) = _; rw [if_neg h2, if_neg h1]
  have P1 : Pth f2 (p :: U) (2 * m) := by
    rw [← gp]
    refine pth_redir hU (fun x hx => hf x (lt x (pU.mem_iff.mp hx))) fun y hy => go y ?_ ?_
    · intro e; rw [e] at hy; exact (List.nodup_cons.mp nU).1 hy
    · intro e; exact hne (e ▸ pU.mem_iff.mp (List.mem_of_mem_tail hy))
  have P2 : Pth f2 (q :: W) (2 * m + 1) := by
    rw [← gq]
    refine pth_redir hW (fun x hx => hf x (lt' x (pW.mem_iff.mp hx))) fun y hy => go y ?_ ?_
    · intro e; exact hp' (e ▸ pW.mem_iff.mp (List.mem_of_mem_tail hy))
    · intro e; rw [e] at hy; exact (List.nodup_cons.mp nW).1 hy
  have C1 : Cyc f2 (p :: U ++ (2 * m :: (q :: W ++ [2 * m + 1]))) := pth_app.mpr ⟨P1, ha, pth_app.mpr ⟨P2, hb, True.intro⟩⟩
  refine ⟨A' ++ B', (p :: U ++ (2 * m :: (q :: W ++ [2 * m + 1]))) :: (A' ++ B'), build hD ?_ (fun x hx => ?_) (fun x hx => ?_), fun k s => ?_, fun k s => ?_⟩
  · rw [List.flatten_cons]
    have e1 : (p :: U ++ (2 * m :: (q :: W ++ [2 * m + 1])) ++ (A' ++ B').flatten).Perm (2 * m :: (2 * m + 1) :: ((p :: U) ++ ((q :: W) ++ (A' ++ B').flatten))) := by
      have x1 : (p :: U ++ (2 * m :: (q :: W ++ [2 * m + 1])) ++ (A' ++ B').flatten) = (p :: U) ++ 2 * m :: ((q :: W) ++ (2 * m + 1) :: (A' ++ B').flatten) := by simp
      rw [x1]
      refine List.perm_middle.trans (List.Perm.cons _ ?_)
      refine (List.Perm.append_left (p :: U) List.perm_middle).trans ?_
      exact List.perm_middle
    refine e1.trans (List.Perm.cons _ (List.Perm.cons _ ?_))
    refine (pU.append_right _).trans ?_
    refine List.Perm.trans ?_ (flat_mid A B l).symm
    rw [eAB]
    exact ((pW.append_right _).trans (flat_mid A' B' l').symm).append_left l
  · rcases List.mem_cons.mp hx with e | hx
    · rw [e]; exact C1
    · refine cyc_redir (g := g) (k1.cyc x hx) (fun y hy => hf y ?_) fun y hy => ?_
      · refine (hD.mem y).mp ?_
        rw [(flat_mid A B l).mem_iff, eAB]
        exact List.mem_append_right _ (by rw [(flat_mid A' B' l').mem_iff]; exact List.mem_append_right _ (List.mem_flatten.mpr ⟨x, hx, hy⟩))
      · have hy' : y ∈ (A' ++ B').flatten := List.mem_flatten.mpr ⟨x, hx, hy⟩
        refine go y (fun e => g5 p hp ?_) (fun e => k5 q hq (e ▸ hy'))
        rw [(flat_mid A' B' l').mem_iff]
        exact List.mem_append_right _ (e ▸ hy')
  · rcases List.mem_cons.mp hx with e | hx
    · rw [e]; simp
    · exact k1.ne x hx
  · rw [cnt_mid, eAB, cnt_mid]
    omega
  · rw [cnt_cons]
    rfl
end
end K07
/-! K07M4 -/
set_option linter.all false
set_option Elab.async false
namespace K07
/-! ### rows grown by a dart -/
/-- a dart put into a row: before the corner, or alone -/
def putc (r : List Nat) (x : Nat) : Option Nat → List Nat
  | none => r ++ [x]
  | some c => r.take (r.idxOf c) ++ [x] ++ r.drop (r.idxOf c)
inductive Cor (G : List (List Nat)) (u : Nat) : Option Nat → Prop
  | nil (h : G[u]? = some []) : Cor G u none
  | cons {r : List Nat} {c : Nat} (h : G[u]? = some r) (hc : c ∈ r) : Cor G u (some c)
def nx1 (x : Nat) (nx : Nat → Nat) : Option Nat → Nat → Nat
  | none => nxN x nx
  | some c => nxI x c nx
theorem getD_of {α : Type} {G : List α} {u : Nat} {r d : α} (h : G[u]? = some r) : G.getD u d = r := by
  rw [List.getD_eq_getElem?_getD, h]
  rfl
theorem split_first {r : List Nat} {c : Nat} (h : c ∈ r) : ∃ A B, r = A ++ c :: B ∧ c ∉ A := by
  induction r with
  | nil => simp at h
  | cons a r ih =>
    by_cases e : a = c
    · exact ⟨[], r, by rw [e]; rfl, by simp⟩
    · rcases List.mem_cons.mp h with q | q
      · exact absurd q.symm e
      · obtain ⟨A, B, e1, e2⟩ := ih q
        refine ⟨a :: A, B, by rw [e1]; rfl, fun z => ?_⟩
        rcases List.mem_cons.mp z with z | z
        · exact e z.symm
        · exact e2 z
theorem idx_app {A B : List Nat} {c : Nat} (h : c ∉ A) : (A ++ c :: B).idxOf c = A.length := by
  induction A with
  | nil => simp
  | cons a A ih =>
    have e : (a == c) = false := by
      rw [beq_eq_false_iff_ne]
      intro z
      exact h (by rw [z]; simp)
    rw [List.cons_append, List.idxOf_cons, e, cond_false, ih (fun z => h (List.mem_cons_of_mem _ z))]
    rfl
theorem putc_some {A B : List Nat} {x c : Nat} (h : c ∉ A) : putc (A ++ c :: B) x (some c) = A ++ x :: c :: B := by
  show (A ++ c :: B).take ((A ++ c :: B).idxOf c) ++ [x] ++ (A ++ c :: B).drop ((A ++ c :: B).idxOf c) = _
  rw [idx_app h]
  simp
theorem putc_perm {r : List Nat} {x : Nat} : ∀ {oc : Option Nat}, (∀ c, oc = some c → c ∈ r) → (putc r x oc).Perm (x :: r)
  | none, _ => List.perm_append_comm
  | some c, h => by
    obtain ⟨A, B, e, n⟩ := split_first (h c rfl)
    rw [e, putc_some n]
    exact List.perm_middle
section
variable {S : Nat → Prop} {G : List (List Nat)} {nx tl : Nat → Nat} {u v x : Nat}
theorem Hg.half (h : Hg S G nx tl) (hx : ¬ S x) : ∀ {oc : Option Nat}, Cor G u oc → Hg (fun d => S d ∨ d = x) (G.set u (putc (G.getD u []) x oc)) (nx1 x nx oc) (fun d => if d = x then u else tl d)
  | _, .nil e => by
    rw [getD_of e]
    exact h.new e hx
  | _, .cons (r := r) (c := c) e hc => by
    rw [getD_of e]
    obtain ⟨A, B, rfl, n⟩ := split_first hc
    rw [putc_some n]
    exact h.ins e hx
theorem Hg.cast {T : Nat → Prop} (h : Hg S G nx tl) (e : ∀ d, S d ↔ T d) : Hg T G nx tl := ⟨h.nd, fun d => (h.mem d).trans (e d), h.nx, h.tl⟩
end
/-- the rows with the new edge's darts b (at v) and then a (at u) -/
def grow (G : List (List Nat)) (u v a b : Nat) (c1 c2 : Option Nat) : List (List Nat) :=
  (G.set v (putc (G.getD v []) b c2)).set u (putc ((G.set v (putc (G.getD v []) b c2)).getD u []) a c1)
def nx2 (u v a b : Nat) (nx : Nat → Nat) : Option Nat → Option Nat → Nat → Nat
  | none, none => if u = v then nxI a b (nxN b nx) else nxN a (nxN b nx)
  | c1, c2 => nx1 a (nx1 b nx c2) c1
def tl2 (u v a b : Nat) (tl : Nat → Nat) : Nat → Nat := fun d => if d = a then u else if d = b then v else tl d
section
variable {n m : Nat} {G : List (List Nat)} {nx tl : Nat → Nat} {u v : Nat} {c1 c2 : Option Nat}
theorem Cor.lt (h : Cor G u c1) : u < G.length := by
  cases h with
  | nil e => exact (List.getElem?_eq_some_iff.mp e).1
  | cons e _ => exact (List.getElem?_eq_some_iff.mp e).1
theorem gr2 (h : Gr n m G nx tl) (k1 : Cor G u c1) (k2 : Cor G v c2) : Gr n (m + 1) (grow G u v (2 * m) (2 * m + 1) c1 c2) (nx2 u v (2 * m) (2 * m + 1) nx c1 c2) (tl2 u v (2 * m) (2 * m + 1) tl) := by
  refine ⟨by unfold grow; rw [List.length_set, List.length_set]; exact h.len, ?_⟩
  have h1 := h.hg.half (x := 2 * m + 1) (by omega) k2
  have hS : ∀ d, ((d < 2 * m ∨ d = 2 * m + 1) ∨ d = 2 * m) ↔ d < 2 * (m + 1) := fun d => by omega
  have hx : ¬ (2 * m < 2 * m ∨ 2 * m = 2 * m + 1) := by omega
  -- the corner as it stands now
  have cor : (c1 = none → u ≠ v) → Cor (G.set v (putc (G.getD v []) (2 * m + 1) c2)) u c1 := fun hn => by
    cases k1 with
    | nil e => exact .nil (by rw [List.getElem?_set_ne (Ne.symm (hn rfl))]; exact e)
    | @cons r c e hc =>
      by_cases euv : u = v
      · subst euv
        refine .cons (r := putc (G.getD u []) (2 * m + 1) c2) (by rw [List.getElem?_set_self k2.lt]) ?_
        rw [getD_of e]
        refine (putc_perm (fun c' e' => ?_)).mem_iff.mpr (List.mem_cons_of_mem _ hc)
        cases k2 with
        | nil _ => cases e'
        | cons e2 hc2 =>
          rw [e] at e2
          cases e2
          cases e'
          exact hc2
      · exact .cons (by rw [List.getElem?_set_ne (Ne.symm euv)]; exact e) hc
  unfold grow
  by_cases hn : c1 = none → u ≠ v
  · have h2 := (h1.half (x := 2 * m) hx (cor hn)).cast hS
    have e : nx2 u v (2 * m) (2 * m + 1) nx c1 c2 = nx1 (2 * m) (nx1 (2 * m + 1) nx c2) c1 := by
      cases c1 with
      | some p => rfl
      | none =>
        cases c2 with
        | some q => rfl
        | none =>
          show (if u = v then _ else _) = _
          rw [if_neg (hn rfl)]
          rfl
    rw [e]
    exact h2
  · have hc : c1 = none := Classical.byContradiction fun q => hn fun z => absurd z q
    have euv : u = v := Classical.byContradiction fun q => hn fun _ => q
    subst hc
    subst euv
    cases k1 with
    | nil e =>
      cases k2 with
      | cons e2 hc2 =>
        rw [e] at e2
        cases e2
        simp at hc2
      | nil e2 =>
        have g1 : (G.set u (putc (G.getD u []) (2 * m + 1) none))[u]? = some [2 * m + 1] := by
          rw [List.getElem?_set_self (List.getElem?_eq_some_iff.mp e).1, getD_of e]
          rfl
        have h2 := (h1.snd g1 (x := 2 * m) hx).cast hS
        rw [getD_of g1]
        show Hg _ _ (if u = u then _ else _) _
        rw [if_pos rfl]
        exact h2
end
/-! ### sums over a component -/
def ws (w : Nat → Nat) (p : Nat → Bool) (L : List Nat) : Nat := ((L.filter p).map w).sum
theorem ws_nil (w : Nat → Nat) (p : Nat → Bool) : ws w p [] = 0 := rfl
theorem ws_cons (w : Nat → Nat) (p : Nat → Bool) (x : Nat) (L : List Nat) : ws w p (x :: L) = (if p x = true then w x else 0) + ws w p L := by
  unfold ws
  by_cases h : p x = true
  · rw [List.filter_cons_of_pos h, if_pos h, List.map_cons, List.sum_cons]
  · rw [List.filter_cons_of_neg h, if_neg h, Nat.zero_add]
theorem ws_congr {w w' : Nat → Nat} {p p' : Nat → Bool} : ∀ {L : List Nat}, (∀ x ∈ L, p x = p' x) → (∀ x ∈ L, w x = w' x) → ws w p L = ws w' p' L
  | [], _, _ => rfl
  | x :: L, h, h' => by
    rw [ws_cons, ws_cons, h x (by simp), h' x (by simp), ws_congr (fun y hy => h y (List.mem_cons_of_mem _ hy)) (fun y hy => h' y (List.mem_cons_of_mem _ hy))]
theorem ws_or {w : Nat → Nat} {p q r : Nat → Bool} : ∀ {L : List Nat}, (∀ x ∈ L, r x = (p x || q x)) → (∀ x ∈ L, p x = true → q x = true → False) → ws w r L = ws w p L + ws w q L
  | [], _, _ => rfl
  | x :: L, h, h' => by
    rw [ws_cons, ws_cons, ws_cons, h x (by simp), ws_or (L := L) (fun y hy => h y (List.mem_cons_of_mem _ hy)) (fun y hy => h' y (List.mem_cons_of_mem _ hy))]
    have := h' x (by simp)
    cases hp : p x <;> cases hq : q x <;> simp [hp, hq] at this ⊢ <;> omega
theorem ws_zero {p : Nat → Bool} : ∀ {L : List Nat} {u : Nat}, u ∉ L → ws (fun x => b1 (x = u)) p L = 0
  | [], _, _ => rfl
  | x :: L, u, h => by
    have e : b1 (x = u) = 0 := if_neg fun e => h (by rw [e]; simp)
    rw [ws_cons, ws_zero (L := L) (fun q => h (List.mem_cons_of_mem _ q)), e]
    split <;> rfl
theorem ws_at {p : Nat → Bool} : ∀ {L : List Nat} {u : Nat}, L.Nodup → u ∈ L → ws (fun x => b1 (x = u)) p L = b1 (p u = true)
  | [], _, _, h => by simp at h
  | x :: L, u, n, h => by
    rw [ws_cons]
    obtain ⟨n1, n2⟩ := List.nodup_cons.mp n
    by_cases e : x = u
    · subst e
      rw [ws_zero n1]
      unfold b1
      rw [if_pos rfl]
      rfl
    · rcases List.mem_cons.mp h with q | q
      · exact absurd q.symm e
      · rw [ws_at (L := L) n2 q]
        have e0 : b1 (x = u) = 0 := if_neg e
        rw [e0]
        split <;> omega
theorem ws_add {w w' : Nat → Nat} {p : Nat → Bool} : ∀ {L : List Nat}, ws (fun x => w x + w' x) p L = ws w p L + ws w' p L
  | [] => rfl
  | x :: L => by
    rw [ws_cons, ws_cons, ws_cons, ws_add (L := L)]
    split <;> omega
/-! ### marks and numbers -/
structure Mk (n m : Nat) (tl mk : Nat → Nat) : Prop where
  lt : ∀ v, v < n → mk v ≤ v
  id : ∀ v, v < n → mk (mk v) = mk v
  edge : ∀ d, d < 2 * m → mk (tl d) = mk (tl (opp d))
  conn : ∀ S : Nat → Prop, (∀ d, d < 2 * m → S (tl d) → S (tl (opp d))) → ∀ u v, u < n → v < n → mk u = mk v → S u → S v
def dg (G : List (List Nat)) (v : Nat) : Nat := (G.getD v []).length
def emp (G : List (List Nat)) (s : Nat) : Nat := b1 (G.getD s [] = [])
def szc (n : Nat) (mk : Nat → Nat) (s : Nat) : Nat := ws (fun _ => 1) (fun v => mk v == s) (List.range n)
def dgc (n : Nat) (G : List (List Nat)) (mk : Nat → Nat) (s : Nat) : Nat := ws (dg G) (fun v => mk v == s) (List.range n)
structure NumAt (n : Nat) (G : List (List Nat)) (tl mk : Nat → Nat) (D : List (List Nat)) (z : Int) (s : Nat) : Prop where
  at_ : ∃ e, dgc n G mk s = 2 * e ∧ z = (szc n mk s : Int) - e + ((cnt (fun d => mk (tl d)) s D + emp G s : Nat) : Int)
structure Stt (n m : Nat) (G : List (List Nat)) (nx tl mk : Nat → Nat) (N : Nat → Int) : Prop where
  gr : Gr n m G nx tl
  mrk : Mk n m tl mk
  num : ∃ D, Dec (ph nx) (2 * m) D ∧ ∀ s, s < n → mk s = s → NumAt n G tl mk D (N s) s
section
variable {n m : Nat} {G : List (List Nat)} {nx tl mk : Nat → Nat} {N : Nat → Int} {u v : Nat} {c1 c2 : Option Nat}
theorem key_ph (h : Gr n m G nx tl) (k : Mk n m tl mk) : ∀ d, d < 2 * m → mk (tl (ph nx d)) = mk (tl d) := fun d hd => by
  unfold ph
  rw [h.tlnx (opp_lt.mpr hd)]
  exact (k.edge d hd).symm
/-- any way of telling the faces will do -/
theorem Stt.num' (h : Stt n m G nx tl mk N) {D : List (List Nat)} (hD : Dec (ph nx) (2 * m) D) {s : Nat} (hs : s < n) (e : mk s = s) : NumAt n G tl mk D (N s) s := by
  obtain ⟨D0, h0, q⟩ := h.num
  obtain ⟨e', e1, e2⟩ := (q s hs e).at_
  refine ⟨e', e1, ?_⟩
  have c := cnt_eq (k := fun d => mk (tl d)) (s := s) hD.toDcs h0.toDcs (fun d => (hD.mem d).trans (h0.mem d).symm) fun d hd => key_ph h.gr h.mrk d ((hD.mem d).mp hd)
  rw [c]
  exact e2
/-- alone -/
theorem iso (h : Gr n m G nx tl) (k : Mk n m tl mk) {s w : Nat} (hs : s < n) (hG : G.getD s [] = []) (hw : w < n) (e : mk w = mk s) : w = s := by
  refine k.conn (fun x => x = s) (fun d hd q => ?_) s w hs hw e.symm rfl
  obtain ⟨r, e1, e2⟩ := h.row hd
  rw [q] at e1
  rw [getD_of e1] at hG
  rw [hG] at e2
  simp at e2
theorem Cor.row {c : Nat} (h : Cor G u (some c)) {r : List Nat} (e : G[u]? = some r) : c ∈ r := by
  cases h with
  | cons e2 hc =>
    rw [e] at e2
    cases e2
    exact hc
theorem Cor.dart (h : Gr n m G nx tl) {c : Nat} (k : Cor G u (some c)) : c < 2 * m ∧ tl c = u ∧ G.getD u [] ≠ [] := by
  cases k with
  | cons e hc =>
    refine ⟨(h.hg.mem c).mp (List.mem_flatten.mpr ⟨_, List.mem_of_getElem? e, hc⟩), h.hg.tl _ _ _ e hc, fun q => ?_⟩
    rw [getD_of e] at q
    rw [q] at hc
    simp at hc
theorem Cor.empty (k : Cor G u none) : G.getD u [] = [] := by
  cases k with
  | nil e => exact getD_of e
/-- the lengths of the rows -/
theorem dg_set {u w : Nat} {r : List Nat} (hu : u < G.length) (hr : r.length = dg G u + 1) : dg (G.set u r) w = dg G w + b1 (w = u) := by
  unfold dg b1
  by_cases e : w = u
  · subst e
    rw [if_pos rfl, getD_of (List.getElem?_set_self hu), hr]
    rfl
  · rw [if_neg e, List.getD_eq_getElem?_getD, List.getElem?_set_ne (Ne.symm e), ← List.getD_eq_getElem?_getD]
    rfl
theorem putc_len {r : List Nat} {x : Nat} {oc : Option Nat} : (putc r x oc).length = r.length + 1 := by
  cases oc with
  | none => simp [putc]
  | some c =>
    unfold putc
    simp only [List.length_append, List.length_take, List.length_drop, List.length_singleton]
    omega
theorem dg_grow {a b w : Nat} (hu : u < G.length) (hv : v < G.length) : dg (grow G u v a b c1 c2) w = dg G w + b1 (w = v) + b1 (w = u) := by
  unfold grow
  rw [dg_set (by rw [List.length_set]; exact hu) (by rw [putc_len]; rfl), dg_set hv (by rw [putc_len]; rfl)]
theorem emp_dg {s : Nat} : emp G s = b1 (dg G s = 0) := by
  unfold emp dg b1
  by_cases e : G.getD s [] = []
  · rw [if_pos e, if_pos (by rw [e]; rfl)]
  · rw [if_neg e, if_neg (fun q => e (List.length_eq_zero_iff.mp q))]
theorem emp_grow {a b s : Nat} (hu : u < G.length) (hv : v < G.length) : emp (grow G u v a b c1 c2) s = if s = u ∨ s = v then 0 else emp G s := by
  rw [emp_dg, emp_dg, dg_grow hu hv]
  by_cases e1 : s = u
  · rw [if_pos (Or.inl e1), show b1 (s = u) = 1 from if_pos e1]
    exact if_neg (by omega)
  · by_cases e2 : s = v
    · rw [if_pos (Or.inr e2), show b1 (s = v) = 1 from if_pos e2]
      exact if_neg (by omega)
    · rw [if_neg (show ¬ (s = u ∨ s = v) from fun q => q.elim e1 e2), show b1 (s = u) = 0 from if_neg e1, show b1 (s = v) = 0 from if_neg e2]
      rfl
theorem dgc_grow {a b s : Nat} {mk' : Nat → Nat} (hl : G.length = n) (hu : u < n) (hv : v < n) : dgc n (grow G u v a b c1 c2) mk' s = dgc n G mk' s + b1 (mk' v = s) + b1 (mk' u = s) := by
  unfold dgc
  rw [ws_congr (p := fun v => mk' v == s) (p' := fun v => mk' v == s) (w' := fun w => (dg G w + b1 (w = v)) + b1 (w = u)) (fun _ _ => rfl) (fun w _ => dg_grow (by omega) (by omega))]
  rw [ws_add (w := fun w => dg G w + b1 (w = v)), ws_add (w := dg G), ws_at List.nodup_range (List.mem_range.mpr hv), ws_at List.nodup_range (List.mem_range.mpr hu)]
  unfold b1
  simp only [beq_iff_eq]
end
end K07
/-! K07M5 -/
set_option linter.all false
set_option Elab.async false
namespace K07
theorem opp_a (m : Nat) : opp (2 * m) = 2 * m + 1 := by unfold opp; rw [if_pos (by omega)]
theorem opp_b (m : Nat) : opp (2 * m + 1) = 2 * m := by unfold opp; rw [if_neg (by omega)]; omega
section
variable {n m : Nat} {G : List (List Nat)} {nx tl mk : Nat → Nat} {N : Nat → Int} {u v p q : Nat}
theorem nxI_old {x c y : Nat} (h : y ≠ x) : nxI x c nx y = if nx y = c then x else nx y := if_neg h
theorem nxI_self {x c : Nat} : nxI x c nx x = c := if_pos rfl
theorem nxN_old {x y : Nat} (h : y ≠ x) : nxN x nx y = nx y := if_neg h
theorem nxN_self {x : Nat} : nxN x nx x = x := if_pos rfl
theorem ph_ss (hp : p < 2 * m) (hq : q < 2 * m) (hpq : p ≠ q) :
    (∀ x, x < 2 * m → ph (nx2 u v (2 * m) (2 * m + 1) nx (some p) (some q)) x = if ph nx x = q then 2 * m + 1 else if ph nx x = p then 2 * m else ph nx x) ∧
    ph (nx2 u v (2 * m) (2 * m + 1) nx (some p) (some q)) (2 * m) = q ∧ ph (nx2 u v (2 * m) (2 * m + 1) nx (some p) (some q)) (2 * m + 1) = p := by
  show (∀ x, x < 2 * m → nxI (2 * m) p (nxI (2 * m + 1) q nx) (opp x) = _) ∧ nxI (2 * m) p (nxI (2 * m + 1) q nx) (opp (2 * m)) = _ ∧ nxI (2 * m) p (nxI (2 * m + 1) q nx) (opp (2 * m + 1)) = _
  refine ⟨fun x hx => ?_, ?_, ?_⟩
  · have ho := opp_lt.mpr hx
    rw [nxI_old (by omega), nxI_old (by omega)]
    show _ = if nx (opp x) = q then _ else if nx (opp x) = p then _ else nx (opp x)
    by_cases e : nx (opp x) = q
    · rw [if_pos e, if_neg (by omega), if_pos e]
    · rw [if_neg e, if_neg e]
  · rw [opp_a, nxI_old (by omega), nxI_self, if_neg (Ne.symm hpq)]
  · rw [opp_b, nxI_self]
theorem ph_s1 (hp : p < 2 * m) :
    (∀ x, x < 2 * m → ph (nx2 u v (2 * m) (2 * m + 1) nx (some p) (some p)) x = if ph nx x = p then 2 * m + 1 else ph nx x) ∧
    ph (nx2 u v (2 * m) (2 * m + 1) nx (some p) (some p)) (2 * m) = 2 * m ∧ ph (nx2 u v (2 * m) (2 * m + 1) nx (some p) (some p)) (2 * m + 1) = p := by
  show (∀ x, x < 2 * m → nxI (2 * m) p (nxI (2 * m + 1) p nx) (opp x) = _) ∧ nxI (2 * m) p (nxI (2 * m + 1) p nx) (opp (2 * m)) = _ ∧ nxI (2 * m) p (nxI (2 * m + 1) p nx) (opp (2 * m + 1)) = _
  refine ⟨fun x hx => ?_, ?_, ?_⟩
  · have ho := opp_lt.mpr hx
    rw [nxI_old (by omega), nxI_old (by omega)]
    show _ = if nx (opp x) = p then _ else nx (opp x)
    by_cases e : nx (opp x) = p
    · rw [if_pos e, if_neg (by omega)]
    · rw [if_neg e, if_neg e]
  · rw [opp_a, nxI_old (by omega), nxI_self, if_pos rfl]
  · rw [opp_b, nxI_self]
theorem ph_ns (hq : q < 2 * m) :
    (∀ x, x < 2 * m → ph (nx2 u v (2 * m) (2 * m + 1) nx none (some q)) x = if ph nx x = q then 2 * m + 1 else ph nx x) ∧
    ph (nx2 u v (2 * m) (2 * m + 1) nx none (some q)) (2 * m) = q ∧ ph (nx2 u v (2 * m) (2 * m + 1) nx none (some q)) (2 * m + 1) = 2 * m := by
  show (∀ x, x < 2 * m → nxN (2 * m) (nxI (2 * m + 1) q nx) (opp x) = _) ∧ nxN (2 * m) (nxI (2 * m + 1) q nx) (opp (2 * m)) = _ ∧ nxN (2 * m) (nxI (2 * m + 1) q nx) (opp (2 * m + 1)) = _
  refine ⟨fun x hx => ?_, ?_, ?_⟩
  · have ho := opp_lt.mpr hx
    rw [nxN_old (by omega), nxI_old (by omega)]
    rfl
  · rw [opp_a, nxN_old (by omega), nxI_self]
  · rw [opp_b, nxN_self]
theorem ph_sn (hp : p < 2 * m) :
    (∀ x, x < 2 * m → ph (nx2 u v (2 * m) (2 * m + 1) nx (some p) none) x = if ph nx x = p then 2 * m else ph nx x) ∧
    ph (nx2 u v (2 * m) (2 * m + 1) nx (some p) none) (2 * m) = 2 * m + 1 ∧ ph (nx2 u v (2 * m) (2 * m + 1) nx (some p) none) (2 * m + 1) = p := by
  show (∀ x, x < 2 * m → nxI (2 * m) p (nxN (2 * m + 1) nx) (opp x) = _) ∧ nxI (2 * m) p (nxN (2 * m + 1) nx) (opp (2 * m)) = _ ∧ nxI (2 * m) p (nxN (2 * m + 1) nx) (opp (2 * m + 1)) = _
  refine ⟨fun x hx => ?_, ?_, ?_⟩
  · have ho := opp_lt.mpr hx
    rw [nxI_old (by omega), nxN_old (by omega)]
    rfl
  · rw [opp_a, nxI_old (by omega), nxN_self, if_neg (by omega)]
  · rw [opp_b, nxI_self]
theorem ph_nn (huv : u ≠ v) :
    (∀ x, x < 2 * m → ph (nx2 u v (2 * m) (2 * m + 1) nx none none) x = ph nx x) ∧
    ph (nx2 u v (2 * m) (2 * m + 1) nx none none) (2 * m) = 2 * m + 1 ∧ ph (nx2 u v (2 * m) (2 * m + 1) nx none none) (2 * m + 1) = 2 * m := by
  have e : nx2 u v (2 * m) (2 * m + 1) nx none none = nxN (2 * m) (nxN (2 * m + 1) nx) := if_neg huv
  rw [e]
  show (∀ x, x < 2 * m → nxN (2 * m) (nxN (2 * m + 1) nx) (opp x) = _) ∧ nxN (2 * m) (nxN (2 * m + 1) nx) (opp (2 * m)) = _ ∧ nxN (2 * m) (nxN (2 * m + 1) nx) (opp (2 * m + 1)) = _
  refine ⟨fun x hx => ?_, ?_, ?_⟩
  · have ho := opp_lt.mpr hx
    rw [nxN_old (by omega), nxN_old (by omega)]
    rfl
  · rw [opp_a, nxN_old (by omega), nxN_self]
  · rw [opp_b, nxN_self]
theorem ph_n1 :
    (∀ x, x < 2 * m → nx (opp x) < 2 * m → ph (nx2 u u (2 * m) (2 * m + 1) nx none none) x = ph nx x) ∧
    ph (nx2 u u (2 * m) (2 * m + 1) nx none none) (2 * m) = 2 * m ∧ ph (nx2 u u (2 * m) (2 * m + 1) nx none none) (2 * m + 1) = 2 * m + 1 := by
  have e : nx2 u u (2 * m) (2 * m + 1) nx none none = nxI (2 * m) (2 * m + 1) (nxN (2 * m + 1) nx) := if_pos rfl
  rw [e]
  show (∀ x, x < 2 * m → _ → nxI (2 * m) (2 * m + 1) (nxN (2 * m + 1) nx) (opp x) = _) ∧ nxI (2 * m) (2 * m + 1) (nxN (2 * m + 1) nx) (opp (2 * m)) = _ ∧ nxI (2 * m) (2 * m + 1) (nxN (2 * m + 1) nx) (opp (2 * m + 1)) = _
  refine ⟨fun x hx hn => ?_, ?_, ?_⟩
  · have ho := opp_lt.mpr hx
    rw [nxI_old (by omega), nxN_old (by omega), if_neg (by omega)]
    rfl
  · rw [opp_a, nxI_old (by omega), nxN_self, if_pos rfl]
  · rw [opp_b, nxI_self]
theorem mk_free {f f2 : Nat → Nat} {D News : List (List Nat)} (hD : Dec f (2 * m) D) (hf : ∀ x, x < 2 * m → f2 x = f x) (hN : ∀ l ∈ News, Cyc f2 l ∧ l ≠ []) (hp : News.flatten.Perm [2 * m, 2 * m + 1]) :
    Dec f2 (2 * (m + 1)) (News ++ D) ∧ ∀ k s, cnt k s (News ++ D) = cnt k s News + cnt k s D := by
  refine ⟨build hD ?_ (fun x hx => ?_) (fun x hx => ?_), fun k s => List.countP_append⟩
  · rw [List.flatten_append]
    exact hp.append_right _
  · rcases List.mem_append.mp hx with h | h
    · exact (hN x h).1
    · exact pth_congr (hD.cyc x h) fun y hy => hf y ((hD.mem y).mp (List.mem_flatten.mpr ⟨x, h, hy⟩))
  · rcases List.mem_append.mp hx with h | h
    · exact (hN x h).2
    · exact hD.ne x h
/-! ### keys of the new darts -/
theorem tl2_old {a b d : Nat} (h1 : d ≠ a) (h2 : d ≠ b) : tl2 u v a b tl d = tl d := by unfold tl2; rw [if_neg h1, if_neg h2]
theorem tl2_a {a b : Nat} : tl2 u v a b tl a = u := if_pos rfl
theorem tl2_b {a b : Nat} (h : b ≠ a) : tl2 u v a b tl b = v := by unfold tl2; rw [if_neg h, if_pos rfl]
/-- an old set of cycles counts the same by the new keys -/
theorem cnt_key {k k' : Nat → Nat} {s : Nat} : ∀ {D : List (List Nat)}, (∀ l ∈ D, l ≠ []) → (∀ d ∈ D.flatten, k d = k' d) → cnt k s D = cnt k' s D
  | [], _, _ => rfl
  | l :: D, hn, h => by
    rw [cnt_cons, cnt_cons, h (l.headD 0) (List.mem_flatten.mpr ⟨l, by simp, headD_mem (hn l (by simp))⟩), cnt_key (fun x hx => hn x (List.mem_cons_of_mem _ hx)) fun d hd => h d (by rw [List.flatten_cons]; exact List.mem_append_right _ hd)]
theorem cnt_tl2 {mk' : Nat → Nat} {s : Nat} {f : Nat → Nat} {D E : List (List Nat)} (hD : Dec f (2 * m) D) (hE : ∀ l ∈ E, l ∈ D) : cnt (fun d => mk' (tl2 u v (2 * m) (2 * m + 1) tl d)) s E = cnt (fun d => mk' (tl d)) s E :=
  cnt_key (fun l hl => hD.ne l (hE l hl)) fun d hd => by
    obtain ⟨l, hl, hd2⟩ := List.mem_flatten.mp hd
    have lt := (hD.mem d).mp (List.mem_flatten.mpr ⟨l, hE l hl, hd2⟩)
    show mk' _ = mk' _
    rw [tl2_old (by omega) (by omega)]
theorem cnt_ren {k r : Nat → Nat} {lo hi : Nat} (hne : lo ≠ hi) (hr : ∀ x, r x = if x = hi then lo else x) : ∀ (D : List (List Nat)), cnt (fun d => r (k d)) lo D = cnt k lo D + cnt k hi D
  | [] => rfl
  | l :: D => by
    rw [cnt_cons, cnt_cons, cnt_cons, cnt_ren hne hr D, hr]
    unfold b1
    by_cases e : k (l.headD 0) = hi
    · rw [if_pos e, if_pos rfl, if_pos e, if_neg (fun z => hne (z.symm.trans e))]
      omega
    · rw [if_neg e, if_neg e]
      omega
theorem cnt_ren' {k r : Nat → Nat} {lo hi s : Nat} (h1 : s ≠ lo) (h2 : s ≠ hi) (hr : ∀ x, r x = if x = hi then lo else x) : ∀ (D : List (List Nat)), cnt (fun d => r (k d)) s D = cnt k s D
  | [] => rfl
  | l :: D => by
    rw [cnt_cons, cnt_cons, cnt_ren' h1 h2 hr D, hr]
    unfold b1
    by_cases e : k (l.headD 0) = hi
    · rw [if_pos e, if_neg (Ne.symm h1), if_neg (fun z => h2 (z.symm.trans e))]
    · rw [if_neg e]
end
end K07
/-! K07M6 -/
set_option linter.all false
set_option Elab.async false
namespace K07
theorem b1_pos {p : Prop} [Decidable p] (h : p) : b1 p = 1 := if_pos h
theorem b1_neg {p : Prop} [Decidable p] (h : ¬ p) : b1 p = 0 := if_neg h
section
variable {n m : Nat} {G : List (List Nat)} {nx tl mk : Nat → Nat} {N : Nat → Int} {u v : Nat} {c1 c2 : Option Nat}
/-- the marks stay, where both ends bear one mark -/
theorem mk_same (h : Gr n m G nx tl) (k : Mk n m tl mk) (hu : u < n) (hv : v < n) (e : mk u = mk v) : Mk n (m + 1) (tl2 u v (2 * m) (2 * m + 1) tl) mk := by
  refine ⟨k.lt, k.id, fun d hd => ?_, fun S hS x y hx hy exy sx => k.conn S (fun d hd q => ?_) x y hx hy exy sx⟩
  · by_cases h1 : d = 2 * m
    · rw [h1, opp_a, tl2_a, tl2_b (by omega)]
      exact e
    · by_cases h2 : d = 2 * m + 1
      · rw [h2, opp_b, tl2_a, tl2_b (by omega)]
        exact e.symm
      · have hd' : d < 2 * m := by omega
        have ho := opp_lt.mpr hd'
        rw [tl2_old h1 h2, tl2_old (by omega) (by omega)]
        exact k.edge d hd'
  · have ho := opp_lt.mpr hd
    have q' := hS d (by omega) (by rw [tl2_old (by omega) (by omega)]; exact q)
    rw [tl2_old (by omega) (by omega)] at q'
    exact q'
/-- two marks become one -/
theorem mk_join2 (h : Gr n m G nx tl) (k : Mk n m tl mk) (hu : u < n) (hv : v < n) {lo hi : Nat} (hlt : lo < hi) (e : (mk u = lo ∧ mk v = hi) ∨ (mk u = hi ∧ mk v = lo)) :
    Mk n (m + 1) (tl2 u v (2 * m) (2 * m + 1) tl) (fun w => if mk w = hi then lo else mk w) := by
  have elo : mk lo = lo := by
    rcases e with ⟨e1, _⟩ | ⟨_, e1⟩
    · rw [← e1]; exact k.id u hu
    · rw [← e1]; exact k.id v hv
  have old : ∀ d, d < 2 * m → tl2 u v (2 * m) (2 * m + 1) tl d = tl d ∧ tl2 u v (2 * m) (2 * m + 1) tl (opp d) = tl (opp d) := fun d hd => by
    have ho := opp_lt.mpr hd
    exact ⟨tl2_old (by omega) (by omega), tl2_old (by omega) (by omega)⟩
  have ku : (if mk u = hi then lo else mk u) = lo := by
    rcases e with ⟨e1, _⟩ | ⟨e1, _⟩
    · rw [e1, if_neg (by omega)]
    · rw [e1, if_pos rfl]
  have kv : (if mk v = hi then lo else mk v) = lo := by
    rcases e with ⟨_, e1⟩ | ⟨_, e1⟩
    · rw [e1, if_pos rfl]
    · rw [e1, if_neg (by omega)]
  refine ⟨fun w hw => ?_, fun w hw => ?_, fun d hd => ?_, fun S hS x y hx hy exy sx => ?_⟩
  · have := k.lt w hw
    show (if mk w = hi then lo else mk w) ≤ w
    split <;> omega
  · show (if mk (if mk w = hi then lo else mk w) = hi then lo else mk (if mk w = hi then lo else mk w)) = (if mk w = hi then lo else mk w)
    by_cases q : mk w = hi
    · rw [if_pos q, elo, if_neg (by omega)]
    · rw [if_neg q, k.id w hw, if_neg q]
  · show (if mk (tl2 u v (2 * m) (2 * m + 1) tl d) = hi then lo else mk (tl2 u v (2 * m) (2 * m + 1) tl d)) = (if mk (tl2 u v (2 * m) (2 * m + 1) tl (opp d)) = hi then lo else mk (tl2 u v (2 * m) (2 * m + 1) tl (opp d)))
    by_cases h1 : d = 2 * m
    · rw [h1, opp_a, tl2_a, tl2_b (by omega), ku, kv]
    · by_cases h2 : d = 2 * m + 1
      · rw [h2, opp_b, tl2_a, tl2_b (by omega), ku, kv]
      · have hd' : d < 2 * m := by omega
        rw [(old d hd').1, (old d hd').2, k.edge d hd']
  · have closed : ∀ d, d < 2 * m → S (tl d) → S (tl (opp d)) := fun d hd q => by
      have q' := hS d (by omega) (by rw [(old d hd).1]; exact q)
      rw [(old d hd).2] at q'
      exact q'
    have uv : S u → S v := fun q => by
      have q' := hS (2 * m) (by omega) (by rw [tl2_a]; exact q)
      rw [opp_a, tl2_b (by omega)] at q'
      exact q'
    have vu : S v → S u := fun q => by
      have q' := hS (2 * m + 1) (by omega) (by rw [tl2_b (by omega)]; exact q)
      rw [opp_b, tl2_a] at q'
      exact q'
    have exy' : (if mk x = hi then lo else mk x) = (if mk y = hi then lo else mk y) := exy
    by_cases exy2 : mk x = mk y
    · exact k.conn S closed x y hx hy exy2 sx
    · have c : (mk x = mk u ∧ mk y = mk v) ∨ (mk x = mk v ∧ mk y = mk u) := by
        by_cases q1 : mk x = hi
        · rw [if_pos q1] at exy'
          by_cases q2 : mk y = hi
          · exact absurd (q1.trans q2.symm) exy2
          · rw [if_neg q2] at exy'
            rcases e with ⟨e1, e2⟩ | ⟨e1, e2⟩
            · exact .inr ⟨q1.trans e2.symm, exy'.symm.trans e1.symm⟩
            · exact .inl ⟨q1.trans e1.symm, exy'.symm.trans e2.symm⟩
        · rw [if_neg q1] at exy'
          by_cases q2 : mk y = hi
          · rw [if_pos q2] at exy'
            rcases e with ⟨e1, e2⟩ | ⟨e1, e2⟩
            · exact .inl ⟨exy'.trans e1.symm, q2.trans e2.symm⟩
            · exact .inr ⟨exy'.trans e2.symm, q2.trans e1.symm⟩
          · rw [if_neg q2] at exy'
            exact absurd exy' exy2
      rcases c with ⟨c1, c2⟩ | ⟨c1, c2⟩
      · exact k.conn S closed v y hv hy c2.symm (uv (k.conn S closed x u hx hu c1 sx))
      · exact k.conn S closed u y hu hy c2.symm (vu (k.conn S closed x v hx hv c1 sx))
theorem emp_zero {s w : Nat} (h : Gr n m G nx tl) (k : Mk n m tl mk) (hs : s < n) (hw : w < n) (e : mk w = mk s) (hne : G.getD w [] ≠ []) : emp G s = 0 := by
  refine b1_neg fun q => hne ?_
  have z := iso h k hs q hw e
  rw [z]
  exact q
theorem emp_self {s : Nat} (h : G.getD s [] = []) : emp G s = 1 := b1_pos h
theorem mk_alone (h : Gr n m G nx tl) (k : Mk n m tl mk) (hu : u < n) (hG : G.getD u [] = []) : mk u = u :=
  iso h k hu hG (Nat.lt_of_le_of_lt (k.lt u hu) hu) (k.id u hu)
/-- face split: an edge between two corners of one face -/
theorem step_same (h : Stt n m G nx tl mk N) (hu : u < n) (hv : v < n) (k1 : Cor G u c1) (k2 : Cor G v c2) (e : mk u = mk v)
    (hf : (c1 = none ∧ c2 = none) ∨ ∃ p q D l, c1 = some p ∧ c2 = some q ∧ Dec (ph nx) (2 * m) D ∧ l ∈ D ∧ p ∈ l ∧ q ∈ l) :
    Stt n (m + 1) (grow G u v (2 * m) (2 * m + 1) c1 c2) (nx2 u v (2 * m) (2 * m + 1) nx c1 c2) (tl2 u v (2 * m) (2 * m + 1) tl) mk N := by
  have gr := gr2 h.gr k1 k2
  have mk' := mk_same h.gr h.mrk hu hv e
  have fin : ∀ {D D2 : List (List Nat)}, Dec (ph nx) (2 * m) D → Dec (ph (nx2 u v (2 * m) (2 * m + 1) nx c1 c2)) (2 * (m + 1)) D2 →
      (∀ s, s < n → mk s = s → cnt (fun d => mk (tl2 u v (2 * m) (2 * m + 1) tl d)) s D2 + emp (grow G u v (2 * m) (2 * m + 1) c1 c2) s = cnt (fun d => mk (tl d)) s D + emp G s + b1 (mk u = s)) →
      Stt n (m + 1) (grow G u v (2 * m) (2 * m + 1) c1 c2) (nx2 u v (2 * m) (2 * m + 1) nx c1 c2) (tl2 u v (2 * m) (2 * m + 1) tl) mk N := fun {D D2} hD hD2 hc => by
    refine ⟨gr, mk', D2, hD2, fun s hs es => ?_⟩
    obtain ⟨e0, z1, z2⟩ := (h.num' hD hs es).at_
    refine ⟨e0 + b1 (mk u = s), ?_, ?_⟩
    · rw [dgc_grow h.gr.len hu hv, z1, ← e]
      omega
    · rw [hc s hs es, z2]
      omega
  rcases hf with ⟨rfl, rfl⟩ | ⟨p, q, D, l, rfl, rfl, hD, hl, hp, hq⟩
  · have g1 := k1.empty
    have g2 := k2.empty
    have euv : v = u := iso h.gr h.mrk hu g1 hv e.symm
    subst euv
    have eu := mk_alone h.gr h.mrk hu g1
    obtain ⟨D, hD, _⟩ := h.num
    obtain ⟨p1, p2, p3⟩ := ph_n1 (nx := nx) (u := v) (m := m)
    have lt : ∀ x, x < 2 * m → nx (opp x) < 2 * m := fun x hx => h.gr.phlt x hx
    obtain ⟨hD2, hc⟩ := mk_free (News := [[2 * m], [2 * m + 1]]) hD (fun x hx => p1 x hx (lt x hx)) (fun l hl => by
      simp only [List.mem_cons, List.not_mem_nil, or_false] at hl
      rcases hl with rfl | rfl
      · exact ⟨⟨p2, True.intro⟩, by simp⟩
      · exact ⟨⟨p3, True.intro⟩, by simp⟩) (List.Perm.refl _)
    refine fin hD hD2 fun s hs es => ?_
    rw [hc, cnt_cons, cnt_cons, cnt_tl2 hD (fun _ z => z)]
    show b1 (mk (tl2 v v (2 * m) (2 * m + 1) tl (2 * m)) = s) + (b1 (mk (tl2 v v (2 * m) (2 * m + 1) tl (2 * m + 1)) = s) + 0) + _ + _ = _
    rw [tl2_a, tl2_b (by omega), eu, emp_grow (by rw [h.gr.len]; exact hu) (by rw [h.gr.len]; exact hu)]
    by_cases q : v = s
    · rw [b1_pos q, if_pos (Or.inl q.symm), ← q, emp_self g1]
      omega
    · rw [b1_neg q, if_neg (fun z => z.elim (fun y => q y.symm) fun y => q y.symm)]
      omega
  · obtain ⟨pl, tp, gu⟩ := k1.dart h.gr
    obtain ⟨ql, tq, gv⟩ := k2.dart h.gr
    have emps : ∀ s, emp (grow G u v (2 * m) (2 * m + 1) (some p) (some q)) s = emp G s := fun s => by
      rw [emp_grow (by rw [h.gr.len]; exact hu) (by rw [h.gr.len]; exact hv)]
      by_cases q1 : s = u ∨ s = v
      · rw [if_pos q1]
        rcases q1 with q1 | q1
        · rw [q1]; exact (b1_neg gu).symm
        · rw [q1]; exact (b1_neg gv).symm
      · rw [if_neg q1]
    have kl : ∀ s A B, D = A ++ l :: B → cnt (fun d => mk (tl d)) s D = b1 (mk u = s) + cnt (fun d => mk (tl d)) s (A ++ B) := fun s A B eD => by
      have c := key_eq (k := fun d => mk (tl d)) (hD.cyc l hl) (fun d hd => key_ph h.gr h.mrk d ((hD.mem d).mp (List.mem_flatten.mpr ⟨l, hl, hd⟩))) hp (headD_mem (z := 0) (hD.ne l hl))
      rw [eD, cnt_mid]
      have c' : mk (tl (l.headD 0)) = mk (tl p) := c
      show b1 (mk (tl (l.headD 0)) = s) + _ = _
      rw [c', tp]
    by_cases epq : p = q
    · subst epq
      obtain ⟨p1, p2, p3⟩ := ph_s1 (nx := nx) (u := u) (v := v) pl
      obtain ⟨A, B, D2, eD, hD2, hc⟩ := mk_grow (Z := [2 * m + 1]) (News := [[2 * m]]) hD hl hp p1 rfl ⟨p3, True.intro⟩ (fun l hl => by
        simp only [List.mem_cons, List.not_mem_nil, or_false] at hl
        subst hl
        exact ⟨⟨p2, True.intro⟩, by simp⟩) (List.Perm.swap _ _ _)
      refine fin hD hD2 fun s hs es => ?_
      have hE : ∀ x ∈ A ++ B, x ∈ D := fun x hx => by rw [eD]; rcases List.mem_append.mp hx with z | z <;> simp [z]
      rw [hc, cnt_cons, emps, kl s A B eD, cnt_tl2 hD hE]
      show b1 (mk (tl2 u v (2 * m) (2 * m + 1) tl p) = s) + (b1 (mk (tl2 u v (2 * m) (2 * m + 1) tl (2 * m)) = s) + 0) + _ + _ = _
      rw [tl2_a, tl2_old (by omega) (by omega), tp]
      omega
    · obtain ⟨p1, p2, p3⟩ := ph_ss (nx := nx) (u := u) (v := v) pl ql epq
      obtain ⟨A, B, D2, eD, hD2, hc⟩ := mk_split hD hl hp hq epq p1 p2 p3
      refine fin hD hD2 fun s hs es => ?_
      have hE : ∀ x ∈ A ++ B, x ∈ D := fun x hx => by rw [eD]; rcases List.mem_append.mp hx with z | z <;> simp [z]
      rw [hc, emps, kl s A B eD, cnt_tl2 hD hE]
      show b1 (mk (tl2 u v (2 * m) (2 * m + 1) tl p) = s) + b1 (mk (tl2 u v (2 * m) (2 * m + 1) tl q) = s) + _ + _ = _
      rw [tl2_old (by omega) (by omega), tl2_old (by omega) (by omega), tp, tq, ← e]
      omega
/-- faces of one component joined -/
theorem step_two {p q : Nat} {D : List (List Nat)} {l : List Nat} (h : Stt n m G nx tl mk N) (hu : u < n) (hv : v < n) (k1 : Cor G u (some p)) (k2 : Cor G v (some q)) (e : mk u = mk v)
    (hD : Dec (ph nx) (2 * m) D) (hl : l ∈ D) (hp : p ∈ l) (hq : q ∉ l) :
    Stt n (m + 1) (grow G u v (2 * m) (2 * m + 1) (some p) (some q)) (nx2 u v (2 * m) (2 * m + 1) nx (some p) (some q)) (tl2 u v (2 * m) (2 * m + 1) tl) mk (fun s => if s = mk u then N s - 2 else N s) := by
  obtain ⟨pl, tp, gu⟩ := k1.dart h.gr
  obtain ⟨ql, tq, gv⟩ := k2.dart h.gr
  obtain ⟨l', hl', hq'⟩ := List.mem_flatten.mp ((hD.mem q).mpr ql)
  have epq : p ≠ q := fun z => hq (z ▸ hp)
  obtain ⟨p1, p2, p3⟩ := ph_ss (nx := nx) (u := u) (v := v) pl ql epq
  obtain ⟨R, D2, hD2, c1, c2⟩ := mk_join hD hl hl' hp hq' hq p1 p2 p3
  have head : ∀ {x : List Nat} {y : Nat}, x ∈ D → y ∈ x → mk (tl (x.headD 0)) = mk (tl y) := fun {x y} hx hy =>
    key_eq (k := fun d => mk (tl d)) (hD.cyc x hx) (fun d hd => key_ph h.gr h.mrk d ((hD.mem d).mp (List.mem_flatten.mpr ⟨x, hx, hd⟩))) hy (headD_mem (z := 0) (hD.ne x hx))
  refine ⟨gr2 h.gr k1 k2, mk_same h.gr h.mrk hu hv e, D2, hD2, fun s hs es => ?_⟩
  obtain ⟨e0, z1, z2⟩ := (h.num' hD hs es).at_
  have eme : emp (grow G u v (2 * m) (2 * m + 1) (some p) (some q)) s = emp G s := by
    rw [emp_grow (by rw [h.gr.len]; exact hu) (by rw [h.gr.len]; exact hv)]
    by_cases q1 : s = u ∨ s = v
    · rw [if_pos q1]
      rcases q1 with q1 | q1
      · rw [q1]; exact (b1_neg gu).symm
      · rw [q1]; exact (b1_neg gv).symm
    · rw [if_neg q1]
  have x1 := c1 (fun d => mk (tl d)) s
  have x2 := c2 (fun d => mk (tl2 u v (2 * m) (2 * m + 1) tl d)) s
  have x3 : cnt (fun d => mk (tl2 u v (2 * m) (2 * m + 1) tl d)) s D2 + b1 (mk u = s) = cnt (fun d => mk (tl d)) s D := by
    have y1 : b1 (mk (tl (l.headD 0)) = s) = b1 (mk u = s) := by rw [head hl hp, tp]
    have y2 : b1 (mk (tl (l'.headD 0)) = s) = b1 (mk u = s) := by rw [head hl' hq', tq, e]
    have y3 : b1 (mk (tl2 u v (2 * m) (2 * m + 1) tl p) = s) = b1 (mk u = s) := by rw [tl2_old (by omega) (by omega), tp]
    -- the rest counts the same: by the count of the whole
    have x1' := c1 (fun d => mk (tl2 u v (2 * m) (2 * m + 1) tl d)) s
    have y1' : b1 (mk (tl2 u v (2 * m) (2 * m + 1) tl (l.headD 0)) = s) = b1 (mk u = s) := by
      have lt := (hD.mem (l.headD 0)).mp (List.mem_flatten.mpr ⟨l, hl, headD_mem (hD.ne l hl)⟩)
      rw [tl2_old (by omega) (by omega)]
      exact y1
    have y2' : b1 (mk (tl2 u v (2 * m) (2 * m + 1) tl (l'.headD 0)) = s) = b1 (mk u = s) := by
      have lt := (hD.mem (l'.headD 0)).mp (List.mem_flatten.mpr ⟨l', hl', headD_mem (hD.ne l' hl')⟩)
      rw [tl2_old (by omega) (by omega)]
      exact y2
    have w := cnt_tl2 (u := u) (v := v) (tl := tl) (mk' := mk) (s := s) hD (E := D) fun _ z => z

    rw [y1, y2] at x1
    rw [y3] at x2
    rw [y1', y2'] at x1'
    omega
  refine ⟨e0 + b1 (mk u = s), ?_, ?_⟩
  · rw [dgc_grow h.gr.len hu hv, z1, ← e]
    omega
  · show (if s = mk u then N s - 2 else N s) = _
    rw [eme, z2]
    by_cases q1 : mk u = s
    · rw [if_pos q1.symm]
      rw [b1_pos q1] at x3 ⊢
      omega
    · rw [if_neg (Ne.symm q1)]
      rw [b1_neg q1] at x3 ⊢
      omega
end
end K07
/-! K07M7 -/
set_option linter.all false
set_option Elab.async false
namespace K07
section
variable {n m : Nat} {G : List (List Nat)} {nx tl mk : Nat → Nat} {N : Nat → Int} {u v lo hi : Nat} {c1 c2 : Option Nat}
/-- an edge between two components -/
theorem step_apart (h : Stt n m G nx tl mk N) (hu : u < n) (hv : v < n) (k1 : Cor G u c1) (k2 : Cor G v c2) (hlt : lo < hi) (e : (mk u = lo ∧ mk v = hi) ∨ (mk u = hi ∧ mk v = lo)) :
    Stt n (m + 1) (grow G u v (2 * m) (2 * m + 1) c1 c2) (nx2 u v (2 * m) (2 * m + 1) nx c1 c2) (tl2 u v (2 * m) (2 * m + 1) tl) (fun w => if mk w = hi then lo else mk w) (fun s => if s = lo then N lo + N hi - 2 else N s) := by
  have gr := gr2 h.gr k1 k2
  have mk' := mk_join2 h.gr h.mrk hu hv hlt e
  have huv : mk u ≠ mk v := by rcases e with ⟨a, b⟩ | ⟨a, b⟩ <;> omega
  have euv : u ≠ v := fun z => huv (by rw [z])
  have lu : mk u < n := Nat.lt_of_le_of_lt (h.mrk.lt u hu) hu
  have lv : mk v < n := Nat.lt_of_le_of_lt (h.mrk.lt v hv) hv
  have iu := h.mrk.id u hu
  have iv := h.mrk.id v hv
  have llo : lo < n := by rcases e with ⟨a, b⟩ | ⟨a, b⟩ <;> omega
  have lhi : hi < n := by rcases e with ⟨a, b⟩ | ⟨a, b⟩ <;> omega
  have elo : mk lo = lo := by
    rcases e with ⟨a, b⟩ | ⟨a, b⟩
    · rw [← a]; exact iu
    · rw [← b]; exact iv
  have ehi : mk hi = hi := by
    rcases e with ⟨a, b⟩ | ⟨a, b⟩
    · rw [← b]; exact iv
    · rw [← a]; exact iu
  have ru : (if mk u = hi then lo else mk u) = lo := by
    rcases e with ⟨a, b⟩ | ⟨a, b⟩
    · rw [if_neg (by omega), a]
    · rw [if_pos a]
  have rv : (if mk v = hi then lo else mk v) = lo := by
    rcases e with ⟨a, b⟩ | ⟨a, b⟩
    · rw [if_pos b]
    · rw [if_neg (by omega), b]
  have esum : ∀ f : Nat → Nat, f lo + f hi = f (mk u) + f (mk v) := fun f => by
    rcases e with ⟨a, b⟩ | ⟨a, b⟩
    · rw [a, b]
    · rw [a, b]; omega
  have emu : ∀ {w : Nat}, w < n → G.getD w [] ≠ [] → emp G (mk w) = 0 := fun {w} hw hne => emp_zero h.gr h.mrk (Nat.lt_of_le_of_lt (h.mrk.lt w hw) hw) hw (h.mrk.id w hw).symm hne
  have em1 : ∀ {w : Nat}, w < n → G.getD w [] = [] → emp G (mk w) = 1 := fun {w} hw he => by rw [mk_alone h.gr h.mrk hw he]; exact emp_self he
  have keyc : ∀ {D : List (List Nat)}, Dec (ph nx) (2 * m) D → ∀ {x : List Nat} {y : Nat}, x ∈ D → y ∈ x → mk (tl (x.headD 0)) = mk (tl y) := fun {D} hD {x y} hx hy =>
    key_eq (k := fun d => mk (tl d)) (hD.cyc x hx) (fun d hd => key_ph h.gr h.mrk d ((hD.mem d).mp (List.mem_flatten.mpr ⟨x, hx, hd⟩))) hy (headD_mem (z := 0) (hD.ne x hx))
  have hdl : ∀ {D : List (List Nat)}, Dec (ph nx) (2 * m) D → ∀ {x : List Nat}, x ∈ D → x.headD 0 < 2 * m := fun {D} hD {x} hx => (hD.mem _).mp (List.mem_flatten.mpr ⟨x, hx, headD_mem (hD.ne x hx)⟩)
  obtain ⟨D, hD, _⟩ := h.num
  have main : ∃ D2, Dec (ph (nx2 u v (2 * m) (2 * m + 1) nx c1 c2)) (2 * (m + 1)) D2 ∧ ∀ s, cnt (fun d => if mk (tl2 u v (2 * m) (2 * m + 1) tl d) = hi then lo else mk (tl2 u v (2 * m) (2 * m + 1) tl d)) s D2 + b1 (lo = s) =
      cnt (fun d => if mk (tl d) = hi then lo else mk (tl d)) s D + (emp G lo + emp G hi) * b1 (lo = s) := by
    have w := fun s => cnt_tl2 (u := u) (v := v) (tl := tl) (mk' := fun w => if mk w = hi then lo else mk w) (s := s) hD (E := D) fun _ z => z
    rw [esum]
    cases c1 with
    | some p =>
      obtain ⟨pl, tp, gu⟩ := k1.dart h.gr
      obtain ⟨l, hl, hp⟩ := List.mem_flatten.mp ((hD.mem p).mpr pl)
      have hk : mk (tl (l.headD 0)) = mk u := by rw [keyc hD hl hp, tp]
      cases c2 with
      | some q =>
        obtain ⟨ql, tq, gv⟩ := k2.dart h.gr
        obtain ⟨l', hl', hq⟩ := List.mem_flatten.mp ((hD.mem q).mpr ql)
        have hk' : mk (tl (l'.headD 0)) = mk v := by rw [keyc hD hl' hq, tq]
        have hql : q ∉ l := fun z => huv (by
          have c := keyc hD hl z
          rw [hk, tq] at c
          exact c)
        have epq : p ≠ q := fun z => hql (z ▸ hp)
        obtain ⟨p1, p2, p3⟩ := ph_ss (nx := nx) (u := u) (v := v) pl ql epq
        obtain ⟨R, D2, hD2, x1, x2⟩ := mk_join hD hl hl' hp hq hql p1 p2 p3
        refine ⟨D2, hD2, fun s => ?_⟩
        rw [x2, emu hu gu, emu hv gv, ← w s, x1]
        have y1 := hdl hD hl
        have y2 := hdl hD hl'
        show b1 ((if mk (tl2 u v (2 * m) (2 * m + 1) tl p) = hi then lo else mk (tl2 u v (2 * m) (2 * m + 1) tl p)) = s) + _ + _ = b1 ((if mk (tl2 u v (2 * m) (2 * m + 1) tl (l.headD 0)) = hi then lo else mk (tl2 u v (2 * m) (2 * m + 1) tl (l.headD 0))) = s) + b1 ((if mk (tl2 u v (2 * m) (2 * m + 1) tl (l'.headD 0)) = hi then lo else mk (tl2 u v (2 * m) (2 * m + 1) tl (l'.headD 0))) = s) + _ + _
        rw [tl2_old (by omega) (by omega), tl2_old (by omega) (by omega), tl2_old (by omega) (by omega), tp, hk, hk', ru, rv]
        omega
      | none =>
        have gv := k2.empty
        obtain ⟨p1, p2, p3⟩ := ph_sn (nx := nx) (u := u) (v := v) pl
        obtain ⟨A, B, D2, eD, hD2, hc⟩ := mk_grow (Z := [2 * m, 2 * m + 1]) (News := []) hD hl hp p1 rfl ⟨p2, p3, True.intro⟩ (fun l hl => by simp at hl) (List.Perm.refl _)
        refine ⟨D2, hD2, fun s => ?_⟩
        have y1 := hdl hD hl
        rw [hc, emu hu gu, em1 hv gv, ← w s, eD, cnt_mid]
        show b1 ((if mk (tl2 u v (2 * m) (2 * m + 1) tl p) = hi then lo else mk (tl2 u v (2 * m) (2 * m + 1) tl p)) = s) + 0 + _ + _ = b1 ((if mk (tl2 u v (2 * m) (2 * m + 1) tl (l.headD 0)) = hi then lo else mk (tl2 u v (2 * m) (2 * m + 1) tl (l.headD 0))) = s) + _ + _
        rw [tl2_old (by omega) (by omega), tl2_old (by omega) (by omega), tp, hk, ru]
        omega
    | none =>
      have gu := k1.empty
      cases c2 with
      | some q =>
        obtain ⟨ql, tq, gv⟩ := k2.dart h.gr
        obtain ⟨l', hl', hq⟩ := List.mem_flatten.mp ((hD.mem q).mpr ql)
        have hk' : mk (tl (l'.headD 0)) = mk v := by rw [keyc hD hl' hq, tq]
        obtain ⟨p1, p2, p3⟩ := ph_ns (nx := nx) (u := u) (v := v) ql
        obtain ⟨A, B, D2, eD, hD2, hc⟩ := mk_grow (Z := [2 * m + 1, 2 * m]) (News := []) hD hl' hq p1 rfl ⟨p3, p2, True.intro⟩ (fun l hl => by simp at hl) (List.Perm.swap _ _ _)
        refine ⟨D2, hD2, fun s => ?_⟩
        have y1 := hdl hD hl'
        rw [hc, em1 hu gu, emu hv gv, ← w s, eD, cnt_mid]
        show b1 ((if mk (tl2 u v (2 * m) (2 * m + 1) tl q) = hi then lo else mk (tl2 u v (2 * m) (2 * m + 1) tl q)) = s) + 0 + _ + _ = b1 ((if mk (tl2 u v (2 * m) (2 * m + 1) tl (l'.headD 0)) = hi then lo else mk (tl2 u v (2 * m) (2 * m + 1) tl (l'.headD 0))) = s) + _ + _
        rw [tl2_old (by omega) (by omega), tl2_old (by omega) (by omega), tq, hk', rv]
        omega
      | none =>
        have gv := k2.empty
        obtain ⟨p1, p2, p3⟩ := ph_nn (nx := nx) (m := m) euv
        obtain ⟨hD2, hc⟩ := mk_free (News := [[2 * m, 2 * m + 1]]) hD p1 (fun l hl => by
          simp only [List.mem_cons, List.not_mem_nil, or_false] at hl
          subst hl
          exact ⟨⟨p2, p3, True.intro⟩, by simp⟩) (List.Perm.refl _)
        refine ⟨_, hD2, fun s => ?_⟩
        rw [hc, em1 hu gu, em1 hv gv, w s, cnt_cons]
        show b1 ((if mk (tl2 u v (2 * m) (2 * m + 1) tl (2 * m)) = hi then lo else mk (tl2 u v (2 * m) (2 * m + 1) tl (2 * m))) = s) + 0 + _ + _ = _
        rw [tl2_a, ru]
        omega
  obtain ⟨D2, hD2, hc⟩ := main
  refine ⟨gr, mk', D2, hD2, fun s hs es => ?_⟩
  have es' : (if mk s = hi then lo else mk s) = s := es
  have shi : s ≠ hi := fun z => by
    rw [z, ehi, if_pos rfl] at es'
    omega
  have ms : mk s = s := by
    by_cases q : mk s = hi
    · rw [if_pos q] at es'
      rw [← es', elo] at q
      omega
    · rw [if_neg q] at es'
      exact es'
  obtain ⟨e1, z1, z2⟩ := (h.num' hD llo elo).at_
  obtain ⟨e2, y1, y2⟩ := (h.num' hD lhi ehi).at_
  have hcs := hc s
  by_cases sl : s = lo
  · subst sl
    refine ⟨e1 + e2 + 1, ?_, ?_⟩
    · rw [dgc_grow h.gr.len hu hv, ru, rv]
      have q : dgc n G (fun w => if mk w = hi then s else mk w) s = dgc n G mk s + dgc n G mk hi := by
        unfold dgc
        refine ws_or (fun x hx => ?_) fun x hx a b => ?_
        · by_cases q : mk x = hi
          · simp [q]
          · simp [q]
        · rw [beq_iff_eq] at a b
          omega
      rw [q, z1, y1, b1_pos rfl]
      omega
    · show (if s = s then N s + N hi - 2 else N s) = _
      rw [if_pos rfl, z2, y2]
      have q : szc n (fun w => if mk w = hi then s else mk w) s = szc n mk s + szc n mk hi := by
        unfold szc
        refine ws_or (fun x hx => ?_) fun x hx a b => ?_
        · by_cases q : mk x = hi
          · simp [q]
          · simp [q]
        · rw [beq_iff_eq] at a b
          omega
      have q2 : emp (grow G u v (2 * m) (2 * m + 1) c1 c2) s = 0 := by
        rw [emp_grow (by rw [h.gr.len]; exact hu) (by rw [h.gr.len]; exact hv)]
        by_cases q1 : s = u ∨ s = v
        · rw [if_pos q1]
        · rw [if_neg q1]
          refine b1_neg fun z => ?_
          rcases e with ⟨a, b⟩ | ⟨a, b⟩
          · exact q1 (.inl (iso h.gr h.mrk llo z hu (a.trans elo.symm)).symm)
          · exact q1 (.inr (iso h.gr h.mrk llo z hv (b.trans elo.symm)).symm)
      rw [q, q2]
      rw [b1_pos rfl] at hcs
      have q3 : cnt (fun d => if mk (tl d) = hi then s else mk (tl d)) s D = cnt (fun d => mk (tl d)) s D + cnt (fun d => mk (tl d)) hi D := cnt_ren (r := fun x => if x = hi then s else x) (by omega) (fun _ => rfl) D
      rw [q3] at hcs
      omega
  · obtain ⟨e3, x1, x2⟩ := (h.num' hD hs ms).at_
    rw [b1_neg (Ne.symm sl)] at hcs
    have q3 : cnt (fun d => if mk (tl d) = hi then lo else mk (tl d)) s D = cnt (fun d => mk (tl d)) s D := cnt_ren' (r := fun x => if x = hi then lo else x) sl shi (fun _ => rfl) D
    rw [q3] at hcs
    have pe : ∀ x, ((if mk x = hi then lo else mk x) == s) = (mk x == s) := fun x => by
      by_cases q : mk x = hi
      · rw [if_pos q, q]
        rw [beq_eq_false_iff_ne.mpr (Ne.symm sl), beq_eq_false_iff_ne.mpr (Ne.symm shi)]
      · rw [if_neg q]
    refine ⟨e3, ?_, ?_⟩
    · rw [dgc_grow h.gr.len hu hv, ru, rv, b1_neg (Ne.symm sl)]
      rw [← x1]
      exact ws_congr (fun x _ => pe x) fun _ _ => rfl
    · show (if s = lo then N lo + N hi - 2 else N s) = _
      rw [if_neg sl, x2]
      have q : szc n (fun w => if mk w = hi then lo else mk w) s = szc n mk s := ws_congr (fun x _ => pe x) fun _ _ => rfl
      have q2 : emp (grow G u v (2 * m) (2 * m + 1) c1 c2) s = emp G s := by
        rw [emp_grow (by rw [h.gr.len]; exact hu) (by rw [h.gr.len]; exact hv)]
        rw [if_neg]
        rintro (z | z)
        · rw [z] at ms
          rw [ms] at e
          rcases e with ⟨a, b⟩ | ⟨a, b⟩
          · exact sl (z.trans a)
          · exact shi (z.trans a)
        · rw [z] at ms
          rw [ms] at e
          rcases e with ⟨a, b⟩ | ⟨a, b⟩
          · exact shi (z.trans b)
          · exact sl (z.trans b)
      rw [q, q2]
      omega
end
/-- no edge yet -/
theorem stt0 (n : Nat) : Stt n 0 (List.replicate n []) id id id (fun _ => 2) := by
  have fl : (List.replicate n ([] : List Nat)).flatten = [] := by
    induction n with
    | zero => rfl
    | succ n ih => rw [List.replicate_succ, List.flatten_cons, ih]; rfl
  have g0 : ∀ s, s < n → (List.replicate n ([] : List Nat)).getD s [] = [] := fun s hs => by
    rw [List.getD_eq_getElem?_getD, List.getElem?_replicate, if_pos hs]
    rfl
  refine ⟨⟨List.length_replicate, ⟨by rw [fl]; exact List.nodup_nil, fun d => by rw [fl]; simp, fun r hr => ?_, fun i r d e hd => ?_⟩⟩, ⟨fun v _ => Nat.le_refl _, fun _ _ => rfl, fun d hd => by omega, fun S _ u v _ _ e h => (show u = v from e) ▸ h⟩, [], ⟨⟨by simp, by simp, List.nodup_nil⟩, by simp⟩, fun s hs _ => ⟨0, ?_, ?_⟩⟩
  · rw [List.eq_of_mem_replicate hr]
    exact True.intro
  · have := List.eq_of_mem_replicate (List.mem_of_getElem? e)
    rw [this] at hd
    simp at hd
  · show ws _ _ _ = _
    rw [ws_congr (p' := fun v => id v == s) (w' := fun _ => 0) (fun _ _ => rfl) (fun x hx => by unfold dg; rw [g0 x (List.mem_range.mp hx)]; rfl)]
    have z : ∀ L : List Nat, ws (fun _ => 0) (fun v => id v == s) L = 0 := fun L => by
      induction L with
      | nil => rfl
      | cons x L ih => rw [ws_cons, ih]; split <;> rfl
    exact z _
  · have a : szc n id s = 1 := by
      unfold szc
      have key : ∀ L : List Nat, L.Nodup → s ∈ L → ws (fun _ => 1) (fun v => id v == s) L = 1 := fun L => by
        induction L with
        | nil => intro _ h; simp at h
        | cons x L ih =>
          intro hn h
          obtain ⟨n1, n2⟩ := List.nodup_cons.mp hn
          rw [ws_cons]
          by_cases q : x = s
          · have z : ∀ L : List Nat, s ∉ L → ws (fun _ => 1) (fun v => id v == s) L = 0 := fun L => by
              induction L with
              | nil => intro _; rfl
              | cons y L ih2 =>
                intro h
                rw [ws_cons, ih2 (fun z => h (List.mem_cons_of_mem _ z)), if_neg]
                intro z
                have : y = s := by simpa using z
                exact h (by rw [this]; simp)
            rw [z L (q ▸ n1), if_pos (by simpa using q)]
          · rcases List.mem_cons.mp h with z | z
            · exact absurd z.symm q
            · rw [ih n2 z, if_neg (by simpa using q)]
      exact key _ List.nodup_range (List.mem_range.mpr hs)
    have b : emp (List.replicate n []) s = 1 := emp_self (g0 s hs)
    rw [a, b]
    rfl
end K07
/-! K07M8 -/
set_option linter.all false
set_option Elab.async false
namespace K07
/-! ### components, told by their marks -/
def cls (n : Nat) (mk : Nat → Nat) (s : Nat) : List Nat := (List.range n).filter fun v => mk v == s
def reps (mk : Nat → Nat) (n : Nat) : List Nat := (List.range n).filter fun s => mk s == s
theorem mem_cls {n s v : Nat} {mk : Nat → Nat} : v ∈ cls n mk s ↔ v < n ∧ mk v = s := by
  unfold cls
  rw [List.mem_filter, List.mem_range, beq_iff_eq]
theorem mem_reps {n s : Nat} {mk : Nat → Nat} : s ∈ reps mk n ↔ s < n ∧ mk s = s := by
  unfold reps
  rw [List.mem_filter, List.mem_range, beq_iff_eq]
theorem cls_nodup (n : Nat) (mk : Nat → Nat) (s : Nat) : (cls n mk s).Nodup := List.nodup_range.sublist List.filter_sublist
theorem reps_nodup (mk : Nat → Nat) (n : Nat) : (reps mk n).Nodup := List.nodup_range.sublist List.filter_sublist
theorem reps_yes {mk : Nat → Nat} {s : Nat} (h : mk s = s) : reps mk (s + 1) = reps mk s ++ [s] := by
  unfold reps
  rw [List.range_succ, List.filter_append, List.filter_cons_of_pos (by simpa using h)]
  rfl
theorem reps_no {mk : Nat → Nat} {s : Nat} (h : mk s ≠ s) : reps mk (s + 1) = reps mk s := by
  unfold reps
  rw [List.range_succ, List.filter_append, List.filter_cons_of_neg (by simpa using h)]
  simp
theorem reps_len (mk : Nat → Nat) (n : Nat) : (reps mk n).length ≤ n := by
  have := (List.filter_sublist (p := fun s => mk s == s) (l := List.range n)).length_le
  rw [List.length_range] at this
  exact this
theorem cls_len (n : Nat) (mk : Nat → Nat) (s : Nat) : (cls n mk s).length ≤ n := by
  have := (List.filter_sublist (p := fun v => mk v == s) (l := List.range n)).length_le
  rw [List.length_range] at this
  exact this
theorem part_full {n m s : Nat} {tl mk : Nat → Nat} (k : Mk n m tl mk) {part : List Nat} (hs : s < n) (es : mk s = s) (nd : part.Nodup) (hin : ∀ v ∈ part, v < n ∧ mk v = s) (hst : s ∈ part)
    (hc : ∀ d, d < 2 * m → tl d ∈ part → tl (opp d) ∈ part) : part.Perm (cls n mk s) :=
  (List.perm_ext_iff_of_nodup nd (cls_nodup n mk s)).mpr fun v => by
    rw [mem_cls]
    exact ⟨hin v, fun ⟨a, b⟩ => k.conn (· ∈ part) hc s v hs a (es.trans b.symm) hst⟩
theorem sort_one {l : List Int} {r : List Nat} (hp : l.Perm (r.map fun (d : Nat) => (d : Int))) (hs : l.Pairwise (· ≤ ·)) (hr : r.Pairwise (· < ·)) : l = r.map fun (d : Nat) => (d : Int) := by
  refine hp.eq_of_pairwise (le := fun a b => a ≤ b) (fun a b _ _ h1 h2 => by omega) hs ?_
  rw [List.pairwise_map]
  exact hr.imp fun h => by omega
theorem cls_sorted (n : Nat) (mk : Nat → Nat) (s : Nat) : (cls n mk s).Pairwise (· < ·) := List.pairwise_lt_range.filter _
theorem reps_sorted (mk : Nat → Nat) (n : Nat) : (reps mk n).Pairwise (· < ·) := List.pairwise_lt_range.filter _
end K07
/-! K07T -/
set_option Elab.async false
set_option linter.all false
set_option maxRecDepth 100000
set_option maxHeartbeats 4000000
namespace K07
open PySem PySem.Spec PyProof.Rows L2
/-! ### the text -/
def top (i : Nat) : Stmt := PySem.Challenge.pw_flatsum_k07_whole_edges_added.main.body.getD i (.Pass ⟨0, 0, 0, 0⟩)
abbrev s_is_index : Stmt := top 9
abbrev s_graph_fault : Stmt := top 10
abbrev s_check_graph : Stmt := top 11
abbrev s_dart_count : Stmt := top 12
abbrev s_opposite_of : Stmt := top 13
abbrev s_dart_tails : Stmt := top 14
abbrev s_component_list : Stmt := top 15
abbrev s_successors : Stmt := top 17
abbrev s_face_list : Stmt := top 18
abbrev s_faces_by_component : Stmt := top 19
abbrev s_numbers_of : Stmt := top 20
abbrev s_need_plane : Stmt := top 21
abbrev s_plane_numbers : Stmt := top 22
abbrev s_is_plane : Stmt := top 23
abbrev s_check_plane : Stmt := top 24
abbrev s_law_source : Stmt := top 26
abbrev s_law_next : Stmt := top 27
abbrev s_law_walks : Stmt := top 28
abbrev s_law_put : Stmt := top 29
abbrev s_law_told : Stmt := top 30
abbrev s_law_kinds : Stmt := top 31
abbrev s_law_corner : Stmt := top 32
abbrev s_law_joined : Stmt := top 33
abbrev s_law_right : Stmt := top 34
abbrev s_law : Stmt := top 35
def d_is_index : He.DefD := ⟨("is_index", none), "is_index", "is_index", defArgs s_is_index, defBody s_is_index, defScope s_is_index, [], []⟩
def d_graph_fault : He.DefD := ⟨("graph_fault", none), "graph_fault", "graph_fault", defArgs s_graph_fault, defBody s_graph_fault, defScope s_graph_fault, [], []⟩
def d_check_graph : He.DefD := ⟨("check_graph", none), "check_graph", "check_graph", defArgs s_check_graph, defBody s_check_graph, defScope s_check_graph, [], []⟩
def d_dart_count : He.DefD := ⟨("dart_count", none), "dart_count", "dart_count", defArgs s_dart_count, defBody s_dart_count, defScope s_dart_count, [], []⟩
def d_opposite_of : He.DefD := ⟨("opposite_of", none), "opposite_of", "opposite_of", defArgs s_opposite_of, defBody s_opposite_of, defScope s_opposite_of, [], []⟩
def d_dart_tails : He.DefD := ⟨("dart_tails", none), "dart_tails", "dart_tails", defArgs s_dart_tails, defBody s_dart_tails, defScope s_dart_tails, [], []⟩
def d_component_list : He.DefD := ⟨("component_list", none), "component_list", "component_list", defArgs s_component_list, defBody s_component_list, defScope s_component_list, [], []⟩
def d_successors : He.DefD := ⟨("successors", none), "successors", "successors", defArgs s_successors, defBody s_successors, defScope s_successors, [], []⟩
def d_face_list : He.DefD := ⟨("face_list", none), "face_list", "face_list", defArgs s_face_list, defBody s_face_list, defScope s_face_list, [], []⟩
def d_faces_by_component : He.DefD := ⟨("faces_by_component", none), "faces_by_component", "faces_by_component", defArgs s_faces_by_component, defBody s_faces_by_component, defScope s_faces_by_component, [], []⟩
def d_numbers_of : He.DefD := ⟨("numbers_of", none), "numbers_of", "numbers_of", defArgs s_numbers_of, defBody s_numbers_of, defScope s_numbers_of, [], []⟩
def d_need_plane : He.DefD := ⟨("need_plane", none), "need_plane", "need_plane", defArgs s_need_plane, defBody s_need_plane, defScope s_need_plane, [], []⟩
def d_plane_numbers : He.DefD := ⟨("plane_numbers", none), "plane_numbers", "plane_numbers", defArgs s_plane_numbers, defBody s_plane_numbers, defScope s_plane_numbers, [], []⟩
def d_is_plane : He.DefD := ⟨("is_plane", none), "is_plane", "is_plane", defArgs s_is_plane, defBody s_is_plane, defScope s_is_plane, [], []⟩
def d_check_plane : He.DefD := ⟨("check_plane", none), "check_plane", "check_plane", defArgs s_check_plane, defBody s_check_plane, defScope s_check_plane, [], []⟩
def d_law_source : He.DefD := ⟨("_law_source", none), "_law_source", "_law_source", defArgs s_law_source, defBody s_law_source, defScope s_law_source, [], []⟩
def d_law_next : He.DefD := ⟨("_law_next", none), "_law_next", "_law_next", defArgs s_law_next, defBody s_law_next, defScope s_law_next, [], []⟩
def d_law_walks : He.DefD := ⟨("_law_walks", none), "_law_walks", "_law_walks", defArgs s_law_walks, defBody s_law_walks, defScope s_law_walks, [], []⟩
def d_law_put : He.DefD := ⟨("_law_put", none), "_law_put", "_law_put", defArgs s_law_put, defBody s_law_put, defScope s_law_put, [], []⟩
def d_law_told : He.DefD := ⟨("_law_told", none), "_law_told", "_law_told", defArgs s_law_told, defBody s_law_told, defScope s_law_told, [], []⟩
def d_law_kinds : He.DefD := ⟨("_law_kinds", none), "_law_kinds", "_law_kinds", defArgs s_law_kinds, defBody s_law_kinds, defScope s_law_kinds, [], []⟩
def d_law_corner : He.DefD := ⟨("_law_corner", none), "_law_corner", "_law_corner", defArgs s_law_corner, defBody s_law_corner, defScope s_law_corner, [], []⟩
def d_law_joined : He.DefD := ⟨("_law_joined", none), "_law_joined", "_law_joined", defArgs s_law_joined, defBody s_law_joined, defScope s_law_joined, [], []⟩
def d_law_right : He.DefD := ⟨("_law_right", none), "_law_right", "_law_right", defArgs s_law_right, defBody s_law_right, defScope s_law_right, [], []⟩
def d_law : He.DefD := ⟨("law", none), "law", "law", defArgs s_law, defBody s_law, defScope s_law, [], []⟩
def fn : List He.DefD := [d_is_index, d_graph_fault, d_check_graph, d_dart_count, d_opposite_of, d_dart_tails, d_component_list, d_successors, d_face_list, d_faces_by_component, d_numbers_of, d_need_plane, d_plane_numbers, d_is_plane, d_check_plane, d_law_source, d_law_next, d_law_walks, d_law_put, d_law_told, d_law_kinds, d_law_corner, d_law_joined, d_law_right, d_law]
abbrev FnP (K : PySem.W.Frag) (x : Str) (st : Stmt) (f : Addr) (fd : FuncData) : Prop := FunD K x x (defArgs st) (defBody st) (defScope st) [] [] f fd
/-- what the top has left of the names that are built in, and its two numbers -/
structure Txt (mg : Str → Option Value) : Prop where
  isinstance : mg "isinstance" = none
  int : mg "int" = none
  bool : mg "bool" = none
  tuple : mg "tuple" = none
  len : mg "len" = none
  all : mg "all" = none
  sum : mg "sum" = none
  range : mg "range" = none
  enumerate : mg "enumerate" = none
  sorted : mg "sorted" = none
  zip : mg "zip" = none
  min : mg "min" = none
  max : mg "max" = none
  list : mg "list" = none
  dict : mg "dict" = none
  set : mg "set" = none
  repr : mg "repr" = none
  maxN : ∃ t, mg "MAX_NODES" = some (.int 60 t)
  maxE : ∃ t, mg "MAX_EDGES" = some (.int 120 t)
/-- a def that stands: its address, its name's value, its binding -/
structure Dn (K : PySem.W.Frag) (mg : Str → Option Value) (x : Str) (st : Stmt) (ps : List Str) (f : Addr) (fd : FuncData) : Prop where
  F : FnP K x st f fd
  g : mg x = some (.ref f)
  b : Binds K fd ps []
/-! ### small things about values -/
def nV (l : List Nat) : List V := l.map fun (d : Nat) => V.int (d : Int)
theorem nV_get {l : List Nat} {i : Nat} {x : V} (h : (nV l)[i]? = some x) : ∃ d, l[i]? = some d ∧ x = .int (d : Int) := by
  unfold nV at h
  rw [List.getElem?_map] at h
  cases e : l[i]? with
  | none => rw [e] at h; cases h
  | some d => rw [e] at h; exact ⟨d, rfl, (Option.some.inj h).symm⟩
theorem nV_len (l : List Nat) : (nV l).length = l.length := by unfold nV; rw [List.length_map]
theorem nV_map (l : List Nat) : nV l = (l.map fun (d : Nat) => (d : Int)).map V.int := by unfold nV; rw [List.map_map]; rfl
theorem nV_app (l r : List Nat) : nV (l ++ r) = nV l ++ nV r := by unfold nV; rw [List.map_append]
def rowsV (n : Nat) (ra : Nat → Addr) : List V := (List.range n).map fun i => V.ref (ra i)
theorem rowsV_len (n : Nat) (ra : Nat → Addr) : (rowsV n ra).length = n := by unfold rowsV; rw [List.length_map, List.length_range]
theorem rowsV_get {n : Nat} {ra : Nat → Addr} {i : Nat} {x : V} (h : (rowsV n ra)[i]? = some x) : i < n ∧ x = .ref (ra i) := by
  have hi := (List.getElem?_eq_some_iff.mp h).1
  rw [rowsV_len] at hi
  refine ⟨hi, ?_⟩
  unfold rowsV at h
  rw [List.getElem?_map, List.getElem?_range hi] at h
  exact (Option.some.inj h).symm
theorem rowsV_at {n : Nat} {ra : Nat → Addr} {i : Nat} (h : i < n) : (rowsV n ra)[i]? = some (.ref (ra i)) := by
  unfold rowsV
  rw [List.getElem?_map, List.getElem?_range h]
  rfl
/-- the graph as tuples -/
structure GrT (H : Hp) (g : Addr) (G : List (List Nat)) : Prop where
  ex : ∃ ra : Nat → Addr, H g = some (.tup (rowsV G.length ra)) ∧ ∀ i r, G[i]? = some r → H (ra i) = some (.tup (nV r))
theorem GrT.same {H H' : Hp} {g : Addr} {G : List (List Nat)} (h : GrT H g G) (e : Same H H') : GrT H' g G := by
  obtain ⟨ra, h1, h2⟩ := h.ex
  exact ⟨ra, e _ _ h1, fun i r q => e _ _ (h2 i r q)⟩
structure GA (H : Hp) (g : Addr) (n m : Nat) (G : List (List Nat)) (nx tl : Nat → Nat) : Prop where
  at_ : GrT H g G
  gr : Gr n m G nx tl
  n7 : n ≤ 7
  m9 : m ≤ 9
theorem GA.same {H H' : Hp} {g : Addr} {n m : Nat} {G : List (List Nat)} {nx tl : Nat → Nat} (h : GA H g n m G nx tl) (e : Same H H') : GA H' g n m G nx tl := ⟨h.at_.same e, h.gr, h.n7, h.m9⟩
theorem _root_.L2.Same.upd {H H' : Hp} {p : Addr} {o : HO} (e : Same H H') (h : H p = none) : Same H (upd H' p o) := fun b u q => by
  rw [upd_ne (ne_of_none q h)]
  exact e b u q
theorem _root_.L2.Same.new {H : Hp} {p : Addr} {o : HO} (h : H p = none) : Same H (L2.upd H p o) := L2.Same.upd (Same.refl H) h
theorem sz_ok {n : Nat} (h : n ≤ 100000) : n ≤ sizeLine := Nat.le_trans h (by decide)
theorem sz_lt {n : Nat} (h : n < 100000) : n < sizeLine := Nat.lt_of_lt_of_le h (by decide)
end K07
/-! K07D1 -/
set_option Elab.async false
set_option linter.all false
set_option maxRecDepth 100000
set_option maxHeartbeats 4000000
namespace K07
open PySem PySem.Spec PyProof.Rows L2
/-! ### is_index, opposite_of -/
def spIdx : Sp := fun vs H Q _ => ∃ v m : Int, vs = [.int v, .int m] ∧ Q (.bl (decide (0 ≤ v) && decide (v < m))) H
def spOpp : Sp := fun vs H Q _ => ∃ d : Nat, vs = [.int (d : Int)] ∧ Q (.int ((opp d : Nat) : Int)) H
section
variable {P : Program} {w : World} {K : PySem.W.Frag} {mg : Str → Option Value} {base : Heap} {f : Addr} {fd : FuncData}
theorem sc_idx : FnScope ["value", "many"] ["value", "many"] (defScope s_is_index) := ⟨rfl, rfl, rfl, by decide +kernel, rfl, by decide +kernel, by decide +kernel⟩
theorem ok_idx (F : FnP K "is_index" s_is_index f fd) (T : Txt mg) : FnOk P w K mg base CX0 1 f fd ["value", "many"] spIdx := by
  refine F.ok sc_idx (fun vs H Q E h => ?_) (fun cdv A outer s H vs Q E hr h => ?_)
  · obtain ⟨v, m, rfl, _⟩ := h
    rfl
  · obtain ⟨v, m, rfl, k⟩ := h
    refine ⟨_, PSs.nox (pss_one (ps_ret (pe_and (pe_callB call_isi (by rfl) T.isinstance (by decide +kernel) (pa_cons (pv 0) (pa_cons (pe_bltn (v := .ty "int") (by rfl) T.int (by decide +kernel) rfl) pa_nil)))
      (pe_and (pe_not (pe_callB call_isi (by rfl) T.isinstance (by decide +kernel) (pa_cons (pv 0) (pa_cons (pe_bltn (v := .ty "bool") (by rfl) T.bool (by decide +kernel) rfl) pa_nil))))
      (pe_one (pe_chain op_le op_lt pe_int (pv 0) (pv 1))))))), ?_⟩
    refine ⟨_, rfl, _, _, .type "int", .type "int", true, rfl, .ty _, .base (.int v), kit_ty (by decide +kernel), _, rfl, ?_⟩
    refine iteT ⟨_, rfl, _, _, .type "int", .type "bool", false, rfl, .ty _, .base (.int v), kit_ty (by decide +kernel), _, rfl, _, rfl, ?_⟩
    refine iteT ⟨_, rfl, _, _, rfl, rfl, _, rfl, ?_⟩
    by_cases h0 : (0 : Int) ≤ v
    · rw [decide_eq_true h0] at k ⊢
      exact iteT ⟨_, rfl, _, _, rfl, rfl, k⟩
    · rw [decide_eq_false h0] at k ⊢
      exact iteF k
theorem sc_opp : FnScope ["dart"] ["dart"] (defScope s_opposite_of) := ⟨rfl, rfl, rfl, by decide +kernel, rfl, by decide +kernel, by decide +kernel⟩
theorem ok_opp (F : FnP K "opposite_of" s_opposite_of f fd) : FnOk P w K mg base CX0 1 f fd ["dart"] spOpp := by
  refine F.ok sc_opp (fun vs H Q E h => ?_) (fun cdv A outer s H vs Q E hr h => ?_)
  · obtain ⟨d, rfl, _⟩ := h
    rfl
  · obtain ⟨d, rfl, k⟩ := h
    refine ⟨_, PSs.nox (pss_one (ps_ret (pe_op op_sub (pe_op op_add (pv 0) pe_int) (pe_op op_mul pe_int (pe_op op_mod (pv 0) pe_int))))), ?_⟩
    refine ⟨_, rfl, _, _, rfl, rfl, _, rfl, _, _, rfl, rfl, (by show (0 : Int) < 2; decide), _, _, rfl, rfl, .inl ⟨by decide, by decide⟩, _, _, rfl, rfl, ?_⟩
    rw [opp_cast] at k
    exact k
end
end K07
/-! K07R1 -/
set_option Elab.async false
set_option linter.all false
set_option maxRecDepth 100000
set_option maxHeartbeats 4000000
/-! enumerate over a tuple -/
namespace PySem
open Sem (wp)
open AutoSeq1 (wpAny_loadPart')
theorem k07_enum_newT (l : Addr) (items : Array Value) (n : Nat) (dct : Option Addr) (sl : Array (Option Value)) :
    Meets (Builtin.«enumerate.__new__» ⟨[.type "enumerate", .ref l], []⟩) (fun _ R s => s.heap.get? l = some { cls := .type "tuple", dict := dct, data := .seq items n, slots := sl } ∧
      R (.ok (.ret (.ref (s.heap.push { cls := .type "tuple_iterator", data := .fields #[.ref l, .int 0 0] }).objs.size)))
        { s with heap := (s.heap.push { cls := .type "tuple_iterator", data := .fields #[.ref l, .int 0 0] }).push { cls := .type "enumerate", data := .fields #[.none, .bool false, .ref s.heap.objs.size, rawInt 0, .none, .none] } }) :=
  .of_wp fun prog w A R s h => by
    obtain ⟨hp, g, d, tk, os⟩ := s
    obtain ⟨hl, h⟩ := h
    have hsub := sub_enumerate
    have hL : Heap.IsTuple (Shared.heap ⟨hp, g, d, tk, os⟩) l items := ⟨_, hl, rfl, n, rfl⟩
    wp_walk using wpAny_loadPart' hl
    refine wpAny_stack_any fun st => wpAny_pure ?_
    split
    · rename_i c _ _ _ _ _
      cases (c == Value.type "enumerate")
      · wp_walk using wpAny_loadPart' hl, wpAny_pyIter_tuple hL
        exact ⟨_, rfl, h⟩
      · wp_walk using wpAny_loadPart' hl, wpAny_pyIter_tuple hL
        exact ⟨_, rfl, h⟩
    · wp_walk using wpAny_loadPart' hl, wpAny_pyIter_tuple hL
      exact ⟨_, rfl, h⟩
section
variable {prog : Program} {w : World} {A : Around} {E : Value → Shared → Prop} {s : Shared}
theorem k07_call_enumT {l : Addr} {items : Array Value} {Q : Value → Shared → Prop} (hL : s.heap.IsTuple l items)
    (h : ∀ h', IsEnum h' (s.heap.objs.size + 1) s.heap.objs.size 0 .none → h'.IsTupleIter s.heap.objs.size l 0 →
      (∀ b o, s.heap.get? b = some o → h'.get? b = some o) → Q (.ref (s.heap.objs.size + 1)) { s with heap := h' }) :
    wpAny (model prog w) A (call (.type "enumerate") [.ref l]) Q E s := by
  obtain ⟨⟨c, dct, dt, sl⟩, hl, hc, n, hd⟩ := hL
  have hc' : c = .type "tuple" := hc
  have hd' : dt = .seq items n := hd
  subst hc' hd'
  refine callType_new F.called_enumerate (by decide) (F.typeCall_enumerate_1 _) (F.newCall_enumerate_1 _) (fun obj => F.args_object_init_2 obj _) F.entry_enumerate_new
    (k07_enum_newT l items n dct sl) ⟨hl, ?_⟩
  have hz : (s.heap.push { cls := .type "tuple_iterator", data := .fields #[.ref l, .int 0 0] }).objs.size = s.heap.objs.size + 1 := Heap.size_push ..
  show _ ∧ _
  rw [hz]
  have he : IsEnum ((s.heap.push { cls := .type "tuple_iterator", data := .fields #[.ref l, .int 0 0] }).push
      { cls := .type "enumerate", data := .fields #[.none, .bool false, .ref s.heap.objs.size, rawInt 0, .none, .none] }) (s.heap.objs.size + 1) s.heap.objs.size 0 .none := by
    have q := Heap.get?_push_size (s.heap.push { cls := .type "tuple_iterator", data := .fields #[.ref l, .int 0 0] })
      (o := { cls := .type "enumerate", data := .fields #[.none, .bool false, .ref s.heap.objs.size, rawInt 0, .none, .none] }) rfl
    rw [hz] at q
    exact q
  exact ⟨⟨_, he, rfl⟩, h _ he ⟨_, Heap.get?_push_of_some _ (Heap.get?_push_size _ rfl), rfl, rfl⟩ fun b o x => Heap.get?_push_of_some _ (Heap.get?_push_of_some _ x)⟩
end
end PySem
namespace K07
open PySem PySem.Spec PyProof.Rows L2
/-- the tuple at a as it stands at each turn, with the turn's number, in a new pair -/
def IteT (K : PySem.W.Frag) (a : Addr) : It :=
  ⟨fun i H => ∃ (xs : List V) (x : V), SqT K H a xs ∧ xs[i]? = some x, fun i H v H' => ∃ T x, v = .ref T ∧ H T = none ∧ H' = upd H T (.tup [.int (i : Nat), x]) ∧ ∀ xs, SqT K H a xs → xs[i]? = some x, fun i H => ∃ xs : List V, SqT K H a xs ∧ xs.length = i⟩
theorem it_ne {h : Heap} {a it : Addr} {i : Nat} {its : Array Value} (p : h.IsTuple a its) (q : h.IsTupleIter it a i) : a ≠ it := fun z => by
  obtain ⟨o, h1, h2, _⟩ := p
  obtain ⟨o', h3, h4, _⟩ := q
  rw [← z, h1] at h3
  cases h3
  rw [h2] at h4
  exact absurd h4 (by decide)
theorem en_ne {h : Heap} {a e it : Addr} {z : Int} {old : Value} {its : Array Value} (p : h.IsTuple a its) (q : IsEnum h e it z old) : e ≠ a := fun y => by
  obtain ⟨o, h1, h2, _⟩ := p
  have q' : h.get? e = some _ := q
  rw [y, h1] at q'
  cases q'
  have h3 : Value.type "enumerate" = Value.type "tuple" := h2
  exact absurd h3 (by decide)
theorem turn_enumT {P : Program} {w : World} {K : PySem.W.Frag} {elts : List Expr} {kk : Nat} {tpos : Pos} (a e it : Addr) :
    Turn P w K (.Tuple elts kk tpos) (IteT K a) [e, it] e (fun i h => (∃ old, IsEnum h e it ((i : Nat) : Int) old) ∧ h.IsTupleIter it a i ∧ e ≠ it) where
  mem := by simp
  obj := fun i h st b hb => by
    obtain ⟨⟨old, he⟩, ⟨o, ho, hc, hd⟩, _⟩ := st
    have e' : b = e ∨ b = it := by simpa using hb
    rcases e' with z | z
    · rw [z]; exact ⟨_, he, fun v q => nomatch q⟩
    · rw [z]; exact ⟨o, ho, fun v q => by rw [hd] at q; cases q⟩
  keep := fun i h h' st k => let ⟨⟨old, he⟩, hi, hne⟩ := st; ⟨⟨old, k e (by simp) _ he⟩, hi.at fun o q => k it (by simp) o q, hne⟩
  item := by
    intro X hP hw hK hc i pins s σ H E I hf st hg
    subst hP hw hK
    obtain ⟨⟨old, he⟩, hit, hne⟩ := st
    obtain ⟨xs, x, hq, hx⟩ := hg
    obtain ⟨its, rv, p, hz⟩ := I.tuple hq
    obtain ⟨u, hu, ru⟩ := rv.get hx
    have pt : s.heap.IsTuple a its.toArray := p
    have hel : e < s.heap.objs.size := Heap.lt_size he
    have hil : it < s.heap.objs.size := by obtain ⟨_, q, _⟩ := hit; exact Heap.lt_size q
    have nai := it_ne pt hit
    have nea := en_ne pt he
    have hli : i < its.length := (List.getElem?_eq_some_iff.mp hu).1
    refine wpAny_pyNext_enum_itemD (Draws.tuple (A := X.A.in1) (I.ok.hd hc) it a nai its.toArray) he ⟨hit, pt⟩ (by simpa using hli) hne (by simp [hne, nea]) fun y h' tk py ho st' hT hsz hk => ?_
    have ey : y = u := by
      have py' : its[i]? = some y := by simpa using py
      rw [hu] at py'
      exact (Option.some.inj py').symm
    subst ey
    refine ⟨_, rfl, wpAny_letOwnedTupleGo_enum (s := { s with heap := h', toks := tk + 1 }) ho fun h'' he' sb => ?_⟩
    have hT2 : h''.get? s.heap.objs.size = some { cls := .type "tuple", data := .seq #[.int i tk, y] } := (sb.2 _ (Nat.ne_of_gt hel)).trans hT
    have new : ObjOk X.prog X.w (upd H s.heap.objs.size (.tup [.int (i : Nat), x])) h'' s.heap.objs.size (.tup [.int (i : Nat), x]) :=
      ⟨by show 2 ≤ sizeLine; decide, [.int i tk, y], .cons ⟨_, rfl⟩ (.cons ru .nil), ⟨_, hT2, rfl, _, rfl⟩⟩
    have I1 : Inv X pins σ (upd H s.heap.objs.size (.tup [.int (i : Nat), x])) { s with heap := h'', toks := tk + 1 } :=
      I.turnedNew (ch := [e, it]) (fun b ob hb q => (sb.2 b (fun z => hb (by simp [z]))).trans (hk b ob (fun z => hb (by simp [z])) (fun z => hb (by simp [z])) q)) hf (Nat.le_refl _) new
    refine ⟨.ref s.heap.objs.size, _, I1, rfl, ⟨_, x, rfl, I.hok.fresh (Nat.le_refl _), rfl, fun ys hy => by rw [I.tuple_inj hy hq]; exact hx⟩, ⟨⟨y, ?_⟩, st'.1.at fun o q => (sb.2 it (Ne.symm hne)).trans q, hne⟩, fun b hb => ?_⟩
    · have e1 : ((i + 1 : Nat) : Int) = (i : Int) + 1 := by omega
      rw [e1]; exact he'
    · have hb' : b < s.heap.objs.size := by
        have e' : b = e ∨ b = it := by simpa using hb
        rcases e' with z | z
        · rw [z]; exact hel
        · rw [z]; exact hil
      rw [upd_ne (Nat.ne_of_lt hb')]
      exact (hf b hb).1
  done := by
    intro X hP hw hK hc i pins s σ H E I hf st hg
    subst hP hw hK
    obtain ⟨⟨old, he⟩, hit, hne⟩ := st
    obtain ⟨xs, hq, hx⟩ := hg
    obtain ⟨its, rv, p, hz⟩ := I.tuple hq
    have pt : s.heap.IsTuple a its.toArray := p
    obtain ⟨f0, f1, f2, f3, f4, f5⟩ := hf it (by simp)
    have hl := rv.length
    have en : i = its.toArray.size := by simp; omega
    subst en
    exact wpAny_pyNext_enum_endD (Draws.tuple (A := X.A.in1) (I.ok.hd hc) it a (it_ne pt hit) its.toArray) he ⟨hit, pt⟩ fun h' eb => ⟨rfl, I.turned (t' := s.toks) (fun b o hb q => eb b o hb q) f0 f1 f3 f4 f5⟩
  self := fun A i s Q E st h => let ⟨⟨_, he⟩, _⟩ := st; wpAny_pyIter_enum he h
def iEnumT (K : PySem.W.Frag) (ta : TA) : TI := fun σ H R => ta σ H fun vs H1 => ∃ a xs, vs = [.ref a] ∧ SqT K H1 a xs ∧ R (IteT K a) H1
theorem pi_enumT {X : Cx} {e : Expr} {ta : TA} {p pos tpos : Pos} {elts : List Expr} {kk : Nat} (hg : Gl X "enumerate") (hm : X.mg "enumerate" = none) (ha : PA X [e] ta) (hs : starEach [e] X.env = [(false, eval e X.env)] := by rfl) :
    PI X (.Tuple elts kk tpos) (.Call (.Name "enumerate" p) [e] [] pos) (iEnumT X.K ta) := by
  refine ⟨fun pins s σ H R I h => ?_⟩
  refine Call_ (ld_blt I hg hm boot_enumerate (PyProof.Rows.callWith_type1 (thn (ha.run pos pins s σ H _ I h) fun us s1 ⟨vs, H1, I1, r1, q1⟩ => ?_) hs rfl))
  obtain ⟨a, xs, ex, hq, q⟩ := q1
  subst ex
  cases r1 with
  | cons r rr =>
    cases rr
    cases r
    obtain ⟨its, rv, p', hz⟩ := I1.tuple hq
    refine k07_call_enumT (show s1.heap.IsTuple a its.toArray from p') fun h' he hit hk => wpAny_pyIter_enum he ?_
    have I2 : Inv X pins σ H1 { s1 with heap := h' } := I1.kept (t' := s1.toks) hk
    refine ⟨s1.heap.objs.size + 1, [s1.heap.objs.size + 1, s1.heap.objs.size], _, _, H1, rfl, I2, turn_enumT a (s1.heap.objs.size + 1) s1.heap.objs.size, ⟨⟨.none, he⟩, hit, Nat.succ_ne_self _⟩, fun b hb => ?_, q⟩
    have e' : b = s1.heap.objs.size + 1 ∨ b = s1.heap.objs.size := by simpa using hb
    have hle : s1.heap.objs.size ≤ b := by
      rcases e' with z | z
      · rw [z]; exact Nat.le_add_right _ _
      · rw [z]; exact Nat.le_refl _
    exact I1.fpOk hle (I1.hok.fresh hle)
theorem walk_enumT {K : PySem.W.Frag} {a : Addr} {xs : List V} : Walk (IteT K a) xs.length (fun H => SqT K H a xs) (YPair (fun i => some (.int (i : Nat))) (fun i => xs[i]?)) := by
  refine ⟨fun i _ hi q => ⟨xs, xs[i], q, by simp [hi]⟩, fun _ q => ⟨xs, q, rfl⟩, fun i H v H' _ q y => ?_⟩
  obtain ⟨T, x, h1, h2, h3, h4⟩ := y
  exact ⟨T, .int (i : Nat), x, h1, h2, h3, rfl, h4 xs q⟩
end K07
/-! K07R2 -/
set_option Elab.async false
set_option linter.all false
set_option maxRecDepth 100000
set_option maxHeartbeats 4000000
/-! zip(xs, ys, strict=True) of two lists of one length -/
namespace PySem
open Sem (wp)
abbrev K07Zip (h : Heap) (z TI TO : Addr) (f0 : Value) : Prop :=
  h.get? z = some { cls := .type "zip", dict := none, data := .fields #[f0, .bool false, .bool true, .ref TI, .ref TO], slots := #[] }
section
variable {prog : Program} {w : World} {A : Around} {E : Value → Shared → Prop} {s : Shared}
theorem k07_draw_item {it l : Addr} {k : Nat} {xs : Array Value} {x : Value} {Q : Option Value → Shared → Prop} (hit : s.heap.IsListIter it l k) (hl : s.heap.IsList l xs) (hx : xs[k]? = some x)
    (hQ : ∀ h', h'.IsListIter it l (k + 1) → Heap.SameBut it s.heap h' → Q (some x) { s with heap := h' }) : wpAny (model prog w) A (Builtin.SmallTypes.nextOrEnd (.ref it)) Q E s := by
  unfold Builtin.SmallTypes.nextOrEnd
  exact wpAny_bind (wpAny_attempt (wpAny_nextOf_list_item hit hl hx fun h' a b => wpAny_pure (hQ h' a b)))
theorem k07_draw_end {it l : Addr} {k : Nat} {xs : Array Value} {Q : Option Value → Shared → Prop} (hh : A.handled = none) (hit : s.heap.IsListIter it l k) (hl : s.heap.IsList l xs) (hx : xs[k]? = none)
    (hQ : ∀ h', Heap.ExtBut it s.heap h' → Q none { s with heap := h' }) : wpAny (model prog w) A (Builtin.SmallTypes.nextOrEnd (.ref it)) Q E s := by
  unfold Builtin.SmallTypes.nextOrEnd
  refine wpAny_bind (wpAny_attempt (wpAny_nextOf_list_end hh hit hl hx fun h' e hs he => ?_))
  refine wpAny_bind (wpAny_isInstance (T := "StopIteration") (b := true) he isSubtype_stop ?_)
  exact wpAny_pure (hQ _ hs)
theorem k07_stop {α : Type} {Q : α → Shared → Prop} (hh : A.handled = none)
    (hE : ∀ h' e, (∀ c o, s.heap.get? c = some o → h'.get? c = some o) → (∃ o, h'.get? e = some o ∧ o.cls = .type "StopIteration") → E (.ref e) { s with heap := h' }) : wpAny (model prog w) A (Builtin.SmallTypes.stopIteration : Sem α) Q E s := by
  unfold Builtin.SmallTypes.stopIteration
  refine wpAny_bind ?_
  simp only [newExc, newTuple]
  refine wpAny_bind (wpAny_newObj_type ?_ (by size_fits))
  refine wpAny_bind (m := firstArgMember _ _) (wpAny_of_eq (a := Value.none) (by first | rfl | (simp only [firstArgMember]; rfl)) ?_)
  refine wpAny_newObj_type ?_ (by size_fits)
  simp only [raiseNew]
  refine wpAny_bind (wpAny_handled ?_)
  rw [hh]
  refine wpAny_bind (wpAny_pure (wpAny_throw ?_))
  exact hE _ _ (fun c o e => Heap.get?_push_of_some _ (Heap.get?_push_of_some _ e)) ⟨_, Heap.get?_push_size _ rfl, rfl⟩
theorem k07_zip_item {z TI TO i1 i2 l1 l2 : Addr} {k1 k2 : Nat} {xs ys : Array Value} {x y a b : Value} {Q : Value → Shared → Prop} (D : ZipApart z TI TO i1 i2 l1 l2)
    (hz : K07Zip s.heap z TI TO .none) (hTI : IsPair s.heap TI (.ref i1) (.ref i2)) (hTO : IsPair s.heap TO a b)
    (h1 : s.heap.IsListIter i1 l1 k1) (h2 : s.heap.IsListIter i2 l2 k2) (hl1 : s.heap.IsList l1 xs) (hl2 : s.heap.IsList l2 ys) (hx : xs[k1]? = some x) (hy : ys[k2]? = some y)
    (hQ : ∀ h', K07Zip h' z TI TO (rawInt s.heap.objs.size) → IsPair h' TO x y → h'.IsListIter i1 l1 (k1 + 1) → h'.IsListIter i2 l2 (k2 + 1) → IsPair h' s.heap.objs.size x y → h'.objs.size = s.heap.objs.size + 1 →
      (∀ c o, c ≠ z → c ≠ TO → c ≠ i1 → c ≠ i2 → s.heap.get? c = some o → h'.get? c = some o) → Q (.ref s.heap.objs.size) { s with heap := h' }) :
    wpAny (model prog w) A (Builtin.«zip.__next__» ⟨[.ref z], []⟩) (fun fin s' => ∃ v, fin = .done (.ret v) ∧ Q v s') E s := by
  show wpAny _ _ (field (.ref z) 2 >>= _) _ _ _
  refine wpAny_bind (wpAny_field hz rfl (x := .bool true) rfl ?_)
  show wpAny _ _ (field (.ref z) 3 >>= _) _ _ _
  refine wpAny_bind (wpAny_field hz rfl (x := .ref TI) rfl (wpAny_bind (wpAny_seqItems hTI rfl ?_)))
  show wpAny _ _ (Builtin.SmallTypes.ownedTupleIsFree (.ref z) >>= _) _ _ _
  refine wpAny_bind ?_
  unfold Builtin.SmallTypes.ownedTupleIsFree
  refine wpAny_bind (wpAny_field hz rfl (x := .none) rfl (wpAny_pure ?_))
  simp only [if_true]
  refine wpAny_bind (wpAny_rule (wpAny_bind (wpAny_field hz rfl (x := .ref TO) rfl ?_)))
  refine wpAny_bind (wpAny_setField_rec hz (by simp) fun g1 z1 s1 => ?_)
  have z1' : K07Zip g1 z TI TO .ellipsis := z1
  refine wpAny_bind ?_
  simp only [List.zipIdx_cons, List.zipIdx_nil, List.forIn_cons, List.forIn_nil]
  -- the first
  refine wpAny_bind (wpAny_bind (wpAny_onRaise ?_))
  show wpAny _ _ (Builtin.SmallTypes.nextOrEnd (.ref i1)) _ _ _
  refine k07_draw_item (h1.extBut s1.extBut D.i1z) (hl1.extBut s1.extBut D.l1z) hx fun g2 j1 s2 => ?_
  have t2 : IsPair g2 TO a b := s2.extBut _ _ D.TOi1 (s1.extBut _ _ D.TOz hTO)
  refine wpAny_bind (wpAny_seqItems t2 rfl (wpAny_bind (wpAny_updateSeq_pair t2 fun g3 t3 s3 => ?_)))
  have t3' : IsPair g3 TO x b := t3
  refine wpAny_bind (wpAny_letGo (wpAny_pure ?_))
  -- the second
  refine wpAny_bind (wpAny_bind (wpAny_onRaise ?_))
  show wpAny _ _ (Builtin.SmallTypes.nextOrEnd (.ref i2)) _ _ _
  refine k07_draw_item (((h2.extBut s1.extBut D.i2z).extBut s2.extBut D.i12.symm).extBut s3.extBut D.TOi2.symm)
    (((hl2.extBut s1.extBut D.l2z).extBut s2.extBut D.l2i1).extBut s3.extBut D.l2TO) hy fun g4 j2 s4 => ?_
  have t4 : IsPair g4 TO x b := s4.extBut _ _ D.TOi2 t3'
  refine wpAny_bind (wpAny_seqItems t4 rfl (wpAny_bind (wpAny_updateSeq_pair t4 fun g5 t5 s5 => ?_)))
  have t5' : IsPair g5 TO x y := t5
  refine wpAny_bind (wpAny_letGo (wpAny_pure (wpAny_pure ?_)))
  refine wpAny_bind (wpAny_seqItems t5' rfl (wpAny_bind (wpAny_newTuple ?_)))
  have hsz : g5.objs.size = s.heap.objs.size := by rw [s5.1, s4.1, s3.1, s2.1, s1.1]
  have keep : ∀ c o, c ≠ z → c ≠ TO → c ≠ i1 → c ≠ i2 → s.heap.get? c = some o → g5.get? c = some o := fun c o c1 c2 c3 c4 e =>
    s5.extBut _ _ c2 (s4.extBut _ _ c4 (s3.extBut _ _ c2 (s2.extBut _ _ c3 (s1.extBut _ _ c1 e))))
  have z5 : K07Zip g5 z TI TO .ellipsis := s5.extBut _ _ D.TOz.symm (s4.extBut _ _ D.i2z.symm (s3.extBut _ _ D.TOz.symm (s2.extBut _ _ D.i1z.symm z1')))
  have k1' : g5.IsListIter i1 l1 (k1 + 1) := ((j1.extBut s3.extBut D.TOi1.symm).extBut s4.extBut D.i12).extBut s5.extBut D.TOi1.symm
  have k2' : g5.IsListIter i2 l2 (k2 + 1) := j2.extBut s5.extBut D.TOi2.symm
  have zlt : z < g5.objs.size := Heap.lt_size z5
  show wpAny _ _ (Builtin.SmallTypes.ownedTupleHandOut (.ref z) (.ref g5.objs.size) >>= _) _ _ _
  refine wpAny_bind ?_
  unfold Builtin.SmallTypes.ownedTupleHandOut
  have z6 : K07Zip (g5.push { cls := .type "tuple", data := .seq #[x, y] }) z TI TO .ellipsis := Heap.get?_push_of_some _ z5
  refine wpAny_bind (wpAny_setField_rec z6 (by simp) fun g7 z7 s7 => ?_)
  have z7' : K07Zip g7 z TI TO (rawInt g5.objs.size) := z7
  refine wpAny_setField_rec z7' (by simp) fun g8 z8 s8 => ?_
  have z8' : K07Zip g8 z TI TO (rawInt g5.objs.size) := z8
  have up : ∀ c o, c ≠ z → g5.get? c = some o → g8.get? c = some o := fun c o c1 e => s8.extBut _ _ c1 (s7.extBut _ _ c1 (Heap.get?_push_of_some _ e))
  have t8 : IsPair g8 g5.objs.size x y := s8.extBut _ _ (Nat.ne_of_gt zlt) (s7.extBut _ _ (Nat.ne_of_gt zlt) (Heap.get?_push_size _ rfl))
  have e8 : g8.objs.size = g5.objs.size + 1 := by rw [s8.1, s7.1, Heap.size_push]
  rw [hsz] at z8' t8 e8
  refine wpAny_pure ⟨_, rfl, ?_⟩
  show Q (.ref g5.objs.size) _
  rw [hsz]
  exact hQ g8 z8' (up _ _ D.TOz t5') (k1'.at fun o e => up _ o D.i1z e) (k2'.at fun o e => up _ o D.i2z e) t8 e8 fun c o c1 c2 c3 c4 e => up c o c1 (keep c o c1 c2 c3 c4 e)
theorem k07_zip_end {z TI TO i1 i2 l1 l2 : Addr} {k1 k2 : Nat} {xs ys : Array Value} {a b : Value} {Q : Fin → Shared → Prop} (hh : A.handled = none) (D : ZipApart z TI TO i1 i2 l1 l2)
    (hz : K07Zip s.heap z TI TO .none) (hTI : IsPair s.heap TI (.ref i1) (.ref i2)) (hTO : IsPair s.heap TO a b)
    (h1 : s.heap.IsListIter i1 l1 k1) (h2 : s.heap.IsListIter i2 l2 k2) (hl1 : s.heap.IsList l1 xs) (hl2 : s.heap.IsList l2 ys) (hx : xs[k1]? = none) (hy : ys[k2]? = none)
    (hE : ∀ h' e, (∀ c o, c ≠ z → c ≠ TO → c ≠ i1 → c ≠ i2 → s.heap.get? c = some o → h'.get? c = some o) → (∃ o, h'.get? e = some o ∧ o.cls = .type "StopIteration") → E (.ref e) { s with heap := h' }) :
    wpAny (model prog w) A (Builtin.«zip.__next__» ⟨[.ref z], []⟩) Q E s := by
  show wpAny _ _ (field (.ref z) 2 >>= _) _ _ _
  refine wpAny_bind (wpAny_field hz rfl (x := .bool true) rfl ?_)
  show wpAny _ _ (field (.ref z) 3 >>= _) _ _ _
  refine wpAny_bind (wpAny_field hz rfl (x := .ref TI) rfl (wpAny_bind (wpAny_seqItems hTI rfl ?_)))
  show wpAny _ _ (Builtin.SmallTypes.ownedTupleIsFree (.ref z) >>= _) _ _ _
  refine wpAny_bind ?_
  unfold Builtin.SmallTypes.ownedTupleIsFree
  refine wpAny_bind (wpAny_field hz rfl (x := .none) rfl (wpAny_pure ?_))
  simp only [if_true]
  refine wpAny_bind (wpAny_rule (wpAny_bind (wpAny_field hz rfl (x := .ref TO) rfl ?_)))
  refine wpAny_bind (wpAny_setField_rec hz (by simp) fun g1 z1 s1 => ?_)
  have z1' : K07Zip g1 z TI TO .ellipsis := z1
  refine wpAny_bind ?_
  simp only [List.zipIdx_cons, List.zipIdx_nil, List.forIn_cons, List.forIn_nil]
  refine wpAny_bind (wpAny_bind (wpAny_onRaise ?_))
  show wpAny _ _ (Builtin.SmallTypes.nextOrEnd (.ref i1)) _ _ _
  refine k07_draw_end hh (h1.extBut s1.extBut D.i1z) (hl1.extBut s1.extBut D.l1z) hx fun g2 s2 => ?_
  have z2 : K07Zip g2 z TI TO .ellipsis := s2 _ _ D.i1z.symm z1'
  refine wpAny_bind (wpAny_setField_rec z2 (by simp) fun g3 z3 s3 => ?_)
  refine wpAny_bind ?_
  refine wpAny_bind ?_
  simp only [List.drop_succ_cons, List.drop_zero, List.zipIdx_cons, List.zipIdx_nil, List.forIn_cons, List.forIn_nil]
  have hz1 : i2 ≠ z := D.i2z
  have keep : ∀ c o, c ≠ z → c ≠ i1 → s.heap.get? c = some o → g3.get? c = some o := fun c o c1 c3 e => s3.extBut _ _ c1 (s2 _ _ c3 (s1.extBut _ _ c1 e))
  refine wpAny_bind (wpAny_bind (k07_draw_end hh (h2.at fun o e => keep _ o D.i2z D.i12.symm e) (hl2.at fun o e => keep _ o D.l2z D.l2i1 e) hy fun g4 s4 => ?_))
  refine wpAny_pure (wpAny_pure ?_)
  refine wpAny_bind (wpAny_rule ?_)
  refine k07_stop hh fun g5 e k5 he => hE g5 e (fun c o c1 _ c3 c4 q => k5 c o (s4 c o c4 (keep c o c1 c3 q))) he
theorem k07_next_item {z TI TO i1 i2 l1 l2 : Addr} {k1 k2 : Nat} {xs ys : Array Value} {x y a b : Value} {Q : Option Value → Shared → Prop} (D : ZipApart z TI TO i1 i2 l1 l2)
    (hz : K07Zip s.heap z TI TO .none) (hTI : IsPair s.heap TI (.ref i1) (.ref i2)) (hTO : IsPair s.heap TO a b)
    (h1 : s.heap.IsListIter i1 l1 k1) (h2 : s.heap.IsListIter i2 l2 k2) (hl1 : s.heap.IsList l1 xs) (hl2 : s.heap.IsList l2 ys) (hx : xs[k1]? = some x) (hy : ys[k2]? = some y)
    (hQ : ∀ h', K07Zip h' z TI TO (rawInt s.heap.objs.size) → IsPair h' TO x y → h'.IsListIter i1 l1 (k1 + 1) → h'.IsListIter i2 l2 (k2 + 1) → IsPair h' s.heap.objs.size x y → h'.objs.size = s.heap.objs.size + 1 →
      (∀ c o, c ≠ z → c ≠ TO → c ≠ i1 → c ≠ i2 → s.heap.get? c = some o → h'.get? c = some o) → Q (some (.ref s.heap.objs.size)) { s with heap := h' }) :
    wpAny (model prog w) A (pyNext (.ref z)) Q E s := by
  have hT : s.TypeIs (.ref z) "zip" := ⟨_, hz, rfl⟩
  unfold pyNext
  exact wpAny_bind (wpAny_attempt (wpAny_callSpecial?_slot (name := Str.ofString "__next__") hT F.slot_zip_next
    (wpAny_call_entry F.slot_zip_next hT F.entry_zip_next (k07_zip_item D hz hTI hTO h1 h2 hl1 hl2 hx hy fun h' a1 a2 a3 a4 a5 a6 a7 => wpAny_pure (hQ h' a1 a2 a3 a4 a5 a6 a7)) (F.args_zip_next_1 _))))
theorem k07_next_end {z TI TO i1 i2 l1 l2 : Addr} {k1 k2 : Nat} {xs ys : Array Value} {a b : Value} {Q : Option Value → Shared → Prop} (hh : A.handled = none) (D : ZipApart z TI TO i1 i2 l1 l2)
    (hz : K07Zip s.heap z TI TO .none) (hTI : IsPair s.heap TI (.ref i1) (.ref i2)) (hTO : IsPair s.heap TO a b)
    (h1 : s.heap.IsListIter i1 l1 k1) (h2 : s.heap.IsListIter i2 l2 k2) (hl1 : s.heap.IsList l1 xs) (hl2 : s.heap.IsList l2 ys) (hx : xs[k1]? = none) (hy : ys[k2]? = none)
    (hQ : ∀ h', (∀ c o, c ≠ z → c ≠ TO → c ≠ i1 → c ≠ i2 → s.heap.get? c = some o → h'.get? c = some o) → Q none { s with heap := h' }) : wpAny (model prog w) A (pyNext (.ref z)) Q E s := by
  have hT : s.TypeIs (.ref z) "zip" := ⟨_, hz, rfl⟩
  unfold pyNext
  refine wpAny_bind (wpAny_attempt (wpAny_callSpecial?_slot (name := Str.ofString "__next__") hT F.slot_zip_next
    (wpAny_call_entry F.slot_zip_next hT F.entry_zip_next (k07_zip_end hh D hz hTI hTO h1 h2 hl1 hl2 hx hy fun h' e hk he => ?_) (F.args_zip_next_1 _))))
  refine wpAny_bind (wpAny_isInstance (T := "StopIteration") (b := true) he isSubtype_stop ?_)
  exact wpAny_pure (hQ _ hk)
theorem k07_go_zip {elts : List Expr} {x1} {pos : Pos} {z TI TO T : Addr} {Q : Unit → Shared → Prop} (hz : K07Zip s.heap z TI TO (rawInt T))
    (hQ : ∀ h', K07Zip h' z TI TO .none → Heap.SameBut z s.heap h' → Q () { s with heap := h' }) : wpAny (model prog w) A (letOwnedTupleGo (.Tuple elts x1 pos) (.ref z) (.ref T)) Q E s := by
  unfold letOwnedTupleGo
  refine wpAny_bind (wpAny_load hz ?_)
  show wpAny _ _ (if (["enumerate", "zip", "dict_itemiterator", "dict_reverseitemiterator", "odict_iterator", "itertools.zip_longest", "itertools.pairwise"].contains "zip" &&
      (#[rawInt T, .bool false, .bool true, .ref TI, .ref TO] : Array Value)[0]? == some (rawInt T)) = true then _ else _) Q E s
  rw [if_pos (by simp)]
  refine wpAny_bind (wpAny_rule ?_)
  show wpAny _ _ (setField (.ref z) 0 .none) Q E s
  exact wpAny_setField_rec hz (by simp) fun h' hz' hs' => hQ h' hz' hs'
theorem k07_iter_zip {z TI TO : Addr} {f0 : Value} {Q : Value → Shared → Prop} (hz : K07Zip s.heap z TI TO f0) (h : Q (.ref z) s) : wpAny (model prog w) A (pyIter (.ref z)) Q E s := by
  have hT : s.TypeIs (.ref z) "zip" := ⟨_, hz, rfl⟩
  refine wpAny_pyIter_slot hT F.slot_zip_iter (wpAny_call_entry F.slot_zip_iter hT F.entry_zip_iter ?_ (F.args_zip_iter_1 _))
  show wpAny _ _ (ret (.ref z)) _ _ s
  exact wpAny_pure ⟨_, rfl, "zip", _, hT, F.slot_zip_next.lookup, h⟩
end
abbrev k07zH5 (h : Heap) (l1 l2 : Addr) : Heap := (zipH4 h l1 l2).push { cls := .type "zip", data := .fields #[.none, .bool false, .bool true, .ref (zipH2 h l1 l2).objs.size, .ref (zipH3 h l1 l2).objs.size] }
theorem k07_meets_zip (l1 l2 : Addr) (xs ys : Array Value) :
    Meets (Builtin.«zip.__new__» ⟨[.type "zip", .ref l1, .ref l2], [(Str.ofString "strict", .bool true)]⟩) (fun _ R s => s.heap.IsList l1 xs ∧ s.heap.IsList l2 ys ∧
      R (.ok (.ret (.ref (zipH4 s.heap l1 l2).objs.size))) { s with heap := k07zH5 s.heap l1 l2 }) :=
  .of_wp fun prog w A R s h => by
    obtain ⟨hp, g, d, tk, os⟩ := s
    obtain ⟨hl1, hl2, h⟩ := h
    have hsub := sub_zip
    have hL1 : Heap.IsList (Shared.heap ⟨hp, g, d, tk, os⟩) l1 xs := hl1
    have hL2 : Heap.IsList (Shared.heap ⟨hp.push { cls := .type "list_iterator", data := .fields #[.ref l1, .int 0 0] }, g, d, tk, os⟩) l2 ys := Heap.IsList.push hl2 _
    have e1 : (Str.ofString "strict" != ("strict" : Str)) = false := by decide +kernel
    have e2 : (Str.ofString "strict" == ("strict" : Str)) = true := by decide +kernel
    wp_walk using wpAny_pyIter_list hL1, wpAny_pyIter_list hL2
    exact ⟨_, rfl, h⟩
namespace F
theorem k07_typeCall (a b c : Value) : checkTypeCall "zip" ⟨[a, b], [(Str.ofString "strict", c)]⟩ = pure () := by kernel_rfl
theorem k07_newCall (a b c : Value) : checkBuiltinCall "zip.__new__" ⟨[.type "zip", a, b], [(Str.ofString "strict", c)]⟩ = pure () := by kernel_rfl
theorem k07_args (obj a b c : Value) : argsOk "object.__init__" ⟨[obj, a, b], [(Str.ofString "strict", c)]⟩ := by unfold argsOk; kernel_rfl
end F
section
variable {prog : Program} {w : World} {A : Around} {E : Value → Shared → Prop} {s : Shared}
theorem k07_call_zip {l1 l2 : Addr} {xs ys : Array Value} {Q : Value → Shared → Prop} (hl1 : s.heap.IsList l1 xs) (hl2 : s.heap.IsList l2 ys)
    (h : ∀ h', K07Zip h' (s.heap.objs.size + 4) (s.heap.objs.size + 2) (s.heap.objs.size + 3) .none → IsPair h' (s.heap.objs.size + 2) (.ref s.heap.objs.size) (.ref (s.heap.objs.size + 1)) →
      IsPair h' (s.heap.objs.size + 3) .none .none → h'.IsListIter s.heap.objs.size l1 0 → h'.IsListIter (s.heap.objs.size + 1) l2 0 →
      (∀ c o, s.heap.get? c = some o → h'.get? c = some o) → Q (.ref (s.heap.objs.size + 4)) { s with heap := h' }) :
    wpAny (model prog w) A (call (.type "zip") [.ref l1, .ref l2] [(Str.ofString "strict", .bool true)]) Q E s := by
  refine callType_newKw F.called_zip (by decide) (F.k07_typeCall _ _ _) (F.k07_newCall _ _ _) (fun obj => F.k07_args obj _ _ _) F.entry_zip_new
    (k07_meets_zip l1 l2 xs ys) ⟨hl1, hl2, ?_⟩
  have z1 : (zipH1 s.heap l1).objs.size = s.heap.objs.size + 1 := Heap.size_push ..
  have z2 : (zipH2 s.heap l1 l2).objs.size = s.heap.objs.size + 2 := by rw [Heap.size_push, z1]
  have z3 : (zipH3 s.heap l1 l2).objs.size = s.heap.objs.size + 3 := by rw [Heap.size_push, z2]
  have z4 : (zipH4 s.heap l1 l2).objs.size = s.heap.objs.size + 4 := by rw [Heap.size_push, z3]
  have g5 : (k07zH5 s.heap l1 l2).get? (zipH4 s.heap l1 l2).objs.size = some _ := Heap.get?_push_size _ rfl
  have g4 : (k07zH5 s.heap l1 l2).get? (zipH3 s.heap l1 l2).objs.size = some _ := Heap.get?_push_of_some _ (Heap.get?_push_size _ rfl)
  have g3 : (k07zH5 s.heap l1 l2).get? (zipH2 s.heap l1 l2).objs.size = some _ := Heap.get?_push_of_some _ (Heap.get?_push_of_some _ (Heap.get?_push_size _ rfl))
  have g2 : (k07zH5 s.heap l1 l2).get? (zipH1 s.heap l1).objs.size = some _ := Heap.get?_push_of_some _ (Heap.get?_push_of_some _ (Heap.get?_push_of_some _ (Heap.get?_push_size _ rfl)))
  have g1 : (k07zH5 s.heap l1 l2).get? s.heap.objs.size = some _ := Heap.get?_push_of_some _ (Heap.get?_push_of_some _ (Heap.get?_push_of_some _ (Heap.get?_push_of_some _ (Heap.get?_push_size _ rfl))))
  show _ ∧ _
  rw [z2, z3, z4] at g5
  rw [z1, z2] at g3
  rw [z3] at g4
  rw [z1] at g2
  rw [z4]
  exact ⟨⟨_, g5, rfl⟩, h _ g5 g3 g4 ⟨_, g1, rfl, rfl⟩ ⟨_, g2, rfl, rfl⟩ fun c o x =>
    Heap.get?_push_of_some _ (Heap.get?_push_of_some _ (Heap.get?_push_of_some _ (Heap.get?_push_of_some _ (Heap.get?_push_of_some _ x))))⟩
end
end PySem
/-! K07R3 -/
set_option Elab.async false
set_option linter.all false
set_option maxRecDepth 100000
set_option maxHeartbeats 4000000
namespace K07
open PySem PySem.Spec PyProof.Rows L2
section
variable {M : Model} {A : Around} {E : Value → Shared → Prop} {s : Shared} {env : Env}
theorem callWith_typeK {pos : Pos} {T : String} {e : Expr} {rest : List Expr} {kws : List Keyword} {Q : Value → Shared → Prop}
    (h : wpAny M A (spliced (backTo pos (starEach (e :: rest) env))) (fun vs s₁ => wpAny M A (evalAll ((backToKw pos (keywordEach kws env)).map (·.2)))
      (fun kvs s₂ => wpAny M A (call (.type T) vs (((backToKw pos (keywordEach kws env)).filterMap (·.1)).zip kvs)) Q E s₂) E s₁) E s)
    (he : backTo pos (starEach (e :: rest) env) = (false, eval e env) :: backTo pos (starEach rest env) := by rfl)
    (hplain : (backTo pos (starEach (e :: rest) env)).any (·.1) = false := by rfl)
    (hall : (backToKw pos (keywordEach kws env)).all (·.1.isSome) = true := by rfl)
    (hkw : (backToKw pos (keywordEach kws env)).any (·.1.isNone) = false := by rfl) :
    wpAny M A (callWith pos (.type T) [] (backTo pos (starEach (e :: rest) env)) (backToKw pos (keywordEach kws env))) Q E s := by
  have step : wpAny M A (evalArgs (.type T) true (backTo pos (starEach (e :: rest) env)) (backToKw pos (keywordEach kws env))) (fun a s₁ => wpAny M A (call (.type T) ([] ++ a.pos) a.kw) Q E s₁) E s := by
    rw [he] at h ⊢
    exact evalArgs_kwB hall h
  unfold callWith
  refine wpAny_bind (wpAny_holding (wpAny_mono step (fun a s₁ h₁ => wpAny_bind (wpAny_standAt ?_)) fun _ _ x => x))
  simp only [hplain, hkw, Bool.or_false]
  refine wpAny_bind (wpAny_pure ?_)
  exact wpAny_bind (wpAny_mono h₁ (fun r s₂ hr => wpAny_bind (wpAny_holding (wpAny_point (wpAny_pure hr)))) fun _ _ x => x)
end
/-- the lists at a and b as they stand at each turn, the items in new pairs; both end at once -/
def ItzS (K : PySem.W.Frag) (a b : Addr) : It :=
  ⟨fun i H => ∃ (xs ys : List V) (x y : V), SqL K H a xs ∧ SqL K H b ys ∧ xs[i]? = some x ∧ ys[i]? = some y,
    fun i H v H' => ∃ T x y, v = .ref T ∧ H T = none ∧ H' = upd H T (.tup [x, y]) ∧ (∀ xs, SqL K H a xs → xs[i]? = some x) ∧ ∀ ys, SqL K H b ys → ys[i]? = some y,
    fun i H => ∃ xs ys : List V, SqL K H a xs ∧ SqL K H b ys ∧ xs.length = i ∧ ys.length = i⟩
theorem turn_zipS {P : Program} {w : World} {K : PySem.W.Frag} {elts : List Expr} {kk : Nat} {tpos : Pos} {a b z TI TO i1 i2 : Addr} (D : ZipApart z TI TO i1 i2 a b) :
    Turn P w K (.Tuple elts kk tpos) (ItzS K a b) [z, TI, TO, i1, i2] z (fun i h => K07Zip h z TI TO .none ∧ IsPair h TI (.ref i1) (.ref i2) ∧ (∃ x y, IsPair h TO x y) ∧ h.IsListIter i1 a i ∧ h.IsListIter i2 b i) where
  mem := by simp
  obj := fun i h st c hc => by
    obtain ⟨hz, hTI, ⟨x, y, hTO⟩, ⟨o1, e1, _, d1⟩, ⟨o2, e2, _, d2⟩⟩ := st
    have e' : c = z ∨ c = TI ∨ c = TO ∨ c = i1 ∨ c = i2 := by simpa using hc
    rcases e' with q | q | q | q | q
    · rw [q]; exact ⟨_, hz, fun v q => nomatch q⟩
    · rw [q]; exact ⟨_, hTI, fun v q => nomatch q⟩
    · rw [q]; exact ⟨_, hTO, fun v q => nomatch q⟩
    · rw [q]; exact ⟨o1, e1, fun v q => by rw [d1] at q; cases q⟩
    · rw [q]; exact ⟨o2, e2, fun v q => by rw [d2] at q; cases q⟩
  keep := fun i h h' st k => by
    obtain ⟨hz, hTI, ⟨x, y, hTO⟩, h1, h2⟩ := st
    exact ⟨k z (by simp) _ hz, k TI (by simp) _ hTI, ⟨x, y, k TO (by simp) _ hTO⟩, h1.at fun o q => k i1 (by simp) o q, h2.at fun o q => k i2 (by simp) o q⟩
  item := by
    intro X hP hw hK hc i pins s σ H E I hf st hg
    subst hP hw hK
    obtain ⟨hz, hTI, ⟨x0, y0, hTO⟩, h1, h2⟩ := st
    obtain ⟨xs, ys, x, y, hqx, hqy, hx, hy⟩ := hg
    obtain ⟨its, rv, p, _⟩ := I.list hqx
    obtain ⟨its2, rv2, p2, _⟩ := I.list hqy
    obtain ⟨u, hu, ru⟩ := rv.get hx
    obtain ⟨u2, hu2, ru2⟩ := rv2.get hy
    have hzl : z < s.heap.objs.size := Heap.lt_size hz
    refine k07_next_item D hz hTI hTO h1 h2 p.isList p2.isList (x := u) (y := u2) (by simpa using hu) (by simpa using hu2) fun h' z' TO' h1' h2' hT hsz hk => ?_
    refine ⟨_, rfl, k07_go_zip (s := { s with heap := h' }) z' fun h'' z'' sb => ?_⟩
    have hT2 : h''.get? s.heap.objs.size = some { cls := .type "tuple", data := .seq #[u, u2] } := (sb.2 _ (Nat.ne_of_gt hzl)).trans hT
    have new : ObjOk X.prog X.w (upd H s.heap.objs.size (.tup [x, y])) h'' s.heap.objs.size (.tup [x, y]) :=
      ⟨by show 2 ≤ sizeLine; decide, [u, u2], .cons ru (.cons ru2 .nil), ⟨_, hT2, rfl, _, rfl⟩⟩
    have I1 : Inv X pins σ (upd H s.heap.objs.size (.tup [x, y])) { s with heap := h'' } :=
      I.turnedNew (t' := s.toks) (ch := [z, TI, TO, i1, i2]) (fun c o hb q => (sb.2 c (fun q' => hb (by simp [q']))).trans (hk c o (fun q' => hb (by simp [q'])) (fun q' => hb (by simp [q'])) (fun q' => hb (by simp [q'])) (fun q' => hb (by simp [q'])) q)) hf (Nat.le_refl _) new
    refine ⟨.ref s.heap.objs.size, _, I1, rfl, ⟨_, x, y, rfl, I.hok.fresh (Nat.le_refl _), rfl, fun l hl => by rw [I.list_inj hl hqx]; exact hx, fun l hl => by rw [I.list_inj hl hqy]; exact hy⟩, ⟨z'', ?_, ⟨u, u2, ?_⟩, ?_, ?_⟩, fun c hcm => ?_⟩
    · exact (sb.2 _ D.TIz).trans (hk _ _ D.TIz D.TITO D.TIi1 D.TIi2 hTI)
    · exact (sb.2 _ D.TOz).trans TO'
    · exact h1'.at fun o q => (sb.2 _ D.i1z).trans q
    · exact h2'.at fun o q => (sb.2 _ D.i2z).trans q
    · have hlt : c < s.heap.objs.size := by
        have e' : c = z ∨ c = TI ∨ c = TO ∨ c = i1 ∨ c = i2 := by simpa using hcm
        rcases e' with q | q | q | q | q
        · rw [q]; exact hzl
        · rw [q]; exact Heap.lt_size hTI
        · rw [q]; exact Heap.lt_size hTO
        · rw [q]; obtain ⟨_, e1, _⟩ := h1; exact Heap.lt_size e1
        · rw [q]; obtain ⟨_, e2, _⟩ := h2; exact Heap.lt_size e2
      rw [upd_ne (Nat.ne_of_lt hlt)]
      exact (hf c hcm).1
  done := by
    intro X hP hw hK hc i pins s σ H E I hf st hg
    subst hP hw hK
    obtain ⟨hz, hTI, ⟨x0, y0, hTO⟩, h1, h2⟩ := st
    obtain ⟨xs, ys, hqx, hqy, en1, en2⟩ := hg
    obtain ⟨its, rv, p, _⟩ := I.list hqx
    obtain ⟨its2, rv2, p2, _⟩ := I.list hqy
    have l1 := rv.length
    have l2 := rv2.length
    exact k07_next_end (I.ok.hd hc) D hz hTI hTO h1 h2 p.isList p2.isList (by simp; omega) (by simp; omega) fun h' hk => ⟨rfl, I.turnedL (t' := s.toks) (ch := [z, TI, TO, i1, i2]) (fun c o hb q =>
      hk c o (fun q' => hb (by simp [q'])) (fun q' => hb (by simp [q'])) (fun q' => hb (by simp [q'])) (fun q' => hb (by simp [q'])) q) hf⟩
  self := fun A i s Q E st h => k07_iter_zip st.1 h
def iZipS (K : PySem.W.Frag) (ta : TA) : TI := fun σ H R => ta σ H fun vs H1 => ∃ a b xs ys, vs = [.ref a, .ref b] ∧ SqL K H1 a xs ∧ SqL K H1 b ys ∧ R (ItzS K a b) H1
theorem pi_zipS {X : Cx} {e e2 : Expr} {ta : TA} {p pos tpos kp kp2 : Pos} {kj : Nat} {elts : List Expr} {kk : Nat} (hg : Gl X "zip") (hm : X.mg "zip" = none) (ha : PA X [e, e2] ta)
    (he : backTo pos (starEach [e, e2] X.env) = (false, eval e X.env) :: backTo pos (starEach [e2] X.env) := by rfl) (hpl : (backTo pos (starEach [e, e2] X.env)).any (·.1) = false := by rfl) :
    PI X (.Tuple elts kk tpos) (.Call (.Name "zip" p) [e, e2] [⟨some (PySem.Str.ofString "strict"), .Constant (.bool true) kj kp2, kp⟩] pos) (iZipS X.K ta) := by
  refine ⟨fun pins s σ H R I h => ?_⟩
  refine wpAny_Call_Name_kw (ld_blt I hg hm PyProof.Rows.boot_zip (callWith_typeK (thn (ha.run pos pins s σ H _ I h) fun us s1 ⟨vs, H1, I1, r1, q1⟩ => ?_) he hpl (by rfl) (by rfl)))
  refine PyProof.Rows.kws_cons (Constant_bool (PyProof.Rows.kws_nil ?_))
  obtain ⟨a, b, xs, ys, ex, hqx, hqy, q⟩ := q1
  subst ex
  cases r1 with
  | cons r rr =>
    cases rr with
    | cons r' rr =>
      cases rr
      cases r
      cases r'
      obtain ⟨its, rv, p1, _⟩ := I1.list hqx
      obtain ⟨its2, rv2, p2, _⟩ := I1.list hqy
      show wpAny _ _ (call (.type "zip") [.ref a, .ref b] [(PySem.Str.ofString "strict", .bool true)]) _ _ _
      refine k07_call_zip p1.isList p2.isList fun h' hz hTI hTO h1 h2 hk => k07_iter_zip hz ?_
      have I2 : Inv X pins σ H1 { s1 with heap := h' } := I1.kept (t' := s1.toks) hk
      refine ⟨s1.heap.objs.size + 4, [s1.heap.objs.size + 4, s1.heap.objs.size + 2, s1.heap.objs.size + 3, s1.heap.objs.size, s1.heap.objs.size + 1], _, _, H1, rfl, I2, turn_zipS (PySem.W.ktu_apart s1.heap.objs.size a b p1.lt p2.lt), ⟨hz, hTI, ⟨_, _, hTO⟩, h1, h2⟩, fun c hcm => ?_, q⟩
      have e' : c = s1.heap.objs.size + 4 ∨ c = s1.heap.objs.size + 2 ∨ c = s1.heap.objs.size + 3 ∨ c = s1.heap.objs.size ∨ c = s1.heap.objs.size + 1 := by simpa using hcm
      have hle : s1.heap.objs.size ≤ c := by
        rcases e' with z | z | z | z | z
        · rw [z]; exact Nat.le_add_right _ _
        · rw [z]; exact Nat.le_add_right _ _
        · rw [z]; exact Nat.le_add_right _ _
        · rw [z]; exact Nat.le_refl _
        · rw [z]; exact Nat.le_add_right _ _
      exact I1.fpOk hle (I1.hok.fresh hle)
theorem walk_zipS {K : PySem.W.Frag} {a b : Addr} {xs ys : List V} (hn : xs.length = ys.length) : Walk (ItzS K a b) xs.length (fun H => SqL K H a xs ∧ SqL K H b ys) (YPair (fun i => xs[i]?) (fun i => ys[i]?)) := by
  refine ⟨fun i _ hi q => ?_, fun _ q => ⟨xs, ys, q.1, q.2, rfl, hn.symm⟩, fun i H v H' _ q y => ?_⟩
  · have h2 : i < ys.length := by omega
    exact ⟨xs, ys, xs[i], ys[i], q.1, q.2, by simp [hi], by simp [h2]⟩
  · obtain ⟨T, x, z, h1, h2, h3, h4, h5⟩ := y
    exact ⟨T, x, z, h1, h2, h3, h4 xs q.1, h5 ys q.2⟩
end K07
/-! K07R4 -/
set_option Elab.async false
set_option linter.all false
set_option maxRecDepth 100000
set_option maxHeartbeats 4000000
namespace K07
open PySem PySem.Spec PyProof.Rows L2
section
variable {X : Cx}
theorem sw_trueD {kx vx : Expr} {gs : List Comprehension} {scope : Scope} {pos py : Pos} {y : Str} {l : Nat} {env : Env} (hk : env.scope.kind = .function) (hy : env.scope.names.lookup y = some .local) (hl : (py.line == pos.line) = true)
    (ha : (scope.names.any fun (n, k) => n == y && (k == .local || k == .cell)) = false) : swapsWith (.DictComp kx vx gs scope pos) (some (.Name y py)) l env = pure true := by
  have ky : env.kindOf y = some .local := hy
  have hb : env.blockKind = .function := by unfold Env.blockKind; rw [hk]; rfl
  unfold swapsWith
  simp only [hb, ky, ha, Expr.pos, hl]
  rfl
/-- name = {k: v for ..} on one line, the name a local -/
theorem ps_setDc {i : Nat} {y : Str} {py : Pos} {kx vx tg iter : Expr} {ifs : List Expr} {scope : Scope} {own : List (Str × Nat)} {pos spos : Pos} {wi : TI} {g : TG} {tt : TT} {tk tv : TE} (hc : X.calm = true) (hN : X.N.Nodup) (hy : X.N[i]? = some y) (hyl : X.env.scope.names.lookup y = some .local)
    (hsw : swapsWith (.DictComp kx vx [⟨tg, iter, ifs, 0⟩] scope pos) (some (.Name y py)) spos.line X.env = pure true) (hi : PI X tg iter wi) (ok : BlkOk X.N X.env.scope scope own)
    (hg : ∀ (s : Shared) (H : Hp) (C : Addr) (cl : List (Str × Addr)) (fp : List Addr), PG (X.blk s H scope (compEnvC scope cl C X.env) fp) tg g) (ht : ∀ (s : Shared) (H : Hp) (C : Addr) (cl : List (Str × Addr)) (fp : List Addr), PTs (X.blk s H scope (compEnvC scope cl C X.env) fp) ifs tt)
    (hk : ∀ (s : Shared) (H : Hp) (C : Addr) (cl : List (Str × Addr)) (fp : List Addr), PE (X.blk s H scope (compEnvC scope cl C X.env) fp) kx tk)
    (he : ∀ (s : Shared) (H : Hp) (C : Addr) (cl : List (Str × Addr)) (fp : List Addr), PE (X.blk s H scope (compEnvC scope cl C X.env) fp) vx tv) (hs : ∀ x, foldedSetIterable iter X.env x = pure x := by intro _; rfl) :
    PS X (.Assign [.Name y py] (.DictComp kx vx [⟨tg, iter, ifs, 0⟩] scope pos) spos) (tAsg (tDc wi g tt tk tv (own.map (·.2))) (gName i)) := by
  refine ⟨fun pins s σ H D I h => ?_⟩
  rw [exec_Assign_Name_used _ _ _ _ hsw]
  refine wpAny_bind (wpAny_standAt (wpAny_bind ?_))
  show wpAny _ X.A (do let _ ← comprehension (.DictComp kx vx [⟨tg, iter, ifs, 0⟩] scope pos) scope X.env (firstIterPos [⟨tg, iter, ifs, 0⟩] pos) newDict false (eval iter X.env) (some (assign (.Name y py) X.env))) _ _ s
  have h' : tDc wi g tt tk tv (own.map (·.2)) σ H (fun x H1 => gName i x σ H1 D.nx) := h
  refine wpAny_bind (thn (dc_core (Qf := fun _ s' => SP X pins D .next s') hc hN I hi ok hg ht hk he hs h' fun L C s' m H' I' q hn f => ?_) fun _ s' hq => wpAny_pure (wpAny_pure hq))
  show wpAny _ _ (assign (.Name y py) X.env (.ref L)) _ _ _
  refine wpAny_assign_Name (store_ok2 (v := V.ref L) I' hN hy (.inl hyl) rfl (fun s2 I2 ⟨a, sb, ha⟩ => ?_) (.inr hyl))
  obtain ⟨f0, f1, f2, f3, f4, f5⟩ := f
  have haC : C ≠ a := by
    rcases ha with z | z
    · rw [z]; exact f1
    · exact fun e => f4 y a z e.symm
  refine ⟨m, hn.sameBut sb haC, fun h3 sb3 => ?_⟩
  exact ⟨_, H', I2.turned (t' := s2.toks) (fun b o hb e => (sb3.2 b hb).trans e) f0 f1 f3 f4 f5, q⟩
/-- a dict comprehension over any walk -/
theorem dc_it {J : It} {n : Nat} {G : Hp → Prop} {Y : Nat → Hp → V → Hp → Prop} (w : Walk J n G Y) {g : TG} {tt : TT} {tk tv : TE} {vs : List Nat} {σ : L2.St} {H1 : Hp} {D : Addr} {Qd : Hp → Prop} (Pv : Nat → Hp → Prop) (h0 : Pv 0 (upd H1 D (.dK []))) (hG : ∀ i H, i ≤ n → Pv i H → G H)
    (hs : ∀ i x H H', i < n → Pv i H → Y i H x H' → g x (wipe σ vs) H' fun σ2 H2 => wipe σ2 vs = wipe σ vs ∧ tt σ2 H2 fun b H3 =>
      if b = true then tk σ2 H3 fun y H4 => tv σ2 H4 fun z H5 => ∃ kvs k, y = kV k ∧ H5 D = some (.dK kvs) ∧ kvs.length < sizeLine ∧ Pv (i + 1) (upd H5 D (.dK (putK kvs k z))) else Pv (i + 1) H3) (hd : ∀ H, Pv n H → Qd H) :
    ∃ W : Nat → Nat → Hp → Prop, (∃ m, W 0 m (upd H1 D (.dK []))) ∧ ∀ i m H, W i m H →
      (J.stop i H ∧ Qd H) ∨ (J.go i H ∧ ∃ Nx : Hp → Prop, (∀ H', Nx H' → ∃ m', m' < m ∧ W (i + 1) m' H') ∧ ∀ x H', J.yld i H x H' → g x (wipe σ vs) H' fun σ2 H2 => wipe σ2 vs = wipe σ vs ∧ tt σ2 H2 fun b H3 =>
        if b = true then tk σ2 H3 fun y H4 => tv σ2 H4 fun z H5 => ∃ kvs k, y = kV k ∧ H5 D = some (.dK kvs) ∧ kvs.length < sizeLine ∧ Nx (upd H5 D (.dK (putK kvs k z))) else Nx H3) := by
  refine ⟨fun i m H => m = n - i ∧ i ≤ n ∧ Pv i H, ⟨n, by simp, Nat.zero_le _, h0⟩, ?_⟩
  rintro i m H ⟨rfl, hi, p⟩
  have q := hG i H hi p
  by_cases hlt : i < n
  · exact .inr ⟨w.goes i H hlt q, Pv (i + 1), fun H' p' => ⟨n - (i + 1), by omega, rfl, hlt, p'⟩, fun x H' y => hs i x H H' hlt p (w.yields i H x H' hlt q y)⟩
  · have e : i = n := by omega
    subst e
    exact .inl ⟨w.stops H q, hd H p⟩
end
end K07
/-! K07E -/
set_option Elab.async false
set_option linter.all false
set_option maxRecDepth 100000
set_option maxHeartbeats 4000000
namespace K07
open PySem PySem.Spec PyProof.Rows L2
/-! ### == and != over lists and tuples of numbers -/
def iD (l : List Nat) : List PyData := l.map fun (d : Nat) => PyData.int (d : Int)
def zD (l : List Int) : List PyData := l.map fun d => PyData.int d
theorem iD_z (l : List Nat) : iD l = zD (l.map fun (d : Nat) => (d : Int)) := by
  unfold iD zD
  rw [List.map_map]
  rfl
theorem dpAll_z {K : PySem.W.Frag} {H : Hp} : ∀ l : List Int, DpAll K H (l.map V.int) (zD l)
  | [] => .nil
  | d :: l => .cons (.int d) (dpAll_z l)
theorem dpAll_n {K : PySem.W.Frag} {H : Hp} (l : List Nat) : DpAll K H (nV l) (iD l) := by
  rw [nV_map, iD_z]
  exact dpAll_z _
theorem canZ : ∀ l : List Int, PyData.canLayAll0 (zD l) = true
  | [] => rfl
  | d :: l => by
    show (true && PyData.canLayAll0 (zD l)) = true
    rw [canZ l]
    rfl
theorem depZ : ∀ l : List Int, PyData.depthAll (zD l) = 0
  | [] => rfl
  | d :: l => by
    show max 0 (PyData.depthAll (zD l)) = 0
    rw [depZ l]
    rfl
theorem shL (l : List Int) : SeqAt.shaped (.list (zD l)) = true := by
  show (PyData.canLayAll0 (zD l) && decide (PyData.depthAll (zD l) + 1 ≤ 64)) = true
  rw [canZ, depZ]
  rfl
theorem shT (l : List Int) : SeqAt.shaped (.tuple (zD l)) = true := by
  show (PyData.canLayAll0 (zD l) && decide (PyData.depthAll (zD l) + 1 ≤ 64)) = true
  rw [canZ, depZ]
  rfl
theorem shLn (l : List Nat) : SeqAt.shaped (.list (iD l)) = true := by rw [iD_z]; exact shL _
theorem shTn (l : List Nat) : SeqAt.shaped (.tuple (iD l)) = true := by rw [iD_z]; exact shT _
theorem eqvZ : ∀ l r : List Int, PyData.eqvAll (zD l) (zD r) = decide (l = r)
  | [], [] => rfl
  | [], _ :: _ => rfl
  | _ :: _, [] => rfl
  | x :: l, y :: r => by
    show ((x == y) && PyData.eqvAll (zD l) (zD r)) = _
    rw [eqvZ l r]
    by_cases e : x = y
    · by_cases e2 : l = r
      · simp [e, e2]
      · simp [e, e2]
    · simp [e]
theorem eqvNil (l : List Nat) : PyData.eqvAll (iD l) [] = l.isEmpty := by cases l <;> rfl
theorem castInj : ∀ {l r : List Nat}, (l.map fun (d : Nat) => (d : Int)) = (r.map fun (d : Nat) => (d : Int)) → l = r
  | [], [], _ => rfl
  | [], _ :: _, h => by simp at h
  | _ :: _, [], h => by simp at h
  | x :: l, y :: r, h => by
    rw [List.map_cons, List.map_cons] at h
    obtain ⟨h1, h2⟩ := List.cons.inj h
    rw [castInj h2, show x = y by omega]
theorem eqvN (l r : List Nat) : PyData.eqvAll (iD l) (iD r) = decide (l = r) := by
  rw [iD_z, iD_z, eqvZ]
  by_cases e : l = r
  · rw [decide_eq_true e, decide_eq_true (by rw [e])]
  · rw [decide_eq_false e, decide_eq_false (fun q => e (castInj q))]
end K07
/-! K07D2 -/
set_option Elab.async false
set_option linter.all false
set_option maxRecDepth 100000
set_option maxHeartbeats 4000000
namespace K07
open PySem PySem.Spec PyProof.Rows L2
/-! ### dart_count, dart_tails, successors -/
/-- a comprehension's list grows -/
structure Cw (H : Hp) (D : Addr) (acc : List V) (H' : Hp) : Prop where
  new : H D = none
  same : Same H H'
  at_ : H' D = some (.lst acc)
theorem Cw.start {H : Hp} {D : Addr} (h : H D = none) : Cw H D [] (upd H D (.lst [])) := ⟨h, Same.new h, upd_same⟩
theorem Cw.next {H H' H2 : Hp} {D : Addr} {acc : List V} {y : V} (c : Cw H D acc H') (e : Same H' H2) : Cw H D (acc ++ [y]) (upd H2 D (.lst (acc ++ [y]))) :=
  ⟨c.new, Same.upd (c.same.trans e) c.new, upd_same⟩
theorem Cw.keep {H H' H2 : Hp} {D : Addr} {acc : List V} (c : Cw H D acc H') (e : Same H' H2) : Cw H D acc H2 := ⟨c.new, c.same.trans e, e _ _ c.at_⟩
/-- len of a list or a tuple -/
def rLenQ (K : PySem.W.Frag) : List V → Hp → VK → Prop := fun xs H Q => ∃ p ys, xs = [.ref p] ∧ (SqL K H p ys ∨ SqT K H p ys) ∧ Q (.int ys.length) H
def lenS (G : List (List Nat)) : List Int := G.map fun r => (r.length : Int)
theorem lenS_sum : ∀ G : List (List Nat), (lenS G).sum = ((G.flatten.length : Nat) : Int)
  | [] => rfl
  | r :: G => by
    have ih := lenS_sum G
    unfold lenS at ih ⊢
    rw [List.map_cons, List.sum_cons, ih, List.flatten_cons, List.length_append]
    omega
theorem Gr.total {n m : Nat} {G : List (List Nat)} {nx tl : Nat → Nat} (h : Gr n m G nx tl) : G.flatten.length = 2 * m := by
  have p : G.flatten.Perm (List.range (2 * m)) := (List.perm_ext_iff_of_nodup h.hg.nd List.nodup_range).mpr fun d => by rw [h.hg.mem d, List.mem_range]
  rw [p.length_eq, List.length_range]
theorem GrT.lens {H : Hp} {g : Addr} {G : List (List Nat)} (h : GrT H g G) {i : Nat} {x : V} {xs : List V} (hx : H g = some (.tup xs)) (e : xs[i]? = some x) : ∃ a r, x = .ref a ∧ G[i]? = some r ∧ H a = some (.tup (nV r)) := by
  obtain ⟨ra, h1, h2⟩ := h.ex
  rw [h1] at hx
  cases hx
  obtain ⟨hi, rfl⟩ := rowsV_get e
  exact ⟨ra i, G[i], rfl, List.getElem?_eq_getElem hi, h2 i _ (List.getElem?_eq_getElem hi)⟩
def spCount : Sp := fun vs H Q _ => ∃ (g : Addr) (G : List (List Nat)) (n m : Nat) (nx tl : Nat → Nat), vs = [.ref g] ∧ GA H g n m G nx tl ∧ ∀ H', Same H H' → Q (.int ((2 * m : Nat) : Int)) H'
/-- the tails by the darts -/
def spTails : Sp := fun vs H Q _ => ∃ (g : Addr) (G : List (List Nat)) (n m : Nat) (nx tl : Nat → Nat), vs = [.ref g] ∧ GA H g n m G nx tl ∧
  ∀ (H' : Hp) (p : Addr), Same H H' → H p = none → H' p = some (.lst (nV ((List.range (2 * m)).map tl))) → Q (.ref p) H'
def spSucc : Sp := fun vs H Q _ => ∃ (g : Addr) (G : List (List Nat)) (n m : Nat) (nx tl : Nat → Nat), vs = [.ref g] ∧ GA H g n m G nx tl ∧
  ∀ (H' : Hp) (p : Addr), Same H H' → H p = none → H' p = some (.lst (nV ((List.range (2 * m)).map (ph nx)))) → Q (.ref p) H'
section
variable {P : Program} {w : World} {K : PySem.W.Frag} {mg : Str → Option Value} {base : Heap} {f : Addr} {fd : FuncData}
theorem sc_count : FnScope ["graph", "rotation"] ["graph"] (defScope s_dart_count) := ⟨rfl, rfl, rfl, by decide +kernel, rfl, by decide +kernel, by decide +kernel⟩
theorem ok_count (F : FnP K "dart_count" s_dart_count f fd) (T : Txt mg) : FnOk P w K mg base CX0 1 f fd ["graph"] spCount := by
  refine F.ok sc_count (fun vs H Q E h => ?_) (fun cdv A outer s H vs Q E hr h => ?_)
  · obtain ⟨g, G, n, m, nx, tl, rfl, _⟩ := h
    rfl
  · obtain ⟨g, G, n, m, nx, tl, rfl, hg, k⟩ := h
    refine ⟨_, PSs.nox (pss_one (ps_ret (pe_callB (cr_sum rfl) (by rfl) T.sum (by decide +kernel) (pa_cons
      (pe_lc (own := [("rotation", 1)]) (g := gName 1) (tt := tYes) rfl sc_count.nd (pi_tup (pv 0)) (blkOk_by (N := ["graph", "rotation"]) (sc := defScope s_dart_count) (by decide +kernel))
        (fun _ _ _ _ _ => pg_name (i := 1) sc_count.nd rfl (Or.inl rfl)) (fun _ _ _ _ _ => pts_nil) (fun _ _ _ _ _ => pe_callB (r := rLenQ K) call_len_seq (by rfl) T.len PySem.boot_len (pa_cons (pv 1) pa_nil))) pa_nil)))), ?_⟩
    obtain ⟨ra, h1, h2⟩ := hg.at_.ex
    refine ⟨_, rfl, g, rfl, ⟨_, SqT.of h1⟩, fun D hD => ?_⟩
    refine lc_tup (K := K) (a := g) (xs := rowsV G.length ra) (fun i H' => Cw H D ((lenS (G.take i)).map V.int) H') (Cw.start hD) (fun i H' _ c => SqT.of (c.same _ _ h1)) ?_ ?_
    · intro i x H' hi c
      obtain ⟨hlt, rfl⟩ := rowsV_get hi
      have hr : G[i]? = some G[i] := List.getElem?_eq_getElem hlt
      refine ⟨rfl, ?_⟩
      refine ⟨_, rfl, ra i, nV G[i], rfl, .inr (SqT.of (c.same _ _ (h2 i _ hr))), _, c.at_, ?_, ?_⟩
      · rw [List.length_map]
        unfold lenS
        rw [List.length_map, List.length_take]
        exact sz_lt (by have := hg.n7; have := hg.gr.len; omega)
      · have e : (lenS (G.take (i + 1))).map V.int = (lenS (G.take i)).map V.int ++ [V.int ((nV G[i]).length : Nat)] := by
          unfold lenS
          rw [List.take_add_one, hr, List.map_append, List.map_append, nV_len]
          rfl
        rw [e]
        exact c.next (Same.refl _)
    · intro H' c
      rw [rowsV_len, List.take_of_length_le (Nat.le_refl _)] at c
      refine ⟨D, lenS G, rfl, SqL.of c.at_, ?_⟩
      rw [lenS_sum, hg.gr.total]
      exact k H' c.same
end
end K07
/-! K07D3 -/
set_option Elab.async false
set_option linter.all false
set_option maxRecDepth 100000
set_option maxHeartbeats 4000000
namespace K07
open PySem PySem.Spec PyProof.Rows L2
theorem nV_set (l : List Nat) (i d : Nat) : (nV l).set i (.int (d : Int)) = nV (l.set i d) := by
  unfold nV
  rw [List.map_set]
theorem nV_at {l : List Nat} {i d : Nat} (h : l[i]? = some d) : (nV l)[i]? = some (.int (d : Int)) := by
  unfold nV
  rw [List.getElem?_map, h]
  rfl
theorem rep0 (n : Nat) : (List.replicate n [V.int 0]).flatten = nV (List.replicate n 0) := by
  induction n with
  | zero => rfl
  | succ n ih => rw [List.replicate_succ, List.flatten_cons, ih, List.replicate_succ]; rfl
theorem ixN_at {n j : Nat} (h : j < n) : ixN n (j : Int) = some j := by
  unfold ixN
  rw [if_pos (by omega), if_pos (by omega)]
  simp
theorem ext_map {T : List Nat} {N : Nat} {f : Nat → Nat} (hl : T.length = N) (h : ∀ d, d < N → T[d]? = some (f d)) : T = (List.range N).map f := by
  refine List.ext_getElem? fun d => ?_
  rw [List.getElem?_map]
  by_cases hd : d < N
  · rw [h d hd, List.getElem?_range hd]
    rfl
  · rw [List.getElem?_eq_none (by omega), List.getElem?_eq_none (by rw [List.length_range]; omega)]
    rfl
/-- all darts up to a place: whole rows ahead of i, the first j of row i -/
def Seen (G : List (List Nat)) (i j : Nat) (d : Nat) : Prop := (∃ i' r, i' < i ∧ G[i']? = some r ∧ d ∈ r) ∨ ∃ r, G[i]? = some r ∧ d ∈ r.take j
theorem Seen.zero {G : List (List Nat)} {d : Nat} : ¬ Seen G 0 0 d := by
  rintro (⟨i', r, h, _⟩ | ⟨r, _, h⟩)
  · omega
  · simp at h
theorem Seen.next {G : List (List Nat)} {i j d e : Nat} {r : List Nat} (hr : G[i]? = some r) (hj : r[j]? = some e) : Seen G i (j + 1) d ↔ Seen G i j d ∨ d = e := by
  constructor
  · rintro (h | ⟨r', h1, h2⟩)
    · exact .inl (.inl h)
    · rw [hr] at h1
      cases h1
      rw [List.take_add_one, hj] at h2
      rcases List.mem_append.mp h2 with q | q
      · exact .inl (.inr ⟨r, hr, q⟩)
      · exact .inr (by simpa using q)
  · rintro ((h | ⟨r', h1, h2⟩) | h)
    · exact .inl h
    · rw [hr] at h1
      cases h1
      exact .inr ⟨r, hr, by rw [List.take_add_one]; exact List.mem_append_left _ h2⟩
    · exact .inr ⟨r, hr, by rw [List.take_add_one, hj]; exact List.mem_append_right _ (by simp [h])⟩
theorem Seen.row {G : List (List Nat)} {i d : Nat} {r : List Nat} (hr : G[i]? = some r) : Seen G (i + 1) 0 d ↔ Seen G i r.length d := by
  constructor
  · rintro (⟨i', r', h, h1, h2⟩ | ⟨r', _, h⟩)
    · by_cases e : i' = i
      · subst e
        rw [hr] at h1
        cases h1
        exact .inr ⟨r, hr, by rw [List.take_length]; exact h2⟩
      · exact .inl ⟨i', r', by omega, h1, h2⟩
    · simp at h
  · rintro (⟨i', r', h, h1, h2⟩ | ⟨r', h1, h2⟩)
    · exact .inl ⟨i', r', by omega, h1, h2⟩
    · exact .inl ⟨i, r', by omega, h1, List.mem_of_mem_take h2⟩
theorem Seen.all {G : List (List Nat)} {d : Nat} : Seen G G.length 0 d ↔ d ∈ G.flatten := by
  constructor
  · rintro (⟨i', r', h, h1, h2⟩ | ⟨r', h1, h2⟩)
    · exact List.mem_flatten.mpr ⟨r', List.mem_of_getElem? h1, h2⟩
    · simp at h2
  · intro h
    obtain ⟨r, h1, h2⟩ := List.mem_flatten.mp h
    obtain ⟨i, hi, e⟩ := List.mem_iff_getElem.mp h1
    exact .inl ⟨i, r, hi, by rw [List.getElem?_eq_getElem hi, e], h2⟩
section
variable {P : Program} {w : World} {K : PySem.W.Frag} {mg : Str → Option Value} {base : Heap} {f fC fO : Addr} {fd fdC fdO : FuncData}
theorem sc_tails : FnScope ["graph", "tails", "node", "rotation", "dart"] ["graph"] (defScope s_dart_tails) := ⟨rfl, rfl, rfl, by decide +kernel, rfl, by decide +kernel, by decide +kernel⟩
theorem ok_tails (F : FnP K "dart_tails" s_dart_tails f fd) (T : Txt mg) (C : Dn K mg "dart_count" s_dart_count ["graph"] fC fdC) : FnOk P w K mg base CX0 2 f fd ["graph"] spTails := by
  have GC : FnOk P w K mg base CX0 1 fC fdC ["graph"] spCount := ok_count C.F T
  refine F.ok sc_tails (fun vs H Q E h => ?_) (fun cdv A outer s H vs Q E hr h => ?_)
  · obtain ⟨g, G, n, m, nx, tl, rfl, _⟩ := h
    rfl
  · obtain ⟨g, G, n, m, nx, tl, rfl, hg, k⟩ := h
    refine ⟨_, PSs.nox (pss_cons (ps_set (i := 1) sc_tails.nd rfl (.inl rfl) (pe_op op_rep (pe_lst (pa_cons pe_int pa_nil)) (pe_call GC hr (by rfl) C.g C.F.kp C.b .nil pass0 (pa_cons (pv 0) pa_nil))))
      (pss_cons (ps_for PassesOwn.never rfl (pi_enumT (by rfl) T.enumerate (pa_cons (pv 0) pa_nil)) (pg_tup rfl (pgs_cons (pg_name (i := 2) sc_tails.nd rfl (.inl rfl)) (pgs_cons (pg_name (i := 3) sc_tails.nd rfl (.inl rfl)) pgs_nil)))
        (pss_one (ps_for PassesOwn.never rfl (pi_tup (pv 3)) (pg_name (i := 4) sc_tails.nd rfl (.inl rfl)) (pss_one (ps_asg (pv 2) (pg_sub (pv 1) (pv 4) set_list))))))
      (pss_one (ps_ret (pv 1))))), ?_⟩
    refine ⟨by show 1 ≤ sizeLine; decide, fun l hl => ?_⟩
    have g0 : GA (upd H l (.lst [V.int 0])) g n m G nx tl := hg.same (Same.new hl)
    refine ⟨_, rfl, g, G, n, m, nx, tl, rfl, g0, fun H1 s1 => ?_⟩
    have nm : 2 * m ≤ 18 := by have := hg.m9; omega
    refine ⟨l, _, _, rfl, rfl, s1 _ _ upd_same, by omega, by omega, ?_, fun p hp => ?_⟩
    · simp only [List.length_singleton, Nat.one_mul, Int.toNat_natCast]
      exact sz_ok (by omega)
    rw [Int.toNat_natCast, rep0]
    have s2 : Same H H1 := (Same.new hl).trans s1
    have hp0 : H p = none := s2.free hp
    have s3 : Same H (upd H1 p (.lst (nV (List.replicate (2 * m) 0)))) := s2.upd hp0
    have g1 := hg.same s3
    obtain ⟨ra, h1, h2⟩ := hg.at_.ex
    refine ⟨_, rfl, g, _, rfl, SqT.of (s3 _ _ h1), ?_⟩
    refine for_it (walk_enumT (K := K) (a := g) (xs := rowsV G.length ra)) (fun i σ H' => ∃ (x y z : Option V) (T : List Nat), σ = [some (.ref g), some (.ref p), x, y, z] ∧ Same H H' ∧ H' p = some (.lst (nV T)) ∧ T.length = 2 * m ∧ ∀ d, Seen G i 0 d → T[d]? = some (tl d))
      ⟨none, none, none, _, rfl, s3, upd_same, by simp, fun d hd => absurd hd Seen.zero⟩ (fun i σ H' _ ⟨_, _, _, _, _, s4, _⟩ => SqT.of (s4 _ _ h1)) ?_ ?_
    · rintro i x σ H' H'' hi ⟨x1, y1, z1, T1, rfl, s4, hT, hlen, hs⟩ ⟨q, a, b, rfl, hq, rfl, e1, e2⟩
      cases e1
      obtain ⟨hlt, rfl⟩ := rowsV_get e2
      have hr1 : G[i]? = some G[i] := List.getElem?_eq_getElem hlt
      have q0 : H q = none := s4.free hq
      have s5 : Same H (upd H' q (.tup [.int (i : Nat), .ref (ra i)])) := s4.upd q0
      refine ⟨q, _, rfl, SqT.of upd_same, rfl, _, _, rfl, _, _, rfl, rfl, ?_⟩
      refine ⟨_, rfl, ra i, rfl, ⟨_, SqT.of (s5 _ _ (h2 i _ hr1))⟩, for_tup (K := K) (a := ra i) (xs := nV G[i]) (fun j σ H' => ∃ (z : Option V) (T : List Nat), σ = [some (.ref g), some (.ref p), some (.int (i : Nat)), some (.ref (ra i)), z] ∧ Same H H' ∧ H' p = some (.lst (nV T)) ∧ T.length = 2 * m ∧ ∀ d, Seen G i j d → T[d]? = some (tl d))
        ⟨z1, T1, rfl, s5, by rw [upd_ne (ne_of_none hT hq)]; exact hT, hlen, hs⟩ (fun j σ H' _ ⟨_, _, _, s6, _⟩ => SqT.of (s6 _ _ (h2 i _ hr1))) ?_ ?_⟩
      · rintro j y σ H3 hj ⟨z2, T2, rfl, s6, hT2, hlen2, hs2⟩
        obtain ⟨d, hd, rfl⟩ := nV_get hj
        have dm : d ∈ G[i] := List.mem_of_getElem? hd
        have dl : d < 2 * m := (hg.gr.hg.mem d).mp (List.mem_flatten.mpr ⟨_, List.getElem_mem hlt, dm⟩)
        refine ⟨_, rfl, _, rfl, _, rfl, p, _, _, d, rfl, rfl, hT2, ixN_at (by rw [nV_len, hlen2]; exact dl), ?_⟩
        refine ⟨_, T2.set d i, rfl, s6.upd hp0, by rw [upd_same, nV_set], by rw [List.length_set]; exact hlen2, fun d' hd' => ?_⟩
        by_cases e : d' = d
        · rw [e, List.getElem?_set_self (by omega), hg.gr.hg.tl i _ d hr1 dm]
        · rw [List.getElem?_set_ne (Ne.symm e)]
          rcases (Seen.next hr1 hd).mp hd' with q | q
          · exact hs2 d' q
          · exact absurd q e
      · rintro σ H3 ⟨z2, T2, rfl, s6, hT2, hlen2, hs2⟩
        rw [nV_len] at hs2
        exact ⟨_, _, _, T2, rfl, s6, hT2, hlen2, fun d hd => hs2 d ((Seen.row hr1).mp hd)⟩
    · rintro σ H' ⟨x1, y1, z1, T1, rfl, s4, hT, hlen, hs⟩
      rw [rowsV_len] at hs
      have e : T1 = (List.range (2 * m)).map tl := ext_map hlen fun d hd => hs d (Seen.all.mpr ((hg.gr.hg.mem d).mpr hd))
      rw [e] at hT
      exact ⟨_, rfl, k H' p s4 hp0 hT⟩
end
end K07
/-! K07D4 -/
set_option Elab.async false
set_option linter.all false
set_option maxRecDepth 100000
set_option maxHeartbeats 4000000
namespace K07
open PySem PySem.Spec PyProof.Rows L2
section
variable {P : Program} {w : World} {K : PySem.W.Frag} {mg : Str → Option Value} {base : Heap} {f fC fO : Addr} {fd fdC fdO : FuncData}
theorem sc_succ : FnScope ["graph", "found", "rotation", "place", "dart"] ["graph"] (defScope s_successors) := ⟨rfl, rfl, rfl, by decide +kernel, rfl, by decide +kernel, by decide +kernel⟩
theorem ok_succ (F : FnP K "successors" s_successors f fd) (T : Txt mg) (C : Dn K mg "dart_count" s_dart_count ["graph"] fC fdC) (O : Dn K mg "opposite_of" s_opposite_of ["dart"] fO fdO) : FnOk P w K mg base CX0 2 f fd ["graph"] spSucc := by
  have GC : FnOk P w K mg base CX0 1 fC fdC ["graph"] spCount := ok_count C.F T
  have GO : FnOk P w K mg base CX0 1 fO fdO ["dart"] spOpp := ok_opp O.F
  refine F.ok sc_succ (fun vs H Q E h => ?_) (fun cdv A outer s H vs Q E hr h => ?_)
  · obtain ⟨g, G, n, m, nx, tl, rfl, _⟩ := h
    rfl
  · obtain ⟨g, G, n, m, nx, tl, rfl, hg, k⟩ := h
    refine ⟨_, PSs.nox (pss_cons (ps_set (i := 1) sc_succ.nd rfl (.inl rfl) (pe_op op_rep (pe_lst (pa_cons pe_int pa_nil)) (pe_call GC hr (by rfl) C.g C.F.kp C.b .nil pass0 (pa_cons (pv 0) pa_nil))))
      (pss_cons (ps_for PassesOwn.never rfl (pi_tup (pv 0)) (pg_name (i := 2) sc_succ.nd rfl (.inl rfl))
        (pss_one (ps_for PassesOwn.never rfl (pi_enumT (by rfl) T.enumerate (pa_cons (pv 2) pa_nil)) (pg_tup rfl (pgs_cons (pg_name (i := 3) sc_succ.nd rfl (.inl rfl)) (pgs_cons (pg_name (i := 4) sc_succ.nd rfl (.inl rfl)) pgs_nil)))
          (pss_one (ps_asg (pe_ix ix_tup (pv 2) (pe_op op_mod (pe_op op_add (pv 3) pe_int) (pe_callB call_len_seq (by rfl) T.len PySem.boot_len (pa_cons (pv 2) pa_nil))) (fun _ _ => rfl))
            (pg_sub (pv 1) (pe_call GO hr (by rfl) O.g O.F.kp O.b .nil pass0 (pa_cons (pv 4) pa_nil)) set_list))))))
      (pss_one (ps_ret (pv 1))))), ?_⟩
    refine ⟨by show 1 ≤ sizeLine; decide, fun l hl => ?_⟩
    have g0 : GA (upd H l (.lst [V.int 0])) g n m G nx tl := hg.same (Same.new hl)
    refine ⟨_, rfl, g, G, n, m, nx, tl, rfl, g0, fun H1 s1 => ?_⟩
    have nm : 2 * m ≤ 18 := by have := hg.m9; omega
    refine ⟨l, _, _, rfl, rfl, s1 _ _ upd_same, by omega, by omega, ?_, fun p hp => ?_⟩
    · simp only [List.length_singleton, Nat.one_mul, Int.toNat_natCast]
      exact sz_ok (by omega)
    rw [Int.toNat_natCast, rep0]
    have s2 : Same H H1 := (Same.new hl).trans s1
    have hp0 : H p = none := s2.free hp
    have s3 : Same H (upd H1 p (.lst (nV (List.replicate (2 * m) 0)))) := s2.upd hp0
    obtain ⟨ra, h1, h2⟩ := hg.at_.ex
    refine ⟨_, rfl, g, rfl, ⟨_, SqT.of (s3 _ _ h1)⟩, for_tup (K := K) (a := g) (xs := rowsV G.length ra) (fun i σ H' => ∃ (x y z : Option V) (T : List Nat), σ = [some (.ref g), some (.ref p), x, y, z] ∧ Same H H' ∧ H' p = some (.lst (nV T)) ∧ T.length = 2 * m ∧ ∀ d, Seen G i 0 d → T[opp d]? = some (nx d))
      ⟨none, none, none, _, rfl, s3, upd_same, by simp, fun d hd => absurd hd Seen.zero⟩ (fun i σ H' _ ⟨_, _, _, _, _, s4, _⟩ => SqT.of (s4 _ _ h1)) ?_ ?_⟩
    · rintro i x σ H' hi ⟨x1, y1, z1, T1, rfl, s4, hT, hlen, hs⟩
      obtain ⟨hlt, rfl⟩ := rowsV_get hi
      have hr1 : G[i]? = some G[i] := List.getElem?_eq_getElem hlt
      refine ⟨_, rfl, ra i, _, rfl, SqT.of (s4 _ _ (h2 i _ hr1)), ?_⟩
      refine for_it (walk_enumT (K := K) (a := ra i) (xs := nV G[i])) (fun j σ H' => ∃ (y z : Option V) (T : List Nat), σ = [some (.ref g), some (.ref p), some (.ref (ra i)), y, z] ∧ Same H H' ∧ H' p = some (.lst (nV T)) ∧ T.length = 2 * m ∧ ∀ d, Seen G i j d → T[opp d]? = some (nx d))
        ⟨y1, z1, T1, rfl, s4, hT, hlen, hs⟩ (fun j σ H' _ ⟨_, _, _, _, s6, _⟩ => SqT.of (s6 _ _ (h2 i _ hr1))) ?_ ?_
      · rintro j y σ H3 H4 hj ⟨y2, z2, T2, rfl, s6, hT2, hlen2, hs2⟩ ⟨q, a, b, rfl, hq, rfl, e1, e2⟩
        cases e1
        obtain ⟨d, hd, rfl⟩ := nV_get e2
        have q0 : H q = none := s6.free hq
        have s7 : Same H (upd H3 q (.tup [.int (j : Nat), .int (d : Int)])) := s6.upd q0
        have dm : d ∈ G[i] := List.mem_of_getElem? hd
        have dl : d < 2 * m := (hg.gr.hg.mem d).mp (List.mem_flatten.mpr ⟨_, List.getElem_mem hlt, dm⟩)
        have hjl : j < G[i].length := (List.getElem?_eq_some_iff.mp hd).1
        refine ⟨q, _, rfl, SqT.of upd_same, rfl, _, _, rfl, _, _, rfl, rfl, ?_⟩
        have row := SqT.of (K := K) (s7 _ _ (h2 i _ hr1))
        have em : (((j : Nat) : Int) + 1) % (((nV G[i]).length : Nat) : Int) = (((j + 1) % G[i].length : Nat) : Int) := by rw [nV_len, Int.natCast_emod, Int.natCast_add]; rfl
        refine ⟨_, rfl, _, rfl, _, _, rfl, rfl, _, rfl, ra i, _, rfl, .inr row, _, _, rfl, rfl, by rw [nV_len]; omega, ?_⟩
        have at1 : atI (nV G[i]) ((((j : Nat) : Int) + 1) % (((nV G[i]).length : Nat) : Int)) = some (V.int ((nx d : Nat) : Int)) := by
          rw [em]
          exact atI_nat (nV_at (cyc_next (hg.gr.hg.nx _ (List.getElem_mem hlt)) hd))
        refine ⟨ra i, _, _, _, rfl, rfl, row, at1, ?_⟩
        refine ⟨_, rfl, _, rfl, d, rfl, p, _, _, opp d, rfl, rfl, by rw [upd_ne (ne_of_none hT2 hq)]; exact hT2, ixN_at (by rw [nV_len, hlen2]; exact opp_lt.mpr dl), ?_⟩
        refine ⟨_, _, T2.set (opp d) (nx d), rfl, s7.upd hp0, by rw [upd_same, nV_set], by rw [List.length_set]; exact hlen2, fun d' hd' => ?_⟩
        by_cases e : d' = d
        · rw [e, List.getElem?_set_self (by rw [hlen2]; exact opp_lt.mpr dl)]
        · have e' : opp d ≠ opp d' := fun z => e (by rw [← opp_opp d', ← z, opp_opp])
          rw [List.getElem?_set_ne e']
          rcases (Seen.next hr1 hd).mp hd' with q | q
          · exact hs2 d' q
          · exact absurd q e
      · rintro σ H3 ⟨y2, z2, T2, rfl, s6, hT2, hlen2, hs2⟩
        rw [nV_len] at hs2
        exact ⟨_, _, _, T2, rfl, s6, hT2, hlen2, fun d hd => hs2 d ((Seen.row hr1).mp hd)⟩
    · rintro σ H' ⟨x1, y1, z1, T1, rfl, s4, hT, hlen, hs⟩
      rw [rowsV_len] at hs
      have e : T1 = (List.range (2 * m)).map (ph nx) := ext_map hlen fun d hd => by
        have q := hs (opp d) (Seen.all.mpr ((hg.gr.hg.mem _).mpr (opp_lt.mpr hd)))
        rw [opp_opp] at q
        exact q
      rw [e] at hT
      exact ⟨_, rfl, k H' p s4 hp0 hT⟩
end
end K07
/-! K07D5 -/
set_option Elab.async false
set_option linter.all false
set_option maxRecDepth 100000
set_option maxHeartbeats 4000000
namespace K07
open PySem PySem.Spec PyProof.Rows L2
/-! ### dicts that hold True for some numbers -/
def dS (l : List Nat) : List (Key × V) := l.map fun (d : Nat) => ((Sum.inl (d : Int) : Key), V.bl true)
theorem inl_iff {a b : Nat} : ((Sum.inl (a : Int) : Key) = Sum.inl (b : Int)) ↔ a = b :=
  ⟨fun h => by have h' := Sum.inl.inj h; omega, fun h => by rw [h]⟩
theorem valV_dS (d : Nat) : ∀ l : List Nat, valV (dS l) (Sum.inl (d : Int) : Key) = if d ∈ l then some (.bl true) else none
  | [] => rfl
  | x :: l => by
    have ih := valV_dS d l
    show valV (((Sum.inl (x : Int) : Key), V.bl true) :: dS l) _ = _
    by_cases e : x = d
    · rw [valV_pos (by rw [e]), if_pos (by rw [e]; simp)]
    · rw [valV_neg (fun q => e (inl_iff.mp q)), ih]
      by_cases h : d ∈ l
      · rw [if_pos h, if_pos (List.mem_cons_of_mem _ h)]
      · rw [if_neg h, if_neg (fun q => (List.mem_cons.mp q).elim (fun z => e z.symm) h)]
theorem dropK_dS (d : Nat) : ∀ l : List Nat, dropK (dS l) (Sum.inl (d : Int) : Key) = dS (l.filter fun x => x ≠ d)
  | [] => rfl
  | x :: l => by
    have ih := dropK_dS d l
    show dropK (((Sum.inl (x : Int) : Key), V.bl true) :: dS l) _ = _
    by_cases e : x = d
    · rw [dropK_pos (by rw [e]), ih, List.filter_cons_of_neg (by simp [e])]
    · rw [dropK_neg (fun q => e (inl_iff.mp q)), ih, List.filter_cons_of_pos (by simp [e])]
      rfl
theorem putK_dS {d : Nat} {l : List Nat} (h : d ∉ l) : putK (dS l) (Sum.inl (d : Int) : Key) (.bl true) = dS (l ++ [d]) := by
  rw [putK_new _ (by rw [valV_dS, if_neg h])]
  unfold dS
  rw [List.map_append]
  rfl
theorem dS_len (l : List Nat) : (dS l).length = l.length := by unfold dS; rw [List.length_map]
/-- a dart is met once -/
theorem unseen {n m : Nat} {G : List (List Nat)} {nx tl : Nat → Nat} (h : Gr n m G nx tl) {i j e : Nat} {r : List Nat} (hr : G[i]? = some r) (hj : r[j]? = some e) : ¬ Seen G i j e := by
  have em := List.mem_of_getElem? hj
  have t := h.hg.tl i r e hr em
  rintro (⟨i', r', h1, h2, h3⟩ | ⟨r', h1, h2⟩)
  · have := h.hg.tl i' r' e h2 h3
    omega
  · rw [hr] at h1
    cases h1
    obtain ⟨k, hk, ek⟩ := List.mem_iff_getElem.mp h2
    rw [List.length_take] at hk
    have g : r[k]? = some e := by
      rw [List.getElem_take] at ek
      rw [List.getElem?_eq_getElem (by omega), ek]
    have := nodup_get (nodup_of_mem h.hg.nd (List.mem_of_getElem? hr)) g hj
    omega
def spFault : Sp := fun vs H Q _ => ∃ (g : Addr) (G : List (List Nat)) (n m : Nat) (nx tl : Nat → Nat), vs = [.ref g] ∧ GA H g n m G nx tl ∧ ∀ H', Same H H' → Q .non H'
def bls (n : Nat) : List Bool := List.replicate n true
section
variable {P : Program} {w : World} {K : PySem.W.Frag} {mg : Str → Option Value} {base : Heap} {f fI fF : Addr} {fd fdI fdF : FuncData}
theorem sc_fault : FnScope ["value", "rotation", "many", "dart", "missing"] ["value"] (defScope s_graph_fault) := ⟨rfl, rfl, rfl, by decide +kernel, rfl, by decide +kernel, by decide +kernel⟩
abbrev nF : List Str := ["value", "rotation", "many", "dart", "missing"]
theorem ok_fault (F : FnP K "graph_fault" s_graph_fault f fd) (T : Txt mg) (I : Dn K mg "is_index" s_is_index ["value", "many"] fI fdI) : FnOk P w K mg base CX0 2 f fd ["value"] spFault := by
  have GI : FnOk P w K mg base CX0 1 fI fdI ["value", "many"] spIdx := ok_idx I.F T
  obtain ⟨tN, mN⟩ := T.maxN
  obtain ⟨tE, mE⟩ := T.maxE
  refine F.ok sc_fault (fun vs H Q E h => ?_) (fun cdv A outer s H vs Q E hr h => ?_)
  · obtain ⟨g, G, n, m, nx, tl, rfl, _⟩ := h
    rfl
  · obtain ⟨g, G, n, m, nx, tl, rfl, hg, k⟩ := h
    have hu := hu_of hr
    refine ⟨_, PSs.nox (pss_cons (ps_if (PW.pt (pw_or (pt_not (pt_val (pe_callB call_isi (by rfl) T.isinstance (by decide +kernel) (pa_cons (pv 0) (pa_cons (pe_bltn (v := .ty "tuple") (by rfl) T.tuple (by decide +kernel) rfl) pa_nil)))))
        (pw_or1 (pt_cmpR op_gt (pe_callB call_len_seq (by rfl) T.len PySem.boot_len (pa_cons (pv 0) pa_nil)) (pe_glob (v := .int 60) (by rfl) mN ⟨_, rfl⟩) (nomark _))))) (pss_one (ps_ret pe_str)) pss_nil)
      (pss_cons (ps_if (pt_not (pt_val (pe_callB (cr_all rfl) (by rfl) T.all (by decide +kernel) (pa_cons
        (pe_lc (own := [("rotation", 1)]) (g := gName 1) (tt := tYes) rfl sc_fault.nd (pi_tup (pv 0)) (blkOk_by (N := nF) (sc := defScope s_graph_fault) (by decide +kernel))
          (fun _ _ _ _ _ => pg_name (i := 1) sc_fault.nd rfl (.inl rfl)) (fun _ _ _ _ _ => pts_nil)
          (fun _ _ _ _ _ => pe_callB (r := rIsi K) call_isi (by rfl) T.isinstance (by decide +kernel) (pa_cons (pv 1) (pa_cons (pe_bltn (v := .ty "tuple") (by rfl) T.tuple (by decide +kernel) rfl) pa_nil)))) pa_nil)))) (pss_one (ps_ret pe_str)) pss_nil)
      (pss_cons (ps_set (i := 2) sc_fault.nd rfl (.inl rfl) (pe_callB (cr_sum rfl) (by rfl) T.sum (by decide +kernel) (pa_cons
        (pe_lc (own := [("rotation", 1)]) (g := gName 1) (tt := tYes) rfl sc_fault.nd (pi_tup (pv 0)) (blkOk_by (N := nF) (sc := defScope s_graph_fault) (by decide +kernel))
          (fun _ _ _ _ _ => pg_name (i := 1) sc_fault.nd rfl (.inl rfl)) (fun _ _ _ _ _ => pts_nil) (fun _ _ _ _ _ => pe_callB (r := rLenQ K) call_len_seq (by rfl) T.len PySem.boot_len (pa_cons (pv 1) pa_nil))) pa_nil)))
      (pss_cons (ps_if (PW.pt (pw_or (pt_cmpR op_gt (pv 2) (pe_op op_mul pe_int (pe_glob (v := .int 120) (by rfl) mE ⟨_, rfl⟩)) (nomark _)) (pw_or1 (pt_cmpR op_eq (pe_op op_mod (pv 2) pe_int) pe_int (nomark _))))) (pss_one (ps_ret pe_str)) pss_nil)
      (pss_cons (ps_setDc (i := 4) (own := [("dart", 3)]) (g := gName 3) (tt := tYes) rfl sc_fault.nd rfl rfl (sw_trueD rfl rfl rfl (by decide +kernel)) (pi_range1 (by rfl) T.range (pa_cons (pv 2) pa_nil)) (blkOk_by (N := nF) (sc := defScope s_graph_fault) (by decide +kernel))
          (fun _ _ _ _ _ => pg_name (i := 3) sc_fault.nd rfl (.inl rfl)) (fun _ _ _ _ _ => pts_nil) (fun _ _ _ _ _ => pv 3) (fun _ _ _ _ _ => pe_bl))
      (pss_cons (ps_for PassesOwn.never rfl (pi_tup (pv 0)) (pg_name (i := 1) sc_fault.nd rfl (.inl rfl))
        (pss_one (ps_for PassesOwn.never rfl (pi_tup (pv 1)) (pg_name (i := 3) sc_fault.nd rfl (.inl rfl))
          (pss_cons (ps_if (PW.pt (pw_or (pt_not (pt_val (pe_call GI hr (by rfl) I.g I.F.kp I.b .nil pass0 (pa_cons (pv 3) (pa_cons (pv 2) pa_nil))))) (pw_or1 (pt_cmp (pc_dnotin hu (pv 3) (pv 4)))))) (pss_one (ps_ret pe_str)) pss_nil)
          (pss_one (ps_expr (pe_dpop1 (pv 4) (pv 3) ⟨rfl, rfl, rfl, rfl⟩)))))))
      (pss_one (ps_ret pe_non)))))))), ?_⟩
    obtain ⟨ra, h1, h2⟩ := hg.at_.ex
    have ln := hg.gr.len
    have n7 := hg.n7
    have m9 := hg.m9
    -- isinstance(value, tuple), len(value)
    refine ⟨_, rfl, _, _, .type "tuple", .type "tuple", true, rfl, .ty _, .base (.tup h1), kit_ty (by decide +kernel), _, rfl, ?_⟩
    refine iteF ⟨_, rfl, g, _, rfl, .inr (SqT.of h1), _, _, rfl, rfl, _, rfl, ?_⟩
    rw [rowsV_len]
    have c1 : decide ((60 : Int) < ((G.length : Nat) : Int)) = false := decide_eq_false (by omega)
    rw [c1]
    refine iteF ?_
    -- all rotations are tuples
    refine ⟨_, rfl, g, rfl, ⟨_, SqT.of h1⟩, fun D hD => ?_⟩
    refine lc_tup (K := K) (a := g) (xs := rowsV G.length ra) (fun i H' => Cw H D ((bls i).map V.bl) H') (Cw.start hD) (fun i H' _ c => SqT.of (c.same _ _ h1)) ?_ ?_
    · intro i x H' hi c
      obtain ⟨hlt, rfl⟩ := rowsV_get hi
      have hr1 : G[i]? = some G[i] := List.getElem?_eq_getElem hlt
      refine ⟨rfl, ?_⟩
      refine ⟨_, rfl, _, _, .type "tuple", .type "tuple", true, rfl, .ty _, .base (.tup (c.same _ _ (h2 i _ hr1))), kit_ty (by decide +kernel), _, c.at_, ?_, ?_⟩
      · rw [List.length_map]
        unfold bls
        rw [List.length_replicate]
        exact sz_lt (by omega)
      · have e : (bls (i + 1)).map V.bl = (bls i).map V.bl ++ [V.bl true] := by
          unfold bls
          rw [List.replicate_succ', List.map_append]
          rfl
        rw [e]
        exact c.next (Same.refl _)
    intro Ha ca
    rw [rowsV_len] at ca
    refine ⟨D, bls G.length, rfl, SqL.of ca.at_, true, ?_, ?_⟩
    · have q : (bls G.length).all id = true := by
        unfold bls
        simp
      rw [q]
    refine iteF ?_
    -- many
    have sa := ca.same
    refine ⟨_, rfl, g, rfl, ⟨_, SqT.of (sa _ _ h1)⟩, fun D2 hD2 => ?_⟩
    refine lc_tup (K := K) (a := g) (xs := rowsV G.length ra) (fun i H' => Cw Ha D2 ((lenS (G.take i)).map V.int) H') (Cw.start hD2) (fun i H' _ c => SqT.of (c.same _ _ (sa _ _ h1))) ?_ ?_
    · intro i x H' hi c
      obtain ⟨hlt, rfl⟩ := rowsV_get hi
      have hr1 : G[i]? = some G[i] := List.getElem?_eq_getElem hlt
      refine ⟨rfl, ?_⟩
      refine ⟨_, rfl, ra i, nV G[i], rfl, .inr (SqT.of (c.same _ _ (sa _ _ (h2 i _ hr1)))), _, c.at_, ?_, ?_⟩
      · rw [List.length_map]
        unfold lenS
        rw [List.length_map, List.length_take]
        exact sz_lt (by omega)
      · have e : (lenS (G.take (i + 1))).map V.int = (lenS (G.take i)).map V.int ++ [V.int ((nV G[i]).length : Nat)] := by
          unfold lenS
          rw [List.take_add_one, hr1, List.map_append, List.map_append, nV_len]
          rfl
        rw [e]
        exact c.next (Same.refl _)
    intro Hb cb
    rw [rowsV_len, List.take_of_length_le (Nat.le_refl _)] at cb
    refine ⟨D2, lenS G, rfl, SqL.of cb.at_, ?_⟩
    rw [lenS_sum, hg.gr.total]
    have sb := sa.trans cb.same
    -- many > 240, many % 2 == 1
    refine ⟨_, rfl, _, _, rfl, rfl, .inl ⟨by decide, by decide⟩, _, _, rfl, rfl, _, rfl, ?_⟩
    have c2 : decide ((2 * 120 : Int) < ((2 * m : Nat) : Int)) = false := decide_eq_false (by omega)
    rw [c2]
    refine iteF ⟨_, rfl, _, _, rfl, rfl, (by show (0 : Int) < 2; decide), rfl, _, rfl, ?_⟩
    have c3 : decide (V.int (((2 * m : Nat) : Int) % 2) = V.int 1) = false := decide_eq_false fun q => by
      have q' := V.int.inj q
      omega
    rw [c3]
    refine iteF ?_
    -- missing
    refine ⟨_, rfl, _, rfl, by omega, by omega, fun D3 hD3 => ?_⟩
    refine dc_it (walk_range (lo := 0) (n := (((2 * m : Nat) : Int)).toNat)) (fun i H' => Hb D3 = none ∧ Same Hb H' ∧ H' D3 = some (.dK (dS (List.range i)))) ⟨hD3, Same.new hD3, upd_same⟩ (fun _ _ _ _ => True.intro) ?_ ?_
    · rintro i x H' H'' hi ⟨q1, q2, q3⟩ ⟨rfl, rfl⟩
      refine ⟨rfl, ?_⟩
      refine ⟨_, rfl, dS (List.range i), Sum.inl ((0 : Int) + (i : Nat)), rfl, q3, by rw [dS_len, List.length_range]; exact sz_lt (by omega), q1, q2.upd q1, ?_⟩
      rw [upd_same, show (0 : Int) + ((i : Nat) : Int) = ((i : Nat) : Int) by omega, putK_dS (by simp), List.range_succ]
    rintro Hc ⟨q1, q2, q3⟩
    have sc := sb.trans q2
    have d0 : H D3 = none := sb.free q1
    rw [Int.toNat_natCast] at q3
    refine ⟨_, rfl, g, rfl, ⟨_, SqT.of (sc _ _ h1)⟩, for_tup (K := K) (a := g) (xs := rowsV G.length ra) (fun i σ H' => ∃ (x y : Option V) (L : List Nat), σ = [some (.ref g), x, some (.int ((2 * m : Nat) : Int)), y, some (.ref D3)] ∧ Same H H' ∧ H' D3 = some (.dK (dS L)) ∧ ∀ d, d ∈ L ↔ d < 2 * m ∧ ¬ Seen G i 0 d)
      ⟨none, none, List.range (2 * m), rfl, sc, q3, fun d => by rw [List.mem_range]; exact ⟨fun q => ⟨q, Seen.zero⟩, fun q => q.1⟩⟩ (fun i σ H' _ ⟨_, _, _, _, s4, _⟩ => SqT.of (s4 _ _ h1)) ?_ ?_⟩
    · rintro i x σ H' hi ⟨x1, y1, L1, rfl, s4, hT, hs⟩
      obtain ⟨hlt, rfl⟩ := rowsV_get hi
      have hr1 : G[i]? = some G[i] := List.getElem?_eq_getElem hlt
      refine ⟨_, rfl, ra i, rfl, ⟨_, SqT.of (s4 _ _ (h2 i _ hr1))⟩, for_tup (K := K) (a := ra i) (xs := nV G[i]) (fun j σ H' => ∃ (y : Option V) (L : List Nat), σ = [some (.ref g), some (.ref (ra i)), some (.int ((2 * m : Nat) : Int)), y, some (.ref D3)] ∧ Same H H' ∧ H' D3 = some (.dK (dS L)) ∧ ∀ d, d ∈ L ↔ d < 2 * m ∧ ¬ Seen G i j d)
        ⟨y1, L1, rfl, s4, hT, hs⟩ (fun j σ H' _ ⟨_, _, _, s6, _⟩ => SqT.of (s6 _ _ (h2 i _ hr1))) ?_ ?_⟩
      · rintro j y σ H3 hj ⟨y2, L2, rfl, s6, hT2, hs2⟩
        obtain ⟨d, hd, rfl⟩ := nV_get hj
        have dm : d ∈ G[i] := List.mem_of_getElem? hd
        have dl : d < 2 * m := (hg.gr.hg.mem d).mp (List.mem_flatten.mpr ⟨_, List.getElem_mem hlt, dm⟩)
        have dL : d ∈ L2 := (hs2 d).mpr ⟨dl, unseen hg.gr hr1 hd⟩
        have e1 : (decide ((0 : Int) ≤ (d : Int)) && decide ((d : Int) < ((2 * m : Nat) : Int))) = true := by
          rw [decide_eq_true (by omega), decide_eq_true (by omega)]
          rfl
        have e2 : valV (dS L2) (Sum.inl (d : Int) : Key) = some (.bl true) := by rw [valV_dS, if_pos dL]
        refine ⟨_, rfl, _, rfl, (d : Int), _, rfl, _, rfl, ?_⟩
        rw [e1]
        refine iteF ⟨_, rfl, _, rfl, D3, _, rfl, DGet.k (k := Sum.inl (d : Int)) hT2, _, rfl, ?_⟩
        rw [e2]
        refine iteF ?_
        refine ⟨_, rfl, D3, rfl, .inl ⟨_, .inl hT2⟩, _, rfl, _, Sum.inl (d : Int), _, hT2, rfl, e2, ?_⟩
        refine ⟨_, L2.filter fun x => x ≠ d, rfl, s6.upd d0, by rw [upd_same, dropK_dS], fun d' => ?_⟩
        rw [List.mem_filter, hs2 d', Seen.next hr1 hd, decide_eq_true_iff]
        exact ⟨fun ⟨⟨a, b⟩, c⟩ => ⟨a, fun q => q.elim b c⟩, fun ⟨a, b⟩ => ⟨⟨a, fun q => b (.inl q)⟩, fun q => b (.inr q)⟩⟩
      · rintro σ H3 ⟨y2, L2, rfl, s6, hT2, hs2⟩
        rw [nV_len] at hs2
        exact ⟨_, _, L2, rfl, s6, hT2, fun d => by rw [hs2 d, Seen.row hr1]⟩
    · rintro σ H' ⟨x1, y1, L1, rfl, s4, hT, hs⟩
      exact k H' s4
def spCheck : Sp := spFault
theorem sc_check : FnScope ["graph", "place"] ["graph"] (defScope s_check_graph) := ⟨rfl, rfl, rfl, by decide +kernel, rfl, by decide +kernel, by decide +kernel⟩
theorem ok_check {fI fF : Addr} {fdI fdF : FuncData} (F : FnP K "check_graph" s_check_graph f fd) (T : Txt mg) (I : Dn K mg "is_index" s_is_index ["value", "many"] fI fdI) (U : Dn K mg "graph_fault" s_graph_fault ["value"] fF fdF) : FnOk P w K mg base CX0 3 f fd ["graph"] spCheck := by
  have GU : FnOk P w K mg base CX0 2 fF fdF ["value"] spFault := ok_fault U.F T I
  refine F.ok sc_check (fun vs H Q E h => ?_) (fun cdv A outer s H vs Q E hr h => ?_)
  · obtain ⟨g, G, n, m, nx, tl, rfl, _⟩ := h
    rfl
  · obtain ⟨g, G, n, m, nx, tl, rfl, hg, k⟩ := h
    refine ⟨_, PSs.nox (pss_cons (ps_set (i := 1) sc_check.nd rfl (.inl rfl) (pe_call GU hr (by rfl) U.g U.F.kp U.b .nil pass0 (pa_cons (pv 0) pa_nil)))
      (pss_one (ps_if (pt_cmp (pc_notN (pv 1))) (pss_one ps_never) pss_nil))), ?_⟩
    refine ⟨_, rfl, g, G, n, m, nx, tl, rfl, hg, fun H' s1 => ?_⟩
    refine ⟨_, rfl, _, rfl, ?_⟩
    exact iteF (k H' s1)
end
end K07
/-! K07D6 -/
set_option Elab.async false
set_option linter.all false
set_option maxRecDepth 100000
set_option maxHeartbeats 8000000
namespace K07
open PySem PySem.Spec PyProof.Rows L2
theorem nV_snoc (l : List Nat) (x : Nat) : nV (l ++ [x]) = nV l ++ [V.int (x : Int)] := by rw [nV_app]; rfl
theorem dlast (l : List Nat) (x : Nat) : (nV (l ++ [x])).dropLast = nV l := by rw [nV_snoc, List.dropLast_concat]
theorem getl (l : List Nat) (x : Nat) : (nV (l ++ [x]))[(nV (l ++ [x])).length - 1]? = some (V.int (x : Int)) := by
  rw [nV_snoc, List.length_append]
  simp
/-- the heap while a component is gathered -/
structure DF (H : Hp) (n m i : Nat) (tl mk : Nat → Nat) (pT pF pS pP pW : Addr) (ca : Nat → Addr) (part wait L : List Nat) (H' : Hp) : Prop where
  same : Same H H'
  hT : H' pT = some (.lst (nV ((List.range (2 * m)).map tl)))
  hF : H' pF = some (.lst ((reps mk i).map fun s => V.ref (ca s)))
  hC : ∀ s ∈ reps mk i, H' (ca s) = some (.tup (nV (cls n mk s)))
  hP : H' pP = some (.lst (nV part))
  hW : H' pW = some (.lst (nV wait))
  hS : H' pS = some (.dK (dS L))
  ndL : L.Nodup
  nd : (part ++ wait).Nodup
  hin : ∀ v ∈ part ++ wait, v < n ∧ mk v = i
  st : i ∈ part ++ wait
  hL : ∀ v, v ∈ L ↔ v < n ∧ (mk v < i ∨ v ∈ part ++ wait)
structure Ap (pT pF pP pW : Addr) : Prop where
  TF : pT ≠ pF
  TP : pT ≠ pP
  TW : pT ≠ pW
  FP : pF ≠ pP
  FW : pF ≠ pW
  PW : pP ≠ pW
section
variable {H H' H2 : Hp} {n m i : Nat} {tl mk : Nat → Nat} {pT pF pS pP pW : Addr} {ca : Nat → Addr} {part wait L : List Nat}
theorem DF.keep (d : DF H n m i tl mk pT pF pS pP pW ca part wait L H') (e : Same H' H2) : DF H n m i tl mk pT pF pS pP pW ca part wait L H2 :=
  ⟨d.same.trans e, e _ _ d.hT, e _ _ d.hF, fun s hs => e _ _ (d.hC s hs), e _ _ d.hP, e _ _ d.hW, e _ _ d.hS, d.ndL, d.nd, d.hin, d.st, d.hL⟩
/-- the last of the waiting ones is taken, and put among the gathered -/
theorem DF.pop {x : Nat} (d : DF H n m i tl mk pT pF pS pP pW ca part (wait ++ [x]) L H') (a : Ap pT pF pP pW) (fP : H pP = none) (fW : H pW = none) :
    DF H n m i tl mk pT pF pS pP pW ca (part ++ [x]) wait L (upd (upd H' pW (.lst (nV wait))) pP (.lst (nV (part ++ [x])))) := by
  have pe : (part ++ (wait ++ [x])).Perm ((part ++ [x]) ++ wait) := by
    rw [List.append_assoc]
    exact List.Perm.append_left part List.perm_append_comm
  have hm : ∀ v, v ∈ part ++ (wait ++ [x]) ↔ v ∈ (part ++ [x]) ++ wait := fun v => pe.mem_iff
  have neS : ∀ {p : Addr} {xs : List V}, H' p = some (.lst xs) → pS ≠ p := fun h => ne_of d.hS h (by intro z; cases z)
  refine ⟨(d.same.upd fW).upd fP, ?_, ?_, fun s hs => ?_, upd_same, ?_, ?_, d.ndL, pe.nodup_iff.mp d.nd, fun v hv => d.hin v ((hm v).mpr hv), (hm i).mp d.st, fun v => by rw [d.hL v, hm v]⟩
  · rw [upd_ne a.TP, upd_ne a.TW]; exact d.hT
  · rw [upd_ne a.FP, upd_ne a.FW]; exact d.hF
  · rw [upd_ne (ne_of (d.hC s hs) d.hP (by intro z; cases z)), upd_ne (ne_of (d.hC s hs) d.hW (by intro z; cases z))]; exact d.hC s hs
  · rw [upd_ne a.PW.symm]; exact upd_same
  · rw [upd_ne (neS d.hP), upd_ne (neS d.hW)]; exact d.hS
/-- one more is seen and waits -/
theorem DF.push {x : Nat} (d : DF H n m i tl mk pT pF pS pP pW ca part wait L H') (a : Ap pT pF pP pW) (fS : H pS = none) (fW : H pW = none) (hx : x < n) (ex : mk x = i) (nx : x ∉ L) :
    DF H n m i tl mk pT pF pS pP pW ca part (wait ++ [x]) (L ++ [x]) (upd (upd H' pS (.dK (putK (dS L) (Sum.inl (x : Int) : Key) (.bl true)))) pW (.lst (nV wait ++ [V.int (x : Int)]))) := by
  have neS : ∀ {p : Addr} {xs : List V}, H' p = some (.lst xs) → p ≠ pS := fun h => ne_of h d.hS (by intro z; cases z)
  have xn : x ∉ part ++ wait := fun q => nx ((d.hL x).mpr ⟨hx, .inr q⟩)
  refine ⟨(d.same.upd fS).upd fW, ?_, ?_, fun s hs => ?_, ?_, by rw [upd_same, nV_snoc], ?_, ?_, ?_, fun v hv => ?_, ?_, fun v => ?_⟩
  · rw [upd_ne a.TW, upd_ne (neS d.hT)]; exact d.hT
  · rw [upd_ne a.FW, upd_ne (neS d.hF)]; exact d.hF
  · rw [upd_ne (ne_of (d.hC s hs) d.hW (by intro z; cases z)), upd_ne (ne_of (d.hC s hs) d.hS (by intro z; cases z))]; exact d.hC s hs
  · rw [upd_ne a.PW, upd_ne (neS d.hP)]; exact d.hP
  · rw [upd_ne (neS d.hW).symm, upd_same, putK_dS nx]
  · exact List.nodup_append.mpr ⟨d.ndL, by simp, fun y hy z hz e => by simp only [List.mem_singleton] at hz; rw [e, hz] at hy; exact nx hy⟩
  · rw [← List.append_assoc]
    refine List.nodup_append.mpr ⟨d.nd, by simp, fun y hy z hz e => ?_⟩
    simp only [List.mem_singleton] at hz
    rw [e, hz] at hy
    exact xn hy
  · rw [← List.append_assoc] at hv
    rcases List.mem_append.mp hv with q | q
    · exact d.hin v q
    · simp only [List.mem_singleton] at q
      rw [q]
      exact ⟨hx, ex⟩
  · rw [← List.append_assoc]
    exact List.mem_append_left _ d.st
  · rw [← List.append_assoc, List.mem_append (t := [x]), List.mem_append (s := part ++ wait), d.hL v, List.mem_singleton]
    constructor
    · rintro (⟨q1, q2⟩ | q)
      · exact ⟨q1, q2.elim .inl fun q => .inr (.inl q)⟩
      · rw [q]
        exact ⟨hx, .inr (.inr rfl)⟩
    · rintro ⟨q1, q2 | q2 | q2⟩
      · exact .inl ⟨q1, .inl q2⟩
      · exact .inl ⟨q1, .inr q2⟩
      · exact .inr q2
end
def spComp : Sp := fun vs H Q _ => ∃ (g : Addr) (G : List (List Nat)) (n m : Nat) (nx tl mk : Nat → Nat), vs = [.ref g] ∧ GA H g n m G nx tl ∧ Mk n m tl mk ∧
  ∀ (H' : Hp) (p : Addr) (ca : Nat → Addr), Same H H' → H p = none → H' p = some (.lst ((reps mk n).map fun s => V.ref (ca s))) → (∀ s ∈ reps mk n, H' (ca s) = some (.tup (nV (cls n mk s)))) → Q (.ref p) H'
section
variable {P : Program} {w : World} {K : PySem.W.Frag} {mg : Str → Option Value} {base : Heap} {f fC fT fO : Addr} {fd fdC fdT fdO : FuncData}
abbrev nC : List Str := ["graph", "tails", "found", "seen", "start", "part", "waiting", "node", "dart", "far"]
theorem sc_comp : FnScope nC ["graph"] (defScope s_component_list) := ⟨rfl, rfl, rfl, by decide +kernel, rfl, by decide +kernel, by decide +kernel⟩
theorem ok_comp (F : FnP K "component_list" s_component_list f fd) (T : Txt mg) (C : Dn K mg "dart_count" s_dart_count ["graph"] fC fdC) (L : Dn K mg "dart_tails" s_dart_tails ["graph"] fT fdT) (O : Dn K mg "opposite_of" s_opposite_of ["dart"] fO fdO) : FnOk P w K mg base CX0 3 f fd ["graph"] spComp := by
  have GL : FnOk P w K mg base CX0 2 fT fdT ["graph"] spTails := ok_tails L.F T C
  have GO : FnOk P w K mg base CX0 1 fO fdO ["dart"] spOpp := ok_opp O.F
  refine F.ok sc_comp (fun vs H Q E h => ?_) (fun cdv A outer s H vs Q E hr h => ?_)
  · obtain ⟨g, G, n, m, nx, tl, mk, rfl, _⟩ := h
    rfl
  · obtain ⟨g, G, n, m, nx, tl, mk, rfl, hg, hm, k⟩ := h
    have hu := hu_of hr
    have hr1 : Room 1 _ := hr.mono (by decide)
    refine ⟨_, PSs.nox (pss_cons (ps_par3 (i := 1) (j := 2) (l := 3) rfl sc_comp.nd rfl rfl rfl (by decide) (by decide) (by decide) rfl rfl rfl (pa_cons (pe_call GL hr (by rfl) L.g L.F.kp L.b .nil pass0 (pa_cons (pv 0) pa_nil)) (pa_cons (pe_lst pa_nil) (pa_cons pe_dnewK pa_nil))) (by rfl))
      (pss_cons (ps_for PassesOwn.never rfl (pi_range1 (by rfl) T.range (pa_cons (pe_callB call_len_seq (by rfl) T.len PySem.boot_len (pa_cons (pv 0) pa_nil)) pa_nil)) (pg_name (i := 4) sc_comp.nd rfl (.inl rfl))
        (pss_one (ps_if (pt_cmp (pc_dnotin hu (pv 4) (pv 3)))
          (pss_cons (ps_asg (pe_tup (pa_cons (pe_lst pa_nil) (pa_cons (pe_lst (pa_cons (pv 4) pa_nil)) (pa_cons pe_bl pa_nil))))
              (pg_tup rfl (pgs_cons (pg_name (i := 5) sc_comp.nd rfl (.inl rfl)) (pgs_cons (pg_name (i := 6) sc_comp.nd rfl (.inl rfl)) (pgs_cons (pg_sub (pv 3) (pv 4) (set_dict hu)) pgs_nil)))))
          (pss_cons (ps_while PassesOwn.never (pt_cmpR (op_neD hr.units) (pv 6) (pe_lst pa_nil) (nomark _))
            (pss_cons (ps_set (i := 7) sc_comp.nd rfl (.inl rfl) (pe_bm0 PySem.F.plainAttrs_list PySem.F.slot_list_pop PySem.F.type_list_pop mt_pop (pv 6)))
            (pss_cons (ps_expr (pe_bm PySem.F.plainAttrs_list PySem.F.slot_list_append PySem.F.type_list_append mt_append (pv 5) (pa_cons (pv 7) pa_nil)))
            (pss_one (ps_for PassesOwn.never rfl (pi_tup (pe_ix ix_tup (pv 0) (pv 7) (fun _ _ => rfl))) (pg_name (i := 8) sc_comp.nd rfl (.inl rfl))
              (pss_cons (ps_set (i := 9) sc_comp.nd rfl (.inl rfl) (pe_ix ix_list (pv 1) (pe_call GO hr1 (by rfl) O.g O.F.kp O.b .nil pass0 (pa_cons (pv 8) pa_nil)) (fun _ _ => rfl)))
              (pss_one (ps_if (pt_cmp (pc_dnotin hu (pv 9) (pv 3)))
                (pss_cons (ps_dput hu (pv 3) (pv 9) pe_bl rfl)
                (pss_one (ps_expr (pe_bm PySem.F.plainAttrs_list PySem.F.slot_list_append PySem.F.type_list_append mt_append (pv 6) (pa_cons (pv 9) pa_nil))))) pss_nil))))))))
          (pss_one (ps_expr (pe_bm PySem.F.plainAttrs_list PySem.F.slot_list_append PySem.F.type_list_append mt_append (pv 2) (pa_cons (pe_callTy call_tuple_of (by rfl) T.tuple (by decide +kernel)
            (pa_cons (pe_callB cr_sorted (by rfl) T.sorted (by decide +kernel) (pa_cons (pv 5) pa_nil)) pa_nil)) pa_nil)))))) pss_nil)))
      (pss_one (ps_ret (pv 2))))), ?_⟩
    obtain ⟨ra, h1, h2⟩ := hg.at_.ex
    have ln := hg.gr.len
    have n7 := hg.n7
    have m9 := hg.m9
    -- tails, found, seen
    refine ⟨_, rfl, g, G, n, m, nx, tl, rfl, hg, fun Ha pT sa pT0 hpT => ?_⟩
    refine ⟨Nat.zero_le _, fun pF hpF => fun pS hpS => ?_⟩
    refine ⟨_, _, _, rfl, ?_⟩
    have TF : pT ≠ pF := ne_of_none hpT hpF
    have fF : H pF = none := sa.free hpF
    have FS : pF ≠ pS := fun z => by rw [z, upd_same] at hpS; cases hpS
    have hpS' : Ha pS = none := by rw [upd_ne FS.symm] at hpS; exact hpS
    have TS : pT ≠ pS := ne_of_none hpT hpS'
    have fS : H pS = none := sa.free hpS'
    have s0 : Same H (upd (upd Ha pF (.lst [])) pS (.dK [])) := (sa.upd fF).upd fS
    refine ⟨_, rfl, g, _, rfl, .inr (SqT.of (s0 _ _ h1)), _, rfl, by rw [rowsV_len]; omega, by rw [rowsV_len]; omega, ?_⟩
    rw [rowsV_len, Int.toNat_natCast, ln]
    refine for_range (lo := 0) (n := n) (fun i σ H' => ∃ (x4 x5 x6 x7 x8 x9 : Option V) (L : List Nat) (ca : Nat → Addr), σ = [some (.ref g), some (.ref pT), some (.ref pF), some (.ref pS), x4, x5, x6, x7, x8, x9] ∧ Same H H' ∧ H' pT = some (.lst (nV ((List.range (2 * m)).map tl))) ∧
        H' pF = some (.lst ((reps mk i).map fun s => V.ref (ca s))) ∧ (∀ s ∈ reps mk i, H' (ca s) = some (.tup (nV (cls n mk s)))) ∧ H' pS = some (.dK (dS L)) ∧ L.Nodup ∧ ∀ v, v ∈ L ↔ v < n ∧ mk v < i)
      ⟨none, none, none, none, none, none, [], fun _ => 0, rfl, s0, ?_, ?_, fun s hs => by simp [reps] at hs, upd_same, by simp, fun v => by simp⟩ ?_ ?_
    · rw [upd_ne TS, upd_ne TF]; exact hpT
    · rw [upd_ne FS, upd_same]; rfl
    · rintro i σ H1 hi ⟨x4, x5, x6, x7, x8, x9, L, ca, rfl, s1, hT, hF, hC, hS, nL, hL⟩
      have e0 : (0 : Int) + ((i : Nat) : Int) = (i : Int) := by omega
      rw [e0]
      refine ⟨_, rfl, _, rfl, pS, _, rfl, DGet.k (k := Sum.inl (i : Int)) hS, _, rfl, ?_⟩
      rw [valV_dS]
      by_cases ei : mk i = i
      · have iL : i ∉ L := fun q => by have := ((hL i).mp q).2; omega
        rw [if_neg iL]
        refine iteT ?_
        -- part, waiting, seen[start]
        refine ⟨Nat.zero_le _, fun pP hpP => ?_⟩
        refine ⟨_, rfl, by show 1 ≤ sizeLine; decide, fun pW hpW => ?_⟩
        refine ⟨by show 3 ≤ sizeLine; decide, fun t ht => ?_⟩
        have PW : pP ≠ pW := fun z => by rw [← z, upd_same] at hpW; cases hpW
        have hpW' : H1 pW = none := by rw [upd_ne PW.symm] at hpW; exact hpW
        have tW : t ≠ pW := fun z => by rw [z, upd_same] at ht; cases ht
        have ht2 : upd H1 pP (.lst []) t = none := by rw [upd_ne tW] at ht; exact ht
        have tP : t ≠ pP := fun z => by rw [z, upd_same] at ht2; cases ht2
        have ht3 : H1 t = none := by rw [upd_ne tP] at ht2; exact ht2
        have fP : H pP = none := s1.free hpP
        have fW : H pW = none := s1.free hpW'
        have ft : H t = none := s1.free ht3
        have ap : Ap pT pF pP pW := ⟨TF, ne_of_none hT hpP, ne_of_none hT hpW', ne_of_none hF hpP, ne_of_none hF hpW', PW⟩
        have nt : ∀ {b : Addr} {o : HO}, H1 b = some o → b ≠ t := fun q => ne_of_none q ht3
        have nP : ∀ {b : Addr} {o : HO}, H1 b = some o → b ≠ pP := fun q => ne_of_none q hpP
        have nW : ∀ {b : Addr} {o : HO}, H1 b = some o → b ≠ pW := fun q => ne_of_none q hpW'
        have keep : ∀ {b : Addr} {o : HO}, H1 b = some o → upd (upd (upd H1 pP (.lst [])) pW (.lst [.int (i : Int)])) t (.tup [.ref pP, .ref pW, .bl true]) b = some o := fun q => by
          rw [upd_ne (nt q), upd_ne (nW q), upd_ne (nP q)]
          exact q
        refine ⟨t, _, rfl, SqT.of upd_same, rfl, _, _, rfl, _, _, rfl, _, _, rfl, ?_⟩
        refine ⟨_, rfl, _, rfl, pS, _, rfl, DPut.k (k := Sum.inl (i : Int)) (keep hS) ?_, rfl, ?_⟩
        · rw [dS_len]
          exact sz_lt (by have := nodup_len nL fun d hd => ((hL d).mp hd).1; omega)
        -- all that are linked to start
        have neS : ∀ {p : Addr}, H1 p = none → p ≠ pS := fun h z => by rw [z, hS] at h; cases h
        have d0 : DF H n m i tl mk pT pF pS pP pW ca [] [i] (L ++ [i]) (upd (upd (upd (upd H1 pP (.lst [])) pW (.lst [.int (i : Int)])) t (.tup [.ref pP, .ref pW, .bl true])) pS (.dK (putK (dS L) (Sum.inl (i : Int) : Key) (.bl true)))) := by
          refine ⟨(((s1.upd fP).upd fW).upd ft).upd fS, ?_, ?_, fun s hs => ?_, ?_, ?_, by rw [upd_same, putK_dS iL], ?_, by simp, fun v hv => ?_, by simp, fun v => ?_⟩
          · rw [upd_ne (ne_of hT hS (by intro z; cases z))]; exact keep hT
          · rw [upd_ne (ne_of hF hS (by intro z; cases z))]; exact keep hF
          · rw [upd_ne (ne_of (hC s hs) hS (by intro z; cases z))]; exact keep (hC s hs)
          · rw [upd_ne (neS hpP), upd_ne tP.symm, upd_ne PW]; exact upd_same
          · rw [upd_ne (neS hpW'), upd_ne tW.symm]; exact upd_same
          · exact List.nodup_append.mpr ⟨nL, by simp, fun y hy z hz e => by simp only [List.mem_singleton] at hz; rw [e, hz] at hy; exact iL hy⟩
          · simp only [List.nil_append, List.mem_singleton] at hv
            rw [hv]
            exact ⟨hi, ei⟩
          · rw [List.mem_append, hL v]
            simp only [List.nil_append, List.mem_singleton]
            constructor
            · rintro (⟨q1, q2⟩ | q)
              · exact ⟨q1, .inl q2⟩
              · exact ⟨by omega, .inr q⟩
            · rintro ⟨q1, q2 | q2⟩
              · exact .inl ⟨q1, q2⟩
              · exact .inr q2
        refine ⟨fun μ σ H' => ∃ (x7 x8 x9 : Option V) (part wait L : List Nat), μ = n - part.length ∧ σ = [some (.ref g), some (.ref pT), some (.ref pF), some (.ref pS), some (.int (i : Int)), some (.ref pP), some (.ref pW), x7, x8, x9] ∧ DF H n m i tl mk pT pF pS pP pW ca part wait L H' ∧ ∀ d, d < 2 * m → tl d ∈ part → tl (opp d) ∈ part ++ wait,
          ⟨_, x7, x8, x9, [], [i], L ++ [i], rfl, rfl, d0, fun d _ q => by simp at q⟩, ?_⟩
        rintro μ σ H2 ⟨y7, y8, y9, part, wait, L2, rfl, rfl, d2, c2⟩
        refine ⟨_, rfl, Nat.zero_le _, fun t2 ht2 => ?_⟩
        have d3 := d2.keep (Same.new (o := .lst []) ht2)
        refine ⟨.list (iD wait), .list [], Dp.lst (SqL.of d3.hW) (dpAll_n _), Dp.lst (SqL.of upd_same) .nil, shLn _, rfl, _, rfl, ?_⟩
        have e1 : (!PyData.eqv (.list (iD wait)) (.list [])) = !wait.isEmpty := by
          show (!PyData.eqvAll _ _) = _
          rw [eqvNil]
        rw [e1]
        rcases List.eq_nil_or_concat wait with ew | ⟨wt, x, ew⟩
        · subst ew
          refine iteF ?_
          -- found.append(tuple(sorted(part)))
          have pf : part.Perm (cls n mk i) := by
            have q1 := d3.nd
            have q2 := d3.hin
            have q3 := d3.st
            rw [List.append_nil] at q1 q2 q3
            exact part_full hm hi ei q1 q2 q3 fun d hd q => by simpa using c2 d hd q
          have pl : part.length ≤ 7 := by
            rw [pf.length_eq]
            exact Nat.le_trans (cls_len n mk i) n7
          refine ⟨_, rfl, .inl ⟨rfl, _, SqL.of d3.hF⟩, _, rfl, pP, part.map (fun (d : Nat) => (d : Int)), rfl, by rw [← nV_map]; exact SqL.of d3.hP, by rw [List.length_map]; omega, fun ns' pn hperm hsort hpn => ?_⟩
          have en : ns' = (cls n mk i).map fun (d : Nat) => (d : Int) := sort_one (hperm.trans (pf.map _)) hsort (cls_sorted n mk i)
          rw [en, ← nV_map]
          refine ⟨pn, _, rfl, .inl ⟨SqL.of upd_same, fun tp htp => ?_⟩⟩
          have s4 : Same H (upd (upd (upd H2 t2 (.lst [])) pn (.lst (nV (cls n mk i)))) tp (.tup (nV (cls n mk i)))) := (d3.same.upd (d3.same.free hpn)).upd ((d3.same.upd (d3.same.free hpn)).free htp)
          have e3 : Same (upd H2 t2 (.lst [])) (upd (upd (upd H2 t2 (.lst [])) pn (.lst (nV (cls n mk i)))) tp (.tup (nV (cls n mk i)))) := (Same.new hpn).upd ((Same.new hpn).free htp)
          have tn : (upd H2 t2 (.lst [])) tp = none := (Same.new (o := .lst (nV (cls n mk i))) hpn).free htp
          refine ⟨pF, _, .ref tp, rfl, rfl, e3 _ _ d3.hF, ?_, ?_⟩
          · rw [List.length_map]
            exact sz_lt (by have := reps_len mk i; omega)
          refine ⟨some (.int (i : Int)), some (.ref pP), some (.ref pW), y7, y8, y9, L2, fun s => if s = i then tp else ca s, rfl, s4.upd fF, ?_, ?_, fun s hs => ?_, ?_, d3.ndL, fun v => ?_⟩
          · rw [upd_ne TF]
            exact e3 _ _ d3.hT
          · rw [upd_same, reps_yes ei, List.map_append]
            have e4 : ((reps mk i).map fun s => V.ref (if s = i then tp else ca s)) = (reps mk i).map fun s => V.ref (ca s) := List.map_congr_left fun s hs => by
              rw [if_neg (by have := (mem_reps.mp hs).1; omega)]
            rw [e4]
            simp
          · rw [reps_yes ei] at hs
            rcases List.mem_append.mp hs with hs | hs
            · show upd _ _ _ (if s = i then tp else ca s) = _
              rw [if_neg (by have := (mem_reps.mp hs).1; omega), upd_ne (ne_of (d3.hC s hs) d3.hF (by intro z; cases z))]
              exact e3 _ _ (d3.hC s hs)
            · simp only [List.mem_singleton] at hs
              show upd _ _ _ (if s = i then tp else ca s) = _
              rw [if_pos hs, hs, upd_ne (ne_of_none d3.hF tn).symm, upd_same]
          · rw [upd_ne (ne_of d3.hS d3.hF (by intro z; cases z))]
            exact e3 _ _ d3.hS
          · rw [d3.hL v, List.append_nil, pf.mem_iff, mem_cls]
            constructor
            · rintro ⟨q1, q2 | ⟨_, q2⟩⟩
              · exact ⟨q1, by omega⟩
              · exact ⟨q1, by omega⟩
            · rintro ⟨q1, q2⟩
              refine ⟨q1, ?_⟩
              by_cases q : mk v = i
              · exact .inr ⟨q1, q⟩
              · exact .inl (by omega)
        · rw [List.concat_eq_append] at ew
          subst ew
          rw [show (!(wt ++ [x]).isEmpty) = true by cases wt <;> rfl]
          refine iteT ?_
          have lp : part.length < n := by
            have := nodup_len d3.nd fun d hd => (d3.hin d hd).1
            rw [List.length_append, List.length_append] at this
            simp only [List.length_singleton] at this
            omega
          obtain ⟨xn, xi⟩ := d3.hin x (by simp)
          refine ⟨fun σ H' => ∃ (x7 x8 x9 : Option V) (part' wait' L' : List Nat), part'.length = part.length + 1 ∧ σ = [some (.ref g), some (.ref pT), some (.ref pF), some (.ref pS), some (.int (i : Int)), some (.ref pP), some (.ref pW), x7, x8, x9] ∧ DF H n m i tl mk pT pF pS pP pW ca part' wait' L' H' ∧ ∀ d, d < 2 * m → tl d ∈ part' → tl (opp d) ∈ part' ++ wait',
            fun σ' H' ⟨a1, a2, a3, a4, a5, a6, a7, a8, a9, a10⟩ => ⟨n - a4.length, by omega, a1, a2, a3, a4, a5, a6, rfl, a8, a9, a10⟩, ?_⟩
          refine ⟨_, rfl, .inl ⟨rfl, _, SqL.of d3.hW⟩, pW, _, _, rfl, rfl, d3.hW, getl wt x, ?_⟩
          rw [dlast]
          have PH : ∀ {o : HO}, upd (upd H2 t2 (.lst [])) pW o pP = some (.lst (nV part)) := by
            intro o
            rw [upd_ne PW]
            exact d3.hP
          refine ⟨_, rfl, .inl ⟨rfl, _, SqL.of PH⟩, _, rfl, pP, _, _, rfl, rfl, PH, by rw [nV_len]; exact sz_lt (by omega), ?_⟩
          have d4 := d3.pop ap fP fW
          rw [← nV_snoc]
          have hrx : G[x]? = some G[x] := List.getElem?_eq_getElem (by omega)
          refine ⟨_, rfl, _, rfl, g, _, x, _, rfl, rfl, SqT.of (d4.same _ _ h1), atI_nat (rowsV_at (by omega)), ?_⟩
          refine ⟨ra x, rfl, ⟨_, SqT.of (d4.same _ _ (h2 x _ hrx))⟩, for_tup (K := K) (a := ra x) (xs := nV G[x]) (fun j σ H' => ∃ (x8 x9 : Option V) (wait' L' : List Nat), σ = [some (.ref g), some (.ref pT), some (.ref pF), some (.ref pS), some (.int (i : Int)), some (.ref pP), some (.ref pW), some (.int (x : Int)), x8, x9] ∧
              DF H n m i tl mk pT pF pS pP pW ca (part ++ [x]) wait' L' H' ∧ ∀ d, d < 2 * m → tl d ∈ part ++ [x] → (tl d = x → d ∈ (G[x]).take j) → tl (opp d) ∈ (part ++ [x]) ++ wait')
            ⟨y8, y9, wt, L2, rfl, d4, fun d hd q1 q2 => ?_⟩ (fun j σ H' _ ⟨_, _, _, _, _, d5, _⟩ => SqT.of (d5.same _ _ (h2 x _ hrx))) ?_ ?_⟩
          · rcases List.mem_append.mp q1 with q | q
            · have := c2 d hd q
              rw [← List.append_assoc] at this
              rcases List.mem_append.mp this with z | z
              · rcases List.mem_append.mp z with z | z
                · simp [z]
                · simp [z]
              · simp only [List.mem_singleton] at z
                simp [z]
            · have := q2 (by simpa using q)
              simp at this
          · rintro j y σ H3 hj ⟨x8, x9, wt2, L3, rfl, d5, c5⟩
            obtain ⟨d, hd, rfl⟩ := nV_get hj
            have dm : d ∈ G[x] := List.mem_of_getElem? hd
            have dl : d < 2 * m := (hg.gr.hg.mem d).mp (List.mem_flatten.mpr ⟨_, List.getElem_mem (by omega), dm⟩)
            have td : tl d = x := hg.gr.hg.tl x _ d hrx dm
            have ol : opp d < 2 * m := opp_lt.mpr dl
            have fn_ : tl (opp d) < n := hg.gr.tlt ol
            have fm : mk (tl (opp d)) = i := by rw [← hm.edge d dl, td, xi]
            have ta : (nV ((List.range (2 * m)).map tl))[opp d]? = some (.int ((tl (opp d) : Nat) : Int)) := nV_at (by rw [List.getElem?_map, List.getElem?_range ol]; rfl)
            refine ⟨_, rfl, _, rfl, d, rfl, pT, _, opp d, _, rfl, rfl, SqL.of d5.hT, atI_nat ta, ?_⟩
            refine ⟨_, rfl, _, rfl, pS, _, rfl, DGet.k (k := Sum.inl ((tl (opp d) : Nat) : Int)) d5.hS, _, rfl, ?_⟩
            rw [valV_dS]
            -- what holds of the darts so far
            have step : ∀ wt', (∀ z, z ∈ (part ++ [x]) ++ wt2 → z ∈ (part ++ [x]) ++ wt') → tl (opp d) ∈ (part ++ [x]) ++ wt' → ∀ d', d' < 2 * m → tl d' ∈ part ++ [x] → (tl d' = x → d' ∈ (G[x]).take (j + 1)) → tl (opp d') ∈ (part ++ [x]) ++ wt' := by
              intro wt' mono here d' hd' q1 q2
              by_cases e : d' = d
              · rw [e]
                exact here
              · refine mono _ (c5 d' hd' q1 fun z => ?_)
                have := q2 z
                rw [List.take_add_one, hd] at this
                rcases List.mem_append.mp this with q | q
                · exact q
                · exact absurd (by simpa using q) e
            by_cases eL : tl (opp d) ∈ L3
            · rw [if_pos eL]
              refine iteF ⟨_, _, wt2, L3, rfl, d5, step wt2 (fun z q => q) ?_⟩
              rcases ((d5.hL _).mp eL).2 with q | q
              · omega
              · exact q
            · rw [if_neg eL]
              refine iteT ?_
              refine ⟨_, rfl, _, rfl, pS, _, rfl, DPut.k (k := Sum.inl ((tl (opp d) : Nat) : Int)) d5.hS ?_, ?_⟩
              · rw [dS_len]
                exact sz_lt (by have := nodup_len d5.ndL fun d hd => ((d5.hL d).mp hd).1; omega)
              have PH2 : ∀ {o : HO}, upd H3 pS o pW = some (.lst (nV wt2)) := by
                intro o
                rw [upd_ne (ne_of d5.hW d5.hS (by intro z; cases z))]
                exact d5.hW
              refine ⟨_, rfl, .inl ⟨rfl, _, SqL.of PH2⟩, _, rfl, pW, _, _, rfl, rfl, PH2, ?_, ?_⟩
              · rw [nV_len]
                have := nodup_len d5.nd fun d hd => (d5.hin d hd).1
                rw [List.length_append] at this
                exact sz_lt (by omega)
              exact ⟨_, _, _, _, rfl, d5.push ap fS fW fn_ fm eL, step _ (fun z q => by rw [← List.append_assoc]; exact List.mem_append_left _ q) (by simp)⟩
          · rintro σ H3 ⟨x8, x9, wt2, L3, rfl, d5, c5⟩
            refine ⟨_, x8, x9, part ++ [x], wt2, L3, by simp, rfl, d5, fun d hd q => c5 d hd q fun z => ?_⟩
            rw [nV_len, List.take_length]
            obtain ⟨r, hr2, hm2⟩ := hg.gr.row hd
            rw [z, hrx] at hr2
            cases hr2
            exact hm2
      · have iL : i ∈ L := (hL i).mpr ⟨hi, by have := hm.lt i hi; omega⟩
        rw [if_pos iL]
        refine iteF ?_
        refine ⟨_, x5, x6, x7, x8, x9, L, ca, rfl, s1, hT, by rw [reps_no ei]; exact hF, by rw [reps_no ei]; exact hC, hS, nL, fun v => ?_⟩
        rw [hL v]
        refine ⟨fun ⟨a, b⟩ => ⟨a, by omega⟩, fun ⟨a, b⟩ => ⟨a, ?_⟩⟩
        have q : mk v ≠ i := fun z => ei (by have := hm.id v a; rw [z] at this; exact this)
        omega
    · rintro σ H1 ⟨x4, x5, x6, x7, x8, x9, L, ca, rfl, s1, hT, hF, hC, hS, nL, hL⟩
      exact ⟨_, rfl, k H1 pF ca s1 fF hF hC⟩
end
end K07
/-! K07R5 -/
set_option Elab.async false
set_option linter.all false
set_option maxRecDepth 100000
set_option maxHeartbeats 8000000
namespace K07
open PySem PySem.Spec PyProof.Rows L2
/-! ### d.update(e) -/
def mergeK (ks ls : List (Key × V)) : List (Key × V) := ls.foldl (fun acc kv => putK acc kv.1 kv.2) ks
theorem mergeK_le : ∀ (ls ks : List (Key × V)), (mergeK ks ls).length ≤ ks.length + ls.length
  | [], _ => Nat.le_refl _
  | p :: ls, ks => by
    have a := mergeK_le ls (putK ks p.1 p.2)
    have b := length_putK ks p.1 p.2
    show (mergeK (putK ks p.1 p.2) ls).length ≤ _
    rw [List.length_cons]
    omega
theorem kv_merge : ∀ {ls : List (Key × V)} {us : List (Key × Value)} {ks : List (Key × V)} {vs : List (Key × Value)}, KV ks vs → KV ls us → KV (mergeK ks ls) (merged vs us)
  | [], _, _, _, r, .nil => r
  | p :: ls, _, ks, _, r, .cons (b := q) h t => by
    have e : p.1 = q.1 := h.1
    have := kv_merge (r.put p.1 h.2) t
    show KV (mergeK (putK ks p.1 p.2) ls) (merged (stored _ q.1 q.2) _)
    rw [← e]
    exact this
theorem mergeK_dS : ∀ (l L : List Nat), (L ++ l).Nodup → mergeK (dS L) (dS l) = dS (L ++ l)
  | [], L, _ => by rw [List.append_nil]; rfl
  | d :: l, L, h => by
    have hd : d ∉ L := fun q => (List.nodup_append.mp h).2.2 d q d (by simp) rfl
    show mergeK (putK (dS L) (Sum.inl (d : Int) : Key) (.bl true)) (dS l) = _
    rw [putK_dS hd, mergeK_dS l (L ++ [d]) (by simpa using h)]
    simp
def rDUpd : V → List V → Hp → VK → Prop := fun x vs H Q => ∃ (a b : Addr) (ks ls : List (Key × V)), x = .ref a ∧ vs = [.ref b] ∧ a ≠ b ∧ H a = some (.dK ks) ∧ H b = some (.dK ls) ∧ ks.length + ls.length ≤ sizeLine ∧ Q .non (upd H a (.dK (mergeK ks ls)))
section
variable {X : Cx}
theorem mt_dupdate : MtR X "dict.update" rDUpd := by
  intro pins s σ H x vs v us Q I rx rv h
  obtain ⟨a, b, ks, ls, rfl, rfl, hab, hA, hB, hz, q⟩ := h
  cases rx
  obtain ⟨u, rfl, ru⟩ := rv.one
  cases ru
  obtain ⟨z1, hd1, v1, r1, d1⟩ := dk_of I.hok hA
  obtain ⟨z2, hd2, v2, r2, d2⟩ := dk_of I.hok hB
  refine call_meetsIn PySem.F.slot_dict_update d1.typeIs PySem.F.entry_dict_update (PySem.F.args_dict_update_2 _ _) (meets_dict_update (mixKind X.prog X.w) a b hab hd2)
    ⟨v1, v2, d1, d2, by rw [← r1.length, ← r2.length]; exact hz, fun h' dd' _ hs => ?_⟩
  have he : ∃ q, h'.get? a = some q := let ⟨q, _, _, hq, _⟩ := dd'; ⟨q, hq⟩
  exact ⟨.non, _, d_write (t' := s.toks) I (by rw [hA]; exact True.intro) hs he (dk_new (Nat.le_trans (mergeK_le _ _) hz) hd1 (kv_merge r1 r2) dd'), rfl, q⟩
end
end K07
/-! K07D7 -/
set_option Elab.async false
set_option linter.all false
set_option maxRecDepth 100000
set_option maxHeartbeats 8000000
namespace K07
open PySem PySem.Spec PyProof.Rows L2
/-! ### face_list -/
def k0 (G : List (List Nat)) : Nat := (G.filter fun r => r.isEmpty).length
theorem k0_step {G : List (List Nat)} {i : Nat} {r : List Nat} (h : G[i]? = some r) : k0 (G.take (i + 1)) = k0 (G.take i) + if r.isEmpty then 1 else 0 := by
  unfold k0
  rw [List.take_add_one, h, List.filter_append, List.length_append]
  show _ + ([r].filter fun r => r.isEmpty).length = _
  cases r <;> rfl
theorem k0_le (G : List (List Nat)) : k0 G ≤ G.length := List.length_filter_le _ _
theorem dlen : ∀ {D : List (List Nat)}, (∀ l ∈ D, l ≠ []) → D.length ≤ D.flatten.length
  | [], _ => Nat.le_refl _
  | l :: D, h => by
    have a := dlen (D := D) fun x hx => h x (List.mem_cons_of_mem _ hx)
    have b := List.length_pos_iff.mpr (h l (by simp))
    rw [List.flatten_cons, List.length_append, List.length_cons]
    omega
/-- a list of tuples of numbers -/
structure RwL (H : Hp) (p : Addr) (F : List (List Nat)) : Prop where
  ex : ∃ ra : Nat → Addr, H p = some (.lst (rowsV F.length ra)) ∧ ∀ i r, F[i]? = some r → H (ra i) = some (.tup (nV r))
theorem rowsV_congr {n : Nat} {f g : Nat → Addr} (h : ∀ i, i < n → f i = g i) : rowsV n f = rowsV n g := by
  unfold rowsV
  exact List.map_congr_left fun i hi => by rw [h i (List.mem_range.mp hi)]
theorem rowsV_snoc (n : Nat) (ra : Nat → Addr) (t : Addr) : rowsV n ra ++ [V.ref t] = rowsV (n + 1) (fun i => if i = n then t else ra i) := by
  unfold rowsV
  rw [List.range_succ, List.map_append]
  congr 1
  · refine List.map_congr_left fun i hi => ?_
    show _ = V.ref (if i = n then t else ra i)
    rw [if_neg (by have := List.mem_range.mp hi; omega)]
  · simp
theorem RwL.len {H : Hp} {p : Addr} {F : List (List Nat)} (h : RwL H p F) : ∃ xs, H p = some (.lst xs) ∧ xs.length = F.length := by
  obtain ⟨ra, a, _⟩ := h.ex
  exact ⟨_, a, rowsV_len _ _⟩
theorem RwL.keep {H H' : Hp} {p : Addr} {F : List (List Nat)} (h : RwL H p F) (e : Same H H') : RwL H' p F := by
  obtain ⟨ra, a, b⟩ := h.ex
  exact ⟨ra, e _ _ a, fun i r q => e _ _ (b i r q)⟩
theorem RwL.other {H : Hp} {p q : Addr} {F : List (List Nat)} {o : HO} {kvs : List (Key × V)} (h : RwL H p F) (hq : H q = some (.dK kvs)) : RwL (upd H q o) p F := by
  obtain ⟨ra, a, b⟩ := h.ex
  exact ⟨ra, by rw [upd_ne (ne_of a hq (by intro z; cases z))]; exact a, fun i r k => by rw [upd_ne (ne_of (b i r k) hq (by intro z; cases z))]; exact b i r k⟩
/-- another one is appended -/
theorem RwL.push {H H2 : Hp} {p t : Addr} {F : List (List Nat)} {r : List Nat} {xs : List V} (h : RwL H p F) (e : Same H H2) (ht : H2 t = some (.tup (nV r))) (hp : H2 p = some (.lst xs)) : RwL (upd H2 p (.lst (xs ++ [.ref t]))) p (F ++ [r]) := by
  obtain ⟨ra, a, b⟩ := h.ex
  have a2 := e _ _ a
  rw [hp] at a2
  cases a2
  have ne : ∀ {q : Addr} {ys : List V}, H2 q = some (.tup ys) → q ≠ p := fun k => ne_of k hp (by intro z; cases z)
  refine ⟨fun i => if i = F.length then t else ra i, by rw [upd_same, rowsV_snoc, List.length_append]; rfl, fun i r' q => ?_⟩
  show upd _ _ _ (if i = F.length then t else ra i) = _
  by_cases ei : i = F.length
  · rw [if_pos ei, upd_ne (ne ht), ht]
    rw [ei, List.getElem?_append_right (Nat.le_refl _)] at q
    simp at q
    rw [q]
  · have hi : i < F.length := by
      have := (List.getElem?_eq_some_iff.mp q).1
      rw [List.length_append] at this
      simp only [List.length_singleton] at this
      omega
    rw [List.getElem?_append_left hi] at q
    have q2 := e _ _ (b i r' q)
    rw [if_neg ei, upd_ne (ne q2), q2]
def spFaces : Sp := fun vs H Q _ => ∃ (g : Addr) (G : List (List Nat)) (n m : Nat) (nx tl : Nat → Nat), vs = [.ref g] ∧ GA H g n m G nx tl ∧
  ∀ (H' : Hp) (p : Addr) (D : List (List Nat)), Same H H' → GrT H' p (List.replicate (k0 G) [] ++ D) → Dec (ph nx) (2 * m) D → Q (.ref p) H'
section
variable {P : Program} {w : World} {K : PySem.W.Frag} {mg : Str → Option Value} {base : Heap} {f fC fS fO : Addr} {fd fdC fdS fdO : FuncData}
abbrev nFL : List Str := ["graph", "follows", "seen", "found", "start", "face", "dart", "rotation"]
theorem sc_faces : FnScope nFL ["graph"] (defScope s_face_list) := ⟨rfl, rfl, rfl, by decide +kernel, rfl, by decide +kernel, by decide +kernel⟩
theorem ok_faces (F : FnP K "face_list" s_face_list f fd) (T : Txt mg) (C : Dn K mg "dart_count" s_dart_count ["graph"] fC fdC) (O : Dn K mg "opposite_of" s_opposite_of ["dart"] fO fdO) (S : Dn K mg "successors" s_successors ["graph"] fS fdS) : FnOk P w K mg base CX0 3 f fd ["graph"] spFaces := by
  have GS : FnOk P w K mg base CX0 2 fS fdS ["graph"] spSucc := ok_succ S.F T C O
  refine F.ok sc_faces (fun vs H Q E h => ?_) (fun cdv A outer s H vs Q E hr h => ?_)
  · obtain ⟨g, G, n, m, nx, tl, rfl, _⟩ := h
    rfl
  · obtain ⟨g, G, n, m, nx, tl, rfl, hg, k⟩ := h
    have hu := hu_of hr
    refine ⟨_, PSs.nox (pss_cons (ps_par (i := 1) (j := 2) rfl sc_faces.nd rfl rfl (by decide) rfl rfl (pa_cons (pe_call GS hr (by rfl) S.g S.F.kp S.b .nil pass0 (pa_cons (pv 0) pa_nil)) (pa_cons pe_dnewK pa_nil)) (by rfl))
      (pss_cons (ps_setLc (i := 3) (own := [("rotation", 7)]) (g := gName 7) rfl sc_faces.nd rfl rfl (sw_true rfl rfl rfl (by decide +kernel)) (pi_tup (pv 0)) (blkOk_by (N := nFL) (sc := defScope s_face_list) (by decide +kernel))
          (fun _ _ _ _ _ => pg_name (i := 7) sc_faces.nd rfl (.inl rfl)) (fun _ _ _ _ _ => pts_one (pt_cmpR (r := rEqD K) (op_eqD hr.units) (pv 7) (pe_tup pa_nil) (nomark _))) (fun _ _ _ _ _ => pe_tup pa_nil))
      (pss_cons (ps_for PassesOwn.never rfl (pi_range1 (by rfl) T.range (pa_cons (pe_callB call_len_seq (by rfl) T.len PySem.boot_len (pa_cons (pv 1) pa_nil)) pa_nil)) (pg_name (i := 4) sc_faces.nd rfl (.inl rfl))
        (pss_one (ps_if (pt_cmp (pc_dnotin hu (pv 4) (pv 2)))
          (pss_cons (ps_par (i := 5) (j := 6) rfl sc_faces.nd rfl rfl (by decide) rfl rfl (pa_cons (pe_lst (pa_cons (pv 4) pa_nil)) (pa_cons (pe_ix ix_list (pv 1) (pv 4) (fun _ _ => rfl)) pa_nil)) (by rfl))
          (pss_cons (ps_while PassesOwn.never (pt_cmpR op_ne (pv 6) (pv 4) (nomark _))
            (pss_cons (ps_expr (pe_bm PySem.F.plainAttrs_list PySem.F.slot_list_append PySem.F.type_list_append mt_append (pv 5) (pa_cons (pv 6) pa_nil)))
            (pss_one (ps_set (i := 6) sc_faces.nd rfl (.inl rfl) (pe_ix ix_list (pv 1) (pv 6) (fun _ _ => rfl))))))
          (pss_cons (ps_expr (pe_bm PySem.F.plainAttrs_dict PySem.F.slot_dict_update PySem.F.type_dict_update mt_dupdate (pv 2) (pa_cons
            (pe_dc (own := [("dart", 6)]) (g := gName 6) (tt := tYes) rfl sc_faces.nd (pi_list (pv 5)) (blkOk_by (N := nFL) (sc := defScope s_face_list) (by decide +kernel))
              (fun _ _ _ _ _ => pg_name (i := 6) sc_faces.nd rfl (.inl rfl)) (fun _ _ _ _ _ => pts_nil) (fun _ _ _ _ _ => pv 6) (fun _ _ _ _ _ => pe_bl)) pa_nil)))
          (pss_one (ps_expr (pe_bm PySem.F.plainAttrs_list PySem.F.slot_list_append PySem.F.type_list_append mt_append (pv 3) (pa_cons (pe_callTy call_tuple_of (by rfl) T.tuple (by decide +kernel) (pa_cons (pv 5) pa_nil)) pa_nil))))))) pss_nil)))
      (pss_one (ps_ret (pe_callTy call_tuple_of (by rfl) T.tuple (by decide +kernel) (pa_cons (pv 3) pa_nil))))))), ?_⟩
    obtain ⟨ra, h1, h2⟩ := hg.at_.ex
    have ln := hg.gr.len
    have n7 := hg.n7
    have m9 := hg.m9
    refine ⟨_, rfl, g, G, n, m, nx, tl, rfl, hg, fun Ha pT sa pT0 hpT => ?_⟩
    refine fun pS hpS => ?_
    have TS : pT ≠ pS := ne_of_none hpT hpS
    have fS : H pS = none := sa.free hpS
    have s0 : Same H (upd Ha pS (.dK [])) := sa.upd fS
    refine ⟨_, _, rfl, ?_⟩
    -- the empty ones
    refine ⟨_, rfl, g, rfl, ⟨_, SqT.of (s0 _ _ h1)⟩, fun pF hpF => ?_⟩
    have TF : pT ≠ pF := ne_of_none (show upd Ha pS (.dK []) pT = _ by rw [upd_ne TS]; exact hpT) hpF
    have SF : pS ≠ pF := ne_of_none (show upd Ha pS (.dK []) pS = _ from upd_same) hpF
    have fF : H pF = none := s0.free hpF
    refine lc_tup (K := K) (a := g) (xs := rowsV G.length ra) (fun i H' => Same (upd Ha pS (.dK [])) H' ∧ RwL H' pF (List.replicate (k0 (G.take i)) [])) ⟨Same.new hpF, ⟨fun _ => 0, upd_same, fun i r q => by simp [k0] at q⟩⟩ (fun i H' _ c => SqT.of (c.1 _ _ (s0 _ _ h1))) ?_ ?_
    · rintro i x H' hi ⟨c1, c2⟩
      obtain ⟨hlt, rfl⟩ := rowsV_get hi
      have hr1 : G[i]? = some G[i] := List.getElem?_eq_getElem hlt
      refine ⟨rfl, ?_⟩
      refine ⟨_, rfl, Nat.zero_le _, fun t ht => ?_⟩
      have c3 := c1.trans (Same.new (o := .tup []) ht)
      refine ⟨.tuple (iD G[i]), .tuple [], Dp.tup (SqT.of (c3 _ _ (s0 _ _ (h2 i _ hr1)))) (dpAll_n _), Dp.tup (SqT.of upd_same) .nil, shTn _, rfl, _, rfl, ?_⟩
      have e1 : PyData.eqv (.tuple (iD G[i])) (.tuple []) = G[i].isEmpty := by
        show PyData.eqvAll _ _ = _
        rw [eqvNil]
      rw [e1]
      have ks := k0_step hr1
      by_cases em : G[i].isEmpty = true
      · rw [em]
        refine iteT ?_
        rw [if_pos em] at ks
        refine ⟨Nat.zero_le _, fun t2 ht2 => ?_⟩
        have e2 : Same H' (upd (upd H' t (.tup [])) t2 (.tup [])) := (Same.new ht).upd ((Same.new (o := .tup []) ht).free ht2)
        have c4 := c2.keep e2
        obtain ⟨xs, a1, a2⟩ := c4.len
        refine ⟨xs, a1, ?_, ?_⟩
        · rw [a2, List.length_replicate]
          exact sz_lt (by have := k0_le (G.take i); rw [List.length_take] at this; omega)
        · refine ⟨(c1.trans e2).upd hpF, ?_⟩
          rw [ks, List.replicate_succ']
          exact c2.push e2 upd_same a1
      · rw [if_neg em] at ks
        rw [show G[i].isEmpty = false by simpa using em]
        refine iteF ⟨c3, ?_⟩
        rw [ks]
        exact c2.keep (Same.new ht)
    rintro Hb ⟨c1, c2⟩
    rw [rowsV_len, List.take_of_length_le (Nat.le_refl _)] at c2
    have sb : Same H Hb := s0.trans c1
    have hTb : Hb pT = some (.lst (nV ((List.range (2 * m)).map (ph nx)))) := c1 _ _ (by rw [upd_ne TS]; exact hpT)
    refine ⟨_, rfl, pT, _, rfl, .inl (SqL.of hTb), _, rfl, by rw [nV_len]; omega, by rw [nV_len, List.length_map, List.length_range]; omega, ?_⟩
    rw [nV_len, List.length_map, List.length_range, Int.toNat_natCast]
    refine for_range (lo := 0) (n := 2 * m) (fun i σ H' => ∃ (x4 x5 x6 : Option V) (D : List (List Nat)), σ = [some (.ref g), some (.ref pT), some (.ref pS), some (.ref pF), x4, x5, x6, none] ∧ Same H H' ∧ H' pT = some (.lst (nV ((List.range (2 * m)).map (ph nx)))) ∧
        H' pS = some (.dK (dS D.flatten)) ∧ RwL H' pF (List.replicate (k0 G) [] ++ D) ∧ Dcs (ph nx) D ∧ (∀ d ∈ D.flatten, d < 2 * m) ∧ ∀ d, d < i → d ∈ D.flatten)
      ⟨none, none, none, [], rfl, sb, hTb, c1 _ _ upd_same, by simpa using c2, ⟨fun l hl => by simp at hl, fun l hl => by simp at hl, by simp⟩, fun d hd => by simp at hd, fun d hd => by omega⟩ ?_ ?_
    · rintro i σ H1 hi ⟨x4, x5, x6, D, rfl, s1, hT, hS, hF, hD, hlt, hall⟩
      have e0 : (0 : Int) + ((i : Nat) : Int) = (i : Int) := by omega
      rw [e0]
      refine ⟨_, rfl, _, rfl, pS, _, rfl, DGet.k (k := Sum.inl (i : Int)) hS, _, rfl, ?_⟩
      rw [valV_dS]
      have fget : ∀ {d : Nat}, d < 2 * m → (nV ((List.range (2 * m)).map (ph nx)))[d]? = some (.int ((ph nx d : Nat) : Int)) := fun {d} hd => nV_at (by rw [List.getElem?_map, List.getElem?_range hd]; rfl)
      by_cases iD_ : i ∈ D.flatten
      · rw [if_pos iD_]
        refine iteF ⟨_, x5, x6, D, rfl, s1, hT, hS, hF, hD, hlt, fun d hd => ?_⟩
        by_cases e : d = i
        · rw [e]; exact iD_
        · exact hall d (by omega)
      · rw [if_neg iD_]
        refine iteT ?_
        have w0 : Wk (ph nx) (2 * m) D [i] i (ph nx i) := Wk.start hD hlt hg.gr.phlt hi iD_
        refine ⟨_, rfl, by show 1 ≤ sizeLine; decide, fun pA hpA => ?_⟩
        have TA : pT ≠ pA := ne_of_none hT hpA
        have SA : pS ≠ pA := ne_of_none hS hpA
        have fA : H pA = none := s1.free hpA
        obtain ⟨xs, a1, a2⟩ := hF.len
        have FA : pF ≠ pA := ne_of_none a1 hpA
        refine ⟨_, rfl, _, rfl, pT, _, i, _, rfl, rfl, SqL.of (show upd H1 pA _ pT = _ by rw [upd_ne TA]; exact hT), atI_nat (fget hi), _, _, rfl, ?_⟩
        -- around the face
        refine ⟨fun μ σ H' => ∃ (l : List Nat) (d : Nat), μ = 2 * m - l.length ∧ σ = [some (.ref g), some (.ref pT), some (.ref pS), some (.ref pF), some (.int (i : Int)), some (.ref pA), some (.int (d : Int)), none] ∧ H' = upd H1 pA (.lst (nV l)) ∧ Wk (ph nx) (2 * m) D l i d,
          ⟨_, [i], ph nx i, rfl, rfl, rfl, w0⟩, ?_⟩
        rintro μ σ H2 ⟨l, d, rfl, rfl, rfl, wk⟩
        have hT2 : ∀ {o : HO}, upd H1 pA o pT = some (.lst (nV ((List.range (2 * m)).map (ph nx)))) := by
          intro o
          rw [upd_ne TA]
          exact hT
        refine ⟨_, rfl, _, rfl, rfl, _, rfl, ?_⟩
        by_cases ed : d = i
        · have e1 : (!decide (V.int (d : Int) = V.int (i : Int))) = false := by rw [ed]; simp
          rw [e1]
          refine iteF ?_
          obtain ⟨d1, d2, d3⟩ := wk.done ed
          have hf : (D ++ [l]).flatten = D.flatten ++ l := by rw [List.flatten_append]; simp
          have nl : l.length ≤ 2 * m := wk.len
          have nD : D.flatten.length ≤ 2 * m := nodup_len hD.nd hlt
          -- seen.update
          refine ⟨_, rfl, .inr (.inr (.inl ⟨rfl, .inl ⟨_, show upd H1 pA _ pS = _ by rw [upd_ne SA]; exact hS⟩⟩)), ?_⟩
          refine ⟨_, rfl, pA, rfl, ⟨_, SqL.of upd_same⟩, fun pD hpD => ?_⟩
          refine dc_it (walk_list (K := K) (a := pA) (xs := nV l)) (fun j H' => Same (upd H1 pA (.lst (nV l))) H' ∧ H' pD = some (.dK (dS (l.take j)))) ⟨Same.new hpD, upd_same⟩ (fun j H' _ q => SqL.of (q.1 _ _ upd_same)) ?_ ?_
          · rintro j x H3 H4 hj ⟨q1, q2⟩ ⟨rfl, hx⟩
            obtain ⟨y, hy, rfl⟩ := nV_get hx
            refine ⟨rfl, ?_⟩
            refine ⟨_, rfl, _, Sum.inl (y : Int), rfl, q2, by rw [dS_len, List.length_take]; exact sz_lt (by omega), q1.upd hpD, ?_⟩
            have ny : y ∉ l.take j := fun q => by
              obtain ⟨k', hk', ek⟩ := List.mem_iff_getElem.mp q
              rw [List.length_take] at hk'
              have g' : l[k']? = some y := by
                rw [List.getElem_take] at ek
                rw [List.getElem?_eq_getElem (by omega), ek]
              have := nodup_get (List.nodup_append.mp wk.nd).2.1 g' hy
              omega
            rw [upd_same, putK_dS ny, List.take_add_one, hy]
            rfl
          rintro H3 ⟨q1, q2⟩
          rw [nV_len, List.take_length] at q2
          have s3 : Same H1 H3 := (Same.new hpA).trans q1
          have hS3 : H3 pS = some (.dK (dS D.flatten)) := s3 _ _ hS
          have hA3 : H3 pA = some (.lst (nV l)) := q1 _ _ upd_same
          have SD : pS ≠ pD := ne_of_none (show upd H1 pA (.lst (nV l)) pS = _ by rw [upd_ne SA]; exact hS) hpD
          refine ⟨pS, pD, _, _, rfl, rfl, SD, hS3, q2, ?_, ?_⟩
          · rw [dS_len, dS_len]
            exact sz_ok (by omega)
          rw [mergeK_dS _ _ wk.nd]
          have hA4 : upd H3 pS (.dK (dS (D.flatten ++ l))) pA = some (.lst (nV l)) := by rw [upd_ne SA.symm]; exact hA3
          have F4 : RwL (upd H3 pS (.dK (dS (D.flatten ++ l)))) pF (List.replicate (k0 G) [] ++ D) := (hF.keep s3).other hS3
          obtain ⟨ys, b1, b2⟩ := F4.len
          refine ⟨_, rfl, .inl ⟨rfl, _, SqL.of b1⟩, _, rfl, pA, nV l, rfl, .inl ⟨SqL.of hA4, fun tp htp => ?_⟩⟩
          have e5 : Same (upd H3 pS (.dK (dS (D.flatten ++ l)))) (upd (upd H3 pS (.dK (dS (D.flatten ++ l)))) tp (.tup (nV l))) := Same.new htp
          refine ⟨pF, ys, .ref tp, rfl, rfl, e5 _ _ b1, ?_, ?_⟩
          · rw [b2, List.length_append, List.length_replicate]
            have := k0_le G
            have := dlen hD.ne
            exact sz_lt (by omega)
          have s4 : Same H (upd H3 pS (.dK (dS (D.flatten ++ l)))) := (s1.trans s3).upd fS
          refine ⟨_, _, _, D ++ [l], rfl, (s4.upd (s4.free htp)).upd fF, ?_, ?_, ?_, d1, d2, fun j hj => ?_⟩
          · rw [upd_ne TF]
            refine e5 _ _ ?_
            rw [upd_ne TS]
            exact s3 _ _ hT
          · rw [upd_ne SF]
            refine e5 _ _ ?_
            rw [upd_same, hf]
          · rw [← List.append_assoc]
            exact F4.push e5 upd_same (e5 _ _ b1)
          · rw [d3 j]
            by_cases e : j = i
            · refine .inr ?_
              rw [e, ← wk.hd 0]
              exact headD_mem wk.ne
            · exact .inl (hall j (by omega))
        · have e1 : (!decide (V.int (d : Int) = V.int (i : Int))) = true := by
            rw [decide_eq_false (fun z => ed (by have := V.int.inj z; omega))]
            rfl
          rw [e1]
          have w2 := wk.on hg.gr.phinj hg.gr.phlt ed
          have wl := w2.len
          rw [List.length_append, List.length_singleton] at wl
          refine iteT ⟨_, fun σ' H' h => ⟨2 * m - (l.length + 1), by omega, h⟩, ?_⟩
          refine ⟨_, rfl, .inl ⟨rfl, _, SqL.of upd_same⟩, _, rfl, pA, _, _, rfl, rfl, upd_same, by rw [nV_len]; exact sz_lt (by omega), ?_⟩
          have hu2 : upd (upd H1 pA (.lst (nV l))) pA (.lst (nV l ++ [V.int (d : Int)])) = upd H1 pA (.lst (nV (l ++ [d]))) := by
            rw [upd_upd, nV_app]
            rfl
          rw [hu2]
          refine ⟨_, rfl, _, rfl, pT, _, d, _, rfl, rfl, SqL.of hT2, atI_nat (fget wk.dl), ?_⟩
          exact ⟨l ++ [d], ph nx d, by simp, rfl, rfl, w2⟩
    · rintro σ H1 ⟨x4, x5, x6, D, rfl, s1, hT, hS, hF, hD, hlt, hall⟩
      obtain ⟨rb, b1, b2⟩ := hF.ex
      refine ⟨_, rfl, pF, _, rfl, .inl ⟨SqL.of b1, fun tp htp => ?_⟩⟩
      have e := Same.new (o := .tup (rowsV (List.replicate (k0 G) [] ++ D).length rb)) htp
      exact k _ _ D (s1.trans e) ⟨rb, upd_same, fun i r q => e _ _ (b2 i r q)⟩ ⟨hD, fun d => ⟨hlt d, hall d⟩⟩
end
end K07
/-! K07D8 -/
set_option Elab.async false
set_option linter.all false
set_option maxRecDepth 100000
set_option maxHeartbeats 8000000
namespace K07
open PySem PySem.Spec PyProof.Rows L2
/-! ### faces_by_component -/
theorem sum_b1 {x : Nat} : ∀ {L : List Nat}, L.Nodup → (L.map fun v => b1 (x = v)).sum = b1 (x ∈ L)
  | [], _ => by simp [b1]
  | y :: L, h => by
    obtain ⟨h1, h2⟩ := List.nodup_cons.mp h
    rw [List.map_cons, List.sum_cons, sum_b1 h2]
    by_cases e : x = y
    · rw [b1_pos e, b1_neg (by rw [e]; exact h1), b1_pos (by rw [e]; simp)]
    · rw [b1_neg e]
      by_cases q : x ∈ L
      · rw [b1_pos q, b1_pos (by simp [q])]
      · rw [b1_neg q, b1_neg (by simp [q, e])]
theorem sum_add (f g : Nat → Nat) : ∀ L : List Nat, (L.map fun v => f v + g v).sum = (L.map f).sum + (L.map g).sum
  | [] => rfl
  | x :: L => by
    rw [List.map_cons, List.sum_cons, sum_add f g L, List.map_cons, List.sum_cons, List.map_cons, List.sum_cons]
    omega
theorem cnt_snoc (k : Nat → Nat) (s : Nat) (D : List (List Nat)) (l : List Nat) : cnt k s (D ++ [l]) = cnt k s D + b1 (k (l.headD 0) = s) := by
  have := cnt_mid k s D l []
  rw [List.append_nil] at this
  omega
theorem sum_cnt {n s : Nat} {tl mk : Nat → Nat} : ∀ {D : List (List Nat)}, (∀ l ∈ D, tl (l.headD 0) < n) → ((cls n mk s).map fun v => cnt tl v D).sum = cnt (fun d => mk (tl d)) s D
  | [], _ => by
    show ((cls n mk s).map fun v => 0).sum = 0
    induction cls n mk s with
    | nil => rfl
    | cons x L ih => rw [List.map_cons, List.sum_cons, ih]
  | l :: D, h => by
    have e : ((cls n mk s).map fun v => cnt tl v (l :: D)) = (cls n mk s).map fun v => b1 (tl (l.headD 0) = v) + cnt tl v D := List.map_congr_left fun v _ => cnt_cons tl v l D
    rw [e, sum_add, sum_b1 (cls_nodup n mk s), sum_cnt fun x hx => h x (List.mem_cons_of_mem _ hx), cnt_cons]
    congr 1
    have hl := h l (by simp)
    by_cases q : mk (tl (l.headD 0)) = s
    · rw [b1_pos q, b1_pos (mem_cls.mpr ⟨hl, q⟩)]
    · rw [b1_neg q, b1_neg fun z => q (mem_cls.mp z).2]
theorem cls_head {n m s : Nat} {tl mk : Nat → Nat} (k : Mk n m tl mk) (hs : s ∈ reps mk n) : ∃ r, cls n mk s = s :: r := by
  obtain ⟨h1, h2⟩ := mem_reps.mp hs
  have hm : s ∈ cls n mk s := mem_cls.mpr ⟨h1, h2⟩
  have hp := cls_sorted n mk s
  cases e : cls n mk s with
  | nil => rw [e] at hm; simp at hm
  | cons x r =>
    rw [e] at hm hp
    have hx : x ∈ cls n mk s := by rw [e]; simp
    obtain ⟨x1, x2⟩ := mem_cls.mp hx
    have := k.lt x x1
    rcases List.mem_cons.mp hm with q | q
    · exact ⟨r, by rw [q]⟩
    · have := (List.pairwise_cons.mp hp).1 s q
      omega
theorem not_take {l : List Nat} (n : l.Nodup) {j x : Nat} (h : l[j]? = some x) : x ∉ l.take j := fun q => by
  obtain ⟨k', hk', ek⟩ := List.mem_iff_getElem.mp q
  rw [List.length_take] at hk'
  have g' : l[k']? = some x := by
    rw [List.getElem_take] at ek
    rw [List.getElem?_eq_getElem (by omega), ek]
  have := nodup_get n g' h
  omega
theorem k0_range (G : List (List Nat)) : k0 G = ((List.range G.length).filter fun v => (G.getD v []).isEmpty).length := by
  have e : G = (List.range G.length).map fun v => G.getD v [] := by
    refine List.ext_getElem? fun i => ?_
    rw [List.getElem?_map]
    by_cases h : i < G.length
    · rw [List.getElem?_eq_getElem h, List.getElem?_range h]
      simp [List.getD, h]
    · rw [List.getElem?_eq_none (by omega), List.getElem?_eq_none (by rw [List.length_range]; omega)]
      rfl
  unfold k0
  conv => lhs; rw [e]
  rw [List.filter_map, List.length_map]
  rfl
/-- a heap with one address left out -/
def cutH (H : Hp) (a : Addr) : Hp := fun b => if b = a then none else H b
theorem cutH_self {H : Hp} {a : Addr} : cutH H a a = none := if_pos rfl
theorem cutH_ne {H : Hp} {a b : Addr} (h : b ≠ a) : cutH H a b = H b := if_neg h
theorem cutH_same {H : Hp} {a : Addr} : Same (cutH H a) H := fun b o h => by
  unfold cutH at h
  split at h
  · cases h
  · exact h
theorem cutH_up {H0 H : Hp} {a : Addr} (e : Same H0 H) (f : H0 a = none) : Same H0 (cutH H a) := fun b o h => by
  rw [cutH_ne (ne_of_none h f)]
  exact e b o h
/-- the faces' places by the node at which they begin -/
structure BN (H0 H : Hp) (tl : Nat → Nat) (pB : Addr) (E : List (List Nat)) : Prop where
  ex : ∃ (kvs : List (Key × V)) (bp : Nat → Addr), H pB = some (.dK kvs) ∧ kvs.length ≤ E.length ∧ (∀ v : Nat, cnt tl v E = 0 → valV kvs (Sum.inl (v : Int) : Key) = none) ∧
    (∀ v : Nat, cnt tl v E ≠ 0 → valV kvs (Sum.inl (v : Int) : Key) = some (.ref (bp v)) ∧ H0 (bp v) = none ∧ ∃ L : List Int, H (bp v) = some (.lst (L.map V.int)) ∧ L.length = cnt tl v E) ∧
    ∀ v v' : Nat, cnt tl v E ≠ 0 → cnt tl v' E ≠ 0 → bp v = bp v' → v = v'
theorem BN.start {H0 H : Hp} {tl : Nat → Nat} {pB : Addr} (h : H pB = some (.dK [])) : BN H0 H tl pB [] :=
  ⟨[], fun _ => 0, h, Nat.le_refl _, fun _ _ => rfl, fun v q => absurd rfl q, fun v v' q => absurd rfl q⟩
theorem BN.keep {H0 H H' : Hp} {tl : Nat → Nat} {pB : Addr} {E : List (List Nat)} (h : BN H0 H tl pB E) (e : Same H H') : BN H0 H' tl pB E := by
  obtain ⟨kvs, bp, a, b, c, d, f⟩ := h.ex
  exact ⟨kvs, bp, e _ _ a, b, c, fun v q => (d v q).imp id fun z => z.imp id fun ⟨L, x, y⟩ => ⟨L, e _ _ x, y⟩, f⟩
/-- at a node's first face a list is laid -/
theorem BN.first {H0 H : Hp} {tl : Nat → Nat} {pB t : Addr} {E : List (List Nat)} {l : List Nat} {i : Int} (h : BN H0 H tl pB E) (e : Same H0 H) (ht : H t = none) (hz : cnt tl (tl (l.headD 0)) E = 0) :
    ∃ kvs, H pB = some (.dK kvs) ∧ kvs.length ≤ E.length ∧ valV kvs (Sum.inl ((tl (l.headD 0) : Nat) : Int) : Key) = none ∧
      BN H0 (upd (upd (upd H t (.lst [])) pB (.dK (putK kvs (Sum.inl ((tl (l.headD 0) : Nat) : Int) : Key) (.ref t)))) t (.lst [.int i])) tl pB (E ++ [l]) := by
  obtain ⟨kvs, bp, a, b, c, d, f⟩ := h.ex
  have tB : pB ≠ t := ne_of_none a ht
  have cs := fun v => cnt_snoc tl v E l
  have old : ∀ v, cnt tl v (E ++ [l]) ≠ 0 → v ≠ tl (l.headD 0) → cnt tl v E ≠ 0 ∧ cnt tl v (E ++ [l]) = cnt tl v E := fun v q1 q2 => by
    have := cs v
    rw [b1_neg (fun z => q2 z.symm)] at this
    exact ⟨by omega, by omega⟩
  refine ⟨kvs, a, b, c _ hz, _, fun v => if v = tl (l.headD 0) then t else bp v, by rw [upd_ne tB, upd_same], ?_, fun v q => ?_, fun v q => ?_, fun v v' q q' z => ?_⟩
  · have := length_putK kvs (Sum.inl ((tl (l.headD 0) : Nat) : Int) : Key) (.ref t)
    rw [List.length_append, List.length_singleton]
    omega
  · have := cs v
    have nv : v ≠ tl (l.headD 0) := fun z => by
      rw [b1_pos z.symm] at this
      omega
    rw [valV_put, if_neg (fun z => nv (inl_iff.mp z))]
    exact c v (by omega)
  · by_cases ev : v = tl (l.headD 0)
    · refine ⟨?_, ?_, [i], ?_, ?_⟩
      · show _ = some (V.ref (if v = tl (l.headD 0) then t else bp v))
        rw [valV_put, if_pos (by rw [ev]), if_pos ev]
      · show H0 (if v = tl (l.headD 0) then t else bp v) = none
        rw [if_pos ev]
        exact e.free ht
      · show upd _ _ _ (if v = tl (l.headD 0) then t else bp v) = _
        rw [if_pos ev, upd_same]
        rfl
      · have := cs v
        rw [ev, hz, b1_pos rfl] at this
        rw [ev, this]
        rfl
    · obtain ⟨o1, o2⟩ := old v q ev
      obtain ⟨d1, d2, L, d3, d4⟩ := d v o1
      refine ⟨?_, ?_, L, ?_, by rw [o2, d4]⟩
      · show _ = some (V.ref (if v = tl (l.headD 0) then t else bp v))
        rw [valV_put, if_neg (fun z => ev (inl_iff.mp z)), if_neg ev]
        exact d1
      · show H0 (if v = tl (l.headD 0) then t else bp v) = none
        rw [if_neg ev]
        exact d2
      · show upd _ _ _ (if v = tl (l.headD 0) then t else bp v) = _
        rw [if_neg ev, upd_ne (ne_of_none d3 ht), upd_ne (ne_of d3 a (by intro z; cases z)), upd_ne (ne_of_none d3 ht)]
        exact d3
  · have z' : (if v = tl (l.headD 0) then t else bp v) = (if v' = tl (l.headD 0) then t else bp v') := z
    by_cases ev : v = tl (l.headD 0)
    · by_cases ev' : v' = tl (l.headD 0)
      · rw [ev, ev']
      · rw [if_pos ev, if_neg ev'] at z'
        obtain ⟨_, _, L, d3, _⟩ := d v' (old v' q' ev').1
        rw [← z', ht] at d3
        cases d3
    · by_cases ev' : v' = tl (l.headD 0)
      · rw [if_neg ev, if_pos ev'] at z'
        obtain ⟨_, _, L, d3, _⟩ := d v (old v q ev).1
        rw [z', ht] at d3
        cases d3
      · rw [if_neg ev, if_neg ev'] at z'
        exact f v v' (old v q ev).1 (old v' q' ev').1 z'
/-- at a later one it grows -/
theorem BN.more {H0 H : Hp} {tl : Nat → Nat} {pB : Addr} {E : List (List Nat)} {l : List Nat} {i : Int} (h : BN H0 H tl pB E) (hz : cnt tl (tl (l.headD 0)) E ≠ 0) :
    ∃ kvs b L, H pB = some (.dK kvs) ∧ kvs.length ≤ E.length ∧ valV kvs (Sum.inl ((tl (l.headD 0) : Nat) : Int) : Key) = some (.ref b) ∧ H0 b = none ∧ H b = some (.lst L) ∧ L.length ≤ E.length ∧
      BN H0 (upd H b (.lst (L ++ [.int i]))) tl pB (E ++ [l]) := by
  obtain ⟨kvs, bp, a, b, c, d, f⟩ := h.ex
  have cs := fun v => cnt_snoc tl v E l
  obtain ⟨w1, w2, L, w3, w4⟩ := d _ hz
  have Bb : pB ≠ bp (tl (l.headD 0)) := ne_of a w3 (by intro z; cases z)
  have cl : cnt tl (tl (l.headD 0)) E ≤ E.length := List.countP_le_length
  refine ⟨kvs, bp (tl (l.headD 0)), L.map V.int, a, b, w1, w2, w3, by rw [List.length_map]; omega, kvs, bp, by rw [upd_ne Bb]; exact a, ?_, fun v q => ?_, fun v q => ?_, fun v v' q q' z => ?_⟩
  · rw [List.length_append, List.length_singleton]
    omega
  · have := cs v
    exact c v (by omega)
  · by_cases ev : v = tl (l.headD 0)
    · rw [ev]
      refine ⟨w1, w2, L ++ [i], by rw [upd_same, List.map_append]; rfl, ?_⟩
      have := cs (tl (l.headD 0))
      rw [b1_pos rfl] at this
      rw [List.length_append, List.length_singleton]
      omega
    · have := cs v
      rw [b1_neg (fun z => ev z.symm)] at this
      have o1 : cnt tl v E ≠ 0 := by omega
      obtain ⟨d1, d2, L', d3, d4⟩ := d v o1
      exact ⟨d1, d2, L', by rw [upd_ne (fun z => ev (f _ _ o1 hz z))]; exact d3, by omega⟩
  · have pos : ∀ v, cnt tl v (E ++ [l]) ≠ 0 → cnt tl v E ≠ 0 := fun v q => by
      have := cs v
      by_cases ev : v = tl (l.headD 0)
      · rw [ev]; exact hz
      · rw [b1_neg (fun z => ev z.symm)] at this
        omega
    exact f v v' (pos v q) (pos v' q') z
end K07
/-! K07D9 -/
set_option Elab.async false
set_option linter.all false
set_option maxRecDepth 100000
set_option maxHeartbeats 8000000
namespace K07
open PySem PySem.Spec PyProof.Rows L2
/-! ### faces_by_component -/
def nE (r : List Nat) : Bool := !r.isEmpty
def Ei (F : List (List Nat)) (i : Nat) : List (List Nat) := (F.take i).filter nE
theorem Ei_yes {F : List (List Nat)} {i : Nat} {r : List Nat} (h : F[i]? = some r) (hr : r ≠ []) : Ei F (i + 1) = Ei F i ++ [r] := by
  unfold Ei
  rw [List.take_add_one, h, List.filter_append]
  congr 1
  show [r].filter nE = [r]
  rw [List.filter_cons_of_pos (by cases r with
    | nil => exact absurd rfl hr
    | cons x r => rfl)]
  rfl
theorem Ei_no {F : List (List Nat)} {i : Nat} (h : F[i]? = some []) : Ei F (i + 1) = Ei F i := by
  unfold Ei
  rw [List.take_add_one, h, List.filter_append]
  show _ ++ [] = _
  rw [List.append_nil]
theorem Ei_all {F : List (List Nat)} {k : Nat} {D : List (List Nat)} (e : F = List.replicate k [] ++ D) (ne : ∀ l ∈ D, l ≠ []) : Ei F F.length = D := by
  unfold Ei
  rw [List.take_length, e, List.filter_append]
  have a : (List.replicate k ([] : List Nat)).filter nE = [] := List.filter_eq_nil_iff.mpr fun x hx => by rw [(List.mem_replicate.mp hx).2]; decide
  have b : D.filter nE = D := List.filter_eq_self.mpr fun x hx => by
    cases x with
    | nil => exact absurd rfl (ne _ hx)
    | cons x r => rfl
  rw [a, b]
  rfl
theorem Ei_len (F : List (List Nat)) (i : Nat) : (Ei F i).length ≤ F.length := by
  unfold Ei
  have := List.length_filter_le nE (F.take i)
  rw [List.length_take] at this
  omega
theorem k0_F {F : List (List Nat)} {k : Nat} {D : List (List Nat)} (e : F = List.replicate k [] ++ D) (ne : ∀ l ∈ D, l ≠ []) : k0 F = k := by
  unfold k0
  rw [e, List.filter_append]
  have a : (List.replicate k ([] : List Nat)).filter (fun r => r.isEmpty) = List.replicate k [] := List.filter_eq_self.mpr fun x hx => by rw [(List.mem_replicate.mp hx).2]; rfl
  have b : D.filter (fun r => r.isEmpty) = [] := List.filter_eq_nil_iff.mpr fun x hx => by
    cases x with
    | nil => exact absurd rfl (ne _ hx)
    | cons x r => exact Bool.false_ne_true
  rw [a, b, List.append_nil, List.length_replicate]
theorem slice1 {K : PySem.W.Frag} {H : Hp} {a : Addr} {r : List Nat} {Q : VK} (ha : H a = some (.tup (nV r))) (h : ∀ p H2, Same H H2 → H2 p = some (.tup (nV (r.take 1))) → Q (.ref p) H2) : rSlA K (.ref a) none (some 1) H Q := by
  refine ⟨a, nV r, rfl, SqT.of ha, fun c => ?_, fun c p hp => ?_⟩
  · have e : r.take 1 = r := List.take_of_length_le (by
      have c2 := c.2
      rw [nV_len, show (some (1 : Int)) = some ((1 : Nat) : Int) from rfl, HT.sIx_nat] at c2
      omega)
    exact h a H (Same.refl _) (by rw [e]; exact ha)
  · refine h p _ (Same.new hp) ?_
    rw [upd_same]
    have e : cutV (nV r) none (some 1) = nV (r.take 1) := by
      unfold cutV
      rw [show (some (1 : Int)) = some ((1 : Nat) : Int) from rfl, HT.sIx_nat, HT.sIx_none, List.drop_zero, Nat.sub_zero, nV_len]
      unfold nV
      rw [← List.map_take]
      congr 1
      by_cases q : 1 ≤ r.length
      · rw [Nat.min_eq_left q]
      · have : r = [] := List.length_eq_zero_iff.mp (by omega)
        rw [this]
        rfl
    rw [e]
theorem BN.cut {H0 H : Hp} {tl : Nat → Nat} {pB a : Addr} {E : List (List Nat)} {o : HO} (h : BN H0 H tl pB E) (ha : H0 a = some o) (hb : a ≠ pB) : BN H0 (cutH H a) tl pB E := by
  obtain ⟨kvs, bp, e1, b, c, d, f⟩ := h.ex
  exact ⟨kvs, bp, by rw [cutH_ne hb.symm]; exact e1, b, c, fun v q => (d v q).imp id fun ⟨z, L, x, y⟩ => ⟨z, L, by rw [cutH_ne fun w => by rw [w, ha] at z; cases z]; exact x, y⟩, f⟩
theorem sum_take {f : Nat → Nat} {l : List Nat} {j x : Nat} (h : l[j]? = some x) : ((l.take (j + 1)).map f).sum = ((l.take j).map f).sum + f x := by
  rw [List.take_add_one, h, List.map_append, List.sum_append]
  simp
def emI (G : List (List Nat)) (s : Nat) : Bool := (G.getD s []).isEmpty
def spByC : Sp := fun vs H Q _ => ∃ (g : Addr) (G : List (List Nat)) (n m : Nat) (nx tl mk : Nat → Nat), vs = [.ref g] ∧ GA H g n m G nx tl ∧ Mk n m tl mk ∧
  ∀ (H' : Hp) (p : Addr) (oa : Nat → Addr) (D : List (List Nat)), Same H H' → H p = none → Dec (ph nx) (2 * m) D → H' p = some (.lst ((reps mk n).map fun s => V.ref (oa s))) →
    (∀ s ∈ reps mk n, H (oa s) = none ∧ ∃ L : List Int, H' (oa s) = some (.lst (L.map V.int)) ∧ L.length = cnt (fun d => mk (tl d)) s D + emp G s) → Q (.ref p) H'
section
variable {P : Program} {w : World} {K : PySem.W.Frag} {mg : Str → Option Value} {base : Heap} {f fC fT fO fS fL fM : Addr} {fd fdC fdT fdO fdS fdL fdM : FuncData}
abbrev nBC : List Str := ["graph", "all_faces", "tails", "index", "face", "alone", "by_node", "dart", "found", "part", "own", "node"]
theorem sc_bc : FnScope nBC ["graph"] (defScope s_faces_by_component) := ⟨rfl, rfl, rfl, by decide +kernel, rfl, by decide +kernel, by decide +kernel⟩
theorem ok_bc (F : FnP K "faces_by_component" s_faces_by_component f fd) (T : Txt mg) (C : Dn K mg "dart_count" s_dart_count ["graph"] fC fdC) (L : Dn K mg "dart_tails" s_dart_tails ["graph"] fT fdT) (O : Dn K mg "opposite_of" s_opposite_of ["dart"] fO fdO)
    (S : Dn K mg "successors" s_successors ["graph"] fS fdS) (U : Dn K mg "face_list" s_face_list ["graph"] fL fdL) (M : Dn K mg "component_list" s_component_list ["graph"] fM fdM) : FnOk P w K mg base CX0 4 f fd ["graph"] spByC := by
  have GL : FnOk P w K mg base CX0 2 fT fdT ["graph"] spTails := ok_tails L.F T C
  have GU : FnOk P w K mg base CX0 3 fL fdL ["graph"] spFaces := ok_faces U.F T C O S
  have GM : FnOk P w K mg base CX0 3 fM fdM ["graph"] spComp := ok_comp M.F T C L O
  refine F.ok sc_bc (fun vs H Q E h => ?_) (fun cdv A outer s H vs Q E hr h => ?_)
  · obtain ⟨g, G, n, m, nx, tl, mk, rfl, _⟩ := h
    rfl
  · obtain ⟨g, G, n, m, nx, tl, mk, rfl, hg, hm, k⟩ := h
    have hu := hu_of hr
    have hr2 : Room 2 _ := hr.mono (by decide)
    refine ⟨_, PSs.nox (pss_cons (ps_par (i := 1) (j := 2) rfl sc_bc.nd rfl rfl (by decide) rfl rfl (pa_cons (pe_call GU hr (by rfl) U.g U.F.kp U.b .nil pass0 (pa_cons (pv 0) pa_nil)) (pa_cons (pe_call GL hr2 (by rfl) L.g L.F.kp L.b .nil pass0 (pa_cons (pv 0) pa_nil)) pa_nil)) (by rfl))
      (pss_cons (ps_setLc (i := 5) (own := [("index", 3), ("face", 4)]) (g := gTup K 2 (gCons (gName 3) (gCons (gName 4) gNil))) rfl sc_bc.nd rfl rfl (sw_true rfl rfl rfl (by decide +kernel)) (pi_enumT (by rfl) T.enumerate (pa_cons (pv 1) pa_nil)) (blkOk_by (N := nBC) (sc := defScope s_faces_by_component) (by decide +kernel))
          (fun _ _ _ _ _ => pg_tup rfl (pgs_cons (by exact pg_name (i := 3) sc_bc.nd rfl (.inl rfl)) (pgs_cons (by exact pg_name (i := 4) sc_bc.nd rfl (.inl rfl)) pgs_nil))) (fun _ _ _ _ _ => pts_one (pt_cmpR (r := rEqD K) (op_eqD hr.units) (pv 4) (pe_tup pa_nil) (nomark _))) (fun _ _ _ _ _ => pv 3))
      (pss_cons (ps_set (i := 6) sc_bc.nd rfl (.inl rfl) pe_dnewK)
      (pss_cons (ps_for PassesOwn.never rfl (pi_enumT (by rfl) T.enumerate (pa_cons (pv 1) pa_nil)) (pg_tup rfl (pgs_cons (pg_name (i := 3) sc_bc.nd rfl (.inl rfl)) (pgs_cons (pg_name (i := 4) sc_bc.nd rfl (.inl rfl)) pgs_nil)))
        (pss_one (ps_for PassesOwn.never rfl (pi_tup (pe_slice sl_tupA (pv 4) po_none (po_some pe_int))) (pg_name (i := 7) sc_bc.nd rfl (.inl rfl))
          (pss_one (ps_expr (pe_bm PySem.F.plainAttrs_list PySem.F.slot_list_append PySem.F.type_list_append mt_append (pe_dsetd (pv 6) (pe_ix ix_list (pv 2) (pv 7) (fun _ _ => rfl)) (pe_lst pa_nil) ⟨rfl, rfl, rfl, rfl⟩) (pa_cons (pv 3) pa_nil)))))))
      (pss_cons (ps_set (i := 8) sc_bc.nd rfl (.inl rfl) (pe_lst pa_nil))
      (pss_cons (ps_for PassesOwn.never rfl (pi_list (pe_call GM hr (by rfl) M.g M.F.kp M.b .nil pass0 (pa_cons (pv 0) pa_nil))) (pg_name (i := 9) sc_bc.nd rfl (.inl rfl))
        (pss_one (ps_if (pt_cmpR (op_eqD hr.units) (pe_ix ix_tup (pv 0) (pe_ix ix_tup (pv 9) pe_int (fun _ _ => rfl)) (fun _ _ => rfl)) (pe_tup pa_nil) (nomark _))
          (pss_one (ps_expr (pe_bm PySem.F.plainAttrs_list PySem.F.slot_list_append PySem.F.type_list_append mt_append (pv 8) (pa_cons (pe_lst (pa_cons
            (pe_bm PySem.F.plainAttrs_list PySem.F.slot_list_pop PySem.F.type_list_pop mt_popAt (pv 5) (pa_cons pe_int pa_nil)) pa_nil)) pa_nil))))
          (pss_cons (ps_set (i := 10) sc_bc.nd rfl (.inl rfl) (pe_lst pa_nil))
          (pss_cons (ps_for PassesOwn.never rfl (pi_tup (pv 9)) (pg_name (i := 11) sc_bc.nd rfl (.inl rfl))
            (pss_one (ps_expr (pe_bm PySem.F.plainAttrs_list PySem.F.slot_list_extend PySem.F.type_list_extend mt_extend (pv 10) (pa_cons (pe_dget2 hu (pv 6) (pv 11) (pe_lst pa_nil) ⟨rfl, rfl, rfl, rfl⟩) pa_nil)))))
          (pss_one (ps_expr (pe_bm PySem.F.plainAttrs_list PySem.F.slot_list_append PySem.F.type_list_append mt_append (pv 8) (pa_cons
            (pe_callB cr_sorted (by rfl) T.sorted (by decide +kernel) (pa_cons (pv 10) pa_nil)) pa_nil)))))))))
      (pss_one (ps_ret (pv 8))))))))), ?_⟩
    obtain ⟨ra, h1, h2⟩ := hg.at_.ex
    have ln := hg.gr.len
    have n7 := hg.n7
    have m9 := hg.m9
    refine ⟨_, rfl, g, G, n, m, nx, tl, rfl, hg, fun Ha pA D sa hA hD => ?_⟩
    refine ⟨_, rfl, g, G, n, m, nx, tl, rfl, hg.same sa, fun Hb pT sab pT0 hpT => ?_⟩
    refine ⟨_, _, rfl, ?_⟩
    have sb : Same H Hb := sa.trans sab
    have hAb := hA.same sab
    obtain ⟨fa, fa1, fa2⟩ := hAb.ex
    generalize hF : List.replicate (k0 G) [] ++ D = F at hA hAb fa fa1 fa2
    have lF : F.length ≤ 25 := by
      rw [← hF, List.length_append, List.length_replicate]
      have := k0_le G
      have := dlen hD.ne
      have := nodup_len hD.nd fun d hd => (hD.mem d).mp hd
      omega
    -- alone
    refine ⟨_, rfl, pA, _, rfl, SqT.of fa1, fun pN hpN => ?_⟩
    refine lc_it (walk_enumT (K := K) (a := pA) (xs := rowsV F.length fa)) (fun i H' => Same Hb H' ∧ ∃ A : List Nat, H' pN = some (.lst (nV A)) ∧ A.length = k0 (F.take i)) ⟨Same.new hpN, [], upd_same, by simp [k0]⟩ (fun i H' _ c => SqT.of (c.1 _ _ fa1)) ?_ ?_
    · rintro i x H' H'' hi ⟨c1, A, c2, c3⟩ ⟨q, a, b, rfl, hq, rfl, e1, e2⟩
      cases e1
      obtain ⟨hlt, rfl⟩ := rowsV_get e2
      have hr1 : F[i]? = some F[i] := List.getElem?_eq_getElem hlt
      have c4 : Same Hb (upd H' q (.tup [.int (i : Nat), .ref (fa i)])) := c1.upd (c1.free hq)
      refine ⟨q, _, rfl, SqT.of upd_same, rfl, _, _, rfl, _, _, rfl, rfl, ?_⟩
      refine ⟨rfl, ?_⟩
      refine ⟨_, rfl, Nat.zero_le _, fun t ht => ?_⟩
      have c5 := c4.trans (Same.new (o := .tup []) ht)
      refine ⟨.tuple (iD F[i]), .tuple [], Dp.tup (SqT.of (c5 _ _ (fa2 i _ hr1))) (dpAll_n _), Dp.tup (SqT.of upd_same) .nil, shTn _, rfl, _, rfl, ?_⟩
      have e1 : PyData.eqv (.tuple (iD F[i])) (.tuple []) = F[i].isEmpty := by
        show PyData.eqvAll _ _ = _
        rw [eqvNil]
      rw [e1]
      have ks := k0_step hr1
      have e3 : Same H' (upd (upd H' q (.tup [.int (i : Nat), .ref (fa i)])) t (.tup [])) := (Same.new hq).upd ((Same.new (o := .tup [.int (i : Nat), .ref (fa i)]) hq).free ht)
      have c6 := e3 _ _ c2
      by_cases em : F[i].isEmpty = true
      · rw [em]
        rw [if_pos em] at ks
        refine iteT ⟨_, rfl, _, c6, ?_, c5.upd hpN, A ++ [i], by rw [upd_same, nV_app]; rfl, by rw [List.length_append, c3, ks]; rfl⟩
        rw [nV_len, c3]
        exact sz_lt (by have := k0_le (F.take i); rw [List.length_take] at this; omega)
      · rw [if_neg em] at ks
        rw [show F[i].isEmpty = false by simpa using em]
        exact iteF ⟨c5, A, c6, by rw [c3, ks]; rfl⟩
    rintro Hc ⟨c1, A0, hN, lA⟩
    rw [rowsV_len, List.take_of_length_le (Nat.le_refl _), k0_F hF.symm hD.ne] at lA
    have sc : Same H Hc := sb.trans c1
    have fN : H pN = none := sb.free hpN
    -- by_node
    refine fun pB hpB => ?_
    have NB : pN ≠ pB := ne_of_none hN hpB
    have fB : H pB = none := sc.free hpB
    have sd : Same Hc (upd Hc pB (.dK [])) := Same.new hpB
    refine ⟨_, rfl, pA, _, rfl, SqT.of (sd _ _ (c1 _ _ fa1)), ?_⟩
    refine for_it (walk_enumT (K := K) (a := pA) (xs := rowsV F.length fa)) (fun i σ H' => ∃ (x3 x4 x7 : Option V), σ = [some (.ref g), some (.ref pA), some (.ref pT), x3, x4, some (.ref pN), some (.ref pB), x7, none, none, none, none] ∧ Same Hc H' ∧ BN Hc H' tl pB (Ei F i))
      ⟨none, none, none, rfl, sd, BN.start upd_same⟩ (fun i σ H' _ ⟨_, _, _, _, s4, _⟩ => SqT.of (s4 _ _ (c1 _ _ fa1))) ?_ ?_
    · rintro i x σ H' H'' hi ⟨x3, x4, x7, rfl, s4, bn⟩ ⟨q, a, b, rfl, hq, rfl, e1, e2⟩
      cases e1
      obtain ⟨hlt, rfl⟩ := rowsV_get e2
      have hr1 : F[i]? = some F[i] := List.getElem?_eq_getElem hlt
      have e5 : Same H' (upd H' q (.tup [.int (i : Nat), .ref (fa i)])) := Same.new hq
      have s5 : Same Hc (upd H' q (.tup [.int (i : Nat), .ref (fa i)])) := s4.trans e5
      refine ⟨q, _, rfl, SqT.of upd_same, rfl, _, _, rfl, _, _, rfl, rfl, ?_⟩
      have bn5 := bn.keep e5
      refine ⟨_, rfl, 1, rfl, slice1 (s5 _ _ (c1 _ _ (fa2 i _ hr1))) fun p2 H2 s6 hp2 => ?_⟩
      have s7 := s5.trans s6
      refine ⟨p2, rfl, ⟨_, SqT.of hp2⟩, for_tup (K := K) (a := p2) (xs := nV (F[i].take 1)) (fun j σ H' => ∃ (x7 : Option V), σ = [some (.ref g), some (.ref pA), some (.ref pT), some (.int (i : Nat)), some (.ref (fa i)), some (.ref pN), some (.ref pB), x7, none, none, none, none] ∧ Same Hc H' ∧ H' p2 = some (.tup (nV (F[i].take 1))) ∧ BN Hc H' tl pB (if j = 0 then Ei F i else Ei F (i + 1)))
        ⟨x7, rfl, s7, hp2, bn5.keep s6⟩ (fun j σ H' _ ⟨_, _, _, q, _⟩ => SqT.of q) ?_ ?_⟩
      · rintro j y σ H3 hj ⟨y7, rfl, s8, hp3, bn8⟩
        obtain ⟨d, hd, rfl⟩ := nV_get hj
        have hj0 : j = 0 := by
          have := (List.getElem?_eq_some_iff.mp hd).1
          rw [List.length_take] at this
          omega
        subst hj0
        have hne : F[i] ≠ [] := fun z => by rw [z] at hd; simp at hd
        have hh : F[i].headD 0 = d := by
          cases e : F[i] with
          | nil => exact absurd e hne
          | cons x r => rw [e] at hd; simpa using hd
        rw [if_pos rfl] at bn8
        rw [if_neg (Nat.succ_ne_zero 0), Ei_yes hr1 hne]
        have dm : d ∈ D.flatten := by
          have q0 : ∀ r, r ∈ F → r ≠ [] → r.headD 0 ∈ D.flatten := fun r hr hn => by
            rw [← hF] at hr
            rcases List.mem_append.mp hr with q | q
            · exact absurd (List.mem_replicate.mp q).2 hn
            · exact List.mem_flatten.mpr ⟨_, q, headD_mem hn⟩
          rw [← hh]
          exact q0 _ (List.getElem_mem hlt) hne
        have dl : d < 2 * m := (hD.mem d).mp dm
        have lE := Ei_len F i
        have hT3 : H3 pT = some (.lst (nV ((List.range (2 * m)).map tl))) := s8 _ _ (c1 _ _ hpT)
        have ta : (nV ((List.range (2 * m)).map tl))[d]? = some (.int ((tl d : Nat) : Int)) := nV_at (by rw [List.getElem?_map, List.getElem?_range dl]; rfl)
        obtain ⟨kv0, bp0, hB3, _⟩ := bn8.ex
        refine ⟨_, rfl, pB, rfl, .inl ⟨_, .inl hB3⟩, _, rfl, _, rfl, pT, _, d, _, rfl, rfl, SqL.of hT3, atI_nat ta, Nat.zero_le _, fun t ht => ?_⟩
        by_cases hz : cnt tl (tl (F[i].headD 0)) (Ei F i) = 0
        · obtain ⟨kvs, hB, lB, vB, bn9⟩ := bn8.first (i := (i : Nat)) s8 ht hz
          rw [hh] at vB bn9
          refine ⟨kvs, Sum.inl ((tl d : Nat) : Int), by rw [upd_ne (ne_of_none hB ht)]; exact hB, rfl, sz_lt (by omega), fun v hv => (by rw [vB] at hv; cases hv), fun _ => ?_⟩
          have ht2 : upd (upd H3 t (.lst [])) pB (.dK (putK kvs (Sum.inl ((tl d : Nat) : Int) : Key) (.ref t))) t = some (.lst []) := by
            rw [upd_ne (ne_of_none hB ht).symm, upd_same]
          refine ⟨.inl ⟨rfl, _, SqL.of ht2⟩, _, rfl, t, [], _, rfl, rfl, ht2, by show 0 < sizeLine; decide, ?_⟩
          have fB' : Hc pB = none := hpB
          exact ⟨_, rfl, ((s8.upd (s8.free ht)).upd fB').upd (s8.free ht), by rw [upd_ne (ne_of_none hp3 ht), upd_ne (ne_of hp3 hB (by intro z; cases z)), upd_ne (ne_of_none hp3 ht)]; exact hp3, bn9⟩
        · have e9 := Same.new (o := .lst []) ht
          obtain ⟨kvs, b, L0, hB, lB, vB, fb, hb, lb, bn9⟩ := (bn8.keep e9).more (i := (i : Nat)) hz
          rw [hh] at vB
          refine ⟨kvs, Sum.inl ((tl d : Nat) : Int), hB, rfl, sz_lt (by omega), ?_, ?_⟩
          rotate_left
          · intro hv
            rw [vB] at hv
            cases hv
          intro v hv
          rw [vB] at hv
          cases hv
          refine ⟨.inl ⟨rfl, _, SqL.of hb⟩, _, rfl, b, L0, _, rfl, rfl, hb, sz_lt (by omega), ?_⟩
          exact ⟨_, rfl, (s8.trans e9).upd fb, by rw [upd_ne (ne_of (e9 _ _ hp3) hb (by intro z; cases z))]; exact e9 _ _ hp3, bn9⟩
      · rintro σ H3 ⟨y7, rfl, s8, hp3, bn8⟩
        refine ⟨_, _, _, rfl, s8, ?_⟩
        by_cases hne : F[i] = []
        · have e : (nV (F[i].take 1)).length = 0 := by rw [hne]; rfl
          rw [if_pos e] at bn8
          rw [Ei_no (by rw [hr1, hne])]
          exact bn8
        · have e : (nV (F[i].take 1)).length ≠ 0 := by
            rw [nV_len, List.length_take]
            have := List.length_pos_iff.mpr hne
            omega
          rw [if_neg e] at bn8
          exact bn8
    rintro σ H5 ⟨x3, x4, x7, rfl, s5, bn⟩
    rw [rowsV_len, Ei_all hF.symm hD.ne] at bn
    -- found
    refine ⟨Nat.zero_le _, fun pR hpR => ?_⟩
    have sg : Same H H5 := sc.trans s5
    have fR : H pR = none := sg.free hpR
    have hN5 : H5 pN = some (.lst (nV A0)) := s5 _ _ hN
    have NR : pN ≠ pR := ne_of_none hN5 hpR
    have e6 : Same H5 (upd H5 pR (.lst [])) := Same.new hpR
    refine ⟨_, rfl, g, G, n, m, nx, tl, mk, rfl, hg.same (sg.trans e6), hm, fun H7 pC ca s7 pC0 hpC hca => ?_⟩
    have s57 : Same H5 H7 := e6.trans s7
    have hN7 : H7 pN = some (.lst (nV A0)) := s57 _ _ hN5
    have hR7 : H7 pR = some (.lst []) := s7 _ _ upd_same
    have CN : pC ≠ pN := (ne_of_none (e6 _ _ hN5) pC0).symm
    have CR : pC ≠ pR := (ne_of_none (show upd H5 pR (.lst []) pR = _ from upd_same) pC0).symm
    generalize hHf : cutH (cutH H7 pN) pR = Hf
    have fNf : Hf pN = none := by rw [← hHf, cutH_ne NR]; exact cutH_self
    have fRf : Hf pR = none := by rw [← hHf]; exact cutH_self
    have sf7 : Same Hf H7 := by rw [← hHf]; exact (cutH_same).trans cutH_same
    have s5f : Same (cutH H5 pN) Hf := by
      rw [← hHf]
      refine cutH_up ?_ (cutH_same.free hpR)
      refine cutH_up (cutH_same.trans s57) cutH_self
    have shf : Same H Hf := (cutH_up sg fN).trans s5f
    have bnf : BN Hc Hf tl pB D := (bn.cut hN NB).keep s5f
    have Cf : Hf pC = some (.lst ((reps mk n).map fun s => V.ref (ca s))) := by rw [← hHf, cutH_ne CR, cutH_ne CN]; exact hpC
    have caf : ∀ s ∈ reps mk n, Hf (ca s) = some (.tup (nV (cls n mk s))) := fun s hs => by
      rw [← hHf, cutH_ne (ne_of (hca s hs) hR7 (by intro z; cases z)), cutH_ne (ne_of (hca s hs) hN7 (by intro z; cases z))]
      exact hca s hs
    have lD : D.length ≤ 25 := by
      rw [← hF, List.length_append] at lF
      omega
    have lR : (reps mk n).length ≤ 7 := Nat.le_trans (reps_len mk n) n7
    have hcount : ∀ j s, (reps mk n)[j]? = some s → G.getD s [] = [] → (((reps mk n).take j).filter (emI G)).length + 1 ≤ k0 G := fun j s hj he => by
      have q1 : (((reps mk n).take (j + 1)).filter (emI G)).length = (((reps mk n).take j).filter (emI G)).length + 1 := by
        rw [List.take_add_one, hj, List.filter_append, List.length_append]
        have : [s].filter (emI G) = [s] := List.filter_cons_of_pos (by show (G.getD s []).isEmpty = true; rw [he]; rfl)
        show _ + ([s].filter (emI G)).length = _
        rw [this]
        rfl
      have q2 : ((reps mk n).take (j + 1)).Sublist (List.range n) := (List.take_sublist _ _).trans List.filter_sublist
      have q3 := (q2.filter (emI G)).length_le
      rw [k0_range, ln]
      exact q1 ▸ q3
    have hnocount : ∀ j s, (reps mk n)[j]? = some s → G.getD s [] ≠ [] → (((reps mk n).take (j + 1)).filter (emI G)).length = (((reps mk n).take j).filter (emI G)).length := fun j s hj he => by
      rw [List.take_add_one, hj, List.filter_append, List.length_append]
      have : [s].filter (emI G) = [] := List.filter_cons_of_neg (by show ¬ (G.getD s []).isEmpty = true; cases e : G.getD s [] with
        | nil => exact absurd e he
        | cons x r => exact Bool.false_ne_true)
      show _ + ([s].filter (emI G)).length = _
      rw [this]
      rfl
    have hyescount : ∀ j s, (reps mk n)[j]? = some s → G.getD s [] = [] → (((reps mk n).take (j + 1)).filter (emI G)).length = (((reps mk n).take j).filter (emI G)).length + 1 := fun j s hj he => by
      rw [List.take_add_one, hj, List.filter_append, List.length_append]
      have : [s].filter (emI G) = [s] := List.filter_cons_of_pos (by show (G.getD s []).isEmpty = true; rw [he]; rfl)
      show _ + ([s].filter (emI G)).length = _
      rw [this]
      rfl
    refine ⟨pC, rfl, ⟨_, SqL.of hpC⟩, for_list (K := K) (a := pC) (xs := (reps mk n).map fun s => V.ref (ca s)) (fun j σ H' => ∃ (x9 x10 x11 : Option V) (A : List Nat) (oa : Nat → Addr), σ = [some (.ref g), some (.ref pA), some (.ref pT), x3, x4, some (.ref pN), some (.ref pB), x7, some (.ref pR), x9, x10, x11] ∧ Same Hf H' ∧
        H' pN = some (.lst (nV A)) ∧ A.length + (((reps mk n).take j).filter (emI G)).length = k0 G ∧ H' pR = some (.lst (((reps mk n).take j).map fun s => V.ref (oa s))) ∧
        ∀ s ∈ (reps mk n).take j, oa s ≠ pN ∧ oa s ≠ pR ∧ H (oa s) = none ∧ ∃ L : List Int, H' (oa s) = some (.lst (L.map V.int)) ∧ L.length = cnt (fun d => mk (tl d)) s D + emp G s)
      ⟨none, none, none, A0, fun _ => 0, rfl, sf7, hN7, by rw [lA]; rfl, hR7, fun s hs => by simp at hs⟩ (fun j σ H' _ ⟨_, _, _, _, _, _, q, _⟩ => SqL.of (q _ _ Cf)) ?_ ?_⟩
    · rintro j x σ H8 hj ⟨x9, x10, x11, A, oa, rfl, s8, hN8, lA8, hR8, ho8⟩
      rw [List.getElem?_map] at hj
      cases hs : (reps mk n)[j]? with
      | none => rw [hs] at hj; cases hj
      | some s =>
      rw [hs] at hj
      obtain rfl := (Option.some.inj hj)
      have sR : s ∈ reps mk n := List.mem_of_getElem? hs
      obtain ⟨sn, ss⟩ := mem_reps.mp sR
      obtain ⟨cr, hcl⟩ := cls_head hm sR
      have hr1 : G[s]? = some G[s] := List.getElem?_eq_getElem (by omega)
      have gd : G.getD s [] = G[s] := getD_of hr1
      have nst := not_take (reps_nodup mk n) hs
      have hca8 : H8 (ca s) = some (.tup (nV (cls n mk s))) := s8 _ _ (caf s sR)
      have sh8 : Same H H8 := shf.trans s8
      refine ⟨_, rfl, _, rfl, ca s, _, 0, .int (s : Int), rfl, rfl, SqT.of hca8, by rw [hcl]; exact atI_nat (j := 0) rfl, ?_⟩
      refine ⟨g, _, s, _, rfl, rfl, SqT.of (sh8 _ _ h1), atI_nat (rowsV_at (by omega)), Nat.zero_le _, fun t ht => ?_⟩
      have e9 : Same H8 (upd H8 t (.tup [])) := Same.new ht
      have s9 := s8.trans e9
      refine ⟨.tuple (iD G[s]), .tuple [], Dp.tup (SqT.of (e9 _ _ (sh8 _ _ (h2 s _ hr1)))) (dpAll_n _), Dp.tup (SqT.of upd_same) .nil, shTn _, rfl, _, rfl, ?_⟩
      have e1 : PyData.eqv (.tuple (iD G[s])) (.tuple []) = G[s].isEmpty := by
        show PyData.eqvAll _ _ = _
        rw [eqvNil]
      rw [e1]
      have hN9 := e9 _ _ hN8
      have hR9 := e9 _ _ hR8
      have lt' : ((reps mk n).take j).length ≤ 7 := by rw [List.length_take]; omega
      -- the list of the component's faces is appended
      have app : ∀ {H9 : Hp} {q : Addr} {A' : List Nat} {L : List Int} {x9 x10 x11 : Option V}, Same Hf H9 → H9 pN = some (.lst (nV A')) → A'.length + (((reps mk n).take (j + 1)).filter (emI G)).length = k0 G → H9 pR = some (.lst (((reps mk n).take j).map fun s => V.ref (oa s))) →
          (∀ s' ∈ (reps mk n).take j, H9 (oa s') = H8 (oa s')) → q ≠ pN → q ≠ pR → H q = none → H9 q = some (.lst (L.map V.int)) → L.length = cnt (fun d => mk (tl d)) s D + emp G s →
          ∃ (y9 y10 y11 : Option V) (A : List Nat) (oa' : Nat → Addr), ([some (.ref g), some (.ref pA), some (.ref pT), x3, x4, some (.ref pN), some (.ref pB), x7, some (.ref pR), x9, x10, x11] : L2.St) = [some (.ref g), some (.ref pA), some (.ref pT), x3, x4, some (.ref pN), some (.ref pB), x7, some (.ref pR), y9, y10, y11] ∧ Same Hf (upd H9 pR (.lst ((((reps mk n).take j).map fun s => V.ref (oa s)) ++ [.ref q]))) ∧
            upd H9 pR (.lst ((((reps mk n).take j).map fun s => V.ref (oa s)) ++ [.ref q])) pN = some (.lst (nV A)) ∧ A.length + (((reps mk n).take (j + 1)).filter (emI G)).length = k0 G ∧
            upd H9 pR (.lst ((((reps mk n).take j).map fun s => V.ref (oa s)) ++ [.ref q])) pR = some (.lst (((reps mk n).take (j + 1)).map fun s => V.ref (oa' s))) ∧
            ∀ s ∈ (reps mk n).take (j + 1), oa' s ≠ pN ∧ oa' s ≠ pR ∧ H (oa' s) = none ∧ ∃ L : List Int, upd H9 pR (.lst ((((reps mk n).take j).map fun s => V.ref (oa s)) ++ [.ref q])) (oa' s) = some (.lst (L.map V.int)) ∧ L.length = cnt (fun d => mk (tl d)) s D + emp G s := by
        intro H9 q A' L z9 z10 z11 p1 p2 p3 p4 p5 p6 p7 p7b p8 p9
        refine ⟨z9, z10, z11, A', fun x => if x = s then q else oa x, rfl, p1.upd fRf, by rw [upd_ne NR]; exact p2, p3, ?_, fun s' hs' => ?_⟩
        · rw [upd_same, List.take_add_one, hs, List.map_append]
          have e4 : (((reps mk n).take j).map fun x => V.ref (if x = s then q else oa x)) = ((reps mk n).take j).map fun x => V.ref (oa x) := List.map_congr_left fun x hx => by
            have nx_ : x ≠ s := fun z => nst (by rw [← z]; exact hx)
            rw [if_neg nx_]
          rw [e4]
          simp
        · show (if s' = s then q else oa s') ≠ pN ∧ (if s' = s then q else oa s') ≠ pR ∧ H (if s' = s then q else oa s') = none ∧ ∃ L : List Int, upd H9 pR _ (if s' = s then q else oa s') = _ ∧ _
          by_cases es : s' = s
          · rw [if_pos es, es]
            exact ⟨p6, p7, p7b, L, by rw [upd_ne p7]; exact p8, p9⟩
          · rw [if_neg es]
            rw [List.take_add_one, hs] at hs'
            rcases List.mem_append.mp hs' with z | z
            · obtain ⟨o1, o2, o2b, L', o3, o4⟩ := ho8 s' z
              exact ⟨o1, o2, o2b, L', by rw [upd_ne o2, p5 s' z]; exact o3, o4⟩
            · exact absurd (by simpa using z) es
      by_cases hem : G[s] = []
      · rw [show G[s].isEmpty = true by rw [hem]; rfl]
        refine iteT ?_
        have hc := hcount j s hs (gd.trans hem)
        have hyc := hyescount j s hs (gd.trans hem)
        refine ⟨_, rfl, .inl ⟨rfl, _, SqL.of hR9⟩, _, rfl, .inl ⟨rfl, _, SqL.of hN9⟩, ?_⟩
        cases hA : A with
        | nil => rw [hA] at lA8; simp only [List.length_nil] at lA8; omega
        | cons a0 A' =>
        rw [hA] at hN9 lA8
        refine ⟨pN, _, 0, 0, .int (a0 : Int), rfl, rfl, hN9, by decide, by decide, ?_, rfl, ?_⟩
        · show seqIndex? 0 (nV (a0 :: A')).length = some 0
          unfold seqIndex?
          rw [nV_len]
          simp
        refine ⟨by show 1 ≤ sizeLine; decide, fun t2 ht2 => ?_⟩
        have NT2 : pN ≠ t2 := fun z => by rw [← z, upd_same] at ht2; cases ht2
        have ht3 : upd H8 t (.tup []) t2 = none := by rw [upd_ne NT2.symm] at ht2; exact ht2
        have RT2 : pR ≠ t2 := ne_of_none hR9 ht3
        have hR10 : upd (upd (upd H8 t (.tup [])) pN (.lst ((nV (a0 :: A')).eraseIdx 0))) t2 (.lst [.int (a0 : Int)]) pR = some (.lst (((reps mk n).take j).map fun s => V.ref (oa s))) := by
          rw [upd_ne RT2, upd_ne NR.symm]
          exact hR9
        refine ⟨pR, _, .ref t2, rfl, rfl, hR10, by rw [List.length_map]; exact sz_lt (by omega), ?_⟩
        refine app (H9 := upd (upd (upd H8 t (.tup [])) pN (.lst ((nV (a0 :: A')).eraseIdx 0))) t2 (.lst [.int (a0 : Int)])) (q := t2) (A' := A') (L := [(a0 : Int)]) ((s9.upd fNf).upd (s9.free ht3)) ?_ ?_ hR10 (fun s' hs' => ?_) NT2.symm RT2.symm (sh8.free (e9.free ht3)) upd_same ?_
        · rw [upd_ne NT2, upd_same]
          rfl
        · rw [hyc]
          rw [List.length_cons] at lA8
          omega
        · obtain ⟨o1, o2, o2b, L', o3, o4⟩ := ho8 s' hs'
          rw [upd_ne (ne_of_none (e9 _ _ o3) ht3), upd_ne o1, e9 _ _ o3, o3]
        · have em1 : emp G s = 1 := emp_self (gd.trans hem)
          have c0 : cnt (fun d => mk (tl d)) s D = 0 := by
            unfold cnt
            rw [List.countP_eq_zero]
            intro l hl hb
            have hb' : mk (tl (l.headD 0)) = s := by simpa using hb
            have hd : l.headD 0 < 2 * m := (hD.mem _).mp (List.mem_flatten.mpr ⟨l, hl, headD_mem (hD.ne l hl)⟩)
            obtain ⟨r, hr5, hm5⟩ := hg.gr.row hd
            have := emp_zero hg.gr hm sn (hg.gr.tlt hd) (hb'.trans ss.symm) (by rw [getD_of hr5]; intro z; rw [z] at hm5; simp at hm5)
            omega
          rw [c0, em1]
          rfl
      · rw [show G[s].isEmpty = false by cases e : G[s] with
          | nil => exact absurd e hem
          | cons x r => rfl]
        refine iteF ?_
        have hnc := hnocount j s hs (by rw [gd]; exact hem)
        -- own
        refine ⟨Nat.zero_le _, fun pO hpO => ?_⟩
        have NO : pN ≠ pO := ne_of_none hN9 hpO
        have RO : pR ≠ pO := ne_of_none hR9 hpO
        have fO : Hf pO = none := s9.free hpO
        have e10 : Same (upd H8 t (.tup [])) (upd (upd H8 t (.tup [])) pO (.lst [])) := Same.new hpO
        refine ⟨_, rfl, ca s, rfl, ⟨_, SqT.of (e10 _ _ (e9 _ _ hca8))⟩, for_tup (K := K) (a := ca s) (xs := nV (cls n mk s)) (fun i σ H' => ∃ (x11 : Option V) (L : List Int), σ = [some (.ref g), some (.ref pA), some (.ref pT), x3, x4, some (.ref pN), some (.ref pB), x7, some (.ref pR), some (.ref (ca s)), some (.ref pO), x11] ∧ Same (upd H8 t (.tup [])) H' ∧
            H' pO = some (.lst (L.map V.int)) ∧ L.length = (((cls n mk s).take i).map fun v => cnt tl v D).sum)
          ⟨x11, [], rfl, e10, upd_same, rfl⟩ (fun i σ H' _ ⟨_, _, _, q, _⟩ => SqT.of (q _ _ (e9 _ _ hca8))) ?_ ?_⟩
        · rintro i y σ H10 hi ⟨y11, L, rfl, s10, hO10, lO⟩
          obtain ⟨v, hv, rfl⟩ := nV_get hi
          have sf10 : Same Hf H10 := s9.trans s10
          obtain ⟨kvs, bp, b1_, b2_, b3_, b4_, b5_⟩ := (bnf.keep sf10).ex
          have lsum : L.length ≤ 7 * 25 := by
            rw [lO]
            have q1 : ∀ (l : List Nat), ((l.map fun v => cnt tl v D).sum) ≤ l.length * 25 := fun l => by
              induction l with
              | nil => simp
              | cons x l ih =>
                have : cnt tl x D ≤ D.length := List.countP_le_length
                rw [List.map_cons, List.sum_cons, List.length_cons]
                omega
            refine Nat.le_trans (q1 _) ?_
            rw [List.length_take]
            have := cls_len n mk s
            omega
          refine ⟨_, rfl, .inl ⟨rfl, _, SqL.of hO10⟩, _, rfl, pB, rfl, .inl ⟨_, .inl b1_⟩, _, rfl, Nat.zero_le _, fun t2 ht2 => ?_⟩
          have e11 : Same H10 (upd H10 t2 (.lst [])) := Same.new ht2
          have hO11 := e11 _ _ hO10
          refine ⟨_, DGet.k (k := Sum.inl (v : Int)) (e11 _ _ b1_), ?_⟩
          have fO9 : (upd H8 t (.tup [])) pO = none := hpO
          by_cases hz : cnt tl v D = 0
          · rw [b3_ v hz]
            refine ⟨pO, t2, _, [], rfl, rfl, hO11, upd_same, by rw [List.length_map, List.length_nil]; exact sz_ok (by omega), ?_⟩
            exact ⟨_, L, rfl, (s10.trans e11).upd fO9, by rw [upd_same, List.append_nil], by rw [lO, sum_take hv, hz, Nat.add_zero]⟩
          · obtain ⟨z1, z2, L2, z3, z4⟩ := b4_ v hz
            rw [z1]
            have l2 : L2.length ≤ 25 := by
              have : cnt tl v D ≤ D.length := List.countP_le_length
              omega
            refine ⟨pO, bp v, _, L2.map V.int, rfl, rfl, hO11, e11 _ _ z3, by rw [List.length_map, List.length_map]; exact sz_ok (by omega), ?_⟩
            exact ⟨_, L ++ L2, rfl, (s10.trans e11).upd fO9, by rw [upd_same, List.map_append], by rw [sum_take hv, List.length_append, lO, z4]⟩
        · rintro σ H10 ⟨y11, L, rfl, s10, hO10, lO⟩
          rw [nV_len, List.take_length, sum_cnt fun l hl => hg.gr.tlt ((hD.mem _).mp (List.mem_flatten.mpr ⟨l, hl, headD_mem (hD.ne l hl)⟩))] at lO
          have lc : cnt (fun d => mk (tl d)) s D ≤ D.length := List.countP_le_length
          refine ⟨_, rfl, .inl ⟨rfl, _, SqL.of (s10 _ _ hR9)⟩, _, rfl, pO, L, rfl, SqL.of hO10, by omega, fun ns' pn hperm hsort hpn => ?_⟩
          have e12 : Same H10 (upd H10 pn (.lst (ns'.map V.int))) := Same.new hpn
          refine ⟨pR, _, .ref pn, rfl, rfl, e12 _ _ (s10 _ _ hR9), by rw [List.length_map]; exact sz_lt (by omega), ?_⟩
          refine app (H9 := upd H10 pn (.lst (ns'.map V.int))) (q := pn) (A' := A) (L := ns') ((s9.trans s10).trans e12) (e12 _ _ (s10 _ _ hN9)) (by rw [hnc]; exact lA8) (e12 _ _ (s10 _ _ hR9)) (fun s' hs' => ?_) (ne_of_none (s10 _ _ hN9) hpn).symm (ne_of_none (s10 _ _ hR9) hpn).symm (sh8.free (e9.free (s10.free hpn))) upd_same ?_
          · obtain ⟨o1, o2, o2b, L', o3, o4⟩ := ho8 s' hs'
            rw [e12 _ _ (s10 _ _ (e9 _ _ o3)), o3]
          · rw [hperm.length_eq, lO]
            unfold emp
            rw [b1_neg (by rw [gd]; exact hem)]
            rfl
    · rintro σ H8 ⟨x9, x10, x11, A, oa, rfl, s8, hN8, lA8, hR8, ho8⟩
      rw [List.length_map, List.take_length] at hR8 ho8
      exact ⟨_, rfl, k H8 pR oa D (shf.trans s8) fR hD hR8 fun s hs => (ho8 s hs).2.2⟩
end
end K07
/-! K07D10 -/
set_option Elab.async false
set_option linter.all false
set_option maxRecDepth 100000
set_option maxHeartbeats 8000000
namespace K07
open PySem PySem.Spec PyProof.Rows L2
/-! ### numbers_of, plane_numbers, is_plane -/
theorem szc_cls (n : Nat) (mk : Nat → Nat) (s : Nat) : szc n mk s = (cls n mk s).length := by
  unfold szc ws cls
  induction (List.range n).filter fun v => mk v == s with
  | nil => rfl
  | cons x l ih => rw [List.map_cons, List.sum_cons, ih, List.length_cons]; omega
theorem dgc_cls (n : Nat) (G : List (List Nat)) (mk : Nat → Nat) (s : Nat) : dgc n G mk s = ((cls n mk s).map (dg G)).sum := rfl
def lensOf (G : List (List Nat)) (l : List Nat) : List Int := l.map fun v => ((dg G v : Nat) : Int)
theorem lensOf_sum (G : List (List Nat)) : ∀ l : List Nat, (lensOf G l).sum = (((l.map (dg G)).sum : Nat) : Int)
  | [] => rfl
  | x :: l => by
    have ih := lensOf_sum G l
    unfold lensOf at ih ⊢
    rw [List.map_cons, List.sum_cons, ih, List.map_cons, List.sum_cons]
    omega
def numL (n : Nat) (mk : Nat → Nat) (N : Nat → Int) : List Int := (reps mk n).map N
def spNums : Sp := fun vs H Q _ => ∃ (g : Addr) (G : List (List Nat)) (n m : Nat) (nx tl mk : Nat → Nat) (N : Nat → Int), vs = [.ref g] ∧ GA H g n m G nx tl ∧ Stt n m G nx tl mk N ∧
  ∀ (H' : Hp) (p : Addr), Same H H' → H p = none → H' p = some (.lst ((numL n mk N).map V.int)) → Q (.ref p) H'
def spPlane : Sp := fun vs H Q _ => ∃ (g : Addr) (G : List (List Nat)) (n m : Nat) (nx tl mk : Nat → Nat) (N : Nat → Int), vs = [.ref g] ∧ GA H g n m G nx tl ∧ Stt n m G nx tl mk N ∧
  ∀ (H' : Hp) (p : Addr), Same H H' → H p = none → H' p = some (.tup ((numL n mk N).map V.int)) → Q (.ref p) H'
def spIsPlane : Sp := fun vs H Q _ => ∃ (g : Addr) (G : List (List Nat)) (n m : Nat) (nx tl mk : Nat → Nat) (N : Nat → Int), vs = [.ref g] ∧ GA H g n m G nx tl ∧ Stt n m G nx tl mk N ∧
  ∀ (H' : Hp), Same H H' → Q (.bl ((numL n mk N).all fun z => decide (z = 2))) H'
section
variable {P : Program} {w : World} {K : PySem.W.Frag} {mg : Str → Option Value} {base : Heap} {f fC fT fO fS fL fM fB fN fI fU fK : Addr} {fd fdC fdT fdO fdS fdL fdM fdB fdN fdI fdU fdK : FuncData}
/-- the defs that stand below numbers_of -/
structure Low (K : PySem.W.Frag) (mg : Str → Option Value) (fC fT fO fS fL fM : Addr) (fdC fdT fdO fdS fdL fdM : FuncData) : Prop where
  C : Dn K mg "dart_count" s_dart_count ["graph"] fC fdC
  L : Dn K mg "dart_tails" s_dart_tails ["graph"] fT fdT
  O : Dn K mg "opposite_of" s_opposite_of ["dart"] fO fdO
  S : Dn K mg "successors" s_successors ["graph"] fS fdS
  U : Dn K mg "face_list" s_face_list ["graph"] fL fdL
  M : Dn K mg "component_list" s_component_list ["graph"] fM fdM
abbrev nNO : List Str := ["graph", "found", "part", "own", "edges", "node"]
theorem sc_nums : FnScope nNO ["graph"] (defScope s_numbers_of) := ⟨rfl, rfl, rfl, by decide +kernel, rfl, by decide +kernel, by decide +kernel⟩
theorem ok_nums (F : FnP K "numbers_of" s_numbers_of f fd) (T : Txt mg) (W : Low K mg fC fT fO fS fL fM fdC fdT fdO fdS fdL fdM) (B : Dn K mg "faces_by_component" s_faces_by_component ["graph"] fB fdB) : FnOk P w K mg base CX0 5 f fd ["graph"] spNums := by
  have GM : FnOk P w K mg base CX0 3 fM fdM ["graph"] spComp := ok_comp W.M.F T W.C W.L W.O
  have GB : FnOk P w K mg base CX0 4 fB fdB ["graph"] spByC := ok_bc B.F T W.C W.L W.O W.S W.U W.M
  refine F.ok sc_nums (fun vs H Q E h => ?_) (fun cdv A outer s H vs Q E hr h => ?_)
  · obtain ⟨g, G, n, m, nx, tl, mk, N, rfl, _⟩ := h
    rfl
  · obtain ⟨g, G, n, m, nx, tl, mk, N, rfl, hg, hst, k⟩ := h
    have hu := hu_of hr
    have hm := hst.mrk
    have hr3 : Room 3 _ := hr.mono (by decide)
    refine ⟨_, PSs.nox (pss_cons (ps_set (i := 1) sc_nums.nd rfl (.inl rfl) (pe_lst pa_nil))
      (pss_cons (ps_for PassesOwn.never rfl (pi_zipS (by rfl) T.zip (pa_cons (pe_call GM hr3 (by rfl) W.M.g W.M.F.kp W.M.b .nil pass0 (pa_cons (pv 0) pa_nil)) (pa_cons (pe_call GB hr (by rfl) B.g B.F.kp B.b .nil pass0 (pa_cons (pv 0) pa_nil)) pa_nil)))
          (pg_tup rfl (pgs_cons (pg_name (i := 2) sc_nums.nd rfl (.inl rfl)) (pgs_cons (pg_name (i := 3) sc_nums.nd rfl (.inl rfl)) pgs_nil)))
        (pss_cons (ps_set (i := 4) sc_nums.nd rfl (.inl rfl) (pe_op op_fdiv (pe_callB (cr_sum rfl) (by rfl) T.sum (by decide +kernel) (pa_cons
            (pe_lc (own := [("node", 5)]) (g := gName 5) (tt := tYes) rfl sc_nums.nd (pi_tup (pv 2)) (blkOk_by (N := nNO) (sc := defScope s_numbers_of) (by decide +kernel))
              (fun _ _ _ _ _ => pg_name (i := 5) sc_nums.nd rfl (.inl rfl)) (fun _ _ _ _ _ => pts_nil) (fun _ _ _ _ _ => pe_callB (r := rLenQ K) call_len_seq (by rfl) T.len PySem.boot_len (pa_cons (pe_ix (r := rIxT K) ix_tup (pv 0) (pv 5) (fun _ _ => rfl)) pa_nil))) pa_nil)) pe_int))
        (pss_one (ps_expr (pe_bm PySem.F.plainAttrs_list PySem.F.slot_list_append PySem.F.type_list_append mt_append (pv 1) (pa_cons
          (pe_op op_add (pe_op op_sub (pe_callB call_len_seq (by rfl) T.len PySem.boot_len (pa_cons (pv 2) pa_nil)) (pv 4)) (pe_callB call_len_seq (by rfl) T.len PySem.boot_len (pa_cons (pv 3) pa_nil))) pa_nil))))))
      (pss_one (ps_ret (pv 1))))), ?_⟩
    obtain ⟨ra, h1, h2⟩ := hg.at_.ex
    have ln := hg.gr.len
    have n7 := hg.n7
    have m9 := hg.m9
    refine ⟨Nat.zero_le _, fun pF hpF => ?_⟩
    have s0 : Same H (upd H pF (.lst [])) := Same.new hpF
    refine ⟨_, rfl, g, G, n, m, nx, tl, mk, rfl, hg.same s0, hm, fun Ha pC ca sa pC0 hpC hca => ?_⟩
    refine ⟨_, rfl, g, G, n, m, nx, tl, mk, rfl, hg.same (s0.trans sa), hm, fun Hb pB oa D sb pB0 hD hpB hoa => ?_⟩
    have lR : (reps mk n).length ≤ 7 := Nat.le_trans (reps_len mk n) n7
    refine ⟨pC, pB, _, _, rfl, SqL.of (sb _ _ hpC), SqL.of hpB, ?_⟩
    have CF : pC ≠ pF := (ne_of_none (show upd H pF (.lst []) pF = _ from upd_same) pC0).symm
    have BF : pB ≠ pF := (ne_of_none (sa _ _ (show upd H pF (.lst []) pF = _ from upd_same)) pB0).symm
    have fF : cutH Hb pF pF = none := cutH_self
    have sf : Same (cutH Hb pF) Hb := cutH_same
    have shf : Same H (cutH Hb pF) := cutH_up ((s0.trans sa).trans sb) hpF
    generalize hHf : cutH Hb pF = Hf at fF sf shf
    have Cf : Hf pC = some (.lst ((reps mk n).map fun s => V.ref (ca s))) := by rw [← hHf, cutH_ne CF]; exact sb _ _ hpC
    have Bf : Hf pB = some (.lst ((reps mk n).map fun s => V.ref (oa s))) := by rw [← hHf, cutH_ne BF]; exact hpB
    have hFb : Hb pF = some (.lst []) := sb _ _ (sa _ _ upd_same)
    have ca_ : ∀ s ∈ reps mk n, Hf (ca s) = some (.tup (nV (cls n mk s))) := fun s hs => by
      rw [← hHf, cutH_ne (ne_of (sb _ _ (hca s hs)) hFb (by intro z; cases z))]
      exact sb _ _ (hca s hs)
    have oa_ : ∀ s ∈ reps mk n, ∃ L : List Int, Hf (oa s) = some (.lst (L.map V.int)) ∧ L.length = cnt (fun d => mk (tl d)) s D + emp G s := fun s hs => by
      obtain ⟨q1, L, q2, q3⟩ := hoa s hs
      refine ⟨L, ?_, q3⟩
      rw [← hHf, cutH_ne (ne_of_none (sa _ _ (show upd H pF (.lst []) pF = _ from upd_same)) q1).symm]
      exact q2
    have hlen : ((reps mk n).map fun s => V.ref (ca s)).length = ((reps mk n).map fun s => V.ref (oa s)).length := by rw [List.length_map, List.length_map]
    refine for_it (walk_zipS (K := K) (a := pC) (b := pB) hlen) (fun i σ H' => ∃ (x2 x3 x4 : Option V), σ = [some (.ref g), some (.ref pF), x2, x3, x4, none] ∧ Same Hf H' ∧ H' pF = some (.lst (((reps mk n).take i).map fun s => V.int (N s))))
      ⟨none, none, none, rfl, sf, hFb⟩ (fun i σ H' _ ⟨_, _, _, _, q, _⟩ => ⟨SqL.of (q _ _ Cf), SqL.of (q _ _ Bf)⟩) ?_ ?_
    · rintro i x σ H1 H2 hi ⟨x2, x3, x4, rfl, s1, hF1⟩ ⟨q, a, b, rfl, hq, rfl, e1, e2⟩
      dsimp only at e1 e2
      rw [List.getElem?_map] at e1 e2
      cases hs : (reps mk n)[i]? with
      | none => rw [hs] at e1; cases e1
      | some s =>
      rw [hs] at e1 e2
      obtain rfl := Option.some.inj e1
      obtain rfl := Option.some.inj e2
      have sR : s ∈ reps mk n := List.mem_of_getElem? hs
      obtain ⟨sn, ss⟩ := mem_reps.mp sR
      have s2 : Same Hf (upd H1 q (.tup [.ref (ca s), .ref (oa s)])) := s1.upd (s1.free hq)
      refine ⟨q, _, rfl, SqT.of upd_same, rfl, _, _, rfl, _, _, rfl, rfl, ?_⟩
      refine ⟨_, rfl, ca s, rfl, ⟨_, SqT.of (s2 _ _ (ca_ s sR))⟩, fun pL hpL => ?_⟩
      refine lc_tup (K := K) (a := ca s) (xs := nV (cls n mk s)) (fun i H' => Cw (upd H1 q (.tup [.ref (ca s), .ref (oa s)])) pL ((lensOf G ((cls n mk s).take i)).map V.int) H') (Cw.start hpL) (fun i H' _ c => SqT.of (c.same _ _ (s2 _ _ (ca_ s sR)))) ?_ ?_
      · intro j x H' hj c
        obtain ⟨v, hv, rfl⟩ := nV_get hj
        have vn : v < n := (mem_cls.mp (List.mem_of_getElem? hv)).1
        have hr1 : G[v]? = some G[v] := List.getElem?_eq_getElem (by omega)
        have sh := (shf.trans s2).trans c.same
        refine ⟨rfl, ?_⟩
        refine ⟨_, rfl, _, rfl, g, _, v, _, rfl, rfl, SqT.of (sh _ _ h1), atI_nat (rowsV_at (by omega)), ra v, nV G[v], rfl, .inr (SqT.of (sh _ _ (h2 v _ hr1))), _, c.at_, ?_, ?_⟩
        · rw [List.length_map]
          unfold lensOf
          rw [List.length_map, List.length_take]
          exact sz_lt (by have := cls_len n mk s; omega)
        · have e : (lensOf G ((cls n mk s).take (j + 1))).map V.int = (lensOf G ((cls n mk s).take j)).map V.int ++ [V.int ((nV G[v]).length : Nat)] := by
            unfold lensOf
            rw [List.take_add_one, hv, List.map_append, List.map_append, nV_len]
            unfold dg
            rw [← getD_of (d := []) hr1]
            rfl
          rw [e]
          exact c.next (Same.refl _)
      intro H3 c
      rw [nV_len, List.take_length] at c
      obtain ⟨e, de, ne⟩ := (hst.num' hD sn ss).at_
      obtain ⟨L, oL, lL⟩ := oa_ s sR
      have s3 := s2.trans c.same
      refine ⟨pL, lensOf G (cls n mk s), rfl, SqL.of c.at_, ?_⟩
      rw [lensOf_sum, ← dgc_cls, de]
      refine ⟨_, _, rfl, rfl, ⟨by decide, by decide⟩, ?_⟩
      have hF3 : H3 pF = some (.lst (((reps mk n).take i).map fun s => V.int (N s))) := c.same _ _ (by rw [upd_ne (ne_of_none hF1 hq)]; exact hF1)
      refine ⟨_, rfl, .inl ⟨rfl, _, SqL.of hF3⟩, _, rfl, ca s, _, rfl, .inr (SqT.of (s3 _ _ (ca_ s sR))), _, rfl, _, _, rfl, rfl, _, rfl, oa s, _, rfl, .inl (SqL.of (s3 _ _ oL)), _, _, rfl, rfl, ?_⟩
      refine ⟨pF, _, _, rfl, rfl, hF3, by rw [List.length_map, List.length_take]; exact sz_lt (by omega), ?_⟩
      refine ⟨_, _, _, rfl, s3.upd fF, ?_⟩
      have ez : (((nV (cls n mk s)).length : Nat) : Int) - (((2 * e : Nat) : Int) / 2) + (((L.map V.int).length : Nat) : Int) = N s := by
        rw [nV_len, List.length_map, lL, ne, szc_cls]
        omega
      rw [upd_same]
      dsimp only
      rw [ez, List.take_add_one, hs, List.map_append]
      rfl
    · rintro σ H1 ⟨x2, x3, x4, rfl, s1, hF1⟩
      rw [List.length_map, List.take_length] at hF1
      refine ⟨_, rfl, k H1 pF (shf.trans s1) hpF ?_⟩
      unfold numL
      rw [List.map_map]
      exact hF1
theorem sc_pn : FnScope ["graph"] ["graph"] (defScope s_plane_numbers) := ⟨rfl, rfl, rfl, by decide +kernel, rfl, by decide +kernel, by decide +kernel⟩
theorem ok_pn (F : FnP K "plane_numbers" s_plane_numbers f fd) (T : Txt mg) (W : Low K mg fC fT fO fS fL fM fdC fdT fdO fdS fdL fdM) (B : Dn K mg "faces_by_component" s_faces_by_component ["graph"] fB fdB) (N : Dn K mg "numbers_of" s_numbers_of ["graph"] fN fdN)
    (I : Dn K mg "is_index" s_is_index ["value", "many"] fI fdI) (U : Dn K mg "graph_fault" s_graph_fault ["value"] fU fdU) (C : Dn K mg "check_graph" s_check_graph ["graph"] fK fdK) : FnOk P w K mg base CX0 6 f fd ["graph"] spPlane := by
  have GN : FnOk P w K mg base CX0 5 fN fdN ["graph"] spNums := ok_nums N.F T W B
  have GC : FnOk P w K mg base CX0 3 fK fdK ["graph"] spCheck := ok_check C.F T I U
  refine F.ok sc_pn (fun vs H Q E h => ?_) (fun cdv A outer s H vs Q E hr h => ?_)
  · obtain ⟨g, G, n, m, nx, tl, mk, N, rfl, _⟩ := h
    rfl
  · obtain ⟨g, G, n, m, nx, tl, mk, N', rfl, hg, hst, k⟩ := h
    refine ⟨_, PSs.nox (pss_cons (ps_expr (pe_call GC (hr.mono (by decide)) (by rfl) C.g C.F.kp C.b .nil pass0 (pa_cons (pv 0) pa_nil)))
      (pss_one (ps_ret (pe_callTy call_tuple_of (by rfl) T.tuple (by decide +kernel) (pa_cons (pe_call GN hr (by rfl) N.g N.F.kp N.b .nil pass0 (pa_cons (pv 0) pa_nil)) pa_nil))))), ?_⟩
    refine ⟨_, rfl, g, G, n, m, nx, tl, rfl, hg, fun H1 s1 => ?_⟩
    refine ⟨_, rfl, g, G, n, m, nx, tl, mk, N', rfl, hg.same s1, hst, fun H2 p s2 p0 hp => ?_⟩
    refine ⟨p, _, rfl, .inl ⟨SqL.of hp, fun t ht => ?_⟩⟩
    exact k _ t ((s1.trans s2).upd ((s1.trans s2).free ht)) ((s1.trans s2).free ht) upd_same
theorem sc_ip : FnScope ["graph", "number"] ["graph"] (defScope s_is_plane) := ⟨rfl, rfl, rfl, by decide +kernel, rfl, by decide +kernel, by decide +kernel⟩
theorem ok_ip (F : FnP K "is_plane" s_is_plane f fd) (T : Txt mg) (W : Low K mg fC fT fO fS fL fM fdC fdT fdO fdS fdL fdM) (B : Dn K mg "faces_by_component" s_faces_by_component ["graph"] fB fdB) (N : Dn K mg "numbers_of" s_numbers_of ["graph"] fN fdN)
    (I : Dn K mg "is_index" s_is_index ["value", "many"] fI fdI) (U : Dn K mg "graph_fault" s_graph_fault ["value"] fU fdU) (C : Dn K mg "check_graph" s_check_graph ["graph"] fK fdK) : FnOk P w K mg base CX0 6 f fd ["graph"] spIsPlane := by
  have GN : FnOk P w K mg base CX0 5 fN fdN ["graph"] spNums := ok_nums N.F T W B
  have GC : FnOk P w K mg base CX0 3 fK fdK ["graph"] spCheck := ok_check C.F T I U
  refine F.ok sc_ip (fun vs H Q E h => ?_) (fun cdv A outer s H vs Q E hr h => ?_)
  · obtain ⟨g, G, n, m, nx, tl, mk, N, rfl, _⟩ := h
    rfl
  · obtain ⟨g, G, n, m, nx, tl, mk, N', rfl, hg, hst, k⟩ := h
    refine ⟨_, PSs.nox (pss_cons (ps_expr (pe_call GC (hr.mono (by decide)) (by rfl) C.g C.F.kp C.b .nil pass0 (pa_cons (pv 0) pa_nil)))
      (pss_one (ps_ret (pe_callB (cr_all rfl) (by rfl) T.all (by decide +kernel) (pa_cons
        (pe_lc (own := [("number", 1)]) (g := gName 1) (tt := tYes) rfl sc_ip.nd (pi_list (pe_call GN hr (by rfl) N.g N.F.kp N.b .nil pass0 (pa_cons (pv 0) pa_nil))) (blkOk_by (N := ["graph", "number"]) (sc := defScope s_is_plane) (by decide +kernel))
          (fun _ _ _ _ _ => pg_name (i := 1) sc_ip.nd rfl (.inl rfl)) (fun _ _ _ _ _ => pts_nil) (fun _ _ _ _ _ => pe_cmpR op_eq (pv 1) pe_int (nomark _))) pa_nil))))), ?_⟩
    refine ⟨_, rfl, g, G, n, m, nx, tl, rfl, hg, fun H1 s1 => ?_⟩
    refine ⟨_, rfl, g, G, n, m, nx, tl, mk, N', rfl, hg.same s1, hst, fun H2 p s2 p0 hp => ?_⟩
    refine ⟨p, rfl, ⟨_, SqL.of hp⟩, fun pL hpL => ?_⟩
    refine lc_list (K := K) (a := p) (xs := (numL n mk N').map V.int) (fun i H' => Cw H2 pL ((((numL n mk N').take i).map fun z => decide (z = 2)).map V.bl) H') (Cw.start hpL) (fun i H' _ c => SqL.of (c.same _ _ hp)) ?_ ?_
    · intro j x H' hj c
      rw [List.getElem?_map] at hj
      cases hz : (numL n mk N')[j]? with
      | none => rw [hz] at hj; cases hj
      | some z =>
      rw [hz] at hj
      obtain rfl := Option.some.inj hj
      refine ⟨rfl, ?_⟩
      refine ⟨_, rfl, rfl, _, c.at_, ?_, ?_⟩
      · rw [List.length_map, List.length_map, List.length_take]
        have : (numL n mk N').length ≤ 7 := by
          unfold numL
          rw [List.length_map]
          exact Nat.le_trans (reps_len mk n) hg.n7
        exact sz_lt (by omega)
      · have e : (((numL n mk N').take (j + 1)).map fun z => decide (z = 2)).map V.bl = (((numL n mk N').take j).map fun z => decide (z = 2)).map V.bl ++ [V.bl (decide (V.int z = V.int 2))] := by
          rw [List.take_add_one, hz, List.map_append, List.map_append]
          congr 1
          show [V.bl (decide (z = 2))] = _
          by_cases q : z = 2
          · rw [q]; rfl
          · rw [decide_eq_false q, decide_eq_false fun w => q (V.int.inj w)]
        rw [e]
        exact c.next (Same.refl _)
    · intro H3 c
      rw [List.length_map, List.take_length] at c
      refine ⟨pL, _, rfl, SqL.of c.at_, ?_⟩
      have e : ((numL n mk N').map fun z => decide (z = 2)).all id = (numL n mk N').all fun z => decide (z = 2) := by
        rw [List.all_map]
        rfl
      rw [e]
      exact k H3 ((s1.trans s2).trans c.same)
end
end K07
/-! K07L1 -/
set_option Elab.async false
set_option linter.all false
set_option maxRecDepth 100000
set_option maxHeartbeats 8000000
namespace K07
open PySem PySem.Spec PyProof.Rows L2
/-! ### _law_source, _law_next -/
/-- where the draws come from: three numbers, the second counts -/
structure SrcAt (H : Hp) (p : Addr) (B : Nat) : Prop where
  ex : ∃ a b c : Int, H p = some (.lst [.int a, .int b, .int c]) ∧ 0 ≤ b ∧ b ≤ B
def bndN : Nat := 1000000
def spSource (K : PySem.W.Frag) : Sp := fun vs H Q _ => ∃ (a : Addr) (ns : List Int) (k : Nat), vs = [.ref a, .int (k : Int)] ∧ SqL K H a (ns.map V.int) ∧ k ≤ 1000 ∧ ∀ (H' : Hp) (p : Addr), Same H H' → H p = none → SrcAt H' p (3 * k) → Q (.ref p) H'
def spNext : Sp := fun vs H Q _ => ∃ (p : Addr) (M B : Nat), vs = [.ref p, .int (M : Int)] ∧ SrcAt H p B ∧ B ≤ 1000000 ∧ 0 < M ∧ M ≤ 1000 ∧ ∀ (H' : Hp) (r : Nat), Same (cutH H p) H' → SrcAt H' p (B + 1) → r < M → Q (.int (r : Int)) H'
theorem sqSame {K : PySem.W.Frag} {H H' : Hp} {a : Addr} {xs : List V} (h : SqL K H a xs) (e : Same H H') : SqL K H' a xs := by
  rcases h with (h | ⟨o, h⟩) | h
  · exact .inl (.inl (e _ _ h))
  · exact .inl (.inr ⟨o, e _ _ h⟩)
  · exact .inr h
section
variable {P : Program} {w : World} {K : PySem.W.Frag} {mg : Str → Option Value} {base : Heap} {f : Addr} {fd : FuncData}
theorem sc_source : FnScope ["_law_script", "_law_k", "_law_cell"] ["_law_script", "_law_k"] (defScope s_law_source) := ⟨rfl, rfl, rfl, by decide +kernel, rfl, by decide +kernel, by decide +kernel⟩
theorem ok_source (F : FnP K "_law_source" s_law_source f fd) (T : Txt mg) : FnOk P w K mg base CX0 1 f fd ["_law_script", "_law_k"] (spSource K) := by
  refine F.ok sc_source (fun vs H Q E h => ?_) (fun cdv A outer s H vs Q E hr h => ?_)
  · obtain ⟨a, ns, k, rfl, _⟩ := h
    rfl
  · obtain ⟨a, ns, k, rfl, hS, hk, q⟩ := h
    refine ⟨_, PSs.nox (pss_cons (ps_set (i := 2) sc_source.nd rfl (.inl rfl) (pe_ifExp (pt_cmpR (op_neD hr.units) (pv 0) (pe_lst pa_nil) (nomark _))
        (pe_ix ix_list (pv 0) (pe_op op_mod (pv 1) (pe_callB call_len_seq (by rfl) T.len PySem.boot_len (pa_cons (pv 0) pa_nil))) (fun _ _ => rfl)) pe_int))
      (pss_one (ps_ret (pe_lst (pa_cons (pv 2) (pa_cons (pe_op op_mul pe_int (pv 1)) (pa_cons
        (pe_ifExp (pt_cmpR op_ge (pv 2) (pe_op op_pow pe_int pe_int) (nomark _)) (pe_op op_fdivW (pv 2) (pe_op op_pow pe_int pe_int)) pe_int) pa_nil))))))), ?_⟩
    -- the second part, for any cell
    have rest : ∀ (H1 : Hp) (c : Int), Same H H1 → (tRet (tLst (tCons (tVar 2) (tCons (tOp (rI CMul fun i j => .int (i * j)) (tC (.int 3)) (tVar 1)) (tCons (tIf (tTest (tOp (rI0 fun i j => .bl (decide (j ≤ i))) (tVar 2) (tOp (rI CPow fun i j => .int (i ^ j.toNat)) (tC (.int 10)) (tC (.int 18))))) (tOp (rI CDivW fun i j => .int (i / j)) (tVar 2) (tOp (rI CPow fun i j => .int (i ^ j.toNat)) (tC (.int 10)) (tC (.int 18)))) (tC (.int 0))) tNil))))) { nx := fun _ H' => Q .non H', rt := Q } [some (.ref a), some (.int (k : Int)), some (.int c)] H1 := by
      intro H1 c s1
      refine ⟨_, rfl, _, rfl, _, _, rfl, rfl, .inl ⟨by decide, by decide⟩, _, rfl, _, _, rfl, rfl, ⟨by decide, by decide, by decide⟩, _, _, rfl, rfl, _, rfl, ?_⟩
      have fin : ∀ d : Int, ∀ p, H1 p = none → Q (.ref p) (upd H1 p (.lst [.int c, .int (3 * (k : Int)), .int d])) := fun d p hp => q _ p (s1.upd (s1.free hp)) (s1.free hp) ⟨c, _, d, upd_same, by omega, by omega⟩
      by_cases hc : (10 : Int) ^ (18 : Int).toNat ≤ c
      · rw [decide_eq_true hc]
        refine iteT ⟨_, rfl, _, _, rfl, rfl, ⟨by decide, by decide, by decide⟩, _, _, rfl, rfl, wide_div (b := 60) (by decide) (by decide) (by decide) (by decide), ?_⟩
        exact ⟨by show 3 ≤ sizeLine; decide, fin _⟩
      · rw [decide_eq_false hc]
        refine iteF ?_
        exact ⟨by show 3 ≤ sizeLine; decide, fin _⟩
    refine ⟨_, rfl, Nat.zero_le _, fun t ht => ?_⟩
    have s1 : Same H (upd H t (.lst [])) := Same.new ht
    have hS1 := sqSame hS s1
    refine ⟨.list (zD ns), .list [], Dp.lst hS1 (dpAll_z _), Dp.lst (SqL.of upd_same) .nil, shL _, rfl, _, rfl, ?_⟩
    have e1 : (!PyData.eqv (.list (zD ns)) (.list [])) = !ns.isEmpty := by
      show (!PyData.eqvAll _ _) = _
      cases ns <;> rfl
    rw [e1]
    cases hns : ns with
    | nil => exact iteF (rest _ 1 s1)
    | cons z zs =>
      refine iteT ?_
      have hl : 0 < ns.length := by rw [hns]; simp
      refine ⟨_, rfl, _, rfl, _, rfl, a, _, rfl, .inl hS1, _, _, rfl, rfl, by rw [List.length_map]; omega, ?_⟩
      have em : ((k : Int) % ((ns.map V.int).length : Int)) = ((k % ns.length : Nat) : Int) := by rw [List.length_map, Int.natCast_emod]
      have hlt : k % ns.length < ns.length := Nat.mod_lt _ hl
      refine ⟨a, _, _, .int (ns[k % ns.length]), rfl, rfl, hS1, ?_, ?_⟩
      · show atI (ns.map V.int) ((k : Int) % ((ns.map V.int).length : Int)) = _
        rw [em]
        exact atI_nat (by rw [List.getElem?_map, List.getElem?_eq_getElem hlt]; rfl)
      · exact rest _ _ s1
theorem sc_next : FnScope ["_law_source_here", "_law_many", "_law_found", "_law_primes", "_law_prime"] ["_law_source_here", "_law_many"] (defScope s_law_next) := ⟨rfl, rfl, rfl, by decide +kernel, rfl, by decide +kernel, by decide +kernel⟩
theorem ok_next (F : FnP K "_law_next" s_law_next f fd) : FnOk P w K mg base CX0 1 f fd ["_law_source_here", "_law_many"] spNext := by
  refine F.ok sc_next (fun vs H Q E h => ?_) (fun cdv A outer s H vs Q E hr h => ?_)
  · obtain ⟨p, M, B, rfl, _⟩ := h
    rfl
  · obtain ⟨p, M, B, rfl, hs, hB, hM0, hM, q⟩ := h
    refine ⟨_, PSs.nox (pss_cons (ps_if (pt_cmpR op_gt (pe_ix ix_list (pv 0) pe_int (fun _ _ => rfl)) pe_int (nomark _))
        (pss_cons (ps_set (i := 2) sc_next.nd rfl (.inl rfl) (pe_op op_mod (pe_ix ix_list (pv 0) pe_int (fun _ _ => rfl)) (pv 1)))
        (pss_cons (ps_asg (pe_op op_fdiv (pe_ix ix_list (pv 0) pe_int (fun _ _ => rfl)) (pv 1)) (pg_sub (pv 0) pe_int set_list))
        (pss_one (ps_ret (pv 2))))) pss_nil)
      (pss_cons (ps_asg (pe_op op_add (pe_ix ix_list (pv 0) pe_int (fun _ _ => rfl)) pe_int) (pg_sub (pv 0) pe_int set_list))
      (pss_cons (ps_set (i := 3) sc_next.nd rfl (.inl rfl) (pe_lst (pa_cons pe_int (pa_cons pe_int (pa_cons pe_int (pa_cons pe_int (pa_cons pe_int (pa_cons pe_int (pa_cons pe_int (pa_cons pe_int pa_nil))))))))))
      (pss_cons (ps_set (i := 4) sc_next.nd rfl (.inl rfl) (pe_ix ix_list (pe_op op_cat (pv 3) (pe_lst (pa_cons pe_int (pa_cons pe_int (pa_cons pe_int pa_nil))))) (pe_op op_mod (pe_ix ix_list (pv 0) pe_int (fun _ _ => rfl)) pe_int) (fun _ _ => rfl)))
      (pss_one (ps_ret (pe_op op_mod (pe_op op_fdiv (pe_op op_mod (pe_op op_pow (pe_op op_add (pe_op op_add (pe_op op_mod (pe_ix ix_list (pv 0) pe_int (fun _ _ => rfl)) (pv 4)) (pe_op op_mul pe_int (pe_ix ix_list (pv 0) pe_int (fun _ _ => rfl)))) pe_int) pe_int) (pv 4)) pe_int) (pv 1)))))))), ?_⟩
    obtain ⟨a, b, c, hp, b0, bB⟩ := hs.ex
    refine ⟨_, rfl, p, _, 2, .int c, rfl, rfl, SqL.of hp, atI_nat (j := 2) rfl, _, _, rfl, rfl, _, rfl, ?_⟩
    by_cases hc : (0 : Int) < c
    · rw [decide_eq_true hc]
      refine iteT ?_
      refine ⟨_, rfl, p, _, 2, .int c, rfl, rfl, SqL.of hp, atI_nat (j := 2) rfl, _, rfl, _, _, rfl, rfl, (show (0 : Int) < (M : Int) by omega), ?_⟩
      refine ⟨_, rfl, p, _, 2, .int c, rfl, rfl, SqL.of hp, atI_nat (j := 2) rfl, _, rfl, _, _, rfl, rfl, ⟨by omega, by omega⟩, ?_⟩
      refine ⟨_, rfl, p, _, 2, 2, rfl, rfl, hp, rfl, _, rfl, ?_⟩
      have hn : c % (M : Int) = ((c % (M : Int)).toNat : Int) := by
        have := Int.emod_nonneg c (show (M : Int) ≠ 0 by omega)
        omega
      have hl : (c % (M : Int)).toNat < M := by
        have := Int.emod_lt_of_pos c (show (0 : Int) < (M : Int) by omega)
        have := Int.emod_nonneg c (show (M : Int) ≠ 0 by omega)
        omega
      have fin := q (upd H p (.lst [.int a, .int b, .int (c / (M : Int))])) (c % (M : Int)).toNat (cutH_same.upd cutH_self) ⟨a, b, _, upd_same, b0, by omega⟩ hl
      rw [← hn] at fin
      exact fin
    · rw [decide_eq_false hc]
      refine iteF ?_
      refine ⟨_, rfl, p, _, 1, .int b, rfl, rfl, SqL.of hp, atI_nat (j := 1) rfl, _, _, rfl, rfl, ?_⟩
      refine ⟨_, rfl, p, _, 1, 1, rfl, rfl, hp, rfl, ?_⟩
      have hp1 : upd H p (.lst ([V.int a, V.int b, V.int c].set 1 (.int (b + 1)))) p = some (.lst [.int a, .int (b + 1), .int c]) := upd_same
      generalize hH1 : upd H p (.lst ([V.int a, V.int b, V.int c].set 1 (.int (b + 1)))) = H1 at hp1
      have s1 : Same (cutH H p) H1 := by rw [← hH1]; exact cutH_same.upd cutH_self
      refine ⟨by show 8 ≤ sizeLine; decide, fun l1 hl1 => ?_⟩
      refine ⟨_, rfl, by show 3 ≤ sizeLine; decide, fun l2 hl2 => ?_⟩
      have n12 : l1 ≠ l2 := fun z => by rw [← z, upd_same] at hl2; cases hl2
      refine ⟨l1, l2, _, _, rfl, rfl, by rw [upd_ne n12]; exact upd_same, upd_same, by show 11 ≤ sizeLine; decide, fun l3 hl3 => ?_⟩
      have e3 : Same H1 (upd (upd (upd H1 l1 (.lst [.int 2147483647, .int 2147483629, .int 2147483587, .int 2147483579, .int 2147483563, .int 2147483549, .int 2147483543, .int 2147483497])) l2 (.lst [.int 2147483489, .int 2147483477, .int 2147483423])) l3 (.lst ([.int 2147483647, .int 2147483629, .int 2147483587, .int 2147483579, .int 2147483563, .int 2147483549, .int 2147483543, .int 2147483497] ++ [.int 2147483489, .int 2147483477, .int 2147483423]))) :=
        ((Same.new hl1).upd ((Same.new hl1).free hl2)).upd (((Same.new hl1).upd ((Same.new hl1).free hl2)).free hl3)
      have hp3 := e3 _ _ hp1
      refine ⟨_, rfl, p, _, 1, .int (b + 1), rfl, rfl, SqL.of hp3, atI_nat (j := 1) rfl, _, _, rfl, rfl, (by show (0 : Int) < 11; decide), ?_⟩
      have hj : ∃ j : Nat, (b + 1) % 11 = (j : Int) ∧ j < 11 := by
        have h1 := Int.emod_nonneg (b + 1) (show (11 : Int) ≠ 0 by decide)
        have h2 := Int.emod_lt_of_pos (b + 1) (show (0 : Int) < 11 by decide)
        exact ⟨((b + 1) % 11).toNat, by omega, by omega⟩
      obtain ⟨j, ej, jl⟩ := hj
      have hz : ∃ z : Int, ([V.int 2147483647, .int 2147483629, .int 2147483587, .int 2147483579, .int 2147483563, .int 2147483549, .int 2147483543, .int 2147483497] ++ [V.int 2147483489, .int 2147483477, .int 2147483423])[j]? = some (.int z) ∧ 0 < z ∧ z < 2147483648 := by
        have : j = 0 ∨ j = 1 ∨ j = 2 ∨ j = 3 ∨ j = 4 ∨ j = 5 ∨ j = 6 ∨ j = 7 ∨ j = 8 ∨ j = 9 ∨ j = 10 := by omega
        rcases this with z | z | z | z | z | z | z | z | z | z | z <;> rw [z] <;> exact ⟨_, rfl, by decide, by decide⟩
      obtain ⟨z, hz, z0, zl⟩ := hz
      refine ⟨l3, _, _, .int z, rfl, rfl, SqL.of upd_same, ?_, ?_⟩
      · show atI _ ((b + 1) % 11) = _
        rw [ej]
        exact atI_nat hz
      have a0 := Int.emod_nonneg a (show z ≠ 0 by omega)
      have a1 := Int.emod_lt_of_pos a z0
      refine ⟨_, rfl, p, _, 0, .int a, rfl, rfl, SqL.of hp3, atI_nat (j := 0) rfl, _, rfl, _, _, rfl, rfl, z0, _, rfl, p, _, 1, .int (b + 1), rfl, rfl, SqL.of hp3, atI_nat (j := 1) rfl, _, _, rfl, rfl, .inl ⟨by decide, by decide⟩, _, _, rfl, rfl, _, _, rfl, rfl,
        _, _, rfl, rfl, ⟨by decide, by decide, by omega⟩, _, rfl, _, _, rfl, rfl, z0, _, _, rfl, rfl, ⟨by decide, by decide⟩, _, rfl, _, _, rfl, rfl, (show (0 : Int) < (M : Int) by omega), ?_⟩
      have hn : ∀ y : Int, y % (M : Int) = ((y % (M : Int)).toNat : Int) := fun y => by
        have := Int.emod_nonneg y (show (M : Int) ≠ 0 by omega)
        omega
      have hl : ∀ y : Int, (y % (M : Int)).toNat < M := fun y => by
        have := Int.emod_lt_of_pos y (show (0 : Int) < (M : Int) by omega)
        have := Int.emod_nonneg y (show (M : Int) ≠ 0 by omega)
        omega
      dsimp only
      rw [hn]
      exact q _ _ (s1.trans e3) ⟨a, b + 1, c, hp3, by omega, by omega⟩ (hl _)
end
end K07
/-! K07L2 -/
set_option Elab.async false
set_option linter.all false
set_option maxRecDepth 100000
set_option maxHeartbeats 8000000
namespace K07
open PySem PySem.Spec PyProof.Rows L2
/-! ### the rotations as lists; _law_put, _law_walks -/
structure RotAt (H : Hp) (p : Addr) (rr : Nat → Addr) (G : List (List Nat)) : Prop where
  at_ : H p = some (.lst (rowsV G.length rr))
  row : ∀ i r, G[i]? = some r → H (rr i) = some (.lst (nV r))
theorem RotAt.same {H H' : Hp} {p : Addr} {rr : Nat → Addr} {G : List (List Nat)} (h : RotAt H p rr G) (e : Same H H') : RotAt H' p rr G := ⟨e _ _ h.at_, fun i r q => e _ _ (h.row i r q)⟩
theorem nV_flat (l : List Nat) : (nV l).all flatV = true := by
  unfold nV
  rw [List.all_map]
  exact List.all_eq_true.mpr fun x _ => rfl
theorem inV_nV (d : Nat) (l : List Nat) : inV (.int (d : Int)) (nV l) = decide (d ∈ l) := by
  unfold inV nV
  rw [List.any_map]
  by_cases h : d ∈ l
  · rw [decide_eq_true h]
    exact List.any_eq_true.mpr ⟨d, h, by show ((d : Int) == (d : Int)) = true; simp⟩
  · rw [decide_eq_false h]
    refine List.any_eq_false.mpr fun x hx q => h ?_
    have q' : ((x : Int) == (d : Int)) = true := q
    have e : (x : Int) = (d : Int) := by simpa using q'
    have e' : x = d := by omega
    rw [← e']
    exact hx
def spPut : Sp := fun vs H Q _ => ∃ (p : Addr) (rr : Nat → Addr) (G : List (List Nat)) (r : List Nat) (v b c : Nat), vs = [.ref p, .int (b : Int), .int (c : Int)] ∧ RotAt H p rr G ∧ (∀ i r', G[i]? = some r' → c ∈ r' → i = v) ∧ r.length ≤ 40 ∧ G[v]? = some r ∧ c ∈ r ∧
  ∀ H', Same (cutH H (rr v)) H' → H' (rr v) = some (.lst (nV (putc r b (some c)))) → Q .non H'
def spWalks : Sp := fun vs H Q _ => ∃ (p : Addr) (rr : Nat → Addr) (G : List (List Nat)) (n m : Nat) (nx tl : Nat → Nat), vs = [.ref p] ∧ RotAt H p rr G ∧ Gr n m G nx tl ∧ n ≤ 7 ∧ m ≤ 20 ∧
  ∀ (H' : Hp) (q : Addr) (wa : Nat → Addr) (W : List (List Nat)), Same H H' → H q = none → RotAt H' q wa W → (∀ i, i < W.length → H (wa i) = none) → Dec (ph nx) (2 * m) W → (∀ l ∈ W, ∀ d ∈ l, l.headD 0 ≤ d) → Q (.ref q) H'
section
variable {P : Program} {w : World} {K : PySem.W.Frag} {mg : Str → Option Value} {base : Heap} {f : Addr} {fd : FuncData}
abbrev nPut : List Str := ["_law_rotations", "_law_dart", "_law_corner_here", "_law_at", "_law_node", "_law_rotation"]
theorem sc_put : FnScope nPut ["_law_rotations", "_law_dart", "_law_corner_here"] (defScope s_law_put) := ⟨rfl, rfl, rfl, by decide +kernel, rfl, by decide +kernel, by decide +kernel⟩
theorem ok_put (F : FnP K "_law_put" s_law_put f fd) (T : Txt mg) : FnOk P w K mg base CX0 1 f fd ["_law_rotations", "_law_dart", "_law_corner_here"] spPut := by
  refine F.ok sc_put (fun vs H Q E h => ?_) (fun cdv A outer s H vs Q E hr h => ?_)
  · obtain ⟨p, rr, G, r, v, b, c, rfl, _⟩ := h
    rfl
  · obtain ⟨p, rr, G, r, v, b, c, rfl, hR, hU, lr, hv, hc, k⟩ := h
    refine ⟨_, PSs.nox (pss_cons (ps_set (i := 3) sc_put.nd rfl (.inl rfl) (pe_ix ix_list
        (pe_lc (own := [("_law_node", 4), ("_law_rotation", 5)]) (g := gTup K 2 (gCons (gName 4) (gCons (gName 5) gNil))) rfl sc_put.nd (pi_enum (by rfl) T.enumerate (pa_cons (pv 0) pa_nil)) (blkOk_by (N := nPut) (sc := defScope s_law_put) (by decide +kernel))
          (fun _ _ _ _ _ => pg_tup rfl (pgs_cons (by exact pg_name (i := 4) sc_put.nd rfl (.inl rfl)) (pgs_cons (by exact pg_name (i := 5) sc_put.nd rfl (.inl rfl)) pgs_nil)))
          (fun _ _ _ _ _ => pts_one (pt_cmpR (r := rIn K false) op_in_seq (pv 2) (pv 5) (by rfl))) (fun _ _ _ _ _ => pv 4)) pe_int (fun _ _ => rfl)))
      (pss_one (ps_expr (pe_bm PySem.F.plainAttrs_list PySem.F.slot_list_insert PySem.F.type_list_insert mt_insert (pe_ix ix_list (pv 0) (pv 3) (fun _ _ => rfl)) (pa_cons
        (pe_bm PySem.F.plainAttrs_list PySem.F.slot_list_index PySem.F.type_list_index mt_index (pe_ix ix_list (pv 0) (pv 3) (fun _ _ => rfl)) (pa_cons (pv 2) pa_nil)) (pa_cons (pv 1) pa_nil)))))), ?_⟩
    have vn : v < G.length := (List.getElem?_eq_some_iff.mp hv).1
    refine ⟨_, rfl, p, _, rfl, SqL.of hR.at_, fun D hD => ?_⟩
    refine lc_it (walk_enum (K := K) (a := p) (xs := rowsV G.length rr)) (fun i H' => Cw H D (nV (if v < i then [v] else [])) H') (Cw.start hD) (fun i H' _ q => SqL.of (q.same _ _ hR.at_)) ?_ ?_
    · rintro i x H' H'' hi q ⟨t, a', b', rfl, ht, rfl, e1, e2⟩
      cases e1
      obtain ⟨hlt, rfl⟩ := rowsV_get e2
      have hr1 : G[i]? = some G[i] := List.getElem?_eq_getElem hlt
      have e5 : Same H' (upd H' t (.tup [.int (i : Nat), .ref (rr i)])) := Same.new ht
      refine ⟨t, _, rfl, SqT.of upd_same, rfl, _, _, rfl, _, _, rfl, rfl, ?_⟩
      refine ⟨rfl, ?_⟩
      refine ⟨_, rfl, _, rfl, rr i, nV G[i], rfl, .inl (SqL.of (e5 _ _ (q.same _ _ (hR.row i _ hr1)))), rfl, nV_flat _, _, rfl, ?_⟩
      rw [if_neg Bool.false_ne_true, inV_nV]
      by_cases hm : c ∈ G[i]
      · have iv : i = v := hU i _ hr1 hm
        rw [decide_eq_true hm]
        rw [if_neg (by omega)] at q
        refine iteT ⟨_, rfl, _, e5 _ _ q.at_, by show 0 < sizeLine; decide, ?_⟩
        rw [if_pos (by omega), ← iv]
        exact q.next e5
      · rw [decide_eq_false hm]
        refine iteF ?_
        have iv : i ≠ v := fun z => hm (by subst z; rw [hr1] at hv; cases hv; exact hc)
        have e6 : (if v < i + 1 then [v] else []) = (if v < i then [v] else []) := by
          by_cases q2 : v < i
          · rw [if_pos q2, if_pos (by omega)]
          · rw [if_neg q2, if_neg (by omega)]
        rw [e6]
        exact q.keep e5
    intro H1 q
    rw [rowsV_len, if_pos vn] at q
    refine ⟨D, _, 0, .int (v : Int), rfl, rfl, SqL.of q.at_, atI_nat (j := 0) rfl, ?_⟩
    have s1 := q.same
    have row1 := s1 _ _ (hR.row v r hv)
    have at1 := s1 _ _ hR.at_
    have ix : atI (rowsV G.length rr) ((v : Nat) : Int) = some (.ref (rr v)) := atI_nat (rowsV_at vn)
    refine ⟨_, rfl, _, rfl, p, _, v, _, rfl, rfl, SqL.of at1, ix, .inl ⟨rfl, _, SqL.of row1⟩, ?_⟩
    refine ⟨_, rfl, _, rfl, p, _, v, _, rfl, rfl, SqL.of at1, ix, .inl ⟨rfl, _, SqL.of row1⟩, _, rfl, ?_⟩
    have ij : r.idxOf c < r.length := List.idxOf_lt_length_iff.mpr hc
    refine ⟨rr v, nV r, .int (c : Int), r.idxOf c, .int (c : Int), rfl, rfl, SqL.of row1, rfl, nV_flat _, ?_, ?_, fun j z hj hz => ?_, ?_⟩
    · refine nV_at ?_
      rw [List.getElem?_eq_getElem ij, List.getElem_idxOf]
    · show ((c : Int) == (c : Int)) = true
      simp
    · obtain ⟨d, hd, rfl⟩ := nV_get hz
      show ((d : Int) == (c : Int)) = false
      have hne : d ≠ c := fun e => by
        rw [e] at hd
        obtain ⟨A', B', er, nA⟩ := split_first hc
        rw [er, idx_app nA] at hj
        have e3 : r[j]? = A'[j]? := by rw [er, List.getElem?_append_left hj]
        rw [e3] at hd
        exact nA (List.mem_of_getElem? hd)
      simp
      omega
    refine ⟨_, rfl, rr v, nV r, ((r.idxOf c : Nat) : Int), .int (b : Int), rfl, rfl, row1, by rw [nV_len]; exact sz_lt (by omega), by omega, by omega, ?_⟩
    refine k _ ((cutH_same.trans s1).upd cutH_self) ?_
    rw [upd_same, Int.toNat_natCast]
    unfold putc nV
    rw [List.map_append, List.map_append, List.map_take, List.map_drop]
    rfl
end
end K07
/-! K07L3 -/
set_option Elab.async false
set_option linter.all false
set_option maxRecDepth 100000
set_option maxHeartbeats 8000000
namespace K07
open PySem PySem.Spec PyProof.Rows L2
/-! ### _law_walks -/
def fD (g : Nat → Nat) (L : List Nat) : List (Key × V) := L.map fun (e : Nat) => ((Sum.inl (e : Int) : Key), V.int ((g e : Nat) : Int))
theorem valV_fD (g : Nat → Nat) (d : Nat) : ∀ l : List Nat, valV (fD g l) (Sum.inl (d : Int) : Key) = if d ∈ l then some (.int ((g d : Nat) : Int)) else none
  | [] => rfl
  | x :: l => by
    have ih := valV_fD g d l
    show valV (((Sum.inl (x : Int) : Key), V.int ((g x : Nat) : Int)) :: fD g l) _ = _
    by_cases e : x = d
    · rw [valV_pos (by rw [e]), if_pos (by rw [e]; simp), e]
    · rw [valV_neg (fun q => e (inl_iff.mp q)), ih]
      by_cases h : d ∈ l
      · rw [if_pos h, if_pos (List.mem_cons_of_mem _ h)]
      · rw [if_neg h, if_neg (fun q => (List.mem_cons.mp q).elim (fun z => e z.symm) h)]
theorem putK_fD {g : Nat → Nat} {d : Nat} {l : List Nat} (h : d ∉ l) : putK (fD g l) (Sum.inl (d : Int) : Key) (.int ((g d : Nat) : Int)) = fD g (l ++ [d]) := by
  rw [putK_new _ (by rw [valV_fD, if_neg h])]
  unfold fD
  rw [List.map_append]
  rfl
theorem fD_len (g : Nat → Nat) (l : List Nat) : (fD g l).length = l.length := by unfold fD; rw [List.length_map]
theorem Seen.mem {G : List (List Nat)} {i j d : Nat} (h : Seen G i j d) : d ∈ G.flatten := by
  rcases h with ⟨i', r, _, h1, h2⟩ | ⟨r, h1, h2⟩
  · exact List.mem_flatten.mpr ⟨r, List.mem_of_getElem? h1, h2⟩
  · exact List.mem_flatten.mpr ⟨r, List.mem_of_getElem? h1, List.mem_of_mem_take h2⟩
section
variable {P : Program} {w : World} {K : PySem.W.Frag} {mg : Str → Option Value} {base : Heap} {f : Addr} {fd : FuncData}
abbrev nWk : List Str := ["_law_rotations", "_law_follows", "_law_found", "_law_seen", "_law_rotation", "_law_k", "_law_dart", "_law_start", "_law_walk"]
theorem sc_walks : FnScope nWk ["_law_rotations"] (defScope s_law_walks) := ⟨rfl, rfl, rfl, by decide +kernel, rfl, by decide +kernel, by decide +kernel⟩
theorem ok_walks (F : FnP K "_law_walks" s_law_walks f fd) (T : Txt mg) : FnOk P w K mg base CX0 1 f fd ["_law_rotations"] spWalks := by
  refine F.ok sc_walks (fun vs H Q E h => ?_) (fun cdv A outer s H vs Q E hr h => ?_)
  · obtain ⟨p, rr, G, n, m, nx, tl, rfl, _⟩ := h
    rfl
  · obtain ⟨p, rr, G, n, m, nx, tl, rfl, hR, hg, n7, m9, k⟩ := h
    have hu := hu_of hr
    refine ⟨_, PSs.nox (pss_cons (ps_par3 (i := 1) (j := 2) (l := 3) rfl sc_walks.nd rfl rfl rfl (by decide) (by decide) (by decide) rfl rfl rfl (pa_cons pe_dnewK (pa_cons (pe_lst pa_nil) (pa_cons (pe_lst pa_nil) pa_nil))) (by rfl))
      (pss_cons (ps_for PassesOwn.never rfl (pi_list (pv 0)) (pg_name (i := 4) sc_walks.nd rfl (.inl rfl))
        (pss_one (ps_for PassesOwn.never rfl (pi_enum (by rfl) T.enumerate (pa_cons (pv 4) pa_nil)) (pg_tup rfl (pgs_cons (pg_name (i := 5) sc_walks.nd rfl (.inl rfl)) (pgs_cons (pg_name (i := 6) sc_walks.nd rfl (.inl rfl)) pgs_nil)))
          (pss_one (ps_dput hu (pv 1) (pe_op op_sub (pe_op op_add (pv 6) pe_int) (pe_op op_mul pe_int (pe_op op_mod (pv 6) pe_int)))
            (pe_ix ix_list (pv 4) (pe_op op_mod (pe_op op_add (pv 5) pe_int) (pe_callB call_len_seq (by rfl) T.len PySem.boot_len (pa_cons (pv 4) pa_nil))) (fun _ _ => rfl)) rfl)))))
      (pss_cons (ps_for PassesOwn.never rfl (pi_list (pe_callB (call_sortedDI rfl) (by rfl) T.sorted (by decide +kernel) (pa_cons (pv 1) pa_nil))) (pg_name (i := 7) sc_walks.nd rfl (.inl rfl))
        (pss_cons (ps_par (i := 8) (j := 6) rfl sc_walks.nd rfl rfl (by decide) rfl rfl (pa_cons (pe_lst pa_nil) (pa_cons (pv 7) pa_nil)) (by rfl))
        (pss_cons (ps_while PassesOwn.never (pt_cmpR op_notIn_seq (pv 6) (pv 3) (by rfl))
          (pss_cons (ps_expr (pe_bm PySem.F.plainAttrs_list PySem.F.slot_list_append PySem.F.type_list_append mt_append (pv 8) (pa_cons (pv 6) pa_nil)))
          (pss_cons (ps_expr (pe_bm PySem.F.plainAttrs_list PySem.F.slot_list_append PySem.F.type_list_append mt_append (pv 3) (pa_cons (pv 6) pa_nil)))
          (pss_one (ps_set (i := 6) sc_walks.nd rfl (.inl rfl) (pe_dget hu (pv 1) (pv 6) (fun _ _ => rfl)))))))
        (pss_one (ps_if (pt_cmpR (op_neD hr.units) (pv 8) (pe_lst pa_nil) (nomark _))
          (pss_one (ps_expr (pe_bm PySem.F.plainAttrs_list PySem.F.slot_list_append PySem.F.type_list_append mt_append (pv 2) (pa_cons (pv 8) pa_nil)))) pss_nil)))))
      (pss_one (ps_ret (pv 2)))))), ?_⟩
    have ln := hg.len
    refine fun pD hpD => ⟨Nat.zero_le _, fun pF hpF => ⟨Nat.zero_le _, fun pS hpS => ?_⟩⟩
    refine ⟨_, _, _, rfl, ?_⟩
    have DF_ : pD ≠ pF := fun z => by rw [← z, upd_same] at hpF; cases hpF
    have hF0 : H pF = none := by rw [upd_ne DF_.symm] at hpF; exact hpF
    have DS_ : pD ≠ pS := fun z => by rw [← z, upd_ne DF_, upd_same] at hpS; cases hpS
    have FS_ : pF ≠ pS := fun z => by rw [← z, upd_same] at hpS; cases hpS
    have hS0 : H pS = none := by rw [upd_ne FS_.symm, upd_ne DS_.symm] at hpS; exact hpS
    have s0 : Same H (upd (upd (upd H pD (.dK [])) pF (.lst [])) pS (.lst [])) := ((Same.new hpD).upd hF0).upd hS0
    have lt2 : ∀ {L : List Nat} {i j : Nat}, L.Nodup → (∀ e, e ∈ L ↔ Seen G i j (opp e)) → L.length ≤ 40 := fun {L i j} nd h => by
      have := nodup_len (N := 2 * m) nd fun e he => opp_lt.mp ((hg.hg.mem _).mp (Seen.mem ((h e).mp he)))
      omega
    -- the first part: follows
    refine ⟨_, rfl, p, rfl, ⟨_, SqL.of (s0 _ _ hR.at_)⟩, for_list (K := K) (a := p) (xs := rowsV G.length rr) (fun i σ H' => ∃ (x4 x5 x6 : Option V) (L : List Nat), σ = [some (.ref p), some (.ref pD), some (.ref pF), some (.ref pS), x4, x5, x6, none, none] ∧ Same H H' ∧ H' pF = some (.lst []) ∧ H' pS = some (.lst []) ∧ H' pD = some (.dK (fD (ph nx) L)) ∧ L.Nodup ∧ ∀ e, e ∈ L ↔ Seen G i 0 (opp e))
      ⟨none, none, none, [], rfl, s0, by rw [upd_ne FS_, upd_same], upd_same, by rw [upd_ne DS_, upd_ne DF_, upd_same]; rfl, by simp, fun e => ⟨fun q => by simp at q, fun q => absurd q Seen.zero⟩⟩ (fun i σ H' _ ⟨_, _, _, _, _, q, _⟩ => SqL.of (q _ _ hR.at_)) ?_ ?_⟩
    · rintro i x σ H1 hi ⟨x4, x5, x6, L, rfl, s1, hF, hS, hD, nL, hL⟩
      obtain ⟨hlt, rfl⟩ := rowsV_get hi
      have hr1 : G[i]? = some G[i] := List.getElem?_eq_getElem hlt
      refine ⟨_, rfl, rr i, _, rfl, SqL.of (s1 _ _ (hR.row i _ hr1)), ?_⟩
      refine for_it (walk_enum (K := K) (a := rr i) (xs := nV G[i])) (fun j σ H' => ∃ (x5 x6 : Option V) (L : List Nat), σ = [some (.ref p), some (.ref pD), some (.ref pF), some (.ref pS), some (.ref (rr i)), x5, x6, none, none] ∧ Same H H' ∧ H' pF = some (.lst []) ∧ H' pS = some (.lst []) ∧ H' pD = some (.dK (fD (ph nx) L)) ∧ L.Nodup ∧ ∀ e, e ∈ L ↔ Seen G i j (opp e))
        ⟨x5, x6, L, rfl, s1, hF, hS, hD, nL, hL⟩ (fun j σ H' _ ⟨_, _, _, _, q, _⟩ => SqL.of (q _ _ (hR.row i _ hr1))) ?_ ?_
      · rintro j y σ H3 H4 hj ⟨y5, y6, L2, rfl, s3, hF3, hS3, hD3, nL3, hL3⟩ ⟨q, a, b, rfl, hq, rfl, e1, e2⟩
        cases e1
        obtain ⟨d, hd, rfl⟩ := nV_get e2
        have e4 : Same H3 (upd H3 q (.tup [.int (j : Nat), .int (d : Int)])) := Same.new hq
        have dm : d ∈ G[i] := List.mem_of_getElem? hd
        have dl : d < 2 * m := (hg.hg.mem d).mp (List.mem_flatten.mpr ⟨_, List.getElem_mem hlt, dm⟩)
        have hjl : j < G[i].length := (List.getElem?_eq_some_iff.mp hd).1
        refine ⟨q, _, rfl, SqT.of upd_same, rfl, _, _, rfl, _, _, rfl, rfl, ?_⟩
        have row := SqL.of (K := K) (e4 _ _ (s3 _ _ (hR.row i _ hr1)))
        have em : (((j : Nat) : Int) + 1) % (((nV G[i]).length : Nat) : Int) = (((j + 1) % G[i].length : Nat) : Int) := by rw [nV_len, Int.natCast_emod, Int.natCast_add]; rfl
        have at1 : atI (nV G[i]) ((((j : Nat) : Int) + 1) % (((nV G[i]).length : Nat) : Int)) = some (V.int ((nx d : Nat) : Int)) := by
          rw [em]
          exact atI_nat (nV_at (cyc_next (hg.hg.nx _ (List.getElem_mem hlt)) hd))
        refine ⟨_, rfl, _, rfl, _, _, rfl, rfl, _, rfl, rr i, _, rfl, .inl row, _, _, rfl, rfl, by rw [nV_len]; omega, rr i, _, _, _, rfl, rfl, row, at1, ?_⟩
        refine ⟨_, rfl, _, rfl, _, _, rfl, rfl, _, rfl, _, _, rfl, rfl, (by show (0 : Int) < 2; decide), _, _, rfl, rfl, .inl ⟨by decide, by decide⟩, _, _, rfl, rfl, ?_⟩
        dsimp only
        rw [← opp_cast]
        have eph : nx d = ph nx (opp d) := by unfold ph; rw [opp_opp]
        rw [eph]
        have on : opp d ∉ L2 := fun z => unseen hg hr1 hd (by have := (hL3 _).mp z; rw [opp_opp] at this; exact this)
        refine ⟨pD, _, rfl, DPut.k (k := Sum.inl ((opp d : Nat) : Int)) (e4 _ _ hD3) (by rw [fD_len]; exact sz_lt (by have := lt2 nL3 hL3; omega)), ?_⟩
        refine ⟨_, _, L2 ++ [opp d], rfl, (s3.trans e4).upd hpD, by rw [upd_ne DF_.symm]; exact e4 _ _ hF3, by rw [upd_ne DS_.symm]; exact e4 _ _ hS3, by rw [upd_same, putK_fD on], ?_, fun e => ?_⟩
        · exact List.nodup_append.mpr ⟨nL3, by simp, fun y hy z hz e => by simp only [List.mem_singleton] at hz; rw [e, hz] at hy; exact on hy⟩
        · rw [List.mem_append, hL3 e, Seen.next hr1 hd, List.mem_singleton]
          refine ⟨fun h => h.imp id fun z => by rw [z, opp_opp], fun h => h.imp id fun z => by rw [← z, opp_opp]⟩
      · rintro σ H3 ⟨y5, y6, L2, rfl, s3, hF3, hS3, hD3, nL3, hL3⟩
        rw [nV_len] at hL3
        exact ⟨_, _, _, L2, rfl, s3, hF3, hS3, hD3, nL3, fun e => by rw [hL3 e, Seen.row hr1]⟩
    rintro σ H1 ⟨x4, x5, x6, L, rfl, s1, hF, hS, hD, nL, hL⟩
    rw [rowsV_len] at hL
    have hL' : ∀ e, e ∈ L ↔ e < 2 * m := fun e => by rw [hL e, Seen.all, hg.hg.mem, opp_lt]
    have l18 := lt2 nL hL
    -- sorted(follows)
    refine ⟨_, rfl, pD, _, L.map fun (e : Nat) => (e : Int), rfl, .inl hD, ?_, by rw [List.length_map]; omega, fun ys pY hperm hsort hpY => ?_⟩
    · unfold fD
      rw [List.map_map, List.map_map]
      rfl
    have pL : L.Perm (List.range (2 * m)) := (List.perm_ext_iff_of_nodup nL List.nodup_range).mpr fun e => by rw [hL' e, List.mem_range]
    have eY : ys = (List.range (2 * m)).map fun (e : Nat) => (e : Int) := sort_one (hperm.trans (pL.map _)) hsort List.pairwise_lt_range
    rw [eY, ← nV_map]
    have e1 : Same H1 (upd H1 pY (.lst (nV (List.range (2 * m))))) := Same.new hpY
    have YF : pY ≠ pF := (ne_of_none hF hpY).symm
    have YS : pY ≠ pS := (ne_of_none hS hpY).symm
    generalize hH2 : upd H1 pY (.lst (nV (List.range (2 * m)))) = H2 at e1
    have hY2 : H2 pY = some (.lst (nV (List.range (2 * m)))) := by rw [← hH2]; exact upd_same
    have hF2 := e1 _ _ hF
    have hS2 := e1 _ _ hS
    have hD2 := e1 _ _ hD
    -- what stays
    have fFf : cutH (cutH H2 pF) pS pF = none := by rw [cutH_ne FS_]; exact cutH_self
    have fSf : cutH (cutH H2 pF) pS pS = none := cutH_self
    have sf2 : Same (cutH (cutH H2 pF) pS) H2 := cutH_same.trans cutH_same
    have shf : Same H (cutH (cutH H2 pF) pS) := cutH_up (cutH_up (s1.trans e1) hF0) hS0
    have Yf : cutH (cutH H2 pF) pS pY = some (.lst (nV (List.range (2 * m)))) := by rw [cutH_ne YS, cutH_ne YF]; exact hY2
    have Df : cutH (cutH H2 pF) pS pD = some (.dK (fD (ph nx) L)) := by rw [cutH_ne DS_, cutH_ne DF_]; exact hD2
    generalize cutH (cutH H2 pF) pS = Hf at fFf fSf sf2 shf Yf Df
    refine ⟨pY, rfl, ⟨_, SqL.of hY2⟩, for_list (K := K) (a := pY) (xs := nV (List.range (2 * m))) (fun i σ H' => ∃ (x6 x7 x8 : Option V) (D : List (List Nat)) (wa : Nat → Addr), σ = [some (.ref p), some (.ref pD), some (.ref pF), some (.ref pS), x4, x5, x6, x7, x8] ∧ Same Hf H' ∧
        H' pS = some (.lst (nV D.flatten)) ∧ RotAt H' pF wa D ∧ (∀ i, i < D.length → wa i ≠ pF ∧ wa i ≠ pS ∧ Hf (wa i) = none) ∧ Dcs (ph nx) D ∧ (∀ d ∈ D.flatten, d < 2 * m) ∧ (∀ d, d < i → d ∈ D.flatten) ∧ ∀ l ∈ D, ∀ d ∈ l, l.headD 0 ≤ d)
      ⟨x6, none, none, [], fun _ => 0, rfl, sf2, hS2, ⟨hF2, fun i r q => by simp at q⟩, fun i h => by simp at h, ⟨fun l hl => by simp at hl, fun l hl => by simp at hl, by simp⟩, fun d hd => by simp at hd, fun d hd => by omega, fun l hl => by simp at hl⟩ (fun i σ H' _ ⟨_, _, _, _, _, _, q, _⟩ => SqL.of (q _ _ Yf)) ?_ ?_⟩
    · rintro i x σ H3 hi ⟨y6, y7, y8, D, wa, rfl, s3, hS3, hW3, hne, hDc, hlt, hall, hleast⟩
      obtain ⟨i', hi', rfl⟩ := nV_get hi
      have hil : i < 2 * m := by
        have := (List.getElem?_eq_some_iff.mp hi').1
        rw [List.length_range] at this
        exact this
      rw [List.getElem?_range hil] at hi'
      cases hi'
      refine ⟨Nat.zero_le _, fun pW hpW => ⟨_, rfl, _, _, rfl, ?_⟩⟩
      have fWf : Hf pW = none := s3.free hpW
      have SW : pS ≠ pW := ne_of_none hS3 hpW
      have FW : pF ≠ pW := ne_of_none hW3.at_ hpW
      have YW : pY ≠ pW := ne_of_none (s3 _ _ Yf) hpW
      have lDf : D.flatten.length ≤ 2 * m := nodup_len hDc.nd hlt
      by_cases hin : i ∈ D.flatten
      · -- seen already
        refine ⟨fun μ σ H' => σ = [some (.ref p), some (.ref pD), some (.ref pF), some (.ref pS), x4, x5, some (.int (i : Int)), some (.int (i : Int)), some (.ref pW)] ∧ H' = upd H3 pW (.lst []), ⟨0, rfl, rfl⟩, ?_⟩
        rintro μ σ H4 ⟨rfl, rfl⟩
        have hS4 : upd H3 pW (.lst []) pS = some (.lst (nV D.flatten)) := by rw [upd_ne SW]; exact hS3
        refine ⟨_, rfl, _, rfl, pS, nV D.flatten, rfl, .inl (SqL.of hS4), rfl, nV_flat _, _, rfl, ?_⟩
        rw [if_pos rfl, inV_nV, decide_eq_true hin]
        refine iteF ?_
        refine ⟨_, rfl, Nat.zero_le _, fun t ht => ?_⟩
        have hW4 : upd (upd H3 pW (.lst [])) t (.lst []) pW = some (.lst []) := Same.new ht _ _ upd_same
        refine ⟨.list [], .list [], Dp.lst (SqL.of hW4) .nil, Dp.lst (SqL.of upd_same) .nil, rfl, rfl, _, rfl, ?_⟩
        refine iteF ?_
        have e5 : Same H3 (upd (upd H3 pW (.lst [])) t (.lst [])) := (Same.new hpW).upd ((Same.new (o := .lst []) hpW).free ht)
        exact ⟨_, _, _, D, wa, rfl, s3.trans e5, e5 _ _ hS3, hW3.same e5, hne, hDc, hlt, fun d hd => by
          by_cases z : d = i
          · rw [z]; exact hin
          · exact hall d (by omega), hleast⟩
      · have w0 : Wk (ph nx) (2 * m) D [i] i (ph nx i) := Wk.start hDc hlt hg.phlt hil hin
        have keepW : ∀ {j : Nat} {r : List Nat}, D[j]? = some r → wa j ≠ pW := fun h => ne_of_none (hW3.row _ _ h) hpW
        refine ⟨fun μ σ H' => ∃ (l : List Nat) (d : Nat), μ = 2 * m - l.length ∧ σ = [some (.ref p), some (.ref pD), some (.ref pF), some (.ref pS), x4, x5, some (.int (d : Int)), some (.int (i : Int)), some (.ref pW)] ∧ H' pW = some (.lst (nV l)) ∧ H' pS = some (.lst (nV (D.flatten ++ l))) ∧ Same Hf H' ∧ RotAt H' pF wa D ∧
            ((l = [] ∧ d = i) ∨ Wk (ph nx) (2 * m) D l i d), ⟨_, [], i, rfl, rfl, upd_same, by rw [upd_ne SW, List.append_nil]; exact hS3, s3.upd fWf, hW3.same (Same.new hpW), .inl ⟨rfl, rfl⟩⟩, ?_⟩
        rintro μ σ H4 ⟨l, d, rfl, rfl, hW4, hS4, s4, hR4, hwk⟩
        refine ⟨_, rfl, _, rfl, pS, nV (D.flatten ++ l), rfl, .inl (SqL.of hS4), rfl, nV_flat _, _, rfl, ?_⟩
        rw [if_pos rfl, inV_nV]
        by_cases hd : d ∈ D.flatten ++ l
        · rw [decide_eq_true hd]
          refine iteF ?_
          have wk : Wk (ph nx) (2 * m) D l i d := by
            rcases hwk with ⟨z1, z2⟩ | z
            · rw [z1, z2, List.append_nil] at hd
              exact absurd hd hin
            · exact z
          obtain ⟨st1, st2⟩ := wk.step hg.phinj
          have ed : d = i := (List.mem_append.mp hd).elim (fun z => absurd z st1) st2
          obtain ⟨d1, d2, d3⟩ := wk.done ed
          have hf : (D ++ [l]).flatten = D.flatten ++ l := by rw [List.flatten_append]; simp
          refine ⟨_, rfl, Nat.zero_le _, fun t ht => ?_⟩
          have e5 : Same H4 (upd H4 t (.lst [])) := Same.new ht
          refine ⟨.list (iD l), .list [], Dp.lst (SqL.of (e5 _ _ hW4)) (dpAll_n _), Dp.lst (SqL.of upd_same) .nil, shLn _, rfl, _, rfl, ?_⟩
          have e6 : (!PyData.eqv (.list (iD l)) (.list [])) = true := by
            show (!PyData.eqvAll _ _) = _
            rw [eqvNil]
            cases e : l with
            | nil => exact absurd e wk.ne
            | cons x r => rfl
          rw [e6]
          refine iteT ?_
          have hF5 := e5 _ _ hR4.at_
          have lD : D.length ≤ 40 := by have := dlen hDc.ne; omega
          refine ⟨_, rfl, .inl ⟨rfl, _, SqL.of hF5⟩, _, rfl, pF, _, _, rfl, rfl, hF5, by rw [rowsV_len]; exact sz_lt (by omega), ?_⟩
          refine ⟨_, _, _, D ++ [l], fun j => if j = D.length then pW else wa j, rfl, (s4.trans e5).upd fFf, ?_, ⟨?_, fun j r hj => ?_⟩, fun j hj => ?_, d1, d2, fun j hj => ?_, fun l' hl' y hy => ?_⟩
          · rw [upd_ne FS_.symm, hf]
            exact e5 _ _ hS4
          · rw [upd_same, rowsV_snoc, List.length_append]
            rfl
          · show upd _ _ _ (if j = D.length then pW else wa j) = _
            by_cases ej : j = D.length
            · rw [if_pos ej, upd_ne FW.symm, e5 _ _ hW4]
              rw [ej, List.getElem?_append_right (Nat.le_refl _)] at hj
              simp at hj
              rw [hj]
            · have hjl : j < D.length := by
                have := (List.getElem?_eq_some_iff.mp hj).1
                rw [List.length_append, List.length_singleton] at this
                omega
              rw [List.getElem?_append_left hjl] at hj
              rw [if_neg ej, upd_ne (hne j hjl).1]
              exact e5 _ _ (hR4.row j r hj)
          · show (if j = D.length then pW else wa j) ≠ pF ∧ (if j = D.length then pW else wa j) ≠ pS ∧ Hf (if j = D.length then pW else wa j) = none
            by_cases ej : j = D.length
            · rw [if_pos ej]
              exact ⟨FW.symm, SW.symm, fWf⟩
            · rw [if_neg ej]
              rw [List.length_append, List.length_singleton] at hj
              exact hne j (by omega)
          · rw [d3 j]
            by_cases e : j = i
            · refine .inr ?_
              rw [e, ← wk.hd 0]
              exact headD_mem wk.ne
            · exact .inl (hall j (by omega))
          · rcases List.mem_append.mp hl' with q | q
            · exact hleast l' q y hy
            · simp only [List.mem_singleton] at q
              rw [q] at hy ⊢
              rw [wk.hd 0]
              refine Nat.le_of_not_lt fun z => ?_
              exact (List.nodup_append.mp wk.nd).2.2 y (hall y z) y hy rfl
        · rw [decide_eq_false hd]
          have w2 : Wk (ph nx) (2 * m) D (l ++ [d]) i (ph nx d) := by
            rcases hwk with ⟨z1, z2⟩ | z
            · rw [z1, z2]
              exact w0
            · refine z.on hg.phinj hg.phlt fun e => hd (List.mem_append_right _ ?_)
              rw [e, ← z.hd 0]
              exact headD_mem z.ne
          have wl := w2.len
          rw [List.length_append, List.length_singleton] at wl
          have dl : d < 2 * m := w2.lt d (by simp)
          refine iteT ⟨_, fun σ' H' h => ⟨2 * m - (l.length + 1), by omega, h⟩, ?_⟩
          refine ⟨_, rfl, .inl ⟨rfl, _, SqL.of hW4⟩, _, rfl, pW, _, _, rfl, rfl, hW4, by rw [nV_len]; exact sz_lt (by omega), ?_⟩
          have hS5 : upd H4 pW (.lst (nV l ++ [.int (d : Int)])) pS = some (.lst (nV (D.flatten ++ l))) := by rw [upd_ne SW]; exact hS4
          refine ⟨_, rfl, .inl ⟨rfl, _, SqL.of hS5⟩, _, rfl, pS, _, _, rfl, rfl, hS5, by rw [nV_len, List.length_append]; exact sz_lt (by omega), ?_⟩
          have s6 : Same Hf (upd (upd H4 pW (.lst (nV l ++ [.int (d : Int)]))) pS (.lst (nV (D.flatten ++ l) ++ [.int (d : Int)]))) := (s4.upd fWf).upd fSf
          refine ⟨_, rfl, _, rfl, pD, _, rfl, by
            have := DGet.k (k := Sum.inl (d : Int)) (s6 _ _ Df)
            rw [valV_fD, if_pos ((hL' d).mpr dl)] at this
            exact this, ?_⟩
          refine ⟨l ++ [d], ph nx d, by simp, rfl, ?_, ?_, s6, ⟨?_, fun j r hj => ?_⟩, .inr w2⟩
          · rw [upd_ne SW.symm, upd_same, nV_app]
            rfl
          · rw [upd_same, ← List.append_assoc, nV_app (D.flatten ++ l)]
            rfl
          · rw [upd_ne FS_, upd_ne FW]
            exact hR4.at_
          · rw [upd_ne (hne j (List.getElem?_eq_some_iff.mp hj).1).2.1, upd_ne (keepW hj)]
            exact hR4.row j r hj
    · rintro σ H3 ⟨y6, y7, y8, D, wa, rfl, s3, hS3, hW3, hne, hDc, hlt, hall, hleast⟩
      rw [nV_len, List.length_range] at hall
      exact ⟨_, rfl, k H3 pF wa D (shf.trans s3) hF0 hW3 (fun i hi => shf.free (hne i hi).2.2) ⟨hDc, fun d => ⟨hlt d, hall d⟩⟩ hleast⟩
end
end K07
/-! K07L4 -/
set_option Elab.async false
set_option linter.all false
set_option maxRecDepth 100000
set_option maxHeartbeats 8000000
namespace K07
open PySem PySem.Spec PyProof.Rows L2
/-! ### _law_corner -/
/-- a corner and the walk around its face; or none at a node with no edge -/
structure Fc (nx : Nat → Nat) (m : Nat) (l : List Nat) (c : Nat) : Prop where
  cyc : Cyc (ph nx) l
  nd : l.Nodup
  mem : c ∈ l
  least : ∀ y ∈ l, l.headD 0 ≤ y
  lt : ∀ d ∈ l, d < 2 * m
inductive CorT (H0 H : Hp) (G : List (List Nat)) (nx : Nat → Nat) (m v : Nat) (t : Addr) : Option Nat → List Nat → V → V → Prop
  | non (h : G[v]? = some []) (ht : H t = some (.tup [.non, .non])) : CorT H0 H G nx m v t none [] .non .non
  | one {r l : List Nat} {c : Nat} {a : Addr} (h : G[v]? = some r) (hc : c ∈ r) (ht : H t = some (.tup [.int (c : Int), .ref a])) (ha : H a = some (.lst (nV l))) (f : Fc nx m l c) (na : H0 a = none) : CorT H0 H G nx m v t (some c) l (.int (c : Int)) (.ref a)
theorem row_uniq {x : Nat} : ∀ {D : List (List Nat)} {i j : Nat} {r r' : List Nat}, D.flatten.Nodup → D[i]? = some r → D[j]? = some r' → x ∈ r → x ∈ r' → i = j
  | [], _, _, _, _, _, h, _, _, _ => by simp at h
  | l :: D, 0, 0, _, _, _, _, _, _, _ => rfl
  | l :: D, 0, j + 1, r, r', n, h, h', hx, hx' => by
    rw [List.flatten_cons] at n
    simp at h h'
    rw [← h] at hx
    exact absurd rfl ((List.nodup_append.mp n).2.2 x hx x (List.mem_flatten.mpr ⟨r', List.mem_of_getElem? h', hx'⟩))
  | l :: D, i + 1, 0, r, r', n, h, h', hx, hx' => by
    rw [List.flatten_cons] at n
    simp at h h'
    rw [← h'] at hx'
    exact absurd rfl ((List.nodup_append.mp n).2.2 x hx' x (List.mem_flatten.mpr ⟨r, List.mem_of_getElem? h, hx⟩))
  | l :: D, i + 1, j + 1, r, r', n, h, h', hx, hx' => by
    rw [List.flatten_cons] at n
    have := row_uniq (D := D) (List.nodup_append.mp n).2.1 (by simpa using h) (by simpa using h') hx hx'
    omega
def spCorner : Sp := fun vs H Q _ => ∃ (ps p : Addr) (rr : Nat → Addr) (G : List (List Nat)) (n m v B : Nat) (nx tl : Nat → Nat), vs = [.ref ps, .ref p, .int (v : Int)] ∧ SrcAt H ps B ∧ B ≤ 100000 ∧ RotAt (cutH H ps) p rr G ∧ Gr n m G nx tl ∧ n ≤ 7 ∧ m ≤ 20 ∧ v < n ∧
  ∀ (H' : Hp) (t : Addr) (oc : Option Nat) (l : List Nat) (x y : V), Same (cutH H ps) H' → SrcAt H' ps (B + 1) → CorT H H' G nx m v t oc l x y → Q (.ref t) H'
section
variable {P : Program} {w : World} {K : PySem.W.Frag} {mg : Str → Option Value} {base : Heap} {f fX fW : Addr} {fd fdX fdW : FuncData}
abbrev nCo : List Str := ["_law_source_here", "_law_rotations", "_law_node", "_law_corner_here", "_law_walk"]
theorem sc_corner : FnScope nCo ["_law_source_here", "_law_rotations", "_law_node"] (defScope s_law_corner) := ⟨rfl, rfl, rfl, by decide +kernel, rfl, by decide +kernel, by decide +kernel⟩
theorem SrcAt.same {H H' : Hp} {p : Addr} {B : Nat} (h : SrcAt H p B) (e : Same H H') : SrcAt H' p B := by
  obtain ⟨a, b, c, h1, h2, h3⟩ := h.ex
  exact ⟨a, b, c, e _ _ h1, h2, h3⟩
theorem SrcAt.le {H : Hp} {p : Addr} {B B' : Nat} (h : SrcAt H p B) (e : B ≤ B') : SrcAt H p B' := by
  obtain ⟨a, b, c, h1, h2, h3⟩ := h.ex
  exact ⟨a, b, c, h1, h2, by omega⟩
theorem ok_corner (F : FnP K "_law_corner" s_law_corner f fd) (T : Txt mg) (X : Dn K mg "_law_next" s_law_next ["_law_source_here", "_law_many"] fX fdX) (W : Dn K mg "_law_walks" s_law_walks ["_law_rotations"] fW fdW) :
    FnOk P w K mg base CX0 2 f fd ["_law_source_here", "_law_rotations", "_law_node"] spCorner := by
  have GX : FnOk P w K mg base CX0 1 fX fdX ["_law_source_here", "_law_many"] spNext := ok_next X.F
  have GW : FnOk P w K mg base CX0 1 fW fdW ["_law_rotations"] spWalks := ok_walks W.F T
  refine F.ok sc_corner (fun vs H Q E h => ?_) (fun cdv A outer s H vs Q E hr h => ?_)
  · obtain ⟨ps, p, rr, G, n, m, v, B, nx, tl, rfl, _⟩ := h
    rfl
  · obtain ⟨ps, p, rr, G, n, m, v, B, nx, tl, rfl, hs, hB, hR, hg, n7, m9, hv, k⟩ := h
    refine ⟨_, PSs.nox (pss_cons (ps_if (pt_cmpR (op_eqD hr.units) (pe_ix ix_list (pv 1) (pv 2) (fun _ _ => rfl)) (pe_lst pa_nil) (nomark _)) (pss_one (ps_ret (pe_tup (pa_cons pe_non (pa_cons pe_non pa_nil))))) pss_nil)
      (pss_cons (ps_set (i := 3) sc_corner.nd rfl (.inr rfl) (pe_ix ix_list (pe_ix ix_list (pv 1) (pv 2) (fun _ _ => rfl)) (pe_call GX hr (by rfl) X.g X.F.kp X.b .nil pass0 (pa_cons (pv 0) (pa_cons (pe_callB call_len_seq (by rfl) T.len PySem.boot_len (pa_cons (pe_ix ix_list (pv 1) (pv 2) (fun _ _ => rfl)) pa_nil)) pa_nil))) (fun _ _ => rfl)))
      (pss_one (ps_ret (pe_tup (pa_cons (pv 3) (pa_cons (pe_ix ix_list
        (pe_lc (own := [("_law_walk", 4)]) (g := gName 4) rfl sc_corner.nd (pi_list (pe_call GW hr (by rfl) W.g W.F.kp W.b .nil pass0 (pa_cons (pv 1) pa_nil))) (blkOk_by (N := nCo) (sc := defScope s_law_corner) (by decide +kernel))
          (fun _ _ _ _ _ => pg_name (i := 4) sc_corner.nd rfl (.inl rfl)) (fun _ _ _ _ _ => pts_one (pt_cmpR (r := rIn K false) op_in_seq (pv 3) (pv 4) (by rfl))) (fun _ _ _ _ _ => pv 4)) pe_int (fun _ _ => rfl)) pa_nil))))))), ?_⟩
    have ln := hg.len
    have hr1 : G[v]? = some G[v] := List.getElem?_eq_getElem (by omega)
    have at1 := cutH_same _ _ hR.at_
    have row1 := cutH_same _ _ (hR.row v _ hr1)
    have ix : atI (rowsV G.length rr) ((v : Nat) : Int) = some (.ref (rr v)) := atI_nat (rowsV_at (by omega))
    refine ⟨_, rfl, _, rfl, p, _, v, _, rfl, rfl, SqL.of at1, ix, Nat.zero_le _, fun t ht => ?_⟩
    have e1 : Same H (upd H t (.lst [])) := Same.new ht
    refine ⟨.list (iD G[v]), .list [], Dp.lst (SqL.of (e1 _ _ row1)) (dpAll_n _), Dp.lst (SqL.of upd_same) .nil, shLn _, rfl, _, rfl, ?_⟩
    have e2 : PyData.eqv (.list (iD G[v])) (.list []) = G[v].isEmpty := by
      show PyData.eqvAll _ _ = _
      rw [eqvNil]
    rw [e2]
    by_cases hem : G[v] = []
    · rw [show G[v].isEmpty = true by rw [hem]; rfl]
      refine iteT ⟨by show 2 ≤ sizeLine; decide, fun t2 ht2 => ?_⟩
      have e3 : Same H (upd (upd H t (.lst [])) t2 (.tup [.non, .non])) := e1.upd (e1.free ht2)
      exact k _ t2 none [] .non .non (cutH_same.trans e3) ((hs.same e3).le (by omega)) (.non (by rw [hr1, hem]) upd_same)
    · rw [show G[v].isEmpty = false by cases e : G[v] with
        | nil => exact absurd e hem
        | cons x r => rfl]
      refine iteF ?_
      have lpos : 0 < G[v].length := List.length_pos_iff.mpr hem
      have l40 : G[v].length ≤ 40 := by
        have := nodup_len (nodup_of_mem hg.hg.nd (List.mem_of_getElem? hr1)) fun d hd => (hg.hg.mem d).mp (List.mem_flatten.mpr ⟨_, List.mem_of_getElem? hr1, hd⟩)
        omega
      refine ⟨_, rfl, _, rfl, p, _, v, _, rfl, rfl, SqL.of (e1 _ _ at1), ix, _, rfl, _, rfl, _, rfl, p, _, v, _, rfl, rfl, SqL.of (e1 _ _ at1), ix, rr v, _, rfl, .inl (SqL.of (e1 _ _ row1)), ?_⟩
      refine ⟨ps, G[v].length, B, by rw [nV_len]; rfl, hs.same e1, by omega, lpos, by omega, fun H2 j s2 hs2 jl => ?_⟩
      -- the heap without the source
      have c1 : Same (cutH H ps) (cutH (upd H t (.lst [])) ps) := fun b o h => by
        have nb : b ≠ ps := fun z => by rw [z, cutH_self] at h; cases h
        rw [cutH_ne nb]
        exact e1 _ _ (cutH_same _ _ h)
      have s3 : Same (cutH H ps) H2 := c1.trans s2
      have hR2 : RotAt H2 p rr G := hR.same s3
      refine ⟨rr v, _, j, .int ((G[v][j] : Nat) : Int), rfl, rfl, SqL.of (hR2.row v _ hr1), atI_nat (nV_at (List.getElem?_eq_getElem jl)), ?_⟩
      have cm : G[v][j] ∈ G[v] := List.getElem_mem jl
      generalize hc : G[v][j] = c at cm
      have cl : c < 2 * m := (hg.hg.mem c).mp (List.mem_flatten.mpr ⟨_, List.mem_of_getElem? hr1, cm⟩)
      refine ⟨_, rfl, _, rfl, p, rr, G, n, m, nx, tl, rfl, hR2, hg, n7, m9, fun H3 q wa W s4 hq hW hfr hDec hle => ?_⟩
      obtain ⟨l, hl, hcl⟩ := List.mem_flatten.mp ((hDec.mem c).mpr cl)
      obtain ⟨i0, hi0, ei0⟩ := List.mem_iff_getElem.mp hl
      have gi0 : W[i0]? = some l := by rw [List.getElem?_eq_getElem hi0, ei0]
      have uniq : ∀ i r, W[i]? = some r → c ∈ r → i = i0 := fun i r hi hm => row_uniq hDec.nd hi gi0 hm hcl
      refine ⟨q, rfl, ⟨_, SqL.of hW.at_⟩, fun D hD => ?_⟩
      refine lc_list (K := K) (a := q) (xs := rowsV W.length wa) (fun i H' => Cw H3 D (if i0 < i then [.ref (wa i0)] else []) H') (Cw.start hD) (fun i H' _ z => SqL.of (z.same _ _ hW.at_)) ?_ ?_
      · rintro i x H' hi z
        obtain ⟨hlt, rfl⟩ := rowsV_get hi
        have hr2 : W[i]? = some W[i] := List.getElem?_eq_getElem hlt
        refine ⟨rfl, ?_⟩
        refine ⟨_, rfl, _, rfl, wa i, nV W[i], rfl, .inl (SqL.of (z.same _ _ (hW.row i _ hr2))), rfl, nV_flat _, _, rfl, ?_⟩
        rw [if_neg Bool.false_ne_true, inV_nV]
        by_cases hm : c ∈ W[i]
        · have iv : i = i0 := uniq i _ hr2 hm
          rw [decide_eq_true hm]
          rw [if_neg (by omega)] at z
          refine iteT ⟨_, rfl, _, z.at_, by show 0 < sizeLine; decide, ?_⟩
          rw [if_pos (by omega), ← iv]
          exact z.next (Same.refl _)
        · rw [decide_eq_false hm]
          refine iteF ?_
          have iv : i ≠ i0 := fun y => hm (by subst y; rw [hr2] at gi0; cases gi0; exact hcl)
          have e6 : (if i0 < i + 1 then [V.ref (wa i0)] else []) = (if i0 < i then [V.ref (wa i0)] else []) := by
            by_cases q2 : i0 < i
            · rw [if_pos q2, if_pos (by omega)]
            · rw [if_neg q2, if_neg (by omega)]
          rw [e6]
          exact z
      intro H4 z
      rw [rowsV_len, if_pos hi0] at z
      refine ⟨D, _, 0, .ref (wa i0), rfl, rfl, SqL.of z.at_, atI_nat (j := 0) rfl, by show 2 ≤ sizeLine; decide, fun t2 ht2 => ?_⟩
      have e5 : Same H4 (upd H4 t2 (.tup [.int (c : Int), .ref (wa i0)])) := Same.new ht2
      have s6 := s4.trans (z.same.trans e5)
      have fresh : H (wa i0) = none := by
        have f2 := hfr i0 hi0
        obtain ⟨a1, a2, a3, b1, _⟩ := hs2.ex
        rw [← cutH_ne (H := H) (ne_of_none b1 f2).symm]
        exact s3.free f2
      have wl : (upd H4 t2 (.tup [.int (c : Int), .ref (wa i0)])) (wa i0) = some (.lst (nV l)) := e5 _ _ (z.same _ _ (hW.row i0 _ gi0))
      exact k _ t2 (some c) l _ _ (s3.trans s6) (hs2.same s6) (.one hr1 cm upd_same wl ⟨hDec.cyc l hl, nodup_of_mem hDec.nd hl, hcl, hle l hl, fun d hd => (hDec.mem d).mp (List.mem_flatten.mpr ⟨l, hl, hd⟩)⟩ fresh)
end
end K07
/-! K07L5 -/
set_option Elab.async false
set_option linter.all false
set_option maxRecDepth 100000
set_option maxHeartbeats 8000000
namespace K07
open PySem PySem.Spec PyProof.Rows L2
/-! ### _law_joined -/
theorem valV_drop {kvs : List (Key × V)} {k j : Key} (h : j ≠ k) : valV (dropK kvs k) j = valV kvs j := by
  induction kvs with
  | nil => rfl
  | cons p r ih =>
    by_cases e : p.1 = k
    · rw [dropK_pos e, ih, valV_neg (fun z => h (z.symm.trans e))]
    · rw [dropK_neg e]
      by_cases e2 : p.1 = j
      · rw [valV_pos e2, valV_pos e2]
      · rw [valV_neg e2, valV_neg e2, ih]
theorem putK_old {kvs : List (Key × V)} {k : Key} {v x : V} (h : valV kvs k = some x) : (putK kvs k v).length = kvs.length := by
  have a : (kvs.any fun kv => decide (kv.1 = k)) = true := by rw [valV_any, h]; rfl
  unfold putK
  rw [if_pos a, List.length_map]
structure NumD (H : Hp) (pN : Addr) (n : Nat) (mk : Nat → Nat) (N : Nat → Int) : Prop where
  ex : ∃ kvs : List (Key × V), H pN = some (.dK kvs) ∧ kvs.length ≤ 7 ∧ ∀ s, s < n → mk s = s → valV kvs (Sum.inl (s : Int) : Key) = some (.int (N s))
/-- the rotations, the marks and the numbers of the law's own drawing -/
structure LR (H : Hp) (pR pM pN : Addr) (rr : Nat → Addr) (n : Nat) (G : List (List Nat)) (mk : Nat → Nat) (N : Nat → Int) : Prop where
  rot : RotAt H pR rr G
  mks : H pM = some (.lst (nV ((List.range n).map mk)))
  num : NumD H pN n mk N
structure LA (ps pR pM : Addr) (rr : Nat → Addr) (n : Nat) : Prop where
  sR : ps ≠ pR
  sM : ps ≠ pM
  RM : pR ≠ pM
  rs : ∀ i, i < n → rr i ≠ ps
  rR : ∀ i, i < n → rr i ≠ pR
  rM : ∀ i, i < n → rr i ≠ pM
  inj : ∀ i j, i < n → j < n → rr i = rr j → i = j
structure LF (H0 : Hp) (ps pM pN : Addr) (rr : Nat → Addr) (n : Nat) : Prop where
  s : H0 ps = none
  M : H0 pM = none
  N : H0 pN = none
  r : ∀ i, i < n → H0 (rr i) = none
theorem LR.same {H H' : Hp} {pR pM pN : Addr} {rr : Nat → Addr} {n : Nat} {G : List (List Nat)} {mk : Nat → Nat} {N : Nat → Int} (h : LR H pR pM pN rr n G mk N) (e : Same H H') : LR H' pR pM pN rr n G mk N := by
  obtain ⟨kvs, a, b⟩ := h.num.ex
  exact ⟨h.rot.same e, e _ _ h.mks, ⟨kvs, e _ _ a, b⟩⟩
theorem LR.cut {H : Hp} {ps pR pM pN : Addr} {rr : Nat → Addr} {n B : Nat} {G : List (List Nat)} {mk : Nat → Nat} {N : Nat → Int} (h : LR H pR pM pN rr n G mk N) (a : LA ps pR pM rr n) (hs : SrcAt H ps B) (ln : G.length = n) : LR (cutH H ps) pR pM pN rr n G mk N := by
  obtain ⟨kvs, a1, a2⟩ := h.num.ex
  obtain ⟨_, _, _, b1, _⟩ := hs.ex
  exact ⟨⟨by rw [cutH_ne a.sR.symm]; exact h.rot.at_, fun i r q => by rw [cutH_ne (a.rs i (by rw [← ln]; exact (List.getElem?_eq_some_iff.mp q).1))]; exact h.rot.row i r q⟩, by rw [cutH_ne a.sM.symm]; exact h.mks,
    ⟨kvs, by rw [cutH_ne (ne_of a1 b1 (by intro z; cases z))]; exact a1, a2⟩⟩
def spJoined : Sp := fun vs H Q _ => ∃ (H0 : Hp) (ps pR pM pN pP : Addr) (rr : Nat → Addr) (G : List (List Nat)) (n m B : Nat) (nx tl mk : Nat → Nat) (N : Nat → Int), vs = [.ref ps, .ref pR, .ref pM, .ref pN, .ref pP] ∧
  Same H0 H ∧ LF H0 ps pM pN rr n ∧ LA ps pR pM rr n ∧ SrcAt H ps B ∧ B ≤ 10000 ∧ LR H pR pM pN rr n G mk N ∧ H pP = some (.lst (nV [2 * m, 2 * m + 1])) ∧ Stt n m G nx tl mk N ∧ 0 < n ∧ n ≤ 7 ∧ m ≤ 9 ∧ pP ≠ ps ∧ pP ≠ pM ∧ (∀ i, i < n → rr i ≠ pP) ∧
  ∀ (H' : Hp) (G' : List (List Nat)) (nx' tl' mk' : Nat → Nat) (N' : Nat → Int), Same H0 H' → SrcAt H' ps (B + 4) → LR H' pR pM pN rr n G' mk' N' → Stt n (m + 1) G' nx' tl' mk' N' → Q .non H'
theorem CorT.cor {H0 H : Hp} {G : List (List Nat)} {nx : Nat → Nat} {m v : Nat} {t : Addr} {oc : Option Nat} {l : List Nat} {x y : V} (h : CorT H0 H G nx m v t oc l x y) : Cor G v oc := by
  cases h with
  | non h _ => exact .nil h
  | one h hc _ _ _ _ => exact .cons h hc
/-- what is held at a corner: None or its dart -/
def CV (oc : Option Nat) (x : V) : Prop := (oc = none ∧ x = .non) ∨ ∃ c : Nat, oc = some c ∧ x = .int (c : Int)
theorem CorT.cv {H0 H : Hp} {G : List (List Nat)} {nx : Nat → Nat} {m v : Nat} {t : Addr} {oc : Option Nat} {l : List Nat} {x y : V} (h : CorT H0 H G nx m v t oc l x y) : CV oc x := by
  cases h with
  | non h _ => exact .inl ⟨rfl, rfl⟩
  | one h hc _ _ _ _ => exact .inr ⟨_, rfl, rfl⟩
theorem CorT.tup {H0 H : Hp} {G : List (List Nat)} {nx : Nat → Nat} {m v : Nat} {t : Addr} {oc : Option Nat} {l : List Nat} {x y : V} (h : CorT H0 H G nx m v t oc l x y) : H t = some (.tup [x, y]) := by
  cases h with
  | non h ht => exact ht
  | one h hc ht _ _ _ => exact ht
theorem CorT.same {H0 H H' : Hp} {G : List (List Nat)} {nx : Nat → Nat} {m v : Nat} {t : Addr} {oc : Option Nat} {l : List Nat} {x y : V} (h : CorT H0 H G nx m v t oc l x y) (e : Same H H') : CorT H0 H' G nx m v t oc l x y := by
  cases h with
  | non h ht => exact .non h (e _ _ ht)
  | one h hc ht ha f na => exact .one h hc (e _ _ ht) (e _ _ ha) f na
theorem CorT.next {H0 H H' : Hp} {ps : Addr} {B B' : Nat} {G : List (List Nat)} {nx : Nat → Nat} {m v : Nat} {t : Addr} {oc : Option Nat} {l : List Nat} {x y : V} (h : CorT H0 H G nx m v t oc l x y) (h0 : SrcAt H0 ps B) (h1 : SrcAt H ps B') (e : Same (cutH H ps) H') : CorT H0 H' G nx m v t oc l x y := by
  obtain ⟨_, _, _, a1, _⟩ := h0.ex
  obtain ⟨_, _, _, b1, _⟩ := h1.ex
  have tp : ∀ {xs : List V}, H t = some (.tup xs) → t ≠ ps := fun z => ne_of z b1 (by intro w; cases w)
  cases h with
  | non h ht => exact .non h (e _ _ (by rw [cutH_ne (tp ht)]; exact ht))
  | one h hc ht ha f na =>
    refine .one h hc (e _ _ (by rw [cutH_ne (tp ht)]; exact ht)) (e _ _ ?_) f na
    rw [cutH_ne (ne_of_none a1 na).symm]
    exact ha
/-- the heap without the rows -/
noncomputable def cutR (H : Hp) (rr : Nat → Addr) (n : Nat) : Hp := fun b => @ite _ (∃ i, i < n ∧ b = rr i) (Classical.propDecidable _) none (H b)
theorem cutR_none {H : Hp} {rr : Nat → Addr} {n i : Nat} (h : i < n) : cutR H rr n (rr i) = none := by
  unfold cutR
  rw [if_pos ⟨i, h, rfl⟩]
theorem cutR_ne {H : Hp} {rr : Nat → Addr} {n : Nat} {b : Addr} (h : ∀ i, i < n → b ≠ rr i) : cutR H rr n b = H b := by
  unfold cutR
  rw [if_neg (fun ⟨i, h1, h2⟩ => h i h1 h2)]
theorem cutR_same {H : Hp} {rr : Nat → Addr} {n : Nat} : Same (cutR H rr n) H := fun b o h => by
  unfold cutR at h
  split at h
  · cases h
  · exact h
theorem cutR_up {H0 H : Hp} {rr : Nat → Addr} {n : Nat} (e : Same H0 H) (f : ∀ i, i < n → H0 (rr i) = none) : Same H0 (cutR H rr n) := fun b o h => by
  rw [cutR_ne (fun i hi => ne_of_none h (f i hi))]
  exact e b o h
/-- a row is another -/
theorem RotAt.put {H H' : Hp} {p : Addr} {rr : Nat → Addr} {G : List (List Nat)} {v : Nat} {r : List Nat} (h : RotAt H p rr G) (hv : v < G.length) (inj : ∀ i j, i < G.length → j < G.length → rr i = rr j → i = j) (ne : rr v ≠ p)
    (e : Same (cutH H (rr v)) H') (hr : H' (rr v) = some (.lst (nV r))) : RotAt H' p rr (G.set v r) := by
  refine ⟨?_, fun i r' q => ?_⟩
  · rw [List.length_set]
    exact e _ _ (by rw [cutH_ne ne.symm]; exact h.at_)
  · have hi := (List.getElem?_eq_some_iff.mp q).1
    rw [List.length_set] at hi
    by_cases ei : i = v
    · rw [ei, List.getElem?_set_self hv] at q
      cases q
      rw [ei]
      exact hr
    · rw [List.getElem?_set_ne (Ne.symm ei)] at q
      refine e _ _ ?_
      rw [cutH_ne (fun z => ei (inj i v hi hv z))]
      exact h.row i r' q
section
variable {P : Program} {w : World} {K : PySem.W.Frag} {mg : Str → Option Value} {base : Heap} {f fX fW fC fP : Addr} {fd fdX fdW fdC fdP : FuncData}
abbrev nJo : List Str := ["_law_source_here", "_law_rotations", "_law_marks", "_law_numbers", "_law_pair", "_law_u", "_law_v", "_law_first", "_law_walk", "_law_second", "_law_other", "_law_low", "_law_high", "_law_place", "_law_node", "_law_end", "_law_corner_here"]
theorem sc_joined : FnScope nJo ["_law_source_here", "_law_rotations", "_law_marks", "_law_numbers", "_law_pair"] (defScope s_law_joined) := ⟨rfl, rfl, rfl, by decide +kernel, rfl, by decide +kernel, by decide +kernel⟩
theorem ok_joined (F : FnP K "_law_joined" s_law_joined f fd) (T : Txt mg) (X : Dn K mg "_law_next" s_law_next ["_law_source_here", "_law_many"] fX fdX) (W : Dn K mg "_law_walks" s_law_walks ["_law_rotations"] fW fdW)
    (C : Dn K mg "_law_corner" s_law_corner ["_law_source_here", "_law_rotations", "_law_node"] fC fdC) (U : Dn K mg "_law_put" s_law_put ["_law_rotations", "_law_dart", "_law_corner_here"] fP fdP) :
    FnOk P w K mg base CX0 3 f fd ["_law_source_here", "_law_rotations", "_law_marks", "_law_numbers", "_law_pair"] spJoined := by
  have GX : FnOk P w K mg base CX0 1 fX fdX ["_law_source_here", "_law_many"] spNext := ok_next X.F
  have GC : FnOk P w K mg base CX0 2 fC fdC ["_law_source_here", "_law_rotations", "_law_node"] spCorner := ok_corner C.F T X W
  have GU : FnOk P w K mg base CX0 1 fP fdP ["_law_rotations", "_law_dart", "_law_corner_here"] spPut := ok_put U.F T
  refine F.ok sc_joined (fun vs H Q E h => ?_) (fun cdv A outer s H vs Q E hr h => ?_)
  · obtain ⟨H0, ps, pR, pM, pN, pP, rr, G, n, m, B, nx, tl, mk, N, rfl, _⟩ := h
    rfl
  · obtain ⟨H0, ps, pR, pM, pN, pP, rr, G, n, m, B, nx, tl, mk, N, rfl, s0, hf, ha, hs, hB, hl, hP, hst, n0, n7, m9, Ps, PM, Prr, k⟩ := h
    have hu := hu_of hr
    have hr1 : Room 1 _ := hr.mono (by decide)
    have ln := hst.gr.len
    -- the two darts are put
    obtain ⟨tR, pR_, fin⟩ : ∃ tR : TS, PSs (cxOf CX0 P w K mg base nJo "_law_joined" (defScope s_law_joined) f cdv A outer s H E).nox (List.drop 4 (defBody s_law_joined)) tR ∧
        ∀ (H7 : Hp) (u v : Nat) (c1 c2 : Option Nat) (x1 x2 y1 y2 xl xh : V) (x13 : Option V) (nx' tl' mk' : Nat → Nat) (N' : Nat → Int), u < n → v < n → Cor G u c1 → Cor G v c2 → CV c1 x1 → CV c2 x2 → Same H0 H7 → SrcAt H7 ps (B + 4) → RotAt H7 pR rr G →
          H7 pM = some (.lst (nV ((List.range n).map mk'))) → NumD H7 pN n mk' N' → H7 pP = some (.lst (nV [2 * m, 2 * m + 1])) → Stt n (m + 1) (grow G u v (2 * m) (2 * m + 1) c1 c2) nx' tl' mk' N' →
          tR { nx := fun _ H' => Q .non H', rt := Q } [some (.ref ps), some (.ref pR), some (.ref pM), some (.ref pN), some (.ref pP), some (.int (u : Int)), some (.int (v : Int)), some x1, some y1, some x2, some y2, some xl, some xh, x13, none, none, none] H7 := by
      refine ⟨_, (pss_one (ps_for PassesOwn.never rfl (pi_tup (pe_tup (pa_cons (pe_tup (pa_cons (pv 6) (pa_cons (pe_ix ix_list (pv 4) pe_int (fun _ _ => rfl)) (pa_cons (pv 9) pa_nil)))) (pa_cons (pe_tup (pa_cons (pv 5) (pa_cons (pe_ix ix_list (pv 4) pe_int (fun _ _ => rfl)) (pa_cons (pv 7) pa_nil)))) pa_nil))))
          (pg_tup rfl (pgs_cons (pg_name (i := 14) sc_joined.nd rfl (.inl rfl)) (pgs_cons (pg_name (i := 15) sc_joined.nd rfl (.inl rfl)) (pgs_cons (pg_name (i := 16) sc_joined.nd rfl (.inl rfl)) pgs_nil))))
        (pss_one (ps_if (pt_cmp (pc_isN (pv 16)))
          (pss_one (ps_expr (pe_bm PySem.F.plainAttrs_list PySem.F.slot_list_append PySem.F.type_list_append mt_append (pe_ix ix_list (pv 1) (pv 14) (fun _ _ => rfl)) (pa_cons (pv 15) pa_nil))))
          (pss_one (ps_expr (pe_call GU hr1 (by rfl) U.g U.F.kp U.b .nil pass0 (pa_cons (pv 1) (pa_cons (pv 15) (pa_cons (pv 16) pa_nil)))))))))), ?_⟩
      intro H7 u v c1 c2 x1 x2 y1 y2 xl xh x13 nx' tl' mk' N' hun hvn k1 k2 v1 v2 s07 hs7 hR7 hM7 hN7 hP7 hst7
      refine ⟨_, rfl, _, rfl, pP, _, 1, .int ((2 * m + 1 : Nat) : Int), rfl, rfl, SqL.of hP7, atI_nat (j := 1) rfl, _, rfl, by show 3 ≤ sizeLine; decide, fun ta hta => ?_⟩
      have e1 : Same H7 (upd H7 ta (.tup [.int (v : Int), .int ((2 * m + 1 : Nat) : Int), x2])) := Same.new hta
      refine ⟨_, rfl, _, rfl, pP, _, 0, .int ((2 * m : Nat) : Int), rfl, rfl, SqL.of (e1 _ _ hP7), atI_nat (j := 0) rfl, _, rfl, by show 3 ≤ sizeLine; decide, fun tb htb => ?_⟩
      have e2 := e1.trans (Same.new (o := .tup [.int (u : Int), .int ((2 * m : Nat) : Int), x1]) htb)
      have hta2 : upd (upd H7 ta (.tup [.int (v : Int), .int ((2 * m + 1 : Nat) : Int), x2])) tb (.tup [.int (u : Int), .int ((2 * m : Nat) : Int), x1]) ta = some (.tup [.int (v : Int), .int ((2 * m + 1 : Nat) : Int), x2]) := Same.new htb _ _ upd_same
      refine ⟨by show 2 ≤ sizeLine; decide, fun tc htc => ?_⟩
      have e3 := Same.new (o := .tup [.ref ta, .ref tb]) htc
      have hta3 := e3 _ _ hta2
      have htb3 := e3 tb _ upd_same
      have htc3 : upd (upd (upd H7 ta (.tup [.int (v : Int), .int ((2 * m + 1 : Nat) : Int), x2])) tb (.tup [.int (u : Int), .int ((2 * m : Nat) : Int), x1])) tc (.tup [.ref ta, .ref tb]) tc = some (.tup [.ref ta, .ref tb]) := upd_same
      have e7 := e2.trans e3
      generalize upd (upd (upd H7 ta (.tup [.int (v : Int), .int ((2 * m + 1 : Nat) : Int), x2])) tb (.tup [.int (u : Int), .int ((2 * m : Nat) : Int), x1])) tc (.tup [.ref ta, .ref tb]) = H8 at e7 hta3 htb3 htc3
      have hR8 := hR7.same e7
      have ntup : ∀ {b : Addr} {xs : List V}, H8 b = some (.tup xs) → ∀ i, i < n → b ≠ rr i := fun hb i hi => by
        have hri : G[i]? = some G[i] := List.getElem?_eq_getElem (by omega)
        exact ne_of hb (hR8.row i _ hri) (by intro z; cases z)
      have cR := cutR_same (H := H8) (rr := rr) (n := n)
      have htaC : cutR H8 rr n ta = some (.tup [.int (v : Int), .int ((2 * m + 1 : Nat) : Int), x2]) := by rw [cutR_ne (ntup hta3)]; exact hta3
      have htbC : cutR H8 rr n tb = some (.tup [.int (u : Int), .int ((2 * m : Nat) : Int), x1]) := by rw [cutR_ne (ntup htb3)]; exact htb3
      have htcC : cutR H8 rr n tc = some (.tup [.ref ta, .ref tb]) := by rw [cutR_ne (ntup htc3)]; exact htc3
      -- the three states
      have lrow : ∀ (i : Nat) (r : List Nat), G[i]? = some r → r.length ≤ 20 := fun i r q => by
        have := nodup_len (nodup_of_mem hst.gr.hg.nd (List.mem_of_getElem? q)) fun d hd => (hst.gr.hg.mem d).mp (List.mem_flatten.mpr ⟨_, List.mem_of_getElem? q, hd⟩)
        omega
      let G1 := G.set v (putc (G.getD v []) (2 * m + 1) c2)
      let Gj : Nat → List (List Nat) := fun j => if j = 0 then G else if j = 1 then G1 else grow G u v (2 * m) (2 * m + 1) c1 c2
      let tj : Nat → Addr := fun j => if j = 0 then ta else tb
      let wj : Nat → Nat := fun j => if j = 0 then v else u
      let bj : Nat → Nat := fun j => if j = 0 then 2 * m + 1 else 2 * m
      let cj : Nat → Option Nat := fun j => if j = 0 then c2 else c1
      let xj : Nat → V := fun j => if j = 0 then x2 else x1
      have lG : ∀ j, (Gj j).length = n := fun j => by
        show (if j = 0 then G else if j = 1 then G1 else grow G u v (2 * m) (2 * m + 1) c1 c2).length = n
        split
        · exact ln
        · split
          · exact (List.length_set ..).trans ln
          · exact hst7.gr.len
      have hj2 : ∀ j x, ([V.ref ta, .ref tb])[j]? = some x → (j = 0 ∨ j = 1) ∧ x = .ref (tj j) := fun j x q => by
        have := (List.getElem?_eq_some_iff.mp q).1
        simp only [List.length_cons, List.length_nil] at this
        have : j = 0 ∨ j = 1 := by omega
        rcases this with z | z
        · subst z
          exact ⟨.inl rfl, (Option.some.inj q).symm⟩
        · subst z
          exact ⟨.inr rfl, (Option.some.inj q).symm⟩
      have htj : ∀ j, (j = 0 ∨ j = 1) → cutR H8 rr n (tj j) = some (.tup [.int ((wj j : Nat) : Int), .int ((bj j : Nat) : Int), xj j]) := fun j q => by
        rcases q with z | z <;> subst z
        · exact htaC
        · exact htbC
      have hwj : ∀ j, wj j < n := fun j => by
        show (if j = 0 then v else u) < n
        split <;> omega
      have hGj : ∀ j, (j = 0 ∨ j = 1) → Gj (j + 1) = (Gj j).set (wj j) (putc ((Gj j).getD (wj j) []) (bj j) (cj j)) := fun j q => by
        rcases q with z | z <;> subst z <;> rfl
      have hcv : ∀ j, CV (cj j) (xj j) := fun j => by
        show CV (if j = 0 then c2 else c1) (if j = 0 then x2 else x1)
        split
        · exact v2
        · exact v1
      have hcu : ∀ j, (j = 0 ∨ j = 1) → ∀ c, cj j = some c → (∃ r, (Gj j)[wj j]? = some r ∧ c ∈ r) ∧ ∀ i r, (Gj j)[i]? = some r → c ∈ r → i = wj j := fun j q c hc => by
        rcases q with z | z <;> subst z
        · have hc' : c2 = some c := hc
          subst hc'
          cases k2 with
          | cons h hm => exact ⟨⟨_, h, hm⟩, fun i r q1 q2 => (hst.gr.hg.tl i r c q1 q2).symm.trans (hst.gr.hg.tl v _ c h hm)⟩
        · have hc' : c1 = some c := hc
          subst hc'
          cases k1 with
          | cons h hm =>
            have tc_ := hst.gr.hg.tl u _ c h hm
            have cl : c < 2 * m := (hst.gr.hg.mem c).mp (List.mem_flatten.mpr ⟨_, List.mem_of_getElem? h, hm⟩)
            have pm : ∀ d, d ∈ putc (G.getD v []) (2 * m + 1) c2 ↔ d = 2 * m + 1 ∨ d ∈ G.getD v [] := fun d => by
              have pp := putc_perm (r := G.getD v []) (x := 2 * m + 1) (oc := c2) fun c' hc' => by
                subst hc'
                cases k2 with
                | cons h2 hm2 => rw [getD_of h2]; exact hm2
              rw [pp.mem_iff, List.mem_cons]
            have hrv : G[v]? = some G[v] := List.getElem?_eq_getElem (by omega)
            refine ⟨?_, fun i r q1 q2 => ?_⟩
            · show ∃ r, (G.set v _)[u]? = some r ∧ c ∈ r
              by_cases euv : u = v
              · rw [euv, List.getElem?_set_self (by omega)]
                refine ⟨_, rfl, (pm c).mpr (.inr ?_)⟩
                rw [← euv, getD_of h]
                exact hm
              · rw [List.getElem?_set_ne (Ne.symm euv)]
                exact ⟨_, h, hm⟩
            · show i = u
              have q1' : (G.set v (putc (G.getD v []) (2 * m + 1) c2))[i]? = some r := q1
              by_cases eiv : i = v
              · rw [eiv, List.getElem?_set_self (by omega)] at q1'
                cases q1'
                rcases (pm c).mp q2 with z | z
                · omega
                · rw [getD_of hrv] at z
                  rw [eiv, ← tc_]
                  exact (hst.gr.hg.tl v _ c hrv z).symm
              · rw [List.getElem?_set_ne (Ne.symm eiv)] at q1'
                rw [← tc_]
                exact (hst.gr.hg.tl i r c q1' q2).symm
      have hlen : ∀ j, (j = 0 ∨ j = 1) → ∀ (i : Nat) (r : List Nat), (Gj j)[i]? = some r → r.length ≤ 40 := fun j q i r hr => by
        rcases q with z | z <;> subst z
        · have := lrow i r hr
          omega
        · have hr' : (G.set v (putc (G.getD v []) (2 * m + 1) c2))[i]? = some r := hr
          by_cases eiv : i = v
          · rw [eiv, List.getElem?_set_self (by omega)] at hr'
            cases hr'
            rw [putc_len]
            have hrv : G[v]? = some G[v] := List.getElem?_eq_getElem (by omega)
            rw [getD_of hrv]
            have := lrow v _ hrv
            omega
          · rw [List.getElem?_set_ne (Ne.symm eiv)] at hr'
            have := lrow i r hr'
            omega
      refine ⟨tc, rfl, ⟨_, SqT.of htc3⟩, for_tup (K := K) (a := tc) (xs := [.ref ta, .ref tb]) (fun j σ H' => ∃ (y14 y15 y16 : Option V), σ = [some (.ref ps), some (.ref pR), some (.ref pM), some (.ref pN), some (.ref pP), some (.int (u : Int)), some (.int (v : Int)), some x1, some y1, some x2, some y2, some xl, some xh, x13, y14, y15, y16] ∧
          Same (cutR H8 rr n) H' ∧ RotAt H' pR rr (Gj j)) ⟨none, none, none, rfl, cR, hR8⟩ (fun j σ H' _ ⟨_, _, _, _, q, _⟩ => SqT.of (q _ _ htcC)) ?_ ?_⟩
      · rintro j x σ H9 hx ⟨y14, y15, y16, rfl, s9, hR9⟩
        obtain ⟨j01, rfl⟩ := hj2 j x hx
        have lj := lG j
        have wn := hwj j
        have hrw : (Gj j)[wj j]? = some (Gj j)[wj j] := List.getElem?_eq_getElem (by omega)
        have ix : atI (rowsV (Gj j).length rr) ((wj j : Nat) : Int) = some (.ref (rr (wj j))) := atI_nat (rowsV_at (by omega))
        refine ⟨tj j, _, rfl, SqT.of (s9 _ _ (htj j j01)), rfl, _, _, rfl, _, _, rfl, _, _, rfl, rfl, ?_⟩
        have after : ∀ H10, Same (cutH H9 (rr (wj j))) H10 → H10 (rr (wj j)) = some (.lst (nV (putc ((Gj j).getD (wj j) []) (bj j) (cj j)))) → Same (cutR H8 rr n) H10 ∧ RotAt H10 pR rr (Gj (j + 1)) := fun H10 z1 z2 => by
          refine ⟨(cutH_up s9 (cutR_none wn)).trans z1, ?_⟩
          rw [hGj j j01]
          exact hR9.put (by omega) (fun i i' a b => ha.inj i i' (by omega) (by omega)) (ha.rR _ wn) z1 z2
        have hcvj := hcv j
        have hcuj := hcu j j01
        refine ⟨_, rfl, _, rfl, ?_⟩
        rcases hcvj with ⟨z1, z2⟩ | ⟨c, z1, z2⟩
        · have e : decide (xj j = V.non) = true := decide_eq_true z2
          rw [e]
          refine iteT ?_
          refine ⟨_, rfl, _, rfl, pR, _, wj j, _, rfl, rfl, SqL.of hR9.at_, ix, .inl ⟨rfl, _, SqL.of (hR9.row _ _ hrw)⟩, _, rfl, rr (wj j), _, _, rfl, rfl, hR9.row _ _ hrw, by rw [nV_len]; exact sz_lt (by have := hlen j j01 _ _ hrw; omega), ?_⟩
          obtain ⟨f1, f2⟩ := after (upd H9 (rr (wj j)) (.lst (nV (Gj j)[wj j] ++ [.int ((bj j : Nat) : Int)]))) (cutH_same.upd cutH_self) (by
            rw [upd_same, z1, getD_of hrw]
            show _ = some (HO.lst (nV ((Gj j)[wj j] ++ [bj j])))
            rw [nV_app]
            rfl)
          exact ⟨_, _, _, rfl, f1, f2⟩
        · have e : decide (xj j = V.non) = false := decide_eq_false (by rw [z2]; intro q; cases q)
          rw [e]
          refine iteF ?_
          obtain ⟨⟨r, hr5, hcr⟩, hun_⟩ := hcuj c z1
          rw [hrw] at hr5
          cases hr5
          refine ⟨_, rfl, _, rfl, _, rfl, pR, rr, Gj j, (Gj j)[wj j], wj j, bj j, c, by rw [z2]; rfl, hR9, hun_, hlen j j01 _ _ hrw, hrw, hcr, fun H10 q1 q2 => ?_⟩
          obtain ⟨f1, f2⟩ := after H10 q1 (by rw [q2, z1, getD_of hrw])
          exact ⟨_, _, _, rfl, f1, f2⟩
      · rintro σ H9 ⟨y14, y15, y16, rfl, s9, hR9⟩
        have sR8 : Same H0 (cutR H8 rr n) := cutR_up (s07.trans e7) hf.r
        obtain ⟨_, _, _, q1, q2⟩ := hs7.ex
        obtain ⟨kvs, q3, q4⟩ := hN7.ex
        have notrow : ∀ {b : Addr} {o : HO}, H7 b = some o → (∀ i, i < n → b ≠ rr i) → H9 b = some o := fun q z => s9 _ _ (by rw [cutR_ne z]; exact e7 _ _ q)
        refine k H9 _ nx' tl' mk' N' (sR8.trans s9) ⟨_, _, _, notrow q1 fun i hi => (ha.rs i hi).symm, q2⟩ ⟨hR9, notrow hM7 fun i hi => (ha.rM i hi).symm, ⟨kvs, notrow q3 fun i hi => ?_, q4⟩⟩ hst7
        have hri : G[i]? = some G[i] := List.getElem?_eq_getElem (by omega)
        exact ne_of q3 (hR7.row i _ hri) (by intro z; cases z)
    refine ⟨_, PSs.nox (pss_cons (ps_par (i := 5) (j := 6) rfl sc_joined.nd rfl rfl (by decide) rfl rfl (pa_cons
          (pe_call GX hr1 (by rfl) X.g X.F.kp X.b .nil pass0 (pa_cons (pv 0) (pa_cons (pe_callB call_len_seq (by rfl) T.len PySem.boot_len (pa_cons (pv 1) pa_nil)) pa_nil))) (pa_cons
          (pe_call GX hr1 (by rfl) X.g X.F.kp X.b .nil pass0 (pa_cons (pv 0) (pa_cons (pe_callB call_len_seq (by rfl) T.len PySem.boot_len (pa_cons (pv 1) pa_nil)) pa_nil))) pa_nil)) (by rfl))
      (pss_cons (ps_asg (pe_tup (pa_cons (pe_call GC hr (by rfl) C.g C.F.kp C.b .nil pass0 (pa_cons (pv 0) (pa_cons (pv 1) (pa_cons (pv 5) pa_nil)))) (pa_cons (pe_call GC hr (by rfl) C.g C.F.kp C.b .nil pass0 (pa_cons (pv 0) (pa_cons (pv 1) (pa_cons (pv 6) pa_nil)))) pa_nil)))
          (pg_tup rfl (pgs_cons (pg_tup rfl (pgs_cons (pg_name (i := 7) sc_joined.nd rfl (.inl rfl)) (pgs_cons (pg_name (i := 8) sc_joined.nd rfl (.inl rfl)) pgs_nil))) (pgs_cons (pg_tup rfl (pgs_cons (pg_name (i := 9) sc_joined.nd rfl (.inl rfl)) (pgs_cons (pg_name (i := 10) sc_joined.nd rfl (.inl rfl)) pgs_nil))) pgs_nil))))
      (pss_cons (ps_par (i := 11) (j := 12) rfl sc_joined.nd rfl rfl (by decide) rfl rfl (pa_cons
          (pe_callB (call_min2 rfl) (by rfl) T.min (by decide +kernel) (pa_cons (pe_ix ix_list (pv 2) (pv 5) (fun _ _ => rfl)) (pa_cons (pe_ix ix_list (pv 2) (pv 6) (fun _ _ => rfl)) pa_nil))) (pa_cons
          (pe_callB (call_max2 rfl) (by rfl) T.max (by decide +kernel) (pa_cons (pe_ix ix_list (pv 2) (pv 5) (fun _ _ => rfl)) (pa_cons (pe_ix ix_list (pv 2) (pv 6) (fun _ _ => rfl)) pa_nil))) pa_nil)) (by rfl))
      (pss_cons (ps_if (pt_cmpR op_lt (pv 11) (pv 12) (nomark _))
          (pss_cons (ps_dput hu (pv 3) (pv 11) (pe_op op_sub (pe_op op_add (pe_dget hu (pv 3) (pv 11) (fun _ _ => rfl)) (pe_dpop1 (pv 3) (pv 12) ⟨rfl, rfl, rfl, rfl⟩)) pe_int) rfl)
          (pss_one (ps_for PassesOwn.never rfl (pi_range1 (by rfl) T.range (pa_cons (pe_callB call_len_seq (by rfl) T.len PySem.boot_len (pa_cons (pv 2) pa_nil)) pa_nil)) (pg_name (i := 13) sc_joined.nd rfl (.inl rfl))
            (pss_one (ps_asg (pe_ifExp (pt_cmpR op_eq (pe_ix ix_list (pv 2) (pv 13) (fun _ _ => rfl)) (pv 12) (nomark _)) (pv 11) (pe_ix ix_list (pv 2) (pv 13) (fun _ _ => rfl))) (pg_sub (pv 2) (pv 13) set_list))))))
          (pss_one (ps_if (pt_cmpR (op_neD hr.units) (pv 8) (pv 10) (nomark _)) (pss_one (ps_dput hu (pv 3) (pv 11) (pe_op op_sub (pe_dget hu (pv 3) (pv 11) (fun _ _ => rfl)) pe_int) rfl)) pss_nil)))
      pR_)))), ?_⟩
    -- u, v
    have s00 : Same H0 (cutH H ps) := cutH_up s0 hf.s
    have l0 := hl.cut ha hs ln
    have gR : H pR = some (.lst (rowsV G.length rr)) := hl.rot.at_
    refine ⟨_, rfl, _, rfl, pR, _, rfl, .inl (SqL.of gR), ps, n, B, by rw [rowsV_len, ln]; rfl, hs, by omega, n0, by omega, fun H1 u s1 hs1 hun => ?_⟩
    have l1 := l0.same s1
    have s01 := s00.trans s1
    have p0 : cutH H ps pP = some (.lst (nV [2 * m, 2 * m + 1])) := by rw [cutH_ne Ps]; exact hP
    have p1 := s1 _ _ p0
    refine ⟨_, rfl, _, rfl, pR, _, rfl, .inl (SqL.of l1.rot.at_), ps, n, B + 1, by rw [rowsV_len, ln]; rfl, hs1, by omega, n0, by omega, fun H2 v s2 hs2 hvn => ?_⟩
    have l1c := l1.cut ha hs1 ln
    have l2 := l1c.same s2
    have s02 : Same H0 H2 := (cutH_up s01 hf.s).trans s2
    have p2 : H2 pP = some (.lst (nV [2 * m, 2 * m + 1])) := s2 _ _ (by rw [cutH_ne Ps]; exact p1)
    refine ⟨_, _, rfl, ?_⟩
    -- the corners
    have l2c := l2.cut ha hs2 ln
    refine ⟨_, rfl, _, rfl, _, rfl, ps, pR, rr, G, n, m, u, B + 2, nx, tl, rfl, hs2, by omega, l2c.rot, hst.gr, n7, by omega, hun, fun H3 t1 c1 w1 x1 y1 s3 hs3 k1 => ?_⟩
    have l3 := l2c.same s3
    have s03 : Same H0 H3 := (cutH_up s02 hf.s).trans s3
    have p3 : H3 pP = some (.lst (nV [2 * m, 2 * m + 1])) := s3 _ _ (by rw [cutH_ne Ps]; exact p2)
    have l3c := l3.cut ha hs3 ln
    refine ⟨_, rfl, _, rfl, _, rfl, ps, pR, rr, G, n, m, v, B + 3, nx, tl, rfl, hs3, by omega, l3c.rot, hst.gr, n7, by omega, hvn, fun H4 t2 c2 w2 x2 y2 s4 hs4 k2 => ?_⟩
    have l4 := l3c.same s4
    have s04 : Same H0 H4 := (cutH_up s03 hf.s).trans s4
    have p4 : H4 pP = some (.lst (nV [2 * m, 2 * m + 1])) := s4 _ _ (by rw [cutH_ne Ps]; exact p3)
    have k1' := k1.next hs2 hs3 s4
    refine ⟨by show 2 ≤ sizeLine; decide, fun t ht => ?_⟩
    have e5 : Same H4 (upd H4 t (.tup [.ref t1, .ref t2])) := Same.new ht
    have k15 := k1'.same e5
    have k25 := k2.same e5
    refine ⟨t, _, rfl, SqT.of upd_same, rfl, _, _, rfl, ⟨t1, _, rfl, SqT.of k15.tup, rfl, _, _, rfl, _, _, rfl, rfl, _, _, rfl, ⟨t2, _, rfl, SqT.of k25.tup, rfl, _, _, rfl, _, _, rfl, rfl, rfl, ?_⟩⟩⟩
    have l5 := l4.same e5
    have s05 := s04.trans e5
    have p5 := e5 _ _ p4
    have hs5 := hs4.same e5
    generalize upd H4 t (.tup [.ref t1, .ref t2]) = H5 at e5 k15 k25 l5 s05 p5 hs5
    -- low, high
    have mget : ∀ {w : Nat}, w < n → atI (nV ((List.range n).map mk)) ((w : Nat) : Int) = some (.int ((mk w : Nat) : Int)) := fun {w} hw => atI_nat (nV_at (by rw [List.getElem?_map, List.getElem?_range hw]; rfl))
    refine ⟨_, rfl, _, rfl, pM, _, u, _, rfl, rfl, SqL.of l5.mks, mget hun, _, rfl, _, rfl, pM, _, v, _, rfl, rfl, SqL.of l5.mks, mget hvn, _, _, rfl, ?_⟩
    refine ⟨_, rfl, _, rfl, pM, _, u, _, rfl, rfl, SqL.of l5.mks, mget hun, _, rfl, _, rfl, pM, _, v, _, rfl, rfl, SqL.of l5.mks, mget hvn, _, _, rfl, ?_⟩
    refine ⟨_, _, rfl, ?_⟩
    have elo : (if ((mk v : Nat) : Int) < ((mk u : Nat) : Int) then ((mk v : Nat) : Int) else ((mk u : Nat) : Int)) = ((min (mk u) (mk v) : Nat) : Int) := by
      by_cases q : mk v < mk u
      · rw [if_pos (by omega), Nat.min_eq_right (by omega)]
      · rw [if_neg (by omega), Nat.min_eq_left (by omega)]
    have ehi : (if ((mk v : Nat) : Int) > ((mk u : Nat) : Int) then ((mk v : Nat) : Int) else ((mk u : Nat) : Int)) = ((max (mk u) (mk v) : Nat) : Int) := by
      by_cases q : mk u < mk v
      · rw [if_pos (by omega), Nat.max_eq_right (by omega)]
      · rw [if_neg (by omega), Nat.max_eq_left (by omega)]
    rw [elo, ehi]
    have ulo : mk u < n := Nat.lt_of_le_of_lt (hst.mrk.lt u hun) hun
    have vlo : mk v < n := Nat.lt_of_le_of_lt (hst.mrk.lt v hvn) hvn
    have iu := hst.mrk.id u hun
    have iv := hst.mrk.id v hvn
    have hminmax : (mk u = min (mk u) (mk v) ∧ mk v = max (mk u) (mk v)) ∨ (mk u = max (mk u) (mk v) ∧ mk v = min (mk u) (mk v)) := by omega
    generalize hlo : min (mk u) (mk v) = lo at hminmax
    generalize hhi : max (mk u) (mk v) = hi at hminmax
    have lon : lo < n := by omega
    have hin : hi < n := by omega
    have elo2 : mk lo = lo := by
      rcases hminmax with ⟨a, b⟩ | ⟨a, b⟩
      · rw [← a]; exact iu
      · rw [← b]; exact iv
    have ehi2 : mk hi = hi := by
      rcases hminmax with ⟨a, b⟩ | ⟨a, b⟩
      · rw [← b]; exact iv
      · rw [← a]; exact iu
    obtain ⟨kvs, kN, kl, kv⟩ := l5.num.ex
    refine ⟨_, rfl, _, rfl, _, _, rfl, rfl, _, rfl, ?_⟩
    by_cases hlt : lo < hi
    · rw [decide_eq_true (show ((lo : Nat) : Int) < ((hi : Nat) : Int) by omega)]
      refine iteT ?_
      have vlo_ := kv lo lon elo2
      have vhi_ := kv hi hin ehi2
      have nlh : (Sum.inl ((lo : Nat) : Int) : Key) ≠ Sum.inl ((hi : Nat) : Int) := fun z => by have := inl_iff.mp z; omega
      have dl : (dropK kvs (Sum.inl ((hi : Nat) : Int) : Key)).length ≤ 7 := Nat.le_trans (dropK_le _ _) kl
      have vlo2 : valV (dropK kvs (Sum.inl ((hi : Nat) : Int) : Key)) (Sum.inl ((lo : Nat) : Int) : Key) = some (.int (N lo)) := by rw [valV_drop nlh]; exact vlo_
      refine ⟨_, rfl, _, rfl, pN, _, rfl, by
        have := DGet.k (k := Sum.inl ((lo : Nat) : Int)) kN
        rw [vlo_] at this
        exact this, _, rfl, pN, rfl, .inl ⟨_, .inl kN⟩, _, rfl, kvs, Sum.inl ((hi : Nat) : Int), _, kN, rfl, vhi_, _, _, rfl, rfl, _, _, rfl, rfl, _, rfl, _, rfl, pN, _, rfl, DPut.k (k := Sum.inl ((lo : Nat) : Int)) upd_same (sz_lt (by omega)), ?_⟩
      rw [upd_upd]
      have NM : pN ≠ pM := ne_of kN l5.mks (by intro z; cases z)
      have hM6 : ∀ {o : HO}, upd H5 pN o pM = some (.lst (nV ((List.range n).map mk))) := by
        intro o
        rw [upd_ne NM.symm]
        exact l5.mks
      refine ⟨_, rfl, pM, _, rfl, .inl (SqL.of hM6), _, rfl, by rw [nV_len]; omega, by rw [nV_len, List.length_map, List.length_range]; omega, ?_⟩
      rw [nV_len, List.length_map, List.length_range, Int.toNat_natCast]
      refine for_range (lo := 0) (n := n) (fun i σ H' => ∃ (x13 : Option V), σ = [some (.ref ps), some (.ref pR), some (.ref pM), some (.ref pN), some (.ref pP), some (.int (u : Int)), some (.int (v : Int)), some x1, some y1, some x2, some y2, some (.int (lo : Int)), some (.int (hi : Int)), x13, none, none, none] ∧
          H' = upd (upd H5 pN (.dK (putK (dropK kvs (Sum.inl ((hi : Nat) : Int) : Key)) (Sum.inl ((lo : Nat) : Int) : Key) (.int (N lo + N hi - 2))))) pM (.lst (nV ((List.range n).map fun w => if w < i then (if mk w = hi then lo else mk w) else mk w))))
        ⟨none, rfl, ?_⟩ ?_ ?_
      · funext b
        by_cases eb : b = pM
        · have e : ((List.range n).map mk) = (List.range n).map fun w => if w < 0 then (if mk w = hi then lo else mk w) else mk w := List.map_congr_left fun w _ => by rw [if_neg (by omega)]
          rw [eb, hM6, upd_same, e]
        · rw [upd_ne eb]
      · rintro i σ H' hi_ ⟨x13, rfl, rfl⟩
        have e0 : (0 : Int) + ((i : Nat) : Int) = (i : Int) := by omega
        rw [e0]
        have hget : atI (nV ((List.range n).map fun w => if w < i then (if mk w = hi then lo else mk w) else mk w)) ((i : Nat) : Int) = some (.int ((mk i : Nat) : Int)) := atI_nat (nV_at (by rw [List.getElem?_map, List.getElem?_range hi_]; show some (if i < i then _ else mk i) = _; rw [if_neg (by omega)]))
        have ixn : ixN (nV ((List.range n).map fun w => if w < i then (if mk w = hi then lo else mk w) else mk w)).length ((i : Nat) : Int) = some i := ixN_at (by rw [nV_len, List.length_map, List.length_range]; exact hi_)
        have setl : ∀ d, d = (if mk i = hi then lo else mk i) → ((List.range n).map fun w => if w < i then (if mk w = hi then lo else mk w) else mk w).set i d = (List.range n).map fun w => if w < i + 1 then (if mk w = hi then lo else mk w) else mk w := fun d hd => by
          refine List.ext_getElem? fun j => ?_
          by_cases ej : j = i
          · rw [ej, List.getElem?_set_self (by rw [List.length_map, List.length_range]; exact hi_), List.getElem?_map, List.getElem?_range hi_]
            show some d = some (if i < i + 1 then _ else _)
            rw [if_pos (by omega), hd]
          · rw [List.getElem?_set_ne (Ne.symm ej), List.getElem?_map, List.getElem?_map]
            by_cases hj : j < n
            · rw [List.getElem?_range hj]
              show some (if j < i then _ else _) = some (if j < i + 1 then _ else _)
              by_cases q : j < i
              · rw [if_pos q, if_pos (show j < i + 1 by omega)]
              · rw [if_neg q, if_neg (show ¬ j < i + 1 by omega)]
            · rw [List.getElem?_eq_none (by rw [List.length_range]; omega)]
              rfl
        refine ⟨_, rfl, _, rfl, pM, _, i, _, rfl, rfl, SqL.of upd_same, hget, _, rfl, rfl, _, rfl, ?_⟩
        by_cases q : mk i = hi
        · have e : decide (V.int ((mk i : Nat) : Int) = V.int ((hi : Nat) : Int)) = true := by rw [q]; simp
          rw [e]
          refine iteT ⟨_, rfl, _, rfl, _, rfl, pM, _, i, i, rfl, rfl, upd_same, ixn, ?_⟩
          refine ⟨_, rfl, ?_⟩
          rw [upd_upd, nV_set, setl lo (by rw [if_pos q])]
        · have e : decide (V.int ((mk i : Nat) : Int) = V.int ((hi : Nat) : Int)) = false := decide_eq_false fun z => q (by have := V.int.inj z; omega)
          rw [e]
          refine iteF ⟨_, rfl, _, rfl, pM, _, i, _, rfl, rfl, SqL.of upd_same, hget, _, rfl, _, rfl, pM, _, i, i, rfl, rfl, upd_same, ixn, ?_⟩
          refine ⟨_, rfl, ?_⟩
          rw [upd_upd, nV_set, setl (mk i) (by rw [if_neg q])]
      · rintro σ H' ⟨x13, rfl, rfl⟩
        have em : ((List.range n).map fun w => if w < n then (if mk w = hi then lo else mk w) else mk w) = (List.range n).map fun w => if mk w = hi then lo else mk w := List.map_congr_left fun w hw => by rw [if_pos (List.mem_range.mp hw)]
        rw [em]
        have st := step_apart hst hun hvn k1.cor k2.cor hlt hminmax
        refine fin _ u v c1 c2 x1 x2 y1 y2 _ _ x13 _ _ _ _ hun hvn k1.cor k2.cor k1.cv k2.cv ((s05.upd hf.N).upd hf.M) ?_ ?_ upd_same ⟨_, by rw [upd_ne NM]; exact upd_same, ?_, ?_⟩ ?_ st
        · obtain ⟨a_, b_, c_, q1, q2⟩ := hs5.ex
          exact ⟨a_, b_, c_, by rw [upd_ne ha.sM, upd_ne (ne_of q1 kN (by intro z; cases z))]; exact q1, q2⟩
        · refine ⟨by rw [upd_ne ha.RM, upd_ne (ne_of l5.rot.at_ kN (by intro z; cases z))]; exact l5.rot.at_, fun i r q => ?_⟩
          have := (List.getElem?_eq_some_iff.mp q).1
          rw [upd_ne (ha.rM i (by omega)), upd_ne (ne_of (l5.rot.row i r q) kN (by intro z; cases z))]
          exact l5.rot.row i r q
        · rw [putK_old vlo2]
          exact dl
        · intro s hsn hss
          rw [valV_put]
          by_cases es : s = lo
          · rw [if_pos (by rw [es])]
            show _ = some (V.int (if s = lo then N lo + N hi - 2 else N s))
            rw [if_pos es]
          · rw [if_neg (fun z => es (inl_iff.mp z))]
            show _ = some (V.int (if s = lo then N lo + N hi - 2 else N s))
            have hss' : (if mk s = hi then lo else mk s) = s := hss
            have nsh : mk s ≠ hi := fun z => by rw [if_pos z] at hss'; exact es hss'.symm
            rw [if_neg nsh] at hss'
            rw [if_neg es, valV_drop (fun z => nsh (by rw [hss']; exact inl_iff.mp z))]
            exact kv s hsn hss'
        · rw [upd_ne PM, upd_ne (ne_of p5 kN (by intro z; cases z))]
          exact p5
    · rw [decide_eq_false (show ¬ ((lo : Nat) : Int) < ((hi : Nat) : Int) by omega)]
      refine iteF ?_
      have emk : mk u = mk v := by omega
      have eul : mk u = lo := by omega
      have vlo_ := kv lo lon elo2
      -- nothing is told anew
      have same_ : ∀ x13, (c1 = none ∧ c2 = none) ∨ (∃ p q D l, c1 = some p ∧ c2 = some q ∧ Dec (ph nx) (2 * m) D ∧ l ∈ D ∧ p ∈ l ∧ q ∈ l) → _ := fun x13 hc => fin H5 u v c1 c2 x1 x2 y1 y2 (.int ((lo : Nat) : Int)) (.int ((hi : Nat) : Int)) x13 _ _ _ _ hun hvn k1.cor k2.cor k1.cv k2.cv s05 hs5 l5.rot l5.mks l5.num p5 (step_same hst hun hvn k1.cor k2.cor emk hc)
      have none_some : ∀ {a b : Nat} {ca cb : Option Nat}, a < n → b < n → mk a = mk b → Cor G a ca → Cor G b cb → ca = none → cb ≠ none → False := fun {a b ca cb} ha' hb' e hca hcb h1 h2 => by
        subst h1
        have q1 := emp_self hca.empty
        cases hcb with
        | nil _ => exact h2 rfl
        | @cons r c h hm =>
          have q2 := emp_zero hst.gr hst.mrk ha' hb' e.symm (by rw [getD_of h]; intro z; rw [z] at hm; simp at hm)
          omega
      obtain ⟨D, hD, _⟩ := hst.num
      cases k15 with
      | non h1 ht1 =>
        cases k25 with
        | non h2 ht2 =>
          refine ⟨_, rfl, _, rfl, .none, .none, .non, .non, rfl, rfl, _, rfl, ?_⟩
          exact iteF (same_ none (.inl ⟨rfl, rfl⟩))
        | one h2 hc2 ht2 ha2 f2 _ => exact (none_some hun hvn emk k1.cor k2.cor rfl (by intro z; cases z)).elim
      | @one r1 _ p a1 h1 hc1 ht1 ha1 f1 _ =>
        cases k25 with
        | non h2 ht2 => exact (none_some hvn hun emk.symm k2.cor k1.cor rfl (by intro z; cases z)).elim
        | @one r2 _ q a2 h2 hc2 ht2 ha2 f2 _ =>
          refine ⟨_, rfl, _, rfl, .list (iD w1), .list (iD w2), Dp.lst (SqL.of ha1) (dpAll_n _), Dp.lst (SqL.of ha2) (dpAll_n _), shLn _, shLn _, _, rfl, ?_⟩
          have ee : (!PyData.eqv (.list (iD w1)) (.list (iD w2))) = !decide (w1 = w2) := by
            show (!PyData.eqvAll _ _) = _
            rw [eqvN]
          rw [ee]
          obtain ⟨l, hlD, hpl⟩ := List.mem_flatten.mp ((hD.mem p).mpr (f1.lt p f1.mem))
          have sm := cyc_same f1.cyc (hD.cyc l hlD) f1.mem hpl
          by_cases ew : w1 = w2
          · rw [decide_eq_true ew]
            exact iteF (same_ none (.inr ⟨p, q, D, l, rfl, rfl, hD, hlD, hpl, (sm q).mp (by rw [ew]; exact f2.mem)⟩))
          · rw [decide_eq_false ew]
            have nq : q ∉ l := fun z => ew (cyc_one f1.cyc f2.cyc f1.nd f2.nd f1.least f2.least ((sm q).mpr z) f2.mem)
            have st := step_two hst hun hvn k1.cor k2.cor emk hD hlD hpl nq
            refine iteT ⟨_, rfl, _, rfl, pN, _, rfl, by
              have := DGet.k (k := Sum.inl ((lo : Nat) : Int)) kN
              rw [vlo_] at this
              exact this, _, _, rfl, rfl, _, rfl, _, rfl, pN, _, rfl, DPut.k (k := Sum.inl ((lo : Nat) : Int)) kN (sz_lt (by omega)), ?_⟩
            refine fin _ u v _ _ _ _ _ _ _ _ none _ _ _ _ hun hvn k1.cor k2.cor k1.cv k2.cv (s05.upd hf.N) ?_ ?_ ?_ ⟨_, upd_same, ?_, ?_⟩ ?_ st
            · obtain ⟨a_, b_, c_, q1, q2⟩ := hs5.ex
              exact ⟨a_, b_, c_, by rw [upd_ne (ne_of q1 kN (by intro z; cases z))]; exact q1, q2⟩
            · refine ⟨by rw [upd_ne (ne_of l5.rot.at_ kN (by intro z; cases z))]; exact l5.rot.at_, fun i r q => ?_⟩
              rw [upd_ne (ne_of (l5.rot.row i r q) kN (by intro z; cases z))]
              exact l5.rot.row i r q
            · rw [upd_ne (ne_of l5.mks kN (by intro z; cases z))]
              exact l5.mks
            · rw [putK_old vlo_]
              exact kl
            · intro s hsn hss
              rw [valV_put]
              show _ = some (V.int (if s = mk u then N s - 2 else N s))
              by_cases es : s = lo
              · rw [if_pos (by rw [es]), if_pos (by omega), es]
              · rw [if_neg (fun z => es (inl_iff.mp z)), if_neg (by omega)]
                exact kv s hsn hss
            · rw [upd_ne (ne_of p5 kN (by intro z; cases z))]
              exact p5
end
end K07
/-! K07X1 -/
set_option Elab.async false
set_option linter.all false
set_option maxRecDepth 100000
set_option maxHeartbeats 4000000
namespace K07
open PySem PySem.Spec PyProof.Rows L2
open PySem.W PySem.Calls PySem.HandSPX
/-! ### NotPlane: made, raised -/
def clsB (s : Stmt) : List Stmt := match s with
  | .ClassDef _ _ _ b _ _ _ _ _ _ _ => b
  | _ => []
abbrev s_init : Stmt := (clsB (top 5)).getD 0 (.Pass ⟨0, 0, 0, 0⟩)
def d_init : He.DefD := ⟨("NotPlane", some "__init__"), "__init__", "NotPlane.__init__", defArgs s_init, defBody s_init, defScope s_init, [], []⟩
def rteT : List Value := [.type "RuntimeError", .type "Exception", .type "BaseException", .type "object"]
structure NpTxt (K : Frag) (mg : Str → Option Value) (C fI : Addr) (fdI : FuncData) : Prop where
  gC : mg "NotPlane" = some (.ref C)
  mkr : excInitIn K C rteT "RuntimeError.__new__" = true
  ov : excOver K C rteT = true
  sa : findIn K (.ref C) "__setattr__" = some (some (.builtin "object.__setattr__"))
  ga : findIn K (.ref C) "__getattribute__" = some (some (.builtin "BaseException.__getattribute__"))
  gg : findIn K (.ref C) "__getattr__" = some none
  noN : findIn K (.ref C) "node" = some none
  iC : findIn K (.ref C) "__init__" = some (some (.ref fI))
  tC : typeIn K (.ref fI) = some (.type "function")
  kC : keepIn K (.ref C) = true
  exC : subIn K (.ref C) (.type "BaseException") = some true
  tyC : typeIn K (.ref C) = some (.type "type")
  hdC : hasDictIn K C = true
  fn : FunD K "__init__" "NotPlane.__init__" (defArgs s_init) (defBody s_init) (defScope s_init) [] [] fI fdI
theorem excOver_cd {K : Frag} {C : Addr} {bmB : List Value} (h : excOver K C bmB = true) : ∃ cd bm, clsIn K C = some cd ∧ cd.mro = .ref C :: bm ∧ excTail bmB bm = true := by
  obtain ⟨cd, hc, ho⟩ := any_some h
  (try dsimp only at ho)
  split at ho
  · rename_i C' bm hm
    rw [Bool.and_eq_true, beq_iff_eq] at ho
    obtain ⟨rfl, ho⟩ := ho
    exact ⟨cd, bm, hc, hm, ho⟩
  · cases ho
theorem excT_ne {bmB l : List Value} (h : bmB ≠ []) (e : excTail bmB l = true) : l.isEmpty = false := by
  cases l with
  | nil =>
    rcases excTail_cases _ e with ⟨_, _, z, _⟩ | z
    · cases z
    · exact absurd z.symm h
  | cons _ _ => rfl
section
open Builtin Builtin.ObjectAttr
variable {prog : Program} {w : World} {A : Around} {E : Value → Shared → Prop} {R : Result → Shared → Prop} {hp : Heap} {g : Array GenState} {d : Drawn} {t : Nat} {os : OsState}
/-- the first store into a fresh exception of an own class over RuntimeError -/
theorem k07_osa {K : W.Frag} {name : Str} {tk : Tok} {v : Value} {x C : Addr} {fv : Array Value} {cd : ClassData} {bm : List Value}
    (X : K.In hp) (hx : hp.get? x = some { cls := .ref C, data := .fields fv }) (hcd : W.clsIn K C = some cd) (hmr0 : cd.mro = .ref C :: bm) (hm : excTail rteT bm = true) (hh : cd.hasDict = true) (ha : W.findIn K (.ref C) name = some none)
    (hq : ∀ h' tk' dx, (∀ b o, b ≠ x → hp.get? b = some o → h'.get? b = some o) → hp.objs.size ≤ dx → dx ≠ x → h'.get? x = some { cls := .ref C, dict := some dx, data := .fields fv } →
      h'.Ns1 dx (fun y => if y = name then some v else none) → R (.ok (.ret .none)) ⟨h', g, d, tk', os⟩) :
    codeAny (model prog w) A (.call (.builtin "object.__setattr__") ⟨[.ref x, .str name tk, v], []⟩) R ⟨hp, g, d, t, os⟩ := by
  have I : W.InstAt hp x { cls := .ref C, data := .fields fv } C none := ⟨hx, rfl, rfl, trivial⟩
  have SF := F.store_object
  have ne : cd.mro.isEmpty = false := by rw [hmr0]; rfl
  have hob : cd.mro.contains (.type "object") = true := by rw [hmr0, List.contains_cons, excTail_contains "object" _ hm, Bool.or_eq_true]; exact .inr (by decide +kernel)
  have hxs : x ≠ hp.objs.size := Nat.ne_of_lt (Heap.lt_size hx)
  have sub : W.Looks (model prog w) hp (isInstance (.ref x) (.type "object")) true := I.type.andThen (W.looks_mroIn X (by unfold W.mroIn; rw [hcd, Option.bind_some, if_neg (by rw [ne]; decide), hob]))
  refine codeAny_call_builtin SF.slot.plain SF.entry (@W.check_slot (model prog w) _ _ ⟨hp, g, d, t, os⟩ "object.__setattr__" "object" "__setattr__" (.ref x) [.str name tk, v] [] _ SF.kind SF.split sub (SF.args (.ref x) (.str name tk) v) ?_)
  have hmr : W.Looks (model prog w) hp (mroOf (.ref C)) cd.mro := (W.looks_clsIn X hcd).andThen .now
  have L3 : W.Looks (model prog w) hp (storeTaker? none) none := .now
  have hcls : W.Looks (model prog w) hp (classData C) cd := W.looks_clsIn X hcd
  rw [W.osa_eq, refuse_eq]
  refine wpAny_bind (wpAny_bind (I.type.at (wpAny_bind (hmr.at ?_))))
  rw [hmr0, refuseLoop_ref, excTail_pass _ (F.store_RuntimeError.passes _) _ hm]
  refine wpAny_pure (wpAny_bind (I.type.at (wpAny_bind ((W.looks_findIn X ha).at (wpAny_bind (L3.at ?_))))))
  show wpAny _ _ (storeInOwnDict (.ref x) (.ref C) (.str name tk) name v false) _ _ _
  obtain ⟨nm, bs, mro, ns, qn, hd, sn, sb, ab, col, del⟩ := cd
  dsimp only at hh
  subst hh
  unfold storeInOwnDict ownDictForStores
  repeat (first | with_reducible refine store_in_new ?_ ?_ | with_reducible refine wpAny_loadPart_at hx ?_ | with_reducible refine hcls.at ?_ | wp_step)
  · exact ⟨_, #[], _, (Heap.get?_update_ne _ _ _ _ hxs.symm).trans (Heap.get?_push_at rfl rfl), rfl, fun e he => absurd he (by simp), fun _ => rfl⟩
  · intro h' tk' hn' hs
    have hx₁ : (hp.push { cls := .type "dict", data := .dict #[] }).get? x = some { cls := .ref C, data := .fields fv } := Heap.get?_push_of_some _ hx
    refine hq h' tk' hp.objs.size (fun b o hb ho => ?_) (Nat.le_refl _) hxs.symm ?_ hn'
    · exact (hs.2 b (Nat.ne_of_lt (Heap.lt_size ho))).trans ((Heap.get?_update_ne _ _ _ _ hb).trans (Heap.get?_push_of_some _ ho))
    · exact (hs.2 x hxs).trans (Heap.get?_update_self _ hx₁ rfl)
end
theorem k07_one_size (v : Value) : [v].length ≤ sizeLine := by
  rw [sizeLine_eq]
  exact (by decide : 1 ≤ 16777216)
theorem k07_ldC {M : Model} {s : Shared} {name : Str} {scope : Scope} {L a : Addr} {cd : Value} {m : Str → Option Value} {x : Str} {pos : Pos} {v : Value} {Q : Value → Shared → Prop} {A : Around} {E : Value → Shared → Prop} (hn : s.heap.Ns L m) (hv : m x = some v) (h : Q v s)
    (hk : scope.kind = .function := by rfl) (hl : (envOfC name scope L a cd).kindOf x = some .local := by rfl) (hd : (x == ("__debug__" : Str)) = false := by decide) :
    wpAny M A (eval (.Name x pos) (envOfC name scope L a cd)) Q E s := wpAny_Name (wpAny_loadName_local hk hl hn hv h) hd
structure K07InitEnd (h h' : Heap) (x C dx t1 : Addr) (v : Value) : Prop where
  keep : ∀ b o, b ≠ x → h.get? b = some o → h'.get? b = some o
  obj : h'.get? x = some { cls := .ref C, dict := some dx, data := .fields #[.ref t1, .none, .none, .none, .bool false, .none] }
  dbig : h.objs.size ≤ dx
  dne : dx ≠ x
  ns : h'.Ns1 dx (fun y => if y = "node" then some v else none)
structure K07Made (h h' : Heap) (e C d : Addr) (v : Value) : Prop where
  keep : ∀ b o, h.get? b = some o → h'.get? b = some o
  new : h.objs.size ≤ e
  obj : ∃ oe vs, h'.get? e = some oe ∧ oe.cls = .ref C ∧ oe.dict = some d ∧ oe.data = .fields vs ∧ vs[1]? = some .none
  dbig : h.objs.size ≤ d
  dne : d ≠ e
  ns : h'.Ns1 d (fun y => if y = "node" then some v else none)
section
variable {prog : Program} {w : World} {A : Around} {E : Value → Shared → Prop} {R : Result → Shared → Prop} {s : Shared} {K : Frag} {mg : Str → Option Value} {C fI : Addr} {fdI : FuncData}
theorem np_init (T : NpTxt K mg C fI fdI) {x t0 : Addr} {v : Value} (X : K.In s.heap) (hlim : s.heap.NoLimit) (hx : s.heap.get? x = some (excO C t0)) (hroom : A.depth < recursionLimit)
    (hq : ∀ h' tk dx, K07InitEnd s.heap h' x C dx t0 v → R (.ok (.ret .none)) { s with heap := h', toks := tk }) :
    codeAny (model prog w) A (.call (.ref fI) ⟨[.ref x, v], []⟩) R s := by
  obtain ⟨oc, od, dV, kV, doc, pm, an, cdv, ct, osl, hfd, ho, hcd, hdV, hkV⟩ := T.fn.ex
  obtain ⟨cd, bm, hcl, hmr, hbm⟩ := excOver_cd T.ov
  have hhd : cd.hasDict = true := by
    obtain ⟨cd', hc', hd'⟩ := any_some T.hdC
    rw [hcl] at hc'
    cases hc'
    exact hd'
  have bnd := FunD.bindsA (ps := ["self", "node"]) T.fn (fun _ _ _ _ _ _ us hl => match us, hl with | [_, _], _ => rfl) s [.ref x, v] rfl
  rw [hfd] at ho
  refine Att.call_fn (binds := [("self", .ref x), ("node", v)]) X hlim ho hcd hroom (by rw [← hfd]; exact bnd) (by first | rfl | decide | with_unfolding_all rfl) (fun s₁ IC => ?_) rfl rfl rfl
  obtain ⟨h₁, tk₁, rfl⟩ := IC.toInCall.same
  have k : ∀ b o, s.heap.get? b = some o → h₁.get? b = some o := IC.toInCall.keep
  have hn := IC.toInCall.ns
  have hxL : s.heap.objs.size ≠ x := Nat.ne_of_gt (Heap.lt_size hx)
  have X₁ : K.In h₁ := X.keeps k
  have hx₁ := k _ _ hx
  show wpAny _ _ (execs _ _) _ _ _
  refine wpAny_execs_cons (plainObj_wpAny_Assign_Attribute ?_)
  refine k07_ldC (v := v) hn (by first | rfl | with_unfolding_all rfl | kernel_rfl) (k07_ldC (v := .ref x) hn (by first | rfl | with_unfolding_all rfl | kernel_rfl) ?_)
  refine set_plain X₁ (ox := excO C t0) (od := none) ⟨hx₁, rfl, rfl, trivial⟩ T.sa ?_
  refine k07_osa X₁ hx₁ hcl hmr hbm hhd T.noN (fun h₃ tk₃ dx k₃ dn dne hx₃ hn₃ => ?_)
  show wpAny _ _ (execs _ _) _ _ _
  have z : s.heap.objs.size < h₁.objs.size := hn.lt
  exact wpAny_execs_nil (hq h₃ tk₃ dx ⟨fun b o hb e => k₃ b o hb (k b o e), hx₃, Nat.le_of_lt (Nat.lt_of_lt_of_le z dn), dne, hn₃⟩)
theorem np_made (T : NpTxt K mg C fI fdI) {v : Value} (X : K.In s.heap) (hlim : s.heap.NoLimit) (hroom : A.depth + 1 < recursionLimit)
    (hq : ∀ h' tk e d, K07Made s.heap h' e C d v → R (.ok (.ret (.ref e))) { s with heap := h', toks := tk }) :
    codeAny (model prog w) A (.call (.ref C) ⟨[v], []⟩) R s := by
  obtain ⟨nm, N, q, bs, bm, hdct, sn, sub, ab, col, dd, k0, k1, k2, k3, k5, hC, hT⟩ := excInit_of X T.mkr
  obtain ⟨hp, g, dr, tk, os⟩ := s
  have k : ∀ b o, hp.get? b = some o → ((hp.push (kdv_tup [v])).push (excO C hp.objs.size)).get? b = some o := fun b o e => Heap.get?_push_of_some _ (Heap.get?_push_of_some _ e)
  have hget : ((hp.push (kdv_tup [v])).push (excO C hp.objs.size)).get? (hp.objs.size + 1) = some (excO C hp.objs.size) := by heap_get
  refine call_own F.excBase_RuntimeError hT hC (looks_findIn X T.iC) (fun self => bind_fn X self T.tC) (k07_one_size v) ?_
  refine np_init (s := ⟨(hp.push (kdv_tup [v])).push (excO C hp.objs.size), g, dr, tk, os⟩) T (X.keeps k) (hlim.keeps k) hget ?_ fun h' tk' dx ⟨k', hx, dn, dne, hns⟩ => ?_
  · show A.depth + 1 < recursionLimit
    exact hroom
  · have old : ∀ b o, hp.get? b = some o → h'.get? b = some o := fun b o e => k' b o (Nat.ne_of_lt (Nat.lt_succ_of_lt (Heap.lt_size e))) (k b o e)
    have z : hp.objs.size + 1 + 1 ≤ dx := by
      first
        | (simpa only [Heap.size_push] using dn)
        | exact dn
        | (have q := dn; rw [Heap.size_push, Heap.size_push] at q; exact q)
    exact ⟨rfl, hq h' tk' (hp.objs.size + 1) dx ⟨old, Nat.le_succ _, ⟨_, _, hx, rfl, rfl, rfl, rfl⟩, Nat.le_trans (Nat.le_trans (Nat.le_succ _) (Nat.le_succ _)) z, dne, hns⟩⟩
end
theorem relO_np {v : V} {v' : Value} (r : RelV v v') (f : Str) : RelO (List.lookup f [(("node" : Str), v)]) (if f = "node" then some v' else none) := by
  by_cases hw : f = "node"
  · subst hw
    rw [if_pos rfl]
    have q : List.lookup ("node" : Str) [(("node" : Str), v)] = some v := by simp [List.lookup]
    rw [q]
    exact r
  · rw [if_neg hw]
    have qw : (f == ("node" : Str)) = false := by simpa using hw
    have q2 : List.lookup f [(("node" : Str), v)] = none := by simp [List.lookup, qw]
    rw [q2]
    trivial
section
variable {X : Cx} {C fI : Addr} {fdI : FuncData}
/-- NotPlane(e) -/
def tMkNp (C : Addr) (ta : TA) : L2.St → Hp → XK → Prop := fun σ H Q => ta σ H fun vs H1 => ∃ v, vs = [v] ∧ ∀ d, H1 d = none → Q (.ref C) (some d) (upd H1 d (.xd [(("node" : Str), v)]))
theorem pmk_np {a : Expr} {ta : TA} {p pos : Pos} {k : Nat} (T : NpTxt X.K X.mg C fI fdI) (hr : Room k X.A) (hk : 1 ≤ k) (ha : PA X [a] ta) (hg : Gl X "NotPlane" := by rfl)
    (he : starEach (a :: []) X.env = (false, eval a X.env) :: starEach [] X.env := by rfl) (hpl : (backTo pos (starEach [] X.env)).any (·.1) = false := by rfl) :
    PMk X (.Call (.Name "NotPlane" p) [a] [] pos) (tMkNp C ta) := by
  intro pins s σ H Q I h
  refine wpAny_Call_Name_kw (ld_glob I hg T.gC ?_)
  refine PySem.W.callWith_K (h₀ := X.base) I.ok.mod.kin T.kC (thn (ha.run pos pins s σ H _ I h) fun us s1 hh => ?_) he hpl
  obtain ⟨vs, H1, I1, r1, v, ev, q1⟩ := hh
  subst ev
  refine ⟨I1.kIn, ?_⟩
  cases r1 with
  | cons rv rn =>
    rename_i v' us'
    cases rn
    show wpAny _ _ (call (.ref C) [v']) _ _ _
    have hlim := I1.nolimit
    obtain ⟨hp, g, dr, tk, os⟩ := s1
    refine wpAny_call (np_made T I1.kIn hlim (by have := hr.dp; omega) fun h' tk' e d M => ?_)
    show MkP X pins σ Q (.ref e) ⟨h', g, dr, tk', os⟩
    obtain ⟨oe, fv, hoe, hc, hd, hdat, h1⟩ := M.obj
    have hns := M.ns
    obtain ⟨G', g1, g2⟩ := restrict h' fun b => decide (b ≠ e)
    have gk : ∀ b, b ≠ e → G'.get? b = h'.get? b := fun b hb => g1 b (decide_eq_true hb)
    have ge : G'.get? e = none := g2 e (by simp)
    have old : ∀ b o, hp.get? b = some o → G'.get? b = some o := fun b o q => (gk b (Nat.ne_of_lt (Nat.lt_of_lt_of_le (Heap.lt_size q) M.new))).trans (M.keep b o q)
    have ob : ObjOk X.prog X.w (upd H1 d (.xd [(("node" : Str), v)])) G' d (.xd [(("node" : Str), v)]) :=
      ⟨_, hns.at (fun o q => (gk d M.dne).trans q), fun f => relO_np rv f⟩
    have J : Inv X pins σ (upd H1 d (.xd [(("node" : Str), v)])) ⟨G', g, dr, tk', os⟩ := I1.laid (t' := tk') old M.dbig ob
    refine ⟨e, oe, fv, ⟨G', g, dr, tk', os⟩, _, .ref C, some d, rfl, J, fun b o q => ?_, ge, hoe, ⟨hc, hd⟩, hdat, h1, ?_, rfl, I1.bare, raises_own T.exC T.tyC, q1 d (I1.hok.fresh M.dbig)⟩
    · by_cases hb : b = e
      · have q' : G'.get? b = some o := q
        rw [hb, ge] at q'; cases q'
      · exact (gk b hb).symm.trans q
    · rw [upd_ne (Ne.symm M.dne)]
      exact I1.hok.fresh M.new
/-- raise NotPlane(e) -/
def tRaiseNp (C : Addr) (W : WX) (ta : TA) : TS := fun _ σ H => tMkNp C ta σ H fun cls d H' => W cls d σ H'
theorem ps_raiseNp {a : Expr} {ta : TA} {W : WX} {p pos pos2 : Pos} {k : Nat} (hc : X.calm = true) (T : NpTxt X.K X.mg C fI fdI) (hr : Room k X.A) (hk : 1 ≤ k) (tk : Takes X W) (ha : PA X [a] ta) (hg : Gl X "NotPlane" := by rfl)
    (he : starEach (a :: []) X.env = (false, eval a X.env) :: starEach [] X.env := by rfl) (hpl : (backTo pos (starEach [] X.env)).any (·.1) = false := by rfl) :
    PS X (.Raise (some (.Call (.Name "NotPlane" p) [a] [] pos)) none pos2) (tRaiseNp C W ta) := ps_raise hc tk (pmk_np T hr hk ha hg he hpl)
end
end K07
/-! K07X2 -/
set_option Elab.async false
set_option linter.all false
set_option maxRecDepth 100000
set_option maxHeartbeats 8000000
namespace K07
open PySem PySem.Spec PyProof.Rows L2
/-! ### f(graph = e) -/
def BindsG (fd : FuncData) : Prop := ∀ (s : Shared) (u : Value), BindsTo s fd ⟨[], [(("graph" : Str), u)]⟩ [(("graph" : Str), u)]
theorem bindsG_of {K : PySem.W.Frag} {x qual : Str} {params : Arguments} {body : List Stmt} {scope : Scope} {kws : List (Str × V)} {f : Addr} {fd : FuncData} (F : FunD K x qual params body scope [] kws f fd)
    (h : ∀ (kV doc pm : Value) (an : Option Addr) (cdv ct : Value) (u : Value), bindArgs (PySem.W.fnOf x qual params body scope .none kV doc pm an cdv ct) ⟨[], [(("graph" : Str), u)]⟩ = pure [(("graph" : Str), u)]) : BindsG fd := fun s u => by
  obtain ⟨oc, od, dV, kV, doc, pm, an, cdv, ct, osl, rfl, lk, hcd, hD, hK⟩ := F.ex
  rcases hD with ⟨_, rfl⟩ | ⟨e, _⟩
  · exact .of_eq (h kV doc pm an cdv ct u)
  · exact absurd rfl e
section
variable {X : Cx} {CX : CXT} {k : Nat} {f : Addr} {fd : FuncData} {sp : Sp} {E : L2.St → XK} {x : Str} {p pos kp : Pos} {e : Expr} {te : TE}
theorem pe_callG (F : FnOk X.prog X.w X.K X.mg X.base CX k f fd ["graph"] sp) (hr : Room k X.A) (hg : Gl X x) (hm : X.mg x = some (.ref f)) (hk : PySem.W.keepIn X.K (.ref f) = true) (hb : BindsG fd) (hx : ∀ σ, PassesAt CX X σ (E σ)) (he : PE X e te)
    (hall : (backToKw pos (keywordEach [⟨some ("graph" : Str), e, kp⟩] X.env)).all (·.1.isSome) = true := by rfl) (hks : (backToKw pos (keywordEach [⟨some ("graph" : Str), e, kp⟩] X.env)).filterMap (·.1) = [("graph" : Str)] := by rfl) (hdb : (x == ("__debug__" : Str)) = false := by decide)
    (hpl : ((backTo pos (starEach [] X.env)).any (·.1) || (backToKw pos (keywordEach [⟨some ("graph" : Str), e, kp⟩] X.env)).any (·.1.isNone)) = false := by rfl) :
    PE X (.Call (.Name x p) [] [⟨some ("graph" : Str), e, kp⟩] pos) (tCallS sp E (tCons te tNil)) := by
  refine ⟨fun pins s σ H Q I h => ?_⟩
  refine wpAny_Call_Name_kw (ld_glob I hg hm ?_ hdb)
  refine PySem.W.callWith_KW0 (h₀ := X.base) I.ok.mod.kin hk hall ?_ hpl
  refine thn ((pk_cons (nm := some ("graph" : Str)) (kpos := kp) he pk_nil).run pos pins s σ H _ I h) fun ws s2 ⟨zs, H2, I2, rz, q⟩ => ⟨I2.kIn, ?_⟩
  rw [hks]
  have hl := F.len _ _ _ _ q
  cases rz with
  | nil => cases hl
  | @cons z u zs us r1 r2 =>
    cases r2 with
    | cons _ _ => cases hl
    | nil =>
      show wpAny _ _ (call (.ref f) [] [(("graph" : Str), u)]) _ _ _
      refine wpAny_call (codeAny_mono (F.run X.A X.stack s2 H2 ⟨[], [(("graph" : Str), u)]⟩ [u] [z] Q (E σ) hr I2.env0 (hb s2 u) (.cons r1 .nil) q) fun r s' hq => ?_)
      cases r with
      | error e => exact hx σ pins H2 s2 e s' I2 hq
      | ok fl =>
        cases fl with
        | ret u => exact I2.after hq
        | next => exact False.elim hq
        | brk => exact False.elim hq
        | cont => exact False.elim hq
end
/-! ### need_plane, check_plane -/
def flaw (n : Nat) (mk : Nat → Nat) (N : Nat → Int) : List Nat := (reps mk n).filter fun s => decide (N s ≠ 2)
theorem flaw_none {n : Nat} {mk : Nat → Nat} {N : Nat → Int} (h : ∀ s ∈ reps mk n, N s = 2) : flaw n mk N = [] := List.filter_eq_nil_iff.mpr fun s hs => by
  rw [h s hs]
  decide
theorem flaw_first {n : Nat} {mk : Nat → Nat} {N : Nat → Int} {i s : Nat} (h : ∀ s ∈ (reps mk n).take i, N s = 2) (hs : (reps mk n)[i]? = some s) (hn : N s ≠ 2) : ∃ r, flaw n mk N = s :: r := by
  obtain ⟨hi, e⟩ := List.getElem?_eq_some_iff.mp hs
  have e2 : reps mk n = (reps mk n).take i ++ s :: (reps mk n).drop (i + 1) := by
    conv => lhs; rw [← List.take_append_drop i (reps mk n), List.drop_eq_getElem_cons hi, e]
  unfold flaw
  rw [e2, List.filter_append]
  have a : ((reps mk n).take i).filter (fun s => decide (N s ≠ 2)) = [] := List.filter_eq_nil_iff.mpr fun x hx => by
    rw [h x hx]
    decide
  rw [a, List.filter_cons_of_pos (by simpa using hn)]
  exact ⟨_, rfl⟩
def spNeed (C : Addr) : Sp := fun vs H Q E => ∃ (g : Addr) (G : List (List Nat)) (n m : Nat) (nx tl mk : Nat → Nat) (N : Nat → Int), vs = [.ref g] ∧ GA H g n m G nx tl ∧ Stt n m G nx tl mk N ∧
  (flaw n mk N = [] → ∀ H', Same H H' → Q .non H') ∧
  ∀ s0 r, flaw n mk N = s0 :: r → ∀ (H' : Hp) (d : Addr), Same H H' → H d = none → H' d = some (.xd [(("node" : Str), .int ((s0 : Nat) : Int))]) → E (.ref C) (some d) H'
section
variable {P : Program} {w : World} {K : PySem.W.Frag} {mg : Str → Option Value} {base : Heap} {f fC fT fO fS fL fM fB fN fI fU fK fQ fJ Cn : Addr} {fd fdC fdT fdO fdS fdL fdM fdB fdN fdI fdU fdK fdQ fdJ : FuncData}
theorem sc_need : FnScope ["graph", "part", "number"] ["graph"] (defScope s_need_plane) := ⟨rfl, rfl, rfl, by decide +kernel, rfl, by decide +kernel, by decide +kernel⟩
theorem ok_need (F : FnP K "need_plane" s_need_plane f fd) (T : Txt mg) (W : Low K mg fC fT fO fS fL fM fdC fdT fdO fdS fdL fdM) (B : Dn K mg "faces_by_component" s_faces_by_component ["graph"] fB fdB) (N : Dn K mg "numbers_of" s_numbers_of ["graph"] fN fdN)
    (I : Dn K mg "is_index" s_is_index ["value", "many"] fI fdI) (U : Dn K mg "graph_fault" s_graph_fault ["value"] fU fdU) (C : Dn K mg "check_graph" s_check_graph ["graph"] fK fdK) (Z : NpTxt K mg Cn fJ fdJ) : FnOk P w K mg base (L2.CX P w) 6 f fd ["graph"] (spNeed Cn) := by
  have GN : FnOk P w K mg base CX0 5 fN fdN ["graph"] spNums := ok_nums N.F T W B
  have GC : FnOk P w K mg base CX0 3 fK fdK ["graph"] spCheck := ok_check C.F T I U
  have GM : FnOk P w K mg base CX0 3 fM fdM ["graph"] spComp := ok_comp W.M.F T W.C W.L W.O
  refine F.ok sc_need (fun vs H Q E h => ?_) (fun cdv A outer s H vs Q E hr h => ?_)
  · obtain ⟨g, G, n, m, nx, tl, mk, N, rfl, _⟩ := h
    rfl
  · obtain ⟨g, G, n, m, nx, tl, mk, N', rfl, hg, hst, kq, ke⟩ := h
    have hr3 : Room 3 _ := hr.mono (by decide)
    refine ⟨_, pss_cons (ps_expr (pe_call GC hr3 (by rfl) C.g C.F.kp C.b .nil pass0 (pa_cons (pv 0) pa_nil)))
      (pss_one (ps_for (passes_of rfl) rfl (pi_zipS (by rfl) T.zip (pa_cons (pe_call GM hr3 (by rfl) W.M.g W.M.F.kp W.M.b .nil pass0 (pa_cons (pv 0) pa_nil)) (pa_cons (pe_call GN hr (by rfl) N.g N.F.kp N.b .nil pass0 (pa_cons (pv 0) pa_nil)) pa_nil)))
          (pg_tup rfl (pgs_cons (pg_name (i := 1) sc_need.nd rfl (.inl rfl)) (pgs_cons (pg_name (i := 2) sc_need.nd rfl (.inl rfl)) pgs_nil)))
        (pss_one (ps_if (pt_cmpR op_ne (pv 2) pe_int (nomark _))
          (pss_one (ps_raiseNp rfl Z hr (by decide) (takes_of rfl rfl rfl rfl) (by exact (pa_cons (pe_ix ix_tup (pv 1) pe_int (fun _ _ => rfl)) pa_nil)))) pss_nil)))), ?_⟩
    refine ⟨_, rfl, g, G, n, m, nx, tl, rfl, hg, fun H1 s1 => ?_⟩
    refine ⟨_, rfl, g, G, n, m, nx, tl, mk, rfl, hg.same s1, hst.mrk, fun H2 pC ca s2 pC0 hpC hca => ?_⟩
    have s02 := s1.trans s2
    refine ⟨_, rfl, g, G, n, m, nx, tl, mk, N', rfl, hg.same s02, hst, fun H3 pM s3 pM0 hpM => ?_⟩
    have s03 := s02.trans s3
    refine ⟨pC, pM, _, _, rfl, SqL.of (s3 _ _ hpC), SqL.of hpM, ?_⟩
    have hlen : ((reps mk n).map fun s => V.ref (ca s)).length = ((numL n mk N').map V.int).length := by
      unfold numL
      rw [List.length_map, List.length_map, List.length_map]
    refine for_it (walk_zipS (K := K) (a := pC) (b := pM) hlen) (fun i σ H' => ∃ (x1 x2 : Option V), σ = [some (.ref g), x1, x2] ∧ Same H3 H' ∧ ∀ s ∈ (reps mk n).take i, N' s = 2)
      ⟨none, none, rfl, Same.refl _, fun s hs => by simp at hs⟩ (fun i σ H' _ ⟨_, _, _, q, _⟩ => ⟨SqL.of (q _ _ (s3 _ _ hpC)), SqL.of (q _ _ hpM)⟩) ?_ ?_
    · rintro i x σ H4 H5 hi ⟨x1, x2, rfl, s4, hall⟩ ⟨q, a, b, rfl, hq, rfl, e1, e2⟩
      dsimp only at e1 e2
      unfold numL at e2
      rw [List.getElem?_map] at e1 e2
      rw [List.getElem?_map] at e2
      cases hs : (reps mk n)[i]? with
      | none => rw [hs] at e1; cases e1
      | some s =>
      rw [hs] at e1 e2
      obtain rfl := Option.some.inj e1
      obtain rfl := Option.some.inj e2
      have sR : s ∈ reps mk n := List.mem_of_getElem? hs
      obtain ⟨cr, hcl⟩ := cls_head hst.mrk sR
      have s5 : Same H3 (upd H4 q (.tup [.ref (ca s), .int (N' s)])) := s4.upd (s4.free hq)
      refine ⟨q, _, rfl, SqT.of upd_same, rfl, _, _, rfl, _, _, rfl, rfl, ?_⟩
      refine ⟨_, rfl, rfl, _, rfl, ?_⟩
      by_cases en : N' s = 2
      · have e : (!decide (V.int (N' s) = V.int 2)) = false := by rw [en]; rfl
        rw [e]
        refine iteF ⟨_, _, rfl, s5, fun s' hs' => ?_⟩
        rw [List.take_add_one, hs] at hs'
        rcases List.mem_append.mp hs' with z | z
        · exact hall s' z
        · have : s' = s := by simpa using z
          rw [this]
          exact en
      · have e : (!decide (V.int (N' s) = V.int 2)) = true := by
          rw [decide_eq_false fun z => en (V.int.inj z)]
          rfl
        rw [e]
        refine iteT ?_
        obtain ⟨r, hr_⟩ := flaw_first hall hs en
        refine ⟨_, rfl, ca s, _, 0, .int (s : Int), rfl, rfl, SqT.of (s5 _ _ (s3 _ _ (hca s sR))), by rw [hcl]; exact atI_nat (j := 0) rfl, _, rfl, fun d hd => ?_⟩
        have s6 := s03.trans s5
        exact ke s r hr_ _ d (s6.upd (s6.free hd)) (s6.free hd) upd_same
    · rintro σ H4 ⟨x1, x2, rfl, s4, hall⟩
      rw [List.length_map, List.take_length] at hall
      exact kq (flaw_none hall) H4 (s03.trans s4)
theorem sc_cp : FnScope ["graph"] ["graph"] (defScope s_check_plane) := ⟨rfl, rfl, rfl, by decide +kernel, rfl, by decide +kernel, by decide +kernel⟩
theorem ok_cp (F : FnP K "check_plane" s_check_plane f fd) (T : Txt mg) (W : Low K mg fC fT fO fS fL fM fdC fdT fdO fdS fdL fdM) (B : Dn K mg "faces_by_component" s_faces_by_component ["graph"] fB fdB) (N : Dn K mg "numbers_of" s_numbers_of ["graph"] fN fdN)
    (I : Dn K mg "is_index" s_is_index ["value", "many"] fI fdI) (U : Dn K mg "graph_fault" s_graph_fault ["value"] fU fdU) (C : Dn K mg "check_graph" s_check_graph ["graph"] fK fdK) (Z : NpTxt K mg Cn fJ fdJ) (D : Dn K mg "need_plane" s_need_plane ["graph"] fQ fdQ) : FnOk P w K mg base (L2.CX P w) 7 f fd ["graph"] (spNeed Cn) := by
  have GD : FnOk P w K mg base (L2.CX P w) 6 fQ fdQ ["graph"] (spNeed Cn) := ok_need D.F T W B N I U C Z
  refine F.ok sc_cp (fun vs H Q E h => ?_) (fun cdv A outer s H vs Q E hr h => ?_)
  · obtain ⟨g, G, n, m, nx, tl, mk, N, rfl, _⟩ := h
    rfl
  · obtain ⟨g, G, n, m, nx, tl, mk, N', rfl, hg, hst, kq, ke⟩ := h
    refine ⟨_, pss_one (ps_expr (pe_callS GD hr (by rfl) D.g D.F.kp D.b (E := WE (fun cls d _ H => E cls d H)) (fun σ => passAt (takes_of rfl rfl rfl rfl) σ) (pa_cons (pv 0) pa_nil))), ?_⟩
    exact ⟨_, rfl, g, G, n, m, nx, tl, mk, N', rfl, hg, hst, kq, ke⟩
end
end K07
/-! K07X3 -/
set_option Elab.async false
set_option linter.all false
set_option maxRecDepth 100000
set_option maxHeartbeats 8000000
namespace K07
open PySem PySem.Spec PyProof.Rows L2
/-! ### a caught exception that is held -/
def exK (a : Addr) (cls : Value) (d : Option Addr) : HO := .ext fun h => ∃ (oe : Obj) (vs : Array Value), h.get? a = some oe ∧ Zc cls d oe ∧ oe.data = .fields vs
theorem exK_ok {P : Program} {w : World} {H : Hp} {h : Heap} {a : Addr} {cls : Value} {d : Option Addr} {oe : Obj} {vs : Array Value} (e : h.get? a = some oe) (z : Zc cls d oe) (hd : oe.data = .fields vs) : ObjOk P w H h a (exK a cls d) :=
  ⟨⟨oe, vs, e, z, hd⟩, ⟨oe, e⟩, fun _ _ ⟨o, v, q, r⟩ k => ⟨o, v, k o q, r⟩⟩
theorem exK_at {P : Program} {w : World} {H : Hp} {h : Heap} {a : Addr} {cls : Value} {d : Option Addr} (hok : HOk P w H h) (he : H a = some (exK a cls d)) : ∃ (oe : Obj) (vs : Array Value), h.get? a = some oe ∧ Zc cls d oe ∧ oe.data = .fields vs := by
  have x : ObjOk P w H h a (.ext fun h => ∃ (oe : Obj) (vs : Array Value), h.get? a = some oe ∧ Zc cls d oe ∧ oe.data = .fields vs) := hok a _ he
  exact x.1
theorem inv_track {X : Cx} {pins : List (Addr × Obj)} {σ : L2.St} {H : Hp} {s : Shared} {a : Addr} {o : HO} (I : Inv X pins σ H s) (na : H a = none) (h0 : X.s_0.heap.get? a = none) (nL : a ≠ X.env.locals) (nC : ∀ x c, X.env.cells.lookup x = some c → c ≠ a)
    (np : ∀ p ∈ X.pn ++ pins, p.1 ≠ a) (new : ObjOk X.prog X.w (upd H a o) s.heap a o) : Inv X pins σ (upd H a o) s :=
  ⟨I.ok, I.os, I.bare, ⟨I.base.keep, I.base.slot, fun b ob e n hx => by
      rw [upd_ne (fun z => by rw [z, h0] at e; cases e)]
      exact I.base.free b ob e n hx, I.base.there, fun b xs e => by
      have q := I.base.tups b xs e
      rw [upd_ne (ne_of_none q na)]
      exact q, fun b ob u e => by
      have q := I.base.frzs b ob u e
      rw [upd_ne (ne_of_none q na)]
      exact q, fun b ps e => by
      obtain ⟨more, q⟩ := I.base.tbls b ps e
      exact ⟨more, by rw [upd_ne (ne_of_none q na)]; exact q⟩⟩,
    I.loc, I.cell, by rw [upd_ne nL.symm]; exact I.free, fun x c e => by rw [upd_ne (nC x c e)]; exact I.freeC x c e,
    fun p hp => by
      obtain ⟨h1, h2, h3⟩ := I.pin p hp
      exact ⟨h1, by rw [upd_ne (np p hp)]; exact h2, h3⟩,
    I.hok.laidN (fun _ _ z => z) na new, I.len⟩
theorem fly_keeps {base : Heap} {l : List Env} {e : Addr} {Z : Obj → Prop} {h h' : Heap} (R : HandSPX.FlyingZ base l e Z h) (k : ∀ b o, h.get? b = some o → h'.get? b = some o) : HandSPX.FlyingZ base l e Z h' := by
  obtain ⟨f1, f2, f3, oe, ws, T, oT, ts, he, hc, hd, h1, hn, hne, hT, hdT, h3⟩ := R
  exact ⟨fun b o q => k b o (f1 b o q), f2, f3.of_keeps fun b o q _ => ⟨o, k b o q, rfl⟩, oe, ws, T, oT, ts, k _ _ he, hc, hd, h1, hn, hne, k _ _ hT, hdT, h3⟩
/-- what «except (x1, x2, x3) as n» wishes of an exception that is of theirs; the exception is held afterwards -/
def wNp (K : PySem.W.Frag) (cs : List Value) (len i : Nat) (ts : Addr → Value → Option Addr → TS) (D : Ends) : WX := fun cls d σ H =>
  PySem.W.exmAny K cls cs = some true ∧ ∀ a, H a = none → σ.length = len → ts a cls d { nx := fun σ' H' => D.nx (σ'.set i none) (upd H' a (exK a cls d)), rt := fun _ _ => False, bk := fun _ _ => False, ct := fun _ _ => False } (σ.set i (some (.ref a))) H
section
variable {X : Cx} {x1 x2 x3 n : Str} {c1 c2 c3 : Value} {i : Nat} {body suite : List Stmt} {b₀ : Stmt} {p1 p2 p3 tpos pos pos' : Pos} {kk : Nat} {tb : WX → TS} {ts : Addr → Value → Option Addr → TS}
theorem ps_try_np (hs : X.stack = X.env :: X.outer) (hf : X.env.frame = some X.env.locals) (hex : X.ex = []) (hN : X.N.Nodup) (hi : X.N[i]? = some n) (hln : X.env.kindOf n = some .local) (hc1 : Names X x1 c1) (hc2 : Names X x2 c2) (hc3 : Names X x3 c3)
    (hb : ∀ (W : WX) (pn : List (Addr × Obj)) (xe : Value → Shared → Prop), Takes (X.tr pn xe) W → PassesOwn (model X.prog X.w) X.A X.env xe → PSs (X.tr pn xe) body (tb W))
    (hsu : ∀ (a : Addr) (oe : Obj) (cls : Value) (d : Option Addr) (pn : List (Addr × Obj)), Zc cls d oe → (∃ vs, oe.data = .fields vs) → PSs (X.suite a ((a, oe) :: pn)) (b₀ :: suite) (ts a cls d)) :
    PS X (.Try body [.ExceptHandler (some (.Tuple [.Name x1 p1, .Name x2 p2, .Name x3 p3] kk tpos)) (some n) (b₀ :: suite) pos'] [] [] pos) (fun D σ H => tb (wNp X.K [c1, c2, c3] X.N.length i ts D) D σ H) := by
  refine ⟨fun pins s σ H D I h => ?_⟩
  have ok := I.ok
  have hfr : X.A.frames = some (X.env :: X.outer) := by rw [ok.frames, hs]
  have hloc : Loc X.env.scope n := .inl hln
  refine wpAny_Try_except ?_
  refine wpAny_mono ((hb (wNp X.K [c1, c2, c3] X.N.length i ts D) (X.pn ++ pins) (fun e s₁ => wpAny (model X.prog X.w) X.A (noteFrame e X.env) (fun _ s₂ => wpAny (model X.prog X.w) X.A (setFlight e none) (fun _ s₃ =>
    wpAny (model X.prog X.w) X.A (handleBy e X.env [.ExceptHandler (some (.Tuple [.Name x1 p1, .Name x2 p2, .Name x3 p3] kk tpos)) (some n) (b₀ :: suite) pos']) (SP X pins D) X.xe s₃) X.xe s₂) X.xe s₁) (fun u s' xx => ?_) PassesOwn.looking).run [] s σ H D (I.toTry _) h) (fun f s1 hsp => ?_) (fun e s1 he => he)
  · obtain ⟨a, B, sI, pins', σ', H', cls, d, rfl, J', nb, up, sky, na, os, ag, hb1, hyes⟩ := xx
    have J : Inv X pins σ' H' sI := J'.ofTry ok
    have sky' : Sky B (X.env :: X.outer) a (Zc cls d) X.env.locals s'.heap := by rw [← hs]; exact sky
    show wpAny (model X.prog X.w) X.A (noteFrame (.ref a) X.env) _ _ _
    refine Sky.land Zc.steady hfr hf sky' fun h3 fl3 up3 => ?_
    have J3 : Inv X pins σ' H' { s' with heap := h3 } := J.landed nb fl3.1 (up.trans up3) os ag
    obtain ⟨oe3, vs3, he3, hz3, hd3⟩ := fl3.there
    have notFr : ∀ {h : Heap} {o : Obj} {vs : Array Value}, h.FunFrames B (X.env :: X.outer) → h.get? a = some o → o.data = .fields vs → a ∉ frs (X.env :: X.outer) := fun {h o vs} ff e dd hm => by
      obtain ⟨_, o', e', hnf⟩ := ff.mem hm
      rw [e] at e'; cases e'
      exact hnf _ dd
    have nfr := notFr fl3.2.2.1 he3 hd3
    have nL : a ≠ X.env.locals := fun z => nfr (List.mem_filterMap.mpr ⟨X.env, List.mem_cons_self, by rw [hf, z]⟩)
    have nF : a ∉ X.fs := fun hm => by
      obtain ⟨e, he, q⟩ := List.mem_filterMap.mp hm
      exact nfr (List.mem_filterMap.mpr ⟨e, List.mem_cons_of_mem _ he, q⟩)
    -- it was not there when the body's rule last knew the heap
    have nI : sI.heap.get? a = none := by
      cases e : sI.heap.get? a with
      | none => rfl
      | some o =>
        have q := nb a o e (by rw [hs]; exact nfr)
        rw [fl3.2.1] at q
        cases q
    have n0 : X.s_0.heap.get? a = none := by
      cases e : X.s_0.heap.get? a with
      | none => rfl
      | some o =>
        obtain ⟨o', q⟩ := J.base.there a o e (by rw [hex]; simp)
        rw [nI] at q
        cases q
    have nCe : ∀ x c, X.env.cells.lookup x = some c → c ≠ a := fun x c e z => by
      obtain ⟨v, o, q, _⟩ := J.cell x c e
      rw [z, nI] at q
      cases q
    have nP : ∀ p ∈ X.pn ++ pins, p.1 ≠ a := fun p hp z => by
      have q := (J.pin p hp).1
      rw [z, nI] at q
      cases q
    have S3 := J3.suite he3 hd3 na nL nF
    refine wpAny_handleBy_cons (codeAny_handlers_test ?_) (by intro q; cases q)
    have LT : PySem.W.Looks (model X.prog X.w) h3 (typeOf (.ref a)) cls := fun A Q E s k q => wpAny_typeOf_ref (k _ _ he3) (by rw [hz3.1]; exact q)
    have test : ∀ {x : Str} {c : Value} {np : Pos} {Q : Value → Shared → Prop} {E : Value → Shared → Prop}, Names X x c → Q c { s' with heap := h3 } → wpAny (model X.prog X.w) (X.A.mark (some (.ref a))) (eval (.Name x np) X.env) Q E { s' with heap := h3 } := fun {x c np Q E} hc q => by
      obtain ⟨hg, hdbg, hm | ⟨hm, hv, hnn⟩⟩ := hc
      · exact ld_glob (X := X.suite a ((a, oe3) :: (X.pn ++ pins))) S3 hg hm q hdbg
      · exact ld_blt (X := X.suite a ((a, oe3) :: (X.pn ++ pins))) S3 hg hm hv q hnn hdbg
    refine wpAny_Tuple ?_
    refine wpAny_items_cons (test hc1 ?_)
    refine wpAny_items_cons (test hc2 ?_)
    refine wpAny_items_cons (test hc3 ?_)
    refine wpAny_items_nil ⟨by size_fits, ?_⟩
    have kp : ∀ q o, h3.get? q = some o → (h3.push { cls := .type "tuple", data := .seq [c1, c2, c3].toArray }).get? q = some o := fun _ _ z => Heap.get?_push_of_some _ z
    refine (PySem.W.exm_tup3 (M := model X.prog X.w) ((J3.kIn).keeps kp) (LT.keeps kp) (Heap.get?_push_size h3 rfl) hb1).here ?_
    have fl3' := fly_keeps fl3 kp
    have up3' : h3.UpToSlots (h3.push { cls := .type "tuple", data := .seq [c1, c2, c3].toArray }) := Heap.UpToSlots.of_keeps kp
    refine codeAny_handlers_suite_as ?_
    refine HandSPX.lands_againZ fl3' fun h4 fl4 up4 => ?_
    have J4 : Inv X pins σ' H' { s' with heap := h4 } := J.landed nb fl4.1 (((up.trans up3).trans up3').trans up4) os ag
    obtain ⟨oe4, vs4, he4, hz4, hd4⟩ := fl4.there
    have S4 := J4.suite he4 hd4 na nL nF
    refine store_ok (X := X.suite a ((a, oe4) :: (X.pn ++ pins))) (v := .ref a) S4 hN hi hloc rfl (fun s5 S5 => ?_) (.inr hln)
    refine wpAny_mono ((hsu a oe4 cls d (X.pn ++ pins) hz4 ⟨_, hd4⟩).run [] s5 _ H' _ S5 (hyes a na J.len)) (fun f s6 hsp => ?_) (fun _ _ z => False.elim z)
    cases f with
    | next =>
      obtain ⟨σ6, H6, S6, q6⟩ := hsp
      refine gone_ok (X := X.suite a ((a, oe4) :: (X.pn ++ pins))) S6 hN hi hln fun s7 S7 => ?_
      obtain ⟨e7, n7, _⟩ := S7.pin (a, oe4) (List.mem_append_left _ List.mem_cons_self)
      exact ⟨_, _, inv_track (S7.unsuite ok) n7 n0 nL nCe nP (exK_ok e7 hz4 hd4), q6⟩
    | brk =>
      obtain ⟨σ6, H6, S6, q6⟩ := hsp
      exact q6.elim
    | cont =>
      obtain ⟨σ6, H6, S6, q6⟩ := hsp
      exact q6.elim
    | ret u =>
      obtain ⟨v6, σ6, H6, S6, r6, q6⟩ := hsp
      exact q6.elim
  · cases f with
    | next =>
      obtain ⟨σ', H', J', q⟩ := hsp
      exact wpAny_execs_nil ⟨σ', H', J'.ofTry ok, q⟩
    | brk =>
      obtain ⟨σ', H', J', q⟩ := hsp
      exact ⟨σ', H', J'.ofTry ok, q⟩
    | cont =>
      obtain ⟨σ', H', J', q⟩ := hsp
      exact ⟨σ', H', J'.ofTry ok, q⟩
    | ret u =>
      obtain ⟨v, σ', H', J', r, q⟩ := hsp
      exact ⟨v, σ', H', J'.ofTry ok, r, q⟩
end
end K07
/-! K07X4 -/
set_option Elab.async false
set_option linter.all false
set_option maxRecDepth 100000
set_option maxHeartbeats 8000000
namespace K07
open PySem PySem.Spec PyProof.Rows L2
/-! ### isinstance(e, NotPlane), e.node, e held -/
structure NpIs (K : PySem.W.Frag) (C : Addr) : Prop where
  cl : (PySem.W.clsIn K C).isSome = true
  ha : PySem.W.findIn K (.ref C) "__class__" = some (some (.builtin "object.__class__"))
  hn : PySem.W.specialIn K (.builtin "object.__class__") "__get__" = some (some (.builtin "getset_descriptor.__get__"))
  ht : PySem.W.takesIn K (.builtin "object.__class__") = some true
  hm : PySem.W.mroIn K C (.type "object") = some true
theorem np_inst {X : Cx} {pins : List (Addr × Obj)} {σ : L2.St} {H : Hp} {s : Shared} {a C dd : Addr} {fs : List (Str × V)} (I : Inv X pins σ H s) (ea : H a = some (exK a (.ref C) (some dd))) (ed : H dd = some (.xd fs)) :
    ∃ (oe od : Obj) (mA : Str → Option Value), PySem.W.InstAt s.heap a oe C (some od) ∧ (∀ f, RelO (fs.lookup f) (mA f)) ∧ ∀ f, PySem.W.lookIn f od = some (mA f) := by
  obtain ⟨oe, vs, he, hz, hd⟩ := exK_at I.hok ea
  have hx : ObjOk X.prog X.w H s.heap dd (.xd fs) := I.hok dd _ ed
  obtain ⟨mA, hns, hr⟩ := hx
  obtain ⟨od, ho, hl⟩ := lookIn_ns hns
  exact ⟨oe, od, mA, ⟨he, hz.1, by unfold PySem.W.notCls; rw [hd] <;> rfl, by rw [hz.2]; exact ho⟩, hr, fun f => hl f⟩
def rIsN (C : Addr) : List V → Hp → VK → Prop := fun xs H Q => ∃ (a dd : Addr) (fs : List (Str × V)), xs = [.ref a, .ref C] ∧ H a = some (exK a (.ref C) (some dd)) ∧ H dd = some (.xd fs) ∧ Q (.bl true) H
section
variable {X : Cx} {C fI : Addr} {fdI : FuncData}
theorem call_isN (T : NpTxt X.K X.mg C fI fdI) (N : NpIs X.K C) : CallR X (.builtin "isinstance") (rIsN C) := by
  intro pins s σ H xs us Q I r h
  obtain ⟨a, dd, fs, rfl, ea, ed, q⟩ := h
  obtain ⟨u1, u2, rfl, r1, r2⟩ := vals2 r
  cases (show u1 = Value.ref a from r1)
  cases (show u2 = Value.ref C from r2)
  obtain ⟨oe, od, mA, J, _, _⟩ := np_inst I ea ed
  have e : PySem.W.kitOne X.K (.ref C) (.ref C) = some true := by
    unfold PySem.W.kitOne
    rw [if_pos (beq_self_eq_true _)]
  exact PySem.W.kia_one (PySem.W.kitx_exc N.cl T.ga T.gg T.exC N.ha N.hn N.ht N.hm) I.kIn J e (fun z => nomatch z) fun tk => ⟨.bl true, H, I.kept (t' := tk) fun _ _ z => z, rfl, q⟩
def tNode (C : Addr) (te : TE) : TE := fun σ H Q => te σ H fun x H1 => ∃ (a dd : Addr) (fs : List (Str × V)) (v : V), x = .ref a ∧ H1 a = some (exK a (.ref C) (some dd)) ∧ H1 dd = some (.xd fs) ∧ fs.lookup ("node" : Str) = some v ∧ Q v H1
theorem pe_node {e : Expr} {te : TE} {pos : Pos} (T : NpTxt X.K X.mg C fI fdI) (he : PE X e te) (hb : attributeBase e "node" X.env (eval e X.env) = eval e X.env := by rfl) : PE X (.Attribute e "node" pos) (tNode C te) := by
  refine ⟨fun pins s σ H Q I h => ?_⟩
  refine attr_of hb (thn (he.run pins s σ H _ I h) fun u s1 hh => ?_)
  obtain ⟨x, H1, I1, rx, a, dd, fs, v, ex, ea, ed, l, q⟩ := hh
  subst ex
  obtain rfl : u = Value.ref a := rx
  obtain ⟨oe, od, mA, J, hr, hl⟩ := np_inst I1 ea ed
  obtain ⟨u, hu, ru⟩ := RelO.some_of (v := v) (o := mA "node") (by rw [← l]; exact hr "node")
  exact HandSPX.exc_get I1.kIn J T.ga T.gg T.exC (PySem.W.findObj_own T.hdC T.noN rfl (by rw [hl, hu])) (handed_of ru) ⟨v, H1, I1.tok _, ru, q⟩
end
/-! ### _law_kinds -/
def spKinds (C : Addr) : Sp := fun vs H Q _ => ∃ (a dd : Addr) (v : V), vs = [.ref a] ∧ H a = some (exK a (.ref C) (some dd)) ∧ H dd = some (.xd [(("node" : Str), v)]) ∧
  ∀ (H' : Hp) (l t : Addr), Same H H' → H' l = some (.lst [.ref t]) → H' t = some (.tup [.str "NotPlane", .bl true, v]) → Q (.ref l) H'
section
variable {P : Program} {w : World} {K : PySem.W.Frag} {mg : Str → Option Value} {base : Heap} {f fJ fY Cn : Addr} {fd fdJ fdY : FuncData}
theorem sc_kinds : FnScope ["_law_caught"] ["_law_caught"] (defScope s_law_kinds) := ⟨rfl, rfl, rfl, by decide +kernel, rfl, by decide +kernel, by decide +kernel⟩
theorem ok_kinds (F : FnP K "_law_kinds" s_law_kinds f fd) (T : Txt mg) (Z : NpTxt K mg Cn fJ fdJ) (N : NpIs K Cn) : FnOk P w K mg base CX0 1 f fd ["_law_caught"] (spKinds Cn) := by
  refine F.ok sc_kinds (fun vs H Q E h => ?_) (fun cdv A outer s H vs Q E hr h => ?_)
  · obtain ⟨a, dd, v, rfl, _⟩ := h
    rfl
  · obtain ⟨a, dd, v, rfl, ea, ed, k⟩ := h
    refine ⟨_, PSs.nox (pss_one (ps_ret (pe_ifExp (pt_val (pe_callB (call_isN Z N) (by rfl) T.isinstance (by decide +kernel) (pa_cons (pv 0) (pa_cons (pe_glob (v := .ref Cn) (by rfl) Z.gC rfl) pa_nil))))
      (pe_lst (pa_cons (pe_tup (pa_cons pe_str (pa_cons pe_bl (pa_cons (pe_node Z (pv 0)) pa_nil)))) pa_nil)) (pe_lst pa_nil)))), ?_⟩
    refine ⟨_, rfl, a, dd, _, rfl, ea, ed, _, rfl, ?_⟩
    refine iteT ⟨_, rfl, a, dd, _, v, rfl, ea, ed, by simp [List.lookup], by show 3 ≤ sizeLine; decide, fun t ht => ?_⟩
    refine ⟨by show 1 ≤ sizeLine; decide, fun l hl => ?_⟩
    have e1 : Same H (upd H t (.tup [.str "NotPlane", .bl true, v])) := Same.new ht
    exact k _ l t (e1.upd (e1.free hl)) upd_same (Same.new hl _ _ upd_same)
end
end K07
/-! K07X5 -/
set_option Elab.async false
set_option linter.all false
set_option maxRecDepth 100000
set_option maxHeartbeats 8000000
namespace K07
open PySem PySem.Spec PyProof.Rows L2 LamX
/-! ### _law_told -/
abbrev nTo : List Str := ["_law_call", "_law_caught", "_law_result", "error", "_law_word", "_law_kind", "_law_field"]
theorem sc_told : FnScope nTo ["_law_call"] (defScope s_law_told) := ⟨rfl, rfl, rfl, by decide +kernel, rfl, by decide +kernel, by decide +kernel⟩
def npE (C : Addr) (Q : VK) : XK := fun cls d H1 => ∃ (dd : Addr) (v : V), cls = .ref C ∧ d = some dd ∧ H1 dd = some (.xd [(("node" : Str), v)]) ∧ ∀ (H' : Hp) (t : Addr), Same H1 H' → H' t = some (.tup [.str "NotPlane", v]) → Q (.ref t) H'
def npQ (Q : VK) : VK := fun v H1 => v = .non ∧ ∀ (H' : Hp) (l : Addr), Same H1 H' → H' l = some (.lst [.non]) → Q (.ref l) H'
def TTn (C : Addr) : (XK → Hp → VK → Prop) → Hp → VK → Prop := fun tl H Q => ∀ Hs, Same H Hs → ∀ (E : XK) (Q1 : VK), (∀ cls d H1, npE C Q cls d H1 → E cls d H1) → (∀ v H1, npQ Q v H1 → Q1 v H1) → tl E Hs Q1
structure Hand (mg : Str → Option Value) (K : PySem.W.Frag) (C c1 c2 c3 : Addr) : Prop where
  g1 : mg "InvalidValue" = some (.ref c1)
  g2 : mg "InvalidState" = some (.ref c2)
  g3 : mg "LimitReached" = some (.ref c3)
  ex : PySem.W.exmAny K (.ref C) [.ref c1, .ref c2, .ref c3] = some true
theorem told_np {X : Cx} {g fJ fY Cn c1 c2 c3 : Addr} {fdJ fdY : FuncData} {cdg : Value} {q : Str} (T : Txt X.mg) (Z : NpTxt X.K X.mg Cn fJ fdJ) (N : NpIs X.K Cn) (Y : Dn X.K X.mg "_law_kinds" s_law_kinds ["_law_caught"] fY fdY) (Hc : Hand X.mg X.K Cn c1 c2 c3)
    (hr : Room 2 X.A) : GivesTo X nTo "_law_told" (defScope s_law_told) g cdg (defBody s_law_told) "_law_call" q (TTn Cn) := by
  intro f c' s H Q tl act hc h
  have GY : FnOk X.prog X.w X.K X.mg X.base CX0 1 fY fdY ["_law_caught"] (spKinds Cn) := ok_kinds Y.F T Z N
  refine ⟨_, pss_cons (ps_asg (pe_tup (pa_cons pe_non (pa_cons pe_non pa_nil))) (pg_tup rfl (pgs_cons (pg_name (i := 1) sc_told.nd rfl (.inl rfl)) (pgs_cons (pg_name (i := 2) sc_told.nd rfl (.inl rfl)) pgs_nil))))
    (pss_cons (ps_try_np (i := 3) (c1 := .ref c1) (c2 := .ref c2) (c3 := .ref c3)
        (tb := fun W D σ H => ∃ Ech : XK, (∀ cls d σ' H', Ech cls d H' → W cls d σ' H') ∧ σ[0]? = some (some (.ref f)) ∧ H c' = some (CodeO c' q) ∧ tl Ech H (fun v H1 => gName 2 v σ H1 D.nx))
        rfl rfl rfl sc_told.nd rfl rfl ⟨by rfl, by decide, .inl Hc.g1⟩ ⟨by rfl, by decide, .inl Hc.g2⟩ ⟨by rfl, by decide, .inl Hc.g3⟩
        (fun W pn xe tk _ => ?_) (fun a oe cls d pn _ _ => pss_one (ps_set (i := 1) sc_told.nd rfl (.inl rfl) (pv 3))))
    (pss_cons (ps_if (pt_cmp (pc_isN (pv 1))) (pss_one (ps_ret (pe_lst (pa_cons (pv 2) pa_nil)))) pss_nil)
    (pss_cons (ps_for PassesOwn.never rfl (pi_list (pe_call GY (hr.deeper _) (by rfl) Y.g Y.F.kp Y.b .nil pass0 (pa_cons (pv 1) pa_nil))) (pg_tup rfl (pgs_cons (pg_name (i := 4) sc_told.nd rfl (.inl rfl)) (pgs_cons (pg_name (i := 5) sc_told.nd rfl (.inl rfl)) (pgs_cons (pg_name (i := 6) sc_told.nd rfl (.inl rfl)) pgs_nil))))
      (pss_one (ps_if (pt_val (pv 5)) (pss_one (ps_ret (pe_tup (pa_cons (pv 4) (pa_cons (pv 6) pa_nil))))) pss_nil)))
    (pss_one (ps_ret pe_str))))), ?_⟩
  · refine ⟨fun pins s' σ H' D I h' => ?_⟩
    obtain ⟨Ech, hW, h1, h2, h3⟩ := h'
    exact (pss_one (ps_set (i := 2) sc_told.nd rfl (.inl rfl) (act W pn xe Ech _ _ tk hW))).run pins s' σ H' D I ⟨h1, h2, h3⟩
  · refine ⟨by show 2 ≤ sizeLine; decide, fun t0 ht0 => ?_⟩
    have e0 : Same H (upd H t0 (.tup [.non, .non])) := Same.new ht0
    refine ⟨t0, _, rfl, SqT.of upd_same, rfl, _, _, rfl, _, _, rfl, rfl, ?_⟩
    refine ⟨npE Cn Q, ?_, rfl, e0 _ _ hc, h _ e0 _ _ (fun _ _ _ z => z) fun v H1 hv => ?_⟩
    · rintro cls d σ' H1 ⟨dd, v, rfl, rfl, hdd, hk⟩
      refine ⟨Hc.ex, fun a na hl => ?_⟩
      match σ', hl with
      | [z0, z1, z2, z3, z4, z5, z6], _ =>
        refine ⟨_, rfl, ?_⟩
        have nad : dd ≠ a := ne_of_none hdd na
        refine ⟨_, rfl, _, rfl, ?_⟩
        refine iteF ?_
        refine ⟨_, rfl, a, dd, v, rfl, upd_same, by rw [upd_ne nad]; exact hdd, fun H2 l t s2 hl ht => ?_⟩
        have s12 : Same H1 H2 := (Same.new na).trans s2
        refine ⟨l, rfl, ⟨_, SqL.of hl⟩, for_list (K := X.K) (a := l) (xs := [.ref t]) (fun j σ H' => j = 0 ∧ H' = H2 ∧ ∃ w0 w1 w2 w3 w4 w5 w6, σ = [w0, w1, w2, w3, w4, w5, w6]) ⟨rfl, rfl, _, _, _, _, _, _, _, rfl⟩ (fun j σ H' _ ⟨_, e, _⟩ => by rw [e]; exact SqL.of hl) ?_ ?_⟩
        · rintro j x σ H' hx ⟨rfl, rfl, w0, w1, w2, w3, w4, w5, w6, rfl⟩
          cases hx
          refine ⟨t, _, rfl, SqT.of ht, rfl, _, _, rfl, _, _, rfl, _, _, rfl, rfl, ?_⟩
          refine ⟨_, rfl, _, rfl, ?_⟩
          refine iteT ⟨_, rfl, _, rfl, by show 2 ≤ sizeLine; decide, fun t2 ht2 => ?_⟩
          exact hk _ t2 (s12.upd (s12.free ht2)) upd_same
        · rintro σ H' ⟨e, _⟩
          cases e
    · obtain ⟨rfl, hk⟩ := hv
      refine ⟨_, rfl, _, rfl, ?_⟩
      refine iteT ⟨_, rfl, by show 1 ≤ sizeLine; decide, fun l hl => ?_⟩
      exact hk _ l (Same.new hl) upd_same
end K07
/-! K07X6 -/
set_option Elab.async false
set_option linter.all false
set_option maxRecDepth 100000
set_option maxHeartbeats 8000000
namespace K07
open PySem PySem.Spec PyProof.Rows L2
/-! ### set(a list of ints) -/
section
variable {P : Program} {w : World} {A : Around} {E : Value → Shared → Prop} {s : Shared}
set_option maxRecDepth 100000 in
set_option maxHeartbeats 3200000 in
theorem k07_set_list {l : Addr} {items : Array Value} (ns : List Int) {Q : Value → Shared → Prop} (hh : A.handled = none) (hl : s.heap.IsList l items) (hit : IntsAre items.toList ns) (hb : ns.length + 1 < scanBound)
    (h : ∀ (h' : Heap) (tk c : Nat), SetR w h' s.heap.objs.size (fun j => decide (j ∈ ns)) c → c ≤ ns.length → (∀ b o, s.heap.get? b = some o → h'.get? b = some o) → Q (.ref s.heap.objs.size) { s with heap := h', toks := tk }) :
    wpAny (model P w) A (call (.type "set") [.ref l]) Q E s := by
  have hisz : items.size = ns.length := by
    have q := IntsAre.length hit
    rw [Array.length_toList] at q
    exact q
  obtain ⟨c, tl, hmro⟩ := F.called_set.mro
  have hmade := F.called_set.made
  have hsub := F.called_set.sub
  refine wpAny_call (codeAny_of_tree ?_)
  show wpAny _ _ (callAny (.type "set") _) _ _ _
  refine wpAny_pure ⟨Code.quiet_builtin _ (by decide +kernel), codeAny_builtin F.entry_type_call ?_⟩
  rw [Around.under_plain (weight_type_call_type "set" [.ref l] []) rfl]
  have h1 := F.called_set.notType
  have h2 := F.called_set.canCreate
  have hct := F.typeCall_set_1 (.ref l)
  repeat (any_goals (first | assumption | wp_step))

  refine codeAny_mono (code_set_led1 (.ref l) (E := E) (Q₁ := fun obj s₁ => obj = .ref s.heap.objs.size ∧ s₁ = { s with heap := s.heap.push { cls := .type "set", dict := none, data := .set #[] 0 (.fresh 0 0 (!w.params.followText "set-order")) } }) ⟨rfl, rfl⟩) fun r s₁ hr => ?_
  cases r with
  | error e => exact hr
  | ok fl =>
    cases fl with
    | ret obj =>
      obtain ⟨rfl, rfl⟩ := hr
      have hS : (s.heap.push { cls := .type "set", dict := none, data := .set #[] 0 (.fresh 0 0 (!w.params.followText "set-order")) }).get? s.heap.objs.size = some { cls := .type "set", dict := none, data := .set #[] 0 (.fresh 0 0 (!w.params.followText "set-order")) } := Heap.get?_push_size _ rfl
      have hT : Shared.TypeIs { s with heap := s.heap.push { cls := .type "set", dict := none, data := .set #[] 0 (.fresh 0 0 (!w.params.followText "set-order")) } } (.ref s.heap.objs.size) "set" := ⟨_, hS, rfl⟩
      have hli := F.called_set.init.lookup
      have hbi := F.called_set.init.bind (.ref s.heap.objs.size)
      repeat (any_goals (first | assumption | wp_step))

      refine codeAny_mono (codeAny_call_builtin (R := wants (fun r s₂ => r = .none ∧ ∃ h' tk c, s₂ = { s with heap := h', toks := tk } ∧ SetR w h' s.heap.objs.size (fun j => decide (j ∈ ns)) c ∧ c ≤ ns.length ∧
          (∀ b o, s.heap.get? b = some o → h'.get? b = some o)) E) F.called_set.init.plain F.entry_set_init (check_set_init_1 hT ?_)) fun r₂ s₂ hr₂ => ?_
      · obtain ⟨ol, hol, hcl, nl, hdl⟩ := hl
        obtain ⟨ocls, odict, odata, oslots⟩ := ol
        simp only at hcl hdl
        subst hcl; subst hdl
        have hol' : (s.heap.push { cls := .type "set", dict := none, data := .set #[] 0 (.fresh 0 0 (!w.params.followText "set-order")) }).get? l = some { cls := .type "list", dict := odict, data := .seq items nl, slots := oslots } := Heap.get?_push_of_some _ hol
        have hsls := PySem.F.sub_list_set
        have hslf := PySem.F.sub_list_frozenset
        have hne : (Value.type "list" == Value.type "dict") = false := by decide
        have hl1 : (s.heap.push { cls := .type "set", dict := none, data := .set #[] 0 (.fresh 0 0 (!w.params.followText "set-order")) }).IsList l items := ⟨_, hol', rfl, nl, rfl⟩
        unfold Builtin.«set.__init__» noKeywords Builtin.Frozenset.updateFrom
        generalize hPI : pyIter = PI
        wp_walk
        subst hPI

        refine wpAny_pyIter_list hl1 ?_
        refine wpAny_bind (wpAny_runValue ?_)
        have hlS : l < s.heap.objs.size := Heap.lt_size hol
        have hh3 : A.in1.in1.in1.handled = none := by simp [hh]
        have hneI : l ≠ (s.heap.push { cls := .type "set", dict := none, data := .set #[] 0 (.fresh 0 0 (!w.params.followText "set-order")) }).objs.size := by
          rw [Heap.size_push]; exact Nat.ne_of_lt (Nat.lt_succ_of_lt hlS)
        have hSf : s.heap.objs.size ∉ [(s.heap.push { cls := .type "set", dict := none, data := .set #[] 0 (.fresh 0 0 (!w.params.followText "set-order")) }).objs.size, l] := by
          rw [Heap.size_push]; simp only [List.mem_cons, List.mem_singleton, List.not_mem_nil, or_false, not_or]
          exact ⟨Nat.ne_of_lt (Nat.lt_succ_self _), Nat.ne_of_gt hlS⟩
        have hval : ∀ (i : Nat) (v : Value), items[i]? = some v → ∃ k t, ns[i]? = some k ∧ v = .int k t := fun i v hv => by
          have hi : i < ns.length := by rw [← hisz]; exact (Array.getElem?_eq_some_iff.mp hv).1
          obtain ⟨t, e⟩ := PyProof.Rows.IntsAre.int_at hit i v (by rw [Array.getElem?_toList]; exact hv)
          refine ⟨ns[i], t, List.getElem?_eq_getElem hi, ?_⟩
          rw [e, List.getD_eq_getElem?_getD, List.getElem?_eq_getElem hi] <;> rfl
        refine set_update_ints ((Walks.list hh3 _ l hneI items).toS) s.heap.objs.size
          hSf ns hisz hb hval (items.size - 0) 0 _ (by omega) (Nat.zero_le _)
          ⟨⟨_, Heap.get?_push_size _ rfl, rfl, rfl⟩, (hl1.push _)⟩ ?hS0 ?hR
        case hS0 =>
          have hget : ((s.heap.push { cls := .type "set", dict := none, data := .set #[] 0 (.fresh 0 0 (!w.params.followText "set-order")) }).push { cls := .type "list_iterator", data := .fields #[.ref l, .int 0 0] }).get? s.heap.objs.size
              = some { cls := .type "set", dict := none, data := .set #[] 0 (.fresh 0 0 (!w.params.followText "set-order")) } := Heap.get?_push_of_some _ hS
          exact ⟨0, Nat.le_refl 0, setR_new_at hget⟩
        case hR =>
          intro s' c' hm hc' hS'
          obtain ⟨h', g2, d', tk', os'⟩ := s'
          have eg : g2 = s.gens := hm.gens
          have ed : d' = s.drawn := hm.drawn
          have eo : os' = s.os := hm.os
          subst eg; subst ed; subst eo
          show wpAny _ _ _ _ _ _
          refine wpAny_pure ?_
          show wpAny _ _ (ret Value.none) _ _ _
          rw [hisz] at hc'
          refine wpAny_pure ⟨rfl, h', tk', c', rfl, hS', hc', fun b o e => ?_⟩
          have hb0 : b < s.heap.objs.size := Heap.lt_size e
          have hb1 : b ≠ s.heap.objs.size := Nat.ne_of_lt hb0
          have hb2 : b ≠ (s.heap.push { cls := .type "set", dict := none, data := .set #[] 0 (.fresh 0 0 (!w.params.followText "set-order")) }).objs.size := by
            rw [Heap.size_push]; exact Nat.ne_of_lt (Nat.lt_succ_of_lt hb0)
          exact hm.heap b o (by simp only [List.mem_cons, List.mem_singleton, List.not_mem_nil, or_false, not_or]; exact ⟨hb1, hb2⟩) (Heap.get?_push_of_some _ (Heap.get?_push_of_some _ e))
      · cases r₂ with
        | error e => exact hr₂
        | ok fl₂ =>
          cases fl₂ with
          | ret r =>
            obtain ⟨rfl, h', tk, c', rfl, hS', hc', hk'⟩ := hr₂
            repeat (any_goals (first | assumption | wp_step))
            exact h _ _ _ hS' hc' hk'
          | _ => exact hr₂.elim
    | _ => exact hr.elim
end
def rSetL (K : PySem.W.Frag) (w : World) : List V → Hp → VK → Prop := fun xs H Q => ∃ (a : Addr) (ns : List Int), xs = [.ref a] ∧ SqL K H a (ns.map V.int) ∧ ns.length + 1 < scanBound ∧
  ∀ (p : Addr) (c : Nat), c ≤ ns.length → H p = none → Q (.ref p) (upd H p (SetO w p (fun j => decide (j ∈ ns)) c))
section
variable {X : Cx}
theorem cr_setL (hc : X.calm = true) : CallR X (.type "set") (rSetL X.K X.w) := by
  intro pins s σ H xs us Q I r h
  obtain ⟨a, ns, rfl, hs, hb, q⟩ := h
  obtain ⟨its, rv, hl, _⟩ := I.list hs
  rw [Vals.ref1 r]
  refine k07_set_list ns (I.ok.hd hc) hl.isList (by simpa using rv.ints) hb fun h' tk c R hle k => ?_
  exact ⟨.ref _, upd H s.heap.objs.size (SetO X.w s.heap.objs.size (fun j => decide (j ∈ ns)) c), I.laid (t' := tk) k (Nat.le_refl _) (setO_new R), rfl, q _ c hle (I.hok.fresh (Nat.le_refl _))⟩
/-- repr(a tuple of small ints) -/
def rReprT (K : PySem.W.Frag) : List V → Hp → VK → Prop := fun xs H Q => ∃ (a : Addr) (ns : List Int), xs = [.ref a] ∧ SqT K H a (ns.map V.int) ∧ (∀ z ∈ ns, z.natAbs < 1000) ∧ ns.length ≤ 100 ∧ Q (.str (PyData.shown (.tuple (zD ns)))) H
theorem showable_z : ∀ {ns : List Int}, (∀ z ∈ ns, z.natAbs < 1000) → PyData.showableAll (zD ns) = true
  | [], _ => rfl
  | z :: ns, h => by
    show (decide (z.natAbs.log2 < 1920) && PyData.showableAll (zD ns)) = true
    have h1 := h z (by simp)
    have e : z.natAbs.log2 < 1920 := by
      by_cases h0 : z.natAbs = 0
      · rw [h0]; decide
      · exact Nat.lt_of_lt_of_le ((Nat.log2_lt h0).mpr (show z.natAbs < 2 ^ 10 by omega)) (by decide)
    rw [decide_eq_true e, showable_z fun x hx => h x (List.mem_cons_of_mem _ hx)]
    rfl
theorem noDict_z : ∀ ns : List Int, PyData.hasDictAll (zD ns) = false
  | [] => rfl
  | z :: ns => by
    show (false || PyData.hasDictAll (zD ns)) = false
    rw [noDict_z ns]
    rfl
end
end K07
/-! K07X7 -/
set_option Elab.async false
set_option linter.all false
set_option maxRecDepth 100000
set_option maxHeartbeats 8000000
namespace K07
open PySem PySem.Spec PyProof.Rows L2
theorem piled_z : ∀ {ns : List Int}, (∀ z ∈ ns, z.natAbs < 1000) → piled (PyData.shownAll (zD ns)) ≤ ns.length * 1010
  | [], _ => Nat.le_refl _
  | z :: ns, h => by
    have ih := piled_z (ns := ns) fun x hx => h x (List.mem_cons_of_mem _ hx)
    have h1 := h z (by simp)
    have h2 := PyProof.Rows.len_str_of_int z
    show piled (Str.ofString (toString z) :: PyData.shownAll (zD ns)) ≤ _
    rw [piled_cons, List.length_cons]
    omega
theorem len_z {ns : List Int} (h : ∀ z ∈ ns, z.natAbs < 1000) (hl : ns.length ≤ 100) : (PyData.shown (.tuple (zD ns))).length ≤ sizeLine := by
  show (tupleText (PyData.shownAll (zD ns))).length ≤ sizeLine
  have a := fmt_text (PyData.shownAll (zD ns))
  have b := piled_z h
  rw [sizeLine_eq]
  have : ns.length * 1010 ≤ 100 * 1010 := Nat.mul_le_mul_right _ hl
  omega
section
variable {X : Cx}
theorem cr_reprT (hg : X.A.guards = some []) (hu : X.A.units + 70 < cLine) : CallR X (.builtin "repr") (rReprT X.K) := by
  intro pins s σ H xs us Q I r h
  obtain ⟨a, ns, rfl, ht, hz, hl, q⟩ := h
  rw [Vals.ref1 r]
  obtain ⟨as, rd⟩ := Dp.reads I (.tuple (zD ns)) (.ref a) (.ref a) (Dp.tup ht (dpAll_z ns)) rfl
  refine repr_of_reads' rd (showable_z hz) (fun z => ?_) hg ?_ (fun _ _ e => e) (fun h' u tk k => ⟨.str _, H, I.kept (t' := tk) k, ⟨u, rfl⟩, q⟩) (len_z hz hl)
  · have z' : PyData.hasDictAll (zD ns) = true := z
    rw [noDict_z] at z'
    cases z'
  · have e : PyData.depth (.tuple (zD ns)) = 1 := by
      show PyData.depthAll (zD ns) + 1 = 1
      rw [depZ]
    rw [e]
    omega
end
/-! ### defs that ask that no repr is under way -/
structure FnG (P : Program) (w : World) (K : PySem.W.Frag) (mg : Str → Option Value) (base : Heap) (k : Nat) (f : Addr) (fd : FuncData) (ps : List Str) (sp : Sp) : Prop where
  len : ∀ vs H Q E, sp vs H Q E → vs.length = ps.length
  run : ∀ (A : Around) (outer : List Env) (s : Shared) (H : Hp) (args : Args) (us : List Value) (vs : List V) (Q : VK) (E : XK), Room k A → A.guards = some [] → Env0 P w K mg base A outer s H → BindsTo s fd args (ps.zip us) → Vals vs us → sp vs H Q E →
    codeAny (model P w) A (.call (.ref f) args) (CR CX0 outer P w H s Q E) s
section
variable {P : Program} {w : World} {K : PySem.W.Frag} {mg : Str → Option Value} {base : Heap} {x qual : Str} {params : Arguments} {body : List Stmt} {scope : Scope} {dvs : List V} {kws : List (Str × V)} {f : Addr} {fd : FuncData}
theorem okG {N ps : List Str} {k : Nat} {sp : Sp} (F : FunD K x qual params body scope dvs kws f fd) (S : FnScope N ps scope) (len : ∀ vs H Q E, sp vs H Q E → vs.length = ps.length)
    (hbody : ∀ (A : Around) (outer : List Env) (s : Shared) (H : Hp) (vs : List V) (Q : VK) (E : XK), Room k (A.deeper (envOfC qual scope s.heap.objs.size f fd.code)) → A.guards = some [] → sp vs H Q E →
      ∃ t, PSs (cxOf CX0 P w K mg base N qual scope f fd.code A outer s H E) body t ∧ t { nx := fun _ H' => Q .non H', rt := Q } (L2.start N vs) H) : FnG P w K mg base (k + 1) f fd ps sp := by
  obtain ⟨oc, od, dV, kV, doc, pm, an, cdv, ct, osl, rfl, lk, hcd, _, _⟩ := F.ex
  exact ⟨len, fun A outer s H args us vs Q E hr hg e0 hb r h => LamX.run_ofS lk hcd S hr e0 hb r (len _ _ _ _ h) fun hr' => hbody A outer s H vs Q E hr' hg h⟩
end
section
variable {X : Cx} {k : Nat} {f : Addr} {fd : FuncData} {ps : List Str} {sp : Sp} {x : Str} {p pos : Pos} {e : Expr} {es : List Expr} {t : TA}
theorem pe_callFnG (F : FnG X.prog X.w X.K X.mg X.base k f fd ps sp) (hr : Room k X.A) (hgd : X.A.guards = some []) (hg : Gl X x) (hm : X.mg x = some (.ref f)) (hk : PySem.W.keepIn X.K (.ref f) = true) (hb : Binds X.K fd ps [])
    (ha : PA X (e :: es) t) (hdb : (x == ("__debug__" : Str)) = false := by decide) (he : starEach (e :: es) X.env = (false, eval e X.env) :: starEach es X.env := by rfl) (hpl : (backTo pos (starEach es X.env)).any (·.1) = false := by rfl) :
    PE X (.Call (.Name x p) (e :: es) [] pos) (tCallS sp (fun _ _ _ _ => False) t) := by
  refine ⟨fun pins s σ H Q I h => ?_⟩
  refine wpAny_Call_Name_kw (ld_glob I hg hm ?_ hdb)
  refine PySem.W.callWith_K (h₀ := X.base) I.ok.mod.kin hk (thn (ha.run pos pins s σ H _ I h) fun us s1 ⟨vs, H1, I1, r, q⟩ => ⟨I1.kIn, ?_⟩) he hpl
  have hl : us.length = ps.length := by rw [← r.length]; exact F.len _ _ _ _ q
  have b := hb s1 us I1.kIn (by rw [List.append_nil]; exact hl)
  rw [List.append_nil] at b
  refine wpAny_call (codeAny_mono (F.run X.A X.stack s1 H1 ⟨us, []⟩ us vs Q _ hr hgd I1.env0 b r q) fun r s' hq => ?_)
  cases r with
  | error e => exact (show False from hq).elim
  | ok fl =>
    cases fl with
    | ret u => exact I1.after hq
    | next => exact False.elim hq
    | brk => exact False.elim hq
    | cont => exact False.elim hq
end
end K07
/-! K07L6 -/
set_option Elab.async false
set_option linter.all false
set_option maxRecDepth 100000
set_option maxHeartbeats 1500000
namespace K07
open PySem PySem.Spec PyProof.Rows L2 LamX
/-! ### _law_right -/
/-- the defs and the class that stand -/
structure Ds (K : PySem.W.Frag) (mg : Str → Option Value) where
  fI : Addr
  fU : Addr
  fK : Addr
  fC : Addr
  fT : Addr
  fO : Addr
  fS : Addr
  fL : Addr
  fM : Addr
  fB : Addr
  fN : Addr
  fQ : Addr
  fA : Addr
  fV : Addr
  fR : Addr
  fJ : Addr
  fY : Addr
  fG : Addr
  Cn : Addr
  c1 : Addr
  c2 : Addr
  c3 : Addr
  fdI : FuncData
  fdU : FuncData
  fdK : FuncData
  fdC : FuncData
  fdT : FuncData
  fdO : FuncData
  fdS : FuncData
  fdL : FuncData
  fdM : FuncData
  fdB : FuncData
  fdN : FuncData
  fdQ : FuncData
  fdA : FuncData
  fdV : FuncData
  fdR : FuncData
  fdJ : FuncData
  fdY : FuncData
  fdG : FuncData
  T : Txt mg
  W : Low K mg fC fT fO fS fL fM fdC fdT fdO fdS fdL fdM
  I : Dn K mg "is_index" s_is_index ["value", "many"] fI fdI
  U : Dn K mg "graph_fault" s_graph_fault ["value"] fU fdU
  C : Dn K mg "check_graph" s_check_graph ["graph"] fK fdK
  B : Dn K mg "faces_by_component" s_faces_by_component ["graph"] fB fdB
  N : Dn K mg "numbers_of" s_numbers_of ["graph"] fN fdN
  D : Dn K mg "need_plane" s_need_plane ["graph"] fQ fdQ
  A : Dn K mg "plane_numbers" s_plane_numbers ["graph"] fA fdA
  Ag : BindsG fdA
  V : Dn K mg "is_plane" s_is_plane ["graph"] fV fdV
  Vg : BindsG fdV
  R : Dn K mg "check_plane" s_check_plane ["graph"] fR fdR
  Rg : BindsG fdR
  Y : Dn K mg "_law_kinds" s_law_kinds ["_law_caught"] fY fdY
  G : Dn K mg "_law_told" s_law_told ["_law_call"] fG fdG
  Z : NpTxt K mg Cn fJ fdJ
  Is : NpIs K Cn
  Ha : Hand mg K Cn c1 c2 c3
section
variable {P : Program} {w : World} {K : PySem.W.Frag} {mg : Str → Option Value} {base : Heap}
theorem Ds.okA (d : Ds K mg) : FnOk P w K mg base CX0 6 d.fA d.fdA ["graph"] spPlane := ok_pn d.A.F d.T d.W d.B d.N d.I d.U d.C
theorem Ds.okV (d : Ds K mg) : FnOk P w K mg base CX0 6 d.fV d.fdV ["graph"] spIsPlane := ok_ip d.V.F d.T d.W d.B d.N d.I d.U d.C
theorem Ds.okR (d : Ds K mg) : FnOk P w K mg base (L2.CX P w) 7 d.fR d.fdR ["graph"] (spNeed d.Cn) := ok_cp d.R.F d.T d.W d.B d.N d.I d.U d.C d.Z d.D
def qR : Str := (envOfC "_law_right" (defScope s_law_right) 0 0 .none).qual ++ "<lambda>"
def spRight (P : Addr) : Sp := fun vs H Q _ => ∃ (pR pM pN : Addr) (rr : Nat → Addr) (G : List (List Nat)) (n m : Nat) (nx tl mk : Nat → Nat) (N : Nat → Int), vs = [.ref pR, .ref pM, .ref pN] ∧ LR H pR pM pN rr n G mk N ∧ Stt n m G nx tl mk N ∧ n ≤ 7 ∧ m ≤ 9 ∧ Tabs [(P, qR)] H ∧
  ∀ H', ExtN H H' → Tabs [(P, qR)] H' → Q (.bl true) H'
def rTupOf (K : PySem.W.Frag) : List V → Hp → VK → Prop := fun xs H Q => ∃ p ys, xs = [.ref p] ∧ ((SqL K H p ys ∧ ∀ l, H l = none → Q (.ref l) (upd H l (.tup ys))) ∨ (SqT K H p ys ∧ Q (.ref p) H))
theorem pass00 {X : Cx} {E : L2.St → XK} : ∀ σ, PassesAt CX0 X σ (E σ) := fun _ _ _ _ _ _ _ h => h.elim
theorem order_reps {n m : Nat} {tl mk : Nat → Nat} (hm : Mk n m tl mk) {ns : List Int} (hp : ns.Pairwise (· < ·)) (h : ∀ k : Int, k ∈ ns ↔ decide (k ∈ (((List.range n).map mk).map fun (d : Nat) => (d : Int))) = true) : ns = (reps mk n).map fun (d : Nat) => (d : Int) := by
  have nd : ns.Nodup := hp.imp fun h => by omega
  have nr : ((reps mk n).map fun (d : Nat) => (d : Int)).Nodup := by
    refine List.nodup_iff_pairwise_ne.mpr ?_
    rw [List.pairwise_map]
    exact (reps_sorted mk n).imp fun h => by omega
  refine sort_one ((List.perm_ext_iff_of_nodup nd nr).mpr fun k => ?_) (hp.imp fun h => by omega) (reps_sorted mk n)
  rw [h k, decide_eq_true_iff, List.mem_map, List.mem_map]
  constructor
  · rintro ⟨d, hd, rfl⟩
    obtain ⟨v, hv, rfl⟩ := List.mem_map.mp hd
    have vn := List.mem_range.mp hv
    exact ⟨mk v, mem_reps.mpr ⟨Nat.lt_of_le_of_lt (hm.lt v vn) vn, hm.id v vn⟩, rfl⟩
  · rintro ⟨d, hd, rfl⟩
    obtain ⟨a, b⟩ := mem_reps.mp hd
    exact ⟨d, List.mem_map.mpr ⟨d, List.mem_range.mpr a, b⟩, rfl⟩
theorem all_flaw (n : Nat) (mk : Nat → Nat) (N : Nat → Int) : ((numL n mk N).all fun z => decide (z = 2)) = (flaw n mk N).isEmpty := by
  unfold numL flaw
  rw [List.all_map]
  induction reps mk n with
  | nil => rfl
  | cons s l ih =>
    rw [List.all_cons, ih]
    by_cases h : N s = 2
    · rw [List.filter_cons_of_neg (by simp [h])]
      show (decide (N s = 2) && _) = _
      rw [decide_eq_true h]
      rfl
    · rw [List.filter_cons_of_pos (by simp [h])]
      show (decide (N s = 2) && _) = _
      rw [decide_eq_false h]
      rfl
theorem num_small {n m : Nat} {G : List (List Nat)} {nx tl mk : Nat → Nat} {N : Nat → Int} (h : Stt n m G nx tl mk N) (n7 : n ≤ 7) (m9 : m ≤ 9) : ∀ z ∈ numL n mk N, z.natAbs < 1000 := by
  intro z hz
  obtain ⟨s, hs, rfl⟩ := List.mem_map.mp hz
  obtain ⟨a, b⟩ := mem_reps.mp hs
  obtain ⟨D, hD, _⟩ := h.num
  obtain ⟨e, e1, e2⟩ := (h.num' hD a b).at_
  have c1 : szc n mk s ≤ 7 := by
    rw [szc_cls]
    exact Nat.le_trans (cls_len n mk s) n7
  have c2 : cnt (fun d => mk (tl d)) s D ≤ 18 := by
    have q1 : cnt (fun d => mk (tl d)) s D ≤ D.length := List.countP_le_length
    have q2 := dlen hD.ne
    have q3 := nodup_len hD.nd fun d hd => (hD.mem d).mp hd
    omega
  have c3 : emp G s ≤ 1 := by
    unfold emp b1
    split <;> omega
  have c4 : dgc n G mk s ≤ 126 := by
    rw [dgc_cls]
    have q1 : ∀ l : List Nat, (l.map (dg G)).sum ≤ l.length * 18 := fun l => by
      induction l with
      | nil => simp
      | cons x l ih =>
        have q2 : dg G x ≤ 18 := by
          unfold dg
          by_cases hx : x < G.length
          · have hr : G[x]? = some G[x] := List.getElem?_eq_getElem hx
            rw [getD_of hr]
            have := nodup_len (nodup_of_mem h.gr.hg.nd (List.mem_of_getElem? hr)) fun d hd => (h.gr.hg.mem d).mp (List.mem_flatten.mpr ⟨_, List.mem_of_getElem? hr, hd⟩)
            omega
          · rw [List.getD_eq_getElem?_getD, List.getElem?_eq_none (by omega)]
            simp
        rw [List.map_cons, List.sum_cons, List.length_cons]
        omega
    have := q1 (cls n mk s)
    have := cls_len n mk s
    omega
  rw [e2]
  omega
theorem numL_len (n : Nat) (mk : Nat → Nat) (N : Nat → Int) : (numL n mk N).length ≤ n := by
  unfold numL
  rw [List.length_map]
  exact reps_len mk n
/-- what is told of the drawing -/
def TV (H : Hp) (fl : List Nat) (v : V) : Prop := (fl = [] ∧ ∃ l, v = .ref l ∧ H l = some (.lst [.non])) ∨ ∃ (s0 : Nat) (r : List Nat) (t : Addr), fl = s0 :: r ∧ v = .ref t ∧ H t = some (.tup [.str "NotPlane", .int ((s0 : Nat) : Int)])
def dTV : List Nat → PyData
  | [] => .list [.none]
  | s0 :: _ => .tuple [.str "NotPlane", .int ((s0 : Nat) : Int)]
theorem TV.dp {H : Hp} {fl : List Nat} {v : V} (h : TV H fl v) : Dp K H v (dTV fl) := by
  rcases h with ⟨rfl, l, rfl, hl⟩ | ⟨s0, r, t, rfl, rfl, ht⟩
  · exact Dp.lst (SqL.of hl) (.cons .non .nil)
  · exact Dp.tup (SqT.of ht) (.cons (.str _) (.cons (.int _) .nil))
theorem TV.ext {H H' : Hp} {fl : List Nat} {v : V} (h : TV H fl v) (e : ExtN H H') : TV H' fl v := by
  rcases h with ⟨rfl, l, rfl, hl⟩ | ⟨s0, r, t, rfl, rfl, ht⟩
  · exact .inl ⟨rfl, l, rfl, e _ _ hl (by intro ps z; cases z)⟩
  · exact .inr ⟨s0, r, t, rfl, rfl, e _ _ ht (by intro ps z; cases z)⟩
theorem GrT.ext {H H' : Hp} {g : Addr} {G : List (List Nat)} (h : GrT H g G) (e : ExtN H H') : GrT H' g G := by
  obtain ⟨ra, h1, h2⟩ := h.ex
  exact ⟨ra, e _ _ h1 (by intro ps z; cases z), fun i r q => e _ _ (h2 i r q) (by intro ps z; cases z)⟩
theorem tabs_upd {T : List (Addr × Str)} {H : Hp} {p : Addr} {xs : List V} {o : HO} (t : Tabs T H) (hp : H p = some (.lst xs)) : Tabs T (upd H p o) := fun q hq => by
  obtain ⟨ps, h1, h2, h3⟩ := t q hq
  refine ⟨ps, by rw [upd_ne (ne_of h1 hp (by intro z; cases z))]; exact h1, h2, fun pos cv hc => ?_⟩
  obtain ⟨c, e1, e2⟩ := h3 pos cv hc
  refine ⟨c, e1, ?_⟩
  rw [upd_ne (ne_of e2 hp (by
    intro z
    have z' : HO.ext _ = HO.lst xs := z
    cases z'))]
  exact e2
theorem told_use {T : List (Addr × Str)} {C g : Addr} {G : List (List Nat)} {n m : Nat} {nx tl mk : Nat → Nat} {N : Nat → Int} {σ : L2.St} {H : Hp} {QQ : VK} (hσ : σ[3]? = some (some (.ref g))) (hg : GrT H g G) (hst : Stt n m G nx tl mk N) (n7 : n ≤ 7) (m9 : m ≤ 9) (hT : Tabs T H)
    (rest : ∀ v H1, ExtN H H1 → Tabs T H1 → TV H1 (flaw n mk N) v → QQ v H1) : tLam T (TTn C) (fun E => tCallS (spNeed C) (WE (fun cls d _ H => E cls d H)) (tCons (tVar 3) tNil)) σ H QQ := by
  refine ⟨hT, fun H1 e1 T1 Hs ss E Q1 hE hQ => ?_⟩
  refine ⟨.ref g, hσ, g, G, n, m, nx, tl, mk, N, rfl, ⟨(hg.ext e1).same ss, hst.gr, n7, m9⟩, hst, fun hf H2 s2 => hQ _ _ ⟨rfl, fun H3 l s3 hl => ?_⟩, fun s0 r hf H2 d s2 hd0 hd => hE _ _ _ ⟨d, _, rfl, rfl, hd, fun H3 t s3 ht => ?_⟩⟩
  · exact rest _ _ (e1.trans (ExtN.of ((ss.trans s2).trans s3))) (T1.ext ((ss.trans s2).trans s3)) (.inl ⟨hf, l, rfl, hl⟩)
  · exact rest _ _ (e1.trans (ExtN.of ((ss.trans s2).trans s3))) (T1.ext ((ss.trans s2).trans s3)) (.inr ⟨s0, r, t, hf, rfl, ht⟩)
theorem eqv_TV (fl : List Nat) : PyData.eqv (.list [dTV fl, dTV fl]) (.list [dTV fl, dTV fl]) = true := by
  cases fl with
  | nil => rfl
  | cons s0 r =>
    show (((("NotPlane" : Str) == ("NotPlane" : Str)) && ((((s0 : Nat) : Int) == ((s0 : Nat) : Int)) && true)) && (((("NotPlane" : Str) == ("NotPlane" : Str)) && ((((s0 : Nat) : Int) == ((s0 : Nat) : Int)) && true)) && true)) = true
    simp
theorem sh_TV (fl : List Nat) : SeqAt.shaped (.list [dTV fl, dTV fl]) = true := by
  cases fl with
  | nil => rfl
  | cons s0 r =>
    have e : PyData.canLay0 (.str "NotPlane") = true := by decide +kernel
    have e2 : PyData.canLay0 (.list [dTV (s0 :: r), dTV (s0 :: r)]) = ((PyData.canLay0 (.str "NotPlane") && (true && true)) && ((PyData.canLay0 (.str "NotPlane") && (true && true)) && true)) := rfl
    show (PyData.canLay0 (.list [dTV (s0 :: r), dTV (s0 :: r)]) && decide (PyData.depth (.list [dTV (s0 :: r), dTV (s0 :: r)]) ≤ 64)) = true
    rw [e2, e]
    rfl
abbrev nRi : List Str := ["_law_rotations", "_law_marks", "_law_numbers", "_law_drawing", "_law_order", "_law_due", "_law_flawed", "_law_told_here", "_law_row", "_law_mark"]
theorem sc_right : FnScope nRi ["_law_rotations", "_law_marks", "_law_numbers"] (defScope s_law_right) := ⟨rfl, rfl, rfl, by decide +kernel, rfl, by decide +kernel, by decide +kernel⟩
theorem ok_right {f : Addr} {fd : FuncData} {c Pt : Addr} (F : FnP K "_law_right" s_law_right f fd) (d : Ds K mg) (hcd : fd.code = .ref c) (TB : TabB base mg c Pt) : FnG P w K mg base 10 f fd ["_law_rotations", "_law_marks", "_law_numbers"] (spRight Pt) := by
  refine okG F sc_right (fun vs H Q E h => ?_) (fun A outer s H vs Q E hr hgd h => ?_)
  · obtain ⟨pR, pM, pN, rr, G, n, m, nx, tl, mk, N, rfl, _⟩ := h
    rfl
  · obtain ⟨pR, pM, pN, rr, G, n, m, nx, tl, mk, N, rfl, hl, hst, n7, m9, hT, k⟩ := h
    have hu := hu_of hr
    have T := d.T
    have hr6 : Room 6 _ := hr.mono (j := 6) (by decide)
    obtain ⟨oc, od, dV, kV, doc, pm, an, cdv, ct, osl, hfdG, lkG, hcG, hdG, hkG⟩ := d.G.F.ex
    have lkG' : K.lookup d.fG = some ⟨oc, od, .func (PySem.W.fnOf "_law_told" "_law_told" (defArgs s_law_told) (defBody s_law_told) (defScope s_law_told) dV kV doc pm an cdv ct), osl⟩ := by rw [← hfdG]; exact lkG
    have bG' : L2.Binds K (PySem.W.fnOf "_law_told" "_law_told" (defArgs s_law_told) (defBody s_law_told) (defScope s_law_told) dV kV doc pm an cdv ct) ["_law_call"] [] := by rw [← hfdG]; exact d.G.b
    have GA_ : FnOk P w K mg base CX0 6 d.fA d.fdA ["graph"] spPlane := d.okA
    have GV_ : FnOk P w K mg base CX0 6 d.fV d.fdV ["graph"] spIsPlane := d.okV
    have GR_ : FnOk P w K mg base (L2.CX P w) 7 d.fR d.fdR ["graph"] (spNeed d.Cn) := d.okR
    have hr9 : Room 9 _ := hr
    have hu70 : (A.deeper (envOfC "_law_right" (defScope s_law_right) s.heap.objs.size f fd.code)).units + 70 < cLine := by have := hr.un; omega
    refine ⟨_, PSs.nox (pss_cons (ps_asg (pe_tup (pa_cons (pe_callTy call_tuple_of (by rfl) T.tuple (by decide +kernel) (pa_cons
          (pe_lc (own := [("_law_row", 8)]) (g := gName 8) (tt := tYes) rfl sc_right.nd (pi_list (pv 0)) (blkOk_by (N := nRi) (sc := defScope s_law_right) (by decide +kernel))
            (fun _ _ _ _ _ => pg_name (i := 8) sc_right.nd rfl (.inl rfl)) (fun _ _ _ _ _ => pts_nil) (fun _ _ _ _ _ => pe_callTy (r := rTupOf K) call_tuple_of (by rfl) T.tuple (by decide +kernel) (pa_cons (pv 8) pa_nil))) pa_nil))
          (pa_cons (pe_callB (r := rSortedSet w) (cr_sortedSet rfl) (by rfl) T.sorted (by decide +kernel) (pa_cons (pe_callTy (r := rSetL K w) (cr_setL rfl) (by rfl) T.set (by decide +kernel) (pa_cons (pv 1) pa_nil)) pa_nil)) pa_nil)))
        (pg_tup rfl (pgs_cons (pg_name (i := 3) sc_right.nd rfl (.inr rfl)) (pgs_cons (pg_name (i := 4) sc_right.nd rfl (.inl rfl)) pgs_nil))))
      (pss_cons (ps_set (i := 5) sc_right.nd rfl (.inl rfl) (pe_callTy call_tuple_of (by rfl) T.tuple (by decide +kernel) (pa_cons
          (pe_lc (own := [("_law_mark", 9)]) (g := gName 9) (tt := tYes) rfl sc_right.nd (pi_list (pv 4)) (blkOk_by (N := nRi) (sc := defScope s_law_right) (by decide +kernel))
            (fun _ _ _ _ _ => pg_name (i := 9) sc_right.nd rfl (.inl rfl)) (fun _ _ _ _ _ => pts_nil) (fun _ _ _ _ _ => pe_dget hu (pv 2) (pv 9) (fun _ _ => rfl))) pa_nil)))
      (pss_cons (ps_if (PW.pt (pw_or (pt_cmpR op_ne (pe_callB (cr_reprT hgd hu70) (by rfl) T.repr (by decide +kernel) (pa_cons (pe_call GA_ hr6 (by rfl) d.A.g d.A.F.kp d.A.b .nil pass0 (pa_cons (pv 3) pa_nil)) pa_nil))
            (pe_callB (cr_reprT hgd hu70) (by rfl) T.repr (by decide +kernel) (pa_cons (pv 5) pa_nil)) (nomark _))
          (pw_or1 (pt_cmpR (op_neD hr.units) (pe_callG (E := fun _ _ _ _ => False) GA_ hr6 (by rfl) d.A.g d.A.F.kp d.Ag pass00 (pv 3)) (pv 5) (nomark _))))) (pss_one (ps_ret pe_bl)) pss_nil)
      (pss_cons (ps_setLc (i := 6) (own := [("_law_mark", 9)]) (g := gName 9) rfl sc_right.nd rfl rfl (sw_true rfl rfl rfl (by decide +kernel)) (pi_list (pv 4)) (blkOk_by (N := nRi) (sc := defScope s_law_right) (by decide +kernel))
          (fun _ _ _ _ _ => pg_name (i := 9) sc_right.nd rfl (.inl rfl)) (fun _ _ _ _ _ => pts_one (pt_cmpR (r := rNe) op_ne (pe_dget hu (pv 2) (pv 9) (fun _ _ => rfl)) pe_int (nomark _))) (fun _ _ _ _ _ => pv 9))
      (pss_cons (ps_if (pt_cmpR (op_neD hr.units) (pe_lst (pa_cons (pe_call GV_ hr6 (by rfl) d.V.g d.V.F.kp d.V.b .nil pass0 (pa_cons (pv 3) pa_nil)) (pa_cons (pe_callG (E := fun _ _ _ _ => False) GV_ hr6 (by rfl) d.V.g d.V.F.kp d.Vg pass00 (pv 3)) pa_nil)))
          (pe_op op_rep (pe_lst (pa_cons (pe_cmpR (op_eqD hr.units) (pv 6) (pe_lst pa_nil) (nomark _)) pa_nil)) pe_int) (nomark _)) (pss_one (ps_ret pe_bl)) pss_nil)
      (pss_cons (ps_set (i := 7) sc_right.nd rfl (.inl rfl) (pe_lst (pa_cons (pe_lamcall (T := [(Pt, qR)]) (k := 7) (Ng := nTo) (t := fun E => tCallS (spNeed d.Cn) (WE (fun cls d _ H => E cls d H)) (tCons (tVar 3) tNil)) (by rfl) d.G.g d.G.F.kp lkG' hcG bG' sc_told rfl (.inl rfl)
          (told_np (q := qR) T d.Z d.Is d.Y d.Ha (hr9.mono (j := 2) (by decide))) TB hcd (by exact List.mem_cons_self) (by intro p hp _; cases hp with
            | head => rfl
            | tail _ h => cases h) hr9 (by exact lamS_by (sc := defScope s_law_right) (by decide +kernel)) (by rfl) (by intro _ _ _ _ _; rfl)
          (fun A outer s H E f c' hr7 => pe_callS GR_ hr7 (by rfl) d.R.g d.R.F.kp d.R.b (fun σ => passAt (takes_of rfl rfl rfl rfl) σ) (pa_cons (pv 3) pa_nil))) pa_nil)))
      (pss_cons (ps_expr (pe_bm PySem.F.plainAttrs_list PySem.F.slot_list_append PySem.F.type_list_append mt_append (pv 7) (pa_cons
          (pe_lamcall (T := [(Pt, qR)]) (k := 7) (Ng := nTo) (t := fun E => tCallS (spNeed d.Cn) (WE (fun cls d _ H => E cls d H)) (tCons (tVar 3) tNil)) (by rfl) d.G.g d.G.F.kp lkG' hcG bG' sc_told rfl (.inl rfl)
          (told_np (q := qR) T d.Z d.Is d.Y d.Ha (hr9.mono (j := 2) (by decide))) TB hcd (by exact List.mem_cons_self) (by intro p hp _; cases hp with
            | head => rfl
            | tail _ h => cases h) hr9 (by exact lamS_by (sc := defScope s_law_right) (by decide +kernel)) (by rfl) (by intro _ _ _ _ _; rfl)
          (fun A outer s H E f c' hr7 => pe_callG GR_ hr7 (by rfl) d.R.g d.R.F.kp d.Rg (fun σ => passAt (takes_of rfl rfl rfl rfl) σ) (pv 3))) pa_nil)))
      (pss_one (ps_ret (pe_cmpR (op_eqD hr.units) (pv 7) (pe_op op_rep (pe_lst (pa_cons (pe_ifExp (pt_cmpR (op_neD hr.units) (pv 6) (pe_lst pa_nil) (nomark _))
          (pe_tup (pa_cons pe_str (pa_cons (pe_ix ix_list (pv 6) pe_int (fun _ _ => rfl)) pa_nil))) (pe_lst (pa_cons pe_non pa_nil))) pa_nil)) pe_int) (nomark _))))))))))), ?_⟩
    have ln := hst.gr.len
    have hm := hst.mrk
    have lR : (reps mk n).length ≤ 7 := Nat.le_trans (reps_len mk n) n7
    have nsm := num_small hst n7 m9
    have nln : (numL n mk N).length ≤ 7 := Nat.le_trans (numL_len n mk N) n7
    -- drawing
    refine ⟨_, rfl, pR, rfl, ⟨_, SqL.of hl.rot.at_⟩, fun D hD => ?_⟩
    refine lc_list (K := K) (a := pR) (xs := rowsV G.length rr) (fun i H' => Same H H' ∧ RwL H' D (G.take i)) ⟨Same.new hD, ⟨fun _ => 0, upd_same, fun i r q => by simp at q⟩⟩ (fun i H' _ c => SqL.of (c.1 _ _ hl.rot.at_)) ?_ ?_
    · rintro i x H' hi ⟨c1, c2⟩
      obtain ⟨hlt, rfl⟩ := rowsV_get hi
      have hr1 : G[i]? = some G[i] := List.getElem?_eq_getElem hlt
      refine ⟨rfl, ?_⟩
      refine ⟨_, rfl, rr i, nV G[i], rfl, .inl ⟨SqL.of (c1 _ _ (hl.rot.row i _ hr1)), fun t ht => ?_⟩⟩
      have e1 : Same H' (upd H' t (.tup (nV G[i]))) := Same.new ht
      obtain ⟨xs, a1, a2⟩ := c2.len
      refine ⟨xs, e1 _ _ a1, ?_, (c1.trans e1).upd hD, ?_⟩
      · rw [a2, List.length_take]
        exact sz_lt (by omega)
      · rw [List.take_add_one, hr1]
        exact c2.push e1 upd_same (e1 _ _ a1)
    rintro H1 ⟨s1, c2⟩
    rw [rowsV_len, List.take_of_length_le (Nat.le_refl _)] at c2
    obtain ⟨ra, b1_, b2_⟩ := c2.ex
    refine ⟨D, _, rfl, .inl ⟨SqL.of b1_, fun gT hgT => ?_⟩⟩
    have e2 : Same H1 (upd H1 gT (.tup (rowsV G.length ra))) := Same.new hgT
    have g2 : GrT (upd H1 gT (.tup (rowsV G.length ra))) gT G := ⟨ra, upd_same, fun i r q => e2 _ _ (b2_ i r q)⟩
    have s2 := s1.trans e2
    generalize upd H1 gT (.tup (rowsV G.length ra)) = H2 at g2 s2
    -- order
    refine ⟨_, rfl, pM, ((List.range n).map mk).map (fun (d : Nat) => (d : Int)), rfl, by rw [← nV_map]; exact SqL.of (s2 _ _ hl.mks), by
      rw [List.length_map, List.length_map, List.length_range]
      have : (8 : Nat) < scanBound := by decide
      omega, fun pS c hc hpS => ?_⟩
    rw [List.length_map, List.length_map, List.length_range] at hc
    refine ⟨pS, _, c, rfl, upd_same, by omega, fun ns pO hpw hmem hlen hpO => ?_⟩
    have eo := order_reps hm hpw hmem
    rw [eo, ← nV_map]
    have e3 : Same H2 (upd H2 pS (SetO w pS (fun j => decide (j ∈ ((List.range n).map mk).map (fun (d : Nat) => (d : Int)))) c)) := Same.new hpS
    have e4 := e3.trans (Same.new (o := .lst (nV (reps mk n))) hpO)
    have o4 : upd (upd H2 pS (SetO w pS (fun j => decide (j ∈ ((List.range n).map mk).map (fun (d : Nat) => (d : Int)))) c)) pO (.lst (nV (reps mk n))) pO = some (.lst (nV (reps mk n))) := upd_same
    refine ⟨by show 2 ≤ sizeLine; decide, fun t0 ht0 => ?_⟩
    have e5 := Same.new (o := .tup [.ref gT, .ref pO]) ht0
    refine ⟨t0, _, rfl, SqT.of upd_same, rfl, _, _, rfl, _, _, rfl, rfl, ?_⟩
    have s5 := (s2.trans e4).trans e5
    have g5 := g2.same (e4.trans e5)
    have o5 := e5 _ _ o4
    generalize upd (upd (upd H2 pS (SetO w pS (fun j => decide (j ∈ ((List.range n).map mk).map (fun (d : Nat) => (d : Int)))) c)) pO (.lst (nV (reps mk n)))) t0 (.tup [.ref gT, .ref pO]) = H5 at s5 g5 o5
    obtain ⟨kvs, kN, kl, kv⟩ := hl.num.ex
    have dget : ∀ {H' : Hp} {s : Nat}, Same H H' → s ∈ reps mk n → DGet H' pN (.int ((s : Nat) : Int)) (some (.int (N s))) := fun {H' s} e hs => by
      obtain ⟨a, b⟩ := mem_reps.mp hs
      have := DGet.k (k := Sum.inl ((s : Nat) : Int)) (e _ _ kN)
      rw [kv s a b] at this
      exact this
    -- due
    refine ⟨_, rfl, pO, rfl, ⟨_, SqL.of o5⟩, fun D2 hD2 => ?_⟩
    refine lc_list (K := K) (a := pO) (xs := nV (reps mk n)) (fun i H' => Cw H5 D2 ((((reps mk n).take i).map N).map V.int) H') (Cw.start hD2) (fun i H' _ c => SqL.of (c.same _ _ o5)) ?_ ?_
    · intro i x H' hi c
      obtain ⟨s, hs, rfl⟩ := nV_get hi
      refine ⟨rfl, ?_⟩
      refine ⟨_, rfl, _, rfl, pN, _, rfl, dget (s5.trans c.same) (List.mem_of_getElem? hs), _, c.at_, ?_, ?_⟩
      · rw [List.length_map, List.length_map, List.length_take]
        exact sz_lt (by omega)
      · have e : (((reps mk n).take (i + 1)).map N).map V.int = (((reps mk n).take i).map N).map V.int ++ [V.int (N s)] := by
          rw [List.take_add_one, hs, List.map_append, List.map_append]
          rfl
        rw [e]
        exact c.next (Same.refl _)
    intro H6 c6
    rw [nV_len, List.take_length] at c6
    have c6' : H6 D2 = some (.lst ((numL n mk N).map V.int)) := c6.at_
    refine ⟨D2, _, rfl, .inl ⟨SqL.of c6', fun pU hpU => ?_⟩⟩
    have e7 := c6.same.trans (Same.new (o := .tup ((numL n mk N).map V.int)) hpU)
    have u7 : upd H6 pU (.tup ((numL n mk N).map V.int)) pU = some (.tup ((numL n mk N).map V.int)) := upd_same
    have s7 := s5.trans e7
    have g7 := g5.same e7
    have o7 := e7 _ _ o5
    generalize upd H6 pU (.tup ((numL n mk N).map V.int)) = H7 at e7 u7 s7 g7 o7
    -- the numbers are right
    refine ⟨_, rfl, gT, G, n, m, nx, tl, mk, N, rfl, ⟨g7, hst.gr, n7, m9⟩, hst, fun H8 p1 s8 p10 hp1 => ?_⟩
    refine ⟨p1, numL n mk N, rfl, SqT.of hp1, nsm, by omega, _, rfl, pU, numL n mk N, rfl, SqT.of (s8 _ _ u7), nsm, by omega, rfl, _, rfl, ?_⟩
    have ex1 : (!decide (V.str (PyData.shown (.tuple (zD (numL n mk N)))) = V.str (PyData.shown (.tuple (zD (numL n mk N)))))) = false := by simp
    rw [ex1]
    refine iteF ?_
    refine ⟨_, rfl, gT, G, n, m, nx, tl, mk, N, rfl, ⟨g7.same s8, hst.gr, n7, m9⟩, hst, fun H9 p2 s9 p20 hp2 => ?_⟩
    refine ⟨_, rfl, .tuple (zD (numL n mk N)), .tuple (zD (numL n mk N)), Dp.tup (SqT.of hp2) (dpAll_z _), Dp.tup (SqT.of (s9 _ _ (s8 _ _ u7))) (dpAll_z _), shT _, shT _, _, rfl, ?_⟩
    have ex2 : (!PyData.eqv (.tuple (zD (numL n mk N))) (.tuple (zD (numL n mk N)))) = false := by
      show (!PyData.eqvAll _ _) = _
      rw [eqvZ]
      simp
    rw [ex2]
    refine iteF ?_
    have e79 := s8.trans s9
    have s09 := s7.trans e79
    have g9 := g7.same e79
    have o9 := e79 _ _ o7
    -- flawed
    refine ⟨_, rfl, pO, rfl, ⟨_, SqL.of o9⟩, fun D3 hD3 => ?_⟩
    refine lc_list (K := K) (a := pO) (xs := nV (reps mk n)) (fun i H' => Cw H9 D3 (nV (((reps mk n).take i).filter fun s => decide (N s ≠ 2))) H') (Cw.start hD3) (fun i H' _ c => SqL.of (c.same _ _ o9)) ?_ ?_
    · intro i x H' hi c
      obtain ⟨s, hs, rfl⟩ := nV_get hi
      refine ⟨rfl, ?_⟩
      refine ⟨_, rfl, _, rfl, pN, _, rfl, dget (s09.trans c.same) (List.mem_of_getElem? hs), rfl, _, rfl, ?_⟩
      by_cases en : N s = 2
      · have e : (!decide (V.int (N s) = V.int 2)) = false := by rw [en]; rfl
        rw [e]
        refine iteF ?_
        rw [List.take_add_one, hs, List.filter_append]
        have q : ([s].filter fun s => decide (N s ≠ 2)) = [] := List.filter_cons_of_neg (by simp [en])
        show Cw H9 D3 (nV (_ ++ ([s].filter fun s => decide (N s ≠ 2)))) H'
        rw [q, List.append_nil]
        exact c
      · have e : (!decide (V.int (N s) = V.int 2)) = true := by
          rw [decide_eq_false fun z => en (V.int.inj z)]
          rfl
        rw [e]
        refine iteT ⟨_, rfl, _, c.at_, ?_, ?_⟩
        · rw [nV_len]
          have := List.length_filter_le (fun s => decide (N s ≠ 2)) ((reps mk n).take i)
          rw [List.length_take] at this
          exact sz_lt (by omega)
        · rw [List.take_add_one, hs, List.filter_append]
          have q : ([s].filter fun s => decide (N s ≠ 2)) = [s] := List.filter_cons_of_pos (by simp [en])
          show Cw H9 D3 (nV (_ ++ ([s].filter fun s => decide (N s ≠ 2)))) _
          rw [q, nV_snoc]
          exact c.next (Same.refl _)
    intro H10 c10
    rw [nV_len, List.take_length] at c10
    have f10 : H10 D3 = some (.lst (nV (flaw n mk N))) := c10.at_
    have s10 := s09.trans c10.same
    have g10 := g9.same c10.same
    -- is_plane
    refine ⟨_, rfl, gT, G, n, m, nx, tl, mk, N, rfl, ⟨g10, hst.gr, n7, m9⟩, hst, fun H11 s11 => ?_⟩
    refine ⟨_, rfl, gT, G, n, m, nx, tl, mk, N, rfl, ⟨g10.same s11, hst.gr, n7, m9⟩, hst, fun H12 s12 => ?_⟩
    refine ⟨by show 2 ≤ sizeLine; decide, fun l1 hl1 => ?_⟩
    have e13 := (s11.trans s12).trans (Same.new (o := .lst [.bl ((numL n mk N).all fun z => decide (z = 2)), .bl ((numL n mk N).all fun z => decide (z = 2))]) hl1)
    have x13 : upd H12 l1 (.lst [.bl ((numL n mk N).all fun z => decide (z = 2)), .bl ((numL n mk N).all fun z => decide (z = 2))]) l1 = some (.lst [.bl ((numL n mk N).all fun z => decide (z = 2)), .bl ((numL n mk N).all fun z => decide (z = 2))]) := upd_same
    generalize upd H12 l1 (.lst [.bl ((numL n mk N).all fun z => decide (z = 2)), .bl ((numL n mk N).all fun z => decide (z = 2))]) = H13 at e13 x13
    refine ⟨_, rfl, Nat.zero_le _, fun z1 hz1 => ?_⟩
    have e14 := e13.trans (Same.new (o := .lst []) hz1)
    have x14 := Same.new (o := .lst []) hz1 _ _ x13
    refine ⟨.list (iD (flaw n mk N)), .list [], Dp.lst (SqL.of (e14 _ _ f10)) (dpAll_n _), Dp.lst (SqL.of upd_same) .nil, shLn _, rfl, ?_⟩
    have ex3 : PyData.eqv (.list (iD (flaw n mk N))) (.list []) = (flaw n mk N).isEmpty := by
      show PyData.eqvAll _ _ = _
      rw [eqvNil]
    rw [ex3]
    refine ⟨by show 1 ≤ sizeLine; decide, fun l2 hl2 => ?_⟩
    have e15 := e14.trans (Same.new (o := .lst [.bl (flaw n mk N).isEmpty]) hl2)
    have x15 := Same.new (o := .lst [.bl (flaw n mk N).isEmpty]) hl2 _ _ x14
    refine ⟨l2, 2, _, rfl, rfl, upd_same, by decide, by decide, by show 1 * 2 ≤ sizeLine; decide, fun l3 hl3 => ?_⟩
    have e16 := e15.trans (Same.new (o := .lst (List.replicate (2 : Int).toNat [V.bl (flaw n mk N).isEmpty]).flatten) hl3)
    have x16 := Same.new (o := .lst (List.replicate (2 : Int).toNat [V.bl (flaw n mk N).isEmpty]).flatten) hl3 _ _ x15
    refine ⟨.list [.bool ((numL n mk N).all fun z => decide (z = 2)), .bool ((numL n mk N).all fun z => decide (z = 2))], .list [.bool (flaw n mk N).isEmpty, .bool (flaw n mk N).isEmpty], Dp.lst (SqL.of x16) (.cons (.bl _) (.cons (.bl _) .nil)), Dp.lst (SqL.of upd_same) (.cons (.bl _) (.cons (.bl _) .nil)), rfl, rfl, _, rfl, ?_⟩
    have ex4 : (!PyData.eqv (.list [.bool ((numL n mk N).all fun z => decide (z = 2)), .bool ((numL n mk N).all fun z => decide (z = 2))]) (.list [.bool (flaw n mk N).isEmpty, .bool (flaw n mk N).isEmpty])) = false := by
      rw [all_flaw]
      cases (flaw n mk N).isEmpty <;> rfl
    rw [ex4]
    refine iteF ?_
    have s16 := s10.trans e16
    have g16 := g10.same e16
    have f16 := e16 _ _ f10
    generalize upd (upd (upd H13 z1 (.lst [])) l2 (.lst [.bl (flaw n mk N).isEmpty])) l3 (.lst (List.replicate (2 : Int).toNat [V.bl (flaw n mk N).isEmpty]).flatten) = H16 at s16 g16 f16
    -- told
    refine told_use rfl g16 hst n7 m9 (hT.ext s16) fun v1 H17 e17 T17 tv1 => ?_
    refine ⟨by show 1 ≤ sizeLine; decide, fun pL hpL => ?_⟩
    have e18 := Same.new (o := .lst [v1]) hpL
    refine ⟨_, rfl, .inl ⟨rfl, _, SqL.of upd_same⟩, ?_⟩
    refine told_use rfl ((g16.ext e17).same e18) hst n7 m9 (T17.ext e18) fun v2 H19 e19 T19 tv2 => ?_
    have xL : H19 pL = some (.lst [v1]) := e19 _ _ upd_same (by intro ps z; cases z)
    refine ⟨pL, [v1], v2, rfl, rfl, xL, by show 1 < sizeLine; decide, ?_⟩
    have notL : ∀ {b : Addr} {o : HO}, H17 b = some o → b ≠ pL := fun q => ne_of_none q hpL
    have tv1' : TV (upd H19 pL (.lst ([v1] ++ [v2]))) (flaw n mk N) v1 := by
      have q := (tv1.ext (ExtN.of e18)).ext e19
      rcases tv1 with ⟨f0, l, rfl, hl⟩ | ⟨s0, r, t, f0, rfl, ht⟩
      · exact .inl ⟨f0, l, rfl, by rw [upd_ne (notL hl)]; exact e19 _ _ (e18 _ _ hl) (by intro ps z; cases z)⟩
      · exact .inr ⟨s0, r, t, f0, rfl, by rw [upd_ne (notL ht)]; exact e19 _ _ (e18 _ _ ht) (by intro ps z; cases z)⟩
    have f17 : H17 D3 = some (.lst (nV (flaw n mk N))) := e17 _ _ f16 (by intro ps z; cases z)
    have f20 : upd H19 pL (.lst ([v1] ++ [v2])) D3 = some (.lst (nV (flaw n mk N))) := by
      rw [upd_ne (notL f17)]
      exact e19 _ _ (e18 _ _ f17) (by intro ps z; cases z)
    have x20 : upd H19 pL (.lst ([v1] ++ [v2])) pL = some (.lst [v1, v2]) := upd_same
    have s20 : ExtN H (upd H19 pL (.lst ([v1] ++ [v2]))) := fun b o q hn => by
      have q17 := e17 _ _ (s16 _ _ q) hn
      rw [upd_ne (notL q17)]
      exact e19 _ _ (e18 _ _ q17) hn
    have T20 : Tabs [(Pt, qR)] (upd H19 pL (.lst ([v1] ++ [v2]))) := tabs_upd T19 xL
    have tv2' : TV (upd H19 pL (.lst ([v1] ++ [v2]))) (flaw n mk N) v2 := by
      have v1n : v1 ≠ .non := by
        rcases tv1 with ⟨_, l, rfl, _⟩ | ⟨_, _, t, _, rfl, _⟩ <;> intro z <;> cases z
      rcases tv2 with ⟨f0, l, rfl, hl⟩ | ⟨s0, r, t, f0, rfl, ht⟩
      · refine .inl ⟨f0, l, rfl, ?_⟩
        rw [upd_ne (fun z => by
          rw [z, xL] at hl
          exact v1n (by cases hl; rfl))]
        exact hl
      · refine .inr ⟨s0, r, t, f0, rfl, ?_⟩
        rw [upd_ne (ne_of ht xL (by intro z; cases z))]
        exact ht
    generalize upd H19 pL (.lst ([v1] ++ [v2])) = H20 at s20 T20 tv1' tv2' f20 x20
    have fin : ∀ H', Same H20 H' → Q (.bl true) H' := fun H' e => k H' (s20.trans (ExtN.of e)) (T20.ext e)
    -- the return
    refine ⟨_, rfl, _, rfl, Nat.zero_le _, fun z2 hz2 => ?_⟩
    have e21 : Same H20 (upd H20 z2 (.lst [])) := Same.new hz2
    refine ⟨.list (iD (flaw n mk N)), .list [], Dp.lst (SqL.of (e21 _ _ f20)) (dpAll_n _), Dp.lst (SqL.of upd_same) .nil, shLn _, rfl, _, rfl, ?_⟩
    have ex5 : (!PyData.eqv (.list (iD (flaw n mk N))) (.list [])) = !(flaw n mk N).isEmpty := by
      show (!PyData.eqvAll _ _) = _
      rw [eqvNil]
    rw [ex5]
    cases hfl : flaw n mk N with
    | nil =>
      refine iteF ⟨by show 1 ≤ sizeLine; decide, fun l4 hl4 => ?_⟩
      have e22 := e21.trans (Same.new (o := .lst [.non]) hl4)
      refine ⟨by show 1 ≤ sizeLine; decide, fun l5 hl5 => ?_⟩
      have e23 := e22.trans (Same.new (o := .lst [.ref l4]) hl5)
      refine ⟨l5, 2, _, rfl, rfl, upd_same, by decide, by decide, by show 1 * 2 ≤ sizeLine; decide, fun l6 hl6 => ?_⟩
      have e24 := e23.trans (Same.new (o := .lst (List.replicate (2 : Int).toNat [V.ref l4]).flatten) hl6)
      have x4 := Same.new (o := .lst (List.replicate (2 : Int).toNat [V.ref l4]).flatten) hl6 _ _ (Same.new (o := .lst [.ref l4]) hl5 _ _ (show upd (upd H20 z2 (.lst [])) l4 (.lst [.non]) l4 = _ from upd_same))
      rw [hfl] at tv1' tv2'
      have d4 : TV (upd (upd (upd (upd H20 z2 (.lst [])) l4 (.lst [.non])) l5 (.lst [.ref l4])) l6 (.lst (List.replicate (2 : Int).toNat [V.ref l4]).flatten)) [] (.ref l4) := .inl ⟨rfl, l4, rfl, x4⟩
      refine ⟨.list [dTV [], dTV []], .list [dTV [], dTV []], Dp.lst (SqL.of (e24 _ _ x20)) (.cons (tv1'.ext (ExtN.of e24)).dp (.cons (tv2'.ext (ExtN.of e24)).dp .nil)), Dp.lst (SqL.of upd_same) (.cons d4.dp (.cons d4.dp .nil)), sh_TV [], sh_TV [], ?_⟩
      rw [eqv_TV]
      exact fin _ e24
    | cons s0 r =>
      refine iteT ?_
      have f21 := e21 _ _ f20
      rw [hfl] at f21
      refine ⟨_, rfl, D3, _, 0, .int ((s0 : Nat) : Int), rfl, rfl, SqL.of f21, atI_nat (j := 0) rfl, by show 2 ≤ sizeLine; decide, fun l4 hl4 => ?_⟩
      have e22 := e21.trans (Same.new (o := .tup [.str "NotPlane", .int ((s0 : Nat) : Int)]) hl4)
      refine ⟨by show 1 ≤ sizeLine; decide, fun l5 hl5 => ?_⟩
      have e23 := e22.trans (Same.new (o := .lst [.ref l4]) hl5)
      refine ⟨l5, 2, _, rfl, rfl, upd_same, by decide, by decide, by show 1 * 2 ≤ sizeLine; decide, fun l6 hl6 => ?_⟩
      have e24 := e23.trans (Same.new (o := .lst (List.replicate (2 : Int).toNat [V.ref l4]).flatten) hl6)
      have x4 := Same.new (o := .lst (List.replicate (2 : Int).toNat [V.ref l4]).flatten) hl6 _ _ (Same.new (o := .lst [.ref l4]) hl5 _ _ (show upd (upd H20 z2 (.lst [])) l4 (.tup [.str "NotPlane", .int ((s0 : Nat) : Int)]) l4 = _ from upd_same))
      rw [hfl] at tv1' tv2'
      have d4 : TV (upd (upd (upd (upd H20 z2 (.lst [])) l4 (.tup [.str "NotPlane", .int ((s0 : Nat) : Int)])) l5 (.lst [.ref l4])) l6 (.lst (List.replicate (2 : Int).toNat [V.ref l4]).flatten)) (s0 :: r) (.ref l4) := .inr ⟨s0, r, l4, rfl, rfl, x4⟩
      refine ⟨.list [dTV (s0 :: r), dTV (s0 :: r)], .list [dTV (s0 :: r), dTV (s0 :: r)], Dp.lst (SqL.of (e24 _ _ x20)) (.cons (tv1'.ext (ExtN.of e24)).dp (.cons (tv2'.ext (ExtN.of e24)).dp .nil)), Dp.lst (SqL.of upd_same) (.cons d4.dp (.cons d4.dp .nil)), sh_TV _, sh_TV _, ?_⟩
      rw [eqv_TV]
      exact fin _ e24
end
end K07
/-! K07L7 -/
set_option Elab.async false
set_option linter.all false
set_option maxRecDepth 100000
set_option maxHeartbeats 3000000
namespace K07
open PySem PySem.Spec PyProof.Rows L2 LamX
/-! ### law -/
theorem mergeK_fD {g : Nat → Nat} : ∀ (l L : List Nat), (L ++ l).Nodup → mergeK (fD g L) (fD g l) = fD g (L ++ l)
  | [], L, _ => by rw [List.append_nil]; rfl
  | d :: l, L, h => by
    have hd : d ∉ L := fun q => (List.nodup_append.mp h).2.2 d q d (by simp) rfl
    show mergeK (putK (fD g L) (Sum.inl (d : Int) : Key) (.int ((g d : Nat) : Int))) (fD g l) = _
    rw [putK_fD hd, mergeK_fD l (L ++ [d]) (by simpa using h)]
    simp
theorem LR.ext {H H' : Hp} {pR pM pN : Addr} {rr : Nat → Addr} {n : Nat} {G : List (List Nat)} {mk : Nat → Nat} {N : Nat → Int} (h : LR H pR pM pN rr n G mk N) (e : ExtN H H') : LR H' pR pM pN rr n G mk N := by
  obtain ⟨kvs, a, b⟩ := h.num.ex
  exact ⟨⟨e _ _ h.rot.at_ (by intro ps z; cases z), fun i r q => e _ _ (h.rot.row i r q) (by intro ps z; cases z)⟩, e _ _ h.mks (by intro ps z; cases z), ⟨kvs, e _ _ a (by intro ps z; cases z), b⟩⟩
theorem SrcAt.ext {H H' : Hp} {p : Addr} {B : Nat} (h : SrcAt H p B) (e : ExtN H H') : SrcAt H' p B := by
  obtain ⟨a, b, c, h1, h2, h3⟩ := h.ex
  exact ⟨a, b, c, e _ _ h1 (by intro ps z; cases z), h2, h3⟩
theorem sqExt {K : PySem.W.Frag} {H H' : Hp} {a : Addr} {xs : List V} (h : SqL K H a xs) (e : ExtN H H') : SqL K H' a xs := by
  rcases h with (h | ⟨o, h⟩) | h
  · exact .inl (.inl (e _ _ h (by intro ps z; cases z)))
  · exact .inl (.inr ⟨o, e _ _ h (by intro ps z; cases z)⟩)
  · exact .inr h
theorem tabs_sub {T : List (Addr × Str)} {H H0 : Hp} (t : Tabs T H) (h : ∀ b, H0 b = H b ∨ (∃ xs, H b = some (.lst xs)) ∨ ∃ kvs, H b = some (.dK kvs)) : Tabs T H0 := fun q hq => by
  obtain ⟨ps, h1, h2, h3⟩ := t q hq
  have key : ∀ {b : Addr} {o : HO}, H b = some o → (∀ xs, o ≠ .lst xs) → (∀ kvs, o ≠ .dK kvs) → H0 b = some o := fun {b o} e n1 n2 => by
    rcases h b with z | ⟨xs, z⟩ | ⟨kvs, z⟩
    · rw [z]; exact e
    · rw [e] at z; exact absurd (Option.some.inj z) (n1 xs)
    · rw [e] at z; exact absurd (Option.some.inj z) (n2 kvs)
  refine ⟨ps, key h1 (by intro xs z; cases z) (by intro xs z; cases z), h2, fun pos cv hc => ?_⟩
  obtain ⟨c, e1, e2⟩ := h3 pos cv hc
  refine ⟨c, e1, key e2 (fun xs z => ?_) fun kvs z => ?_⟩
  · have z' : HO.ext _ = HO.lst xs := z
    cases z'
  · have z' : HO.ext _ = HO.dK kvs := z
    cases z'
theorem stt_empty : Stt 0 0 [] id id id (fun _ => 2) := stt0 0
def Nw (H : Hp) (p : Addr) : Prop := ∀ o, H p = some o → ∃ ps, o = .tbl ps
theorem Nw.of {H H' : Hp} {p : Addr} (e : ExtN H H') (h : H' p = none) : Nw H p := fun o q => by
  refine Classical.byContradiction fun n => ?_
  have := e _ _ q fun ps z => n ⟨ps, z⟩
  rw [h] at this
  cases this
theorem nw_ne {H : Hp} {p b : Addr} {o : HO} (h : Nw H p) (q : H b = some o) (hn : ∀ ps, o ≠ .tbl ps) : b ≠ p := fun z => by
  rw [z] at q
  obtain ⟨ps, e⟩ := h o q
  exact hn ps e
theorem ext_upd {H H' : Hp} {p : Addr} {o : HO} (e : ExtN H H') (h : Nw H p) : ExtN H (upd H' p o) := fun b u q hn => by
  rw [upd_ne (nw_ne h q hn)]
  exact e b u q hn
theorem ext_cut {H H' : Hp} {p : Addr} (e : ExtN H H') (h : Nw H p) : ExtN H (cutH H' p) := fun b u q hn => by
  rw [cutH_ne (nw_ne h q hn)]
  exact e b u q hn
theorem ext_cutR {H H' : Hp} {rr : Nat → Addr} {n : Nat} (e : ExtN H H') (h : ∀ i, i < n → Nw H (rr i)) : ExtN H (cutR H' rr n) := fun b u q hn => by
  rw [cutR_ne fun i hi => nw_ne (h i hi) q hn]
  exact e b u q hn
theorem paired_map {α β γ : Type} {R : α → β → Prop} {f : γ → α} {g : γ → β} : ∀ l : List γ, (∀ x ∈ l, R (f x) (g x)) → Paired R (l.map f) (l.map g)
  | [], _ => .nil
  | x :: l, h => .cons (h x (by simp)) (paired_map l fun y hy => h y (List.mem_cons_of_mem _ hy))
/-- the law's own defs -/
structure Ls (K : PySem.W.Frag) (mg : Str → Option Value) where
  d : Ds K mg
  a1 : Addr
  a2 : Addr
  a3 : Addr
  a4 : Addr
  a5 : Addr
  a6 : Addr
  a7 : Addr
  b1 : FuncData
  b2 : FuncData
  b3 : FuncData
  b4 : FuncData
  b5 : FuncData
  b6 : FuncData
  b7 : FuncData
  S : Dn K mg "_law_source" s_law_source ["_law_script", "_law_k"] a1 b1
  X : Dn K mg "_law_next" s_law_next ["_law_source_here", "_law_many"] a2 b2
  W : Dn K mg "_law_walks" s_law_walks ["_law_rotations"] a3 b3
  C : Dn K mg "_law_corner" s_law_corner ["_law_source_here", "_law_rotations", "_law_node"] a4 b4
  U : Dn K mg "_law_put" s_law_put ["_law_rotations", "_law_dart", "_law_corner_here"] a5 b5
  J : Dn K mg "_law_joined" s_law_joined ["_law_source_here", "_law_rotations", "_law_marks", "_law_numbers", "_law_pair"] a6 b6
  R : Dn K mg "_law_right" s_law_right ["_law_rotations", "_law_marks", "_law_numbers"] a7 b7
def spLaw (K : PySem.W.Frag) (Pt : Addr) : Sp := fun vs H Q _ => ∃ (a : Addr) (ns : List Int), vs = [.ref a] ∧ SqL K H a (ns.map V.int) ∧ ns.length ≤ 63 ∧ Tabs [(Pt, qR)] H ∧ ∀ H', Q (.bl true) H'
section
variable {P : Program} {w : World} {K : PySem.W.Frag} {mg : Str → Option Value} {base : Heap}
abbrev nLa : List Str := ["_law_script", "_law_k", "_law_source_here", "_law_rotations", "_law_marks", "_law_numbers", "_law_many", "_law_turn", "_law_node"]
theorem sc_law : FnScope nLa ["_law_script"] (defScope s_law) := ⟨rfl, rfl, rfl, by decide +kernel, rfl, by decide +kernel, by decide +kernel⟩
theorem ok_law {f : Addr} {fd : FuncData} {c Pt : Addr} (F : FnP K "law" s_law f fd) (L : Ls K mg) (hcd : L.b7.code = .ref c) (TB : TabB base mg c Pt) : FnG P w K mg base 11 f fd ["_law_script"] (spLaw K Pt) := by
  have GR_ : FnG P w K mg base 10 L.a7 L.b7 ["_law_rotations", "_law_marks", "_law_numbers"] (spRight Pt) := ok_right L.R.F L.d hcd TB
  have GJ : FnOk P w K mg base CX0 3 L.a6 L.b6 ["_law_source_here", "_law_rotations", "_law_marks", "_law_numbers", "_law_pair"] spJoined := ok_joined L.J.F L.d.T L.X L.W L.C L.U
  have GX : FnOk P w K mg base CX0 1 L.a2 L.b2 ["_law_source_here", "_law_many"] spNext := ok_next L.X.F
  have GS : FnOk P w K mg base CX0 1 L.a1 L.b1 ["_law_script", "_law_k"] (spSource K) := ok_source L.S.F L.d.T
  have GA_ : FnOk P w K mg base CX0 6 L.d.fA L.d.fdA ["graph"] spPlane := L.d.okA
  have GV_ : FnOk P w K mg base CX0 6 L.d.fV L.d.fdV ["graph"] spIsPlane := L.d.okV
  refine okG F sc_law (fun vs H Q E h => ?_) (fun A outer s H vs Q E hr hgd h => ?_)
  · obtain ⟨a, ns, rfl, _⟩ := h
    rfl
  · obtain ⟨a, ns, rfl, hS, hns, hT, k⟩ := h
    have hu := hu_of hr
    have T := L.d.T
    have hr1 : Room 1 _ := hr.mono (j := 1) (by decide)
    have hr3 : Room 3 _ := hr.mono (j := 3) (by decide)
    have hr6 : Room 6 _ := hr.mono (j := 6) (by decide)
    have hr10 : Room 10 _ := hr
    refine ⟨_, PSs.nox (pss_cons (ps_for PassesOwn.never rfl (pi_range1 (by rfl) T.range (pa_cons (pe_callB (call_max2 rfl) (by rfl) T.max (by decide +kernel) (pa_cons pe_int (pa_cons
          (pe_callB (call_min2 rfl) (by rfl) T.min (by decide +kernel) (pa_cons pe_int (pa_cons (pe_callB call_len_seq (by rfl) T.len PySem.boot_len (pa_cons (pv 0) pa_nil)) pa_nil))) pa_nil))) pa_nil)) (pg_name (i := 1) sc_law.nd rfl (.inl rfl))
        (pss_cons (ps_set (i := 2) sc_law.nd rfl (.inl rfl) (pe_call GS hr1 (by rfl) L.S.g L.S.F.kp L.S.b .nil pass0 (pa_cons (pv 0) (pa_cons (pv 1) pa_nil))))
        (pss_cons (ps_setLc (i := 3) (own := [("_law_turn", 7)]) (g := gName 7) (tt := tYes) rfl sc_law.nd rfl rfl (sw_true rfl rfl rfl (by decide +kernel))
            (pi_range1 (by rfl) T.range (pa_cons (pe_op op_add pe_int (pe_call GX hr1 (by rfl) L.X.g L.X.F.kp L.X.b .nil pass0 (pa_cons (pv 2) (pa_cons pe_int pa_nil)))) pa_nil)) (blkOk_by (N := nLa) (sc := defScope s_law) (by decide +kernel))
            (fun _ _ _ _ _ => pg_name (i := 7) sc_law.nd rfl (.inl rfl)) (fun _ _ _ _ _ => pts_nil) (fun _ _ _ _ _ => pe_lst pa_nil))
        (pss_cons (ps_par (i := 4) (j := 5) rfl sc_law.nd rfl rfl (by decide) rfl rfl (pa_cons
            (pe_listRg rfl (by rfl) T.list (prg_1 (by rfl) T.range (pe_callB call_len_seq (by rfl) T.len PySem.boot_len (pa_cons (pv 3) pa_nil)))) (pa_cons
            (pe_callTy (call_dictP rfl) (by rfl) T.dict (by decide +kernel) (pa_cons
              (pe_lc (own := [("_law_node", 8)]) (g := gName 8) (tt := tYes) rfl sc_law.nd (pi_range1 (by rfl) T.range (pa_cons (pe_callB call_len_seq (by rfl) T.len PySem.boot_len (pa_cons (pv 3) pa_nil)) pa_nil)) (blkOk_by (N := nLa) (sc := defScope s_law) (by decide +kernel))
                (fun _ _ _ _ _ => pg_name (i := 8) sc_law.nd rfl (.inl rfl)) (fun _ _ _ _ _ => pts_nil) (fun _ _ _ _ _ => pe_tup (pa_cons (pv 8) (pa_cons pe_int pa_nil)))) pa_nil)) pa_nil)) (by rfl))
        (pss_cons (ps_for PassesOwn.never rfl (pi_range1 (by rfl) T.range (pa_cons (pe_call GX hr1 (by rfl) L.X.g L.X.F.kp L.X.b .nil pass0 (pa_cons (pv 2) (pa_cons pe_int pa_nil))) pa_nil)) (pg_name (i := 6) sc_law.nd rfl (.inl rfl))
          (pss_cons (ps_if (pt_not (pt_val (pe_callFnG GR_ hr10 hgd (by rfl) L.R.g L.R.F.kp L.R.b (pa_cons (pv 3) (pa_cons (pv 4) (pa_cons (pv 5) pa_nil)))))) (pss_one (ps_ret pe_bl)) pss_nil)
          (pss_one (ps_expr (pe_call GJ hr3 (by rfl) L.J.g L.J.F.kp L.J.b .nil pass0 (pa_cons (pv 2) (pa_cons (pv 3) (pa_cons (pv 4) (pa_cons (pv 5) (pa_cons
            (pe_lst (pa_cons (pe_op op_mul pe_int (pv 6)) (pa_cons (pe_op op_add (pe_op op_mul pe_int (pv 6)) pe_int) pa_nil))) pa_nil))))))))))
        (pss_one (ps_if (pt_not (pt_val (pe_callFnG GR_ hr10 hgd (by rfl) L.R.g L.R.F.kp L.R.b (pa_cons (pv 3) (pa_cons (pv 4) (pa_cons (pv 5) pa_nil)))))) (pss_one (ps_ret pe_bl)) pss_nil)))))))
      (pss_one (ps_ret (pe_and (pe_cmpR (op_eqD hr.units) (pe_call GA_ hr6 (by rfl) L.d.A.g L.d.A.F.kp L.d.A.b .nil pass0 (pa_cons (pe_tup pa_nil) pa_nil)) (pe_tup pa_nil) (nomark _))
        (pe_one (pe_cmpR op_isBl (pe_call GV_ hr6 (by rfl) L.d.V.g L.d.V.F.kp L.d.V.b .nil pass0 (pa_cons (pe_tup pa_nil) pa_nil)) pe_bl (by rfl))))))), ?_⟩
    -- how many turns
    refine ⟨_, rfl, a, _, rfl, .inl hS, _, _, rfl, _, _, rfl, ?_⟩
    have hbd : ∃ t : Nat, (if (if ((ns.map V.int).length : Int) < 6 then ((ns.map V.int).length : Int) else 6) > 1 then (if ((ns.map V.int).length : Int) < 6 then ((ns.map V.int).length : Int) else 6) else 1) = (t : Int) ∧ t ≤ 6 := by
      rw [List.length_map]
      by_cases q : ((ns.length : Nat) : Int) < 6
      · rw [if_pos q]
        by_cases q2 : ((ns.length : Nat) : Int) > 1
        · rw [if_pos q2]; exact ⟨ns.length, rfl, by omega⟩
        · rw [if_neg q2]; exact ⟨1, rfl, by omega⟩
      · rw [if_neg q, if_pos (by decide)]
        exact ⟨6, rfl, by omega⟩
    obtain ⟨tn, htn, tn6⟩ := hbd
    rw [htn]
    refine ⟨_, rfl, by omega, by omega, ?_⟩
    rw [Int.toNat_natCast]
    refine for_range (lo := 0) (n := tn) (fun i σ H' => ∃ (x1 x2 x3 x4 x5 x6 : Option V), σ = [some (.ref a), x1, x2, x3, x4, x5, x6, none, none] ∧ ExtN H H' ∧ Tabs [(Pt, qR)] H')
      ⟨none, none, none, none, none, none, rfl, ExtN.refl H, hT⟩ ?_ ?_
    · rintro i σ H1 hi ⟨x1, x2, x3, x4, x5, x6, rfl, e1, T1⟩
      have e0 : (0 : Int) + ((i : Nat) : Int) = (i : Int) := by omega
      rw [e0]
      -- the source
      refine ⟨_, rfl, _, rfl, a, ns, i, rfl, sqExt hS e1, by omega, fun H2 ps s2 ps0 hs2 => ?_⟩
      have e2 : ExtN H H2 := e1.trans (ExtN.of s2)
      have T2 := T1.ext s2
      have Ns : Nw H ps := Nw.of e1 ps0
      obtain ⟨sa, sb, sc, hsl, _⟩ := id hs2.ex
      -- the rotations
      refine ⟨_, rfl, ps, 7, 3 * i, rfl, hs2, by omega, by decide, by decide, fun H3 r s3 hs3 hr7 => ?_⟩
      have e3 : ExtN H H3 := (ext_cut e2 Ns).trans (ExtN.of s3)
      have T3 : Tabs [(Pt, qR)] H3 := (tabs_sub (H0 := cutH H2 ps) T2 fun b => by
        by_cases eb : b = ps
        · exact .inr (.inl ⟨_, by rw [eb]; exact hsl⟩)
        · exact .inl (cutH_ne eb)).ext s3
      obtain ⟨sa3, sb3, sc3, hsl3, _⟩ := id hs3.ex
      refine ⟨_, _, rfl, rfl, _, rfl, by omega, by omega, fun pR hpR => ?_⟩
      have en : ((1 : Int) + ((r : Nat) : Int)).toNat = r + 1 := by omega
      rw [en]
      refine lc_range (lo := 0) (n := r + 1) (fun j H' => ∃ rr : Nat → Addr, Same H3 H' ∧ H' pR = some (.lst (rowsV j rr)) ∧ (∀ q, q < j → H' (rr q) = some (.lst []) ∧ H3 (rr q) = none ∧ rr q ≠ pR) ∧ ∀ q q', q < j → q' < j → rr q = rr q' → q = q')
        ⟨fun _ => 0, Same.new hpR, upd_same, fun q hq => by omega, fun q q' hq => by omega⟩ ?_ ?_
      · rintro j H' hj ⟨rr, c1, c2, c3, c4⟩
        refine ⟨rfl, ?_⟩
        refine ⟨Nat.zero_le _, fun t ht => ?_⟩
        have nR : pR ≠ t := ne_of_none c2 ht
        refine ⟨rowsV j rr, by rw [upd_ne nR]; exact c2, by rw [rowsV_len]; exact sz_lt (by omega), fun q => if q = j then t else rr q, (c1.upd (c1.free ht)).upd hpR, by rw [upd_same, rowsV_snoc], fun q hq => ?_, fun q q' hq hq' z => ?_⟩
        · show upd _ _ _ (if q = j then t else rr q) = _ ∧ H3 (if q = j then t else rr q) = none ∧ (if q = j then t else rr q) ≠ pR
          by_cases eq : q = j
          · rw [if_pos eq]
            exact ⟨by rw [upd_ne nR.symm, upd_same], c1.free ht, nR.symm⟩
          · rw [if_neg eq]
            obtain ⟨a1, a2, a3⟩ := c3 q (by omega)
            exact ⟨by rw [upd_ne a3, upd_ne (ne_of_none a1 ht)]; exact a1, a2, a3⟩
        · have z' : (if q = j then t else rr q) = (if q' = j then t else rr q') := z
          by_cases eq : q = j
          · by_cases eq' : q' = j
            · omega
            · rw [if_pos eq, if_neg eq'] at z'
              exact absurd z'.symm (ne_of_none (c3 q' (by omega)).1 ht)
          · by_cases eq' : q' = j
            · rw [if_neg eq, if_pos eq'] at z'
              exact absurd z' (ne_of_none (c3 q (by omega)).1 ht)
            · rw [if_neg eq, if_neg eq'] at z'
              exact c4 q q' (by omega) (by omega) z'
      rintro H4 ⟨rr, s4, hR4, hr4, inj⟩
      have e4 : ExtN H H4 := e3.trans (ExtN.of s4)
      have T4 := T3.ext s4
      have hs4 := hs3.same s4
      have psR : ps ≠ pR := ne_of_none hsl3 hpR
      -- marks
      refine ⟨_, rfl, pR, _, rfl, .inl (SqL.of hR4), _, rfl, by rw [rowsV_len]; exact RgOk.of_le (by omega) (by omega) (by omega) (by omega), fun pM hpM => ?_⟩
      have e45 := Same.new (o := .lst (rgV 0 ((rowsV (r + 1) rr).length : Int))) hpM
      have hM5 : upd H4 pM (.lst (rgV 0 ((rowsV (r + 1) rr).length : Int))) pM = some (.lst (nV ((List.range (r + 1)).map id))) := by
        rw [upd_same, rowsV_len]
        unfold rgV nV
        rw [List.map_map]
        have en2 : (((r + 1 : Nat) : Int) - 0).toNat = r + 1 := by omega
        rw [en2]
        congr 2
        exact List.map_congr_left fun q _ => by
          show V.int (0 + ((q : Nat) : Int)) = V.int ((q : Nat) : Int)
          rw [Int.zero_add]
      have RM : pR ≠ pM := ne_of_none hR4 hpM
      have psM : ps ≠ pM := ne_of_none (s4 _ _ hsl3) hpM
      have rMn : ∀ q, q < r + 1 → rr q ≠ pM := fun q hq => ne_of_none (hr4 q hq).1 hpM
      have rNs : ∀ q, q < r + 1 → rr q ≠ ps := fun q hq z => by
        have := (hr4 q hq).2.1
        rw [z, hsl3] at this
        cases this
      generalize upd H4 pM (.lst (rgV 0 ((rowsV (r + 1) rr).length : Int))) = H5 at e45 hM5
      have hR5 := e45 _ _ hR4
      -- numbers
      refine ⟨_, rfl, pR, _, rfl, .inl (SqL.of hR5), _, rfl, by rw [rowsV_len]; omega, by rw [rowsV_len]; omega, fun pD hpD => ?_⟩
      rw [rowsV_len, Int.toNat_natCast]
      refine lc_range (lo := 0) (n := r + 1) (fun j H' => ∃ tp : Nat → Addr, Same H5 H' ∧ H' pD = some (.lst (rowsV j tp)) ∧ ∀ q, q < j → H' (tp q) = some (.tup [.int ((q : Nat) : Int), .int 2])) ⟨fun _ => 0, Same.new hpD, upd_same, fun q hq => by omega⟩ ?_ ?_
      · rintro j H' hj ⟨tp, c1, c2, c3⟩
        have e0' : (0 : Int) + ((j : Nat) : Int) = (j : Int) := by omega
        rw [e0']
        refine ⟨rfl, ?_⟩
        refine ⟨_, rfl, by show 2 ≤ sizeLine; decide, fun t ht => ?_⟩
        have nD : pD ≠ t := ne_of_none c2 ht
        refine ⟨rowsV j tp, by rw [upd_ne nD]; exact c2, by rw [rowsV_len]; exact sz_lt (by omega), fun q => if q = j then t else tp q, (c1.upd (c1.free ht)).upd hpD, by rw [upd_same, rowsV_snoc], fun q hq => ?_⟩
        show upd _ _ _ (if q = j then t else tp q) = _
        by_cases eq : q = j
        · rw [if_pos eq, upd_ne nD.symm, upd_same, eq]
        · rw [if_neg eq]
          have a1 := c3 q (by omega)
          rw [upd_ne (ne_of a1 c2 (by intro z; cases z)), upd_ne (ne_of_none a1 ht)]
          exact a1
      rintro H6 ⟨tp, s6, hD6, ht6⟩
      refine ⟨pD, (List.range (r + 1)).map tp, fD (fun _ => 2) (List.range (r + 1)), rfl, by
        rw [List.map_map]
        exact SqL.of hD6, ?_, fun pN hpN => ?_⟩
      · exact paired_map _ fun q hq => SqT.of (ht6 q (List.mem_range.mp hq))
      have s57 : Same H5 (upd H6 pN (.dK (L2.mergeK [] (fD (fun _ => 2) (List.range (r + 1)))))) := s6.trans (Same.new hpN)
      have hN7 : upd H6 pN (.dK (L2.mergeK [] (fD (fun _ => 2) (List.range (r + 1))))) pN = some (.dK (fD (fun _ => 2) (List.range (r + 1)))) := by
        rw [upd_same]
        have q := mergeK_fD (g := fun _ => 2) (List.range (r + 1)) [] (by rw [List.nil_append]; exact List.nodup_range)
        rw [List.nil_append] at q
        exact congrArg (fun z => some (HO.dK z)) q
      refine ⟨_, _, rfl, ?_⟩
      have Nn : Nw H pN := Nw.of ((e4.trans (ExtN.of e45)).trans (ExtN.of s6)) hpN
      generalize upd H6 pN (.dK (L2.mergeK [] (fD (fun _ => 2) (List.range (r + 1))))) = H7 at s57 hN7
      have s47 := e45.trans s57
      have e7 : ExtN H H7 := e4.trans (ExtN.of s47)
      have T7 := T4.ext s47
      have hs7 := hs4.same s47
      have la : LA ps pR pM rr (r + 1) := ⟨psR, psM, RM, rNs, fun q hq => (hr4 q hq).2.2, rMn, inj⟩
      have NM : Nw H pM := Nw.of e4 hpM
      have Nr : ∀ q, q < r + 1 → Nw H (rr q) := fun q hq => Nw.of e3 (hr4 q hq).2.1
      have lr7 : LR H7 pR pM pN rr (r + 1) (List.replicate (r + 1) []) id (fun _ => 2) := by
        refine ⟨⟨?_, fun q rw_ hq => ?_⟩, s57 _ _ hM5, ⟨_, hN7, ?_, fun q hq _ => ?_⟩⟩
        · rw [List.length_replicate]
          exact s57 _ _ hR5
        · have hq' := (List.getElem?_eq_some_iff.mp hq).1
          rw [List.length_replicate] at hq'
          rw [List.getElem?_replicate, if_pos hq'] at hq
          cases hq
          exact s47 _ _ (hr4 q hq').1
        · rw [fD_len, List.length_range]
          omega
        · rw [valV_fD, if_pos (List.mem_range.mpr hq)]
          rfl
      -- the edges
      refine ⟨_, rfl, ps, 10, 3 * i + 1, rfl, hs7, by omega, by decide, by decide, fun H8 r2 s8 hs8 hr10 => ?_⟩
      have lnr : (List.replicate (r + 1) ([] : List Nat)).length = r + 1 := List.length_replicate
      have lr8 := (lr7.cut la hs7 lnr).same s8
      have e8 : ExtN H H8 := (ext_cut e7 Ns).trans (ExtN.of s8)
      have T8 : Tabs [(Pt, qR)] H8 := (tabs_sub (H0 := cutH H7 ps) T7 fun b => by
        by_cases eb : b = ps
        · obtain ⟨_, _, _, q, _⟩ := hs7.ex
          exact .inr (.inl ⟨_, by rw [eb]; exact q⟩)
        · exact .inl (cutH_ne eb)).ext s8
      refine ⟨_, rfl, by omega, by omega, ?_⟩
      rw [Int.toNat_natCast]
      refine for_range (lo := 0) (n := r2) (fun j σ H' => ∃ (x6 : Option V) (G : List (List Nat)) (nx tl mk : Nat → Nat) (N : Nat → Int) (B : Nat), σ = [some (.ref a), some (.int (i : Int)), some (.ref ps), some (.ref pR), some (.ref pM), some (.ref pN), x6, none, none] ∧
          ExtN H H' ∧ Tabs [(Pt, qR)] H' ∧ SrcAt H' ps B ∧ B ≤ 100 + 4 * j ∧ LR H' pR pM pN rr (r + 1) G mk N ∧ Stt (r + 1) j G nx tl mk N)
        ⟨x6, _, id, id, id, _, 3 * i + 2, rfl, e8, T8, hs8, by omega, lr8, stt0 (r + 1)⟩ ?_ ?_
      · rintro j σ H9 hj ⟨y6, G, nx, tl, mk, N, B, rfl, e9, T9, hs9, hB, lr9, st9⟩
        have e0' : (0 : Int) + ((j : Nat) : Int) = (j : Int) := by omega
        rw [e0']
        refine ⟨_, rfl, _, rfl, _, rfl, pR, pM, pN, rr, G, r + 1, j, nx, tl, mk, N, rfl, lr9, st9, by omega, by omega, T9, fun H10 e10 T10 => ?_⟩
        refine ⟨_, rfl, ?_⟩
        refine iteF ?_
        have lr10 := lr9.ext e10
        have hs10 := hs9.ext e10
        have eH10 := e9.trans e10
        obtain ⟨kvs, kN, _⟩ := id lr10.num.ex
        obtain ⟨_, _, _, sP, _⟩ := id hs10.ex
        have ln := st9.gr.len
        refine ⟨_, rfl, _, rfl, _, rfl, _, rfl, _, rfl, _, _, rfl, rfl, .inl ⟨by decide, by decide⟩, _, rfl, _, _, rfl, rfl, .inl ⟨by decide, by decide⟩, _, _, rfl, rfl, by show 2 ≤ sizeLine; decide, fun pP hpP => ?_⟩
        have e11 := Same.new (o := .lst [.int (2 * ((j : Nat) : Int)), .int (2 * ((j : Nat) : Int) + 1)]) hpP
        have hP11 : upd H10 pP (.lst [.int (2 * ((j : Nat) : Int)), .int (2 * ((j : Nat) : Int) + 1)]) pP = some (.lst (nV [2 * j, 2 * j + 1])) := by
          rw [upd_same]
          show _ = some (HO.lst [V.int ((2 * j : Nat) : Int), V.int ((2 * j + 1 : Nat) : Int)])
          have q1 : ((2 * j : Nat) : Int) = 2 * ((j : Nat) : Int) := by omega
          have q2 : ((2 * j + 1 : Nat) : Int) = 2 * ((j : Nat) : Int) + 1 := by omega
          rw [q1, q2]
        have lr11 := lr10.same e11
        have hs11 := hs10.same e11
        have eH11 := eH10.trans (ExtN.of e11)
        have T11 := T10.ext e11
        have rowat : ∀ q, q < r + 1 → ∃ xs, H10 (rr q) = some (.lst xs) := fun q hq => ⟨_, lr10.rot.row q G[q] (List.getElem?_eq_getElem (by omega))⟩
        have Pps : pP ≠ ps := (ne_of_none sP hpP).symm
        have PpM : pP ≠ pM := (ne_of_none lr10.mks hpP).symm
        have Prr : ∀ q, q < r + 1 → rr q ≠ pP := fun q hq => by
          obtain ⟨xs, z⟩ := rowat q hq
          exact ne_of_none z hpP
        generalize upd H10 pP (.lst [.int (2 * ((j : Nat) : Int)), .int (2 * ((j : Nat) : Int) + 1)]) = H11 at e11 hP11 lr11 hs11 eH11 T11
        have c0 : Same (cutR (cutH (cutH (cutH H11 ps) pM) pN) rr (r + 1)) H11 := cutR_same.trans (cutH_same.trans (cutH_same.trans cutH_same))
        have f0 : LF (cutR (cutH (cutH (cutH H11 ps) pM) pN) rr (r + 1)) ps pM pN rr (r + 1) := by
          refine ⟨?_, ?_, ?_, fun q hq => cutR_none hq⟩
          · exact cutR_same.free (cutH_same.free (cutH_same.free cutH_self))
          · exact cutR_same.free (cutH_same.free cutH_self)
          · exact cutR_same.free cutH_self
        have eH0 : ExtN H (cutR (cutH (cutH (cutH H11 ps) pM) pN) rr (r + 1)) := ext_cutR (ext_cut (ext_cut (ext_cut eH11 Ns) NM) Nn) Nr
        have T0 : Tabs [(Pt, qR)] (cutR (cutH (cutH (cutH H11 ps) pM) pN) rr (r + 1)) := tabs_sub T11 fun b => by
          by_cases h1 : b = ps
          · exact .inr (.inl ⟨_, by rw [h1]; exact e11 _ _ sP⟩)
          by_cases h2 : b = pM
          · exact .inr (.inl ⟨_, by rw [h2]; exact lr11.mks⟩)
          by_cases h3 : b = pN
          · exact .inr (.inr ⟨_, by rw [h3]; exact e11 _ _ kN⟩)
          by_cases h4 : ∃ q, q < r + 1 ∧ b = rr q
          · obtain ⟨q, hq, z⟩ := h4
            obtain ⟨xs, z2⟩ := rowat q hq
            exact .inr (.inl ⟨xs, by rw [z]; exact e11 _ _ z2⟩)
          · refine .inl ?_
            rw [cutR_ne fun q hq z => h4 ⟨q, hq, z⟩, cutH_ne h3, cutH_ne h2, cutH_ne h1]
        refine ⟨cutR (cutH (cutH (cutH H11 ps) pM) pN) rr (r + 1), ps, pR, pM, pN, pP, rr, G, r + 1, j, B, nx, tl, mk, N, rfl, c0, f0, la, hs11, by omega, lr11, hP11, st9, by omega, by omega, by omega, Pps, PpM, Prr, fun H12 G' nx' tl' mk' N' s12 hs12 lr12 st12 => ?_⟩
        exact ⟨_, G', nx', tl', mk', N', B + 4, rfl, eH0.trans (ExtN.of s12), T0.ext s12, hs12, by omega, lr12, st12⟩
      · rintro σ H9 ⟨y6, G, nx, tl, mk, N, B, rfl, e9, T9, hs9, hB, lr9, st9⟩
        refine ⟨_, rfl, _, rfl, _, rfl, pR, pM, pN, rr, G, r + 1, r2, nx, tl, mk, N, rfl, lr9, st9, by omega, by omega, T9, fun H10 e10 T10 => ?_⟩
        refine ⟨_, rfl, ?_⟩
        refine iteF ?_
        exact ⟨_, _, _, _, _, _, rfl, e9.trans e10, T10⟩
    · rintro σ H1 ⟨x1, x2, x3, x4, x5, x6, rfl, e1, T1⟩
      refine ⟨Nat.zero_le _, fun t1 ht1 => ?_⟩
      have g1 : ∀ {H' : Hp} {t : Addr}, H' t = some (.tup []) → GA H' t 0 0 [] id id := fun {H' t} h => ⟨⟨fun _ => 0, h, fun i r q => by simp at q⟩, stt_empty.gr, by decide, by decide⟩
      refine ⟨t1, [], 0, 0, id, id, id, fun _ => 2, rfl, g1 upd_same, stt_empty, fun H2 p s2 p0 hp => ?_⟩
      refine ⟨Nat.zero_le _, fun t2 ht2 => ?_⟩
      refine ⟨.tuple [], .tuple [], Dp.tup (SqT.of (Same.new ht2 _ _ hp)) .nil, Dp.tup (SqT.of upd_same) .nil, rfl, rfl, ?_⟩
      refine ⟨_, rfl, ?_⟩
      refine iteT ⟨Nat.zero_le _, fun t3 ht3 => ?_⟩
      refine ⟨t3, [], 0, 0, id, id, id, fun _ => 2, rfl, g1 upd_same, stt_empty, fun H3 s3 => ?_⟩
      refine ⟨_, _, rfl, rfl, ?_⟩
      exact k H3
end
end K07
/-! K07E1 -/
set_option Elab.async false
set_option linter.all false
set_option maxRecDepth 100000
set_option maxHeartbeats 4000000
namespace K07
open PySem PySem.Spec PyProof.Rows L2 LamX
/-! ### the end, for a law that asks that no repr is under way -/
theorem k07_call {P : Program} {w : World} {K : PySem.W.Frag} {mg mb : Str → Option Value} {k : Nat} {fa a : Addr} {cs : List (Addr × Addr)} {fd : FuncData} {x : Str} {sp : Sp} {s₁ : Shared} {vs : List Value} {ns : List Int}
    (KX : K.In s₁.heap) (hns : s₁.heap.Ns mainGlobals mg) (hb : s₁.heap.Ns builtinsNs mb) (hbb : ∀ x : Str, x ≠ "__name__" → mb x = bootBuiltins x) (hlim : s₁.heap.NoLimit) (hg : s₁.gens = #[])
    (hT : ∀ p ∈ cs, s₁.heap.get? p.2 = some { cls := .none, data := .fields #[] }) (nT : ∀ p ∈ cs, K.lookup p.2 = none) (C : ∀ p ∈ cs, PySem.W.CodeHd s₁.heap p.1 p.2)
    (hbm : ∃ (bm : Addr) (ob : Obj), mg "__builtins__" = some (.ref bm) ∧ bm ≠ builtinsNs ∧ s₁.heap.get? bm = some ob ∧ ob.cls = .type "module" ∧ ob.dict = some builtinsNs ∧ ob.data = .plain)
    (ha : s₁.heap.get? a = some { cls := .type "list", data := .seq vs.toArray }) (hi : IntsAre vs ns) (hl : ns.length ≤ sizeLine) (hr : Room k callerA)
    (F : ∀ base : Heap, K.In base → base.Ns mainGlobals mg → (∀ p ∈ cs, TabB base mg p.1 p.2) → FnG P w K mg base k fa fd [x] sp) (hbind : ∀ (s : Shared) (u : Value), BindsTo s fd ⟨[u], []⟩ [(x, u)])
    (hsp : ∀ H : Hp, (∀ p ∈ cs, H p.2 = some (.tbl #[])) → SqL K H a (ns.map V.int) → sp [.ref a] H (fun v _ => v = .bl true) fun _ _ _ => False) :
    codeAny (model P w) callerA (.call (.ref fa) ⟨[.ref a], []⟩) (fun r s' => r = .ok (.ret (.bool true)) ∧ OldK s₁.heap s'.heap ∧ s'.os = s₁.os ∧ AllBare s'.gens) s₁ := by
  have rv := vals_ints hi
  have lenV := hi.length
  have isT : ∀ b : Addr, b ∈ cs.map (·.2) → s₁.heap.get? b = some { cls := .none, data := .fields #[] } := fun b hb => by
    obtain ⟨p, hp, e⟩ := List.mem_map.mp hb
    rw [← e]
    exact hT p hp
  have aT : a ∉ cs.map (·.2) := fun z => by
    have q := isT a z
    rw [ha] at q
    have z' : Data.seq vs.toArray _ = Data.fields #[] := congrArg Obj.data (Option.some.inj q)
    cases z'
  have memT : ∀ p ∈ cs, p.2 ∈ cs.map (·.2) := fun p hp => List.mem_map.mpr ⟨p, hp, rfl⟩
  -- from an abstract heap in which nothing but the script and the tables may be tracked
  have core : ∀ H : Hp, (∀ p ∈ cs, H p.2 = some (.tbl #[])) → (∀ b, H b = none ∨ b ∈ cs.map (·.2) ∨ ∃ o xs, H b = some (.frz o (.lst xs))) → SqL K H a (ns.map V.int) → HOk P w H s₁.heap → (∀ b, H b ≠ none → b = a ∨ b ∈ cs.map (·.2)) → (H a ≠ none → K.lookup a = none) →
      codeAny (model P w) callerA (.call (.ref fa) ⟨[.ref a], []⟩) (fun r s' => r = .ok (.ret (.bool true)) ∧ OldK s₁.heap s'.heap ∧ s'.os = s₁.os ∧ AllBare s'.gens) s₁ := by
    intro H hH hO hS hok hA hK
    have base_of : ∀ {b : Addr} {o : Obj}, s₁.heap.get? b = some o → H b = none → (hidT s₁.heap H).get? b = some o := fun e n => hidT_get e n
    have noD : ∀ {b : Addr} {o : Obj}, s₁.heap.get? b = some o → (∀ vs n, o.data ≠ .seq vs n) → o.data ≠ .fields #[] → H b = none := fun {b o} e h1 h2 => by
      cases q : H b with
      | none => rfl
      | some u =>
        rcases hA b (by rw [q]; simp) with e' | e'
        · rw [e', ha] at e
          cases e
          exact (h1 _ _ rfl).elim
        · rw [isT b e'] at e
          cases e
          exact (h2 rfl).elim
    have noA : ∀ {b : Addr} {o : Obj} {es : Array DictEntry} {ep : Nat}, s₁.heap.get? b = some o → o.data = .dict es ep → H b = none := fun {b o es ep} e d => by
      refine noD e (fun vs n z => ?_) fun z => ?_
      · rw [d] at z
        cases z
      · rw [d] at z
        cases z
    have nsK : ∀ {b : Addr} {m : Str → Option Value}, s₁.heap.Ns b m → (hidT s₁.heap H).Ns b m := fun {b m} ⟨o, es, ep, e, d, r⟩ => ⟨o, es, ep, base_of e (noA e d), d, r⟩
    have hKb : K.In (hidT s₁.heap H) := fun b o e => base_of (KX b o e) (by
      cases q : H b with
      | none => rfl
      | some u =>
        rcases hA b (by rw [q]; simp) with e' | e'
        · rw [e'] at e q
          rw [hK (by rw [q]; simp)] at e
          cases e
        · obtain ⟨p, hp, ep⟩ := List.mem_map.mp e'
          rw [← ep, nT p hp] at e
          cases e)
    have hM : L2.Mod K mg (hidT s₁.heap H) := ⟨hKb, nsK hns, ⟨mb, nsK hb, hbb⟩, let ⟨mc, h1, h2⟩ := hlim; ⟨mc, nsK h1, h2⟩⟩
    have TB : ∀ p ∈ cs, TabB (hidT s₁.heap H) mg p.1 p.2 := fun p hp => by
      have hTp := hT p hp
      refine ⟨?_, ?_, fun z => ?_⟩
      · obtain ⟨o, us, file, tf, flags, tg, inF, text, tt, e1, r1, r2, r3, r4, r5, r6, r7, r8, hne⟩ := C p hp
        refine ⟨o, us, file, tf, flags, tg, inF, text, tt, base_of e1 (noD e1 (fun vs n z => ?_) fun z => ?_), r1, r2, r3, r4, r5, r6, r7, r8, hne⟩
        · rw [r2] at z
          cases z
        · rw [r2] at z
          cases z
          simp at r3
      · obtain ⟨bm, ob, b1, b2, b3, b4, b5, b6⟩ := hbm
        have nG : bm ≠ mainGlobals := fun q => by
          obtain ⟨o, es, ep, e, hd, _⟩ := hns
          rw [q, e] at b3
          cases b3
          rw [hd] at b6
          cases b6
        have nP : bm ≠ p.2 := fun q => by
          rw [q, hTp] at b3
          cases b3
          cases b6
        refine ⟨bm, ob, b1, b2, nG, nP, base_of b3 (noD b3 (fun vs n z => ?_) fun z => ?_), b4, b5, b6⟩
        · rw [b6] at z
          cases z
        · rw [b6] at z
          cases z
      · obtain ⟨o, es, ep, e, hd, _⟩ := hns
        rw [z, hTp] at e
        cases e
        cases hd
    have e0 : Env0 P w K mg (hidT s₁.heap H) callerA [] s₁ H := ⟨rfl, hM, fun b o e => of_hidT e, Nat.le_of_eq (hidT_size _ _), trivial, fun b hb => absurd (show b ∈ ([] : List Addr) from hb) (by simp), hok, .of_eq hg⟩
    refine codeAny_mono ((F _ hKb (nsK hns) TB).run callerA [] s₁ H ⟨[.ref a], []⟩ [.ref a] [.ref a] _ _ hr rfl e0 (hbind s₁ (.ref a)) (.cons rfl .nil) (hsp H hH hS)) fun r s' h => ?_
    cases r with
    | error e => exact (show False from h).elim
    | ok fl =>
      cases fl with
      | next => exact False.elim h
      | brk => exact False.elim h
      | cont => exact False.elim h
      | ret u =>
        obtain ⟨v, H', os, bare, un, hok', r', q⟩ := h
        have q' : v = .bl true := q
        subst q'
        obtain rfl : u = Value.bool true := r'
        have key : ∀ b o, b ∉ cs.map (·.2) → s₁.heap.get? b = some o → s'.heap.get? b = some o := fun b o nb e => by
          cases q : H b with
          | none => exact un.keep b o e q (by intro z; exact absurd (show b ∈ ([] : List Addr) from z) (by simp)) (by simp)
          | some u =>
            rcases hO b with z | z | ⟨ob, xs, z⟩
            · rw [q] at z; cases z
            · exact absurd z nb
            · have z2 := un.frzs b ob _ z
              obtain ⟨e1, _⟩ := hok b _ z
              obtain ⟨e2, _⟩ := hok' b _ z2
              rw [e] at e1; cases e1
              exact e2
        have grown : ∀ p ∈ cs, ∃ more : Array Value, s'.heap.get? p.2 = some { cls := .none, data := .fields more } := fun p hp => by
          obtain ⟨more, z⟩ := un.tbls p.2 #[] (hH p hp)
          exact ⟨_, hok' p.2 _ z⟩
        refine ⟨rfl, ⟨fun b o e => ?_, fun b o e => ?_⟩, os, bare⟩
        · by_cases hb : b ∈ cs.map (·.2)
          · obtain ⟨p, hp, ep⟩ := List.mem_map.mp hb
            obtain ⟨more, hm⟩ := grown p hp
            rw [← ep] at e ⊢
            rw [hT p hp] at e
            cases e
            exact .inr (.inl ⟨((C p hp).tab (hT p hp)).isCodeTable, rfl, #[], more, rfl, by rw [Array.empty_append]; exact hm⟩)
          · exact .inl (key b o hb e)
        · by_cases hb : b ∈ cs.map (·.2)
          · obtain ⟨p, hp, ep⟩ := List.mem_map.mp hb
            obtain ⟨more, hm⟩ := grown p hp
            rw [← ep]
            exact ⟨_, hm⟩
          · exact ⟨o, key b o hb e⟩
  cases hk : K.lookup a with
  | some o =>
    have e := KX a o hk
    rw [ha] at e
    cases e
    refine core (fun b => if b ∈ cs.map (·.2) then some (.tbl #[]) else none) (fun p hp => if_pos (memT p hp)) (fun b => ?_) (.inr ⟨_, vs.toArray, _, hk, rfl, rfl, rfl, by rw [List.size_toArray, lenV]; exact hl, by simpa using rv⟩) (fun b u z => ?_) (fun b z => ?_) fun z => absurd (show (if a ∈ cs.map (·.2) then some (HO.tbl #[]) else none) = none from if_neg aT) z
    · by_cases hb : b ∈ cs.map (·.2)
      · exact .inr (.inl hb)
      · exact .inl (if_neg hb)
    · by_cases hb : b ∈ cs.map (·.2)
      · have z' := (if_pos hb).symm.trans z
        cases z'
        exact isT b hb
      · have z' := (if_neg hb).symm.trans z
        cases z'
    · by_cases hb : b ∈ cs.map (·.2)
      · exact .inr hb
      · exact absurd (if_neg hb) z
  | none =>
    refine core (fun b => if b = a then some (.frz { cls := .type "list", data := .seq vs.toArray } (.lst (ns.map V.int))) else if b ∈ cs.map (·.2) then some (.tbl #[]) else none) (fun p hp => (if_neg (show ¬ p.2 = a from fun z => aT (by rw [← z]; exact memT p hp))).trans (if_pos (memT p hp))) (fun b => ?_)
      (.inl (.inr ⟨{ cls := .type "list", data := .seq vs.toArray }, if_pos rfl⟩)) (fun b u z => ?_) (fun b z => ?_) fun _ => hk
    · by_cases hb : b = a
      · exact .inr (.inr ⟨_, _, if_pos hb⟩)
      · by_cases hb2 : b ∈ cs.map (·.2)
        · exact .inr (.inl hb2)
        · exact .inl ((if_neg hb).trans (if_neg hb2))
    · by_cases hb : b = a
      · have z' := (if_pos hb).symm.trans z
        cases z'
        rw [hb]
        exact ⟨ha, by rw [List.length_map]; exact hl, vs, _, rv, ha⟩
      · have z1 := (if_neg hb).symm.trans z
        by_cases hb2 : b ∈ cs.map (·.2)
        · have z' := (if_pos hb2).symm.trans z1
          cases z'
          exact isT b hb2
        · have z' := (if_neg hb2).symm.trans z1
          cases z'
    · by_cases hb : b = a
      · exact .inl hb
      · by_cases hb2 : b ∈ cs.map (·.2)
        · exact .inr hb2
        · exact absurd ((if_neg hb).trans (if_neg hb2)) z
def LawG (l : PySem.W.OpenLaw) (w : World) (K : PySem.W.Frag) (k n : Nat) (x : Str) (mg : Str → Option Value) (fa : Addr) (h : Heap) : Prop :=
  ∃ (fd : FuncData) (cs : List (Addr × Addr)) (sp : Sp), (∀ p ∈ cs, h.get? p.2 = some { cls := .none, data := .fields #[] }) ∧ (∀ p ∈ cs, K.lookup p.2 = none) ∧ (∀ p ∈ cs, PySem.W.CodeHd h p.1 p.2) ∧ (∀ (s : Shared) (u : Value), BindsTo s fd ⟨[u], []⟩ [(x, u)]) ∧
    (∀ (H : Hp) (a : Addr) (ns : List Int), ns.length ≤ n → (∀ p ∈ cs, H p.2 = some (.tbl #[])) → SqL K H a (ns.map V.int) → sp [.ref a] H (fun v _ => v = .bl true) fun _ _ _ => False) ∧
    ∀ base : Heap, K.In base → base.Ns mainGlobals mg → (∀ p ∈ cs, TabB base mg p.1 p.2) → FnG l.prog w K mg base k fa fd [x] sp
theorem k07_walk {l : PySem.W.OpenLaw} {n k : Nat} {q : Program} {loose : List Str} {XP : (Str → Option Value) → Heap → Prop} {YP : World → Heap → Prop} {d : DefRec} {x : Str}
    (hn : l.most = some n) (hn2 : n ≤ sizeLine) (hdf : d.params.defaults = []) (hr : Room k callerA)
    (F : ∀ (w : World) (mg : Str → Option Value) (fa : Addr) (h : Heap), YP w h → h.Ns mainGlobals mg → mg d.name = some (.ref fa) → ∃ K : PySem.W.Frag, K.In h ∧ LawG l w K k n x mg fa h) :
    PySem.W.WalkO q loose XP YP l.row.toRowW d [] (fun f vs => PySem.call f vs) := by
  refine Att.attach_callB hn hdf fun w s₀ s₁ mg mb fa o pm cd doc a vs ns G Y ho hd hcd hmg hobj hints hlen hbits hg => ?_
  obtain ⟨K, KX, fd, cs, sp, hT, nT, C, hb, hsp, hF⟩ := F w mg fa _ Y G.T.g hmg
  exact k07_call KX G.T.g G.T.b G.T.builtins G.T.nolimit hg hT nT C G.T.bmain hobj hints (Nat.le_trans hlen hn2) hr hF hb (fun H hH hS => hsp H a ns hlen hH hS)
end K07
/-! K07E2 -/
set_option Elab.async false
set_option linter.all false
set_option maxRecDepth 100000
set_option maxHeartbeats 0
namespace K07
open PySem PySem.Spec PyProof.Rows L2 LamX
/-! ### the head -/
def bltUsed : List Str := ["isinstance", "int", "bool", "tuple", "len", "all", "sum", "range", "enumerate", "sorted", "zip", "min", "max", "list", "dict", "set", "repr"]
def fa : List He.Fa := (fn.map fun d => He.Fa.glo d.name) ++ (bltUsed.map He.Fa.free) ++ [.glo "NotPlane", .glo "InvalidValue", .glo "InvalidState", .glo "LimitReached", .int "MAX_NODES" 60, .int "MAX_EDGES" 120]
def fn' : List He.DefD := fn ++ [d_init]
def tf : List He.Defn := [("_law_right", none)]
def b1_ (K : PySem.W.Frag) (C f : Addr) : Bool := PySem.W.excInitIn K C rteT "RuntimeError.__new__" && (PySem.W.excOver K C rteT && (He.eqO (PySem.W.findIn K (.ref C) "__setattr__") (some (some (.builtin "object.__setattr__"))) && (He.eqO (PySem.W.findIn K (.ref C) "__getattribute__") (some (some (.builtin "BaseException.__getattribute__"))) &&
  (He.eqO (PySem.W.findIn K (.ref C) "__getattr__") (some none) && (He.eqO (PySem.W.findIn K (.ref C) "node") (some none) && (He.eqO (PySem.W.findIn K (.ref C) "__init__") (some (some (.ref f))) && (decide (PySem.W.typeIn K (.ref f) = some (.type "function")) && (PySem.W.keepIn K (.ref C) &&
  (decide (PySem.W.subIn K (.ref C) (.type "BaseException") = some true) && (decide (PySem.W.typeIn K (.ref C) = some (.type "type")) && PySem.W.hasDictIn K C))))))))))
def b2_ (K : PySem.W.Frag) (C : Addr) : Bool := (PySem.W.clsIn K C).isSome && (He.eqO (PySem.W.findIn K (.ref C) "__class__") (some (some (.builtin "object.__class__"))) && (He.eqO (PySem.W.specialIn K (.builtin "object.__class__") "__get__") (some (some (.builtin "getset_descriptor.__get__"))) &&
  (decide (PySem.W.takesIn K (.builtin "object.__class__") = some true) && decide (PySem.W.mroIn K C (.type "object") = some true))))
def b3_ (K : PySem.W.Frag) (C c1 c2 c3 : Addr) : Bool := decide (PySem.W.exmAny K (.ref C) [.ref c1, .ref c2, .ref c3] = some true)
def ex (K : PySem.W.Frag) : Bool := b1_ K (He.ga K "NotPlane") (He.fAd K ("NotPlane", some "__init__")) && (b2_ K (He.ga K "NotPlane") && b3_ K (He.ga K "NotPlane") (He.ga K "InvalidValue") (He.ga K "InvalidState") (He.ga K "LimitReached"))
theorem b1_ok {K : PySem.W.Frag} {mg : Str → Option Value} {C f : Addr} {fd : FuncData} (h : b1_ K C f = true) (g : mg "NotPlane" = some (.ref C)) (F : FunD K "__init__" "NotPlane.__init__" (defArgs s_init) (defBody s_init) (defScope s_init) [] [] f fd) : NpTxt K mg C f fd := by
  obtain ⟨h1, h⟩ := He.ba h
  obtain ⟨h2, h⟩ := He.ba h
  obtain ⟨h3, h⟩ := He.ba h
  obtain ⟨h4, h⟩ := He.ba h
  obtain ⟨h5, h⟩ := He.ba h
  obtain ⟨h6, h⟩ := He.ba h
  obtain ⟨h7, h⟩ := He.ba h
  obtain ⟨h8, h⟩ := He.ba h
  obtain ⟨h9, h⟩ := He.ba h
  obtain ⟨h10, h⟩ := He.ba h
  obtain ⟨h11, h12⟩ := He.ba h
  exact ⟨g, h1, h2, He.eqO_ok h3, He.eqO_ok h4, He.eqO_ok h5, He.eqO_ok h6, He.eqO_ok h7, of_decide_eq_true h8, h9, of_decide_eq_true h10, of_decide_eq_true h11, h12, F⟩
theorem b2_ok {K : PySem.W.Frag} {C : Addr} (h : b2_ K C = true) : NpIs K C := by
  obtain ⟨h1, h⟩ := He.ba h
  obtain ⟨h2, h⟩ := He.ba h
  obtain ⟨h3, h⟩ := He.ba h
  obtain ⟨h4, h5⟩ := He.ba h
  exact ⟨h1, He.eqO_ok h2, He.eqO_ok h3, of_decide_eq_true h4, of_decide_eq_true h5⟩
abbrev R : PySem.W.OpenRow := PySem.W.OpenLaw.row PySem.Challenge.rw_flatsum_k07_whole_edges_added
abbrev hk : PySem.W.Hook := He.hookX 4 fa fn' [] tf ex
def ob (s : PySem.W.SharedT) : He.AlX := He.obsX 4 fa fn' [] tf ex (HandSHeadRun.getT s)
theorem ob_eq (s : PySem.W.SharedT) : ob s = hk.obs s.abs := He.obsX_eq (HandSHeadRun.getT_eq s)
def loose : List Str := ["InvalidValue", "InvalidState", "LimitReached", "BadGraph", "NotPlane", "MAX_NODES", "MAX_EDGES", "is_index", "graph_fault", "check_graph", "dart_count", "opposite_of", "dart_tails", "component_list", "successors", "face_list", "faces_by_component", "numbers_of", "need_plane", "plane_numbers", "is_plane", "check_plane", "_law_source", "_law_next", "_law_walks", "_law_put", "_law_told", "_law_kinds", "_law_corner", "_law_joined", "_law_right"]
theorem run (w : World) : HandSHeadRun.RunEq R (PySem.W.view R.prog [35]) hk ob 4000 loose w := by
  intro os
  kernel_rfl
theorem facts {w : World} {K : PySem.W.Frag} {h : Heap} {mg : Str → Option Value} (X : K.In h) (G : h.Ns mainGlobals mg) (c : He.SaysX fa fn' [] tf ex w h K) :
    ∃ (L : Ls K mg) (fd : FuncData), L.b7.code = .ref (He.cT K ("_law_right", none)).1 ∧ FnP K "law" s_law (He.fAd K ("law", none)) fd ∧ mg "law" = some (.ref (He.fAd K ("law", none))) := by
  have D := c.t.d
  have ht : Txt mg := {
    isinstance := He.free_ok X G (D.fact 25 (f := .free "isinstance") rfl)
    int := He.free_ok X G (D.fact 26 (f := .free "int") rfl)
    bool := He.free_ok X G (D.fact 27 (f := .free "bool") rfl)
    tuple := He.free_ok X G (D.fact 28 (f := .free "tuple") rfl)
    len := He.free_ok X G (D.fact 29 (f := .free "len") rfl)
    all := He.free_ok X G (D.fact 30 (f := .free "all") rfl)
    sum := He.free_ok X G (D.fact 31 (f := .free "sum") rfl)
    range := He.free_ok X G (D.fact 32 (f := .free "range") rfl)
    enumerate := He.free_ok X G (D.fact 33 (f := .free "enumerate") rfl)
    sorted := He.free_ok X G (D.fact 34 (f := .free "sorted") rfl)
    zip := He.free_ok X G (D.fact 35 (f := .free "zip") rfl)
    min := He.free_ok X G (D.fact 36 (f := .free "min") rfl)
    max := He.free_ok X G (D.fact 37 (f := .free "max") rfl)
    list := He.free_ok X G (D.fact 38 (f := .free "list") rfl)
    dict := He.free_ok X G (D.fact 39 (f := .free "dict") rfl)
    set := He.free_ok X G (D.fact 40 (f := .free "set") rfl)
    repr := He.free_ok X G (D.fact 41 (f := .free "repr") rfl)
    maxN := He.int_ok X G (D.fact 46 (f := .int "MAX_NODES" 60) rfl)
    maxE := He.int_ok X G (D.fact 47 (f := .int "MAX_EDGES" 120) rfl) }
  obtain ⟨fd0, F0⟩ := D.def_ 0 (d := d_is_index) rfl
  have g0 : mg "is_index" = some (.ref (He.fAd K ("is_index", none))) := He.glo_ok X G (D.fact 0 (f := .glo "is_index") rfl)
  have D0 : Dn K mg "is_index" s_is_index ["value", "many"] (He.fAd K ("is_index", none)) fd0 := ⟨F0, g0, F0.bindsN fun _ _ _ _ _ _ us hl => match us, hl with | [_, _], _ => rfl⟩
  obtain ⟨fd1, F1⟩ := D.def_ 1 (d := d_graph_fault) rfl
  have g1 : mg "graph_fault" = some (.ref (He.fAd K ("graph_fault", none))) := He.glo_ok X G (D.fact 1 (f := .glo "graph_fault") rfl)
  have D1 : Dn K mg "graph_fault" s_graph_fault ["value"] (He.fAd K ("graph_fault", none)) fd1 := ⟨F1, g1, F1.bindsN fun _ _ _ _ _ _ us hl => match us, hl with | [_], _ => rfl⟩
  obtain ⟨fd2, F2⟩ := D.def_ 2 (d := d_check_graph) rfl
  have g2 : mg "check_graph" = some (.ref (He.fAd K ("check_graph", none))) := He.glo_ok X G (D.fact 2 (f := .glo "check_graph") rfl)
  have D2 : Dn K mg "check_graph" s_check_graph ["graph"] (He.fAd K ("check_graph", none)) fd2 := ⟨F2, g2, F2.bindsN fun _ _ _ _ _ _ us hl => match us, hl with | [_], _ => rfl⟩
  obtain ⟨fd3, F3⟩ := D.def_ 3 (d := d_dart_count) rfl
  have g3 : mg "dart_count" = some (.ref (He.fAd K ("dart_count", none))) := He.glo_ok X G (D.fact 3 (f := .glo "dart_count") rfl)
  have D3 : Dn K mg "dart_count" s_dart_count ["graph"] (He.fAd K ("dart_count", none)) fd3 := ⟨F3, g3, F3.bindsN fun _ _ _ _ _ _ us hl => match us, hl with | [_], _ => rfl⟩
  obtain ⟨fd4, F4⟩ := D.def_ 4 (d := d_opposite_of) rfl
  have g4 : mg "opposite_of" = some (.ref (He.fAd K ("opposite_of", none))) := He.glo_ok X G (D.fact 4 (f := .glo "opposite_of") rfl)
  have D4 : Dn K mg "opposite_of" s_opposite_of ["dart"] (He.fAd K ("opposite_of", none)) fd4 := ⟨F4, g4, F4.bindsN fun _ _ _ _ _ _ us hl => match us, hl with | [_], _ => rfl⟩
  obtain ⟨fd5, F5⟩ := D.def_ 5 (d := d_dart_tails) rfl
  have g5 : mg "dart_tails" = some (.ref (He.fAd K ("dart_tails", none))) := He.glo_ok X G (D.fact 5 (f := .glo "dart_tails") rfl)
  have D5 : Dn K mg "dart_tails" s_dart_tails ["graph"] (He.fAd K ("dart_tails", none)) fd5 := ⟨F5, g5, F5.bindsN fun _ _ _ _ _ _ us hl => match us, hl with | [_], _ => rfl⟩
  obtain ⟨fd6, F6⟩ := D.def_ 6 (d := d_component_list) rfl
  have g6 : mg "component_list" = some (.ref (He.fAd K ("component_list", none))) := He.glo_ok X G (D.fact 6 (f := .glo "component_list") rfl)
  have D6 : Dn K mg "component_list" s_component_list ["graph"] (He.fAd K ("component_list", none)) fd6 := ⟨F6, g6, F6.bindsN fun _ _ _ _ _ _ us hl => match us, hl with | [_], _ => rfl⟩
  obtain ⟨fd7, F7⟩ := D.def_ 7 (d := d_successors) rfl
  have g7 : mg "successors" = some (.ref (He.fAd K ("successors", none))) := He.glo_ok X G (D.fact 7 (f := .glo "successors") rfl)
  have D7 : Dn K mg "successors" s_successors ["graph"] (He.fAd K ("successors", none)) fd7 := ⟨F7, g7, F7.bindsN fun _ _ _ _ _ _ us hl => match us, hl with | [_], _ => rfl⟩
  obtain ⟨fd8, F8⟩ := D.def_ 8 (d := d_face_list) rfl
  have g8 : mg "face_list" = some (.ref (He.fAd K ("face_list", none))) := He.glo_ok X G (D.fact 8 (f := .glo "face_list") rfl)
  have D8 : Dn K mg "face_list" s_face_list ["graph"] (He.fAd K ("face_list", none)) fd8 := ⟨F8, g8, F8.bindsN fun _ _ _ _ _ _ us hl => match us, hl with | [_], _ => rfl⟩
  obtain ⟨fd9, F9⟩ := D.def_ 9 (d := d_faces_by_component) rfl
  have g9 : mg "faces_by_component" = some (.ref (He.fAd K ("faces_by_component", none))) := He.glo_ok X G (D.fact 9 (f := .glo "faces_by_component") rfl)
  have D9 : Dn K mg "faces_by_component" s_faces_by_component ["graph"] (He.fAd K ("faces_by_component", none)) fd9 := ⟨F9, g9, F9.bindsN fun _ _ _ _ _ _ us hl => match us, hl with | [_], _ => rfl⟩
  obtain ⟨fd10, F10⟩ := D.def_ 10 (d := d_numbers_of) rfl
  have g10 : mg "numbers_of" = some (.ref (He.fAd K ("numbers_of", none))) := He.glo_ok X G (D.fact 10 (f := .glo "numbers_of") rfl)
  have D10 : Dn K mg "numbers_of" s_numbers_of ["graph"] (He.fAd K ("numbers_of", none)) fd10 := ⟨F10, g10, F10.bindsN fun _ _ _ _ _ _ us hl => match us, hl with | [_], _ => rfl⟩
  obtain ⟨fd11, F11⟩ := D.def_ 11 (d := d_need_plane) rfl
  have g11 : mg "need_plane" = some (.ref (He.fAd K ("need_plane", none))) := He.glo_ok X G (D.fact 11 (f := .glo "need_plane") rfl)
  have D11 : Dn K mg "need_plane" s_need_plane ["graph"] (He.fAd K ("need_plane", none)) fd11 := ⟨F11, g11, F11.bindsN fun _ _ _ _ _ _ us hl => match us, hl with | [_], _ => rfl⟩
  obtain ⟨fd12, F12⟩ := D.def_ 12 (d := d_plane_numbers) rfl
  have g12 : mg "plane_numbers" = some (.ref (He.fAd K ("plane_numbers", none))) := He.glo_ok X G (D.fact 12 (f := .glo "plane_numbers") rfl)
  have D12 : Dn K mg "plane_numbers" s_plane_numbers ["graph"] (He.fAd K ("plane_numbers", none)) fd12 := ⟨F12, g12, F12.bindsN fun _ _ _ _ _ _ us hl => match us, hl with | [_], _ => rfl⟩
  obtain ⟨fd13, F13⟩ := D.def_ 13 (d := d_is_plane) rfl
  have g13 : mg "is_plane" = some (.ref (He.fAd K ("is_plane", none))) := He.glo_ok X G (D.fact 13 (f := .glo "is_plane") rfl)
  have D13 : Dn K mg "is_plane" s_is_plane ["graph"] (He.fAd K ("is_plane", none)) fd13 := ⟨F13, g13, F13.bindsN fun _ _ _ _ _ _ us hl => match us, hl with | [_], _ => rfl⟩
  obtain ⟨fd14, F14⟩ := D.def_ 14 (d := d_check_plane) rfl
  have g14 : mg "check_plane" = some (.ref (He.fAd K ("check_plane", none))) := He.glo_ok X G (D.fact 14 (f := .glo "check_plane") rfl)
  have D14 : Dn K mg "check_plane" s_check_plane ["graph"] (He.fAd K ("check_plane", none)) fd14 := ⟨F14, g14, F14.bindsN fun _ _ _ _ _ _ us hl => match us, hl with | [_], _ => rfl⟩
  obtain ⟨fd15, F15⟩ := D.def_ 15 (d := d_law_source) rfl
  have g15 : mg "_law_source" = some (.ref (He.fAd K ("_law_source", none))) := He.glo_ok X G (D.fact 15 (f := .glo "_law_source") rfl)
  have D15 : Dn K mg "_law_source" s_law_source ["_law_script", "_law_k"] (He.fAd K ("_law_source", none)) fd15 := ⟨F15, g15, F15.bindsN fun _ _ _ _ _ _ us hl => match us, hl with | [_, _], _ => rfl⟩
  obtain ⟨fd16, F16⟩ := D.def_ 16 (d := d_law_next) rfl
  have g16 : mg "_law_next" = some (.ref (He.fAd K ("_law_next", none))) := He.glo_ok X G (D.fact 16 (f := .glo "_law_next") rfl)
  have D16 : Dn K mg "_law_next" s_law_next ["_law_source_here", "_law_many"] (He.fAd K ("_law_next", none)) fd16 := ⟨F16, g16, F16.bindsN fun _ _ _ _ _ _ us hl => match us, hl with | [_, _], _ => rfl⟩
  obtain ⟨fd17, F17⟩ := D.def_ 17 (d := d_law_walks) rfl
  have g17 : mg "_law_walks" = some (.ref (He.fAd K ("_law_walks", none))) := He.glo_ok X G (D.fact 17 (f := .glo "_law_walks") rfl)
  have D17 : Dn K mg "_law_walks" s_law_walks ["_law_rotations"] (He.fAd K ("_law_walks", none)) fd17 := ⟨F17, g17, F17.bindsN fun _ _ _ _ _ _ us hl => match us, hl with | [_], _ => rfl⟩
  obtain ⟨fd18, F18⟩ := D.def_ 18 (d := d_law_put) rfl
  have g18 : mg "_law_put" = some (.ref (He.fAd K ("_law_put", none))) := He.glo_ok X G (D.fact 18 (f := .glo "_law_put") rfl)
  have D18 : Dn K mg "_law_put" s_law_put ["_law_rotations", "_law_dart", "_law_corner_here"] (He.fAd K ("_law_put", none)) fd18 := ⟨F18, g18, F18.bindsN fun _ _ _ _ _ _ us hl => match us, hl with | [_, _, _], _ => rfl⟩
  obtain ⟨fd19, F19⟩ := D.def_ 19 (d := d_law_told) rfl
  have g19 : mg "_law_told" = some (.ref (He.fAd K ("_law_told", none))) := He.glo_ok X G (D.fact 19 (f := .glo "_law_told") rfl)
  have D19 : Dn K mg "_law_told" s_law_told ["_law_call"] (He.fAd K ("_law_told", none)) fd19 := ⟨F19, g19, F19.bindsN fun _ _ _ _ _ _ us hl => match us, hl with | [_], _ => rfl⟩
  obtain ⟨fd20, F20⟩ := D.def_ 20 (d := d_law_kinds) rfl
  have g20 : mg "_law_kinds" = some (.ref (He.fAd K ("_law_kinds", none))) := He.glo_ok X G (D.fact 20 (f := .glo "_law_kinds") rfl)
  have D20 : Dn K mg "_law_kinds" s_law_kinds ["_law_caught"] (He.fAd K ("_law_kinds", none)) fd20 := ⟨F20, g20, F20.bindsN fun _ _ _ _ _ _ us hl => match us, hl with | [_], _ => rfl⟩
  obtain ⟨fd21, F21⟩ := D.def_ 21 (d := d_law_corner) rfl
  have g21 : mg "_law_corner" = some (.ref (He.fAd K ("_law_corner", none))) := He.glo_ok X G (D.fact 21 (f := .glo "_law_corner") rfl)
  have D21 : Dn K mg "_law_corner" s_law_corner ["_law_source_here", "_law_rotations", "_law_node"] (He.fAd K ("_law_corner", none)) fd21 := ⟨F21, g21, F21.bindsN fun _ _ _ _ _ _ us hl => match us, hl with | [_, _, _], _ => rfl⟩
  obtain ⟨fd22, F22⟩ := D.def_ 22 (d := d_law_joined) rfl
  have g22 : mg "_law_joined" = some (.ref (He.fAd K ("_law_joined", none))) := He.glo_ok X G (D.fact 22 (f := .glo "_law_joined") rfl)
  have D22 : Dn K mg "_law_joined" s_law_joined ["_law_source_here", "_law_rotations", "_law_marks", "_law_numbers", "_law_pair"] (He.fAd K ("_law_joined", none)) fd22 := ⟨F22, g22, F22.bindsN fun _ _ _ _ _ _ us hl => match us, hl with | [_, _, _, _, _], _ => rfl⟩
  obtain ⟨fd23, F23⟩ := D.def_ 23 (d := d_law_right) rfl
  have g23 : mg "_law_right" = some (.ref (He.fAd K ("_law_right", none))) := He.glo_ok X G (D.fact 23 (f := .glo "_law_right") rfl)
  have D23 : Dn K mg "_law_right" s_law_right ["_law_rotations", "_law_marks", "_law_numbers"] (He.fAd K ("_law_right", none)) fd23 := ⟨F23, g23, F23.bindsN fun _ _ _ _ _ _ us hl => match us, hl with | [_, _, _], _ => rfl⟩
  obtain ⟨fd24, F24⟩ := D.def_ 24 (d := d_law) rfl
  have g24 : mg "law" = some (.ref (He.fAd K ("law", none))) := He.glo_ok X G (D.fact 24 (f := .glo "law") rfl)
  obtain ⟨fdJ, FJ⟩ := D.def_ 25 (d := d_init) rfl
  obtain ⟨x1, x⟩ := He.ba c.more
  obtain ⟨x2, x3⟩ := He.ba x
  have hZ := b1_ok x1 (He.glo_ok X G (D.fact 42 (f := .glo "NotPlane") rfl)) FJ
  have hN := b2_ok x2
  have hH : Hand mg K (He.ga K "NotPlane") (He.ga K "InvalidValue") (He.ga K "InvalidState") (He.ga K "LimitReached") := ⟨He.glo_ok X G (D.fact 43 (f := .glo "InvalidValue") rfl), He.glo_ok X G (D.fact 44 (f := .glo "InvalidState") rfl), He.glo_ok X G (D.fact 45 (f := .glo "LimitReached") rfl), of_decide_eq_true x3⟩
  have hG : ∀ {x qual : Str} {params : Arguments} {body : List Stmt} {scope : Scope} {f : Addr} {fd : FuncData} (F : FunD K x qual params body scope [] [] f fd), (∀ (kV doc pm : Value) (an : Option Addr) (cdv ct : Value) (u : Value), bindArgs (PySem.W.fnOf x qual params body scope .none kV doc pm an cdv ct) ⟨[], [(("graph" : Str), u)]⟩ = pure [(("graph" : Str), u)]) → BindsG fd := fun F h => bindsG_of F h
  obtain ⟨oc, od, dV, kV, doc, pm, an, cdv, ct, osl, e7, lk7, hc7, hd7, hk7⟩ := F23.ex
  obtain ⟨c7, ec7⟩ := He.codeIn_ref hc7
  have h7 : fd23.code = .ref (He.cT K ("_law_right", none)).1 := by
    have q : fd23.code = .ref c7 := by rw [e7]; exact ec7
    rw [q]
    exact congrArg Value.ref (He.codeOf_eq lk7 q).symm
  let d : Ds K mg := {
    fI := He.fAd K ("is_index", none)
    fU := He.fAd K ("graph_fault", none)
    fK := He.fAd K ("check_graph", none)
    fC := He.fAd K ("dart_count", none)
    fT := He.fAd K ("dart_tails", none)
    fO := He.fAd K ("opposite_of", none)
    fS := He.fAd K ("successors", none)
    fL := He.fAd K ("face_list", none)
    fM := He.fAd K ("component_list", none)
    fB := He.fAd K ("faces_by_component", none)
    fN := He.fAd K ("numbers_of", none)
    fQ := He.fAd K ("need_plane", none)
    fA := He.fAd K ("plane_numbers", none)
    fV := He.fAd K ("is_plane", none)
    fR := He.fAd K ("check_plane", none)
    fJ := He.fAd K ("NotPlane", some "__init__")
    fY := He.fAd K ("_law_kinds", none)
    fG := He.fAd K ("_law_told", none)
    Cn := He.ga K "NotPlane"
    c1 := He.ga K "InvalidValue"
    c2 := He.ga K "InvalidState"
    c3 := He.ga K "LimitReached"
    fdI := fd0
    fdU := fd1
    fdK := fd2
    fdC := fd3
    fdT := fd5
    fdO := fd4
    fdS := fd7
    fdL := fd8
    fdM := fd6
    fdB := fd9
    fdN := fd10
    fdQ := fd11
    fdA := fd12
    fdV := fd13
    fdR := fd14
    fdJ := fdJ
    fdY := fd20
    fdG := fd19
    T := ht
    W := ⟨D3, D5, D4, D7, D8, D6⟩
    I := D0
    U := D1
    C := D2
    B := D9
    N := D10
    D := D11
    A := D12
    V := D13
    R := D14
    Y := D20
    G := D19
    Ag := hG F12 fun _ _ _ _ _ _ _ => rfl
    Vg := hG F13 fun _ _ _ _ _ _ _ => rfl
    Rg := hG F14 fun _ _ _ _ _ _ _ => rfl
    Z := hZ
    Is := hN
    Ha := hH }
  let L : Ls K mg := {
    d := d
    a1 := He.fAd K ("_law_source", none)
    b1 := fd15
    a2 := He.fAd K ("_law_next", none)
    b2 := fd16
    a3 := He.fAd K ("_law_walks", none)
    b3 := fd17
    a4 := He.fAd K ("_law_corner", none)
    b4 := fd21
    a5 := He.fAd K ("_law_put", none)
    b5 := fd18
    a6 := He.fAd K ("_law_joined", none)
    b6 := fd22
    a7 := He.fAd K ("_law_right", none)
    b7 := fd23
    S := D15
    X := D16
    W := D17
    C := D21
    U := D18
    J := D22
    R := D23
    }
  exact ⟨L, fd24, h7, F24, g24⟩
theorem law_at {w : World} {K : PySem.W.Frag} {h : Heap} {mg : Str → Option Value} {f : Addr} (X : K.In h) (G : h.Ns mainGlobals mg) (hm : mg "law" = some (.ref f)) (c : He.SaysX fa fn' [] tf ex w h K) :
    LawG PySem.Challenge.rw_flatsum_k07_whole_edges_added w K 11 63 "_law_script" mg f h := by
  obtain ⟨L, fd, hcd, F, gL⟩ := facts X G c
  rw [gL] at hm
  cases hm
  have q0 : (("_law_right", none) : He.Defn) ∈ tf := List.mem_cons_self
  have b := FunD.bindsA (ps := ["_law_script"]) F fun _ _ _ _ _ _ us hl => match us, hl with | [_], _ => rfl
  refine ⟨fd, [He.cT K ("_law_right", none)], spLaw K (He.cT K ("_law_right", none)).2, fun p hp => ?_, fun p hp => ?_, fun p hp => ?_, fun s u => b s [u] rfl, fun H a ns hl hH hS => ?_, fun base KB GB TB => ?_⟩
  · cases List.mem_singleton.mp hp
    exact c.empty _ q0
  · cases List.mem_singleton.mp hp
    exact c.out _ q0
  · cases List.mem_singleton.mp hp
    exact PySem.W.codeHd_of_K X (c.hd _ q0)
  · refine ⟨a, ns, rfl, hS, hl, fun p hp => ?_, fun _ => rfl⟩
    cases List.mem_singleton.mp hp
    exact TabS.nil (hH _ List.mem_cons_self)
  · exact ok_law F L hcd (TB _ List.mem_cons_self)
end K07
open PySem PySem.W PySem.Calls PyProof.Rows
theorem PySem.Challenge.cw_flatsum_k07_whole_edges_added_holds : PySem.Challenge.rw_flatsum_k07_whole_edges_added.Holds := by
  w_on; o_law
  refine HandSHeadRun.head_any (r := K07.R) (q := view K07.R.prog [35]) (H := K07.hk) (ob := K07.ob) (M := 4000) (loose := K07.loose) (d := HandSHeadRun.topDef K07.R.prog 35) (kwd := []) K07.ob_eq
    (by kernel_rfl) (fun s => by kernel_rfl) K07.run (by kernel_rfl) (by kernel_rfl) (by kernel_rfl) (by rfl) (by first | assumption | decide +kernel) (by decide +kernel) ⟨rfl, rfl, rfl, rfl, rfl, by decide +kernel⟩ ?hw ?hc
  case hw => w_witness2
  case hc =>
    refine K07.k07_walk (l := PySem.Challenge.rw_flatsum_k07_whole_edges_added) (n := 63) (k := 11) (x := "_law_script") rfl (by decide) (by kernel_rfl) ⟨rfl, by decide, by decide⟩ ?F
    intro w mg fa h Y G hmg0
    obtain ⟨K, KX, c⟩ := Y
    have hmg : mg ("law" : PySem.Str) = some (.ref fa) := by
      have e : (HandSHeadRun.topDef K07.R.prog 35).name = ("law" : PySem.Str) := by kernel_rfl
      rw [← e]
      exact hmg0
    exact ⟨K, KX, K07.law_at KX G hmg c⟩
