import PyProof.Rows.All
import Wide.All
import OpenK.AllK
import Wide.FinOn
import KE.GoesEnum
import KE.KSortTup
import HandS.ForMost
import HandS.Style
import HandS.Sort
import HandS.SortOrd
import HandS.SortRule
import HandS.Walk
import HandS.Text
import PySem.Challenge.RW_spinfield_k25_whole_orientations
import HandS.IsInst
import HandS.Evl
set_option Elab.async false
set_option linter.all false
set_option maxRecDepth 100000
set_option maxHeartbeats 4000000
namespace Mt
def Path (f : Nat → Nat) : List Nat → Nat → Prop
  | [], _ => True
  | [x], z => f x = z
  | x :: y :: r, z => f x = y ∧ Path f (y :: r) z
def Cyc (f : Nat → Nat) : List Nat → Prop
  | [] => True
  | x :: r => Path f (x :: r) x
theorem path_append {f : Nat → Nat} {y : Nat} {b : List Nat} {z : Nat} : ∀ {a : List Nat}, Path f (a ++ y :: b) z ↔ Path f a y ∧ Path f (y :: b) z
  | [] => by simp [Path]
  | [x] => by simp [Path]
  | x :: x' :: r => by
    have ih := path_append (f := f) (y := y) (b := b) (z := z) (a := x' :: r)
    simp only [List.cons_append] at ih
    simp only [List.cons_append, Path]
    rw [ih]
    exact and_assoc.symm
theorem cyc_rot {f : Nat → Nat} : ∀ {a b : List Nat}, Cyc f (a ++ b) → Cyc f (b ++ a)
  | [], b, h => by simpa using h
  | a, [], h => by simpa using h
  | x :: a, y :: b, h => by
    have h' : Path f ((x :: a) ++ y :: b) x := h
    obtain ⟨h1, h2⟩ := path_append.mp h'
    exact (path_append (f := f) (a := y :: b) (y := x) (b := a) (z := y)).mpr ⟨h2, h1⟩
theorem path_map {f g : Nat → Nat} {rho : Nat → Nat} : ∀ {l : List Nat} {z : Nat}, Path f l z → (∀ x ∈ l, g x = rho (f x)) → (∀ y ∈ l.tail, rho y = y) → Path g l (rho z)
  | [], _, _, _, _ => trivial
  | [x], z, h, hg, _ => by
    have h' : f x = z := h
    show g x = rho z
    rw [hg x (by simp), h']
  | x :: y :: r, z, h, hg, hr => by
    obtain ⟨h1, h2⟩ := h
    refine ⟨?_, path_map h2 (fun a ha => hg a (List.mem_cons_of_mem _ ha)) fun a ha => hr a (by simp at ha ⊢; exact .inr ha)⟩
    rw [hg x (by simp), h1]
    exact hr y (by simp)
theorem cyc_map {f g : Nat → Nat} {rho : Nat → Nat} {l : List Nat} (h : Cyc f l) (hg : ∀ x ∈ l, g x = rho (f x)) (hr : ∀ y ∈ l, rho y = y) : Cyc g l := by
  cases l with
  | nil => trivial
  | cons x r =>
    have q := path_map (z := x) h hg fun y hy => hr y (List.mem_cons_of_mem _ hy)
    rw [hr x (by simp)] at q
    exact q
theorem cyc_congr {f g : Nat → Nat} {l : List Nat} (h : Cyc f l) (hg : ∀ x ∈ l, g x = f x) : Cyc g l := cyc_map (rho := id) h hg fun _ _ => rfl
theorem path_ix {f : Nat → Nat} : ∀ {l : List Nat} {z i x : Nat}, Path f l z → l[i]? = some x → some (f x) = (l[i + 1]?).or (some z)
  | [], _, _, _, _, e => by simp at e
  | [a], z, 0, x, h, e => by
    have e' : a = x := by simpa using e
    have h' : f a = z := h
    rw [← e', h']
    simp
  | [a], z, i + 1, x, h, e => by simp at e
  | a :: b :: r, z, 0, x, h, e => by
    have e' : a = x := by simpa using e
    obtain ⟨h1, _⟩ := h
    rw [← e', h1]
    simp
  | a :: b :: r, z, i + 1, x, h, e => by
    have q := path_ix (i := i) h.2 (by simpa using e)
    simpa using q
theorem cyc_ix {f : Nat → Nat} {l : List Nat} {i x : Nat} (h : Cyc f l) (e : l[i]? = some x) : l[(i + 1) % l.length]? = some (f x) := by
  cases l with
  | nil => simp at e
  | cons a r =>
    have hi := (List.getElem?_eq_some_iff.mp e).1
    have q := path_ix h e
    by_cases hl : i + 1 < (a :: r).length
    · rw [Nat.mod_eq_of_lt hl, q, List.getElem?_eq_getElem hl]
      rfl
    · have e1 : i + 1 = (a :: r).length := by omega
      rw [e1, Nat.mod_self]
      rw [List.getElem?_eq_none (by omega)] at q
      simpa using q.symm
theorem cyc_mem {f : Nat → Nat} {l : List Nat} {x : Nat} (h : Cyc f l) (hx : x ∈ l) : f x ∈ l := by
  obtain ⟨i, hi, e⟩ := List.mem_iff_getElem.mp hx
  exact List.mem_of_getElem? (cyc_ix h (i := i) (x := x) (by rw [List.getElem?_eq_getElem hi, e]))
theorem path_inv {f : Nat → Nat} {P : Nat → Prop} : ∀ {l : List Nat} {z : Nat}, Path f l z → (∀ x ∈ l, P (f x) ↔ P x) → ∀ x ∈ l, P x ↔ P z
  | [], _, _, _, x, hx => by simp at hx
  | [a], z, h, hP, x, hx => by
    have h' : f a = z := h
    have e : x = a := by simpa using hx
    rw [e, ← h']
    exact (hP a (by simp)).symm
  | a :: b :: r, z, h, hP, x, hx => by
    obtain ⟨h1, h2⟩ := h
    have ih := path_inv h2 fun y hy => hP y (List.mem_cons_of_mem _ hy)
    rcases List.mem_cons.mp hx with e | hx
    · rw [e, ← hP a (by simp), h1]
      exact ih b (by simp)
    · exact ih x hx
theorem cyc_inv {f : Nat → Nat} {P : Nat → Prop} {l : List Nat} (h : Cyc f l) (hP : ∀ x ∈ l, P (f x) ↔ P x) {x y : Nat} (hx : x ∈ l) (hy : y ∈ l) : P x ↔ P y := by
  cases l with
  | nil => simp at hx
  | cons a r => exact (path_inv h hP x hx).trans (path_inv h hP y hy).symm
structure CycPart (f : Nat → Nat) (D : Nat) (L : List (List Nat)) : Prop where
  cyc : ∀ c ∈ L, Cyc f c
  ne : ∀ c ∈ L, c ≠ []
  pm : L.flatten.Perm (List.range D)
theorem CycPart.nd {f : Nat → Nat} {D : Nat} {L : List (List Nat)} (C : CycPart f D L) : L.flatten.Nodup := C.pm.nodup_iff.mpr List.nodup_range
theorem CycPart.mem {f : Nat → Nat} {D : Nat} {L : List (List Nat)} (C : CycPart f D L) {d : Nat} : d ∈ L.flatten ↔ d < D := by
  rw [C.pm.mem_iff, List.mem_range]
theorem CycPart.lt {f : Nat → Nat} {D : Nat} {L : List (List Nat)} (C : CycPart f D L) {c : List Nat} {d : Nat} (hc : c ∈ L) (hd : d ∈ c) : d < D := C.mem.mp (List.mem_flatten.mpr ⟨c, hc, hd⟩)
theorem CycPart.perm {f : Nat → Nat} {D : Nat} {L L' : List (List Nat)} (C : CycPart f D L) (p : L'.Perm L) : CycPart f D L' :=
  ⟨fun c hc => C.cyc c (p.mem_iff.mp hc), fun c hc => C.ne c (p.mem_iff.mp hc), p.flatten.trans C.pm⟩
theorem CycPart.step {f : Nat → Nat} {D : Nat} {L : List (List Nat)} (C : CycPart f D L) {d : Nat} (h : d < D) : f d < D := by
  obtain ⟨c, hc, hd⟩ := List.mem_flatten.mp (C.mem.mpr h)
  exact C.lt hc (cyc_mem (C.cyc c hc) hd)
end Mt
namespace Mt
def orb (f : Nat → Nat) : Nat → Nat → Nat → List Nat
  | 0, _, _ => []
  | k + 1, x, y => if y = x then [] else y :: orb f k x (f y)
def cy (f : Nat → Nat) (D x : Nat) : List Nat := x :: orb f D x (f x)
def fl (f : Nat → Nat) (D : Nat) : Nat → List (List Nat)
  | 0 => []
  | i + 1 => if i ∈ (fl f D i).flatten then fl f D i else fl f D i ++ [cy f D i]
def facesF (f : Nat → Nat) (D : Nat) : List (List Nat) := if D = 0 then [[]] else fl f D D
theorem orb_self {f : Nat → Nat} {k x : Nat} : orb f k x x = [] := by
  cases k with
  | zero => rfl
  | succ k => simp [orb]
theorem orb_path {f : Nat → Nat} {x : Nat} : ∀ {r : List Nat} {y k : Nat}, Path f (y :: r) x → x ∉ y :: r → (y :: r).length ≤ k → orb f k x y = y :: r
  | r, y, 0, _, _, hk => by simp at hk
  | [], y, k + 1, h, hx, _ => by
    have h' : f y = x := h
    have hn : y ≠ x := fun e => hx (by simp [e])
    simp [orb, hn, h', orb_self]
  | b :: r, y, k + 1, h, hx, hk => by
    obtain ⟨h1, h2⟩ := h
    have hn : y ≠ x := fun e => hx (by simp [e])
    have ih := orb_path (k := k) h2 (fun q => hx (List.mem_cons_of_mem _ q)) (by simp at hk ⊢; omega)
    simp only [orb, if_neg hn, h1, ih]
theorem cy_eq {f : Nat → Nat} {D x : Nat} {r : List Nat} (h : Path f (x :: r) x) (hx : x ∉ r) (hl : r.length ≤ D) : cy f D x = x :: r := by
  cases r with
  | nil =>
    have h' : f x = x := h
    simp [cy, h', orb_self]
  | cons y r =>
    obtain ⟨h1, h2⟩ := h
    simp only [cy, h1]
    rw [orb_path h2 hx hl]
theorem nodup_len {l : List Nat} {D : Nat} (h : l.Nodup) (hl : ∀ x ∈ l, x < D) : l.length ≤ D := by
  have q := h.length_le_of_subset (l₂ := List.range D) fun x hx => List.mem_range.mpr (hl x hx)
  simpa using q
structure FlI (f : Nat → Nat) (D i : Nat) (G A B L : List (List Nat)) : Prop where
  pm : L.Perm (A ++ B)
  fp : G.flatten.Perm A.flatten
  len : G.length = A.length
  cyc : ∀ c ∈ G, Cyc f c
  hd : ∀ c ∈ G, ∃ h r, c = h :: r ∧ h < i ∧ ∀ y ∈ r, h < y
  asc : G.Pairwise fun a b => a.headD 0 < b.headD 0
  big : ∀ c ∈ B, ∀ x ∈ c, i ≤ x
theorem FlI.skip {f : Nat → Nat} {D i : Nat} {G A B L : List (List Nat)} (C : CycPart f D L) (I : FlI f D i G A B L) (h : i ∈ G.flatten) : FlI f D (i + 1) G A B L := by
  refine ⟨I.pm, I.fp, I.len, I.cyc, fun c hc => ?_, I.asc, fun c hc x hx => ?_⟩
  · obtain ⟨a, r, e, h1, h2⟩ := I.hd c hc
    exact ⟨a, r, e, by omega, h2⟩
  · have h1 := I.big c hc x hx
    have h2 : x ≠ i := fun e => by
      subst e
      have nd : (A ++ B).flatten.Nodup := I.pm.flatten.nodup_iff.mp C.nd
      rw [List.flatten_append, List.nodup_append] at nd
      exact nd.2.2 x (I.fp.mem_iff.mp h) x (List.mem_flatten.mpr ⟨c, hc, hx⟩) rfl
    omega
theorem FlI.take {f : Nat → Nat} {D i : Nat} {G A B L : List (List Nat)} (C : CycPart f D L) (I : FlI f D i G A B L) (hi : i < D) (h : i ∉ G.flatten) :
    ∃ r A' B', cy f D i = i :: r ∧ Path f (i :: r) i ∧ (i :: r).Nodup ∧ (∀ x ∈ i :: r, x ∉ G.flatten ∧ x < D) ∧ FlI f D (i + 1) (G ++ [i :: r]) A' B' L := by
  have nd : (A ++ B).flatten.Nodup := I.pm.flatten.nodup_iff.mp C.nd
  have hm : i ∈ (A ++ B).flatten := I.pm.flatten.mem_iff.mp (C.mem.mpr hi)
  rw [List.flatten_append] at nd hm
  have hB : i ∈ B.flatten := (List.mem_append.mp hm).resolve_left fun q => h (I.fp.mem_iff.mpr q)
  obtain ⟨c, hc, hic⟩ := List.mem_flatten.mp hB
  obtain ⟨B1, B2, rfl⟩ := List.append_of_mem hc
  obtain ⟨P, Q, rfl⟩ := List.append_of_mem hic
  have hcL : P ++ i :: Q ∈ L := I.pm.mem_iff.mpr (by simp)
  have hcy : Cyc f (i :: (Q ++ P)) := cyc_rot (C.cyc _ hcL)
  have pc : (i :: (Q ++ P)).Perm (P ++ i :: Q) := (List.perm_append_comm (l₁ := i :: Q) (l₂ := P))
  have ndc : (i :: (Q ++ P)).Nodup := by
    refine pc.nodup_iff.mpr ?_
    have := (List.nodup_append.mp nd).2.1
    rw [List.flatten_append, List.flatten_cons] at this
    exact (List.nodup_append.mp (List.nodup_append.mp this).2.1).1
  have ltc : ∀ x ∈ i :: (Q ++ P), x < D := fun x hx => C.lt hcL (pc.mem_iff.mp hx)
  have len := nodup_len ndc ltc
  refine ⟨Q ++ P, A ++ [P ++ i :: Q], B1 ++ B2, cy_eq hcy (List.nodup_cons.mp ndc).1 (by simp at len ⊢; omega), hcy, ndc, fun x hx => ⟨fun q => ?_, ltc x hx⟩, ?_⟩
  · exact (List.nodup_append.mp nd).2.2 x (I.fp.mem_iff.mp q) x (List.mem_flatten.mpr ⟨_, hc, pc.mem_iff.mp hx⟩) rfl
  · refine ⟨?_, ?_, ?_, fun d hd => ?_, fun d hd => ?_, ?_, fun d hd x hx => ?_⟩
    · refine I.pm.trans ?_
      rw [List.append_assoc]
      refine List.Perm.append_left A ?_
      exact List.perm_middle
    · rw [List.flatten_append, List.flatten_append]
      refine List.Perm.append I.fp ?_
      simpa using pc
    · simp [I.len]
    · rcases List.mem_append.mp hd with q | q
      · exact I.cyc d q
      · rw [List.mem_singleton.mp q]
        exact hcy
    · rcases List.mem_append.mp hd with q | q
      · obtain ⟨a, r, e, h1, h2⟩ := I.hd d q
        exact ⟨a, r, e, by omega, h2⟩
      · refine ⟨i, Q ++ P, List.mem_singleton.mp q, by omega, fun y hy => ?_⟩
        have h1 := I.big _ hc y (pc.mem_iff.mp (List.mem_cons_of_mem _ hy))
        have h2 : y ≠ i := fun e => (List.nodup_cons.mp ndc).1 (e ▸ hy)
        omega
    · rw [List.pairwise_append]
      refine ⟨I.asc, by simp, fun a ha b hb => ?_⟩
      rw [List.mem_singleton.mp hb]
      obtain ⟨x, r, e, h1, _⟩ := I.hd a ha
      rw [e]
      exact h1
    · have hd' : d ∈ B1 ++ (P ++ i :: Q) :: B2 := by
        rcases List.mem_append.mp hd with q | q
        · exact List.mem_append_left _ q
        · exact List.mem_append_right _ (List.mem_cons_of_mem _ q)
      have h1 := I.big d hd' x hx
      have h2 : x ≠ i := fun e => by
        subst e
        have n2 := (List.nodup_append.mp nd).2.1
        rw [List.flatten_append, List.flatten_cons, List.nodup_append, List.nodup_append] at n2
        rcases List.mem_append.mp hd with q | q
        · exact n2.2.2 x (List.mem_flatten.mpr ⟨d, q, hx⟩) x (by simp) rfl
        · exact n2.2.1.2.2 x (by simp) x (List.mem_flatten.mpr ⟨d, q, hx⟩) rfl
      omega
theorem fl_inv {f : Nat → Nat} {D : Nat} {L : List (List Nat)} (C : CycPart f D L) : ∀ i, i ≤ D → ∃ A B, FlI f D i (fl f D i) A B L
  | 0, _ => ⟨[], L, by simp, by simp [fl], rfl, by simp [fl], by simp [fl], by simp [fl], fun _ _ _ _ => Nat.zero_le _⟩
  | i + 1, hi => by
    obtain ⟨A, B, I⟩ := fl_inv C i (by omega)
    by_cases h : i ∈ (fl f D i).flatten
    · exact ⟨A, B, by simpa only [fl, if_pos h] using I.skip C h⟩
    · obtain ⟨r, A', B', e, _, _, _, I'⟩ := I.take C (by omega) h
      refine ⟨A', B', ?_⟩
      simp only [fl, if_neg h, e]
      exact I'
theorem cy_ok {f : Nat → Nat} {D : Nat} {L : List (List Nat)} (C : CycPart f D L) {i : Nat} (hi : i < D) (h : i ∉ (fl f D i).flatten) :
    ∃ r, cy f D i = i :: r ∧ Path f (i :: r) i ∧ (i :: r).Nodup ∧ ∀ x ∈ i :: r, x ∉ (fl f D i).flatten ∧ x < D := by
  obtain ⟨A, B, I⟩ := fl_inv C i (by omega)
  obtain ⟨r, _, _, e, h1, h2, h3, _⟩ := I.take C hi h
  exact ⟨r, e, h1, h2, h3⟩
theorem fl_nd {f : Nat → Nat} {D : Nat} {L : List (List Nat)} (C : CycPart f D L) {i : Nat} (hi : i ≤ D) : (fl f D i).flatten.Nodup ∧ ∀ x ∈ (fl f D i).flatten, x < D := by
  obtain ⟨A, B, I⟩ := fl_inv C i hi
  have nd : (A ++ B).flatten.Nodup := I.pm.flatten.nodup_iff.mp C.nd
  rw [List.flatten_append] at nd
  refine ⟨I.fp.nodup_iff.mpr (List.nodup_append.mp nd).1, fun x hx => C.mem.mp (I.pm.flatten.mem_iff.mpr ?_)⟩
  rw [List.flatten_append]
  exact List.mem_append_left _ (I.fp.mem_iff.mp hx)
theorem fl_ok {f : Nat → Nat} {D : Nat} {L : List (List Nat)} (C : CycPart f D L) : CycPart f D (fl f D D) ∧ (fl f D D).length = L.length ∧
    (∀ c ∈ fl f D D, ∃ h r, c = h :: r ∧ ∀ y ∈ r, h < y) ∧ (fl f D D).Pairwise fun a b => a.headD 0 < b.headD 0 := by
  obtain ⟨A, B, I⟩ := fl_inv C D (Nat.le_refl _)
  have hB : B = [] := by
    cases B with
    | nil => rfl
    | cons c B =>
      have hcL : c ∈ L := I.pm.mem_iff.mpr (by simp)
      have hne := C.ne c hcL
      cases c with
      | nil => exact absurd rfl hne
      | cons x r =>
        have h1 := I.big (x :: r) (by simp) x (by simp)
        have h2 := C.lt hcL (d := x) (by simp)
        omega
  subst hB
  have pm : L.Perm A := by simpa using I.pm
  refine ⟨⟨I.cyc, fun c hc e => ?_, I.fp.trans (pm.flatten.symm.trans C.pm)⟩, I.len.trans pm.length_eq.symm, fun c hc => ?_, I.asc⟩
  · obtain ⟨h, r, e', _⟩ := I.hd c hc
    rw [e] at e'
    cases e'
  · obtain ⟨h, r, e', _, h2⟩ := I.hd c hc
    exact ⟨h, r, e', h2⟩
end Mt
namespace Mt
theorem perm_of_count {l m : List Nat} (h : ∀ a, l.count a = m.count a) : l.Perm m := List.perm_iff_count.mpr h
theorem range_two (D : Nat) : List.range (D + 2) = List.range D ++ [D, D + 1] := by
  rw [List.range_succ, List.range_succ, List.append_assoc]
  rfl
theorem part_leaf {f g : Nat → Nat} {D o : Nat} {L : List (List Nat)} {c : List Nat} (C : CycPart f D L) (hc : c ∈ L) (ho : o ∈ c)
    (g0 : ∀ x, x < D → g x = if f x = o then D else f x) (g1 : g D = D + 1) (g2 : g (D + 1) = o) : ∃ L', CycPart g (D + 2) L' ∧ L'.length = L.length := by
  obtain ⟨A, B, rfl⟩ := List.append_of_mem hc
  obtain ⟨P, Q, rfl⟩ := List.append_of_mem ho
  have hcy : Cyc f (o :: (Q ++ P)) := cyc_rot (C.cyc _ hc)
  have nd := C.nd
  have lt : ∀ x ∈ P ++ o :: Q, x < D := fun x hx => C.lt hc hx
  rw [List.flatten_append, List.flatten_cons] at nd
  have nd2 := (List.nodup_append.mp nd).2.1
  have ndc := (List.nodup_append.mp nd2).1
  have ndo : o ∉ Q ++ P := by
    have : (o :: (Q ++ P)).Nodup := (List.perm_append_comm (l₁ := o :: Q) (l₂ := P)).nodup_iff.mpr ndc
    exact (List.nodup_cons.mp this).1
  refine ⟨A ++ (D :: (D + 1) :: o :: (Q ++ P)) :: B, ⟨fun d hd => ?_, fun d hd => ?_, ?_⟩, by simp⟩
  · have other : ∀ d, d ∈ A ∨ d ∈ B → Cyc g d := fun d hd => by
      have hm : d ∈ A ++ (P ++ o :: Q) :: B := by
        rcases hd with q | q
        · exact List.mem_append_left _ q
        · exact List.mem_append_right _ (List.mem_cons_of_mem _ q)
      have no : o ∉ d := fun q => by
        rcases hd with h | h
        · exact (List.nodup_append.mp nd).2.2 o (List.mem_flatten.mpr ⟨d, h, q⟩) o (by simp) rfl
        · exact (List.nodup_append.mp nd2).2.2 o (by simp) o (List.mem_flatten.mpr ⟨d, h, q⟩) rfl
      refine cyc_congr (C.cyc d hm) fun x hx => ?_
      have hfx := cyc_mem (C.cyc d hm) hx
      have h1 : f x ≠ o := fun e => no (by rw [← e]; exact hfx)
      rw [g0 x (C.lt hm hx), if_neg h1]
    rcases List.mem_append.mp hd with q | q
    · exact other d (.inl q)
    · rcases List.mem_cons.mp q with e | q
      · subst e
        show Path g (D :: (D + 1) :: o :: (Q ++ P)) D
        refine ⟨g1, g2, ?_⟩
        have := path_map (g := g) (rho := fun y => if y = o then D else y) hcy (fun x hx => g0 x (lt x ((List.perm_append_comm (l₁ := o :: Q) (l₂ := P)).mem_iff.mp hx))) (fun y hy => by
          have hy : y ∈ Q ++ P := hy
          have h1 : y ≠ o := fun e => ndo (by rw [← e]; exact hy)
          exact if_neg h1)
        simpa using this
      · exact other d (.inr q)
  · rcases List.mem_append.mp hd with q | q
    · exact C.ne d (List.mem_append_left _ q)
    · rcases List.mem_cons.mp q with e | q
      · rw [e]
        simp
      · exact C.ne d (List.mem_append_right _ (List.mem_cons_of_mem _ q))
  · rw [range_two]
    refine List.Perm.trans ?_ (List.Perm.append_right [D, D + 1] C.pm)
    refine perm_of_count fun a => ?_
    simp only [List.flatten_append, List.flatten_cons, List.count_append, List.count_cons, List.count_nil]
    omega
theorem part_edge {f g : Nat → Nat} {D o p : Nat} {L : List (List Nat)} {c : List Nat} (C : CycPart f D L) (hc : c ∈ L) (ho : o ∈ c) (hp : p ∈ c)
    (g0 : ∀ x, x < D → g x = if f x = o then D else if f x = p then D + 1 else f x) (g1 : g D = p) (g2 : g (D + 1) = if o = p then D + 1 else o) : ∃ L', CycPart g (D + 2) L' ∧ L'.length = L.length + 1 := by
  obtain ⟨A, B, rfl⟩ := List.append_of_mem hc
  obtain ⟨P, Q, rfl⟩ := List.append_of_mem ho
  have hcy : Cyc f (o :: (Q ++ P)) := cyc_rot (C.cyc _ hc)
  have pc : (o :: (Q ++ P)).Perm (P ++ o :: Q) := List.perm_append_comm (l₁ := o :: Q) (l₂ := P)
  have nd := C.nd
  have lt : ∀ x ∈ o :: (Q ++ P), x < D := fun x hx => C.lt hc (pc.mem_iff.mp hx)
  rw [List.flatten_append, List.flatten_cons] at nd
  have nd2 := (List.nodup_append.mp nd).2.1
  have ndc : (o :: (Q ++ P)).Nodup := pc.nodup_iff.mpr (List.nodup_append.mp nd2).1
  have hp' : p ∈ o :: (Q ++ P) := pc.mem_iff.mpr hp
  have other : ∀ d, d ∈ A ∨ d ∈ B → Cyc g d := fun d hd => by
    have hm : d ∈ A ++ (P ++ o :: Q) :: B := by
      rcases hd with q | q
      · exact List.mem_append_left _ q
      · exact List.mem_append_right _ (List.mem_cons_of_mem _ q)
    have no : ∀ z ∈ P ++ o :: Q, z ∉ d := fun z hz q => by
      rcases hd with h | h
      · exact (List.nodup_append.mp nd).2.2 z (List.mem_flatten.mpr ⟨d, h, q⟩) z (List.mem_append_left _ hz) rfl
      · exact (List.nodup_append.mp nd2).2.2 z hz z (List.mem_flatten.mpr ⟨d, h, q⟩) rfl
    refine cyc_congr (C.cyc d hm) fun x hx => ?_
    have hfx := cyc_mem (C.cyc d hm) hx
    have h1 : f x ≠ o := fun e => no o ho (by rw [← e]; exact hfx)
    have h2 : f x ≠ p := fun e => no p hp (by rw [← e]; exact hfx)
    rw [g0 x (C.lt hm hx), if_neg h1, if_neg h2]
  have ne : ∀ d, d ∈ A ∨ d ∈ B → d ≠ [] := fun d hd => by
    rcases hd with q | q
    · exact C.ne d (List.mem_append_left _ q)
    · exact C.ne d (List.mem_append_right _ (List.mem_cons_of_mem _ q))
  have hg : ∀ x ∈ o :: (Q ++ P), g x = (fun y => if y = o then D else if y = p then D + 1 else y) (f x) := fun x hx => g0 x (lt x hx)
  have fin : ∀ c1 c2 : List Nat, Cyc g c1 → Cyc g c2 → c1 ≠ [] → c2 ≠ [] → (∀ a, (c1 ++ c2).count a = (o :: (Q ++ P)).count a + [D, D + 1].count a) → ∃ L', CycPart g (D + 2) L' ∧ L'.length = (A ++ (P ++ o :: Q) :: B).length + 1 := fun c1 c2 h1 h2 n1 n2 hcount => by
    refine ⟨c1 :: c2 :: (A ++ B), ⟨fun d hd => ?_, fun d hd => ?_, ?_⟩, by simp; omega⟩
    · rcases List.mem_cons.mp hd with e | hd
      · rw [e]; exact h1
      · rcases List.mem_cons.mp hd with e | hd
        · rw [e]; exact h2
        · exact other d (List.mem_append.mp hd)
    · rcases List.mem_cons.mp hd with e | hd
      · rw [e]; exact n1
      · rcases List.mem_cons.mp hd with e | hd
        · rw [e]; exact n2
        · exact ne d (List.mem_append.mp hd)
    · rw [range_two]
      refine List.Perm.trans ?_ (List.Perm.append_right [D, D + 1] C.pm)
      refine perm_of_count fun a => ?_
      have hc := hcount a
      simp only [List.flatten_append, List.flatten_cons, List.count_append, List.count_cons, List.count_nil] at hc ⊢
      omega
  by_cases e : o = p
  · subst e
    rw [if_pos rfl] at g2
    refine fin [D + 1] (D :: o :: (Q ++ P)) g2 ⟨g1, ?_⟩ (by simp) (by simp) fun a => ?_
    · have := path_map (g := g) (rho := fun y => if y = o then D else if y = o then D + 1 else y) hcy hg (fun y hy => by
        have hy : y ∈ Q ++ P := hy
        have no : y ≠ o := fun e => (List.nodup_cons.mp ndc).1 (by rw [← e]; exact hy)
        simp [no])
      simpa using this
    · simp only [List.count_append, List.count_cons, List.count_nil]
      omega
  · rw [if_neg e] at g2
    have hp2 : p ∈ Q ++ P := by
      rcases List.mem_cons.mp hp' with q | q
      · exact absurd q.symm e
      · exact q
    obtain ⟨R, S, hRS⟩ := List.append_of_mem hp2
    rw [hRS] at hcy ndc hg
    have hcy' : Path f ((o :: R) ++ p :: S) o := hcy
    obtain ⟨k1, k2⟩ := path_append.mp hcy'
    have n1 := (List.nodup_cons.mp ndc).1
    have n2 := (List.nodup_append.mp (List.nodup_cons.mp ndc).2)
    refine fin ((D + 1) :: o :: R) (D :: p :: S) ⟨g2, ?_⟩ ⟨g1, ?_⟩ (by simp) (by simp) fun a => ?_
    · have := path_map (g := g) (rho := fun y => if y = o then D else if y = p then D + 1 else y) k1 (fun x hx => hg x (by
        rcases List.mem_cons.mp hx with q | q
        · rw [q]; simp
        · simp [q])) (fun y hy => by
        have hy : y ∈ R := hy
        have no : y ≠ o := fun e => n1 (by rw [← e]; simp [hy])
        have np : y ≠ p := fun e => n2.2.2 y hy p (by simp) e
        simp [no, np])
      simpa [Ne.symm e, (show ¬ p = o from fun q => e q.symm)] using this
    · have := path_map (g := g) (rho := fun y => if y = o then D else if y = p then D + 1 else y) k2 (fun x hx => hg x (by
        refine List.mem_cons_of_mem _ (List.mem_append_right _ hx))) (fun y hy => by
        have hy : y ∈ S := hy
        have no : y ≠ o := fun e => n1 (by rw [← e]; simp [hy])
        have np : y ≠ p := fun e => (List.nodup_cons.mp n2.2.1).1 (by rw [← e]; exact hy)
        simp [no, np])
      simpa using this
    · rw [hRS]
      simp only [List.count_append, List.count_cons, List.count_nil]
      omega
end Mt
namespace Mt
def rv (d : Nat) : Nat := if d % 2 = 0 then d + 1 else d - 1
def ph (s : Nat → Nat) (d : Nat) : Nat := s (rv d)
theorem rv_lt {d m : Nat} (h : d < 2 * m) : rv d < 2 * m := by
  unfold rv
  split <;> omega
theorem rv_even (m : Nat) : rv (2 * m) = 2 * m + 1 := by
  unfold rv
  rw [if_pos (by omega)]
theorem rv_odd (m : Nat) : rv (2 * m + 1) = 2 * m := by
  unfold rv
  rw [if_neg (by omega)]
  rfl
theorem rv_rv (d : Nat) : rv (rv d) = d := by
  unfold rv
  split <;> split <;> omega
theorem rv_half (d : Nat) : rv d / 2 = d / 2 := by
  unfold rv
  split <;> omega
def ow (E : List (Nat × Nat)) (d : Nat) : Nat := match E[d / 2]? with
  | some p => if d % 2 = 0 then p.1 else p.2
  | none => 0
theorem ow_old {E : List (Nat × Nat)} {p : Nat × Nat} {d : Nat} (h : d < 2 * E.length) : ow (E ++ [p]) d = ow E d := by
  unfold ow
  rw [List.getElem?_append_left (by omega)]
theorem ow_new0 {E : List (Nat × Nat)} {p : Nat × Nat} : ow (E ++ [p]) (2 * E.length) = p.1 := by
  unfold ow
  rw [show 2 * E.length / 2 = E.length by omega, List.getElem?_append_right (Nat.le_refl _), Nat.sub_self]
  simp
theorem ow_new1 {E : List (Nat × Nat)} {p : Nat × Nat} : ow (E ++ [p]) (2 * E.length + 1) = p.2 := by
  unfold ow
  rw [show (2 * E.length + 1) / 2 = E.length by omega, List.getElem?_append_right (Nat.le_refl _), Nat.sub_self]
  simp
theorem ow_lt {E : List (Nat × Nat)} {n d : Nat} (h : ∀ p ∈ E, p.1 < n ∧ p.2 < n) (hd : d < 2 * E.length) : ow E d < n := by
  unfold ow
  have hl : d / 2 < E.length := by omega
  rw [List.getElem?_eq_getElem hl]
  have := h _ (List.getElem_mem hl)
  simp only
  split
  · exact this.1
  · exact this.2
def Conn (n : Nat) (E : List (Nat × Nat)) : Prop := ∀ P : Nat → Prop, (∀ p ∈ E, P p.1 ↔ P p.2) → ∀ u v, u < n → v < n → P u → P v
structure Pl (E : List (Nat × Nat)) (T : List (List Nat)) (s : Nat → Nat) : Prop where
  n1 : 0 < T.length
  ends : ∀ p ∈ E, p.1 < T.length ∧ p.2 < T.length
  pm : T.flatten.Perm (List.range (2 * E.length))
  own : ∀ v row, T[v]? = some row → ∀ d ∈ row, ow E d = v
  conn : Conn T.length E
  turn : ∀ row ∈ T, Cyc s row
  part : ∃ L, CycPart (ph s) (2 * E.length) L ∧ (0 < E.length → L.length + T.length = E.length + 2)
section
variable {E : List (Nat × Nat)} {T : List (List Nat)} {s : Nat → Nat}
theorem Pl.lt (h : Pl E T s) {row : List Nat} {d : Nat} (hr : row ∈ T) (hd : d ∈ row) : d < 2 * E.length :=
  List.mem_range.mp (h.pm.mem_iff.mp (List.mem_flatten.mpr ⟨row, hr, hd⟩))
theorem Pl.nd (h : Pl E T s) : T.flatten.Nodup := h.pm.nodup_iff.mpr List.nodup_range
theorem flatten_nodup {α : Type} {L : List (List α)} (h : L.flatten.Nodup) {c : List α} (hc : c ∈ L) : c.Nodup := by
  obtain ⟨A, B, rfl⟩ := List.append_of_mem hc
  rw [List.flatten_append, List.flatten_cons] at h
  exact (List.nodup_append.mp (List.nodup_append.mp h).2.1).1
theorem Pl.rnd (h : Pl E T s) {row : List Nat} (hr : row ∈ T) : row.Nodup := flatten_nodup h.nd hr
theorem Pl.at (h : Pl E T s) {d : Nat} (hd : d < 2 * E.length) : ∃ row, T[ow E d]? = some row ∧ d ∈ row := by
  have hm : d ∈ T.flatten := h.pm.mem_iff.mpr (List.mem_range.mpr hd)
  obtain ⟨row, hr, hdr⟩ := List.mem_flatten.mp hm
  obtain ⟨v, hv, e⟩ := List.mem_iff_getElem.mp hr
  have e' : T[v]? = some row := by rw [List.getElem?_eq_getElem hv, e]
  rw [h.own v row e' d hdr]
  exact ⟨row, e', hdr⟩
theorem Pl.zero (h : Pl E T s) (hm : E.length = 0) : T = [[]] := by
  have hE : E = [] := List.eq_nil_of_length_eq_zero hm
  have h1 : T.length = 1 := by
    have hc := h.conn (fun v => v = 0) (by rw [hE]; intro p hp; cases hp)
    have n1 := h.n1
    rcases Nat.lt_or_ge 1 T.length with q | q
    · exact absurd (hc 0 1 h.n1 q rfl) (by decide)
    · omega
  have hf : T.flatten = [] := by
    have := h.pm
    rw [hm] at this
    simpa using this
  match T, h1, hf with
  | [row], _, hf =>
    have : row = [] := by simpa using hf
    rw [this]
theorem Pl.euler (h : Pl E T s) : (facesF (ph s) (2 * E.length)).length + T.length = E.length + 2 := by
  unfold facesF
  by_cases e : E.length = 0
  · rw [if_pos (by omega), h.zero e, e]
    rfl
  · rw [if_neg (by omega)]
    obtain ⟨L, C, hL⟩ := h.part
    rw [(fl_ok C).2.1]
    exact hL (by omega)
end
def sIns (s : Nat → Nat) (d o x : Nat) : Nat := if x = d then o else if s x = o then d else s x
theorem row_ins {s : Nat → Nat} {d o : Nat} {A B : List Nat} (h : Cyc s (A ++ o :: B)) (nd : (A ++ o :: B).Nodup) (hd : d ∉ A ++ o :: B) : Cyc (sIns s d o) (A ++ d :: o :: B) := by
  have h1 : Path s (o :: (B ++ A)) o := cyc_rot h
  have pm : (o :: (B ++ A)).Perm (A ++ o :: B) := List.perm_append_comm (l₁ := o :: B) (l₂ := A)
  have nd1 := pm.nodup_iff.mpr nd
  have h2 : Cyc (sIns s d o) ((d :: o :: B) ++ A) := by
    show Path (sIns s d o) (d :: o :: (B ++ A)) d
    refine ⟨by simp [sIns], ?_⟩
    have q := path_map (g := sIns s d o) (rho := fun y => if y = o then d else y) h1 (fun x hx => by
      have n1 : x ≠ d := fun e => hd (by rw [← e]; exact pm.mem_iff.mp hx)
      simp [sIns, n1]) (fun y hy => by
      have hy : y ∈ B ++ A := hy
      have n1 : y ≠ o := fun e => (List.nodup_cons.mp nd1).1 (by rw [← e]; exact hy)
      exact if_neg n1)
    simpa using q
  exact cyc_rot h2
theorem row_other {s : Nat → Nat} {d o : Nat} {row : List Nat} (h : Cyc s row) (hd : d ∉ row) (ho : o ∉ row) : Cyc (sIns s d o) row := by
  refine cyc_congr h fun x hx => ?_
  have n1 : x ≠ d := fun e => hd (by rw [← e]; exact hx)
  have n2 : s x ≠ o := fun e => ho (by rw [← e]; exact cyc_mem h hx)
  simp [sIns, n1, n2]
theorem set_split {α : Type} {T : List α} {u : Nat} {r : α} (h : T[u]? = some r) : ∃ A B, T = A ++ r :: B ∧ A.length = u ∧ ∀ x, T.set u x = A ++ x :: B := by
  obtain ⟨hu, e⟩ := List.getElem?_eq_some_iff.mp h
  refine ⟨T.take u, T.drop (u + 1), ?_, by simp; omega, fun x => ?_⟩
  · rw [← e, List.getElem_cons_drop, List.take_append_drop]
  · rw [List.set_eq_take_append_cons_drop, if_pos hu]
theorem turn_ins {s : Nat → Nat} {T : List (List Nat)} {d o u : Nat} {A B : List Nat} (ht : ∀ row ∈ T, Cyc s row) (nd : T.flatten.Nodup) (hu : T[u]? = some (A ++ o :: B)) (hd : d ∉ T.flatten) :
    (∀ row ∈ T.set u (A ++ d :: o :: B), Cyc (sIns s d o) row) ∧ (T.set u (A ++ d :: o :: B)).flatten.Perm (d :: T.flatten) := by
  obtain ⟨T1, T2, e, _, hs⟩ := set_split hu
  rw [hs]
  rw [e] at nd hd ht ⊢
  rw [List.flatten_append, List.flatten_cons] at nd hd
  have nd2 := (List.nodup_append.mp nd).2.1
  have hd1 : d ∉ A ++ o :: B := fun q => hd (List.mem_append_right _ (List.mem_append_left _ q))
  refine ⟨fun row hr => ?_, perm_of_count fun a => ?_⟩
  · have old : row ∈ T1 ∨ row ∈ T2 → Cyc (sIns s d o) row := fun q => by
      refine row_other (ht row ?_) (fun z => hd ?_) fun z => ?_
      · rcases q with q | q
        · exact List.mem_append_left _ q
        · exact List.mem_append_right _ (List.mem_cons_of_mem _ q)
      · rcases q with q | q
        · exact List.mem_append_left _ (List.mem_flatten.mpr ⟨row, q, z⟩)
        · exact List.mem_append_right _ (List.mem_append_right _ (List.mem_flatten.mpr ⟨row, q, z⟩))
      · rcases q with q | q
        · exact (List.nodup_append.mp nd).2.2 o (List.mem_flatten.mpr ⟨row, q, z⟩) o (by simp) rfl
        · exact (List.nodup_append.mp nd2).2.2 o (by simp) o (List.mem_flatten.mpr ⟨row, q, z⟩) rfl
    rcases List.mem_append.mp hr with q | q
    · exact old (.inl q)
    · rcases List.mem_cons.mp q with e | q
      · rw [e]
        exact row_ins (ht _ (by simp)) (List.nodup_append.mp nd2).1 hd1
      · exact old (.inr q)
  · simp only [List.flatten_append, List.flatten_cons, List.count_append, List.count_cons]
    omega
theorem own_ins {g : Nat → Nat} {T : List (List Nat)} {d o u : Nat} {A B : List Nat} (ho : ∀ v row, T[v]? = some row → ∀ x ∈ row, g x = v) (hu : T[u]? = some (A ++ o :: B)) (hd : g d = u) :
    ∀ v row, (T.set u (A ++ d :: o :: B))[v]? = some row → ∀ x ∈ row, g x = v := by
  intro v row e x hx
  rw [List.getElem?_set] at e
  by_cases q : u = v
  · subst q
    rw [if_pos rfl] at e
    have hl := (List.getElem?_eq_some_iff.mp hu).1
    rw [if_pos hl] at e
    have e' := Option.some.inj e
    rw [← e'] at hx
    rcases List.mem_append.mp hx with h | h
    · exact ho u _ hu x (List.mem_append_left _ h)
    · rcases List.mem_cons.mp h with h | h
      · rw [h]; exact hd
      · exact ho u _ hu x (List.mem_append_right _ h)
  · rw [if_neg q] at e
    exact ho v row e x hx
end Mt
namespace Mt
section
variable {E : List (Nat × Nat)} {T : List (List Nat)} {s : Nat → Nat}
theorem facesF_pos {f : Nat → Nat} {D : Nat} (h : 0 < D) : facesF f D = fl f D D := by
  unfold facesF
  rw [if_neg (by omega)]
theorem conn_old {n : Nat} {E : List (Nat × Nat)} {p : Nat × Nat} (h : Conn n E) : Conn n (E ++ [p]) := fun P hP u v hu hv q => h P (fun p hp => hP p (List.mem_append_left _ hp)) u v hu hv q
theorem conn_leaf {n u : Nat} {E : List (Nat × Nat)} (h : Conn n E) (hu : u < n) : Conn (n + 1) (E ++ [(u, n)]) := fun P hP a b ha hb q => by
  have h1 := h P (fun p hp => hP p (List.mem_append_left _ hp))
  have h2 : P u ↔ P n := hP (u, n) (by simp)
  have toU : P u := by
    by_cases e : a = n
    · rw [e] at q
      exact h2.mpr q
    · exact h1 a u (by omega) hu q
  by_cases e : b = n
  · rw [e]
    exact h2.mp toU
  · exact h1 u b hu (by omega) toU
theorem not_old (h : Pl E T s) {d : Nat} (hd : 2 * E.length ≤ d) : d ∉ T.flatten := fun q => by
  have := List.mem_range.mp (h.pm.mem_iff.mp q)
  omega
theorem Pl.leaf (h : Pl E T s) (hm : 0 < E.length) {c A B : List Nat} {o u : Nat} (hc : c ∈ facesF (ph s) (2 * E.length)) (ho : o ∈ c) (hu : T[u]? = some (A ++ o :: B)) :
    ∃ s', Pl (E ++ [(u, T.length)]) (T.set u (A ++ (2 * E.length) :: o :: B) ++ [[2 * E.length + 1]]) s' := by
  obtain ⟨L0, C0, e0⟩ := h.part
  obtain ⟨C, hL, _⟩ := fl_ok C0
  rw [facesF_pos (by omega)] at hc
  have hul := (List.getElem?_eq_some_iff.mp hu).1
  obtain ⟨t1, p1⟩ := turn_ins (d := 2 * E.length) h.turn h.nd hu (not_old h (Nat.le_refl _))
  have nD1 : ∀ row ∈ T.set u (A ++ (2 * E.length) :: o :: B), 2 * E.length + 1 ∉ row := fun row hr q => by
    have := p1.mem_iff.mp (List.mem_flatten.mpr ⟨row, hr, q⟩)
    rcases List.mem_cons.mp this with z | z
    · omega
    · exact not_old h (by omega) z
  refine ⟨fun x => if x = 2 * E.length + 1 then 2 * E.length + 1 else sIns s (2 * E.length) o x, ?_⟩
  refine ⟨by simp, fun p hp => ?_, ?_, ?_, ?_, fun row hr => ?_, ?_⟩
  · simp only [List.length_append, List.length_set, List.length_singleton]
    rcases List.mem_append.mp hp with q | q
    · have := h.ends p q
      omega
    · rw [List.mem_singleton.mp q]
      simp only
      omega
  · simp only [List.length_append, List.length_singleton, List.flatten_append]
    rw [show 2 * (E.length + 1) = 2 * E.length + 2 by omega, range_two]
    refine perm_of_count fun a => ?_
    have k1 := List.perm_iff_count.mp p1 a
    have k2 := List.perm_iff_count.mp h.pm a
    simp only [List.count_append, List.count_cons, List.count_nil, List.flatten_cons, List.flatten_nil] at k1 k2 ⊢
    omega
  · have o1 := own_ins (g := ow (E ++ [(u, T.length)])) (d := 2 * E.length) (T := T) (fun v row e x hx => by
      rw [ow_old (h.lt (List.mem_of_getElem? e) hx)]
      exact h.own v row e x hx) hu (by rw [ow_new0])
    intro v row e x hx
    rcases Nat.lt_or_ge v (T.set u (A ++ (2 * E.length) :: o :: B)).length with q | q
    · rw [List.getElem?_append_left q] at e
      exact o1 v row e x hx
    · rw [List.getElem?_append_right q] at e
      have hv := (List.getElem?_eq_some_iff.mp e).1
      have hz : v = T.length := by
        simp only [List.length_singleton, List.length_set] at hv q
        omega
      subst hz
      simp at e
      rw [← e] at hx
      rw [List.mem_singleton.mp hx, ow_new1]
  · simp only [List.length_append, List.length_set, List.length_singleton]
    exact conn_leaf h.conn hul
  · rcases List.mem_append.mp hr with q | q
    · refine cyc_congr (t1 row q) fun x hx => if_neg fun e => nD1 row q (by rw [← e]; exact hx)
    · rw [List.mem_singleton.mp q]
      show (if 2 * E.length + 1 = 2 * E.length + 1 then 2 * E.length + 1 else _) = 2 * E.length + 1
      rw [if_pos rfl]
  · have hlen : 2 * (E ++ [(u, T.length)]).length = 2 * E.length + 2 := by simp; omega
    rw [hlen]
    obtain ⟨L', C', e'⟩ := part_leaf (g := ph fun x => if x = 2 * E.length + 1 then 2 * E.length + 1 else sIns s (2 * E.length) o x) C hc ho
      (fun x hx => by
        have := rv_lt hx
        have hx1 : rv x ≠ 2 * E.length := by omega
        have hx2 : rv x ≠ 2 * E.length + 1 := by omega
        show (if rv x = 2 * E.length + 1 then 2 * E.length + 1 else sIns s (2 * E.length) o (rv x)) = if s (rv x) = o then 2 * E.length else s (rv x)
        simp only [sIns, if_neg hx1, if_neg hx2])
      (by simp only [ph, rv_even, if_pos])
      (by
        simp only [ph, rv_odd]
        rw [if_neg (by omega)]
        simp [sIns])
    refine ⟨L', C', fun _ => ?_⟩
    have := e0 hm
    simp only [List.length_append, List.length_set, List.length_singleton]
    omega
theorem Pl.edge (h : Pl E T s) (hm : 0 < E.length) {c A B A' B' : List Nat} {o p u v : Nat} (hc : c ∈ facesF (ph s) (2 * E.length)) (ho : o ∈ c) (hp : p ∈ c) (hu : T[u]? = some (A ++ o :: B))
    (hv : (T.set u (A ++ (2 * E.length) :: o :: B))[v]? = some (A' ++ p :: B')) :
    ∃ s', Pl (E ++ [(u, v)]) ((T.set u (A ++ (2 * E.length) :: o :: B)).set v (A' ++ (2 * E.length + 1) :: p :: B')) s' := by
  obtain ⟨L0, C0, e0⟩ := h.part
  obtain ⟨C, hL, _⟩ := fl_ok C0
  rw [facesF_pos (by omega)] at hc
  have pD : p < 2 * E.length := C.lt hc hp
  have hul := (List.getElem?_eq_some_iff.mp hu).1
  have hvl := (List.getElem?_eq_some_iff.mp hv).1
  rw [List.length_set] at hvl
  obtain ⟨t1, p1⟩ := turn_ins (d := 2 * E.length) h.turn h.nd hu (not_old h (Nat.le_refl _))
  have nd1 : (T.set u (A ++ (2 * E.length) :: o :: B)).flatten.Nodup := p1.nodup_iff.mpr (List.nodup_cons.mpr ⟨not_old h (Nat.le_refl _), h.nd⟩)
  have n2 : 2 * E.length + 1 ∉ (T.set u (A ++ (2 * E.length) :: o :: B)).flatten := fun q => by
    rcases List.mem_cons.mp (p1.mem_iff.mp q) with z | z
    · omega
    · exact not_old h (by omega) z
  obtain ⟨t2, p2⟩ := turn_ins (d := 2 * E.length + 1) t1 nd1 hv n2
  refine ⟨sIns (sIns s (2 * E.length) o) (2 * E.length + 1) p, ?_⟩
  refine ⟨by simpa using h.n1, fun q hq => ?_, ?_, ?_, ?_, t2, ?_⟩
  · simp only [List.length_set]
    rcases List.mem_append.mp hq with z | z
    · exact h.ends q z
    · rw [List.mem_singleton.mp z]
      exact ⟨hul, hvl⟩
  · simp only [List.length_append, List.length_singleton]
    rw [show 2 * (E.length + 1) = 2 * E.length + 2 by omega, range_two]
    refine perm_of_count fun a => ?_
    have k1 := List.perm_iff_count.mp p1 a
    have k2 := List.perm_iff_count.mp h.pm a
    have k3 := List.perm_iff_count.mp p2 a
    simp only [List.count_append, List.count_cons, List.count_nil] at k1 k2 k3 ⊢
    omega
  · have o1 := own_ins (g := ow (E ++ [(u, v)])) (d := 2 * E.length) (T := T) (fun v row e x hx => by
      rw [ow_old (h.lt (List.mem_of_getElem? e) hx)]
      exact h.own v row e x hx) hu (by rw [ow_new0])
    exact own_ins (d := 2 * E.length + 1) o1 hv (by rw [ow_new1])
  · simp only [List.length_set]
    exact conn_old h.conn
  · have hlen : 2 * (E ++ [(u, v)]).length = 2 * E.length + 2 := by simp; omega
    rw [hlen]
    obtain ⟨L', C', e'⟩ := part_edge (g := ph (sIns (sIns s (2 * E.length) o) (2 * E.length + 1) p)) C hc ho hp
      (fun x hx => by
        have := rv_lt hx
        have hx1 : rv x ≠ 2 * E.length := by omega
        have hx2 : rv x ≠ 2 * E.length + 1 := by omega
        have hx3 : ¬ 2 * E.length = p := by omega
        show sIns (sIns s (2 * E.length) o) (2 * E.length + 1) p (rv x) = if s (rv x) = o then 2 * E.length else if s (rv x) = p then 2 * E.length + 1 else s (rv x)
        simp only [sIns, if_neg hx1, if_neg hx2]
        by_cases e : s (rv x) = o
        · simp only [if_pos e, if_neg hx3]
        · simp only [if_neg e])
      (by simp only [ph, rv_even, sIns, if_pos])
      (by
        have h1 : ¬ 2 * E.length = 2 * E.length + 1 := by omega
        simp only [ph, rv_odd, sIns, if_neg h1]
        simp)
    refine ⟨L', C', fun _ => ?_⟩
    have := e0 hm
    simp only [List.length_append, List.length_set, List.length_singleton]
    omega
theorem pl_start : Pl [] [[]] id := by
  refine ⟨by decide, by decide, by decide, fun v row e d hd => ?_, fun P _ u v hu hv q => ?_, by simp [Cyc], [], ⟨by simp, by simp, by decide⟩, by simp⟩
  · have : row = [] := by
      have := List.mem_of_getElem? e
      simpa using this
    rw [this] at hd
    cases hd
  · have : u = v := by
      simp at hu hv
      omega
    rw [← this]
    exact q
theorem pl_leaf0 : Pl [(0, 1)] [[0], [1]] id := by
  refine ⟨by decide, by decide, by decide, fun v row e d hd => ?_, fun P hP u v hu hv q => ?_, ?_, [[0, 1]], ⟨?_, by simp, by decide⟩, by simp⟩
  · match v, e with
    | 0, e =>
      simp at e
      rw [← e] at hd
      rw [List.mem_singleton.mp hd]
      rfl
    | 1, e =>
      simp at e
      rw [← e] at hd
      rw [List.mem_singleton.mp hd]
      rfl
    | v + 2, e => simp at e
  · have h01 : P 0 ↔ P 1 := hP (0, 1) (by simp)
    have all : ∀ w, w < 2 → (P w ↔ P 0) := fun w hw => by
      match w, hw with
      | 0, _ => exact Iff.rfl
      | 1, _ => exact h01.symm
    exact (all v hv).mpr ((all u hu).mp q)
  · intro row hr
    rcases List.mem_cons.mp hr with e | hr
    · rw [e]; rfl
    · rw [List.mem_singleton.mp hr]; rfl
  · intro c hc
    rw [List.mem_singleton.mp hc]
    exact ⟨rfl, rfl⟩
theorem pl_loop0 : Pl [(0, 0)] [[0, 1]] rv := by
  refine ⟨by decide, by decide, by decide, fun v row e d hd => ?_, fun P hP u v hu hv q => ?_, ?_, [[0], [1]], ⟨?_, by simp, by decide⟩, by simp⟩
  · match v, e with
    | 0, e =>
      simp at e
      rw [← e] at hd
      rcases List.mem_cons.mp hd with z | z
      · rw [z]; rfl
      · rw [List.mem_singleton.mp z]; rfl
    | v + 1, e => simp at e
  · have : u = v := by
      simp at hu hv
      omega
    rw [← this]
    exact q
  · intro row hr
    rw [List.mem_singleton.mp hr]
    exact ⟨rfl, rfl⟩
  · intro c hc
    rcases List.mem_cons.mp hc with e | hr
    · rw [e]; rfl
    · rw [List.mem_singleton.mp hr]; rfl
end
end Mt
namespace Mt
def nm (G : List (List Nat)) (d : Nat) : Nat := G.findIdx fun c => decide (d ∈ c)
def jn (G : List (List Nat)) (e : Nat) : Nat × Nat := (nm G (2 * e), nm G (2 * e + 1))
theorem nm_eq {G : List (List Nat)} (nd : G.flatten.Nodup) {j d : Nat} {c : List Nat} (hj : G[j]? = some c) (hd : d ∈ c) : nm G d = j := by
  obtain ⟨A, B, e, hA, _⟩ := set_split hj
  subst e
  rw [List.flatten_append, List.flatten_cons] at nd
  unfold nm
  rw [List.findIdx_append]
  have h1 : A.findIdx (fun c => decide (d ∈ c)) = A.length := by
    rw [List.findIdx_eq_length]
    intro x hx
    refine decide_eq_false fun q => ?_
    exact (List.nodup_append.mp nd).2.2 d (List.mem_flatten.mpr ⟨x, hx, q⟩) d (by simp [hd]) rfl
  rw [h1, if_neg (Nat.lt_irrefl _), List.findIdx_cons, decide_eq_true hd]
  simp [hA]
theorem nm_at {f : Nat → Nat} {D : Nat} {G : List (List Nat)} (C : CycPart f D G) {d : Nat} (hd : d < D) : ∃ c, G[nm G d]? = some c ∧ d ∈ c := by
  obtain ⟨c, hc, hdc⟩ := List.mem_flatten.mp (C.mem.mpr hd)
  obtain ⟨j, hj, e⟩ := List.mem_iff_getElem.mp hc
  have e' : G[j]? = some c := by rw [List.getElem?_eq_getElem hj, e]
  rw [nm_eq C.nd e' hdc]
  exact ⟨c, e', hdc⟩
theorem nm_lt {f : Nat → Nat} {D : Nat} {G : List (List Nat)} (C : CycPart f D G) {d : Nat} (hd : d < D) : nm G d < G.length := by
  obtain ⟨c, h, _⟩ := nm_at C hd
  exact (List.getElem?_eq_some_iff.mp h).1
theorem nm_step {f : Nat → Nat} {D : Nat} {G : List (List Nat)} (C : CycPart f D G) {d : Nat} (hd : d < D) : nm G (f d) = nm G d := by
  obtain ⟨c, h, hdc⟩ := nm_at C hd
  exact nm_eq C.nd h (cyc_mem (C.cyc c (List.mem_of_getElem? h)) hdc)
def al (Z : List Nat) (c : List Nat) : Nat := (c.filter fun d => d % 2 == Z.getD (d / 2) 0).length
theorem al_same {Z : List Nat} {e z : Nat} {c : List Nat} (h : ∀ d ∈ c, d / 2 ≠ e) : al (Z.set e z) c = al Z c := by
  unfold al
  congr 1
  refine List.filter_congr fun d hd => ?_
  rw [List.getD_eq_getElem?_getD, List.getD_eq_getElem?_getD, List.getElem?_set_ne (Ne.symm (h d hd))]
theorem al_flip {Z : List Nat} {e z x : Nat} {A B : List Nat} (hz : Z[e]? = some z) (z1 : z ≤ 1) (hx : x / 2 = e) (hA : ∀ d ∈ A, d / 2 ≠ e) (hB : ∀ d ∈ B, d / 2 ≠ e) : al (Z.set e (1 - z)) (A ++ x :: B) % 2 ≠ al Z (A ++ x :: B) % 2 := by
  have app : ∀ Y : List Nat, al Y (A ++ x :: B) = al Y A + (al Y [x] + al Y B) := fun Y => by
    show al Y (A ++ ([x] ++ B)) = _
    unfold al
    rw [List.filter_append, List.filter_append, List.length_append, List.length_append]
  rw [app, app, al_same hA, al_same hB]
  have he := (List.getElem?_eq_some_iff.mp hz).1
  have e1 : (Z.set e (1 - z)).getD (x / 2) 0 = 1 - z := by
    rw [List.getD_eq_getElem?_getD, hx, List.getElem?_set_self he]
    rfl
  have e2 : Z.getD (x / 2) 0 = z := by
    rw [List.getD_eq_getElem?_getD, hx, hz]
    rfl
  have a1 : al (Z.set e (1 - z)) [x] = if x % 2 = 1 - z then 1 else 0 := by
    unfold al
    rw [List.filter_cons, e1]
    by_cases q : x % 2 = 1 - z
    · simp [q]
    · simp [q]
  have a2 : al Z [x] = if x % 2 = z then 1 else 0 := by
    unfold al
    rw [List.filter_cons, e2]
    by_cases q : x % 2 = z
    · simp [q]
    · simp [q]
  rw [a1, a2]
  have hx2 : x % 2 < 2 := Nat.mod_lt _ (by decide)
  split <;> split <;> omega
inductive Tr (m : Nat) (J : Nat → Nat × Nat) : List (Nat × Nat) → Prop
  | nil : Tr m J []
  | snoc {l : List (Nat × Nat)} {g h e : Nat} (t : Tr m J l) (he : e < m) (hj : J e = (g, h) ∨ J e = (h, g)) (hh : h ∈ 0 :: l.map Prod.fst) (hg : g ∉ 0 :: l.map Prod.fst) : Tr m J (l ++ [(g, e)])
theorem Tr.last {m : Nat} {J : Nat → Nat × Nat} {L l : List (Nat × Nat)} {g e : Nat} (t : Tr m J L) (eL : L = l ++ [(g, e)]) : Tr m J l ∧ e < m ∧ (∃ h, (J e = (g, h) ∨ J e = (h, g)) ∧ h ∈ 0 :: l.map Prod.fst) ∧ g ∉ 0 :: l.map Prod.fst := by
  cases t with
  | nil => exact absurd eL.symm (by simp)
  | snoc t he hj hh hg =>
    obtain ⟨e1, e2⟩ := List.append_inj' eL rfl
    cases e1
    cases e2
    exact ⟨t, he, ⟨_, hj, hh⟩, hg⟩
theorem Tr.nodup {m : Nat} {J : Nat → Nat × Nat} {l : List (Nat × Nat)} (t : Tr m J l) : (0 :: l.map Prod.fst).Nodup := by
  induction t with
  | nil => simp
  | @snoc l g h e t he hj hh hg ih =>
    rw [List.map_append]
    show ((0 :: l.map Prod.fst) ++ [g]).Nodup
    rw [List.nodup_append]
    refine ⟨ih, by simp, fun a ha b hb q => hg ?_⟩
    rw [← List.mem_singleton.mp hb, ← q]
    exact ha
theorem Tr.lt {m F : Nat} {J : Nat → Nat × Nat} {l : List (Nat × Nat)} (t : Tr m J l) (h0 : 0 < F) (hJ : ∀ e, e < m → (J e).1 < F ∧ (J e).2 < F) : ∀ x ∈ 0 :: l.map Prod.fst, x < F := by
  induction t with
  | nil =>
    intro x hx
    rw [List.mem_singleton.mp hx]
    exact h0
  | @snoc l g h e t he hj hh hg ih =>
    intro x hx
    rw [List.map_append] at hx
    rcases List.mem_append.mp (show x ∈ (0 :: l.map Prod.fst) ++ [g] from hx) with q | q
    · exact ih x q
    · rw [List.mem_singleton.mp q]
      have := hJ e he
      rcases hj with z | z
      · rw [z] at this
        exact this.1
      · rw [z] at this
        exact this.2
theorem Tr.edge {m : Nat} {J : Nat → Nat × Nat} {l : List (Nat × Nat)} (t : Tr m J l) : ∀ p ∈ l, p.2 < m := by
  induction t with
  | nil => simp
  | @snoc l g h e t he hj hh hg ih =>
    intro p hp
    rcases List.mem_append.mp hp with q | q
    · exact ih p q
    · rw [List.mem_singleton.mp q]
      exact he
theorem flip_ok {f : Nat → Nat} {m : Nat} {G : List (List Nat)} (C : CycPart f (2 * m) G) {l : List (Nat × Nat)} {g e z : Nat} {Z c : List Nat} (t : Tr m (jn G) (l ++ [(g, e)])) (hc : G[g]? = some c) (hz : Z[e]? = some z) (z1 : z ≤ 1) :
    al (Z.set e (1 - z)) c % 2 ≠ al Z c % 2 ∧ ∀ (k : Nat) (b : List Nat), k ∉ 0 :: (l ++ [(g, e)]).map Prod.fst → G[k]? = some b → al (Z.set e (1 - z)) b = al Z b := by
  obtain ⟨_, he, ⟨h, hj, hh⟩, hg⟩ := t.last rfl
  have hgh : g ≠ h := fun q => hg (by rw [q]; exact hh)
  have h0 : ∀ d, d / 2 = e → d = 2 * e ∨ d = 2 * e + 1 := fun d hd => by omega
  obtain ⟨c0, k0, m0⟩ := nm_at C (d := 2 * e) (by omega)
  obtain ⟨c1, k1, m1⟩ := nm_at C (d := 2 * e + 1) (by omega)
  refine ⟨?_, fun k b hk hb => al_same fun d hd q => ?_⟩
  · have one : ∀ x y : Nat, (x = 2 * e ∧ y = 2 * e + 1 ∨ x = 2 * e + 1 ∧ y = 2 * e) → nm G x = g → nm G y = h → al (Z.set e (1 - z)) c % 2 ≠ al Z c % 2 := fun x y hxy hx hy => by
      have hxc : x ∈ c := by
        rcases hxy with ⟨q, _⟩ | ⟨q, _⟩
        · rw [← q, hx] at k0
          rw [← q] at m0
          rw [hc] at k0
          rw [Option.some.inj k0]
          exact m0
        · rw [← q, hx] at k1
          rw [← q] at m1
          rw [hc] at k1
          rw [Option.some.inj k1]
          exact m1
      have hyc : y ∉ c := fun q => hgh ((nm_eq C.nd hc q).symm.trans hy)
      have ndc : c.Nodup := flatten_nodup C.nd (List.mem_of_getElem? hc)
      obtain ⟨A, B, rfl⟩ := List.append_of_mem hxc
      have nx : ∀ d ∈ A ++ B, d / 2 ≠ e := fun d hd q => by
        have hdx : d ≠ x := fun z => by
          subst z
          have := (List.perm_middle (a := d) (l₁ := A) (l₂ := B)).nodup_iff.mp ndc
          exact (List.nodup_cons.mp this).1 hd
        have hdy : d ≠ y := fun z => by
          subst z
          refine hyc ?_
          rcases List.mem_append.mp hd with w | w
          · exact List.mem_append_left _ w
          · exact List.mem_append_right _ (List.mem_cons_of_mem _ w)
        omega
      exact al_flip hz z1 (by omega) (fun d hd => nx d (List.mem_append_left _ hd)) fun d hd => nx d (List.mem_append_right _ hd)
    rcases hj with q | q
    · exact one (2 * e) (2 * e + 1) (.inl ⟨rfl, rfl⟩) (congrArg Prod.fst q) (congrArg Prod.snd q)
    · exact one (2 * e + 1) (2 * e) (.inr ⟨rfl, rfl⟩) (congrArg Prod.snd q) (congrArg Prod.fst q)
  · have hkd : nm G d = k := nm_eq C.nd hb hd
    refine hk ?_
    rw [List.map_append]
    show k ∈ (0 :: l.map Prod.fst) ++ [g]
    have hgm : g ∈ (0 :: l.map Prod.fst) ++ [g] := by simp
    have hhm : h ∈ (0 :: l.map Prod.fst) ++ [g] := List.mem_append_left _ hh
    rcases h0 d q with w | w
    · rw [w] at hkd
      rcases hj with q | q
      · rw [← hkd, show nm G (2 * e) = g from congrArg Prod.fst q]
        exact hgm
      · rw [← hkd, show nm G (2 * e) = h from congrArg Prod.fst q]
        exact hhm
    · rw [w] at hkd
      rcases hj with q | q
      · rw [← hkd, show nm G (2 * e + 1) = h from congrArg Prod.snd q]
        exact hhm
      · rw [← hkd, show nm G (2 * e + 1) = g from congrArg Prod.snd q]
        exact hgm
section
variable {E : List (Nat × Nat)} {T : List (List Nat)} {s : Nat → Nat}
theorem Pl.faces (h : Pl E T s) (hm : 0 < E.length) : CycPart (ph s) (2 * E.length) (facesF (ph s) (2 * E.length)) := by
  obtain ⟨L, C, _⟩ := h.part
  rw [facesF_pos (by omega)]
  exact (fl_ok C).1
theorem dual_conn (h : Pl E T s) {S : Nat → Prop} (s0 : S 0) (hS : ∀ e, e < E.length → (S (jn (facesF (ph s) (2 * E.length)) e).1 ↔ S (jn (facesF (ph s) (2 * E.length)) e).2)) :
    ∀ k, k < (facesF (ph s) (2 * E.length)).length → S k := by
  intro k hk
  rcases Nat.eq_zero_or_pos E.length with e0 | hm
  · have : k = 0 := by
      unfold facesF at hk
      rw [if_pos (by omega)] at hk
      simp at hk
      exact hk
    rw [this]
    exact s0
  have C := h.faces hm
  have hl := C.nd
  revert hS C hk
  generalize facesF (ph s) (2 * E.length) = G at *
  intro hS hk C
  have pr : ∀ d, d < 2 * E.length → (S (nm G (rv d)) ↔ S (nm G d)) := fun d hd => by
    have he := hS (d / 2) (by omega)
    unfold jn at he
    simp only at he
    by_cases q : d % 2 = 0
    · have e1 : 2 * (d / 2) = d := by omega
      have e2 : rv d = d + 1 := by
        unfold rv
        rw [if_pos q]
      rw [e1] at he
      rw [e2]
      exact he.symm
    · have e1 : 2 * (d / 2) + 1 = d := by omega
      have e2 : rv d = 2 * (d / 2) := by
        unfold rv
        rw [if_neg q]
        omega
      rw [e1] at he
      rw [e2]
      exact he
  have ps : ∀ d, d < 2 * E.length → (S (nm G (s d)) ↔ S (nm G d)) := fun d hd => by
    have h1 := nm_step C (rv_lt hd)
    unfold ph at h1
    rw [rv_rv] at h1
    rw [h1]
    exact pr d hd
  have row : ∀ d d', d < 2 * E.length → d' < 2 * E.length → ow E d = ow E d' → S (nm G d) → S (nm G d') := fun d d' hd hd' e q => by
    obtain ⟨r, h1, h2⟩ := h.at hd
    obtain ⟨r', h1', h2'⟩ := h.at hd'
    rw [e, h1'] at h1
    have er := Option.some.inj h1
    rw [← er] at h2
    have hr := List.mem_of_getElem? h1'
    exact (cyc_inv (P := fun d => S (nm G d)) (h.turn r' hr) (fun x hx => ps x (h.lt hr hx)) h2 h2').mp q
  have vx := h.conn (fun v => ∃ d, d < 2 * E.length ∧ ow E d = v ∧ S (nm G d)) fun p hp => by
    obtain ⟨i, hi, e⟩ := List.mem_iff_getElem.mp hp
    have o0 : ow E (2 * i) = p.1 := by
      unfold ow
      rw [show 2 * i / 2 = i by omega, List.getElem?_eq_getElem hi, e]
      simp
    have o1 : ow E (2 * i + 1) = p.2 := by
      unfold ow
      rw [show (2 * i + 1) / 2 = i by omega, List.getElem?_eq_getElem hi, e]
      simp only
      rw [if_neg (by omega)]
    have hj := hS i hi
    unfold jn at hj
    constructor
    · rintro ⟨d, hd, e1, q⟩
      exact ⟨2 * i + 1, by omega, o1, hj.mp (row d (2 * i) hd (by omega) (by rw [e1, o0]) q)⟩
    · rintro ⟨d, hd, e1, q⟩
      exact ⟨2 * i, by omega, o0, hj.mpr (row d (2 * i + 1) hd (by omega) (by rw [e1, o1]) q)⟩
  have some_ : ∀ j, j < G.length → ∃ d, d < 2 * E.length ∧ nm G d = j := fun j hj => by
    have hm' := List.getElem_mem hj
    have hne := C.ne _ hm'
    have e : G[j]? = some G[j] := List.getElem?_eq_getElem hj
    cases q : G[j] with
    | nil => exact absurd q hne
    | cons d r =>
      rw [q] at e
      exact ⟨d, C.lt (List.mem_of_getElem? e) (by simp), nm_eq C.nd e (by simp)⟩
  obtain ⟨d0, hd0, n0⟩ := some_ 0 (by omega)
  obtain ⟨d1, hd1, n1⟩ := some_ k hk
  obtain ⟨d2, hd2, e2, q2⟩ := vx (ow E d0) (ow E d1) (ow_lt h.ends hd0) (ow_lt h.ends hd1) ⟨d0, hd0, rfl, by rw [n0]; exact s0⟩
  have := row d2 d1 hd2 hd1 e2 q2
  rwa [n1] at this
theorem reach_all (h : Pl E T s) {K : List Nat} (nd : K.Nodup) (lt : ∀ x ∈ K, x < T.length) (h0 : 0 ∈ K) (cl : ∀ p ∈ E, p.1 ∈ K ↔ p.2 ∈ K) : K.length = T.length := by
  have all := h.conn (fun v => v ∈ K) cl 0
  have pm : K.Perm (List.range T.length) := (List.perm_ext_iff_of_nodup nd List.nodup_range).mpr fun a => by
    rw [List.mem_range]
    exact ⟨lt a, fun q => all a h.n1 q h0⟩
  rw [pm.length_eq, List.length_range]
end
end Mt
namespace Mt
def pathB (f : Nat → Nat) : List Nat → Nat → Bool
  | [], _ => true
  | [x], z => f x == z
  | x :: y :: r, z => f x == y && pathB f (y :: r) z
def cycB (f : Nat → Nat) : List Nat → Bool
  | [] => true
  | x :: r => pathB f (x :: r) x
theorem path_of {f : Nat → Nat} : ∀ {l : List Nat} {z : Nat}, pathB f l z = true → Path f l z
  | [], _, _ => trivial
  | [x], z, h => by simpa [pathB, Path] using h
  | x :: y :: r, z, h => by
    simp only [pathB, Bool.and_eq_true, beq_iff_eq] at h
    exact ⟨h.1, path_of h.2⟩
theorem cyc_of {f : Nat → Nat} : ∀ {l : List Nat}, cycB f l = true → Cyc f l
  | [], _ => trivial
  | _ :: _, h => path_of h
theorem own_of {g : Nat → Nat} {T : List (List Nat)} (h : (T.zipIdx.all fun p => p.1.all fun d => g d == p.2) = true) : ∀ v row, T[v]? = some row → ∀ d ∈ row, g d = v := by
  intro v row e d hd
  have hm : (row, v) ∈ T.zipIdx := by
    rw [List.mem_zipIdx_iff_getElem?]
    exact e
  have h1 := List.all_eq_true.mp h _ hm
  have h2 := List.all_eq_true.mp h1 d hd
  exact beq_iff_eq.mp h2
def E1 : List (Nat × Nat) := List.replicate 100 (0, 1)
def T1 : List (List Nat) := [(List.range 100).map fun k => 2 * k, ((List.range 100).map fun k => 2 * k + 1).reverse]
def s1 (d : Nat) : Nat := if d % 2 = 0 then (if d = 198 then 0 else d + 2) else if d = 1 then 199 else d - 2
def F1 : List (List Nat) := [0, 199] :: (List.range 99).map fun k => [2 * k + 1, 2 * k + 2]
theorem pl_1 : Pl E1 T1 s1 := by
  refine ⟨by decide, fun p hp => ?_, ?_, own_of (by decide +kernel), fun P hP u v hu hv q => ?_, fun row hr => ?_, F1, ⟨fun c hc => ?_, fun c hc => ?_, ?_⟩, fun _ => by decide +kernel⟩
  · rw [List.eq_of_mem_replicate hp]
    decide
  · exact List.isPerm_iff.mp (by decide +kernel)
  · have h01 : P 0 ↔ P 1 := hP (0, 1) (by decide +kernel)
    have all : ∀ w, w < 2 → (P w ↔ P 0) := fun w hw => by
      match w, hw with
      | 0, _ => exact Iff.rfl
      | 1, _ => exact h01.symm
    exact (all v hv).mpr ((all u hu).mp q)
  · refine cyc_of ?_
    exact List.all_eq_true.mp (show (T1.all fun r => cycB s1 r) = true by decide +kernel) row hr
  · refine cyc_of ?_
    exact List.all_eq_true.mp (show (F1.all fun r => cycB (ph s1) r) = true by decide +kernel) c hc
  · have := List.all_eq_true.mp (show (F1.all fun r => r != []) = true by decide +kernel) c hc
    simpa using this
  · exact List.isPerm_iff.mp (by decide +kernel)
def E2 : List (Nat × Nat) := (List.range 99).map fun k => (k, k + 1)
def T2 : List (List Nat) := [[0]] ++ ((List.range 98).map fun k => [2 * (1 + k) - 1, 2 * (1 + k)]) ++ [[197]]
def s2 (d : Nat) : Nat := if d = 0 then 0 else if d = 197 then 197 else if d % 2 = 0 then d - 1 else d + 1
def F2 : List (List Nat) := [((List.range 99).map fun k => 2 * k) ++ ((List.range 99).map fun k => 2 * k + 1).reverse]
theorem pl_2 : Pl E2 T2 s2 := by
  refine ⟨by decide +kernel, fun p hp => ?_, ?_, own_of (by decide +kernel), fun P hP u v hu hv q => ?_, fun row hr => ?_, F2, ⟨fun c hc => ?_, fun c hc => ?_, ?_⟩, fun _ => by decide +kernel⟩
  · have := List.all_eq_true.mp (show (E2.all fun p => decide (p.1 < T2.length) && decide (p.2 < T2.length)) = true by decide +kernel) p hp
    simpa using this
  · exact List.isPerm_iff.mp (by decide +kernel)
  · have hn : T2.length = 100 := by decide +kernel
    have all : ∀ w, w < 100 → (P w ↔ P 0) := fun w => by
      induction w with
      | zero => intro _; exact Iff.rfl
      | succ w ih =>
        intro hw
        have h1 : P w ↔ P (w + 1) := hP (w, w + 1) (List.mem_map.mpr ⟨w, List.mem_range.mpr (by omega), rfl⟩)
        exact h1.symm.trans (ih (by omega))
    rw [hn] at hu hv
    exact (all v hv).mpr ((all u hu).mp q)
  · refine cyc_of ?_
    exact List.all_eq_true.mp (show (T2.all fun r => cycB s2 r) = true by decide +kernel) row hr
  · refine cyc_of ?_
    exact List.all_eq_true.mp (show (F2.all fun r => cycB (ph s2) r) = true by decide +kernel) c hc
  · have := List.all_eq_true.mp (show (F2.all fun r => r != []) = true by decide +kernel) c hc
    simpa using this
  · exact List.isPerm_iff.mp (by decide +kernel)
end Mt
namespace PySem
theorem meets_enumT {v : Value} {o : Obj} {H : Heap → Prop} (B : Begins v o H) :
    Meets (Builtin.«enumerate.__new__» ⟨[.type "enumerate", v], []⟩) (fun _ R s => H s.heap ∧
      R (.ok (.ret (.ref (s.heap.push o).objs.size))) { s with heap := (s.heap.push o).push { cls := .type "enumerate", data := .fields #[.none, .bool false, .ref s.heap.objs.size, rawInt 0, .none, .none] } }) :=
  .of_wp fun prog w A R s h => by
    obtain ⟨hp, g, d, tk, os⟩ := s
    obtain ⟨h1, h⟩ := h
    have hsub := sub_enumerate
    have begun : ∀ {A' : Around} {E : Value → Shared → Prop} {Q : Value → Shared → Prop}, Q (.ref hp.objs.size) ⟨hp.push o, g, d, tk, os⟩ → wpAny (model prog w) A' (pyIter v) Q E ⟨hp, g, d, tk, os⟩ :=
      fun q => B.iter prog w _ _ ⟨hp, g, d, tk, os⟩ _ h1 q
    wp_walk using begun
    refine wpAny_stack_any fun st => wpAny_pure ?_
    split
    · rename_i c _ _ _ _ _
      cases (c == Value.type "enumerate")
      · wp_walk using begun
        exact ⟨_, rfl, h⟩
      · wp_walk using begun
        exact ⟨_, rfl, h⟩
    · wp_walk using begun
      exact ⟨_, rfl, h⟩
section
variable {prog : Program} {w : World} {A : Around} {E : Value → Shared → Prop} {s : Shared}
theorem call_enumT {t : Addr} {items : Array Value} {Q : Value → Shared → Prop} (ht : s.heap.IsTuple t items)
    (h : ∀ h', IsEnum h' (s.heap.objs.size + 1) s.heap.objs.size 0 .none → h'.IsTupleIter s.heap.objs.size t 0 → h'.objs.size = s.heap.objs.size + 2 →
      (∀ b o, s.heap.get? b = some o → h'.get? b = some o) → Q (.ref (s.heap.objs.size + 1)) { s with heap := h' }) :
    wpAny (model prog w) A (call (.type "enumerate") [.ref t]) Q E s := by
  refine callType_new F.called_enumerate (by decide) (F.typeCall_enumerate_1 _) (F.newCall_enumerate_1 _) (fun obj => F.args_object_init_2 obj _) F.entry_enumerate_new
    (meets_enumT (begins_tuple t items)) ⟨ht, ?_⟩
  have hz : (s.heap.push { cls := .type "tuple_iterator", data := .fields #[.ref t, .int 0 0] }).objs.size = s.heap.objs.size + 1 := Heap.size_push ..
  show _ ∧ _
  rw [hz]
  have he : IsEnum ((s.heap.push { cls := .type "tuple_iterator", data := .fields #[.ref t, .int 0 0] }).push
      { cls := .type "enumerate", data := .fields #[.none, .bool false, .ref s.heap.objs.size, rawInt 0, .none, .none] }) (s.heap.objs.size + 1) s.heap.objs.size 0 .none := by
    have := Heap.get?_push_size (s.heap.push { cls := .type "tuple_iterator", data := .fields #[.ref t, .int 0 0] })
      (o := { cls := .type "enumerate", data := .fields #[.none, .bool false, .ref s.heap.objs.size, rawInt 0, .none, .none] }) rfl
    rw [hz] at this
    exact this
  refine ⟨⟨_, he, rfl⟩, h _ he ⟨_, Heap.get?_push_of_some _ (Heap.get?_push_size _ rfl), rfl, rfl⟩ (by rw [Heap.size_push, hz]) fun b o x => Heap.get?_push_of_some _ (Heap.get?_push_of_some _ x)⟩
end
end PySem
namespace Rl
open PySem PySem.Spec PyProof.Rows L2
def ItEt (K : PySem.W.Frag) (a : Addr) : It :=
  ⟨fun i H => ∃ (xs : List V) (x : V), SqT K H a xs ∧ xs[i]? = some x,
    fun i H v H' => ∃ T x, v = .ref T ∧ H T = none ∧ H' = upd H T (.tup [.int (i : Nat), x]) ∧ ∀ xs, SqT K H a xs → xs[i]? = some x,
    fun i H => ∃ xs : List V, SqT K H a xs ∧ xs.length = i⟩
theorem turn_enumT {P : Program} {w : World} {K : PySem.W.Frag} {elts : List Expr} {kk : Nat} {tpos : Pos} (a e it : Addr) :
    Turn P w K (.Tuple elts kk tpos) (ItEt K a) [e, it] e (fun i h => (∃ old, IsEnum h e it ((i : Nat) : Int) old) ∧ h.IsTupleIter it a i ∧ e ≠ it ∧ a ≠ it ∧ a ≠ e) where
  mem := by simp
  obj := fun i h st b hb => by
    obtain ⟨⟨old, he⟩, ⟨o, ho, hc, hd⟩, _⟩ := st
    rcases (show b = e ∨ b = it by simpa using hb) with z | z
    · rw [z]; exact ⟨_, he, fun v q => nomatch q⟩
    · rw [z]; exact ⟨o, ho, fun v q => by rw [hd] at q; cases q⟩
  keep := fun i h h' st k => let ⟨⟨old, he⟩, hi, hne⟩ := st; ⟨⟨old, k e (by simp) _ he⟩, hi.at fun o q => k it (by simp) o q, hne⟩
  item := by
    intro X hP hw hK hc i pins s σ H E I hf st hg
    subst hP hw hK
    obtain ⟨⟨old, he⟩, hit, hne, hai, hae⟩ := st
    obtain ⟨xs, x, hq, hx⟩ := hg
    obtain ⟨its, rv, p, hz⟩ := I.tuple hq
    obtain ⟨u, hu, ru⟩ := rv.get hx
    have hel : e < s.heap.objs.size := Heap.lt_size he
    have hil : it < s.heap.objs.size := by obtain ⟨_, q, _⟩ := hit; exact Heap.lt_size q
    have hi : i < its.toArray.size := by
      have := (List.getElem?_eq_some_iff.mp hu).1
      simpa using this
    refine wpAny_pyNext_enum_itemD (Draws.tuple (prog := X.prog) (w := X.w) (A := X.A.in1) (I.ok.hd hc) it a hai its.toArray) he ⟨hit, p⟩ hi hne (fun q => ?_) fun y h' tk hy ho hst hT hsz hk => ?_
    · rcases List.mem_cons.mp q with q | q
      · exact hne q
      · exact hae (List.mem_singleton.mp q).symm
    have ey : y = u := by
      have h1 : its.toArray[i]? = some u := by simpa using hu
      exact Option.some.inj (hy.symm.trans h1)
    subst ey
    refine ⟨_, rfl, wpAny_letOwnedTupleGo_enum (s := { s with heap := h', toks := tk + 1 }) ho fun h'' he' sb => ?_⟩
    have hT2 : h''.get? s.heap.objs.size = some { cls := .type "tuple", data := .seq #[.int i tk, y] } := (sb.2 _ (Nat.ne_of_gt hel)).trans hT
    have new : ObjOk X.prog X.w (upd H s.heap.objs.size (.tup [.int (i : Nat), x])) h'' s.heap.objs.size (.tup [.int (i : Nat), x]) :=
      ⟨by show 2 ≤ sizeLine; decide, [.int i tk, y], .cons ⟨_, rfl⟩ (.cons ru .nil), ⟨_, hT2, rfl, _, rfl⟩⟩
    have I1 : Inv X pins σ (upd H s.heap.objs.size (.tup [.int (i : Nat), x])) { s with heap := h'', toks := tk + 1 } :=
      I.turnedNew (ch := [e, it]) (fun b ob hb q => (sb.2 b (fun z => hb (by simp [z]))).trans (hk b ob (fun z => hb (by simp [z])) (fun z => hb (by simp [z])) q)) hf (Nat.le_refl _) new
    refine ⟨.ref s.heap.objs.size, _, I1, rfl, ⟨_, x, rfl, I.hok.fresh (Nat.le_refl _), rfl, fun ys hy => by rw [I.tuple_inj hy hq]; exact hx⟩, ⟨⟨y, ?_⟩, hst.1.at fun o q => (sb.2 it (Ne.symm hne)).trans q, hne, hai, hae⟩, fun b hb => ?_⟩
    · have e1 : ((i + 1 : Nat) : Int) = (i : Int) + 1 := by omega
      rw [e1]
      exact he'
    · have hb' : b < s.heap.objs.size := by
        rcases (show b = e ∨ b = it by simpa using hb) with z | z
        · rw [z]; exact hel
        · rw [z]; exact hil
      rw [upd_ne (Nat.ne_of_lt hb')]
      exact (hf b hb).1
  done := by
    intro X hP hw hK hc i pins s σ H E I hf st hg
    subst hP hw hK
    obtain ⟨⟨old, he⟩, hit, hne, hai, hae⟩ := st
    obtain ⟨xs, hq, hx⟩ := hg
    obtain ⟨its, rv, p, hz⟩ := I.tuple hq
    obtain ⟨f0, f1, f2, f3, f4, f5⟩ := hf it (by simp)
    have hl := rv.length
    have en : i = its.toArray.size := by simp; omega
    refine wpAny_pyNext_enum_endD (Draws.tuple (prog := X.prog) (w := X.w) (A := X.A.in1) (I.ok.hd hc) it a hai its.toArray) he ⟨by rw [← en]; exact hit, p⟩ fun h' eb => ⟨rfl, I.turned (t' := s.toks) (fun b o hb q => eb b o hb q) f0 f1 f3 f4 f5⟩
  self := fun A i s Q E st h => let ⟨⟨_, he⟩, _⟩ := st; wpAny_pyIter_enum he h
def iEnT (K : PySem.W.Frag) (ta : TA) : TI := fun σ H R => ta σ H fun vs H1 => ∃ a xs, vs = [.ref a] ∧ SqT K H1 a xs ∧ R (ItEt K a) H1
theorem pi_enumT {X : Cx} {e : Expr} {ta : TA} {p pos tpos : Pos} {elts : List Expr} {kk : Nat} (hg : Gl X "enumerate") (hm : X.mg "enumerate" = none) (ha : PA X [e] ta) (hs : starEach [e] X.env = [(false, eval e X.env)] := by rfl) :
    PI X (.Tuple elts kk tpos) (.Call (.Name "enumerate" p) [e] [] pos) (iEnT X.K ta) := by
  refine ⟨fun pins s σ H R I h => ?_⟩
  refine Call_ (ld_blt I hg hm boot_enumerate (PyProof.Rows.callWith_type1 (thn (ha.run pos pins s σ H _ I h) fun us s1 ⟨vs, H1, I1, r1, q1⟩ => ?_) hs rfl))
  obtain ⟨a, xs, ex, hq, q⟩ := q1
  subst ex
  cases r1 with
  | cons r rr =>
    cases rr
    cases r
    obtain ⟨its, rv, p', hz⟩ := I1.tuple hq
    have hal : a < s1.heap.objs.size := p'.lt
    refine call_enumT p' fun h' he hit hsz hk => wpAny_pyIter_enum he ?_
    have I2 : Inv X pins σ H1 { s1 with heap := h' } := I1.kept (t' := s1.toks) hk
    refine ⟨s1.heap.objs.size + 1, [s1.heap.objs.size + 1, s1.heap.objs.size], _, _, H1, rfl, I2, turn_enumT a (s1.heap.objs.size + 1) s1.heap.objs.size, ⟨⟨.none, he⟩, hit, Nat.succ_ne_self _, Nat.ne_of_lt hal, Nat.ne_of_lt (Nat.lt_succ_of_lt hal)⟩, fun b hb => ?_, q⟩
    have hle : s1.heap.objs.size ≤ b := by
      rcases (show b = s1.heap.objs.size + 1 ∨ b = s1.heap.objs.size by simpa using hb) with z | z
      · rw [z]; exact Nat.le_add_right _ _
      · rw [z]; exact Nat.le_refl _
    exact I1.fpOk hle (I1.hok.fresh hle)
end Rl
namespace Rl
open PySem PySem.Spec PyProof.Rows L2
theorem back_bounds (n : Nat) (h : 1 ≤ n) : sliceBounds none (some 0) (some (-1)) n = ((n : Int) - 1, 0, -1) := by
  simp only [sliceBounds, Option.getD_some]
  have h1 : ¬ ((-1 : Int) > 0) := by decide
  have h2 : ¬ ((0 : Int) < 0) := by decide
  simp only [h1, h2, if_false]
  have : max (-1) (min (0 : Int) ((n : Int) - 1)) = 0 := by omega
  rw [this]
theorem back_range (m : Nat) : sliceRange (((m + 1 : Nat) : Int) - 1) 0 (-1) = ((List.range m).map (· + 1)).reverse := by
  unfold sliceRange
  have h1 : ¬ ((-1 : Int) > 0) := by decide
  have e : (if ((m + 1 : Nat) : Int) - 1 > 0 then (((m + 1 : Nat) : Int) - 1 - 0 - -1 - 1) / (- -1) else 0) = (m : Int) := by
    by_cases h : ((m + 1 : Nat) : Int) - 1 > 0
    · rw [if_pos h, show (- -1 : Int) = 1 by decide, Int.ediv_one]
      omega
    · rw [if_neg h]
      omega
  simp only [h1, if_false, e, Int.toNat_natCast]
  apply List.ext_getElem
  · simp
  · intro i h1 h2
    simp only [List.length_map, List.length_range] at h1
    rw [List.getElem_map, List.getElem_reverse, List.getElem_map, List.getElem_range, List.getElem_range]
    simp only [List.length_map, List.length_range]
    omega
theorem back_pick (x : Value) (r : List Value) : slicePick (x :: r).toArray none (some 0) (some (-1)) = r.reverse.toArray := by
  unfold slicePick
  rw [back_bounds _ (by simp)]
  show ((sliceRange (((x :: r).toArray.size : Int) - 1) 0 (-1)).filterMap ((x :: r).toArray[·]?)).toArray = _
  rw [show (((x :: r).toArray.size : Nat) : Int) = ((r.length + 1 : Nat) : Int) by simp, back_range, List.filterMap_reverse, List.filterMap_map]
  congr 2
  have h := PySem.W.krv_all r.toArray
  simp only [List.size_toArray] at h
  refine Eq.trans ?_ h
  refine congrArg (fun f => (List.range r.length).filterMap f) (funext fun k => ?_)
  simp
def tBack (K : PySem.W.Frag) (te : TE) : TE := fun σ H Q => te σ H fun x H1 => ∃ a y ys, x = .ref a ∧ SqL K H1 a (y :: ys) ∧ ∀ p, H1 p = none → Q (.ref p) (upd H1 p (.lst ys.reverse))
theorem pe_back {X : Cx} {e : Expr} {te : TE} {k j : Nat} {p0 p1 p2 p3 pos : Pos} (he : PE X e te) : PE X (.Subscript e (.Slice none (some (.Constant (.int 0) j p0)) (some (.UnaryOp .USub (.Constant (.int 1) k p1) p2)) p3) pos) (tBack X.K te) := by
  refine ⟨fun pins s σ H Q I h => ?_⟩
  refine Subscript_ (thn (he.run pins s σ H _ I h) fun v s1 ⟨x, H1, I1, r1, q1⟩ => ?_)
  obtain ⟨a, y, ys, ex, hx, q⟩ := q1
  subst ex
  cases r1
  have hst : PO X (some (.UnaryOp .USub (.Constant (.int 1) k p1) p2)) (tPart (tUn (rU fun i => .int (-i)) (tC (.int 1)))) := po_some (pe_un un_neg pe_int)
  have hhi : PO X (some (.Constant (.int 0) j p0)) (tPart (tC (.int 0))) := po_some pe_int
  refine wpAny_Slice (thn (po_none.run pins s1 σ H1 (fun o H2 => o = none ∧ H2 = H1) I1 ⟨rfl, rfl⟩) fun vl s2 ⟨l, H2, I2, pl, el, e2⟩ => ?_)
  subst el e2
  refine thn (hhi.run pins s2 σ H2 (fun o H3 => o = some 0 ∧ H3 = H2) I2 ⟨0, rfl, rfl, rfl⟩) fun vu s3 ⟨u, H3, I3, pu, eu, e3⟩ => ?_
  subst eu e3
  refine thn (hst.run pins s3 σ H3 (fun o H4 => o = some (-1) ∧ H4 = H3) I3 ⟨1, rfl, -1, rfl, rfl, rfl⟩) fun vs s4 ⟨o, H4, I4, ps, eo, e4⟩ => ?_
  subst eo e4
  have I5 : Inv X pins σ H4 { s4 with heap := s4.heap.push { cls := .type "slice", data := .fields #[vl, vu, vs] } } := I4.kept (t' := s4.toks) fun b ob q => Heap.get?_push_of_some _ q
  obtain ⟨its, r, ht, hz⟩ := I5.list hx
  have hlen := r.length
  show wpAny (model X.prog X.w) X.A (subscriptTail e (.Slice none (some (.Constant (.int 0) j p0)) (some (.UnaryOp .USub (.Constant (.int 1) k p1) p2)) p3) (.ref a) (.ref s4.heap.objs.size)) (EP X pins σ Q) X.xe { s4 with heap := s4.heap.push { cls := .type "slice", data := .fields #[vl, vu, vs] } }
  refine tail_any (ops := [.ref a, .ref s4.heap.objs.size]) ht.isList.typeIs (PySem.slot_list_getitem.lookup) ?_ (by with_unfolding_all rfl)
  refine wpAny_getItem_list_slice ht.isList (Heap.IsSliceOf.new _ vl vu vs) pl pu ps (by decide) ?_ (by rw [List.size_toArray]; omega)
  cases r with
  | cons ry rr =>
    rw [back_pick]
    refine ⟨.ref _, _, I5.laid (t' := s4.toks) (o := .lst ys.reverse) (fun b ob q => Heap.get?_push_of_some _ q) (Nat.le_refl _) ?_, rfl, q _ (I5.hok.fresh (Nat.le_refl _))⟩
    refine ⟨?_, _, 0, Vals.reverse rr, Heap.get?_push_size _ rfl⟩
    rw [List.length_reverse]
    rw [List.length_cons] at hz
    omega
def TupAt (h : Heap) (v : Value) (ns : List Int) : Prop := ∃ a o its n, v = .ref a ∧ h.get? a = some o ∧ o.cls = .type "tuple" ∧ o.data = .seq (List.toArray its) n ∧ IntsAre its ns
theorem TupAt.keeps {h h' : Heap} {v : Value} {ns : List Int} (p : TupAt h v ns) (k : ∀ b o, h.get? b = some o → o.cls = .type "tuple" → h'.get? b = some o) : TupAt h' v ns := by
  obtain ⟨a, o, its, n, e, ho, hc, hd, hi⟩ := p
  exact ⟨a, o, its, n, e, k _ _ ho hc, hc, hd, hi⟩
section
variable {prog : Program} {w : World} {A : Around} {E : Value → Shared → Prop} {s : Shared}
theorem kat_same {b fin : Bool} {Q : Bool → Shared → Prop} (hq : Q fin s) : ∀ {xs ys : List Value} {ns : List Int} (i : Nat), IntsAre xs ns → IntsAre ys ns → PySem.W.KatLex prog w A b fin Q (xs.zip ys) i s
  | _, _, _, _, .nil, .nil => PySem.W.kat_nil hq
  | _, _, _, i, .cons n t hx, .cons _ u hy => by
    refine PySem.W.kat_cons (SeqAt.EqAt.int_int n t n u prog w _ _ ?_)
    refine PySem.W.kat_go (fun _ => PySem.W.kat_yes (kat_same hq (i + 1) hx hy)) fun e => ?_
    simp at e
theorem ints_size : ∀ {xs : List Value} {ns : List Int}, IntsAre xs ns → xs.length = ns.length
  | _, _, .nil => rfl
  | _, _, .cons _ _ h => congrArg (· + 1) (ints_size h)
def hd0 (ns : List Int) : Int := ns.headD 0
def ltH (k : Value → List Int) (v u : Value) : Bool := decide (hd0 (k v) < hd0 (k u))
theorem ltH_swo (k : Value → List Int) : SrtO.Swo (ltH k) := by
  refine ⟨fun x y h => ?_, fun x y z h1 h2 => ?_⟩
  · have a := of_decide_eq_true (p := hd0 (k x) < hd0 (k y)) h
    exact decide_eq_false (p := hd0 (k y) < hd0 (k x)) (by omega)
  · have a := of_decide_eq_false (p := hd0 (k y) < hd0 (k x)) h1
    have b := of_decide_eq_false (p := hd0 (k z) < hd0 (k y)) h2
    exact decide_eq_false (p := hd0 (k z) < hd0 (k x)) (by omega)
theorem tup_cmp {vs : List Value} {k : Value → List Int} (hp : ∀ v ∈ vs, TupAt s.heap v (k v) ∧ k v ≠ []) (hk : ∀ v ∈ vs, ∀ u ∈ vs, hd0 (k v) = hd0 (k u) → k v = k u) :
    SrtO.Cmp prog w A s (tuples' true) (fun p => p.1 ∈ vs) (SrtO.lt2 (ltH k)) := by
  intro p q hm hm'
  obtain ⟨⟨a, o, its, n, e, ho, hc, hd, hi⟩, ne⟩ := hp _ hm
  obtain ⟨⟨a', o', its', n', e', ho', hc', hd', hi'⟩, ne'⟩ := hp _ hm'
  have same := hk _ hm _ hm'
  show wpAny (model prog w) A (keyLt' (tuples' true) p.1 q.1) (fun r s' => s' = s ∧ r = ltH k p.1 q.1) (fun _ _ => False) s
  unfold ltH
  revert hi hi' ne ne' same
  generalize k p.1 = ns
  generalize k q.1 = ms
  intro ne hi ne' hi' same
  rw [e, e']
  refine PySem.W.kat_lt ho hd ho' hd' ?_
  by_cases hh : hd0 ns = hd0 ms
  · have em := same hh
    subst em
    have l1 := ints_size hi
    have l2 := ints_size hi'
    refine kat_same ⟨rfl, ?_⟩ 0 hi hi'
    rw [decide_eq_false (p := hd0 ns < hd0 ns) (by omega)]
    refine decide_eq_false ?_
    simp only [List.size_toArray]
    omega
  · cases hi with
    | nil => exact absurd rfl ne
    | cons x t hx =>
      cases hi' with
      | nil => exact absurd rfl ne'
      | cons y u hy =>
        have hh : ¬ x = y := hh
        refine PySem.W.kat_cons (SeqAt.EqAt.int_int x t y u prog w _ _ ?_)
        refine PySem.W.kat_go (fun e1 => ?_) (fun _ => ?_)
        · exact absurd (by simpa using e1) hh
        · exact PySem.W.kat_no (oneLt_int ⟨rfl, rfl⟩)
theorem tup_firsts {h : Heap} {k : Value → List Int} : ∀ {vs : List Value}, (∀ v ∈ vs, TupAt h v (k v) ∧ k v ≠ []) → ∃ fs : List Value, PySem.W.KatTups h vs fs ∧ fs.length = vs.length ∧ ∀ f ∈ fs, ∃ x t, f = Value.int x t
  | [], _ => ⟨[], PySem.W.KatTups.nil, rfl, fun _ hm => by simp at hm⟩
  | v :: vs, hp => by
    obtain ⟨fs, h1, h2, h3⟩ := tup_firsts (vs := vs) fun v' hm => hp v' (List.mem_cons_of_mem _ hm)
    obtain ⟨⟨a, o, its, n, e, ho, hc, hd, hi⟩, ne⟩ := hp v (List.mem_cons_self ..)
    subst e
    revert hi ne
    generalize k (Value.ref a) = ns
    intro ne hi
    cases hi with
    | nil => exact absurd rfl ne
    | cons x t hx =>
      refine ⟨.int x t :: fs, PySem.W.KatTups.cons ho hc hd (by simp) h1, by rw [List.length_cons, List.length_cons, h2], fun f hm => ?_⟩
      rcases List.mem_cons.mp hm with rfl | hm
      · exact ⟨x, t, rfl⟩
      · exact h3 f hm
theorem tup_sortable {a : Addr} {vs : List Value} {k : Value → List Int} (h0 : 0 < vs.length) (hp : ∀ v ∈ vs, TupAt s.heap v (k v) ∧ k v ≠ []) (hk : ∀ v ∈ vs, ∀ u ∈ vs, hd0 (k v) = hd0 (k u) → k v = k u)
    (ha : ∀ o, s.heap.get? a = some o → o.cls ≠ .type "tuple") : SrtO.SortableO prog w A s a vs (ltH k) := by
  intro h' keep
  have hp' : ∀ v ∈ vs, TupAt h' v (k v) ∧ k v ≠ [] := fun v hm => ⟨(hp v hm).1.keeps fun b o e c => keep b o (fun z => by subst z; exact ha o e c) e, (hp v hm).2⟩
  obtain ⟨fs, h1, h2, h3⟩ := tup_firsts hp'
  refine ⟨tuples' true, fun Q E hq => ?_, tup_cmp hp' hk⟩
  refine PySem.W.kat_kind (T := .type "int") h1 (by omega) (fun f hm => ?_) (by rfl) ?_
  · obtain ⟨x, t, rfl⟩ := h3 f hm
    exact PySem.W.Looks.now
  · have e : (Value.type "int" != Value.type "tuple") = true := by first | decide +kernel | rfl | decide
    rw [e]
    exact hq
end
abbrev iv (l : List Nat) : List V := l.map fun d : Nat => V.int (d : Int)
def vInt : V → Int
  | .int i => i
  | _ => 0
def kH (H : Hp) : V → List Int
  | .ref t => match H t with
    | some (.tup xs) => xs.map vInt
    | _ => []
  | _ => []
def rSortedA (K : PySem.W.Frag) : List V → Hp → VK → Prop := fun vs H Q => ∃ (a : Addr) (ts : List Addr) (F : List (List Nat)), vs = [V.ref a] ∧ SqL K H a (ts.map V.ref) ∧ ts.length = F.length ∧
  (∀ (i : Nat) t f, ts[i]? = some t → F[i]? = some f → H t = some (.tup (iv f)) ∧ (2 ≤ F.length → f ≠ [])) ∧ (F.Pairwise fun f g => f.headD 0 < g.headD 0) ∧ ∀ p, H p = none → Q (.ref p) (upd H p (.lst (ts.map V.ref)))
theorem kH_at {H : Hp} {t : Addr} {f : List Nat} (h : H t = some (.tup (iv f))) : kH H (.ref t) = f.map fun d => ((d : Nat) : Int) := by
  show (match H t with
    | some (.tup xs) => xs.map vInt
    | _ => []) = _
  rw [h]
  simp [vInt, iv, Function.comp_def]
theorem hd0_map {f : List Nat} : hd0 (f.map fun d => ((d : Nat) : Int)) = ((f.headD 0 : Nat) : Int) := by
  cases f <;> rfl
section
variable {X : Cx}
theorem cr_sortedA : CallR X (.builtin "sorted") (rSortedA X.K) := by
  intro pins s σ H vs us Q I r h
  obtain ⟨a, ts, F, rfl, hs, hl, hx, asc, q⟩ := h
  obtain ⟨its, rv, hli, hz⟩ := I.list hs
  obtain ⟨u, rfl, ru⟩ := vals1 r
  obtain rfl : u = Value.ref a := ru
  obtain ⟨e1, e2⟩ := refs_back rv fun x m => by
    obtain ⟨t, _, e⟩ := List.mem_map.mp m
    exact ⟨t, e.symm⟩
  have lits : its.length = ts.length := by
    have := rv.length
    rw [List.length_map] at this
    exact this.symm
  have back : ∀ (i : Nat) v, its[i]? = some v → ∃ t f, v = .ref t ∧ ts[i]? = some t ∧ F[i]? = some f := fun i v hv => by
    have hi := (List.getElem?_eq_some_iff.mp hv).1
    have h1 : ts[i]? = some (ts[i]'(by omega)) := List.getElem?_eq_getElem (by omega)
    have h2 : F[i]? = some (F[i]'(by omega)) := List.getElem?_eq_getElem (by omega)
    refine ⟨_, _, ?_, h1, h2⟩
    obtain ⟨t, rfl⟩ := e2 v (List.mem_of_getElem? hv)
    have h3 : (ts.map V.ref)[i]? = (its.map backV)[i]? := by rw [e1]
    rw [List.getElem?_map, List.getElem?_map, h1, hv] at h3
    have h4 : V.ref (ts[i]'(by omega)) = V.ref t := Option.some.inj h3
    rw [V.ref.inj h4]
  have key : ∀ (i : Nat) v, its[i]? = some v → ∃ f, F[i]? = some f ∧ kH H (backV v) = (f.map fun d => ((d : Nat) : Int)) := fun i v hv => by
    obtain ⟨t, f, e, ht, hf⟩ := back i v hv
    subst e
    exact ⟨f, hf, kH_at (hx i t f ht hf).1⟩
  have srt : SrtO.Srtd (ltH fun u => kH H (backV u)) its := by
    refine List.pairwise_iff_getElem.mpr fun i j hi hj hij => ?_
    obtain ⟨f, hf, ef⟩ := key i its[i] (List.getElem?_eq_getElem hi)
    obtain ⟨g, hg, eg⟩ := key j its[j] (List.getElem?_eq_getElem hj)
    have := List.pairwise_iff_getElem.mp asc i j (List.getElem?_eq_some_iff.mp hf).1 (List.getElem?_eq_some_iff.mp hg).1 hij
    rw [(List.getElem?_eq_some_iff.mp hf).2, (List.getElem?_eq_some_iff.mp hg).2] at this
    refine decide_eq_false ?_
    show ¬ hd0 (kH H (backV its[j])) < hd0 (kH H (backV its[i]))
    rw [ef, eg, hd0_map, hd0_map]
    omega
  refine SrtO.sorted_ord (ltv := ltH fun u => kH H (backV u)) (ltH_swo _) hli.isList (by rw [← rv.length]; exact hz) (fun h2 h₁ a' ha' kk => ?_) fun out h1 h2 => ?_
  · have at_ : ∀ v ∈ its, ∃ i, its[i]? = some v := fun v hv => by
      obtain ⟨i, hi, e⟩ := List.mem_iff_getElem.mp hv
      exact ⟨i, by rw [List.getElem?_eq_getElem hi, e]⟩
    refine tup_sortable (s := { s with heap := h₁ }) (by omega) (fun v hv => ?_) (fun v hv u hu e => ?_) fun o e => ?_
    · obtain ⟨i, hi⟩ := at_ v hv
      obtain ⟨t, f, e, ht, hf⟩ := back i v hi
      subst e
      obtain ⟨hH, hne⟩ := hx i t f ht hf
      obtain ⟨_, its2, r2, o, ho, hc, n, hd⟩ := I.hok _ _ hH
      have hkt : kH H (backV (.ref t)) = (f.map fun d => ((d : Nat) : Int)) := kH_at hH
      rw [hkt]
      refine ⟨⟨t, o, its2, n, rfl, (kk _ _ ho).2, hc, hd, ?_⟩, ?_⟩
      · refine Vals.ints ?_
        rw [List.map_map]
        exact r2
      · have := hne (by omega)
        intro e
        exact this (List.map_eq_nil_iff.mp e)
    · obtain ⟨i, hi⟩ := at_ v hv
      obtain ⟨j, hj⟩ := at_ u hu
      obtain ⟨f, hf, ef⟩ := key i v hi
      obtain ⟨g, hg, eg⟩ := key j u hj
      rw [ef, eg, hd0_map, hd0_map] at e
      have hi' := (List.getElem?_eq_some_iff.mp hf)
      have hj' := (List.getElem?_eq_some_iff.mp hg)
      have pw := List.pairwise_iff_getElem.mp asc
      rcases Nat.lt_trichotomy i j with q | q | q
      · have := pw i j hi'.1 hj'.1 q
        rw [hi'.2, hj'.2] at this
        omega
      · subst q
        rw [hf] at hg
        rw [ef, eg, Option.some.inj hg]
      · have := pw j i hj'.1 hi'.1 q
        rw [hi'.2, hj'.2] at this
        omega
    · have e' : some o = some (seqObj "list" its.toArray 0) := e.symm.trans ha'
      cases e'
      intro c
      exact absurd (Value.type.inj c) (by decide)
  · have eo : out = its := SrtO.stb_uniq (ltH_swo _) h1 srt h2
    subst eo
    obtain ⟨ep, he'⟩ := PyProof.Rows.sortedAll_at s.heap out out.toArray
    exact ⟨.ref _, upd H (s.heap.objs.size + 1) (.lst (ts.map V.ref)), I.laid (t' := s.toks) (fun _ _ => PyProof.Rows.sortedAll_old) (Nat.le_succ _) ⟨hz, out, ep, rv, he'⟩, rfl, q _ (I.hok.fresh (Nat.le_succ _))⟩
end
end Rl
namespace Wk
open PySem L2 Rl Mt
def top (i : Nat) : Stmt := PySem.Challenge.pw_spinfield_k25_whole_orientations.main.body.getD i (.Pass ⟨0, 0, 0, 0⟩)
abbrev sInit : Stmt := inClass (top 6) 0
abbrev sReach : Stmt := top 7
abbrev sNext : Stmt := top 8
abbrev sFaces : Stmt := top 9
abbrev sNums : Stmt := top 10
abbrev sDual : Stmt := top 11
abbrev sGood : Stmt := top 13
abbrev sCell : Stmt := top 15
abbrev sMix : Stmt := top 16
abbrev sTups : Stmt := top 18
abbrev sTrace : Stmt := top 19
abbrev sPlace : Stmt := top 20
abbrev sOwner : Stmt := top 21
abbrev sMake : Stmt := top 22
abbrev sLaw : Stmt := top 23
theorem same_new {H : Hp} {p : Addr} {o : HO} (h : H p = none) : Same H (upd H p o) := fun b x e => by
  rw [upd_ne (ne_of_none e h)]
  exact e
theorem Same.put {H H' : Hp} {p : Addr} {o : HO} (e : Same H H') (h : H p = none) : Same H (upd H' p o) := fun b x ha => by
  rw [upd_ne (ne_of_none ha h)]
  exact e b x ha
theorem ne_new {H : Hp} {p q : Addr} {o : HO} (h : H p = some o) (n : H q = none) : q ≠ p := (ne_of_none h n).symm
theorem iv_get {l : List Nat} {i d : Nat} (h : l[i]? = some d) : (iv l)[i]? = some (V.int (d : Int)) := by
  rw [List.getElem?_map, h]
  rfl
theorem iv_of {l : List Nat} {i : Nat} {x : V} (h : (iv l)[i]? = some x) : ∃ d, l[i]? = some d ∧ x = .int (d : Int) := by
  rw [List.getElem?_map] at h
  cases e : l[i]? with
  | none => rw [e] at h; cases h
  | some d => rw [e] at h; exact ⟨d, rfl, (Option.some.inj h).symm⟩
theorem iv_len {l : List Nat} : (iv l).length = l.length := List.length_map ..
theorem iv_set {l : List Nat} {i d : Nat} : (iv l).set i (.int (d : Int)) = iv (l.set i d) := by
  rw [iv, iv, List.map_set]
theorem iv_app {l m : List Nat} : iv (l ++ m) = iv l ++ iv m := List.map_append ..
theorem rf_of {l : List Addr} {i : Nat} {x : V} (h : (l.map V.ref)[i]? = some x) : ∃ d, l[i]? = some d ∧ x = .ref d := by
  rw [List.getElem?_map] at h
  cases e : l[i]? with
  | none => rw [e] at h; cases h
  | some d => rw [e] at h; exact ⟨d, rfl, (Option.some.inj h).symm⟩
theorem rf_get {l : List Addr} {i : Nat} {a : Addr} (h : l[i]? = some a) : (l.map V.ref)[i]? = some (V.ref a) := by
  rw [List.getElem?_map, h]
  rfl
def Tups (H : Hp) (as : List Addr) (F : List (List Nat)) : Prop := as.length = F.length ∧ ∀ (i : Nat) (a : Addr) (f : List Nat), as[i]? = some a → F[i]? = some f → H a = some (.tup (iv f))
theorem Tups.mono {H H' : Hp} {as : List Addr} {F : List (List Nat)} (t : Tups H as F) (s : Same H H') : Tups H' as F := ⟨t.1, fun i a f h1 h2 => s _ _ (t.2 i a f h1 h2)⟩
theorem Tups.at {H : Hp} {as : List Addr} {F : List (List Nat)} (t : Tups H as F) {i : Nat} {a : Addr} (h : as[i]? = some a) : ∃ f, F[i]? = some f ∧ H a = some (.tup (iv f)) := by
  have hi := (List.getElem?_eq_some_iff.mp h).1
  have h2 : F[i]? = some (F[i]'(by rw [← t.1]; exact hi)) := List.getElem?_eq_getElem _
  exact ⟨_, h2, t.2 i a _ h h2⟩
theorem Tups.nil {H : Hp} : Tups H [] [] := ⟨rfl, fun i a f h _ => by simp at h⟩
theorem Tups.snoc {H : Hp} {as : List Addr} {F : List (List Nat)} (t : Tups H as F) {a : Addr} {f : List Nat} (h : H a = some (.tup (iv f))) : Tups H (as ++ [a]) (F ++ [f]) := by
  refine ⟨by simp [t.1], fun i b g h1 h2 => ?_⟩
  rcases Nat.lt_or_ge i as.length with q | q
  · rw [List.getElem?_append_left q] at h1
    rw [List.getElem?_append_left (by rw [← t.1]; exact q)] at h2
    exact t.2 i b g h1 h2
  · rw [List.getElem?_append_right q] at h1
    rw [List.getElem?_append_right (by rw [← t.1]; exact q)] at h2
    have hi := (List.getElem?_eq_some_iff.mp h1).1
    have e0 : i - as.length = 0 := by
      rw [List.length_singleton] at hi
      omega
    have e1 : i - F.length = 0 := by rw [← t.1]; exact e0
    rw [e0] at h1
    rw [e1] at h2
    cases h1
    cases h2
    exact h
def Rws (H : Hp) (as : List Addr) (F : List (List Nat)) : Prop := as.length = F.length ∧ ∀ (i : Nat) (a : Addr) (f : List Nat), as[i]? = some a → F[i]? = some f → H a = some (.lst (iv f)) ∨ H a = some (.tup (iv f))
theorem Rws.mono {H H' : Hp} {as : List Addr} {F : List (List Nat)} (t : Rws H as F) (s : Same H H') : Rws H' as F := ⟨t.1, fun i a f h1 h2 => (t.2 i a f h1 h2).imp (s _ _) (s _ _)⟩
theorem Tups.rws {H : Hp} {as : List Addr} {F : List (List Nat)} (t : Tups H as F) : Rws H as F := ⟨t.1, fun i a f h1 h2 => .inr (t.2 i a f h1 h2)⟩
theorem Rws.at {H : Hp} {as : List Addr} {F : List (List Nat)} (t : Rws H as F) {i : Nat} {a : Addr} (h : as[i]? = some a) : ∃ f, F[i]? = some f ∧ (H a = some (.lst (iv f)) ∨ H a = some (.tup (iv f))) := by
  have hi := (List.getElem?_eq_some_iff.mp h).1
  have h2 : F[i]? = some (F[i]'(by rw [← t.1]; exact hi)) := List.getElem?_eq_getElem _
  exact ⟨_, h2, t.2 i a _ h h2⟩
def pr (p : Nat × Nat) : List Nat := [p.1, p.2]
theorem ce : ¬ (("count" : Str) = "edges") := by decide +kernel
theorem ct : ¬ (("count" : Str) = "turns") := by decide +kernel
theorem et : ¬ (("edges" : Str) = "turns") := by decide +kernel
def flds (n : Int) (ae at_ : Addr) : List (Str × V) := putF "turns" (.ref at_) (putF "edges" (.ref ae) (putF "count" (.int n) []))
theorem flds_count (n : Int) (ae at_ : Addr) : (flds n ae at_).lookup ("count" : Str) = some (.int n) := by
  unfold flds
  rw [lookup_putF, if_neg ct, lookup_putF, if_neg ce, lookup_putF, if_pos rfl]
theorem flds_edges (n : Int) (ae at_ : Addr) : (flds n ae at_).lookup ("edges" : Str) = some (.ref ae) := by
  unfold flds
  rw [lookup_putF, if_neg et, lookup_putF, if_pos rfl]
theorem flds_turns (n : Int) (ae at_ : Addr) : (flds n ae at_).lookup ("turns" : Str) = some (.ref at_) := by
  unfold flds
  rw [lookup_putF, if_pos rfl]
def PlaneAt (C : Addr) (H : Hp) (p : Addr) (E : List (Nat × Nat)) (T : List (List Nat)) : Prop :=
  ∃ (dx ae at_ : Addr) (as rs : List Addr), H p = some (.ins C dx (flds (T.length : Int) ae at_)) ∧ H ae = some (.tup (as.map V.ref)) ∧ H at_ = some (.tup (rs.map V.ref)) ∧ Tups H as (E.map pr) ∧ Tups H rs T
theorem PlaneAt.mono {C : Addr} {H H' : Hp} {p : Addr} {E : List (Nat × Nat)} {T : List (List Nat)} (h : PlaneAt C H p E T) (s : Same H H') : PlaneAt C H' p E T := by
  obtain ⟨dx, ae, at_, as, rs, h1, h2, h3, h4, h5⟩ := h
  exact ⟨dx, ae, at_, as, rs, s _ _ h1, s _ _ h2, s _ _ h3, h4.mono s, h5.mono s⟩
structure Txt (K : PySem.W.Frag) (mg : Str → Option Value) (C : Addr) : Prop where
  cl : Cls K C
  nC : NoAttr K C "count"
  nE : NoAttr K C "edges"
  nT : NoAttr K C "turns"
  mgC : mg "Plane" = some (.ref C)
  mv : ∃ t, mg "MOST_VERTICES" = some (.int 100 t)
  me : ∃ t, mg "MOST_EDGES" = some (.int 160 t)
  len : mg "len" = none
  enum : mg "enumerate" = none
  range : mg "range" = none
  tuple : mg "tuple" = none
  sorted : mg "sorted" = none
  min : mg "min" = none
  max : mg "max" = none
  int : mg "int" = none
  bool : mg "bool" = none
  abs : mg "abs" = none
  isi : mg "isinstance" = none
  all : mg "all" = none
theorem walk_enumT {K : PySem.W.Frag} {a : Addr} {xs : List V} : Walk (ItEt K a) xs.length (fun H => SqT K H a xs) (YPair (fun i => some (.int (i : Nat))) (fun i => xs[i]?)) := by
  refine ⟨fun i _ hi q => ⟨xs, xs[i], q, by simp [hi]⟩, fun _ q => ⟨xs, q, rfl⟩, fun i H v H' _ q y => ?_⟩
  obtain ⟨T, x, h1, h2, h3, h4⟩ := y
  exact ⟨T, .int (i : Nat), x, h1, h2, h3, rfl, h4 xs q⟩
theorem mod_nat (a b : Nat) : ((a : Int) % (b : Int)) = ((a % b : Nat) : Int) := (Int.natCast_emod a b).symm
theorem ixN_nat {n j : Nat} (hj : j < n) : ixN n (j : Int) = some j := by
  unfold ixN
  rw [if_pos (by omega), if_pos (by omega)]
  simp
theorem xor_rv (d : Nat) : Builtin.bitXor (d : Int) 1 = ((rv d : Nat) : Int) := by
  rw [Bits.bitXor_pp (by omega) (by decide)]
  congr 1
  show d ^^^ 1 = rv d
  unfold rv
  have h := Nat.div_add_mod d 2
  have h2 : d % 2 < 2 := Nat.mod_lt _ (by decide)
  have e : d ^^^ 1 = 2 * (d / 2) + (1 - d % 2) := by
    apply Nat.eq_of_testBit_eq
    intro i
    cases i with
    | zero =>
      rw [Nat.testBit_xor, Nat.testBit_zero, Nat.testBit_zero, Nat.testBit_zero]
      rcases (show d % 2 = 0 ∨ d % 2 = 1 by omega) with q | q
      · have : (2 * (d / 2) + (1 - d % 2)) % 2 = 1 := by omega
        simp [q, this]
      · have : (2 * (d / 2) + (1 - d % 2)) % 2 = 0 := by omega
        simp [q, this]
    | succ i =>
      rw [Nat.testBit_xor, Nat.testBit_succ, Nat.testBit_succ, Nat.testBit_succ]
      have : (2 * (d / 2) + (1 - d % 2)) / 2 = d / 2 := by omega
      rw [this]
      simp
  rw [e]
  split <;> omega
end Wk
namespace Wk
open PySem L2 Rl Mt
section
variable {P : Program} {w : World} {K : PySem.W.Frag} {mg : Str → Option Value} {base : Heap}
structure Good (C : Addr) (H : Hp) (p : Addr) (E : List (Nat × Nat)) (T : List (List Nat)) (s : Nat → Nat) : Prop where
  at_ : PlaneAt C H p E T
  pl : Pl E T s
  me : E.length ≤ 160
  nv : T.length ≤ 100
theorem Good.mono {C : Addr} {H H' : Hp} {p : Addr} {E : List (Nat × Nat)} {T : List (List Nat)} {s : Nat → Nat} (h : Good C H p E T s) (e : Same H H') : Good C H' p E T s := ⟨h.at_.mono e, h.pl, h.me, h.nv⟩
abbrev afterL (E : List (Nat × Nat)) (s : Nat → Nat) : List Nat := (List.range (2 * E.length)).map (ph s)
def spNext (C : Addr) : Sp := fun vs H Q _ => ∃ (p : Addr) (E : List (Nat × Nat)) (T : List (List Nat)) (s : Nat → Nat), vs = [.ref p] ∧ Good C H p E T s ∧
  ∀ H' q, Same H H' → H q = none → H' q = some (.lst (iv (afterL E s))) → Q (.ref q) H'
theorem scN : FnScope ["plane", "follower", "own", "at", "dart"] ["plane"] (defScope sNext) := ⟨rfl, rfl, rfl, by decide +kernel, rfl, by decide +kernel, by decide +kernel⟩
theorem ok_next {f C : Addr} {fd : FuncData} {k : Nat} (F : Fun K "next_darts" "next_darts" sNext f fd) (T' : Txt K mg C) : FnOk P w K mg base CX0 (k + 1) f fd ["plane"] (spNext C) := by
  refine F.ok scN (fun vs H Q E h => ?_) (fun cdv A outer s H vs Q E hr h => ?_)
  · obtain ⟨p, _, _, _, rfl, _⟩ := h
    rfl
  · obtain ⟨p, E, T, s, rfl, G, q⟩ := h
    refine ⟨_, pss_cons (ps_set (i := 1) scN.nd rfl (.inr rfl) (pe_op op_rep (pe_lst (pa_cons pe_int pa_nil)) (pe_op op_mul pe_int (pe_callB call_len (by rfl) T'.len PySem.boot_len (pa_cons (pe_fld (pv 0) rfl) pa_nil)))))
      (pss_cons (ps_for PassesOwn.never rfl (pi_tup (pe_fld (pv 0) rfl)) (pg_name (i := 2) scN.nd rfl (.inl rfl))
        (pss_one (ps_for PassesOwn.never rfl (pi_enumT (by rfl) T'.enum (pa_cons (pv 2) pa_nil)) (pg_tup rfl (pgs_cons (pg_name (i := 3) scN.nd rfl (.inl rfl)) (pgs_cons (pg_name (i := 4) scN.nd rfl (.inl rfl)) pgs_nil)))
          (pss_one (ps_asg (pe_ix ix_tup (pv 2) (pe_op op_mod (pe_op op_add (pv 3) pe_int) (pe_callB call_len (by rfl) T'.len PySem.boot_len (pa_cons (pv 2) pa_nil))) (fun _ _ => rfl)) (pg_sub (pv 1) (pv 4) set_list))))))
      (pss_one (ps_ret (pe_lc (own := [("dart", 4)]) (g := gName 4) (by rfl) scN.nd (pi_range1 rfl T'.range (pa_cons (pe_callB call_len (by rfl) T'.len PySem.boot_len (pa_cons (pv 1) pa_nil)) pa_nil))
        (blkOk_by (N := ["plane", "follower", "own", "at", "dart"]) (sc := defScope sNext) (by decide +kernel)) (fun _ _ _ _ _ => pg_name (i := 4) scN.nd rfl (.inl rfl)) (fun _ _ _ _ _ => pts_nil)
        (fun _ _ _ _ _ => pe_ix (r := rIxL K) ix_list (pv 1) (pe_op op_xor (pv 4) pe_int) (fun _ _ => rfl)))))), ?_⟩
    obtain ⟨dx, ae, at_, as, rs, hp, hae, hat, hE, hT⟩ := G.at_
    have hme := G.me
    have lE : as.length = E.length := by
      have := hE.1
      simpa using this
    refine ⟨by show 1 ≤ sizeLine; decide, fun l0 n0 => ?_⟩
    have s0 : Same H (upd H l0 (.lst [.int 0])) := same_new n0
    refine ⟨_, rfl, p, C, dx, _, _, rfl, s0 _ _ hp, T'.cl, T'.nE, flds_edges _ _ _, _, as.length, rfl, .inr ⟨_, SqT.of (s0 _ _ hae), by simp⟩, 2, _, rfl, rfl, .inl ⟨by decide, by decide⟩, ?_⟩
    refine ⟨l0, _, _, rfl, rfl, upd_same, by omega, by omega, ?_, fun fl nf => ?_⟩
    · show 1 * (2 * (as.length : Int)).toNat ≤ sizeLine
      rw [sizeLine_eq]
      omega
    have hz : (List.replicate (2 * (as.length : Int)).toNat [V.int 0]).flatten = iv (List.replicate (2 * E.length) 0) := by
      rw [lE, show (2 * (E.length : Int)).toNat = 2 * E.length by omega]
      simp [iv]
    rw [hz]
    have nfl : H fl = none := s0.free nf
    have s1 : Same H (upd (upd H l0 (.lst [.int 0])) fl (.lst (iv (List.replicate (2 * E.length) 0)))) := s0.trans (same_new nf)
    refine ⟨_, rfl, p, C, dx, _, _, rfl, s1 _ _ hp, T'.cl, T'.nT, flds_turns _ _ _, at_, rfl, ⟨_, SqT.of (s1 _ _ hat)⟩, for_tup (K := K) (a := at_) (xs := rs.map V.ref) (fun j σ H' => ∃ (v2 v3 v4 : Option V) (Z : List Nat), σ = [some (.ref p), some (.ref fl), v2, v3, v4] ∧ Same H H' ∧ H' fl = some (.lst (iv Z)) ∧ Z.length = 2 * E.length ∧ ∀ d ∈ (T.take j).flatten, Z[d]? = some (s d))
      ⟨none, none, none, _, rfl, s1, upd_same, List.length_replicate .., by simp⟩ (fun j σ H' _ ⟨_, _, _, _, _, S, _⟩ => SqT.of (S _ _ hat)) ?_ ?_⟩
    · rintro j x σ H1 hj ⟨v2, v3, v4, Z, rfl, S1, hfl, hZ, hd⟩
      obtain ⟨r, hr, rfl⟩ := rf_of hj
      obtain ⟨row, hrow, hrt⟩ := hT.at hr
      have hrm := List.mem_of_getElem? hrow
      have hcy := G.pl.turn row hrm
      refine ⟨.ref r, rfl, r, _, rfl, SqT.of (S1 _ _ hrt), for_it (walk_enumT (K := K) (a := r) (xs := iv row)) (fun i σ H' => ∃ (v3 v4 : Option V) (Z : List Nat), σ = [some (.ref p), some (.ref fl), some (.ref r), v3, v4] ∧ Same H H' ∧ H' fl = some (.lst (iv Z)) ∧ Z.length = 2 * E.length ∧ ∀ d ∈ (T.take j).flatten ++ row.take i, Z[d]? = some (s d))
        ⟨v3, v4, Z, rfl, S1, hfl, hZ, by simpa using hd⟩ (fun i σ H' _ ⟨_, _, _, _, S, _⟩ => SqT.of (S _ _ hrt)) ?_ ?_⟩
      · rintro i x σ H2 H3 hi ⟨w3, w4, Y, rfl, S2, hfl2, hY, hd2⟩ ⟨t, x1, x2, rfl, nt, rfl, e1, e2⟩
        cases e1
        obtain ⟨d, hdr, rfl⟩ := iv_of e2
        have hil : i < row.length := (List.getElem?_eq_some_iff.mp hdr).1
        have dlt : d < 2 * E.length := G.pl.lt hrm (List.mem_of_getElem? hdr)
        have s3 : Same H2 (upd H2 t (.tup [.int (i : Nat), .int (d : Nat)])) := same_new nt
        refine ⟨t, _, rfl, SqT.of upd_same, rfl, _, _, rfl, _, _, rfl, rfl, ?_⟩
        refine ⟨_, rfl, _, rfl, _, _, rfl, rfl, _, rfl, _, (iv row).length, rfl, .inr ⟨_, SqT.of (s3 _ _ (S2 _ _ hrt)), rfl⟩, _, _, rfl, rfl, ?_, r, _, _, V.int (s d : Nat), rfl, rfl, SqT.of (s3 _ _ (S2 _ _ hrt)), ?_, ?_⟩
        · show (0 : Int) < ((iv row).length : Nat)
          rw [iv_len]
          omega
        · rw [iv_len, show ((i : Nat) : Int) + 1 = ((i + 1 : Nat) : Int) by omega, mod_nat]
          exact atI_nat (iv_get (cyc_ix hcy hdr))
        refine ⟨_, rfl, _, rfl, fl, _, _, d, rfl, rfl, s3 _ _ hfl2, ixN_nat (by rw [iv_len, hY]; exact dlt), ?_⟩
        refine ⟨_, _, Y.set d (s d), rfl, Same.put (S2.trans s3) nfl, by rw [upd_same, iv_set], by rw [List.length_set, hY], fun c hc => ?_⟩
        by_cases hcd : d = c
        · rw [← hcd]
          exact List.getElem?_set_self (by rw [hY]; exact dlt)
        · rw [List.getElem?_set_ne hcd]
          refine hd2 c ?_
          rw [List.take_add_one, hdr] at hc
          rcases List.mem_append.mp hc with q | q
          · exact List.mem_append_left _ q
          · rcases List.mem_append.mp q with q | q
            · exact List.mem_append_right _ q
            · exact absurd (List.mem_singleton.mp q).symm hcd
      · rintro σ H2 ⟨w3, w4, Y, rfl, S2, hfl2, hY, hd2⟩
        refine ⟨_, _, _, Y, rfl, S2, hfl2, hY, fun d hd => hd2 d ?_⟩
        rw [List.take_add_one, hrow, List.flatten_append] at hd
        rw [iv_len, List.take_length]
        simpa using hd
    · -- the list that it hands back
      rintro σ H1 ⟨v2, v3, v4, Z, rfl, S1, hfl, hZ, hd⟩
      rw [List.length_map, hT.1, List.take_length] at hd
      have all : ∀ d, d < 2 * E.length → Z[d]? = some (s d) := fun d h => hd d (G.pl.pm.mem_iff.mpr (List.mem_range.mpr h))
      refine ⟨_, rfl, _, _, rfl, .inl ⟨_, SqL.of hfl, rfl⟩, ((iv Z).length : Int), rfl, by omega, by rw [iv_len, hZ]; omega, fun D hD => ?_⟩
      refine lc_range (lo := 0) (n := _) (fun i H' => Same H1 H' ∧ H' D = some (.lst (iv ((List.range i).map (ph s))))) ⟨same_new hD, upd_same⟩ (fun i H' hi ⟨S2, hDl⟩ => ?_) fun H' ⟨S2, hDl⟩ => ?_
      · have hi : i < 2 * E.length := by
          rw [iv_len, hZ] at hi
          omega
        refine ⟨rfl, ?_⟩
        refine ⟨_, rfl, _, rfl, _, _, rfl, rfl, fl, iv Z, _, V.int (ph s i : Nat), rfl, rfl, SqL.of (S2 _ _ hfl), ?_, _, hDl, ?_, Same.put S2 hD, ?_⟩
        · rw [Int.zero_add, xor_rv]
          exact atI_nat (iv_get (all _ (rv_lt hi)))
        · rw [iv_len, List.length_map, List.length_range]
          exact small1000 (by omega)
        · rw [upd_same, List.range_succ, List.map_append, iv_app]
          rfl
      · have e : ((iv Z).length : Int).toNat = 2 * E.length := by
          rw [iv_len, hZ]
          omega
        rw [e] at hDl
        exact q H' D (S1.trans S2) (S1.free hD) hDl
end
end Wk
namespace Wk
open PySem L2 Rl Mt
abbrev dk (f : Nat → V) (l : List Nat) : List (Key × V) := l.map fun d : Nat => ((Sum.inl (d : Int) : Key), f d)
abbrev sk : List Nat → List (Key × V) := dk fun _ => V.bl true
theorem key_ne {x d : Nat} (e : ¬ x = d) : ¬ ((Sum.inl (x : Int) : Key) = Sum.inl (d : Int)) := fun q => e (by
  have := Sum.inl.inj q
  omega)
theorem dk_in {f : Nat → V} : ∀ {l : List Nat} {d : Nat}, d ∈ l → valV (dk f l) (Sum.inl (d : Int) : Key) = some (f d)
  | [], d, h => by simp at h
  | x :: l, d, h => by
    by_cases e : x = d
    · subst e
      exact valV_pos (p := ((Sum.inl (x : Int) : Key), f x)) rfl
    · have hd : d ∈ l := by
        rcases List.mem_cons.mp h with q | q
        · exact absurd q.symm e
        · exact q
      rw [dk, List.map_cons, valV_neg (p := ((Sum.inl (x : Int) : Key), f x)) (key_ne e)]
      exact dk_in hd
theorem dk_not {f : Nat → V} : ∀ {l : List Nat} {d : Nat}, d ∉ l → valV (dk f l) (Sum.inl (d : Int) : Key) = none
  | [], d, _ => rfl
  | x :: l, d, h => by
    have e : ¬ x = d := fun q => h (by rw [q]; exact List.mem_cons_self ..)
    rw [dk, List.map_cons, valV_neg (p := ((Sum.inl (x : Int) : Key), f x)) (key_ne e)]
    exact dk_not fun q => h (List.mem_cons_of_mem _ q)
theorem dk_put {f : Nat → V} {l : List Nat} {d : Nat} (h : d ∉ l) : putK (dk f l) (Sum.inl (d : Int) : Key) (f d) = dk f (l ++ [d]) := by
  rw [putK_new _ (dk_not h)]
  show _ = List.map _ (l ++ [d])
  rw [List.map_append]
  rfl
theorem dk_len {f : Nat → V} {l : List Nat} : (dk f l).length = l.length := List.length_map ..
def Keeps (H H' : Hp) : Prop := ∀ b xs, H b = some (.tup xs) → H' b = some (.tup xs)
theorem Keeps.same {H H' : Hp} (s : Same H H') : Keeps H H' := fun b _ e => s b _ e
theorem Keeps.refl (H : Hp) : Keeps H H := fun _ _ e => e
theorem Keeps.trans {H H1 H2 : Hp} (a : Keeps H H1) (b : Keeps H1 H2) : Keeps H H2 := fun c xs e => b c xs (a c xs e)
theorem Keeps.lst {H : Hp} {p : Addr} {xs : List V} {o : HO} (h : H p = some (.lst xs)) : Keeps H (upd H p o) := fun b ys e => by
  rw [upd_ne (ne_of e h (by intro z; cases z))]
  exact e
theorem Keeps.dct {H : Hp} {p : Addr} {xs : List (Key × V)} {o : HO} (h : H p = some (.dK xs)) : Keeps H (upd H p o) := fun b ys e => by
  rw [upd_ne (ne_of e h (by intro z; cases z))]
  exact e
theorem Tups.keep {H H' : Hp} {as : List Addr} {F : List (List Nat)} (t : Tups H as F) (s : Keeps H H') : Tups H' as F := ⟨t.1, fun i a f h1 h2 => s _ _ (t.2 i a f h1 h2)⟩
section
variable {P : Program} {w : World} {K : PySem.W.Frag} {mg : Str → Option Value} {base : Heap}
theorem path_next {f : Nat → Nat} {F r : List Nat} {y i : Nat} (h : Path f (F ++ y :: r) i) : f y = r.headD i := by
  have h2 := (path_append.mp h).2
  cases r with
  | nil => exact h2
  | cons b r => exact h2.1
theorem len_le_sum : ∀ {L : List (List Nat)}, (∀ c ∈ L, 0 < c.length) → L.length ≤ (L.map List.length).sum
  | [], _ => Nat.le_refl _
  | c :: L, h => by
    have h1 := h c (by simp)
    have h2 := len_le_sum (L := L) fun d hd => h d (List.mem_cons_of_mem _ hd)
    simp only [List.length_cons, List.map_cons, List.sum_cons]
    omega
abbrev facesL (E : List (Nat × Nat)) (s : Nat → Nat) : List (List Nat) := facesF (ph s) (2 * E.length)
def spFaces (C : Addr) : Sp := fun vs H Q _ => ∃ (p : Addr) (E : List (Nat × Nat)) (T : List (List Nat)) (s : Nat → Nat), vs = [.ref p] ∧ Good C H p E T s ∧
  ∀ H' q ts, Same H H' → H q = none → H' q = some (.lst (ts.map V.ref)) → Tups H' ts (facesL E s) → Q (.ref q) H'
theorem scF : FnScope ["plane", "after", "seen", "found", "start", "face", "dart"] ["plane"] (defScope sFaces) := ⟨rfl, rfl, rfl, by decide +kernel, rfl, by decide +kernel, by decide +kernel⟩
theorem ok_faces {f fN C : Addr} {fd fdN : FuncData} {k : Nat} (F : Fun K "faces" "faces" sFaces f fd) (FN : Fun K "next_darts" "next_darts" sNext fN fdN) (bN : Binds K fdN ["plane"] []) (gN : mg "next_darts" = some (.ref fN)) (T' : Txt K mg C) :
    FnOk P w K mg base CX0 (k + 2) f fd ["plane"] (spFaces C) := by
  have GN : FnOk P w K mg base CX0 (k + 1) fN fdN ["plane"] (spNext C) := ok_next FN T'
  refine F.ok scF (fun vs H Q E h => ?_) (fun cdv A outer s H vs Q E hr h => ?_)
  · obtain ⟨p, _, _, _, rfl, _⟩ := h
    rfl
  · obtain ⟨p, E, T, s, rfl, G, q⟩ := h
    have hu := hu_of hr
    refine ⟨_, pss_cons (ps_if (pt_cmpR op_eq (pe_callB call_len (by rfl) T'.len PySem.boot_len (pa_cons (pe_fld (pv 0) rfl) pa_nil)) pe_int (nomark _)) (pss_one (ps_ret (pe_lst (pa_cons (pe_tup pa_nil) pa_nil)))) pss_nil)
      (pss_cons (ps_set (i := 1) scF.nd rfl (.inl rfl) (pe_call GN hr (by rfl) gN FN.kp bN .nil pass0 (pa_cons (pv 0) pa_nil)))
      (pss_cons (ps_set (i := 2) scF.nd rfl (.inl rfl) pe_dnewK)
      (pss_cons (ps_set (i := 3) scF.nd rfl (.inl rfl) (pe_lst pa_nil))
      (pss_cons (ps_for PassesOwn.never rfl (pi_range1 rfl T'.range (pa_cons (pe_callB call_len (by rfl) T'.len PySem.boot_len (pa_cons (pv 1) pa_nil)) pa_nil)) (pg_name (i := 4) scF.nd rfl (.inl rfl))
        (pss_cons (ps_if (pt_cmp (pc_din hu (pv 4) (pv 2))) (pss_one ps_continue) pss_nil)
        (pss_cons (ps_set (i := 5) scF.nd rfl (.inl rfl) (pe_lst pa_nil))
        (pss_cons (ps_set (i := 6) scF.nd rfl (.inl rfl) (pv 4))
        (pss_cons (ps_while PassesOwn.never (pt_cmp (pc_dnotin hu (pv 6) (pv 2)))
          (pss_cons (ps_dput hu (pv 2) (pv 6) pe_bl rfl)
          (pss_cons (ps_expr (pe_bm PySem.F.plainAttrs_list PySem.F.slot_list_append PySem.F.type_list_append mt_append (pv 5) (pa_cons (pv 6) pa_nil)))
          (pss_one (ps_set (i := 6) scF.nd rfl (.inl rfl) (pe_ix ix_list (pv 1) (pv 6) (fun _ _ => rfl)))))))
        (pss_one (ps_expr (pe_bm PySem.F.plainAttrs_list PySem.F.slot_list_append PySem.F.type_list_append mt_append (pv 3) (pa_cons (pe_callTy call_tuple_of (by rfl) T'.tuple (by decide +kernel) (pa_cons (pv 5) pa_nil)) pa_nil)))))))))
      (pss_one (ps_ret (pv 3))))))), ?_⟩
    obtain ⟨dx, ae, at_, as, rs, hp, hae, hat, hE, hT⟩ := G.at_
    have hme := G.me
    have lE : as.length = E.length := by
      have := hE.1
      simpa using this
    refine ⟨_, rfl, p, C, dx, _, _, rfl, hp, T'.cl, T'.nE, flds_edges _ _ _, _, as.length, rfl, .inr ⟨_, SqT.of hae, by simp⟩, rfl, _, rfl, ite2 (fun e => ?_) (fun e => ?_)⟩
    · have e0 : E.length = 0 := by
        have : (as.length : Int) = 0 := V.int.inj (of_decide_eq_true e)
        omega
      refine ⟨by show 0 ≤ sizeLine; decide, fun t nt => ⟨by show 1 ≤ sizeLine; decide, fun l nl => ?_⟩⟩
      have s1 : Same H (upd H t (.tup [])) := same_new nt
      refine q _ l [t] (s1.trans (same_new nl)) (s1.free nl) upd_same ⟨?_, fun i a g h1 h2 => ?_⟩
      · show 1 = (facesF (ph s) (2 * E.length)).length
        rw [e0]
        rfl
      · have hF : facesF (ph s) (2 * E.length) = [[]] := by
          rw [e0]
          rfl
        rw [show facesL E s = [[]] from hF] at h2
        match i, h1, h2 with
        | 0, h1, h2 =>
          cases h1
          cases h2
          rw [upd_ne (ne_new upd_same nl).symm]
          exact upd_same
        | i + 1, h1, _ => simp at h1
    · have hm : 0 < E.length := by
        rcases Nat.eq_zero_or_pos E.length with z | z
        · exact absurd (decide_eq_true (by rw [lE, z]; rfl)) e
        · exact z
      refine ⟨_, rfl, p, E, T, s, rfl, G, fun H1 af s1 naf haf => ?_⟩
      intro sn nsn
      refine ⟨Nat.zero_le _, fun fo nfo => ?_⟩
      have nfs : fo ≠ sn := ne_new upd_same nfo
      have nfo1 : H1 fo = none := by
        rw [upd_ne nfs] at nfo
        exact nfo
      have s2 : Same H1 (upd (upd H1 sn (.dK [])) fo (.lst [])) := (same_new nsn).trans (same_new nfo)
      obtain ⟨L, C0, _⟩ := G.pl.part
      have hlen : ((iv (afterL E s)).length : Int).toNat = 2 * E.length := by
        rw [iv_len, List.length_map, List.length_range]
        omega
      refine ⟨_, rfl, _, _, rfl, .inl ⟨_, SqL.of (s2 _ _ haf), rfl⟩, ((iv (afterL E s)).length : Int), rfl, by omega, ?_, for_range (lo := 0) (n := _) (fun i σ H' => ∃ (v4 v5 v6 : Option V) (ts : List Addr), σ = [some (.ref p), some (.ref af), some (.ref sn), some (.ref fo), v4, v5, v6] ∧ Same H1 H' ∧ H' sn = some (.dK (sk (fl (ph s) (2 * E.length) i).flatten)) ∧ H' fo = some (.lst (ts.map V.ref)) ∧ Tups H' ts (fl (ph s) (2 * E.length) i))
        ⟨none, none, none, [], rfl, s2, by rw [upd_ne nfs.symm, upd_same]; rfl, upd_same, Tups.nil⟩ ?_ ?_⟩
      · rw [iv_len, List.length_map, List.length_range]
        omega
      · rintro i σ H2 hi ⟨v4, v5, v6, ts, rfl, S, hsn, hfo, hts⟩
        rw [hlen] at hi
        have e0i : ((0 : Int) + (i : Int)) = (i : Int) := Int.zero_add _
        have nsf : sn ≠ fo := ne_of hsn hfo (by intro z; cases z)
        show tSeq _ _ _ (List.set [some (.ref p), some (.ref af), some (.ref sn), some (.ref fo), v4, v5, v6] 4 (some (.int ((0 : Int) + (i : Nat))))) H2
        rw [e0i]
        refine ⟨_, rfl, _, rfl, sn, _, rfl, DGet.k (k := Sum.inl (i : Int)) hsn, _, rfl, ?_⟩
        by_cases hin : i ∈ (fl (ph s) (2 * E.length) i).flatten
        · rw [dk_in hin]
          refine iteT ?_
          have e1 : fl (ph s) (2 * E.length) (i + 1) = fl (ph s) (2 * E.length) i := by simp only [fl, if_pos hin]
          show ∃ (v4 v5 v6 : Option V) (ts : List Addr), _
          rw [e1]
          exact ⟨_, _, _, ts, rfl, S, hsn, hfo, hts⟩
        · rw [dk_not hin]
          refine iteF ?_
          obtain ⟨r, er, hpa, hnd, hdis⟩ := cy_ok C0 hi hin
          have e1 : fl (ph s) (2 * E.length) (i + 1) = fl (ph s) (2 * E.length) i ++ [i :: r] := by simp only [fl, if_neg hin, er]
          have hlen2 := nodup_len hnd fun x hx => (hdis x hx).2
          have hfl := fl_nd C0 (i := i) (by omega)
          have hgl := nodup_len hfl.1 hfl.2
          refine ⟨Nat.zero_le _, fun fa nfa => ⟨_, rfl, ?_⟩⟩
          have nas : fa ≠ sn := ne_new hsn nfa
          have nao : fa ≠ fo := ne_new hfo nfa
          have s3 : Same H2 (upd H2 fa (.lst [])) := same_new nfa
          refine ⟨fun m σ H' => ∃ (c rest : List Nat), c ++ rest = i :: r ∧ m = rest.length ∧ σ = [some (.ref p), some (.ref af), some (.ref sn), some (.ref fo), some (.int (i : Nat)), some (.ref fa), some (.int (rest.headD i : Nat))] ∧
              Same H1 H' ∧ Tups H' ts (fl (ph s) (2 * E.length) i) ∧ H' sn = some (.dK (sk ((fl (ph s) (2 * E.length) i).flatten ++ c))) ∧ H' fo = some (.lst (ts.map V.ref)) ∧ H' fa = some (.lst (iv c)),
            ⟨_, [], i :: r, rfl, rfl, rfl, S.trans s3, hts.mono s3, by rw [List.append_nil]; exact s3 _ _ hsn, s3 _ _ hfo, upd_same⟩, ?_⟩
          rintro m σ H3 ⟨c, rest, ec, em, rfl, S3, ht3, hsn3, hfo3, hfa3⟩
          refine ⟨_, rfl, _, rfl, sn, _, rfl, DGet.k (k := Sum.inl ((rest.headD i : Nat) : Int)) hsn3, _, rfl, ?_⟩
          cases rest with
          | nil =>
            have hc : c = i :: r := by simpa using ec
            subst hc
            have hmem : ([] : List Nat).headD i ∈ (fl (ph s) (2 * E.length) i).flatten ++ i :: r := by simp
            rw [dk_in hmem]
            refine iteF ?_
            refine ⟨_, rfl, .inl ⟨rfl, _, SqL.of hfo3⟩, _, rfl, fa, iv (i :: r), rfl, .inl ⟨SqL.of hfa3, fun t nt => ?_⟩⟩
            have s4 : Same H3 (upd H3 t (.tup (iv (i :: r)))) := same_new nt
            have hfo4 := s4 _ _ hfo3
            refine ⟨fo, _, _, rfl, rfl, hfo4, ?_, ?_⟩
            · rw [List.length_map, ht3.1]
              refine small1000 ?_
              have h1 := (fl_inv C0 i (by omega))
              obtain ⟨A', B', I'⟩ := h1
              have h2 : (fl (ph s) (2 * E.length) i).length ≤ (fl (ph s) (2 * E.length) i).flatten.length := by
                rw [List.length_flatten]
                exact len_le_sum fun c hc => by
                  obtain ⟨a, r', e, _⟩ := I'.hd c hc
                  rw [e]
                  exact Nat.succ_pos _
              omega
            · show ∃ (v4 v5 v6 : Option V) (ts' : List Addr), _
              rw [e1]
              refine ⟨_, _, _, ts ++ [t], rfl, Same.put (S3.trans s4) nfo1, ?_, ?_, ?_⟩
              · rw [upd_ne nsf, s4 _ _ hsn3, List.flatten_append]
                simp
              · rw [upd_same, List.map_append]
                rfl
              · refine ((ht3.mono s4).keep (Keeps.lst hfo4)).snoc ?_
                have ntf : t ≠ fo := ne_new hfo3 nt
                rw [upd_ne ntf]
                exact upd_same
          | cons y rest =>
            have hy : y ∈ i :: r := by rw [← ec]; simp
            have hylt := (hdis y hy).2
            have hyc : y ∉ c := fun z => by
              have hnd' := hnd
              rw [← ec, List.nodup_append] at hnd'
              exact hnd'.2.2 y z y (by simp) rfl
            have hmem : y ∉ (fl (ph s) (2 * E.length) i).flatten ++ c := fun z => by
              rcases List.mem_append.mp z with z | z
              · exact (hdis y hy).1 z
              · exact hyc z
            have hnx : ph s y = rest.headD i := path_next (F := c) (by rw [ec]; exact hpa)
            have hcl : c.length + 1 ≤ 2 * E.length := by
              have := congrArg List.length ec
              simp only [List.length_append, List.length_cons] at this hlen2
              omega
            rw [show (y :: rest).headD i = y from rfl] at *
            rw [dk_not hmem]
            refine iteT ?_
            refine ⟨fun σ' H' => ∃ c' : List Nat, c' ++ rest = i :: r ∧ σ' = [some (.ref p), some (.ref af), some (.ref sn), some (.ref fo), some (.int (i : Nat)), some (.ref fa), some (.int (rest.headD i : Nat))] ∧
              Same H1 H' ∧ Tups H' ts (fl (ph s) (2 * E.length) i) ∧ H' sn = some (.dK (sk ((fl (ph s) (2 * E.length) i).flatten ++ c'))) ∧ H' fo = some (.lst (ts.map V.ref)) ∧ H' fa = some (.lst (iv c')),
              fun σ' H' ⟨c', h1, h2, h3⟩ => ⟨rest.length, by rw [em]; exact Nat.lt_succ_self _, c', rest, h1, rfl, h2, h3⟩, ?_⟩
            refine ⟨_, rfl, _, rfl, sn, _, rfl, DPut.k (k := Sum.inl ((y : Nat) : Int)) hsn3 ?_, ?_⟩
            · rw [dk_len, List.length_append]
              exact small1000 (by omega)
            rw [dk_put (f := fun _ => V.bl true) hmem]
            have kp1 : Keeps H3 (upd H3 sn (.dK (sk ((fl (ph s) (2 * E.length) i).flatten ++ c ++ [y])))) := Keeps.dct hsn3
            have hfa4 : (upd H3 sn (.dK (sk ((fl (ph s) (2 * E.length) i).flatten ++ c ++ [y])))) fa = some (.lst (iv c)) := by rw [upd_ne nas, hfa3]
            refine ⟨_, rfl, .inl ⟨rfl, _, SqL.of hfa4⟩, _, rfl, fa, _, _, rfl, rfl, hfa4, by rw [iv_len]; exact small1000 (by omega), ?_⟩
            have S4 : Same H1 (upd (upd H3 sn (.dK (sk ((fl (ph s) (2 * E.length) i).flatten ++ c ++ [y])))) fa (.lst (iv c ++ [.int (y : Nat)]))) := Same.put (Same.put S3 nsn) (S.free nfa)
            refine ⟨_, rfl, _, rfl, af, _, _, V.int (ph s y : Nat), rfl, rfl, SqL.of (S4 _ _ haf), ?_, ?_⟩
            · refine atI_nat (iv_get ?_)
              rw [List.getElem?_map, List.getElem?_range hylt]
              rfl
            · refine ⟨c ++ [y], by rw [← ec]; simp, by rw [hnx]; rfl, S4, (ht3.keep kp1).keep (Keeps.lst hfa4), ?_, ?_, ?_⟩
              · rw [upd_ne (Ne.symm nas), upd_same, List.append_assoc]
              · rw [upd_ne (Ne.symm nao), upd_ne (Ne.symm nsf), hfo3]
              · rw [upd_same, iv_app]
                rfl
      · rintro σ H2 ⟨v4, v5, v6, ts, rfl, S, hsn, hfo, hts⟩
        rw [hlen] at hts
        refine ⟨_, rfl, q H2 fo ts (s1.trans S) (s1.free nfo1) hfo ?_⟩
        show Tups H2 ts (facesF (ph s) (2 * E.length))
        rw [facesF_pos (by omega)]
        exact hts
end
end Wk
namespace Wk
open PySem L2 Rl Mt
theorem facesL_pm {E : List (Nat × Nat)} {T : List (List Nat)} {s : Nat → Nat} (h : Pl E T s) : (facesL E s).flatten.Perm (List.range (2 * E.length)) := by
  rcases Nat.eq_zero_or_pos E.length with e | e
  · have hF : facesL E s = [[]] := by
      show facesF (ph s) (2 * E.length) = [[]]
      rw [e]
      rfl
    rw [hF, e]
    exact List.Perm.refl _
  · exact (h.faces e).pm
theorem facesL_nd {E : List (Nat × Nat)} {T : List (List Nat)} {s : Nat → Nat} (h : Pl E T s) : (facesL E s).flatten.Nodup := (facesL_pm h).nodup_iff.mpr List.nodup_range
theorem facesL_lt {E : List (Nat × Nat)} {T : List (List Nat)} {s : Nat → Nat} (h : Pl E T s) {c : List Nat} {d : Nat} (hc : c ∈ facesL E s) (hd : d ∈ c) : d < 2 * E.length :=
  List.mem_range.mp ((facesL_pm h).mem_iff.mp (List.mem_flatten.mpr ⟨c, hc, hd⟩))
abbrev numsL (E : List (Nat × Nat)) (s : Nat → Nat) : List Nat := (List.range (2 * E.length)).map (nm (facesL E s))
abbrev joinsL (E : List (Nat × Nat)) (s : Nat → Nat) (n : Nat) : List (List Nat) := (List.range n).map fun e => pr (jn (facesL E s) e)
section
variable {P : Program} {w : World} {K : PySem.W.Frag} {mg : Str → Option Value} {base : Heap}
def spNums (C : Addr) : Sp := fun vs H Q _ => ∃ (p : Addr) (E : List (Nat × Nat)) (T : List (List Nat)) (s : Nat → Nat), vs = [.ref p] ∧ Good C H p E T s ∧
  ∀ H' q, Same H H' → H q = none → H' q = some (.lst (iv (numsL E s))) → Q (.ref q) H'
theorem scU : FnScope ["plane", "found", "number", "face", "dart"] ["plane"] (defScope sNums) := ⟨rfl, rfl, rfl, by decide +kernel, rfl, by decide +kernel, by decide +kernel⟩
theorem ok_nums {f fF C : Addr} {fd fdF : FuncData} {k : Nat} (F : Fun K "face_numbers" "face_numbers" sNums f fd) (gF : mg "faces" = some (.ref fF)) (kF : PySem.W.keepIn K (.ref fF) = true) (bF : Binds K fdF ["plane"] []) (GF : FnOk P w K mg base CX0 (k + 2) fF fdF ["plane"] (spFaces C)) (T' : Txt K mg C) :
    FnOk P w K mg base CX0 (k + 3) f fd ["plane"] (spNums C) := by
  refine F.ok scU (fun vs H Q E h => ?_) (fun cdv A outer s H vs Q E hr h => ?_)
  · obtain ⟨p, _, _, _, rfl, _⟩ := h
    rfl
  · obtain ⟨p, E, T, s, rfl, G, q⟩ := h
    refine ⟨_, pss_cons (ps_set (i := 1) scU.nd rfl (.inl rfl) (pe_op op_rep (pe_lst (pa_cons pe_int pa_nil)) (pe_op op_mul pe_int (pe_callB call_len (by rfl) T'.len PySem.boot_len (pa_cons (pe_fld (pv 0) rfl) pa_nil)))))
      (pss_cons (ps_for PassesOwn.never rfl (pi_enum (by rfl) T'.enum (pa_cons (pe_call GF hr (by rfl) gF kF bF .nil pass0 (pa_cons (pv 0) pa_nil)) pa_nil)) (pg_tup rfl (pgs_cons (pg_name (i := 2) scU.nd rfl (.inl rfl)) (pgs_cons (pg_name (i := 3) scU.nd rfl (.inl rfl)) pgs_nil)))
        (pss_one (ps_for PassesOwn.never rfl (pi_tup (pv 3)) (pg_name (i := 4) scU.nd rfl (.inl rfl))
          (pss_one (ps_asg (pv 2) (pg_sub (pv 1) (pv 4) set_list))))))
      (pss_one (ps_ret (pv 1)))), ?_⟩
    obtain ⟨dx, ae, at_, as, rs, hp, hae, hat, hE, hT⟩ := G.at_
    have hme := G.me
    have lE : as.length = E.length := by
      have := hE.1
      simpa using this
    refine ⟨by show 1 ≤ sizeLine; decide, fun l0 n0 => ?_⟩
    have s0 : Same H (upd H l0 (.lst [.int 0])) := same_new n0
    refine ⟨_, rfl, p, C, dx, _, _, rfl, s0 _ _ hp, T'.cl, T'.nE, flds_edges _ _ _, _, as.length, rfl, .inr ⟨_, SqT.of (s0 _ _ hae), by simp⟩, 2, _, rfl, rfl, .inl ⟨by decide, by decide⟩, ?_⟩
    refine ⟨l0, _, _, rfl, rfl, upd_same, by omega, by omega, ?_, fun fo nf => ?_⟩
    · show 1 * (2 * (as.length : Int)).toNat ≤ sizeLine
      rw [sizeLine_eq]
      omega
    have hz : (List.replicate (2 * (as.length : Int)).toNat [V.int 0]).flatten = iv (List.replicate (2 * E.length) 0) := by
      rw [lE, show (2 * (E.length : Int)).toNat = 2 * E.length by omega]
      simp [iv]
    rw [hz]
    have nfo : H fo = none := s0.free nf
    have s1 : Same H (upd (upd H l0 (.lst [.int 0])) fo (.lst (iv (List.replicate (2 * E.length) 0)))) := s0.trans (same_new nf)
    refine ⟨_, rfl, p, E, T, s, rfl, G.mono s1, fun H1 al ts s2 nal hal hts => ?_⟩
    have hfo1 := s2 _ _ (upd_same (H := upd H l0 (.lst [.int 0])) (a := fo) (o := .lst (iv (List.replicate (2 * E.length) 0))))
    have nd := facesL_nd G.pl
    have naf : al ≠ fo := fun e => by
      rw [e, upd_same] at nal
      cases nal
    refine ⟨al, _, rfl, SqL.of hal, for_it (walk_enum (K := K) (a := al) (xs := ts.map V.ref)) (fun j σ H' => ∃ (v2 v3 v4 : Option V) (Z : List Nat), σ = [some (.ref p), some (.ref fo), v2, v3, v4] ∧ Same H H' ∧ H' al = some (.lst (ts.map V.ref)) ∧ Tups H' ts (facesL E s) ∧ H' fo = some (.lst (iv Z)) ∧ Z.length = 2 * E.length ∧ ∀ d ∈ ((facesL E s).take j).flatten, Z[d]? = some (nm (facesL E s) d))
      ⟨none, none, none, _, rfl, s1.trans s2, hal, hts, hfo1, List.length_replicate .., by simp⟩ (fun j σ H' _ ⟨_, _, _, _, _, _, S, _⟩ => SqL.of S) ?_ ?_⟩
    · rintro j x σ H2 H3 hj ⟨v2, v3, v4, Z, rfl, S2, hal2, hts2, hfo2, hZ, hd⟩ ⟨t, x1, x2, rfl, nt, rfl, e1, e2⟩
      cases e1
      obtain ⟨a, ha, rfl⟩ := rf_of e2
      obtain ⟨c, hc, hac⟩ := hts2.at ha
      have s3 : Same H2 (upd H2 t (.tup [.int (j : Nat), .ref a])) := same_new nt
      refine ⟨t, _, rfl, SqT.of upd_same, rfl, _, _, rfl, _, _, rfl, rfl, ?_⟩
      refine ⟨.ref a, rfl, a, rfl, ⟨_, SqT.of (s3 _ _ hac)⟩, for_tup (K := K) (a := a) (xs := iv c) (fun i σ H' => ∃ (v4 : Option V) (Z : List Nat), σ = [some (.ref p), some (.ref fo), some (.int (j : Nat)), some (.ref a), v4] ∧ Same H H' ∧ H' al = some (.lst (ts.map V.ref)) ∧ Tups H' ts (facesL E s) ∧ H' fo = some (.lst (iv Z)) ∧ Z.length = 2 * E.length ∧ ∀ d ∈ ((facesL E s).take j).flatten ++ c.take i, Z[d]? = some (nm (facesL E s) d))
        ⟨v4, Z, rfl, S2.trans s3, s3 _ _ hal2, hts2.mono s3, s3 _ _ hfo2, hZ, by simpa using hd⟩ (fun i σ H' _ ⟨_, _, _, _, _, t4, _⟩ => SqT.of (t4.2 j a c ha hc)) ?_ ?_⟩
      · rintro i x σ H4 hi ⟨w4, Y, rfl, S4, hal4, hts4, hfo4, hY, hd4⟩
        obtain ⟨d, hdi, rfl⟩ := iv_of hi
        have hdc := List.mem_of_getElem? hdi
        have dlt := facesL_lt G.pl (List.mem_of_getElem? hc) hdc
        have hnm : nm (facesL E s) d = j := nm_eq nd hc hdc
        refine ⟨_, rfl, _, rfl, _, rfl, fo, _, _, d, rfl, rfl, hfo4, ixN_nat (by rw [iv_len, hY]; exact dlt), ?_⟩
        refine ⟨_, Y.set d j, rfl, Same.put S4 nfo, by rw [upd_ne naf]; exact hal4, hts4.keep (Keeps.lst hfo4), by rw [upd_same, iv_set], by rw [List.length_set, hY], fun b hb => ?_⟩
        by_cases hcd : d = b
        · rw [← hcd, hnm]
          exact List.getElem?_set_self (by rw [hY]; exact dlt)
        · rw [List.getElem?_set_ne hcd]
          refine hd4 b ?_
          rw [List.take_add_one, hdi] at hb
          rcases List.mem_append.mp hb with q | q
          · exact List.mem_append_left _ q
          · rcases List.mem_append.mp q with q | q
            · exact List.mem_append_right _ q
            · exact absurd (List.mem_singleton.mp q).symm hcd
      · rintro σ H4 ⟨w4, Y, rfl, S4, hal4, hts4, hfo4, hY, hd4⟩
        refine ⟨_, _, _, Y, rfl, S4, hal4, hts4, hfo4, hY, fun d hd => hd4 d ?_⟩
        rw [List.take_add_one, hc, List.flatten_append] at hd
        rw [iv_len, List.take_length]
        simpa using hd
    · rintro σ H2 ⟨v2, v3, v4, Z, rfl, S2, hal2, hts2, hfo2, hZ, hd⟩
      rw [List.length_map, hts2.1, List.take_length] at hd
      have eZ : Z = numsL E s := by
        refine List.ext_getElem? fun d => ?_
        rcases Nat.lt_or_ge d (2 * E.length) with h | h
        · rw [hd d ((facesL_pm G.pl).mem_iff.mpr (List.mem_range.mpr h)), List.getElem?_map, List.getElem?_range h]
          rfl
        · rw [List.getElem?_eq_none (by omega), List.getElem?_eq_none (by rw [List.length_map, List.length_range]; exact h)]
      subst eZ
      exact ⟨_, rfl, q H2 fo S2 nfo hfo2⟩
def spDual (C : Addr) : Sp := fun vs H Q _ => ∃ (p : Addr) (E : List (Nat × Nat)) (T : List (List Nat)) (s : Nat → Nat), vs = [.ref p] ∧ Good C H p E T s ∧
  ∀ H' q ts, Same H H' → H q = none → H' q = some (.lst (ts.map V.ref)) → Tups H' ts (joinsL E s E.length) → Q (.ref q) H'
theorem scD : FnScope ["plane", "numbers", "at"] ["plane"] (defScope sDual) := ⟨rfl, rfl, rfl, by decide +kernel, rfl, by decide +kernel, by decide +kernel⟩
theorem ok_dual {f fU C : Addr} {fd fdU : FuncData} {k : Nat} (F : Fun K "dual_edges" "dual_edges" sDual f fd) (gU : mg "face_numbers" = some (.ref fU)) (kU : PySem.W.keepIn K (.ref fU) = true) (bU : Binds K fdU ["plane"] []) (GU : FnOk P w K mg base CX0 (k + 3) fU fdU ["plane"] (spNums C)) (T' : Txt K mg C) :
    FnOk P w K mg base CX0 (k + 4) f fd ["plane"] (spDual C) := by
  refine F.ok scD (fun vs H Q E h => ?_) (fun cdv A outer s H vs Q E hr h => ?_)
  · obtain ⟨p, _, _, _, rfl, _⟩ := h
    rfl
  · obtain ⟨p, E, T, s, rfl, G, q⟩ := h
    refine ⟨_, pss_cons (ps_set (i := 1) scD.nd rfl (.inr rfl) (pe_call GU hr (by rfl) gU kU bU .nil pass0 (pa_cons (pv 0) pa_nil)))
      (pss_one (ps_ret (pe_lc (own := [("at", 2)]) (g := gName 2) (by rfl) scD.nd (pi_range1 rfl T'.range (pa_cons (pe_callB call_len (by rfl) T'.len PySem.boot_len (pa_cons (pe_fld (pv 0) rfl) pa_nil)) pa_nil))
        (blkOk_by (N := ["plane", "numbers", "at"]) (sc := defScope sDual) (by decide +kernel)) (fun _ _ _ _ _ => pg_name (i := 2) scD.nd rfl (.inl rfl)) (fun _ _ _ _ _ => pts_nil)
        (fun _ _ _ _ _ => pe_tup (pa_cons (pe_ix (r := rIxL K) ix_list (pv 1) (pe_op op_mul pe_int (pv 2)) (fun _ _ => rfl)) (pa_cons (pe_ix (r := rIxL K) ix_list (pv 1) (pe_op op_add (pe_op op_mul pe_int (pv 2)) pe_int) (fun _ _ => rfl)) pa_nil)))))), ?_⟩
    refine ⟨_, rfl, p, E, T, s, rfl, G, fun H1 nu s1 nnu hnu => ?_⟩
    obtain ⟨dx, ae, at_, as, rs, hp, hae, hat, hE, hT⟩ := (G.mono s1).at_
    have hme := G.me
    have lE : as.length = E.length := by
      have := hE.1
      simpa using this
    refine ⟨_, rfl, p, C, dx, _, _, rfl, hp, T'.cl, T'.nE, flds_edges _ _ _, _, as.length, rfl, .inr ⟨_, SqT.of hae, by simp⟩, (as.length : Int), rfl, by omega, by omega, fun D hD => ?_⟩
    have hn : (as.length : Int).toNat = E.length := by omega
    refine lc_range (lo := 0) (n := _) (fun i H' => ∃ ts : List Addr, Same H1 H' ∧ H' D = some (.lst (ts.map V.ref)) ∧ Tups H' ts (joinsL E s i)) ⟨[], same_new hD, upd_same, Tups.nil⟩ (fun i H' hi ⟨ts, S2, hDl, hts⟩ => ?_) fun H' ⟨ts, S2, hDl, hts⟩ => ?_
    · rw [hn] at hi
      have g : ∀ d, d < 2 * E.length → (numsL E s)[d]? = some (nm (facesL E s) d) := fun d h => by
        rw [List.getElem?_map, List.getElem?_range h]
        rfl
      refine ⟨rfl, ?_⟩
      refine ⟨_, rfl, _, rfl, 2, _, rfl, rfl, .inl ⟨by decide, by decide⟩, nu, _, _, V.int (nm (facesL E s) (2 * i) : Nat), rfl, rfl, SqL.of (S2 _ _ hnu), ?_,
        _, rfl, _, rfl, 2, _, rfl, rfl, .inl ⟨by decide, by decide⟩, _, _, rfl, rfl, nu, _, _, V.int (nm (facesL E s) (2 * i + 1) : Nat), rfl, rfl, SqL.of (S2 _ _ hnu), ?_, by show 2 ≤ sizeLine; decide, fun t nt => ?_⟩
      · rw [Int.zero_add, show (2 : Int) * ((i : Nat) : Int) = ((2 * i : Nat) : Int) by omega]
        exact atI_nat (iv_get (g _ (by omega)))
      · rw [Int.zero_add, show (2 : Int) * ((i : Nat) : Int) + 1 = ((2 * i + 1 : Nat) : Int) by omega]
        exact atI_nat (iv_get (g _ (by omega)))
      · have s4 : Same H' (upd H' t (.tup [V.int (nm (facesL E s) (2 * i) : Nat), V.int (nm (facesL E s) (2 * i + 1) : Nat)])) := same_new nt
        have hD4 := s4 _ _ hDl
        refine ⟨_, hD4, ?_, ts ++ [t], Same.put (S2.trans s4) hD, ?_, ?_⟩
        · rw [List.length_map, hts.1, List.length_map, List.length_range]
          exact small1000 (by omega)
        · rw [upd_same, List.map_append]
          rfl
        · rw [show joinsL E s (i + 1) = joinsL E s i ++ [pr (jn (facesL E s) i)] by simp [joinsL, List.range_succ]]
          refine ((hts.mono s4).keep (Keeps.lst hD4)).snoc ?_
          have ntD : t ≠ D := ne_new hDl nt
          rw [upd_ne ntD]
          exact upd_same
    · rw [hn] at hts
      exact q H' D ts (s1.trans S2) (s1.free hD) hDl hts
end
end Wk
namespace Wk
open PySem L2 Rl Mt
def Lsts (H : Hp) (as : List Addr) (F : List (List Nat)) : Prop := as.length = F.length ∧ ∀ (i : Nat) (a : Addr) (f : List Nat), as[i]? = some a → F[i]? = some f → H a = some (.lst (iv f))
theorem Lsts.mono {H H' : Hp} {as : List Addr} {F : List (List Nat)} (t : Lsts H as F) (s : ∀ a ∈ as, ∀ o, H a = some o → H' a = some o) : Lsts H' as F := ⟨t.1, fun i a f h1 h2 => s a (List.mem_of_getElem? h1) _ (t.2 i a f h1 h2)⟩
theorem Lsts.off {H : Hp} {as : List Addr} {F : List (List Nat)} {p : Addr} {o : HO} (t : Lsts H as F) (h : p ∉ as) : Lsts (upd H p o) as F := t.mono fun a ha x e => by
  rw [upd_ne (fun z => h (by rw [← z]; exact ha))]
  exact e
theorem Lsts.at {H : Hp} {as : List Addr} {F : List (List Nat)} (t : Lsts H as F) {i : Nat} {f : List Nat} (h : F[i]? = some f) : ∃ a, as[i]? = some a ∧ H a = some (.lst (iv f)) := by
  have hi := (List.getElem?_eq_some_iff.mp h).1
  have h2 : as[i]? = some (as[i]'(by rw [t.1]; exact hi)) := List.getElem?_eq_getElem _
  exact ⟨_, h2, t.2 i _ f h2 h⟩
theorem Lsts.put {H : Hp} {as : List Addr} {F : List (List Nat)} (t : Lsts H as F) (nd : as.Nodup) {i : Nat} {a : Addr} {f : List Nat} (ha : as[i]? = some a) : Lsts (upd H a (.lst (iv f))) as (F.set i f) := by
  refine ⟨by rw [List.length_set]; exact t.1, fun j b g h1 h2 => ?_⟩
  by_cases e : i = j
  · subst e
    rw [ha] at h1
    have hl : i < F.length := by rw [← t.1]; exact (List.getElem?_eq_some_iff.mp ha).1
    rw [List.getElem?_set_self hl] at h2
    cases h1
    cases h2
    exact upd_same
  · rw [List.getElem?_set_ne e] at h2
    have : b ≠ a := fun z => by
      subst z
      exact e (nd_ix nd ha h1)
    rw [upd_ne this]
    exact t.2 j b g h1 h2
def InRow (R : List (List Nat)) (u v : Nat) : Prop := ∃ row, R[u]? = some row ∧ v ∈ row
theorem InRow.put {R : List (List Nat)} {u v i y : Nat} {f : List Nat} (h : InRow R u v) (hf : R[i]? = some f) : InRow (R.set i (f ++ [y])) u v := by
  obtain ⟨row, h1, h2⟩ := h
  by_cases e : i = u
  · subst e
    rw [hf] at h1
    cases h1
    exact ⟨_, List.getElem?_set_self (List.getElem?_eq_some_iff.mp hf).1, List.mem_append_left _ h2⟩
  · exact ⟨row, by rw [List.getElem?_set_ne e]; exact h1, h2⟩
theorem InRow.new {R : List (List Nat)} {i y : Nat} {f : List Nat} (hf : R[i]? = some f) : InRow (R.set i (f ++ [y])) i y :=
  ⟨_, List.getElem?_set_self (List.getElem?_eq_some_iff.mp hf).1, by simp⟩
section
variable {P : Program} {w : World} {K : PySem.W.Frag} {mg : Str → Option Value} {base : Heap}
def spReach (C : Addr) : Sp := fun vs H Q _ => ∃ (p : Addr) (E : List (Nat × Nat)) (T : List (List Nat)) (s : Nat → Nat), vs = [.ref p] ∧ Good C H p E T s ∧
  ∀ H' q kvs, Same H H' → H' q = some (.dK kvs) → kvs.length = T.length → Q (.ref q) H'
theorem scR : FnScope ["plane", "near", "u", "v", "found", "waiting", "other", "_"] ["plane"] (defScope sReach) := ⟨rfl, rfl, rfl, by decide +kernel, rfl, by decide +kernel, by decide +kernel⟩
structure Srch (H : Hp) (ne fo wa : Addr) (ns : List Addr) (R : List (List Nat)) (n : Nat) (H' : Hp) (k wt : List Nat) : Prop where
  sm : Same H H'
  hne : H' ne = some (.lst (ns.map V.ref))
  hR : Lsts H' ns R
  hfo : H' fo = some (.dK (sk k))
  hwa : H' wa = some (.lst (iv wt))
  nd : k.Nodup
  lt : ∀ x ∈ k, x < n
  z : 0 ∈ k
  sub : ∀ x ∈ wt, x ∈ k
theorem ok_reach {f C : Addr} {fd : FuncData} {k : Nat} (F : Fun K "_reached" "_reached" sReach f fd) (T' : Txt K mg C) : FnOk P w K mg base CX0 (k + 1) f fd ["plane"] (spReach C) := by
  refine F.ok scR (fun vs H Q E h => ?_) (fun cdv A outer s H vs Q E hr h => ?_)
  · obtain ⟨p, _, _, _, rfl, _⟩ := h
    rfl
  · obtain ⟨p, E, T, s, rfl, G, q⟩ := h
    have hu := hu_of hr
    refine ⟨_, pss_cons (ps_setLc (i := 1) (own := [("_", 7)]) (g := gName 7) (by rfl) scR.nd rfl rfl (sw_true rfl rfl rfl (by decide +kernel)) (pi_range1 rfl T'.range (pa_cons (pe_fld (pv 0) rfl) pa_nil))
        (blkOk_by (N := ["plane", "near", "u", "v", "found", "waiting", "other", "_"]) (sc := defScope sReach) (by decide +kernel)) (fun _ _ _ _ _ => pg_name (i := 7) scR.nd rfl (.inl rfl)) (fun _ _ _ _ _ => pts_nil) (fun _ _ _ _ _ => pe_lst pa_nil))
      (pss_cons (ps_for PassesOwn.never rfl (pi_tup (pe_fld (pv 0) rfl)) (pg_tup rfl (pgs_cons (pg_name (i := 2) scR.nd rfl (.inl rfl)) (pgs_cons (pg_name (i := 3) scR.nd rfl (.inl rfl)) pgs_nil)))
        (pss_cons (ps_expr (pe_bm PySem.F.plainAttrs_list PySem.F.slot_list_append PySem.F.type_list_append mt_append (pe_ix ix_list (pv 1) (pv 2) (fun _ _ => rfl)) (pa_cons (pv 3) pa_nil)))
        (pss_one (ps_expr (pe_bm PySem.F.plainAttrs_list PySem.F.slot_list_append PySem.F.type_list_append mt_append (pe_ix ix_list (pv 1) (pv 3) (fun _ _ => rfl)) (pa_cons (pv 2) pa_nil))))))
      (pss_cons (ps_set (i := 4) scR.nd rfl (.inl rfl) (pe_disp (pps_cons pe_int pe_bl pps_nil) (by rfl) (by rfl) (fun z => by cases z) (by decide)))
      (pss_cons (ps_set (i := 5) scR.nd rfl (.inl rfl) (pe_lst (pa_cons pe_int pa_nil)))
      (pss_cons (ps_while PassesOwn.never (pt_truth (pv 5) (by intro _; rfl))
        (pss_one (ps_for PassesOwn.never rfl (pi_list (pe_ix ix_list (pv 1) (pe_bm0 PySem.F.plainAttrs_list PySem.F.slot_list_pop PySem.F.type_list_pop mt_pop (pv 5)) (fun _ _ => rfl))) (pg_name (i := 6) scR.nd rfl (.inl rfl))
          (pss_one (ps_if (pt_cmp (pc_dnotin hu (pv 6) (pv 4)))
            (pss_cons (ps_dput hu (pv 4) (pv 6) pe_bl rfl)
            (pss_one (ps_expr (pe_bm PySem.F.plainAttrs_list PySem.F.slot_list_append PySem.F.type_list_append mt_append (pv 5) (pa_cons (pv 6) pa_nil))))) pss_nil)))))
      (pss_one (ps_ret (pv 4))))))), ?_⟩
    obtain ⟨dx, ae, at_, as, rs, hp, hae, hat, hE, hT⟩ := G.at_
    have hme := G.me
    have hnv := G.nv
    have hn1 := G.pl.n1
    have lE : as.length = E.length := by
      have := hE.1
      simpa using this
    refine ⟨_, rfl, p, C, dx, _, _, rfl, hp, T'.cl, T'.nC, flds_count _ _ _, (T.length : Int), rfl, by omega, by omega, fun ne hne => ?_⟩
    have hn : (T.length : Int).toNat = T.length := by omega
    refine lc_range (lo := 0) (n := _) (fun i H' => ∃ ns : List Addr, ns.length = i ∧ Same H H' ∧ H' ne = some (.lst (ns.map V.ref)) ∧ ns.Nodup ∧ ne ∉ ns ∧ ∀ a ∈ ns, H a = none ∧ H' a = some (.lst (iv []))) ⟨[], rfl, same_new hne, upd_same, List.nodup_nil, by simp, by simp⟩ (fun i H' hi ⟨ns, hl, S1, hD, nd, nn, hns⟩ => ?_) fun H1 ⟨ns, hl, S1, hD, nd, nn, hns⟩ => ?_
    · rw [hn] at hi
      refine ⟨rfl, ?_⟩
      refine ⟨Nat.zero_le _, fun l nl => ⟨_, by rw [upd_ne (ne_new hD nl).symm]; exact hD, by rw [List.length_map]; exact small1000 (by omega), ns ++ [l], by simp [hl], Same.put (S1.trans (same_new nl)) hne, ?_, ?_, ?_, ?_⟩⟩
      · rw [upd_same, List.map_append]
        rfl
      · rw [List.nodup_append]
        refine ⟨nd, by simp, fun a ha b hb e => ?_⟩
        rw [List.mem_singleton.mp hb] at e
        subst e
        rw [(hns _ ha).2] at nl
        cases nl
      · intro q
        rcases List.mem_append.mp q with q | q
        · exact nn q
        · exact ne_new hD nl (List.mem_singleton.mp q).symm
      · intro a ha
        rcases List.mem_append.mp ha with q | q
        · have h1 := hns a q
          refine ⟨h1.1, ?_⟩
          rw [upd_ne (fun z => nn (by rw [← z]; exact q)), upd_ne (ne_of_none h1.2 nl)]
          exact h1.2
        · rw [List.mem_singleton.mp q]
          refine ⟨S1.free nl, ?_⟩
          rw [upd_ne (ne_new hD nl), upd_same]
          rfl
    rw [hn] at hl
    refine ⟨_, rfl, p, C, dx, _, _, rfl, S1 _ _ hp, T'.cl, T'.nE, flds_edges _ _ _, ae, rfl, ⟨_, SqT.of (S1 _ _ hae)⟩, for_tup (K := K) (a := ae) (xs := as.map V.ref) (fun j σ H' => ∃ (v2 v3 : Option V) (R : List (List Nat)), σ = [some (.ref p), some (.ref ne), v2, v3, none, none, none, none] ∧ Same H H' ∧ H' ne = some (.lst (ns.map V.ref)) ∧ Lsts H' ns R ∧ (∀ row ∈ R, row.length ≤ 2 * j ∧ ∀ x ∈ row, x < T.length) ∧ ∀ q ∈ E.take j, InRow R q.1 q.2 ∧ InRow R q.2 q.1)
      ⟨none, none, List.replicate T.length [], rfl, S1, hD, ⟨by simp [hl], fun i a f h1 h2 => ?_⟩, ?_, by simp⟩ (fun j σ H' _ ⟨_, _, _, _, S, _⟩ => SqT.of (S _ _ hae)) ?_ ?_⟩
    · have : f = [] := by
        have := List.mem_of_getElem? h2
        exact List.eq_of_mem_replicate this
      rw [this]
      exact (hns a (List.mem_of_getElem? h1)).2
    · intro row hrow
      rw [List.eq_of_mem_replicate hrow]
      simp
    · rintro j x σ H2 hj ⟨v2, v3, R, rfl, S2, hne2, hR, hb, hin⟩
      obtain ⟨a, ha, rfl⟩ := rf_of hj
      obtain ⟨g, hg, hag⟩ := (hE.mono S2).at ha
      rw [List.getElem?_map] at hg
      obtain ⟨e, he, rfl⟩ : ∃ e, E[j]? = some e ∧ g = pr e := by
        cases q : E[j]? with
        | none => rw [q] at hg; cases hg
        | some e => rw [q] at hg; exact ⟨e, rfl, (Option.some.inj hg).symm⟩
      have hends := G.pl.ends e (List.mem_of_getElem? he)
      have hjl := (List.getElem?_eq_some_iff.mp he).1
      have lR : R.length = T.length := by rw [← hR.1, hl]
      refine ⟨a, _, rfl, SqT.of hag, rfl, _, _, rfl, _, _, rfl, rfl, ?_⟩
      have hRu : R[e.1]? = some R[e.1] := List.getElem?_eq_getElem (by omega)
      obtain ⟨a1, ha1, hl1⟩ := hR.at hRu
      have hbu := hb _ (List.mem_of_getElem? hRu)
      have a1n : a1 ≠ ne := fun z => nn (by rw [← z]; exact List.mem_of_getElem? ha1)
      have free1 := (hns a1 (List.mem_of_getElem? ha1)).1
      refine ⟨_, rfl, _, rfl, ne, _, _, V.ref a1, rfl, rfl, SqL.of hne2, atI_nat (rf_get ha1), .inl ⟨rfl, _, SqL.of hl1⟩, _, rfl, a1, _, _, rfl, rfl, hl1, by rw [iv_len]; exact small1000 (by omega), ?_⟩
      rw [show iv R[e.1] ++ [V.int (e.2 : Nat)] = iv (R[e.1] ++ [e.2]) by rw [iv_app]; rfl]
      have hR1 := hR.put nd (f := R[e.1] ++ [e.2]) ha1
      have hne3 : (upd H2 a1 (.lst (iv (R[e.1] ++ [e.2])))) ne = some (.lst (ns.map V.ref)) := by rw [upd_ne (Ne.symm a1n)]; exact hne2
      obtain ⟨row, hRv⟩ : ∃ row, (R.set e.1 (R[e.1] ++ [e.2]))[e.2]? = some row := ⟨(R.set e.1 (R[e.1] ++ [e.2]))[e.2]'(by rw [List.length_set]; omega), List.getElem?_eq_getElem _⟩
      have hb1 : ∀ row ∈ R.set e.1 (R[e.1] ++ [e.2]), row.length ≤ 2 * j + 1 ∧ ∀ x ∈ row, x < T.length := fun row hr => by
        rcases List.mem_or_eq_of_mem_set hr with q | q
        · have := hb row q
          exact ⟨by omega, this.2⟩
        · rw [q]
          refine ⟨by rw [List.length_append]; have := hbu.1; simp; omega, fun x hx => ?_⟩
          rcases List.mem_append.mp hx with z | z
          · exact hbu.2 x z
          · rw [List.mem_singleton.mp z]
            exact hends.2
      have hbv := hb1 row (List.mem_of_getElem? hRv)
      obtain ⟨a2, ha2, hl2⟩ := hR1.at hRv
      have a2n : a2 ≠ ne := fun z => nn (by rw [← z]; exact List.mem_of_getElem? ha2)
      have free2 := (hns a2 (List.mem_of_getElem? ha2)).1
      refine ⟨_, rfl, _, rfl, ne, _, _, V.ref a2, rfl, rfl, SqL.of hne3, atI_nat (rf_get ha2), .inl ⟨rfl, _, SqL.of hl2⟩, _, rfl, a2, _, _, rfl, rfl, hl2, by rw [iv_len]; exact small1000 (by omega), ?_⟩
      rw [show iv row ++ [V.int (e.1 : Nat)] = iv (row ++ [e.1]) by rw [iv_app]; rfl]
      refine ⟨_, _, _, rfl, Same.put (Same.put S2 free1) free2, by rw [upd_ne (Ne.symm a2n)]; exact hne3, hR1.put nd ha2, fun r' hr' => ?_, fun q hq => ?_⟩
      · rcases List.mem_or_eq_of_mem_set hr' with z | z
        · have := hb1 r' z
          exact ⟨by omega, this.2⟩
        · rw [z]
          refine ⟨by rw [List.length_append]; have := hbv.1; simp; omega, fun x hx => ?_⟩
          rcases List.mem_append.mp hx with y | y
          · exact hbv.2 x y
          · rw [List.mem_singleton.mp y]
            exact hends.1
      · rw [List.take_add_one, he] at hq
        rcases List.mem_append.mp hq with z | z
        · have := hin q z
          exact ⟨(this.1.put hRu).put hRv, (this.2.put hRu).put hRv⟩
        · have : q = e := by simpa using z
          subst this
          exact ⟨(InRow.new hRu).put hRv, InRow.new hRv⟩
    · rintro σ H2 ⟨v2, v3, R, rfl, S2, hne2, hR, hb, hin⟩
      rw [List.length_map, lE] at hin hb
      rw [List.take_length] at hin
      have lR : R.length = T.length := by rw [← hR.1, hl]
      refine fun fo nfo => ?_
      refine ⟨upd_same, [((Sum.inl 0 : Key), V.bl true)], rfl, by decide, ?_⟩
      have em : mergeK [] [((Sum.inl 0 : Key), V.bl true)] = sk [0] := rfl
      rw [em, upd_upd]
      have s3 : Same H2 (upd H2 fo (.dK (sk [0]))) := same_new nfo
      have nfo0 : H fo = none := S2.free nfo
      have nfe : fo ≠ ne := ne_new hne2 nfo
      have nfn : fo ∉ ns := fun z => by
        obtain ⟨i, hi, e⟩ := List.mem_iff_getElem.mp z
        have h1 : ns[i]? = some fo := by rw [List.getElem?_eq_getElem hi, e]
        have h2 : R[i]? = some (R[i]'(by omega)) := List.getElem?_eq_getElem (by omega)
        rw [hR.2 i fo _ h1 h2] at nfo
        cases nfo
      refine ⟨by show 1 ≤ sizeLine; decide, fun wa nwa => ?_⟩
      have nwf : wa ≠ fo := ne_new upd_same nwa
      have nwa2 : H2 wa = none := by
        rw [upd_ne nwf] at nwa
        exact nwa
      have nwe : wa ≠ ne := ne_new hne2 nwa2
      have nwn : wa ∉ ns := fun z => by
        obtain ⟨i, hi, e⟩ := List.mem_iff_getElem.mp z
        have h1 : ns[i]? = some wa := by rw [List.getElem?_eq_getElem hi, e]
        have h2 : R[i]? = some (R[i]'(by omega)) := List.getElem?_eq_getElem (by omega)
        rw [hR.2 i wa _ h1 h2] at nwa2
        cases nwa2
      have nwa0 : H wa = none := S2.free nwa2
      refine ⟨fun m σ H' => ∃ (v6 : Option V) (k wt : List Nat), σ = [some (.ref p), some (.ref ne), v2, v3, some (.ref fo), some (.ref wa), v6, none] ∧ Srch H ne fo wa ns R T.length H' k wt ∧
          (∀ x ∈ k, x ∈ wt ∨ ∀ y, InRow R x y → y ∈ k) ∧ m = (T.length - k.length) + wt.length ∧ m ≤ T.length,
        ⟨_, none, [0], [0], rfl, ⟨(S2.trans s3).trans (same_new nwa), ?_, ?_, ?_, ?_, by simp, by simpa using hn1, by simp, by simp⟩, by simp, rfl, by simp; omega⟩, ?_⟩
      · rw [upd_ne (Ne.symm nwe), upd_ne (Ne.symm nfe)]
        exact hne2
      · exact (hR.off nfn).off nwn
      · rw [upd_ne (Ne.symm nwf), upd_same]
      · exact upd_same
      rintro m σ H3 ⟨v6, k, wt, rfl, W, hcl, em, mle⟩
      refine ⟨_, rfl, !(iv wt).isEmpty, .inl ⟨_, SqL.of W.hwa, rfl⟩, ?_⟩
      rcases List.eq_nil_or_concat wt with e | ⟨wt', x, e⟩
      · subst e
        refine iteF ?_
        refine ⟨_, rfl, q H3 fo _ W.sm W.hfo ?_⟩
        rw [dk_len]
        refine reach_all G.pl W.nd W.lt W.z fun e he => ⟨fun h1 => ?_, fun h1 => ?_⟩
        · rcases hcl _ h1 with z | z
          · cases z
          · exact z _ (hin e he).1
        · rcases hcl _ h1 with z | z
          · cases z
          · exact z _ (hin e he).2
      · rw [List.concat_eq_append] at e
        subst e
        have hx := W.sub x (by simp)
        have hxn := W.lt x hx
        have et : (!(iv (wt' ++ [x])).isEmpty) = true := by
          rw [iv_app]
          cases iv wt' <;> rfl
        rw [et]
        refine iteT ?_
        have lR : R.length = T.length := by rw [← hR.1, hl]
        obtain ⟨row, hrow⟩ : ∃ row, R[x]? = some row := ⟨R[x]'(by omega), List.getElem?_eq_getElem _⟩
        have hbr := hb row (List.mem_of_getElem? hrow)
        refine ⟨fun σ' H' => ∃ (v6 : Option V) (k' w' : List Nat), σ' = [some (.ref p), some (.ref ne), v2, v3, some (.ref fo), some (.ref wa), v6, none] ∧ Srch H ne fo wa ns R T.length H' k' w' ∧
          (∀ x ∈ k', x ∈ w' ∨ ∀ y, InRow R x y → y ∈ k') ∧ (T.length - k'.length) + w'.length < m, fun σ' H' ⟨u6, k', w', h1, h2, h3, h4⟩ => ⟨_, h4, u6, k', w', h1, h2, h3, rfl, by omega⟩, ?_⟩
        have hlast : (iv (wt' ++ [x]))[(iv (wt' ++ [x])).length - 1]? = some (V.int (x : Nat)) := by
          refine iv_get ?_
          rw [iv_len, List.length_append, List.length_singleton, Nat.add_sub_cancel, List.getElem?_append_right (Nat.le_refl _), Nat.sub_self]
          rfl
        have hdl : (iv (wt' ++ [x])).dropLast = iv wt' := by
          rw [iv_app]
          exact List.dropLast_concat
        obtain ⟨a, ha, hla⟩ := W.hR.at hrow
        have han := List.mem_of_getElem? ha
        have hW4 : Srch H ne fo wa ns R T.length (upd H3 wa (.lst (iv (wt' ++ [x])).dropLast)) k wt' := by
          rw [hdl]
          exact ⟨Same.put W.sm nwa0, by rw [upd_ne (Ne.symm nwe)]; exact W.hne, W.hR.off nwn, by rw [upd_ne (Ne.symm nwf)]; exact W.hfo, upd_same, W.nd, W.lt, W.z, fun y hy => W.sub y (List.mem_append_left _ hy)⟩
        have row_at : ∀ {H' : Hp} {k' w' : List Nat}, Srch H ne fo wa ns R T.length H' k' w' → H' a = some (.lst (iv row)) := fun W' => W'.hR.2 x a row ha hrow
        refine ⟨_, rfl, _, rfl, .inl ⟨rfl, _, SqL.of W.hwa⟩, wa, _, _, rfl, rfl, W.hwa, hlast, ne, _, _, V.ref a, rfl, rfl, SqL.of hW4.hne, atI_nat (rf_get ha), a, rfl, ⟨_, SqL.of (row_at hW4)⟩,
          for_list (K := K) (a := a) (xs := iv row) (fun i σ H' => ∃ (v6 : Option V) (k' w' : List Nat), σ = [some (.ref p), some (.ref ne), v2, v3, some (.ref fo), some (.ref wa), v6, none] ∧ Srch H ne fo wa ns R T.length H' k' w' ∧
            (∀ y ∈ row.take i, y ∈ k') ∧ (∀ z ∈ k', z ∈ w' ∨ z = x ∨ ∀ y, InRow R z y → y ∈ k') ∧ (T.length - k'.length) + w'.length = (T.length - k.length) + wt'.length)
          ⟨v6, k, wt', rfl, hW4, by simp, fun z hz => ?_, rfl⟩ (fun i σ H' _ ⟨_, _, _, _, W', _⟩ => SqL.of (row_at W')) ?_ ?_⟩
        · rcases hcl z hz with h | h
          · rcases List.mem_append.mp h with h | h
            · exact .inl h
            · exact .inr (.inl (List.mem_singleton.mp h))
          · exact .inr (.inr h)
        · rintro i v σ H5 hi ⟨u6, k', w', rfl, W', ht, hc, hm⟩
          obtain ⟨y, hy, rfl⟩ := iv_of hi
          have hyr := List.mem_of_getElem? hy
          have hyn := hbr.2 y hyr
          have hkl := nodup_len W'.nd W'.lt
          have hwl : w'.length ≤ T.length := by
            rw [List.length_append, List.length_singleton] at em
            omega
          refine ⟨_, rfl, _, rfl, fo, _, rfl, DGet.k (k := Sum.inl ((y : Nat) : Int)) W'.hfo, _, rfl, ?_⟩
          by_cases hyk : y ∈ k'
          · rw [dk_in hyk]
            refine iteF ?_
            refine ⟨_, k', w', rfl, W', fun z hz => ?_, hc, hm⟩
            rw [List.take_add_one, hy] at hz
            rcases List.mem_append.mp hz with h | h
            · exact ht z h
            · have : z = y := by simpa using h
              rw [this]
              exact hyk
          · rw [dk_not hyk]
            refine iteT ?_
            have nd2 : (k' ++ [y]).Nodup := by
              rw [List.nodup_append]
              refine ⟨W'.nd, by simp, fun a ha b hb e => hyk ?_⟩
              rw [← List.mem_singleton.mp hb, ← e]
              exact ha
            have lt2 : ∀ z ∈ k' ++ [y], z < T.length := fun z hz => by
              rcases List.mem_append.mp hz with h | h
              · exact W'.lt z h
              · rw [List.mem_singleton.mp h]
                exact hyn
            have hkl2 := nodup_len nd2 lt2
            rw [List.length_append, List.length_singleton] at hkl2
            refine ⟨_, rfl, _, rfl, fo, _, rfl, DPut.k (k := Sum.inl ((y : Nat) : Int)) W'.hfo (by rw [dk_len]; exact small1000 (by omega)), ?_⟩
            rw [dk_put (f := fun _ => V.bl true) hyk]
            have hwa5 : (upd H5 fo (.dK (sk (k' ++ [y])))) wa = some (.lst (iv w')) := by rw [upd_ne nwf]; exact W'.hwa
            refine ⟨_, rfl, .inl ⟨rfl, _, SqL.of hwa5⟩, _, rfl, wa, _, _, rfl, rfl, hwa5, by rw [iv_len]; exact small1000 (by omega), ?_⟩
            rw [show iv w' ++ [V.int (y : Nat)] = iv (w' ++ [y]) by rw [iv_app]; rfl]
            refine ⟨_, k' ++ [y], w' ++ [y], rfl, ⟨Same.put (Same.put W'.sm nfo0) nwa0, ?_, (W'.hR.off nfn).off nwn, ?_, upd_same, nd2, lt2, List.mem_append_left _ W'.z, fun z hz => ?_⟩, fun z hz => ?_, fun z hz => ?_, ?_⟩
            · rw [upd_ne (Ne.symm nwe), upd_ne (Ne.symm nfe)]
              exact W'.hne
            · rw [upd_ne (Ne.symm nwf), upd_same]
            · rcases List.mem_append.mp hz with h | h
              · exact List.mem_append_left _ (W'.sub z h)
              · exact List.mem_append_right _ h
            · rw [List.take_add_one, hy] at hz
              rcases List.mem_append.mp hz with h | h
              · exact List.mem_append_left _ (ht z h)
              · exact List.mem_append_right _ (by simpa using h)
            · rcases List.mem_append.mp hz with h | h
              · rcases hc z h with h | h | h
                · exact .inl (List.mem_append_left _ h)
                · exact .inr (.inl h)
                · exact .inr (.inr fun y' h' => List.mem_append_left _ (h y' h'))
              · exact .inl (List.mem_append_right _ h)
            · rw [List.length_append, List.length_append, List.length_singleton]
              omega
        · rintro σ H5 ⟨u6, k', w', rfl, W', ht, hc, hm⟩
          rw [iv_len, List.take_length] at ht
          refine ⟨_, k', w', rfl, W', fun z hz => ?_, ?_⟩
          · rcases hc z hz with h | h | h
            · exact .inl h
            · refine .inr fun y hy => ?_
              obtain ⟨row', h1, h2⟩ := hy
              rw [h, hrow] at h1
              cases h1
              exact ht y h2
            · exact .inr h
          · rw [em, hm, List.length_append, List.length_singleton]
            omega
end
end Wk
namespace Wk
open PySem L2 Rl Mt
def dInts (f : List Nat) : PyData := .tuple (f.map fun d : Nat => PyData.int (d : Int))
def dRows (F : List (List Nat)) : PyData := .list (F.map dInts)
theorem ints_ok : ∀ f : List Nat, PyData.canLayAll0 (f.map fun d : Nat => PyData.int (d : Int)) = true ∧ PyData.depthAll (f.map fun d : Nat => PyData.int (d : Int)) ≤ 1
  | [] => ⟨rfl, by simp [PyData.depthAll]⟩
  | d :: f => by
    have ih := ints_ok f
    refine ⟨?_, ?_⟩
    · rw [List.map_cons]
      simp only [PyData.canLayAll0, PyData.canLay0, ih.1, Bool.true_and, Bool.and_self]
    · rw [List.map_cons]
      simp only [PyData.depthAll, PyData.depth]
      omega
theorem rows_ok : ∀ F : List (List Nat), PyData.canLayAll0 (F.map dInts) = true ∧ PyData.depthAll (F.map dInts) ≤ 2
  | [] => ⟨rfl, by simp [PyData.depthAll]⟩
  | f :: F => by
    have ih := rows_ok F
    have h := ints_ok f
    refine ⟨?_, ?_⟩
    · rw [List.map_cons]
      simp only [PyData.canLayAll0, dInts, PyData.canLay0, h.1, ih.1, Bool.and_self]
    · rw [List.map_cons]
      simp only [PyData.depthAll, dInts, PyData.depth]
      omega
theorem dRows_ok (F : List (List Nat)) : PyData.canLay0 (dRows F) = true ∧ SeqAt.shaped (dRows F) = true := by
  have h := rows_ok F
  have h1 : PyData.canLay0 (dRows F) = true := by
    simp only [dRows, PyData.canLay0]
    exact h.1
  refine ⟨h1, ?_⟩
  unfold SeqAt.shaped
  rw [h1, Bool.true_and]
  refine decide_eq_true ?_
  simp only [dRows, PyData.depth]
  omega
theorem dp_ints {K : PySem.W.Frag} {H : Hp} : ∀ f : List Nat, DpAll K H (iv f) (f.map fun d : Nat => PyData.int (d : Int))
  | [] => .nil
  | d :: f => .cons (.int _) (dp_ints f)
theorem dp_rows {K : PySem.W.Frag} {H : Hp} : ∀ {as : List Addr} {F : List (List Nat)}, Tups H as F → DpAll K H (as.map V.ref) (F.map dInts)
  | [], [], _ => .nil
  | [], _ :: _, t => by cases t.1
  | _ :: _, [], t => by cases t.1
  | a :: as, f :: F, t => .cons (.tup (SqT.of (t.2 0 a f rfl rfl)) (dp_ints f)) (dp_rows (as := as) (F := F) ⟨Nat.succ.inj t.1, fun i b g h1 h2 => t.2 (i + 1) b g h1 h2⟩)
theorem dp_list {K : PySem.W.Frag} {H : Hp} {l : Addr} {as : List Addr} {F : List (List Nat)} (h : H l = some (.lst (as.map V.ref))) (t : Tups H as F) : Dp K H (.ref l) (dRows F) := .lst (SqL.of h) (dp_rows t)
theorem loop_it {J : It} {n : Nat} {G : Hp → Prop} {Y : Nat → Hp → V → Hp → Prop} (w : Walk J n G Y) {H0 : Hp} {Qd : Hp → Prop} {B : V → Hp → (Hp → Prop) → Prop} (Pv : Nat → Hp → Prop) (h0 : Pv 0 H0) (hG : ∀ i H, i ≤ n → Pv i H → G H)
    (hs : ∀ i x H H', i < n → Pv i H → Y i H x H' → B x H' (Pv (i + 1))) (hd : ∀ H, Pv n H → Qd H) :
    ∃ W : Nat → Nat → Hp → Prop, (∃ m, W 0 m H0) ∧ ∀ i m H, W i m H → (J.stop i H ∧ Qd H) ∨ (J.go i H ∧ ∃ Nx : Hp → Prop, (∀ H', Nx H' → ∃ m', m' < m ∧ W (i + 1) m' H') ∧ ∀ x H', J.yld i H x H' → B x H' Nx) := by
  refine ⟨fun i m H => m = n - i ∧ i ≤ n ∧ Pv i H, ⟨n, by simp, Nat.zero_le _, h0⟩, ?_⟩
  rintro i m H ⟨rfl, hi, p⟩
  have q := hG i H hi p
  by_cases hlt : i < n
  · exact .inr ⟨w.goes i H hlt q, Pv (i + 1), fun H' p' => ⟨n - (i + 1), by omega, rfl, hlt, p'⟩, fun x H' y => hs i x H H' hlt p (w.yields i H x H' hlt q y)⟩
  · have e : i = n := by omega
    subst e
    exact .inl ⟨w.stops H q, hd H p⟩
abbrev dw (E : List (Nat × Nat)) (d : Nat) : List Nat := [d, ow E d]
def kP (H : Hp) : V → Int × Int
  | .ref t => match H t with
    | some (.tup [.int a, .int b]) => (a, b)
    | _ => (0, 0)
  | _ => (0, 0)
theorem kP_at {H : Hp} {t : Addr} {a b : Nat} (h : H t = some (.tup (iv [a, b]))) : kP H (.ref t) = ((a : Int), (b : Int)) := by
  show (match H t with
    | some (.tup [.int a, .int b]) => (a, b)
    | _ => (0, 0)) = _
  rw [h]
  rfl
theorem told_ok {E : List (Nat × Nat)} {T : List (List Nat)} {s : Nat → Nat} {H : Hp} (h : Pl E T s) {ts : List Addr} (ht : Tups H ts (T.flatten.map (dw E))) {ys : List V} (h1 : SrtO.Srtd (ltP (kP H)) ys) (h2 : SrtO.Stb (ltP (kP H)) ys (ts.map V.ref)) :
    ∃ us : List Addr, ys = us.map V.ref ∧ Tups H us ((List.range (2 * E.length)).map (dw E)) := by
  obtain ⟨us, e, pm⟩ : ∃ us : List Addr, ys = us.map V.ref ∧ us.Perm ts := by
    have key : ∀ {ys zs : List V}, ys.Perm zs → ∀ ts : List Addr, zs = ts.map V.ref → ∃ us : List Addr, ys = us.map V.ref ∧ us.Perm ts := fun {ys zs} p => by
      intro ts e
      let un : V → Addr := fun v => match v with
        | .ref a => a
        | _ => 0
      have hz : ∀ l : List Addr, (l.map V.ref).map un = l := fun l => by
        rw [List.map_map]
        exact List.map_id _
      refine ⟨ys.map un, ?_, ?_⟩
      · have : ∀ y ∈ ys, y = V.ref (un y) := fun y hy => by
          have hm := p.mem_iff.mp hy
          rw [e] at hm
          obtain ⟨a, _, ea⟩ := List.mem_map.mp hm
          rw [← ea]
        rw [List.map_map]
        exact (List.map_id ys).symm.trans (List.map_congr_left this)
      · have := p.map un
        rw [e, hz] at this
        exact this
    exact key h2.perm ts rfl
  subst e
  refine ⟨us, rfl, ?_⟩
  have val : ∀ t ∈ ts, ∃ d ∈ T.flatten, H t = some (.tup (iv (dw E d))) := fun t htm => by
    obtain ⟨i, hi, e⟩ := List.mem_iff_getElem.mp htm
    obtain ⟨f, hf, hft⟩ := ht.at (i := i) (a := t) (by rw [List.getElem?_eq_getElem hi, e])
    rw [List.getElem?_map] at hf
    cases q : T.flatten[i]? with
    | none => rw [q] at hf; cases hf
    | some d =>
      rw [q] at hf
      have := Option.some.inj hf
      subst this
      exact ⟨d, List.mem_of_getElem? q, hft⟩
  let kd : Addr → Nat := fun t => (kP H (.ref t)).1.toNat
  have kd_at : ∀ t d, H t = some (.tup (iv (dw E d))) → kd t = d := fun t d ht => by
    show (kP H (.ref t)).1.toNat = d
    rw [kP_at ht]
    exact Int.toNat_natCast d
  have hts : ts.map kd = T.flatten := by
    refine List.ext_getElem? fun i => ?_
    rw [List.getElem?_map]
    cases q : ts[i]? with
    | none =>
      have := List.getElem?_eq_none_iff.mp q
      rw [ht.1, List.length_map] at this
      rw [List.getElem?_eq_none this]
      rfl
    | some t =>
      obtain ⟨f, hf, hft⟩ := ht.at q
      rw [List.getElem?_map] at hf
      cases q2 : T.flatten[i]? with
      | none => rw [q2] at hf; cases hf
      | some d =>
        rw [q2] at hf
        have := Option.some.inj hf
        subst this
        show some (kd t) = some d
        rw [kd_at t d hft]
  have pmd : (us.map kd).Perm (List.range (2 * E.length)) := by
    refine (pm.map kd).trans ?_
    rw [hts]
    exact h.pm
  have srt : (us.map kd).Pairwise (· ≤ ·) := by
    refine List.pairwise_map.mpr ?_
    refine (List.pairwise_map.mp h1).imp_of_mem fun {a b} ha hb hab => ?_
    obtain ⟨d, _, hd⟩ := val a (pm.mem_iff.mp ha)
    obtain ⟨c, _, hc⟩ := val b (pm.mem_iff.mp hb)
    rw [kd_at a d hd, kd_at b c hc]
    have hab : SrtO.lexB (kP H (V.ref b)) (kP H (V.ref a)) = false := hab
    rw [kP_at hd, kP_at hc] at hab
    have := SrtO.lexB_no.mp hab
    simp only at this
    omega
  have ek : us.map kd = List.range (2 * E.length) := pmd.eq_of_pairwise (fun a b _ _ h1 h2 => Nat.le_antisymm h1 h2) srt (List.pairwise_le_range)
  refine ⟨?_, fun i t f hi hf => ?_⟩
  · have := congrArg List.length ek
    simpa using this
  · obtain ⟨d, _, hd⟩ := val t (pm.mem_iff.mp (List.mem_of_getElem? hi))
    have e1 : (us.map kd)[i]? = some (kd t) := by
      rw [List.getElem?_map, hi]
      rfl
    rw [kd_at t d hd, ek] at e1
    rw [List.getElem?_map, e1] at hf
    have := Option.some.inj hf
    subst this
    exact hd
end Wk
namespace Wk
open PySem L2 Rl Mt
section
variable {P : Program} {w : World} {K : PySem.W.Frag} {mg : Str → Option Value} {base : Heap}
theorem ifN {c A B : Prop} [Decidable c] (h : ¬ c) (b : B) : if decide c = true then A else B := by
  rw [decide_eq_false h]
  exact iteF b
theorem ifQ {c : Bool} {A B : Prop} (h : c = true) (b : B) : if (!c) = true then A else B := by
  rw [h]
  exact iteF b
theorem Keeps.ins {H : Hp} {p : Addr} {C dx : Addr} {fs : List (Str × V)} {o : HO} (h : H p = some (.ins C dx fs)) : Keeps H (upd H p o) := fun b ys e => by
  rw [upd_ne (ne_of e h (by intro z; cases z))]
  exact e
theorem putF_len (f : Str) (v : V) : ∀ fs : List (Str × V), (putF f v fs).length ≤ fs.length + 1
  | [] => Nat.le_refl _
  | (g, x) :: r => by
    have ih := putF_len f v r
    unfold putF
    split
    · simp
    · simp only [List.length_cons]
      omega
def spInit (C : Addr) : Sp := fun vs H Q _ => ∃ (p dx ae at_ : Addr) (as rs : List Addr) (E : List (Nat × Nat)) (T : List (List Nat)) (s : Nat → Nat), vs = [.ref p, .int (T.length : Nat), .ref ae, .ref at_] ∧
  H p = some (.ins C dx []) ∧ H ae = some (.lst (as.map V.ref)) ∧ H at_ = some (.lst (rs.map V.ref)) ∧ Tups H as (E.map pr) ∧ Tups H rs T ∧ Pl E T s ∧ E.length ≤ 160 ∧ T.length ≤ 100 ∧
  ∀ H', PlaneAt C H' p E T → (∀ b o, H b = some o → b ≠ p → H' b = some o) → Q .non H'
theorem scI : FnScope ["self", "count", "edges", "turns", "u", "v", "told", "wanted", "at", "vertex", "own", "dart"] ["self", "count", "edges", "turns"] (defScope sInit) := ⟨rfl, rfl, rfl, by decide +kernel, rfl, by decide +kernel, by decide +kernel⟩
theorem ok_init {f fR fF C : Addr} {fd fdR fdF : FuncData} {k : Nat} (F : Fun K "__init__" "Plane.__init__" sInit f fd) (gR : mg "_reached" = some (.ref fR)) (kR : PySem.W.keepIn K (.ref fR) = true) (bR : Binds K fdR ["plane"] []) (GR : FnOk P w K mg base CX0 (k + 1) fR fdR ["plane"] (spReach C))
    (gF : mg "faces" = some (.ref fF)) (kF : PySem.W.keepIn K (.ref fF) = true) (bF : Binds K fdF ["plane"] []) (GF : FnOk P w K mg base CX0 (k + 2) fF fdF ["plane"] (spFaces C)) (T' : Txt K mg C) :
    FnOk P w K mg base CX0 (k + 3) f fd ["self", "count", "edges", "turns"] (spInit C) := by
  refine F.ok scI (fun vs H Q E h => ?_) (fun cdv A outer s H vs Q E hr h => ?_)
  · obtain ⟨p, _, _, _, _, _, _, _, _, rfl, _⟩ := h
    rfl
  · obtain ⟨p, dx, ae, at_, as, rs, E, T, s, rfl, hp, hae, hat, hE, hT, pl, hme, hnv, q⟩ := h
    have hu := hu_of hr
    obtain ⟨tv, hmv⟩ := T'.mv
    obtain ⟨te, hmm⟩ := T'.me
    have hrR : Room (k + 1) _ := hr.mono (by omega)
    refine ⟨_, pss_cons (ps_if (PW.pt (pw_or (pt_cmpR op_lt (pv 1) pe_int (nomark _)) (pw_or (pt_cmpR op_gt (pv 1) (pe_glob (v := .int 100) (by rfl) hmv ⟨_, rfl⟩) (nomark _))
        (pw_or (pt_cmpR op_gt (pe_callB call_len (by rfl) T'.len PySem.boot_len (pa_cons (pv 2) pa_nil)) (pe_glob (v := .int 160) (by rfl) hmm ⟨_, rfl⟩) (nomark _)) (pw_or1 (pt_cmpR op_ne (pe_callB call_len (by rfl) T'.len PySem.boot_len (pa_cons (pv 3) pa_nil)) (pv 1) (nomark _))))))) pss_never pss_nil)
      (pss_cons (ps_for PassesOwn.never rfl (pi_list (pv 2)) (pg_tup rfl (pgs_cons (pg_name (i := 4) scI.nd rfl (.inl rfl)) (pgs_cons (pg_name (i := 5) scI.nd rfl (.inl rfl)) pgs_nil)))
        (pss_one (ps_if (PW.pt (pw_or (pt_cmpR op_lt (pe_callB (call_min2 rfl) (by rfl) T'.min (by decide +kernel) (pa_cons (pv 4) (pa_cons (pv 5) pa_nil))) pe_int (nomark _)) (pw_or1 (pt_cmpR op_ge (pe_callB (call_max2 rfl) (by rfl) T'.max (by decide +kernel) (pa_cons (pv 4) (pa_cons (pv 5) pa_nil))) (pv 1) (nomark _))))) pss_never pss_nil)))
      (pss_cons (ps_set (i := 6) scI.nd rfl (.inl rfl) (pe_callB cr_sortedPO (by rfl) T'.sorted (by decide +kernel) (pa_cons
        (pe_lc2 (own := [("vertex", 9), ("own", 10), ("dart", 11)]) (vs1 := [11]) (g := gTup K 2 (gCons (gName 9) (gCons (gName 10) gNil))) (g1 := gName 11) (wi1 := iTup K (tVar 10)) (by rfl) scI.nd (pi_enum (by rfl) T'.enum (pa_cons (pv 3) pa_nil))
          (blkOk_by (N := ["self", "count", "edges", "turns", "u", "v", "told", "wanted", "at", "vertex", "own", "dart"]) (sc := defScope sInit) (by decide +kernel)) (by decide)
          (fun _ _ _ _ _ => pg_tup rfl (pgs_cons (pg_name (i := 9) scI.nd rfl (.inl rfl)) (pgs_cons (pg_name (i := 10) scI.nd rfl (.inl rfl)) pgs_nil))) (fun _ _ _ _ _ => pts_nil)
          (fun _ _ _ _ _ => pi_tup (pv 10)) (fun _ _ _ _ _ => pg_name (i := 11) scI.nd rfl (.inl rfl)) (fun _ _ _ _ _ => pts_nil)
          (fun _ _ _ _ _ => pe_tup (pa_cons (pv 11) (pa_cons (pv 9) pa_nil)))) pa_nil)))
      (pss_cons (ps_set (i := 7) scI.nd rfl (.inl rfl) (pe_lst pa_nil))
      (pss_cons (ps_for PassesOwn.never rfl (pi_enum (by rfl) T'.enum (pa_cons (pv 2) pa_nil)) (pg_tup rfl (pgs_cons (pg_name (i := 8) scI.nd rfl (.inl rfl)) (pgs_cons (pg_tup rfl (pgs_cons (pg_name (i := 4) scI.nd rfl (.inl rfl)) (pgs_cons (pg_name (i := 5) scI.nd rfl (.inl rfl)) pgs_nil))) pgs_nil)))
        (pss_one (ps_aug (i := 7) scI.nd rfl (.inl rfl) (pe_lst (pa_cons (pe_tup (pa_cons (pe_op op_mul pe_int (pv 8)) (pa_cons (pv 4) pa_nil))) (pa_cons (pe_tup (pa_cons (pe_op op_add (pe_op op_mul pe_int (pv 8)) pe_int) (pa_cons (pv 5) pa_nil))) pa_nil))) iop_ext)))
      (pss_cons (ps_if (pt_cmpR (op_neD hr.units) (pv 6) (pv 7) (nomark _)) pss_never pss_nil)
      (pss_cons (ps_fld (pv 0) (pv 1) rfl)
      (pss_cons (ps_fld (pv 0) (pe_callTy call_tuple_of (by rfl) T'.tuple (by decide +kernel) (pa_cons
        (pe_lc (own := [("u", 4), ("v", 5)]) (g := gTup K 2 (gCons (gName 4) (gCons (gName 5) gNil))) (by rfl) scI.nd (pi_list (pv 2))
          (blkOk_by (N := ["self", "count", "edges", "turns", "u", "v", "told", "wanted", "at", "vertex", "own", "dart"]) (sc := defScope sInit) (by decide +kernel))
          (fun _ _ _ _ _ => pg_tup rfl (pgs_cons (pg_name (i := 4) scI.nd rfl (.inl rfl)) (pgs_cons (pg_name (i := 5) scI.nd rfl (.inl rfl)) pgs_nil))) (fun _ _ _ _ _ => pts_nil)
          (fun _ _ _ _ _ => pe_tup (pa_cons (pv 4) (pa_cons (pv 5) pa_nil)))) pa_nil)) rfl)
      (pss_cons (ps_fld (pv 0) (pe_callTy call_tuple_of (by rfl) T'.tuple (by decide +kernel) (pa_cons
        (pe_lc (own := [("own", 10)]) (g := gName 10) (by rfl) scI.nd (pi_list (pv 3))
          (blkOk_by (N := ["self", "count", "edges", "turns", "u", "v", "told", "wanted", "at", "vertex", "own", "dart"]) (sc := defScope sInit) (by decide +kernel))
          (fun _ _ _ _ _ => pg_name (i := 10) scI.nd rfl (.inl rfl)) (fun _ _ _ _ _ => pts_nil)
          (te := tCB (fun xs H Q => ∃ a ys, xs = [V.ref a] ∧ SqT K H a ys ∧ Q (.ref a) H) (tCons (tVar 10) tNil))
          (fun _ _ _ _ _ => pe_callTy call_tupleT (by rfl) T'.tuple (by decide +kernel) (pa_cons (pv 10) pa_nil))) pa_nil)) rfl)
      (pss_one (ps_if (PW.pt (pw_or (pt_cmpR op_ne (pe_callB call_lenD (by rfl) T'.len PySem.boot_len (pa_cons (pe_call GR hrR (by rfl) gR kR bR .nil pass0 (pa_cons (pv 0) pa_nil)) pa_nil)) (pv 1) (nomark _))
        (pw_or1 (pt_cmpR op_ne (pe_callB call_len (by rfl) T'.len PySem.boot_len (pa_cons (pe_call GF hr (by rfl) gF kF bF .nil pass0 (pa_cons (pv 0) pa_nil)) pa_nil)) (pe_op op_add (pe_op op_sub pe_int (pv 1)) (pe_callB call_len (by rfl) T'.len PySem.boot_len (pa_cons (pv 2) pa_nil))) (nomark _))))) pss_never pss_nil)))))))))), ?_⟩
    have lE : as.length = E.length := by
      have := hE.1
      simpa using this
    have lT : rs.length = T.length := hT.1
    have hn1 := pl.n1
    refine ⟨_, rfl, _, _, rfl, rfl, _, rfl, ifN (by omega) ⟨_, rfl, _, _, rfl, rfl, _, rfl, ifN (by omega) ⟨_, rfl, _, as.length, rfl, .inl ⟨_, SqL.of hae, by simp⟩, _, _, rfl, rfl, _, rfl, ifN (by omega)
      ⟨_, rfl, _, rs.length, rfl, .inl ⟨_, SqL.of hat, by simp⟩, _, rfl, rfl, _, rfl, ?_⟩⟩⟩⟩
    refine iteNS (by rw [lT]) ?_
    refine ⟨_, rfl, ae, rfl, ⟨_, SqL.of hae⟩, for_list (K := K) (a := ae) (xs := as.map V.ref) (fun j σ H' => H' = H ∧ ∃ v4 v5 : Option V, σ = [some (.ref p), some (.int (T.length : Nat)), some (.ref ae), some (.ref at_), v4, v5, none, none, none, none, none, none])
      ⟨rfl, none, none, rfl⟩ (fun j σ H' _ ⟨e, _⟩ => by rw [e]; exact SqL.of hae) ?_ ?_⟩
    · rintro j x σ H' hj ⟨rfl, v4, v5, rfl⟩
      obtain ⟨a, ha, rfl⟩ := rf_of hj
      obtain ⟨g, hg, hag⟩ := hE.at ha
      rw [List.getElem?_map] at hg
      obtain ⟨e, he, rfl⟩ : ∃ e, E[j]? = some e ∧ g = pr e := by
        cases q : E[j]? with
        | none => rw [q] at hg; cases hg
        | some e => rw [q] at hg; exact ⟨e, rfl, (Option.some.inj hg).symm⟩
      have hends := pl.ends e (List.mem_of_getElem? he)
      refine ⟨a, _, rfl, SqT.of hag, rfl, _, _, rfl, _, _, rfl, rfl, ?_⟩
      refine ⟨_, rfl, _, rfl, _, _, rfl, _, _, rfl, rfl, _, rfl, ifN ?_ ⟨_, rfl, _, rfl, _, _, rfl, _, rfl, _, _, rfl, rfl, _, rfl, ?_⟩⟩
      · split <;> omega
      · rw [decide_eq_false (by split <;> omega)]
        exact ⟨rfl, _, _, rfl⟩
    rintro σ H' ⟨e0, v4, v5, rfl⟩
    obtain rfl : H = H' := e0.symm
    refine ⟨_, rfl, at_, _, rfl, SqL.of hat, fun D hD => ?_⟩
    refine loop_it (walk_enum (K := K) (a := at_) (xs := rs.map V.ref)) (fun j H' => ∃ ts : List Addr, Same H H' ∧ H' D = some (.lst (ts.map V.ref)) ∧ Tups H' ts ((T.take j).flatten.map (dw E))) ⟨[], same_new hD, upd_same, Tups.nil⟩ (fun j H' _ ⟨_, S, _⟩ => SqL.of (S _ _ hat)) ?_ ?_
    · rintro j x H2 H3 hj ⟨ts, S2, hD2, ht2⟩ ⟨t, x1, x2, rfl, nt, rfl, e1, e2⟩
      cases e1
      obtain ⟨r, hr', rfl⟩ := rf_of e2
      obtain ⟨row, hrow, hrt⟩ := hT.at hr'
      have hrm := List.mem_of_getElem? hrow
      have s3 : Same H2 (upd H2 t (.tup [.int (j : Nat), .ref r])) := same_new nt
      refine ⟨t, _, rfl, SqT.of upd_same, rfl, _, _, rfl, _, _, rfl, rfl, rfl, ?_⟩
      refine ⟨_, rfl, r, rfl, ⟨_, SqT.of (s3 _ _ (S2 _ _ hrt))⟩, ?_⟩
      refine loop_it (walk_tup (K := K) (a := r) (xs := iv row)) (fun i H' => ∃ ts : List Addr, Same H H' ∧ H' D = some (.lst (ts.map V.ref)) ∧ Tups H' ts (((T.take j).flatten ++ row.take i).map (dw E))) ⟨ts, S2.trans s3, s3 _ _ hD2, by simpa using ht2.mono s3⟩ (fun j H' _ ⟨_, S, _⟩ => SqT.of (S _ _ hrt)) ?_ ?_
      · rintro i y H4 H5 hi ⟨us, S4, hD4, hu4⟩ ⟨rfl, hy⟩
        obtain ⟨d, hd, rfl⟩ := iv_of hy
        have hil := (List.getElem?_eq_some_iff.mp hd).1
        have how : ow E d = j := pl.own j row hrow d (List.mem_of_getElem? hd)
        refine ⟨rfl, _, rfl, _, rfl, by show 2 ≤ sizeLine; decide, fun u nu => ?_⟩
        have s5 : Same H5 (upd H5 u (.tup [V.int (d : Nat), V.int (j : Nat)])) := same_new nu
        have hD5 := s5 _ _ hD4
        refine ⟨_, hD5, ?_, us ++ [u], Same.put (S4.trans s5) hD, ?_, ?_⟩
        · rw [List.length_map, hu4.1, List.length_map]
          have hfl : ((T.take j).flatten ++ row.take i).length ≤ T.flatten.length := by
            have h1 : ((T.take j).flatten ++ row).length ≤ T.flatten.length := by
              have e3 : (T.take (j + 1)).flatten = (T.take j).flatten ++ row := by
                rw [List.take_add_one, hrow, List.flatten_append]
                simp
              rw [← e3]
              conv => rhs; rw [← List.take_append_drop (j + 1) T]
              rw [List.flatten_append, List.length_append]
              exact Nat.le_add_right _ _
            have h2 : (row.take i).length ≤ row.length := by
              rw [List.length_take]
              exact Nat.min_le_right _ _
            rw [List.length_append] at h1 ⊢
            omega
          rw [pl.pm.length_eq, List.length_range] at hfl
          exact small1000 (by omega)
        · rw [upd_same, List.map_append]
          rfl
        · rw [List.take_add_one, hd, ← List.append_assoc, List.map_append]
          refine ((hu4.mono s5).keep (Keeps.lst hD5)).snoc ?_
          rw [upd_ne (ne_new hD4 nu), upd_same]
          simp only [dw, how]
          rfl
      · rintro H4 ⟨us, S4, hD4, hu4⟩
        refine ⟨us, S4, hD4, ?_⟩
        rw [iv_len, List.take_length] at hu4
        rw [List.take_add_one, hrow, List.flatten_append]
        simpa using hu4
    · rintro H1 ⟨ts, S1, hD1, ht1⟩
      rw [List.length_map, lT, List.take_length] at ht1
      refine ⟨D, _, kP H1, rfl, SqL.of hD1, fun x hx => ?_, fun ys to srt stb hto => ?_⟩
      · obtain ⟨t, ht, rfl⟩ := List.mem_map.mp hx
        obtain ⟨i, hi, e⟩ := List.mem_iff_getElem.mp ht
        obtain ⟨f, hf, hft⟩ := ht1.at (i := i) (a := t) (by rw [List.getElem?_eq_getElem hi, e])
        obtain ⟨d, _, rfl⟩ := List.mem_map.mp (List.mem_of_getElem? hf)
        refine ⟨t, rfl, ?_⟩
        rw [kP_at hft]
        exact hft
      obtain ⟨us, rfl, hus⟩ := told_ok pl ht1 srt stb
      have s2 : Same H1 (upd H1 to (.lst (us.map V.ref))) := same_new hto
      have hto2 : (upd H1 to (.lst (us.map V.ref))) to = some (.lst (us.map V.ref)) := upd_same
      refine ⟨Nat.zero_le _, fun wa nwa => ?_⟩
      have nwa1 : H wa = none := S1.free (s2.free nwa)
      have S2 : Same (upd H1 to (.lst (us.map V.ref))) (upd (upd H1 to (.lst (us.map V.ref))) wa (.lst [])) := same_new nwa
      have S02 := (S1.trans s2).trans S2
      refine ⟨_, rfl, ae, _, rfl, SqL.of (S02 _ _ hae), for_it (walk_enum (K := K) (a := ae) (xs := as.map V.ref)) (fun j σ H' => ∃ (v4 v5 v8 : Option V) (ws : List Addr), σ = [some (.ref p), some (.int (T.length : Nat)), some (.ref ae), some (.ref at_), v4, v5, some (.ref to), some (.ref wa), v8, none, none, none] ∧
          Same (upd H1 to (.lst (us.map V.ref))) H' ∧ H' wa = some (.lst (ws.map V.ref)) ∧ Tups H' ws ((List.range (2 * j)).map (dw E)))
        ⟨v4, v5, none, [], rfl, S2, upd_same, Tups.nil⟩ (fun j σ H' _ ⟨_, _, _, _, _, S, _⟩ => SqL.of (S _ _ (s2 _ _ (S1 _ _ hae)))) ?_ ?_⟩
      · rintro j x σ H3 H4 hj ⟨w4, w5, w8, ws, rfl, S3, hwa, hws⟩ ⟨t, x1, x2, rfl, nt, rfl, e1, e2⟩
        cases e1
        obtain ⟨a, ha, rfl⟩ := rf_of e2
        have S03 : Same H H3 := (S1.trans s2).trans S3
        obtain ⟨g, hg, hag⟩ := (hE.mono S03).at ha
        rw [List.getElem?_map] at hg
        obtain ⟨e, he, rfl⟩ : ∃ e, E[j]? = some e ∧ g = pr e := by
          cases q : E[j]? with
          | none => rw [q] at hg; cases hg
          | some e => rw [q] at hg; exact ⟨e, rfl, (Option.some.inj hg).symm⟩
        have hjl := (List.getElem?_eq_some_iff.mp he).1
        have s4 : Same H3 (upd H3 t (.tup [.int (j : Nat), .ref a])) := same_new nt
        refine ⟨t, _, rfl, SqT.of upd_same, rfl, _, _, rfl, _, _, rfl, ⟨a, _, rfl, SqT.of (s4 _ _ hag), rfl, _, _, rfl, _, _, rfl, rfl, rfl, ?_⟩⟩
        refine ⟨_, rfl, _, rfl, 2, _, rfl, rfl, .inl ⟨by decide, by decide⟩, _, rfl, by show 2 ≤ sizeLine; decide, fun t1 n1 => ?_⟩
        refine ⟨_, rfl, 2, _, rfl, rfl, .inl ⟨by decide, by decide⟩, _, _, rfl, rfl, _, rfl, by show 2 ≤ sizeLine; decide, fun t2 n2 => ?_⟩
        refine ⟨by show 2 ≤ sizeLine; decide, fun l nl => ?_⟩
        generalize hA : upd H3 t (.tup [.int (j : Nat), .ref a]) = HA at *
        have b1 : ([V.int (2 * ((j : Nat) : Int)), V.int ((e.1 : Nat) : Int)] : List V) = iv (dw E (2 * j)) := by
          have : ow E (2 * j) = e.1 := by
            unfold ow
            rw [show 2 * j / 2 = j by omega, he]
            simp
          simp only [dw, this]
          rfl
        have b2 : ([V.int (2 * ((j : Nat) : Int) + 1), V.int ((e.2 : Nat) : Int)] : List V) = iv (dw E (2 * j + 1)) := by
          have : ow E (2 * j + 1) = e.2 := by
            unfold ow
            rw [show (2 * j + 1) / 2 = j by omega, he]
            simp only
            rw [if_neg (by omega)]
          simp only [dw, this]
          rfl
        have s5 := same_new (o := HO.tup [(fun i j => V.int (i * j)) 2 ((j : Nat) : Int), (fun d : Nat => V.int (d : Int)) e.1]) n1
        have s6 := same_new (o := HO.tup [(fun i j => V.int (i + j)) (2 * ((j : Nat) : Int)) 1, (fun d : Nat => V.int (d : Int)) e.2]) n2
        have s7 := same_new (o := HO.lst [V.ref t1, V.ref t2]) nl
        have s67 := s6.trans s7
        have s57 := s5.trans s67
        have sA := s4.trans s57
        have hwa' := sA _ _ hwa
        refine ⟨wa, l, _, [V.ref t1, V.ref t2], rfl, rfl, hwa', upd_same, ?_, ?_⟩
        · rw [List.length_map, hws.1, List.length_map, List.length_range, sizeLine_eq]
          show 2 * j + 2 ≤ 16777216
          omega
        · refine ⟨_, _, _, ws ++ [t1] ++ [t2], rfl, Same.put (S3.trans sA) nwa, ?_, ?_⟩
          · rw [upd_same]
            simp
          · rw [show 2 * (j + 1) = 2 * j + 2 by omega, range_two, List.map_append]
            rw [show List.map (dw E) [2 * j, 2 * j + 1] = [dw E (2 * j)] ++ [dw E (2 * j + 1)] by rfl, ← List.append_assoc]
            have n1w : t1 ≠ wa := ne_new (s4 _ _ hwa) n1
            have n2w : t2 ≠ wa := ne_new (s5 _ _ (s4 _ _ hwa)) n2
            refine (((hws.mono sA).keep (Keeps.lst hwa')).snoc ?_).snoc ?_
            · rw [upd_ne n1w, ← b1]
              exact s67 _ _ upd_same
            · rw [upd_ne n2w, ← b2]
              exact s7 _ _ upd_same
      · rintro σ H3 ⟨w4, w5, w8, ws, rfl, S3, hwa, hws⟩
        rw [List.length_map, lE] at hws
        have S03 : Same H H3 := (S1.trans s2).trans S3
        have ok := dRows_ok ((List.range (2 * E.length)).map (dw E))
        refine ⟨_, rfl, _, rfl, _, _, dp_list (S3 _ _ hto2) (hus.mono (s2.trans S3)), dp_list hwa hws, ok.2, ok.2, _, rfl, ifQ (SeqAt.eqv_refl _ ok.1) ?_⟩
        have hp3 := S03 _ _ hp
        refine ⟨_, rfl, _, rfl, p, C, dx, _, rfl, hp3, T'.cl, T'.nC, by show 0 < 1000; decide, ?_⟩
        have npe : ae ≠ p := ne_of hae hp (by intro z; cases z)
        have npt : at_ ≠ p := ne_of hat hp (by intro z; cases z)
        have off4 : ∀ b o, H b = some o → b ≠ p → (upd H3 p (.ins C dx (putF "count" (.int (T.length : Nat)) []))) b = some o := fun b o e n => by
          rw [upd_ne n]
          exact S03 _ _ e
        have hE4 : Tups (upd H3 p (.ins C dx (putF "count" (.int (T.length : Nat)) []))) as (E.map pr) := (hE.mono S03).keep (Keeps.ins hp3)
        have hT4 : Tups (upd H3 p (.ins C dx (putF "count" (.int (T.length : Nat)) []))) rs T := (hT.mono S03).keep (Keeps.ins hp3)
        have hp4 : (upd H3 p (.ins C dx (putF "count" (.int (T.length : Nat)) []))) p = some (.ins C dx (putF "count" (.int (T.length : Nat)) [])) := upd_same
        generalize upd H3 p (.ins C dx (putF "count" (.int (T.length : Nat)) [])) = H4 at *
        refine ⟨_, rfl, ae, rfl, ⟨_, SqL.of (off4 _ _ hae npe)⟩, fun D2 hD2 => lc_list (K := K) (a := ae) (xs := as.map V.ref) (fun j H' => ∃ bs : List Addr, Same H4 H' ∧ H' D2 = some (.lst (bs.map V.ref)) ∧ Tups H' bs ((E.take j).map pr))
          ⟨[], same_new hD2, upd_same, Tups.nil⟩ (fun j H' _ ⟨_, S, _⟩ => SqL.of (S _ _ (off4 _ _ hae npe))) ?_ ?_⟩
        · rintro j x H5 hj ⟨bs, S5, hD5, hb5⟩
          obtain ⟨a, ha, rfl⟩ := rf_of hj
          obtain ⟨g, hg, hag⟩ := (hE4.mono S5).at ha
          rw [List.getElem?_map] at hg
          obtain ⟨e, he, rfl⟩ : ∃ e, E[j]? = some e ∧ g = pr e := by
            cases q : E[j]? with
            | none => rw [q] at hg; cases hg
            | some e => rw [q] at hg; exact ⟨e, rfl, (Option.some.inj hg).symm⟩
          have hjl := (List.getElem?_eq_some_iff.mp he).1
          refine ⟨a, _, rfl, SqT.of hag, rfl, _, _, rfl, _, _, rfl, rfl, rfl, _, rfl, _, rfl, by show 2 ≤ sizeLine; decide, fun t nt => ?_⟩
          have s6 := same_new (o := HO.tup [(fun d : Nat => V.int (d : Int)) e.1, (fun d : Nat => V.int (d : Int)) e.2]) nt
          have hD6 := s6 _ _ hD5
          refine ⟨_, hD6, ?_, bs ++ [t], Same.put (S5.trans s6) hD2, by rw [upd_same, List.map_append]; rfl, ?_⟩
          · rw [List.length_map, hb5.1, List.length_map, List.length_take]
            exact small1000 (by omega)
          · rw [List.take_add_one, he, List.map_append]
            refine ((hb5.mono s6).keep (Keeps.lst hD6)).snoc ?_
            rw [upd_ne (ne_new hD5 nt)]
            exact upd_same
        rintro H5 ⟨bs, S5, hD5, hb5⟩
        rw [List.length_map, lE, List.take_length] at hb5
        refine ⟨D2, _, rfl, .inl ⟨SqL.of hD5, fun l2 nl2 => ?_⟩⟩
        have s6 : Same H5 (upd H5 l2 (.tup (bs.map V.ref))) := same_new nl2
        have hp6 := s6 _ _ (S5 _ _ hp4)
        have np2 : l2 ≠ p := ne_new (S5 _ _ hp4) nl2
        refine ⟨_, rfl, p, C, dx, _, rfl, hp6, T'.cl, T'.nE, Nat.lt_of_le_of_lt (putF_len _ _ _) (by decide), ?_⟩
        have off7 : ∀ b o, H b = some o → b ≠ p → (upd (upd H5 l2 (.tup (bs.map V.ref))) p (.ins C dx (putF "edges" (.ref l2) (putF "count" (.int (T.length : Nat)) [])))) b = some o := fun b o e n => by
          rw [upd_ne n]
          exact s6 _ _ (S5 _ _ (off4 b o e n))
        have hb7 := (hb5.mono s6).keep (Keeps.ins (o := .ins C dx (putF "edges" (.ref l2) (putF "count" (.int (T.length : Nat)) []))) hp6)
        have hT7 := (hT4.mono (S5.trans s6)).keep (Keeps.ins (o := .ins C dx (putF "edges" (.ref l2) (putF "count" (.int (T.length : Nat)) []))) hp6)
        have hl7 : (upd (upd H5 l2 (.tup (bs.map V.ref))) p (.ins C dx (putF "edges" (.ref l2) (putF "count" (.int (T.length : Nat)) [])))) l2 = some (.tup (bs.map V.ref)) := by rw [upd_ne np2, upd_same]
        have hp7 : (upd (upd H5 l2 (.tup (bs.map V.ref))) p (.ins C dx (putF "edges" (.ref l2) (putF "count" (.int (T.length : Nat)) [])))) p = some (.ins C dx (putF "edges" (.ref l2) (putF "count" (.int (T.length : Nat)) []))) := upd_same
        generalize upd (upd H5 l2 (.tup (bs.map V.ref))) p (.ins C dx (putF "edges" (.ref l2) (putF "count" (.int (T.length : Nat)) []))) = H7 at *
        refine ⟨_, rfl, at_, rfl, ⟨_, SqL.of (off7 _ _ hat npt)⟩, fun D3 hD3 => lc_list (K := K) (a := at_) (xs := rs.map V.ref) (fun j H' => Same H7 H' ∧ H' D3 = some (.lst ((rs.take j).map V.ref)))
          ⟨same_new hD3, upd_same⟩ (fun j H' _ ⟨S, _⟩ => SqL.of (S _ _ (off7 _ _ hat npt))) ?_ ?_⟩
        · rintro j x H8 hj ⟨S8, hD8⟩
          obtain ⟨r, hr', rfl⟩ := rf_of hj
          obtain ⟨row, hrow, hrt⟩ := (hT7.mono S8).at hr'
          refine ⟨rfl, _, rfl, r, _, rfl, SqT.of hrt, _, hD8, ?_, Same.put S8 hD3, ?_⟩
          · rw [List.length_map, List.length_take]
            exact small1000 (by omega)
          · rw [upd_same, List.take_add_one, hr', List.map_append]
            rfl
        rintro H8 ⟨S8, hD8⟩
        rw [List.length_map, List.take_length] at hD8
        refine ⟨D3, _, rfl, .inl ⟨SqL.of hD8, fun l3 nl3 => ?_⟩⟩
        have s9 : Same H8 (upd H8 l3 (.tup (rs.map V.ref))) := same_new nl3
        have hp9 := s9 _ _ (S8 _ _ hp7)
        have np3 : l3 ≠ p := ne_new (S8 _ _ hp7) nl3
        have np2' : l2 ≠ p := np2
        refine ⟨_, rfl, p, C, dx, _, rfl, hp9, T'.cl, T'.nT, Nat.lt_of_le_of_lt (putF_len _ _ _) (Nat.lt_of_le_of_lt (Nat.succ_le_succ (putF_len _ _ _)) (by decide)), ?_⟩
        have good : Good C (upd (upd H8 l3 (.tup (rs.map V.ref))) p (.ins C dx (flds (T.length : Nat) l2 l3))) p E T s := by
          refine ⟨⟨dx, l2, l3, bs, rs, upd_same, ?_, ?_, (hb7.mono (S8.trans s9)).keep (Keeps.ins hp9), (hT7.mono (S8.trans s9)).keep (Keeps.ins hp9)⟩, pl, hme, hnv⟩
          · rw [upd_ne np2]
            exact s9 _ _ (S8 _ _ hl7)
          · rw [upd_ne np3, upd_same]
        have off10 : ∀ b o, H b = some o → b ≠ p → (upd (upd H8 l3 (.tup (rs.map V.ref))) p (.ins C dx (flds (T.length : Nat) l2 l3))) b = some o := fun b o e n => by
          rw [upd_ne n]
          exact s9 _ _ (S8 _ _ (off7 b o e n))
        refine ⟨_, rfl, p, E, T, s, rfl, good, fun H11 d kvs S11 hd hl => ⟨d, kvs, rfl, hd, _, rfl, rfl, _, rfl, iteNS (by rw [hl]) ?_⟩⟩
        refine ⟨_, rfl, p, E, T, s, rfl, good.mono S11, fun H12 fq fs S12 _ hfq hfs => ⟨_, fs.length, rfl, .inl ⟨_, SqL.of hfq, by simp⟩, ?_⟩⟩
        have S1012 := S11.trans S12
        refine ⟨_, rfl, _, _, rfl, rfl, _, rfl, _, as.length, rfl, .inl ⟨_, SqL.of (S1012 _ _ (off10 _ _ hae npe)), by simp⟩, _, _, rfl, rfl, rfl, _, rfl, iteNS ?_ ?_⟩
        · have eu := pl.euler
          have lf := hfs.1
          have : (facesL E s).length + T.length = E.length + 2 := eu
          congr 1
          omega
        · exact q H12 (good.mono S1012).at_ fun b o e n => S1012 _ _ (off10 b o e n)
end
end Wk
namespace Wk
open PySem L2 Rl Mt
abbrev od (l : List (Nat × Nat)) : List Nat := 0 :: l.map Prod.fst
abbrev abk (l : List (Nat × Nat)) : List (Key × V) := ((Sum.inl 0 : Key), V.int (-1)) :: l.map fun q : Nat × Nat => ((Sum.inl (q.1 : Int) : Key), V.int (q.2 : Int))
theorem od_app {l : List (Nat × Nat)} {q : Nat × Nat} : od (l ++ [q]) = od l ++ [q.1] := by simp [od]
theorem abl_not : ∀ {l : List (Nat × Nat)} {x : Nat}, x ∉ l.map Prod.fst → valV (l.map fun q : Nat × Nat => ((Sum.inl (q.1 : Int) : Key), V.int (q.2 : Int))) (Sum.inl (x : Int) : Key) = none
  | [], _, _ => rfl
  | q :: l, x, h => by
    have e : ¬ q.1 = x := fun z => h (by rw [← z]; simp)
    rw [List.map_cons, valV_neg (p := ((Sum.inl (q.1 : Int) : Key), V.int (q.2 : Int))) (key_ne e)]
    exact abl_not fun z => h (by rw [List.map_cons]; exact List.mem_cons_of_mem _ z)
theorem abl_in : ∀ {l : List (Nat × Nat)} {x e : Nat}, (l.map Prod.fst).Nodup → (x, e) ∈ l → valV (l.map fun q : Nat × Nat => ((Sum.inl (q.1 : Int) : Key), V.int (q.2 : Int))) (Sum.inl (x : Int) : Key) = some (.int (e : Int))
  | [], _, _, _, h => by simp at h
  | q :: l, x, e, nd, h => by
    rw [List.map_cons] at nd
    obtain ⟨n1, n2⟩ := List.nodup_cons.mp nd
    rcases List.mem_cons.mp h with z | z
    · subst z
      rw [List.map_cons]
      exact valV_pos (p := ((Sum.inl (x : Int) : Key), V.int (e : Int))) rfl
    · have ne : ¬ q.1 = x := fun y => n1 (by rw [y]; exact List.mem_map.mpr ⟨_, z, rfl⟩)
      rw [List.map_cons, valV_neg (p := ((Sum.inl (q.1 : Int) : Key), V.int (q.2 : Int))) (key_ne ne)]
      exact abl_in n2 z
theorem abk_not {l : List (Nat × Nat)} {x : Nat} (h : x ∉ od l) : valV (abk l) (Sum.inl (x : Int) : Key) = none := by
  have e : ¬ 0 = x := fun z => h (by rw [← z]; simp)
  rw [abk, valV_neg (p := ((Sum.inl 0 : Key), V.int (-1))) (key_ne e)]
  exact abl_not fun z => h (List.mem_cons_of_mem _ z)
theorem abk_some {l : List (Nat × Nat)} {x : Nat} (h : x ∈ od l) : ∃ v, valV (abk l) (Sum.inl (x : Int) : Key) = some v := by
  cases q : valV (abk l) (Sum.inl (x : Int) : Key) with
  | some v => exact ⟨v, rfl⟩
  | none =>
    refine absurd ?_ (valV_not q)
    rcases List.mem_cons.mp h with z | z
    · subst z
      exact List.mem_cons_self ..
    · obtain ⟨p, hp, e⟩ := List.mem_map.mp z
      refine List.mem_cons_of_mem _ ?_
      rw [List.map_map]
      refine List.mem_map.mpr ⟨p, hp, ?_⟩
      show (Sum.inl (p.1 : Int) : Key) = Sum.inl (x : Int)
      rw [e]
theorem abk_at {l : List (Nat × Nat)} {x e : Nat} (nd : (od l).Nodup) (h : (x, e) ∈ l) : valV (abk l) (Sum.inl (x : Int) : Key) = some (.int (e : Int)) := by
  obtain ⟨n1, n2⟩ := List.nodup_cons.mp nd
  have ne : ¬ 0 = x := fun y => n1 (by rw [y]; exact List.mem_map.mpr ⟨_, h, rfl⟩)
  rw [abk, valV_neg (p := ((Sum.inl 0 : Key), V.int (-1))) (key_ne ne)]
  exact abl_in n2 h
theorem abk_put {l : List (Nat × Nat)} {x e : Nat} (h : x ∉ od l) : putK (abk l) (Sum.inl (x : Int) : Key) (.int (e : Int)) = abk (l ++ [(x, e)]) := by
  rw [putK_new _ (abk_not h)]
  simp [abk]
def Cl (m : Nat) (J : Nat → Nat × Nat) (l : List (Nat × Nat)) (a : Nat) : Prop := ∀ (i x : Nat), i < a → (od l)[i]? = some x → ∀ e, e < m → ((J e).1 = x → (J e).2 ∈ od l) ∧ ((J e).2 = x → (J e).1 ∈ od l)
theorem Cl.app {m : Nat} {J : Nat → Nat × Nat} {l : List (Nat × Nat)} {a : Nat} {q : Nat × Nat} (h : Cl m J l a) (ha : a ≤ (od l).length) : Cl m J (l ++ [q]) a := by
  intro i x hi hx e he
  rw [od_app] at hx ⊢
  rw [List.getElem?_append_left (by omega)] at hx
  have := h i x hi hx e he
  exact ⟨fun z => List.mem_append_left _ (this.1 z), fun z => List.mem_append_left _ (this.2 z)⟩
theorem Tr.pre {m : Nat} {J : Nat → Nat × Nat} : ∀ {l2 l1 : List (Nat × Nat)}, Tr m J (l1 ++ l2) → Tr m J l1 := by
  intro l2
  induction l2 with
  | nil => intro l1 h; simpa using h
  | cons q l2 ih =>
    intro l1 h
    have h' : Tr m J ((l1 ++ [q]) ++ l2) := by simpa using h
    exact (Tr.last (ih h') rfl).1
theorem abk_get {H : Hp} {a : Addr} {l : List (Nat × Nat)} {x e : Nat} (h : H a = some (.dK (abk l))) (nd : (od l).Nodup) (hm : (x, e) ∈ l) : DGet H a (.int (x : Int)) (some (.int (e : Int))) := by
  have := DGet.k (k := Sum.inl (x : Int)) h
  rw [abk_at nd hm] at this
  exact this
abbrev alb (Z : List Nat) (d : Nat) : Bool := d % 2 == Z.getD (d / 2) 0
structure Bs (H : Hp) (ab or_ : Addr) (m : Nat) (J : Nat → Nat × Nat) (H' : Hp) (l : List (Nat × Nat)) : Prop where
  sm : Same H H'
  hab : H' ab = some (.dK (abk l))
  hor : H' or_ = some (.lst (iv (od l)))
  tr : Tr m J l
abbrev Sg (p ow jo ab or_ : Addr) (a : Nat) (v6 v7 v8 v9 v10 : Option V) : L2.St := [some (.ref p), some (.ref ow), some (.ref jo), some (.ref ab), some (.ref or_), some (.int (a : Nat)), v6, v7, v8, v9, v10, none, none]
section
variable {P : Program} {w : World} {K : PySem.W.Frag} {mg : Str → Option Value} {base : Heap}
def spGood (C : Addr) : Sp := fun vs H Q _ => ∃ (p : Addr) (E : List (Nat × Nat)) (T : List (List Nat)) (s : Nat → Nat), vs = [.ref p] ∧ Good C H p E T s ∧
  ∀ H' q Z, Same H H' → H q = none → H' q = some (.tup (iv Z)) → Z.length = E.length → (∀ z ∈ Z, z ≤ 1) → (∀ (j : Nat) c, 1 ≤ j → (facesL E s)[j]? = some c → al Z c % 2 = 1) → Q (.ref q) H'
abbrev nG : List Str := ["plane", "own", "joins", "above", "order", "at", "edge", "first", "second", "face", "other", "found", "dart"]
theorem scG : FnScope nG ["plane"] (defScope sGood) := ⟨rfl, rfl, rfl, by decide +kernel, rfl, by decide +kernel, by decide +kernel⟩
theorem ok_good {f fF fD C : Addr} {fd fdF fdD : FuncData} {k : Nat} (F : Fun K "good_orientation" "good_orientation" sGood f fd) (gF : mg "faces" = some (.ref fF)) (kF : PySem.W.keepIn K (.ref fF) = true) (bF : Binds K fdF ["plane"] []) (GF : FnOk P w K mg base CX0 (k + 2) fF fdF ["plane"] (spFaces C))
    (gD : mg "dual_edges" = some (.ref fD)) (kD : PySem.W.keepIn K (.ref fD) = true) (bD : Binds K fdD ["plane"] []) (GD : FnOk P w K mg base CX0 (k + 4) fD fdD ["plane"] (spDual C)) (T' : Txt K mg C) :
    FnOk P w K mg base CX0 (k + 5) f fd ["plane"] (spGood C) := by
  refine F.ok scG (fun vs H Q E h => ?_) (fun cdv A outer s H vs Q E hr h => ?_)
  · obtain ⟨p, _, _, _, rfl, _⟩ := h
    rfl
  · obtain ⟨p, E, T, s, rfl, G, q⟩ := h
    have hu := hu_of hr
    have hrF : Room (k + 2) _ := hr.mono (by omega)
    refine ⟨_, pss_cons (ps_set (i := 1) scG.nd rfl (.inl rfl) (pe_call GF hrF (by rfl) gF kF bF .nil pass0 (pa_cons (pv 0) pa_nil)))
      (pss_cons (ps_set (i := 2) scG.nd rfl (.inl rfl) (pe_call GD hr (by rfl) gD kD bD .nil pass0 (pa_cons (pv 0) pa_nil)))
      (pss_cons (ps_set (i := 3) scG.nd rfl (.inl rfl) (pe_disp (pps_cons pe_int (pe_un un_neg pe_int) pps_nil) (by rfl) (by rfl) (fun z => by cases z) (by decide)))
      (pss_cons (ps_set (i := 4) scG.nd rfl (.inl rfl) (pe_lst (pa_cons pe_int pa_nil)))
      (pss_cons (ps_set (i := 5) scG.nd rfl (.inl rfl) pe_int)
      (pss_cons (ps_while PassesOwn.never (pt_cmpR op_lt (pv 5) (pe_callB call_len (by rfl) T'.len PySem.boot_len (pa_cons (pv 4) pa_nil)) (nomark _))
        (pss_cons (ps_for PassesOwn.never rfl (pi_enum (by rfl) T'.enum (pa_cons (pv 2) pa_nil)) (pg_tup rfl (pgs_cons (pg_name (i := 6) scG.nd rfl (.inl rfl)) (pgs_cons (pg_tup rfl (pgs_cons (pg_name (i := 7) scG.nd rfl (.inl rfl)) (pgs_cons (pg_name (i := 8) scG.nd rfl (.inl rfl)) pgs_nil))) pgs_nil)))
          (pss_one (ps_for PassesOwn.never rfl (pi_tup (pe_tup (pa_cons (pe_tup (pa_cons (pv 7) (pa_cons (pv 8) pa_nil))) (pa_cons (pe_tup (pa_cons (pv 8) (pa_cons (pv 7) pa_nil))) pa_nil)))) (pg_tup rfl (pgs_cons (pg_name (i := 9) scG.nd rfl (.inl rfl)) (pgs_cons (pg_name (i := 10) scG.nd rfl (.inl rfl)) pgs_nil)))
            (pss_one (ps_if (PW.pt (pw_and (pt_cmpR op_eq (pv 9) (pe_ix ix_list (pv 4) (pv 5) (fun _ _ => rfl)) (nomark _)) (pw_and1 (pt_cmp (pc_dnotin hu (pv 10) (pv 3))))))
              (pss_cons (ps_dput hu (pv 3) (pv 10) (pv 6) rfl)
              (pss_one (ps_expr (pe_bm PySem.F.plainAttrs_list PySem.F.slot_list_append PySem.F.type_list_append mt_append (pv 4) (pa_cons (pv 10) pa_nil))))) pss_nil)))))
        (pss_one (ps_aug (i := 5) scG.nd rfl (.inl rfl) pe_int ip_add))))
      (pss_cons (ps_set (i := 11) scG.nd rfl (.inr rfl) (pe_op op_rep (pe_lst (pa_cons pe_int pa_nil)) (pe_callB call_len (by rfl) T'.len PySem.boot_len (pa_cons (pe_fld (pv 0) rfl) pa_nil))))
      (pss_cons (ps_for PassesOwn.never rfl (pi_list (pe_back (pv 4))) (pg_name (i := 9) scG.nd rfl (.inl rfl))
        (pss_one (ps_if (pt_cmpR op_eq (pe_op op_mod (pe_callB call_len (by rfl) T'.len PySem.boot_len (pa_cons
            (pe_lc (own := [("dart", 12)]) (g := gName 12) (by rfl) scG.nd (pi_tup (pe_ix ix_list (pv 1) (pv 9) (fun _ _ => rfl))) (blkOk_by (N := nG) (sc := defScope sGood) (by decide +kernel)) (fun _ _ _ _ _ => pg_name (i := 12) scG.nd rfl (.inl rfl))
              (fun _ _ _ _ _ => pts_one (pt_cmpR op_eq (pe_op op_mod (pv 12) pe_int) (pe_ix (r := rIxL K) ix_list (pv 11) (pe_op op_fdiv (pv 12) pe_int) (fun _ _ => rfl)) (nomark _))) (fun _ _ _ _ _ => pv 12)) pa_nil)) pe_int) pe_int (nomark _))
          (pss_one (ps_asg (pe_op op_sub pe_int (pe_ix ix_list (pv 11) (pe_dget hu (pv 3) (pv 9) (fun _ _ => rfl)) (fun _ _ => rfl))) (pg_sub (pv 11) (pe_dget hu (pv 3) (pv 9) (fun _ _ => rfl)) set_list))) pss_nil)))
      (pss_one (ps_ret (pe_callTy call_tuple_of (by rfl) T'.tuple (by decide +kernel) (pa_cons (pv 11) pa_nil))))))))))), ?_⟩
    have hme := G.me
    have hnv := G.nv
    have nd := facesL_nd G.pl
    generalize hJ : jn (facesL E s) = J
    have F0 : 0 < (facesL E s).length ∧ ∀ e, e < E.length → (J e).1 < (facesL E s).length ∧ (J e).2 < (facesL E s).length := by
      rcases Nat.eq_zero_or_pos E.length with z | z
      · refine ⟨?_, fun e he => by omega⟩
        show 0 < (facesF (ph s) (2 * E.length)).length
        rw [z]
        exact Nat.zero_lt_one
      · have C0 := G.pl.faces z
        refine ⟨Nat.lt_of_le_of_lt (Nat.zero_le _) (nm_lt C0 (d := 0) (by omega)), fun e he => ?_⟩
        rw [← hJ]
        exact ⟨nm_lt C0 (by omega), nm_lt C0 (by omega)⟩
    have Fle : (facesL E s).length ≤ 161 := by
      have h1 := G.pl.euler
      have h2 : (facesL E s).length + T.length = E.length + 2 := h1
      have h3 := G.pl.n1
      omega
    refine ⟨_, rfl, p, E, T, s, rfl, G, fun H1 ow ts s1 _ how hts => ?_⟩
    refine ⟨_, rfl, p, E, T, s, rfl, G.mono s1, fun H2 jo js s2 _ hjo hjs => ?_⟩
    refine fun ab nab => ⟨1, rfl, upd_same, [((Sum.inl 0 : Key), V.int (-1))], rfl, by decide, ?_⟩
    have em : mergeK [] [((Sum.inl 0 : Key), V.int (-1))] = abk [] := rfl
    rw [em, upd_upd]
    refine ⟨by show 1 ≤ sizeLine; decide, fun or_ nor => ?_⟩
    have noa : or_ ≠ ab := ne_new upd_same nor
    have nor2 : H2 or_ = none := by
      rw [upd_ne noa] at nor
      exact nor
    have olen : ∀ {l : List (Nat × Nat)}, Tr E.length J l → (od l).length ≤ (facesL E s).length := fun t => nodup_len t.nodup (t.lt F0.1 F0.2)
    refine ⟨fun m σ H' => ∃ (a : Nat) (l : List (Nat × Nat)) (v6 v7 v8 v9 v10 : Option V), σ = Sg p ow jo ab or_ a v6 v7 v8 v9 v10 ∧ Bs H2 ab or_ E.length J H' l ∧ a ≤ (od l).length ∧ Cl E.length J l a ∧ m = (facesL E s).length - a,
      ⟨_, 0, [], none, none, none, none, none, rfl, ⟨(same_new nab).trans (same_new nor), by rw [upd_ne (Ne.symm noa), upd_same], upd_same, .nil⟩, Nat.zero_le _, fun i x hi => absurd hi (Nat.not_lt_zero _), rfl⟩, ?_⟩
    rintro m σ H3 ⟨a, l, v6, v7, v8, v9, v10, rfl, B, hal, hcl, em'⟩
    refine ⟨_, rfl, _, rfl, _, (iv (od l)).length, rfl, .inl ⟨_, SqL.of B.hor, rfl⟩, _, _, rfl, rfl, _, rfl, ite2 (fun h => ?_) (fun h => ?_)⟩
    · have ha : a < (od l).length := by
        have := of_decide_eq_true h
        rw [iv_len] at this
        omega
      have hol := olen B.tr
      obtain ⟨x, hx⟩ : ∃ x, (od l)[a]? = some x := ⟨(od l)[a], List.getElem?_eq_getElem ha⟩
      refine ⟨fun σ' H' => ∃ (l : List (Nat × Nat)) (v6 v7 v8 v9 v10 : Option V), σ' = Sg p ow jo ab or_ (a + 1) v6 v7 v8 v9 v10 ∧ Bs H2 ab or_ E.length J H' l ∧ a + 1 ≤ (od l).length ∧ Cl E.length J l (a + 1),
        fun σ' H' ⟨l', u6, u7, u8, u9, u10, h1, h2, h3, h4⟩ => ⟨_, by rw [em']; omega, a + 1, l', u6, u7, u8, u9, u10, h1, h2, h3, h4, rfl⟩, ?_⟩
      refine ⟨_, rfl, jo, _, rfl, SqL.of (B.sm _ _ hjo), for_it (walk_enum (K := K) (a := jo) (xs := js.map V.ref)) (fun j σ H' => ∃ (l : List (Nat × Nat)) (v6 v7 v8 v9 v10 : Option V), σ = Sg p ow jo ab or_ a v6 v7 v8 v9 v10 ∧ Bs H2 ab or_ E.length J H' l ∧ (od l)[a]? = some x ∧ Cl E.length J l a ∧
          ∀ e, e < j → ((J e).1 = x → (J e).2 ∈ od l) ∧ ((J e).2 = x → (J e).1 ∈ od l))
        ⟨l, v6, v7, v8, v9, v10, rfl, B, hx, hcl, fun e he => absurd he (Nat.not_lt_zero _)⟩ (fun j σ H' _ ⟨_, _, _, _, _, _, _, B', _⟩ => SqL.of (B'.sm _ _ hjo)) ?_ ?_⟩
      · rintro j y σ H4 H5 hj ⟨l, w6, w7, w8, w9, w10, rfl, B4, hx4, hcl4, hin⟩ ⟨t, x1, x2, rfl, nt, rfl, e1, e2⟩
        cases e1
        obtain ⟨b, hb, rfl⟩ := rf_of e2
        obtain ⟨g, hg, hbg⟩ := (hjs.mono B4.sm).at hb
        have hjm : j < E.length := by
          have := (List.getElem?_eq_some_iff.mp hg).1
          rw [List.length_map, List.length_range] at this
          exact this
        have eg : g = pr (J j) := by
          rw [List.getElem?_map, List.getElem?_range hjm] at hg
          rw [← hJ]
          exact (Option.some.inj hg).symm
        subst eg
        have s5 : Same H4 (upd H4 t (.tup [.int (j : Nat), .ref b])) := same_new nt
        refine ⟨t, _, rfl, SqT.of upd_same, rfl, _, _, rfl, _, _, rfl, ⟨b, _, rfl, SqT.of (s5 _ _ hbg), rfl, _, _, rfl, _, _, rfl, rfl, rfl, ?_⟩⟩
        refine ⟨_, rfl, _, rfl, by show 2 ≤ sizeLine; decide, fun t1 n1 => ⟨_, rfl, _, rfl, by show 2 ≤ sizeLine; decide, fun t2 n2 => ⟨by show 2 ≤ sizeLine; decide, fun t3 n3 => ?_⟩⟩⟩
        have s6 := s5.trans (same_new (o := HO.tup [(fun d : Nat => V.int (d : Int)) (J j).1, (fun d : Nat => V.int (d : Int)) (J j).2]) n1)
        have s7 := same_new (o := HO.tup [(fun d : Nat => V.int (d : Int)) (J j).2, (fun d : Nat => V.int (d : Int)) (J j).1]) n2
        have s8 := same_new (o := HO.tup [V.ref t1, V.ref t2]) n3
        have h1 := s8 _ _ (s7 _ _ (upd_same (a := t1) (o := HO.tup [(fun d : Nat => V.int (d : Int)) (J j).1, (fun d : Nat => V.int (d : Int)) (J j).2])))
        have h2 := s8 _ _ (upd_same (a := t2) (o := HO.tup [(fun d : Nat => V.int (d : Int)) (J j).2, (fun d : Nat => V.int (d : Int)) (J j).1]))
        have s48 := s6.trans (s7.trans s8)
        refine ⟨t3, rfl, ⟨_, SqT.of upd_same⟩, ?_⟩
        have h3 := upd_same (H := upd (upd (upd H4 t (.tup [.int (j : Nat), .ref b])) t1 (.tup [(fun d : Nat => V.int (d : Int)) (J j).1, (fun d : Nat => V.int (d : Int)) (J j).2])) t2 (.tup [(fun d : Nat => V.int (d : Int)) (J j).2, (fun d : Nat => V.int (d : Int)) (J j).1])) (a := t3) (o := HO.tup [V.ref t1, V.ref t2])
        have B8 : Bs H2 ab or_ E.length J _ l := ⟨B4.sm.trans s48, s48 _ _ B4.hab, s48 _ _ B4.hor, B4.tr⟩
        revert h1 h2 h3 B8
        generalize upd (upd (upd (upd H4 t (.tup [.int (j : Nat), .ref b])) t1 (.tup [(fun d : Nat => V.int (d : Int)) (J j).1, (fun d : Nat => V.int (d : Int)) (J j).2])) t2 (.tup [(fun d : Nat => V.int (d : Int)) (J j).2, (fun d : Nat => V.int (d : Int)) (J j).1])) t3 (.tup [V.ref t1, V.ref t2]) = HX
        intro h1 h2 h3 B8
        refine for_tup (K := K) (a := t3) (xs := [V.ref t1, V.ref t2]) (fun i σ H' => ∃ (l : List (Nat × Nat)) (v9 v10 : Option V), σ = Sg p ow jo ab or_ a (some (.int (j : Nat))) (some (.int ((J j).1 : Nat))) (some (.int ((J j).2 : Nat))) v9 v10 ∧ Bs H2 ab or_ E.length J H' l ∧ (od l)[a]? = some x ∧ Cl E.length J l a ∧
            (∀ e, e < j → ((J e).1 = x → (J e).2 ∈ od l) ∧ ((J e).2 = x → (J e).1 ∈ od l)) ∧ Keeps HX H' ∧ (1 ≤ i → (J j).1 = x → (J j).2 ∈ od l) ∧ (2 ≤ i → (J j).2 = x → (J j).1 ∈ od l))
          ⟨l, w9, w10, rfl, B8, hx4, hcl4, hin, Keeps.refl _, fun z => absurd z (by decide), fun z => absurd z (by decide)⟩ (fun i σ H' _ ⟨_, _, _, _, _, _, _, _, kp, _⟩ => SqT.of (kp _ _ h3)) ?_ ?_
        · rintro i y σ H6 hi ⟨l, u9, u10, rfl, B6, hx6, hcl6, hin6, kp6, k1, k2⟩
          obtain ⟨u, v, tt, rfl, htt, huv⟩ : ∃ (u v : Nat) (tt : Addr), y = .ref tt ∧ H6 tt = some (.tup [.int (u : Nat), .int (v : Nat)]) ∧ (i = 0 ∧ u = (J j).1 ∧ v = (J j).2 ∨ i = 1 ∧ u = (J j).2 ∧ v = (J j).1) := by
            match i, hi with
            | 0, hi => exact ⟨_, _, t1, (Option.some.inj hi).symm, kp6 _ _ h1, .inl ⟨rfl, rfl, rfl⟩⟩
            | 1, hi => exact ⟨_, _, t2, (Option.some.inj hi).symm, kp6 _ _ h2, .inr ⟨rfl, rfl, rfl⟩⟩
            | i + 2, hi => simp at hi
          have step : ∀ {H' : Hp} {l' : List (Nat × Nat)}, Bs H2 ab or_ E.length J H' l' → (od l')[a]? = some x → Cl E.length J l' a → (∀ z ∈ od l, z ∈ od l') → Keeps HX H' → (u = x → v ∈ od l') →
              ∃ (l : List (Nat × Nat)) (v9 v10 : Option V), Sg p ow jo ab or_ a (some (.int (j : Nat))) (some (.int ((J j).1 : Nat))) (some (.int ((J j).2 : Nat))) (some (.int (u : Nat))) (some (.int (v : Nat))) = Sg p ow jo ab or_ a (some (.int (j : Nat))) (some (.int ((J j).1 : Nat))) (some (.int ((J j).2 : Nat))) v9 v10 ∧ Bs H2 ab or_ E.length J H' l ∧ (od l)[a]? = some x ∧ Cl E.length J l a ∧
                (∀ e, e < j → ((J e).1 = x → (J e).2 ∈ od l) ∧ ((J e).2 = x → (J e).1 ∈ od l)) ∧ Keeps HX H' ∧ (1 ≤ i + 1 → (J j).1 = x → (J j).2 ∈ od l) ∧ (2 ≤ i + 1 → (J j).2 = x → (J j).1 ∈ od l) := fun {H' l'} b1 b2 b3 b4 b5 b6 => by
            refine ⟨l', _, _, rfl, b1, b2, b3, fun e he => ⟨fun z => b4 _ ((hin6 e he).1 z), fun z => b4 _ ((hin6 e he).2 z)⟩, b5, fun _ z => ?_, fun hi2 z => ?_⟩
            · rcases huv with ⟨_, e1, e2⟩ | ⟨e0, e1, e2⟩
              · rw [← e2]
                exact b6 (e1.trans z)
              · exact b4 _ (k1 (by omega) z)
            · rcases huv with ⟨e0, e1, e2⟩ | ⟨e0, e1, e2⟩
              · omega
              · rw [← e2]
                exact b6 (e1.trans z)
          have hol6 := olen B6.tr
          have hln : (od l).length = l.length + 1 := by simp [od]
          refine ⟨tt, _, rfl, SqT.of htt, rfl, _, _, rfl, _, _, rfl, rfl, ?_⟩
          refine ⟨_, rfl, _, rfl, _, rfl, or_, _, _, V.int (x : Nat), rfl, rfl, SqL.of B6.hor, atI_nat (iv_get hx6), rfl, _, rfl, ite2 (fun h => ?_) (fun h => ?_)⟩
          · have hux : u = x := by
              have := V.int.inj (of_decide_eq_true h)
              omega
            refine ⟨_, rfl, _, rfl, ab, _, rfl, DGet.k (k := Sum.inl (v : Int)) B6.hab, _, rfl, ?_⟩
            by_cases hv : v ∈ od l
            · obtain ⟨z, hz⟩ := abk_some hv
              rw [hz]
              exact step B6 hx6 hcl6 (fun _ h => h) kp6 fun _ => hv
            · rw [abk_not hv]
              have hJv : J j = (v, x) ∨ J j = (x, v) := by
                rcases huv with ⟨_, e1, e2⟩ | ⟨_, e1, e2⟩
                · exact .inr (by rw [← hux, e1, e2])
                · exact .inl (by rw [← hux, e1, e2])
              have tr2 : Tr E.length J (l ++ [(v, j)]) := .snoc B6.tr hjm hJv (List.mem_of_getElem? hx6) hv
              have hol7 := olen tr2
              refine ⟨_, rfl, _, rfl, _, rfl, ab, _, rfl, DPut.k (k := Sum.inl (v : Int)) B6.hab ?_, ?_⟩
              · rw [List.length_cons, List.length_map]
                exact small1000 (by omega)
              rw [abk_put hv]
              have hor7 : (upd H6 ab (.dK (abk (l ++ [(v, j)])))) or_ = some (.lst (iv (od l))) := by rw [upd_ne noa]; exact B6.hor
              refine ⟨_, rfl, .inl ⟨rfl, _, SqL.of hor7⟩, _, rfl, or_, _, _, rfl, rfl, hor7, by rw [iv_len]; exact small1000 (by omega), ?_⟩
              have ea : iv (od l) ++ [V.int (v : Nat)] = iv (od (l ++ [(v, j)])) := by
                rw [od_app, iv_app]
                rfl
              rw [ea]
              refine step ⟨Same.put (Same.put B6.sm nab) nor2, by rw [upd_ne (Ne.symm noa), upd_same], upd_same, tr2⟩ ?_ (hcl6.app ?_) (fun z hz => ?_) ((kp6.trans (Keeps.dct B6.hab)).trans (Keeps.lst hor7)) fun _ => ?_
              · rw [od_app, List.getElem?_append_left (List.getElem?_eq_some_iff.mp hx6).1]
                exact hx6
              · exact Nat.le_of_lt (List.getElem?_eq_some_iff.mp hx6).1
              · rw [od_app]
                exact List.mem_append_left _ hz
              · rw [od_app]
                simp
          · have hux : ¬ u = x := fun z => h (decide_eq_true (by rw [z]))
            exact step B6 hx6 hcl6 (fun _ h => h) kp6 fun z => absurd z hux
        · rintro σ H6 ⟨l, u9, u10, rfl, B6, hx6, hcl6, hin6, kp6, k1, k2⟩
          refine ⟨l, _, _, _, _, _, rfl, B6, hx6, hcl6, fun e he => ?_⟩
          rcases Nat.lt_or_ge e j with z | z
          · exact hin6 e z
          · have : e = j := by omega
            subst this
            exact ⟨k1 (by show 1 ≤ 2; decide), k2 (Nat.le_refl _)⟩
      · rintro σ H4 ⟨l, w6, w7, w8, w9, w10, rfl, B4, hx4, hcl4, hin⟩
        have ljs : (js.map V.ref).length = E.length := by
          rw [List.length_map, hjs.1, List.length_map, List.length_range]
        rw [ljs] at hin
        have ha4 := (List.getElem?_eq_some_iff.mp hx4).1
        refine ⟨_, rfl, _, _, rfl, rfl, ?_⟩
        refine ⟨l, _, _, _, _, _, rfl, B4, ha4, fun i y hi hy e he => ?_⟩
        rcases Nat.lt_or_ge i a with z | z
        · exact hcl4 i y z hy e he
        · have : i = a := by omega
          subst this
          rw [hx4] at hy
          cases hy
          exact hin e he
    · have ha : (od l).length ≤ a := by
        rcases Nat.lt_or_ge a (od l).length with z | z
        · exact absurd (decide_eq_true (by rw [iv_len]; omega)) h
        · exact z
      have hol := olen B.tr
      have hln : (od l).length = l.length + 1 := by simp [od]
      have allf : ∀ j, j < (facesL E s).length → j ∈ od l := dual_conn G.pl (S := fun j => j ∈ od l) (by simp) fun e he => by
        show (jn (facesL E s) e).1 ∈ od l ↔ (jn (facesL E s) e).2 ∈ od l
        rw [hJ]
        constructor
        · intro z
          obtain ⟨i, hi, e1⟩ := List.mem_iff_getElem.mp z
          exact (hcl i _ (by omega) (by rw [List.getElem?_eq_getElem hi, e1]) e he).1 rfl
        · intro z
          obtain ⟨i, hi, e1⟩ := List.mem_iff_getElem.mp z
          exact (hcl i _ (by omega) (by rw [List.getElem?_eq_getElem hi, e1]) e he).2 rfl
      have S23 : Same H H3 := (s1.trans s2).trans B.sm
      obtain ⟨dx, ae, at_, as, rs, hp, hae, hat, hE, hT⟩ := (G.mono S23).at_
      have lE : as.length = E.length := by
        have := hE.1
        simpa using this
      refine ⟨by show 1 ≤ sizeLine; decide, fun l0 n0 => ?_⟩
      have s4 : Same H3 (upd H3 l0 (.lst [.int 0])) := same_new n0
      refine ⟨_, rfl, p, C, dx, _, _, rfl, s4 _ _ hp, T'.cl, T'.nE, flds_edges _ _ _, _, as.length, rfl, .inr ⟨_, SqT.of (s4 _ _ hae), by simp⟩, l0, _, _, rfl, rfl, upd_same, by omega, by omega, ?_, fun fo nfo => ?_⟩
      · show 1 * (as.length : Int).toNat ≤ sizeLine
        rw [sizeLine_eq]
        omega
      have hz : (List.replicate (as.length : Int).toNat [V.int 0]).flatten = iv (List.replicate E.length 0) := by
        rw [lE, show (E.length : Int).toNat = E.length by omega]
        simp [iv]
      rw [hz]
      have nfo3 : H3 fo = none := s4.free nfo
      have S5 : Same H3 (upd (upd H3 l0 (.lst [.int 0])) fo (.lst (iv (List.replicate E.length 0)))) := s4.trans (same_new nfo)
      have hor3 : (upd (upd H3 l0 (.lst [.int 0])) fo (.lst (iv (List.replicate E.length 0)))) or_ = some (.lst (V.int ((0 : Nat) : Int) :: iv (l.map Prod.fst))) := S5 _ _ B.hor
      refine ⟨_, rfl, or_, _, _, rfl, SqL.of hor3, fun bk nbk => ⟨bk, rfl, ⟨_, SqL.of upd_same⟩, ?_⟩⟩
      have nbf : bk ≠ fo := fun z => by
        rw [z, upd_same] at nbk
        cases nbk
      refine for_list (K := K) (a := bk) (xs := (iv (l.map Prod.fst)).reverse) (fun i σ H' => ∃ (v9 : Option V) (Z : List Nat), σ = [some (.ref p), some (.ref ow), some (.ref jo), some (.ref ab), some (.ref or_), some (.int (a : Nat)), v6, v7, v8, v9, v10, some (.ref fo), none] ∧ Same H3 H' ∧
          H' bk = some (.lst (iv (l.map Prod.fst)).reverse) ∧ H' fo = some (.lst (iv Z)) ∧ Z.length = E.length ∧ (∀ z ∈ Z, z ≤ 1) ∧ ∀ g ∈ (l.map Prod.fst).drop (l.length - i), ∀ c, (facesL E s)[g]? = some c → al Z c % 2 = 1)
        ⟨v9, _, rfl, S5.trans (same_new nbk), upd_same, by rw [upd_ne (Ne.symm nbf), upd_same], List.length_replicate .., fun z hz => by rw [List.eq_of_mem_replicate hz]; exact Nat.zero_le _, fun g hg => by
          rw [Nat.sub_zero, List.drop_of_length_le (by rw [List.length_map]; exact Nat.le_refl _)] at hg
          cases hg⟩ (fun i σ H' _ ⟨_, _, _, _, hb, _⟩ => SqL.of hb) ?_ ?_
      · rintro i y σ H6 hi ⟨u9, Z, rfl, S6, hbk, hfo, hZ, hZ1, hdone⟩
        have hil : i < l.length := by
          have := (List.getElem?_eq_some_iff.mp hi).1
          simpa using this
        obtain ⟨ge, hge⟩ : ∃ ge, l[l.length - 1 - i]? = some ge := ⟨l[l.length - 1 - i]'(by omega), List.getElem?_eq_getElem (by omega)⟩
        obtain ⟨g, e⟩ := ge
        have ey : y = .int (g : Nat) := by
          rw [List.getElem?_reverse (by simpa using hil), iv_len, List.length_map] at hi
          have : (iv (l.map Prod.fst))[l.length - 1 - i]? = some (V.int (g : Nat)) := iv_get (by rw [List.getElem?_map, hge]; rfl)
          rw [this] at hi
          exact (Option.some.inj hi).symm
        subst ey
        obtain ⟨l1, l2, el, hl1, _⟩ := set_split hge
        have tr1 : Tr E.length J (l1 ++ [(g, e)]) := Tr.pre (l2 := l2) (by rw [show (l1 ++ [(g, e)]) ++ l2 = l by rw [el]; simp]; exact B.tr)
        obtain ⟨_, hem, _, hgn⟩ := tr1.last rfl
        have hmem : (g, e) ∈ l := List.mem_of_getElem? hge
        have hgF : g < (facesL E s).length := B.tr.lt F0.1 F0.2 g (List.mem_cons_of_mem _ (List.mem_map.mpr ⟨_, hmem, rfl⟩))
        obtain ⟨c, hc⟩ : ∃ c, (facesL E s)[g]? = some c := ⟨(facesL E s)[g], List.getElem?_eq_getElem hgF⟩
        have C0 := G.pl.faces (E := E) (by omega)
        have hts6 : Tups H6 ts (facesL E s) := hts.mono ((s2.trans B.sm).trans S6)
        obtain ⟨tg, htg⟩ : ∃ tg, ts[g]? = some tg := ⟨ts[g]'(by rw [hts6.1]; exact hgF), List.getElem?_eq_getElem _⟩
        have htc := hts6.2 g tg c htg hc
        have how6 := S6 _ _ (B.sm _ _ (s2 _ _ how))
        have hab6 := S6 _ _ B.hab
        have hcd : ∀ d ∈ c, d < 2 * E.length := fun d hd => facesL_lt G.pl (List.mem_of_getElem? hc) hd
        have hcl2 : c.length ≤ 2 * E.length := nodup_len (flatten_nodup nd (List.mem_of_getElem? hc)) hcd
        have gd : ∀ d, d < 2 * E.length → Z[d / 2]? = some (Z.getD (d / 2) 0) := fun d hd => by
          have h1 : d / 2 < Z.length := by omega
          rw [List.getD_eq_getElem?_getD, List.getElem?_eq_getElem h1]
          rfl
        refine ⟨_, rfl, _, rfl, ow, _, _, V.ref tg, rfl, rfl, SqL.of how6, atI_nat (rf_get htg), tg, rfl, ⟨_, SqT.of htc⟩, fun D hD => ?_⟩
        refine lc_tup (K := K) (a := tg) (xs := iv c) (fun n H' => Same H6 H' ∧ H' D = some (.lst (iv ((c.take n).filter (alb Z))))) ⟨same_new hD, upd_same⟩ (fun n H' _ ⟨S, _⟩ => SqT.of (S _ _ htc)) ?_ ?_
        · rintro n y H7 hn ⟨S7, hD7⟩
          obtain ⟨d, hd, rfl⟩ := iv_of hn
          have hdc := List.mem_of_getElem? hd
          have hdl := hcd d hdc
          refine ⟨rfl, ?_⟩
          refine ⟨_, rfl, _, _, rfl, rfl, by show (0 : Int) < 2; decide, _, rfl, _, rfl, _, _, rfl, rfl, ⟨by decide, by decide⟩, fo, _, _, V.int (Z.getD (d / 2) 0 : Nat), rfl, rfl, SqL.of (S7 _ _ hfo), ?_, rfl, _, rfl, ?_⟩
          · rw [show ((d : Nat) : Int) / 2 = ((d / 2 : Nat) : Int) by omega]
            exact atI_nat (iv_get (gd d hdl))
          · by_cases hb : d % 2 = Z.getD (d / 2) 0
            · rw [decide_eq_true (show V.int (((d : Nat) : Int) % 2) = V.int ((Z.getD (d / 2) 0 : Nat) : Int) by congr 1; omega)]
              refine ⟨_, rfl, _, hD7, ?_, Same.put S7 hD, ?_⟩
              · rw [iv_len]
                have h1 := List.length_filter_le (alb Z) (c.take n)
                have h2 : (c.take n).length ≤ c.length := by
                  rw [List.length_take]
                  exact Nat.min_le_right _ _
                exact small1000 (by omega)
              · rw [upd_same, List.take_add_one, hd, List.filter_append]
                have : List.filter (alb Z) (some d).toList = [d] := by
                  show List.filter (alb Z) [d] = [d]
                  rw [List.filter_cons, if_pos (by simpa [alb] using hb)]
                  rfl
                rw [this, iv_app]
                rfl
            · rw [decide_eq_false (show ¬ V.int (((d : Nat) : Int) % 2) = V.int ((Z.getD (d / 2) 0 : Nat) : Int) from fun z => hb (by have := V.int.inj z; omega))]
              refine ⟨S7, ?_⟩
              rw [hD7, List.take_add_one, hd, List.filter_append]
              have : List.filter (alb Z) (some d).toList = [] := by
                show List.filter (alb Z) [d] = []
                rw [List.filter_cons, if_neg (by simpa [alb] using hb)]
                rfl
              rw [this, List.append_nil]
        · rintro H7 ⟨S7, hD7⟩
          rw [iv_len, List.take_length] at hD7
          have S37 := S6.trans S7
          have hfo7 := S7 _ _ hfo
          have hln2 : (iv (c.filter (alb Z))).length = al Z c := iv_len
          have hst : (l.map Prod.fst).drop (l.length - (i + 1)) = g :: (l.map Prod.fst).drop (l.length - i) := by
            have h1 : l.length - (i + 1) < (l.map Prod.fst).length := by rw [List.length_map]; omega
            have h2 : l.length - (i + 1) + 1 = l.length - i := by omega
            rw [← List.getElem_cons_drop h1, h2]
            congr 1
            have h3 : (l.map Prod.fst)[l.length - (i + 1)]? = some g := by
              rw [List.getElem?_map, show l.length - (i + 1) = l.length - 1 - i by omega, hge]
              rfl
            exact (List.getElem?_eq_some_iff.mp h3).2
          have odd_new : ∀ Z' : List Nat, al Z' c % 2 = 1 → (∀ g' ∈ (l.map Prod.fst).drop (l.length - i), ∀ c', (facesL E s)[g']? = some c' → al Z' c' % 2 = 1) → ∀ g' ∈ (l.map Prod.fst).drop (l.length - (i + 1)), ∀ c', (facesL E s)[g']? = some c' → al Z' c' % 2 = 1 := fun Z' h1 h2 g' hg' c' hc' => by
            rw [hst] at hg'
            rcases List.mem_cons.mp hg' with z | z
            · subst z
              rw [hc] at hc'
              cases hc'
              exact h1
            · exact h2 g' z c' hc'
          refine ⟨_, _, rfl, .inl ⟨_, SqL.of hD7, rfl⟩, _, _, rfl, rfl, by show (0 : Int) < 2; decide, rfl, _, rfl, ite2 (fun h => ?_) (fun h => ?_)⟩
          · have hev : al Z c % 2 = 0 := by
              have := V.int.inj (of_decide_eq_true h)
              rw [hln2] at this
              omega
            obtain ⟨z, hz⟩ : ∃ z, Z[e]? = some z := ⟨Z[e]'(by omega), List.getElem?_eq_getElem (by omega)⟩
            have z1 := hZ1 z (List.mem_of_getElem? hz)
            have fl := flip_ok C0 (by rw [hJ]; exact tr1) hc hz z1
            have nod : (od l).Nodup := B.tr.nodup
            refine ⟨_, rfl, _, rfl, _, rfl, ab, _, rfl, abk_get (S37 _ _ B.hab) nod hmem, fo, _, _, V.int (z : Nat), rfl, rfl, SqL.of hfo7, atI_nat (iv_get hz), _, _, rfl, rfl, ?_⟩
            refine ⟨_, rfl, _, rfl, _, rfl, ab, _, rfl, abk_get (S37 _ _ B.hab) nod hmem, fo, _, _, e, rfl, rfl, hfo7, ixN_nat (by rw [iv_len]; omega), ?_⟩
            have ez : (V.int (1 - ((z : Nat) : Int))) = V.int ((1 - z : Nat) : Int) := by
              congr 1
              omega
            have hset : (iv Z).set e ((fun i j : Int => V.int (i - j)) 1 ((z : Nat) : Int)) = iv (Z.set e (1 - z)) := by
              show (iv Z).set e (V.int (1 - ((z : Nat) : Int))) = _
              rw [ez, iv_set]
            refine ⟨_, Z.set e (1 - z), rfl, Same.put S37 nfo3, by rw [upd_ne nbf]; exact S7 _ _ hbk, Eq.trans upd_same (congrArg (fun l => some (HO.lst l)) hset), by rw [List.length_set]; exact hZ, fun z' hz' => ?_, odd_new _ ?_ fun g' hg' c' hc' => ?_⟩
            · rcases List.mem_or_eq_of_mem_set hz' with h | h
              · exact hZ1 z' h
              · rw [h]
                omega
            · have := fl.1
              omega
            · rw [fl.2 g' c' ?_ hc']
              · exact hdone g' hg' c' hc'
              · intro hin
                have h1 : (l1 ++ [(g, e)]).length = l.length - i := by
                  rw [List.length_append, List.length_singleton]
                  omega
                have h2 : l.map Prod.fst = (l1 ++ [(g, e)]).map Prod.fst ++ l2.map Prod.fst := by
                  rw [← List.map_append]
                  congr 1
                  rw [el]
                  simp
                have h3 : (l.map Prod.fst).drop (l.length - i) = l2.map Prod.fst := by
                  rw [h2, ← h1]
                  exact List.drop_left' (by rw [List.length_map])
                rw [h3] at hg'
                have nod' := nod
                rw [od, h2, ← List.cons_append, List.nodup_append] at nod'
                exact nod'.2.2 g' hin g' hg' rfl
          · have hodd : al Z c % 2 = 1 := by
              have h1 : ¬ al Z c % 2 = 0 := fun z => h (decide_eq_true (by
                show V.int (((iv (c.filter (alb Z))).length : Int) % 2) = V.int 0
                rw [hln2]
                congr 1
                omega))
              omega
            exact ⟨_, Z, rfl, S37, S7 _ _ hbk, hfo7, hZ, hZ1, odd_new Z hodd hdone⟩
      · rintro σ H6 ⟨u9, Z, rfl, S6, hbk, hfo, hZ, hZ1, hdone⟩
        refine ⟨_, rfl, fo, _, rfl, .inl ⟨SqL.of hfo, fun t nt => ?_⟩⟩
        have s7 : Same H6 (upd H6 t (.tup (iv Z))) := same_new nt
        have S06 := S23.trans S6
        refine q _ t Z (S06.trans s7) (S06.free nt) upd_same hZ hZ1 fun j c hj hc => ?_
        have hjl := (List.getElem?_eq_some_iff.mp hc).1
        have hjo := allf j hjl
        have hjm : j ∈ l.map Prod.fst := by
          rcases List.mem_cons.mp hjo with z | z
          · omega
          · exact z
        refine hdone j ?_ c hc
        rw [List.length_reverse, iv_len, List.length_map, Nat.sub_self, List.drop_zero]
        exact hjm
end
end Wk
namespace Wk
open PySem L2 Rl Mt
section
variable {P : Program} {w : World} {K : PySem.W.Frag} {mg : Str → Option Value} {base : Heap}
def cellN (ns : List Int) (k : Nat) : Int := ns.getD k 0
def spCell (K : PySem.W.Frag) : Sp := fun vs H Q _ => ∃ (a : Addr) (ns : List Int) (k : Nat), vs = [.ref a, .int (k : Nat)] ∧ SqL K H a (ns.map V.int) ∧ Q (.int (cellN ns k)) H
theorem scC : FnScope ["_law_script", "_law_k"] ["_law_script", "_law_k"] (defScope sCell) := ⟨rfl, rfl, rfl, by decide +kernel, rfl, by decide +kernel, by decide +kernel⟩
theorem ok_cell {f C : Addr} {fd : FuncData} {k : Nat} (F : Fun K "_law_cell" "_law_cell" sCell f fd) (T' : Txt K mg C) : FnOk P w K mg base CX0 (k + 1) f fd ["_law_script", "_law_k"] (spCell K) := by
  refine F.ok scC (fun vs H Q E h => ?_) (fun cdv A outer s H vs Q E hr h => ?_)
  · obtain ⟨a, ns, k, rfl, _⟩ := h
    rfl
  · obtain ⟨a, ns, k, rfl, hS, q⟩ := h
    refine ⟨_, pss_cons (ps_if (pt_cmpR op_lt (pv 1) (pe_callB call_len (by rfl) T'.len PySem.boot_len (pa_cons (pv 0) pa_nil)) (nomark _))
        (pss_one (ps_ret (pe_callTy call_int1 (by rfl) T'.int (by decide +kernel) (pa_cons (pe_ix ix_list (pv 0) (pv 1) (fun _ _ => rfl)) pa_nil)))) pss_nil)
      (pss_one (ps_ret pe_int)), ?_⟩
    refine ⟨_, rfl, _, rfl, _, (ns.map V.int).length, rfl, .inl ⟨_, hS, rfl⟩, _, _, rfl, rfl, _, rfl, ite2 (fun h => ?_) (fun h => ?_)⟩
    · have hk : k < ns.length := by
        have := of_decide_eq_true h
        rw [List.length_map] at this
        omega
      have e : cellN ns k = ns[k] := by
        unfold cellN
        rw [List.getD_eq_getElem?_getD, List.getElem?_eq_getElem hk]
        rfl
      rw [e] at q
      refine ⟨_, rfl, _, rfl, a, _, _, V.int ns[k], rfl, rfl, hS, atI_nat ?_, .inl ⟨_, rfl, q⟩⟩
      rw [List.getElem?_map, List.getElem?_eq_getElem hk]
      rfl
    · have hk : ns.length ≤ k := by
        rcases Nat.lt_or_ge k ns.length with z | z
        · exact absurd (decide_eq_true (by rw [List.length_map]; omega)) h
        · exact z
      have e : cellN ns k = 0 := by
        unfold cellN
        rw [List.getD_eq_getElem?_getD, List.getElem?_eq_none hk]
        rfl
      rw [e] at q
      exact q
def spMix : Sp := fun vs H Q _ => ∃ (c k : Int), vs = [.int c, .int k] ∧ ∀ r : Nat, Q (.int (r : Int)) H
theorem scM : FnScope ["_law_cell_here", "_law_k", "_law_number"] ["_law_cell_here", "_law_k"] (defScope sMix) := ⟨rfl, rfl, rfl, by decide +kernel, rfl, by decide +kernel, by decide +kernel⟩
theorem ok_mix {f C : Addr} {fd : FuncData} {k : Nat} (F : Fun K "_law_mix" "_law_mix" sMix f fd) (T' : Txt K mg C) : FnOk P w K mg base CX0 (k + 1) f fd ["_law_cell_here", "_law_k"] spMix := by
  refine F.ok scM (fun vs H Q E h => ?_) (fun cdv A outer s H vs Q E hr h => ?_)
  · obtain ⟨c, k, rfl, _⟩ := h
    rfl
  · obtain ⟨c, k, rfl, q⟩ := h
    refine ⟨_, pss_cons (ps_set (i := 2) scM.nd rfl (.inl rfl) (pe_op op_mod (pe_callTy call_int1 (by rfl) T'.int (by decide +kernel) (pa_cons (pe_op op_add (pe_op op_add (pe_op op_mul (pv 0) pe_int) (pe_op op_mul (pv 1) pe_int)) pe_int) pa_nil)) pe_int))
      (pss_cons (ps_set (i := 2) scM.nd rfl (.inl rfl) (pe_op op_mod (pe_callTy call_int1 (by rfl) T'.int (by decide +kernel) (pa_cons (pe_op op_add (pe_op op_add (pe_op op_mul (pv 2) pe_int) (pe_op op_mul (pv 1) pe_int)) pe_int) pa_nil)) pe_int))
      (pss_one (ps_ret (pe_op op_fdiv (pv 2) pe_int)))), ?_⟩
    refine ⟨_, rfl, _, _, rfl, rfl, .inr ⟨by decide, by decide⟩, _, rfl, _, _, rfl, rfl, .inr ⟨by decide, by decide⟩, _, _, rfl, rfl, _, _, rfl, rfl, .inl ⟨_, rfl, _, _, rfl, rfl, by show (0 : Int) < 2147483647; decide, ?_⟩⟩
    refine ⟨_, rfl, _, _, rfl, rfl, .inr ⟨by decide, by decide⟩, _, rfl, _, _, rfl, rfl, .inr ⟨by decide, by decide⟩, _, _, rfl, rfl, _, _, rfl, rfl, .inl ⟨_, rfl, _, _, rfl, rfl, by show (0 : Int) < 2147483629; decide, ?_⟩⟩
    refine ⟨_, rfl, _, _, rfl, rfl, ⟨by decide, by decide⟩, ?_⟩
    generalize (c * 48271 + k * 69621 + 12345) % 2147483647 * 16807 + k * 40692 + 777 = y
    have h0 : 0 ≤ y % 2147483629 / 997 := by
      have := Int.emod_nonneg y (show (2147483629 : Int) ≠ 0 by decide)
      omega
    have := q (y % 2147483629 / 997).toNat
    rw [Int.toNat_of_nonneg h0] at this
    exact this
def spT0 : Sp := fun vs H Q _ => ∃ i : Int, vs = [.int i] ∧ Q (.bl true) H
def spT1 : Sp := fun vs H Q _ => ∃ (a : Addr) (Z : List Nat), vs = [.ref a] ∧ H a = some (.tup (iv Z)) ∧ Z.length ≤ 1000 ∧ ∀ H', Same H H' → Q (.bl true) H'
theorem scT : FnScope ["_law_thing", "_law_part"] ["_law_thing"] (defScope sTups) := ⟨rfl, rfl, rfl, by decide +kernel, rfl, by decide +kernel, by decide +kernel⟩
theorem ok_t0 {f C : Addr} {fd : FuncData} {k : Nat} (F : Fun K "_law_tuples" "_law_tuples" sTups f fd) (T' : Txt K mg C) : FnOk P w K mg base CX0 (k + 1) f fd ["_law_thing"] spT0 := by
  refine F.ok scT (fun vs H Q E h => ?_) (fun cdv A outer s H vs Q E hr h => ?_)
  · obtain ⟨i, rfl, _⟩ := h
    rfl
  · obtain ⟨i, rfl, q⟩ := h
    refine ⟨_, pss_cons (ps_if (pt_val (pe_callB call_isi (by rfl) T'.isi PyProof.Rows.boot_isinstance (pa_cons (pv 0) (pa_cons (pe_bltn (v := .ty "tuple") (by rfl) T'.tuple (by decide +kernel) rfl) pa_nil)))) pss_never pss_nil)
      (pss_one (ps_ret (pe_and (pe_callB call_isi (by rfl) T'.isi PyProof.Rows.boot_isinstance (pa_cons (pv 0) (pa_cons (pe_bltn (v := .ty "int") (by rfl) T'.int (by decide +kernel) rfl) pa_nil)))
        (pe_one (pe_not (pe_callB call_isi (by rfl) T'.isi PyProof.Rows.boot_isinstance (pa_cons (pv 0) (pa_cons (pe_bltn (v := .ty "bool") (by rfl) T'.bool (by decide +kernel) rfl) pa_nil)))))))), ?_⟩
    refine ⟨_, rfl, _, _, _, _, false, rfl, .ty _, .base (.int _), kit_ty (by decide +kernel), _, rfl, ?_⟩
    refine ⟨_, rfl, _, _, _, _, true, rfl, .ty _, .base (.int _), kit_ty (by decide +kernel), _, rfl, ?_⟩
    refine ⟨_, rfl, _, _, _, _, false, rfl, .ty _, .base (.int _), kit_ty (by decide +kernel), _, rfl, q⟩
theorem ok_t1 {f C : Addr} {fd : FuncData} {k : Nat} (F : Fun K "_law_tuples" "_law_tuples" sTups f fd) (gT : mg "_law_tuples" = some (.ref f)) (bT : Binds K fd ["_law_thing"] []) (T' : Txt K mg C) : FnOk P w K mg base CX0 (k + 2) f fd ["_law_thing"] spT1 := by
  have G0 : FnOk P w K mg base CX0 (k + 1) f fd ["_law_thing"] spT0 := ok_t0 F T'
  refine F.ok scT (fun vs H Q E h => ?_) (fun cdv A outer s H vs Q E hr h => ?_)
  · obtain ⟨a, Z, rfl, _⟩ := h
    rfl
  · obtain ⟨a, Z, rfl, hZ, hl, q⟩ := h
    refine ⟨_, pss_cons (ps_if (pt_val (pe_callB call_isi (by rfl) T'.isi PyProof.Rows.boot_isinstance (pa_cons (pv 0) (pa_cons (pe_bltn (v := .ty "tuple") (by rfl) T'.tuple (by decide +kernel) rfl) pa_nil))))
        (pss_one (ps_ret (pe_callB (cr_all rfl) (by rfl) T'.all (by decide +kernel) (pa_cons
          (pe_lc (own := [("_law_part", 1)]) (g := gName 1) (by rfl) scT.nd (pi_tup (pv 0)) (blkOk_by (N := ["_law_thing", "_law_part"]) (sc := defScope sTups) (by decide +kernel)) (fun _ _ _ _ _ => pg_name (i := 1) scT.nd rfl (.inl rfl)) (fun _ _ _ _ _ => pts_nil)
            (te := tCall spT0 [] E0 (tCons (tVar 1) tNil)) (fun _ _ _ _ _ => pe_call G0 hr (by rfl) gT F.kp bT .nil pass0 (pa_cons (pv 1) pa_nil))) pa_nil)))) pss_nil)
      pss_never, ?_⟩
    refine ⟨_, rfl, _, _, _, _, true, rfl, .ty _, .base (.tup hZ), kit_ty (by decide +kernel), _, rfl, ?_⟩
    refine ⟨_, rfl, a, rfl, ⟨_, SqT.of hZ⟩, fun D hD => lc_tup (K := K) (a := a) (xs := iv Z) (fun i H' => Same H H' ∧ H' D = some (.lst ((List.replicate i true).map V.bl))) ⟨same_new hD, upd_same⟩ (fun i H' _ ⟨S, _⟩ => SqT.of (S _ _ hZ)) ?_ ?_⟩
    · rintro i x H' hi ⟨S, hDl⟩
      obtain ⟨d, hd, rfl⟩ := iv_of hi
      have hil := (List.getElem?_eq_some_iff.mp hd).1
      refine ⟨rfl, ?_⟩
      refine ⟨_, rfl, _, rfl, _, hDl, ?_, Same.put S hD, ?_⟩
      · rw [List.length_map, List.length_replicate]
        exact small1000 (by omega)
      · rw [upd_same, List.replicate_succ', List.map_append]
        rfl
    · rintro H' ⟨S, hDl⟩
      have e : (List.replicate (iv Z).length true).all id = true := by
        rw [List.all_eq_true]
        intro b hb
        exact List.eq_of_mem_replicate hb
      refine ⟨D, _, rfl, SqL.of hDl, ?_⟩
      rw [e]
      exact q H' S
end
end Wk
namespace Wk
open PySem L2 Rl Mt
theorem ix_row {K : PySem.W.Frag} {H : Hp} {r : Addr} {row : List Nat} {i d : Nat} {Q : VK} (h : H r = some (.lst (iv row)) ∨ H r = some (.tup (iv row))) (hi : row[i]? = some d) (q : Q (.int (d : Nat)) H) : rIx K (.ref r) (.int (i : Nat)) H Q := by
  rcases h with h | h
  · exact .inl ⟨r, _, _, _, rfl, rfl, SqL.of h, atI_nat (iv_get hi), q⟩
  · exact .inr (.inl ⟨r, _, _, _, rfl, rfl, SqT.of h, atI_nat (iv_get hi), q⟩)
theorem len_row {K : PySem.W.Frag} {H : Hp} {r : Addr} {row : List Nat} (h : H r = some (.lst (iv row)) ∨ H r = some (.tup (iv row))) : LenV K (.ref r) H row.length := by
  rcases h with h | h
  · exact .inl ⟨_, SqL.of h, iv_len.symm⟩
  · exact .inr ⟨_, SqT.of h, iv_len.symm⟩
theorem rev_ev {σ : L2.St} {H : Hp} {Q : VK} {y : Nat} (h : σ[9]? = some (some (.int (y : Nat)))) (q : Q (.int (rv y : Nat)) H) :
    tIf (tTest (tOp rEq (tOp (rI (fun _ j => 0 < j) fun i j => V.int (i % j)) (tVar 9) (tC (.int 2))) (tC (.int 0)))) (tOp (rI0 fun i j => V.int (i + j)) (tVar 9) (tC (.int 1))) (tOp (rI0 fun i j => V.int (i - j)) (tVar 9) (tC (.int 1))) σ H Q := by
  refine ⟨_, h, _, _, rfl, rfl, by show (0 : Int) < 2; decide, rfl, _, rfl, ite2 (fun h0 => ?_) (fun h0 => ?_)⟩
  · have e : y % 2 = 0 := by
      have := V.int.inj (of_decide_eq_true h0)
      omega
    have e1 : ((rv y : Nat) : Int) = (y : Int) + 1 := by
      unfold rv
      rw [if_pos e]
      omega
    rw [e1] at q
    exact ⟨_, h, _, _, rfl, rfl, q⟩
  · have e : ¬ y % 2 = 0 := fun z => h0 (decide_eq_true (by
      show V.int (((y : Nat) : Int) % 2) = V.int 0
      congr 1
      omega))
    have e1 : ((rv y : Nat) : Int) = (y : Int) - 1 := by
      unfold rv
      rw [if_neg e]
      omega
    rw [e1] at q
    exact ⟨_, h, _, _, rfl, rfl, q⟩
section
variable {P : Program} {w : World} {K : PySem.W.Frag} {mg : Str → Option Value} {base : Heap}
def spTrace : Sp := fun vs H Q _ => ∃ (ae at_ : Addr) (xs : List V) (rs : List Addr) (E : List (Nat × Nat)) (T : List (List Nat)) (s : Nat → Nat), vs = [.ref ae, .ref at_] ∧ H ae = some (.lst xs) ∧ xs.length = E.length ∧ H at_ = some (.lst (rs.map V.ref)) ∧ Rws H rs T ∧ Pl E T s ∧ E.length ≤ 160 ∧
  ∀ H' q ts, Same H H' → H q = none → H' q = some (.lst (ts.map V.ref)) → Tups H' ts (facesL E s) → Q (.ref q) H'
theorem scW : FnScope ["_law_edges", "_law_turns", "_law_follower", "_law_own", "_law_k", "_law_seen", "_law_found", "_law_start", "_law_face", "_law_dart"] ["_law_edges", "_law_turns"] (defScope sTrace) := ⟨rfl, rfl, rfl, by decide +kernel, rfl, by decide +kernel, by decide +kernel⟩
theorem ok_trace {f C : Addr} {fd : FuncData} {k : Nat} (F : Fun K "_law_faces" "_law_faces" sTrace f fd) (T' : Txt K mg C) : FnOk P w K mg base CX0 (k + 1) f fd ["_law_edges", "_law_turns"] spTrace := by
  refine F.ok scW (fun vs H Q E h => ?_) (fun cdv A outer s H vs Q E hr h => ?_)
  · obtain ⟨_, _, _, _, _, _, _, rfl, _⟩ := h
    rfl
  · obtain ⟨ae, at_, xs, rs, E, T, s, rfl, hae, hxs, hat, hT, pl, hme, q⟩ := h
    have hu := hu_of hr
    refine ⟨_, pss_cons (ps_if (pt_cmpR op_eq (pe_callB call_len (by rfl) T'.len PySem.boot_len (pa_cons (pv 0) pa_nil)) pe_int (nomark _)) (pss_one (ps_ret (pe_lst (pa_cons (pe_tup pa_nil) pa_nil)))) pss_nil)
      (pss_cons (ps_set (i := 2) scW.nd rfl (.inl rfl) pe_dnewK)
      (pss_cons (ps_for PassesOwn.never rfl (pi_list (pv 1)) (pg_name (i := 3) scW.nd rfl (.inl rfl))
        (pss_one (ps_for PassesOwn.never rfl (pi_range1 rfl T'.range (pa_cons (pe_callB call_len (by rfl) T'.len PySem.boot_len (pa_cons (pv 3) pa_nil)) pa_nil)) (pg_name (i := 4) scW.nd rfl (.inl rfl))
          (pss_one (ps_dput hu (pv 2) (pe_ix ix_seq (pv 3) (pv 4) (fun _ _ => rfl)) (pe_ix ix_seq (pv 3) (pe_op op_mod (pe_op op_add (pv 4) pe_int) (pe_callB call_len (by rfl) T'.len PySem.boot_len (pa_cons (pv 3) pa_nil))) (fun _ _ => rfl)) rfl)))))
      (pss_cons (ps_set (i := 5) scW.nd rfl (.inl rfl) pe_dnewK)
      (pss_cons (ps_set (i := 6) scW.nd rfl (.inl rfl) (pe_lst pa_nil))
      (pss_cons (ps_for PassesOwn.never rfl (pi_range1 rfl T'.range (pa_cons (pe_op op_mul pe_int (pe_callB call_len (by rfl) T'.len PySem.boot_len (pa_cons (pv 0) pa_nil))) pa_nil)) (pg_name (i := 7) scW.nd rfl (.inl rfl))
        (pss_cons (ps_set (i := 8) scW.nd rfl (.inl rfl) (pe_lst pa_nil))
        (pss_cons (ps_set (i := 9) scW.nd rfl (.inl rfl) (pv 7))
        (pss_cons (ps_while PassesOwn.never (pt_cmp (pc_dnotin hu (pv 9) (pv 5)))
          (pss_cons (ps_dput hu (pv 5) (pv 9) pe_bl rfl)
          (pss_cons (ps_expr (pe_bm PySem.F.plainAttrs_list PySem.F.slot_list_append PySem.F.type_list_append mt_append (pv 8) (pa_cons (pv 9) pa_nil)))
          (pss_one (ps_set (i := 9) scW.nd rfl (.inl rfl) (pe_dget hu (pv 2) (pe_ifExp (pt_cmpR op_eq (pe_op op_mod (pv 9) pe_int) pe_int (nomark _)) (pe_op op_add (pv 9) pe_int) (pe_op op_sub (pv 9) pe_int)) (fun _ _ => rfl)))))))
        (pss_one (ps_if (pt_cmpR op_gt (pe_callB call_len (by rfl) T'.len PySem.boot_len (pa_cons (pv 8) pa_nil)) pe_int (nomark _))
          (pss_one (ps_expr (pe_bm PySem.F.plainAttrs_list PySem.F.slot_list_append PySem.F.type_list_append mt_append (pv 6) (pa_cons (pe_callTy call_tuple_of (by rfl) T'.tuple (by decide +kernel) (pa_cons (pv 8) pa_nil)) pa_nil)))) pss_nil))))))
      (pss_one (ps_ret (pv 6)))))))), ?_⟩
    have lT : rs.length = T.length := hT.1
    refine ⟨_, rfl, _, xs.length, rfl, .inl ⟨_, SqL.of hae, rfl⟩, rfl, _, rfl, ite2 (fun e => ?_) (fun e => ?_)⟩
    · have e0 : E.length = 0 := by
        have : (xs.length : Int) = 0 := V.int.inj (of_decide_eq_true e)
        omega
      refine ⟨by show 0 ≤ sizeLine; decide, fun t nt => ⟨by show 1 ≤ sizeLine; decide, fun l nl => ?_⟩⟩
      have s1 : Same H (upd H t (.tup [])) := same_new nt
      have hF : facesL E s = [[]] := by
        show facesF (ph s) (2 * E.length) = [[]]
        rw [e0]
        rfl
      refine q _ l [t] (s1.trans (same_new nl)) (s1.free nl) upd_same ?_
      rw [hF]
      refine Tups.snoc (as := []) (F := []) .nil ?_
      rw [upd_ne (ne_new upd_same nl).symm]
      exact upd_same
    · have hm : 0 < E.length := by
        rcases Nat.eq_zero_or_pos E.length with z | z
        · exact absurd (decide_eq_true (by rw [hxs, z]; rfl)) e
        · exact z
      intro fw nfw
      have s0 : Same H (upd H fw (.dK [])) := same_new nfw
      refine ⟨_, rfl, at_, rfl, ⟨_, SqL.of (s0 _ _ hat)⟩, for_list (K := K) (a := at_) (xs := rs.map V.ref) (fun j σ H' => ∃ (v3 v4 : Option V), σ = [some (.ref ae), some (.ref at_), some (.ref fw), v3, v4, none, none, none, none, none] ∧ Same H H' ∧ H' fw = some (.dK (dk (fun d => V.int (s d : Nat)) (T.take j).flatten)))
        ⟨none, none, rfl, s0, upd_same⟩ (fun j σ H' _ ⟨_, _, _, S, _⟩ => SqL.of (S _ _ hat)) ?_ ?_⟩
      · rintro j x σ H1 hj ⟨v3, v4, rfl, S1, hfw⟩
        obtain ⟨r, hr', rfl⟩ := rf_of hj
        obtain ⟨row, hrow, hrt⟩ := hT.at hr'
        have hrm := List.mem_of_getElem? hrow
        have hcy := pl.turn row hrm
        have htk : (T.take (j + 1)).flatten = (T.take j).flatten ++ row := by
          rw [List.take_add_one, hrow, List.flatten_append]
          simp
        have hndj : ((T.take j).flatten ++ row).Nodup := by
          have h1 := pl.nd
          rw [← List.take_append_drop (j + 1) T, List.flatten_append, List.nodup_append] at h1
          rw [← htk]
          exact h1.1
        have hlen : ((T.take j).flatten ++ row).length ≤ 2 * E.length := nodup_len hndj fun y hy => by
          rcases List.mem_append.mp hy with z | z
          · obtain ⟨c, hc, hy'⟩ := List.mem_flatten.mp z
            exact pl.lt (List.mem_of_mem_take hc) hy'
          · exact pl.lt hrm z
        rw [List.length_append] at hlen
        have hrt1 := hrt.imp (S1 _ _) (S1 _ _)
        refine ⟨_, rfl, _, row.length, rfl, len_row hrt1, (row.length : Int), rfl, by omega, by omega, for_range (lo := 0) (n := _) (fun i σ H' => ∃ v4 : Option V, σ = [some (.ref ae), some (.ref at_), some (.ref fw), some (.ref r), v4, none, none, none, none, none] ∧ Same H H' ∧ H' fw = some (.dK (dk (fun d => V.int (s d : Nat)) ((T.take j).flatten ++ row.take i))))
          ⟨v4, rfl, S1, by simpa using hfw⟩ ?_ ?_⟩
        · rintro i σ H2 hi ⟨w4, rfl, S2, hfw2⟩
          have hi : i < row.length := by omega
          have e0i : ((0 : Int) + (i : Int)) = (i : Int) := Int.zero_add _
          show sDPut _ _ _ _ (List.set [some (.ref ae), some (.ref at_), some (.ref fw), some (.ref r), w4, none, none, none, none, none] 4 (some (.int ((0 : Int) + (i : Nat))))) H2
          rw [e0i]
          have hrt2 := hrt.imp (S2 _ _) (S2 _ _)
          obtain ⟨d, hd⟩ : ∃ d, row[i]? = some d := ⟨row[i], List.getElem?_eq_getElem hi⟩
          have hdn : d ∉ (T.take j).flatten ++ row.take i := fun z => by
            have e1 : row = row.take i ++ d :: row.drop (i + 1) := by
              have h1 : row[i] = d := (List.getElem?_eq_some_iff.mp hd).2
              rw [← h1, List.getElem_cons_drop, List.take_append_drop]
            rw [e1, ← List.append_assoc, List.nodup_append] at hndj
            exact hndj.2.2 d z d (by simp) rfl
          refine ⟨_, rfl, _, rfl, _, _, rfl, rfl, _, rfl, _, row.length, rfl, len_row hrt2, _, _, rfl, rfl, by show (0 : Int) < (row.length : Nat); omega, ?_⟩
          have emod : (((i : Nat) : Int) + 1) % ((row.length : Nat) : Int) = (((i + 1) % row.length : Nat) : Int) := by
            rw [show ((i : Nat) : Int) + 1 = ((i + 1 : Nat) : Int) by omega, mod_nat]
          show rIx K (.ref r) (V.int ((((i : Nat) : Int) + 1) % ((row.length : Nat) : Int))) H2 _
          rw [emod]
          refine ix_row hrt2 (cyc_ix hcy hd) ?_
          refine ⟨_, rfl, _, rfl, _, rfl, ?_⟩
          refine ix_row hrt2 hd ?_
          refine ⟨fw, _, rfl, DPut.k (k := Sum.inl ((d : Nat) : Int)) hfw2 ?_, ?_⟩
          · rw [dk_len, List.length_append, List.length_take]
            exact small1000 (by omega)
          · rw [dk_put (f := fun d => V.int (s d : Nat)) hdn]
            refine ⟨_, rfl, Same.put S2 nfw, ?_⟩
            rw [upd_same, List.take_add_one, hd, ← List.append_assoc]
            rfl
        · rintro σ H2 ⟨w4, rfl, S2, hfw2⟩
          refine ⟨_, _, rfl, S2, ?_⟩
          rw [htk]
          rw [show ((row.length : Nat) : Int).toNat = row.length by omega, List.take_length] at hfw2
          exact hfw2
      · rintro σ H1 ⟨v3, v4, rfl, S1, hfw⟩
        rw [List.length_map, lT, List.take_length] at hfw
        intro sn nsn
        refine ⟨Nat.zero_le _, fun fo nfo => ?_⟩
        have nfs : fo ≠ sn := ne_new upd_same nfo
        have nfo1 : H1 fo = none := by
          rw [upd_ne nfs] at nfo
          exact nfo
        have s2 : Same H1 (upd (upd H1 sn (.dK [])) fo (.lst [])) := (same_new nsn).trans (same_new nfo)
        obtain ⟨L, C0, _⟩ := pl.part
        have hlen : (2 * (xs.length : Int)).toNat = 2 * E.length := by omega
        refine ⟨_, rfl, _, xs.length, rfl, .inl ⟨_, SqL.of (s2 _ _ (S1 _ _ hae)), rfl⟩, 2, _, rfl, rfl, .inl ⟨by decide, by decide⟩, (2 * (xs.length : Int)), rfl, by omega, by omega, for_range (lo := 0) (n := _) (fun i σ H' => ∃ (v7 v8 v9 : Option V) (ts : List Addr), σ = [some (.ref ae), some (.ref at_), some (.ref fw), v3, v4, some (.ref sn), some (.ref fo), v7, v8, v9] ∧ Same H1 H' ∧ H' sn = some (.dK (sk (fl (ph s) (2 * E.length) i).flatten)) ∧ H' fo = some (.lst (ts.map V.ref)) ∧ Tups H' ts (fl (ph s) (2 * E.length) i))
          ⟨none, none, none, [], rfl, s2, by rw [upd_ne nfs.symm, upd_same]; rfl, upd_same, Tups.nil⟩ ?_ ?_⟩
        · rintro i σ H2 hi ⟨v7, v8, v9, ts, rfl, S, hsn, hfo, hts⟩
          rw [hlen] at hi
          have e0i : ((0 : Int) + (i : Int)) = (i : Int) := Int.zero_add _
          have nsf : sn ≠ fo := ne_of hsn hfo (by intro z; cases z)
          show tSeq _ _ _ (List.set [some (.ref ae), some (.ref at_), some (.ref fw), v3, v4, some (.ref sn), some (.ref fo), v7, v8, v9] 7 (some (.int ((0 : Int) + (i : Nat))))) H2
          rw [e0i]
          obtain ⟨c0, hP, hnd, hdis, hin, hhd, e1⟩ : ∃ c0 : List Nat, Path (ph s) c0 i ∧ c0.Nodup ∧ (∀ x ∈ c0, x ∉ (fl (ph s) (2 * E.length) i).flatten ∧ x < 2 * E.length) ∧ i ∈ (fl (ph s) (2 * E.length) i).flatten ++ c0 ∧ c0.headD i = i ∧
              fl (ph s) (2 * E.length) (i + 1) = if c0 = [] then fl (ph s) (2 * E.length) i else fl (ph s) (2 * E.length) i ++ [c0] := by
            by_cases hin : i ∈ (fl (ph s) (2 * E.length) i).flatten
            · exact ⟨[], trivial, List.nodup_nil, by simp, by simpa using hin, rfl, by simp only [fl, if_pos hin, if_pos]⟩
            · obtain ⟨r, er, hpa, hnd, hdis⟩ := cy_ok C0 hi hin
              refine ⟨i :: r, hpa, hnd, hdis, by simp, rfl, ?_⟩
              rw [if_neg (by simp)]
              simp only [fl, if_neg hin, er]
          have hlen2 := nodup_len hnd fun x hx => (hdis x hx).2
          have hfl := fl_nd C0 (i := i) (by omega)
          have hgl := nodup_len hfl.1 hfl.2
          refine ⟨Nat.zero_le _, fun fa nfa => ⟨_, rfl, ?_⟩⟩
          have nas : fa ≠ sn := ne_new hsn nfa
          have nao : fa ≠ fo := ne_new hfo nfa
          have s3 : Same H2 (upd H2 fa (.lst [])) := same_new nfa
          refine ⟨fun m σ H' => ∃ (c rest : List Nat), c ++ rest = c0 ∧ m = rest.length ∧ σ = [some (.ref ae), some (.ref at_), some (.ref fw), v3, v4, some (.ref sn), some (.ref fo), some (.int (i : Nat)), some (.ref fa), some (.int (rest.headD i : Nat))] ∧
              Same H1 H' ∧ Tups H' ts (fl (ph s) (2 * E.length) i) ∧ H' sn = some (.dK (sk ((fl (ph s) (2 * E.length) i).flatten ++ c))) ∧ H' fo = some (.lst (ts.map V.ref)) ∧ H' fa = some (.lst (iv c)),
            ⟨_, [], c0, rfl, rfl, by rw [hhd]; rfl, S.trans s3, hts.mono s3, by rw [List.append_nil]; exact s3 _ _ hsn, s3 _ _ hfo, upd_same⟩, ?_⟩
          rintro m σ H3 ⟨c, rest, ec, em, rfl, S3, ht3, hsn3, hfo3, hfa3⟩
          refine ⟨_, rfl, _, rfl, sn, _, rfl, DGet.k (k := Sum.inl ((rest.headD i : Nat) : Int)) hsn3, _, rfl, ?_⟩
          cases rest with
          | nil =>
            have hc : c = c0 := by simpa using ec
            subst hc
            rw [dk_in (show ([] : List Nat).headD i ∈ _ from hin)]
            refine iteF ?_
            refine ⟨_, rfl, _, c.length, rfl, .inl ⟨_, SqL.of hfa3, iv_len.symm⟩, _, _, rfl, rfl, _, rfl, ite2 (fun h => ?_) (fun h => ?_)⟩
            · have hcn : c ≠ [] := fun z => by
                have := of_decide_eq_true h
                rw [z] at this
                exact absurd this (by decide)
              rw [if_neg hcn] at e1
              refine ⟨_, rfl, .inl ⟨rfl, _, SqL.of hfo3⟩, _, rfl, fa, iv c, rfl, .inl ⟨SqL.of hfa3, fun t nt => ?_⟩⟩
              have s4 : Same H3 (upd H3 t (.tup (iv c))) := same_new nt
              have hfo4 := s4 _ _ hfo3
              refine ⟨fo, _, _, rfl, rfl, hfo4, ?_, ?_⟩
              · rw [List.length_map, ht3.1]
                refine small1000 ?_
                obtain ⟨A', B', I'⟩ := fl_inv C0 i (by omega)
                have h2 : (fl (ph s) (2 * E.length) i).length ≤ (fl (ph s) (2 * E.length) i).flatten.length := by
                  rw [List.length_flatten]
                  exact len_le_sum fun c hc => by
                    obtain ⟨a, r', e, _⟩ := I'.hd c hc
                    rw [e]
                    exact Nat.succ_pos _
                omega
              · show ∃ (v7 v8 v9 : Option V) (ts' : List Addr), _
                rw [e1]
                refine ⟨_, _, _, ts ++ [t], rfl, Same.put (S3.trans s4) nfo1, ?_, ?_, ?_⟩
                · rw [upd_ne nsf, s4 _ _ hsn3, List.flatten_append]
                  simp
                · rw [upd_same, List.map_append]
                  rfl
                · refine ((ht3.mono s4).keep (Keeps.lst hfo4)).snoc ?_
                  have ntf : t ≠ fo := ne_new hfo3 nt
                  rw [upd_ne ntf]
                  exact upd_same
            · have hcn : c = [] := by
                cases c with
                | nil => rfl
                | cons x r => exact absurd (decide_eq_true (by rw [List.length_cons]; omega)) h
              rw [if_pos hcn] at e1
              show ∃ (v7 v8 v9 : Option V) (ts' : List Addr), _
              rw [e1]
              rw [hcn, List.append_nil] at hsn3
              exact ⟨_, _, _, ts, rfl, S3, hsn3, hfo3, ht3⟩
          | cons y rest =>
            have hy : y ∈ c0 := by rw [← ec]; simp
            have hylt := (hdis y hy).2
            have hyc : y ∉ c := fun z => by
              have hnd' := hnd
              rw [← ec, List.nodup_append] at hnd'
              exact hnd'.2.2 y z y (by simp) rfl
            have hmem : y ∉ (fl (ph s) (2 * E.length) i).flatten ++ c := fun z => by
              rcases List.mem_append.mp z with z | z
              · exact (hdis y hy).1 z
              · exact hyc z
            have hnx : ph s y = rest.headD i := path_next (F := c) (by rw [ec]; exact hP)
            have hcl : c.length + 1 ≤ 2 * E.length := by
              have := congrArg List.length ec
              simp only [List.length_append, List.length_cons] at this hlen2
              omega
            rw [show (y :: rest).headD i = y from rfl] at *
            rw [dk_not hmem]
            refine iteT ?_
            refine ⟨fun σ' H' => ∃ c' : List Nat, c' ++ rest = c0 ∧ σ' = [some (.ref ae), some (.ref at_), some (.ref fw), v3, v4, some (.ref sn), some (.ref fo), some (.int (i : Nat)), some (.ref fa), some (.int (rest.headD i : Nat))] ∧
              Same H1 H' ∧ Tups H' ts (fl (ph s) (2 * E.length) i) ∧ H' sn = some (.dK (sk ((fl (ph s) (2 * E.length) i).flatten ++ c'))) ∧ H' fo = some (.lst (ts.map V.ref)) ∧ H' fa = some (.lst (iv c')),
              fun σ' H' ⟨c', h1, h2, h3⟩ => ⟨rest.length, by rw [em]; exact Nat.lt_succ_self _, c', rest, h1, rfl, h2, h3⟩, ?_⟩
            refine ⟨_, rfl, _, rfl, sn, _, rfl, DPut.k (k := Sum.inl ((y : Nat) : Int)) hsn3 ?_, ?_⟩
            · rw [dk_len, List.length_append]
              exact small1000 (by omega)
            rw [dk_put (f := fun _ => V.bl true) hmem]
            have kp1 : Keeps H3 (upd H3 sn (.dK (sk ((fl (ph s) (2 * E.length) i).flatten ++ c ++ [y])))) := Keeps.dct hsn3
            have hfa4 : (upd H3 sn (.dK (sk ((fl (ph s) (2 * E.length) i).flatten ++ c ++ [y])))) fa = some (.lst (iv c)) := by rw [upd_ne nas, hfa3]
            refine ⟨_, rfl, .inl ⟨rfl, _, SqL.of hfa4⟩, _, rfl, fa, _, _, rfl, rfl, hfa4, by rw [iv_len]; exact small1000 (by omega), ?_⟩
            have S4 : Same H1 (upd (upd H3 sn (.dK (sk ((fl (ph s) (2 * E.length) i).flatten ++ c ++ [y])))) fa (.lst (iv c ++ [.int (y : Nat)]))) := Same.put (Same.put S3 nsn) (S.free nfa)
            have hrvt : rv y ∈ T.flatten := pl.pm.mem_iff.mpr (List.mem_range.mpr (rv_lt hylt))
            have hdg : DGet (upd (upd H3 sn (.dK (sk ((fl (ph s) (2 * E.length) i).flatten ++ c ++ [y])))) fa (.lst (iv c ++ [.int (y : Nat)]))) fw (.int (rv y : Nat)) (some (V.int (s (rv y) : Nat))) := by
              have := DGet.k (k := Sum.inl ((rv y : Nat) : Int)) (S4 _ _ hfw)
              rw [dk_in hrvt] at this
              exact this
            refine ⟨_, rfl, rev_ev rfl ⟨fw, _, rfl, hdg, ?_⟩⟩
            refine ⟨c ++ [y], by rw [← ec]; simp, by rw [← hnx]; rfl, S4, (ht3.keep kp1).keep (Keeps.lst hfa4), ?_, ?_, ?_⟩
            · rw [upd_ne (Ne.symm nas), upd_same, List.append_assoc]
            · rw [upd_ne (Ne.symm nao), upd_ne (Ne.symm nsf), hfo3]
            · rw [upd_same, iv_app]
              rfl
        · rintro σ H2 ⟨v7, v8, v9, ts, rfl, S, hsn, hfo, hts⟩
          rw [hlen] at hts
          refine ⟨_, rfl, q H2 fo ts (S1.trans S) (S1.free nfo1) hfo ?_⟩
          show Tups H2 ts (facesF (ph s) (2 * E.length))
          rw [facesF_pos (by omega)]
          exact hts
end
end Wk
namespace Wk
open PySem L2 Rl Mt
theorem iv_flat (l : List Nat) : (iv l).all flatV = true := by
  rw [List.all_eq_true]
  intro x hx
  obtain ⟨d, _, rfl⟩ := List.mem_map.mp hx
  rfl
theorem inV_yes {d : Int} {l : List Nat} {o : Nat} (h : o ∈ l) (e : d = (o : Int)) : inV (.int d) (iv l) = true := by
  unfold inV
  rw [List.any_eq_true]
  refine ⟨V.int (o : Int), List.mem_map.mpr ⟨o, h, rfl⟩, ?_⟩
  show ((o : Int) == d) = true
  rw [e]
  exact beq_self_eq_true _
theorem inV_no {d : Int} {l : List Nat} (h : ∀ o ∈ l, d ≠ (o : Int)) : inV (.int d) (iv l) = false := by
  unfold inV
  rw [List.any_eq_false]
  intro x hx
  obtain ⟨o, ho, rfl⟩ := List.mem_map.mp hx
  show ¬ ((o : Int) == d) = true
  intro z
  exact h o ho (beq_iff_eq.mp z).symm
section
variable {P : Program} {w : World} {K : PySem.W.Frag} {mg : Str → Option Value} {base : Heap}
def PlcOk (row : List Nat) (d : Int) (n : Nat) : Prop := (∀ A o B, d = ((o : Nat) : Int) → row = A ++ o :: B → o ∉ A → A.length = n) ∧ ((∀ o ∈ row, d ≠ ((o : Nat) : Int)) → n = 0)
def OwnOk (T : List (List Nat)) (d : Int) (u : Nat) : Prop := (∀ (v : Nat) row o, T[v]? = some row → o ∈ row → d = ((o : Nat) : Int) → v = u) ∧ ((∀ row ∈ T, ∀ o ∈ row, d ≠ ((o : Nat) : Int)) → u = 0)
def spPlace : Sp := fun vs H Q _ => ∃ (at_ r : Addr) (rs : List Addr) (v : Nat) (row : List Nat) (d : Int) (n : Nat), vs = [.ref at_, .int (v : Nat), .int d] ∧ H at_ = some (.lst (rs.map V.ref)) ∧ rs[v]? = some r ∧ H r = some (.lst (iv row)) ∧
  PlcOk row d n ∧ Q (.int (n : Nat)) H
theorem scP : FnScope ["_law_turns", "_law_vertex", "_law_dart"] ["_law_turns", "_law_vertex", "_law_dart"] (defScope sPlace) := ⟨rfl, rfl, rfl, by decide +kernel, rfl, by decide +kernel, by decide +kernel⟩
theorem ok_place {f C : Addr} {fd : FuncData} {k : Nat} (F : Fun K "_law_place" "_law_place" sPlace f fd) (T' : Txt K mg C) : FnOk P w K mg base CX0 (k + 1) f fd ["_law_turns", "_law_vertex", "_law_dart"] spPlace := by
  refine F.ok scP (fun vs H Q E h => ?_) (fun cdv A outer s H vs Q E hr h => ?_)
  · obtain ⟨_, _, _, _, _, _, _, rfl, _⟩ := h
    rfl
  · obtain ⟨at_, r, rs, v, row, d, n, rfl, hat, hr', hrt, ok, q⟩ := h
    have q1 : ∀ A o B, d = ((o : Nat) : Int) → row = A ++ o :: B → o ∉ A → Q (.int (A.length : Nat)) H := fun A o B h1 h2 h3 => by
      rw [ok.1 A o B h1 h2 h3]
      exact q
    have q2 : (∀ o ∈ row, d ≠ ((o : Nat) : Int)) → Q (.int 0) H := fun h => by
      have := ok.2 h
      subst this
      exact q
    refine ⟨_, pss_one (ps_ret (pe_ifExp (pt_cmpR op_in_seq (pv 2) (pe_ix ix_list (pv 0) (pv 1) (fun _ _ => rfl)) (by rfl))
      (pe_bm PySem.F.plainAttrs_list PySem.F.slot_list_index PySem.F.type_list_index mt_index (pe_ix ix_list (pv 0) (pv 1) (fun _ _ => rfl)) (pa_cons (pv 2) pa_nil)) pe_int)), ?_⟩
    refine ⟨_, rfl, _, rfl, _, rfl, at_, _, _, V.ref r, rfl, rfl, SqL.of hat, atI_nat (rf_get hr'), r, _, rfl, .inl (SqL.of hrt), rfl, iv_flat _, _, rfl, ?_⟩
    by_cases hex : ∃ o ∈ row, d = ((o : Nat) : Int)
    · obtain ⟨o, ho, hd⟩ := hex
      rw [inV_yes ho hd]
      obtain ⟨A', B', e, hn⟩ := List.eq_append_cons_of_mem ho
      have hj : row[A'.length]? = some o := by
        rw [e, List.getElem?_append_right (Nat.le_refl _), Nat.sub_self]
        rfl
      refine ⟨_, rfl, _, rfl, at_, _, _, V.ref r, rfl, rfl, SqL.of hat, atI_nat (rf_get hr'), .inl ⟨rfl, _, SqL.of hrt⟩, _, rfl, r, _, _, A'.length, _, rfl, rfl, SqL.of hrt, rfl, iv_flat _, iv_get hj, ?_, fun m z' hm hz' => ?_, q1 A' o B' hd e hn⟩
      · show ((o : Int) == d) = true
        rw [hd]
        exact beq_self_eq_true _
      · obtain ⟨o', ho', rfl⟩ := iv_of hz'
        show ((o' : Int) == d) = false
        rw [e, List.getElem?_append_left hm] at ho'
        have hne : o' ≠ o := fun z => hn (by rw [← z]; exact List.mem_of_getElem? ho')
        rw [hd]
        exact beq_eq_false_iff_ne.mpr fun z => hne (by omega)
    · have hno : ∀ o ∈ row, d ≠ ((o : Nat) : Int) := fun o ho e => hex ⟨o, ho, e⟩
      rw [inV_no hno]
      exact q2 hno
def spOwner : Sp := fun vs H Q _ => ∃ (at_ : Addr) (rs : List Addr) (T : List (List Nat)) (d : Int) (u : Nat), vs = [.ref at_, .int d] ∧ H at_ = some (.lst (rs.map V.ref)) ∧ Lsts H rs T ∧ T.length ≤ 1000 ∧
  OwnOk T d u ∧ Q (.int (u : Nat)) H
theorem scO : FnScope ["_law_turns", "_law_dart", "_law_vertex"] ["_law_turns", "_law_dart"] (defScope sOwner) := ⟨rfl, rfl, rfl, by decide +kernel, rfl, by decide +kernel, by decide +kernel⟩
theorem ok_owner {f C : Addr} {fd : FuncData} {k : Nat} (F : Fun K "_law_owner" "_law_owner" sOwner f fd) (T' : Txt K mg C) : FnOk P w K mg base CX0 (k + 1) f fd ["_law_turns", "_law_dart"] spOwner := by
  refine F.ok scO (fun vs H Q E h => ?_) (fun cdv A outer s H vs Q E hr h => ?_)
  · obtain ⟨_, _, _, _, _, rfl, _⟩ := h
    rfl
  · obtain ⟨at_, rs, T, d, u, rfl, hat, hT, hTl, ok, q⟩ := h
    have q1 : ∀ (v : Nat) row o, T[v]? = some row → o ∈ row → d = ((o : Nat) : Int) → Q (.int (v : Nat)) H := fun v row o h1 h2 h3 => by
      rw [ok.1 v row o h1 h2 h3]
      exact q
    have q2 : (∀ row ∈ T, ∀ o ∈ row, d ≠ ((o : Nat) : Int)) → Q (.int 0) H := fun h => by
      have := ok.2 h
      subst this
      exact q
    refine ⟨_, pss_cons (ps_for PassesOwn.never rfl (pi_range1 rfl T'.range (pa_cons (pe_callB call_len (by rfl) T'.len PySem.boot_len (pa_cons (pv 0) pa_nil)) pa_nil)) (pg_name (i := 2) scO.nd rfl (.inl rfl))
        (pss_one (ps_if (pt_cmpR op_in_seq (pv 1) (pe_ix ix_list (pv 0) (pv 2) (fun _ _ => rfl)) (by rfl)) (pss_one (ps_ret (pv 2))) pss_nil)))
      (pss_one (ps_ret pe_int)), ?_⟩
    have lT := hT.1
    refine ⟨_, rfl, _, rs.length, rfl, .inl ⟨_, SqL.of hat, by simp⟩, (rs.length : Int), rfl, by omega, by omega, for_range (lo := 0) (n := _) (fun i σ H' => H = H' ∧ (∃ v2 : Option V, σ = [some (.ref at_), some (.int d), v2]) ∧ ∀ j row, j < i → T[j]? = some row → ∀ o ∈ row, d ≠ ((o : Nat) : Int))
      ⟨rfl, ⟨none, rfl⟩, fun j row hj => absurd hj (Nat.not_lt_zero _)⟩ ?_ ?_⟩
    · rintro i σ H' hi ⟨rfl, ⟨v2, rfl⟩, hno⟩
      have hi : i < rs.length := by omega
      have e0i : ((0 : Int) + (i : Int)) = (i : Int) := Int.zero_add _
      show tIfS _ _ _ _ (List.set [some (.ref at_), some (.int d), v2] 2 (some (.int ((0 : Int) + (i : Nat))))) H
      rw [e0i]
      obtain ⟨row, hrow⟩ : ∃ row, T[i]? = some row := ⟨T[i]'(by omega), List.getElem?_eq_getElem _⟩
      obtain ⟨r, hr', hrt⟩ := hT.at hrow
      refine ⟨_, rfl, _, rfl, _, rfl, at_, _, _, V.ref r, rfl, rfl, SqL.of hat, atI_nat (rf_get hr'), r, _, rfl, .inl (SqL.of hrt), rfl, iv_flat _, _, rfl, ?_⟩
      by_cases hex : ∃ o ∈ row, d = ((o : Nat) : Int)
      · obtain ⟨o, ho, hd⟩ := hex
        rw [inV_yes ho hd]
        exact ⟨_, rfl, q1 i row o hrow ho hd⟩
      · have hn : ∀ o ∈ row, d ≠ ((o : Nat) : Int) := fun o ho e => hex ⟨o, ho, e⟩
        rw [inV_no hn]
        refine ⟨rfl, ⟨_, rfl⟩, fun j row' hj hrow' => ?_⟩
        rcases Nat.lt_or_ge j i with z | z
        · exact hno j row' z hrow'
        · have : j = i := by omega
          subst this
          rw [hrow] at hrow'
          cases hrow'
          exact hn
    · rintro σ H' ⟨rfl, ⟨v2, rfl⟩, hno⟩
      refine q2 fun row hrow => ?_
      obtain ⟨i, hi, e⟩ := List.mem_iff_getElem.mp hrow
      exact hno i row (by omega) (by rw [List.getElem?_eq_getElem hi, e])
end
end Wk
namespace Wk
open PySem L2 Rl Mt
theorem plc_of {A B : List Nat} {o : Nat} (nd : (A ++ o :: B).Nodup) : PlcOk (A ++ o :: B) ((o : Nat) : Int) A.length := by
  refine ⟨fun A' o' B' h1 h2 h3 => ?_, fun h => absurd rfl (h o (by simp))⟩
  have : o' = o := by omega
  subst this
  have e1 : (A ++ o' :: B)[A'.length]? = some o' := by
    rw [h2, List.getElem?_append_right (Nat.le_refl _), Nat.sub_self]
    rfl
  have e2 : (A ++ o' :: B)[A.length]? = some o' := by
    rw [List.getElem?_append_right (Nat.le_refl _), Nat.sub_self]
    rfl
  exact nd_ix nd e1 e2
theorem own_of_fn {T : List (List Nat)} {g : Nat → Nat} {o u : Nat} (h : ∀ v row, T[v]? = some row → ∀ x ∈ row, g x = v) {row : List Nat} (hu : T[u]? = some row) (ho : o ∈ row) : OwnOk T ((o : Nat) : Int) u := by
  refine ⟨fun v row' o' h1 h2 h3 => ?_, fun hn => absurd rfl (hn row (List.mem_of_getElem? hu) o ho)⟩
  have : o' = o := by omega
  subst this
  rw [← h v row' h1 o' h2, h u row hu o' ho]
def Pick (c : List Nat) (z : Int) : Prop := (c = [] ∧ z = -1) ∨ ∃ o ∈ c, z = ((o : Nat) : Int)
theorem choose_ok {E : List (Nat × Nat)} {T : List (List Nat)} {s : Nat → Nat} (h : Pl E T s) {c : List Nat} (hc : c ∈ facesL E s) {z1 z2 : Int} (p1 : Pick c z1) (p2 : Pick c z2) :
    ∃ (u : Nat) (A R : List Nat), T[u]? = some (A ++ R) ∧ OwnOk T z1 u ∧ PlcOk (A ++ R) z1 A.length ∧ (∃ s', Pl (E ++ [(u, T.length)]) (T.set u (A ++ (2 * E.length) :: R) ++ [[2 * E.length + 1]]) s') ∧
      ∃ (v : Nat) (A' R' : List Nat) (n : Nat), (T.set u (A ++ (2 * E.length) :: R))[v]? = some (A' ++ R') ∧ OwnOk (T.set u (A ++ (2 * E.length) :: R)) z2 v ∧ PlcOk (A' ++ R') z2 n ∧ ((n : Nat) : Int) + (if z2 < 0 then 1 else 0) = ((A'.length : Nat) : Int) ∧
        ∃ s', Pl (E ++ [(u, v)]) ((T.set u (A ++ (2 * E.length) :: R)).set v (A' ++ (2 * E.length + 1) :: R')) s' := by
  rcases Nat.eq_zero_or_pos E.length with m0 | m0
  · have eE : E = [] := List.eq_nil_of_length_eq_zero m0
    have eT := h.zero m0
    subst eE
    subst eT
    have ec : c = [] := by
      have hF : facesL [] s = [[]] := rfl
      rw [hF] at hc
      exact List.mem_singleton.mp hc
    subst ec
    have e1 : z1 = -1 := by
      rcases p1 with ⟨_, e⟩ | ⟨o, ho, _⟩
      · exact e
      · cases ho
    have e2 : z2 = -1 := by
      rcases p2 with ⟨_, e⟩ | ⟨o, ho, _⟩
      · exact e
      · cases ho
    subst e1
    subst e2
    have no : ∀ o : Nat, (-1 : Int) ≠ (o : Int) := fun o e => by omega
    refine ⟨0, [], [], rfl, ⟨fun v row o _ _ e => absurd e (no o), fun _ => rfl⟩, ⟨fun A o B e => absurd e (no o), fun _ => rfl⟩, ⟨id, pl_leaf0⟩, 0, [0], [], 0, rfl, ⟨fun v row o _ _ e => absurd e (no o), fun _ => rfl⟩, ⟨fun A o B e => absurd e (no o), fun _ => rfl⟩, rfl, ⟨rv, pl_loop0⟩⟩
  · have C0 := h.faces m0
    have hne := C0.ne c hc
    obtain ⟨o, ho, e1⟩ : ∃ o ∈ c, z1 = ((o : Nat) : Int) := by
      rcases p1 with ⟨e, _⟩ | q
      · exact absurd e hne
      · exact q
    obtain ⟨p, hp, e2⟩ : ∃ o ∈ c, z2 = ((o : Nat) : Int) := by
      rcases p2 with ⟨e, _⟩ | q
      · exact absurd e hne
      · exact q
    subst e1
    subst e2
    have oD := C0.lt hc ho
    have pD := C0.lt hc hp
    obtain ⟨row, hu, hor⟩ := h.at oD
    obtain ⟨A, B, er, hoA⟩ := List.eq_append_cons_of_mem hor
    subst er
    have ndr := h.rnd (List.mem_of_getElem? hu)
    obtain ⟨t1, pm1⟩ := turn_ins (d := 2 * E.length) h.turn h.nd hu (not_old h (Nat.le_refl _))
    have nd1 : (T.set (ow E o) (A ++ (2 * E.length) :: o :: B)).flatten.Nodup := pm1.nodup_iff.mpr (List.nodup_cons.mpr ⟨not_old h (Nat.le_refl _), h.nd⟩)
    have own1 := own_ins (g := fun x => if x = 2 * E.length then ow E o else ow E x) (d := 2 * E.length) (T := T) (u := ow E o) (A := A) (o := o) (B := B) (fun v row e x hx => by
      have hx' := h.lt (List.mem_of_getElem? e) hx
      rw [if_neg (by omega)]
      exact h.own v row e x hx) hu (by simp)
    obtain ⟨row1, hv, hpr⟩ : ∃ row1, (T.set (ow E o) (A ++ (2 * E.length) :: o :: B))[ow E p]? = some row1 ∧ p ∈ row1 := by
      obtain ⟨row2, h1, h2⟩ := h.at pD
      by_cases e : ow E o = ow E p
      · rw [e] at hu ⊢
        rw [hu] at h1
        cases h1
        refine ⟨_, List.getElem?_set_self (List.getElem?_eq_some_iff.mp hu).1, ?_⟩
        rcases List.mem_append.mp h2 with z | z
        · exact List.mem_append_left _ z
        · exact List.mem_append_right _ (List.mem_cons_of_mem _ z)
      · exact ⟨row2, by rw [List.getElem?_set_ne e]; exact h1, h2⟩
    obtain ⟨A', B', er, hpA⟩ := List.eq_append_cons_of_mem hpr
    subst er
    have ndr1 := flatten_nodup nd1 (List.mem_of_getElem? hv)
    refine ⟨ow E o, A, o :: B, hu, own_of_fn h.own hu (by simp), plc_of ndr, h.leaf m0 hc ho hu, ow E p, A', p :: B', A'.length, hv, own_of_fn own1 hv (by simp), plc_of ndr1, ?_, h.edge m0 hc ho hp hu hv⟩
    rw [if_neg (by omega), Int.add_zero]
theorem cut_lo {A R : List Nat} : cutV (iv (A ++ R)) none (some ((A.length : Nat) : Int)) = iv A := by
  unfold cutV
  rw [HT.sIx_nat, HT.sIx_none, iv_app, List.drop_zero, List.length_append, iv_len, Nat.min_eq_left (Nat.le_add_right _ _), Nat.sub_zero]
  exact List.take_left' iv_len
theorem cut_hi {A R : List Nat} : cutV (iv (A ++ R)) (some ((A.length : Nat) : Int)) none = iv R := by
  unfold cutV
  rw [HT.sIx_nat, HT.sIx_none, iv_app, List.length_append, iv_len, Nat.min_eq_left (Nat.le_add_right _ _), List.drop_left' iv_len]
  exact List.take_of_length_le (by omega)
theorem Lsts.rws {H : Hp} {as : List Addr} {F : List (List Nat)} (t : Lsts H as F) : Rws H as F := ⟨t.1, fun i a f h1 h2 => .inl (t.2 i a f h1 h2)⟩
theorem Lsts.same {H H' : Hp} {as : List Addr} {F : List (List Nat)} (t : Lsts H as F) (s : Same H H') : Lsts H' as F := t.mono fun a _ o e => s a o e
theorem Lsts.swap {H : Hp} {as : List Addr} {F : List (List Nat)} (t : Lsts H as F) {u : Nat} {b : Addr} {g : List Nat} (h : H b = some (.lst (iv g))) : Lsts H (as.set u b) (F.set u g) := by
  refine ⟨by rw [List.length_set, List.length_set]; exact t.1, fun j a f h1 h2 => ?_⟩
  by_cases e : u = j
  · subst e
    have hl : u < as.length := by
      have := (List.getElem?_eq_some_iff.mp h1).1
      rw [List.length_set] at this
      exact this
    rw [List.getElem?_set_self hl] at h1
    rw [List.getElem?_set_self (by rw [← t.1]; exact hl)] at h2
    cases h1
    cases h2
    exact h
  · rw [List.getElem?_set_ne e] at h1 h2
    exact t.2 j a f h1 h2
theorem Lsts.snoc {H : Hp} {as : List Addr} {F : List (List Nat)} (t : Lsts H as F) {a : Addr} {f : List Nat} (h : H a = some (.lst (iv f))) : Lsts H (as ++ [a]) (F ++ [f]) := by
  refine ⟨by simp [t.1], fun i b g h1 h2 => ?_⟩
  rcases Nat.lt_or_ge i as.length with q | q
  · rw [List.getElem?_append_left q] at h1
    rw [List.getElem?_append_left (by rw [← t.1]; exact q)] at h2
    exact t.2 i b g h1 h2
  · rw [List.getElem?_append_right q] at h1
    rw [List.getElem?_append_right (by rw [← t.1]; exact q)] at h2
    have hi := (List.getElem?_eq_some_iff.mp h1).1
    have e0 : i - as.length = 0 := by
      rw [List.length_singleton] at hi
      omega
    have e1 : i - F.length = 0 := by rw [← t.1]; exact e0
    rw [e0] at h1
    rw [e1] at h2
    cases h1
    cases h2
    exact h
theorem Lsts.off_refs {H : Hp} {as : List Addr} {F : List (List Nat)} (t : Lsts H as F) {p : Addr} (h : H p = some (.lst (as.map V.ref))) : p ∉ as := fun m => by
  obtain ⟨i, hi, e⟩ := List.mem_iff_getElem.mp m
  have h1 : as[i]? = some p := by rw [List.getElem?_eq_getElem hi, e]
  have h2 : F[i]? = some (F[i]'(by rw [← t.1]; exact hi)) := List.getElem?_eq_getElem _
  have h3 := t.2 i p _ h1 h2
  rw [h] at h3
  have h4 := HO.lst.inj (Option.some.inj h3)
  cases as with
  | nil => cases m
  | cons b r =>
    revert h4
    generalize F[i]'(by rw [← t.1]; exact hi) = f
    intro h4
    cases f with
    | nil => cases h4
    | cons d f => cases h4
structure Mkg (H : Hp) (ee tt : Addr) (H' : Hp) (E : List (Nat × Nat)) (T : List (List Nat)) (as rs : List Addr) : Prop where
  sm : Same H H'
  hee : H' ee = some (.lst (as.map V.ref))
  hE : Tups H' as (E.map pr)
  htt : H' tt = some (.lst (rs.map V.ref))
  hT : Lsts H' rs T
  nee : ee ∉ rs
theorem Mkg.new {H : Hp} {ee tt : Addr} {H' H'' : Hp} {E : List (Nat × Nat)} {T : List (List Nat)} {as rs : List Addr} (m : Mkg H ee tt H' E T as rs) (s : Same H' H'') : Mkg H ee tt H'' E T as rs :=
  ⟨m.sm.trans s, s _ _ m.hee, m.hE.mono s, s _ _ m.htt, m.hT.same s, m.nee⟩
end Wk
namespace Wk
open PySem L2 Rl Mt
abbrev rLen (K : PySem.W.Frag) : List V → Hp → VK → Prop := fun xs H Q => ∃ x n, xs = [x] ∧ LenV K x H n ∧ Q (.int n) H
theorem pick_ev {K : PySem.W.Frag} {σ : L2.St} {H : Hp} {Q : VK} {k cc : Int} {fa : Addr} {c : List Nat} (h7 : σ[7]? = some (some (.int cc))) (h9 : σ[9]? = some (some (.ref fa))) (hf : H fa = some (.tup (iv c))) (q : ∀ z, Pick c z → Q (.int z) H) :
    tIf (tTest (tOp (rI0 fun i j => V.bl (decide (j < i))) (tCB (rLen K) (tCons (tVar 9) tNil)) (tC (.int 0))))
      (tOp (rIxT K) (tVar 9) (tOp (rI (fun _ j => 0 < j) fun i j => V.int (i % j)) (tCall spMix [] E0 (tCons (tVar 7) (tCons (tC (.int k)) tNil))) (tCB (rLen K) (tCons (tVar 9) tNil))))
      (tUn (rU fun i => V.int (-i)) (tC (.int 1))) σ H Q := by
  refine ⟨_, h9, _, c.length, rfl, .inr ⟨_, SqT.of hf, iv_len.symm⟩, _, _, rfl, rfl, _, rfl, ite2 (fun h => ?_) (fun h => ?_)⟩
  · have hl : 0 < c.length := by
      have := of_decide_eq_true h
      omega
    refine ⟨_, h9, _, h7, cc, k, rfl, fun r => ⟨_, h9, _, c.length, rfl, .inr ⟨_, SqT.of hf, iv_len.symm⟩, _, _, rfl, rfl, by show (0 : Int) < ((c.length : Nat) : Int); omega, ?_⟩⟩
    have hm : r % c.length < c.length := Nat.mod_lt _ hl
    have hat : atI (iv c) (((r : Nat) : Int) % ((c.length : Nat) : Int)) = some (V.int ((c[r % c.length] : Nat) : Int)) := by
      rw [mod_nat]
      exact atI_nat (iv_get (List.getElem?_eq_getElem hm))
    exact ⟨fa, _, _, _, rfl, rfl, SqT.of hf, hat, q _ (.inr ⟨_, List.getElem_mem hm, rfl⟩)⟩
  · have hc : c = [] := by
      cases c with
      | nil => rfl
      | cons x r => exact absurd (decide_eq_true (by rw [List.length_cons]; omega)) h
    exact ⟨1, rfl, q (-1) (.inl ⟨hc, rfl⟩)⟩
theorem ins_ev {K : PySem.W.Frag} {σ : L2.St} {D : Ends} {H H1 : Hp} {ee tt : Addr} {E : List (Nat × Nat)} {T : List (List Nat)} {as rs : List Addr} {i u d : Nat} {A R : List Nat} {td : TE} (h5 : σ[5]? = some (some (.ref tt))) (hi : σ[i]? = some (some (.int (u : Nat)))) (h14 : σ[14]? = some (some (.int (A.length : Nat))))
    (hd : ∀ (H' : Hp) (Q : VK), Q (.int (d : Nat)) H' → td σ H' Q) (M : Mkg H ee tt H1 E T as rs) (ntt : H tt = none) (nte : tt ≠ ee) (hu : T[u]? = some (A ++ R)) (hl : (A ++ R).length ≤ 1000)
    (q : ∀ (H' : Hp) (b : Addr), Mkg H ee tt H' E (T.set u (A ++ d :: R)) as (rs.set u b) → D.nx σ H') :
    tAsg (tOp rCat (tOp rCat (tSl (rSlL K) (tOp (rIxL K) (tVar 5) (tVar i)) tNoPart (tPart (tVar 14))) (tLst (tCons td tNil))) (tSl (rSlL K) (tOp (rIxL K) (tVar 5) (tVar i)) (tPart (tVar 14)) tNoPart)) (gSub (tVar 5) (tVar i) rSetL) D σ H1 := by
  obtain ⟨ru, hru, hrt⟩ := M.hT.at hu
  have hul := (List.getElem?_eq_some_iff.mp hru).1
  rw [List.length_append] at hl
  refine ⟨_, h5, _, hi, tt, _, _, V.ref ru, rfl, rfl, SqL.of M.htt, atI_nat (rf_get hru), _, h14, _, rfl, ru, _, rfl, SqL.of hrt, fun p1 n1 => ?_⟩
  rw [cut_lo]
  have s1 := same_new (o := HO.lst (iv A)) n1
  refine hd _ _ ⟨by show 1 ≤ sizeLine; decide, fun p2 n2 => ?_⟩
  have s2 := same_new (o := HO.lst [V.int (d : Nat)]) n2
  have hp1 := s2 _ _ (upd_same (H := H1) (a := p1) (o := HO.lst (iv A)))
  refine ⟨p1, p2, _, _, rfl, rfl, hp1, upd_same, ?_, fun p3 n3 => ?_⟩
  · rw [iv_len, sizeLine_eq]
    show A.length + 1 ≤ 16777216
    omega
  have s3 := same_new (o := HO.lst (iv A ++ [V.int (d : Nat)])) n3
  have M3 := M.new ((s1.trans s2).trans s3)
  have hrt3 := ((s1.trans s2).trans s3) _ _ hrt
  refine ⟨_, h5, _, hi, tt, _, _, V.ref ru, rfl, rfl, SqL.of M3.htt, atI_nat (rf_get hru), _, h14, _, rfl, ru, _, rfl, SqL.of hrt3, fun p4 n4 => ?_⟩
  rw [cut_hi]
  have s4 := same_new (o := HO.lst (iv R)) n4
  have hp3 := s4 _ _ (upd_same (H := upd (upd H1 p1 (.lst (iv A))) p2 (.lst [V.int (d : Nat)])) (a := p3) (o := HO.lst (iv A ++ [V.int (d : Nat)])))
  refine ⟨p3, p4, _, _, rfl, rfl, hp3, upd_same, ?_, fun p5 n5 => ?_⟩
  · rw [List.length_append, iv_len, iv_len, sizeLine_eq]
    show A.length + 1 + R.length ≤ 16777216
    omega
  have e5 : iv A ++ [V.int (d : Nat)] ++ iv R = iv (A ++ d :: R) := by
    rw [iv_app, List.append_assoc]
    rfl
  rw [e5]
  have s5 := same_new (o := HO.lst (iv (A ++ d :: R))) n5
  have M5 := M3.new (s4.trans s5)
  have n5t : p5 ≠ tt := ne_new ((M3.new s4).htt) n5
  have n5e : p5 ≠ ee := ne_new ((M3.new s4).hee) n5
  have h55 := upd_same (H := upd (upd (upd (upd H1 p1 (.lst (iv A))) p2 (.lst [V.int (d : Nat)])) p3 (.lst (iv A ++ [V.int (d : Nat)]))) p4 (.lst (iv R))) (a := p5) (o := HO.lst (iv (A ++ d :: R)))
  refine ⟨_, h5, _, hi, tt, _, _, u, rfl, rfl, M5.htt, ixN_nat (by rw [List.length_map]; exact hul), q _ p5 ?_⟩
  have ntr : tt ∉ rs.set u p5 := fun m => by
    rcases List.mem_or_eq_of_mem_set m with z | z
    · exact M5.hT.off_refs M5.htt z
    · exact n5t z.symm
  refine ⟨Same.put M5.sm ntt, by rw [upd_ne (Ne.symm nte)]; exact M5.hee, M5.hE.keep (Keeps.lst M5.htt), by rw [upd_same, List.map_set], (M5.hT.swap h55).off ntr, fun m => ?_⟩
  rcases List.mem_or_eq_of_mem_set m with z | z
  · exact M5.nee z
  · exact n5e z.symm
theorem test_ev {K : PySem.W.Frag} {σ : L2.St} {H : Hp} {tt : Addr} {xs : List V} {cc : Int} {Q : Bool → Hp → Prop} (h7 : σ[7]? = some (some (.int cc))) (h5 : σ[5]? = some (some (.ref tt))) (h3 : σ[3]? = some (some (.int 9))) (ht : H tt = some (.lst xs)) (q1 : xs.length < 9 → Q true H) (q2 : Q false H) :
    tAnd (tTest (tOp rEq (tOp (rI (fun _ j => 0 < j) fun i j => V.int (i % j)) (tVar 7) (tC (.int 2))) (tC (.int 0)))) (tTest (tOp (rI0 fun i j => V.bl (decide (i < j))) (tCB (rLen K) (tCons (tVar 5) tNil)) (tVar 3))) σ H Q := by
  refine ⟨_, h7, cc, 2, rfl, rfl, by show (0 : Int) < 2; decide, rfl, _, rfl, ite2 (fun h0 => ?_) (fun h0 => q2)⟩
  refine ⟨_, h5, _, xs.length, rfl, .inl ⟨_, SqL.of ht, rfl⟩, _, h3, _, _, rfl, rfl, _, rfl, ?_⟩
  by_cases h : xs.length < 9
  · rw [decide_eq_true (show ((xs.length : Nat) : Int) < 9 by omega)]
    exact q1 h
  · rw [decide_eq_false (show ¬ ((xs.length : Nat) : Int) < 9 by omega)]
    exact q2
theorem sgn_ev {σ : L2.St} {H : Hp} {Q : VK} {z : Int} (h : σ[11]? = some (some (.int z))) (q : Q (.int (if z < 0 then 1 else 0)) H) :
    tIf (tTest (tOp (rI0 fun i j => V.bl (decide (i < j))) (tVar 11) (tC (.int 0)))) (tC (.int 1)) (tC (.int 0)) σ H Q := by
  refine ⟨_, h, z, 0, rfl, rfl, _, rfl, ite2 (fun h0 => ?_) (fun h0 => ?_)⟩
  · rw [if_pos (of_decide_eq_true h0)] at q
    exact q
  · rw [if_neg (fun e => h0 (decide_eq_true e))] at q
    exact q
theorem Mkg.edge {H H' : Hp} {ee tt p : Addr} {E : List (Nat × Nat)} {T : List (List Nat)} {as rs : List Addr} (M : Mkg H ee tt H' E T as rs) (he : H ee = none) (nte : tt ≠ ee) (n : H' p = none) (e : Nat × Nat) :
    Mkg H ee tt (upd (upd H' p (.tup (iv (pr e)))) ee (.lst (as.map V.ref ++ [V.ref p]))) (E ++ [e]) T (as ++ [p]) rs := by
  have M1 := M.new (same_new (o := HO.tup (iv (pr e))) n)
  refine ⟨Same.put M1.sm he, ?_, ?_, ?_, M1.hT.off M1.nee, M1.nee⟩
  · rw [upd_same, List.map_append]
    rfl
  · rw [List.map_append]
    exact (M1.hE.snoc upd_same).keep (Keeps.lst M1.hee)
  · rw [upd_ne nte]
    exact M1.htt
theorem Mkg.leaf {H H' : Hp} {ee tt p : Addr} {E : List (Nat × Nat)} {T : List (List Nat)} {as rs : List Addr} (M : Mkg H ee tt H' E T as rs) (ht : H tt = none) (nte : tt ≠ ee) (n : H' p = none) (g : List Nat) :
    Mkg H ee tt (upd (upd H' p (.lst (iv g))) tt (.lst (rs.map V.ref ++ [V.ref p]))) E (T ++ [g]) as (rs ++ [p]) := by
  have M1 := M.new (same_new (o := HO.lst (iv g)) n)
  have npt : p ≠ tt := ne_new M.htt n
  have npe : p ≠ ee := ne_new M.hee n
  refine ⟨Same.put M1.sm ht, ?_, M1.hE.keep (Keeps.lst M1.htt), ?_, (M1.hT.snoc upd_same).off ?_, ?_⟩
  · rw [upd_ne (Ne.symm nte)]
    exact M1.hee
  · rw [upd_same, List.map_append]
    rfl
  · intro m
    rcases List.mem_append.mp m with z | z
    · exact M1.hT.off_refs M1.htt z
    · exact npt (List.mem_singleton.mp z).symm
  · intro m
    rcases List.mem_append.mp m with z | z
    · exact M1.nee z
    · exact npe (List.mem_singleton.mp z).symm
section
variable {P : Program} {w : World} {K : PySem.W.Frag} {mg : Str → Option Value} {base : Heap}
def spMake (K : PySem.W.Frag) : Sp := fun vs H Q _ => ∃ (a : Addr) (ns : List Int), vs = [.ref a, .int 1, .int 12, .int 9] ∧ SqL K H a (ns.map V.int) ∧
  ∀ (H' : Hp) (t ee at_ : Addr) (as rs : List Addr) (E : List (Nat × Nat)) (T : List (List Nat)) (s : Nat → Nat), Same H H' → H' t = some (.tup [.int (T.length : Nat), .ref ee, .ref at_]) → H' ee = some (.lst (as.map V.ref)) → Tups H' as (E.map pr) →
    H' at_ = some (.lst (rs.map V.ref)) → Tups H' rs T → Pl E T s → E.length ≤ 12 → T.length ≤ 9 → Q (.ref t) H'
abbrev nK : List Str := ["_law_script", "_law_first", "_law_most", "_law_vertices", "_law_edges", "_law_turns", "_law_k", "_law_cell_here", "_law_faces_here", "_law_face", "_law_one", "_law_other", "_law_u", "_law_dart", "_law_place_here", "_law_v", "_law_own"]
theorem scK : FnScope nK ["_law_script", "_law_first", "_law_most", "_law_vertices"] (defScope sMake) := ⟨rfl, rfl, rfl, by decide +kernel, rfl, by decide +kernel, by decide +kernel⟩
theorem ok_make {f fC fM fW fP fO C : Addr} {fd fdC fdM fdW fdP fdO : FuncData} {k : Nat} (F : Fun K "_law_plane" "_law_plane" sMake f fd)
    (gC : mg "_law_cell" = some (.ref fC)) (kC : PySem.W.keepIn K (.ref fC) = true) (bC : Binds K fdC ["_law_script", "_law_k"] []) (GC : FnOk P w K mg base CX0 (k + 1) fC fdC ["_law_script", "_law_k"] (spCell K))
    (gM : mg "_law_mix" = some (.ref fM)) (kM : PySem.W.keepIn K (.ref fM) = true) (bM : Binds K fdM ["_law_cell_here", "_law_k"] []) (GM : FnOk P w K mg base CX0 (k + 1) fM fdM ["_law_cell_here", "_law_k"] spMix)
    (gW : mg "_law_faces" = some (.ref fW)) (kW : PySem.W.keepIn K (.ref fW) = true) (bW : Binds K fdW ["_law_edges", "_law_turns"] []) (GW : FnOk P w K mg base CX0 (k + 1) fW fdW ["_law_edges", "_law_turns"] spTrace)
    (gP : mg "_law_place" = some (.ref fP)) (kP : PySem.W.keepIn K (.ref fP) = true) (bP : Binds K fdP ["_law_turns", "_law_vertex", "_law_dart"] []) (GP : FnOk P w K mg base CX0 (k + 1) fP fdP ["_law_turns", "_law_vertex", "_law_dart"] spPlace)
    (gO : mg "_law_owner" = some (.ref fO)) (kO : PySem.W.keepIn K (.ref fO) = true) (bO : Binds K fdO ["_law_turns", "_law_dart"] []) (GO : FnOk P w K mg base CX0 (k + 1) fO fdO ["_law_turns", "_law_dart"] spOwner)
    (T' : Txt K mg C) : FnOk P w K mg base CX0 (k + 2) f fd ["_law_script", "_law_first", "_law_most", "_law_vertices"] (spMake K) := by
  refine F.ok scK (fun vs H Q E h => ?_) (fun cdv A outer s H vs Q E hr h => ?_)
  · obtain ⟨_, _, rfl, _⟩ := h
    rfl
  · obtain ⟨a, ns, rfl, hS, q⟩ := h
    have hu := hu_of hr
    refine ⟨_, pss_cons (ps_set (i := 4) scK.nd rfl (.inl rfl) (pe_lst pa_nil))
      (pss_cons (ps_set (i := 5) scK.nd rfl (.inl rfl) (pe_lst (pa_cons (pe_lst pa_nil) pa_nil)))
      (pss_cons (ps_for PassesOwn.never rfl (pi_range1 rfl T'.range (pa_cons (pe_op op_mod (pe_call GC hr (by rfl) gC kC bC .nil pass0 (pa_cons (pv 0) (pa_cons (pv 1) pa_nil))) (pe_op op_add (pv 2) pe_int)) pa_nil)) (pg_name (i := 6) scK.nd rfl (.inl rfl))
        (pss_cons (ps_set (i := 7) scK.nd rfl (.inl rfl) (pe_call GC hr (by rfl) gC kC bC .nil pass0 (pa_cons (pv 0) (pa_cons (pe_op op_add (pe_op op_add (pv 1) pe_int) (pv 6)) pa_nil))))
        (pss_cons (ps_set (i := 8) scK.nd rfl (.inl rfl) (pe_call GW hr (by rfl) gW kW bW .nil pass0 (pa_cons (pv 4) (pa_cons (pv 5) pa_nil))))
        (pss_cons (ps_set (i := 9) scK.nd rfl (.inl rfl) (pe_ix ix_list (pv 8) (pe_op op_mod (pe_op op_fdiv (pv 7) pe_int) (pe_callB call_len (by rfl) T'.len PySem.boot_len (pa_cons (pv 8) pa_nil))) (fun _ _ => rfl)))
        (pss_cons (ps_set (i := 10) scK.nd rfl (.inl rfl) (pe_ifExp (pt_cmpR op_gt (pe_callB call_len (by rfl) T'.len PySem.boot_len (pa_cons (pv 9) pa_nil)) pe_int (nomark _))
          (pe_ix ix_tup (pv 9) (pe_op op_mod (pe_call GM hr (by rfl) gM kM bM .nil pass0 (pa_cons (pv 7) (pa_cons pe_int pa_nil))) (pe_callB call_len (by rfl) T'.len PySem.boot_len (pa_cons (pv 9) pa_nil))) (fun _ _ => rfl)) (pe_un un_neg pe_int)))
        (pss_cons (ps_set (i := 11) scK.nd rfl (.inl rfl) (pe_ifExp (pt_cmpR op_gt (pe_callB call_len (by rfl) T'.len PySem.boot_len (pa_cons (pv 9) pa_nil)) pe_int (nomark _))
          (pe_ix ix_tup (pv 9) (pe_op op_mod (pe_call GM hr (by rfl) gM kM bM .nil pass0 (pa_cons (pv 7) (pa_cons pe_int pa_nil))) (pe_callB call_len (by rfl) T'.len PySem.boot_len (pa_cons (pv 9) pa_nil))) (fun _ _ => rfl)) (pe_un un_neg pe_int)))
        (pss_cons (ps_set (i := 12) scK.nd rfl (.inl rfl) (pe_call GO hr (by rfl) gO kO bO .nil pass0 (pa_cons (pv 5) (pa_cons (pv 10) pa_nil))))
        (pss_cons (ps_set (i := 13) scK.nd rfl (.inl rfl) (pe_op op_mul pe_int (pe_callB call_len (by rfl) T'.len PySem.boot_len (pa_cons (pv 4) pa_nil))))
        (pss_cons (ps_set (i := 14) scK.nd rfl (.inl rfl) (pe_call GP hr (by rfl) gP kP bP .nil pass0 (pa_cons (pv 5) (pa_cons (pv 12) (pa_cons (pv 10) pa_nil)))))
        (pss_cons (ps_asg (pe_op op_cat (pe_op op_cat (pe_slice sl_list (pe_ix ix_list (pv 5) (pv 12) (fun _ _ => rfl)) po_none (po_some (pv 14))) (pe_lst (pa_cons (pv 13) pa_nil))) (pe_slice sl_list (pe_ix ix_list (pv 5) (pv 12) (fun _ _ => rfl)) (po_some (pv 14)) po_none)) (pg_sub (pv 5) (pv 12) set_list))
        (pss_one (ps_if (PW.pt (pw_and (pt_cmpR op_eq (pe_op op_mod (pv 7) pe_int) pe_int (nomark _)) (pw_and1 (pt_cmpR op_lt (pe_callB call_len (by rfl) T'.len PySem.boot_len (pa_cons (pv 5) pa_nil)) (pv 3) (nomark _)))))
          (pss_cons (ps_expr (pe_bm PySem.F.plainAttrs_list PySem.F.slot_list_append PySem.F.type_list_append mt_append (pv 4) (pa_cons (pe_tup (pa_cons (pv 12) (pa_cons (pe_callB call_len (by rfl) T'.len PySem.boot_len (pa_cons (pv 5) pa_nil)) pa_nil))) pa_nil)))
          (pss_one (ps_expr (pe_bm PySem.F.plainAttrs_list PySem.F.slot_list_append PySem.F.type_list_append mt_append (pv 5) (pa_cons (pe_lst (pa_cons (pe_op op_add (pv 13) pe_int) pa_nil)) pa_nil)))))
          (pss_cons (ps_set (i := 15) scK.nd rfl (.inl rfl) (pe_call GO hr (by rfl) gO kO bO .nil pass0 (pa_cons (pv 5) (pa_cons (pv 11) pa_nil))))
          (pss_cons (ps_set (i := 14) scK.nd rfl (.inl rfl) (pe_op op_add (pe_call GP hr (by rfl) gP kP bP .nil pass0 (pa_cons (pv 5) (pa_cons (pv 15) (pa_cons (pv 11) pa_nil)))) (pe_ifExp (pt_cmpR op_lt (pv 11) pe_int (nomark _)) pe_int pe_int)))
          (pss_cons (ps_expr (pe_bm PySem.F.plainAttrs_list PySem.F.slot_list_append PySem.F.type_list_append mt_append (pv 4) (pa_cons (pe_tup (pa_cons (pv 12) (pa_cons (pv 15) pa_nil))) pa_nil)))
          (pss_one (ps_asg (pe_op op_cat (pe_op op_cat (pe_slice sl_list (pe_ix ix_list (pv 5) (pv 15) (fun _ _ => rfl)) po_none (po_some (pv 14))) (pe_lst (pa_cons (pe_op op_add (pv 13) pe_int) pa_nil))) (pe_slice sl_list (pe_ix ix_list (pv 5) (pv 15) (fun _ _ => rfl)) (po_some (pv 14)) po_none)) (pg_sub (pv 5) (pv 15) set_list))))))))))))))))))
      (pss_one (ps_ret (pe_tup (pa_cons (pe_callB call_len (by rfl) T'.len PySem.boot_len (pa_cons (pv 5) pa_nil)) (pa_cons (pv 4) (pa_cons
        (pe_lc (own := [("_law_own", 16)]) (g := gName 16) (by rfl) scK.nd (pi_list (pv 5)) (blkOk_by (N := nK) (sc := defScope sMake) (by decide +kernel)) (fun _ _ _ _ _ => pg_name (i := 16) scK.nd rfl (.inl rfl)) (fun _ _ _ _ _ => pts_nil)
          (te := tCB (fun xs H Q => ∃ p ys, xs = [V.ref p] ∧ ((SqL K H p ys ∧ ∀ l, H l = none → Q (.ref l) (upd H l (.tup ys))) ∨ (SqT K H p ys ∧ Q (.ref p) H))) (tCons (tVar 16) tNil))
          (fun _ _ _ _ _ => pe_callTy call_tuple_of (by rfl) T'.tuple (by decide +kernel) (pa_cons (pv 16) pa_nil))) pa_nil)))))))), ?_⟩
    refine ⟨Nat.zero_le _, fun ee nee => ?_⟩
    refine ⟨Nat.zero_le _, fun r0 nr0 => ⟨by show 1 ≤ sizeLine; decide, fun tt ntt => ?_⟩⟩
    have s1 : Same H (upd H ee (.lst [])) := same_new nee
    have s2 := same_new (o := HO.lst []) nr0
    have s3 := same_new (o := HO.lst [V.ref r0]) ntt
    have nre : r0 ≠ ee := ne_new upd_same nr0
    have nte : tt ≠ ee := fun z => by
      subst z
      have := s2 _ _ (upd_same (H := H) (a := tt) (o := HO.lst []))
      rw [ntt] at this
      cases this
    have nttH : H tt = none := (s1.trans s2).free ntt
    have M0 : Mkg H ee tt _ [] [[]] [] [r0] := ⟨(s1.trans s2).trans s3, s3 _ _ (s2 _ _ (upd_same (H := H) (a := ee) (o := HO.lst []))), Tups.nil, upd_same (o := HO.lst [V.ref r0]), ⟨rfl, fun i a f h1 h2 => by
      match i, h1, h2 with
      | 0, h1, h2 =>
        cases h1
        cases h2
        exact s3 _ _ upd_same
      | i + 1, h1, _ => simp at h1⟩, by simpa using Ne.symm nre⟩
    revert M0
    generalize upd (upd (upd H ee (.lst [])) r0 (.lst [])) tt (.lst [V.ref r0]) = H0
    intro M0
    refine ⟨_, rfl, _, rfl, a, ns, 1, rfl, M0.sm.seq hS, _, rfl, _, _, rfl, rfl, _, _, rfl, rfl, by show (0 : Int) < 13; decide, ?_⟩
    have hn0 : 0 ≤ cellN ns 1 % 13 := Int.emod_nonneg _ (by decide)
    have hn1 : cellN ns 1 % 13 < 13 := Int.emod_lt_of_pos _ (by decide)
    refine ⟨cellN ns 1 % 13, rfl, by omega, by omega, for_range (lo := 0) (n := _) (fun i σ H' => ∃ (v6 v7 v8 v9 v10 v11 v12 v13 v14 v15 : Option V) (E : List (Nat × Nat)) (T : List (List Nat)) (s : Nat → Nat) (as rs : List Addr),
        σ = [some (.ref a), some (.int 1), some (.int 12), some (.int 9), some (.ref ee), some (.ref tt), v6, v7, v8, v9, v10, v11, v12, v13, v14, v15, none] ∧ Mkg H ee tt H' E T as rs ∧ Pl E T s ∧ E.length = i ∧ T.length ≤ 9)
      ⟨none, none, none, none, none, none, none, none, none, none, [], [[]], id, [], [r0], rfl, M0, pl_start, rfl, by decide⟩ ?_ ?_⟩
    · rintro i σ H1 hi ⟨v6, v7, v8, v9, v10, v11, v12, v13, v14, v15, E, T, s, as, rs, rfl, M1, pl, hEi, hTl⟩
      have hi : i < 13 := by omega
      have e0i : ((0 : Int) + (i : Int)) = (i : Int) := Int.zero_add _
      show tSeq _ _ _ (List.set [some (.ref a), some (.int 1), some (.int 12), some (.int 9), some (.ref ee), some (.ref tt), v6, v7, v8, v9, v10, v11, v12, v13, v14, v15, none] 6 (some (.int ((0 : Int) + (i : Nat))))) H1
      rw [e0i]
      have lE : as.length = E.length := by
        have := M1.hE.1
        simpa using this
      have lT := M1.hT.1
      refine ⟨_, rfl, _, rfl, _, _, rfl, rfl, _, rfl, _, _, rfl, rfl, a, ns, 2 + i, ?_, M1.sm.seq hS, ?_⟩
      · show [V.ref a, V.int (1 + 1 + ((i : Nat) : Int))] = [V.ref a, V.int ((2 + i : Nat) : Int)]
        rw [show ((1 : Int) + 1 + ((i : Nat) : Int)) = ((2 + i : Nat) : Int) by omega]
      generalize cellN ns (2 + i) = cc
      refine ⟨_, rfl, _, rfl, ee, tt, as.map V.ref, rs, E, T, s, rfl, M1.hee, by rw [List.length_map, lE], M1.htt, M1.hT.rws, pl, by omega, fun H2 fh fs S2 nfh hfh hfs => ?_⟩
      have M2 := M1.new S2
      have hFl : 0 < (facesL E s).length := by
        have h1 : (facesL E s).length + T.length = E.length + 2 := pl.euler
        rcases Nat.eq_zero_or_pos E.length with z | z
        · have hF : facesL E s = [[]] := by
            show facesF (ph s) (2 * E.length) = [[]]
            rw [z]
            rfl
          rw [hF]
          exact Nat.zero_lt_one
        · exact Nat.lt_of_le_of_lt (Nat.zero_le _) (nm_lt (pl.faces z) (d := 0) (by omega))
      have lfs := hfs.1
      have hj0 : 0 ≤ cc / 2 % ((fs.length : Nat) : Int) := Int.emod_nonneg _ (by omega)
      have hj1 : cc / 2 % ((fs.length : Nat) : Int) < ((fs.length : Nat) : Int) := Int.emod_lt_of_pos _ (by omega)
      obtain ⟨j, hj⟩ : ∃ j : Nat, cc / 2 % ((fs.length : Nat) : Int) = (j : Int) := ⟨(cc / 2 % ((fs.length : Nat) : Int)).toNat, (Int.toNat_of_nonneg hj0).symm⟩
      rw [hj] at hj1
      have hjl : j < fs.length := by omega
      obtain ⟨fa, hfa⟩ : ∃ fa, fs[j]? = some fa := ⟨fs[j], List.getElem?_eq_getElem hjl⟩
      obtain ⟨c, hc, hfc⟩ := hfs.at hfa
      have hcm := List.mem_of_getElem? hc
      refine ⟨_, rfl, _, rfl, _, _, rfl, rfl, ⟨by decide, by decide⟩, _, rfl, _, fs.length, rfl, .inl ⟨_, SqL.of hfh, by simp⟩, _, _, rfl, rfl, by show (0 : Int) < ((fs.length : Nat) : Int); omega, fh, _, _, V.ref fa, rfl, rfl, SqL.of hfh, ?_, ?_⟩
      · show atI (fs.map V.ref) (cc / 2 % ((fs.length : Nat) : Int)) = some (V.ref fa)
        rw [hj]
        exact atI_nat (rf_get hfa)
      refine pick_ev rfl rfl hfc fun z1 p1 => ?_
      refine pick_ev rfl rfl hfc fun z2 p2 => ?_
      obtain ⟨u, A, R, hu, ok1, pk1, ⟨s', pl1⟩, v, A', R', n2, hv, ok2, pk2, hn2, s'', pl2⟩ := choose_ok pl hcm p1 p2
      have hul := (List.getElem?_eq_some_iff.mp hu).1
      refine ⟨_, rfl, _, rfl, tt, rs, T, z1, u, rfl, M2.htt, M2.hT, by omega, ok1, ?_⟩
      refine ⟨_, rfl, _, as.length, rfl, .inl ⟨_, SqL.of M2.hee, by simp⟩, 2, _, rfl, rfl, .inl ⟨by decide, by decide⟩, ?_⟩
      obtain ⟨ru, hru, hrt⟩ := M2.hT.at hu
      refine ⟨_, rfl, _, rfl, _, rfl, tt, ru, rs, u, _, z1, A.length, rfl, M2.htt, hru, hrt, pk1, ?_⟩
      have dE : ((2 : Int) * ((as.length : Nat) : Int)) = ((2 * E.length : Nat) : Int) := by omega
      have rl : ∀ {T2 : List (List Nat)} {j : Nat} {row : List Nat}, T2.flatten.length ≤ 1000 → T2[j]? = some row → row.length ≤ 1000 := fun h hj => by
        obtain ⟨X, Y, e, _⟩ := set_split hj
        rw [e, List.flatten_append, List.flatten_cons, List.length_append, List.length_append] at h
        omega
      have hTf : T.flatten.length ≤ 100 := by
        rw [pl.pm.length_eq, List.length_range]
        omega
      refine ins_ev (d := 2 * E.length) rfl rfl rfl (fun H' Q hq => ⟨_, rfl, by show Q (V.int (2 * ((as.length : Nat) : Int))) H'; rw [dE]; exact hq⟩) M2 nttH nte hu (rl (by omega) hu) fun H3 b3 M3 => ?_
      have lT3 : (rs.set u b3).length = T.length := by rw [List.length_set]; exact lT
      refine test_ev rfl rfl rfl M3.htt (fun hlt => ?_) ?_
      · rw [List.length_map, lT3] at hlt
        refine ⟨_, rfl, .inl ⟨rfl, _, SqL.of M3.hee⟩, _, rfl, _, rfl, _, T.length, rfl, .inl ⟨_, SqL.of M3.htt, by rw [List.length_map]; exact lT3.symm⟩, by show 2 ≤ sizeLine; decide, fun p1 n1 => ?_⟩
        have M4 := M3.edge nee nte n1 (u, T.length)
        refine ⟨ee, _, _, rfl, rfl, (same_new n1) _ _ M3.hee, by rw [List.length_map, sizeLine_eq]; omega, ?_⟩
        refine ⟨_, rfl, .inl ⟨rfl, _, SqL.of M4.htt⟩, _, rfl, _, _, rfl, rfl, by show 1 ≤ sizeLine; decide, fun p2 n2 => ?_⟩
        have M5 := M4.leaf nttH nte n2 [2 * E.length + 1]
        refine ⟨tt, _, _, rfl, rfl, (same_new n2) _ _ M4.htt, by rw [List.length_map, lT3, sizeLine_eq]; omega, ?_⟩
        have e1 : V.int ((2 : Int) * ((as.length : Nat) : Int) + 1) = V.int ((2 * E.length + 1 : Nat) : Int) := by
          congr 1
          omega
        have e2 : iv [2 * E.length + 1] = [V.int ((2 : Int) * ((as.length : Nat) : Int) + 1)] := by
          show [V.int ((2 * E.length + 1 : Nat) : Int)] = _
          rw [← e1]
        rw [e2] at M5
        exact ⟨_, _, _, _, _, _, _, _, _, _, _, _, s', _, _, rfl, M5, pl1, by rw [List.length_append, hEi]; rfl, by rw [List.length_append, List.length_set]; show T.length + 1 ≤ 9; omega⟩
      · -- the other end
        have lt1 : (T.set u (A ++ (2 * E.length) :: R)).length = T.length := List.length_set
        refine ⟨_, rfl, _, rfl, tt, _, _, z2, v, rfl, M3.htt, M3.hT, by rw [lt1]; omega, ok2, ?_⟩
        obtain ⟨rv', hrv, hrvt⟩ := M3.hT.at hv
        refine ⟨_, rfl, _, rfl, _, rfl, tt, rv', _, v, _, z2, n2, rfl, M3.htt, hrv, hrvt, pk2, ?_⟩
        refine sgn_ev rfl ⟨_, _, rfl, rfl, ?_⟩
        show tSeq _ _ _ (List.set _ 14 (some (V.int (((n2 : Nat) : Int) + (if z2 < 0 then 1 else 0))))) H3
        rw [hn2]
        refine ⟨_, rfl, .inl ⟨rfl, _, SqL.of M3.hee⟩, _, rfl, _, rfl, by show 2 ≤ sizeLine; decide, fun p1 n1 => ?_⟩
        have M4 := M3.edge nee nte n1 (u, v)
        refine ⟨ee, _, _, rfl, rfl, (same_new n1) _ _ M3.hee, by rw [List.length_map, sizeLine_eq]; omega, ?_⟩
        have hf1 : (T.set u (A ++ (2 * E.length) :: R)).flatten.length ≤ 1000 := by
          have := pl1.pm.length_eq
          rw [List.flatten_append, List.length_append, List.length_range, List.length_append] at this
          simp only [List.length_cons, List.length_nil] at this
          omega
        refine ins_ev (d := 2 * E.length + 1) rfl rfl rfl (fun H' Q hq => ⟨_, rfl, _, _, rfl, rfl, by
          show Q (V.int ((2 : Int) * ((as.length : Nat) : Int) + 1)) H'
          rw [show ((2 : Int) * ((as.length : Nat) : Int) + 1) = ((2 * E.length + 1 : Nat) : Int) by omega]
          exact hq⟩) M4 nttH nte hv (rl hf1 hv) fun H5 b5 M5 => ?_
        exact ⟨_, _, _, _, _, _, _, _, _, _, _, _, s'', _, _, rfl, M5, pl2, by rw [List.length_append, hEi]; rfl, by rw [List.length_set, List.length_set]; omega⟩
    · rintro σ H1 ⟨v6, v7, v8, v9, v10, v11, v12, v13, v14, v15, E, T, s, as, rs, rfl, M1, pl, hEi, hTl⟩
      have lT := M1.hT.1
      refine ⟨_, rfl, _, T.length, rfl, .inl ⟨_, SqL.of M1.htt, by rw [List.length_map]; exact lT.symm⟩, _, rfl, _, rfl, tt, rfl, ⟨_, SqL.of M1.htt⟩, fun D nD => lc_list (K := K) (a := tt) (xs := rs.map V.ref) (fun j H' => ∃ us : List Addr, Same H1 H' ∧ H' D = some (.lst (us.map V.ref)) ∧ Tups H' us (T.take j))
        ⟨[], same_new nD, upd_same, Tups.nil⟩ (fun j H' _ ⟨_, S, _⟩ => SqL.of (S _ _ M1.htt)) ?_ ?_⟩
      · rintro j x H5 hj ⟨us, S5, hD5, hu5⟩
        obtain ⟨r, hr', rfl⟩ := rf_of hj
        have hjl := (List.getElem?_eq_some_iff.mp hr').1
        obtain ⟨row, hrow⟩ : ∃ row, T[j]? = some row := ⟨_, List.getElem?_eq_getElem (by rw [← lT]; exact hjl)⟩
        have hrt := (M1.hT.same S5).2 j r row hr' hrow
        refine ⟨rfl, _, rfl, r, _, rfl, .inl ⟨SqL.of hrt, fun l nl => ?_⟩⟩
        have s6 := same_new (o := HO.tup (iv row)) nl
        have hD6 := s6 _ _ hD5
        refine ⟨_, hD6, ?_, us ++ [l], Same.put (S5.trans s6) nD, by rw [upd_same, List.map_append]; rfl, ?_⟩
        · rw [List.length_map, hu5.1, List.length_take, sizeLine_eq]
          omega
        · rw [List.take_add_one, hrow]
          refine ((hu5.mono s6).keep (Keeps.lst hD6)).snoc ?_
          rw [upd_ne (ne_new hD5 nl)]
          exact upd_same
      rintro H5 ⟨us, S5, hD5, hu5⟩
      rw [List.length_map, lT, List.take_length] at hu5
      refine ⟨by show 3 ≤ sizeLine; decide, fun t nt => ?_⟩
      have s6 := same_new (o := HO.tup [V.int (T.length : Nat), V.ref ee, V.ref D]) nt
      exact q _ t ee D as us E T s ((M1.sm.trans S5).trans s6) upd_same (s6 _ _ (S5 _ _ M1.hee)) ((M1.hE.mono S5).mono s6) (s6 _ _ hD5) (hu5.mono s6) pl (by omega) hTl
end
end Wk
namespace Wk
open PySem L2 Rl Mt
theorem rng_ev {te : TE} {v0 v1 v2 v3 v4 v5 v6 v7 v8 v9 v10 : Option V} {H : Hp} {D : Addr} {Qd : Hp → Prop} {lo : Int} {n : Nat} (f : Nat → Nat) (hn : n ≤ 1000) (hD : H D = none)
    (hte : ∀ i, i < n → ∀ (H' : Hp) (Q : VK), Q (.int (f i : Nat)) H' → te [v0, v1, v2, v3, v4, v5, v6, v7, some (.int (lo + (i : Nat))), v9, v10] H' Q)
    (q : ∀ H' : Hp, Same H H' → H' D = some (.lst (iv ((List.range n).map f))) → Qd H') :
    ∃ W : Nat → Nat → Hp → Prop, (∃ m, W 0 m (upd H D (.lst []))) ∧ ∀ i m H, W i m H →
      ((Itr lo n).stop i H ∧ Qd H) ∨ ((Itr lo n).go i H ∧ ∃ Nx : Hp → Prop, (∀ H', Nx H' → ∃ m', m' < m ∧ W (i + 1) m' H') ∧ ∀ x H', (Itr lo n).yld i H x H' → gName 8 x (wipe [v0, v1, v2, v3, v4, v5, v6, v7, v8, v9, v10] [8]) H' fun σ2 H2 => wipe σ2 [8] = wipe [v0, v1, v2, v3, v4, v5, v6, v7, v8, v9, v10] [8] ∧ tYes σ2 H2 fun b H3 =>
        if b = true then te σ2 H3 fun y H4 => ∃ acc, H4 D = some (.lst acc) ∧ acc.length < sizeLine ∧ Nx (upd H4 D (.lst (acc ++ [y]))) else Nx H3) := by
  refine lc_range (lo := lo) (n := n) (fun i H' => Same H H' ∧ H' D = some (.lst (iv ((List.range i).map f)))) ⟨same_new hD, upd_same⟩ (fun i H' hi ⟨S2, hDl⟩ => ?_) fun H' ⟨S2, hDl⟩ => q H' S2 hDl
  refine ⟨rfl, ?_⟩
  refine hte i hi H' _ ⟨_, hDl, ?_, Same.put S2 hD, ?_⟩
  · rw [iv_len, List.length_map, List.length_range]
    exact small1000 (by omega)
  · rw [upd_same, List.range_succ, List.map_append, iv_app]
    rfl
theorem rngT_ev {te : TE} {v0 v1 v2 v3 v4 v5 v6 v7 v8 v9 v10 : Option V} {H : Hp} {D : Addr} {Qd : Hp → Prop} {lo : Int} {n : Nat} (f : Nat → List Nat) (hn : n ≤ 1000) (hD : H D = none)
    (hte : ∀ i, i < n → ∀ (H' : Hp) (Q : VK), (∀ p, H' p = none → Q (.ref p) (upd H' p (.tup (iv (f i))))) → te [v0, v1, v2, v3, v4, v5, v6, v7, some (.int (lo + (i : Nat))), v9, v10] H' Q)
    (q : ∀ (H' : Hp) (ts : List Addr), Same H H' → H' D = some (.lst (ts.map V.ref)) → Tups H' ts ((List.range n).map f) → Qd H') :
    ∃ W : Nat → Nat → Hp → Prop, (∃ m, W 0 m (upd H D (.lst []))) ∧ ∀ i m H, W i m H →
      ((Itr lo n).stop i H ∧ Qd H) ∨ ((Itr lo n).go i H ∧ ∃ Nx : Hp → Prop, (∀ H', Nx H' → ∃ m', m' < m ∧ W (i + 1) m' H') ∧ ∀ x H', (Itr lo n).yld i H x H' → gName 8 x (wipe [v0, v1, v2, v3, v4, v5, v6, v7, v8, v9, v10] [8]) H' fun σ2 H2 => wipe σ2 [8] = wipe [v0, v1, v2, v3, v4, v5, v6, v7, v8, v9, v10] [8] ∧ tYes σ2 H2 fun b H3 =>
        if b = true then te σ2 H3 fun y H4 => ∃ acc, H4 D = some (.lst acc) ∧ acc.length < sizeLine ∧ Nx (upd H4 D (.lst (acc ++ [y]))) else Nx H3) := by
  refine lc_range (lo := lo) (n := n) (fun i H' => ∃ ts : List Addr, Same H H' ∧ H' D = some (.lst (ts.map V.ref)) ∧ Tups H' ts ((List.range i).map f)) ⟨[], same_new hD, upd_same, Tups.nil⟩ (fun i H' hi ⟨ts, S2, hDl, hts⟩ => ?_) fun H' ⟨ts, S2, hDl, hts⟩ => q H' ts S2 hDl hts
  refine ⟨rfl, ?_⟩
  refine hte i hi H' _ fun t nt => ?_
  have s4 : Same H' (upd H' t (.tup (iv (f i)))) := same_new nt
  have hD4 := s4 _ _ hDl
  refine ⟨_, hD4, ?_, ts ++ [t], Same.put (S2.trans s4) hD, ?_, ?_⟩
  · rw [List.length_map, hts.1, List.length_map, List.length_range]
    exact small1000 (by omega)
  · rw [upd_same, List.map_append]
    rfl
  · rw [List.range_succ, List.map_append]
    refine ((hts.mono s4).keep (Keeps.lst hD4)).snoc ?_
    rw [upd_ne (ne_new hDl nt)]
    exact upd_same
theorem cut_1 {xs : List V} : cutV xs (some 1) none = xs.drop 1 := by
  show cutV xs (some ((1 : Nat) : Int)) none = _
  unfold cutV
  rw [HT.sIx_nat, HT.sIx_none]
  cases xs with
  | nil => rfl
  | cons x r =>
    rw [Nat.min_eq_left (by rw [List.length_cons]; omega)]
    exact List.take_of_length_le (by simp)
theorem Tups.app {H : Hp} {as bs : List Addr} {F G : List (List Nat)} (t : Tups H as F) (u : Tups H bs G) : Tups H (as ++ bs) (F ++ G) := by
  refine ⟨by rw [List.length_append, List.length_append, t.1, u.1], fun i b g h1 h2 => ?_⟩
  rcases Nat.lt_or_ge i as.length with q | q
  · rw [List.getElem?_append_left q] at h1
    rw [List.getElem?_append_left (by rw [← t.1]; exact q)] at h2
    exact t.2 i b g h1 h2
  · rw [List.getElem?_append_right q] at h1
    rw [List.getElem?_append_right (by rw [← t.1]; exact q)] at h2
    rw [← t.1] at h2
    exact u.2 _ b g h1 h2
theorem Tups.one {H : Hp} {a : Addr} {f : List Nat} (h : H a = some (.tup (iv f))) : Tups H [a] [f] := Tups.nil.snoc h
structure Cur (H : Hp) (ae at_ : Addr) (as rs : List Addr) (E : List (Nat × Nat)) (T : List (List Nat)) (s : Nat → Nat) : Prop where
  hae : H ae = some (.lst (as.map V.ref))
  hE : Tups H as (E.map pr)
  hat : H at_ = some (.lst (rs.map V.ref))
  hT : Tups H rs T
  pl : Pl E T s
  me : E.length ≤ 160
  nv : T.length ≤ 100
abbrev Mid (a : Addr) (σ : L2.St) (H' : Hp) : Prop := ∃ (cc : Int) (ae at_ : Addr) (as rs : List Addr) (E : List (Nat × Nat)) (T : List (List Nat)) (s : Nat → Nat),
  σ = [some (.ref a), some (.int (T.length : Nat)), some (.ref ae), some (.ref at_), some (.int cc), none, none, none, none, none, none] ∧ Cur H' ae at_ as rs E T s
theorem faces_sorted {E : List (Nat × Nat)} {T : List (List Nat)} {s : Nat → Nat} (h : Pl E T s) : (∀ c ∈ facesL E s, 2 ≤ (facesL E s).length → c ≠ []) ∧ (facesL E s).Pairwise fun f g => f.headD 0 < g.headD 0 := by
  rcases Nat.eq_zero_or_pos E.length with z | z
  · have hF : facesL E s = [[]] := by
      show facesF (ph s) (2 * E.length) = [[]]
      rw [z]
      rfl
    rw [hF]
    exact ⟨fun c _ h => absurd h (by decide), List.pairwise_singleton _ _⟩
  · obtain ⟨L, C, _⟩ := h.part
    have hF : facesL E s = fl (ph s) (2 * E.length) (2 * E.length) := facesF_pos (by omega)
    rw [hF]
    obtain ⟨C1, _, h1, h2⟩ := fl_ok C
    exact ⟨fun c hc _ => C1.ne c hc, h2⟩
section
variable {P : Program} {w : World} {K : PySem.W.Frag} {mg : Str → Option Value} {base : Heap}
def spLaw (K : PySem.W.Frag) : Sp := fun vs H Q _ => ∃ (a : Addr) (ns : List Int), vs = [.ref a] ∧ SqL K H a (ns.map V.int) ∧ ∀ H', Q (.bl true) H'
abbrev nL : List Str := ["_law_script", "_law_count", "_law_edges", "_law_turns", "_law_cell_here", "_law_told", "_law_face", "_law_along", "_law_k", "_law_entry", "_law_dart"]
theorem scL : FnScope nL ["_law_script"] (defScope sLaw) := ⟨rfl, rfl, rfl, by decide +kernel, rfl, by decide +kernel, by decide +kernel⟩
theorem ok_law {f fC fM fW fG fI fT C : Addr} {fd fdC fdM fdW fdG fdI fdT : FuncData} {k : Nat} (F : Fun K "law" "law" sLaw f fd)
    (gC : mg "_law_cell" = some (.ref fC)) (kC : PySem.W.keepIn K (.ref fC) = true) (bC : Binds K fdC ["_law_script", "_law_k"] []) (GC : FnOk P w K mg base CX0 (k + 1) fC fdC ["_law_script", "_law_k"] (spCell K))
    (gM : mg "_law_plane" = some (.ref fM)) (kM : PySem.W.keepIn K (.ref fM) = true) (bM : Binds K fdM ["_law_script", "_law_first", "_law_most", "_law_vertices"] []) (GM : FnOk P w K mg base CX0 (k + 2) fM fdM ["_law_script", "_law_first", "_law_most", "_law_vertices"] (spMake K))
    (gW : mg "_law_faces" = some (.ref fW)) (kW : PySem.W.keepIn K (.ref fW) = true) (bW : Binds K fdW ["_law_edges", "_law_turns"] []) (GW : FnOk P w K mg base CX0 (k + 1) fW fdW ["_law_edges", "_law_turns"] spTrace)
    (gT : mg "_law_tuples" = some (.ref fT)) (kT : PySem.W.keepIn K (.ref fT) = true) (bT : Binds K fdT ["_law_thing"] []) (GT : FnOk P w K mg base CX0 (k + 2) fT fdT ["_law_thing"] spT1)
    (gG : mg "good_orientation" = some (.ref fG)) (kG : PySem.W.keepIn K (.ref fG) = true) (bG : Binds K fdG ["plane"] []) (GG : FnOk P w K mg base CX0 (k + 5) fG fdG ["plane"] (spGood C))
    (MI : Mk K C fI) (bI : Binds K fdI ["self", "count", "edges", "turns"] []) (GI : FnOk P w K mg base CX0 (k + 3) fI fdI ["self", "count", "edges", "turns"] (spInit C))
    (T' : Txt K mg C) : FnOk P w K mg base CX0 (k + 6) f fd ["_law_script"] (spLaw K) := by
  refine F.ok scL (fun vs H Q E h => ?_) (fun cdv A outer s H vs Q E hr h => ?_)
  · obtain ⟨_, _, rfl, _⟩ := h
    rfl
  · obtain ⟨a, ns, rfl, hS, q⟩ := h
    have hu := hu_of hr
    have hr1 : Room (k + 1) _ := hr.mono (by omega)
    have hr2 : Room (k + 2) _ := hr.mono (by omega)
    have hr4 : Room (k + 4) _ := hr.mono (by omega)
    refine ⟨_, pss_cons (ps_asg (pe_call GM hr2 (by rfl) gM kM bM .nil pass0 (pa_cons (pv 0) (pa_cons pe_int (pa_cons pe_int (pa_cons pe_int pa_nil))))) (pg_tup rfl (pgs_cons (pg_name (i := 1) scL.nd rfl (.inl rfl)) (pgs_cons (pg_name (i := 2) scL.nd rfl (.inl rfl)) (pgs_cons (pg_name (i := 3) scL.nd rfl (.inl rfl)) pgs_nil)))))
      (pss_cons (ps_set (i := 4) scL.nd rfl (.inl rfl) (pe_callB call_abs (by rfl) T'.abs (by decide +kernel) (pa_cons (pe_call GC hr1 (by rfl) gC kC bC .nil pass0 (pa_cons (pv 0) (pa_cons pe_int pa_nil))) pa_nil)))
      (Evl.pss_cut (ps_if (pt_cmpR op_eq (pe_op op_mod (pv 4) pe_int) pe_int (nomark _))
        (pss_cons (ps_set (i := 1) scL.nd rfl (.inl rfl) pe_int)
        (pss_cons (ps_set (i := 2) scL.nd rfl (.inl rfl) (pe_op op_rep (pe_lst (pa_cons (pe_tup (pa_cons pe_int (pa_cons pe_int pa_nil))) pa_nil)) pe_int))
        (pss_one (ps_set (i := 3) scL.nd rfl (.inl rfl) (pe_lst (pa_cons
          (pe_callTy call_tuple_of (by rfl) T'.tuple (by decide +kernel) (pa_cons (pe_lc (own := [("_law_k", 8)]) (g := gName 8) (by rfl) scL.nd (pi_range1 rfl T'.range (pa_cons pe_int pa_nil)) (blkOk_by (N := nL) (sc := defScope sLaw) (by decide +kernel)) (fun _ _ _ _ _ => pg_name (i := 8) scL.nd rfl (.inl rfl)) (fun _ _ _ _ _ => pts_nil)
            (fun _ _ _ _ _ => pe_op op_mul pe_int (pv 8))) pa_nil))
          (pa_cons (pe_callTy call_tuple_of (by rfl) T'.tuple (by decide +kernel) (pa_cons (pe_revL (pe_lc (own := [("_law_k", 8)]) (g := gName 8) (by rfl) scL.nd (pi_range1 rfl T'.range (pa_cons pe_int pa_nil)) (blkOk_by (N := nL) (sc := defScope sLaw) (by decide +kernel)) (fun _ _ _ _ _ => pg_name (i := 8) scL.nd rfl (.inl rfl)) (fun _ _ _ _ _ => pts_nil)
            (fun _ _ _ _ _ => pe_op op_add (pe_op op_mul pe_int (pv 8)) pe_int))) pa_nil)) pa_nil))))))) pss_nil)
      (Evl.pss_cut (ps_if (pt_cmpR op_eq (pe_op op_mod (pv 4) pe_int) pe_int (nomark _))
        (pss_cons (ps_set (i := 1) scL.nd rfl (.inl rfl) pe_int)
        (pss_cons (ps_setLc (i := 2) (own := [("_law_k", 8)]) (g := gName 8) (by rfl) scL.nd rfl rfl (sw_true rfl rfl rfl (by decide +kernel)) (pi_range1 rfl T'.range (pa_cons pe_int pa_nil)) (blkOk_by (N := nL) (sc := defScope sLaw) (by decide +kernel)) (fun _ _ _ _ _ => pg_name (i := 8) scL.nd rfl (.inl rfl)) (fun _ _ _ _ _ => pts_nil)
            (fun _ _ _ _ _ => pe_tup (pa_cons (pv 8) (pa_cons (pe_op op_add (pv 8) pe_int) pa_nil))))
        (pss_one (ps_set (i := 3) scL.nd rfl (.inl rfl) (pe_op op_cat (pe_op op_cat (pe_lst (pa_cons (pe_tup (pa_cons pe_int pa_nil)) pa_nil))
          (pe_lc (own := [("_law_k", 8)]) (g := gName 8) (by rfl) scL.nd (pi_range2 rfl T'.range (pa_cons pe_int (pa_cons pe_int pa_nil))) (blkOk_by (N := nL) (sc := defScope sLaw) (by decide +kernel)) (fun _ _ _ _ _ => pg_name (i := 8) scL.nd rfl (.inl rfl)) (fun _ _ _ _ _ => pts_nil)
            (fun _ _ _ _ _ => pe_tup (pa_cons (pe_op op_sub (pe_op op_mul pe_int (pv 8)) pe_int) (pa_cons (pe_op op_mul pe_int (pv 8)) pa_nil)))))
          (pe_lst (pa_cons (pe_tup (pa_cons pe_int pa_nil)) pa_nil))))))) pss_nil)
      (pss_cons (ps_set (i := 5) scL.nd rfl (.inr rfl) (pe_call GG hr (by rfl) gG kG bG .nil pass0 (pa_cons (pe_make MI GI hr4 (by rfl) T'.mgC bI .nil pass0 (pa_cons (pv 1) (pa_cons (pv 2) (pa_cons (pv 3) pa_nil)))) pa_nil)))
      (pss_cons (ps_if (PW.pt (pw_or (pt_not (pt_val (pe_callB call_isi (by rfl) T'.isi PyProof.Rows.boot_isinstance (pa_cons (pv 5) (pa_cons (pe_bltn (v := .ty "tuple") (by rfl) T'.tuple (by decide +kernel) rfl) pa_nil)))))
          (pw_or (pt_not (pt_val (pe_call GT hr2 (by rfl) gT kT bT .nil pass0 (pa_cons (pv 5) pa_nil))))
          (pw_or1 (pt_cmpR op_ne (pe_callB call_len (by rfl) T'.len PySem.boot_len (pa_cons (pv 5) pa_nil)) (pe_callB call_len (by rfl) T'.len PySem.boot_len (pa_cons (pv 2) pa_nil)) (nomark _)))))) pss_never pss_nil)
      (pss_cons (ps_if (pt_cmpR op_gt (pe_callB call_len (by rfl) T'.len PySem.boot_len (pa_cons
          (pe_lc (own := [("_law_entry", 9)]) (g := gName 9) (by rfl) scL.nd (pi_tup (pv 5)) (blkOk_by (N := nL) (sc := defScope sLaw) (by decide +kernel)) (fun _ _ _ _ _ => pg_name (i := 9) scL.nd rfl (.inl rfl))
            (fun _ _ _ _ _ => pts_one (pt_cmpR (r := rIn K true) op_notIn_seq (pv 9) (pe_tup (pa_cons pe_int (pa_cons pe_int pa_nil))) (by rfl))) (fun _ _ _ _ _ => pv 9)) pa_nil)) pe_int (nomark _)) pss_never pss_nil)
      (pss_cons (ps_for PassesOwn.never rfl (pi_list (pe_slice sl_list (pe_callB cr_sortedA (by rfl) T'.sorted (by decide +kernel) (pa_cons (pe_call GW hr1 (by rfl) gW kW bW .nil pass0 (pa_cons (pv 2) (pa_cons (pv 3) pa_nil))) pa_nil)) (po_some pe_int) po_none)) (pg_name (i := 6) scL.nd rfl (.inl rfl))
        (pss_cons (ps_setLc (i := 7) (own := [("_law_dart", 10)]) (g := gName 10) (by rfl) scL.nd rfl rfl (sw_true rfl rfl rfl (by decide +kernel)) (pi_tup (pv 6)) (blkOk_by (N := nL) (sc := defScope sLaw) (by decide +kernel)) (fun _ _ _ _ _ => pg_name (i := 10) scL.nd rfl (.inl rfl))
            (fun _ _ _ _ _ => pts_one (pt_cmpR op_eq (pe_op op_mod (pv 10) pe_int) (pe_ix (r := rIxT K) ix_tup (pv 5) (pe_op op_fdiv (pv 10) pe_int) (fun _ _ => rfl)) (nomark _))) (fun _ _ _ _ _ => pv 10))
        (pss_one (ps_if (pt_cmpR op_eq (pe_op op_mod (pe_callB call_len (by rfl) T'.len PySem.boot_len (pa_cons (pv 7) pa_nil)) pe_int) pe_int (nomark _)) pss_never pss_nil))))
      (pss_one (ps_ret pe_bl))))))))), ?_⟩
    refine ⟨_, rfl, a, ns, rfl, hS, fun H1 t ee at_ as rs E0' T0' s0 S1 ht hee hE hat hT pl hEl hTl => ⟨t, _, rfl, SqT.of ht, rfl, _, _, rfl, _, _, rfl, _, _, rfl, rfl, ?_⟩⟩
    refine ⟨_, rfl, a, ns, 0, rfl, S1.seq hS, _, rfl, ?_⟩
    have C1 : Cur H1 ee at_ as rs E0' T0' s0 := ⟨hee, hE, hat, hT, pl, by omega, by omega⟩
    refine ⟨Mid a, ⟨_, rfl, _, 64, rfl, rfl, by show (0 : Int) < 64; decide, rfl, _, rfl, ite2 (fun _ => ?_) (fun _ => ⟨_, ee, at_, as, rs, E0', T0', s0, rfl, C1⟩)⟩, ?_⟩
    · refine ⟨by show 2 ≤ sizeLine; decide, fun p1 n1 => ⟨by show 1 ≤ sizeLine; decide, fun p2 n2 => ?_⟩⟩
      have s1 := same_new (o := HO.tup [V.int 0, V.int 1]) n1
      have s2 := same_new (o := HO.lst [V.ref p1]) n2
      have h1 := s2 _ _ (upd_same (H := H1) (a := p1) (o := HO.tup [V.int 0, V.int 1]))
      refine ⟨p2, 100, _, rfl, rfl, upd_same, by decide, by decide, by show 1 * 100 ≤ sizeLine; decide, fun p3 n3 => ?_⟩
      have s3 := same_new (o := HO.lst (List.replicate (100 : Int).toNat [V.ref p1]).flatten) n3
      have e3 : (List.replicate (100 : Int).toNat [V.ref p1]).flatten = (List.replicate 100 p1).map V.ref := rfl
      have h3 := upd_same (H := upd (upd H1 p1 (.tup [V.int 0, V.int 1])) p2 (.lst [V.ref p1])) (a := p3) (o := HO.lst (List.replicate (100 : Int).toNat [V.ref p1]).flatten)
      have h13 := s3 _ _ h1
      revert h3 h13
      generalize upd (upd (upd H1 p1 (.tup [V.int 0, V.int 1])) p2 (.lst [V.ref p1])) p3 (.lst (List.replicate (100 : Int).toNat [V.ref p1]).flatten) = H3
      intro h3 h13
      rw [e3] at h3
      have hE3 : Tups H3 (List.replicate 100 p1) (E1.map pr) := by
        refine ⟨by rw [List.length_replicate, List.length_map]; rfl, fun i b g g1 g2 => ?_⟩
        have b1 := List.eq_of_mem_replicate (List.mem_of_getElem? g1)
        have b2 : g = pr (0, 1) := by
          rw [show E1.map pr = List.replicate 100 (pr (0, 1)) from List.map_replicate ..] at g2
          exact List.eq_of_mem_replicate (List.mem_of_getElem? g2)
        rw [b1, b2]
        exact h13
      refine ⟨100, rfl, by decide, by decide, fun D4 n4 => rng_ev (lo := 0) (n := _) (fun k => 2 * k) (by decide) n4 (fun i hi H' Q hq => ⟨_, rfl, 2, _, rfl, rfl, .inl ⟨by decide, by decide⟩, ?_⟩) fun H4 S4 hD4 => ?_⟩
      · show Q (V.int ((2 : Int) * ((0 : Int) + ((i : Nat) : Int)))) H'
        rw [show ((2 : Int) * ((0 : Int) + ((i : Nat) : Int))) = ((2 * i : Nat) : Int) by omega]
        exact hq
      rw [show (100 : Int).toNat = 100 from rfl] at hD4
      refine ⟨D4, _, rfl, .inl ⟨SqL.of hD4, fun p5 n5 => ?_⟩⟩
      have s5 := same_new (o := HO.tup (iv ((List.range 100).map fun k => 2 * k))) n5
      have h5 := upd_same (H := H4) (a := p5) (o := HO.tup (iv ((List.range 100).map fun k => 2 * k)))
      revert s5 h5
      generalize upd H4 p5 (.tup (iv ((List.range 100).map fun k => 2 * k))) = H5
      intro s5 h5
      refine ⟨100, rfl, by decide, by decide, fun D6 n6 => rng_ev (lo := 0) (n := _) (fun k => 2 * k + 1) (by decide) n6 (fun i hi H' Q hq => ⟨_, rfl, 2, _, rfl, rfl, .inl ⟨by decide, by decide⟩, _, _, rfl, rfl, ?_⟩) fun H6 S6 hD6 => ?_⟩
      · show Q (V.int ((2 : Int) * ((0 : Int) + ((i : Nat) : Int)) + 1)) H'
        rw [show ((2 : Int) * ((0 : Int) + ((i : Nat) : Int)) + 1) = ((2 * i + 1 : Nat) : Int) by omega]
        exact hq
      rw [show (100 : Int).toNat = 100 from rfl] at hD6
      refine ⟨D6, _, rfl, SqL.of hD6, fun p7 n7 => ?_⟩
      have s7 := same_new (o := HO.lst (iv ((List.range 100).map fun k => 2 * k + 1)).reverse) n7
      refine ⟨p7, _, rfl, .inl ⟨SqL.of upd_same, fun p8 n8 => ⟨by show 2 ≤ sizeLine; decide, fun p9 n9 => ?_⟩⟩⟩
      have s8 := same_new (o := HO.tup (iv ((List.range 100).map fun k => 2 * k + 1)).reverse) n8
      have s9 := same_new (o := HO.lst [V.ref p5, V.ref p8]) n9
      have S39 := ((((S4.trans s5).trans S6).trans s7).trans s8).trans s9
      have S59 := ((S6.trans s7).trans s8).trans s9
      refine ⟨_, p3, p9, _, [p5, p8], E1, T1, Mt.s1, rfl, S39 _ _ h3, hE3.mono S39, upd_same, ?_, pl_1, by decide, by decide⟩
      refine (Tups.one (S59 _ _ h5)).app (Tups.one ?_)
      rw [s9 _ _ upd_same, iv, ← List.map_reverse]
    clear C1 hT hE hat hee hEl hTl pl ht S1 s0 T0' E0' rs as at_ ee t H1
    rintro σ1 H9 ⟨cc, ae1, at1, as1, rs1, E', T', s', rfl, C2⟩
    refine ⟨Mid a, ⟨_, rfl, _, 64, rfl, rfl, by show (0 : Int) < 64; decide, rfl, _, rfl, ite2 (fun _ => ?_) (fun _ => ⟨_, ae1, at1, as1, rs1, E', T', s', rfl, C2⟩)⟩, ?_⟩
    · clear C2
      refine ⟨99, rfl, by decide, by decide, fun D n0 => rngT_ev (lo := 0) (n := _) (fun k => pr (k, k + 1)) (by decide) n0 (fun i hi H' Q hq => ⟨_, rfl, _, rfl, _, _, rfl, rfl, by show 2 ≤ sizeLine; decide, fun p np => ?_⟩) fun H0 ts S0 hD hts => ?_⟩
      · have e : [V.int ((0 : Int) + ((i : Nat) : Int)), V.int ((0 : Int) + ((i : Nat) : Int) + 1)] = iv (pr (i, i + 1)) := by
          rw [Int.zero_add]
          rfl
        show Q (V.ref p) (upd H' p (.tup [V.int ((0 : Int) + ((i : Nat) : Int)), V.int ((0 : Int) + ((i : Nat) : Int) + 1)]))
        rw [e]
        exact hq p np
      rw [show (99 : Int).toNat = 99 from rfl] at hts
      refine ⟨by show 1 ≤ sizeLine; decide, fun p1 n1 => ⟨by show 1 ≤ sizeLine; decide, fun p2 n2 => ?_⟩⟩
      have s1 := same_new (o := HO.tup [V.int 0]) n1
      have s2 := same_new (o := HO.lst [V.ref p1]) n2
      have h1 := s2 _ _ (upd_same (H := H0) (a := p1) (o := HO.tup [V.int 0]))
      have h2 := upd_same (H := upd H0 p1 (.tup [V.int 0])) (a := p2) (o := HO.lst [V.ref p1])
      have S2 := s1.trans s2
      refine ⟨1, 99, rfl, ⟨by decide, by decide, by decide, by decide⟩, fun D3 n3 => rngT_ev (lo := 1) (n := _) (fun k => [2 * (1 + k) - 1, 2 * (1 + k)]) (by decide) n3 (fun i hi H' Q hq => ⟨_, rfl, 2, _, rfl, rfl, .inl ⟨by decide, by decide⟩, _, _, rfl, rfl, _, rfl, 2, _, rfl, rfl, .inl ⟨by decide, by decide⟩, by show 2 ≤ sizeLine; decide, fun p np => ?_⟩) fun H3 ts3 S3 hD3 hts3 => ?_⟩
      · have e : [V.int ((2 : Int) * ((1 : Int) + ((i : Nat) : Int)) - 1), V.int ((2 : Int) * ((1 : Int) + ((i : Nat) : Int)))] = iv [2 * (1 + i) - 1, 2 * (1 + i)] := by
          rw [show ((2 : Int) * ((1 : Int) + ((i : Nat) : Int)) - 1) = ((2 * (1 + i) - 1 : Nat) : Int) by omega, show ((2 : Int) * ((1 : Int) + ((i : Nat) : Int))) = ((2 * (1 + i) : Nat) : Int) by omega]
          rfl
        show Q (V.ref p) (upd H' p (.tup [V.int ((2 : Int) * ((1 : Int) + ((i : Nat) : Int)) - 1), V.int ((2 : Int) * ((1 : Int) + ((i : Nat) : Int)))]))
        rw [e]
        exact hq p np
      rw [show ((99 : Int) - 1).toNat = 98 from rfl] at hts3
      have l3 : ts3.length = 98 := by
        rw [hts3.1, List.length_map, List.length_range]
      refine ⟨p2, D3, _, _, rfl, rfl, S3 _ _ h2, hD3, by rw [List.length_map, l3]; show 1 + 98 ≤ sizeLine; decide, fun p4 n4 => ?_⟩
      have s4 := same_new (o := HO.lst ([V.ref p1] ++ ts3.map V.ref)) n4
      refine ⟨by show 1 ≤ sizeLine; decide, fun p5 n5 => ⟨by show 1 ≤ sizeLine; decide, fun p6 n6 => ?_⟩⟩
      have s5 := same_new (o := HO.tup [V.int 197]) n5
      have s6 := same_new (o := HO.lst [V.ref p5]) n6
      have h4 := (s5.trans s6) _ _ (upd_same (H := H3) (a := p4) (o := HO.lst ([V.ref p1] ++ ts3.map V.ref)))
      have h5 := s6 _ _ (upd_same (H := upd H3 p4 (.lst ([V.ref p1] ++ ts3.map V.ref))) (a := p5) (o := HO.tup [V.int 197]))
      refine ⟨p4, p6, _, _, rfl, rfl, h4, upd_same, by rw [List.length_append, List.length_map, l3]; show 1 + 98 + 1 ≤ sizeLine; decide, fun p7 n7 => ?_⟩
      have s7 := same_new (o := HO.lst ([V.ref p1] ++ ts3.map V.ref ++ [V.ref p5])) n7
      have S37 := ((s4.trans s5).trans s6).trans s7
      have S27 := S3.trans S37
      have S07 := S2.trans S27
      refine ⟨cc, D, p7, ts, [p1] ++ ts3 ++ [p5], E2, T2, Mt.s2, ?_, S07 _ _ hD, ?_, ?_, ?_, pl_2, by decide +kernel, by decide +kernel⟩
      · rw [show T2.length = 100 by decide +kernel]
        rfl
      · rw [show E2.map pr = (List.range 99).map fun k => pr (k, k + 1) from List.map_map ..]
        exact hts.mono S07
      · rw [upd_same, List.map_append, List.map_append]
        rfl
      · exact ((Tups.one (S27 _ _ h1)).app (hts3.mono S37)).app (Tups.one (s7 _ _ h5))
    rintro σ2 H10 ⟨cc2, ae, at2, as2, rs2, E, T, s, rfl, hae, hE, hat, hT, pl, me, nv⟩
    have lE : as2.length = E.length := by
      have := hE.1
      simpa using this
    refine ⟨_, rfl, _, rfl, _, rfl, fun x dx nx ndx ndn => ?_⟩
    have Sx : Same H10 (upd (upd H10 dx (.own x)) x (.ins C dx [])) := Same.put (same_new ndx) nx
    refine ⟨x, dx, ae, at2, as2, rs2, E, T, s, rfl, upd_same, Sx _ _ hae, Sx _ _ hat, hE.mono Sx, hT.mono Sx, pl, me, nv, fun H11 pa kp => ⟨rfl, x, E, T, s, rfl, ⟨pa, pl, me, nv⟩, fun H12 qt Z S12 nqt hqt hZl hZ1 hal => ?_⟩⟩
    have S10 : Same H10 H12 := fun b o e => S12 _ _ (kp b o (Sx _ _ e) (ne_of_none e nx))
    have hae2 := S10 _ _ hae
    have hat2 := S10 _ _ hat
    have hE2 := hE.mono S10
    have hT2 := hT.mono S10
    clear pa kp S12 nqt Sx nx ndx ndn S10 hae hat hE hT H11 H10
    refine ⟨_, rfl, _, _, _, _, true, rfl, .ty _, .base (.tup hqt), kit_ty (by decide +kernel), _, rfl, ?_⟩
    refine ⟨_, rfl, qt, Z, rfl, hqt, by omega, fun H13 S13 => ⟨_, rfl, ?_⟩⟩
    have hqt3 := S13 _ _ hqt
    have hae3 := S13 _ _ hae2
    have hat3 := S13 _ _ hat2
    have hE3 := hE2.mono S13
    have hT3 := hT2.mono S13
    clear S13 hae2 hat2 hE2 hT2 hqt H12
    refine ⟨_, rfl, _, Z.length, rfl, .inr ⟨_, SqT.of hqt3, iv_len.symm⟩, _, rfl, _, as2.length, rfl, .inl ⟨_, SqL.of hae3, by rw [List.length_map]⟩, rfl, _, rfl, iteNS (by rw [hZl, lE]) ?_⟩
    refine ⟨_, rfl, qt, rfl, ⟨_, SqT.of hqt3⟩, fun D nD => lc_tup (K := K) (a := qt) (xs := iv Z) (fun i H' => Same H13 H' ∧ H' D = some (.lst [])) ⟨same_new nD, upd_same⟩ (fun i H' _ ⟨S, _⟩ => SqT.of (S _ _ hqt3)) ?_ ?_⟩
    · rintro i y H14 hi ⟨S14, hD14⟩
      obtain ⟨z, hz, rfl⟩ := iv_of hi
      have hz1 := hZ1 z (List.mem_of_getElem? hz)
      refine ⟨rfl, ?_⟩
      refine ⟨_, rfl, by show 2 ≤ sizeLine; decide, fun p np => ⟨p, [V.int 0, V.int 1], rfl, .inr (SqT.of upd_same), rfl, rfl, _, rfl, ?_⟩⟩
      have hin : inV (V.int ((z : Nat) : Int)) [V.int 0, V.int 1] = true := by
        rcases (show z = 0 ∨ z = 1 by omega) with rfl | rfl <;> rfl
      rw [hin]
      exact ⟨S14.trans (same_new np), (same_new np) _ _ hD14⟩
    rintro H14 ⟨S14, hD14⟩
    refine ⟨_, 0, rfl, .inl ⟨[], SqL.of hD14, rfl⟩, _, _, rfl, rfl, _, rfl, ifN (by decide) ?_⟩
    have hqt4 := S14 _ _ hqt3
    have hae4 := S14 _ _ hae3
    have hat4 := S14 _ _ hat3
    have hE4 := hE3.mono S14
    have hT4 := hT3.mono S14
    clear S14 hD14 nD hae3 hat3 hE3 hT3 hqt3 H13
    refine ⟨_, rfl, _, rfl, ae, at2, as2.map V.ref, rs2, E, T, s, rfl, hae4, by rw [List.length_map, lE], hat4, hT4.rws, pl, me, fun H15 fq fs S15 nfq hfq hfs => ?_⟩
    refine ⟨fq, fs, facesL E s, rfl, SqL.of hfq, hfs.1, fun i t f h1 h2 => ⟨hfs.2 i t f h1 h2, (faces_sorted pl).1 f (List.mem_of_getElem? h2)⟩, (faces_sorted pl).2, fun p np => ?_⟩
    refine ⟨1, rfl, p, _, rfl, SqL.of upd_same, fun p2 np2 => ?_⟩
    rw [cut_1]
    have s1 := same_new (o := HO.lst (fs.map V.ref)) np
    have s2 := same_new (o := HO.lst ((fs.map V.ref).drop 1)) np2
    have hp2 := upd_same (H := upd H15 p (.lst (fs.map V.ref))) (a := p2) (o := HO.lst ((fs.map V.ref).drop 1))
    have hqt7 := (S15.trans (s1.trans s2)) _ _ hqt4
    have hfs7 := hfs.mono (s1.trans s2)
    revert hp2 hqt7 hfs7
    generalize upd (upd H15 p (.lst (fs.map V.ref))) p2 (.lst ((fs.map V.ref).drop 1)) = H17
    intro hp2 hqt7 hfs7
    refine ⟨p2, rfl, ⟨_, SqL.of hp2⟩, for_list (K := K) (a := p2) (xs := (fs.map V.ref).drop 1) (fun i σ H' => ∃ v6 v7 : Option V, σ = [some (.ref a), some (.int (T.length : Nat)), some (.ref ae), some (.ref at2), some (.int cc2), some (.ref qt), v6, v7, none, none, none] ∧ Same H17 H')
      ⟨none, none, rfl, fun b o e => e⟩ (fun i σ H' _ ⟨_, _, _, S⟩ => SqL.of (S _ _ hp2)) ?_ ?_⟩
    · rintro i y σ H18 hi ⟨v6, v7, rfl, S18⟩
      rw [List.getElem?_drop] at hi
      obtain ⟨fa, hfa, rfl⟩ := rf_of hi
      obtain ⟨c, hc, hfc⟩ := (hfs7.mono S18).at hfa
      have hcm := List.mem_of_getElem? hc
      have hcd : ∀ d ∈ c, d < 2 * E.length := fun d hd => facesL_lt pl hcm hd
      have hodd := hal (1 + i) c (by omega) hc
      have hcl : c.length ≤ 2 * E.length := by
        have h1 := (facesL_pm pl).length_eq
        rw [List.length_range] at h1
        obtain ⟨X, Y, e⟩ := List.append_of_mem hcm
        rw [e, List.flatten_append, List.flatten_cons, List.length_append, List.length_append] at h1
        omega
      have gd : ∀ d, d < 2 * E.length → Z[d / 2]? = some (Z.getD (d / 2) 0) := fun d h => by
        have hl : d / 2 < Z.length := by omega
        rw [List.getD_eq_getElem?_getD, List.getElem?_eq_getElem hl]
        rfl
      refine ⟨_, rfl, fa, rfl, ⟨_, SqT.of hfc⟩, fun D hD => ?_⟩
      refine lc_tup (K := K) (a := fa) (xs := iv c) (fun n H' => Same H18 H' ∧ H' D = some (.lst (iv ((c.take n).filter (alb Z))))) ⟨same_new hD, upd_same⟩ (fun n H' _ ⟨S, _⟩ => SqT.of (S _ _ hfc)) ?_ ?_
      · rintro n y H7 hn ⟨S7, hD7⟩
        obtain ⟨d, hd, rfl⟩ := iv_of hn
        have hdc := List.mem_of_getElem? hd
        have hdl := hcd d hdc
        refine ⟨rfl, ?_⟩
        refine ⟨_, rfl, _, _, rfl, rfl, by show (0 : Int) < 2; decide, _, rfl, _, rfl, _, _, rfl, rfl, ⟨by decide, by decide⟩, qt, _, _, V.int (Z.getD (d / 2) 0 : Nat), rfl, rfl, SqT.of ((S18.trans S7) _ _ hqt7), ?_, rfl, _, rfl, ?_⟩
        · rw [show ((d : Nat) : Int) / 2 = ((d / 2 : Nat) : Int) by omega]
          exact atI_nat (iv_get (gd d hdl))
        · by_cases hb : d % 2 = Z.getD (d / 2) 0
          · rw [decide_eq_true (show V.int (((d : Nat) : Int) % 2) = V.int ((Z.getD (d / 2) 0 : Nat) : Int) by congr 1; omega)]
            refine ⟨_, rfl, _, hD7, ?_, Same.put S7 hD, ?_⟩
            · rw [iv_len]
              have h1 := List.length_filter_le (alb Z) (c.take n)
              have h2 : (c.take n).length ≤ c.length := by
                rw [List.length_take]
                exact Nat.min_le_right _ _
              exact small1000 (by omega)
            · rw [upd_same, List.take_add_one, hd, List.filter_append]
              have : List.filter (alb Z) (some d).toList = [d] := by
                show List.filter (alb Z) [d] = [d]
                rw [List.filter_cons, if_pos (by simpa [alb] using hb)]
                rfl
              rw [this, iv_app]
              rfl
          · rw [decide_eq_false (show ¬ V.int (((d : Nat) : Int) % 2) = V.int ((Z.getD (d / 2) 0 : Nat) : Int) from fun z => hb (by have := V.int.inj z; omega))]
            refine ⟨S7, ?_⟩
            rw [hD7, List.take_add_one, hd, List.filter_append]
            have : List.filter (alb Z) (some d).toList = [] := by
              show List.filter (alb Z) [d] = []
              rw [List.filter_cons, if_neg (by simpa [alb] using hb)]
              rfl
            rw [this, List.append_nil]
      · rintro H7 ⟨S7, hD7⟩
        rw [iv_len, List.take_length] at hD7
        have hln2 : (iv (c.filter (alb Z))).length = al Z c := iv_len
        refine ⟨_, rfl, _, _, rfl, .inl ⟨_, SqL.of hD7, rfl⟩, _, _, rfl, rfl, by show (0 : Int) < 2; decide, rfl, _, rfl, ifN (fun z => ?_) ⟨_, _, rfl, S18.trans S7⟩⟩
        have := V.int.inj z
        rw [hln2] at this
        omega
    · rintro σ H18 ⟨v6, v7, rfl, S18⟩
      exact q H18
end
end Wk
namespace Wk
open PySem L2 Rl Mt PyProof.Rows
theorem all_mk {l : PySem.W.OpenLaw} {w : World} {K : PySem.W.Frag} {h : Heap} {mg : Str → Option Value} {fa pC fI fR fN fF fU fD fG fC fM fT fW fP fO fA fL : Addr} (X : K.In h) (G : h.Ns mainGlobals mg) (hfa : mg "law" = some (.ref fa))
    {odI anI odR anR odN anN odF anF odU anU odD anD odG anG odC anC odM anM odT anT odW anW odP anP odO anO odA anA odL anL : Option Addr} {slI slR slN slF slU slD slG slC slM slT slW slP slO slA slL : Array (Option Value)} {ocI kVI dcI pmI cdI ctI ocR kVR dcR pmR cdR ctR ocN kVN dcN pmN cdN ctN ocF kVF dcF pmF cdF ctF ocU kVU dcU pmU cdU ctU ocD kVD dcD pmD cdD ctD ocG kVG dcG pmG cdG ctG ocC kVC dcC pmC cdC ctC ocM kVM dcM pmM cdM ctM ocT kVT dcT pmT cdT ctT ocW kVW dcW pmW cdW ctW ocP kVP dcP pmP cdP ctP ocO kVO dcO pmO cdO ctO ocA kVA dcA pmA cdA ctA ocL kVL dcL pmL cdL ctL : Value} {tv te : _}
    (aPl : PySem.W.nsIn K mainGlobals "Plane" = some (some (.ref pC)))
    (aI : PySem.W.findIn K (.ref pC) "__init__" = some (some (.ref fI))) (iI : PySem.W.isFn K (.ref fI) = true) (lI : K.lookup fI = some ⟨ocI, odI, .func (PySem.W.fnOf "__init__" "Plane.__init__" (defArgs sInit) (defBody sInit) (defScope sInit) .none kVI dcI pmI anI cdI ctI), slI⟩) (cI : PySem.W.codeIn K cdI "Plane.__init__" = true) (kI : PySem.W.keepIn K (.ref fI) = true)
    (aR : PySem.W.nsIn K mainGlobals "_reached" = some (some (.ref fR))) (lR : K.lookup fR = some ⟨ocR, odR, .func (PySem.W.fnOf "_reached" "_reached" (defArgs sReach) (defBody sReach) (defScope sReach) .none kVR dcR pmR anR cdR ctR), slR⟩) (cR : PySem.W.codeIn K cdR "_reached" = true) (kR : PySem.W.keepIn K (.ref fR) = true)
    (aN : PySem.W.nsIn K mainGlobals "next_darts" = some (some (.ref fN))) (lN : K.lookup fN = some ⟨ocN, odN, .func (PySem.W.fnOf "next_darts" "next_darts" (defArgs sNext) (defBody sNext) (defScope sNext) .none kVN dcN pmN anN cdN ctN), slN⟩) (cN : PySem.W.codeIn K cdN "next_darts" = true) (kN : PySem.W.keepIn K (.ref fN) = true)
    (aF : PySem.W.nsIn K mainGlobals "faces" = some (some (.ref fF))) (lF : K.lookup fF = some ⟨ocF, odF, .func (PySem.W.fnOf "faces" "faces" (defArgs sFaces) (defBody sFaces) (defScope sFaces) .none kVF dcF pmF anF cdF ctF), slF⟩) (cF : PySem.W.codeIn K cdF "faces" = true) (kF : PySem.W.keepIn K (.ref fF) = true)
    (aU : PySem.W.nsIn K mainGlobals "face_numbers" = some (some (.ref fU))) (lU : K.lookup fU = some ⟨ocU, odU, .func (PySem.W.fnOf "face_numbers" "face_numbers" (defArgs sNums) (defBody sNums) (defScope sNums) .none kVU dcU pmU anU cdU ctU), slU⟩) (cU : PySem.W.codeIn K cdU "face_numbers" = true) (kU : PySem.W.keepIn K (.ref fU) = true)
    (aD : PySem.W.nsIn K mainGlobals "dual_edges" = some (some (.ref fD))) (lD : K.lookup fD = some ⟨ocD, odD, .func (PySem.W.fnOf "dual_edges" "dual_edges" (defArgs sDual) (defBody sDual) (defScope sDual) .none kVD dcD pmD anD cdD ctD), slD⟩) (cD : PySem.W.codeIn K cdD "dual_edges" = true) (kD : PySem.W.keepIn K (.ref fD) = true)
    (aG : PySem.W.nsIn K mainGlobals "good_orientation" = some (some (.ref fG))) (lG : K.lookup fG = some ⟨ocG, odG, .func (PySem.W.fnOf "good_orientation" "good_orientation" (defArgs sGood) (defBody sGood) (defScope sGood) .none kVG dcG pmG anG cdG ctG), slG⟩) (cG : PySem.W.codeIn K cdG "good_orientation" = true) (kG : PySem.W.keepIn K (.ref fG) = true)
    (aC : PySem.W.nsIn K mainGlobals "_law_cell" = some (some (.ref fC))) (lC : K.lookup fC = some ⟨ocC, odC, .func (PySem.W.fnOf "_law_cell" "_law_cell" (defArgs sCell) (defBody sCell) (defScope sCell) .none kVC dcC pmC anC cdC ctC), slC⟩) (cC : PySem.W.codeIn K cdC "_law_cell" = true) (kC : PySem.W.keepIn K (.ref fC) = true)
    (aM : PySem.W.nsIn K mainGlobals "_law_mix" = some (some (.ref fM))) (lM : K.lookup fM = some ⟨ocM, odM, .func (PySem.W.fnOf "_law_mix" "_law_mix" (defArgs sMix) (defBody sMix) (defScope sMix) .none kVM dcM pmM anM cdM ctM), slM⟩) (cM : PySem.W.codeIn K cdM "_law_mix" = true) (kM : PySem.W.keepIn K (.ref fM) = true)
    (aT : PySem.W.nsIn K mainGlobals "_law_tuples" = some (some (.ref fT))) (lT : K.lookup fT = some ⟨ocT, odT, .func (PySem.W.fnOf "_law_tuples" "_law_tuples" (defArgs sTups) (defBody sTups) (defScope sTups) .none kVT dcT pmT anT cdT ctT), slT⟩) (cT : PySem.W.codeIn K cdT "_law_tuples" = true) (kT : PySem.W.keepIn K (.ref fT) = true)
    (aW : PySem.W.nsIn K mainGlobals "_law_faces" = some (some (.ref fW))) (lW : K.lookup fW = some ⟨ocW, odW, .func (PySem.W.fnOf "_law_faces" "_law_faces" (defArgs sTrace) (defBody sTrace) (defScope sTrace) .none kVW dcW pmW anW cdW ctW), slW⟩) (cW : PySem.W.codeIn K cdW "_law_faces" = true) (kW : PySem.W.keepIn K (.ref fW) = true)
    (aP : PySem.W.nsIn K mainGlobals "_law_place" = some (some (.ref fP))) (lP : K.lookup fP = some ⟨ocP, odP, .func (PySem.W.fnOf "_law_place" "_law_place" (defArgs sPlace) (defBody sPlace) (defScope sPlace) .none kVP dcP pmP anP cdP ctP), slP⟩) (cP : PySem.W.codeIn K cdP "_law_place" = true) (kP : PySem.W.keepIn K (.ref fP) = true)
    (aO : PySem.W.nsIn K mainGlobals "_law_owner" = some (some (.ref fO))) (lO : K.lookup fO = some ⟨ocO, odO, .func (PySem.W.fnOf "_law_owner" "_law_owner" (defArgs sOwner) (defBody sOwner) (defScope sOwner) .none kVO dcO pmO anO cdO ctO), slO⟩) (cO : PySem.W.codeIn K cdO "_law_owner" = true) (kO : PySem.W.keepIn K (.ref fO) = true)
    (aA : PySem.W.nsIn K mainGlobals "_law_plane" = some (some (.ref fA))) (lA : K.lookup fA = some ⟨ocA, odA, .func (PySem.W.fnOf "_law_plane" "_law_plane" (defArgs sMake) (defBody sMake) (defScope sMake) .none kVA dcA pmA anA cdA ctA), slA⟩) (cA : PySem.W.codeIn K cdA "_law_plane" = true) (kA : PySem.W.keepIn K (.ref fA) = true)
    (aL : PySem.W.nsIn K mainGlobals "law" = some (some (.ref fL))) (lL : K.lookup fL = some ⟨ocL, odL, .func (PySem.W.fnOf "law" "law" (defArgs sLaw) (defBody sLaw) (defScope sLaw) .none kVL dcL pmL anL cdL ctL), slL⟩) (cL : PySem.W.codeIn K cdL "law" = true) (kL : PySem.W.keepIn K (.ref fL) = true)
    (pg : PySem.W.plainGet K pC Str.empty = true) (hd : PySem.W.hasDictIn K pC = true) (po : PySem.W.plainOver K pC = true) (sa : PySem.W.findIn K (.ref pC) "__setattr__" = some (some (.builtin "object.__setattr__"))) (mk : PySem.W.makesIn K pC = true) (kc : PySem.W.keepIn K (.ref pC) = true)
    (n1 : PySem.W.findIn K (.ref pC) "count" = some none) (n2 : PySem.W.findIn K (.ref pC) "edges" = some none) (n3 : PySem.W.findIn K (.ref pC) "turns" = some none)
    (mv : PySem.W.nsIn K mainGlobals "MOST_VERTICES" = some (some (.int 100 tv))) (me : PySem.W.nsIn K mainGlobals "MOST_EDGES" = some (some (.int 160 te)))
    (z0 : PySem.W.nsIn K mainGlobals "len" = some none) (z1 : PySem.W.nsIn K mainGlobals "enumerate" = some none) (z2 : PySem.W.nsIn K mainGlobals "range" = some none) (z3 : PySem.W.nsIn K mainGlobals "tuple" = some none) (z4 : PySem.W.nsIn K mainGlobals "sorted" = some none) (z5 : PySem.W.nsIn K mainGlobals "min" = some none) (z6 : PySem.W.nsIn K mainGlobals "max" = some none) (z7 : PySem.W.nsIn K mainGlobals "int" = some none) (z8 : PySem.W.nsIn K mainGlobals "bool" = some none) (z9 : PySem.W.nsIn K mainGlobals "abs" = some none) (z10 : PySem.W.nsIn K mainGlobals "isinstance" = some none) (z11 : PySem.W.nsIn K mainGlobals "all" = some none) :
    ∃ fd : FuncData, (∀ (s : Shared) (v : Value), BindsTo s fd ⟨[v], []⟩ [("_law_script", v)]) ∧ ∀ base : Heap, K.In base → base.Ns mainGlobals mg → FnOk l.prog w K mg base CX0 6 fa fd ["_law_script"] (spLaw K) := by
  have e := hfa.symm.trans (PySem.W.mg_of X G aL)
  cases e
  have T : Txt K mg pC := ⟨⟨pg, hd, po, sa⟩, n1, n2, n3, PySem.W.mg_of X G aPl, ⟨_, PySem.W.mg_of X G mv⟩, ⟨_, PySem.W.mg_of X G me⟩, PySem.W.mg_none_of X G z0, PySem.W.mg_none_of X G z1, PySem.W.mg_none_of X G z2, PySem.W.mg_none_of X G z3, PySem.W.mg_none_of X G z4, PySem.W.mg_none_of X G z5, PySem.W.mg_none_of X G z6, PySem.W.mg_none_of X G z7, PySem.W.mg_none_of X G z8, PySem.W.mg_none_of X G z9, PySem.W.mg_none_of X G z10, PySem.W.mg_none_of X G z11⟩
  have FI := fun_mk (st := sInit) lI cI kI
  have bI := FI.binds (ps := ["self", "count", "edges", "turns"]) fun _ _ _ _ _ _ us hl => match us, hl with | [_, _, _, _], _ => rfl
  have FR := fun_mk (st := sReach) lR cR kR
  have bR := FR.binds (ps := ["plane"]) fun _ _ _ _ _ _ us hl => match us, hl with | [_], _ => rfl
  have gR := PySem.W.mg_of X G aR
  have FN := fun_mk (st := sNext) lN cN kN
  have bN := FN.binds (ps := ["plane"]) fun _ _ _ _ _ _ us hl => match us, hl with | [_], _ => rfl
  have gN := PySem.W.mg_of X G aN
  have FF := fun_mk (st := sFaces) lF cF kF
  have bF := FF.binds (ps := ["plane"]) fun _ _ _ _ _ _ us hl => match us, hl with | [_], _ => rfl
  have gF := PySem.W.mg_of X G aF
  have FU := fun_mk (st := sNums) lU cU kU
  have bU := FU.binds (ps := ["plane"]) fun _ _ _ _ _ _ us hl => match us, hl with | [_], _ => rfl
  have gU := PySem.W.mg_of X G aU
  have FD := fun_mk (st := sDual) lD cD kD
  have bD := FD.binds (ps := ["plane"]) fun _ _ _ _ _ _ us hl => match us, hl with | [_], _ => rfl
  have gD := PySem.W.mg_of X G aD
  have FG := fun_mk (st := sGood) lG cG kG
  have bG := FG.binds (ps := ["plane"]) fun _ _ _ _ _ _ us hl => match us, hl with | [_], _ => rfl
  have gG := PySem.W.mg_of X G aG
  have FC := fun_mk (st := sCell) lC cC kC
  have bC := FC.binds (ps := ["_law_script", "_law_k"]) fun _ _ _ _ _ _ us hl => match us, hl with | [_, _], _ => rfl
  have gC := PySem.W.mg_of X G aC
  have FM := fun_mk (st := sMix) lM cM kM
  have bM := FM.binds (ps := ["_law_cell_here", "_law_k"]) fun _ _ _ _ _ _ us hl => match us, hl with | [_, _], _ => rfl
  have gM := PySem.W.mg_of X G aM
  have FT := fun_mk (st := sTups) lT cT kT
  have bT := FT.binds (ps := ["_law_thing"]) fun _ _ _ _ _ _ us hl => match us, hl with | [_], _ => rfl
  have gT := PySem.W.mg_of X G aT
  have FW := fun_mk (st := sTrace) lW cW kW
  have bW := FW.binds (ps := ["_law_edges", "_law_turns"]) fun _ _ _ _ _ _ us hl => match us, hl with | [_, _], _ => rfl
  have gW := PySem.W.mg_of X G aW
  have FP := fun_mk (st := sPlace) lP cP kP
  have bP := FP.binds (ps := ["_law_turns", "_law_vertex", "_law_dart"]) fun _ _ _ _ _ _ us hl => match us, hl with | [_, _, _], _ => rfl
  have gP := PySem.W.mg_of X G aP
  have FO := fun_mk (st := sOwner) lO cO kO
  have bO := FO.binds (ps := ["_law_turns", "_law_dart"]) fun _ _ _ _ _ _ us hl => match us, hl with | [_, _], _ => rfl
  have gO := PySem.W.mg_of X G aO
  have FA := fun_mk (st := sMake) lA cA kA
  have bA := FA.binds (ps := ["_law_script", "_law_first", "_law_most", "_law_vertices"]) fun _ _ _ _ _ _ us hl => match us, hl with | [_, _, _, _], _ => rfl
  have gA := PySem.W.mg_of X G aA
  have FL := fun_mk (st := sLaw) lL cL kL
  refine ⟨PySem.W.fnOf "law" "law" (defArgs sLaw) (defBody sLaw) (defScope sLaw) .none kVL dcL pmL anL cdL ctL, fun s v => .of_eq rfl, fun base _ _ => ?_⟩
  have OR := ok_reach (P := l.prog) (w := w) (base := base) (k := 0) FR T
  have OF := ok_faces (P := l.prog) (w := w) (base := base) (k := 0) FF FN bN gN T
  have OU := ok_nums (P := l.prog) (w := w) (base := base) (k := 0) FU gF kF bF OF T
  have OD := ok_dual (P := l.prog) (w := w) (base := base) (k := 0) FD gU kU bU OU T
  have OG := ok_good (P := l.prog) (w := w) (base := base) (k := 0) FG gF kF bF OF gD kD bD OD T
  have OI := ok_init (P := l.prog) (w := w) (base := base) (k := 0) FI gR kR bR OR gF kF bF OF T
  have OC := ok_cell (P := l.prog) (w := w) (base := base) (k := 0) FC T
  have OM := ok_mix (P := l.prog) (w := w) (base := base) (k := 0) FM T
  have OT := ok_t1 (P := l.prog) (w := w) (base := base) (k := 0) FT gT bT T
  have OW := ok_trace (P := l.prog) (w := w) (base := base) (k := 0) FW T
  have OP := ok_place (P := l.prog) (w := w) (base := base) (k := 0) FP T
  have OO := ok_owner (P := l.prog) (w := w) (base := base) (k := 0) FO T
  have OA := ok_make (P := l.prog) (w := w) (base := base) (k := 0) FA gC kC bC OC gM kM bM OM gW kW bW OW gP kP bP OP gO kO bO OO T
  exact ok_law (P := l.prog) (w := w) (base := base) (k := 0) FL gC kC bC OC gA kA bA OA gW kW bW OW gT kT bT OT gG kG bG OG ⟨mk, aI, iI, kc⟩ bI OI T
theorem walk {l : PySem.W.OpenLaw} {q : Program} {loose : List Str} {XP : (Str → Option Value) → Heap → Prop} {YP : World → Heap → Prop} {d : DefRec} {K : Params → PySem.W.Frag} (hn : l.most = some 63) (hdf : d.params.defaults = [])
    (hY : ∀ (w : World) (h : Heap), YP w h → (K w.params).In h)
    (F : ∀ (w : World) (mg : Str → Option Value) (fa : Addr) (h : Heap), (K w.params).In h → h.Ns mainGlobals mg → mg d.name = some (.ref fa) →
      ∃ fd : FuncData, (∀ (s : Shared) (u : Value), BindsTo s fd ⟨[u], []⟩ [("_law_script", u)]) ∧ ∀ base : Heap, (K w.params).In base → base.Ns mainGlobals mg → FnOk l.prog w (K w.params) mg base CX0 6 fa fd ["_law_script"] (spLaw (K w.params))) :
    PySem.W.WalkO q loose XP YP l.row.toRowW d [] (fun f vs => PySem.call f vs) :=
  L2.walk_of (n := 63) (k := 6) (x := "_law_script") (CX := fun _ => CX0) (sp := fun w => spLaw (K w.params)) hn (by decide) hdf ⟨rfl, by decide, by decide⟩ hY F (fun _ _ a ns hl _ hS => ⟨a, ns, rfl, hS, fun _ => rfl⟩) fun _ _ _ _ _ z => z
end Wk
open PySem PySem.W PyProof.Rows in
set_option maxRecDepth 100000 in
set_option maxHeartbeats 0 in
theorem PySem.Challenge.cw_spinfield_k25_whole_orientations_holds : PySem.Challenge.rw_spinfield_k25_whole_orientations.Holds := by
  w_on; o_law; k_head; (case hw => w_witness2)
  k_fill
  refine Wk.walk (l := PySem.Challenge.rw_spinfield_k25_whole_orientations) rfl rfl (fun w h Y => PySem.W.kIn_of Y) ?F
  case F =>
    intro w mg fa h KX G hmg
    refine' Wk.all_mk KX G hmg ?aPl ?aI ?iI ?lI ?cI ?kI ?aR ?lR ?cR ?kR ?aN ?lN ?cN ?kN ?aF ?lF ?cF ?kF ?aU ?lU ?cU ?kU ?aD ?lD ?cD ?kD ?aG ?lG ?cG ?kG ?aC ?lC ?cC ?kC ?aM ?lM ?cM ?kM ?aT ?lT ?cT ?kT ?aW ?lW ?cW ?kW ?aP ?lP ?cP ?kP ?aO ?lO ?cO ?kO ?aA ?lA ?cA ?kA ?aL ?lL ?cL ?kL ?pg ?hd ?po ?sa ?mk ?kc ?n1 ?n2 ?n3 ?mv ?me ?z0 ?z1 ?z2 ?z3 ?z4 ?z5 ?z6 ?z7 ?z8 ?z9 ?z10 ?z11
    (case aPl => k_is)
    (case aI => k_is)
    (case iI => k_is)
    (case lI => k_is)
    (case cI => k_is)
    (case kI => k_is)
    (case aR => k_is)
    (case lR => k_is)
    (case cR => k_is)
    (case kR => k_is)
    (case aN => k_is)
    (case lN => k_is)
    (case cN => k_is)
    (case kN => k_is)
    (case aF => k_is)
    (case lF => k_is)
    (case cF => k_is)
    (case kF => k_is)
    (case aU => k_is)
    (case lU => k_is)
    (case cU => k_is)
    (case kU => k_is)
    (case aD => k_is)
    (case lD => k_is)
    (case cD => k_is)
    (case kD => k_is)
    (case aG => k_is)
    (case lG => k_is)
    (case cG => k_is)
    (case kG => k_is)
    (case aC => k_is)
    (case lC => k_is)
    (case cC => k_is)
    (case kC => k_is)
    (case aM => k_is)
    (case lM => k_is)
    (case cM => k_is)
    (case kM => k_is)
    (case aT => k_is)
    (case lT => k_is)
    (case cT => k_is)
    (case kT => k_is)
    (case aW => k_is)
    (case lW => k_is)
    (case cW => k_is)
    (case kW => k_is)
    (case aP => k_is)
    (case lP => k_is)
    (case cP => k_is)
    (case kP => k_is)
    (case aO => k_is)
    (case lO => k_is)
    (case cO => k_is)
    (case kO => k_is)
    (case aA => k_is)
    (case lA => k_is)
    (case cA => k_is)
    (case kA => k_is)
    (case aL => k_is)
    (case lL => k_is)
    (case cL => k_is)
    (case kL => k_is)
    (case pg => k_is)
    (case hd => k_is)
    (case po => k_is)
    (case sa => k_is)
    (case mk => k_is)
    (case kc => k_is)
    (case n1 => k_is)
    (case n2 => k_is)
    (case n3 => k_is)
    (case mv => k_is)
    (case me => k_is)
    (case z0 => k_is)
    (case z1 => k_is)
    (case z2 => k_is)
    (case z3 => k_is)
    (case z4 => k_is)
    (case z5 => k_is)
    (case z6 => k_is)
    (case z7 => k_is)
    (case z8 => k_is)
    (case z9 => k_is)
    (case z10 => k_is)
    (case z11 => k_is)
