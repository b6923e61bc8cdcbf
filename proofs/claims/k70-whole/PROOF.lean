import PyProof.Rows.All
import Wide.All
import OpenK.AllK
import Wide.FinOn
import HandS.ForMost
import HandS.Style
import HandS.IsInst
import HandS.SortInts
import HandS.TupAny
import HandS.TupLe
import HandS.Conv
import HandS.Wide
import HandS.WideBits
import HandS.Flow
import PySem.Challenge.RW_sideswaps_k70_whole_fewest_programs
import KE.KDictDisplayH
import KE.KDictWalk
import KE.LtData
set_option Elab.async false
set_option linter.all false
set_option maxRecDepth 100000
set_option maxHeartbeats 4000000
namespace SS
/-! ## paths and cycles -/
def Pth (f : Nat → Nat) : Nat → List Nat → Nat → Prop
  | a, [], b => f a = b
  | a, c :: t, b => f a = c ∧ Pth f c t b

theorem Pth.app {f : Nat → Nat} : ∀ {a : Nat} {s : List Nat} {c : Nat} {t : List Nat} {b : Nat}, Pth f a s c → Pth f c t b → Pth f a (s ++ c :: t) b
  | _, [], _, _, _, h1, h2 => ⟨h1, h2⟩
  | _, _ :: _, _, _, _, h1, h2 => ⟨h1.1, Pth.app h1.2 h2⟩

theorem Pth.split {f : Nat → Nat} : ∀ {a : Nat} {s : List Nat} {c : Nat} {t : List Nat} {b : Nat}, Pth f a (s ++ c :: t) b → Pth f a s c ∧ Pth f c t b
  | _, [], _, _, _, h => h
  | _, _ :: _, _, _, _, h => ⟨⟨h.1, (Pth.split h.2).1⟩, (Pth.split h.2).2⟩

theorem Pth.cong {f g : Nat → Nat} {v : Nat} : ∀ {u u' : Nat} {t : List Nat}, g u' = f u → (∀ x ∈ t, g x = f x) → Pth f u t v → Pth g u' t v
  | _, _, [], h, _, p => h.trans p
  | _, _, c :: t, h, hh, p => ⟨h.trans p.1, Pth.cong (hh c (by simp)) (fun x hx => hh x (by simp [hx])) p.2⟩

theorem Pth.mapp {f g φ : Nat → Nat} : ∀ {a : Nat} {t : List Nat} {b : Nat}, (∀ x ∈ a :: t, g (φ x) = φ (f x)) → Pth f a t b → Pth g (φ a) (t.map φ) (φ b)
  | a, [], b, h, p => (h a (by simp)).trans (congrArg φ p)
  | a, c :: t, b, h, p => ⟨(h a (by simp)).trans (congrArg φ p.1), Pth.mapp (fun x hx => h x (List.mem_cons_of_mem _ hx)) p.2⟩

theorem Pth.inS {f : Nat → Nat} {S : Nat → Prop} (hS : ∀ x, S x → S (f x)) : ∀ {a : Nat} {t : List Nat} {b : Nat}, S a → Pth f a t b → (∀ x ∈ t, S x) ∧ S b
  | a, [], b, h, p => ⟨by simp, p ▸ hS a h⟩
  | a, c :: t, b, h, p => by
    have hc : S c := p.1 ▸ hS a h
    have ih := Pth.inS hS hc p.2
    exact ⟨fun x hx => by rcases List.mem_cons.mp hx with e | e; exact e ▸ hc; exact ih.1 x e, ih.2⟩

/-- every item of a path, and its start, is followed by an item or the end -/
theorem Pth.next {f : Nat → Nat} : ∀ {a : Nat} {t : List Nat} {b : Nat}, Pth f a t b → ∀ x ∈ a :: t, f x ∈ t ∨ f x = b
  | a, [], b, p, x, hx => by
    have : x = a := by simpa using hx
    exact .inr (this ▸ p)
  | a, c :: t, b, p, x, hx => by
    rcases List.mem_cons.mp hx with e | e
    · exact .inl (by rw [e, p.1]; simp)
    · rcases Pth.next p.2 x e with h | h
      · exact .inl (List.mem_cons_of_mem _ h)
      · exact .inr h

/-- every item of a path and its end comes from an item or the start -/
theorem Pth.prev {f : Nat → Nat} : ∀ {a : Nat} {t : List Nat} {b : Nat}, Pth f a t b → ∀ y, (y ∈ t ∨ y = b) → ∃ x ∈ a :: t, f x = y
  | a, [], b, p, y, hy => by
    rcases hy with h | h
    · simp at h
    · exact ⟨a, by simp, h ▸ p⟩
  | a, c :: t, b, p, y, hy => by
    by_cases hc : y = c
    · exact ⟨a, by simp, hc ▸ p.1⟩
    · have : y ∈ t ∨ y = b := by
        rcases hy with h | h
        · rcases List.mem_cons.mp h with h | h
          · exact absurd h hc
          · exact .inl h
        · exact .inr h
      obtain ⟨x, hx, e⟩ := Pth.prev p.2 y this
      exact ⟨x, List.mem_cons_of_mem _ hx, e⟩

def Cyc (f : Nat → Nat) (l : List Nat) : Prop := ∃ x t, l = x :: t ∧ Pth f x t x

theorem Cyc.clos {f : Nat → Nat} {l : List Nat} (h : Cyc f l) : ∀ x ∈ l, f x ∈ l := by
  obtain ⟨a, t, rfl, p⟩ := h
  intro x hx
  rcases p.next x hx with h | h
  · exact List.mem_cons_of_mem _ h
  · rw [h]; simp

/-- a cycle, turned to one of its items -/
theorem Cyc.turn {f : Nat → Nat} {l : List Nat} (h : Cyc f l) {p : Nat} (hp : p ∈ l) : ∃ t, Pth f p t p ∧ (p :: t).Perm l := by
  obtain ⟨a, t, rfl, q⟩ := h
  rcases List.mem_cons.mp hp with e | e
  · exact ⟨t, e ▸ q, e ▸ .refl _⟩
  · obtain ⟨s, r, rfl⟩ := List.append_of_mem e
    obtain ⟨q1, q2⟩ := q.split
    refine ⟨r ++ a :: s, q2.app q1, ?_⟩
    have h1 : (p :: (r ++ a :: s)) = (p :: r) ++ (a :: s) := rfl
    have h2 : (a :: (s ++ p :: r)) = (a :: s) ++ (p :: r) := rfl
    rw [h1, h2]
    exact List.perm_append_comm

theorem Cyc.sub {f : Nat → Nat} {l m : List Nat} (h : Cyc f l) (k : Cyc f m) {x : Nat} (hl : x ∈ l) (hm : x ∈ m) : ∀ y ∈ l, y ∈ m := by
  obtain ⟨t, p, hp⟩ := h.turn hl
  intro y hy
  have hy' : y ∈ x :: t := hp.mem_iff.mpr hy
  rcases List.mem_cons.mp hy' with e | e
  · exact e ▸ hm
  · exact (Pth.inS (S := fun z => z ∈ m) k.clos hm p).1 y e

theorem Cyc.same {f : Nat → Nat} {l m : List Nat} (h : Cyc f l) (k : Cyc f m) (nl : l.Nodup) (nm : m.Nodup) {x : Nat} (hl : x ∈ l) (hm : x ∈ m) : l.Perm m :=
  (List.perm_ext_iff_of_nodup nl nm).mpr fun y => ⟨h.sub k hl hm y, k.sub h hm hl y⟩

/-- the decomposition of [0, m) into cycles of f -/
structure Dec (f : Nat → Nat) (m : Nat) (L : List (List Nat)) : Prop where
  cyc : ∀ l ∈ L, Cyc f l
  nod : L.flatten.Nodup
  mem : ∀ x, x ∈ L.flatten ↔ x < m

def sig (n : Nat) (l : List Nat) : Bool × Nat := (decide (n ∈ l), l.length)

theorem sig_perm {n : Nat} {l m : List Nat} (h : l.Perm m) : sig n l = sig n m := by
  unfold sig
  rw [h.length_eq]
  congr 1
  exact decide_eq_decide.mpr h.mem_iff

theorem nodup_of_flatten {L : List (List Nat)} (h : L.flatten.Nodup) {l : List Nat} (hl : l ∈ L) : l.Nodup :=
  h.sublist (List.sublist_flatten_of_mem hl)

theorem dec_unique_aux {f : Nat → Nat} {n : Nat} : ∀ (L M : List (List Nat)), (∀ l ∈ L, Cyc f l) → (∀ l ∈ M, Cyc f l) → L.flatten.Nodup → M.flatten.Nodup → (∀ x, x ∈ L.flatten ↔ x ∈ M.flatten) →
    (L.map (sig n)).Perm (M.map (sig n))
  | [], M, _, hM, _, _, e => by
    cases M with
    | nil => exact .refl _
    | cons m M =>
      obtain ⟨x, t, rfl, _⟩ := hM m (by simp)
      have := (e x).mpr (by simp)
      simp at this
  | l :: L, M, hL, hM, nL, nM, e => by
    obtain ⟨x, t, hl, _⟩ := hL l (by simp)
    have hx : x ∈ l := by rw [hl]; simp
    obtain ⟨m, hm, hxm⟩ := List.mem_flatten.mp ((e x).mp (by rw [List.flatten_cons]; exact List.mem_append_left _ hx))
    have pM : M.Perm (m :: M.erase m) := List.perm_cons_erase hm
    have nM' : (m :: M.erase m).flatten.Nodup := pM.flatten.nodup nM
    have nL2 := nL
    have nM2 := nM'
    rw [List.flatten_cons, List.nodup_append] at nL2 nM2
    have hlm : l.Perm m := (hL l (by simp)).same (hM m hm) nL2.1 nM2.1 hx hxm
    have ih := dec_unique_aux (n := n) L (M.erase m) (fun l h => hL l (by simp [h])) (fun l h => hM l (List.mem_of_mem_erase h)) nL2.2.1 nM2.2.1 (fun y => by
      have e1 := e y
      rw [pM.flatten.mem_iff, List.flatten_cons, List.flatten_cons, List.mem_append, List.mem_append] at e1
      constructor
      · intro hy
        rcases e1.mp (.inr hy) with h | h
        · exact absurd rfl (nL2.2.2 y (hlm.mem_iff.mpr h) y hy)
        · exact h
      · intro hy
        rcases e1.mpr (.inr hy) with h | h
        · exact absurd rfl (nM2.2.2 y (hlm.mem_iff.mp h) y hy)
        · exact h)
    refine .trans ?_ (pM.map (sig n)).symm
    rw [List.map_cons, List.map_cons, sig_perm hlm]
    exact ih.cons _

theorem Dec.unique {f : Nat → Nat} {m n : Nat} {L M : List (List Nat)} (h : Dec f m L) (k : Dec f m M) : (L.map (sig n)).Perm (M.map (sig n)) :=
  dec_unique_aux L M h.cyc k.cyc h.nod k.nod fun x => (h.mem x).trans (k.mem x).symm

theorem Dec.of_perm {f : Nat → Nat} {m : Nat} {L M : List (List Nat)} (h : Dec f m L) (c : ∀ l ∈ M, Cyc f l) (p : M.flatten.Perm L.flatten) : Dec f m M :=
  ⟨c, p.symm.nodup h.nod, fun x => p.mem_iff.trans (h.mem x)⟩

/-- the lot of an item put first, beginning with it -/
theorem Dec.first {f : Nat → Nat} {m : Nat} {L : List (List Nat)} (h : Dec f m L) {p : Nat} (hp : p < m) : ∃ t L', Pth f p t p ∧ Dec f m ((p :: t) :: L') := by
  obtain ⟨l, hl, hpl⟩ := List.mem_flatten.mp ((h.mem p).mpr hp)
  obtain ⟨t, q, e⟩ := (h.cyc l hl).turn hpl
  refine ⟨t, L.erase l, q, h.of_perm (fun k hk => ?_) ?_⟩
  · rcases List.mem_cons.mp hk with r | r
    · exact ⟨p, t, r, q⟩
    · exact h.cyc k (List.mem_of_mem_erase r)
  · have := (List.perm_cons_erase hl).flatten
    refine .trans ?_ this.symm
    rw [List.flatten_cons, List.flatten_cons]
    exact e.append_right _

/-- a second lot, that of p, put behind the first -/
theorem Dec.second {f : Nat → Nat} {m n : Nat} {t : List Nat} {L : List (List Nat)} (h : Dec f m ((n :: t) :: L)) {p : Nat} (hp : p < m) (hpt : p ∉ n :: t) : ∃ u L', Pth f p u p ∧ Dec f m ((n :: t) :: (p :: u) :: L') ∧ (((p :: u) :: L').map (sig n)).Perm (L.map (sig n)) := by
  have hm := (h.mem p).mpr hp
  rw [List.flatten_cons, List.mem_append] at hm
  obtain ⟨l, hl, hpl⟩ := List.mem_flatten.mp (hm.resolve_left hpt)
  obtain ⟨u, q, e⟩ := (h.cyc l (List.mem_cons_of_mem _ hl)).turn hpl
  refine ⟨u, L.erase l, q, h.of_perm (fun k hk => ?_) ?_, ?_⟩
  · rcases List.mem_cons.mp hk with r | r
    · exact h.cyc k (by simp [r])
    · rcases List.mem_cons.mp r with r | r
      · exact ⟨p, u, r, q⟩
      · exact h.cyc k (List.mem_cons_of_mem _ (List.mem_of_mem_erase r))
  · have := (List.perm_cons_erase hl).flatten
    rw [List.flatten_cons, List.flatten_cons (l := (n :: t)) (L := L)]
    refine List.Perm.append_left _ (.trans ?_ this.symm)
    rw [List.flatten_cons, List.flatten_cons]
    exact e.append_right _
  · refine .trans ?_ ((List.perm_cons_erase hl).map (sig n)).symm
    rw [List.map_cons, List.map_cons, sig_perm e]

/-! ## the star exchange: f behind the exchange of p and n -/
def star (f : Nat → Nat) (p n : Nat) (x : Nat) : Nat := if x = p then f n else if x = n then f p else f x

theorem star_p {f : Nat → Nat} {p n : Nat} : star f p n p = f n := if_pos rfl
theorem star_n {f : Nat → Nat} {p n : Nat} (h : n ≠ p) : star f p n n = f p := (if_neg h).trans (if_pos rfl)
theorem star_o {f : Nat → Nat} {p n x : Nat} (h : x ≠ p) (h' : x ≠ n) : star f p n x = f x := (if_neg h).trans (if_neg h')

theorem Cyc.star {f : Nat → Nat} {p n : Nat} {l : List Nat} (c : Cyc f l) (hp : p ∉ l) (hn : n ∉ l) : Cyc (star f p n) l := by
  obtain ⟨x, t, rfl, q⟩ := c
  have o : ∀ y ∈ x :: t, SS.star f p n y = f y := fun y hy => star_o (fun e => hp (e ▸ hy)) (fun e => hn (e ▸ hy))
  exact ⟨x, t, rfl, q.cong (o x (by simp)) fun y hy => o y (List.mem_cons_of_mem _ hy)⟩

/-- the hole's lot is cut -/
theorem Dec.cut {f : Nat → Nat} {m n p : Nat} {a b : List Nat} {L : List (List Nat)} (h : Dec f m ((n :: (a ++ p :: b)) :: L)) (hq : Pth f n (a ++ p :: b) n) : Dec (star f p n) m ((n :: b) :: (p :: a) :: L) := by
  obtain ⟨q1, q2⟩ := hq.split
  have nd := h.nod
  rw [List.flatten_cons, List.nodup_append] at nd
  have n1 := nd.1
  rw [List.nodup_cons, List.nodup_append] at n1
  obtain ⟨hn, na, nb, hab⟩ := n1
  have hnp : n ≠ p := fun e => hn (by rw [e]; simp)
  have nb2 := nb
  rw [List.nodup_cons] at nb2
  have c1 : Pth (star f p n) n b n := q2.cong (star_n hnp) fun x hx => star_o (fun e => nb2.1 (e ▸ hx)) (fun e => hn (e ▸ by simp [hx]))
  have c2 : Pth (star f p n) p a p := q1.cong star_p fun x hx => star_o (fun e => hab x hx p (by simp) e) (fun e => hn (e ▸ by simp [hx]))
  have mk : ((n :: b) :: (p :: a) :: L).flatten.Perm ((n :: (a ++ p :: b)) :: L).flatten := by
    simp only [List.flatten_cons, ← List.append_assoc]
    refine List.Perm.append_right _ ?_
    show (n :: (b ++ p :: a)).Perm (n :: (a ++ p :: b))
    refine List.Perm.cons _ ?_
    refine .trans List.perm_middle (.trans (List.Perm.cons _ List.perm_append_comm) List.perm_middle.symm)
  refine ⟨fun l hl => ?_, mk.symm.nodup h.nod, fun x => mk.mem_iff.trans (h.mem x)⟩
  rcases List.mem_cons.mp hl with r | r
  · exact ⟨n, b, r, c1⟩
  · rcases List.mem_cons.mp r with r | r
    · exact ⟨p, a, r, c2⟩
    · refine (h.cyc l (List.mem_cons_of_mem _ r)).star (fun e => ?_) (fun e => ?_)
      · exact absurd rfl (nd.2.2 p (by simp) p (List.mem_flatten.mpr ⟨l, r, e⟩))
      · exact absurd rfl (nd.2.2 n (by simp) n (List.mem_flatten.mpr ⟨l, r, e⟩))

/-- another lot is joined to the hole's -/
theorem Dec.join {f : Nat → Nat} {m n p : Nat} {a b : List Nat} {L : List (List Nat)} (h : Dec f m ((n :: b) :: (p :: a) :: L)) (hq1 : Pth f n b n) (hq2 : Pth f p a p) : Dec (star f p n) m ((n :: (a ++ p :: b)) :: L) := by
  have mk : ((n :: b) :: (p :: a) :: L).flatten.Perm ((n :: (a ++ p :: b)) :: L).flatten := by
    simp only [List.flatten_cons, ← List.append_assoc]
    refine List.Perm.append_right _ ?_
    show (n :: (b ++ p :: a)).Perm (n :: (a ++ p :: b))
    refine List.Perm.cons _ ?_
    refine .trans List.perm_middle (.trans (List.Perm.cons _ List.perm_append_comm) List.perm_middle.symm)
  have hnd := mk.nodup h.nod
  have nd := hnd
  rw [List.flatten_cons, List.nodup_append] at nd
  have n1 := nd.1
  rw [List.nodup_cons, List.nodup_append] at n1
  obtain ⟨hn, na, nb, hab⟩ := n1
  have hnp : n ≠ p := fun e => hn (by rw [e]; simp)
  have nb2 := nb
  rw [List.nodup_cons] at nb2
  have c1 : Pth (star f p n) p b n := hq1.cong star_p fun x hx => star_o (fun e => nb2.1 (e ▸ hx)) (fun e => hn (e ▸ by simp [hx]))
  have c2 : Pth (star f p n) n a p := hq2.cong (star_n hnp) fun x hx => star_o (fun e => hab x hx p (by simp) e) (fun e => hn (e ▸ by simp [hx]))
  refine ⟨fun l hl => ?_, hnd, fun x => mk.symm.mem_iff.trans (h.mem x)⟩
  rcases List.mem_cons.mp hl with r | r
  · exact ⟨n, _, r, c2.app c1⟩
  · refine (h.cyc l (by simp [r])).star (fun e => ?_) (fun e => ?_)
    · exact absurd rfl (nd.2.2 p (by simp) p (List.mem_flatten.mpr ⟨l, r, e⟩))
    · exact absurd rfl (nd.2.2 n (by simp) n (List.mem_flatten.mpr ⟨l, r, e⟩))

/-- cycles under new names -/
theorem Dec.named {f g φ : Nat → Nat} {m : Nat} {L : List (List Nat)} (h : Dec f m L) (hφ : ∀ x, x < m → φ x < m) (inj : ∀ x y, x < m → y < m → φ x = φ y → x = y) (hg : ∀ x, x < m → g (φ x) = φ (f x)) : Dec g m (L.map (List.map φ)) := by
  have e : (L.map (List.map φ)).flatten = L.flatten.map φ := List.map_flatten.symm
  have nd : (L.flatten.map φ).Nodup := by
    rw [List.Nodup, List.pairwise_map]
    refine h.nod.imp_of_mem (fun {x y} hx hy ne r => ne (inj x y ((h.mem x).mp hx) ((h.mem y).mp hy) r))
  have hsub : ∀ x ∈ L.flatten.map φ, x < m := fun x hx => by
    obtain ⟨y, hy, rfl⟩ := List.mem_map.mp hx
    exact hφ y ((h.mem y).mp hy)
  have hlen : L.flatten.length = m := by
    have : L.flatten.Perm (List.range m) := (List.perm_ext_iff_of_nodup h.nod List.nodup_range).mpr fun x => (h.mem x).trans List.mem_range.symm
    rw [this.length_eq, List.length_range]
  refine ⟨fun l hl => ?_, e ▸ nd, fun x => ?_⟩
  · obtain ⟨k, hk, rfl⟩ := List.mem_map.mp hl
    obtain ⟨x, t, rfl, q⟩ := h.cyc k hk
    exact ⟨φ x, t.map φ, rfl, q.mapp fun y hy => hg y ((h.mem y).mp (List.mem_flatten.mpr ⟨_, hk, hy⟩))⟩
  · rw [e]
    refine ⟨hsub x, fun hx => ?_⟩
    refine Classical.byContradiction fun hn => ?_
    have h1 : (x :: L.flatten.map φ).Nodup := List.nodup_cons.mpr ⟨hn, nd⟩
    have h2 := h1.length_le_of_subset (l₂ := List.range m) (fun y hy => by
      rcases List.mem_cons.mp hy with r | r
      · exact List.mem_range.mpr (r ▸ hx)
      · exact List.mem_range.mpr (hsub y r))
    rw [List.length_cons, List.length_map, hlen, List.length_range] at h2
    omega

theorem sig_named {φ : Nat → Nat} {m n k : Nat} {L : List (List Nat)} (hL : ∀ x ∈ L.flatten, x < m) (hn : n < m) (inj : ∀ x y, x < m → y < m → φ x = φ y → x = y) (e : φ n = k) : (L.map (List.map φ)).map (sig k) = L.map (sig n) := by
  rw [List.map_map]
  refine List.map_congr_left fun l hl => ?_
  show (decide (k ∈ l.map φ), (l.map φ).length) = (decide (n ∈ l), l.length)
  rw [List.length_map]
  congr 1
  refine decide_eq_decide.mpr ?_
  rw [List.mem_map]
  constructor
  · rintro ⟨y, hy, h⟩
    have : y = n := inj y n (hL y (List.mem_flatten.mpr ⟨l, hl, hy⟩)) hn (h.trans e.symm)
    exact this ▸ hy
  · intro h
    exact ⟨n, h, e⟩
end SS
namespace SS
/-! ## what the program reckons, as plain functions -/
def ext (g : List Nat) : List Nat := g ++ [g.length]
def want (g : List Nat) (lie c : Nat) : Nat := (ext g).getD ((c + (g.length + 1) - lie) % (g.length + 1)) 0
def trace (f : Nat → Nat) : Nat → List Nat → Nat → List Nat
  | 0, _, _ => []
  | k + 1, seen, x => if x ∈ seen then [] else x :: trace f k (x :: seen) (f x)
def lots (f : Nat → Nat) (m : Nat) : List Nat → List Nat → List (List Nat)
  | [], _ => []
  | s :: r, seen => trace f (m + 1) seen s :: lots f m r ((trace f (m + 1) seen s).reverse ++ seen)
def rounds (g : List Nat) (lie : Nat) : List (List Nat) :=
  (lots (want g lie) (g.length + 1) (List.range (g.length + 1)) []).filter fun l => 1 < l.length
structure W5 where
  value : Nat
  first : Nat
  cells : Nat
  ways : Nat
  apart : Nat
def wsig (z : W5) (s : Bool × Nat) : W5 :=
  if s.1 then { z with value := z.value + s.2 - 1, first := s.2 } else { z with value := z.value + s.2 + 1, cells := z.cells + s.2, ways := z.ways * s.2, apart := z.apart + 1 }
def wstep (n : Nat) (z : W5) (l : List Nat) : W5 := wsig z (sig n l)
def wend (z : W5) : Nat × Nat :=
  (z.value, if 0 < z.apart then z.first * (List.range (z.apart - 1)).foldl (fun w i => w * (z.first + z.cells + 1 + i)) z.ways else 1)
def worth (g : List Nat) (lie : Nat) : Nat × Nat := wend ((rounds g lie).foldl (wstep g.length) ⟨0, 1, 0, 1, 0⟩)
def minL : List Nat → Nat
  | [] => 0
  | [x] => x
  | x :: y :: r => min x (minL (y :: r))
def worths (g : List Nat) : List (Nat × Nat) := (List.range (g.length + 1)).map (worth g)
def best (g : List Nat) : Nat × Nat :=
  let least := minL ((worths g).map (·.1))
  (least, (((worths g).filter fun w => w.1 == least).map (·.2)).sum)
def firstOf (x p n : Nat) : Nat := if x = p then n - p - 1 else if x < p then n - p + x else x - p - 1
def before (g : List Nat) (p : Nat) : List Nat := g.map fun x => firstOf x p g.length
def firstProg : Nat → List Nat → List Nat
  | 0, _ => []
  | k + 1, g => match (List.range g.length).find? fun p => (best (before g p)).1 == k with
    | some p => p :: firstProg k (before g p)
    | none => []
def firstProgram (g : List Nat) : List Nat := firstProg (best g).1 g
/-- placings -/
def IsPl (g : List Nat) : Prop := g.Perm (List.range g.length)

/-! ## the trace is a cycle -/
structure Good (f : Nat → Nat) (m : Nat) (seen : List Nat) : Prop where
  lt : ∀ x ∈ seen, x < m
  nd : seen.Nodup
  pre : ∀ x, x < m → f x ∈ seen → x ∈ seen

theorem le_of_nodup {m : Nat} {l : List Nat} (h : l.Nodup) (lt : ∀ x ∈ l, x < m) : l.length ≤ m := by
  have := h.length_le_of_subset (l₂ := List.range m) fun x hx => List.mem_range.mpr (lt x hx)
  rwa [List.length_range] at this

theorem trace_aux {f : Nat → Nat} {m : Nat} {seen : List Nat} (G : Good f m seen) (fl : ∀ x, x < m → f x < m) (inj : ∀ x y, x < m → y < m → f x = f y → x = y) {s : Nat} :
    ∀ (k : Nat) (p : List Nat) (x : Nat), Pth f s p x → ((s :: p).reverse ++ seen).Nodup → (∀ y ∈ s :: p, y < m) → m + 1 ≤ k + (p.length + 1) + seen.length →
    ∃ T, (s :: p) ++ trace f k ((s :: p).reverse ++ seen) x = s :: T ∧ Pth f s T s ∧ (s :: T).Nodup ∧ (∀ y ∈ s :: T, y < m) ∧ (∀ y ∈ s :: T, y ∉ seen) := by
  intro k
  induction k with
  | zero =>
    intro p x hp nd lt hk
    have h1 := le_of_nodup nd (m := m) (fun y hy => by
      rcases List.mem_append.mp hy with h | h
      · exact lt y (List.mem_reverse.mp h)
      · exact G.lt y h)
    rw [List.length_append, List.length_reverse, List.length_cons] at h1
    omega
  | succ k ih =>
    intro p x hp nd lt hk
    have nd2 := nd
    rw [List.nodup_append] at nd2
    obtain ⟨n1, n2, n3⟩ := nd2
    have n1' : (s :: p).Nodup := (List.reverse_perm _).nodup n1
    have xlt : x < m := (Pth.inS (S := fun z => z < m) fl (lt s (by simp)) hp).2
    by_cases hx : x ∈ (s :: p).reverse ++ seen
    · have hs : x = s := by
        rcases List.mem_append.mp hx with h | h
        · rcases List.mem_cons.mp (List.mem_reverse.mp h) with e | e
          · exact e
          · obtain ⟨p1, p2, rfl⟩ := List.append_of_mem e
            obtain ⟨q1, q2⟩ := hp.split
            obtain ⟨y1, hy1, e1⟩ := q1.prev x (.inr rfl)
            obtain ⟨y2, hy2, e2⟩ := q2.prev x (.inr rfl)
            have l1 : y1 < m := lt y1 (by
              rcases List.mem_cons.mp hy1 with r | r
              · simp [r]
              · simp [r])
            have l2 : y2 < m := lt y2 (List.mem_cons_of_mem _ (List.mem_append_right _ hy2))
            have e3 : y1 = y2 := inj y1 y2 l1 l2 (e1.trans e2.symm)
            have n4 : ((s :: p1) ++ (x :: p2)).Nodup := n1'
            rw [List.nodup_append] at n4
            exact absurd e3 (n4.2.2 y1 hy1 y2 hy2)
        · obtain ⟨y, hy, e⟩ := hp.prev x (.inr rfl)
          have hys : y ∈ seen := G.pre y (lt y hy) (e ▸ h)
          exact absurd rfl (n3 y (List.mem_reverse.mpr hy) y hys)
      refine ⟨p, ?_, hs ▸ hp, n1', lt, fun y hy hys => absurd rfl (n3 y (List.mem_reverse.mpr hy) y hys)⟩
      rw [trace, if_pos hx, List.append_nil]
    · have e1 : (s :: (p ++ [x])).reverse ++ seen = x :: ((s :: p).reverse ++ seen) := by simp
      obtain ⟨T, eT, r⟩ := ih (p ++ [x]) (f x) (hp.app rfl) (by rw [e1]; exact List.nodup_cons.mpr ⟨hx, nd⟩) (fun y hy => by
        rcases List.mem_cons.mp hy with h | h
        · exact lt y (by simp [h])
        · rcases List.mem_append.mp h with h | h
          · exact lt y (by simp [h])
          · have : y = x := by simpa using h
            exact this ▸ xlt) (by rw [List.length_append]; simp; omega)
      refine ⟨T, ?_, r⟩
      rw [trace, if_neg hx, ← eT, e1]
      simp

theorem trace_cyc {f : Nat → Nat} {m : Nat} {seen : List Nat} (G : Good f m seen) (fl : ∀ x, x < m → f x < m) (inj : ∀ x y, x < m → y < m → f x = f y → x = y) {s : Nat} (hs : s < m) (hn : s ∉ seen) :
    ∃ T, trace f (m + 1) seen s = s :: T ∧ Pth f s T s ∧ (s :: T).Nodup ∧ (∀ y ∈ s :: T, y < m) ∧ (∀ y ∈ s :: T, y ∉ seen) := by
  obtain ⟨T, e, r⟩ := trace_aux G fl inj (s := s) m [] (f s) rfl (by simpa using ⟨hn, G.nd⟩) (by simpa using hs) (by simp)
  refine ⟨T, ?_, r⟩
  rw [trace, if_neg hn, ← e]
  rfl

theorem Good.more {f : Nat → Nat} {m : Nat} {seen : List Nat} (G : Good f m seen) (inj : ∀ x y, x < m → y < m → f x = f y → x = y) {s : Nat} {T : List Nat}
    (h1 : Pth f s T s) (h2 : (s :: T).Nodup) (h3 : ∀ y ∈ s :: T, y < m) (h4 : ∀ y ∈ s :: T, y ∉ seen) : Good f m ((s :: T).reverse ++ seen) := by
  refine ⟨fun x hx => ?_, ?_, fun x hx hf => ?_⟩
  · rcases List.mem_append.mp hx with h | h
    · exact h3 x (List.mem_reverse.mp h)
    · exact G.lt x h
  · rw [List.nodup_append]
    exact ⟨(List.reverse_perm _).symm.nodup h2, G.nd, fun a ha b hb e => h4 a (List.mem_reverse.mp ha) (e ▸ hb)⟩
  · rcases List.mem_append.mp hf with h | h
    · have h5 : f x ∈ T ∨ f x = s := by
        rcases List.mem_cons.mp (List.mem_reverse.mp h) with e | e
        · exact .inr e
        · exact .inl e
      obtain ⟨y, hy, e⟩ := h1.prev (f x) h5
      exact List.mem_append_left _ (List.mem_reverse.mpr (inj y x (h3 y hy) hx e ▸ hy))
    · exact List.mem_append_right _ (G.pre x hx h)

theorem lots_dec {f : Nat → Nat} {m : Nat} (fl : ∀ x, x < m → f x < m) (inj : ∀ x y, x < m → y < m → f x = f y → x = y) :
    ∀ (r seen : List Nat), Good f m seen → (∀ x ∈ r, x < m) →
    (∀ l ∈ (lots f m r seen).filter (fun l => 0 < l.length), Cyc f l) ∧ (((lots f m r seen).filter (fun l => 0 < l.length)).flatten ++ seen).Nodup ∧
      (∀ x ∈ ((lots f m r seen).filter (fun l => 0 < l.length)).flatten, x < m) ∧ (∀ x ∈ r, x ∈ ((lots f m r seen).filter (fun l => 0 < l.length)).flatten ∨ x ∈ seen)
  | [], seen, G, _ => by simpa [lots] using G.nd
  | s :: r, seen, G, hr => by
    by_cases hs : s ∈ seen
    · have e : trace f (m + 1) seen s = [] := by rw [trace, if_pos hs]
      have e2 : lots f m (s :: r) seen = [] :: lots f m r seen := by rw [lots, e]; rfl
      have e3 : (lots f m (s :: r) seen).filter (fun l => 0 < l.length) = (lots f m r seen).filter (fun l => 0 < l.length) := by rw [e2]; rfl
      rw [e3]
      obtain ⟨a, b, c, d⟩ := lots_dec fl inj r seen G fun x hx => hr x (List.mem_cons_of_mem _ hx)
      refine ⟨a, b, c, fun x hx => ?_⟩
      rcases List.mem_cons.mp hx with h | h
      · exact .inr (h ▸ hs)
      · exact d x h
    · obtain ⟨T, e, q1, q2, q3, q4⟩ := trace_cyc G fl inj (hr s (by simp)) hs
      have G2 := G.more inj q1 q2 q3 q4
      have e2 : lots f m (s :: r) seen = (s :: T) :: lots f m r ((s :: T).reverse ++ seen) := by rw [lots, e]
      have e3 : (lots f m (s :: r) seen).filter (fun l => 0 < l.length) = (s :: T) :: (lots f m r ((s :: T).reverse ++ seen)).filter (fun l => 0 < l.length) := by rw [e2]; rfl
      rw [e3]
      obtain ⟨a, b, c, d⟩ := lots_dec fl inj r _ G2 fun x hx => hr x (List.mem_cons_of_mem _ hx)
      refine ⟨fun l hl => ?_, ?_, fun x hx => ?_, fun x hx => ?_⟩
      · rcases List.mem_cons.mp hl with h | h
        · exact ⟨s, T, h, q1⟩
        · exact a l h
      · rw [List.flatten_cons]
        refine List.Perm.nodup ?_ b
        refine .trans (List.Perm.append_left _ ((List.reverse_perm _).append_right _)) ?_
        rw [← List.append_assoc]
        exact List.perm_append_comm.append_right _
      · rw [List.flatten_cons] at hx
        rcases List.mem_append.mp hx with h | h
        · exact q3 x h
        · exact c x h
      · rw [List.flatten_cons]
        rcases List.mem_cons.mp hx with h | h
        · exact .inl (List.mem_append_left _ (by simp [h]))
        · rcases d x h with h | h
          · exact .inl (List.mem_append_right _ h)
          · rcases List.mem_append.mp h with h | h
            · exact .inl (List.mem_append_left _ (List.mem_reverse.mp h))
            · exact .inr h

theorem lots_Dec {f : Nat → Nat} {m : Nat} (fl : ∀ x, x < m → f x < m) (inj : ∀ x y, x < m → y < m → f x = f y → x = y) : Dec f m ((lots f m (List.range m) []).filter fun l => 0 < l.length) := by
  obtain ⟨a, b, c, d⟩ := lots_dec fl inj (List.range m) [] ⟨by simp, by simp, by simp⟩ fun x hx => List.mem_range.mp hx
  refine ⟨a, by simpa using b, fun x => ⟨c x, fun hx => ?_⟩⟩
  rcases d x (List.mem_range.mpr hx) with h | h
  · exact h
  · simp at h

/-! ## the worth of a decomposition -/
def O1 (L : List (List Nat)) : List Nat := (L.map List.length).filter (1 < ·)
def ascF (a : Nat) : Nat → Nat
  | 0 => 1
  | k + 1 => ascF a k * (a + k + 1)
def F (h : Nat) (O : List Nat) : Nat := if O = [] then 1 else h * (O.prod * ascF (h + O.sum) (O.length - 1))
def vOf (t : Nat) (O : List Nat) : Nat := t + (O.map (· + 1)).sum

theorem fold_asc (a w : Nat) : ∀ k, (List.range k).foldl (fun w i => w * (a + 1 + i)) w = w * ascF a k
  | 0 => by simp [ascF]
  | k + 1 => by
    rw [List.range_succ, List.foldl_append, fold_asc a w k, ascF]
    simp only [List.foldl_cons, List.foldl_nil]
    rw [Nat.mul_assoc, show a + 1 + k = a + k + 1 by omega]

theorem fold_false : ∀ (S : List (Bool × Nat)) (z : W5), (∀ s ∈ S, s.1 = false) →
    S.foldl wsig z = ⟨z.value + ((S.map (·.2)).map (· + 1)).sum, z.first, z.cells + (S.map (·.2)).sum, z.ways * (S.map (·.2)).prod, z.apart + S.length⟩
  | [], z, _ => by simp
  | s :: S, z, h => by
    have hs := h s (by simp)
    rw [List.foldl_cons, fold_false S _ fun x hx => h x (List.mem_cons_of_mem _ hx)]
    have e : wsig z s = { z with value := z.value + s.2 + 1, cells := z.cells + s.2, ways := z.ways * s.2, apart := z.apart + 1 } := by
      unfold wsig
      rw [hs]
      rfl
    rw [e]
    simp only [List.map_cons, List.sum_cons, List.prod_cons, List.length_cons, W5.mk.injEq]
    refine ⟨by omega, trivial, by omega, by rw [Nat.mul_assoc], by omega⟩

theorem worth_of_dec {g : List Nat} {lie : Nat} {t : List Nat} {L : List (List Nat)} (fl : ∀ x, x < g.length + 1 → want g lie x < g.length + 1)
    (inj : ∀ x y, x < g.length + 1 → y < g.length + 1 → want g lie x = want g lie y → x = y) (D : Dec (want g lie) (g.length + 1) ((g.length :: t) :: L)) :
    worth g lie = (vOf t.length (O1 L), F (t.length + 1) (O1 L)) := by
  have D0 := lots_Dec fl inj
  generalize hn : g.length = n at *
  have hu : (((lots (want g lie) (n + 1) (List.range (n + 1)) []).filter fun l => 0 < l.length).map (sig n)).Perm (((n :: t) :: L).map (sig n)) := D0.unique D
  have nd := D.nod
  rw [List.flatten_cons, List.nodup_append] at nd
  have hL : ∀ l ∈ L, n ∉ l := fun l hl e => absurd rfl (nd.2.2 n (by simp) n (List.mem_flatten.mpr ⟨l, hl, e⟩))
  have sL : L.map (sig n) = (L.map List.length).map fun k => (false, k) := by
    rw [List.map_map]
    refine List.map_congr_left fun l hl => ?_
    show (decide (n ∈ l), l.length) = (false, l.length)
    rw [decide_eq_false (hL l hl)]
  have e0 : ((n :: t) :: L).map (sig n) = (true, t.length + 1) :: (L.map List.length).map fun k => (false, k) := by
    rw [List.map_cons, sL]
    congr 1
    show (decide (n ∈ n :: t), (n :: t).length) = _
    rw [decide_eq_true (by simp), List.length_cons]
  rw [e0] at hu
  -- the rounds' signatures
  have e1 : (rounds g lie).map (sig n) = (((lots (want g lie) (n + 1) (List.range (n + 1)) []).filter fun l => 0 < l.length).map (sig n)).filter (fun s => 1 < s.2) := by
    unfold rounds
    rw [hn, List.filter_map, List.filter_filter]
    congr 1
    refine List.filter_congr fun l _ => ?_
    show decide (1 < l.length) = (decide (1 < l.length) && decide (0 < l.length))
    by_cases h : 1 < l.length
    · rw [decide_eq_true h, decide_eq_true (by omega : 0 < l.length)]
      rfl
    · rw [decide_eq_false h]
      rfl
  have hp := hu.filter (fun s => decide (1 < s.2))
  rw [← e1] at hp
  have hcm : ∀ x ∈ (rounds g lie).map (sig n), ∀ y ∈ (rounds g lie).map (sig n), ∀ z, wsig (wsig z x) y = wsig (wsig z y) x := by
    intro x hx y hy z
    have hx' := hp.mem_iff.mp hx
    have hy' := hp.mem_iff.mp hy
    have tr : ∀ s ∈ ((true, t.length + 1) :: (L.map List.length).map fun k => (false, k)).filter (fun s => decide (1 < s.2)), 1 < s.2 ∧ (s = (true, t.length + 1) ∨ s.1 = false) := by
      intro s hs
      rw [List.mem_filter] at hs
      refine ⟨of_decide_eq_true hs.2, ?_⟩
      rcases List.mem_cons.mp hs.1 with h | h
      · exact .inl h
      · obtain ⟨k, _, rfl⟩ := List.mem_map.mp h
        exact .inr rfl
    obtain ⟨lx, cx⟩ := tr x hx'
    obtain ⟨ly, cy⟩ := tr y hy'
    obtain ⟨bx, kx⟩ := x
    obtain ⟨by', ky⟩ := y
    cases bx <;> cases by' <;> simp only [wsig] <;> simp at lx ly cx cy ⊢
    · refine ⟨by omega, by omega, by rw [Nat.mul_assoc, Nat.mul_assoc, Nat.mul_comm kx]⟩
    · omega
    · omega
    · omega
  have e2 : (rounds g lie).foldl (wstep n) ⟨0, 1, 0, 1, 0⟩ = ((rounds g lie).map (sig n)).foldl wsig ⟨0, 1, 0, 1, 0⟩ := by
    rw [List.foldl_map]
    rfl
  have e3 : (((L.map List.length).map fun k => ((false, k) : Bool × Nat)).filter (fun s => decide (1 < s.2))).map (·.2) = O1 L := by
    rw [List.filter_map, List.map_map]
    show List.map (fun k => k) _ = _
    rw [List.map_id']
    rfl
  have hfa : ∀ s ∈ ((L.map List.length).map fun k => ((false, k) : Bool × Nat)).filter (fun s => decide (1 < s.2)), s.1 = false := fun s hs => by
    obtain ⟨k, _, rfl⟩ := List.mem_map.mp (List.mem_filter.mp hs).1
    rfl
  have hlen : (((L.map List.length).map fun k => ((false, k) : Bool × Nat)).filter (fun s => decide (1 < s.2))).length = (O1 L).length := by
    rw [← e3, List.length_map]
  have e4 : (rounds g lie).foldl (wstep n) ⟨0, 1, 0, 1, 0⟩ = ⟨vOf t.length (O1 L), t.length + 1, (O1 L).sum, (O1 L).prod, (O1 L).length⟩ := by
    rw [e2, hp.foldl_eq' hcm]
    rw [List.filter_cons]
    by_cases h1 : 1 < t.length + 1
    · rw [if_pos (decide_eq_true h1), List.foldl_cons, fold_false _ _ hfa, e3, hlen]
      simp [wsig, vOf]
    · rw [if_neg (by simpa using h1), fold_false _ _ hfa, e3, hlen]
      have : t.length = 0 := by omega
      simp [vOf, this]
  unfold worth
  rw [hn, e4, wend, F]
  congr 1
  show (if 0 < (O1 L).length then _ else 1) = _
  by_cases h : O1 L = []
  · rw [if_pos h, h]
    rfl
  · rw [if_neg h, if_pos (List.length_pos_iff.mpr h), fold_asc]
end SS
namespace SS
/-! ## the arithmetic of the numbers of shortest programs -/
def fac : Nat → Nat
  | 0 => 1
  | n + 1 => (n + 1) * fac n
theorem fac_pos : ∀ n, 0 < fac n
  | 0 => Nat.one_pos
  | n + 1 => Nat.mul_pos (Nat.succ_pos _) (fac_pos n)
theorem ascF_fac (a : Nat) : ∀ k, ascF a k * fac a = fac (a + k)
  | 0 => by simp [ascF]
  | k + 1 => by
    rw [ascF, show a + (k + 1) = (a + k) + 1 by omega, fac, ← ascF_fac a k, Nat.mul_comm (ascF a k), Nat.mul_assoc]
/-- the closed form, for h ≥ 1 -/
theorem F_fac (h : Nat) (O : List Nat) : F (h + 1) O * fac (h + 1 + O.sum) = (h + 1) * O.prod * fac (h + O.sum + O.length) := by
  unfold F
  by_cases e : O = []
  · rw [if_pos e, e]
    simp [fac]
  · rw [if_neg e]
    have hl : 0 < O.length := List.length_pos_iff.mpr e
    have := ascF_fac (h + 1 + O.sum) (O.length - 1)
    rw [show h + 1 + O.sum + (O.length - 1) = h + O.sum + O.length by omega] at this
    rw [Nat.mul_assoc, Nat.mul_assoc, Nat.mul_assoc, this]
theorem F_perm {h : Nat} {O P : List Nat} (e : O.Perm P) : F h O = F h P := by
  unfold F
  rw [e.sum_nat, e.prod_nat, e.length_eq]
  by_cases hO : O = []
  · rw [if_pos hO, if_pos (by rw [hO] at e; exact e.nil_eq.symm)]
  · rw [if_neg hO, if_neg (fun q => hO (by rw [q] at e; exact e.eq_nil))]
theorem F_pos {h : Nat} {O : List Nat} (hh : 0 < h) (hO : ∀ x ∈ O, 0 < x) : 0 < F h O := by
  unfold F
  split
  · exact Nat.one_pos
  · refine Nat.mul_pos hh (Nat.mul_pos (List.prod_pos_iff_forall_pos_nat.mpr hO) ?_)
    have hp := fac_pos (h + O.sum + (O.length - 1))
    rw [← ascF_fac] at hp
    exact Nat.pos_of_mul_pos_right hp
theorem F_erase {h x : Nat} {O : List Nat} (hx : x ∈ O) : x * F (h + 1 + x) (O.erase x) * fac (h + 1 + O.sum) = (h + 1 + x) * O.prod * fac (h + O.sum + O.length - 1) := by
  have p := List.perm_cons_erase hx
  have e1 : O.sum = x + (O.erase x).sum := by rw [p.sum_nat, List.sum_cons]
  have e2 : O.prod = x * (O.erase x).prod := by rw [p.prod_nat, List.prod_cons]
  have e3 : O.length = (O.erase x).length + 1 := by rw [p.length_eq, List.length_cons]
  have := F_fac (h + x) (O.erase x)
  rw [show h + x + 1 = h + 1 + x by omega, show h + 1 + x + (O.erase x).sum = h + 1 + O.sum by omega, show h + x + (O.erase x).sum + (O.erase x).length = h + O.sum + O.length - 1 by omega] at this
  rw [Nat.mul_assoc, this, e2]
  simp only [Nat.mul_assoc, Nat.mul_left_comm x]
theorem sum_mul_const (c : Nat) (f : Nat → Nat) : ∀ B : List Nat, (B.map f).sum * c = (B.map fun x => f x * c).sum
  | [] => by simp
  | x :: B => by simp [Nat.add_mul, sum_mul_const c f B]
theorem sum_hx (h : Nat) : ∀ B : List Nat, (B.map fun x => h + 1 + x).sum = B.length * (h + 1) + B.sum
  | [] => by simp
  | x :: B => by simp [sum_hx h B, Nat.add_mul]; omega
/-- the sum over the other lots -/
theorem sum_erase (h : Nat) (O : List Nat) : (O.map fun x => x * F (h + 1 + x) (O.erase x)).sum * fac (h + 1 + O.sum) = (O.length * (h + 1) + O.sum) * O.prod * fac (h + O.sum + O.length - 1) := by
  rw [sum_mul_const]
  have : (O.map fun x => x * F (h + 1 + x) (O.erase x) * fac (h + 1 + O.sum)) = O.map fun x => (h + 1 + x) * (O.prod * fac (h + O.sum + O.length - 1)) := by
    refine List.map_congr_left fun x hx => ?_
    rw [F_erase hx, Nat.mul_assoc]
  rw [this, ← sum_mul_const, sum_hx, Nat.mul_assoc]
/-- THE RECURRENCE -/
theorem F_rec (h : Nat) (O : List Nat) (hv : 0 < h ∨ O ≠ []) : F (h + 1) O = (if 0 < h then F h O else 0) + (O.map fun x => x * F (h + 1 + x) (O.erase x)).sum := by
  refine Nat.eq_of_mul_eq_mul_right (fac_pos (h + 1 + O.sum)) ?_
  rw [Nat.add_mul, sum_erase, F_fac]
  cases h with
  | zero =>
    have hO : O ≠ [] := by simpa using hv
    have hl : 0 < O.length := List.length_pos_iff.mpr hO
    rw [if_neg (Nat.lt_irrefl 0)]
    obtain ⟨k, hk⟩ : ∃ k, O.sum + O.length = k + 1 := ⟨O.sum + O.length - 1, by omega⟩
    rw [show 0 + O.sum + O.length = k + 1 by omega, show k + 1 - 1 = k by omega, fac, show O.length * (0 + 1) + O.sum = k + 1 by omega]
    simp only [Nat.zero_mul, Nat.zero_add, Nat.one_mul]
    simp only [Nat.mul_assoc, Nat.mul_left_comm O.prod]
  | succ j =>
    rw [if_pos (Nat.succ_pos j)]
    have e := F_fac j O
    have e5 : j + 1 + 1 + O.sum = (j + 1 + O.sum) + 1 := by omega
    rw [e5, fac]
    have e6 : F (j + 1) O * ((j + 1 + O.sum + 1) * fac (j + 1 + O.sum)) = (j + 1 + O.sum + 1) * ((j + 1) * O.prod * fac (j + O.sum + O.length)) := by
      rw [← e]
      simp only [Nat.mul_assoc, Nat.mul_left_comm]
    rw [e6, show j + 1 + O.sum + O.length = (j + O.sum + O.length) + 1 by omega, fac, show j + O.sum + O.length + 1 - 1 = j + O.sum + O.length by omega]
    generalize fac (j + O.sum + O.length) = X
    generalize O.prod = P
    generalize O.sum = S
    generalize O.length = c
    grind

/-! ## modular arithmetic -/
theorem md {a m : Nat} (h : a < 2 * m) : a % m = if a < m then a else a - m := by
  split
  · exact Nat.mod_eq_of_lt ‹_›
  · rw [Nat.mod_eq_sub_mod (by omega), Nat.mod_eq_of_lt (by omega)]

/-! ## the permutation of a lie -/
theorem IsPl.nodup {g : List Nat} (h : IsPl g) : g.Nodup := h.symm.nodup List.nodup_range
theorem IsPl.lt {g : List Nat} (h : IsPl g) : ∀ x ∈ g, x < g.length := fun x hx => List.mem_range.mp (h.mem_iff.mp hx)
theorem ext_len (g : List Nat) : (ext g).length = g.length + 1 := by simp [ext]
theorem ext_nodup {g : List Nat} (h : IsPl g) : (ext g).Nodup := by
  unfold ext
  rw [List.nodup_append]
  refine ⟨h.nodup, by simp, fun a ha b hb e => ?_⟩
  have : b = g.length := by simpa using hb
  have := h.lt a ha
  omega
theorem ext_lt {g : List Nat} (h : IsPl g) : ∀ x ∈ ext g, x < g.length + 1 := by
  intro x hx
  unfold ext at hx
  rcases List.mem_append.mp hx with q | q
  · exact Nat.lt_succ_of_lt (h.lt x q)
  · have : x = g.length := by simpa using q
    omega
theorem ext_at {g : List Nat} {j : Nat} (h : j < g.length + 1) : (ext g).getD j 0 ∈ ext g := by
  rw [List.getD_eq_getElem?_getD, List.getElem?_eq_getElem (by rw [ext_len]; exact h)]
  exact List.getElem_mem _
theorem want_lt {g : List Nat} (h : IsPl g) (lie : Nat) : ∀ x, x < g.length + 1 → want g lie x < g.length + 1 := fun x hx =>
  ext_lt h _ (ext_at (Nat.mod_lt _ (Nat.succ_pos _)))
theorem want_inj {g : List Nat} (h : IsPl g) {lie : Nat} (hl : lie < g.length + 1) : ∀ x y, x < g.length + 1 → y < g.length + 1 → want g lie x = want g lie y → x = y := by
  intro x y hx hy e
  unfold want at e
  have hx' : (x + (g.length + 1) - lie) % (g.length + 1) < (ext g).length := by rw [ext_len]; exact Nat.mod_lt _ (Nat.succ_pos _)
  have hy' : (y + (g.length + 1) - lie) % (g.length + 1) < (ext g).length := by rw [ext_len]; exact Nat.mod_lt _ (Nat.succ_pos _)
  rw [List.getD_eq_getElem?_getD, List.getD_eq_getElem?_getD, List.getElem?_eq_getElem hx', List.getElem?_eq_getElem hy'] at e
  have e2 : (x + (g.length + 1) - lie) % (g.length + 1) = (y + (g.length + 1) - lie) % (g.length + 1) :=
    (List.getElem?_inj hx' (ext_nodup h)).mp (by
      rw [List.getElem?_eq_getElem hx', List.getElem?_eq_getElem hy']
      exact congrArg some e)
  rw [md (a := x + (g.length + 1) - lie) (by omega), md (a := y + (g.length + 1) - lie) (by omega)] at e2
  split at e2 <;> split at e2 <;> omega

/-! ## behind a deed -/
def turnBy (n p y : Nat) : Nat := (y + n - p) % (n + 1)
def swp (n p x : Nat) : Nat := if x = p then n else if x = n then p else x
def named (n p x : Nat) : Nat := turnBy n p (swp n p x)
theorem turnBy_lt (n p y : Nat) : turnBy n p y < n + 1 := Nat.mod_lt _ (Nat.succ_pos _)
theorem named_lt (n p x : Nat) : named n p x < n + 1 := turnBy_lt _ _ _
theorem swp_lt {n p x : Nat} (hp : p < n) (hx : x < n + 1) : swp n p x < n + 1 := by unfold swp; split <;> (try split) <;> omega
theorem turnBy_inj {n p x y : Nat} (hp : p < n) (hx : x < n + 1) (hy : y < n + 1) (e : turnBy n p x = turnBy n p y) : x = y := by
  unfold turnBy at e
  rw [md (by omega), md (by omega)] at e
  split at e <;> split at e <;> omega
theorem named_inj {n p : Nat} (hp : p < n) : ∀ x y, x < n + 1 → y < n + 1 → named n p x = named n p y → x = y := by
  intro x y hx hy e
  have := turnBy_inj hp (swp_lt hp hx) (swp_lt hp hy) e
  unfold swp at this
  split at this <;> split at this <;> (try split at this) <;> (try split at this) <;> omega
theorem named_hole {n p : Nat} (hp : p < n) : named n p n = n := by
  unfold named swp turnBy
  rw [if_neg (by omega), if_pos rfl, show p + n - p = n by omega]
  exact Nat.mod_eq_of_lt (Nat.lt_succ_self n)
theorem named_first {n p x : Nat} (hp : p < n) (hx : x < n) : named n p x = firstOf x p n := by
  unfold named swp turnBy firstOf
  by_cases h : x = p
  · rw [if_pos h, if_pos h, md (by omega)]
    split <;> omega
  · rw [if_neg h, if_neg (by omega : ¬ x = n), if_neg h, md (by omega)]
    split <;> split <;> omega
theorem before_len (g : List Nat) (p : Nat) : (before g p).length = g.length := by simp [before]
theorem ext_before {g : List Nat} (h : IsPl g) {p : Nat} (hp : p < g.length) : ext (before g p) = (ext g).map (named g.length p) := by
  unfold ext
  rw [before_len, List.map_append, List.map_singleton, named_hole hp]
  congr 1
  unfold before
  exact List.map_congr_left fun x hx => (named_first hp (h.lt x hx)).symm
theorem before_pl {g : List Nat} (h : IsPl g) {p : Nat} (hp : p < g.length) : IsPl (before g p) := by
  unfold IsPl
  rw [before_len]
  have nd : (before g p).Nodup := by
    have e : before g p = g.map (named g.length p) := List.map_congr_left fun x hx => (named_first hp (h.lt x hx)).symm
    rw [e, List.Nodup, List.pairwise_map]
    refine h.nodup.imp_of_mem fun {x y} hx hy ne r => ne (named_inj hp x y (Nat.lt_succ_of_lt (h.lt x hx)) (Nat.lt_succ_of_lt (h.lt y hy)) r)
  have sub : ∀ x ∈ before g p, x < g.length := by
    intro x hx
    obtain ⟨y, hy, rfl⟩ := List.mem_map.mp hx
    have := h.lt y hy
    unfold firstOf
    split <;> (try split) <;> omega
  refine (List.perm_ext_iff_of_nodup nd List.nodup_range).mpr fun x => ⟨fun hx => List.mem_range.mpr (sub x hx), fun hx => ?_⟩
  refine Classical.byContradiction fun hn => ?_
  have h2 := (List.nodup_cons.mpr ⟨hn, nd⟩).length_le_of_subset (l₂ := List.range g.length) fun y hy => by
    rcases List.mem_cons.mp hy with r | r
    · exact r ▸ hx
    · exact List.mem_range.mpr (sub y r)
  rw [List.length_cons, before_len, List.length_range] at h2
  omega
/-- the lie behind a deed -/
def lieBehind (n p lie : Nat) : Nat := (lie + n - p) % (n + 1)
theorem lieBehind_lt (n p lie : Nat) : lieBehind n p lie < n + 1 := Nat.mod_lt _ (Nat.succ_pos _)
theorem star_swp {f : Nat → Nat} {p n x : Nat} (hp : p < n) : star f p n x = f (swp n p x) := by
  unfold star swp
  split
  · rfl
  · split <;> rfl
theorem want_before {g : List Nat} (h : IsPl g) {p lie : Nat} (hp : p < g.length) (hl : lie < g.length + 1) : ∀ x, x < g.length + 1 →
    want (before g p) (lieBehind g.length p lie) (named g.length p x) = named g.length p (star (want g lie) p g.length x) := by
  intro x hx
  rw [star_swp hp]
  have hy := swp_lt hp hx
  unfold named
  generalize swp g.length p x = y at hy
  show want (before g p) (lieBehind g.length p lie) (turnBy g.length p y) = named g.length p (want g lie y)
  unfold want
  rw [before_len, ext_before h hp]
  have e : (turnBy g.length p y + (g.length + 1) - lieBehind g.length p lie) % (g.length + 1) = (y + (g.length + 1) - lie) % (g.length + 1) := by
    have h1 := turnBy_lt g.length p y
    have h2 := lieBehind_lt g.length p lie
    rw [md (by omega), md (by omega)]
    revert h1 h2
    unfold turnBy lieBehind
    rw [md (by omega), md (by omega)]
    intro h1 h2
    repeat' split
    all_goals omega
  rw [e]
  have hj : (y + (g.length + 1) - lie) % (g.length + 1) < (ext g).length := by rw [ext_len]; exact Nat.mod_lt _ (Nat.succ_pos _)
  rw [List.getD_eq_getElem?_getD, List.getD_eq_getElem?_getD, List.getElem?_map, List.getElem?_eq_getElem hj]
  rfl
end SS
namespace SS
/-! ## what a deed does to the worth of a lie -/
section
variable {g : List Nat} {lie : Nat}
theorem worth_dec (h : IsPl g) (hl : lie < g.length + 1) {t : List Nat} {L : List (List Nat)} (D : Dec (want g lie) (g.length + 1) ((g.length :: t) :: L)) : worth g lie = (vOf t.length (O1 L), F (t.length + 1) (O1 L)) :=
  worth_of_dec (want_lt h lie) (want_inj h hl) D

theorem dec_of (h : IsPl g) (hl : lie < g.length + 1) : ∃ t L, Pth (want g lie) g.length t g.length ∧ Dec (want g lie) (g.length + 1) ((g.length :: t) :: L) :=
  (lots_Dec (want_lt h lie) (want_inj h hl)).first (Nat.lt_succ_self _)

theorem O1_map (φ : Nat → Nat) (L : List (List Nat)) : O1 (L.map (List.map φ)) = O1 L := by
  unfold O1
  rw [List.map_map]
  congr 1
  exact List.map_congr_left fun l _ => List.length_map _

theorem worth_before (h : IsPl g) (hl : lie < g.length + 1) {p : Nat} (hp : p < g.length) {t : List Nat} {L : List (List Nat)} (D : Dec (star (want g lie) p g.length) (g.length + 1) ((g.length :: t) :: L)) :
    worth (before g p) (lieBehind g.length p lie) = (vOf t.length (O1 L), F (t.length + 1) (O1 L)) := by
  have D2 := D.named (g := want (before g p) (lieBehind g.length p lie)) (fun x _ => named_lt g.length p x) (named_inj hp) (want_before h hp hl)
  rw [List.map_cons, List.map_cons, named_hole hp] at D2
  have := worth_dec (lie := lieBehind g.length p lie) (before_pl h hp) (by rw [before_len]; exact lieBehind_lt _ _ _) (t := t.map (named g.length p)) (L := L.map (List.map (named g.length p))) (by rw [before_len]; exact D2)
  rw [this, List.length_map, O1_map]

theorem worth_cut (h : IsPl g) (hl : lie < g.length + 1) {p : Nat} {a b : List Nat} {L : List (List Nat)} (D : Dec (want g lie) (g.length + 1) ((g.length :: (a ++ p :: b)) :: L)) (q : Pth (want g lie) g.length (a ++ p :: b) g.length) (hp : p < g.length) :
    worth (before g p) (lieBehind g.length p lie) = (vOf b.length (O1 ((p :: a) :: L)), F (b.length + 1) (O1 ((p :: a) :: L))) :=
  worth_before h hl hp (D.cut q)

theorem worth_join (h : IsPl g) (hl : lie < g.length + 1) {p : Nat} {t : List Nat} {L : List (List Nat)} (D : Dec (want g lie) (g.length + 1) ((g.length :: t) :: L)) (q : Pth (want g lie) g.length t g.length) (hp : p < g.length) (hn : p ∉ g.length :: t) :
    ∃ (u : List Nat) (L' : List (List Nat)), worth (before g p) (lieBehind g.length p lie) = (vOf (u.length + 1 + t.length) (O1 L'), F (u.length + 1 + t.length + 1) (O1 L')) ∧ ((u.length + 1) :: L'.map List.length).Perm (L.map List.length) ∧ ∀ l ∈ L, p ∈ l → l.length = u.length + 1 := by
  obtain ⟨u, L', q2, D2, e⟩ := D.second (n := g.length) (Nat.lt_succ_of_lt hp) hn
  refine ⟨u, L', ?_, ?_, fun l hl2 hpl => ?_⟩
  · have := worth_before h hl hp (D2.join q q2)
    rw [this, show (u ++ p :: t).length = u.length + 1 + t.length by simp; omega]
  · have := e.map (·.2)
    rw [List.map_map, List.map_map] at this
    exact this
  · have c1 := D.cyc l (List.mem_cons_of_mem _ hl2)
    have c2 := D2.cyc (p :: u) (by simp)
    have := c1.same c2 (nodup_of_flatten D.nod (List.mem_cons_of_mem _ hl2)) (nodup_of_flatten D2.nod (by simp)) hpl (by simp)
    rw [this.length_eq, List.length_cons]

theorem O1_cons (l : List Nat) (L : List (List Nat)) : O1 (l :: L) = if 1 < l.length then l.length :: O1 L else O1 L := by
  unfold O1
  rw [List.map_cons, List.filter_cons]
  by_cases h : 1 < l.length
  · rw [if_pos (decide_eq_true h), if_pos h]
  · rw [if_neg (by simpa using h), if_neg h]

theorem vOf_perm {t : Nat} {O P : List Nat} (e : O.Perm P) : vOf t O = vOf t P := by
  unfold vOf
  rw [(e.map (· + 1)).sum_nat]

theorem O1_perm {u : Nat} {L L' : List (List Nat)} (e : ((u + 1) :: L'.map List.length).Perm (L.map List.length)) : (O1 L).Perm (if 0 < u then (u + 1) :: O1 L' else O1 L') := by
  have := (e.filter (1 < ·)).symm
  refine this.trans ?_
  rw [List.filter_cons]
  by_cases h : 0 < u
  · rw [if_pos h, if_pos (decide_eq_true (by omega))]
    exact .refl _
  · rw [if_neg h, if_neg (by simp; omega)]
    exact .refl _

/-- every deed changes each lie's value by one -/
theorem worth_step (h : IsPl g) (hl : lie < g.length + 1) {p : Nat} (hp : p < g.length) :
    (worth (before g p) (lieBehind g.length p lie)).1 = (worth g lie).1 + 1 ∨ (worth (before g p) (lieBehind g.length p lie)).1 + 1 = (worth g lie).1 := by
  obtain ⟨t, L, q, D⟩ := dec_of h hl
  rw [worth_dec h hl D]
  by_cases hpt : p ∈ t
  · obtain ⟨a, b, rfl⟩ := List.append_of_mem hpt
    rw [worth_cut h hl D q hp, O1_cons]
    unfold vOf
    simp only [List.length_append, List.length_cons]
    split
    · simp only [List.map_cons, List.sum_cons]
      omega
    · omega
  · obtain ⟨u, L', e, pm, _⟩ := worth_join h hl D q hp (by simp; exact ⟨by omega, hpt⟩)
    rw [e]
    have := vOf_perm (t := t.length) (O1_perm pm)
    show vOf _ _ = vOf _ _ + 1 ∨ vOf _ _ + 1 = vOf _ _
    rw [this]
    unfold vOf
    split
    · simp only [List.map_cons, List.sum_cons]
      omega
    · omega

/-- the sum over all places that lead nearer -/
def near (g : List Nat) (lie p : Nat) : Nat :=
  if (worth (before g p) (lieBehind g.length p lie)).1 + 1 = (worth g lie).1 then (worth (before g p) (lieBehind g.length p lie)).2 else 0

theorem near_first (h : IsPl g) (hl : lie < g.length + 1) {p : Nat} {b : List Nat} {L : List (List Nat)} (D : Dec (want g lie) (g.length + 1) ((g.length :: p :: b) :: L)) (q : Pth (want g lie) g.length (p :: b) g.length) (hp : p < g.length) :
    near g lie p = F (b.length + 1) (O1 L) ∧ (worth (before g p) (lieBehind g.length p lie)).1 + 1 = (worth g lie).1 := by
  have e := worth_cut (a := []) h hl D q hp
  rw [O1_cons, if_neg (by simp)] at e
  have e2 : (worth (before g p) (lieBehind g.length p lie)).1 + 1 = (worth g lie).1 := by
    rw [e, worth_dec h hl D]
    show vOf b.length (O1 L) + 1 = vOf (p :: b).length (O1 L)
    unfold vOf
    simp only [List.length_cons]
    omega
  refine ⟨?_, e2⟩
  unfold near
  rw [if_pos e2, e]

theorem near_cut (h : IsPl g) (hl : lie < g.length + 1) {p : Nat} {a b : List Nat} {L : List (List Nat)} (D : Dec (want g lie) (g.length + 1) ((g.length :: (a ++ p :: b)) :: L)) (q : Pth (want g lie) g.length (a ++ p :: b) g.length) (hp : p < g.length) (ha : a ≠ []) :
    near g lie p = 0 := by
  have hl2 : 0 < a.length := List.length_pos_iff.mpr ha
  unfold near
  rw [if_neg]
  rw [worth_cut h hl D q hp, worth_dec h hl D, O1_cons, if_pos (by simp; omega)]
  unfold vOf
  simp only [List.length_append, List.length_cons, List.map_cons, List.sum_cons]
  omega

theorem near_join (h : IsPl g) (hl : lie < g.length + 1) {p : Nat} {t l : List Nat} {L : List (List Nat)} (D : Dec (want g lie) (g.length + 1) ((g.length :: t) :: L)) (q : Pth (want g lie) g.length t g.length) (hp : p < g.length) (hll : l ∈ L) (hpl : p ∈ l) :
    (1 < l.length → near g lie p = F (t.length + 1 + l.length) ((O1 L).erase l.length) ∧ (worth (before g p) (lieBehind g.length p lie)).1 + 1 = (worth g lie).1) ∧ (¬ 1 < l.length → near g lie p = 0) := by
  have nd := D.nod
  rw [List.flatten_cons, List.nodup_append] at nd
  have hn : p ∉ g.length :: t := fun e => absurd rfl (nd.2.2 p e p (List.mem_flatten.mpr ⟨l, hll, hpl⟩))
  obtain ⟨u, L', e, pm, hlen⟩ := worth_join h hl D q hp hn
  have hu := hlen l hll hpl
  have pO := O1_perm pm
  refine ⟨fun h1 => ?_, fun h1 => ?_⟩
  · rw [if_pos (by omega)] at pO
    have e2 : (worth (before g p) (lieBehind g.length p lie)).1 + 1 = (worth g lie).1 := by
      rw [e, worth_dec h hl D]
      show vOf _ _ + 1 = vOf _ _
      rw [vOf_perm pO]
      unfold vOf
      simp only [List.map_cons, List.sum_cons]
      omega
    refine ⟨?_, e2⟩
    unfold near
    rw [if_pos e2, e]
    show F _ _ = F _ _
    rw [hu, show u.length + 1 + t.length + 1 = t.length + 1 + (u.length + 1) by omega]
    refine F_perm ?_
    have := (pO.erase (u.length + 1)).symm
    rw [List.erase_cons_head] at this
    exact this
  · rw [if_neg (by omega)] at pO
    unfold near
    rw [if_neg]
    rw [e, worth_dec h hl D]
    show ¬ vOf _ _ + 1 = vOf _ _
    rw [vOf_perm pO]
    unfold vOf
    omega

theorem sum_const {α : Type} (c : Nat) (f : α → Nat) : ∀ l : List α, (∀ x ∈ l, f x = c) → (l.map f).sum = l.length * c
  | [], _ => by simp
  | x :: l, hh => by
    rw [List.map_cons, List.sum_cons, hh x (by simp), sum_const c f l fun y hy => hh y (List.mem_cons_of_mem _ hy), List.length_cons, Nat.add_mul]
    omega

theorem sum_flat (f : Nat → Nat) (k : Nat → Nat) : ∀ L : List (List Nat), (∀ l ∈ L, ∀ p ∈ l, (1 < l.length → f p = k l.length) ∧ (¬ 1 < l.length → f p = 0)) →
    (L.flatten.map f).sum = ((O1 L).map fun x => x * k x).sum
  | [], _ => by simp [O1]
  | l :: L, hh => by
    rw [List.flatten_cons, List.map_append, List.sum_append_nat, sum_flat f k L fun m hm => hh m (List.mem_cons_of_mem _ hm), O1_cons]
    by_cases h1 : 1 < l.length
    · rw [if_pos h1, List.map_cons, List.sum_cons, sum_const (k l.length) f l fun p hp => (hh l (by simp) p hp).1 h1]
    · rw [if_neg h1, sum_const 0 f l fun p hp => (hh l (by simp) p hp).2 h1]
      omega

theorem near_sum (h : IsPl g) (hl : lie < g.length + 1) (hv : 0 < (worth g lie).1) : ((List.range g.length).map (near g lie)).sum = (worth g lie).2 := by
  obtain ⟨t, L, q, D⟩ := dec_of h hl
  have e := worth_dec h hl D
  have pm : (t ++ L.flatten).Perm (List.range g.length) := by
    have h1 : ((g.length :: t) :: L).flatten.Perm (List.range (g.length + 1)) := (List.perm_ext_iff_of_nodup D.nod List.nodup_range).mpr fun x => (D.mem x).trans List.mem_range.symm
    rw [List.range_succ, List.flatten_cons] at h1
    have h2 : (g.length :: (t ++ L.flatten)).Perm (g.length :: List.range g.length) := h1.trans (List.perm_append_singleton _ _)
    exact h2.cons_inv
  have hlt : ∀ p ∈ t ++ L.flatten, p < g.length := fun p hp => List.mem_range.mp (pm.mem_iff.mp hp)
  rw [← (pm.map (near g lie)).sum_nat, List.map_append, List.sum_append_nat, e]
  rw [e] at hv
  have s2 : (L.flatten.map (near g lie)).sum = ((O1 L).map fun x => x * F (t.length + 1 + x) ((O1 L).erase x)).sum :=
    sum_flat (near g lie) (fun x => F (t.length + 1 + x) ((O1 L).erase x)) L fun l hll p hpl => by
      have := near_join h hl D q (hlt p (List.mem_append_right _ (List.mem_flatten.mpr ⟨l, hll, hpl⟩))) hll hpl
      exact ⟨fun h1 => (this.1 h1).1, this.2⟩
  have s1 : (t.map (near g lie)).sum = if 0 < t.length then F t.length (O1 L) else 0 := by
    cases t with
    | nil => rfl
    | cons c b =>
      rw [if_pos (by simp), List.map_cons, List.sum_cons, (near_first h hl D q (hlt c (by simp))).1]
      have : (b.map (near g lie)).sum = b.length * 0 := sum_const 0 _ b fun p hp => by
        obtain ⟨x, y, rfl⟩ := List.append_of_mem hp
        exact near_cut (a := c :: x) h hl D q (hlt p (by simp)) (by simp)
      rw [this, List.length_cons]
      omega
  rw [s1, s2]
  refine (F_rec t.length (O1 L) ?_).symm
  refine Classical.byContradiction fun hc => ?_
  have h0 : t.length = 0 := by
    refine Classical.byContradiction fun q => hc (.inl (by omega))
  have h1 : O1 L = [] := Classical.byContradiction fun q => hc (.inr q)
  rw [h0, h1] at hv
  exact absurd hv (by simp [vOf])

/-- there is a place that leads nearer -/
theorem near_one (h : IsPl g) (hl : lie < g.length + 1) (hv : 0 < (worth g lie).1) : ∃ p, p < g.length ∧ (worth (before g p) (lieBehind g.length p lie)).1 + 1 = (worth g lie).1 := by
  obtain ⟨t, L, q, D⟩ := dec_of h hl
  have lt : ∀ p ∈ t ++ L.flatten, p < g.length := fun p hp => by
    have h1 : p < g.length + 1 := (D.mem p).mp (by rw [List.flatten_cons]; exact List.mem_cons_of_mem _ hp)
    have h2 : p ≠ g.length := fun e => by
      have nd := D.nod
      rw [List.flatten_cons, List.cons_append, List.nodup_cons] at nd
      exact nd.1 (e ▸ hp)
    omega
  cases t with
  | cons c b => exact ⟨c, lt c (by simp), (near_first h hl D q (lt c (by simp))).2⟩
  | nil =>
    rw [worth_dec h hl D] at hv
    cases hO : O1 L with
    | nil => rw [hO] at hv; exact absurd hv (by simp [vOf])
    | cons x r =>
      have hx : x ∈ O1 L := by rw [hO]; simp
      unfold O1 at hx
      rw [List.mem_filter] at hx
      obtain ⟨l, hll, rfl⟩ := List.mem_map.mp hx.1
      have h1 : 1 < l.length := of_decide_eq_true hx.2
      obtain ⟨p, hpl⟩ : ∃ p, p ∈ l := by
        cases l with
        | nil => simp at h1
        | cons p _ => exact ⟨p, by simp⟩
      have hp := lt p (List.mem_append_right _ (List.mem_flatten.mpr ⟨l, hll, hpl⟩))
      exact ⟨p, hp, ((near_join h hl D q hp hll hpl).1 h1).2⟩

theorem O1_pos (L : List (List Nat)) : ∀ x ∈ O1 L, 1 < x := fun x hx => of_decide_eq_true (List.mem_filter.mp hx).2

theorem worth_pos (h : IsPl g) (hl : lie < g.length + 1) : 0 < (worth g lie).2 := by
  obtain ⟨t, L, q, D⟩ := dec_of h hl
  rw [worth_dec h hl D]
  exact F_pos (Nat.succ_pos _) fun x hx => Nat.lt_of_lt_of_le Nat.one_pos (Nat.le_of_lt (O1_pos L x hx))

theorem two_len : ∀ (O : List Nat), (∀ x ∈ O, 1 < x) → 2 * (O.map (· + 1)).sum ≤ 3 * O.sum
  | [], _ => by simp
  | x :: O, hh => by
    have := two_len O fun y hy => hh y (List.mem_cons_of_mem _ hy)
    have := hh x (by simp)
    simp only [List.map_cons, List.sum_cons]
    omega

theorem O1_sum : ∀ L : List (List Nat), (O1 L).sum ≤ L.flatten.length
  | [] => by simp [O1]
  | l :: L => by
    have := O1_sum L
    rw [O1_cons, List.flatten_cons, List.length_append]
    split
    · rw [List.sum_cons]; omega
    · omega

theorem worth_le (h : IsPl g) (hl : lie < g.length + 1) : (worth g lie).1 ≤ g.length + g.length / 2 := by
  obtain ⟨t, L, q, D⟩ := dec_of h hl
  rw [worth_dec h hl D]
  have h1 := two_len (O1 L) (O1_pos L)
  have h2 := O1_sum L
  have h3 : ((g.length :: t) :: L).flatten.length = g.length + 1 := by
    have : ((g.length :: t) :: L).flatten.Perm (List.range (g.length + 1)) := (List.perm_ext_iff_of_nodup D.nod List.nodup_range).mpr fun x => (D.mem x).trans List.mem_range.symm
    rw [this.length_eq, List.length_range]
  rw [List.flatten_cons, List.length_append, List.length_cons] at h3
  show vOf _ _ ≤ _
  unfold vOf
  omega

/-- nothing wrong: the placing is as at first -/
theorem worth_zero (h : IsPl g) (hl : lie < g.length + 1) (hv : (worth g lie).1 = 0) : lie = 0 ∧ g = List.range g.length ∧ (worth g lie).2 = 1 := by
  obtain ⟨t, L, q, D⟩ := dec_of h hl
  have e := worth_dec h hl D
  rw [e] at hv
  have h0 : t.length = 0 ∧ O1 L = [] := by
    have hv' : t.length + ((O1 L).map (· + 1)).sum = 0 := hv
    refine ⟨by omega, ?_⟩
    cases hO : O1 L with
    | nil => rfl
    | cons x r => rw [hO] at hv'; simp at hv'
  have hfix : ∀ x, x < g.length + 1 → want g lie x = x := by
    intro x hx
    have hm := (D.mem x).mpr hx
    rw [List.flatten_cons] at hm
    rcases List.mem_append.mp hm with r | r
    · have ht : t = [] := List.length_eq_zero_iff.mp h0.1
      rw [ht] at r q
      have : x = g.length := by simpa using r
      rw [this]
      exact q
    · obtain ⟨l, hll, hxl⟩ := List.mem_flatten.mp r
      have h1 : ¬ 1 < l.length := fun h1 => by
        have : l.length ∈ O1 L := List.mem_filter.mpr ⟨List.mem_map.mpr ⟨l, hll, rfl⟩, decide_eq_true h1⟩
        rw [h0.2] at this
        simp at this
      obtain ⟨y, s, rfl, p⟩ := D.cyc l (List.mem_cons_of_mem _ hll)
      have hs : s = [] := by
        cases s with
        | nil => rfl
        | cons _ _ => simp at h1
      rw [hs] at hxl p
      have : x = y := by simpa using hxl
      rw [this]
      exact p
  have hlie : lie = 0 := by
    have := hfix g.length (Nat.lt_succ_self _)
    unfold want at this
    rw [md (by omega)] at this
    by_cases hz : lie = 0
    · exact hz
    · rw [if_neg (by omega)] at this
      have hi : g.length + (g.length + 1) - lie - (g.length + 1) < g.length := by omega
      unfold ext at this
      rw [List.getD_eq_getElem?_getD, List.getElem?_append_left hi, List.getElem?_eq_getElem hi] at this
      have h2 := h.lt _ (List.getElem_mem hi)
      have h3 : g[g.length + (g.length + 1) - lie - (g.length + 1)] = g.length := this
      omega
  refine ⟨hlie, ?_, ?_⟩
  · refine List.ext_getElem (by simp) fun i h1 h2 => ?_
    have := hfix i (by omega)
    unfold want at this
    rw [hlie, md (by omega), if_neg (by omega)] at this
    unfold ext at this
    rw [show i + (g.length + 1) - 0 - (g.length + 1) = i by omega, List.getD_eq_getElem?_getD, List.getElem?_append_left h1, List.getElem?_eq_getElem h1] at this
    rw [List.getElem_range]
    exact this
  · rw [e, h0.2]
    rfl
end
end SS
namespace SS
/-! ## the least value of all lies -/
theorem minL_le : ∀ (l : List Nat), ∀ x ∈ l, minL l ≤ x
  | [], x, h => by simp at h
  | [y], x, h => by
    have : x = y := by simpa using h
    exact Nat.le_of_eq this.symm
  | y :: z :: r, x, h => by
    rw [minL]
    rcases List.mem_cons.mp h with e | e
    · exact e ▸ Nat.min_le_left _ _
    · exact Nat.le_trans (Nat.min_le_right _ _) (minL_le (z :: r) x e)
theorem minL_mem : ∀ (l : List Nat), l ≠ [] → minL l ∈ l
  | [], h => absurd rfl h
  | [y], _ => by simp [minL]
  | y :: z :: r, _ => by
    rw [minL]
    have ih := minL_mem (z :: r) (by simp)
    by_cases h : y ≤ minL (z :: r)
    · rw [Nat.min_eq_left h]; simp
    · rw [Nat.min_eq_right (by omega)]; exact List.mem_cons_of_mem _ ih
theorem minL_eq {l : List Nat} {m : Nat} (h : m ∈ l) (hl : ∀ x ∈ l, m ≤ x) : minL l = m :=
  Nat.le_antisymm (minL_le l m h) (hl _ (minL_mem l (fun e => by rw [e] at h; simp at h)))
theorem best_le (g : List Nat) {lie : Nat} (h : lie < g.length + 1) : (best g).1 ≤ (worth g lie).1 := by
  refine minL_le _ _ ?_
  unfold worths
  rw [List.map_map]
  exact List.mem_map.mpr ⟨lie, List.mem_range.mpr h, rfl⟩
theorem best_at (g : List Nat) : ∃ lie, lie < g.length + 1 ∧ (worth g lie).1 = (best g).1 := by
  have h := minL_mem ((worths g).map (·.1)) (by unfold worths; simp)
  unfold worths at h
  rw [List.map_map] at h
  obtain ⟨lie, hl, e⟩ := List.mem_map.mp h
  exact ⟨lie, List.mem_range.mp hl, by unfold best worths; rw [List.map_map]; exact e⟩
theorem sum_filter {α : Type} (c : α → Bool) (f : α → Nat) : ∀ l : List α, ((l.filter c).map f).sum = (l.map fun x => if c x = true then f x else 0).sum
  | [] => rfl
  | x :: l => by
    rw [List.filter_cons, List.map_cons, List.sum_cons, ← sum_filter c f l]
    by_cases h : c x = true
    · rw [if_pos h, if_pos h, List.map_cons, List.sum_cons]
    · rw [if_neg h, if_neg h, Nat.zero_add]
theorem best_ways (g : List Nat) : (best g).2 = ((List.range (g.length + 1)).map fun lie => if (worth g lie).1 = (best g).1 then (worth g lie).2 else 0).sum := by
  show (((worths g).filter fun w => w.1 == (best g).1).map (·.2)).sum = _
  rw [sum_filter]
  unfold worths
  rw [List.map_map]
  congr 1
  refine List.map_congr_left fun lie _ => ?_
  show (if ((worth g lie).1 == (best g).1) = true then (worth g lie).2 else 0) = _
  by_cases h : (worth g lie).1 = (best g).1
  · rw [if_pos h, if_pos (beq_iff_eq.mpr h)]
  · rw [if_neg h, if_neg (fun q => h (beq_iff_eq.mp q))]
theorem lieBehind_inj {n p x y : Nat} (hp : p < n) (hx : x < n + 1) (hy : y < n + 1) (e : lieBehind n p x = lieBehind n p y) : x = y := turnBy_inj hp hx hy e
theorem lieBehind_perm {n p : Nat} (hp : p < n) : ((List.range (n + 1)).map (lieBehind n p)).Perm (List.range (n + 1)) := by
  have nd : ((List.range (n + 1)).map (lieBehind n p)).Nodup := by
    rw [List.Nodup, List.pairwise_map]
    exact List.nodup_range.imp_of_mem fun {x y} hx hy ne r => ne (lieBehind_inj hp (List.mem_range.mp hx) (List.mem_range.mp hy) r)
  refine (List.perm_ext_iff_of_nodup nd List.nodup_range).mpr fun x => ⟨fun hx => ?_, fun hx => ?_⟩
  · obtain ⟨y, _, rfl⟩ := List.mem_map.mp hx
    exact List.mem_range.mpr (lieBehind_lt _ _ _)
  · refine Classical.byContradiction fun hn => ?_
    have h2 := (List.nodup_cons.mpr ⟨hn, nd⟩).length_le_of_subset (l₂ := List.range (n + 1)) fun y hy => by
      rcases List.mem_cons.mp hy with r | r
      · exact r ▸ hx
      · obtain ⟨z, _, rfl⟩ := List.mem_map.mp r
        exact List.mem_range.mpr (lieBehind_lt _ _ _)
    rw [List.length_cons, List.length_map, List.length_range] at h2
    omega
theorem lieBehind_onto {n p : Nat} (hp : p < n) {l : Nat} (hl : l < n + 1) : ∃ lie, lie < n + 1 ∧ lieBehind n p lie = l := by
  obtain ⟨y, hy, e⟩ := List.mem_map.mp ((lieBehind_perm hp).mem_iff.mpr (List.mem_range.mpr hl))
  exact ⟨y, List.mem_range.mp hy, e⟩
section
variable {g : List Nat}
theorem best_step (h : IsPl g) {p : Nat} (hp : p < g.length) : (best g).1 ≤ (best (before g p)).1 + 1 := by
  obtain ⟨l, hl, e⟩ := best_at (before g p)
  rw [before_len] at hl
  obtain ⟨lie, hlie, rfl⟩ := lieBehind_onto hp hl
  have h1 := best_le g hlie
  rcases worth_step h hlie hp with h2 | h2 <;> omega
theorem best_down (h : IsPl g) (hv : 0 < (best g).1) : ∃ p, p < g.length ∧ (best (before g p)).1 + 1 = (best g).1 := by
  obtain ⟨lie, hl, e⟩ := best_at g
  obtain ⟨p, hp, e2⟩ := near_one h hl (by omega)
  refine ⟨p, hp, ?_⟩
  have h1 := best_step h hp
  have h2 := best_le (before g p) (lie := lieBehind g.length p lie) (by rw [before_len]; exact lieBehind_lt _ _ _)
  omega
theorem sum_comm {α β : Type} (f : α → β → Nat) : ∀ (A : List α) (B : List β), (A.map fun a => (B.map fun b => f a b).sum).sum = (B.map fun b => (A.map fun a => f a b).sum).sum
  | [], B => by
    have : (B.map fun b => (([] : List α).map fun a => f a b).sum).sum = B.length * 0 := sum_const 0 _ B fun _ _ => rfl
    rw [this]; simp
  | a :: A, B => by
    rw [List.map_cons, List.sum_cons, sum_comm f A B]
    induction B with
    | nil => rfl
    | cons b B ih =>
      simp only [List.map_cons, List.sum_cons] at ih ⊢
      omega
theorem best_sum (h : IsPl g) (hv : 0 < (best g).1) :
    (best g).2 = (((List.range g.length).filter fun p => (best (before g p)).1 + 1 == (best g).1).map fun p => (best (before g p)).2).sum := by
  rw [sum_filter, best_ways g]
  have e1 : ((List.range (g.length + 1)).map fun lie => if (worth g lie).1 = (best g).1 then (worth g lie).2 else 0) =
      (List.range (g.length + 1)).map fun lie => ((List.range g.length).map fun p => if (worth g lie).1 = (best g).1 then near g lie p else 0).sum := by
    refine List.map_congr_left fun lie hl => ?_
    have hl' := List.mem_range.mp hl
    by_cases q : (worth g lie).1 = (best g).1
    · rw [if_pos q, ← near_sum h hl' (by omega)]
      congr 1
      exact List.map_congr_left fun p _ => by rw [if_pos q]
    · rw [if_neg q]
      rw [sum_const 0 _ _ fun p _ => by rw [if_neg q]]
      rfl
  rw [e1, sum_comm]
  congr 1
  refine List.map_congr_left fun p hp => ?_
  have hp' := List.mem_range.mp hp
  have hst := best_step h hp'
  have e2 : (best (before g p)).2 = ((List.range (g.length + 1)).map fun lie => if (worth (before g p) (lieBehind g.length p lie)).1 = (best (before g p)).1 then (worth (before g p) (lieBehind g.length p lie)).2 else 0).sum := by
    have := best_ways (before g p)
    rw [before_len, ← ((lieBehind_perm hp').map _).sum_nat, List.map_map] at this
    exact this
  rw [e2]
  by_cases q : (best (before g p)).1 + 1 = (best g).1
  · rw [if_pos (beq_iff_eq.mpr q)]
    congr 1
    refine List.map_congr_left fun lie hl => ?_
    have hl' := List.mem_range.mp hl
    show (if (worth g lie).1 = (best g).1 then near g lie p else 0) = if (worth (before g p) (lieBehind g.length p lie)).1 = (best (before g p)).1 then (worth (before g p) (lieBehind g.length p lie)).2 else 0
    have h1 := worth_step h hl' hp'
    have h2 := best_le g hl'
    unfold near
    by_cases r : (worth (before g p) (lieBehind g.length p lie)).1 = (best (before g p)).1
    · rw [if_pos r, if_pos (by omega), if_pos (by omega)]
    · rw [if_neg r]
      split
      · rw [if_neg (by omega)]
      · rfl
  · rw [if_neg (fun z => q (beq_iff_eq.mp z))]
    rw [sum_const 0 _ _ fun lie hl => ?_]
    · rfl
    · have hl' := List.mem_range.mp hl
      have h3 := best_le (before g p) (lie := lieBehind g.length p lie) (by rw [before_len]; exact lieBehind_lt _ _ _)
      unfold near
      split
      · rw [if_neg (by omega)]
      · rfl
theorem best_zero (h : IsPl g) (hv : (best g).1 = 0) : g = List.range g.length ∧ (best g).2 = 1 := by
  obtain ⟨lie, hl, e⟩ := best_at g
  obtain ⟨e0, e1, e2⟩ := worth_zero h hl (by omega)
  refine ⟨e1, ?_⟩
  rw [best_ways, List.range_succ_eq_map, List.map_cons, List.sum_cons, List.map_map, sum_const 0 _ _ fun l hl2 => ?_]
  · subst e0
    rw [if_pos (by omega), e2]
    rfl
  · have hl3 := List.mem_range.mp hl2
    show (if (worth g (l + 1)).1 = (best g).1 then _ else 0) = 0
    rw [if_neg]
    intro q
    have := (worth_zero h (lie := l + 1) (by omega) (by omega)).1
    omega
theorem best_bound (h : IsPl g) : (best g).1 ≤ g.length + g.length / 2 :=
  Nat.le_trans (best_le g (Nat.succ_pos _)) (worth_le h (Nat.succ_pos _))
theorem sum_pos {α : Type} {f : α → Nat} : ∀ {l : List α} {x : α}, x ∈ l → 0 < f x → 0 < (l.map f).sum
  | y :: l, x, hx, hf => by
    rw [List.map_cons, List.sum_cons]
    rcases List.mem_cons.mp hx with e | e
    · rw [e] at hf; omega
    · have := sum_pos e hf; omega
theorem best_pos (h : IsPl g) : 0 < (best g).2 := by
  obtain ⟨lie, hl, e⟩ := best_at g
  rw [best_ways]
  exact sum_pos (List.mem_range.mpr hl) (by rw [if_pos e]; exact worth_pos h hl)
end

/-! ## the first shortest program -/
def rot (m : List Nat) (p : Nat) : List Nat := m.drop (p + 1) ++ [m.getD p 0] ++ m.take p
def moved (n : Nat) (prog : List Nat) : List Nat := prog.foldl rot (List.range n)
def backOf (n p j : Nat) : Nat := if j < n - p - 1 then p + 1 + j else if j = n - p - 1 then p else j - (n - p)
theorem rot_len (m : List Nat) {p : Nat} (h : p < m.length) : (rot m p).length = m.length := by
  unfold rot
  simp only [List.length_append, List.length_drop, List.length_take, List.length_singleton]
  omega
theorem rot_map (φ : Nat → Nat) (m : List Nat) {p : Nat} (h : p < m.length) : rot (m.map φ) p = (rot m p).map φ := by
  unfold rot
  rw [List.map_append, List.map_append, List.map_drop, List.map_take, List.map_singleton]
  congr 3
  rw [List.getD_eq_getElem?_getD, List.getD_eq_getElem?_getD, List.getElem?_map, List.getElem?_eq_getElem h]
  rfl
theorem foldl_rot_map (φ : Nat → Nat) : ∀ (prog m : List Nat), (∀ p ∈ prog, p < m.length) → prog.foldl rot (m.map φ) = (prog.foldl rot m).map φ
  | [], _, _ => rfl
  | p :: prog, m, h => by
    rw [List.foldl_cons, List.foldl_cons, rot_map φ m (h p (by simp))]
    exact foldl_rot_map φ prog (rot m p) fun q hq => by rw [rot_len m (h p (by simp))]; exact h q (List.mem_cons_of_mem _ hq)
theorem rot_range {n p : Nat} (h : p < n) : rot (List.range n) p = (List.range n).map (backOf n p) := by
  have hlen := rot_len (List.range n) (p := p) (by rw [List.length_range]; exact h)
  unfold rot at hlen ⊢
  refine List.ext_getElem (by rw [hlen, List.length_map]) fun i h1 h2 => ?_
  rw [List.length_map, List.length_range] at h2
  rw [List.getElem_map, List.getElem_range]
  unfold backOf
  by_cases a : i < n - p - 1
  · rw [if_pos a, List.getElem_append_left (by simp; omega), List.getElem_append_left (by simp; omega), List.getElem_drop, List.getElem_range]
  · rw [if_neg a]
    by_cases b : i = n - p - 1
    · rw [if_pos b, List.getElem_append_left (by simp; omega), List.getElem_append_right (by simp; omega), List.getElem_singleton, List.getD_eq_getElem?_getD, List.getElem?_range h]
      rfl
    · rw [if_neg b, List.getElem_append_right (by simp; omega), List.getElem_take, List.getElem_range]
      simp
      omega
theorem backOf_first {n p x : Nat} (hp : p < n) (hx : x < n) : backOf n p (firstOf x p n) = x := by
  unfold backOf firstOf
  split <;> (try split) <;> (try split) <;> (try split) <;> omega
theorem before_back {g : List Nat} (h : IsPl g) {p : Nat} (hp : p < g.length) : (before g p).map (backOf g.length p) = g := by
  unfold before
  rw [List.map_map]
  conv => rhs; rw [← List.map_id g]
  exact List.map_congr_left fun x hx => backOf_first hp (h.lt x hx)
theorem moved_cons {g : List Nat} (h : IsPl g) {p : Nat} (hp : p < g.length) {q : List Nat} (hq : ∀ x ∈ q, x < g.length) (e : moved g.length q = before g p) : moved g.length (p :: q) = g := by
  unfold moved at e ⊢
  rw [List.foldl_cons, rot_range hp, foldl_rot_map _ _ _ (by rw [List.length_range]; exact hq), e, before_back h hp]
theorem firstProg_spec : ∀ (k : Nat) (g : List Nat), IsPl g → (best g).1 = k → (firstProg k g).length = k ∧ (∀ p ∈ firstProg k g, p < g.length) ∧ moved g.length (firstProg k g) = g
  | 0, g, h, e => by
    refine ⟨rfl, by simp [firstProg], ?_⟩
    exact (best_zero h e).1.symm
  | k + 1, g, h, e => by
    obtain ⟨p0, hp0, e0⟩ := best_down h (by omega)
    rw [firstProg]
    cases hf : (List.range g.length).find? fun p => (best (before g p)).1 == k with
    | none =>
      have := List.find?_eq_none.mp hf p0 (List.mem_range.mpr hp0)
      exact absurd (beq_iff_eq.mpr (show (best (before g p0)).1 = k by omega)) this
    | some p =>
      have hp : p < g.length := List.mem_range.mp (List.mem_of_find?_eq_some hf)
      have hb : (best (before g p)).1 = k := by
        have := List.find?_some hf
        exact beq_iff_eq.mp this
      obtain ⟨i1, i2, i3⟩ := firstProg_spec k (before g p) (before_pl h hp) hb
      rw [before_len] at i2 i3
      refine ⟨by rw [List.length_cons, i1], fun x hx => ?_, moved_cons h hp i2 i3⟩
      rcases List.mem_cons.mp hx with r | r
      · exact r ▸ hp
      · exact i2 x r
theorem firstProgram_spec {g : List Nat} (h : IsPl g) : (firstProgram g).length = (best g).1 ∧ (∀ p ∈ firstProgram g, p < g.length) ∧ moved g.length (firstProgram g) = g := firstProg_spec _ g h rfl
/-- the places that lead nearer -/
def nearer (g : List Nat) : List Nat := (List.range g.length).filter fun p => (best (before g p)).1 + 1 == (best g).1
theorem firstProgram_cons {g : List Nat} (h : IsPl g) (hv : 0 < (best g).1) : ∃ p r, nearer g = p :: r ∧ p < g.length ∧ firstProgram g = p :: firstProgram (before g p) := by
  obtain ⟨k, hk⟩ : ∃ k, (best g).1 = k + 1 := ⟨(best g).1 - 1, by omega⟩
  obtain ⟨p0, hp0, e0⟩ := best_down h hv
  have e1 : nearer g = (List.range g.length).filter fun p => (best (before g p)).1 == k := by
    unfold nearer
    refine List.filter_congr fun p _ => ?_
    rw [hk]
    by_cases q : (best (before g p)).1 = k
    · rw [beq_iff_eq.mpr q, beq_iff_eq.mpr (by omega : (best (before g p)).1 + 1 = k + 1)]
    · rw [beq_eq_false_iff_ne.mpr q, beq_eq_false_iff_ne.mpr (by omega : (best (before g p)).1 + 1 ≠ k + 1)]
  cases hn : nearer g with
  | nil =>
    have : p0 ∈ nearer g := List.mem_filter.mpr ⟨List.mem_range.mpr hp0, beq_iff_eq.mpr e0⟩
    rw [hn] at this
    simp at this
  | cons p r =>
    have hf : (List.range g.length).find? (fun p => (best (before g p)).1 == k) = some p := by
      rw [← List.head?_filter, ← e1, hn]
      rfl
    have hp : p < g.length := List.mem_range.mp (List.mem_of_find?_eq_some hf)
    have hb : (best (before g p)).1 = k := by
      have := List.find?_some hf
      exact beq_iff_eq.mp this
    refine ⟨p, r, rfl, hp, ?_⟩
    unfold firstProgram
    rw [hk, firstProg, hf, hb]
theorem firstProgram_nil {g : List Nat} (hv : (best g).1 = 0) : firstProgram g = [] := by
  unfold firstProgram
  rw [hv]
  rfl
end SS
namespace SS
def gFar : List Nat := (List.range 60).map fun i => i + 1 - 2 * (i % 2)
theorem c1 : firstProgram [0, 1, 10, 3, 4, 5, 6, 7, 8, 9, 2, 11] = [2, 7, 1] := by decide +kernel
theorem c2 : (best ([1, 0, 3, 2, 5, 4, 7, 6, 9, 8] ++ (List.range 20).map (· + 10))).2 = 1048320 := by decide +kernel
theorem c4 : (best (List.range 20)).2 = 1 := by decide +kernel
theorem c5 : (best ([1, 0] ++ (List.range 12).map (· + 2))).1 = 3 := by decide +kernel
theorem c6 : (best [1, 0, 2]).1 = 2 ∧ firstProgram [1, 0, 2] = [1, 0] ∧ (best [1, 0, 2]).2 = 2 ∧ (best [1, 0, 2, 3]).2 = 4 ∧ (best []).1 = 0 := by decide +kernel
end SS
namespace SS

theorem c3 : (best gFar).1 = 30 := by decide +kernel
end SS
namespace SS
def lexLt : List Nat → List Nat → Bool
  | [], [] => false
  | [], _ :: _ => true
  | _ :: _, [] => false
  | x :: xs, y :: ys => if x = y then lexLt xs ys else decide (x < y)
/-! ## the law's own walk over all placings -/
abbrev En := List Nat × Nat × List Nat
def putE (L : List En) (k : List Nat) (c : Nat) (p : List Nat) : List En :=
  match L.find? fun e => decide (e.1 = k) with
  | none => L ++ [(k, c, p)]
  | some e => L.map fun e' => if e'.1 = k then (k, e.2.1 + c, if lexLt p e.2.2 then p else e.2.2) else e'
def expand1 (known : List (List Nat)) (e : En) (later : List En) (p : Nat) : List En :=
  if rot e.1 p ∈ known then later else putE later (rot e.1 p) e.2.1 (e.2.2 ++ [p])
def expand (n : Nat) (known : List (List Nat)) (later : List En) (e : En) : List En := (List.range n).foldl (expand1 known e) later
def nextLayer (n : Nat) (layer : List En) (known : List (List Nat)) : List En := layer.foldl (expand n known) []
def lay (n : Nat) : Nat → List En × List (List Nat)
  | 0 => ([(List.range n, 1, [])], [List.range n])
  | t + 1 => (nextLayer n (lay n t).1 (lay n t).2, (lay n t).2 ++ (nextLayer n (lay n t).1 (lay n t).2).map (·.1))
def chkE (n t : Nat) (e : En) : Bool := e.1.length == n && ((best e.1).1 == t && ((best e.1).2 == e.2.1 && firstProgram e.1 == e.2.2))
/-! all placings -/
def inserts (x : Nat) : List Nat → List (List Nat)
  | [] => [[x]]
  | y :: l => (x :: y :: l) :: (inserts x l).map (y :: ·)
def perms : List Nat → List (List Nat)
  | [] => [[]]
  | x :: l => (perms l).flatMap (inserts x)
theorem mem_inserts (x : Nat) : ∀ (a b : List Nat), a ++ x :: b ∈ inserts x (a ++ b)
  | [], [] => by simp [inserts]
  | [], y :: b => by simp [inserts]
  | y :: a, b => by
    show y :: (a ++ x :: b) ∈ (x :: y :: (a ++ b)) :: (inserts x (a ++ b)).map (y :: ·)
    exact List.mem_cons_of_mem _ (List.mem_map.mpr ⟨_, mem_inserts x a b, rfl⟩)
theorem mem_perms : ∀ (l g : List Nat), g.Perm l → g ∈ perms l
  | [], g, h => by
    rw [h.eq_nil]
    simp [perms]
  | x :: l, g, h => by
    obtain ⟨a, b, rfl⟩ := List.append_of_mem (h.mem_iff.mpr (List.mem_cons_self))
    have h2 : (a ++ b).Perm l := (List.perm_middle.symm.trans h).cons_inv
    exact List.mem_flatMap.mpr ⟨a ++ b, mem_perms l _ h2, mem_inserts x a b⟩
end SS
namespace SS
/-! ## the layers of that walk, for up to five items (printed by a program of mine) -/
def l0_0 : List En := [([], 1, [])]
def l0_1 : List En := []
def k0_0 : List (List Nat) := [[]]
def k0_1 : List (List Nat) := k0_0 ++ l0_1.map (·.1)
theorem t0_0 : lay 0 0 = (l0_0, k0_0) := rfl
theorem n0_1 : nextLayer 0 l0_0 k0_0 = l0_1 := by decide +kernel
theorem t0_1 : lay 0 1 = (l0_1, k0_1) := by
  rw [lay, t0_0, n0_1]
  rfl
theorem c0_0 : l0_0.all (chkE 0 0) = true := by decide +kernel
theorem p0 : (perms (List.range 0)).all (fun g => (l0_0.any fun e => decide (e.1 = g))) = true := by decide +kernel
def l1_0 : List En := [([0], 1, [])]
def l1_1 : List En := []
def k1_0 : List (List Nat) := [[0]]
def k1_1 : List (List Nat) := k1_0 ++ l1_1.map (·.1)
theorem t1_0 : lay 1 0 = (l1_0, k1_0) := rfl
theorem n1_1 : nextLayer 1 l1_0 k1_0 = l1_1 := by decide +kernel
theorem t1_1 : lay 1 1 = (l1_1, k1_1) := by
  rw [lay, t1_0, n1_1]
  rfl
theorem c1_0 : l1_0.all (chkE 1 0) = true := by decide +kernel
theorem p1 : (perms (List.range 1)).all (fun g => (l1_0.any fun e => decide (e.1 = g))) = true := by decide +kernel
def l2_0 : List En := [([0, 1], 1, [])]
def l2_1 : List En := [([1, 0], 2, [0])]
def l2_2 : List En := []
def k2_0 : List (List Nat) := [[0, 1]]
def k2_1 : List (List Nat) := k2_0 ++ l2_1.map (·.1)
def k2_2 : List (List Nat) := k2_1 ++ l2_2.map (·.1)
theorem t2_0 : lay 2 0 = (l2_0, k2_0) := rfl
theorem n2_1 : nextLayer 2 l2_0 k2_0 = l2_1 := by decide +kernel
theorem t2_1 : lay 2 1 = (l2_1, k2_1) := by
  rw [lay, t2_0, n2_1]
  rfl
theorem n2_2 : nextLayer 2 l2_1 k2_1 = l2_2 := by decide +kernel
theorem t2_2 : lay 2 2 = (l2_2, k2_2) := by
  rw [lay, t2_1, n2_2]
  rfl
theorem c2_0 : l2_0.all (chkE 2 0) = true := by decide +kernel
theorem c2_1 : l2_1.all (chkE 2 1) = true := by decide +kernel
theorem p2 : (perms (List.range 2)).all (fun g => (l2_0.any fun e => decide (e.1 = g)) || (l2_1.any fun e => decide (e.1 = g))) = true := by decide +kernel
def l3_0 : List En := [([0, 1, 2], 1, [])]
def l3_1 : List En := [([1, 2, 0], 1, [0]), ([2, 1, 0], 1, [1]), ([2, 0, 1], 1, [2])]
def l3_2 : List En := [([0, 2, 1], 2, [0, 1]), ([1, 0, 2], 2, [1, 0])]
def l3_3 : List En := []
def k3_0 : List (List Nat) := [[0, 1, 2]]
def k3_1 : List (List Nat) := k3_0 ++ l3_1.map (·.1)
def k3_2 : List (List Nat) := k3_1 ++ l3_2.map (·.1)
def k3_3 : List (List Nat) := k3_2 ++ l3_3.map (·.1)
theorem t3_0 : lay 3 0 = (l3_0, k3_0) := rfl
theorem n3_1 : nextLayer 3 l3_0 k3_0 = l3_1 := by decide +kernel
theorem t3_1 : lay 3 1 = (l3_1, k3_1) := by
  rw [lay, t3_0, n3_1]
  rfl
theorem n3_2 : nextLayer 3 l3_1 k3_1 = l3_2 := by decide +kernel
theorem t3_2 : lay 3 2 = (l3_2, k3_2) := by
  rw [lay, t3_1, n3_2]
  rfl
theorem n3_3 : nextLayer 3 l3_2 k3_2 = l3_3 := by decide +kernel
theorem t3_3 : lay 3 3 = (l3_3, k3_3) := by
  rw [lay, t3_2, n3_3]
  rfl
theorem c3_0 : l3_0.all (chkE 3 0) = true := by decide +kernel
theorem c3_1 : l3_1.all (chkE 3 1) = true := by decide +kernel
theorem c3_2 : l3_2.all (chkE 3 2) = true := by decide +kernel
theorem p3 : (perms (List.range 3)).all (fun g => (l3_0.any fun e => decide (e.1 = g)) || (l3_1.any fun e => decide (e.1 = g)) || (l3_2.any fun e => decide (e.1 = g))) = true := by decide +kernel
def l4_0 : List En := [([0, 1, 2, 3], 1, [])]
def l4_1 : List En := [([1, 2, 3, 0], 1, [0]), ([2, 3, 1, 0], 1, [1]), ([3, 2, 0, 1], 1, [2]), ([3, 0, 1, 2], 1, [3])]
def l4_2 : List En := [([2, 3, 0, 1], 2, [0, 0]), ([3, 0, 2, 1], 1, [0, 1]), ([0, 3, 1, 2], 1, [0, 2]), ([3, 1, 0, 2], 1, [1, 0]), ([1, 0, 3, 2], 2, [1, 1]), ([0, 2, 3, 1], 1, [1, 3]), ([2, 0, 1, 3], 1, [2, 0]), ([1, 3, 2, 0], 1, [2, 3]), ([1, 2, 0, 3], 1, [3, 1]), ([2, 1, 3, 0], 1, [3, 2])]
def l4_3 : List En := [([0, 1, 3, 2], 4, [0, 0, 1]), ([1, 0, 2, 3], 4, [0, 0, 2]), ([0, 2, 1, 3], 4, [0, 1, 0]), ([2, 1, 0, 3], 4, [0, 1, 1]), ([1, 3, 0, 2], 4, [0, 1, 3]), ([3, 1, 2, 0], 4, [0, 2, 0]), ([2, 0, 3, 1], 4, [0, 2, 3]), ([0, 3, 2, 1], 4, [1, 1, 0])]
def l4_4 : List En := [([3, 2, 1, 0], 16, [0, 0, 1, 1])]
def l4_5 : List En := []
def k4_0 : List (List Nat) := [[0, 1, 2, 3]]
def k4_1 : List (List Nat) := k4_0 ++ l4_1.map (·.1)
def k4_2 : List (List Nat) := k4_1 ++ l4_2.map (·.1)
def k4_3 : List (List Nat) := k4_2 ++ l4_3.map (·.1)
def k4_4 : List (List Nat) := k4_3 ++ l4_4.map (·.1)
def k4_5 : List (List Nat) := k4_4 ++ l4_5.map (·.1)
theorem t4_0 : lay 4 0 = (l4_0, k4_0) := rfl
theorem n4_1 : nextLayer 4 l4_0 k4_0 = l4_1 := by decide +kernel
theorem t4_1 : lay 4 1 = (l4_1, k4_1) := by
  rw [lay, t4_0, n4_1]
  rfl
theorem n4_2 : nextLayer 4 l4_1 k4_1 = l4_2 := by decide +kernel
theorem t4_2 : lay 4 2 = (l4_2, k4_2) := by
  rw [lay, t4_1, n4_2]
  rfl
theorem n4_3 : nextLayer 4 l4_2 k4_2 = l4_3 := by decide +kernel
theorem t4_3 : lay 4 3 = (l4_3, k4_3) := by
  rw [lay, t4_2, n4_3]
  rfl
theorem n4_4 : nextLayer 4 l4_3 k4_3 = l4_4 := by decide +kernel
theorem t4_4 : lay 4 4 = (l4_4, k4_4) := by
  rw [lay, t4_3, n4_4]
  rfl
theorem n4_5 : nextLayer 4 l4_4 k4_4 = l4_5 := by decide +kernel
theorem t4_5 : lay 4 5 = (l4_5, k4_5) := by
  rw [lay, t4_4, n4_5]
  rfl
theorem c4_0 : l4_0.all (chkE 4 0) = true := by decide +kernel
theorem c4_1 : l4_1.all (chkE 4 1) = true := by decide +kernel
theorem c4_2 : l4_2.all (chkE 4 2) = true := by decide +kernel
theorem c4_3 : l4_3.all (chkE 4 3) = true := by decide +kernel
theorem c4_4 : l4_4.all (chkE 4 4) = true := by decide +kernel
theorem p4 : (perms (List.range 4)).all (fun g => (l4_0.any fun e => decide (e.1 = g)) || (l4_1.any fun e => decide (e.1 = g)) || (l4_2.any fun e => decide (e.1 = g)) || (l4_3.any fun e => decide (e.1 = g)) || (l4_4.any fun e => decide (e.1 = g))) = true := by decide +kernel
def l5_0 : List En := [([0, 1, 2, 3, 4], 1, [])]
def l5_1 : List En := [([1, 2, 3, 4, 0], 1, [0]), ([2, 3, 4, 1, 0], 1, [1]), ([3, 4, 2, 0, 1], 1, [2]), ([4, 3, 0, 1, 2], 1, [3]), ([4, 0, 1, 2, 3], 1, [4])]
def l5_2 : List En := [([2, 3, 4, 0, 1], 1, [0, 0]), ([3, 4, 0, 2, 1], 1, [0, 1]), ([4, 0, 3, 1, 2], 1, [0, 2]), ([0, 4, 1, 2, 3], 1, [0, 3]), ([3, 4, 1, 0, 2], 1, [1, 0]), ([4, 1, 0, 3, 2], 1, [1, 1]), ([1, 0, 4, 2, 3], 1, [1, 2]), ([0, 2, 3, 4, 1], 1, [1, 4]), ([4, 2, 0, 1, 3], 1, [2, 0]), ([2, 0, 1, 4, 3], 1, [2, 1]), ([1, 0, 3, 4, 2], 1, [2, 3]), ([1, 3, 4, 2, 0], 1, [2, 4]), ([3, 0, 1, 2, 4], 1, [3, 0]), ([1, 2, 0, 4, 3], 1, [3, 2]), ([2, 1, 4, 3, 0], 1, [3, 3]), ([2, 4, 3, 0, 1], 1, [3, 4]), ([1, 2, 3, 0, 4], 1, [4, 1]), ([2, 3, 1, 4, 0], 1, [4, 2]), ([3, 2, 4, 0, 1], 1, [4, 3]), ([3, 4, 0, 1, 2], 1, [4, 4])]
def l5_3 : List En := [([4, 0, 1, 3, 2], 1, [0, 0, 1]), ([0, 1, 4, 2, 3], 1, [0, 0, 2]), ([1, 0, 2, 3, 4], 2, [0, 0, 3]), ([4, 0, 2, 1, 3], 1, [0, 1, 0]), ([0, 2, 1, 4, 3], 2, [0, 1, 1]), ([2, 1, 0, 3, 4], 2, [0, 1, 2]), ([1, 3, 4, 0, 2], 1, [0, 1, 4]), ([0, 3, 1, 2, 4], 1, [0, 2, 0]), ([3, 1, 2, 0, 4], 2, [0, 2, 1]), ([2, 1, 4, 0, 3], 1, [0, 2, 3]), ([2, 4, 0, 3, 1], 1, [0, 2, 4]), ([4, 1, 2, 3, 0], 2, [0, 3, 0]), ([2, 3, 1, 0, 4], 1, [0, 3, 2]), ([3, 2, 0, 4, 1], 2, [0, 3, 3]), ([3, 0, 4, 1, 2], 1, [0, 3, 4]), ([4, 1, 0, 2, 3], 1, [1, 0, 0]), ([1, 0, 2, 4, 3], 2, [1, 0, 1]), ([0, 2, 1, 3, 4], 2, [1, 0, 2]), ([2, 0, 3, 4, 1], 1, [1, 0, 3]), ([1, 0, 3, 2, 4], 2, [1, 1, 0]), ([0, 3, 2, 1, 4], 2, [1, 1, 1]), ([2, 4, 1, 0, 3], 2, [1, 1, 4]), ([0, 4, 2, 3, 1], 2, [1, 2, 0]), ([4, 2, 3, 0, 1], 2, [1, 2, 1]), ([3, 2, 1, 0, 4], 1, [1, 2, 3]), ([3, 1, 0, 4, 2], 1, [1, 2, 4]), ([3, 4, 1, 2, 0], 2, [1, 4, 1]), ([4, 1, 3, 0, 2], 1, [1, 4, 2]), ([1, 4, 0, 2, 3], 1, [1, 4, 3]), ([2, 0, 1, 3, 4], 1, [2, 0, 0]), ([0, 1, 3, 2, 4], 2, [2, 0, 1]), ([1, 3, 0, 4, 2], 1, [2, 0, 2]), ([3, 1, 4, 2, 0], 1, [2, 0, 3]), ([0, 1, 4, 3, 2], 2, [2, 1, 0]), ([1, 4, 3, 0, 2], 2, [2, 1, 1]), ([4, 3, 1, 2, 0], 1, [2, 1, 2]), ([3, 2, 0, 1, 4], 1, [2, 1, 4]), ([0, 3, 4, 2, 1], 1, [2, 3, 0]), ([4, 2, 3, 1, 0], 1, [2, 3, 2]), ([4, 2, 0, 3, 1], 1, [2, 4, 1]), ([2, 0, 4, 1, 3], 1, [2, 4, 2]), ([0, 1, 3, 4, 2], 1, [2, 4, 4]), ([0, 1, 2, 4, 3], 2, [3, 0, 0]), ([1, 2, 4, 0, 3], 1, [3, 0, 1]), ([2, 4, 1, 3, 0], 1, [3, 0, 2]), ([2, 0, 4, 3, 1], 1, [3, 2, 0]), ([0, 4, 3, 2, 1], 1, [3, 2, 1]), ([3, 0, 4, 2, 1], 2, [3, 3, 2]), ([3, 0, 1, 4, 2], 1, [3, 4, 1]), ([1, 2, 4, 3, 0], 1, [3, 4, 4]), ([2, 3, 0, 4, 1], 1, [4, 1, 0]), ([0, 4, 3, 1, 2], 1, [4, 1, 2]), ([3, 1, 4, 0, 2], 1, [4, 2, 0]), ([1, 4, 0, 3, 2], 1, [4, 2, 1]), ([0, 2, 3, 1, 4], 1, [4, 2, 4]), ([2, 4, 0, 1, 3], 1, [4, 3, 0]), ([1, 3, 2, 4, 0], 1, [4, 3, 4]), ([1, 2, 0, 3, 4], 1, [4, 4, 2]), ([2, 1, 3, 4, 0], 1, [4, 4, 3])]
def l5_4 : List En := [([1, 3, 2, 0, 4], 4, [0, 0, 1, 1]), ([3, 2, 1, 4, 0], 6, [0, 0, 1, 2]), ([1, 4, 2, 3, 0], 4, [0, 0, 2, 0]), ([3, 4, 2, 1, 0], 4, [0, 0, 3, 2]), ([4, 3, 1, 0, 2], 5, [0, 0, 3, 3]), ([2, 1, 3, 0, 4], 4, [0, 1, 0, 1]), ([1, 4, 3, 2, 0], 6, [0, 1, 1, 1]), ([3, 0, 2, 1, 4], 4, [0, 1, 1, 4]), ([0, 3, 4, 1, 2], 8, [0, 1, 2, 1]), ([4, 3, 2, 1, 0], 8, [0, 1, 2, 3]), ([4, 2, 1, 0, 3], 6, [0, 1, 2, 4]), ([4, 0, 2, 3, 1], 4, [0, 1, 4, 1]), ([0, 2, 4, 1, 3], 2, [0, 1, 4, 2]), ([3, 1, 2, 4, 0], 4, [0, 2, 0, 0]), ([0, 3, 1, 4, 2], 2, [0, 2, 4, 1]), ([3, 1, 0, 2, 4], 4, [0, 2, 4, 2]), ([2, 3, 0, 1, 4], 8, [0, 3, 0, 1]), ([3, 0, 2, 4, 1], 6, [0, 3, 0, 2]), ([1, 0, 4, 3, 2], 2, [0, 3, 2, 1]), ([4, 1, 2, 0, 3], 4, [0, 3, 4, 1]), ([3, 2, 4, 1, 0], 5, [1, 0, 0, 3]), ([0, 2, 4, 3, 1], 4, [1, 0, 1, 0]), ([4, 3, 0, 2, 1], 5, [1, 0, 2, 3]), ([4, 1, 3, 2, 0], 2, [1, 0, 3, 2]), ([1, 4, 2, 0, 3], 6, [1, 0, 3, 3]), ([0, 3, 2, 4, 1], 4, [1, 1, 0, 0]), ([2, 4, 3, 1, 0], 5, [1, 1, 0, 2]), ([4, 0, 3, 2, 1], 6, [1, 1, 1, 4]), ([2, 1, 0, 4, 3], 2, [1, 2, 3, 0]), ([0, 4, 1, 3, 2], 4, [1, 2, 3, 2]), ([0, 4, 2, 1, 3], 4, [1, 2, 4, 1]), ([1, 3, 0, 2, 4], 2, [1, 4, 2, 0]), ([4, 3, 2, 0, 1], 4, [2, 0, 0, 3]), ([4, 2, 1, 3, 0], 2, [2, 3, 0, 1]), ([2, 0, 3, 1, 4], 2, [2, 4, 1, 0])]
def l5_5 : List En := []
def k5_0 : List (List Nat) := [[0, 1, 2, 3, 4]]
def k5_1 : List (List Nat) := k5_0 ++ l5_1.map (·.1)
def k5_2 : List (List Nat) := k5_1 ++ l5_2.map (·.1)
def k5_3 : List (List Nat) := k5_2 ++ l5_3.map (·.1)
def k5_4 : List (List Nat) := k5_3 ++ l5_4.map (·.1)
def k5_5 : List (List Nat) := k5_4 ++ l5_5.map (·.1)
theorem t5_0 : lay 5 0 = (l5_0, k5_0) := rfl
theorem n5_1 : nextLayer 5 l5_0 k5_0 = l5_1 := by decide +kernel
theorem t5_1 : lay 5 1 = (l5_1, k5_1) := by
  rw [lay, t5_0, n5_1]
  rfl
theorem n5_2 : nextLayer 5 l5_1 k5_1 = l5_2 := by decide +kernel
theorem t5_2 : lay 5 2 = (l5_2, k5_2) := by
  rw [lay, t5_1, n5_2]
  rfl
theorem n5_3 : nextLayer 5 l5_2 k5_2 = l5_3 := by decide +kernel
theorem t5_3 : lay 5 3 = (l5_3, k5_3) := by
  rw [lay, t5_2, n5_3]
  rfl
theorem n5_4 : nextLayer 5 l5_3 k5_3 = l5_4 := by decide +kernel
theorem t5_4 : lay 5 4 = (l5_4, k5_4) := by
  rw [lay, t5_3, n5_4]
  rfl
theorem n5_5 : nextLayer 5 l5_4 k5_4 = l5_5 := by decide +kernel
theorem t5_5 : lay 5 5 = (l5_5, k5_5) := by
  rw [lay, t5_4, n5_5]
  rfl
theorem c5_0 : l5_0.all (chkE 5 0) = true := by decide +kernel
theorem c5_1 : l5_1.all (chkE 5 1) = true := by decide +kernel
theorem c5_2 : l5_2.all (chkE 5 2) = true := by decide +kernel
theorem c5_3 : l5_3.all (chkE 5 3) = true := by decide +kernel
theorem c5_4 : l5_4.all (chkE 5 4) = true := by decide +kernel
theorem p5 : (perms (List.range 5)).all (fun g => (l5_0.any fun e => decide (e.1 = g)) || (l5_1.any fun e => decide (e.1 = g)) || (l5_2.any fun e => decide (e.1 = g)) || (l5_3.any fun e => decide (e.1 = g)) || (l5_4.any fun e => decide (e.1 = g))) = true := by decide +kernel
end SS
namespace SS
structure LayOk (n t : Nat) : Prop where
  chk : (lay n t).1.all (chkE n t) = true
  few : (lay n t).1.length ≤ 120
  knw : (lay n t).2.length ≤ 120
  pth : (lay n t).1.all (fun e => decide (e.2.2.length ≤ 100)) = true
theorem ok0_0 : LayOk 0 0 := by
  refine ⟨?_, ?_, ?_, ?_⟩ <;> rw [t0_0]
  · exact c0_0
  · decide +kernel
  · decide +kernel
  · decide +kernel
theorem all0 : ∀ t, t ≤ 0 → LayOk 0 t := by
  intro t ht
  have h : t = 0 := by omega
  rcases h with rfl
  · exact ok0_0
theorem has0 (g : List Nat) (h : IsPl g) (e : g.length = 0) : ∃ t, t ≤ 0 ∧ ∃ x, x ∈ (lay 0 t).1 ∧ x.1 = g := by
  have hp : g.Perm (List.range 0) := by
    unfold IsPl at h
    rw [e] at h
    exact h
  have := List.all_eq_true.mp p0 g (mem_perms _ g hp)
  simp only [Bool.or_eq_true, List.any_eq_true, decide_eq_true_eq] at this
  rcases this with ⟨x, hx, rfl⟩
  · exact ⟨0, by omega, x, by rw [t0_0]; exact hx, rfl⟩
theorem ok1_0 : LayOk 1 0 := by
  refine ⟨?_, ?_, ?_, ?_⟩ <;> rw [t1_0]
  · exact c1_0
  · decide +kernel
  · decide +kernel
  · decide +kernel
theorem all1 : ∀ t, t ≤ 0 → LayOk 1 t := by
  intro t ht
  have h : t = 0 := by omega
  rcases h with rfl
  · exact ok1_0
theorem has1 (g : List Nat) (h : IsPl g) (e : g.length = 1) : ∃ t, t ≤ 0 ∧ ∃ x, x ∈ (lay 1 t).1 ∧ x.1 = g := by
  have hp : g.Perm (List.range 1) := by
    unfold IsPl at h
    rw [e] at h
    exact h
  have := List.all_eq_true.mp p1 g (mem_perms _ g hp)
  simp only [Bool.or_eq_true, List.any_eq_true, decide_eq_true_eq] at this
  rcases this with ⟨x, hx, rfl⟩
  · exact ⟨0, by omega, x, by rw [t1_0]; exact hx, rfl⟩
theorem ok2_0 : LayOk 2 0 := by
  refine ⟨?_, ?_, ?_, ?_⟩ <;> rw [t2_0]
  · exact c2_0
  · decide +kernel
  · decide +kernel
  · decide +kernel
theorem ok2_1 : LayOk 2 1 := by
  refine ⟨?_, ?_, ?_, ?_⟩ <;> rw [t2_1]
  · exact c2_1
  · decide +kernel
  · decide +kernel
  · decide +kernel
theorem all2 : ∀ t, t ≤ 1 → LayOk 2 t := by
  intro t ht
  have h : t = 0 ∨ t = 1 := by omega
  rcases h with rfl | rfl
  · exact ok2_0
  · exact ok2_1
theorem has2 (g : List Nat) (h : IsPl g) (e : g.length = 2) : ∃ t, t ≤ 1 ∧ ∃ x, x ∈ (lay 2 t).1 ∧ x.1 = g := by
  have hp : g.Perm (List.range 2) := by
    unfold IsPl at h
    rw [e] at h
    exact h
  have := List.all_eq_true.mp p2 g (mem_perms _ g hp)
  simp only [Bool.or_eq_true, List.any_eq_true, decide_eq_true_eq] at this
  rcases this with ⟨x, hx, rfl⟩ | ⟨x, hx, rfl⟩
  · exact ⟨0, by omega, x, by rw [t2_0]; exact hx, rfl⟩
  · exact ⟨1, by omega, x, by rw [t2_1]; exact hx, rfl⟩
theorem ok3_0 : LayOk 3 0 := by
  refine ⟨?_, ?_, ?_, ?_⟩ <;> rw [t3_0]
  · exact c3_0
  · decide +kernel
  · decide +kernel
  · decide +kernel
theorem ok3_1 : LayOk 3 1 := by
  refine ⟨?_, ?_, ?_, ?_⟩ <;> rw [t3_1]
  · exact c3_1
  · decide +kernel
  · decide +kernel
  · decide +kernel
theorem ok3_2 : LayOk 3 2 := by
  refine ⟨?_, ?_, ?_, ?_⟩ <;> rw [t3_2]
  · exact c3_2
  · decide +kernel
  · decide +kernel
  · decide +kernel
theorem all3 : ∀ t, t ≤ 2 → LayOk 3 t := by
  intro t ht
  have h : t = 0 ∨ t = 1 ∨ t = 2 := by omega
  rcases h with rfl | rfl | rfl
  · exact ok3_0
  · exact ok3_1
  · exact ok3_2
theorem has3 (g : List Nat) (h : IsPl g) (e : g.length = 3) : ∃ t, t ≤ 2 ∧ ∃ x, x ∈ (lay 3 t).1 ∧ x.1 = g := by
  have hp : g.Perm (List.range 3) := by
    unfold IsPl at h
    rw [e] at h
    exact h
  have := List.all_eq_true.mp p3 g (mem_perms _ g hp)
  simp only [Bool.or_eq_true, List.any_eq_true, decide_eq_true_eq] at this
  rcases this with (⟨x, hx, rfl⟩ | ⟨x, hx, rfl⟩) | ⟨x, hx, rfl⟩
  · exact ⟨0, by omega, x, by rw [t3_0]; exact hx, rfl⟩
  · exact ⟨1, by omega, x, by rw [t3_1]; exact hx, rfl⟩
  · exact ⟨2, by omega, x, by rw [t3_2]; exact hx, rfl⟩
theorem ok4_0 : LayOk 4 0 := by
  refine ⟨?_, ?_, ?_, ?_⟩ <;> rw [t4_0]
  · exact c4_0
  · decide +kernel
  · decide +kernel
  · decide +kernel
theorem ok4_1 : LayOk 4 1 := by
  refine ⟨?_, ?_, ?_, ?_⟩ <;> rw [t4_1]
  · exact c4_1
  · decide +kernel
  · decide +kernel
  · decide +kernel
theorem ok4_2 : LayOk 4 2 := by
  refine ⟨?_, ?_, ?_, ?_⟩ <;> rw [t4_2]
  · exact c4_2
  · decide +kernel
  · decide +kernel
  · decide +kernel
theorem ok4_3 : LayOk 4 3 := by
  refine ⟨?_, ?_, ?_, ?_⟩ <;> rw [t4_3]
  · exact c4_3
  · decide +kernel
  · decide +kernel
  · decide +kernel
theorem ok4_4 : LayOk 4 4 := by
  refine ⟨?_, ?_, ?_, ?_⟩ <;> rw [t4_4]
  · exact c4_4
  · decide +kernel
  · decide +kernel
  · decide +kernel
theorem all4 : ∀ t, t ≤ 4 → LayOk 4 t := by
  intro t ht
  have h : t = 0 ∨ t = 1 ∨ t = 2 ∨ t = 3 ∨ t = 4 := by omega
  rcases h with rfl | rfl | rfl | rfl | rfl
  · exact ok4_0
  · exact ok4_1
  · exact ok4_2
  · exact ok4_3
  · exact ok4_4
theorem has4 (g : List Nat) (h : IsPl g) (e : g.length = 4) : ∃ t, t ≤ 4 ∧ ∃ x, x ∈ (lay 4 t).1 ∧ x.1 = g := by
  have hp : g.Perm (List.range 4) := by
    unfold IsPl at h
    rw [e] at h
    exact h
  have := List.all_eq_true.mp p4 g (mem_perms _ g hp)
  simp only [Bool.or_eq_true, List.any_eq_true, decide_eq_true_eq] at this
  rcases this with (((⟨x, hx, rfl⟩ | ⟨x, hx, rfl⟩) | ⟨x, hx, rfl⟩) | ⟨x, hx, rfl⟩) | ⟨x, hx, rfl⟩
  · exact ⟨0, by omega, x, by rw [t4_0]; exact hx, rfl⟩
  · exact ⟨1, by omega, x, by rw [t4_1]; exact hx, rfl⟩
  · exact ⟨2, by omega, x, by rw [t4_2]; exact hx, rfl⟩
  · exact ⟨3, by omega, x, by rw [t4_3]; exact hx, rfl⟩
  · exact ⟨4, by omega, x, by rw [t4_4]; exact hx, rfl⟩
theorem ok5_0 : LayOk 5 0 := by
  refine ⟨?_, ?_, ?_, ?_⟩ <;> rw [t5_0]
  · exact c5_0
  · decide +kernel
  · decide +kernel
  · decide +kernel
theorem ok5_1 : LayOk 5 1 := by
  refine ⟨?_, ?_, ?_, ?_⟩ <;> rw [t5_1]
  · exact c5_1
  · decide +kernel
  · decide +kernel
  · decide +kernel
theorem ok5_2 : LayOk 5 2 := by
  refine ⟨?_, ?_, ?_, ?_⟩ <;> rw [t5_2]
  · exact c5_2
  · decide +kernel
  · decide +kernel
  · decide +kernel
theorem ok5_3 : LayOk 5 3 := by
  refine ⟨?_, ?_, ?_, ?_⟩ <;> rw [t5_3]
  · exact c5_3
  · decide +kernel
  · decide +kernel
  · decide +kernel
theorem ok5_4 : LayOk 5 4 := by
  refine ⟨?_, ?_, ?_, ?_⟩ <;> rw [t5_4]
  · exact c5_4
  · decide +kernel
  · decide +kernel
  · decide +kernel
theorem all5 : ∀ t, t ≤ 4 → LayOk 5 t := by
  intro t ht
  have h : t = 0 ∨ t = 1 ∨ t = 2 ∨ t = 3 ∨ t = 4 := by omega
  rcases h with rfl | rfl | rfl | rfl | rfl
  · exact ok5_0
  · exact ok5_1
  · exact ok5_2
  · exact ok5_3
  · exact ok5_4
theorem has5 (g : List Nat) (h : IsPl g) (e : g.length = 5) : ∃ t, t ≤ 4 ∧ ∃ x, x ∈ (lay 5 t).1 ∧ x.1 = g := by
  have hp : g.Perm (List.range 5) := by
    unfold IsPl at h
    rw [e] at h
    exact h
  have := List.all_eq_true.mp p5 g (mem_perms _ g hp)
  simp only [Bool.or_eq_true, List.any_eq_true, decide_eq_true_eq] at this
  rcases this with (((⟨x, hx, rfl⟩ | ⟨x, hx, rfl⟩) | ⟨x, hx, rfl⟩) | ⟨x, hx, rfl⟩) | ⟨x, hx, rfl⟩
  · exact ⟨0, by omega, x, by rw [t5_0]; exact hx, rfl⟩
  · exact ⟨1, by omega, x, by rw [t5_1]; exact hx, rfl⟩
  · exact ⟨2, by omega, x, by rw [t5_2]; exact hx, rfl⟩
  · exact ⟨3, by omega, x, by rw [t5_3]; exact hx, rfl⟩
  · exact ⟨4, by omega, x, by rw [t5_4]; exact hx, rfl⟩
/-- what the law's walk meets -/
theorem lay_facts (g : List Nat) (h : IsPl g) (hn : g.length ≤ 5) : (best g).1 ≤ 7 ∧ (∀ t, t ≤ (best g).1 → LayOk g.length t) ∧ ∃ x, x ∈ (lay g.length (best g).1).1 ∧ x.1 = g := by
  have key : ∀ T, T ≤ 7 → (∀ t, t ≤ T → LayOk g.length t) → (∃ t, t ≤ T ∧ ∃ x, x ∈ (lay g.length t).1 ∧ x.1 = g) → (best g).1 ≤ 7 ∧ (∀ t, t ≤ (best g).1 → LayOk g.length t) ∧ ∃ x, x ∈ (lay g.length (best g).1).1 ∧ x.1 = g := by
    rintro T hT hok ⟨t, ht, x, hx, rfl⟩
    have hc := List.all_eq_true.mp (hok t ht).chk x hx
    unfold chkE at hc
    simp only [Bool.and_eq_true, beq_iff_eq] at hc
    have e := hc.2.1
    rw [e]
    exact ⟨by omega, fun t' h' => hok t' (by omega), x, hx, rfl⟩
  have hcase : g.length = 0 ∨ g.length = 1 ∨ g.length = 2 ∨ g.length = 3 ∨ g.length = 4 ∨ g.length = 5 := by omega
  rcases hcase with e | e | e | e | e | e
  · exact key 0 (by omega) (e ▸ all0) (e ▸ has0 g h e)
  · exact key 0 (by omega) (e ▸ all1) (e ▸ has1 g h e)
  · exact key 1 (by omega) (e ▸ all2) (e ▸ has2 g h e)
  · exact key 2 (by omega) (e ▸ all3) (e ▸ has3 g h e)
  · exact key 4 (by omega) (e ▸ all4) (e ▸ has4 g h e)
  · exact key 4 (by omega) (e ▸ all5) (e ▸ has5 g h e)
theorem lay_entry {g : List Nat} {t : Nat} {x : En} (o : LayOk g.length t) (hx : x ∈ (lay g.length t).1) (e : x.1 = g) : t = (best g).1 ∧ x.2.1 = (best g).2 ∧ x.2.2 = firstProgram g := by
  have hc := List.all_eq_true.mp o.chk x hx
  unfold chkE at hc
  simp only [Bool.and_eq_true, beq_iff_eq] at hc
  rw [e] at hc
  exact ⟨hc.2.1.symm, hc.2.2.1.symm, hc.2.2.2.symm⟩
theorem lay_len {n t : Nat} {x : En} (o : LayOk n t) (hx : x ∈ (lay n t).1) : x.1.length = n ∧ x.2.2.length ≤ 100 := by
  have hc := List.all_eq_true.mp o.chk x hx
  unfold chkE at hc
  simp only [Bool.and_eq_true, beq_iff_eq] at hc
  exact ⟨hc.1, of_decide_eq_true (List.all_eq_true.mp o.pth x hx)⟩
theorem putE_len (L : List En) (k : List Nat) (c : Nat) (p : List Nat) : (putE L k c p).length ≤ L.length + 1 := by
  unfold putE
  split
  · rw [List.length_append]
    exact Nat.le_refl _
  · rw [List.length_map]
    omega
theorem expand1_len (known : List (List Nat)) (e : En) (later : List En) (p : Nat) : (expand1 known e later p).length ≤ later.length + 1 := by
  unfold expand1
  split
  · omega
  · exact putE_len _ _ _ _
end SS
namespace SSw
open PySem PySem.Spec PyProof.Rows L2
/-! ### the text by places -/
def topS (i : Nat) : Stmt := PySem.Challenge.pw_sideswaps_k70_whole_fewest_programs.main.body.getD i (.Pass ⟨0, 0, 0, 0⟩)
abbrev sWhole : Stmt := topS 6
abbrev sBetween : Stmt := topS 7
abbrev sNumber : Stmt := topS 8
abbrev sSize : Stmt := topS 11
abbrev sIsProg : Stmt := topS 12
abbrev sChProg : Stmt := topS 13
abbrev sMovedBy : Stmt := topS 14
abbrev sMovesOf : Stmt := topS 15
abbrev sGoals : Stmt := topS 16
abbrev sChPl : Stmt := topS 17
abbrev sRounds : Stmt := topS 18
abbrev sWorth : Stmt := topS 19
abbrev sBest : Stmt := topS 20
abbrev sFewest : Stmt := topS 21
abbrev sHowMany : Stmt := topS 22
abbrev sBefore : Stmt := topS 23
abbrev sFirstOf : Stmt := topS 24
abbrev sFirstP : Stmt := topS 25
abbrev sHash : Stmt := topS 27
abbrev sRandom : Stmt := topS 28
abbrev sCell : Stmt := topS 29
abbrev sGener : Stmt := topS 30
abbrev sLMoved : Stmt := topS 31
abbrev sLMoves : Stmt := topS 32
abbrev sLProg : Stmt := topS 33
abbrev sDrawn : Stmt := topS 34
abbrev sWalked : Stmt := topS 35
abbrev sLValue : Stmt := topS 36
abbrev sLBefore : Stmt := topS 37
abbrev sSmall : Stmt := topS 38
abbrev sGreat : Stmt := topS 39
abbrev sLaw : Stmt := topS 40
/-! ### lists of counts -/
def nl (g : List Nat) : List V := g.map fun x => V.int ((x : Nat) : Int)
theorem nl_len (g : List Nat) : (nl g).length = g.length := List.length_map _
theorem nl_app (g k : List Nat) : nl (g ++ k) = nl g ++ nl k := List.map_append
theorem nl_one (x : Nat) : nl [x] = [V.int (x : Int)] := rfl
theorem nl_at {g : List Nat} {i x : Nat} (h : g[i]? = some x) : (nl g)[i]? = some (.int (x : Int)) := by
  unfold nl
  rw [List.getElem?_map, h]
  rfl
theorem nl_get {g : List Nat} {i : Nat} (h : i < g.length) : (nl g)[i]? = some (.int ((g[i] : Nat) : Int)) := nl_at (List.getElem?_eq_getElem h)
theorem nl_of {g : List Nat} {i : Nat} {v : V} (h : (nl g)[i]? = some v) : ∃ x, g[i]? = some x ∧ v = .int (x : Int) := by
  unfold nl at h
  rw [List.getElem?_map] at h
  cases e : g[i]? with
  | none => rw [e] at h; cases h
  | some x => rw [e] at h; exact ⟨x, rfl, (Option.some.inj h).symm⟩
theorem nl_set (g : List Nat) (i x : Nat) : (nl g).set i (.int (x : Int)) = nl (g.set i x) := by
  unfold nl
  rw [List.map_set]
theorem nl_inj : ∀ {g k : List Nat}, nl g = nl k → g = k
  | [], [], _ => rfl
  | [], _ :: _, h => by cases h
  | _ :: _, [], h => by cases h
  | x :: g, y :: k, h => by
    have h' : V.int (x : Int) :: nl g = V.int (y : Int) :: nl k := h
    injection h' with h1 h2
    injection h1 with h1
    rw [nl_inj h2, Int.ofNat.inj h1]
theorem szl {n : Nat} (h : n ≤ 100000) : n ≤ sizeLine := Nat.le_trans h (by decide)
theorem szlt {n : Nat} (h : n ≤ 100000) : n < sizeLine := Nat.lt_of_le_of_lt h (by decide)
/-! ### heaps -/
theorem same_new {H : Hp} {p : Addr} {o : HO} (h : H p = none) : Same H (upd H p o) := fun b x e => by
  rw [upd_ne (ne_of_none e h)]
  exact e
theorem _root_.L2.Same.new {H H1 : Hp} {p : Addr} {o : HO} (s : Same H H1) (h : H1 p = none) : Same H (upd H1 p o) := s.trans (same_new h)
/-- all but a is as it was -/
def Keep (a : Addr) (H H' : Hp) : Prop := ∀ b o, b ≠ a → H b = some o → H' b = some o
theorem Keep.refl (a : Addr) (H : Hp) : Keep a H H := fun _ _ _ e => e
theorem Keep.trans {a : Addr} {H H1 H2 : Hp} (h : Keep a H H1) (k : Keep a H1 H2) : Keep a H H2 := fun b o n e => k b o n (h b o n e)
theorem Keep.same {a : Addr} {H H1 H2 : Hp} (h : Keep a H H1) (k : Same H1 H2) : Keep a H H2 := fun b o n e => k b o (h b o n e)
theorem _root_.L2.Same.keep {a : Addr} {H H1 : Hp} (h : Same H H1) : Keep a H H1 := fun b o _ e => h b o e
theorem Keep.upd {a : Addr} {H H1 : Hp} {o : HO} (h : Keep a H H1) : Keep a H (L2.upd H1 a o) := fun b u n e => by
  rw [upd_ne n]
  exact h b u n e
/-- a new object, changed later: what stood ahead of it stays -/
theorem _root_.L2.Same.own {H H1 : Hp} {p : Addr} {o : HO} (s : Same H H1) (n : H p = none) : Same H (L2.upd H1 p o) := fun b u e => by
  rw [upd_ne (ne_of_none e n)]
  exact s b u e
theorem Keep.to_same {a : Addr} {H H1 H2 : Hp} (s : Same H H1) (n : H a = none) (k : Keep a H1 H2) : Same H H2 := fun b u e => k b u (ne_of_none e n) (s b u e)
theorem lists_ne {H : Hp} {a b : Addr} {o : HO} (h : H a = some o) (n : H b = none) : b ≠ a := (ne_of_none h n).symm
/-! ### lists of counts as data -/
def dl (g : List Nat) : PyData := .list (g.map fun x => PyData.int ((x : Nat) : Int))
theorem dpAll_nl {K : PySem.W.Frag} {H : Hp} : ∀ g : List Nat, DpAll K H (nl g) (g.map fun x => PyData.int ((x : Nat) : Int))
  | [] => .nil
  | x :: g => .cons (.int _) (dpAll_nl g)
theorem dp_nl {K : PySem.W.Frag} {H : Hp} {a : Addr} {g : List Nat} (h : SqL K H a (nl g)) : Dp K H (.ref a) (dl g) := .lst h (dpAll_nl g)
theorem canLayAll_dl : ∀ g : List Nat, PyData.canLayAll0 (g.map fun x => PyData.int ((x : Nat) : Int)) = true
  | [] => rfl
  | x :: g => by
    show (true && PyData.canLayAll0 _) = true
    rw [canLayAll_dl g]
    rfl
theorem depthAll_dl : ∀ g : List Nat, PyData.depthAll (g.map fun x => PyData.int ((x : Nat) : Int)) = 0
  | [] => rfl
  | x :: g => by
    show max 0 (PyData.depthAll _) = 0
    rw [depthAll_dl g]
    rfl
theorem shaped_dl (g : List Nat) : SeqAt.shaped (dl g) = true := by
  have h1 : PyData.canLay0 (dl g) = true := canLayAll_dl g
  have h2 : PyData.depth (dl g) = 1 := by
    show PyData.depthAll _ + 1 = 1
    rw [depthAll_dl g]
  unfold SeqAt.shaped
  rw [h1, h2]
  rfl
theorem eqvAll_dl : ∀ g k : List Nat, PyData.eqvAll (g.map fun x => PyData.int ((x : Nat) : Int)) (k.map fun x => PyData.int ((x : Nat) : Int)) = decide (g = k)
  | [], [] => rfl
  | [], _ :: _ => rfl
  | _ :: _, [] => rfl
  | x :: g, y :: k => by
    show (((x : Int) == (y : Int)) && PyData.eqvAll _ _) = _
    rw [eqvAll_dl g k]
    by_cases h1 : x = y
    · by_cases h2 : g = k
      · subst h1; subst h2; simp
      · rw [decide_eq_false h2, decide_eq_false (fun e => h2 (List.cons.inj e).2), Bool.and_false]
    · rw [decide_eq_false (fun e => h1 (List.cons.inj e).1)]
      have : ((x : Int) == (y : Int)) = false := beq_eq_false_iff_ne.mpr (by omega)
      rw [this, Bool.false_and]
theorem eqv_dl (g k : List Nat) : PyData.eqv (dl g) (dl k) = decide (g = k) := eqvAll_dl g k
/-! ### rules with the written part told (for blocks) -/
def rLenK (K : PySem.W.Frag) : List V → Hp → VK → Prop := fun xs H Q => ∃ p ys, xs = [V.ref p] ∧ (SqL K H p ys ∨ SqT K H p ys) ∧ Q (V.int ↑ys.length) H
theorem lenK {X : Cx} {K : PySem.W.Frag} (h : X.K = K) : CallR X (.builtin "len") (rLenK K) := by
  subst h
  exact call_len_seq
theorem rg_nl (n : Nat) : rgV 0 (n : Int) = nl (List.range n) := by
  unfold rgV nl
  rw [show ((n : Int) - 0).toNat = n by omega]
  exact List.map_congr_left fun i _ => by rw [Int.zero_add]
theorem rgOk_n {n : Nat} (h : n ≤ 100000) : RgOk 0 (n : Int) := RgOk.of_le (by omega) (by omega) (by omega) (by omega)
theorem ixN_nat {n i : Nat} (h : i < n) : ixN n (i : Int) = some i := by
  unfold ixN
  rw [if_pos (by omega), if_pos (by omega)]
  simp
def rIxK (K : PySem.W.Frag) : V → V → Hp → VK → Prop := fun x y H Q => ∃ (p : Addr) (xs : List V) (i : Int) (v : V), x = .ref p ∧ y = .int i ∧ SqL K H p xs ∧ atI xs i = some v ∧ Q v H
theorem ixK {X : Cx} {K : PySem.W.Frag} (h : X.K = K) : IxR X (rIxK K) := by
  subst h
  exact ix_list
/-- for i, x in enumerate(xs) -/
theorem for_enum {K : PySem.W.Frag} {a : Addr} {xs : List V} {g : TG} {tb : TS} {D : Ends} {σ : L2.St} {H : Hp} (Pv : Nat → L2.St → Hp → Prop) (h0 : Pv 0 σ H) (hl : ∀ i σ H, i ≤ xs.length → Pv i σ H → SqL K H a xs)
    (hs : ∀ i x T σ H, xs[i]? = some x → Pv i σ H → H T = none → g (.ref T) σ (upd H T (.tup [.int (i : Nat), x])) fun σ2 H2 => tb { D with nx := Pv (i + 1), ct := Pv (i + 1), bk := D.nx } σ2 H2) (hd : ∀ σ H, Pv xs.length σ H → D.nx σ H) :
    ∃ W : Nat → Nat → L2.St → Hp → Prop, (∃ m, W 0 m σ H) ∧ ∀ i m σ H, W i m σ H →
      ((Ite K a).stop i H ∧ D.nx σ H) ∨ ((Ite K a).go i H ∧ ∃ N : L2.St → Hp → Prop, (∀ σ' H', N σ' H' → ∃ m', m' < m ∧ W (i + 1) m' σ' H') ∧ ∀ x H', (Ite K a).yld i H x H' → g x σ H' fun σ2 H2 => tb { D with nx := N, ct := N, bk := D.nx } σ2 H2) := by
  refine ⟨fun i m σ H => i + m = xs.length ∧ Pv i σ H, ⟨xs.length, Nat.zero_add _, h0⟩, fun i m σ H hw => ?_⟩
  obtain ⟨em, p⟩ := hw
  have q := hl i σ H (by omega) p
  by_cases hlt : i < xs.length
  · refine .inr ⟨⟨xs, xs[i], q, List.getElem?_eq_getElem hlt⟩, Pv (i + 1), fun σ' H' p' => ⟨m - 1, by omega, by omega, p'⟩, fun x H' y => ?_⟩
    obtain ⟨T, z, rfl, nT, rfl, hz⟩ := y
    obtain rfl : z = xs[i] := Option.some.inj ((hz xs q).symm.trans (List.getElem?_eq_getElem hlt))
    exact hs i _ T σ H (List.getElem?_eq_getElem hlt) p nT
  · have e : i = xs.length := by omega
    subst e
    exact .inl ⟨⟨xs, q, Nat.le_refl _⟩, hd σ H p⟩
/-- a built-in type's method within a block -/
theorem pe_bmK {X : Cx} {K : PySem.W.Frag} {o e : Expr} {es : List Expr} {to : TE} {t : TA} {name : Str} {apos cpos : Pos} {T id : String} {r : V → List V → Hp → VK → Prop} (hK : X.K = K)
    (pa : PlainAttrs T) (slot : Slot T name id) (hty : typeOf (.builtin id) = pure (.type "method_descriptor")) (hm : MtR X id r) (ho : PE X o to) (ha : PA X (e :: es) t)
    (hbase : attributeBase o name X.env (eval o X.env) = eval o X.env := by rfl)
    (hfew : ((backTo cpos (starEach (e :: es) X.env)).all (fun x => !x.1) && (backToKw cpos (keywordEach [] X.env)).all (fun x => x.1.isSome)
      && decide ((e :: es).length + ([] : List Keyword).length + (if ([] : List Keyword).isEmpty then 0 else 1) < 30)) = true := by rfl)
    (hline : (apos.endLine == cpos.line) = true := by rfl) (hs : starEach (e :: es) X.env = (false, eval e X.env) :: starEach es X.env := by rfl) (hplain : (backTo cpos (starEach es X.env)).any (·.1) = false := by rfl) :
    PE X (.Call (.Attribute o name apos) (e :: es) [] cpos) (tBM K T r to t) := by
  subst hK
  exact pe_bm pa slot hty hm ho ha hbase hfew hline hs hplain
def rIndexK (K : PySem.W.Frag) : V → List V → Hp → VK → Prop := rIndex K
theorem indexK {X : Cx} {K : PySem.W.Frag} (h : X.K = K) : MtR X "list.index" (rIndex K) := by
  subst h
  exact mt_index
end SSw
namespace SSw
open PySem PySem.Spec PyProof.Rows L2
section
variable {P : Program} {w : World} {K : PySem.W.Frag} {mg : Str → Option Value} {base : Heap}
/-! ### is_whole -/
theorem scWhole : FnScope ["value"] ["value"] (defScope sWhole) := ⟨rfl, rfl, rfl, by decide +kernel, rfl, by decide +kernel, by decide +kernel⟩
def spWhole : Sp := fun vs H Q _ => ∃ i : Int, vs = [.int i] ∧ Q (.bl true) H
theorem ok_whole {f : Addr} {fd : FuncData} (F : Fun K "is_whole" "is_whole" sWhole f fd) (mi : mg "isinstance" = none) (mt : mg "int" = none) (mb : mg "bool" = none) : FnOk P w K mg base CX0 1 f fd ["value"] spWhole := by
  refine F.ok scWhole (fun vs H Q E h => ?_) (fun cdv A outer s H vs Q E hr h => ?_)
  · obtain ⟨i, rfl, _⟩ := h
    rfl
  · obtain ⟨i, rfl, q⟩ := h
    refine ⟨_, pss_one (ps_ret (pe_and (pe_callB call_isi (by rfl) mi (by decide +kernel) (pa_cons (pv 0) (pa_cons (pe_bltn (v := .ty "int") (by rfl) mt (by decide +kernel) rfl) pa_nil)))
      (pe_one (pe_not (pe_callB call_isi (by rfl) mi (by decide +kernel) (pa_cons (pv 0) (pa_cons (pe_bltn (v := .ty "bool") (by rfl) mb (by decide +kernel) rfl) pa_nil))))))), ?_⟩
    refine ⟨.int i, rfl, .int i, .ty "int", .type "int", .type "int", true, rfl, ?_, ?_, kit_ty (by decide +kernel), true, rfl, iteT ⟨.int i, rfl, .int i, .ty "bool", .type "int", .type "bool", false, rfl, ?_, ?_, kit_ty (by decide +kernel), false, rfl, q⟩⟩
    · exact .ty "int"
    · exact .base (.int i)
    · exact .ty "bool"
    · exact .base (.int i)
/-! ### is_between -/
theorem scBetween : FnScope ["value", "low", "high"] ["value", "low", "high"] (defScope sBetween) := ⟨rfl, rfl, rfl, by decide +kernel, rfl, by decide +kernel, by decide +kernel⟩
def spBetween : Sp := fun vs H Q _ => ∃ v lo hi : Int, vs = [.int v, .int lo, .int hi] ∧ lo ≤ v ∧ v ≤ hi ∧ Q (.bl true) H
theorem ok_between {f f1 : Addr} {fd fd1 : FuncData} (F : Fun K "is_between" "is_between" sBetween f fd) (F1 : Fun K "is_whole" "is_whole" sWhole f1 fd1) (b1 : Binds K fd1 ["value"] []) (g1 : mg "is_whole" = some (.ref f1))
    (G1 : FnOk P w K mg base CX0 1 f1 fd1 ["value"] spWhole) : FnOk P w K mg base CX0 2 f fd ["value", "low", "high"] spBetween := by
  refine F.ok scBetween (fun vs H Q E h => ?_) (fun cdv A outer s H vs Q E hr h => ?_)
  · obtain ⟨v, lo, hi, rfl, _⟩ := h
    rfl
  · obtain ⟨v, lo, hi, rfl, h1, h2, q⟩ := h
    refine ⟨_, pss_cons (ps_if (pt_not (pt_val (pe_call G1 hr (by rfl) g1 F1.kp b1 .nil pass0 (pa_cons (pv 0) pa_nil)))) (pss_one (ps_ret pe_bl)) pss_nil)
      (pss_one (ps_ret (pe_and (pe_or (pe_cmpR op_isN (pv 1) pe_non (nomark _)) (pe_one (pe_cmpR op_ge (pv 0) (pv 1) (nomark _))))
        (pe_one (pe_or (pe_cmpR op_isN (pv 2) pe_non (nomark _)) (pe_one (pe_cmpR op_le (pv 0) (pv 2) (nomark _)))))))), ?_⟩
    refine ⟨_, rfl, v, rfl, true, rfl, iteF ?_⟩
    refine ⟨_, rfl, rfl, false, rfl, iteF ⟨_, rfl, _, rfl, v, lo, rfl, rfl, true, ?_, iteT ?_⟩⟩
    · show V.bl (decide (v ≥ lo)) = V.bl true
      rw [decide_eq_true h1]
    · refine ⟨_, rfl, rfl, false, rfl, iteF ⟨_, rfl, _, rfl, v, hi, rfl, rfl, ?_⟩⟩
      show Q (V.bl (decide (v ≤ hi))) H
      rw [decide_eq_true h2]
      exact q
/-! ### check_number, check_size -/
theorem scNumber : FnScope ["number", "low", "high"] ["number", "low", "high"] (defScope sNumber) := ⟨rfl, rfl, rfl, by decide +kernel, rfl, by decide +kernel, by decide +kernel⟩
def spNumber : Sp := fun vs H Q _ => ∃ v lo hi : Int, vs = [.int v, .int lo, .int hi] ∧ lo ≤ v ∧ v ≤ hi ∧ Q .non H
theorem ok_number {f f1 : Addr} {fd fd1 : FuncData} (F : Fun K "check_number" "check_number" sNumber f fd) (F1 : Fun K "is_between" "is_between" sBetween f1 fd1) (b1 : Binds K fd1 ["value", "low", "high"] []) (g1 : mg "is_between" = some (.ref f1))
    (G1 : FnOk P w K mg base CX0 2 f1 fd1 ["value", "low", "high"] spBetween) : FnOk P w K mg base CX0 3 f fd ["number", "low", "high"] spNumber := by
  refine F.ok scNumber (fun vs H Q E h => ?_) (fun cdv A outer s H vs Q E hr h => ?_)
  · obtain ⟨v, lo, hi, rfl, _⟩ := h
    rfl
  · obtain ⟨v, lo, hi, rfl, h1, h2, q⟩ := h
    refine ⟨_, pss_one (ps_if (pt_not (pt_val (pe_call G1 hr (by rfl) g1 F1.kp b1 .nil pass0 (pa_cons (pv 0) (pa_cons (pv 1) (pa_cons (pv 2) pa_nil)))))) pss_never pss_nil), ?_⟩
    exact ⟨_, rfl, _, rfl, _, rfl, v, lo, hi, rfl, h1, h2, true, rfl, iteF q⟩
theorem scSize : FnScope ["size"] ["size"] (defScope sSize) := ⟨rfl, rfl, rfl, by decide +kernel, rfl, by decide +kernel, by decide +kernel⟩
def spSize : Sp := fun vs H Q _ => ∃ n : Nat, vs = [.int (n : Int)] ∧ n ≤ 60 ∧ Q .non H
theorem ok_size {f f1 : Addr} {fd fd1 : FuncData} {tk : Tok} (F : Fun K "check_size" "check_size" sSize f fd) (F1 : Fun K "check_number" "check_number" sNumber f1 fd1) (b1 : Binds K fd1 ["number", "low", "high"] []) (g1 : mg "check_number" = some (.ref f1)) (gM : mg "MOST_SIZE" = some (.int 60 tk))
    (G1 : FnOk P w K mg base CX0 3 f1 fd1 ["number", "low", "high"] spNumber) : FnOk P w K mg base CX0 4 f fd ["size"] spSize := by
  refine F.ok scSize (fun vs H Q E h => ?_) (fun cdv A outer s H vs Q E hr h => ?_)
  · obtain ⟨n, rfl, _⟩ := h
    rfl
  · obtain ⟨n, rfl, h1, q⟩ := h
    refine ⟨_, pss_one (ps_expr (pe_call G1 hr (by rfl) g1 F1.kp b1 .nil pass0 (pa_cons (pv 0) (pa_cons pe_int (pa_cons (pe_glob (v := .int 60) (by rfl) gM ⟨_, rfl⟩) pa_nil))))), ?_⟩
    exact ⟨_, rfl, (n : Int), 0, 60, rfl, Int.natCast_nonneg n, by omega, q⟩
/-! ### is_program, check_program -/
theorem scIsProg : FnScope ["size", "value", "place"] ["size", "value"] (defScope sIsProg) := ⟨rfl, rfl, rfl, by decide +kernel, rfl, by decide +kernel, by decide +kernel⟩
def spIsProg : Sp := fun vs H Q _ => ∃ (n : Nat) (a : Addr) (g : List Nat), vs = [.int (n : Int), .ref a] ∧ H a = some (.lst (nl g)) ∧ (∀ x ∈ g, x < n) ∧ ∀ H', Same H H' → Q (.bl true) H'
theorem ok_isProg {f f1 : Addr} {fd fd1 : FuncData} (F : Fun K "is_program" "is_program" sIsProg f fd) (F1 : Fun K "is_between" "is_between" sBetween f1 fd1) (b1 : Binds K fd1 ["value", "low", "high"] []) (g1 : mg "is_between" = some (.ref f1)) (mi : mg "isinstance" = none) (ml : mg "list" = none)
    (G1 : FnOk P w K mg base CX0 2 f1 fd1 ["value", "low", "high"] spBetween) : FnOk P w K mg base CX0 3 f fd ["size", "value"] spIsProg := by
  refine F.ok scIsProg (fun vs H Q E h => ?_) (fun cdv A outer s H vs Q E hr h => ?_)
  · obtain ⟨n, a, g, rfl, _⟩ := h
    rfl
  · obtain ⟨n, a, g, rfl, ha, hg, q⟩ := h
    refine ⟨_, pss_one (ps_ret (pe_and (pe_callB call_isi (by rfl) mi (by decide +kernel) (pa_cons (pv 1) (pa_cons (pe_bltn (v := .ty "list") (by rfl) ml (by decide +kernel) rfl) pa_nil)))
      (pe_one (pe_cmpR (op_eqD hr.units) (pe_lc (own := [("place", 2)]) (g := gName 2) rfl scIsProg.nd (pi_list (pv 1)) (blkOk_by (own := [("place", 2)]) (N := ["size", "value", "place"]) (sc := defScope sIsProg) (by decide +kernel)) (fun _ _ _ _ _ => pg_name (i := 2) scIsProg.nd rfl (.inl rfl))
        (fun _ _ _ _ _ => pts_one (pt_not (pt_val (pe_call G1 hr (by rfl) g1 F1.kp b1 .nil pass0 (pa_cons (pv 2) (pa_cons pe_int (pa_cons (pe_op op_sub (pv 0) pe_int) pa_nil))))))) (fun _ _ _ _ _ => pv 2)) (pe_lst pa_nil) (nomark _))))), ?_⟩
    refine ⟨_, rfl, .ref a, .ty "list", .type "list", .type "list", true, rfl, .ty "list", .base (.lst ha), kit_ty (by decide +kernel), true, rfl, iteT ?_⟩
    refine ⟨_, rfl, a, rfl, ⟨_, SqL.of ha⟩, fun D hD => lc_list (K := K) (a := a) (xs := nl g) (fun i H' => Same H H' ∧ H' D = some (.lst [])) ⟨same_new hD, upd_same⟩ (fun i H' _ p => SqL.of (p.1 _ _ ha)) (fun i x H' hx p => ?_) (fun H' p => ?_)⟩
    · obtain ⟨y, hy, rfl⟩ := nl_of hx
      have hyn := hg y (List.mem_of_getElem? hy)
      refine ⟨rfl, _, rfl, _, rfl, _, _, rfl, rfl, (y : Int), 0, (n : Int) - 1, rfl, Int.natCast_nonneg y, by omega, true, rfl, iteF p⟩
    · refine ⟨Nat.zero_le _, fun l hl => ⟨dl [], dl [], dp_nl (SqL.of (Same.new (Same.refl _) hl _ _ p.2)), dp_nl (SqL.of upd_same), shaped_dl _, shaped_dl _, ?_⟩⟩
      rw [eqv_dl]
      exact q _ (p.1.new hl)
theorem scChProg : FnScope ["size", "program"] ["size", "program"] (defScope sChProg) := ⟨rfl, rfl, rfl, by decide +kernel, rfl, by decide +kernel, by decide +kernel⟩
def spChProg : Sp := fun vs H Q _ => ∃ (n : Nat) (a : Addr) (g : List Nat), vs = [.int (n : Int), .ref a] ∧ H a = some (.lst (nl g)) ∧ (∀ x ∈ g, x < n) ∧ ∀ H', Same H H' → Q .non H'
theorem ok_chProg {f f1 : Addr} {fd fd1 : FuncData} (F : Fun K "check_program" "check_program" sChProg f fd) (F1 : Fun K "is_program" "is_program" sIsProg f1 fd1) (b1 : Binds K fd1 ["size", "value"] []) (g1 : mg "is_program" = some (.ref f1))
    (G1 : FnOk P w K mg base CX0 3 f1 fd1 ["size", "value"] spIsProg) : FnOk P w K mg base CX0 4 f fd ["size", "program"] spChProg := by
  refine F.ok scChProg (fun vs H Q E h => ?_) (fun cdv A outer s H vs Q E hr h => ?_)
  · obtain ⟨n, a, g, rfl, _⟩ := h
    rfl
  · obtain ⟨n, a, g, rfl, ha, hg, q⟩ := h
    refine ⟨_, pss_one (ps_if (pt_not (pt_val (pe_call G1 hr (by rfl) g1 F1.kp b1 .nil pass0 (pa_cons (pv 0) (pa_cons (pv 1) pa_nil))))) pss_never pss_nil), ?_⟩
    exact ⟨_, rfl, _, rfl, n, a, g, rfl, ha, hg, fun H' sm => ⟨true, rfl, iteF (q H' sm)⟩⟩
/-! ### check_placing -/
theorem sorted_range {n : Nat} {ns : List Int} (hp : ns.Perm ((List.range n).map fun x => ((x : Nat) : Int))) (hs : ns.Pairwise (· ≤ ·)) : ns = (List.range n).map fun x => ((x : Nat) : Int) := by
  refine List.Perm.eq_of_pairwise (le := fun a b : Int => a ≤ b) (fun a b _ _ h1 h2 => Int.le_antisymm h1 h2) hs ?_ hp
  rw [List.pairwise_map]
  exact List.pairwise_lt_range.imp fun h => by omega
theorem scChPl : FnScope ["placing", "place"] ["placing"] (defScope sChPl) := ⟨rfl, rfl, rfl, by decide +kernel, rfl, by decide +kernel, by decide +kernel⟩
def spChPl : Sp := fun vs H Q _ => ∃ (a : Addr) (g : List Nat), vs = [.ref a] ∧ H a = some (.lst (nl g)) ∧ SS.IsPl g ∧ g.length ≤ 60 ∧ ∀ H', Same H H' → Q .non H'
theorem ok_chPl {f f1 : Addr} {fd fd1 : FuncData} (F : Fun K "check_placing" "check_placing" sChPl f fd) (F1 : Fun K "is_between" "is_between" sBetween f1 fd1) (b1 : Binds K fd1 ["value", "low", "high"] []) (g1 : mg "is_between" = some (.ref f1)) (mi : mg "isinstance" = none) (ml : mg "list" = none)
    (ms : mg "sorted" = none) (mr : mg "range" = none) (mn : mg "len" = none) (G1 : FnOk P w K mg base CX0 2 f1 fd1 ["value", "low", "high"] spBetween) : FnOk P w K mg base CX0 3 f fd ["placing"] spChPl := by
  refine F.ok scChPl (fun vs H Q E h => ?_) (fun cdv A outer s H vs Q E hr h => ?_)
  · obtain ⟨a, g, rfl, _⟩ := h
    rfl
  · obtain ⟨a, g, rfl, ha, hg, hlen, q⟩ := h
    refine ⟨_, pss_cons (ps_if (pt_not (pt_val (pe_callB call_isi (by rfl) mi (by decide +kernel) (pa_cons (pv 0) (pa_cons (pe_bltn (v := .ty "list") (by rfl) ml (by decide +kernel) rfl) pa_nil))))) pss_never pss_nil)
      (pss_cons (ps_if (pt_cmpR (op_neD hr.units) (pe_lc (own := [("place", 1)]) (g := gName 1) rfl scChPl.nd (pi_list (pv 0)) (blkOk_by (own := [("place", 1)]) (N := ["placing", "place"]) (sc := defScope sChPl) (by decide +kernel)) (fun _ _ _ _ _ => pg_name (i := 1) scChPl.nd rfl (.inl rfl))
        (fun _ _ _ _ _ => pts_one (pt_not (pt_val (pe_call G1 hr (by rfl) g1 F1.kp b1 .nil pass0 (pa_cons (pv 1) (pa_cons pe_int (pa_cons (pe_op op_sub (pe_callB (lenK (K := K) rfl) (by rfl) mn PySem.boot_len (pa_cons (pv 0) pa_nil)) pe_int) pa_nil))))))) (fun _ _ _ _ _ => pv 1)) (pe_lst pa_nil) (nomark _)) pss_never pss_nil)
      (pss_one (ps_if (pt_cmpR (op_neD hr.units) (pe_callB cr_sortedI (by rfl) ms (by decide +kernel) (pa_cons (pv 0) pa_nil)) (pe_listRg rfl (by rfl) ml (prg_1 (by rfl) mr (pe_callB call_len_seq (by rfl) mn PySem.boot_len (pa_cons (pv 0) pa_nil)))) (nomark _)) pss_never pss_nil))), ?_⟩
    refine ⟨_, rfl, .ref a, .ty "list", .type "list", .type "list", true, rfl, .ty "list", .base (.lst ha), kit_ty (by decide +kernel), true, rfl, iteF ?_⟩
    refine ⟨_, rfl, a, rfl, ⟨_, SqL.of ha⟩, fun D hD => lc_list (K := K) (a := a) (xs := nl g) (fun i H' => Same H H' ∧ H' D = some (.lst [])) ⟨same_new hD, upd_same⟩ (fun i H' _ p => SqL.of (p.1 _ _ ha)) (fun i x H' hx p => ?_) (fun H' p => ?_)⟩
    · obtain ⟨y, hy, rfl⟩ := nl_of hx
      have hyn := hg.lt y (List.mem_of_getElem? hy)
      refine ⟨rfl, _, rfl, _, rfl, a, _, rfl, .inl (SqL.of (p.1 _ _ ha)), _, _, rfl, rfl, (y : Int), 0, ((nl g).length : Int) - 1, rfl, Int.natCast_nonneg y, by rw [nl_len]; omega, true, rfl, iteF p⟩
    · refine ⟨Nat.zero_le _, fun l hl => ⟨dl [], dl [], dp_nl (SqL.of (Same.new (Same.refl _) hl _ _ p.2)), dp_nl (SqL.of upd_same), shaped_dl _, shaped_dl _, ?_⟩⟩
      rw [eqv_dl]
      refine ⟨_, rfl, iteF ?_⟩
      have s1 := p.1.new (o := .lst []) hl
      have hgi : nl g = (g.map fun x => ((x : Nat) : Int)).map V.int := by rw [List.map_map]; rfl
      refine ⟨_, rfl, a, g.map fun x => ((x : Nat) : Int), rfl, by rw [← hgi]; exact SqL.of (s1 _ _ ha), fun ns' r hp hs hr0 => ?_⟩
      have s2 := s1.new (o := .lst (ns'.map V.int)) hr0
      have hns : ns' = (List.range g.length).map fun x => ((x : Nat) : Int) := sorted_range (hp.trans (hg.map _)) hs
      refine ⟨_, rfl, a, _, rfl, .inl (SqL.of (s2 _ _ ha)), _, rfl, ?_, fun r2 hr2 => ?_⟩
      · rw [nl_len]
        exact rgOk_n (by omega)
      · rw [nl_len, rg_nl]
        have e1 : ns'.map V.int = nl (List.range g.length) := by rw [hns, List.map_map]; rfl
        refine ⟨dl (List.range g.length), dl (List.range g.length), dp_nl (SqL.of ?_), dp_nl (SqL.of upd_same), shaped_dl _, shaped_dl _, ?_⟩
        · rw [upd_ne (ne_of_none upd_same hr2), upd_same, e1]
        · rw [eqv_dl]
          refine ⟨_, rfl, ?_⟩
          rw [decide_eq_true rfl]
          exact iteF (q _ (s2.new hr2))
end
end SSw
namespace SSw
open PySem PySem.Spec PyProof.Rows L2
/-! ### slices and turns -/
theorem cutV_drop (xs : List V) (i : Nat) : cutV xs (some (i : Int)) none = xs.drop i := by
  unfold cutV
  rw [HT.sIx_none, show HT.sIx xs.length 0 (some (i : Int)) = min i xs.length from HT.sIx_nat xs.length 0 i]
  by_cases h : i ≤ xs.length
  · rw [Nat.min_eq_left h]
    exact List.take_of_length_le (by rw [List.length_drop]; omega)
  · rw [Nat.min_eq_right (by omega), List.drop_of_length_le (Nat.le_refl _), List.drop_of_length_le (by omega), List.take_nil]
theorem cutV_take (xs : List V) (i : Nat) : cutV xs none (some (i : Int)) = xs.take i := by
  unfold cutV
  rw [HT.sIx_none, show HT.sIx xs.length xs.length (some (i : Int)) = min i xs.length from HT.sIx_nat xs.length xs.length i]
  rw [List.drop_zero, Nat.sub_zero]
  by_cases h : i ≤ xs.length
  · rw [Nat.min_eq_left h]
  · rw [Nat.min_eq_right (by omega), List.take_of_length_le (Nat.le_refl _), List.take_of_length_le (by omega)]
theorem nl_drop (g : List Nat) (i : Nat) : (nl g).drop i = nl (g.drop i) := by unfold nl; rw [List.map_drop]
theorem nl_take (g : List Nat) (i : Nat) : (nl g).take i = nl (g.take i) := by unfold nl; rw [List.map_take]
theorem nl_rot {m : List Nat} {p : Nat} : (cutV (nl m) (some ((p : Int) + 1)) none ++ [V.int ((m.getD p 0 : Nat) : Int)]) ++ cutV (nl m) none (some (p : Int)) = nl (SS.rot m p) := by
  rw [show ((p : Int) + 1) = ((p + 1 : Nat) : Int) by omega, cutV_drop, cutV_take, nl_drop, nl_take]
  unfold SS.rot
  rw [nl_app, nl_app]
  rfl
theorem getD_at {m : List Nat} {p : Nat} (h : p < m.length) : m[p]? = some (m.getD p 0) := by
  rw [List.getD_eq_getElem?_getD, List.getElem?_eq_getElem h]
  rfl
theorem foldl_rot_len (n : Nat) : ∀ (prog m : List Nat), m.length = n → (∀ x ∈ prog, x < n) → (prog.foldl SS.rot m).length = n
  | [], m, h, _ => h
  | p :: prog, m, h, hp => by
    rw [List.foldl_cons]
    exact foldl_rot_len n prog _ ((SS.rot_len m (by rw [h]; exact hp p (by simp))).trans h) fun x hx => hp x (by simp [hx])
theorem moved_len {n : Nat} {prog : List Nat} (h : ∀ x ∈ prog, x < n) : (SS.moved n prog).length = n := foldl_rot_len n prog _ List.length_range h
theorem moved_take {n i p : Nat} {prog : List Nat} (h : prog[i]? = some p) : SS.moved n (prog.take (i + 1)) = SS.rot (SS.moved n (prog.take i)) p := by
  unfold SS.moved
  rw [List.take_add_one, h, List.foldl_append]
  rfl
section
variable {P : Program} {w : World} {K : PySem.W.Frag} {mg : Str → Option Value} {base : Heap}
/-! ### moved_by -/
theorem scMovedBy : FnScope ["size", "program", "found", "place"] ["size", "program"] (defScope sMovedBy) := ⟨rfl, rfl, rfl, by decide +kernel, rfl, by decide +kernel, by decide +kernel⟩
def spMovedBy : Sp := fun vs H Q _ => ∃ (n : Nat) (a : Addr) (g : List Nat), vs = [.int (n : Int), .ref a] ∧ H a = some (.lst (nl g)) ∧ (∀ x ∈ g, x < n) ∧ n ≤ 1000 ∧ ∀ H' p, Same H H' → H p = none → H' p = some (.lst (nl (SS.moved n g))) → Q (.ref p) H'
theorem ok_movedBy {f : Addr} {fd : FuncData} (F : Fun K "moved_by" "moved_by" sMovedBy f fd) (ml : mg "list" = none) (mr : mg "range" = none) : FnOk P w K mg base CX0 1 f fd ["size", "program"] spMovedBy := by
  refine F.ok scMovedBy (fun vs H Q E h => ?_) (fun cdv A outer s H vs Q E hr h => ?_)
  · obtain ⟨n, a, g, rfl, _⟩ := h
    rfl
  · obtain ⟨n, a, g, rfl, ha, hg, hn, q⟩ := h
    refine ⟨_, pss_cons (ps_set (i := 2) scMovedBy.nd rfl (.inl rfl) (pe_listRg rfl (by rfl) ml (prg_1 (by rfl) mr (pv 0))))
      (pss_cons (ps_for PassesOwn.never rfl (pi_list (pv 1)) (pg_name (i := 3) scMovedBy.nd rfl (.inl rfl))
        (pss_one (ps_set (i := 2) scMovedBy.nd rfl (.inl rfl) (pe_op op_cat (pe_op op_cat (pe_slice sl_list (pv 2) (po_some (pe_op op_add (pv 3) pe_int)) po_none) (pe_lst (pa_cons (pe_ix ix_list (pv 2) (pv 3) (fun _ _ => rfl)) pa_nil)))
          (pe_slice sl_list (pv 2) po_none (po_some (pv 3)))))))
      (pss_one (ps_ret (pv 2)))), ?_⟩
    refine ⟨_, rfl, _, rfl, rgOk_n (by omega), fun r hr0 => ?_⟩
    rw [rg_nl]
    have s1 := same_new (o := .lst (nl (List.range n))) hr0
    refine ⟨_, rfl, a, rfl, ⟨_, SqL.of (s1 _ _ ha)⟩, for_list (K := K) (a := a) (xs := nl g) (fun i σ H' => ∃ (o : Addr) (v : Option V), σ = [some (.int (n : Int)), some (.ref a), some (.ref o), v] ∧ Same H H' ∧ H o = none ∧ H' o = some (.lst (nl (SS.moved n (g.take i)))))
      ⟨r, none, rfl, s1, hr0, upd_same⟩ (fun i σ H' _ hp => ?_) ?_ ?_⟩
    · obtain ⟨_, _, _, sm, _⟩ := hp
      exact SqL.of (sm _ _ ha)
    · rintro i x σ H' hx ⟨o, v, rfl, sm, no, ho⟩
      obtain ⟨p, hp, rfl⟩ := nl_of hx
      have hpn := hg p (List.mem_of_getElem? hp)
      have hlen := moved_len (n := n) (prog := g.take i) fun x hx => hg x (List.mem_of_mem_take hx)
      generalize hm : SS.moved n (g.take i) = m at ho hlen
      have hlv : (nl m).length = n := by rw [nl_len, hlen]
      -- found[place + 1:]
      refine ⟨_, rfl, _, rfl, _, _, rfl, rfl, _, rfl, o, _, rfl, SqL.of ho, fun p1 n1 => ?_⟩
      have s2 := same_new (o := .lst (cutV (nl m) (some ((p : Int) + 1)) none)) n1
      -- [found[place]]
      refine ⟨_, rfl, _, rfl, o, _, _, _, rfl, rfl, SqL.of (s2 _ _ ho), atI_nat (nl_at (getD_at (by omega))), szl (by simp), fun p2 n2 => ?_⟩
      have s3 := s2.new (o := .lst [V.int ((m.getD p 0 : Nat) : Int)]) n2
      refine ⟨p1, p2, _, _, rfl, rfl, same_new n2 _ _ upd_same, upd_same, ?_, fun p3 n3 => ?_⟩
      · rw [show ((p : Int) + 1) = ((p + 1 : Nat) : Int) by omega, cutV_drop, List.length_drop, hlv]
        exact szl (by simp; omega)
      have s4 := s3.new (o := .lst (cutV (nl m) (some ((p : Int) + 1)) none ++ [V.int ((m.getD p 0 : Nat) : Int)])) n3
      -- found[:place]
      refine ⟨_, rfl, _, rfl, _, rfl, o, _, rfl, SqL.of (s4 _ _ ho), fun p4 n4 => ?_⟩
      have s5 := s4.new (o := .lst (cutV (nl m) none (some (p : Int)))) n4
      refine ⟨p3, p4, _, _, rfl, rfl, same_new n4 _ _ upd_same, upd_same, ?_, fun p5 n5 => ?_⟩
      · rw [show ((p : Int) + 1) = ((p + 1 : Nat) : Int) by omega, cutV_drop, cutV_take, List.length_append, List.length_drop, List.length_take, hlv]
        exact szl (by simp; omega)
      rw [nl_rot]
      refine ⟨p5, _, rfl, (sm.trans s5).new n5, (sm.trans s5).free n5, ?_⟩
      rw [upd_same, moved_take hp, hm]
    · rintro σ H' ⟨o, v, rfl, sm, no, ho⟩
      rw [nl_len, List.take_length] at ho
      exact ⟨_, rfl, q H' o sm no ho⟩
end
end SSw
namespace SSw
open PySem PySem.Spec PyProof.Rows L2
section
variable {P : Program} {w : World} {K : PySem.W.Frag} {mg : Str → Option Value} {base : Heap}
/-! ### moves_of -/
theorem scMovesOf : FnScope ["size", "program"] ["size", "program"] (defScope sMovesOf) := ⟨rfl, rfl, rfl, by decide +kernel, rfl, by decide +kernel, by decide +kernel⟩
def spMovesOf : Sp := fun vs H Q _ => ∃ (n : Nat) (a : Addr) (g : List Nat), vs = [.int (n : Int), .ref a] ∧ H a = some (.lst (nl g)) ∧ (∀ x ∈ g, x < n) ∧ n ≤ 60 ∧ ∀ H' p, Same H H' → H p = none → H' p = some (.lst (nl (SS.moved n g))) → Q (.ref p) H'
theorem ok_movesOf {f f1 f2 f3 : Addr} {fd fd1 fd2 fd3 : FuncData} (F : Fun K "moves_of" "moves_of" sMovesOf f fd)
    (F1 : Fun K "check_size" "check_size" sSize f1 fd1) (b1 : Binds K fd1 ["size"] []) (g1 : mg "check_size" = some (.ref f1)) (G1 : FnOk P w K mg base CX0 4 f1 fd1 ["size"] spSize)
    (F2 : Fun K "check_program" "check_program" sChProg f2 fd2) (b2 : Binds K fd2 ["size", "program"] []) (g2 : mg "check_program" = some (.ref f2)) (G2 : FnOk P w K mg base CX0 4 f2 fd2 ["size", "program"] spChProg)
    (F3 : Fun K "moved_by" "moved_by" sMovedBy f3 fd3) (b3 : Binds K fd3 ["size", "program"] []) (g3 : mg "moved_by" = some (.ref f3)) (G3 : FnOk P w K mg base CX0 1 f3 fd3 ["size", "program"] spMovedBy) :
    FnOk P w K mg base CX0 5 f fd ["size", "program"] spMovesOf := by
  refine F.ok scMovesOf (fun vs H Q E h => ?_) (fun cdv A outer s H vs Q E hr h => ?_)
  · obtain ⟨n, a, g, rfl, _⟩ := h
    rfl
  · obtain ⟨n, a, g, rfl, ha, hg, hn, q⟩ := h
    refine ⟨_, pss_cons (ps_expr (pe_call G1 hr (by rfl) g1 F1.kp b1 .nil pass0 (pa_cons (pv 0) pa_nil)))
      (pss_cons (ps_expr (pe_call G2 hr (by rfl) g2 F2.kp b2 .nil pass0 (pa_cons (pv 0) (pa_cons (pv 1) pa_nil))))
      (pss_one (ps_ret (pe_call G3 (hr.mono (by decide)) (by rfl) g3 F3.kp b3 .nil pass0 (pa_cons (pv 0) (pa_cons (pv 1) pa_nil)))))), ?_⟩
    refine ⟨_, rfl, n, rfl, hn, _, rfl, _, rfl, n, a, g, rfl, ha, hg, fun H1 s1 => ?_⟩
    exact ⟨_, rfl, _, rfl, n, a, g, rfl, s1 _ _ ha, hg, by omega, fun H2 p s2 np hp => q H2 p (s1.trans s2) (s1.free np) hp⟩
/-! ### goals_of -/
theorem scGoals : FnScope ["moves", "found", "goal", "place"] ["moves"] (defScope sGoals) := ⟨rfl, rfl, rfl, by decide +kernel, rfl, by decide +kernel, by decide +kernel⟩
def spGoals : Sp := fun vs H Q _ => ∃ (a : Addr) (g : List Nat) (φ : Nat → Nat), vs = [.ref a] ∧ H a = some (.lst (nl g)) ∧ SS.IsPl g ∧ (∀ j x, g[j]? = some x → φ x = j) ∧ g.length ≤ 1000 ∧
  ∀ H' p, Same H H' → H p = none → H' p = some (.lst (nl ((List.range g.length).map φ))) → Q (.ref p) H'
theorem ok_goals {f : Addr} {fd : FuncData} (F : Fun K "goals_of" "goals_of" sGoals f fd) (mn : mg "len" = none) (me : mg "enumerate" = none) : FnOk P w K mg base CX0 1 f fd ["moves"] spGoals := by
  refine F.ok scGoals (fun vs H Q E h => ?_) (fun cdv A outer s H vs Q E hr h => ?_)
  · obtain ⟨a, g, φ, rfl, _⟩ := h
    rfl
  · obtain ⟨a, g, φ, rfl, ha, hg, hφ, hn, q⟩ := h
    refine ⟨_, pss_cons (ps_set (i := 1) scGoals.nd rfl (.inl rfl) (pe_op op_rep (pe_lst (pa_cons pe_int pa_nil)) (pe_callB call_len_seq (by rfl) mn PySem.boot_len (pa_cons (pv 0) pa_nil))))
      (pss_cons (ps_for PassesOwn.never rfl (pi_enum (by rfl) me (pa_cons (pv 0) pa_nil)) (pg_tup rfl (pgs_cons (pg_name (i := 2) scGoals.nd rfl (.inl rfl)) (pgs_cons (pg_name (i := 3) scGoals.nd rfl (.inl rfl)) pgs_nil)))
        (pss_one (ps_asg (pv 2) (pg_sub (pv 1) (pv 3) set_list))))
      (pss_one (ps_ret (pv 1)))), ?_⟩
    refine ⟨by decide, fun p0 n0 => ?_⟩
    have s0 := same_new (o := .lst [V.int 0]) n0
    refine ⟨_, rfl, a, _, rfl, .inl (SqL.of (s0 _ _ ha)), p0, _, _, rfl, rfl, upd_same, by omega, by rw [nl_len]; omega, by rw [nl_len]; exact szl (by simp; omega), fun p1 n1 => ?_⟩
    have er : (List.replicate ((nl g).length : Int).toNat [V.int 0]).flatten = nl (List.replicate g.length 0) := by
      rw [nl_len, Int.toNat_natCast]
      have : ∀ k, (List.replicate k [V.int 0]).flatten = nl (List.replicate k 0) := fun k => by
        induction k with
        | zero => rfl
        | succ k ih =>
          rw [List.replicate_succ, List.flatten_cons, ih, List.replicate_succ]
          rfl
      exact this _
    rw [er]
    have s1 := s0.new (o := .lst (nl (List.replicate g.length 0))) n1
    refine ⟨_, rfl, a, _, rfl, SqL.of (s1 _ _ ha), for_enum (K := K) (a := a) (xs := nl g) (fun i σ H' => ∃ (o : Addr) (u v : Option V) (r : List Nat), σ = [some (.ref a), some (.ref o), u, v] ∧ Same H H' ∧ H o = none ∧ H' o = some (.lst (nl r)) ∧ r.length = g.length ∧ ∀ j x, j < i → g[j]? = some x → r[x]? = some j)
      ⟨p1, none, none, _, rfl, s1, s0.free n1, upd_same, by simp, fun j x h => absurd h (by omega)⟩ (fun i σ H' _ hp => ?_) ?_ ?_⟩
    · obtain ⟨_, _, _, _, _, sm, _⟩ := hp
      exact SqL.of (sm _ _ ha)
    · rintro i x T σ H' hx ⟨o, u, v, r, rfl, sm, no, ho, hlen, hr⟩ nT
      obtain ⟨y, hy, rfl⟩ := nl_of hx
      have hyn := hg.lt y (List.mem_of_getElem? hy)
      have sT := same_new (o := .tup [V.int ((i : Nat) : Int), V.int (y : Int)]) nT
      refine ⟨T, _, rfl, SqT.of upd_same, rfl, _, _, rfl, _, _, rfl, rfl, ?_⟩
      refine ⟨_, rfl, _, rfl, _, rfl, o, _, _, y, rfl, rfl, sT _ _ ho, ixN_nat (by rw [nl_len]; omega), ?_⟩
      rw [nl_set]
      refine ⟨o, _, _, r.set y i, rfl, (sm.trans sT).own no, no, upd_same, by rw [List.length_set, hlen], fun j x hj hgx => ?_⟩
      by_cases e : x = y
      · subst e
        have := hφ j x hgx
        have h2 := hφ i x hy
        rw [List.getElem?_set_self (by omega), ← this, h2]
      · rw [List.getElem?_set_ne (fun z => e z.symm)]
        refine hr j x ?_ hgx
        rcases Nat.lt_or_eq_of_le (Nat.le_of_lt_succ hj) with h | h
        · exact h
        · rw [h, hy] at hgx
          exact absurd (Option.some.inj hgx).symm e
    · rintro σ H' ⟨o, u, v, r, rfl, sm, no, ho, hlen, hr⟩
      rw [nl_len] at hr
      have : r = (List.range g.length).map φ := by
        refine List.ext_getElem? fun x => ?_
        by_cases hx : x < g.length
        · obtain ⟨j, hj, e⟩ := List.mem_iff_getElem.mp (hg.mem_iff.mpr (List.mem_range.mpr hx))
          have ej : g[j]? = some x := by rw [List.getElem?_eq_getElem hj, e]
          rw [hr j x hj ej, List.getElem?_map, List.getElem?_range hx]
          exact congrArg some (hφ j x ej).symm
        · rw [List.getElem?_eq_none (by omega), List.getElem?_eq_none (by simp; omega)]
      rw [this] at ho
      exact ⟨_, rfl, q H' o sm no ho⟩
end
end SSw
namespace SS
theorem rot_perm {m : List Nat} {p : Nat} (h : p < m.length) : (rot m p).Perm m := by
  have e : m = m.take p ++ m.getD p 0 :: m.drop (p + 1) := by
    rw [List.getD_eq_getElem?_getD, List.getElem?_eq_getElem h]
    show m = m.take p ++ m[p] :: m.drop (p + 1)
    rw [← List.drop_eq_getElem_cons h, List.take_append_drop]
  unfold rot
  conv => rhs; rw [e]
  rw [List.append_assoc]
  refine .trans List.perm_append_comm ?_
  rw [List.append_assoc]
  show (m.getD p 0 :: (m.take p ++ m.drop (p + 1))).Perm _
  exact List.perm_middle.symm
theorem foldl_rot_perm (n : Nat) : ∀ (prog m : List Nat), m.length = n → (∀ x ∈ prog, x < n) → (prog.foldl rot m).Perm m
  | [], m, _, _ => .refl _
  | p :: prog, m, h, hp => by
    have h1 : p < m.length := by rw [h]; exact hp p (by simp)
    rw [List.foldl_cons]
    exact (foldl_rot_perm n prog (rot m p) ((rot_len m h1).trans h) fun x hx => hp x (by simp [hx])).trans (rot_perm h1)
theorem moved_pl {n : Nat} {prog : List Nat} (h : ∀ x ∈ prog, x < n) : IsPl (moved n prog) := by
  unfold IsPl
  have := foldl_rot_perm n prog (List.range n) List.length_range h
  rw [show (moved n prog).length = n from this.length_eq.trans List.length_range]
  exact this
theorem first_back {n p j : Nat} (hp : p < n) (hj : j < n) : firstOf (backOf n p j) p n = j := by
  unfold backOf firstOf
  split <;> (try split) <;> (try split) <;> (try split) <;> omega
theorem moved_one {n p : Nat} (hp : p < n) : moved n [p] = (List.range n).map (backOf n p) := rot_range hp
theorem moved_first {n p : Nat} (hp : p < n) (j x : Nat) (h : (moved n [p])[j]? = some x) : firstOf x p n = j := by
  rw [moved_one hp, List.getElem?_map] at h
  by_cases hj : j < n
  · rw [List.getElem?_range hj] at h
    have : backOf n p j = x := Option.some.inj h
    rw [← this, first_back hp hj]
  · rw [List.getElem?_eq_none (by simp; omega)] at h
    cases h
end SS
namespace SSw
open PySem PySem.Spec PyProof.Rows L2
section
variable {P : Program} {w : World} {K : PySem.W.Frag} {mg : Str → Option Value} {base : Heap}
/-! ### before -/
theorem scBefore : FnScope ["placing", "place", "size", "first", "number"] ["placing", "place"] (defScope sBefore) := ⟨rfl, rfl, rfl, by decide +kernel, rfl, by decide +kernel, by decide +kernel⟩
def spBefore : Sp := fun vs H Q _ => ∃ (a : Addr) (g : List Nat) (p : Nat), vs = [.ref a, .int (p : Int)] ∧ H a = some (.lst (nl g)) ∧ SS.IsPl g ∧ p < g.length ∧ g.length ≤ 1000 ∧
  ∀ H' q, Same H H' → H q = none → H' q = some (.lst (nl (SS.before g p))) → Q (.ref q) H'
theorem ok_before {f f1 f2 : Addr} {fd fd1 fd2 : FuncData} (F : Fun K "before" "before" sBefore f fd) (mn : mg "len" = none)
    (F1 : Fun K "goals_of" "goals_of" sGoals f1 fd1) (b1 : Binds K fd1 ["moves"] []) (g1 : mg "goals_of" = some (.ref f1)) (G1 : FnOk P w K mg base CX0 1 f1 fd1 ["moves"] spGoals)
    (F2 : Fun K "moved_by" "moved_by" sMovedBy f2 fd2) (b2 : Binds K fd2 ["size", "program"] []) (g2 : mg "moved_by" = some (.ref f2)) (G2 : FnOk P w K mg base CX0 1 f2 fd2 ["size", "program"] spMovedBy) :
    FnOk P w K mg base CX0 2 f fd ["placing", "place"] spBefore := by
  refine F.ok scBefore (fun vs H Q E h => ?_) (fun cdv A outer s H vs Q E hr h => ?_)
  · obtain ⟨a, g, p, rfl, _⟩ := h
    rfl
  · obtain ⟨a, g, p, rfl, ha, hg, hp, hn, q⟩ := h
    refine ⟨_, pss_cons (ps_set (i := 2) scBefore.nd rfl (.inl rfl) (pe_callB call_len_seq (by rfl) mn PySem.boot_len (pa_cons (pv 0) pa_nil)))
      (pss_cons (ps_set (i := 3) scBefore.nd rfl (.inr rfl) (pe_call G1 hr (by rfl) g1 F1.kp b1 .nil pass0 (pa_cons (pe_call G2 hr (by rfl) g2 F2.kp b2 .nil pass0 (pa_cons (pv 2) (pa_cons (pe_lst (pa_cons (pv 1) pa_nil)) pa_nil))) pa_nil)))
      (pss_one (ps_ret (pe_lc (own := [("number", 4)]) (g := gName 4) (tt := tYes) rfl scBefore.nd (pi_list (pv 0)) (blkOk_by (own := [("number", 4)]) (N := ["placing", "place", "size", "first", "number"]) (sc := defScope sBefore) (by decide +kernel)) (fun _ _ _ _ _ => pg_name (i := 4) scBefore.nd rfl (.inl rfl))
        (fun _ _ _ _ _ => pts_nil) (fun _ _ _ _ _ => pe_ix (ixK (K := K) rfl) (pv 3) (pv 4) (fun _ _ => rfl)))))), ?_⟩
    refine ⟨_, rfl, a, _, rfl, .inl (SqL.of ha), ?_⟩
    rw [nl_len]
    refine ⟨_, rfl, _, rfl, szl (by simp), fun p1 n1 => ?_⟩
    have s1 := same_new (o := .lst [V.int (p : Int)]) n1
    refine ⟨g.length, p1, [p], rfl, upd_same, fun x hx => by rw [List.mem_singleton.mp hx]; exact hp, by omega, fun H2 p2 s2 n2 h2 => ?_⟩
    have hlen : (SS.moved g.length [p]).length = g.length := moved_len fun x hx => by rw [List.mem_singleton.mp hx]; exact hp
    refine ⟨p2, _, fun x => SS.firstOf x p g.length, rfl, h2, SS.moved_pl fun x hx => by rw [List.mem_singleton.mp hx]; exact hp, SS.moved_first hp, by omega, fun H3 p3 s3 n3 h3 => ?_⟩
    rw [hlen] at h3
    have sA : Same H H3 := s1.trans (s2.trans s3)
    have nA : H p3 = none := (s1.trans s2).free n3
    refine ⟨_, rfl, a, rfl, ⟨_, SqL.of (sA _ _ ha)⟩, fun D nD => lc_list (K := K) (a := a) (xs := nl g) (fun i H' => Same H3 H' ∧ H' D = some (.lst (nl ((g.take i).map fun x => SS.firstOf x p g.length))))
      ⟨same_new nD, upd_same⟩ (fun i H' _ hp => SqL.of (hp.1 _ _ (sA _ _ ha))) (fun i x H' hx hp => ?_) (fun H' hp => ?_)⟩
    · obtain ⟨y, hy, rfl⟩ := nl_of hx
      have hyn := hg.lt y (List.mem_of_getElem? hy)
      refine ⟨rfl, _, rfl, _, rfl, p3, _, _, _, rfl, rfl, SqL.of (hp.1 _ _ h3), atI_nat (nl_at (x := SS.firstOf y p g.length) ?_), _, hp.2, ?_, ?_, ?_⟩
      · rw [List.getElem?_map, List.getElem?_range hyn]
        rfl
      · rw [nl_len, List.length_map, List.length_take]
        exact szlt (by omega)
      · exact hp.1.own nD
      · rw [upd_same, List.take_add_one, hy, List.map_append, nl_app]
        rfl
    · rw [nl_len, List.take_length] at hp
      exact q H' D (sA.trans hp.1) (sA.free nD) hp.2
/-! ### the law's own moves -/
theorem scLMoved : FnScope ["_law_moves_here", "_law_place"] ["_law_moves_here", "_law_place"] (defScope sLMoved) := ⟨rfl, rfl, rfl, by decide +kernel, rfl, by decide +kernel, by decide +kernel⟩
def spLMoved : Sp := fun vs H Q _ => ∃ (o : Addr) (m : List Nat) (p : Nat), vs = [.ref o, .int (p : Int)] ∧ H o = some (.lst (nl m)) ∧ p < m.length ∧ m.length ≤ 1000 ∧ ∀ H' q, Same H H' → H q = none → H' q = some (.lst (nl (SS.rot m p))) → Q (.ref q) H'
theorem ok_lmoved {f : Addr} {fd : FuncData} (F : Fun K "_law_moved" "_law_moved" sLMoved f fd) : FnOk P w K mg base CX0 1 f fd ["_law_moves_here", "_law_place"] spLMoved := by
  refine F.ok scLMoved (fun vs H Q E h => ?_) (fun cdv A outer s H vs Q E hr h => ?_)
  · obtain ⟨o, m, p, rfl, _⟩ := h
    rfl
  · obtain ⟨o, m, p, rfl, ho, hpn, hn, q⟩ := h
    refine ⟨_, pss_one (ps_ret (pe_op op_cat (pe_op op_cat (pe_slice sl_list (pv 0) (po_some (pe_op op_add (pv 1) pe_int)) po_none) (pe_lst (pa_cons (pe_ix ix_list (pv 0) (pv 1) (fun _ _ => rfl)) pa_nil)))
          (pe_slice sl_list (pv 0) po_none (po_some (pv 1))))), ?_⟩
    have hlv : (nl m).length = m.length := nl_len m
    refine ⟨_, rfl, _, rfl, _, _, rfl, rfl, _, rfl, o, _, rfl, SqL.of ho, fun p1 n1 => ?_⟩
    have s2 := same_new (o := .lst (cutV (nl m) (some ((p : Int) + 1)) none)) n1
    refine ⟨_, rfl, _, rfl, o, _, _, _, rfl, rfl, SqL.of (s2 _ _ ho), atI_nat (nl_at (getD_at (by omega))), szl (by simp), fun p2 n2 => ?_⟩
    have s3 := s2.new (o := .lst [V.int ((m.getD p 0 : Nat) : Int)]) n2
    refine ⟨p1, p2, _, _, rfl, rfl, same_new n2 _ _ upd_same, upd_same, ?_, fun p3 n3 => ?_⟩
    · rw [show ((p : Int) + 1) = ((p + 1 : Nat) : Int) by omega, cutV_drop, List.length_drop, hlv]
      exact szl (by simp; omega)
    have s4 := s3.new (o := .lst (cutV (nl m) (some ((p : Int) + 1)) none ++ [V.int ((m.getD p 0 : Nat) : Int)])) n3
    refine ⟨_, rfl, _, rfl, _, rfl, o, _, rfl, SqL.of (s4 _ _ ho), fun p4 n4 => ?_⟩
    have s5 := s4.new (o := .lst (cutV (nl m) none (some (p : Int)))) n4
    refine ⟨p3, p4, _, _, rfl, rfl, same_new n4 _ _ upd_same, upd_same, ?_, fun p5 n5 => ?_⟩
    · rw [show ((p : Int) + 1) = ((p + 1 : Nat) : Int) by omega, cutV_drop, cutV_take, List.length_append, List.length_drop, List.length_take, hlv]
      exact szl (by simp; omega)
    rw [nl_rot]
    exact q _ p5 (s5.new n5) (s5.free n5) upd_same
theorem scLMoves : FnScope ["_law_size_told", "_law_places", "_law_found", "_law_place"] ["_law_size_told", "_law_places"] (defScope sLMoves) := ⟨rfl, rfl, rfl, by decide +kernel, rfl, by decide +kernel, by decide +kernel⟩
theorem ok_lmoves {f f1 : Addr} {fd fd1 : FuncData} (F : Fun K "_law_moves" "_law_moves" sLMoves f fd) (ml : mg "list" = none) (mr : mg "range" = none)
    (F1 : Fun K "_law_moved" "_law_moved" sLMoved f1 fd1) (b1 : Binds K fd1 ["_law_moves_here", "_law_place"] []) (g1 : mg "_law_moved" = some (.ref f1)) (G1 : FnOk P w K mg base CX0 1 f1 fd1 ["_law_moves_here", "_law_place"] spLMoved) :
    FnOk P w K mg base CX0 2 f fd ["_law_size_told", "_law_places"] spMovedBy := by
  refine F.ok scLMoves (fun vs H Q E h => ?_) (fun cdv A outer s H vs Q E hr h => ?_)
  · obtain ⟨n, a, g, rfl, _⟩ := h
    rfl
  · obtain ⟨n, a, g, rfl, ha, hg, hn, q⟩ := h
    refine ⟨_, pss_cons (ps_set (i := 2) scLMoves.nd rfl (.inl rfl) (pe_listRg rfl (by rfl) ml (prg_1 (by rfl) mr (pv 0))))
      (pss_cons (ps_for PassesOwn.never rfl (pi_list (pv 1)) (pg_name (i := 3) scLMoves.nd rfl (.inl rfl))
        (pss_one (ps_set (i := 2) scLMoves.nd rfl (.inl rfl) (pe_call G1 hr (by rfl) g1 F1.kp b1 .nil pass0 (pa_cons (pv 2) (pa_cons (pv 3) pa_nil))))))
      (pss_one (ps_ret (pv 2)))), ?_⟩
    refine ⟨_, rfl, _, rfl, rgOk_n (by omega), fun r hr0 => ?_⟩
    rw [rg_nl]
    have s1 := same_new (o := .lst (nl (List.range n))) hr0
    refine ⟨_, rfl, a, rfl, ⟨_, SqL.of (s1 _ _ ha)⟩, for_list (K := K) (a := a) (xs := nl g) (fun i σ H' => ∃ (o : Addr) (v : Option V), σ = [some (.int (n : Int)), some (.ref a), some (.ref o), v] ∧ Same H H' ∧ H o = none ∧ H' o = some (.lst (nl (SS.moved n (g.take i)))))
      ⟨r, none, rfl, s1, hr0, upd_same⟩ (fun i σ H' _ hp => ?_) ?_ ?_⟩
    · obtain ⟨_, _, _, sm, _⟩ := hp
      exact SqL.of (sm _ _ ha)
    · rintro i x σ H' hx ⟨o, v, rfl, sm, no, ho⟩
      obtain ⟨p, hp, rfl⟩ := nl_of hx
      have hpn := hg p (List.mem_of_getElem? hp)
      have hlen := moved_len (n := n) (prog := g.take i) fun x hx => hg x (List.mem_of_mem_take hx)
      refine ⟨_, rfl, _, rfl, o, _, p, rfl, ho, by omega, by omega, fun H2 r2 s2 n2 h2 => ?_⟩
      refine ⟨r2, _, rfl, sm.trans s2, sm.free n2, ?_⟩
      rw [moved_take hp]
      exact h2
    · rintro σ H' ⟨o, v, rfl, sm, no, ho⟩
      rw [nl_len, List.take_length] at ho
      exact ⟨_, rfl, q H' o sm no ho⟩
/-! ### the law's own before -/
theorem nl_flat (g : List Nat) : (nl g).all flatV = true := List.all_eq_true.mpr fun v hv => by
  obtain ⟨x, _, rfl⟩ := List.mem_map.mp hv
  rfl
theorem scLBefore : FnScope ["_law_goal", "_law_place", "_law_first", "_law_number"] ["_law_goal", "_law_place"] (defScope sLBefore) := ⟨rfl, rfl, rfl, by decide +kernel, rfl, by decide +kernel, by decide +kernel⟩
theorem ok_lbefore {f f1 : Addr} {fd fd1 : FuncData} (F : Fun K "_law_before" "_law_before" sLBefore f fd) (mn : mg "len" = none)
    (F1 : Fun K "_law_moves" "_law_moves" sLMoves f1 fd1) (b1 : Binds K fd1 ["_law_size_told", "_law_places"] []) (g1 : mg "_law_moves" = some (.ref f1)) (G1 : FnOk P w K mg base CX0 2 f1 fd1 ["_law_size_told", "_law_places"] spMovedBy) :
    FnOk P w K mg base CX0 3 f fd ["_law_goal", "_law_place"] spBefore := by
  refine F.ok scLBefore (fun vs H Q E h => ?_) (fun cdv A outer s H vs Q E hr h => ?_)
  · obtain ⟨a, g, p, rfl, _⟩ := h
    rfl
  · obtain ⟨a, g, p, rfl, ha, hg, hp, hn, q⟩ := h
    refine ⟨_, pss_cons (ps_set (i := 2) scLBefore.nd rfl (.inr rfl) (pe_call G1 hr (by rfl) g1 F1.kp b1 .nil pass0 (pa_cons (pe_callB call_len_seq (by rfl) mn PySem.boot_len (pa_cons (pv 0) pa_nil)) (pa_cons (pe_lst (pa_cons (pv 1) pa_nil)) pa_nil))))
      (pss_one (ps_ret (pe_lc (own := [("_law_number", 3)]) (g := gName 3) (tt := tYes) rfl scLBefore.nd (pi_list (pv 0)) (blkOk_by (own := [("_law_number", 3)]) (N := ["_law_goal", "_law_place", "_law_first", "_law_number"]) (sc := defScope sLBefore) (by decide +kernel)) (fun _ _ _ _ _ => pg_name (i := 3) scLBefore.nd rfl (.inl rfl))
        (fun _ _ _ _ _ => pts_nil) (fun _ _ _ _ _ => pe_bmK (K := K) rfl PySem.F.plainAttrs_list PySem.F.slot_list_index PySem.F.type_list_index (indexK (K := K) rfl) (pv 2) (pa_cons (pv 3) pa_nil))))), ?_⟩
    refine ⟨_, rfl, a, _, rfl, .inl (SqL.of ha), ?_⟩
    rw [nl_len]
    refine ⟨_, rfl, szl (by simp), fun p1 n1 => ?_⟩
    have s1 := same_new (o := .lst [V.int (p : Int)]) n1
    refine ⟨g.length, p1, [p], rfl, upd_same, fun x hx => by rw [List.mem_singleton.mp hx]; exact hp, by omega, fun H2 p2 s2 n2 h2 => ?_⟩
    have sA : Same H H2 := s1.trans s2
    refine ⟨_, rfl, a, rfl, ⟨_, SqL.of (sA _ _ ha)⟩, fun D nD => lc_list (K := K) (a := a) (xs := nl g) (fun i H' => Same H2 H' ∧ H' D = some (.lst (nl ((g.take i).map fun x => SS.firstOf x p g.length))))
      ⟨same_new nD, upd_same⟩ (fun i H' _ hp => SqL.of (hp.1 _ _ (sA _ _ ha))) (fun i x H' hx hp' => ?_) (fun H' hp => ?_)⟩
    · obtain ⟨y, hy, rfl⟩ := nl_of hx
      have hyn := hg.lt y (List.mem_of_getElem? hy)
      have hm : (SS.moved g.length [p])[SS.firstOf y p g.length]? = some y := by
        rw [SS.moved_one hp, List.getElem?_map, List.getElem?_range (by unfold SS.firstOf; split <;> (try split) <;> omega)]
        exact congrArg some (SS.backOf_first hp hyn)
      refine ⟨rfl, _, rfl, .inl ⟨rfl, _, SqL.of (hp'.1 _ _ h2)⟩, _, rfl, p2, _, _, SS.firstOf y p g.length, _, rfl, rfl, SqL.of (hp'.1 _ _ h2), rfl, nl_flat _, nl_at hm, ?_, ?_, _, hp'.2, ?_, ?_, ?_⟩
      · show ((y : Int) == (y : Int)) = true
        simp
      · intro j z' hj hz
        obtain ⟨x', hx', rfl⟩ := nl_of hz
        show ((x' : Int) == (y : Int)) = false
        refine beq_eq_false_iff_ne.mpr fun e => ?_
        have e' : x' = y := by omega
        have := SS.moved_first hp j x' hx'
        rw [e'] at this
        omega
      · rw [nl_len, List.length_map, List.length_take]
        exact szlt (by omega)
      · exact hp'.1.own nD
      · rw [upd_same, List.take_add_one, hy, List.map_append, nl_app]
        rfl
    · rw [nl_len, List.take_length] at hp
      exact q H' D (sA.trans hp.1) (sA.free nD) hp.2
end
end SSw
namespace SS
def seenOf (f : Nat → Nat) (m : Nat) : List Nat → List Nat → List Nat
  | [], seen => seen
  | s :: r, seen => seenOf f m r ((trace f (m + 1) seen s).reverse ++ seen)
theorem lots_snoc (f : Nat → Nat) (m s : Nat) : ∀ (r seen : List Nat), lots f m (r ++ [s]) seen = lots f m r seen ++ [trace f (m + 1) (seenOf f m r seen) s]
  | [], seen => rfl
  | a :: r, seen => by
    show trace f (m + 1) seen a :: lots f m (r ++ [s]) _ = _
    rw [lots_snoc f m s r]
    rfl
theorem seenOf_snoc (f : Nat → Nat) (m s : Nat) : ∀ (r seen : List Nat), seenOf f m (r ++ [s]) seen = (trace f (m + 1) (seenOf f m r seen) s).reverse ++ seenOf f m r seen
  | [], seen => rfl
  | a :: r, seen => by
    show seenOf f m (r ++ [s]) _ = _
    rw [seenOf_snoc f m s r]
    rfl
theorem seenOf_good {f : Nat → Nat} {m : Nat} (fl : ∀ x, x < m → f x < m) (inj : ∀ x y, x < m → y < m → f x = f y → x = y) : ∀ (r seen : List Nat), Good f m seen → (∀ x ∈ r, x < m) → Good f m (seenOf f m r seen)
  | [], seen, G, _ => G
  | s :: r, seen, G, hr => by
    unfold seenOf
    refine seenOf_good fl inj r _ ?_ fun x hx => hr x (by simp [hx])
    by_cases hs : s ∈ seen
    · rw [trace, if_pos hs]
      exact G
    · obtain ⟨T, e, q1, q2, q3, q4⟩ := trace_cyc G fl inj (hr s (by simp)) hs
      rw [e]
      exact G.more inj q1 q2 q3 q4
theorem good_nil (f : Nat → Nat) (m : Nat) : Good f m [] := ⟨by simp, by simp, by simp⟩
theorem seen_range {g : List Nat} (h : IsPl g) {lie : Nat} (hl : lie < g.length + 1) (i : Nat) (hi : i ≤ g.length + 1) : Good (want g lie) (g.length + 1) (seenOf (want g lie) (g.length + 1) (List.range i) []) :=
  seenOf_good (want_lt h lie) (want_inj h hl) _ _ (good_nil _ _) fun x hx => by
    have := List.mem_range.mp hx
    omega
/-- the trace, on its way: v is done, x is next, k steps are left -/
structure Way (f : Nat → Nat) (m : Nat) (seen T v : List Nat) (x k : Nat) : Prop where
  tr : v ++ trace f k (v.reverse ++ seen) x = T
  nd : (v.reverse ++ seen).Nodup
  lt : ∀ y ∈ v.reverse ++ seen, y < m
  xl : x < m
  k : k + v.length = m + 1
theorem Way.start {f : Nat → Nat} {m : Nat} {seen : List Nat} (G : Good f m seen) {s : Nat} (hs : s < m) : Way f m seen (trace f (m + 1) seen s) [] s (m + 1) :=
  ⟨rfl, G.nd, G.lt, hs, rfl⟩
theorem Way.stop {f : Nat → Nat} {m : Nat} {seen T v : List Nat} {x k : Nat} (h : Way f m seen T v x k) (hx : x ∈ v.reverse ++ seen) : T = v := by
  have := h.tr
  cases k with
  | zero => rw [trace, List.append_nil] at this; exact this.symm
  | succ k => rw [trace, if_pos hx, List.append_nil] at this; exact this.symm
theorem Way.room {f : Nat → Nat} {m : Nat} {seen T v : List Nat} {x k : Nat} (h : Way f m seen T v x k) : v.length ≤ m := by
  have := le_of_nodup h.nd h.lt
  rw [List.length_append, List.length_reverse] at this
  omega
theorem Way.go {f : Nat → Nat} {m : Nat} {seen T v : List Nat} {x k : Nat} (fl : ∀ x, x < m → f x < m) (h : Way f m seen T v x k) (hx : x ∉ v.reverse ++ seen) : ∃ j, k = j + 1 ∧ Way f m seen T (v ++ [x]) (f x) j := by
  have hr := h.room
  have hk := h.k
  obtain ⟨j, rfl⟩ : ∃ j, k = j + 1 := ⟨k - 1, by omega⟩
  have e : (v ++ [x]).reverse ++ seen = x :: (v.reverse ++ seen) := by simp
  refine ⟨j, rfl, ?_, ?_, ?_, fl x h.xl, by rw [List.length_append, List.length_singleton]; omega⟩
  · rw [e, ← h.tr, trace, if_neg hx, List.append_assoc]
    rfl
  · rw [e]
    exact List.nodup_cons.mpr ⟨hx, h.nd⟩
  · rw [e]
    intro y hy
    rcases List.mem_cons.mp hy with r | r
    · exact r ▸ h.xl
    · exact h.lt y r
theorem rounds_eq (g : List Nat) (lie : Nat) : rounds g lie = (lots (want g lie) (g.length + 1) (List.range (g.length + 1)) []).filter fun l => 1 < l.length := rfl
end SS
namespace SSw
open PySem PySem.Spec PyProof.Rows L2
/-! ### the dicts of a lie -/
abbrev ik (x : Nat) : Key := Sum.inl ((x : Nat) : Int)
theorem ik_inj {x y : Nat} (h : ik x = ik y) : x = y := by
  have := Sum.inl.inj h
  omega
def Wan (g : List Nat) (lie : Nat) (kvs : List (Key × V)) : Prop := ∀ c, c < g.length + 1 → valV kvs (ik c) = some (.int ((SS.want g lie c : Nat) : Int))
def Fill (g : List Nat) (lie i : Nat) (kvs : List (Key × V)) : Prop := kvs.length ≤ i ∧ ∀ j, j < i → valV kvs (ik ((j + lie) % (g.length + 1))) = some (.int (((SS.ext g).getD j 0 : Nat) : Int))
theorem Fill.step {g : List Nat} {lie i : Nat} {kvs : List (Key × V)} (hl : lie < g.length + 1) (hi : i < g.length + 1) (h : Fill g lie i kvs) : Fill g lie (i + 1) (putK kvs (ik ((i + lie) % (g.length + 1))) (.int (((SS.ext g).getD i 0 : Nat) : Int))) := by
  refine ⟨Nat.le_trans (length_putK _ _ _) (by have := h.1; omega), fun j hj => ?_⟩
  rw [valV_put]
  by_cases e : j = i
  · rw [e, if_pos rfl]
  · rw [if_neg fun z => ?_]
    · exact h.2 j (by omega)
    · have z' := ik_inj z
      rw [SS.md (by omega), SS.md (by omega)] at z'
      split at z' <;> split at z' <;> omega
theorem Fill.all {g : List Nat} {lie : Nat} {kvs : List (Key × V)} (hl : lie < g.length + 1) (h : Fill g lie (g.length + 1) kvs) : Wan g lie kvs := by
  intro c hc
  have h1 : (c + (g.length + 1) - lie) % (g.length + 1) < g.length + 1 := Nat.mod_lt _ (Nat.succ_pos _)
  have h2 := h.2 _ h1
  have e : ((c + (g.length + 1) - lie) % (g.length + 1) + lie) % (g.length + 1) = c := by
    rw [SS.md (a := c + (g.length + 1) - lie) (by omega)]
    split
    · rw [SS.md (by omega)]
      split <;> omega
    · rw [SS.md (by omega)]
      split <;> omega
  rw [e] at h2
  exact h2
theorem fmod_nat (a b : Nat) : ((a : Int)).fmod (b : Int) = ((a % b : Nat) : Int) := by
  rw [Int.fmod_eq_emod_of_nonneg _ (Int.natCast_nonneg _), Int.natCast_emod]
def SeenIs (ks : List (Key × V)) (S : List Nat) : Prop := (∀ x : Nat, valV ks (ik x) = if x ∈ S then some (.bl true) else none) ∧ ks.length ≤ S.length
theorem SeenIs.nil : SeenIs [] [] := ⟨fun x => by simp [valV_nil], Nat.le_refl _⟩
theorem SeenIs.put {ks : List (Key × V)} {S : List Nat} (h : SeenIs ks S) (x : Nat) : SeenIs (putK ks (ik x) (.bl true)) (x :: S) := by
  refine ⟨fun y => ?_, Nat.le_trans (length_putK _ _ _) (by have := h.2; simp; omega)⟩
  rw [valV_put]
  by_cases e : y = x
  · rw [e, if_pos rfl, if_pos (by simp)]
  · rw [if_neg (fun z => e (ik_inj z)), h.1 y]
    by_cases hy : y ∈ S
    · rw [if_pos hy, if_pos (by simp [hy])]
    · rw [if_neg hy, if_neg (by simp [e, hy])]
theorem SeenIs.has {ks : List (Key × V)} {S : List Nat} (h : SeenIs ks S) (x : Nat) : (valV ks (ik x)).isSome = decide (x ∈ S) := by
  rw [h.1 x]
  by_cases hx : x ∈ S
  · rw [if_pos hx, decide_eq_true hx]
    rfl
  · rw [if_neg hx, decide_eq_false hx]
    rfl
theorem ext_nl (g : List Nat) : nl g ++ [V.int ((g.length : Nat) : Int)] = nl (SS.ext g) := by
  unfold SS.ext
  rw [nl_app]
  rfl
theorem ext_get {g : List Nat} {i x : Nat} (h : (SS.ext g)[i]? = some x) : (SS.ext g).getD i 0 = x := by
  rw [List.getD_eq_getElem?_getD, h]
  rfl
/-- lists of counts, each at an address that is not l -/
def LotsAt (H : Hp) (l : Addr) (ads : List V) (L : List (List Nat)) : Prop := ads.length = L.length ∧ ∀ (i : Nat) lot, L[i]? = some lot → ∃ b, ads[i]? = some (.ref b) ∧ b ≠ l ∧ H b = some (.lst (nl lot))
theorem LotsAt.same {H H' : Hp} {l : Addr} {ads : List V} {L : List (List Nat)} (h : LotsAt H l ads L) (s : Same H H') : LotsAt H' l ads L := ⟨h.1, fun i lot e => by
  obtain ⟨b, h1, h2, h3⟩ := h.2 i lot e
  exact ⟨b, h1, h2, s _ _ h3⟩⟩
theorem LotsAt.keep {H H' : Hp} {l : Addr} {ads : List V} {L : List (List Nat)} (h : LotsAt H l ads L) (s : ∀ b xs, b ≠ l → H b = some (.lst xs) → H' b = some (.lst xs)) : LotsAt H' l ads L := ⟨h.1, fun i lot e => by
  obtain ⟨b, h1, h2, h3⟩ := h.2 i lot e
  exact ⟨b, h1, h2, s b _ h2 h3⟩⟩
theorem LotsAt.snoc {H : Hp} {l b : Addr} {ads : List V} {L : List (List Nat)} {lot : List Nat} (h : LotsAt H l ads L) (hb : b ≠ l) (hh : H b = some (.lst (nl lot))) : LotsAt H l (ads ++ [.ref b]) (L ++ [lot]) := by
  refine ⟨by simp [h.1], fun i lo e => ?_⟩
  by_cases hi : i < L.length
  · rw [List.getElem?_append_left hi] at e
    obtain ⟨c, h1, h2, h3⟩ := h.2 i lo e
    exact ⟨c, by rw [List.getElem?_append_left (by rw [h.1]; exact hi)]; exact h1, h2, h3⟩
  · by_cases hi2 : i = L.length
    · subst hi2
      rw [List.getElem?_append_right (Nat.le_refl _), Nat.sub_self] at e
      have : lot = lo := Option.some.inj e
      subst this
      exact ⟨b, by rw [← h.1, List.getElem?_append_right (Nat.le_refl _), Nat.sub_self]; rfl, hb, hh⟩
    · rw [List.getElem?_eq_none (by simp; omega)] at e
      cases e
theorem LotsAt.nil (H : Hp) (l : Addr) : LotsAt H l [] [] := ⟨rfl, fun i lot e => by simp at e⟩
end SSw
namespace SSw
open PySem PySem.Spec PyProof.Rows L2
section
variable {P : Program} {w : World} {K : PySem.W.Frag} {mg : Str → Option Value} {base : Heap}
/-! ### lie_rounds -/
theorem scRounds : FnScope ["placing", "lie", "many", "wanted", "seen", "found", "cell", "sign", "here", "lot"] ["placing", "lie"] (defScope sRounds) := ⟨rfl, rfl, rfl, by decide +kernel, rfl, by decide +kernel, by decide +kernel⟩
def spRounds : Sp := fun vs H Q _ => ∃ (a : Addr) (g : List Nat) (lie : Nat), vs = [.ref a, .int (lie : Int)] ∧ H a = some (.lst (nl g)) ∧ SS.IsPl g ∧ lie < g.length + 1 ∧ g.length ≤ 1000 ∧
  ∀ H' l ads, Same H H' → H l = none → H' l = some (.lst ads) → LotsAt H' l ads (SS.rounds g lie) → Q (.ref l) H'
theorem ok_rounds {f : Addr} {fd : FuncData} (F : Fun K "lie_rounds" "lie_rounds" sRounds f fd) (mn : mg "len" = none) (me : mg "enumerate" = none) (mr : mg "range" = none) : FnOk P w K mg base CX0 1 f fd ["placing", "lie"] spRounds := by
  refine F.ok scRounds (fun vs H Q E h => ?_) (fun cdv A outer s H vs Q E hr h => ?_)
  · obtain ⟨a, g, lie, rfl, _⟩ := h
    rfl
  · obtain ⟨a, g, lie, rfl, ha, hg, hl, hn, q⟩ := h
    have nd := scRounds.nd
    refine ⟨_, pss_cons (ps_asg (pe_tup (pa_cons (pe_op op_add (pe_callB call_len_seq (by rfl) mn PySem.boot_len (pa_cons (pv 0) pa_nil)) pe_int) (pa_cons pe_dnewK (pa_cons pe_dnewK (pa_cons (pe_lst pa_nil) pa_nil)))))
        (pg_tup rfl (pgs_cons (pg_name (i := 2) nd rfl (.inl rfl)) (pgs_cons (pg_name (i := 3) nd rfl (.inl rfl)) (pgs_cons (pg_name (i := 4) nd rfl (.inl rfl)) (pgs_cons (pg_name (i := 5) nd rfl (.inl rfl)) pgs_nil))))))
      (pss_cons (ps_for PassesOwn.never rfl (pi_enum (by rfl) me (pa_cons (pe_op op_cat (pv 0) (pe_lst (pa_cons (pe_callB call_len_seq (by rfl) mn PySem.boot_len (pa_cons (pv 0) pa_nil)) pa_nil))) pa_nil))
          (pg_tup rfl (pgs_cons (pg_name (i := 6) nd rfl (.inl rfl)) (pgs_cons (pg_name (i := 7) nd rfl (.inl rfl)) pgs_nil)))
          (pss_one (ps_dput (hu_of hr) (pv 3) (pe_op op_modN (pe_op op_add (pv 6) (pv 1)) (pv 2)) (pv 7) rfl)))
      (pss_cons (ps_for PassesOwn.never rfl (pi_range1 rfl mr (pa_cons (pv 2) pa_nil)) (pg_name (i := 7) nd rfl (.inl rfl))
          (pss_cons (ps_par (i := 8) (j := 9) (by rfl) nd rfl rfl (by decide) rfl rfl (pa_cons (pv 7) (pa_cons (pe_lst pa_nil) pa_nil)) (by rfl))
          (pss_cons (ps_while PassesOwn.never (pt_cmp (pc_dnotin (hu_of hr) (pv 8) (pv 4)))
            (pss_cons (ps_dput (hu_of hr) (pv 4) (pv 8) pe_bl rfl)
            (pss_cons (ps_expr (pe_bm PySem.F.plainAttrs_list PySem.F.slot_list_append PySem.F.type_list_append mt_append (pv 9) (pa_cons (pv 8) pa_nil)))
            (pss_one (ps_set (i := 8) nd rfl (.inl rfl) (pe_dget (hu_of hr) (pv 3) (pv 8) (fun _ _ => rfl)))))))
          (pss_one (ps_if (pt_cmpR op_gt (pe_callB call_len_seq (by rfl) mn PySem.boot_len (pa_cons (pv 9) pa_nil)) pe_int (nomark _))
            (pss_one (ps_expr (pe_bm PySem.F.plainAttrs_list PySem.F.slot_list_append PySem.F.type_list_append mt_append (pv 5) (pa_cons (pv 9) pa_nil)))) pss_nil)))))
      (pss_one (ps_ret (pv 5))))), ?_⟩
    -- many, wanted, seen, found = ..
    refine ⟨_, rfl, a, _, rfl, .inl (SqL.of ha), _, _, rfl, rfl, fun d1 n1 => ?_⟩
    have s1 := same_new (o := .dK []) n1
    intro d2 n2
    have s2 := s1.new (o := .dK []) n2
    refine ⟨Nat.zero_le _, fun l n3 => ?_⟩
    have s3 := s2.new (o := .lst []) n3
    refine ⟨szl (by simp), fun t n4 => ?_⟩
    have s4 := s3.new (o := .tup [.int (((nl g).length : Int) + 1), .ref d1, .ref d2, .ref l]) n4
    refine ⟨t, _, rfl, SqT.of upd_same, rfl, _, _, rfl, _, _, rfl, _, _, rfl, _, _, rfl, rfl, ?_⟩
    have em : (((nl g).length : Int) + 1) = ((g.length + 1 : Nat) : Int) := by rw [nl_len]; omega
    have e1 : H d1 = none := n1
    have e2 : H d2 = none := s1.free n2
    have e3 : H l = none := s2.free n3
    have h12 : d1 ≠ d2 := ne_of_none upd_same n2
    have h13 : d1 ≠ l := ne_of_none (same_new n2 _ _ upd_same) n3
    have h23 : d2 ≠ l := ne_of_none upd_same n3
    have k1 : (upd (upd (upd (upd H d1 (.dK [])) d2 (.dK [])) l (.lst [])) t (.tup [.int (((nl g).length : Int) + 1), .ref d1, .ref d2, .ref l])) d1 = some (.dK []) := same_new n4 _ _ (same_new n3 _ _ (same_new n2 _ _ upd_same))
    have k2 : (upd (upd (upd (upd H d1 (.dK [])) d2 (.dK [])) l (.lst [])) t (.tup [.int (((nl g).length : Int) + 1), .ref d1, .ref d2, .ref l])) d2 = some (.dK []) := same_new n4 _ _ (same_new n3 _ _ upd_same)
    have k3 : (upd (upd (upd (upd H d1 (.dK [])) d2 (.dK [])) l (.lst [])) t (.tup [.int (((nl g).length : Int) + 1), .ref d1, .ref d2, .ref l])) l = some (.lst []) := same_new n4 _ _ upd_same
    generalize (upd (upd (upd (upd H d1 (.dK [])) d2 (.dK [])) l (.lst [])) t (.tup [.int (((nl g).length : Int) + 1), .ref d1, .ref d2, .ref l])) = H0 at s4 k1 k2 k3 ⊢
    show tSeq _ _ _ [some (.ref a), some (.int (lie : Int)), some (.int (((nl g).length : Int) + 1)), some (.ref d1), some (.ref d2), some (.ref l), none, none, none, none] H0
    rw [em]
    -- the dict wanted
    refine ⟨_, rfl, _, rfl, a, _, rfl, .inl (SqL.of (s4 _ _ ha)), szl (by simp), fun p5 n5 => ?_⟩
    have s5 := s4.new (o := .lst [.int ((nl g).length : Int)]) n5
    refine ⟨a, p5, _, _, rfl, rfl, s5 _ _ ha, upd_same, by rw [nl_len]; exact szl (by simp; omega), fun p6 n6 => ?_⟩
    have s6 := s5.new (o := .lst (nl g ++ [.int ((nl g).length : Int)])) n6
    have ex : nl g ++ [V.int ((nl g).length : Int)] = nl (SS.ext g) := by rw [nl_len, ext_nl]
    rw [ex] at s6 ⊢
    have f1 := same_new n6 (o := .lst (nl (SS.ext g))) _ _ (same_new n5 (o := .lst [.int ((nl g).length : Int)]) _ _ k1)
    have f2 := same_new n6 (o := .lst (nl (SS.ext g))) _ _ (same_new n5 (o := .lst [.int ((nl g).length : Int)]) _ _ k2)
    have f3 := same_new n6 (o := .lst (nl (SS.ext g))) _ _ (same_new n5 (o := .lst [.int ((nl g).length : Int)]) _ _ k3)
    have f6 : (upd (upd H0 p5 (.lst [.int ((nl g).length : Int)])) p6 (.lst (nl (SS.ext g)))) p6 = some (.lst (nl (SS.ext g))) := upd_same
    generalize (upd (upd H0 p5 (.lst [.int ((nl g).length : Int)])) p6 (.lst (nl (SS.ext g)))) = H1 at s6 f1 f2 f3 f6 ⊢
    refine ⟨p6, _, rfl, SqL.of f6, for_enum (K := K) (a := p6) (xs := nl (SS.ext g)) (fun i σ H' => ∃ (u v : Option V) (kvs : List (Key × V)), σ = [some (.ref a), some (.int (lie : Int)), some (.int ((g.length + 1 : Nat) : Int)), some (.ref d1), some (.ref d2), some (.ref l), u, v, none, none] ∧
        Same H H' ∧ H' p6 = some (.lst (nl (SS.ext g))) ∧ H' d1 = some (.dK kvs) ∧ H' d2 = some (.dK []) ∧ H' l = some (.lst []) ∧ Fill g lie i kvs)
      ⟨none, none, [], rfl, s6, f6, f1, f2, f3, Nat.zero_le _, fun j hj => absurd hj (by omega)⟩ (fun i σ H' _ hp => ?_) ?_ ?_⟩
    · obtain ⟨_, _, _, _, _, h, _⟩ := hp
      exact SqL.of h
    · rintro i x T σ H' hx ⟨u, v, kvs, rfl, sm, hp6, hd1, hd2, hl0, hf⟩ nT
      obtain ⟨y, hy, rfl⟩ := nl_of hx
      have hi : i < g.length + 1 := by
        have := (List.getElem?_eq_some_iff.mp hy).1
        rw [SS.ext_len] at this
        exact this
      have sT := same_new (o := .tup [V.int ((i : Nat) : Int), V.int (y : Int)]) nT
      refine ⟨T, _, rfl, SqT.of upd_same, rfl, _, _, rfl, _, _, rfl, rfl, ?_⟩
      have hk : (((i : Nat) : Int) + (lie : Int)).fmod ((g.length + 1 : Nat) : Int) = (((i + lie) % (g.length + 1) : Nat) : Int) := by
        rw [show (((i : Nat) : Int) + (lie : Int)) = ((i + lie : Nat) : Int) by omega]
        exact fmod_nat _ _
      have hD : DPut (upd H' T (.tup [V.int ((i : Nat) : Int), V.int (y : Int)])) d1 (.int ((((i : Nat) : Int) + (lie : Int)).fmod ((g.length + 1 : Nat) : Int))) (.int (y : Int)) (upd (upd H' T (.tup [V.int ((i : Nat) : Int), V.int (y : Int)])) d1 (.dK (putK kvs (ik ((i + lie) % (g.length + 1))) (.int (y : Int))))) := by
        rw [hk]
        exact DPut.k (k := ik ((i + lie) % (g.length + 1))) (sT _ _ hd1) (szlt (by have := hf.1; omega))
      refine ⟨_, rfl, _, rfl, _, rfl, _, rfl, _, _, rfl, rfl, _, rfl, _, _, rfl, rfl, by omega, d1, _, rfl, hD, ?_⟩
      have hst := hf.step hl hi
      rw [ext_get hy] at hst
      refine ⟨_, _, _, rfl, (sm.trans sT).own e1, ?_, upd_same, ?_, ?_, hst⟩
      · rw [upd_ne (ne_of hp6 hd1 (by intro z; cases z))]
        exact sT _ _ hp6
      · rw [upd_ne h12.symm]
        exact sT _ _ hd2
      · rw [upd_ne h13.symm]
        exact sT _ _ hl0
    · rintro σ H2 ⟨u, v, kvs, rfl, sm, hp6, hd1, hd2, hl0, hf⟩
      rw [nl_len, SS.ext_len] at hf
      have hW := hf.all hl
      -- the rounds
      refine ⟨_, rfl, _, rfl, by omega, by omega, for_range (lo := 0) (n := ((g.length + 1 : Nat) : Int).toNat) (fun i σ H' => ∃ (u v x y : Option V) (ks : List (Key × V)) (ads : List V), σ = [some (.ref a), some (.int (lie : Int)), some (.int ((g.length + 1 : Nat) : Int)), some (.ref d1), some (.ref d2), some (.ref l), u, v, x, y] ∧
        Same H H' ∧ H' d1 = some (.dK kvs) ∧ H' d2 = some (.dK ks) ∧ H' l = some (.lst ads) ∧ SeenIs ks (SS.seenOf (SS.want g lie) (g.length + 1) (List.range i) []) ∧
        LotsAt H' l ads ((SS.lots (SS.want g lie) (g.length + 1) (List.range i) []).filter fun l => 1 < l.length))
        ⟨u, v, none, none, [], [], rfl, sm, hd1, hd2, hl0, SeenIs.nil, LotsAt.nil _ _⟩ ?_ ?_⟩
      · rintro i σ H3 hi ⟨u, v, x, y, ks, ads, rfl, sm, hd1, hd2, hl1, hS, hL⟩
        have hi' : i < g.length + 1 := by omega
        have G := SS.seen_range hg hl i (by omega)
        rw [show (0 : Int) + (i : Int) = ((i : Nat) : Int) by omega]
        generalize hsn : SS.seenOf (SS.want g lie) (g.length + 1) (List.range i) [] = seen0 at G hS
        refine ⟨_, rfl, Nat.zero_le _, fun q0 nq => ⟨_, _, rfl, ?_⟩⟩
        have sq := same_new (o := .lst []) nq
        have hql : q0 ≠ l := (ne_of_none hl1 nq).symm
        have hq1 : d1 ≠ q0 := ne_of_none hd1 nq
        have hq2 : d2 ≠ q0 := ne_of_none hd2 nq
        have nqH : H q0 = none := sm.free nq
        refine ⟨fun k σ H' => ∃ (x : Nat) (v : List Nat) (ks' : List (Key × V)), σ = [some (.ref a), some (.int (lie : Int)), some (.int ((g.length + 1 : Nat) : Int)), some (.ref d1), some (.ref d2), some (.ref l), u, some (.int ((i : Nat) : Int)), some (.int ((x : Nat) : Int)), some (.ref q0)] ∧
          Same H H' ∧ (∀ b xs, H3 b = some (.lst xs) → H' b = some (.lst xs)) ∧ H' d1 = some (.dK kvs) ∧ H' d2 = some (.dK ks') ∧ H' q0 = some (.lst (nl v)) ∧ SeenIs ks' (v.reverse ++ seen0) ∧
          SS.Way (SS.want g lie) (g.length + 1) seen0 (SS.trace (SS.want g lie) (g.length + 1 + 1) seen0 i) v x k,
          ⟨_, i, [], ks, rfl, sm.trans sq, fun b xs e => sq _ _ e, sq _ _ hd1, sq _ _ hd2, upd_same, hS, SS.Way.start G hi'⟩, ?_⟩
        rintro k σ H4 ⟨x, v, ks', rfl, sm4, kp, hd1', hd2', hq', hS', hw⟩
        refine ⟨_, rfl, _, rfl, d2, _, rfl, DGet.k (k := ik x) hd2', _, rfl, ?_⟩
        rw [hS'.has x]
        by_cases hx : x ∈ v.reverse ++ seen0
        · -- the round is closed
          rw [decide_eq_true hx]
          refine iteF ?_
          have hT := hw.stop hx
          refine ⟨_, rfl, q0, _, rfl, .inl (SqL.of hq'), _, _, rfl, rfl, _, rfl, ?_⟩
          rw [nl_len]
          have er : List.range (i + 1) = List.range i ++ [i] := List.range_succ
          have eS : SS.seenOf (SS.want g lie) (g.length + 1) (List.range (i + 1)) [] = v.reverse ++ seen0 := by
            rw [er, SS.seenOf_snoc, hsn, hT]
          have eL : (SS.lots (SS.want g lie) (g.length + 1) (List.range (i + 1)) []).filter (fun l => 1 < l.length) = (SS.lots (SS.want g lie) (g.length + 1) (List.range i) []).filter (fun l => 1 < l.length) ++ (if 1 < v.length then [v] else []) := by
            rw [er, SS.lots_snoc, hsn, hT, List.filter_append, List.filter_cons, List.filter_nil]
            by_cases h1 : 1 < v.length
            · rw [if_pos (decide_eq_true h1), if_pos h1]
            · rw [if_neg (by simpa using h1), if_neg h1]
          have hL4 : LotsAt H4 l ads ((SS.lots (SS.want g lie) (g.length + 1) (List.range i) []).filter fun l => 1 < l.length) := hL.keep fun b xs _ e => kp b xs e
          have hl4 : H4 l = some (.lst ads) := kp _ _ hl1
          have hal : ads.length ≤ i := by
            rw [hL.1]
            refine Nat.le_trans (List.length_filter_le _ _) ?_
            have : ∀ (r seen : List Nat), (SS.lots (SS.want g lie) (g.length + 1) r seen).length = r.length := fun r => by
              induction r with
              | nil => intro _; rfl
              | cons s r ih => intro seen; show (SS.lots _ _ r _).length + 1 = r.length + 1; rw [ih]
            rw [this, List.length_range]
            exact Nat.le_refl _
          by_cases h1 : 1 < v.length
          · have hd : decide ((v.length : Int) > 1) = true := decide_eq_true (by omega)
            show if decide ((v.length : Int) > 1) = true then _ else _
            rw [hd]
            refine iteT ⟨_, rfl, .inl ⟨rfl, _, SqL.of hl4⟩, _, rfl, l, _, _, rfl, rfl, hl4, szlt (by omega), ?_⟩
            refine ⟨_, _, _, _, ks', ads ++ [.ref q0], rfl, sm4.own e3, ?_, ?_, upd_same, ?_, ?_⟩
            · rw [upd_ne h13]; exact hd1'
            · rw [upd_ne h23]; exact hd2'
            · rw [eS]; exact hS'
            · rw [eL, if_pos h1]
              refine LotsAt.snoc (hL4.keep fun b xs hb e => ?_) hql ?_
              · rw [upd_ne hb]; exact e
              · rw [upd_ne hql]; exact hq'
          · have hd : decide ((v.length : Int) > 1) = false := decide_eq_false (by omega)
            show if decide ((v.length : Int) > 1) = true then _ else _
            rw [hd]
            refine iteF ⟨_, _, _, _, ks', ads, rfl, sm4, hd1', hd2', hl4, ?_, ?_⟩
            · rw [eS]; exact hS'
            · rw [eL, if_neg h1, List.append_nil]; exact hL4
        · -- one more cell
          rw [decide_eq_false hx]
          obtain ⟨j, rfl, hw2⟩ := hw.go (SS.want_lt hg lie) hx
          have hvl := hw.room
          have hksl : ks'.length ≤ g.length + 1 := by
            have h1 := hS'.2
            have h2 := SS.le_of_nodup hw.nd hw.lt
            omega
          have hxl := hw.xl
          refine iteT ⟨fun σ H' => ∃ (x : Nat) (v : List Nat) (ks' : List (Key × V)), σ = [some (.ref a), some (.int (lie : Int)), some (.int ((g.length + 1 : Nat) : Int)), some (.ref d1), some (.ref d2), some (.ref l), u, some (.int ((i : Nat) : Int)), some (.int ((x : Nat) : Int)), some (.ref q0)] ∧
            Same H H' ∧ (∀ b xs, H3 b = some (.lst xs) → H' b = some (.lst xs)) ∧ H' d1 = some (.dK kvs) ∧ H' d2 = some (.dK ks') ∧ H' q0 = some (.lst (nl v)) ∧ SeenIs ks' (v.reverse ++ seen0) ∧
            SS.Way (SS.want g lie) (g.length + 1) seen0 (SS.trace (SS.want g lie) (g.length + 1 + 1) seen0 i) v x j, fun σ' H' hN => ⟨j, Nat.lt_succ_self j, hN⟩, ?_⟩
          refine ⟨_, rfl, _, rfl, d2, _, rfl, DPut.k (k := ik x) hd2' (szlt (by omega)), ?_⟩
          have hq5 : (upd H4 d2 (.dK (putK ks' (ik x) (.bl true)))) q0 = some (.lst (nl v)) := by
            rw [upd_ne hq2.symm]; exact hq'
          refine ⟨_, rfl, .inl ⟨rfl, _, SqL.of hq5⟩, _, rfl, q0, _, _, rfl, rfl, hq5, by rw [nl_len]; exact szlt (by omega), ?_⟩
          have hd15 : (upd (upd H4 d2 (.dK (putK ks' (ik x) (.bl true)))) q0 (.lst (nl v ++ [.int (x : Int)]))) d1 = some (.dK kvs) := by
            rw [upd_ne hq1, upd_ne h12]; exact hd1'
          have hG := DGet.k (k := ik x) hd15
          rw [hW x hxl] at hG
          refine ⟨_, rfl, _, rfl, d1, _, rfl, hG, ?_⟩
          · refine ⟨_, v ++ [x], putK ks' (ik x) (.bl true), rfl, (sm4.own e2).own nqH, fun b xs e => ?_, hd15, ?_, ?_, ?_, hw2⟩
            · rw [upd_ne (ne_of_none e nq), upd_ne (ne_of e hd2 (by intro z; cases z))]
              exact kp b xs e
            · rw [upd_ne hq2, upd_same]
            · rw [upd_same, nl_app]; rfl
            · have := hS'.put x
              rw [show (v ++ [x]).reverse ++ seen0 = x :: (v.reverse ++ seen0) by simp]
              exact this
      · rintro σ H' ⟨u, v, x, y, ks, ads, rfl, sm, hd1, hd2, hl1, hS, hL⟩
        rw [Int.toNat_natCast, ← SS.rounds_eq] at hL
        exact ⟨_, rfl, q H' l ads sm e3 hl1 hL⟩
end
end SSw
namespace SS
theorem rounds_len {g : List Nat} (h : IsPl g) {lie : Nat} (hl : lie < g.length + 1) : ∀ lot ∈ rounds g lie, 1 < lot.length ∧ lot.length ≤ g.length + 1 := by
  intro lot hlot
  unfold rounds at hlot
  rw [List.mem_filter] at hlot
  have h1 : 1 < lot.length := of_decide_eq_true hlot.2
  have D := lots_Dec (want_lt h lie) (want_inj h hl)
  have hm : lot ∈ (lots (want g lie) (g.length + 1) (List.range (g.length + 1)) []).filter fun l => 0 < l.length := List.mem_filter.mpr ⟨hlot.1, decide_eq_true (by omega)⟩
  exact ⟨h1, le_of_nodup (nodup_of_flatten D.nod hm) fun x hx => (D.mem x).mp (List.mem_flatten.mpr ⟨lot, hm, hx⟩)⟩
theorem lots_len (f : Nat → Nat) (m : Nat) : ∀ (r seen : List Nat), (lots f m r seen).length = r.length
  | [], _ => rfl
  | s :: r, seen => by
    show (lots f m r _).length + 1 = r.length + 1
    rw [lots_len f m r]
theorem rounds_num (g : List Nat) (lie : Nat) : (rounds g lie).length ≤ g.length + 1 := by
  unfold rounds
  refine Nat.le_trans (List.length_filter_le _ _) ?_
  rw [lots_len, List.length_range]
  exact Nat.le_refl _
def wfold (n : Nat) (R : List (List Nat)) : W5 := R.foldl (wstep n) ⟨0, 1, 0, 1, 0⟩
theorem wfold_snoc (n : Nat) (R : List (List Nat)) (l : List Nat) : wfold n (R ++ [l]) = wstep n (wfold n R) l := by
  unfold wfold
  rw [List.foldl_append]
  rfl
theorem wfold_take {n i : Nat} {R : List (List Nat)} {l : List Nat} (h : R[i]? = some l) : wfold n (R.take (i + 1)) = wstep n (wfold n (R.take i)) l := by
  rw [List.take_add_one, h]
  exact wfold_snoc n _ l
theorem wfold_bound {n b : Nat} (hb : 1 ≤ b) : ∀ (i : Nat) (R : List (List Nat)), (∀ l ∈ R, l.length ≤ b) → (wfold n (R.take i)).first ≤ b ∧ (wfold n (R.take i)).cells ≤ i * b ∧ (wfold n (R.take i)).apart ≤ i
  | 0, R, _ => by simp [wfold]; exact hb
  | i + 1, R, h => by
    obtain ⟨h1, h2, h3⟩ := wfold_bound hb i R h
    cases e : R[i]? with
    | none =>
      rw [List.take_add_one, e]
      simp only [Option.toList_none, List.append_nil]
      rw [Nat.add_mul]
      exact ⟨h1, by omega, by omega⟩
    | some l =>
      rw [wfold_take e]
      have hl := h l (List.mem_of_getElem? e)
      unfold wstep wsig
      rw [Nat.add_mul]
      split
      · exact ⟨hl, by show _ ≤ _; simp only; omega, by show _ ≤ _; simp only; omega⟩
      · exact ⟨h1, by show _ ≤ _; simp only [sig]; omega, by show _ ≤ _; simp only; omega⟩
theorem worth_wfold (g : List Nat) (lie : Nat) : worth g lie = wend (wfold g.length (rounds g lie)) := rfl
theorem wstep_in {n : Nat} {z : W5} {l : List Nat} (h : n ∈ l) : wstep n z l = ⟨z.value + l.length - 1, l.length, z.cells, z.ways, z.apart⟩ := by
  unfold wstep wsig sig
  rw [if_pos (by simpa using h)]
theorem wstep_out {n : Nat} {z : W5} {l : List Nat} (h : n ∉ l) : wstep n z l = ⟨z.value + l.length + 1, z.first, z.cells + l.length, z.ways * l.length, z.apart + 1⟩ := by
  unfold wstep wsig sig
  rw [if_neg (by simpa using h)]
end SS
namespace SSw
open PySem PySem.Spec PyProof.Rows L2
theorem inV_nl (x : Nat) (g : List Nat) : inV (.int (x : Int)) (nl g) = decide (x ∈ g) := by
  unfold inV nl
  rw [List.any_map]
  by_cases h : x ∈ g
  · rw [decide_eq_true h]
    refine List.any_eq_true.mpr ⟨x, h, ?_⟩
    show ((x : Int) == (x : Int)) = true
    simp
  · rw [decide_eq_false h]
    refine List.any_eq_false.mpr fun y hy e => h ?_
    have e' : ((y : Int) == (x : Int)) = true := e
    have : y = x := by
      have := beq_iff_eq.mp e'
      omega
    exact this ▸ hy
section
variable {P : Program} {w : World} {K : PySem.W.Frag} {mg : Str → Option Value} {base : Heap}
/-! ### lie_worth -/
theorem scWorth : FnScope ["placing", "lie", "hole", "value", "cells", "ways", "apart", "first", "lot", "number"] ["placing", "lie"] (defScope sWorth) := ⟨rfl, rfl, rfl, by decide +kernel, rfl, by decide +kernel, by decide +kernel⟩
def spWorth : Sp := fun vs H Q _ => ∃ (a : Addr) (g : List Nat) (lie : Nat), vs = [.ref a, .int (lie : Int)] ∧ H a = some (.lst (nl g)) ∧ SS.IsPl g ∧ lie < g.length + 1 ∧ g.length ≤ 1000 ∧
  ∀ H' t, Same H H' → H t = none → H' t = some (.tup [.int (((SS.worth g lie).1 : Nat) : Int), .int (((SS.worth g lie).2 : Nat) : Int)]) → Q (.ref t) H'
theorem ok_worth {f f1 : Addr} {fd fd1 : FuncData} (F : Fun K "lie_worth" "lie_worth" sWorth f fd) (mn : mg "len" = none) (mr : mg "range" = none)
    (F1 : Fun K "lie_rounds" "lie_rounds" sRounds f1 fd1) (b1 : Binds K fd1 ["placing", "lie"] []) (g1 : mg "lie_rounds" = some (.ref f1)) (G1 : FnOk P w K mg base CX0 1 f1 fd1 ["placing", "lie"] spRounds) : FnOk P w K mg base CX0 2 f fd ["placing", "lie"] spWorth := by
  refine F.ok scWorth (fun vs H Q E h => ?_) (fun cdv A outer s H vs Q E hr h => ?_)
  · obtain ⟨a, g, lie, rfl, _⟩ := h
    rfl
  · obtain ⟨a, g, lie, rfl, ha, hg, hl, hn, q⟩ := h
    have nd := scWorth.nd
    refine ⟨_, pss_cons (ps_asg (pe_tup (pa_cons (pe_callB call_len_seq (by rfl) mn PySem.boot_len (pa_cons (pv 0) pa_nil)) (pa_cons pe_int (pa_cons pe_int (pa_cons pe_int (pa_cons pe_int pa_nil))))))
        (pg_tup rfl (pgs_cons (pg_name (i := 2) nd rfl (.inl rfl)) (pgs_cons (pg_name (i := 3) nd rfl (.inl rfl)) (pgs_cons (pg_name (i := 4) nd rfl (.inl rfl)) (pgs_cons (pg_name (i := 5) nd rfl (.inl rfl)) (pgs_cons (pg_name (i := 6) nd rfl (.inl rfl)) pgs_nil)))))))
      (pss_cons (ps_set (i := 7) nd rfl (.inl rfl) pe_int)
      (pss_cons (ps_for PassesOwn.never rfl (pi_list (pe_call G1 hr (by rfl) g1 F1.kp b1 .nil pass0 (pa_cons (pv 0) (pa_cons (pv 1) pa_nil)))) (pg_name (i := 8) nd rfl (.inl rfl))
        (pss_one (ps_if (pt_cmpR op_in_seq (pv 2) (pv 8) (by rfl))
          (pss_one (ps_par (i := 3) (j := 7) (by rfl) nd rfl rfl (by decide) rfl rfl (pa_cons (pe_op op_sub (pe_op op_add (pv 3) (pe_callB call_len_seq (by rfl) mn PySem.boot_len (pa_cons (pv 8) pa_nil))) pe_int) (pa_cons (pe_callB call_len_seq (by rfl) mn PySem.boot_len (pa_cons (pv 8) pa_nil)) pa_nil)) (by rfl)))
          (pss_one (ps_asg (pe_tup (pa_cons (pe_op op_add (pe_op op_add (pv 3) (pe_callB call_len_seq (by rfl) mn PySem.boot_len (pa_cons (pv 8) pa_nil))) pe_int) (pa_cons (pe_op op_add (pv 4) (pe_callB call_len_seq (by rfl) mn PySem.boot_len (pa_cons (pv 8) pa_nil)))
              (pa_cons (pe_op op_mul (pv 5) (pe_callB call_len_seq (by rfl) mn PySem.boot_len (pa_cons (pv 8) pa_nil))) (pa_cons (pe_op op_add (pv 6) pe_int) pa_nil)))))
            (pg_tup rfl (pgs_cons (pg_name (i := 3) nd rfl (.inl rfl)) (pgs_cons (pg_name (i := 4) nd rfl (.inl rfl)) (pgs_cons (pg_name (i := 5) nd rfl (.inl rfl)) (pgs_cons (pg_name (i := 6) nd rfl (.inl rfl)) pgs_nil))))))))))
      (pss_cons (ps_for PassesOwn.never rfl (pi_range2 (by rfl) mr (pa_cons (pe_op op_add (pe_op op_add (pv 7) (pv 4)) pe_int) (pa_cons (pe_op op_add (pe_op op_add (pv 7) (pv 4)) (pv 6)) pa_nil))) (pg_name (i := 9) nd rfl (.inl rfl))
        (pss_one (ps_set (i := 5) nd rfl (.inl rfl) (pe_op op_mul (pv 5) (pv 9)))))
      (pss_one (ps_ret (pe_tup (pa_cons (pv 3) (pa_cons (pe_ifExp (pt_cmpR op_gt (pv 6) pe_int (nomark _)) (pe_op op_mul (pv 7) (pv 5)) pe_int) pa_nil)))))))), ?_⟩
    refine ⟨_, rfl, a, _, rfl, .inl (SqL.of ha), szl (by simp), fun t n1 => ?_⟩
    have s1 := same_new (o := .tup [.int ((nl g).length : Int), .int 0, .int 0, .int 1, .int 0]) n1
    refine ⟨t, _, rfl, SqT.of upd_same, rfl, _, _, rfl, _, _, rfl, _, _, rfl, _, _, rfl, _, _, rfl, rfl, ?_⟩
    refine ⟨_, rfl, _, rfl, a, g, lie, rfl, s1 _ _ ha, hg, hl, hn, fun H1 l ads s2 nl0 hl0 hL => ?_⟩
    have sA := s1.trans s2
    have hRl := SS.rounds_len hg hl
    have hRn := SS.rounds_num g lie
    have hB := fun i => SS.wfold_bound (n := g.length) (b := g.length + 1) (by omega) i (SS.rounds g lie) fun l hl => (hRl l hl).2
    refine ⟨l, rfl, ⟨_, SqL.of hl0⟩, for_list (K := K) (a := l) (xs := ads) (fun i σ H' => ∃ (u : Option V), σ = [some (.ref a), some (.int (lie : Int)), some (.int (g.length : Int)), some (.int (((SS.wfold g.length ((SS.rounds g lie).take i)).value : Nat) : Int)), some (.int (((SS.wfold g.length ((SS.rounds g lie).take i)).cells : Nat) : Int)),
        some (.int (((SS.wfold g.length ((SS.rounds g lie).take i)).ways : Nat) : Int)), some (.int (((SS.wfold g.length ((SS.rounds g lie).take i)).apart : Nat) : Int)), some (.int (((SS.wfold g.length ((SS.rounds g lie).take i)).first : Nat) : Int)), u, none] ∧ Same H1 H')
      ⟨none, by rw [nl_len]; rfl, Same.refl _⟩ (fun i σ H' _ ⟨_, _, sm⟩ => SqL.of (sm _ _ hl0)) ?_ ?_⟩
    · rintro i x σ H' hx ⟨u, rfl, sm⟩
      have hi : i < (SS.rounds g lie).length := by rw [← hL.1]; exact (List.getElem?_eq_some_iff.mp hx).1
      obtain ⟨b, hb1, hb2, hb3⟩ := hL.2 i _ (List.getElem?_eq_getElem hi)
      have hx2 : x = .ref b := Option.some.inj (hx.symm.trans hb1)
      subst hx2
      have ht := SS.wfold_take (n := g.length) (List.getElem?_eq_getElem hi)
      obtain ⟨hl1, hl2⟩ := hRl _ (List.getElem_mem hi)
      generalize (SS.rounds g lie)[i] = lot at hb3 ht hl1 hl2
      obtain ⟨c1, c2, c3⟩ := hB i
      generalize SS.wfold g.length ((SS.rounds g lie).take i) = z at ht c1 c2 c3
      have hb := sm _ _ hb3
      refine ⟨_, rfl, _, rfl, b, _, rfl, .inl (SqL.of hb), rfl, nl_flat _, _, rfl, ?_⟩
      show if inV (.int ((g.length : Nat) : Int)) (nl lot) = true then _ else _
      rw [inV_nl]
      by_cases hin : g.length ∈ lot
      · rw [decide_eq_true hin]
        refine iteT ⟨_, rfl, _, rfl, b, _, rfl, .inl (SqL.of hb), _, _, rfl, rfl, _, _, rfl, rfl, _, rfl, b, _, rfl, .inl (SqL.of hb), _, _, rfl, some (.ref b), ?_, sm⟩
        rw [ht, SS.wstep_in hin, nl_len]
        have : ((z.value : Int) + (lot.length : Int) - 1) = ((z.value + lot.length - 1 : Nat) : Int) := by omega
        show [_, _, _, some (V.int ((z.value : Int) + (lot.length : Int) - 1)), _, _, _, _, _, _] = _
        rw [this]
      · rw [decide_eq_false hin]
        refine iteF ⟨_, rfl, _, rfl, b, _, rfl, .inl (SqL.of hb), _, _, rfl, rfl, _, _, rfl, rfl, _, rfl, _, rfl, b, _, rfl, .inl (SqL.of hb), _, _, rfl, rfl, _, rfl, _, rfl, b, _, rfl, .inl (SqL.of hb), _, _, rfl, rfl, ?_, _, rfl, _, _, rfl, rfl, szl (by simp), fun t2 n2 => ?_⟩
        · rw [nl_len]
          exact .inr ⟨by omega, by omega⟩
        · refine ⟨t2, _, rfl, SqT.of upd_same, rfl, _, _, rfl, _, _, rfl, _, _, rfl, _, _, rfl, rfl, some (.ref b), ?_, sm.new n2⟩
          rw [ht, SS.wstep_out hin, nl_len]
          simp only [Int.natCast_add, Int.natCast_mul]
          rfl
    · rintro σ H2 ⟨u, rfl, sm⟩
      have hal : ads.length = (SS.rounds g lie).length := hL.1
      rw [hal, List.take_length]
      have hw := SS.worth_wfold g lie
      obtain ⟨c1, c2, c3⟩ := hB (SS.rounds g lie).length
      rw [List.take_length] at c1 c2 c3
      have c4 : (SS.rounds g lie).length * (g.length + 1) ≤ 1001 * 1001 := Nat.mul_le_mul (by omega) (by omega)
      generalize SS.wfold g.length (SS.rounds g lie) = z at hw c1 c2 c3
      have elo : ((z.first : Int) + (z.cells : Int) + 1) = ((z.first + z.cells + 1 : Nat) : Int) := by omega
      have ehi : ((z.first : Int) + (z.cells : Int) + (z.apart : Int)) = ((z.first + z.cells + z.apart : Nat) : Int) := by omega
      have en : (((z.first : Int) + (z.cells : Int) + (z.apart : Int)) - ((z.first : Int) + (z.cells : Int) + 1)).toNat = z.apart - 1 := by omega
      refine ⟨_, rfl, _, rfl, _, _, rfl, rfl, _, _, rfl, rfl, _, rfl, _, rfl, _, _, rfl, rfl, _, rfl, _, _, rfl, rfl, _, _, rfl, ⟨by omega, by omega, by omega, by omega⟩, ?_⟩
      refine for_range (lo := (z.first : Int) + (z.cells : Int) + 1) (n := (((z.first : Int) + (z.cells : Int) + (z.apart : Int)) - ((z.first : Int) + (z.cells : Int) + 1)).toNat) (fun j σ H' => ∃ (v : Option V), σ = [some (.ref a), some (.int (lie : Int)), some (.int (g.length : Int)), some (.int ((z.value : Nat) : Int)), some (.int ((z.cells : Nat) : Int)),
        some (.int ((((List.range j).foldl (fun w i => w * (z.first + z.cells + 1 + i)) z.ways : Nat)) : Int)), some (.int ((z.apart : Nat) : Int)), some (.int ((z.first : Nat) : Int)), u, v] ∧ H' = H2) ⟨none, rfl, rfl⟩ ?_ ?_
      · rintro j σ H3 hj ⟨v, rfl, rfl⟩
        rw [en] at hj
        refine ⟨_, rfl, _, rfl, _, _, rfl, rfl, .inr ⟨by omega, by omega⟩, some (.int ((z.first : Int) + (z.cells : Int) + 1 + (j : Int))), ?_, rfl⟩
        rw [List.range_succ, List.foldl_append]
        simp only [List.foldl_cons, List.foldl_nil]
        rw [Int.natCast_mul, show ((z.first + z.cells + 1 + j : Nat) : Int) = (z.first : Int) + (z.cells : Int) + 1 + (j : Int) by omega]
        rfl
      · rintro σ H3 ⟨v, rfl, rfl⟩
        rw [en]
        have hfin : ∀ H' t, H3 t = none → H' = upd H3 t (.tup [.int (((SS.worth g lie).1 : Nat) : Int), .int (((SS.worth g lie).2 : Nat) : Int)]) → Q (.ref t) H' := fun H' t nt e => by
          rw [e]
          exact q _ t ((sA.trans sm).new nt) ((sA.trans sm).free nt) upd_same
        refine ⟨_, rfl, _, rfl, _, _, rfl, rfl, ?_⟩
        rw [hw] at hfin
        unfold SS.wend at hfin
        by_cases hap : 0 < z.apart
        · refine ⟨_, rfl, ?_⟩
          show if decide ((z.apart : Int) > 0) = true then _ else _
          rw [decide_eq_true (by omega : (z.apart : Int) > 0)]
          refine iteT ⟨_, rfl, _, rfl, _, _, rfl, rfl, .inl ⟨by omega, by omega⟩, szl (by simp), fun t nt => hfin _ t nt ?_⟩
          rw [if_pos hap, Int.natCast_mul]
        · refine ⟨_, rfl, ?_⟩
          show if decide ((z.apart : Int) > 0) = true then _ else _
          rw [decide_eq_false (by omega : ¬ (z.apart : Int) > 0)]
          refine iteF ⟨szl (by simp), fun t nt => hfin _ t nt ?_⟩
          rw [if_neg hap]
          rfl
end
end SSw
namespace SSw
open PySem PySem.Spec PyProof.Rows L2
/-- pairs of counts, each at an address -/
def PairsAt (H : Hp) (D : Addr) (ads : List V) (L : List (Nat × Nat)) : Prop := ads.length = L.length ∧ ∀ (i : Nat) p, L[i]? = some p → ∃ b, ads[i]? = some (.ref b) ∧ b ≠ D ∧ H b = some (.tup [.int ((p.1 : Nat) : Int), .int ((p.2 : Nat) : Int)])
theorem PairsAt.keep {H H' : Hp} {D : Addr} {ads : List V} {L : List (Nat × Nat)} (h : PairsAt H D ads L) (s : Keep D H H') : PairsAt H' D ads L := ⟨h.1, fun i p e => by
  obtain ⟨b, h1, h2, h3⟩ := h.2 i p e
  exact ⟨b, h1, h2, s _ _ h2 h3⟩⟩
theorem PairsAt.snoc {H : Hp} {D b : Addr} {ads : List V} {L : List (Nat × Nat)} {p : Nat × Nat} (h : PairsAt H D ads L) (hb : b ≠ D) (hh : H b = some (.tup [.int ((p.1 : Nat) : Int), .int ((p.2 : Nat) : Int)])) : PairsAt H D (ads ++ [.ref b]) (L ++ [p]) := by
  refine ⟨by simp [h.1], fun i lo e => ?_⟩
  by_cases hi : i < L.length
  · rw [List.getElem?_append_left hi] at e
    obtain ⟨c, h1, h2, h3⟩ := h.2 i lo e
    exact ⟨c, by rw [List.getElem?_append_left (by rw [h.1]; exact hi)]; exact h1, h2, h3⟩
  · by_cases hi2 : i = L.length
    · subst hi2
      rw [List.getElem?_append_right (Nat.le_refl _), Nat.sub_self] at e
      have : p = lo := Option.some.inj e
      subst this
      exact ⟨b, by rw [← h.1, List.getElem?_append_right (Nat.le_refl _), Nat.sub_self]; rfl, hb, hh⟩
    · rw [List.getElem?_eq_none (by simp; omega)] at e
      cases e
theorem PairsAt.nil (H : Hp) (D : Addr) : PairsAt H D [] [] := ⟨rfl, fun i p e => by simp at e⟩
def zs (g : List Nat) : List Int := g.map fun x => ((x : Nat) : Int)
theorem zs_nl (g : List Nat) : (zs g).map V.int = nl g := by
  unfold zs nl
  rw [List.map_map]
  rfl
theorem zs_sum : ∀ g : List Nat, (zs g).sum = ((g.sum : Nat) : Int)
  | [] => rfl
  | x :: g => by
    show (x : Int) + (zs g).sum = _
    rw [zs_sum g, List.sum_cons]
    omega
theorem zs_min {g : List Nat} {m : Int} (h : m ∈ zs g) (hl : ∀ x ∈ zs g, m ≤ x) : m = ((SS.minL g : Nat) : Int) := by
  obtain ⟨x, hx, rfl⟩ := List.mem_map.mp h
  have : SS.minL g = x := SS.minL_eq hx fun y hy => by
    have := hl (y : Int) (List.mem_map.mpr ⟨y, hy, rfl⟩)
    omega
  rw [this]
theorem filter_take {α : Type} (c : α → Bool) {L : List α} {i : Nat} {x : α} (h : L[i]? = some x) : (L.take (i + 1)).filter c = (L.take i).filter c ++ (if c x then [x] else []) := by
  rw [List.take_add_one, h, List.filter_append]
  congr 1
  show List.filter c [x] = _
  rw [List.filter_cons]
  rfl
section
variable {P : Program} {w : World} {K : PySem.W.Frag} {mg : Str → Option Value} {base : Heap}
/-! ### best_worths -/
abbrev nBest : List Str := ["placing", "worths", "least", "lie", "value", "_", "ways"]
theorem scBest : FnScope nBest ["placing"] (defScope sBest) := ⟨rfl, rfl, rfl, by decide +kernel, rfl, by decide +kernel, by decide +kernel⟩
def spBest : Sp := fun vs H Q _ => ∃ (a : Addr) (g : List Nat), vs = [.ref a] ∧ H a = some (.lst (nl g)) ∧ SS.IsPl g ∧ g.length ≤ 1000 ∧
  ∀ H' t, Same H H' → H t = none → H' t = some (.tup [.int (((SS.best g).1 : Nat) : Int), .int (((SS.best g).2 : Nat) : Int)]) → Q (.ref t) H'
theorem ok_best {f f1 : Addr} {fd fd1 : FuncData} (F : Fun K "best_worths" "best_worths" sBest f fd) (mn : mg "len" = none) (mr : mg "range" = none) (mm : mg "min" = none) (ms : mg "sum" = none)
    (F1 : Fun K "lie_worth" "lie_worth" sWorth f1 fd1) (b1 : Binds K fd1 ["placing", "lie"] []) (g1 : mg "lie_worth" = some (.ref f1)) (G1 : FnOk P w K mg base CX0 2 f1 fd1 ["placing", "lie"] spWorth) : FnOk P w K mg base CX0 3 f fd ["placing"] spBest := by
  refine F.ok scBest (fun vs H Q E h => ?_) (fun cdv A outer s H vs Q E hr h => ?_)
  · obtain ⟨a, g, rfl, _⟩ := h
    rfl
  · obtain ⟨a, g, rfl, ha, hg, hn, q⟩ := h
    have nd := scBest.nd
    refine ⟨_, pss_cons (ps_setLc (i := 1) (own := [("lie", 3)]) (g := gName 3) (tt := tYes) rfl nd rfl rfl (sw_true rfl rfl rfl (by decide +kernel)) (pi_range1 rfl mr (pa_cons (pe_op op_add (pe_callB call_len_seq (by rfl) mn PySem.boot_len (pa_cons (pv 0) pa_nil)) pe_int) pa_nil))
          (blkOk_by (own := [("lie", 3)]) (N := nBest) (sc := defScope sBest) (by decide +kernel)) (fun _ _ _ _ _ => pg_name (i := 3) nd rfl (.inl rfl)) (fun _ _ _ _ _ => pts_nil)
          (fun _ _ _ _ _ => pe_call G1 hr (by rfl) g1 F1.kp b1 .nil pass0 (pa_cons (pv 0) (pa_cons (pv 3) pa_nil))))
      (pss_cons (ps_set (i := 2) nd rfl (.inr rfl) (pe_callB (cr_min rfl) (by rfl) mm (by decide +kernel) (pa_cons (pe_lc (own := [("value", 4), ("_", 5)]) (g := gTup K 2 (gCons (gName 4) (gCons (gName 5) gNil))) (tt := tYes) rfl nd (pi_list (pv 1))
          (blkOk_by (own := [("value", 4), ("_", 5)]) (N := nBest) (sc := defScope sBest) (by decide +kernel)) (fun _ _ _ _ _ => pg_tup rfl (pgs_cons (pg_name (i := 4) nd rfl (.inl rfl)) (pgs_cons (pg_name (i := 5) nd rfl (.inl rfl)) pgs_nil))) (fun _ _ _ _ _ => pts_nil) (fun _ _ _ _ _ => pv 4)) pa_nil)))
      (pss_one (ps_ret (pe_tup (pa_cons (pv 2) (pa_cons (pe_callB (cr_sum rfl) (by rfl) ms (by decide +kernel) (pa_cons (pe_lc (own := [("value", 4), ("ways", 6)]) (g := gTup K 2 (gCons (gName 4) (gCons (gName 6) gNil))) rfl nd (pi_list (pv 1))
          (blkOk_by (own := [("value", 4), ("ways", 6)]) (N := nBest) (sc := defScope sBest) (by decide +kernel)) (fun _ _ _ _ _ => pg_tup rfl (pgs_cons (pg_name (i := 4) nd rfl (.inl rfl)) (pgs_cons (pg_name (i := 6) nd rfl (.inl rfl)) pgs_nil)))
          (fun _ _ _ _ _ => pts_one (pt_cmpR op_eq (pv 4) (pv 2) (nomark _))) (fun _ _ _ _ _ => pv 6)) pa_nil)) pa_nil)))))), ?_⟩
    have ew : SS.worths g = (List.range (g.length + 1)).map (SS.worth g) := rfl
    refine ⟨_, rfl, a, _, rfl, .inl (SqL.of ha), _, _, rfl, rfl, _, rfl, by rw [nl_len]; omega, by rw [nl_len]; omega, fun D nD => lc_range (lo := 0) (n := (((nl g).length : Int) + 1).toNat) (fun i H' => Same H H' ∧ ∃ ads, H' D = some (.lst ads) ∧ PairsAt H' D ads ((List.range i).map (SS.worth g)))
      ⟨same_new nD, [], upd_same, PairsAt.nil _ _⟩ (fun i H' hi hp => ?_) (fun H1 hp => ?_)⟩
    · obtain ⟨sm, ads, hD, hP⟩ := hp
      rw [nl_len] at hi
      refine ⟨rfl, _, rfl, _, rfl, a, g, i, by rw [Int.zero_add]; rfl, sm _ _ ha, hg, by omega, hn, fun H2 t s2 nt ht => ?_⟩
      have hlen : ads.length = i := by rw [hP.1, List.length_map, List.length_range]
      have htD : t ≠ D := (ne_of_none hD nt).symm
      refine ⟨ads, s2 _ _ hD, szlt (by omega), (sm.trans s2).own nD, ads ++ [.ref t], upd_same, ?_⟩
      rw [List.range_succ, List.map_append]
      refine PairsAt.snoc (hP.keep fun b o hb e => ?_) htD ?_
      · rw [upd_ne hb]
        exact s2 _ _ e
      · rw [upd_ne htD]
        exact ht
    · obtain ⟨sm, ads, hD, hP⟩ := hp
      have e1 : (((nl g).length : Int) + 1).toNat = g.length + 1 := by rw [nl_len]; omega
      rw [e1, ← ew] at hP
      have hlen : ads.length = g.length + 1 := by rw [hP.1, ew, List.length_map, List.length_range]
      have hadl : ∀ (i : Nat) (x : V), ads[i]? = some x → ∃ (p : Nat × Nat) (b : Addr), (SS.worths g)[i]? = some p ∧ x = .ref b ∧ b ≠ D ∧ H1 b = some (.tup [.int ((p.1 : Nat) : Int), .int ((p.2 : Nat) : Int)]) := fun i x hx => by
        have hi : i < (SS.worths g).length := by rw [← hP.1]; exact (List.getElem?_eq_some_iff.mp hx).1
        obtain ⟨b, hb1, hb2, hb3⟩ := hP.2 i _ (List.getElem?_eq_getElem hi)
        exact ⟨_, b, List.getElem?_eq_getElem hi, Option.some.inj (hx.symm.trans hb1), hb2, hb3⟩
      -- least
      refine ⟨_, rfl, D, rfl, ⟨_, SqL.of hD⟩, fun D2 n2 => lc_list (K := K) (a := D) (xs := ads) (fun i H' => Same H1 H' ∧ H' D2 = some (.lst (nl (((SS.worths g).take i).map (·.1)))))
        ⟨same_new n2, upd_same⟩ (fun i H' _ hp => SqL.of (hp.1 _ _ hD)) (fun i x H' hx hp => ?_) (fun H2 hp => ?_)⟩
      · obtain ⟨p, b, hpi, rfl, hbD, hb⟩ := hadl i x hx
        refine ⟨b, _, rfl, SqT.of (hp.1 _ _ hb), rfl, _, _, rfl, _, _, rfl, rfl, rfl, _, rfl, _, hp.2, ?_, hp.1.own n2, ?_⟩
        · rw [nl_len, List.length_map, List.length_take]
          exact szlt (by have := hP.1; omega)
        · rw [upd_same, List.take_add_one, hpi, List.map_append, nl_app]
          rfl
      · obtain ⟨sm2, hD2⟩ := hp
        have et : (SS.worths g).take ads.length = SS.worths g := List.take_of_length_le (by rw [hP.1]; exact Nat.le_refl _)
        rw [et, ← zs_nl] at hD2
        have hne : 0 < (zs ((SS.worths g).map (·.1))).length := by
          unfold zs
          rw [List.length_map, List.length_map, ← hP.1, hlen]
          omega
        refine ⟨D2, _, rfl, SqL.of hD2, hne, fun m hm hle => ?_⟩
        have hmm := zs_min hm hle
        subst hmm
        have eb : SS.minL ((SS.worths g).map (·.1)) = (SS.best g).1 := rfl
        rw [eb]
        -- the sum
        have hD' := sm2 _ _ hD
        refine ⟨_, rfl, _, rfl, D, rfl, ⟨_, SqL.of hD'⟩, fun D3 n3 => lc_list (K := K) (a := D) (xs := ads) (fun i H' => Same H2 H' ∧ H' D3 = some (.lst (nl ((((SS.worths g).take i).filter fun w => w.1 == (SS.best g).1).map (·.2)))))
          ⟨same_new n3, upd_same⟩ (fun i H' _ hp => SqL.of (hp.1 _ _ hD')) (fun i x H' hx hp => ?_) (fun H3 hp => ?_)⟩
        · obtain ⟨p, b, hpi, rfl, hbD, hb⟩ := hadl i x hx
          have hf := filter_take (fun w : Nat × Nat => w.1 == (SS.best g).1) hpi
          refine ⟨b, _, rfl, SqT.of (hp.1 _ _ (sm2 _ _ hb)), rfl, _, _, rfl, _, _, rfl, rfl, rfl, _, rfl, _, rfl, rfl, ?_⟩
          refine ⟨_, rfl, ?_⟩
          by_cases e : p.1 = (SS.best g).1
          · rw [if_pos (beq_iff_eq.mpr e)] at hf
            have hd : decide (V.int ((p.1 : Nat) : Int) = V.int (((SS.best g).1 : Nat) : Int)) = true := decide_eq_true (by rw [e])
            rw [hd]
            refine iteT ⟨_, rfl, _, hp.2, ?_, hp.1.own n3, ?_⟩
            · rw [nl_len, List.length_map]
              refine szlt (Nat.le_trans (List.length_filter_le _ _) ?_)
              rw [List.length_take]
              have := hP.1
              omega
            · rw [upd_same, hf, List.map_append, nl_app]
              rfl
          · rw [if_neg (fun z => e (beq_iff_eq.mp z)), List.append_nil] at hf
            have hd : decide (V.int ((p.1 : Nat) : Int) = V.int (((SS.best g).1 : Nat) : Int)) = false := decide_eq_false (fun z => e (Int.ofNat.inj (V.int.inj z)))
            rw [hd]
            refine iteF ⟨hp.1, ?_⟩
            rw [hf]
            exact hp.2
        · obtain ⟨sm3, hD3⟩ := hp
          rw [et, ← zs_nl] at hD3
          refine ⟨D3, _, rfl, SqL.of hD3, szl (by simp), fun t nt => ?_⟩
          rw [zs_sum]
          have sA := sm.trans (sm2.trans sm3)
          exact q _ t (sA.new nt) (sA.free nt) upd_same
/-! ### fewest_places, how_many_programs -/
theorem scFewest : FnScope ["placing"] ["placing"] (defScope sFewest) := ⟨rfl, rfl, rfl, by decide +kernel, rfl, by decide +kernel, by decide +kernel⟩
theorem scHowMany : FnScope ["placing"] ["placing"] (defScope sHowMany) := ⟨rfl, rfl, rfl, by decide +kernel, rfl, by decide +kernel, by decide +kernel⟩
def spFewest : Sp := fun vs H Q _ => ∃ (a : Addr) (g : List Nat), vs = [.ref a] ∧ H a = some (.lst (nl g)) ∧ SS.IsPl g ∧ g.length ≤ 60 ∧ ∀ H', Same H H' → Q (.int (((SS.best g).1 : Nat) : Int)) H'
def spHowMany : Sp := fun vs H Q _ => ∃ (a : Addr) (g : List Nat), vs = [.ref a] ∧ H a = some (.lst (nl g)) ∧ SS.IsPl g ∧ g.length ≤ 60 ∧ ∀ H', Same H H' → Q (.int (((SS.best g).2 : Nat) : Int)) H'
theorem ok_fewest {f f1 f2 : Addr} {fd fd1 fd2 : FuncData} (F : Fun K "fewest_places" "fewest_places" sFewest f fd)
    (F1 : Fun K "check_placing" "check_placing" sChPl f1 fd1) (b1 : Binds K fd1 ["placing"] []) (g1 : mg "check_placing" = some (.ref f1)) (G1 : FnOk P w K mg base CX0 3 f1 fd1 ["placing"] spChPl)
    (F2 : Fun K "best_worths" "best_worths" sBest f2 fd2) (b2 : Binds K fd2 ["placing"] []) (g2 : mg "best_worths" = some (.ref f2)) (G2 : FnOk P w K mg base CX0 3 f2 fd2 ["placing"] spBest) : FnOk P w K mg base CX0 4 f fd ["placing"] spFewest := by
  refine F.ok scFewest (fun vs H Q E h => ?_) (fun cdv A outer s H vs Q E hr h => ?_)
  · obtain ⟨a, g, rfl, _⟩ := h
    rfl
  · obtain ⟨a, g, rfl, ha, hg, hn, q⟩ := h
    refine ⟨_, pss_cons (ps_expr (pe_call G1 hr (by rfl) g1 F1.kp b1 .nil pass0 (pa_cons (pv 0) pa_nil)))
      (pss_one (ps_ret (pe_ix ix_tup (pe_call G2 hr (by rfl) g2 F2.kp b2 .nil pass0 (pa_cons (pv 0) pa_nil)) pe_int (fun _ _ => rfl)))), ?_⟩
    refine ⟨_, rfl, a, g, rfl, ha, hg, hn, fun H1 s1 => ⟨_, rfl, a, g, rfl, s1 _ _ ha, hg, by omega, fun H2 t s2 nt ht => ?_⟩⟩
    exact ⟨t, _, _, _, rfl, rfl, SqT.of ht, atI_nat (j := 0) rfl, q H2 (s1.trans s2)⟩
theorem ok_howMany {f f1 f2 : Addr} {fd fd1 fd2 : FuncData} (F : Fun K "how_many_programs" "how_many_programs" sHowMany f fd)
    (F1 : Fun K "check_placing" "check_placing" sChPl f1 fd1) (b1 : Binds K fd1 ["placing"] []) (g1 : mg "check_placing" = some (.ref f1)) (G1 : FnOk P w K mg base CX0 3 f1 fd1 ["placing"] spChPl)
    (F2 : Fun K "best_worths" "best_worths" sBest f2 fd2) (b2 : Binds K fd2 ["placing"] []) (g2 : mg "best_worths" = some (.ref f2)) (G2 : FnOk P w K mg base CX0 3 f2 fd2 ["placing"] spBest) : FnOk P w K mg base CX0 4 f fd ["placing"] spHowMany := by
  refine F.ok scHowMany (fun vs H Q E h => ?_) (fun cdv A outer s H vs Q E hr h => ?_)
  · obtain ⟨a, g, rfl, _⟩ := h
    rfl
  · obtain ⟨a, g, rfl, ha, hg, hn, q⟩ := h
    refine ⟨_, pss_cons (ps_expr (pe_call G1 hr (by rfl) g1 F1.kp b1 .nil pass0 (pa_cons (pv 0) pa_nil)))
      (pss_one (ps_ret (pe_ix ix_tup (pe_call G2 hr (by rfl) g2 F2.kp b2 .nil pass0 (pa_cons (pv 0) pa_nil)) pe_int (fun _ _ => rfl)))), ?_⟩
    refine ⟨_, rfl, a, g, rfl, ha, hg, hn, fun H1 s1 => ⟨_, rfl, a, g, rfl, s1 _ _ ha, hg, by omega, fun H2 t s2 nt ht => ?_⟩⟩
    exact ⟨t, _, _, _, rfl, rfl, SqT.of ht, atI_nat (j := 1) rfl, q H2 (s1.trans s2)⟩
end
end SSw
namespace SS
theorem firstProg_step {k p : Nat} {g : List Nat} (hp : p < g.length) (hb : (best (before g p)).1 = k) (hn : ∀ j, j < p → (best (before g j)).1 ≠ k) : firstProg (k + 1) g = p :: firstProg k (before g p) := by
  have hf : (List.range g.length).find? (fun p => (best (before g p)).1 == k) = some p := by
    rw [List.find?_range_eq_some]
    refine ⟨beq_iff_eq.mpr hb, List.mem_range.mpr hp, fun j hj => ?_⟩
    have := hn j hj
    simpa using this
  rw [firstProg, hf]
end SS
namespace SSw
open PySem PySem.Spec PyProof.Rows L2
section
variable {P : Program} {w : World} {K : PySem.W.Frag} {mg : Str → Option Value} {base : Heap}
/-! ### first_of, first_program -/
theorem scFirstOf : FnScope ["placing", "found", "left", "place", "later"] ["placing"] (defScope sFirstOf) := ⟨rfl, rfl, rfl, by decide +kernel, rfl, by decide +kernel, by decide +kernel⟩
def spFirstOf : Sp := fun vs H Q _ => ∃ (a : Addr) (g : List Nat), vs = [.ref a] ∧ H a = some (.lst (nl g)) ∧ SS.IsPl g ∧ g.length ≤ 60 ∧ ∀ H' l, Same H H' → H l = none → H' l = some (.lst (nl (SS.firstProgram g))) → Q (.ref l) H'
theorem ok_firstOf {f f1 f2 : Addr} {fd fd1 fd2 : FuncData} (F : Fun K "first_of" "first_of" sFirstOf f fd) (mn : mg "len" = none) (mr : mg "range" = none)
    (F1 : Fun K "before" "before" sBefore f1 fd1) (b1 : Binds K fd1 ["placing", "place"] []) (g1 : mg "before" = some (.ref f1)) (G1 : FnOk P w K mg base CX0 2 f1 fd1 ["placing", "place"] spBefore)
    (F2 : Fun K "best_worths" "best_worths" sBest f2 fd2) (b2 : Binds K fd2 ["placing"] []) (g2 : mg "best_worths" = some (.ref f2)) (G2 : FnOk P w K mg base CX0 3 f2 fd2 ["placing"] spBest) : FnOk P w K mg base CX0 4 f fd ["placing"] spFirstOf := by
  refine F.ok scFirstOf (fun vs H Q E h => ?_) (fun cdv A outer s H vs Q E hr h => ?_)
  · obtain ⟨a, g, rfl, _⟩ := h
    rfl
  · obtain ⟨a, g, rfl, ha, hg, hn, q⟩ := h
    have nd := scFirstOf.nd
    have hr2 : Room 2 _ := hr.mono (by decide)
    refine ⟨_, pss_cons (ps_par (i := 1) (j := 2) (by rfl) nd rfl rfl (by decide) rfl rfl (pa_cons (pe_lst pa_nil) (pa_cons (pe_ix ix_tup (pe_call G2 hr (by rfl) g2 F2.kp b2 .nil pass0 (pa_cons (pv 0) pa_nil)) pe_int (fun _ _ => rfl)) pa_nil)) (by rfl))
      (pss_cons (ps_while PassesOwn.never (pt_cmpR op_gt (pv 2) pe_int (nomark _))
        (pss_one (ps_for PassesOwn.never rfl (pi_range1 rfl mr (pa_cons (pe_callB call_len_seq (by rfl) mn PySem.boot_len (pa_cons (pv 0) pa_nil)) pa_nil)) (pg_name (i := 3) nd rfl (.inl rfl))
          (pss_cons (ps_set (i := 4) nd rfl (.inl rfl) (pe_call G1 hr2 (by rfl) g1 F1.kp b1 .nil pass0 (pa_cons (pv 0) (pa_cons (pv 3) pa_nil))))
          (pss_one (ps_if (pt_cmpR op_eq (pe_ix ix_tup (pe_call G2 hr (by rfl) g2 F2.kp b2 .nil pass0 (pa_cons (pv 4) pa_nil)) pe_int (fun _ _ => rfl)) (pe_op op_sub (pv 2) pe_int) (nomark _))
            (pss_cons (ps_expr (pe_bm PySem.F.plainAttrs_list PySem.F.slot_list_append PySem.F.type_list_append mt_append (pv 1) (pa_cons (pv 3) pa_nil)))
            (pss_cons (ps_par (i := 0) (j := 2) (by rfl) nd rfl rfl (by decide) rfl rfl (pa_cons (pv 4) (pa_cons (pe_op op_sub (pv 2) pe_int) pa_nil)) (by rfl))
            (pss_one ps_break))) pss_nil))))))
      (pss_one (ps_ret (pv 1)))), ?_⟩
    refine ⟨Nat.zero_le _, fun fo nfo => ?_⟩
    have s0 := same_new (o := .lst []) nfo
    refine ⟨_, rfl, a, g, rfl, s0 _ _ ha, hg, by omega, fun H1 t s1 nt ht => ⟨t, _, _, _, rfl, rfl, SqT.of ht, atI_nat (j := 0) rfl, _, _, rfl, ?_⟩⟩
    have hfo1 : H1 fo = some (.lst []) := s1 _ _ upd_same
    have sA := s0.trans s1
    refine ⟨fun k σ H' => ∃ (b : Addr) (g' pre : List Nat) (u v : Option V), σ = [some (.ref b), some (.ref fo), some (.int ((k : Nat) : Int)), u, v] ∧ Same H H' ∧ b ≠ fo ∧ H' b = some (.lst (nl g')) ∧ SS.IsPl g' ∧ g'.length = g.length ∧ (SS.best g').1 = k ∧
        H' fo = some (.lst (nl pre)) ∧ pre ++ SS.firstProg k g' = SS.firstProgram g ∧ pre.length + k = (SS.best g).1,
      ⟨(SS.best g).1, a, g, [], none, none, rfl, sA, ne_of_none ha nfo, sA _ _ ha, hg, rfl, rfl, hfo1, rfl, by simp⟩, ?_⟩
    rintro k σ H' ⟨b, g', pre, u, v, rfl, sm, hbf, hb, hg', hlen, hk, hfo, hpre, hpl⟩
    have hbn := SS.best_bound hg
    refine ⟨_, rfl, _, _, rfl, rfl, _, rfl, ?_⟩
    show if decide (((k : Nat) : Int) > 0) = true then _ else _
    cases k with
    | zero =>
      rw [decide_eq_false (by omega)]
      refine iteF ⟨_, rfl, q H' fo sm nfo ?_⟩
      rw [← hpre]
      show H' fo = some (.lst (nl (pre ++ [])))
      rw [List.append_nil]
      exact hfo
    | succ k =>
      rw [decide_eq_true (by omega)]
      refine iteT ⟨fun σ H' => ∃ (b : Addr) (g' pre : List Nat) (u v : Option V), σ = [some (.ref b), some (.ref fo), some (.int ((k : Nat) : Int)), u, v] ∧ Same H H' ∧ b ≠ fo ∧ H' b = some (.lst (nl g')) ∧ SS.IsPl g' ∧ g'.length = g.length ∧ (SS.best g').1 = k ∧
        H' fo = some (.lst (nl pre)) ∧ pre ++ SS.firstProg k g' = SS.firstProgram g ∧ pre.length + k = (SS.best g).1, fun σ' H' hN => ⟨k, Nat.lt_succ_self k, hN⟩, ?_⟩
      refine ⟨_, rfl, b, _, rfl, .inl (SqL.of hb), _, rfl, by rw [nl_len]; omega, by rw [nl_len]; omega, for_range (lo := 0) (n := ((nl g').length : Int).toNat) (fun i σ H2 => ∃ (u v : Option V), σ = [some (.ref b), some (.ref fo), some (.int ((k + 1 : Nat) : Int)), u, v] ∧ Same H' H2 ∧ ∀ j, j < i → (SS.best (SS.before g' j)).1 ≠ k)
        ⟨u, v, rfl, Same.refl _, fun j hj => absurd hj (by omega)⟩ ?_ ?_⟩
      · rintro i σ H2 hi ⟨u, v, rfl, sm2, hno⟩
        rw [nl_len, Int.toNat_natCast] at hi
        rw [show (0 : Int) + (i : Int) = ((i : Nat) : Int) by omega]
        refine ⟨_, rfl, _, rfl, b, g', i, rfl, sm2 _ _ hb, hg', hi, by omega, fun H3 q0 s3 nq hq => ?_⟩
        have hpl2 := SS.before_pl hg' hi
        refine ⟨_, rfl, q0, _, rfl, hq, hpl2, by rw [SS.before_len]; omega, fun H4 t4 s4 nt4 ht4 => ⟨t4, _, _, _, rfl, rfl, SqT.of ht4, atI_nat (j := 0) rfl, _, rfl, _, _, rfl, rfl, rfl, _, rfl, ?_⟩⟩
        have s24 := (sm2.trans s3).trans s4
        by_cases e : (SS.best (SS.before g' i)).1 = k
        · have hd : decide (V.int (((SS.best (SS.before g' i)).1 : Nat) : Int) = V.int (((k + 1 : Nat) : Int) - 1)) = true := decide_eq_true (by rw [e]; congr 1; omega)
          show if decide (V.int (((SS.best (SS.before g' i)).1 : Nat) : Int) = V.int (((k + 1 : Nat) : Int) - 1)) = true then _ else _
          rw [hd]
          have hfo4 := s24 _ _ hfo
          have hqfo : q0 ≠ fo := (ne_of_none (sm2 _ _ hfo) nq).symm
          refine iteT ⟨_, rfl, .inl ⟨rfl, _, SqL.of hfo4⟩, _, rfl, fo, _, _, rfl, rfl, hfo4, by rw [nl_len]; exact szlt (by omega), _, rfl, _, rfl, _, _, rfl, rfl, _, _, rfl, ?_⟩
          refine ⟨q0, SS.before g' i, pre ++ [i], some (.int (i : Int)), some (.ref q0), ?_, (sm.trans s24).own nfo, hqfo, ?_, hpl2, by rw [SS.before_len, hlen], e, ?_, ?_, ?_⟩
          · show [some (V.ref q0), some (V.ref fo), some (V.int (((k + 1 : Nat) : Int) - 1)), some (V.int (i : Int)), some (V.ref q0)] = _
            rw [show (((k + 1 : Nat) : Int) - 1) = ((k : Nat) : Int) by omega]
          · rw [upd_ne hqfo]
            exact s4 _ _ hq
          · rw [upd_same, nl_app]
            rfl
          · rw [← hpre, SS.firstProg_step hi e hno, List.append_assoc]
            rfl
          · rw [List.length_append, List.length_singleton]
            omega
        · have hd : decide (V.int (((SS.best (SS.before g' i)).1 : Nat) : Int) = V.int (((k + 1 : Nat) : Int) - 1)) = false := decide_eq_false fun z => e (by have := V.int.inj z; omega)
          show if decide (V.int (((SS.best (SS.before g' i)).1 : Nat) : Int) = V.int (((k + 1 : Nat) : Int) - 1)) = true then _ else _
          rw [hd]
          refine iteF ⟨_, _, rfl, s24, fun j hj => ?_⟩
          rcases Nat.lt_or_eq_of_le (Nat.le_of_lt_succ hj) with r | r
          · exact hno j r
          · exact r ▸ e
      · rintro σ H2 ⟨u, v, rfl, sm2, hno⟩
        rw [nl_len, Int.toNat_natCast] at hno
        obtain ⟨p, hp, ep⟩ := SS.best_down hg' (by omega)
        exact absurd (by omega : (SS.best (SS.before g' p)).1 = k) (hno p hp)
theorem scFirstP : FnScope ["placing"] ["placing"] (defScope sFirstP) := ⟨rfl, rfl, rfl, by decide +kernel, rfl, by decide +kernel, by decide +kernel⟩
theorem ok_firstP {f f1 f2 : Addr} {fd fd1 fd2 : FuncData} (F : Fun K "first_program" "first_program" sFirstP f fd)
    (F1 : Fun K "check_placing" "check_placing" sChPl f1 fd1) (b1 : Binds K fd1 ["placing"] []) (g1 : mg "check_placing" = some (.ref f1)) (G1 : FnOk P w K mg base CX0 3 f1 fd1 ["placing"] spChPl)
    (F2 : Fun K "first_of" "first_of" sFirstOf f2 fd2) (b2 : Binds K fd2 ["placing"] []) (g2 : mg "first_of" = some (.ref f2)) (G2 : FnOk P w K mg base CX0 4 f2 fd2 ["placing"] spFirstOf) : FnOk P w K mg base CX0 5 f fd ["placing"] spFirstOf := by
  refine F.ok scFirstP (fun vs H Q E h => ?_) (fun cdv A outer s H vs Q E hr h => ?_)
  · obtain ⟨a, g, rfl, _⟩ := h
    rfl
  · obtain ⟨a, g, rfl, ha, hg, hn, q⟩ := h
    refine ⟨_, pss_cons (ps_expr (pe_call G1 (hr.mono (by decide)) (by rfl) g1 F1.kp b1 .nil pass0 (pa_cons (pv 0) pa_nil)))
      (pss_one (ps_ret (pe_call G2 hr (by rfl) g2 F2.kp b2 .nil pass0 (pa_cons (pv 0) pa_nil)))), ?_⟩
    exact ⟨_, rfl, a, g, rfl, ha, hg, hn, fun H1 s1 => ⟨_, rfl, a, g, rfl, s1 _ _ ha, hg, hn, fun H2 l s2 nl0 hl => q H2 l (s1.trans s2) (s1.free nl0) hl⟩⟩
end
end SSw
namespace SSw
open PySem PySem.Spec PyProof.Rows L2
section
variable {P : Program} {w : World} {K : PySem.W.Frag} {mg : Str → Option Value} {base : Heap}
/-! ### the law's own value of a lie -/
abbrev nLValue : List Str := ["_law_goal", "_law_lie", "_law_many", "_law_wanted", "_law_seen", "_law_found", "_law_cell_here", "_law_sign", "_law_first", "_law_here", "_law_long", "_law_hole", "_law_step"]
theorem scLValue : FnScope nLValue ["_law_goal", "_law_lie"] (defScope sLValue) := ⟨rfl, rfl, rfl, by decide +kernel, rfl, by decide +kernel, by decide +kernel⟩
def spLValue : Sp := fun vs H Q _ => ∃ (a : Addr) (g : List Nat) (lie : Nat), vs = [.ref a, .int (lie : Int)] ∧ H a = some (.lst (nl g)) ∧ SS.IsPl g ∧ lie < g.length + 1 ∧ g.length ≤ 1000 ∧
  ∀ H', Same H H' → Q (.int (((SS.worth g lie).1 : Nat) : Int)) H'
theorem ok_lvalue {f : Addr} {fd : FuncData} (F : Fun K "_law_value" "_law_value" sLValue f fd) (mn : mg "len" = none) (me : mg "enumerate" = none) (mr : mg "range" = none) (mi : mg "int" = none) : FnOk P w K mg base CX0 1 f fd ["_law_goal", "_law_lie"] spLValue := by
  refine F.ok scLValue (fun vs H Q E h => ?_) (fun cdv A outer s H vs Q E hr h => ?_)
  · obtain ⟨a, g, lie, rfl, _⟩ := h
    rfl
  · obtain ⟨a, g, lie, rfl, ha, hg, hl, hn, q⟩ := h
    have nd := scLValue.nd
    refine ⟨_, pss_cons (ps_asg (pe_tup (pa_cons (pe_op op_add (pe_callB call_len_seq (by rfl) mn PySem.boot_len (pa_cons (pv 0) pa_nil)) pe_int) (pa_cons pe_dnewK (pa_cons pe_dnewK (pa_cons pe_int pa_nil)))))
        (pg_tup rfl (pgs_cons (pg_name (i := 2) nd rfl (.inl rfl)) (pgs_cons (pg_name (i := 3) nd rfl (.inl rfl)) (pgs_cons (pg_name (i := 4) nd rfl (.inl rfl)) (pgs_cons (pg_name (i := 5) nd rfl (.inl rfl)) pgs_nil))))))
      (pss_cons (ps_for PassesOwn.never rfl (pi_enum (by rfl) me (pa_cons (pe_op op_cat (pv 0) (pe_lst (pa_cons (pe_callB call_len_seq (by rfl) mn PySem.boot_len (pa_cons (pv 0) pa_nil)) pa_nil))) pa_nil))
          (pg_tup rfl (pgs_cons (pg_name (i := 6) nd rfl (.inl rfl)) (pgs_cons (pg_name (i := 7) nd rfl (.inl rfl)) pgs_nil)))
          (pss_one (ps_dput (hu_of hr) (pv 3) (pe_op op_modN (pe_callTy call_int1 (by rfl) mi (by decide +kernel) (pa_cons (pe_op op_add (pv 6) (pv 1)) pa_nil)) (pv 2)) (pv 7) rfl)))
      (pss_cons (ps_for PassesOwn.never rfl (pi_range1 rfl mr (pa_cons (pv 2) pa_nil)) (pg_name (i := 8) nd rfl (.inl rfl))
          (pss_cons (ps_par3 (i := 9) (j := 10) (l := 11) rfl nd rfl rfl rfl (by decide) (by decide) (by decide) rfl rfl rfl (pa_cons (pv 8) (pa_cons pe_int (pa_cons pe_bl pa_nil))) (by rfl))
          (pss_cons (ps_for PassesOwn.never rfl (pi_range1 rfl mr (pa_cons (pe_op op_add (pv 2) pe_int) pa_nil)) (pg_name (i := 12) nd rfl (.inl rfl))
            (pss_cons (ps_if (pt_cmp (pc_din (hu_of hr) (pv 9) (pv 4))) (pss_one ps_break) pss_nil)
            (pss_cons (ps_dput (hu_of hr) (pv 4) (pv 9) pe_bl rfl)
            (pss_cons (ps_par (i := 10) (j := 11) (by rfl) nd rfl rfl (by decide) rfl rfl (pa_cons (pe_op op_add (pv 10) pe_int) (pa_cons (pe_or (pv 11) (pe_one (pe_cmpR op_eq (pv 9) (pe_callB call_len_seq (by rfl) mn PySem.boot_len (pa_cons (pv 0) pa_nil)) (nomark _)))) pa_nil)) (by rfl))
            (pss_one (ps_set (i := 9) nd rfl (.inl rfl) (pe_dget (hu_of hr) (pv 3) (pv 9) (fun _ _ => rfl))))))))
          (pss_one (ps_if (pt_cmpR op_gt (pv 10) pe_int (nomark _))
            (pss_one (ps_set (i := 5) nd rfl (.inl rfl) (pe_op op_add (pv 5) (pe_ifExp (pt_val (pv 11)) (pe_op op_sub (pv 10) pe_int) (pe_op op_add (pv 10) pe_int))))) pss_nil)))))
      (pss_one (ps_ret (pv 5))))), ?_⟩
    refine ⟨_, rfl, a, _, rfl, .inl (SqL.of ha), _, _, rfl, rfl, fun d1 n1 => ?_⟩
    have s1 := same_new (o := .dK []) n1
    intro d2 n2
    have s2 := s1.new (o := .dK []) n2
    refine ⟨szl (by simp), fun t n4 => ?_⟩
    have s4 := s2.new (o := .tup [.int (((nl g).length : Int) + 1), .ref d1, .ref d2, .int 0]) n4
    refine ⟨t, _, rfl, SqT.of upd_same, rfl, _, _, rfl, _, _, rfl, _, _, rfl, _, _, rfl, rfl, ?_⟩
    have em : (((nl g).length : Int) + 1) = ((g.length + 1 : Nat) : Int) := by rw [nl_len]; omega
    have e1 : H d1 = none := n1
    have e2 : H d2 = none := s1.free n2
    have h12 : d1 ≠ d2 := ne_of_none upd_same n2
    have k1 : (upd (upd (upd H d1 (.dK [])) d2 (.dK [])) t (.tup [.int (((nl g).length : Int) + 1), .ref d1, .ref d2, .int 0])) d1 = some (.dK []) := same_new n4 _ _ (same_new n2 _ _ upd_same)
    have k2 : (upd (upd (upd H d1 (.dK [])) d2 (.dK [])) t (.tup [.int (((nl g).length : Int) + 1), .ref d1, .ref d2, .int 0])) d2 = some (.dK []) := same_new n4 _ _ upd_same
    generalize (upd (upd (upd H d1 (.dK [])) d2 (.dK [])) t (.tup [.int (((nl g).length : Int) + 1), .ref d1, .ref d2, .int 0])) = H0 at s4 k1 k2 ⊢
    show tSeq _ _ _ [some (.ref a), some (.int (lie : Int)), some (.int (((nl g).length : Int) + 1)), some (.ref d1), some (.ref d2), some (.int 0), none, none, none, none, none, none, none] H0
    rw [em]
    -- the dict wanted
    refine ⟨_, rfl, _, rfl, a, _, rfl, .inl (SqL.of (s4 _ _ ha)), szl (by simp), fun p5 n5 => ?_⟩
    have s5 := s4.new (o := .lst [.int ((nl g).length : Int)]) n5
    refine ⟨a, p5, _, _, rfl, rfl, s5 _ _ ha, upd_same, by rw [nl_len]; exact szl (by simp; omega), fun p6 n6 => ?_⟩
    have s6 := s5.new (o := .lst (nl g ++ [.int ((nl g).length : Int)])) n6
    have ex : nl g ++ [V.int ((nl g).length : Int)] = nl (SS.ext g) := by rw [nl_len, ext_nl]
    rw [ex] at s6 ⊢
    have f1 := same_new n6 (o := .lst (nl (SS.ext g))) _ _ (same_new n5 (o := .lst [.int ((nl g).length : Int)]) _ _ k1)
    have f2 := same_new n6 (o := .lst (nl (SS.ext g))) _ _ (same_new n5 (o := .lst [.int ((nl g).length : Int)]) _ _ k2)
    have f6 : (upd (upd H0 p5 (.lst [.int ((nl g).length : Int)])) p6 (.lst (nl (SS.ext g)))) p6 = some (.lst (nl (SS.ext g))) := upd_same
    generalize (upd (upd H0 p5 (.lst [.int ((nl g).length : Int)])) p6 (.lst (nl (SS.ext g)))) = H1 at s6 f1 f2 f6 ⊢
    refine ⟨p6, _, rfl, SqL.of f6, for_enum (K := K) (a := p6) (xs := nl (SS.ext g)) (fun i σ H' => ∃ (u v : Option V) (kvs : List (Key × V)), σ = [some (.ref a), some (.int (lie : Int)), some (.int ((g.length + 1 : Nat) : Int)), some (.ref d1), some (.ref d2), some (.int 0), u, v, none, none, none, none, none] ∧
        Same H H' ∧ H' p6 = some (.lst (nl (SS.ext g))) ∧ H' d1 = some (.dK kvs) ∧ H' d2 = some (.dK []) ∧ Fill g lie i kvs)
      ⟨none, none, [], rfl, s6, f6, f1, f2, Nat.zero_le _, fun j hj => absurd hj (by omega)⟩ (fun i σ H' _ hp => ?_) ?_ ?_⟩
    · obtain ⟨_, _, _, _, _, h, _⟩ := hp
      exact SqL.of h
    · rintro i x T σ H' hx ⟨u, v, kvs, rfl, sm, hp6, hd1, hd2, hf⟩ nT
      obtain ⟨y, hy, rfl⟩ := nl_of hx
      have hi : i < g.length + 1 := by
        have := (List.getElem?_eq_some_iff.mp hy).1
        rw [SS.ext_len] at this
        exact this
      have sT := same_new (o := .tup [V.int ((i : Nat) : Int), V.int (y : Int)]) nT
      refine ⟨T, _, rfl, SqT.of upd_same, rfl, _, _, rfl, _, _, rfl, rfl, ?_⟩
      have hk : (((i : Nat) : Int) + (lie : Int)).fmod ((g.length + 1 : Nat) : Int) = (((i + lie) % (g.length + 1) : Nat) : Int) := by
        rw [show (((i : Nat) : Int) + (lie : Int)) = ((i + lie : Nat) : Int) by omega]
        exact fmod_nat _ _
      have hD : DPut (upd H' T (.tup [V.int ((i : Nat) : Int), V.int (y : Int)])) d1 (.int ((((i : Nat) : Int) + (lie : Int)).fmod ((g.length + 1 : Nat) : Int))) (.int (y : Int)) (upd (upd H' T (.tup [V.int ((i : Nat) : Int), V.int (y : Int)])) d1 (.dK (putK kvs (ik ((i + lie) % (g.length + 1))) (.int (y : Int))))) := by
        rw [hk]
        exact DPut.k (k := ik ((i + lie) % (g.length + 1))) (sT _ _ hd1) (szlt (by have := hf.1; omega))
      refine ⟨_, rfl, _, rfl, _, rfl, _, rfl, _, _, rfl, rfl, .inl ⟨_, rfl, _, rfl, _, _, rfl, rfl, by omega, d1, _, rfl, hD, ?_⟩⟩
      have hst := hf.step hl hi
      rw [ext_get hy] at hst
      refine ⟨_, _, _, rfl, (sm.trans sT).own e1, ?_, upd_same, ?_, hst⟩
      · rw [upd_ne (ne_of hp6 hd1 (by intro z; cases z))]
        exact sT _ _ hp6
      · rw [upd_ne h12.symm]
        exact sT _ _ hd2
    · rintro σ H2 ⟨u, v, kvs, rfl, sm, hp6, hd1, hd2, hf⟩
      rw [nl_len, SS.ext_len] at hf
      have hW := hf.all hl
      -- the rounds
      refine ⟨_, rfl, _, rfl, by omega, by omega, for_range (lo := 0) (n := ((g.length + 1 : Nat) : Int).toNat) (fun i σ H' => ∃ (u v x y z s h : Option V) (ks : List (Key × V)), σ = [some (.ref a), some (.int (lie : Int)), some (.int ((g.length + 1 : Nat) : Int)), some (.ref d1), some (.ref d2),
          some (.int (((SS.wfold g.length ((SS.lots (SS.want g lie) (g.length + 1) (List.range i) []).filter fun l => 1 < l.length)).value : Nat) : Int)), u, v, x, y, z, s, h] ∧
        Same H H' ∧ H' d1 = some (.dK kvs) ∧ H' d2 = some (.dK ks) ∧ SeenIs ks (SS.seenOf (SS.want g lie) (g.length + 1) (List.range i) []))
        ⟨u, v, none, none, none, none, none, [], rfl, sm, hd1, hd2, SeenIs.nil⟩ ?_ ?_⟩
      · rintro i σ H3 hi ⟨u, v, x, y, z, s, h, ks, rfl, sm, hd1, hd2, hS⟩
        have hi' : i < g.length + 1 := by omega
        have G := SS.seen_range hg hl i (by omega)
        rw [show (0 : Int) + (i : Int) = ((i : Nat) : Int) by omega]
        generalize hsn : SS.seenOf (SS.want g lie) (g.length + 1) (List.range i) [] = seen0 at G hS
        have er : List.range (i + 1) = List.range i ++ [i] := List.range_succ
        generalize hz0 : SS.wfold g.length ((SS.lots (SS.want g lie) (g.length + 1) (List.range i) []).filter fun l => 1 < l.length) = z0
        refine ⟨_, rfl, _, _, _, rfl, ?_⟩
        refine ⟨_, rfl, _, _, rfl, rfl, _, rfl, by omega, by omega, for_range (lo := 0) (n := (((g.length + 1 : Nat) : Int) + 1).toNat) (fun j σ H' => ∃ (x : Nat) (vv : List Nat) (ks' : List (Key × V)) (st : Option V), σ = [some (.ref a), some (.int (lie : Int)), some (.int ((g.length + 1 : Nat) : Int)), some (.ref d1), some (.ref d2), some (.int ((z0.value : Nat) : Int)), u, v,
            some (.int ((i : Nat) : Int)), some (.int ((x : Nat) : Int)), some (.int ((vv.length : Nat) : Int)), some (.bl (decide (g.length ∈ vv))), st] ∧
          Same H H' ∧ H' d1 = some (.dK kvs) ∧ H' d2 = some (.dK ks') ∧ SeenIs ks' (vv.reverse ++ seen0) ∧ vv.length = j ∧
          SS.Way (SS.want g lie) (g.length + 1) seen0 (SS.trace (SS.want g lie) (g.length + 1 + 1) seen0 i) vv x (g.length + 1 + 1 - j))
          ⟨i, [], ks, h, rfl, sm, hd1, hd2, hS, rfl, SS.Way.start G hi'⟩ ?_ ?_⟩
        · rintro j σ H4 hj ⟨x, vv, ks', st, rfl, sm4, hd1', hd2', hS', hvj, hw⟩
          refine ⟨_, rfl, _, rfl, d2, _, rfl, DGet.k (k := ik x) hd2', _, rfl, ?_⟩
          rw [hS'.has x]
          by_cases hx : x ∈ vv.reverse ++ seen0
          · -- the round is closed
            rw [decide_eq_true hx]
            have hT := hw.stop hx
            have eS : SS.seenOf (SS.want g lie) (g.length + 1) (List.range (i + 1)) [] = vv.reverse ++ seen0 := by
              rw [er, SS.seenOf_snoc, hsn, hT]
            have eL : (SS.lots (SS.want g lie) (g.length + 1) (List.range (i + 1)) []).filter (fun l => 1 < l.length) = (SS.lots (SS.want g lie) (g.length + 1) (List.range i) []).filter (fun l => 1 < l.length) ++ (if 1 < vv.length then [vv] else []) := by
              rw [er, SS.lots_snoc, hsn, hT, List.filter_append, List.filter_cons, List.filter_nil]
              by_cases h1 : 1 < vv.length
              · rw [if_pos (decide_eq_true h1), if_pos h1]
              · rw [if_neg (by simpa using h1), if_neg h1]
            refine iteT ⟨_, rfl, _, _, rfl, rfl, _, rfl, ?_⟩
            show if decide ((vv.length : Int) > 1) = true then _ else _
            by_cases h1 : 1 < vv.length
            · rw [decide_eq_true (by omega : (vv.length : Int) > 1)]
              rw [if_pos h1] at eL
              refine iteT ⟨_, rfl, _, rfl, _, rfl, ?_⟩
              by_cases hh : g.length ∈ vv
              · rw [decide_eq_true hh]
                refine iteT ⟨_, rfl, _, _, rfl, rfl, _, _, rfl, rfl, u, v, some (.int (i : Int)), some (.int (x : Int)), some (.int (vv.length : Int)), some (.bl true), some (.int ((0 : Int) + (j : Int))), ks', ?_, sm4, hd1', hd2', by rw [eS]; exact hS'⟩
                rw [eL, SS.wfold_snoc, hz0, SS.wstep_in hh]
                show [some (V.ref a), _, _, _, _, some (V.int ((z0.value : Int) + ((vv.length : Int) - 1))), _, _, _, _, _, _, _] = _
                rw [show ((z0.value : Int) + ((vv.length : Int) - 1)) = ((z0.value + vv.length - 1 : Nat) : Int) by omega]
              · rw [decide_eq_false hh]
                refine iteF ⟨_, rfl, _, _, rfl, rfl, _, _, rfl, rfl, u, v, some (.int (i : Int)), some (.int (x : Int)), some (.int (vv.length : Int)), some (.bl false), some (.int ((0 : Int) + (j : Int))), ks', ?_, sm4, hd1', hd2', by rw [eS]; exact hS'⟩
                rw [eL, SS.wfold_snoc, hz0, SS.wstep_out hh]
                show [some (V.ref a), _, _, _, _, some (V.int ((z0.value : Int) + ((vv.length : Int) + 1))), _, _, _, _, _, _, _] = _
                rw [show ((z0.value : Int) + ((vv.length : Int) + 1)) = ((z0.value + vv.length + 1 : Nat) : Int) by omega]
            · rw [decide_eq_false (by omega : ¬ (vv.length : Int) > 1)]
              rw [if_neg h1, List.append_nil] at eL
              refine iteF ⟨u, v, some (.int (i : Int)), some (.int (x : Int)), some (.int (vv.length : Int)), some (.bl (decide (g.length ∈ vv))), some (.int ((0 : Int) + (j : Int))), ks', ?_, sm4, hd1', hd2', by rw [eS]; exact hS'⟩
              rw [eL, hz0]
              rfl
          · -- one more cell
            rw [decide_eq_false hx]
            obtain ⟨k, hk, hw2⟩ := hw.go (SS.want_lt hg lie) hx
            have hvl := hw.room
            have hksl : ks'.length ≤ g.length + 1 := by
              have h1 := hS'.2
              have h2 := SS.le_of_nodup hw.nd hw.lt
              omega
            have hxl := hw.xl
            refine iteF ⟨_, rfl, _, rfl, d2, _, rfl, DPut.k (k := ik x) hd2' (szlt (by omega)), ?_⟩
            have hd15 : (upd H4 d2 (.dK (putK ks' (ik x) (.bl true)))) d1 = some (.dK kvs) := by
              rw [upd_ne h12]; exact hd1'
            have hG := DGet.k (k := ik x) hd15
            rw [hW x hxl] at hG
            have hmem : decide (g.length ∈ vv ++ [x]) = (decide (g.length ∈ vv) || decide (x = g.length)) := by
              by_cases h1 : g.length ∈ vv
              · simp [h1]
              · by_cases h2 : x = g.length
                · simp [h2]
                · simp [h1, h2, Ne.symm h2]
            have hS5 := hS'.put x
            have eS5 : (vv ++ [x]).reverse ++ seen0 = x :: (vv.reverse ++ seen0) := by simp
            rw [← eS5] at hS5
            have hw5 : SS.Way (SS.want g lie) (g.length + 1) seen0 (SS.trace (SS.want g lie) (g.length + 1 + 1) seen0 i) (vv ++ [x]) (SS.want g lie x) (g.length + 1 + 1 - (j + 1)) := by
              rw [show g.length + 1 + 1 - (j + 1) = k by omega]
              exact hw2
            have el5 : ((vv.length : Int) + 1) = (((vv ++ [x]).length : Nat) : Int) := by rw [List.length_append, List.length_singleton]; omega
            have lv5 : (vv ++ [x]).length = j + 1 := by rw [List.length_append, hvj]; rfl
            by_cases hh : g.length ∈ vv
            · refine ⟨_, rfl, _, _, rfl, rfl, _, rfl, _, rfl, ?_⟩
              rw [decide_eq_true hh]
              refine iteT ⟨_, _, rfl, _, rfl, _, rfl, d1, _, rfl, hG, ?_⟩
              refine ⟨SS.want g lie x, vv ++ [x], _, some (.int ((0 : Int) + (j : Int))), ?_, sm4.own e2, hd15, upd_same, hS5, lv5, hw5⟩
              rw [hmem, decide_eq_true hh, ← el5]
              rfl
            · refine ⟨_, rfl, _, _, rfl, rfl, _, rfl, _, rfl, ?_⟩
              rw [decide_eq_false hh]
              refine iteF ⟨_, rfl, _, rfl, a, _, rfl, .inl (SqL.of ((sm4.own e2) _ _ ha)), rfl, ?_⟩
              refine ⟨_, _, rfl, _, rfl, _, rfl, d1, _, rfl, hG, ?_⟩
              refine ⟨SS.want g lie x, vv ++ [x], _, some (.int ((0 : Int) + (j : Int))), ?_, sm4.own e2, hd15, upd_same, hS5, lv5, hw5⟩
              rw [hmem, decide_eq_false hh, Bool.false_or, ← el5]
              have : decide (V.int (x : Int) = V.int (((nl g).length : Nat) : Int)) = decide (x = g.length) := by
                rw [nl_len]
                refine decide_eq_decide.mpr ⟨fun z => Int.ofNat.inj (V.int.inj z), fun z => by rw [z]⟩
              rw [← this]
              rfl
        · rintro σ H4 ⟨x, vv, ks', st, rfl, sm4, hd1', hd2', hS', hvj, hw⟩
          have := hw.room
          omega
      · rintro σ H' ⟨u, v, x, y, z, s, h, ks, rfl, sm, hd1, hd2, hS⟩
        rw [Int.toNat_natCast, ← SS.rounds_eq]
        exact ⟨_, rfl, q H' sm⟩
end
end SSw
namespace SSw
open PySem PySem.Spec PyProof.Rows L2
theorem Keep.own {a p : Addr} {H H1 : Hp} {o : HO} (s : Keep a H H1) (n : H p = none) : Keep a H (L2.upd H1 p o) := fun b u hb e => by
  rw [upd_ne (ne_of_none e n)]
  exact s b u hb e
/-- a ** b, of any base that is not too great -/
theorem op_powB {X : Cx} : OpR X (binaryOp .Pow) (rI (fun i j => 0 ≤ j ∧ (Builtin.Int.intBits i : Int) * j ≤ 2 ^ 27) fun i j => .int (i ^ j.toNat)) := opI fun _ _ _ _ _ _ _ hc q => pow_int hc.1 hc.2 q
/-- the generator: a list of three whole numbers, the last one small -/
def Gen (H : Hp) (a : Addr) (M : Nat) : Prop := ∃ g0 g1 g2 : Int, H a = some (.lst [.int g0, .int g1, .int g2]) ∧ 0 ≤ g2 ∧ g2 ≤ (M : Int)
theorem Gen.same {H H' : Hp} {a : Addr} {M : Nat} (h : Gen H a M) (s : Same H H') : Gen H' a M := by
  obtain ⟨g0, g1, g2, e, h1, h2⟩ := h
  exact ⟨g0, g1, g2, s _ _ e, h1, h2⟩
theorem Gen.mono {H : Hp} {a : Addr} {M N : Nat} (h : Gen H a M) (l : M ≤ N) : Gen H a N := by
  obtain ⟨g0, g1, g2, e, h1, h2⟩ := h
  exact ⟨g0, g1, g2, e, h1, by omega⟩
theorem Gen.some {H : Hp} {a : Addr} {M : Nat} (h : Gen H a M) : ∃ o, H a = Option.some o := by
  obtain ⟨g0, g1, g2, e, _⟩ := h
  exact ⟨_, e⟩
theorem Gen.ne {H : Hp} {a p : Addr} {M : Nat} (h : Gen H a M) (n : H p = none) : p ≠ a := by
  obtain ⟨o, e⟩ := h.some
  exact (ne_of_none e n).symm
theorem Gen.upd {H : Hp} {a p : Addr} {M : Nat} {o : HO} (h : Gen H a M) (n : p ≠ a) : Gen (L2.upd H p o) a M := by
  obtain ⟨g0, g1, g2, e, h1, h2⟩ := h
  exact ⟨g0, g1, g2, by rw [upd_ne n.symm]; exact e, h1, h2⟩
theorem max_top (i j : Int) : True := trivial
section
variable {P : Program} {w : World} {K : PySem.W.Frag} {mg : Str → Option Value} {base : Heap}
/-! ### _law_hash -/
theorem scHash : FnScope ["_law_seed", "_law_index", "_law_mixed"] ["_law_seed", "_law_index"] (defScope sHash) := ⟨rfl, rfl, rfl, by decide +kernel, rfl, by decide +kernel, by decide +kernel⟩
def spHash : Sp := fun vs H Q _ => ∃ (sd ix : Int), vs = [.int sd, .int ix] ∧ 0 ≤ ix ∧ ix < 2 ^ 60 ∧ ∀ r : Int, Q (.int r) H
theorem ok_hash {f : Addr} {fd : FuncData} (F : Fun K "_law_hash" "_law_hash" sHash f fd) (mi : mg "int" = none) : FnOk P w K mg base CX0 1 f fd ["_law_seed", "_law_index"] spHash := by
  refine F.ok scHash (fun vs H Q E h => ?_) (fun cdv A outer s H vs Q E hr h => ?_)
  · obtain ⟨sd, ix, rfl, _⟩ := h
    rfl
  · obtain ⟨sd, ix, rfl, h0, h1, q⟩ := h
    have nd := scHash.nd
    refine ⟨_, pss_cons (ps_set (i := 2) nd rfl (.inl rfl) (pe_op op_mod (pe_callTy call_int1 (by rfl) mi (by decide +kernel) (pa_cons (pe_op op_add (pe_op op_add (pe_op op_add (pe_op op_mul (pv 0) pe_int) (pe_op op_mul (pe_op op_mul pe_int (pv 1)) (pv 1))) (pe_op op_mul pe_int (pv 1))) pe_int) pa_nil)) pe_int))
      (pss_cons (ps_set (i := 2) nd rfl (.inl rfl) (pe_op op_mod (pe_callTy call_int1 (by rfl) mi (by decide +kernel) (pa_cons (pe_op op_add (pe_op op_add (pe_op op_mul (pv 2) (pv 2)) (pe_op op_mul pe_int (pv 1))) pe_int) pa_nil)) pe_int))
      (pss_one (ps_ret (pe_op op_mod (pe_callTy call_int1 (by rfl) mi (by decide +kernel) (pa_cons (pe_op op_mul (pv 2) pe_int) pa_nil)) pe_int)))), ?_⟩
    refine ⟨_, rfl, _, _, rfl, rfl, .inr ⟨by omega, by omega⟩, _, rfl, _, _, rfl, rfl, .inl ⟨by omega, by omega⟩, _, rfl, _, _, rfl, rfl, .inr ⟨by omega, by omega⟩, _, _, rfl, rfl, _, rfl, _, _, rfl, rfl, .inl ⟨by omega, by omega⟩, _, _, rfl, rfl, _, _, rfl, rfl, .inl ⟨_, rfl, _, _, rfl, rfl, by omega, ?_⟩⟩
    generalize hm : (sd * 1140671 + 27644437 * ix * ix + 131 * ix + 19) % 2147483629 = m
    have m0 : 0 ≤ m := by rw [← hm]; exact Int.emod_nonneg _ (by omega)
    have m1 : m < 2147483629 := by rw [← hm]; exact Int.emod_lt_of_pos _ (by omega)
    show tSeq _ _ _ [some (.int sd), some (.int ix), some (.int ((sd * 1140671 + 27644437 * ix * ix + 131 * ix + 19) % 2147483629))] H
    rw [hm]
    refine ⟨_, rfl, _, rfl, _, _, rfl, rfl, .inl ⟨by omega, by omega⟩, _, rfl, _, _, rfl, rfl, .inl ⟨by omega, by omega⟩, _, _, rfl, rfl, _, _, rfl, rfl, .inl ⟨_, rfl, _, _, rfl, rfl, by omega, ?_⟩⟩
    exact ⟨_, rfl, _, _, rfl, rfl, .inr ⟨by omega, by omega⟩, .inl ⟨_, rfl, _, _, rfl, rfl, by omega, q _⟩⟩
/-! ### _law_random -/
theorem scRandom : FnScope ["_law_generator_here", "_law_bound", "_law_drawn_here", "_law_turn"] ["_law_generator_here", "_law_bound"] (defScope sRandom) := ⟨rfl, rfl, rfl, by decide +kernel, rfl, by decide +kernel, by decide +kernel⟩
def spRandom : Sp := fun vs H Q _ => ∃ (a : Addr) (b M : Nat), vs = [.ref a, .int (b : Int)] ∧ Gen H a M ∧ 0 < b ∧ b ≤ 64 ∧ M ≤ 1000000000 ∧ ∀ (r : Nat) H', r < b → Keep a H H' → Gen H' a (M + 3) → Q (.int (r : Int)) H'
theorem ok_random {f f1 : Addr} {fd fd1 : FuncData} (F : Fun K "_law_random" "_law_random" sRandom f fd) (mi : mg "int" = none) (mr : mg "range" = none)
    (F1 : Fun K "_law_hash" "_law_hash" sHash f1 fd1) (b1 : Binds K fd1 ["_law_seed", "_law_index"] []) (g1 : mg "_law_hash" = some (.ref f1)) (G1 : FnOk P w K mg base CX0 1 f1 fd1 ["_law_seed", "_law_index"] spHash) : FnOk P w K mg base CX0 2 f fd ["_law_generator_here", "_law_bound"] spRandom := by
  refine F.ok scRandom (fun vs H Q E h => ?_) (fun cdv A outer s H vs Q E hr h => ?_)
  · obtain ⟨a, b, M, rfl, _⟩ := h
    rfl
  · obtain ⟨a, b, M, rfl, ⟨z0, z1, z2, ha, h20, h2M⟩, hb, hb2, hM, q⟩ := h
    have nd := scRandom.nd
    refine ⟨_, pss_cons (ps_if (pt_cmpR op_gt (pe_ix ix_list (pv 0) pe_int (fun _ _ => rfl)) pe_int (nomark _))
        (pss_cons (ps_set (i := 2) nd rfl (.inl rfl) (pe_op op_mod (pe_callTy call_int1 (by rfl) mi (by decide +kernel) (pa_cons (pe_ix ix_list (pv 0) pe_int (fun _ _ => rfl)) pa_nil)) (pv 1)))
        (pss_cons (ps_asg (pe_op op_fdiv (pe_ix ix_list (pv 0) pe_int (fun _ _ => rfl)) (pv 1)) (pg_sub (pv 0) pe_int set_list))
        (pss_one (ps_ret (pv 2))))) pss_nil)
      (pss_cons (ps_set (i := 2) nd rfl (.inl rfl) pe_int)
      (pss_cons (ps_for PassesOwn.never rfl (pi_range1 rfl mr (pa_cons (pe_op op_add pe_int (pe_op op_fdiv (pe_bits (pv 1)) pe_int)) pa_nil)) (pg_name (i := 3) nd rfl (.inl rfl))
        (pss_cons (ps_asg (pe_op op_add (pe_ix ix_list (pv 0) pe_int (fun _ _ => rfl)) pe_int) (pg_sub (pv 0) pe_int set_list))
        (pss_one (ps_set (i := 2) nd rfl (.inl rfl) (pe_op op_add (pe_op op_mul (pv 2) pe_int) (pe_call G1 hr (by rfl) g1 F1.kp b1 .nil pass0 (pa_cons (pe_ix ix_list (pv 0) pe_int (fun _ _ => rfl)) (pa_cons (pe_ix ix_list (pv 0) pe_int (fun _ _ => rfl)) pa_nil))))))))
      (pss_one (ps_ret (pe_op op_mod (pe_callTy call_int1 (by rfl) mi (by decide +kernel) (pa_cons (pv 2) pa_nil)) (pv 1)))))), ?_⟩
    have hrem : ∀ d : Int, ∃ r : Nat, d % (b : Int) = (r : Int) ∧ r < b := fun d => by
      have h1 := Int.emod_nonneg d (show (b : Int) ≠ 0 by omega)
      have h2 := Int.emod_lt_of_pos d (show (0 : Int) < b by omega)
      exact ⟨(d % (b : Int)).toNat, by omega, by omega⟩
    refine ⟨_, rfl, a, _, 0, _, rfl, rfl, SqL.of ha, atI_nat (j := 0) rfl, _, _, rfl, rfl, _, rfl, ?_⟩
    show if decide (z0 > 0) = true then _ else _
    by_cases h0 : z0 > 0
    · rw [decide_eq_true h0]
      obtain ⟨r, hr1, hr2⟩ := hrem z0
      refine iteT ⟨_, rfl, a, _, 0, _, rfl, rfl, SqL.of ha, atI_nat (j := 0) rfl, .inl ⟨_, rfl, _, rfl, _, _, rfl, rfl, by omega, ?_⟩⟩
      refine ⟨_, rfl, a, _, 0, _, rfl, rfl, SqL.of ha, atI_nat (j := 0) rfl, _, rfl, _, _, rfl, rfl, ⟨by omega, by omega⟩, _, rfl, a, _, 0, 0, rfl, rfl, ha, by rfl, ?_⟩
      refine ⟨_, rfl, ?_⟩
      show Q (V.int (z0 % (b : Int))) _
      rw [hr1]
      exact q r _ hr2 (Keep.refl a H).upd ⟨z0 / (b : Int), z1, z2, upd_same, h20, by omega⟩
    · rw [decide_eq_false h0]
      have hbits : Builtin.Int.intBits (b : Int) ≤ 64 := intBits_le_64 (by omega) (by omega)
      refine iteF ⟨_, rfl, _, rfl, _, _, rfl, rfl, ⟨by omega, by omega⟩, _, _, rfl, rfl, _, rfl, by omega, by omega, ?_⟩
      have ht : (1 + (Builtin.Int.intBits (b : Int) : Int) / 30).toNat ≤ 3 := by omega
      generalize (1 + (Builtin.Int.intBits (b : Int) : Int) / 30).toNat = tt at ht
      refine for_range (lo := 0) (n := tt) (fun i σ H' => ∃ (d g2 : Int) (v : Option V), σ = [some (.ref a), some (.int (b : Int)), some (.int d), v] ∧ Keep a H H' ∧ H' a = some (.lst [.int z0, .int z1, .int g2]) ∧ 0 ≤ g2 ∧ g2 ≤ (M : Int) + (i : Int))
        ⟨0, z2, none, rfl, Keep.refl a H, ha, h20, by omega⟩ ?_ ?_
      · rintro i σ H' hi ⟨d, g2, v, rfl, kp, ha', hg0, hgM⟩
        refine ⟨_, rfl, a, _, 2, _, rfl, rfl, SqL.of ha', atI_nat (j := 2) rfl, _, _, rfl, rfl, _, rfl, a, _, 2, 2, rfl, rfl, ha', by rfl, ?_⟩
        have ha2 : (upd H' a (.lst [.int z0, .int z1, .int (g2 + 1)])) a = some (.lst [.int z0, .int z1, .int (g2 + 1)]) := upd_same
        refine ⟨_, rfl, _, _, rfl, rfl, .inr ⟨by omega, by omega⟩, _, rfl, a, _, 1, _, rfl, rfl, SqL.of ha2, atI_nat (j := 1) rfl, _, rfl, a, _, 2, _, rfl, rfl, SqL.of ha2, atI_nat (j := 2) rfl, z1, g2 + 1, rfl, by omega, by omega, fun r => ?_⟩
        exact ⟨_, _, rfl, rfl, _, g2 + 1, _, rfl, kp.upd, ha2, by omega, by omega⟩
      · rintro σ H' ⟨d, g2, v, rfl, kp, ha', hg0, hgM⟩
        obtain ⟨r, hr1, hr2⟩ := hrem d
        refine ⟨_, rfl, .inl ⟨_, rfl, _, rfl, _, _, rfl, rfl, by omega, ?_⟩⟩
        show Q (V.int (d % (b : Int))) _
        rw [hr1]
        exact q r H' hr2 kp ⟨z0, z1, g2, ha', hg0, by omega⟩
/-! ### _law_cell, _law_generator -/
theorem scCell : FnScope ["_law_script", "_law_index"] ["_law_script", "_law_index"] (defScope sCell) := ⟨rfl, rfl, rfl, by decide +kernel, rfl, by decide +kernel, by decide +kernel⟩
def spCell (K : PySem.W.Frag) : Sp := fun vs H Q _ => ∃ (a : Addr) (ns : List Int) (i : Nat), vs = [.ref a, .int (i : Int)] ∧ SqL K H a (ns.map V.int) ∧ ∀ (v : Int) H', Same H H' → Q (.int v) H'
theorem ok_cell {f : Addr} {fd : FuncData} (F : Fun K "_law_cell" "_law_cell" sCell f fd) (mn : mg "len" = none) (ms : mg "sum" = none) : FnOk P w K mg base CX0 1 f fd ["_law_script", "_law_index"] (spCell K) := by
  refine F.ok scCell (fun vs H Q E h => ?_) (fun cdv A outer s H vs Q E hr h => ?_)
  · obtain ⟨a, ns, i, rfl, _⟩ := h
    rfl
  · obtain ⟨a, ns, i, rfl, ha, q⟩ := h
    refine ⟨_, pss_cons (ps_if (pt_cmpR op_lt (pv 1) (pe_callB call_len_seq (by rfl) mn PySem.boot_len (pa_cons (pv 0) pa_nil)) (nomark _)) (pss_one (ps_ret (pe_ix ix_list (pv 0) (pv 1) (fun _ _ => rfl)))) pss_nil)
      (pss_one (ps_ret (pe_op op_mod (pe_callB (cr_sum rfl) (by rfl) ms (by decide +kernel) (pa_cons (pe_slice sl_list (pv 0) po_none (po_some pe_int)) pa_nil)) pe_int))), ?_⟩
    refine ⟨_, rfl, _, rfl, a, _, rfl, .inl ha, _, _, rfl, rfl, _, rfl, ?_⟩
    rw [List.length_map]
    show if decide ((i : Int) < (ns.length : Int)) = true then _ else _
    by_cases h : i < ns.length
    · rw [decide_eq_true (by omega)]
      refine iteT ⟨_, rfl, _, rfl, a, _, _, _, rfl, rfl, ha, atI_nat (v := .int ns[i]) ?_, q _ H (Same.refl H)⟩
      rw [List.getElem?_map, List.getElem?_eq_getElem h]
      rfl
    · rw [decide_eq_false (by omega)]
      refine iteF ⟨_, rfl, 1, rfl, a, _, rfl, ha, fun p np => ?_⟩
      have e : cutV (ns.map V.int) none (some 1) = (ns.take 1).map V.int := by
        rw [show (1 : Int) = ((1 : Nat) : Int) by rfl, cutV_take, List.map_take]
      rw [e]
      refine ⟨p, _, rfl, SqL.of upd_same, _, _, rfl, rfl, by omega, q _ _ (same_new np)⟩
theorem scGener : FnScope ["_law_script", "_law_index", "_law_seed"] ["_law_script", "_law_index"] (defScope sGener) := ⟨rfl, rfl, rfl, by decide +kernel, rfl, by decide +kernel, by decide +kernel⟩
def spGener (K : PySem.W.Frag) : Sp := fun vs H Q _ => ∃ (a : Addr) (ns : List Int) (i : Nat), vs = [.ref a, .int (i : Int)] ∧ SqL K H a (ns.map V.int) ∧ i ≤ 1000 ∧ ∀ H' p, Same H H' → H p = none → Gen H' p 1000000 → Q (.ref p) H'
theorem ok_gener {f f1 : Addr} {fd fd1 : FuncData} (F : Fun K "_law_generator" "_law_generator" sGener f fd) (mi : mg "int" = none) (mm : mg "max" = none)
    (F1 : Fun K "_law_cell" "_law_cell" sCell f1 fd1) (b1 : Binds K fd1 ["_law_script", "_law_index"] []) (g1 : mg "_law_cell" = some (.ref f1)) (G1 : FnOk P w K mg base CX0 1 f1 fd1 ["_law_script", "_law_index"] (spCell K)) : FnOk P w K mg base CX0 2 f fd ["_law_script", "_law_index"] (spGener K) := by
  refine F.ok scGener (fun vs H Q E h => ?_) (fun cdv A outer s H vs Q E hr h => ?_)
  · obtain ⟨a, ns, i, rfl, _⟩ := h
    rfl
  · obtain ⟨a, ns, i, rfl, ha, hi, q⟩ := h
    have nd := scGener.nd
    refine ⟨_, pss_cons (ps_set (i := 2) nd rfl (.inl rfl) (pe_call G1 hr (by rfl) g1 F1.kp b1 .nil pass0 (pa_cons (pv 0) (pa_cons (pv 1) pa_nil))))
      (pss_one (ps_ret (pe_lst (pa_cons (pe_op op_mod (pe_callTy call_int1 (by rfl) mi (by decide +kernel) (pa_cons (pe_callB (call_max2 rfl) (by rfl) mm (by decide +kernel) (pa_cons (pe_op op_sub (pv 2) (pe_op op_pow pe_int pe_int)) (pa_cons pe_int pa_nil))) pa_nil)) (pe_op op_powB (pe_op op_pow pe_int pe_int) pe_int))
        (pa_cons (pe_op op_mod (pe_callTy call_int1 (by rfl) mi (by decide +kernel) (pa_cons (pv 2) pa_nil)) pe_int) (pa_cons (pe_op op_mul pe_int (pv 1)) pa_nil)))))), ?_⟩
    refine ⟨_, rfl, _, rfl, a, ns, i, rfl, ha, fun v H1 s1 => ?_⟩
    refine ⟨_, rfl, _, _, rfl, rfl, ⟨by decide, by decide, by decide⟩, _, _, rfl, rfl, _, _, rfl, .inl ⟨_, rfl, _, _, rfl, rfl, ⟨by decide, by decide, by decide⟩, _, _, rfl, rfl, ⟨by decide, by decide +kernel⟩, _, _, rfl, rfl, ?_, ?_⟩⟩
    · exact Int.pow_pos (Int.pow_pos (by decide))
    refine ⟨_, rfl, .inl ⟨_, rfl, _, _, rfl, rfl, by omega, _, rfl, _, _, rfl, rfl, .inl ⟨by omega, by omega⟩, szl (by simp), fun p np => ?_⟩⟩
    exact q _ p (s1.new np) (s1.free np) ⟨_, _, _, upd_same, by omega, by omega⟩
end
end SSw
namespace SS
theorem perm_eraseIdx {α : Type} : ∀ {l : List α} {k : Nat} {x : α}, l[k]? = some x → l.Perm (x :: l.eraseIdx k)
  | [], k, x, h => by simp at h
  | y :: l, 0, x, h => by
    have : y = x := by simpa using h
    subst this
    exact .refl _
  | y :: l, k + 1, x, h => by
    have ih := perm_eraseIdx (l := l) (k := k) (x := x) (by simpa using h)
    exact (ih.cons y).trans (.swap x y _)
end SS
namespace SSw
open PySem PySem.Spec PyProof.Rows L2
theorem nl_erase (g : List Nat) (k : Nat) : (nl g).eraseIdx k = nl (g.eraseIdx k) := by
  unfold nl
  induction g generalizing k with
  | nil => rfl
  | cons x g ih =>
    cases k with
    | zero => rfl
    | succ k => 
      show V.int (x : Int) :: (g.map _).eraseIdx k = _
      rw [ih k]
      rfl
def rPopAtK : V → List V → Hp → VK → Prop := rPopAt
theorem popAtK {X : Cx} : MtR X "list.pop" rPopAt := mt_popAt
theorem rgc28 : ∀ n : Nat, n < 61 → RgC 0 ((n : Int) - 1) 2 (n / 2) := by
  have : ∀ n : _root_.Fin 61, Builtin.Range.small 0 ((n.val : Int) - 1) 2 = true ∧ Builtin.Range.rangeSize 0 ((n.val : Int) - 1) 2 = ((n.val / 2 : Nat) : Int) := by decide +kernel
  intro n hn
  obtain ⟨h1, h2⟩ := this ⟨n, hn⟩
  exact ⟨by decide, by decide, h1, h2⟩
section
variable {P : Program} {w : World} {K : PySem.W.Frag} {mg : Str → Option Value} {base : Heap}
/-! ### _law_program -/
abbrev nLProg : List Str := ["_law_generator_here", "_law_size_told", "_law_many", "_law_turn"]
theorem scLProg : FnScope nLProg ["_law_generator_here", "_law_size_told", "_law_many"] (defScope sLProg) := ⟨rfl, rfl, rfl, by decide +kernel, rfl, by decide +kernel, by decide +kernel⟩
def spLProg : Sp := fun vs H Q _ => ∃ (a : Addr) (n k M : Nat), vs = [.ref a, .int (n : Int), .int (k : Int)] ∧ Gen H a M ∧ n ≤ 60 ∧ k ≤ 10 ∧ M ≤ 900000000 ∧ ∀ (prog : List Nat) H' p, Keep a H H' → H p = none → H' p = some (.lst (nl prog)) → (∀ x ∈ prog, x < n) → Gen H' a (M + 30) → Q (.ref p) H'
theorem ok_lprog {f f1 : Addr} {fd fd1 : FuncData} (F : Fun K "_law_program" "_law_program" sLProg f fd) (mr : mg "range" = none)
    (F1 : Fun K "_law_random" "_law_random" sRandom f1 fd1) (b1 : Binds K fd1 ["_law_generator_here", "_law_bound"] []) (g1 : mg "_law_random" = some (.ref f1)) (G1 : FnOk P w K mg base CX0 2 f1 fd1 ["_law_generator_here", "_law_bound"] spRandom) : FnOk P w K mg base CX0 3 f fd ["_law_generator_here", "_law_size_told", "_law_many"] spLProg := by
  refine F.ok scLProg (fun vs H Q E h => ?_) (fun cdv A outer s H vs Q E hr h => ?_)
  · obtain ⟨a, n, k, M, rfl, _⟩ := h
    rfl
  · obtain ⟨a, n, k, M, rfl, hG, hn, hk, hM, q⟩ := h
    have nd := scLProg.nd
    refine ⟨_, pss_one (ps_ret (pe_ifExp (pt_cmpR op_gt (pv 1) pe_int (nomark _)) (pe_lc (own := [("_law_turn", 3)]) (g := gName 3) (tt := tYes) rfl nd (pi_range1 rfl mr (pa_cons (pv 2) pa_nil))
        (blkOk_by (own := [("_law_turn", 3)]) (N := nLProg) (sc := defScope sLProg) (by decide +kernel)) (fun _ _ _ _ _ => pg_name (i := 3) nd rfl (.inl rfl)) (fun _ _ _ _ _ => pts_nil)
        (fun _ _ _ _ _ => pe_call G1 hr (by rfl) g1 F1.kp b1 .nil pass0 (pa_cons (pv 0) (pa_cons (pv 1) pa_nil)))) (pe_lst pa_nil))), ?_⟩
    refine ⟨_, rfl, _, _, rfl, rfl, _, rfl, ?_⟩
    show if decide ((n : Int) > 0) = true then _ else _
    by_cases h0 : 0 < n
    · rw [decide_eq_true (by omega)]
      refine iteT ⟨_, rfl, _, rfl, by omega, by omega, fun D nD => lc_range (lo := 0) (n := (k : Int).toNat) (fun i H' => Keep a H H' ∧ Gen H' a (M + 3 * i) ∧ ∃ prog : List Nat, H' D = some (.lst (nl prog)) ∧ prog.length = i ∧ ∀ x ∈ prog, x < n)
        ⟨(same_new nD).keep, hG.upd (hG.ne nD), [], upd_same, rfl, by simp⟩ (fun i H' hi hp => ?_) (fun H' hp => ?_)⟩
      · obtain ⟨kp, hG', prog, hD, hl, hp⟩ := hp
        refine ⟨rfl, _, rfl, _, rfl, a, n, M + 3 * i, rfl, hG', h0, by omega, by omega, fun r H2 hr2 kp2 hG2 => ?_⟩
        have hDa : D ≠ a := hG.ne nD
        have hD2 := kp2 _ _ hDa hD
        refine ⟨_, hD2, by rw [nl_len]; exact szlt (by omega), (kp.trans kp2).own nD, (hG2.upd hDa).mono (by omega), prog ++ [r], by rw [upd_same, nl_app]; rfl, by rw [List.length_append, hl]; rfl, fun x hx => ?_⟩
        rcases List.mem_append.mp hx with h | h
        · exact hp x h
        · rw [List.mem_singleton.mp h]; exact hr2
      · obtain ⟨kp, hG', prog, hD, hl, hp⟩ := hp
        exact q prog H' D kp nD hD hp (hG'.mono (by omega))
    · rw [decide_eq_false (by omega)]
      refine iteF ⟨Nat.zero_le _, fun p np => q [] _ p (same_new np).keep np upd_same (by simp) ((hG.upd (hG.ne np)).mono (by omega))⟩
/-! ### _law_drawn -/
abbrev nDrawn : List Str := ["_law_generator_here", "_law_size_told", "_law_way", "_law_left", "_law_at", "_law_turn"]
theorem scDrawn : FnScope nDrawn ["_law_generator_here", "_law_size_told"] (defScope sDrawn) := ⟨rfl, rfl, rfl, by decide +kernel, rfl, by decide +kernel, by decide +kernel⟩
def spDrawn : Sp := fun vs H Q _ => ∃ (a : Addr) (n M : Nat), vs = [.ref a, .int (n : Int)] ∧ Gen H a M ∧ n ≤ 60 ∧ M ≤ 800000000 ∧ ∀ (g : List Nat) H' p, Keep a H H' → H p = none → H' p = some (.lst (nl g)) → SS.IsPl g → g.length = n → Gen H' a (M + 300) → Q (.ref p) H'
theorem ok_drawn {f f1 f2 f3 : Addr} {fd fd1 fd2 fd3 : FuncData} (F : Fun K "_law_drawn" "_law_drawn" sDrawn f fd) (mr : mg "range" = none) (ml : mg "list" = none) (mn : mg "len" = none)
    (F1 : Fun K "_law_random" "_law_random" sRandom f1 fd1) (b1 : Binds K fd1 ["_law_generator_here", "_law_bound"] []) (g1 : mg "_law_random" = some (.ref f1)) (G1 : FnOk P w K mg base CX0 2 f1 fd1 ["_law_generator_here", "_law_bound"] spRandom)
    (F2 : Fun K "_law_program" "_law_program" sLProg f2 fd2) (b2 : Binds K fd2 ["_law_generator_here", "_law_size_told", "_law_many"] []) (g2 : mg "_law_program" = some (.ref f2)) (G2 : FnOk P w K mg base CX0 3 f2 fd2 ["_law_generator_here", "_law_size_told", "_law_many"] spLProg)
    (F3 : Fun K "_law_moves" "_law_moves" sLMoves f3 fd3) (b3 : Binds K fd3 ["_law_size_told", "_law_places"] []) (g3 : mg "_law_moves" = some (.ref f3)) (G3 : FnOk P w K mg base CX0 2 f3 fd3 ["_law_size_told", "_law_places"] spMovedBy) :
    FnOk P w K mg base CX0 4 f fd ["_law_generator_here", "_law_size_told"] spDrawn := by
  refine F.ok scDrawn (fun vs H Q E h => ?_) (fun cdv A outer s H vs Q E hr h => ?_)
  · obtain ⟨a, n, M, rfl, _⟩ := h
    rfl
  · obtain ⟨a, n, M, rfl, hG, hn, hM, q⟩ := h
    have nd := scDrawn.nd
    have hr2 : Room 2 _ := hr.mono (by decide)
    refine ⟨_, pss_cons (ps_asg (pe_tup (pa_cons (pe_call G1 hr2 (by rfl) g1 F1.kp b1 .nil pass0 (pa_cons (pv 0) (pa_cons pe_int pa_nil))) (pa_cons (pe_listRg rfl (by rfl) ml (prg_1 (by rfl) mr (pv 1))) pa_nil)))
        (pg_tup rfl (pgs_cons (pg_name (i := 2) nd rfl (.inl rfl)) (pgs_cons (pg_name (i := 3) nd rfl (.inr rfl)) pgs_nil))))
      (pss_cons (ps_if (pt_cmpR op_eq (pv 2) pe_int (nomark _)) (pss_one (ps_ret (pe_call G3 hr2 (by rfl) g3 F3.kp b3 .nil pass0 (pa_cons (pv 1) (pa_cons (pe_call G2 hr (by rfl) g2 F2.kp b2 .nil pass0 (pa_cons (pv 0) (pa_cons (pv 1) (pa_cons (pe_call G1 hr2 (by rfl) g1 F1.kp b1 .nil pass0 (pa_cons (pv 0) (pa_cons pe_int pa_nil))) pa_nil)))) pa_nil))))) pss_nil)
      (pss_cons (ps_if (pt_cmpR op_eq (pv 2) pe_int (nomark _)) (pss_one (ps_ret (pe_lc (own := [("_law_turn", 5)]) (g := gName 5) (tt := tYes) rfl nd (pi_range1 rfl mr (pa_cons (pv 1) pa_nil))
          (blkOk_by (own := [("_law_turn", 5)]) (N := nDrawn) (sc := defScope sDrawn) (by decide +kernel)) (fun _ _ _ _ _ => pg_name (i := 5) nd rfl (.inl rfl)) (fun _ _ _ _ _ => pts_nil)
          (fun _ _ _ _ _ => pe_bmK (K := K) rfl PySem.F.plainAttrs_list PySem.F.slot_list_pop PySem.F.type_list_pop popAtK (pv 3) (pa_cons (pe_call G1 hr2 (by rfl) g1 F1.kp b1 .nil pass0 (pa_cons (pv 0) (pa_cons (pe_callB (lenK (K := K) rfl) (by rfl) mn PySem.boot_len (pa_cons (pv 3) pa_nil)) pa_nil))) pa_nil))))) pss_nil)
      (pss_cons (ps_for PassesOwn.never rfl (pi_range3 rfl mr (pa_cons pe_int (pa_cons (pe_op op_sub (pv 1) pe_int) (pa_cons pe_int pa_nil)))) (pg_name (i := 4) nd rfl (.inl rfl))
        (pss_one (ps_if (pt_cmpR op_gt (pe_call G1 hr2 (by rfl) g1 F1.kp b1 .nil pass0 (pa_cons (pv 0) (pa_cons pe_int pa_nil))) pe_int (nomark _))
          (pss_one (ps_asg (pe_tup (pa_cons (pe_ix ix_list (pv 3) (pe_op op_add (pv 4) pe_int) (fun _ _ => rfl)) (pa_cons (pe_ix ix_list (pv 3) (pv 4) (fun _ _ => rfl)) pa_nil)))
            (pg_tup rfl (pgs_cons (pg_sub (pv 3) (pv 4) set_list) (pgs_cons (pg_sub (pv 3) (pe_op op_add (pv 4) pe_int) set_list) pgs_nil))))) pss_nil)))
      (pss_one (ps_ret (pv 3)))))), ?_⟩
    refine ⟨_, rfl, a, 3, M, rfl, hG, by omega, by omega, by omega, fun r H1 hr1 kp1 hG1 => ⟨_, rfl, _, rfl, rgOk_n (by omega), fun l nl0 => ?_⟩⟩
    rw [rg_nl]
    have hla : l ≠ a := hG1.ne nl0
    have k2 := kp1.same (same_new (o := .lst (nl (List.range n))) nl0)
    have G2' := hG1.upd (o := .lst (nl (List.range n))) hla
    have l2 : (upd H1 l (.lst (nl (List.range n)))) l = some (.lst (nl (List.range n))) := upd_same
    generalize (upd H1 l (.lst (nl (List.range n)))) = H2 at k2 G2' l2 ⊢
    refine ⟨szl (by simp), fun t nt => ⟨t, _, rfl, SqT.of upd_same, rfl, _, _, rfl, _, _, rfl, rfl, ?_⟩⟩
    have k3 := k2.same (same_new (o := .tup [.int (r : Int), .ref l]) nt)
    have G3' := G2'.upd (o := .tup [.int (r : Int), .ref l]) (G2'.ne nt)
    have l3 := same_new (o := .tup [.int (r : Int), .ref l]) nt _ _ l2
    generalize (upd H2 t (.tup [.int (r : Int), .ref l])) = H3 at k3 G3' l3 ⊢
    have hlH : H l = none := by
      cases e : H l with
      | none => rfl
      | some o => have := kp1 l o hla e; rw [nl0] at this; cases this
    have hfresh : ∀ {H' : Hp} {p : Addr}, Keep a H H' → Gen H' a (M + 300) → H' p = none → H p = none := fun {H' p} kp hg np => by
      cases e : H p with
      | none => rfl
      | some o => have := kp p o (hg.ne np) e; rw [np] at this; cases this
    refine ⟨_, rfl, rfl, _, rfl, ?_⟩
    show if decide (V.int (r : Int) = V.int 0) = true then _ else _
    by_cases w0 : r = 0
    · -- few places
      rw [decide_eq_true (by rw [w0]; rfl)]
      refine iteT ⟨_, rfl, _, rfl, _, rfl, _, rfl, a, 6, M + 3, rfl, G3', by omega, by omega, by omega, fun r2 H4 hr2' kp4 hG4 => ⟨a, n, r2, M + 3 + 3, rfl, hG4, hn, by omega, by omega, fun prog H5 p5 kp5 np5 h5 hp5 hG5 => ⟨n, p5, prog, rfl, h5, hp5, by omega, fun H6 p6 s6 np6 h6 => ?_⟩⟩⟩
      have kA := ((k3.trans kp4).trans kp5).same s6
      have gA := (hG5.same s6).mono (show M + 3 + 3 + 30 ≤ M + 300 by omega)
      refine q (SS.moved n prog) H6 p6 kA ?_ h6 (SS.moved_pl hp5) (moved_len hp5) gA
      exact hfresh ((k3.trans kp4).trans kp5) (hG5.mono (by omega)) np6
    · rw [decide_eq_false (fun z => w0 (by have := V.int.inj z; omega))]
      refine iteF ⟨_, rfl, rfl, _, rfl, ?_⟩
      show if decide (V.int (r : Int) = V.int 1) = true then _ else _
      by_cases w1 : r = 1
      · -- drawn
        rw [decide_eq_true (by rw [w1]; rfl)]
        refine iteT ⟨_, rfl, _, rfl, by omega, by omega, fun D nD => lc_range (lo := 0) (n := (n : Int).toNat) (fun i H' => Keep a H H' ∧ Gen H' a (M + 3 + 3 * i) ∧ ∃ res lf : List Nat, H' D = some (.lst (nl res)) ∧ H' l = some (.lst (nl lf)) ∧ (res ++ lf).Perm (List.range n) ∧ res.length = i)
          ⟨k3.same (same_new nD), G3'.upd (G3'.ne nD), [], List.range n, upd_same, same_new nD _ _ l3, .refl _, rfl⟩ (fun i H' hi hp => ?_) (fun H' hp => ?_)⟩
        · obtain ⟨kp, hG', res, lf, hD, hl, hpm, hres⟩ := hp
          have hDl : D ≠ l := (ne_of_none l3 nD).symm
          have hDa : D ≠ a := G3'.ne nD
          have hlen : res.length + lf.length = n := by
            have := hpm.length_eq
            rw [List.length_append, List.length_range] at this
            exact this
          have hDH : H D = none := hfresh k3 (G3'.mono (by omega)) nD
          refine ⟨rfl, _, rfl, .inl ⟨rfl, _, SqL.of hl⟩, _, rfl, _, rfl, l, _, rfl, .inl (SqL.of hl), a, lf.length, M + 3 + 3 * i, by rw [nl_len]; rfl, hG', by omega, by omega, by omega, fun r4 H4 hr4 kp4 hG4 => ?_⟩
          have hl4 := kp4 _ _ hla hl
          have hD4 := kp4 _ _ hDa hD
          have hx : lf[r4]? = some lf[r4] := List.getElem?_eq_getElem hr4
          refine ⟨l, nl lf, (r4 : Int), r4, _, rfl, rfl, hl4, by omega, by omega, ?_, nl_at hx, ?_⟩
          · rw [seqIndex_of (by omega) (by rw [nl_len]; omega), Int.toNat_natCast]
          rw [nl_erase]
          have hD5 : (upd H4 l (.lst (nl (lf.eraseIdx r4)))) D = some (.lst (nl res)) := by rw [upd_ne hDl]; exact hD4
          refine ⟨nl res, hD5, by rw [nl_len]; exact szlt (by omega), ((kp.trans kp4).own hlH).own hDH, ((hG4.upd hla).upd hDa).mono (by omega), res ++ [lf[r4]], lf.eraseIdx r4, ?_, ?_, ?_, by rw [List.length_append, hres]; rfl⟩
          · rw [upd_same, nl_app]
            rfl
          · rw [upd_ne hDl.symm, upd_same]
          · rw [List.append_assoc]
            exact ((SS.perm_eraseIdx hx).symm.append_left res).trans hpm
        · obtain ⟨kp, hG', res, lf, hD, hl, hpm, hres⟩ := hp
          rw [Int.toNat_natCast] at hres hG'
          have hlen := hpm.length_eq
          rw [List.length_append, List.length_range] at hlen
          have hlf : lf = [] := List.length_eq_zero_iff.mp (by omega)
          rw [hlf, List.append_nil] at hpm
          have hDH : H D = none := hfresh k3 (G3'.mono (by omega)) nD
          refine q res H' D kp hDH hD ?_ hres (hG'.mono (by omega))
          unfold SS.IsPl
          rw [hres]
          exact hpm
      · -- exchanges of neighbours
        rw [decide_eq_false (fun z => w1 (by have := V.int.inj z; omega))]
        refine iteF ⟨_, rfl, _, _, rfl, rfl, 0, (n : Int) - 1, 2, n / 2, rfl, rgc28 n (by omega), for_rangeC (lo := 0) (c := 2) (n := n / 2) (fun i σ H' => ∃ (v : Option V) (lf : List Nat), σ = [some (.ref a), some (.int (n : Int)), some (.int (r : Int)), some (.ref l), v, none] ∧ Keep a H H' ∧ Gen H' a (M + 3 + 3 * i) ∧ H' l = some (.lst (nl lf)) ∧ lf.Perm (List.range n))
          ⟨none, List.range n, rfl, k3, G3', l3, .refl _⟩ ?_ ?_⟩
        · rintro i σ H' hi ⟨v, lf, rfl, kp, hG', hl, hpm⟩
          rw [show (0 : Int) + ((i : Nat) : Int) * 2 = ((2 * i : Nat) : Int) by omega]
          have hlen : lf.length = n := by rw [hpm.length_eq, List.length_range]
          refine ⟨_, rfl, a, 3, M + 3 + 3 * i, rfl, hG', by omega, by omega, by omega, fun r4 H4 hr4 kp4 hG4 => ⟨_, _, rfl, rfl, _, rfl, ?_⟩⟩
          have hl4 := kp4 _ _ hla hl
          show if decide ((r4 : Int) > 0) = true then _ else _
          by_cases h0 : 0 < r4
          · rw [decide_eq_true (by omega : (r4 : Int) > 0)]
            have h1 : 2 * i < lf.length := by omega
            have h2 : 2 * i + 1 < lf.length := by omega
            have e1 : (((2 * i : Nat) : Int) + 1) = ((2 * i + 1 : Nat) : Int) := by omega
            refine iteT ⟨_, rfl, _, rfl, _, _, rfl, rfl, l, _, _, .int ((lf[2 * i + 1] : Nat) : Int), rfl, rfl, SqL.of hl4, (by rw [e1]; exact atI_nat (nl_get h2)), _, rfl, _, rfl, l, _, _, .int ((lf[2 * i] : Nat) : Int), rfl, rfl, SqL.of hl4, atI_nat (nl_get h1), szl (by simp), fun t2 nt2 => ?_⟩
            have hl5 := same_new (o := .tup [.int ((lf[2 * i + 1] : Nat) : Int), .int ((lf[2 * i] : Nat) : Int)]) nt2 _ _ hl4
            have k5 := (kp.trans kp4).same (same_new (o := .tup [.int ((lf[2 * i + 1] : Nat) : Int), .int ((lf[2 * i] : Nat) : Int)]) nt2)
            have g5 := hG4.upd (o := .tup [.int ((lf[2 * i + 1] : Nat) : Int), .int ((lf[2 * i] : Nat) : Int)]) (hG4.ne nt2)
            refine ⟨t2, _, rfl, SqT.of upd_same, rfl, _, _, rfl, _, rfl, _, rfl, l, _, _, 2 * i, rfl, rfl, hl5, ixN_nat (by rw [nl_len]; omega), _, _, rfl, _, rfl, _, rfl, _, _, rfl, rfl, l, _, _, 2 * i + 1, rfl, rfl, upd_same, (by rw [e1]; exact ixN_nat (by rw [List.length_set, nl_len]; omega)), rfl, ?_⟩
            rw [nl_set, nl_set]
            exact ⟨_, _, rfl, (k5.own hlH).own hlH, ((g5.upd hla).upd hla).mono (by omega), upd_same, (List.set_set_perm h1 h2).trans hpm⟩
          · rw [decide_eq_false (by omega : ¬ (r4 : Int) > 0)]
            exact iteF ⟨_, lf, rfl, kp.trans kp4, hG4.mono (by omega), hl4, hpm⟩
        · rintro σ H' ⟨v, lf, rfl, kp, hG', hl, hpm⟩
          have hlen : lf.length = n := by rw [hpm.length_eq, List.length_range]
          refine ⟨_, rfl, q lf H' l kp hlH hl ?_ hlen (hG'.mono (by omega))⟩
          unfold SS.IsPl
          rw [hlen]
          exact hpm
end
end SSw
namespace SSw
open PySem PySem.Spec PyProof.Rows L2
/-! ### a < b of lists of counts -/
def di (g : List Nat) : List PyData := g.map fun x => PyData.int ((x : Nat) : Int)
theorem alike_dl : ∀ g k : List Nat, PySem.W.alikeAll (di g) (di k) = true
  | [], k => by
    cases k with
    | nil => rfl
    | cons _ _ => rfl
  | x :: g, [] => rfl
  | x :: g, y :: k => by
    show (PySem.W.alike (.int _) (.int _) && PySem.W.alikeAll (di g) (di k)) = true
    rw [alike_dl g k]
    rfl
theorem itemLt01 : itemLt (.inl 0) (.inl 1) = true := by decide
theorem itemLt10 : itemLt (.inl 1) (.inl 0) = false := by decide
theorem itemLt00 : itemLt (.inl 0) (.inl 0) = false := by decide
theorem lex_dl : ∀ g k : List Nat, PyProof.Rows.lexLt itemOrd (PySem.W.keyToksAll (di g)) (PySem.W.keyToksAll (di k)) = SS.lexLt g k
  | [], [] => by
    show PyProof.Rows.lexLt itemOrd [.inl 0] [.inl 0] = _
    rw [PySem.W.lex_one, itemLt00]
    rfl
  | [], y :: k => by
    show PyProof.Rows.lexLt itemOrd [.inl 0] (.inl 1 :: _) = _
    rw [PySem.W.lex_atom (by intro z; cases z), PySem.W.lex_one, itemLt01]
    rfl
  | x :: g, [] => by
    show PyProof.Rows.lexLt itemOrd (.inl 1 :: _) [.inl 0] = _
    rw [PySem.W.lex_atom (by intro z; cases z), PySem.W.lex_one, itemLt10]
    rfl
  | x :: g, y :: k => by
    have ha : PySem.W.alike (.int ((x : Nat) : Int)) (.int ((y : Nat) : Int)) = true := rfl
    show PyProof.Rows.lexLt itemOrd (PySem.W.keyToksAll (.int ((x : Nat) : Int) :: di g)) (PySem.W.keyToksAll (.int ((y : Nat) : Int) :: di k)) = if x = y then SS.lexLt g k else decide (x < y)
    by_cases e : x = y
    · rw [if_pos e, PySem.W.dataLt_all_yes ha (by show (((x : Nat) : Int) == ((y : Nat) : Int)) = true; rw [e]; simp), lex_dl g k]
    · rw [if_neg e, PySem.W.dataLt_all_no ha (by show (((x : Nat) : Int) == ((y : Nat) : Int)) = false; exact beq_eq_false_iff_ne.mpr (by omega)), PySem.W.dataLt_int]
      exact decide_eq_decide.mpr (by omega)
def rLtL (K : PySem.W.Frag) : V → V → Hp → VK → Prop := fun x y H Q => ∃ (a b : Addr) (g k : List Nat), x = .ref a ∧ y = .ref b ∧ SqL K H a (nl g) ∧ SqL K H b (nl k) ∧ Q (.bl (SS.lexLt g k)) H
theorem op_ltL {X : Cx} (hu : X.A.units + 64 < cLine) : OpR X (compareOp .Lt) (rLtL X.K) := by
  intro pins s σ H x y v u Q I rx ry h
  obtain ⟨a, b, g, k, rfl, rfl, ha, hb, q⟩ := h
  obtain ⟨as, r1⟩ := Dp.reads I (dl g) (.ref a) v (dp_nl ha) rx
  obtain ⟨bs, r2⟩ := Dp.reads I (dl k) (.ref b) u (dp_nl hb) ry
  have hd : PySem.W.dataLt (dl g) (dl k) = SS.lexLt g k := (PySem.W.dataLt_list _ _).trans (lex_dl g k)
  have hdep : (dl g).depth = 1 := by
    show PyData.depthAll _ + 1 = 1
    rw [depthAll_dl g]
  have R := PySem.W.rcLt_alike (dl g) (dl k) X.A s v u as bs r1 r2 (alike_dl g k) (fun z => nomatch z) (by rw [hdep]; have := Nat.min_le_left 1 (dl k).depth; omega)
  rw [hd] at R
  exact R X.prog X.w X.xe (EP X pins σ Q) ⟨.bl _, H, I, rfl, q⟩
/-! ### {t: v}, t a tuple -/
def tDispT (tk tv : TE) : TE := fun σ H Q => ∀ p, H p = none → tk σ (upd H p (.dT [])) fun x H1 => tv σ H1 fun y H2 => ∃ (b : Addr) (kk : List Key), x = .ref b ∧ H2 p = some (.dT []) ∧ H2 b = some (.tup (kk.map kV)) ∧ Q (.ref p) (upd H2 p (.dT [(kk, y)]))
theorem pe_dispT {X : Cx} {pos : Pos} {k v : Expr} {tk tv : TE} (hu : X.A.units + 64 < cLine) (hk : PE X k tk) (hv : PE X v tv) : PE X (.Dict [some k] [v] pos) (tDispT tk tv) := by
  refine ⟨fun pins s σ H Q I q => ?_⟩
  have fresh := I.hok.fresh (Nat.le_refl s.heap.objs.size)
  have J := I.laid (a := s.heap.objs.size) (o := .dT []) (h' := s.heap.push { cls := .type "dict", data := .dict #[] }) (t' := s.toks) (fun _ _ z => Heap.get?_push_of_some _ z) (Nat.le_refl _) (dt_empty s.heap I.big)
  rw [arm_eval_Dict, zip_pairTrees [some k] [v] X.env pos rfl rfl, dictDisplay_pairs _ (by intro z; cases z) (by show 1 < 17; decide)]
  refine wpAny_bind (wpAny_standAt (wpAny_bind (wpAny_subDictH (knd := tupleKind (mixKind X.prog X.w)) (Q := fun d s' => wpAny (model X.prog X.w) X.A (pure (Value.ref d)) (EP X pins σ Q) X.xe s') (by show X.A.units < cLine; omega) (by show 1 ≤ 15; decide) ?_)))
  refine pairTrees_cons_walk (thn (hk.run pins _ σ _ _ J (q _ fresh)) fun u s1 ⟨x, H1, I1, rx, q1⟩ => thn (hv.run pins s1 σ H1 _ I1 q1) fun w2 s2 ⟨y, H2, I2, ry, b, kk, ex, hp, hb, q2⟩ => pairTrees_nil_walk ?_)
  subst ex
  obtain rfl : u = Value.ref b := rx
  obtain ⟨z, hd, xs, rel, dd⟩ := dt_of I2.hok hp
  have hxs : xs = [] := by
    cases rel
    rfl
  subst hxs
  refine ⟨[(kk, b, w2)], ⟨rfl, rfl, key_of I2.hok hb, trivial⟩, dd, fun h' tk dd' hs => wpAny_pure ⟨.ref s.heap.objs.size, _, ?_, rfl, q2⟩⟩
  obtain ⟨oo, es, ep, g1, g2, g3, g4, _, g6⟩ := dd'
  have hne : b ≠ s.heap.objs.size := ne_of hb hp (by intro z; cases z)
  refine d_write I2 (by rw [hp]; exact True.intro) hs ⟨oo, g1⟩ ⟨(by decide : 1 ≤ sizeLine), hd, [(kk, b, w2)], .cons ⟨rfl, by rw [upd_ne hne]; exact hb, ry⟩ .nil, oo, es, ep, g1, g2, g3, g4, g6⟩
end SSw
namespace SSw
open PySem PySem.Spec PyProof.Rows L2
/-! ### for k, v in d.items(), the keys tuples -/
theorem frzT_all {X : Cx} {pins : List (Addr × Obj)} {σ : L2.St} {H : Hp} {s : Shared} {d : Addr} {o : Obj} {kvs : List (List Key × V)} (I : Inv X pins σ H s) (h : H d = some (.frz o (.dT kvs))) :
    (d == sysModules) = false ∧ ∃ (es : Array DictEntry) (ep : Nat), o.data = .dict es ep ∧ s.heap.DictRaw d es ep ∧ es.size = kvs.length ∧
      ∀ (i : Nat) (hi : i < es.size), ∃ (k : List Key) (v : V) (q : Addr), kvs[i]? = some (k, v) ∧ es[i].key = .ref q ∧ H q = some (.tup (k.map kV)) ∧ RelV v es[i].val := by
  obtain ⟨g0, _, hs, xs, pr, o', es, ep, ho, hx, hdt, he, _⟩ := I.hok d _ h
  rw [g0] at ho
  obtain rfl : o = o' := Option.some.inj ho
  have l1 : es.size = xs.length := by
    have z := congrArg List.length he
    rw [Array.length_toList, List.length_map] at z
    exact z
  have l2 : kvs.length = xs.length := Paired.length pr
  refine ⟨hs, es, ep, hdt, ⟨o, g0, hx, hdt⟩, l1.trans l2.symm, fun i hi => ?_⟩
  have hik : i < kvs.length := by omega
  obtain ⟨b, hb, e1, e2, e3⟩ := paired_get pr (List.getElem?_eq_getElem hik)
  have q : es.toList[i]? = some (entryOfKey (tupleKind (mixKind X.prog X.w)) b) := by rw [he, List.getElem?_map, hb]; rfl
  have q2 : es[i] = entryOfKey (tupleKind (mixKind X.prog X.w)) b := by
    rw [Array.getElem?_toList, Array.getElem?_eq_getElem hi] at q
    exact Option.some.inj q
  exact ⟨kvs[i].1, kvs[i].2, b.2.1, List.getElem?_eq_getElem hik, by rw [q2]; rfl, e2, by rw [q2]; exact e3⟩
def ItiT (d : Addr) (o : Obj) (kvs : List (List Key × V)) : It :=
  ⟨fun i H => i < kvs.length ∧ H d = some (.frz o (.dT kvs)), fun i H x H' => ∃ (T q : Addr) (k : List Key) (v : V), kvs[i]? = some (k, v) ∧ x = .ref T ∧ H T = none ∧ H q = some (.tup (k.map kV)) ∧ H' = upd H T (.tup [.ref q, v]),
   fun i H => kvs.length ≤ i ∧ H d = some (.frz o (.dT kvs))⟩
theorem turn_itemsT {P : Program} {w : World} {K : PySem.W.Frag} {d : Addr} {o : Obj} {es : Array DictEntry} {ep : Nat} {kvs : List (List Key × V)} {elts : List Expr} {kk : Nat} {tpos : Pos} (it : Addr) (hod : o.data = .dict es ep) :
    Turn P w K (.Tuple elts kk tpos) (ItiT d o kvs) [it] it (fun i h => ∃ u v, IsItemIter h it d i kvs.length ep u v) where
  mem := List.mem_singleton.mpr rfl
  obj := fun i h st b hb => by
    obtain rfl := List.mem_singleton.mp hb
    obtain ⟨u, v, e⟩ := st
    exact ⟨_, e, fun _ z => nomatch z⟩
  keep := fun i h h' ⟨u, v, e⟩ k => ⟨u, v, k it (List.mem_singleton.mpr rfl) _ e⟩
  item := by
    intro X hP hw hK hc i pins s σ H E I hf st hg
    subst hP hw hK
    obtain ⟨hi, hd⟩ := hg
    obtain ⟨u, v, e⟩ := st
    obtain ⟨hs, es', ep', hdt, raw, hsz, ent⟩ := frzT_all I hd
    obtain ⟨rfl, rfl⟩ := dict_ep hod hdt
    have hi' : i < es'.size := by omega
    obtain ⟨k, y, q, hkv, hkey, hq, rv⟩ := ent i hi'
    have itlt : it < s.heap.objs.size := Heap.lt_size e
    rw [← hsz] at e
    refine wpAny_pyNext_items_item_raw e raw hi' fun h1 out hT _ kp => ⟨_, rfl, wpAny_letOwnedTupleGo_items (s := { s with heap := h1 }) out fun h2 e2 sb => ?_⟩
    have tup : h2.get? s.heap.objs.size = some { cls := .type "tuple", data := .seq #[es'[i].key, es'[i].val] } := (sb.2 _ (Nat.ne_of_gt itlt)).trans hT
    have ok : ObjOk X.prog X.w (upd H s.heap.objs.size (.tup [.ref q, y])) h2 s.heap.objs.size (.tup [.ref q, y]) :=
      ⟨(by decide : 2 ≤ sizeLine), [es'[i].key, es'[i].val], .cons hkey (.cons rv .nil), _, tup, rfl, _, rfl⟩
    have J : Inv X pins σ (upd H s.heap.objs.size (.tup [.ref q, y])) { s with heap := h2 } :=
      I.turnedNew (t' := s.toks) (ch := [it]) (fun b ob hb z => (sb.2 b fun w => hb (List.mem_singleton.mpr w)).trans (kp b ob (fun w => hb (List.mem_singleton.mpr w)) z)) hf (Nat.le_refl _) ok
    refine ⟨.ref s.heap.objs.size, _, J, rfl, ⟨_, q, k, y, hkv, rfl, I.hok.fresh (Nat.le_refl _), hq, rfl⟩, ⟨_, _, hsz ▸ e2⟩, fun b hb => ?_⟩
    obtain rfl := List.mem_singleton.mp hb
    rw [upd_ne (Nat.ne_of_lt itlt)]
    exact (hf b (List.mem_singleton.mpr rfl)).1
  done := by
    intro X hP hw hK hc i pins s σ H E I hf st hg
    subst hP hw hK
    obtain ⟨hi, hd⟩ := hg
    obtain ⟨u, v, e⟩ := st
    obtain ⟨f0, f1, f2, f3, f4, f5⟩ := hf it (List.mem_singleton.mpr rfl)
    obtain ⟨hs, es', ep', hdt, raw, hsz, ent⟩ := frzT_all I hd
    obtain ⟨rfl, rfl⟩ := dict_ep hod hdt
    rw [← hsz] at e
    exact wpAny_pyNext_items_end_raw (I.ok.hd hc) e raw (by omega) fun h1 eb => ⟨rfl, I.turned (t' := s.toks) (fun b ob hb z => eb b ob hb z) f0 f1 f3 f4 f5⟩
  self := fun A i s Q E ⟨u, v, e⟩ h => PySem.W.kcp_self e h
def iItemsT (td : TE) : TI := fun σ H R => td σ H fun x H1 => ∃ d o kvs, x = .ref d ∧ H1 d = some (.frz o (.dT kvs)) ∧ R (ItiT d o kvs) H1
theorem pi_itemsT {X : Cx} {e : Expr} {td : TE} {apos cpos tpos : Pos} {elts : List Expr} {kk : Nat} (he : PE X e td) (hbase : attributeBase e "items" X.env (eval e X.env) = eval e X.env := by rfl) (hline : (apos.endLine == cpos.line) = true := by rfl) :
    PI X (.Tuple elts kk tpos) (.Call (.Attribute e "items" apos) [] [] cpos) (iItemsT td) := by
  refine ⟨fun pins s σ H R I h => wpAny_Call_method (T := "dict") (id := "dict.items") hbase rfl hline F.plainAttrs_dict F.slot_dict_items F.type_dict_items (thn (he.run pins s σ H _ I h) fun u s1 ⟨x, H1, I1, rx, d, o, kvs, ex, hd, q⟩ => ?_)⟩
  subst ex
  obtain rfl : u = Value.ref d := rx
  obtain ⟨hs, es, ep, hdt, raw, hsz, ent⟩ := frzT_all I1 hd
  have J : Inv X pins σ H1 { s1 with heap := s1.heap.push { cls := .type "dict_items", data := .fields #[.ref d] } } := I1.kept (t' := s1.toks) fun b ob z => Heap.get?_push_of_some _ z
  have nd : ∀ a, Value.ref d = .ref a → ∃ ob, s1.heap.get? a = some ob ∧ ob.dict = none := fun a z => by
    obtain rfl := Value.ref.inj z
    obtain ⟨ob, w1, w2, _⟩ := raw
    exact ⟨ob, w1, w2.2.1⟩
  refine ⟨raw.typeIs, nd, ?_⟩
  have fin : wpAny (model X.prog X.w) X.A (pyIter (.ref s1.heap.objs.size)) (PIE X pins σ (.Tuple elts kk tpos) R) X.xe { s1 with heap := s1.heap.push { cls := .type "dict_items", data := .fields #[.ref d] } } := by
    refine wpAny_pyIter_items_raw (d := d) ⟨_, Heap.get?_push_size _ rfl, rfl, rfl⟩ (raw.at fun ob z => Heap.get?_push_of_some _ z) (pi_one (tk := s1.toks) J _ (turn_itemsT _ hdt) ⟨.none, .none, ?_⟩ q)
    rw [← hsz]
    exact Heap.get?_push_size _ rfl
  exact method_meetsIn F.slot_dict_items F.entry_dict_items rfl (PySem.evalArgs_none ⟨rfl, raw.typeIs, F.args_dict_items_1 _, _, meets_dict_items_raw d hs, ⟨es, ep, raw⟩, fin⟩)
end SSw
namespace SSw
open PySem PySem.Spec PyProof.Rows L2
/-! ### tuples of counts as keys -/
def tk (k : List Nat) : List Key := k.map ik
theorem tk_kV (k : List Nat) : (tk k).map kV = nl k := by
  unfold tk nl
  rw [List.map_map]
  rfl
theorem tk_inj : ∀ {k m : List Nat}, tk k = tk m → k = m
  | [], [], _ => rfl
  | [], _ :: _, h => by cases h
  | _ :: _, [], h => by cases h
  | x :: k, y :: m, h => by
    have h' : ik x :: tk k = ik y :: tk m := h
    injection h' with h1 h2
    rw [ik_inj h1, tk_inj h2]
theorem slA_read {K : PySem.W.Frag} {H : Hp} {a : Addr} {xs : List V} {lo hi : Option Int} {Q : VK} (h : H a = some (.tup xs)) (c : ∀ H' r, Same H H' → H' r = some (.tup (cutV xs lo hi)) → Q (.ref r) H') : rSlA K (.ref a) lo hi H Q := by
  refine ⟨a, xs, rfl, SqT.of h, fun ⟨e1, e2⟩ => c H a (Same.refl H) ?_, fun _ p np => c _ p (same_new np) upd_same⟩
  have : cutV xs lo hi = xs := by
    unfold cutV
    rw [e1, e2, List.drop_zero, Nat.sub_zero, List.take_length]
  rw [this]
  exact h
theorem catA_read {K : PySem.W.Frag} {H : Hp} {a b : Addr} {xs ys : List V} {Q : VK} (h1 : H a = some (.tup xs)) (h2 : H b = some (.tup ys)) (hz : xs.length + ys.length ≤ sizeLine) (c : ∀ H' r, Same H H' → H' r = some (.tup (xs ++ ys)) → Q (.ref r) H') : rCatA K (.ref a) (.ref b) H Q := by
  refine ⟨a, b, xs, ys, rfl, rfl, SqT.of h1, SqT.of h2, hz, fun e => c H b (Same.refl H) ?_, fun _ e => c H a (Same.refl H) ?_, fun _ _ p np => c _ p (same_new np) upd_same⟩
  · rw [e]
    exact h2
  · rw [e, List.append_nil]
    exact h1
/-! ### the layers in the heap -/
/-- lists stay -/
def LK (H H' : Hp) : Prop := ∀ b xs, H b = some (.lst xs) → H' b = some (.lst xs)
theorem LK.refl (H : Hp) : LK H H := fun _ _ e => e
theorem LK.trans {H H1 H2 : Hp} (h : LK H H1) (k : LK H1 H2) : LK H H2 := fun b xs e => k b xs (h b xs e)
theorem LK.of {H H' : Hp} (h : Same H H') : LK H H' := fun b xs e => h b _ e
theorem LK.upd {H H1 : Hp} {d : Addr} {o u : HO} (h : LK H H1) (e : H1 d = some o) (n : ∀ xs, o ≠ .lst xs) : LK H (L2.upd H1 d u) := fun b xs z => by
  have z' := h b xs z
  have : b ≠ d := fun q => by
    subst q
    rw [z'] at e
    exact n xs (Option.some.inj e).symm
  rw [upd_ne this]
  exact z'
def EntIs (H : Hp) (p : List Key × V) (e : SS.En) : Prop := p.1 = tk e.1 ∧ ∃ a b : Addr, p.2 = .ref a ∧ H a = some (.lst [.int ((e.2.1 : Nat) : Int), .ref b]) ∧ H b = some (.lst (nl e.2.2))
abbrev EntAt (H : Hp) (kvs : List (List Key × V)) (L : List SS.En) : Prop := Paired (EntIs H) kvs L
theorem EntIs.keep {H H' : Hp} {p : List Key × V} {e : SS.En} (h : EntIs H p e) (k : LK H H') : EntIs H' p e := by
  obtain ⟨h1, a, b, h2, h3, h4⟩ := h
  exact ⟨h1, a, b, h2, k _ _ h3, k _ _ h4⟩
theorem EntAt.keep {H H' : Hp} {kvs : List (List Key × V)} {L : List SS.En} (h : EntAt H kvs L) (k : LK H H') : EntAt H' kvs L := Paired.mapP h fun _ _ z => z.keep k
theorem EntAt.len {H : Hp} {kvs : List (List Key × V)} {L : List SS.En} (h : EntAt H kvs L) : kvs.length = L.length := Paired.length h
theorem EntAt.find {H : Hp} {kvs : List (List Key × V)} {L : List SS.En} (h : EntAt H kvs L) (k : List Nat) :
    (L.find? (fun e => decide (e.1 = k)) = none → valV kvs (tk k) = none) ∧ (∀ e, L.find? (fun e => decide (e.1 = k)) = some e → e.1 = k ∧ ∃ v, valV kvs (tk k) = some v ∧ EntIs H (tk k, v) e) := by
  induction h with
  | nil => exact ⟨fun _ => rfl, fun e z => by simp at z⟩
  | @cons p e ps es hp _ ih =>
    by_cases q : e.1 = k
    · have hk : p.1 = tk k := by rw [hp.1, q]
      have hf : (e :: es).find? (fun e => decide (e.1 = k)) = some e := by rw [List.find?_cons, decide_eq_true q]
      refine ⟨fun z => (by rw [hf] at z; cases z), fun e' z => ?_⟩
      rw [hf] at z
      obtain rfl := Option.some.inj z
      obtain ⟨h1, a, b, h2, h3, h4⟩ := hp
      exact ⟨q, p.2, valV_pos hk, by rw [q], a, b, h2, h3, h4⟩
    · have hk : ¬ p.1 = tk k := fun z => q (tk_inj (hp.1.symm.trans z))
      have hf : (e :: es).find? (fun e => decide (e.1 = k)) = es.find? (fun e => decide (e.1 = k)) := by rw [List.find?_cons, decide_eq_false q]
      rw [hf, valV_neg hk]
      exact ih
theorem EntAt.any {H : Hp} {kvs : List (List Key × V)} {L : List SS.En} (h : EntAt H kvs L) (k : List Nat) : (valV kvs (tk k)).isSome = (L.find? (fun e => decide (e.1 = k))).isSome := by
  obtain ⟨h1, h2⟩ := h.find k
  cases e : L.find? (fun e => decide (e.1 = k)) with
  | none => rw [h1 e]; rfl
  | some x =>
    obtain ⟨_, v, hv, _⟩ := h2 x e
    rw [hv]
    rfl
theorem EntAt.putNew {H : Hp} {kvs : List (List Key × V)} {L : List SS.En} (h : EntAt H kvs L) {k : List Nat} {c : Nat} {p : List Nat} {v : V} (hv : EntIs H (tk k, v) (k, c, p)) (hn : L.find? (fun e => decide (e.1 = k)) = none) :
    EntAt H (putK kvs (tk k) v) (SS.putE L k c p) := by
  unfold SS.putE
  rw [hn, putK_new v ((h.find k).1 hn)]
  exact Paired.snoc h hv
theorem EntAt.putOld {H : Hp} {kvs : List (List Key × V)} {L : List SS.En} (h : EntAt H kvs L) {k : List Nat} {c : Nat} {p : List Nat} {v : V} {e : SS.En} (hn : L.find? (fun e => decide (e.1 = k)) = some e)
    (hv : EntIs H (tk k, v) (k, e.2.1 + c, if SS.lexLt p e.2.2 then p else e.2.2)) : EntAt H (putK kvs (tk k) v) (SS.putE L k c p) := by
  have ha : (kvs.any fun kv => decide (kv.1 = tk k)) = true := by rw [valV_any, h.any k, hn]; rfl
  unfold SS.putE putK
  rw [hn, if_pos ha]
  show Paired (EntIs H) _ (L.map fun e' => if e'.1 = k then (k, e.2.1 + c, if SS.lexLt p e.2.2 then p else e.2.2) else e')
  clear ha hn
  induction h with
  | nil => exact .nil
  | @cons p' e' ps es hp _ ih =>
    refine .cons ?_ ih
    show EntIs H (if p'.1 = tk k then (p'.1, v) else p') (if e'.1 = k then (k, e.2.1 + c, if SS.lexLt p e.2.2 then p else e.2.2) else e')
    by_cases q : e'.1 = k
    · rw [if_pos q, if_pos (by rw [hp.1, q])]
      have : p'.1 = tk k := by rw [hp.1, q]
      rw [this]
      exact hv
    · rw [if_neg q, if_neg (fun z => q (tk_inj (hp.1.symm.trans z)))]
      exact hp
def KnownIs (kvs : List (List Key × V)) (known : List (List Nat)) : Prop := (∀ k, (valV kvs (tk k)).isSome = decide (k ∈ known)) ∧ kvs.length ≤ known.length
theorem KnownIs.put {kvs : List (List Key × V)} {known : List (List Nat)} (h : KnownIs kvs known) (k : List Nat) (v : V) : KnownIs (putK kvs (tk k) v) (known ++ [k]) := by
  refine ⟨fun m => ?_, ?_⟩
  · rw [valV_put]
    by_cases e : m = k
    · rw [if_pos (by rw [e]), e, decide_eq_true (by simp)]
      rfl
    · rw [if_neg (fun z => e (tk_inj z)), h.1 m]
      exact decide_eq_decide.mpr (by simp [e])
  · have h1 := length_putK kvs (tk k) v
    have h2 := h.2
    rw [List.length_append, List.length_singleton]
    omega
theorem KnownIs.one (k : List Nat) (v : V) : KnownIs [(tk k, v)] [k] := by
  refine ⟨fun m => ?_, Nat.le_refl _⟩
  by_cases e : m = k
  · rw [e, valV_pos rfl, decide_eq_true (by simp)]
    rfl
  · rw [valV_neg (fun z => e (tk_inj z.symm)), valV_nil, decide_eq_false (by simpa using e)]
    rfl
/-! ### walks of such dicts -/
theorem for_itemsT {d : Addr} {o : Obj} {kvs : List (List Key × V)} {g : TG} {tb : TS} {D : Ends} {σ : L2.St} {H : Hp} (Pv : Nat → L2.St → Hp → Prop) (h0 : Pv 0 σ H) (hl : ∀ i σ H, i ≤ kvs.length → Pv i σ H → H d = some (.frz o (.dT kvs)))
    (hs : ∀ i k v q T σ H, kvs[i]? = some (k, v) → Pv i σ H → H T = none → H q = some (.tup (k.map kV)) → g (.ref T) σ (upd H T (.tup [.ref q, v])) fun σ2 H2 => tb { D with nx := Pv (i + 1), ct := Pv (i + 1), bk := D.nx } σ2 H2) (hd : ∀ σ H, Pv kvs.length σ H → D.nx σ H) :
    ∃ W : Nat → Nat → L2.St → Hp → Prop, (∃ m, W 0 m σ H) ∧ ∀ i m σ H, W i m σ H →
      ((ItiT d o kvs).stop i H ∧ D.nx σ H) ∨ ((ItiT d o kvs).go i H ∧ ∃ N : L2.St → Hp → Prop, (∀ σ' H', N σ' H' → ∃ m', m' < m ∧ W (i + 1) m' σ' H') ∧ ∀ x H', (ItiT d o kvs).yld i H x H' → g x σ H' fun σ2 H2 => tb { D with nx := N, ct := N, bk := D.nx } σ2 H2) := by
  refine ⟨fun i m σ H => i + m = kvs.length ∧ Pv i σ H, ⟨kvs.length, Nat.zero_add _, h0⟩, fun i m σ H hw => ?_⟩
  obtain ⟨em, p⟩ := hw
  have q := hl i σ H (by omega) p
  by_cases hlt : i < kvs.length
  · refine .inr ⟨⟨hlt, q⟩, Pv (i + 1), fun σ' H' p' => ⟨m - 1, by omega, by omega, p'⟩, fun x H' y => ?_⟩
    obtain ⟨T, q', k, v, hkv, rfl, nT, hq, rfl⟩ := y
    exact hs i k v q' T σ H hkv p nT hq
  · have e : i = kvs.length := by omega
    subst e
    exact .inl ⟨⟨Nat.le_refl _, q⟩, hd σ H p⟩
theorem for_keysT {d : Addr} {o : Obj} {kvs : List (List Key × V)} {g : TG} {tb : TS} {D : Ends} {σ : L2.St} {H : Hp} (Pv : Nat → L2.St → Hp → Prop) (h0 : Pv 0 σ H) (hl : ∀ i σ H, i ≤ kvs.length → Pv i σ H → H d = some (.frz o (.dT kvs)))
    (hs : ∀ i k v q σ H, kvs[i]? = some (k, v) → Pv i σ H → H q = some (.tup (k.map kV)) → g (.ref q) σ H fun σ2 H2 => tb { D with nx := Pv (i + 1), ct := Pv (i + 1), bk := D.nx } σ2 H2) (hd : ∀ σ H, Pv kvs.length σ H → D.nx σ H) :
    ∃ W : Nat → Nat → L2.St → Hp → Prop, (∃ m, W 0 m σ H) ∧ ∀ i m σ H, W i m σ H →
      ((Itkt d o kvs).stop i H ∧ D.nx σ H) ∨ ((Itkt d o kvs).go i H ∧ ∃ N : L2.St → Hp → Prop, (∀ σ' H', N σ' H' → ∃ m', m' < m ∧ W (i + 1) m' σ' H') ∧ ∀ x H', (Itkt d o kvs).yld i H x H' → g x σ H' fun σ2 H2 => tb { D with nx := N, ct := N, bk := D.nx } σ2 H2) := by
  refine ⟨fun i m σ H => i + m = kvs.length ∧ Pv i σ H, ⟨kvs.length, Nat.zero_add _, h0⟩, fun i m σ H hw => ?_⟩
  obtain ⟨em, p⟩ := hw
  have q := hl i σ H (by omega) p
  by_cases hlt : i < kvs.length
  · refine .inr ⟨⟨q, hlt⟩, Pv (i + 1), fun σ' H' p' => ⟨m - 1, by omega, by omega, p'⟩, fun x H' y => ?_⟩
    obtain ⟨rfl, k, v, q', hkv, rfl, hq⟩ := y
    exact hs i k v q' σ _ hkv p hq
  · have e : i = kvs.length := by omega
    subst e
    exact .inl ⟨⟨q, Nat.le_refl _⟩, hd σ H p⟩
end SSw
namespace SSw
open PySem PySem.Spec PyProof.Rows L2
section
variable {P : Program} {w : World} {K : PySem.W.Frag} {mg : Str → Option Value} {base : Heap}
/-! ### _law_walked -/
abbrev nWalked : List Str := ["_law_goal", "_law_size_told", "_law_many", "_law_layer", "_law_known", "_law_turn", "_law_later", "_law_here", "_law_told", "_law_place", "_law_there", "_law_kept", "_law_first"]
theorem scWalked : FnScope nWalked ["_law_goal"] (defScope sWalked) := ⟨rfl, rfl, rfl, by decide +kernel, rfl, by decide +kernel, by decide +kernel⟩
def spWalked : Sp := fun vs H Q _ => ∃ (a : Addr) (g : List Nat), vs = [.ref a] ∧ H a = some (.lst (nl g)) ∧ SS.IsPl g ∧ g.length ≤ 5 ∧
  ∀ H' p r, Same H H' → H p = none → H' p = some (.lst [.int (((SS.best g).1 : Nat) : Int), .int (((SS.best g).2 : Nat) : Int), .ref r]) → H' r = some (.lst (nl (SS.firstProgram g))) → Q (.ref p) H'
theorem ok_walked {f : Addr} {fd : FuncData} (F : Fun K "_law_walked" "_law_walked" sWalked f fd) (mn : mg "len" = none) (mt : mg "tuple" = none) (mr : mg "range" = none) : FnOk P w K mg base CX0 1 f fd ["_law_goal"] spWalked := by
  refine F.ok scWalked (fun vs H Q E h => ?_) (fun cdv A outer s H vs Q E hr h => ?_)
  · obtain ⟨a, g, rfl, _⟩ := h
    rfl
  · obtain ⟨a, g, rfl, ha, hg, hn, q⟩ := h
    have nd := scWalked.nd
    have hu := hu_of hr
    have h64 := hr.units
    refine ⟨_, pss_cons (ps_par (i := 1) (j := 2) (by rfl) nd rfl rfl (by decide) rfl rfl (pa_cons (pe_callB call_len_seq (by rfl) mn PySem.boot_len (pa_cons (pv 0) pa_nil)) (pa_cons pe_int pa_nil)) (by rfl))
      (pss_cons (ps_par (i := 3) (j := 4) (by rfl) nd rfl rfl (by decide) rfl rfl (pa_cons (pe_dispT h64 (pe_tupRg rfl (by rfl) mt (prg_1 (by rfl) mr (pv 1))) (pe_lst (pa_cons pe_int (pa_cons (pe_lst pa_nil) pa_nil)))) (pa_cons (pe_dispT h64 (pe_tupRg rfl (by rfl) mt (prg_1 (by rfl) mr (pv 1))) pe_bl) pa_nil)) (by rfl))
      (pss_cons (ps_for PassesOwn.never rfl (pi_range1 rfl mr (pa_cons pe_int pa_nil)) (pg_name (i := 5) nd rfl (.inl rfl))
        (pss_cons (ps_if (pt_cmp (pc_din hu (pe_tupleOf (by rfl) mt (pv 0)) (pv 3))) (pss_one (ps_ret (pe_op op_cat (pe_lst (pa_cons (pv 2) pa_nil)) (pe_dget hu (pv 3) (pe_tupleOf (by rfl) mt (pv 0)) (fun _ _ => rfl))))) pss_nil)
        (pss_cons (ps_par (i := 6) (j := 2) (by rfl) nd rfl rfl (by decide) rfl rfl (pa_cons pe_dnewT (pa_cons (pe_op op_add (pv 2) pe_int) pa_nil)) (by rfl))
        (pss_cons (ps_lock (ps_for PassesOwn.never rfl (pi_itemsT (pv 3)) (pg_tup rfl (pgs_cons (pg_name (i := 7) nd rfl (.inl rfl)) (pgs_cons (pg_name (i := 8) nd rfl (.inl rfl)) pgs_nil)))
          (pss_one (ps_for PassesOwn.never rfl (pi_range1 rfl mr (pa_cons (pv 1) pa_nil)) (pg_name (i := 9) nd rfl (.inl rfl))
            (pss_cons (ps_set (i := 10) nd rfl (.inl rfl) (pe_op op_catA (pe_op op_catA (pe_slice sl_tupA (pv 7) (po_some (pe_op op_add (pv 9) pe_int)) po_none) (pe_tup (pa_cons (pe_ix ix_tup (pv 7) (pv 9) (fun _ _ => rfl)) pa_nil))) (pe_slice sl_tupA (pv 7) po_none (po_some (pv 9)))))
            (pss_one (ps_if (pt_cmp (pc_dnotin hu (pv 10) (pv 4)))
              (pss_cons (ps_set (i := 11) nd rfl (.inl rfl) (pe_dget2 hu (pv 6) (pv 10) (pe_lst (pa_cons pe_int (pa_cons pe_non pa_nil))) ⟨rfl, rfl, rfl, rfl⟩))
              (pss_cons (ps_set (i := 12) nd rfl (.inl rfl) (pe_op op_cat (pe_ix ix_list (pv 8) pe_int (fun _ _ => rfl)) (pe_lst (pa_cons (pv 9) pa_nil))))
              (pss_one (ps_dput hu (pv 6) (pv 10) (pe_lst (pa_cons (pe_op op_add (pe_ix ix_list (pv 11) pe_int (fun _ _ => rfl)) (pe_ix ix_list (pv 8) pe_int (fun _ _ => rfl)))
                (pa_cons (pe_ifExp (PW.pt (pw_or (pt_cmpR op_isN (pe_ix ix_list (pv 11) pe_int (fun _ _ => rfl)) pe_non (nomark _)) (pw_or1 (pt_cmpR (op_ltL h64) (pv 12) (pe_ix ix_list (pv 11) pe_int (fun _ _ => rfl)) (nomark _))))) (pv 12) (pe_ix ix_list (pv 11) pe_int (fun _ _ => rfl))) pa_nil))) rfl)))) pss_nil)))))))
        (pss_cons (ps_lock (ps_for PassesOwn.never rfl (pi_keys (pv 6)) (pg_name (i := 10) nd rfl (.inl rfl)) (pss_one (ps_dput hu (pv 4) (pv 10) pe_bl rfl))))
        (pss_one (ps_set (i := 3) nd rfl (.inl rfl) (pv 6))))))))
      (pss_one (ps_ret pe_non)))), ?_⟩
    obtain ⟨hT7, hlay, x0, hx0, ex0⟩ := SS.lay_facts g hg hn
    refine ⟨_, rfl, a, _, rfl, .inl (SqL.of ha), _, _, rfl, ?_⟩
    rw [nl_len]
    -- layer, known
    refine fun d1 n1 => ⟨_, rfl, _, rfl, rgOk_n (by omega), fun q1 nq1 => ⟨Nat.zero_le _, fun b0 nb0 => ⟨szl (by simp), fun a0 na0 => ?_⟩⟩⟩
    rw [rg_nl] at nb0 na0 ⊢
    have hA1 := same_new na0 (o := .lst [.int 1, .ref b0]) _ _ (same_new nb0 (o := .lst []) _ _ (same_new nq1 (o := .tup (nl (List.range g.length))) _ _ (upd_same (H := H) (a := d1) (o := .dT []))))
    have hA2 := same_new na0 (o := .lst [.int 1, .ref b0]) _ _ (same_new nb0 (o := .lst []) _ _ (upd_same (H := upd H d1 (.dT [])) (a := q1) (o := .tup (nl (List.range g.length)))))
    have hA3 := same_new na0 (o := .lst [.int 1, .ref b0]) _ _ (upd_same (H := upd (upd H d1 (.dT [])) q1 (.tup (nl (List.range g.length)))) (a := b0) (o := .lst []))
    have sA : Same H (upd (upd (upd (upd H d1 (.dT [])) q1 (.tup (nl (List.range g.length)))) b0 (.lst [])) a0 (.lst [.int 1, .ref b0])) := (((same_new n1).new nq1).new nb0).new na0
    have hA4 : (upd (upd (upd (upd H d1 (.dT [])) q1 (.tup (nl (List.range g.length)))) b0 (.lst [])) a0 (.lst [.int 1, .ref b0])) a0 = some (.lst [.int 1, .ref b0]) := upd_same
    generalize (upd (upd (upd (upd H d1 (.dT [])) q1 (.tup (nl (List.range g.length)))) b0 (.lst [])) a0 (.lst [.int 1, .ref b0])) = HA at hA1 hA2 hA3 sA hA4 ⊢
    refine ⟨q1, tk (List.range g.length), rfl, hA1, by rw [tk_kV]; exact hA2, ?_⟩
    have sB : Same H (upd HA d1 (.dT [(tk (List.range g.length), .ref a0)])) := sA.own n1
    have hB1 : (upd HA d1 (.dT [(tk (List.range g.length), .ref a0)])) d1 = some (.dT [(tk (List.range g.length), .ref a0)]) := upd_same
    have hB2 : (upd HA d1 (.dT [(tk (List.range g.length), .ref a0)])) a0 = some (.lst [.int 1, .ref b0]) := by rw [upd_ne (ne_of hA4 hA1 (by intro z; cases z))]; exact hA4
    have hB3 : (upd HA d1 (.dT [(tk (List.range g.length), .ref a0)])) b0 = some (.lst []) := by rw [upd_ne (ne_of hA3 hA1 (by intro z; cases z))]; exact hA3
    generalize (upd HA d1 (.dT [(tk (List.range g.length), .ref a0)])) = HB at sB hB1 hB2 hB3 ⊢
    refine fun d2 n2 => ⟨_, rfl, _, rfl, rgOk_n (by omega), fun q2 nq2 => ?_⟩
    rw [rg_nl]
    have e2 : H d2 = none := sB.free n2
    have h12 : d1 ≠ d2 := ne_of_none hB1 n2
    have hC2 := same_new nq2 (o := .tup (nl (List.range g.length))) _ _ (upd_same (H := HB) (a := d2) (o := .dT []))
    have hCt : (upd (upd HB d2 (.dT [])) q2 (.tup (nl (List.range g.length)))) q2 = some (.tup (nl (List.range g.length))) := upd_same
    have sC' := (same_new (o := .dT []) n2).new (o := .tup (nl (List.range g.length))) nq2
    have sC : Same H (upd (upd HB d2 (.dT [])) q2 (.tup (nl (List.range g.length)))) := sB.trans sC'
    have hC1 := sC' _ _ hB1
    have hCa := sC' _ _ hB2
    have hCb := sC' _ _ hB3
    generalize (upd (upd HB d2 (.dT [])) q2 (.tup (nl (List.range g.length)))) = HC at hC2 hCt sC hC1 hCa hCb ⊢
    refine ⟨q2, tk (List.range g.length), rfl, hC2, by rw [tk_kV]; exact hCt, _, _, rfl, ?_⟩
    have ent0 : EntAt (upd HC d2 (.dT [(tk (List.range g.length), .bl true)])) [(tk (List.range g.length), .ref a0)] (SS.lay g.length 0).1 := by
      refine .cons ⟨rfl, a0, b0, rfl, ?_, ?_⟩ .nil
      · rw [upd_ne (ne_of hCa hC2 (by intro z; cases z))]; exact hCa
      · rw [upd_ne (ne_of hCb hC2 (by intro z; cases z))]; exact hCb
    -- the turns
    refine ⟨_, rfl, by omega, by omega, for_range (lo := 0) (n := (20 : Int).toNat) (fun t σ H' => ∃ (d1 d2 : Addr) (kv1 kv2 : List (List Key × V)) (u5 u6 u7 u8 u9 u10 u11 u12 : Option V), σ = [some (.ref a), some (.int (g.length : Int)), some (.int ((t : Nat) : Int)), some (.ref d1), some (.ref d2), u5, u6, u7, u8, u9, u10, u11, u12] ∧
        Same H H' ∧ H d1 = none ∧ H d2 = none ∧ d1 ≠ d2 ∧ H' d1 = some (.dT kv1) ∧ H' d2 = some (.dT kv2) ∧ EntAt H' kv1 (SS.lay g.length t).1 ∧ KnownIs kv2 (SS.lay g.length t).2 ∧ t ≤ (SS.best g).1)
      ⟨d1, d2, _, _, none, none, none, none, none, none, none, none, rfl, sC.own e2, n1, e2, h12, by rw [upd_ne h12]; exact hC1, upd_same, ent0, KnownIs.one _ _, Nat.zero_le _⟩ ?_ ?_⟩
    · clear hA1 hA2 hA3 sA hA4 sB hB1 hB2 hB3 hC2 hCt sC sC' hC1 hCa hCb ent0 e2 h12 n1 n2 nq1 nq2 nb0 na0
      rintro t σ H1 ht ⟨d1, d2, kv1, kv2, u5, u6, u7, u8, u9, u10, u11, u12, rfl, sm, n1, n2, h12, hd1, hd2, hE, hK, htT⟩
      have lok := hlay t htT
      have lk1 : kv1.length ≤ 120 := by rw [hE.len]; exact lok.few
      have lk2 : kv2.length ≤ 120 := Nat.le_trans hK.2 lok.knw
      refine ⟨_, rfl, .inl ⟨a, _, rfl, SqL.of (sm _ _ ha), fun qg nqg => ?_⟩⟩
      have sg := same_new (o := .tup (nl g)) nqg
      have hqg : (upd H1 qg (.tup (nl g))) qg = some (.tup ((tk g).map kV)) := by rw [tk_kV]; exact upd_same
      refine ⟨_, rfl, d1, _, rfl, DGet.t (k := tk g) (sg _ _ hd1) hqg, _, rfl, ?_⟩
      rw [hE.any g]
      cases hf : (SS.lay g.length t).1.find? (fun e => decide (e.1 = g)) with
      | some e =>
        -- found
        obtain ⟨e1, v, hv, _, ae, be, rfl, hae, hbe⟩ := (hE.find g).2 e hf
        obtain ⟨et, ec, ep⟩ := SS.lay_entry lok (List.mem_of_find?_eq_some hf) e1
        refine iteT ⟨_, rfl, szl (by simp), fun p1 np1 => ⟨_, rfl, _, rfl, .inl ⟨a, _, rfl, SqL.of ((sm.trans (sg.new np1)) _ _ ha), fun qh nqh => ?_⟩⟩⟩
        have sh := ((sg.new (o := .lst [.int ((t : Nat) : Int)]) np1).new (o := .tup (nl g)) nqh)
        have hqh : (upd (upd (upd H1 qg (.tup (nl g))) p1 (.lst [.int ((t : Nat) : Int)])) qh (.tup (nl g))) qh = some (.tup ((tk g).map kV)) := by rw [tk_kV]; exact upd_same
        have hG := DGet.t (k := tk g) (sh _ _ hd1) hqh
        rw [hv] at hG
        refine ⟨d1, _, rfl, hG, p1, ae, _, _, rfl, rfl, same_new nqh _ _ upd_same, sh _ _ hae, szl (by simp), fun p2 np2 => ?_⟩
        refine q _ p2 be ((sm.trans sh).new np2) ((sm.trans sh).free np2) ?_ ?_
        · rw [upd_same, et, ec]
          rfl
        · have := (sh.new (o := .lst ([.int ((t : Nat) : Int)] ++ [.int ((e.2.1 : Nat) : Int), .ref be])) np2) _ _ hbe
          rw [ep] at this
          exact this
      | none =>
        have htne : t ≠ (SS.best g).1 := fun z => by
          rw [← z] at hx0
          have := List.find?_eq_none.mp hf x0 hx0
          exact this (decide_eq_true ex0)
        refine iteF (fun d3 n3 => ?_)
        have s3 := (sm.trans sg).new (o := .dT []) n3
        have n3H : H d3 = none := (sm.trans sg).free n3
        have h31 : d3 ≠ d1 := (ne_of_none (sg _ _ hd1) n3).symm
        have h32 : d3 ≠ d2 := (ne_of_none (sg _ _ hd2) n3).symm
        have sg3 := sg.new (o := .dT []) n3
        have k1 := sg3 _ _ hd1
        have k2 := sg3 _ _ hd2
        have k3 : (upd (upd H1 qg (.tup (nl g))) d3 (.dT [])) d3 = some (.dT []) := upd_same
        have kE := hE.keep (LK.of sg3)
        generalize (upd (upd H1 qg (.tup (nl g))) d3 (.dT [])) = H3 at s3 k1 k2 k3 kE ⊢
        refine ⟨_, rfl, _, _, rfl, rfl, _, _, rfl, ?_⟩
        show tSeq _ _ _ [some (.ref a), some (.int (g.length : Int)), some (.int (((t : Nat) : Int) + 1)), some (.ref d1), some (.ref d2), some (.int ((0 : Int) + ((t : Nat) : Int))), some (.ref d3), u7, u8, u9, u10, u11, u12] H3
        rw [show (((t : Nat) : Int) + 1) = ((t + 1 : Nat) : Int) by omega]
        -- all steps from this layer
        refine ⟨d1, .dT kv1, k1, trivial, fun od => ⟨_, rfl, d1, od, kv1, rfl, upd_same, for_itemsT (d := d1) (o := od) (kvs := kv1) (fun i σ H' => ∃ (kv3 : List (List Key × V)) (u7 u8 u9 u10 u11 u12 : Option V), σ = [some (.ref a), some (.int (g.length : Int)), some (.int ((t + 1 : Nat) : Int)), some (.ref d1), some (.ref d2), some (.int ((0 : Int) + ((t : Nat) : Int))), some (.ref d3), u7, u8, u9, u10, u11, u12] ∧
            LK H3 H' ∧ Same H H' ∧ H' d1 = some (.frz od (.dT kv1)) ∧ H' d2 = some (.dT kv2) ∧ H' d3 = some (.dT kv3) ∧ EntAt H' kv3 (((SS.lay g.length t).1.take i).foldl (SS.expand g.length (SS.lay g.length t).2) []) ∧ kv3.length ≤ i * g.length)
          ⟨[], u7, u8, u9, u10, u11, u12, rfl, (LK.refl H3).upd k1 (fun xs z => by cases z), s3.own n1, upd_same, by rw [upd_ne h12.symm]; exact k2, by rw [upd_ne h31]; exact k3, .nil, Nat.zero_le _⟩ (fun i σ H' _ hp => ?_) ?_ ?_⟩⟩
        · obtain ⟨_, _, _, _, _, _, _, _, _, _, h, _⟩ := hp
          exact h
        · rintro i k v q0 T σ H' hkv ⟨kv3, u7, u8, u9, u10, u11, u12, rfl, lk, sH, f1, f2, f3, fE, fl⟩ nT hq0
          obtain ⟨e, he, hk, ae, be, hv, hae, hbe⟩ := paired_get kE hkv
          have hk' : k = tk e.1 := hk
          have hv' : v = .ref ae := hv
          subst hk' hv'
          rw [tk_kV] at hq0
          obtain ⟨el, epl⟩ := SS.lay_len lok (List.mem_of_getElem? he)
          have hil : i < kv1.length := (List.getElem?_eq_some_iff.mp hkv).1
          refine ⟨T, _, rfl, SqT.of upd_same, rfl, _, _, rfl, _, _, rfl, rfl, ?_⟩
          have sT := same_new (o := .tup [.ref q0, .ref ae]) nT
          have efold : (((SS.lay g.length t).1.take (i + 1)).foldl (SS.expand g.length (SS.lay g.length t).2) []) = SS.expand g.length (SS.lay g.length t).2 (((SS.lay g.length t).1.take i).foldl (SS.expand g.length (SS.lay g.length t).2) []) e := by
            rw [List.take_add_one, he, List.foldl_append]
            rfl
          generalize hprev : (((SS.lay g.length t).1.take i).foldl (SS.expand g.length (SS.lay g.length t).2) []) = prev at fE efold
          refine ⟨_, rfl, _, rfl, by omega, by omega, for_range (lo := 0) (n := (g.length : Int).toNat) (fun j σ H' => ∃ (kv3 : List (List Key × V)) (u9 u10 u11 u12 : Option V), σ = [some (.ref a), some (.int (g.length : Int)), some (.int ((t + 1 : Nat) : Int)), some (.ref d1), some (.ref d2), some (.int ((0 : Int) + ((t : Nat) : Int))), some (.ref d3), some (.ref q0), some (.ref ae), u9, u10, u11, u12] ∧
              LK H3 H' ∧ Same H H' ∧ H' d1 = some (.frz od (.dT kv1)) ∧ H' d2 = some (.dT kv2) ∧ H' d3 = some (.dT kv3) ∧ EntAt H' kv3 ((List.range j).foldl (SS.expand1 (SS.lay g.length t).2 e) prev) ∧ kv3.length ≤ i * g.length + j ∧ H' q0 = some (.tup (nl e.1)))
            ⟨kv3, u9, u10, u11, u12, rfl, lk.trans (LK.of sT), sH.trans sT, sT _ _ f1, sT _ _ f2, sT _ _ f3, fE.keep (LK.of sT), fl, sT _ _ hq0⟩ ?_ ?_⟩
          · clear f1 f2 f3 fE fl lk sH nT sT hq0
            rintro j σ H4 hj ⟨kv3, u9, u10, u11, u12, rfl, lk, sH, f1, f2, f3, fE, fl, hq0⟩
            rw [Int.toNat_natCast] at hj
            have hje : j < e.1.length := by omega
            have hkb : kv3.length ≤ 120 * 5 + 5 := by
              have : i * g.length ≤ 120 * 5 := Nat.mul_le_mul (by omega) hn
              omega
            rw [show (0 : Int) + ((j : Nat) : Int) = ((j : Nat) : Int) by omega]
            have hlv : (nl e.1).length ≤ 5 := by rw [nl_len]; omega
            -- there
            refine ⟨_, rfl, _, rfl, _, _, rfl, rfl, _, rfl, ?_⟩
            dsimp only [tNoPart]
            refine slA_read hq0 fun H5 r1 s5 hr1 => ?_
            refine ⟨_, rfl, _, rfl, q0, _, _, _, rfl, rfl, SqT.of (s5 _ _ hq0), atI_nat (nl_at (getD_at hje)), szl (by simp), fun p2 np2 => ?_⟩
            show rCatA K (.ref r1) (.ref p2) _ _
            refine catA_read (same_new np2 _ _ hr1) upd_same ?_ fun H6 r2 s6 hr2 => ?_
            · rw [show ((j : Int) + 1) = ((j + 1 : Nat) : Int) by omega, cutV_drop, List.length_drop]
              exact szl (by simp; omega)
            have s46 := (s5.new (o := .tup [.int ((e.1.getD j 0 : Nat) : Int)]) np2).trans s6
            refine ⟨_, rfl, _, rfl, _, rfl, ?_⟩
            show rSlA K (.ref q0) none (some (j : Int)) H6 _
            refine slA_read (s46 _ _ hq0) fun H7 r3 s7 hr3 => ?_
            show rCatA K (.ref r2) (.ref r3) _ _
            refine catA_read (s7 _ _ hr2) hr3 ?_ fun H8 r4 s8 hr4 => ?_
            · rw [show ((j : Int) + 1) = ((j + 1 : Nat) : Int) by omega, cutV_drop, cutV_take, List.length_append, List.length_drop, List.length_take]
              exact szl (by simp; omega)
            rw [nl_rot] at hr4
            have s48 := (s46.trans s7).trans s8
            have g1 := s48 _ _ f1
            have g2 := s48 _ _ f2
            have g3 := s48 _ _ f3
            have gE := fE.keep (LK.of s48)
            have glk := lk.trans (LK.of s48)
            have gH := sH.trans s48
            have gq := s48 _ _ hq0
            clear s5 s6 s7 s8 s46 s48 hr1 hr2 hr3 f1 f2 f3 fE lk sH hq0
            have hrk : H8 r4 = some (.tup ((tk (SS.rot e.1 j)).map kV)) := by rw [tk_kV]; exact hr4
            refine ⟨_, rfl, _, rfl, d2, _, rfl, DGet.t (k := tk (SS.rot e.1 j)) g2 hrk, _, rfl, ?_⟩
            rw [hK.1 (SS.rot e.1 j)]
            have estep : (List.range (j + 1)).foldl (SS.expand1 (SS.lay g.length t).2 e) prev = SS.expand1 (SS.lay g.length t).2 e ((List.range j).foldl (SS.expand1 (SS.lay g.length t).2 e) prev) j := by
              rw [List.range_succ, List.foldl_append]
              rfl
            generalize hcur : (List.range j).foldl (SS.expand1 (SS.lay g.length t).2 e) prev = cur at gE estep
            by_cases hin : SS.rot e.1 j ∈ (SS.lay g.length t).2
            · -- seen before
              rw [decide_eq_true hin]
              refine iteF ⟨kv3, _, _, _, _, rfl, glk, gH, g1, g2, g3, ?_, by omega, gq⟩
              rw [estep]
              unfold SS.expand1
              rw [if_pos hin]
              exact gE
            · rw [decide_eq_false hin]
              have eexp : SS.expand1 (SS.lay g.length t).2 e cur j = SS.putE cur (SS.rot e.1 j) e.2.1 (e.2.2 ++ [j]) := by
                unfold SS.expand1
                rw [if_neg hin]
              -- kept
              refine iteT ⟨_, rfl, d3, rfl, .inr ⟨_, .inl g3⟩, _, rfl, szl (by simp), fun p9 np9 => ?_⟩
              have s9 := same_new (o := .lst [.int 0, .non]) np9
              have h9 : (upd H8 p9 (.lst [.int 0, .non])) p9 = some (.lst [.int 0, .non]) := upd_same
              have m1 := s9 _ _ g1
              have m2 := s9 _ _ g2
              have m3 := s9 _ _ g3
              have mE := gE.keep (LK.of s9)
              have mlk := glk.trans (LK.of s9)
              have mH := gH.trans s9
              have mq := s9 _ _ gq
              have mrk := s9 _ _ hrk
              generalize (upd H8 p9 (.lst [.int 0, .non])) = H9 at h9 m1 m2 m3 mE mlk mH mq mrk ⊢
              refine ⟨_, DGet.t (k := tk (SS.rot e.1 j)) m3 mrk, ?_⟩
              have hae9 := mlk _ _ hae
              have hbe9 := mlk _ _ hbe
              cases hf2 : cur.find? (fun x => decide (x.1 = SS.rot e.1 j)) with
              | none =>
                have hvn := (mE.find (SS.rot e.1 j)).1 hf2
                rw [hvn]
                show tSeq _ _ _ [some (.ref a), some (.int (g.length : Int)), some (.int ((t + 1 : Nat) : Int)), some (.ref d1), some (.ref d2), some (.int ((0 : Int) + ((t : Nat) : Int))), some (.ref d3), some (.ref q0), some (.ref ae), some (.int ((j : Nat) : Int)), some (.ref r4), some (.ref p9), u12] H9
                -- first
                refine ⟨_, rfl, ae, _, 1, _, rfl, rfl, SqL.of hae9, atI_nat (j := 1) rfl, _, rfl, szl (by simp), fun p10 np10 => ?_⟩
                have s10 := same_new (o := .lst [.int ((j : Nat) : Int)]) np10
                refine ⟨be, p10, _, _, rfl, rfl, s10 _ _ hbe9, upd_same, by rw [nl_len]; exact szl (by simp; omega), fun p11 np11 => ?_⟩
                have s11 := s10.new (o := .lst (nl e.2.2 ++ [.int ((j : Nat) : Int)])) np11
                have h11 : (upd (upd H9 p10 (.lst [.int ((j : Nat) : Int)])) p11 (.lst (nl e.2.2 ++ [.int ((j : Nat) : Int)]))) p11 = some (.lst (nl (e.2.2 ++ [j]))) := by rw [upd_same, nl_app]; rfl
                have v1 := s11 _ _ m1
                have v2 := s11 _ _ m2
                have v3 := s11 _ _ m3
                have vE := mE.keep (LK.of s11)
                have vlk := mlk.trans (LK.of s11)
                have vH := mH.trans s11
                have vq := s11 _ _ mq
                have vrk := s11 _ _ mrk
                have v9 := s11 _ _ h9
                have vae := s11 _ _ hae9
                generalize (upd (upd H9 p10 (.lst [.int ((j : Nat) : Int)])) p11 (.lst (nl e.2.2 ++ [.int ((j : Nat) : Int)]))) = HV at h11 v1 v2 v3 vE vlk vH vq vrk v9 vae ⊢
                -- later[there] = ..
                refine ⟨_, rfl, p9, _, 0, _, rfl, rfl, SqL.of v9, atI_nat (j := 0) rfl, _, rfl, ae, _, 0, _, rfl, rfl, SqL.of vae, atI_nat (j := 0) rfl, _, _, rfl, rfl, ?_⟩
                refine ⟨_, rfl, p9, _, 1, _, rfl, rfl, SqL.of v9, atI_nat (j := 1) rfl, rfl, true, rfl, iteT (iteT ⟨_, rfl, szl (by simp), fun p12 np12 => ?_⟩)⟩
                have s12 := same_new (o := .lst [.int ((0 : Int) + ((e.2.1 : Nat) : Int)), .ref p11]) np12
                refine ⟨_, rfl, _, rfl, d3, _, rfl, DPut.t (k := tk (SS.rot e.1 j)) (s12 _ _ v3) (s12 _ _ vrk) (szlt (by omega)), ?_⟩
                have hd31 : d1 ≠ d3 := h31.symm
                have hd32 : d2 ≠ d3 := h32.symm
                refine ⟨_, _, _, _, _, rfl, (vlk.trans (LK.of s12)).upd (s12 _ _ v3) (fun xs z => by cases z), (vH.trans s12).own n3H, ?_, ?_, upd_same, ?_, ?_, ?_⟩
                · rw [upd_ne hd31]; exact s12 _ _ v1
                · rw [upd_ne hd32]; exact s12 _ _ v2
                · rw [estep, eexp]
                  have kk : LK HV (upd (upd HV p12 (.lst [.int ((0 : Int) + ((e.2.1 : Nat) : Int)), .ref p11])) d3 (.dT (putK kv3 (tk (SS.rot e.1 j)) (.ref p12)))) := (LK.of s12).upd (s12 _ _ v3) (fun xs z => by cases z)
                  refine (vE.keep kk).putNew ⟨rfl, p12, p11, rfl, ?_, kk _ _ h11⟩ hf2
                  rw [upd_ne (ne_of upd_same (s12 _ _ v3) (by intro z; cases z)), upd_same, Int.zero_add]
                · have := length_putK kv3 (tk (SS.rot e.1 j)) (.ref p12)
                  omega
                · rw [upd_ne (ne_of (s12 _ _ vq) (s12 _ _ v3) (by intro z; cases z))]; exact s12 _ _ vq
              | some x =>
                obtain ⟨hx1, vv, hvs, _, ax, bx, rfl, hax, hbx⟩ := (mE.find (SS.rot e.1 j)).2 x hf2
                rw [hvs]
                show tSeq _ _ _ [some (.ref a), some (.int (g.length : Int)), some (.int ((t + 1 : Nat) : Int)), some (.ref d1), some (.ref d2), some (.int ((0 : Int) + ((t : Nat) : Int))), some (.ref d3), some (.ref q0), some (.ref ae), some (.int ((j : Nat) : Int)), some (.ref r4), some (.ref ax), u12] H9
                refine ⟨_, rfl, ae, _, 1, _, rfl, rfl, SqL.of hae9, atI_nat (j := 1) rfl, _, rfl, szl (by simp), fun p10 np10 => ?_⟩
                have s10 := same_new (o := .lst [.int ((j : Nat) : Int)]) np10
                refine ⟨be, p10, _, _, rfl, rfl, s10 _ _ hbe9, upd_same, by rw [nl_len]; exact szl (by simp; omega), fun p11 np11 => ?_⟩
                have s11 := s10.new (o := .lst (nl e.2.2 ++ [.int ((j : Nat) : Int)])) np11
                have h11 : (upd (upd H9 p10 (.lst [.int ((j : Nat) : Int)])) p11 (.lst (nl e.2.2 ++ [.int ((j : Nat) : Int)]))) p11 = some (.lst (nl (e.2.2 ++ [j]))) := by rw [upd_same, nl_app]; rfl
                have v1 := s11 _ _ m1
                have v2 := s11 _ _ m2
                have v3 := s11 _ _ m3
                have vE := mE.keep (LK.of s11)
                have vlk := mlk.trans (LK.of s11)
                have vH := mH.trans s11
                have vq := s11 _ _ mq
                have vrk := s11 _ _ mrk
                have vax := s11 _ _ hax
                have vbx := s11 _ _ hbx
                have vae := s11 _ _ hae9
                generalize (upd (upd H9 p10 (.lst [.int ((j : Nat) : Int)])) p11 (.lst (nl e.2.2 ++ [.int ((j : Nat) : Int)]))) = HV at h11 v1 v2 v3 vE vlk vH vq vrk vax vbx vae ⊢
                have hfin : ∀ (pp : Addr) (p12 : Addr), HV p12 = none → HV pp = some (.lst (nl (if SS.lexLt (e.2.2 ++ [j]) x.2.2 then e.2.2 ++ [j] else x.2.2))) →
                    EntAt (upd (upd HV p12 (.lst [.int (((x.2.1 : Nat) : Int) + ((e.2.1 : Nat) : Int)), .ref pp])) d3 (.dT (putK kv3 (tk (SS.rot e.1 j)) (.ref p12)))) (putK kv3 (tk (SS.rot e.1 j)) (.ref p12)) (SS.putE cur (SS.rot e.1 j) e.2.1 (e.2.2 ++ [j])) ∧
                    LK H3 (upd (upd HV p12 (.lst [.int (((x.2.1 : Nat) : Int) + ((e.2.1 : Nat) : Int)), .ref pp])) d3 (.dT (putK kv3 (tk (SS.rot e.1 j)) (.ref p12)))) := fun pp p12 np12 hpp => by
                  have s12 := same_new (o := .lst [.int (((x.2.1 : Nat) : Int) + ((e.2.1 : Nat) : Int)), .ref pp]) np12
                  have kk : LK HV (upd (upd HV p12 (.lst [.int (((x.2.1 : Nat) : Int) + ((e.2.1 : Nat) : Int)), .ref pp])) d3 (.dT (putK kv3 (tk (SS.rot e.1 j)) (.ref p12)))) := (LK.of s12).upd (s12 _ _ v3) (fun xs z => by cases z)
                  refine ⟨(vE.keep kk).putOld hf2 ⟨rfl, p12, pp, rfl, ?_, kk _ _ hpp⟩, vlk.trans kk⟩
                  rw [upd_ne (ne_of upd_same (s12 _ _ v3) (by intro z; cases z)), upd_same, Int.natCast_add]
                refine ⟨_, rfl, ax, _, 0, _, rfl, rfl, SqL.of vax, atI_nat (j := 0) rfl, _, rfl, ae, _, 0, _, rfl, rfl, SqL.of vae, atI_nat (j := 0) rfl, _, _, rfl, rfl, ?_⟩
                refine ⟨_, rfl, ax, _, 1, _, rfl, rfl, SqL.of vax, atI_nat (j := 1) rfl, rfl, false, rfl, iteF ⟨_, rfl, _, rfl, ax, _, 1, _, rfl, rfl, SqL.of vax, atI_nat (j := 1) rfl, p11, bx, _, _, rfl, rfl, SqL.of h11, SqL.of vbx, _, rfl, ?_⟩⟩
                have hd31 : d1 ≠ d3 := h31.symm
                have hd32 : d2 ≠ d3 := h32.symm
                cases hlt : SS.lexLt (e.2.2 ++ [j]) x.2.2 with
                | true =>
                  refine iteT ⟨_, rfl, szl (by simp), fun p12 np12 => ?_⟩
                  have s12 := same_new (o := .lst [.int (((x.2.1 : Nat) : Int) + ((e.2.1 : Nat) : Int)), .ref p11]) np12
                  refine ⟨_, rfl, _, rfl, d3, _, rfl, DPut.t (k := tk (SS.rot e.1 j)) (s12 _ _ v3) (s12 _ _ vrk) (szlt (by omega)), ?_⟩
                  obtain ⟨w1, w2⟩ := hfin p11 p12 np12 (by rw [hlt]; exact h11)
                  refine ⟨_, _, _, _, _, rfl, w2, (vH.trans s12).own n3H, ?_, ?_, upd_same, by rw [estep, eexp]; exact w1, ?_, ?_⟩
                  · rw [upd_ne hd31]; exact s12 _ _ v1
                  · rw [upd_ne hd32]; exact s12 _ _ v2
                  · have := length_putK kv3 (tk (SS.rot e.1 j)) (.ref p12)
                    omega
                  · rw [upd_ne (ne_of (s12 _ _ vq) (s12 _ _ v3) (by intro z; cases z))]; exact s12 _ _ vq
                | false =>
                  refine iteF ⟨_, rfl, ax, _, 1, _, rfl, rfl, SqL.of vax, atI_nat (j := 1) rfl, szl (by simp), fun p12 np12 => ?_⟩
                  have s12 := same_new (o := .lst [.int (((x.2.1 : Nat) : Int) + ((e.2.1 : Nat) : Int)), .ref bx]) np12
                  refine ⟨_, rfl, _, rfl, d3, _, rfl, DPut.t (k := tk (SS.rot e.1 j)) (s12 _ _ v3) (s12 _ _ vrk) (szlt (by omega)), ?_⟩
                  obtain ⟨w1, w2⟩ := hfin bx p12 np12 (by rw [hlt]; exact vbx)
                  refine ⟨_, _, _, _, _, rfl, w2, (vH.trans s12).own n3H, ?_, ?_, upd_same, by rw [estep, eexp]; exact w1, ?_, ?_⟩
                  · rw [upd_ne hd31]; exact s12 _ _ v1
                  · rw [upd_ne hd32]; exact s12 _ _ v2
                  · have := length_putK kv3 (tk (SS.rot e.1 j)) (.ref p12)
                    omega
                  · rw [upd_ne (ne_of (s12 _ _ vq) (s12 _ _ v3) (by intro z; cases z))]; exact s12 _ _ vq
          · rintro σ H4 ⟨kv3, u9, u10, u11, u12, rfl, lk, sH, f1, f2, f3, fE, fl, hq0⟩
            rw [Int.toNat_natCast] at fE fl
            refine ⟨kv3, _, _, _, _, _, _, rfl, lk, sH, f1, f2, f3, ?_, by rw [Nat.add_mul]; omega⟩
            rw [efold]
            exact fE
        · rintro σ H4 ⟨kv3, u7, u8, u9, u10, u11, u12, rfl, lk, sH, f1, f2, f3, fE, fl⟩
          refine ⟨f1, ?_⟩
          have enext : ((SS.lay g.length t).1.take kv1.length).foldl (SS.expand g.length (SS.lay g.length t).2) [] = SS.nextLayer g.length (SS.lay g.length t).1 (SS.lay g.length t).2 := by
            rw [List.take_of_length_le (by rw [hE.len]; exact Nat.le_refl _)]
            rfl
          rw [enext] at fE
          have lk3 : kv3.length ≤ 600 := Nat.le_trans fl (Nat.mul_le_mul lk1 hn)
          have w2 : (upd H4 d1 (.dT kv1)) d2 = some (.dT kv2) := by rw [upd_ne h12.symm]; exact f2
          have w3 : (upd H4 d1 (.dT kv1)) d3 = some (.dT kv3) := by rw [upd_ne h31]; exact f3
          have wH : Same H (upd H4 d1 (.dT kv1)) := sH.own n1
          have wE : EntAt (upd H4 d1 (.dT kv1)) kv3 (SS.nextLayer g.length (SS.lay g.length t).1 (SS.lay g.length t).2) := fE.keep ((LK.refl H4).upd f1 (fun xs z => by cases z))
          generalize (upd H4 d1 (.dT kv1)) = H5 at w2 w3 wH wE ⊢
          refine ⟨d3, .dT kv3, w3, trivial, fun od2 => ⟨_, rfl, d3, od2, rfl, .inr ⟨kv3, upd_same, for_keysT (d := d3) (o := od2) (kvs := kv3) (fun i σ H' => ∃ (kv2' : List (List Key × V)) (u10 : Option V), σ = [some (.ref a), some (.int (g.length : Int)), some (.int ((t + 1 : Nat) : Int)), some (.ref d1), some (.ref d2), some (.int ((0 : Int) + ((t : Nat) : Int))), some (.ref d3), u7, u8, u9, u10, u11, u12] ∧
              Same H H' ∧ LK H5 H' ∧ H' d3 = some (.frz od2 (.dT kv3)) ∧ H' d2 = some (.dT kv2') ∧ KnownIs kv2' ((SS.lay g.length t).2 ++ ((SS.nextLayer g.length (SS.lay g.length t).1 (SS.lay g.length t).2).map (·.1)).take i))
            ⟨kv2, u10, rfl, wH.own n3H, (LK.refl H5).upd w3 (fun xs z => by cases z), upd_same, by rw [upd_ne h32.symm]; exact w2, by rw [List.take_zero, List.append_nil]; exact hK⟩ (fun i σ H' _ hp => ?_) ?_ ?_⟩⟩⟩
          · obtain ⟨_, _, _, _, _, h, _⟩ := hp
            exact h
          · rintro i k v qk σ H6 hkv ⟨kv2', u10, rfl, xH, xlk, x3, x2, xK⟩ hqk
            obtain ⟨e, he, hk, _⟩ := paired_get wE hkv
            have hk' : k = tk e.1 := hk
            subst hk'
            have hil : i < kv3.length := (List.getElem?_eq_some_iff.mp hkv).1
            have hkl : kv2'.length ≤ 120 + 600 := by
              have h1 := xK.2
              rw [List.length_append, List.length_take] at h1
              have h2 := lok.knw
              omega
            refine ⟨_, rfl, _, rfl, d2, _, rfl, DPut.t (k := tk e.1) x2 hqk (szlt (by omega)), ?_⟩
            refine ⟨_, _, rfl, xH.own n2, xlk.upd x2 (fun xs z => by cases z), ?_, upd_same, ?_⟩
            · rw [upd_ne h32]
              exact x3
            · have hm : ((SS.nextLayer g.length (SS.lay g.length t).1 (SS.lay g.length t).2).map (·.1))[i]? = some e.1 := by rw [List.getElem?_map, he]; rfl
              rw [List.take_add_one, hm, ← List.append_assoc]
              exact xK.put e.1 _
          · rintro σ H6 ⟨kv2', u10, rfl, xH, xlk, x3, x2, xK⟩
            refine ⟨x3, ?_⟩
            refine ⟨_, rfl, d3, d2, kv3, kv2', _, _, _, _, _, _, _, _, rfl, xH.own n3H, n3H, n2, h32, upd_same, by rw [upd_ne h32.symm]; exact x2, ?_, ?_, by omega⟩
            · exact wE.keep (xlk.trans ((LK.refl H6).upd x3 (fun xs z => by cases z)))
            · rw [List.take_of_length_le (by rw [List.length_map, ← wE.len]; exact Nat.le_refl _)] at xK
              exact xK
    · rintro σ H1 ⟨d1, d2, kv1, kv2, u5, u6, u7, u8, u9, u10, u11, u12, rfl, sm, n1, n2, h12, hd1, hd2, hE, hK, htT⟩
      exact absurd htT (by omega)
end
end SSw
namespace SSw
open PySem PySem.Spec PyProof.Rows L2
/-! ### repr of a list, where no repr is under way -/
def rRepr (K : PySem.W.Frag) : List V → Hp → VK → Prop := fun xs H Q => ∃ (a : Addr) (d : PyData), xs = [.ref a] ∧ Dp K H (.ref a) d ∧ d.showable = true ∧ PyData.layable0 d = true ∧ d.intsShort 13 = true ∧ d.depth ≤ 32 ∧ Q (.str d.shown) H
theorem depth_layable {d : PyData} (h : PyData.layable0 d = true) : d.depth ≤ 64 := by
  unfold PyData.layable0 at h
  simp only [Bool.and_eq_true, decide_eq_true_eq] at h
  exact h.1.2
theorem call_reprL {X : Cx} (hg : X.A.guards = some []) (hu : X.A.units + 64 < cLine) : CallR X (.builtin "repr") (rRepr X.K) := by
  intro pins s σ H xs us Q I r h
  obtain ⟨a, d, rfl, hd, h1, h2, h3, hdep, q⟩ := h
  cases r with
  | cons r1 r2 =>
    cases r2
    cases r1
    obtain ⟨as, rd⟩ := Dp.reads I d (.ref a) _ hd rfl
    refine repr_of_reads' rd h1 (PyData.noDict_hsm (PyData.hasDict_of_layable h2)) hg (by omega) (fun _ _ e => e) (fun h' u tk hk => ⟨.str d.shown, H, I.kept (t' := tk) hk, ⟨u, rfl⟩, q⟩) ?_
    have := PyData.shown_le_of_layable0 h2 h3
    exact Nat.le_trans this (by decide)
/-! ### defs under that premise -/
structure FnOkG (P : Program) (w : World) (K : PySem.W.Frag) (mg : Str → Option Value) (base : Heap) (k : Nat) (f : Addr) (fd : FuncData) (ps : List Str) (sp : Sp) : Prop where
  len : ∀ vs H Q E, sp vs H Q E → vs.length = ps.length
  go : ∀ (A : Around) (outer : List Env) (s : Shared) (H : Hp) (args : Args) (us : List Value) (vs : List V) (Q : VK) (E : XK), A.guards = some [] → Room k A → Env0 P w K mg base A outer s H → BindsTo s fd args (ps.zip us) → Vals vs us → sp vs H Q E →
    codeAny (model P w) A (.call (.ref f) args) (CR CX0 outer P w H s Q E) s
theorem okG {P : Program} {w : World} {K : PySem.W.Frag} {mg : Str → Option Value} {base : Heap} {x qual : Str} {st : Stmt} {f : Addr} {fd : FuncData} {N ps : List Str} {k : Nat} {sp : Sp} (F : Fun K x qual st f fd) (S : FnScope N ps (defScope st)) (len : ∀ vs H Q E, sp vs H Q E → vs.length = ps.length)
    (body : ∀ (cdv : Value) (A : Around) (outer : List Env) (s : Shared) (H : Hp) (vs : List V) (Q : VK) (E : XK), A.guards = some [] → Room k (A.deeper (envOfC qual (defScope st) s.heap.objs.size f cdv)) → sp vs H Q E →
      ∃ t, PSs (cxOf CX0 P w K mg base N qual (defScope st) f cdv A outer s H E).nox (defBody st) t ∧ t { nx := fun _ H' => Q .non H', rt := Q } (L2.start N vs) H) : FnOkG P w K mg base (k + 1) f fd ps sp := by
  obtain ⟨oc, od, kV, doc, pm, an, cdv, ct, osl, rfl, look, code⟩ := F.ex
  refine ⟨len, fun A outer s H args us vs Q E hg hr e0 hb r h => ?_⟩
  have inK : K.In s.heap := e0.mod.kin.keeps fun b o z => (e0.bs b o z).1
  have noLim : s.heap.NoLimit := e0.mod.nolimit.keeps fun b o z => (e0.bs b o z).1
  have two : ∀ z ∈ ps.zip us, (defScope st).names.lookup z.1 = some .local ∨ ((defScope st).names.lookup z.1 = some .cell ∧ ((cellsFrom (s.heap.objs.size + 1) (defScope st).names []).lookup z.1).isSome = true) := by
    intro z hz
    cases S.par z.1 (List.of_mem_zip hz).1 with
    | inl q => exact .inl q
    | inr q => exact .inr ⟨q, PySem.W.cellsFrom_some _ _ _ (.inl q)⟩
  refine codeAny_call_function hr.depth (inK _ _ look) rfl S.co S.gen rfl (PySem.W.codeRec_of inK code) (hb _ _ _ _ (wpAny_newFunctionEnv_cells S.kind two fun env he s1 entered => ?_))
  subst he
  refine ⟨noLim.keeps entered.toInCall.keep, codeAny_func ?_⟩
  obtain ⟨t, pt, qt⟩ := body cdv A outer s H vs Q E hg (hr.deeper _) h
  have I := inv_start (CX := CX0) (E := E) S hr.hd e0 (len _ _ _ _ h) r entered
  refine wpAny_mono (pt.nox.run [] s1 (L2.start N vs) H _ I qt) ?_ fun e s' z => z
  intro fl s' done
  have close : ∀ (σ' : L2.St) (H' : Hp) (v : V) (u : Value), Inv (cxOf CX0 P w K mg base N qual (defScope st) f cdv A outer s H E) [] σ' H' s' → RelV v u → Q v H' → CE outer P w H s Q u s' := fun σ' H' v u J rv q => ⟨v, H', J.os, J.bare, J.base, J.hok, rv, q⟩
  cases fl with
  | next =>
    obtain ⟨σ', H', J, q⟩ := done
    exact close σ' H' .non .none J rfl q
  | ret u =>
    obtain ⟨v, σ', H', J, rv, q⟩ := done
    exact close σ' H' v u J rv q
  | brk =>
    obtain ⟨_, _, _, q⟩ := done
    exact q.elim
  | cont =>
    obtain ⟨_, _, _, q⟩ := done
    exact q.elim
theorem pe_callG {X : Cx} {k : Nat} {f : Addr} {fd : FuncData} {ps : List Str} {sp : Sp} {x : Str} {p pos : Pos} {e : Expr} {es : List Expr} {t : TA} (G : FnOkG X.prog X.w X.K X.mg X.base k f fd ps sp) (hg0 : X.A.guards = some []) (hr : Room k X.A) (hg : Gl X x) (hm : X.mg x = some (.ref f))
    (hk : PySem.W.keepIn X.K (.ref f) = true) (hb : Binds X.K fd ps []) (ha : PA X (e :: es) t) (hdb : (x == ("__debug__" : Str)) = false := by decide)
    (he : starEach (e :: es) X.env = (false, eval e X.env) :: starEach es X.env := by rfl) (hpl : (backTo pos (starEach es X.env)).any (·.1) = false := by rfl) : PE X (.Call (.Name x p) (e :: es) [] pos) (tCall sp [] E0 t) := by
  refine ⟨fun pins s σ H Q I h => wpAny_Call_Name_kw (ld_glob I hg hm ?_ hdb)⟩
  refine PySem.W.callWith_K (h₀ := X.base) I.ok.mod.kin hk (thn (ha.run pos pins s σ H _ I h) fun us s1 ⟨vs, H1, I1, r, q⟩ => ⟨I1.kIn, ?_⟩) he hpl
  have r2 : Vals (vs ++ []) (us ++ []) := r.append .nil
  have lenU : (us ++ []).length = ps.length := r2.length.symm.trans (G.len _ _ _ _ q)
  refine wpAny_call (codeAny_mono (G.go X.A X.stack s1 H1 ⟨us, []⟩ (us ++ []) (vs ++ []) Q E0 hg0 hr I1.env0 (hb s1 us I1.kIn lenU) r2 q) fun res s2 done => ?_)
  cases res with
  | error z => exact done.elim
  | ok fl =>
    cases fl with
    | ret u => exact I1.after done
    | next => exact done.elim
    | brk => exact done.elim
    | cont => exact done.elim
end SSw
namespace SS
def fewW (n t : Nat) : Prop := ∀ x ∈ (lay n t).1, x.2.1 ≤ 1000
theorem fw_of {n t : Nat} {L : List En} {k : List (List Nat)} (e : lay n t = (L, k)) (h : L.all (fun e => decide (e.2.1 ≤ 1000)) = true) : fewW n t := fun x hx => by
  rw [e] at hx
  exact of_decide_eq_true (List.all_eq_true.mp h x hx)
theorem few_ways {n t : Nat} (hn : n ≤ 5) (ht : t ≤ 4) (h : (n = 0 → t ≤ 0) ∧ (n = 1 → t ≤ 0) ∧ (n = 2 → t ≤ 1) ∧ (n = 3 → t ≤ 2)) : fewW n t := by
  have hc : n = 0 ∨ n = 1 ∨ n = 2 ∨ n = 3 ∨ n = 4 ∨ n = 5 := by omega
  have hd : t = 0 ∨ t = 1 ∨ t = 2 ∨ t = 3 ∨ t = 4 := by omega
  rcases hc with rfl | rfl | rfl | rfl | rfl | rfl <;> rcases hd with rfl | rfl | rfl | rfl | rfl <;> try (exfalso; omega)
  · exact fw_of t0_0 (by decide +kernel)
  · exact fw_of t1_0 (by decide +kernel)
  · exact fw_of t2_0 (by decide +kernel)
  · exact fw_of t2_1 (by decide +kernel)
  · exact fw_of t3_0 (by decide +kernel)
  · exact fw_of t3_1 (by decide +kernel)
  · exact fw_of t3_2 (by decide +kernel)
  · exact fw_of t4_0 (by decide +kernel)
  · exact fw_of t4_1 (by decide +kernel)
  · exact fw_of t4_2 (by decide +kernel)
  · exact fw_of t4_3 (by decide +kernel)
  · exact fw_of t4_4 (by decide +kernel)
  · exact fw_of t5_0 (by decide +kernel)
  · exact fw_of t5_1 (by decide +kernel)
  · exact fw_of t5_2 (by decide +kernel)
  · exact fw_of t5_3 (by decide +kernel)
  · exact fw_of t5_4 (by decide +kernel)
theorem small_has (g : List Nat) (h : IsPl g) (hn : g.length ≤ 5) : (best g).1 ≤ 7 ∧ (best g).2 ≤ 1000 := by
  obtain ⟨h7, hok, _⟩ := lay_facts g h hn
  refine ⟨h7, ?_⟩
  have key : ∀ T, T ≤ 4 → ((g.length = 0 → T ≤ 0) ∧ (g.length = 1 → T ≤ 0) ∧ (g.length = 2 → T ≤ 1) ∧ (g.length = 3 → T ≤ 2)) → (∀ t, t ≤ T → LayOk g.length t) → (∃ t, t ≤ T ∧ ∃ x, x ∈ (lay g.length t).1 ∧ x.1 = g) → (best g).2 ≤ 1000 := by
    rintro T hT hl hk ⟨t, ht, x, hx, e⟩
    rw [← (lay_entry (hk t ht) hx e).2.1]
    exact few_ways hn (by omega) ⟨fun z => by have := hl.1 z; omega, fun z => by have := hl.2.1 z; omega, fun z => by have := hl.2.2.1 z; omega, fun z => by have := hl.2.2.2 z; omega⟩ x hx
  have hcase : g.length = 0 ∨ g.length = 1 ∨ g.length = 2 ∨ g.length = 3 ∨ g.length = 4 ∨ g.length = 5 := by omega
  rcases hcase with e | e | e | e | e | e
  · exact key 0 (by omega) (by omega) (e ▸ all0) (e ▸ has0 g h e)
  · exact key 0 (by omega) (by omega) (e ▸ all1) (e ▸ has1 g h e)
  · exact key 1 (by omega) (by omega) (e ▸ all2) (e ▸ has2 g h e)
  · exact key 2 (by omega) (by omega) (e ▸ all3) (e ▸ has3 g h e)
  · exact key 4 (by omega) (by omega) (e ▸ all4) (e ▸ has4 g h e)
  · exact key 4 (by omega) (by omega) (e ▸ all5) (e ▸ has5 g h e)
end SS
namespace SSw
open PySem PySem.Spec PyProof.Rows L2
/-! ### what repr needs of small data -/
theorem log2_small {n : Nat} (h : n ≤ 1000000) : n.log2 < 20 := by
  by_cases z : n = 0
  · subst z; decide
  · exact (Nat.log2_lt z).mpr (by omega)
theorem short_int {n : Nat} (h : n ≤ 1000000) : PyData.intsShort 13 (.int (n : Int)) = true := by
  simp only [PyData.intsShort, decide_eq_true_eq]
  exact PyData.shown_int_le2 (by omega) (by omega)
theorem show_int {n : Nat} (h : n ≤ 1000000) : PyData.showable (.int (n : Int)) = true := by
  simp only [PyData.showable, decide_eq_true_eq]
  have := log2_small h
  have e : ((n : Int)).natAbs = n := by omega
  rw [e]
  omega
theorem weight_int {n : Nat} (h : n ≤ 1000000) : PyData.weight (.int (n : Int)) ≤ 20 := by
  simp only [PyData.weight]
  have := log2_small h
  have e : ((n : Int)).natAbs = n := by omega
  rw [e]
  split <;> omega
theorem short_nl : ∀ g : List Nat, (∀ x ∈ g, x ≤ 1000000) → PyData.intsShortAll 13 (di g) = true ∧ PyData.showableAll (di g) = true ∧ PyData.weightAll (di g) ≤ 21 * g.length ∧ PyData.canLayAll0 (di g) = true
  | [], _ => ⟨rfl, rfl, Nat.le_refl _, rfl⟩
  | x :: g, h => by
    obtain ⟨h1, h2, h3, h4⟩ := short_nl g fun y hy => h y (List.mem_cons_of_mem _ hy)
    have hx := h x (List.mem_cons_self ..)
    refine ⟨?_, ?_, ?_, ?_⟩
    · show (PyData.intsShort 13 (.int (x : Int)) && PyData.intsShortAll 13 (di g)) = true
      rw [short_int hx, h1]; rfl
    · show (PyData.showable (.int (x : Int)) && PyData.showableAll (di g)) = true
      rw [show_int hx, h2]; rfl
    · show PyData.weight (.int (x : Int)) + 1 + PyData.weightAll (di g) ≤ _
      have := weight_int hx
      rw [List.length_cons]
      omega
    · show (PyData.canLay0 (.int (x : Int)) && PyData.canLayAll0 (di g)) = true
      rw [h4]; rfl
/-- [m, c, [places]] -/
def d3 (m c : Nat) (p : List Nat) : PyData := .list [.int (m : Int), .int (c : Int), dl p]
theorem d3_ok {m c : Nat} {p : List Nat} (hm : m ≤ 1000) (hc : c ≤ 1000) (hp : ∀ x ∈ p, x ≤ 1000) (hl : p.length ≤ 1000) : (d3 m c p).showable = true ∧ PyData.layable0 (d3 m c p) = true ∧ (d3 m c p).intsShort 13 = true ∧ (d3 m c p).depth ≤ 32 := by
  obtain ⟨h1, h2, h3, h4⟩ := short_nl p fun x hx => Nat.le_trans (hp x hx) (by decide)
  have im : m ≤ 1000000 := by omega
  have ic : c ≤ 1000000 := by omega
  have hd : (dl p).depth = 1 := by
    show PyData.depthAll _ + 1 = 1
    rw [depthAll_dl p]
  refine ⟨?_, ?_, ?_, ?_⟩
  · show (PyData.showable (.int (m : Int)) && (PyData.showable (.int (c : Int)) && (PyData.showableAll (di p) && true))) = true
    rw [show_int im, show_int ic, h2]; rfl
  · unfold PyData.layable0
    simp only [Bool.and_eq_true, decide_eq_true_eq]
    refine ⟨⟨?_, ?_⟩, ?_⟩
    · show (PyData.canLay0 (.int (m : Int)) && (PyData.canLay0 (.int (c : Int)) && (PyData.canLayAll0 (di p) && true))) = true
      rw [h4]; rfl
    · show max 0 (max 0 (max (dl p).depth 0)) + 1 ≤ 64
      rw [hd]
      decide
    · show PyData.weight (.int (m : Int)) + 1 + (PyData.weight (.int (c : Int)) + 1 + (PyData.weightAll (di p) + 1 + 0)) ≤ 2 ^ 20
      have := weight_int im
      have := weight_int ic
      omega
  · show (PyData.intsShort 13 (.int (m : Int)) && (PyData.intsShort 13 (.int (c : Int)) && (PyData.intsShortAll 13 (di p) && true))) = true
    rw [short_int im, short_int ic, h1]; rfl
  · show max 0 (max 0 (max (dl p).depth 0)) + 1 ≤ 32
    rw [hd]
    decide
/-! ### f(k = v) -/
section
variable {X : Cx} {CX : CXT} {k : Nat} {f : Addr} {fd : FuncData} {ps ks : List Str} {sp : Sp} {E : XK} {x : Str} {p pos : Pos} {kws : List Keyword} {tk : TA} {g : List Value → List Value → List Value} {gV : List V → List V → List V}
theorem pe_callK0 (F : FnOk X.prog X.w X.K X.mg X.base CX k f fd ps sp) (hr : Room k X.A) (hg : Gl X x) (hm : X.mg x = some (.ref f)) (hk : PySem.W.keepIn X.K (.ref f) = true) (hb : KBinds X.K fd ps ks g gV) (hx : Passes CX X E) (hkw : PK X kws tk)
    (hall : (backToKw pos (keywordEach kws X.env)).all (·.1.isSome) = true := by rfl) (hks : (backToKw pos (keywordEach kws X.env)).filterMap (·.1) = ks := by rfl) (hdb : (x == ("__debug__" : Str)) = false := by decide)
    (hpl : ((backTo pos (starEach [] X.env)).any (·.1) || (backToKw pos (keywordEach kws X.env)).any (·.1.isNone)) = false := by rfl) :
    PE X (.Call (.Name x p) [] kws pos) (tCallK sp gV E tNil tk) := by
  refine ⟨fun pins s σ H Q I h => wpAny_Call_Name_kw (ld_glob I hg hm (PySem.W.callWith_KW0 (h₀ := X.base) I.ok.mod.kin hk hall (thn (hkw.run pos pins s σ H _ I h) fun ws s2 ⟨zs, H2, I2, rz, q2⟩ => ⟨I2.kIn, ?_⟩) hpl) hdb)⟩
  rw [hks]
  exact run_fnk (us := []) (vs := []) F hr hb hx I2 .nil rz q2
end
theorem kb_one {K : PySem.W.Frag} {x qual nm : Str} {st : Stmt} {f : Addr} {fd : FuncData} (F : Fun K x qual st f fd)
    (h1 : ∀ (kV doc pm : Value) (an : Option Addr) (cdv ct u : Value), bindArgs (PySem.W.fnOf x qual (defArgs st) (defBody st) (defScope st) .none kV doc pm an cdv ct) ⟨[u], []⟩ = pure [(nm, u)])
    (h2 : ∀ (kV doc pm : Value) (an : Option Addr) (cdv ct u : Value), bindArgs (PySem.W.fnOf x qual (defArgs st) (defBody st) (defScope st) .none kV doc pm an cdv ct) ⟨[], [(nm, u)]⟩ = pure [(nm, u)]) : KBinds K fd [nm] [nm] (fun us ws => us ++ ws) (fun vs zs => vs ++ zs) := by
  obtain ⟨oc, od, kV, doc, pm, an, cdv, ct, osl, rfl, lk, hcd⟩ := F.ex
  refine ⟨fun s us ws _ hl => ?_, fun r1 r2 => r1.append r2⟩
  match us, ws, hl with
  | [u], [], _ => exact .of_eq (h1 kV doc pm an cdv ct u)
  | [], [u], _ => exact .of_eq (h2 kV doc pm an cdv ct u)
end SSw
namespace SSw
open PySem PySem.Spec PyProof.Rows L2
section
variable {P : Program} {w : World} {K : PySem.W.Frag} {mg : Str → Option Value} {base : Heap}
/-! ### _law_small_right -/
abbrev nSmall : List Str := ["_law_generator_here", "_law_goal", "_law_due", "_law_handed", "_law_told"]
theorem scSmall : FnScope nSmall ["_law_generator_here"] (defScope sSmall) := ⟨rfl, rfl, rfl, by decide +kernel, rfl, by decide +kernel, by decide +kernel⟩
def spSmall : Sp := fun vs H Q _ => ∃ (a : Addr) (M : Nat), vs = [.ref a] ∧ Gen H a M ∧ M ≤ 700000000 ∧ ∀ H', Keep a H H' → Gen H' a (M + 400) → Q (.bl true) H'
abbrev KB (K : PySem.W.Frag) (fd : FuncData) : Prop := KBinds K fd ["placing"] ["placing"] (fun us ws => us ++ ws) (fun vs zs => vs ++ zs)
theorem ok_small {f f1 f2 f3 f4 f5 f6 : Addr} {fd fd1 fd2 fd3 fd4 fd5 fd6 : FuncData} (F : Fun K "_law_small_right" "_law_small_right" sSmall f fd) (ml : mg "list" = none) (mr : mg "repr" = none)
    (F1 : Fun K "_law_random" "_law_random" sRandom f1 fd1) (b1 : Binds K fd1 ["_law_generator_here", "_law_bound"] []) (g1 : mg "_law_random" = some (.ref f1)) (G1 : FnOk P w K mg base CX0 2 f1 fd1 ["_law_generator_here", "_law_bound"] spRandom)
    (F2 : Fun K "_law_drawn" "_law_drawn" sDrawn f2 fd2) (b2 : Binds K fd2 ["_law_generator_here", "_law_size_told"] []) (g2 : mg "_law_drawn" = some (.ref f2)) (G2 : FnOk P w K mg base CX0 4 f2 fd2 ["_law_generator_here", "_law_size_told"] spDrawn)
    (F3 : Fun K "_law_walked" "_law_walked" sWalked f3 fd3) (b3 : Binds K fd3 ["_law_goal"] []) (g3 : mg "_law_walked" = some (.ref f3)) (G3 : FnOk P w K mg base CX0 1 f3 fd3 ["_law_goal"] spWalked)
    (F4 : Fun K "fewest_places" "fewest_places" sFewest f4 fd4) (b4 : Binds K fd4 ["placing"] []) (kb4 : KB K fd4) (g4 : mg "fewest_places" = some (.ref f4)) (G4 : FnOk P w K mg base CX0 4 f4 fd4 ["placing"] spFewest)
    (F5 : Fun K "how_many_programs" "how_many_programs" sHowMany f5 fd5) (b5 : Binds K fd5 ["placing"] []) (kb5 : KB K fd5) (g5 : mg "how_many_programs" = some (.ref f5)) (G5 : FnOk P w K mg base CX0 4 f5 fd5 ["placing"] spHowMany)
    (F6 : Fun K "first_program" "first_program" sFirstP f6 fd6) (b6 : Binds K fd6 ["placing"] []) (kb6 : KB K fd6) (g6 : mg "first_program" = some (.ref f6)) (G6 : FnOk P w K mg base CX0 5 f6 fd6 ["placing"] spFirstOf) :
    FnOkG P w K mg base 6 f fd ["_law_generator_here"] spSmall := by
  refine okG F scSmall (fun vs H Q E h => ?_) (fun cdv A outer s H vs Q E hgd hr h => ?_)
  · obtain ⟨a, M, rfl, _⟩ := h
    rfl
  · obtain ⟨a, M, rfl, hG, hM, q⟩ := h
    have nd := scSmall.nd
    have hr4 : Room 4 _ := hr.mono (by decide)
    have h64 := hr.units
    have hrp := call_reprL (X := (cxOf CX0 P w K mg base nSmall "_law_small_right" (defScope sSmall) f cdv A outer s H E).nox) hgd hr.units
    refine ⟨_, pss_cons (ps_set (i := 1) nd rfl (.inl rfl) (pe_call G2 hr4 (by rfl) g2 F2.kp b2 .nil pass0 (pa_cons (pv 0) (pa_cons (pe_call G1 (hr.mono (by decide)) (by rfl) g1 F1.kp b1 .nil pass0 (pa_cons (pv 0) (pa_cons pe_int pa_nil))) pa_nil))))
      (pss_cons (ps_par (i := 2) (j := 3) (by rfl) nd rfl rfl (by decide) rfl rfl (pa_cons (pe_call G3 (hr.mono (by decide)) (by rfl) g3 F3.kp b3 .nil pass0 (pa_cons (pv 1) pa_nil)) (pa_cons (pe_callTy call_list_of (by rfl) ml (by decide +kernel) (pa_cons (pv 1) pa_nil)) pa_nil)) (by rfl))
      (pss_cons (ps_set (i := 4) nd rfl (.inl rfl) (pe_lst (pa_cons (pe_call G4 hr4 (by rfl) g4 F4.kp b4 .nil pass0 (pa_cons (pv 3) pa_nil)) (pa_cons (pe_call G5 hr4 (by rfl) g5 F5.kp b5 .nil pass0 (pa_cons (pv 3) pa_nil)) (pa_cons (pe_call G6 hr (by rfl) g6 F6.kp b6 .nil pass0 (pa_cons (pv 3) pa_nil)) pa_nil)))))
      (pss_cons (ps_if (PW.pt (pw_or (pt_cmpR op_ne (pe_callB hrp (by rfl) mr PyProof.Rows.boot_repr (pa_cons (pv 4) pa_nil)) (pe_callB hrp (by rfl) mr PyProof.Rows.boot_repr (pa_cons (pv 2) pa_nil)) (nomark _)) (pw_or1 (pt_cmpR (op_neD h64) (pv 3) (pv 1) (nomark _))))) (pss_one (ps_ret pe_bl)) pss_nil)
      (pss_one (ps_ret (pe_cmpR op_eq (pe_callB hrp (by rfl) mr PyProof.Rows.boot_repr (pa_cons (pe_lst (pa_cons (pe_callK0 G4 hr4 (by rfl) g4 F4.kp kb4 pass0 (pk_cons (pv 1) pk_nil)) (pa_cons (pe_callK0 G5 hr4 (by rfl) g5 F5.kp kb5 pass0 (pk_cons (pv 1) pk_nil)) (pa_cons (pe_callK0 G6 hr (by rfl) g6 F6.kp kb6 pass0 (pk_cons (pv 1) pk_nil)) pa_nil)))) pa_nil))
        (pe_callB hrp (by rfl) mr PyProof.Rows.boot_repr (pa_cons (pv 2) pa_nil)) (nomark _))))))), ?_⟩
    have hfresh : ∀ {H' : Hp} {p : Addr} {N : Nat}, Keep a H H' → Gen H' a N → H' p = none → H p = none := fun {H' p N} kp hg np => by
      cases e : H p with
      | none => rfl
      | some o => have := kp p o (hg.ne np) e; rw [np] at this; cases this
    refine ⟨_, rfl, _, rfl, a, 6, M, rfl, hG, by omega, by omega, by omega, fun n H1 hn k1 hG1 => ⟨a, n, M + 3, rfl, hG1, by omega, by omega, fun g H2 p k2 np hp hpl hlen hG2 => ?_⟩⟩
    have n5 : g.length ≤ 5 := by omega
    obtain ⟨w7, wc⟩ := SS.small_has g hpl n5
    obtain ⟨wl, wb, _⟩ := SS.firstProgram_spec hpl
    obtain ⟨d1, d2, e3, d4⟩ := d3_ok (m := (SS.best g).1) (c := (SS.best g).2) (p := SS.firstProgram g) (by omega) (by omega) (fun x hx => by have := wb x hx; omega) (by omega)
    have kA := k1.trans k2
    refine ⟨_, rfl, p, g, rfl, hp, hpl, n5, fun H3 due r s3 ndue hdue hr3 => ⟨_, rfl, p, nl g, rfl, .inl (SqL.of (s3 _ _ hp)), fun hd nhd => ?_⟩⟩
    have hgd3 : Gen H3 a (M + 3 + 300) := hG2.same s3
    have k3 := kA.same s3
    have np3 := s3 _ _ hp
    have hdH : H hd = none := hfresh k3 hgd3 nhd
    have s4 := same_new (o := .lst (nl g)) nhd
    have hp4 := s4 _ _ np3
    have hdue4 := s4 _ _ hdue
    have hr4' := s4 _ _ hr3
    have hhd4 : (upd H3 hd (.lst (nl g))) hd = some (.lst (nl g)) := upd_same
    have k4 := k3.same s4
    have hG4 := hgd3.same s4
    generalize (upd H3 hd (.lst (nl g))) = H4 at hp4 hdue4 hr4' hhd4 k4 hG4 ⊢
    refine ⟨_, _, rfl, _, rfl, hd, g, rfl, hhd4, hpl, by omega, fun H5 s5 => ⟨_, rfl, hd, g, rfl, s5 _ _ hhd4, hpl, by omega, fun H6 s6 => ⟨_, rfl, hd, g, rfl, s6 _ _ (s5 _ _ hhd4), hpl, by omega, fun H7 l s7 nl0 hl => ⟨szl (by simp), fun tl ntl => ?_⟩⟩⟩⟩
    have s8 := ((s5.trans s6).trans s7).new (o := .lst [.int (((SS.best g).1 : Nat) : Int), .int (((SS.best g).2 : Nat) : Int), .ref l]) ntl
    have hp8 := s8 _ _ hp4
    have hdue8 := s8 _ _ hdue4
    have hr8 := s8 _ _ hr4'
    have hhd8 := s8 _ _ hhd4
    have hl8 := same_new (o := .lst [.int (((SS.best g).1 : Nat) : Int), .int (((SS.best g).2 : Nat) : Int), .ref l]) ntl _ _ hl
    have htl8 : (upd H7 tl (.lst [.int (((SS.best g).1 : Nat) : Int), .int (((SS.best g).2 : Nat) : Int), .ref l])) tl = some (.lst [.int (((SS.best g).1 : Nat) : Int), .int (((SS.best g).2 : Nat) : Int), .ref l]) := upd_same
    have k8 := k4.same s8
    have hG8 := hG4.same s8
    generalize (upd H7 tl (.lst [.int (((SS.best g).1 : Nat) : Int), .int (((SS.best g).2 : Nat) : Int), .ref l])) = H8 at hp8 hdue8 hr8 hhd8 hl8 htl8 k8 hG8 ⊢
    have dp3 : ∀ {HH : Hp} {t r : Addr}, HH t = some (.lst [.int (((SS.best g).1 : Nat) : Int), .int (((SS.best g).2 : Nat) : Int), .ref r]) → HH r = some (.lst (nl (SS.firstProgram g))) → Dp K HH (.ref t) (d3 (SS.best g).1 (SS.best g).2 (SS.firstProgram g)) :=
      fun ht hr => .lst (SqL.of ht) (.cons (.int _) (.cons (.int _) (.cons (dp_nl (SqL.of hr)) .nil)))
    refine ⟨_, rfl, tl, _, rfl, dp3 htl8 hl8, d1, d2, e3, d4, _, rfl, due, _, rfl, dp3 hdue8 hr8, d1, d2, e3, d4, rfl, ?_⟩
    rw [decide_eq_true rfl]
    refine ⟨_, rfl, iteF ⟨_, rfl, _, rfl, dl g, dl g, dp_nl (SqL.of hhd8), dp_nl (SqL.of hp8), shaped_dl g, shaped_dl g, ?_⟩⟩
    rw [eqv_dl, decide_eq_true rfl]
    refine ⟨_, rfl, iteF ⟨_, rfl, p, g, rfl, hp8, hpl, by omega, fun H9 s9 => ⟨_, rfl, p, g, rfl, s9 _ _ hp8, hpl, by omega, fun H10 s10 => ⟨_, rfl, p, g, rfl, s10 _ _ (s9 _ _ hp8), hpl, by omega, fun H11 l2 s11 nl2 hl2 => ⟨szl (by simp), fun t2 nt2 => ?_⟩⟩⟩⟩⟩
    have s12 := ((s9.trans s10).trans s11).new (o := .lst [.int (((SS.best g).1 : Nat) : Int), .int (((SS.best g).2 : Nat) : Int), .ref l2]) nt2
    refine ⟨t2, _, rfl, dp3 upd_same (same_new nt2 _ _ hl2), d1, d2, e3, d4, _, rfl, due, _, rfl, dp3 (s12 _ _ hdue8) (s12 _ _ hr8), d1, d2, e3, d4, rfl, ?_⟩
    rw [decide_eq_true rfl]
    exact q _ (k8.same s12) ((hG8.same s12).mono (by omega))
end
end SSw
namespace SSw
open PySem PySem.Spec PyProof.Rows L2
/-- the list of what each place leaves, under way -/
def LatAt (H : Hp) (D : Addr) (ads : List V) (g : List Nat) (i : Nat) : Prop := ads.length = i ∧ ∀ j, j < i → ∃ b, ads[j]? = some (.ref b) ∧ b ≠ D ∧ H b = some (.lst (nl (SS.before g j)))
theorem LatAt.keep {H H' : Hp} {D : Addr} {ads : List V} {g : List Nat} {i : Nat} (h : LatAt H D ads g i) (s : Keep D H H') : LatAt H' D ads g i := ⟨h.1, fun j hj => by
  obtain ⟨b, h1, h2, h3⟩ := h.2 j hj
  exact ⟨b, h1, h2, s _ _ h2 h3⟩⟩
theorem LatAt.snoc {H : Hp} {D b : Addr} {ads : List V} {g : List Nat} {i : Nat} (h : LatAt H D ads g i) (hb : b ≠ D) (hh : H b = some (.lst (nl (SS.before g i)))) : LatAt H D (ads ++ [.ref b]) g (i + 1) := by
  refine ⟨by rw [List.length_append, h.1]; rfl, fun j hj => ?_⟩
  rcases Nat.lt_or_eq_of_le (Nat.le_of_lt_succ hj) with q | q
  · obtain ⟨c, h1, h2, h3⟩ := h.2 j q
    exact ⟨c, by rw [List.getElem?_append_left (by rw [h.1]; exact q)]; exact h1, h2, h3⟩
  · subst q
    exact ⟨b, by rw [List.getElem?_append_right (by rw [h.1]; exact Nat.le_refl _), h.1]; simp, hb, hh⟩
section
variable {K : PySem.W.Frag} {n : Nat} {p l D D2 : Addr} {g told : List Nat} {ads : List V} {σ : L2.St} {H : Hp}
theorem told_read {Q : VK} (h1 : σ[1]? = some (some (.int (n : Int)))) (h2 : σ[2]? = some (some (.ref p))) (hp : H p = some (.lst (nl g))) (hg : SS.IsPl g) (hl : g.length = n) (hn : n ≤ 28)
    (hq : ∀ l H5 told, Same H H5 → H5 l = some (.lst (nl told)) → (n < 9 → told = SS.firstProgram g) → (9 ≤ n → told = []) → Q (.ref l) H5) :
    tIf (tTest (tOp (rI0 fun i j => V.bl (decide (i < j))) (tVar 1) (tC (V.int 9)))) (tCall spFirstOf [] E0 (tCons (tVar 2) tNil)) (tLst tNil) σ H Q := by
  refine ⟨_, h1, _, _, rfl, rfl, _, rfl, ?_⟩
  show if decide ((n : Int) < 9) = true then _ else _
  by_cases h9 : n < 9
  · rw [decide_eq_true (by omega)]
    exact iteT ⟨_, h2, p, g, rfl, hp, hg, by omega, fun H5 l s5 _ h5 => hq l H5 _ s5 h5 (fun _ => rfl) (fun z => absurd z (by omega))⟩
  · rw [decide_eq_false (by omega)]
    exact iteF ⟨Nat.zero_le _, fun l nl0 => hq l _ [] (same_new nl0) upd_same (fun z => absurd z h9) (fun _ => rfl)⟩
theorem chk_read {Q : Bool → Hp → Prop} (h1 : σ[1]? = some (some (.int (n : Int)))) (h2 : σ[2]? = some (some (.ref p))) (h3 : σ[3]? = some (some (.int (((SS.best g).1 : Nat) : Int)))) (h5 : σ[5]? = some (some (.ref l)))
    (hp : H p = some (.lst (nl g))) (hl : H l = some (.lst (nl told))) (hg : SS.IsPl g) (hn : g.length = n) (hn2 : n ≤ 28) (ht : n < 9 → told = SS.firstProgram g) (hq : ∀ H6, Same H H6 → Q false H6) :
    tAnd (tTest (tOp (rI0 fun i j => V.bl (decide (i < j))) (tVar 1) (tC (V.int 9))))
      (tOr (tTest (tOp rNe (tCB (fun xs H_1 Q => ∃ p ys, xs = [V.ref p] ∧ (SqL K H_1 p ys ∨ SqT K H_1 p ys) ∧ Q (V.int ys.length) H_1) (tCons (tVar 5) tNil)) (tVar 3)))
        (tTest (tOp (rNeD K) (tCall spMovesOf [] E0 (tCons (tVar 1) (tCons (tVar 5) tNil))) (tVar 2)))) σ H Q := by
  refine ⟨_, h1, _, _, rfl, rfl, _, rfl, ?_⟩
  show if decide ((n : Int) < 9) = true then _ else _
  by_cases h9 : n < 9
  · rw [decide_eq_true (by omega)]
    obtain ⟨w1, w2, w3⟩ := SS.firstProgram_spec hg
    rw [ht h9] at hl
    refine iteT ⟨_, h5, l, _, rfl, .inl (SqL.of hl), _, h3, rfl, _, rfl, ?_⟩
    rw [nl_len, w1, decide_eq_true rfl]
    refine iteF ⟨_, h1, _, h5, n, l, _, rfl, hl, fun x hx => by have := w2 x hx; omega, by omega, fun H6 p6 s6 n6 h6 => ⟨_, h2, dl g, dl g, ?_, dp_nl (SqL.of (s6 _ _ hp)), shaped_dl g, shaped_dl g, _, rfl, ?_⟩⟩
    · rw [← hn, w3] at h6
      exact dp_nl (SqL.of h6)
    · rw [eqv_dl, decide_eq_true rfl]
      exact hq _ s6
  · rw [decide_eq_false (by omega)]
    exact iteF (hq _ (Same.refl H))
theorem near_read {Q : Bool → Hp → Prop} (h4 : σ[4]? = some (some (.ref D))) (h5 : σ[5]? = some (some (.ref l))) (h6 : σ[6]? = some (some (.ref D2)))
    (hl : H l = some (.lst (nl told))) (hD2 : H D2 = some (.lst (nl (SS.nearer g)))) (hD : H D = some (.lst ads)) (hL : LatAt H D ads g n) (hg : SS.IsPl g) (hn : g.length = n) (hn2 : n ≤ 28) (ht : told = [] ∨ told = SS.firstProgram g) (hq : ∀ H6, Same H H6 → Q false H6) :
    tAnd (tTest (tOp (rNeD K) (tVar 5) (tLst tNil)))
      (tTest (tOp (rNeD K) (tVar 5) (tOp rCat (tSl (rSlL K) (tVar 6) tNoPart (tPart (tC (V.int 1)))) (tCall spFirstOf [] E0 (tCons (tOp (rIxL K) (tVar 4) (tOp (rIxL K) (tVar 6) (tC (V.int 0)))) tNil))))) σ H Q := by
  refine ⟨_, h5, Nat.zero_le _, fun e ne => ⟨dl told, dl [], dp_nl (SqL.of (same_new ne _ _ hl)), dp_nl (g := []) (SqL.of upd_same), shaped_dl _, shaped_dl _, _, rfl, ?_⟩⟩
  rw [eqv_dl]
  by_cases h0 : told = []
  · rw [decide_eq_true h0]
    exact iteF (hq _ (same_new ne))
  · rw [decide_eq_false h0]
    have ht' : told = SS.firstProgram g := ht.resolve_left h0
    have hv : 0 < (SS.best g).1 := Nat.pos_of_ne_zero fun z => h0 (ht'.trans (SS.firstProgram_nil z))
    obtain ⟨p0, r, en, hp0, ef⟩ := SS.firstProgram_cons hg hv
    obtain ⟨b, hb1, _, hb⟩ := hL.2 p0 (by omega)
    have s1 := same_new (o := .lst []) ne
    generalize (upd H e (.lst [])) = H1 at s1 ⊢
    refine iteT ⟨_, h5, _, h6, 1, rfl, D2, _, rfl, SqL.of (s1 _ _ hD2), fun c nc => ?_⟩
    have ec : cutV (nl (SS.nearer g)) none (some 1) = nl [p0] := by
      rw [show (1 : Int) = ((1 : Nat) : Int) by rfl, cutV_take, en]
      rfl
    rw [ec]
    have s2 := s1.new (o := .lst (nl [p0])) nc
    have hc : (upd H1 c (.lst (nl [p0]))) c = some (.lst (nl [p0])) := upd_same
    generalize (upd H1 c (.lst (nl [p0]))) = H2 at s2 hc ⊢
    refine ⟨_, h4, _, h6, D2, _, 0, .int (p0 : Int), rfl, rfl, SqL.of (s2 _ _ hD2), ?_, D, ads, (p0 : Int), .ref b, rfl, rfl, SqL.of (s2 _ _ hD), atI_nat hb1, b, SS.before g p0, rfl, s2 _ _ hb, SS.before_pl hg hp0, by rw [SS.before_len]; omega, fun H3 l2 s3 n3 h3 => ?_⟩
    · rw [en]
      exact atI_nat (j := 0) rfl
    refine ⟨c, l2, _, _, rfl, rfl, s3 _ _ hc, h3, ?_, fun c2 nc2 => ?_⟩
    · obtain ⟨w1, _, _⟩ := SS.firstProgram_spec (SS.before_pl hg hp0)
      have := SS.best_bound (SS.before_pl hg hp0)
      rw [SS.before_len] at this
      rw [nl_len, nl_len, w1]
      exact szl (by simp; omega)
    have s4 := (s2.trans s3).new (o := .lst (nl [p0] ++ nl (SS.firstProgram (SS.before g p0)))) nc2
    refine ⟨dl told, dl (SS.firstProgram g), dp_nl (SqL.of (s4 _ _ hl)), ?_, shaped_dl _, shaped_dl _, _, rfl, ?_⟩
    · rw [ef]
      exact dp_nl (g := p0 :: SS.firstProgram (SS.before g p0)) (SqL.of upd_same)
    · rw [eqv_dl, decide_eq_true ht']
      exact hq _ s4
end
section
variable {P : Program} {w : World} {K : PySem.W.Frag} {mg : Str → Option Value} {base : Heap}
/-! ### _law_great_right -/
abbrev nGreat : List Str := ["_law_generator_here", "_law_size_told", "_law_goal", "_law_least", "_law_later", "_law_told", "_law_nearer", "_law_ways", "_law_lie", "_law_place", "_law_near"]
theorem scGreat : FnScope nGreat ["_law_generator_here", "_law_size_told"] (defScope sGreat) := ⟨rfl, rfl, rfl, by decide +kernel, rfl, by decide +kernel, by decide +kernel⟩
def spGreat : Sp := fun vs H Q _ => ∃ (a : Addr) (n M : Nat), vs = [.ref a, .int (n : Int)] ∧ Gen H a M ∧ 6 ≤ n ∧ n ≤ 28 ∧ M ≤ 700000000 ∧ ∀ H', Keep a H H' → Gen H' a (M + 400) → Q (.bl true) H'
theorem ok_great {f f1 f2 f3 f4 f5 f6 f7 : Addr} {fd fd1 fd2 fd3 fd4 fd5 fd6 fd7 : FuncData} (F : Fun K "_law_great_right" "_law_great_right" sGreat f fd) (mr : mg "range" = none) (mm : mg "min" = none) (ms : mg "sum" = none) (mn : mg "len" = none)
    (F1 : Fun K "_law_drawn" "_law_drawn" sDrawn f1 fd1) (b1 : Binds K fd1 ["_law_generator_here", "_law_size_told"] []) (g1 : mg "_law_drawn" = some (.ref f1)) (G1 : FnOk P w K mg base CX0 4 f1 fd1 ["_law_generator_here", "_law_size_told"] spDrawn)
    (F2 : Fun K "_law_value" "_law_value" sLValue f2 fd2) (b2 : Binds K fd2 ["_law_goal", "_law_lie"] []) (g2 : mg "_law_value" = some (.ref f2)) (G2 : FnOk P w K mg base CX0 1 f2 fd2 ["_law_goal", "_law_lie"] spLValue)
    (F3 : Fun K "_law_before" "_law_before" sLBefore f3 fd3) (b3 : Binds K fd3 ["_law_goal", "_law_place"] []) (g3 : mg "_law_before" = some (.ref f3)) (G3 : FnOk P w K mg base CX0 3 f3 fd3 ["_law_goal", "_law_place"] spBefore)
    (F4 : Fun K "fewest_places" "fewest_places" sFewest f4 fd4) (b4 : Binds K fd4 ["placing"] []) (g4 : mg "fewest_places" = some (.ref f4)) (G4 : FnOk P w K mg base CX0 4 f4 fd4 ["placing"] spFewest)
    (F5 : Fun K "how_many_programs" "how_many_programs" sHowMany f5 fd5) (b5 : Binds K fd5 ["placing"] []) (g5 : mg "how_many_programs" = some (.ref f5)) (G5 : FnOk P w K mg base CX0 4 f5 fd5 ["placing"] spHowMany)
    (F6 : Fun K "first_program" "first_program" sFirstP f6 fd6) (b6 : Binds K fd6 ["placing"] []) (g6 : mg "first_program" = some (.ref f6)) (G6 : FnOk P w K mg base CX0 5 f6 fd6 ["placing"] spFirstOf)
    (F7 : Fun K "moves_of" "moves_of" sMovesOf f7 fd7) (b7 : Binds K fd7 ["size", "program"] []) (g7 : mg "moves_of" = some (.ref f7)) (G7 : FnOk P w K mg base CX0 5 f7 fd7 ["size", "program"] spMovesOf) :
    FnOk P w K mg base CX0 6 f fd ["_law_generator_here", "_law_size_told"] spGreat := by
  refine F.ok scGreat (fun vs H Q E h => ?_) (fun cdv A outer s H vs Q E hr h => ?_)
  · obtain ⟨a, n, M, rfl, _⟩ := h
    rfl
  · obtain ⟨a, n, M, rfl, hG, h6, h28, hM, q⟩ := h
    have nd := scGreat.nd
    have hr4 : Room 4 _ := hr.mono (by decide)
    have hr3 : Room 3 _ := hr.mono (by decide)
    have hr1 : Room 1 _ := hr.mono (by decide)
    have h64 := hr.units
    refine ⟨_, pss_cons (ps_set (i := 2) nd rfl (.inr rfl) (pe_call G1 hr4 (by rfl) g1 F1.kp b1 .nil pass0 (pa_cons (pv 0) (pa_cons (pv 1) pa_nil))))
      (pss_cons (ps_set (i := 3) nd rfl (.inr rfl) (pe_callB (cr_min rfl) (by rfl) mm (by decide +kernel) (pa_cons (pe_lc (own := [("_law_lie", 8)]) (g := gName 8) (tt := tYes) rfl nd (pi_range1 rfl mr (pa_cons (pe_op op_add (pv 1) pe_int) pa_nil))
          (blkOk_by (own := [("_law_lie", 8)]) (N := nGreat) (sc := defScope sGreat) (by decide +kernel)) (fun _ _ _ _ _ => pg_name (i := 8) nd rfl (.inl rfl)) (fun _ _ _ _ _ => pts_nil)
          (fun _ _ _ _ _ => pe_call G2 hr1 (by rfl) g2 F2.kp b2 .nil pass0 (pa_cons (pv 2) (pa_cons (pv 8) pa_nil)))) pa_nil)))
      (pss_cons (ps_if (PW.pt (pw_or (pt_cmpR op_ne (pe_call G4 hr4 (by rfl) g4 F4.kp b4 .nil pass0 (pa_cons (pv 2) pa_nil)) (pv 3) (nomark _)) (pw_or1 (pt_cmpR op_gt (pv 3) (pe_op op_add (pv 1) (pe_op op_fdiv (pv 1) pe_int)) (nomark _))))) (pss_one (ps_ret pe_bl)) pss_nil)
      (pss_cons (ps_if (pt_cmpR op_gt (pv 1) pe_int (nomark _)) (pss_one (ps_ret (pe_cmpR op_gt (pe_call G5 hr4 (by rfl) g5 F5.kp b5 .nil pass0 (pa_cons (pv 2) pa_nil)) pe_int (nomark _)))) pss_nil)
      (pss_cons (ps_set (i := 4) nd rfl (.inr rfl) (pe_lc (own := [("_law_place", 9)]) (g := gName 9) (tt := tYes) rfl nd (pi_range1 rfl mr (pa_cons (pv 1) pa_nil))
          (blkOk_by (own := [("_law_place", 9)]) (N := nGreat) (sc := defScope sGreat) (by decide +kernel)) (fun _ _ _ _ _ => pg_name (i := 9) nd rfl (.inl rfl)) (fun _ _ _ _ _ => pts_nil)
          (fun _ _ _ _ _ => pe_call G3 hr3 (by rfl) g3 F3.kp b3 .nil pass0 (pa_cons (pv 2) (pa_cons (pv 9) pa_nil)))))
      (pss_cons (ps_set (i := 5) nd rfl (.inl rfl) (pe_ifExp (pt_cmpR op_lt (pv 1) pe_int (nomark _)) (pe_call G6 hr (by rfl) g6 F6.kp b6 .nil pass0 (pa_cons (pv 2) pa_nil)) (pe_lst pa_nil)))
      (pss_cons (ps_if (PW.pt (pw_and (pt_cmpR op_lt (pv 1) pe_int (nomark _)) (pw_and1 (PW.pt (pw_or (pt_cmpR op_ne (pe_callB call_len_seq (by rfl) mn PySem.boot_len (pa_cons (pv 5) pa_nil)) (pv 3) (nomark _))
          (pw_or1 (pt_cmpR (op_neD h64) (pe_call G7 hr (by rfl) g7 F7.kp b7 .nil pass0 (pa_cons (pv 1) (pa_cons (pv 5) pa_nil))) (pv 2) (nomark _)))))))) (pss_one (ps_ret pe_bl)) pss_nil)
      (pss_cons (ps_setLc (i := 6) (own := [("_law_place", 9)]) (g := gName 9) rfl nd rfl rfl (sw_true rfl rfl rfl (by decide +kernel)) (pi_range1 rfl mr (pa_cons (pv 1) pa_nil))
          (blkOk_by (own := [("_law_place", 9)]) (N := nGreat) (sc := defScope sGreat) (by decide +kernel)) (fun _ _ _ _ _ => pg_name (i := 9) nd rfl (.inl rfl))
          (fun _ _ _ _ _ => pts_one (pt_cmpR op_eq (pe_call G4 hr4 (by rfl) g4 F4.kp b4 .nil pass0 (pa_cons (pe_ix (ixK (K := K) rfl) (pv 4) (pv 9) (fun _ _ => rfl)) pa_nil)) (pe_op op_sub (pv 3) pe_int) (nomark _))) (fun _ _ _ _ _ => pv 9))
      (pss_cons (ps_if (PW.pt (pw_and (pt_cmpR (op_neD h64) (pv 5) (pe_lst pa_nil) (nomark _)) (pw_and1 (pt_cmpR (op_neD h64) (pv 5) (pe_op op_cat (pe_slice sl_list (pv 6) po_none (po_some pe_int))
          (pe_call G6 hr (by rfl) g6 F6.kp b6 .nil pass0 (pa_cons (pe_ix ix_list (pv 4) (pe_ix ix_list (pv 6) pe_int (fun _ _ => rfl)) (fun _ _ => rfl)) pa_nil))) (nomark _))))) (pss_one (ps_ret pe_bl)) pss_nil)
      (pss_cons (ps_setLc (i := 7) (own := [("_law_near", 10)]) (g := gName 10) rfl nd rfl rfl (sw_true rfl rfl rfl (by decide +kernel)) (pi_list (pv 4))
          (blkOk_by (own := [("_law_near", 10)]) (N := nGreat) (sc := defScope sGreat) (by decide +kernel)) (fun _ _ _ _ _ => pg_name (i := 10) nd rfl (.inl rfl))
          (fun _ _ _ _ _ => pts_one (pt_cmpR op_eq (pe_call G4 hr4 (by rfl) g4 F4.kp b4 .nil pass0 (pa_cons (pv 10) pa_nil)) (pe_op op_sub (pv 3) pe_int) (nomark _))) (fun _ _ _ _ _ => pe_call G5 hr4 (by rfl) g5 F5.kp b5 .nil pass0 (pa_cons (pv 10) pa_nil)))
      (pss_one (ps_ret (pe_cmpR op_eq (pe_call G5 hr4 (by rfl) g5 F5.kp b5 .nil pass0 (pa_cons (pv 2) pa_nil)) (pe_ifExp (pt_cmpR op_gt (pv 3) pe_int (nomark _)) (pe_callB (cr_sum rfl) (by rfl) ms (by decide +kernel) (pa_cons (pv 7) pa_nil)) pe_int) (nomark _))))))))))))), ?_⟩
    refine ⟨_, rfl, _, rfl, a, n, M, rfl, hG, by omega, by omega, fun g H1 p k1 np hp hg hlen hG1 => ?_⟩
    have q1 : ∀ H', Same H1 H' → Q (.bl true) H' := fun H' s' => q H' (k1.same s') ((hG1.same s').mono (by omega))
    clear q
    -- least
    refine ⟨_, rfl, _, _, rfl, rfl, _, rfl, by omega, by omega, fun D nD => lc_range (lo := 0) (n := ((n : Int) + 1).toNat) (fun i H' => Same H1 H' ∧ H' D = some (.lst (nl ((List.range i).map fun l => (SS.worth g l).1))))
      ⟨same_new nD, upd_same⟩ (fun i H' hi hp' => ?_) (fun H2 hp' => ?_)⟩
    · obtain ⟨sm, hD⟩ := hp'
      refine ⟨rfl, _, rfl, _, rfl, p, g, i, by rw [Int.zero_add]; rfl, sm _ _ hp, hg, by omega, by omega, fun H2 s2 => ?_⟩
      refine ⟨_, s2 _ _ hD, by rw [nl_len, List.length_map, List.length_range]; exact szlt (by omega), (sm.trans s2).own nD, ?_⟩
      rw [upd_same, List.range_succ, List.map_append, nl_app]
      rfl
    · obtain ⟨sm2, hD⟩ := hp'
      rw [show ((n : Int) + 1).toNat = g.length + 1 by omega] at hD
      have hne : 0 < (zs ((List.range (g.length + 1)).map fun l => (SS.worth g l).1)).length := by
        unfold zs
        rw [List.length_map, List.length_map, List.length_range]
        omega
      rw [← zs_nl] at hD
      refine ⟨D, _, rfl, SqL.of hD, hne, fun m hm hle => ?_⟩
      have hmm := zs_min hm hle
      subst hmm
      have eb : SS.minL ((List.range (g.length + 1)).map fun l => (SS.worth g l).1) = (SS.best g).1 := by
        have e : SS.minL ((SS.worths g).map (·.1)) = (SS.best g).1 := rfl
        rw [← e]
        unfold SS.worths
        rw [List.map_map]
        rfl
      rw [eb]
      have hp2 := sm2 _ _ hp
      have hbd := SS.best_bound hg
      refine ⟨_, rfl, p, g, rfl, hp2, hg, by omega, fun H3 s3 => ⟨_, rfl, rfl, ?_⟩⟩
      rw [decide_eq_true rfl]
      refine ⟨_, rfl, iteF ⟨_, rfl, _, rfl, _, rfl, _, _, rfl, rfl, ⟨by omega, by omega⟩, _, _, rfl, rfl, _, _, rfl, rfl, ?_⟩⟩
      refine ⟨_, rfl, ?_⟩
      show if decide (((n : Int) + (n : Int) / 2) < (((SS.best g).1 : Nat) : Int)) = true then _ else _
      rw [decide_eq_false (by omega)]
      refine iteF ?_
      have hp3 := s3 _ _ hp2
      have sA := sm2.trans s3
      clear hD hne hle hm nD
      refine ⟨_, rfl, _, _, rfl, rfl, _, rfl, ?_⟩
      show if decide ((12 : Int) < (n : Int)) = true then _ else _
      by_cases h12 : 12 < n
      · rw [decide_eq_true (by omega)]
        refine iteT ⟨_, rfl, p, g, rfl, hp3, hg, by omega, fun H4 s4 => ⟨_, _, rfl, rfl, ?_⟩⟩
        have := SS.best_pos hg
        show Q (V.bl (decide ((0 : Int) < (((SS.best g).2 : Nat) : Int)))) H4
        rw [decide_eq_true (by omega)]
        exact q1 _ (sA.trans s4)
      · rw [decide_eq_false (by omega)]
        refine iteF ?_
        refine ⟨_, rfl, _, rfl, by omega, by omega, fun D nD => lc_range (lo := 0) (n := (n : Int).toNat) (fun i H' => Same H3 H' ∧ ∃ ads, H' D = some (.lst ads) ∧ LatAt H' D ads g i)
          ⟨same_new nD, [], upd_same, rfl, fun j hj => absurd hj (by omega)⟩ (fun i H' hi hp' => ?_) (fun H4 hp' => ?_)⟩
        · obtain ⟨sm, ads, hD, hL⟩ := hp'
          refine ⟨rfl, _, rfl, _, rfl, p, g, i, by rw [Int.zero_add]; rfl, sm _ _ hp3, hg, by omega, by omega, fun H4 b s4 nb hb => ?_⟩
          have hbD : b ≠ D := (ne_of_none hD nb).symm
          refine ⟨ads, s4 _ _ hD, by rw [hL.1]; exact szlt (by omega), (sm.trans s4).own nD, ads ++ [.ref b], upd_same, ?_⟩
          refine LatAt.snoc (hL.keep fun c o hc e => ?_) hbD ?_
          · rw [upd_ne hc]
            exact s4 _ _ e
          · rw [upd_ne hbD]
            exact hb
        · obtain ⟨sm4, ads, hD, hL⟩ := hp'
          rw [Int.toNat_natCast] at hL
          have hp4 := sm4 _ _ hp3
          have s14 := sA.trans sm4
          refine told_read (n := n) (p := p) (g := g) rfl rfl hp4 hg hlen h28 fun l H5 told s5 hl ht1 ht2 => ?_
          refine chk_read (n := n) (p := p) (l := l) (g := g) (told := told) rfl rfl rfl rfl (s5 _ _ hp4) hl hg hlen h28 ht1 fun H6 s6 => iteF ?_
          have s46 := s5.trans s6
          have hD6 := s46 _ _ hD
          have hL6 : LatAt H6 D ads g n := hL.keep fun c o _ e => s46 _ _ e
          have hl6 := s6 _ _ hl
          have hp6 := s46 _ _ hp4
          have s16 := s14.trans s46
          -- nearer
          refine ⟨_, rfl, _, rfl, by omega, by omega, fun D2 n2 => lc_range (lo := 0) (n := (n : Int).toNat) (fun i H' => Same H6 H' ∧ H' D2 = some (.lst (nl ((List.range i).filter fun q => (SS.best (SS.before g q)).1 + 1 == (SS.best g).1))))
            ⟨same_new n2, upd_same⟩ (fun i H' hi hp' => ?_) (fun H7 hp' => ?_)⟩
          · obtain ⟨sm, hD2⟩ := hp'
            obtain ⟨b, hb1, hb2, hb3⟩ := hL6.2 i (by omega)
            refine ⟨rfl, _, rfl, _, rfl, D, ads, (i : Int), .ref b, rfl, by rw [Int.zero_add], SqL.of (sm _ _ hD6), atI_nat hb1, b, SS.before g i, rfl, sm _ _ hb3, SS.before_pl hg (by omega), by rw [SS.before_len]; omega, fun H8 s8 => ⟨_, rfl, _, _, rfl, rfl, rfl, _, rfl, ?_⟩⟩
            have ef : (List.range (i + 1)).filter (fun q => (SS.best (SS.before g q)).1 + 1 == (SS.best g).1) = (List.range i).filter (fun q => (SS.best (SS.before g q)).1 + 1 == (SS.best g).1) ++ (if (SS.best (SS.before g i)).1 + 1 == (SS.best g).1 then [i] else []) := by
              rw [List.range_succ, List.filter_append]
              congr 1
              rw [List.filter_cons]
              rfl
            show if decide (V.int (((SS.best (SS.before g i)).1 : Nat) : Int) = V.int ((((SS.best g).1 : Nat) : Int) - 1)) = true then _ else _
            by_cases e : (SS.best (SS.before g i)).1 + 1 = (SS.best g).1
            · rw [if_pos (beq_iff_eq.mpr e)] at ef
              rw [decide_eq_true (congrArg V.int (by omega))]
              refine iteT ⟨_, rfl, _, s8 _ _ hD2, ?_, (sm.trans s8).own n2, ?_⟩
              · rw [nl_len]
                refine szlt (Nat.le_trans (List.length_filter_le _ _) ?_)
                rw [List.length_range]
                omega
              · rw [upd_same, ef, nl_app, Int.zero_add]
                rfl
            · rw [if_neg (fun z => e (beq_iff_eq.mp z)), List.append_nil] at ef
              rw [decide_eq_false (fun z => e (by have := V.int.inj z; omega))]
              refine iteF ⟨sm.trans s8, ?_⟩
              rw [ef]
              exact s8 _ _ hD2
          · obtain ⟨sm7, hD2⟩ := hp'
            rw [Int.toNat_natCast, ← hlen] at hD2
            have hD2' : H7 D2 = some (.lst (nl (SS.nearer g))) := hD2
            have ht : told = [] ∨ told = SS.firstProgram g := by
              by_cases h9 : n < 9
              · exact .inr (ht1 h9)
              · exact .inl (ht2 (by omega))
            refine near_read (n := n) (l := l) (D := D) (D2 := D2) (g := g) (told := told) (ads := ads) rfl rfl rfl (sm7 _ _ hl6) hD2' (sm7 _ _ hD6) (hL6.keep fun c o _ e => sm7 _ _ e) hg hlen h28 ht fun H8 s8 => iteF ?_
            have s68 := sm7.trans s8
            have hD8 := s68 _ _ hD6
            have hL8 : LatAt H8 D ads g n := hL6.keep fun c o _ e => s68 _ _ e
            have hp8 := s68 _ _ hp6
            have s18 := s16.trans s68
            -- ways
            refine ⟨_, rfl, D, rfl, ⟨_, SqL.of hD8⟩, fun D3 n3 => lc_list (K := K) (a := D) (xs := ads) (fun i H' => Same H8 H' ∧ H' D3 = some (.lst (nl (((List.range i).filter fun q => (SS.best (SS.before g q)).1 + 1 == (SS.best g).1).map fun q => (SS.best (SS.before g q)).2))))
              ⟨same_new n3, upd_same⟩ (fun i H' _ hp => SqL.of (hp.1 _ _ hD8)) (fun i x H' hx hp' => ?_) (fun H9 hp' => ?_)⟩
            · obtain ⟨sm, hD3⟩ := hp'
              have hin : i < n := by rw [← hL8.1]; exact (List.getElem?_eq_some_iff.mp hx).1
              obtain ⟨b, hb1, hb2, hb3⟩ := hL8.2 i hin
              obtain rfl : x = .ref b := Option.some.inj (hx.symm.trans hb1)
              have bpl := SS.before_pl hg (show i < g.length by omega)
              have bln := SS.before_len g i
              refine ⟨rfl, _, rfl, b, SS.before g i, rfl, sm _ _ hb3, bpl, by omega, fun H10 s10 => ⟨_, rfl, _, _, rfl, rfl, rfl, _, rfl, ?_⟩⟩
              have ef : (List.range (i + 1)).filter (fun q => (SS.best (SS.before g q)).1 + 1 == (SS.best g).1) = (List.range i).filter (fun q => (SS.best (SS.before g q)).1 + 1 == (SS.best g).1) ++ (if (SS.best (SS.before g i)).1 + 1 == (SS.best g).1 then [i] else []) := by
                rw [List.range_succ, List.filter_append]
                congr 1
                rw [List.filter_cons]
                rfl
              show if decide (V.int (((SS.best (SS.before g i)).1 : Nat) : Int) = V.int ((((SS.best g).1 : Nat) : Int) - 1)) = true then _ else _
              by_cases e : (SS.best (SS.before g i)).1 + 1 = (SS.best g).1
              · rw [if_pos (beq_iff_eq.mpr e)] at ef
                rw [decide_eq_true (congrArg V.int (by omega))]
                refine iteT ⟨_, rfl, b, SS.before g i, rfl, s10 _ _ (sm _ _ hb3), bpl, by omega, fun H11 s11 => ⟨_, s11 _ _ (s10 _ _ hD3), ?_, ((sm.trans s10).trans s11).own n3, ?_⟩⟩
                · rw [nl_len, List.length_map]
                  refine szlt (Nat.le_trans (List.length_filter_le _ _) ?_)
                  rw [List.length_range]
                  omega
                · rw [upd_same, ef, List.map_append, nl_app]
                  rfl
              · rw [if_neg (fun z => e (beq_iff_eq.mp z)), List.append_nil] at ef
                rw [decide_eq_false (fun z => e (by have := V.int.inj z; omega))]
                refine iteF ⟨sm.trans s10, ?_⟩
                rw [ef]
                exact s10 _ _ hD3
            · obtain ⟨sm9, hD3⟩ := hp'
              have hp9 := sm9 _ _ hp8
              rw [hL8.1, ← hlen, ← zs_nl] at hD3
              refine ⟨_, rfl, p, g, rfl, hp9, hg, by omega, fun H10 s10 => ⟨_, rfl, _, _, rfl, rfl, _, rfl, ?_⟩⟩
              have s110 := (s18.trans sm9).trans s10
              show if decide ((0 : Int) < (((SS.best g).1 : Nat) : Int)) = true then _ else _
              by_cases e : 0 < (SS.best g).1
              · rw [decide_eq_true (by omega)]
                refine iteT ⟨_, rfl, D3, _, rfl, SqL.of (s10 _ _ hD3), rfl, ?_⟩
                rw [zs_sum, ← SS.best_sum hg e, decide_eq_true rfl]
                exact q1 _ s110
              · rw [decide_eq_false (by omega)]
                refine iteF ⟨rfl, ?_⟩
                obtain ⟨_, e2⟩ := SS.best_zero hg (Nat.eq_zero_of_not_pos e)
                rw [e2]
                show Q (V.bl (decide (V.int ((1 : Nat) : Int) = V.int 1))) H10
                rw [decide_eq_true (show V.int ((1 : Nat) : Int) = V.int 1 from rfl)]
                exact q1 _ s110
end
end SSw
namespace SSw
open PySem PySem.Spec PyProof.Rows L2
/-! ### the listed placings -/
abbrev gOne : List Nat := [0, 1, 10, 3, 4, 5, 6, 7, 8, 9, 2, 11]
abbrev gTwo : List Nat := [1, 0, 3, 2, 5, 4, 7, 6, 9, 8] ++ (List.range 20).map (· + 10)
abbrev gWide : List Nat := [5, 0, 9, 2, 7, 1, 4, 8, 3, 6]
abbrev gFive : List Nat := [1, 0] ++ (List.range 12).map (· + 2)
theorem pl_of {g : List Nat} (h : g.isPerm (List.range g.length) = true) : SS.IsPl g := List.isPerm_iff.mp h
theorem plOne : SS.IsPl gOne := pl_of (by decide +kernel)
theorem plTwo : SS.IsPl gTwo := pl_of (by decide +kernel)
theorem plWide : SS.IsPl gWide := pl_of (by decide +kernel)
theorem plFive : SS.IsPl gFive := pl_of (by decide +kernel)
theorem plFar : SS.IsPl SS.gFar := pl_of (by decide +kernel)
theorem plTwenty : SS.IsPl (List.range 20) := pl_of (by decide +kernel)
theorem plA : SS.IsPl [1, 0, 2] := pl_of (by decide +kernel)
theorem plB : SS.IsPl [1, 0, 2, 3] := pl_of (by decide +kernel)
theorem plC : SS.IsPl [] := pl_of (by decide +kernel)
theorem Gen.keep {H H' : Hp} {a b : Addr} {M : Nat} (h : Gen H a M) (k : Keep b H H') (n : a ≠ b) : Gen H' a M := by
  obtain ⟨g0, g1, g2, e, h1, h2⟩ := h
  exact ⟨g0, g1, g2, k _ _ n e, h1, h2⟩
def d5 : PyData := .list [.int 2, dl [1, 0], .int 2, .int 4, .int 0]
theorem d5_ok : d5.showable = true ∧ PyData.layable0 d5 = true ∧ d5.intsShort 13 = true ∧ d5.depth ≤ 32 := ⟨by decide +kernel, by decide +kernel, by decide +kernel, by decide +kernel⟩
theorem rg_two : ([V.int 1, V.int 0, V.int 3, V.int 2, V.int 5, V.int 4, V.int 7, V.int 6, V.int 9, V.int 8] ++ rgV 10 30 : List V) = nl gTwo := rfl
theorem rg_five : ([V.int 1, V.int 0] ++ rgV 2 14 : List V) = nl gFive := rfl
theorem rg_twenty : rgV 0 20 = nl (List.range 20) := rfl
section
variable {P : Program} {w : World} {K : PySem.W.Frag} {mg : Str → Option Value} {base : Heap}
/-! ### law -/
abbrev nLaw : List Str := ["_law_script", "_law_index", "_law_generator_here", "_law_far", "_law_wide", "_law_found", "_law_told", "_law_at"]
theorem scLaw : FnScope nLaw ["_law_script"] (defScope sLaw) := ⟨rfl, rfl, rfl, by decide +kernel, rfl, by decide +kernel, by decide +kernel⟩
def spLaw (K : PySem.W.Frag) : Sp := fun vs H Q _ => ∃ (a : Addr) (ns : List Int), vs = [.ref a] ∧ SqL K H a (ns.map V.int) ∧ ∀ H', Q (.bl true) H'
theorem ok_law {f f1 f2 f3 f4 f5 f6 f7 f8 : Addr} {fd fd1 fd2 fd3 fd4 fd5 fd6 fd7 fd8 : FuncData} (F : Fun K "law" "law" sLaw f fd) (mr : mg "range" = none) (ml : mg "list" = none) (mn : mg "len" = none) (mp : mg "repr" = none) (mi : mg "int" = none)
    (F1 : Fun K "_law_generator" "_law_generator" sGener f1 fd1) (b1 : Binds K fd1 ["_law_script", "_law_index"] []) (g1 : mg "_law_generator" = some (.ref f1)) (G1 : FnOk P w K mg base CX0 2 f1 fd1 ["_law_script", "_law_index"] (spGener K))
    (F2 : Fun K "_law_small_right" "_law_small_right" sSmall f2 fd2) (b2 : Binds K fd2 ["_law_generator_here"] []) (g2 : mg "_law_small_right" = some (.ref f2)) (G2 : FnOkG P w K mg base 6 f2 fd2 ["_law_generator_here"] spSmall)
    (F3 : Fun K "_law_great_right" "_law_great_right" sGreat f3 fd3) (b3 : Binds K fd3 ["_law_generator_here", "_law_size_told"] []) (g3 : mg "_law_great_right" = some (.ref f3)) (G3 : FnOk P w K mg base CX0 6 f3 fd3 ["_law_generator_here", "_law_size_told"] spGreat)
    (F4 : Fun K "fewest_places" "fewest_places" sFewest f4 fd4) (b4 : Binds K fd4 ["placing"] []) (g4 : mg "fewest_places" = some (.ref f4)) (G4 : FnOk P w K mg base CX0 4 f4 fd4 ["placing"] spFewest)
    (F5 : Fun K "how_many_programs" "how_many_programs" sHowMany f5 fd5) (b5 : Binds K fd5 ["placing"] []) (g5 : mg "how_many_programs" = some (.ref f5)) (G5 : FnOk P w K mg base CX0 4 f5 fd5 ["placing"] spHowMany)
    (F6 : Fun K "first_program" "first_program" sFirstP f6 fd6) (b6 : Binds K fd6 ["placing"] []) (g6 : mg "first_program" = some (.ref f6)) (G6 : FnOk P w K mg base CX0 5 f6 fd6 ["placing"] spFirstOf)
    (F7 : Fun K "moves_of" "moves_of" sMovesOf f7 fd7) (b7 : Binds K fd7 ["size", "program"] []) (g7 : mg "moves_of" = some (.ref f7)) (G7 : FnOk P w K mg base CX0 5 f7 fd7 ["size", "program"] spMovesOf)
    (F8 : Fun K "_law_random" "_law_random" sRandom f8 fd8) (b8 : Binds K fd8 ["_law_generator_here", "_law_bound"] []) (g8 : mg "_law_random" = some (.ref f8)) (G8 : FnOk P w K mg base CX0 2 f8 fd8 ["_law_generator_here", "_law_bound"] spRandom) :
    FnOkG P w K mg base 7 f fd ["_law_script"] (spLaw K) := by
  refine okG F scLaw (fun vs H Q E h => ?_) (fun cdv A outer s H vs Q E hgd hr h => ?_)
  · obtain ⟨a, ns, rfl, _⟩ := h
    rfl
  · obtain ⟨a, ns, rfl, hS, q⟩ := h
    have nd := scLaw.nd
    have hr5 : Room 5 _ := hr.mono (by decide)
    have hr4 : Room 4 _ := hr.mono (by decide)
    have hr2 : Room 2 _ := hr.mono (by decide)
    have h64 := hr.units
    have hrp := call_reprL (X := (cxOf CX0 P w K mg base nLaw "law" (defScope sLaw) f cdv A outer s H E).nox) hgd hr.units
    refine ⟨_, pss_cons (ps_for PassesOwn.never rfl (pi_range1 rfl mr (pa_cons pe_int pa_nil)) (pg_name (i := 1) nd rfl (.inl rfl))
        (pss_cons (ps_set (i := 2) nd rfl (.inl rfl) (pe_call G1 hr2 (by rfl) g1 F1.kp b1 .nil pass0 (pa_cons (pv 0) (pa_cons (pv 1) pa_nil))))
        (pss_cons (ps_if (PW.pt (pw_or (pt_not (pt_val (pe_callG G2 hgd hr (by rfl) g2 F2.kp b2 (pa_cons (pv 2) pa_nil)))) (pw_or1 (pt_not (pt_val (pe_callG G2 hgd hr (by rfl) g2 F2.kp b2 (pa_cons (pv 2) pa_nil))))))) (pss_one (ps_ret pe_bl)) pss_nil)
        (pss_one (ps_if (pt_not (pt_val (pe_call G3 hr (by rfl) g3 F3.kp b3 .nil pass0 (pa_cons (pv 2) (pa_cons (pe_op op_add pe_int (pe_call G8 hr2 (by rfl) g8 F8.kp b8 .nil pass0 (pa_cons (pv 2) (pa_cons pe_int pa_nil)))) pa_nil))))) (pss_one (ps_ret pe_bl)) pss_nil)))))
      (pss_cons (ps_if (pt_not (pt_val (pe_call G3 hr (by rfl) g3 F3.kp b3 .nil pass0 (pa_cons (pe_call G1 hr2 (by rfl) g1 F1.kp b1 .nil pass0 (pa_cons (pv 0) (pa_cons pe_int pa_nil))) (pa_cons (pe_op op_add pe_int (pe_call G8 hr2 (by rfl) g8 F8.kp b8 .nil pass0 (pa_cons (pe_call G1 hr2 (by rfl) g1 F1.kp b1 .nil pass0 (pa_cons (pv 0) (pa_cons pe_int pa_nil))) (pa_cons pe_int pa_nil)))) pa_nil))))) (pss_one (ps_ret pe_bl)) pss_nil)
      (pss_cons (ps_setLc (i := 3) (own := [("_law_at", 7)]) (g := gName 7) (tt := tYes) rfl nd rfl rfl (sw_true rfl rfl rfl (by decide +kernel)) (pi_range1 rfl mr (pa_cons pe_int pa_nil))
          (blkOk_by (own := [("_law_at", 7)]) (N := nLaw) (sc := defScope sLaw) (by decide +kernel)) (fun _ _ _ _ _ => pg_name (i := 7) nd rfl (.inl rfl)) (fun _ _ _ _ _ => pts_nil)
          (fun _ _ _ _ _ => pe_op op_sub (pe_op op_add (pv 7) pe_int) (pe_op op_mul pe_int (pe_op op_mod (pe_callTy call_int1 (by rfl) mi (by decide +kernel) (pa_cons (pv 7) pa_nil)) pe_int))))
      (pss_cons (ps_if (pt_cmpR (op_neD h64) (pe_call G6 hr5 (by rfl) g6 F6.kp b6 .nil pass0 (pa_cons (pe_lst (pa_cons pe_int (pa_cons pe_int (pa_cons pe_int (pa_cons pe_int (pa_cons pe_int (pa_cons pe_int (pa_cons pe_int (pa_cons pe_int (pa_cons pe_int (pa_cons pe_int (pa_cons pe_int (pa_cons pe_int pa_nil))))))))))))) pa_nil)) (pe_lst (pa_cons pe_int (pa_cons pe_int (pa_cons pe_int pa_nil)))) (nomark _)) (pss_one (ps_ret pe_bl)) pss_nil)
      (pss_cons (ps_if (pt_cmpR op_ne (pe_call G5 hr4 (by rfl) g5 F5.kp b5 .nil pass0 (pa_cons (pe_op op_cat (pe_lst (pa_cons pe_int (pa_cons pe_int (pa_cons pe_int (pa_cons pe_int (pa_cons pe_int (pa_cons pe_int (pa_cons pe_int (pa_cons pe_int (pa_cons pe_int (pa_cons pe_int pa_nil))))))))))) (pe_listRg rfl (by rfl) ml (prg_2 (by rfl) mr pe_int pe_int))) pa_nil)) pe_int (nomark _)) (pss_one (ps_ret pe_bl)) pss_nil)
      (pss_cons (ps_set (i := 4) nd rfl (.inl rfl) (pe_lst (pa_cons pe_int (pa_cons pe_int (pa_cons pe_int (pa_cons pe_int (pa_cons pe_int (pa_cons pe_int (pa_cons pe_int (pa_cons pe_int (pa_cons pe_int (pa_cons pe_int pa_nil))))))))))))
      (pss_cons (ps_set (i := 5) nd rfl (.inl rfl) (pe_call G6 hr5 (by rfl) g6 F6.kp b6 .nil pass0 (pa_cons (pv 4) pa_nil)))
      (pss_cons (ps_if (PW.pt (pw_or (pt_cmpR op_ne (pe_callB call_len_seq (by rfl) mn PySem.boot_len (pa_cons (pv 5) pa_nil)) (pe_call G4 hr4 (by rfl) g4 F4.kp b4 .nil pass0 (pa_cons (pv 4) pa_nil)) (nomark _))
          (pw_or1 (pt_cmpR (op_neD h64) (pe_call G7 hr5 (by rfl) g7 F7.kp b7 .nil pass0 (pa_cons pe_int (pa_cons (pv 5) pa_nil))) (pv 4) (nomark _))))) (pss_one (ps_ret pe_bl)) pss_nil)
      (pss_cons (ps_if (PW.pt (pw_or (pt_cmpR op_ne (pe_call G4 hr4 (by rfl) g4 F4.kp b4 .nil pass0 (pa_cons (pv 3) pa_nil)) pe_int (nomark _))
          (pw_or (pt_cmpR op_ne (pe_call G5 hr4 (by rfl) g5 F5.kp b5 .nil pass0 (pa_cons (pe_listRg rfl (by rfl) ml (prg_1 (by rfl) mr pe_int)) pa_nil)) pe_int (nomark _))
          (pw_or1 (pt_cmpR op_ne (pe_call G4 hr4 (by rfl) g4 F4.kp b4 .nil pass0 (pa_cons (pe_op op_cat (pe_lst (pa_cons pe_int (pa_cons pe_int pa_nil))) (pe_listRg rfl (by rfl) ml (prg_2 (by rfl) mr pe_int pe_int))) pa_nil)) pe_int (nomark _)))))) (pss_one (ps_ret pe_bl)) pss_nil)
      (pss_cons (ps_set (i := 6) nd rfl (.inl rfl) (pe_lst (pa_cons (pe_call G4 hr4 (by rfl) g4 F4.kp b4 .nil pass0 (pa_cons (pe_lst (pa_cons pe_int (pa_cons pe_int (pa_cons pe_int pa_nil)))) pa_nil)) (pa_cons (pe_call G6 hr5 (by rfl) g6 F6.kp b6 .nil pass0 (pa_cons (pe_lst (pa_cons pe_int (pa_cons pe_int (pa_cons pe_int pa_nil)))) pa_nil))
          (pa_cons (pe_call G5 hr4 (by rfl) g5 F5.kp b5 .nil pass0 (pa_cons (pe_lst (pa_cons pe_int (pa_cons pe_int (pa_cons pe_int pa_nil)))) pa_nil)) (pa_cons (pe_call G5 hr4 (by rfl) g5 F5.kp b5 .nil pass0 (pa_cons (pe_lst (pa_cons pe_int (pa_cons pe_int (pa_cons pe_int (pa_cons pe_int pa_nil))))) pa_nil))
          (pa_cons (pe_call G4 hr4 (by rfl) g4 F4.kp b4 .nil pass0 (pa_cons (pe_lst pa_nil) pa_nil)) pa_nil)))))))
      (pss_one (ps_ret (pe_cmpR op_eq (pe_callB hrp (by rfl) mp PyProof.Rows.boot_repr (pa_cons (pv 6) pa_nil)) (pe_callB hrp (by rfl) mp PyProof.Rows.boot_repr (pa_cons (pe_lst (pa_cons pe_int (pa_cons (pe_lst (pa_cons pe_int (pa_cons pe_int pa_nil))) (pa_cons pe_int (pa_cons pe_int (pa_cons pe_int pa_nil)))))) pa_nil)) (nomark _))))))))))))), ?_⟩
    refine ⟨_, rfl, by omega, by omega, for_range (lo := 0) (n := (2 : Int).toNat) (fun i σ H' => ∃ v1 v2, σ = [some (.ref a), v1, v2, none, none, none, none, none] ∧ Same H H')
      ⟨none, none, rfl, Same.refl H⟩ ?_ ?_⟩
    · rintro i σ H' hi ⟨v1, v2, rfl, sm⟩
      rw [show (0 : Int) + (i : Int) = ((i : Nat) : Int) by omega]
      refine ⟨_, rfl, _, rfl, a, ns, i, rfl, sm.seq hS, by omega, fun H1 p s1 np hG => ?_⟩
      have nH : H p = none := sm.free np
      refine ⟨_, rfl, p, 1000000, rfl, hG, by omega, fun H2 k2 hG2 => ⟨_, rfl, iteF ⟨_, rfl, p, 1000000 + 400, rfl, hG2, by omega, fun H3 k3 hG3 => ⟨_, rfl, iteF ?_⟩⟩⟩⟩
      refine ⟨_, rfl, _, rfl, p, 3, 1000000 + 400 + 400, rfl, hG3, by omega, by omega, by omega, fun r H4 hr4 k4 hG4 => ⟨_, _, rfl, rfl, p, 6 + r, 1000000 + 400 + 400 + 3, ?_, hG4, by omega, by omega, by omega, fun H5 k5 hG5 => ⟨_, rfl, iteF ?_⟩⟩⟩
      · rw [show ((6 + r : Nat) : Int) = 6 + (r : Int) by omega]
        rfl
      · exact ⟨_, _, rfl, Keep.to_same ((sm.trans s1)) nH (((k2.trans k3).trans k4).trans k5)⟩
    · rintro σ H1 ⟨v1, v2, rfl, sm⟩
      -- a great placing
      refine ⟨_, rfl, a, ns, 2, rfl, sm.seq hS, by omega, fun H2 p s2 np hG => ?_⟩
      have s02 := sm.trans s2
      refine ⟨_, rfl, a, ns, 3, rfl, s02.seq hS, by omega, fun H3 p2 s3 np2 hG2 => ?_⟩
      refine ⟨p2, 20, 1000000, rfl, hG2, by omega, by omega, by omega, fun r H4 hr4 k4 hG4 => ⟨_, _, rfl, rfl, p, 9 + r, 1000000, ?_, ?_, by omega, by omega, by omega, fun H5 k5 hG5 => ⟨_, rfl, iteF ?_⟩⟩⟩
      · rw [show ((9 + r : Nat) : Int) = 9 + (r : Int) by omega]
        rfl
      · exact (hG.same s3).keep k4 (hG.ne np2).symm
      clear hG hG2 hG4 hG5 s02 s2 s3 k4 k5 sm np np2 hS
      -- far
      refine ⟨_, rfl, by omega, by omega, fun D nD => lc_range (lo := 0) (n := (60 : Int).toNat) (fun i H' => H' D = some (.lst (nl ((List.range i).map fun i => i + 1 - 2 * (i % 2)))))
        upd_same (fun i H' hi hD => ?_) (fun H6 hD => ?_)⟩
      · rw [show (0 : Int) + (i : Int) = ((i : Nat) : Int) by omega]
        refine ⟨rfl, _, rfl, _, _, rfl, rfl, _, rfl, .inl ⟨_, rfl, _, _, rfl, rfl, by omega, _, _, rfl, rfl, .inl ⟨by omega, by omega⟩, _, _, rfl, rfl, _, hD, ?_, ?_⟩⟩
        · rw [nl_len, List.length_map, List.length_range]
          exact szlt (by omega)
        · rw [upd_same, List.range_succ, List.map_append, nl_app]
          have e : V.int (((i : Nat) : Int) + 1 - 2 * (((i : Nat) : Int) % 2)) = V.int ((i + 1 - 2 * (i % 2) : Nat) : Int) := congrArg V.int (by omega)
          exact congrArg (fun v => some (HO.lst (nl ((List.range i).map fun i => i + 1 - 2 * (i % 2)) ++ [v]))) e
      · have hFar : H6 D = some (.lst (nl SS.gFar)) := hD
        clear hD nD
        -- [2, 7, 1]
        refine ⟨szl (by simp), fun l1 n1 => ⟨_, gOne, rfl, upd_same, plOne, by decide, fun H7 l2 s7 n2 h2 => ⟨szl (by simp), fun l3 n3 => ⟨dl [2, 7, 1], dl [2, 7, 1], ?_, dp_nl (g := [2, 7, 1]) (SqL.of upd_same), shaped_dl _, shaped_dl _, ?_⟩⟩⟩⟩
        · rw [SS.c1] at h2
          exact dp_nl (SqL.of (same_new n3 _ _ h2))
        rw [eqv_dl, decide_eq_true rfl]
        refine ⟨_, rfl, iteF ?_⟩
        have hFar7 : (upd H7 l3 (.lst [.int 2, .int 7, .int 1])) D = some (.lst (nl SS.gFar)) := same_new n3 _ _ (s7 _ _ (same_new n1 _ _ hFar))
        generalize (upd H7 l3 (.lst [.int 2, .int 7, .int 1])) = H8 at hFar7 ⊢
        clear h2 n3 n2 s7 hFar n1
        -- how many
        refine ⟨szl (by simp), fun l4 n4 => ⟨_, _, rfl, rfl, ⟨by decide, by decide, by decide, by decide, by decide⟩, fun l5 n5 => ⟨l4, l5, _, _, rfl, rfl, same_new n5 _ _ upd_same, upd_same, szl (by simp [rgV_length]), fun l6 n6 => ⟨l6, gTwo, rfl, ?_, plTwo, by decide, fun H9 s9 => ⟨rfl, ?_⟩⟩⟩⟩⟩
        · rw [upd_same]
          exact congrArg (fun x => some (HO.lst x)) rg_two
        have e2 : decide (V.int (((SS.best gTwo).2 : Nat) : Int) = V.int 1048320) = true := decide_eq_true (by rw [SS.c2]; rfl)
        rw [e2]
        refine ⟨_, rfl, iteF ?_⟩
        have hFar9 := s9 _ _ (same_new n6 (o := .lst ([.int 1, .int 0, .int 3, .int 2, .int 5, .int 4, .int 7, .int 6, .int 9, .int 8] ++ rgV 10 30)) _ _ (same_new n5 (o := .lst (rgV 10 30)) _ _ (same_new n4 (o := .lst [.int 1, .int 0, .int 3, .int 2, .int 5, .int 4, .int 7, .int 6, .int 9, .int 8]) _ _ hFar7)))
        clear s9 n6 n5 n4 hFar7
        -- wide
        obtain ⟨w1, w2, w3⟩ := SS.firstProgram_spec plWide
        refine ⟨szl (by simp), fun w0 nw => ?_⟩
        have hF1 := same_new (o := .lst [.int 5, .int 0, .int 9, .int 2, .int 7, .int 1, .int 4, .int 8, .int 3, .int 6]) nw _ _ hFar9
        have hW1 : (upd H9 w0 (.lst [.int 5, .int 0, .int 9, .int 2, .int 7, .int 1, .int 4, .int 8, .int 3, .int 6])) w0 = some (.lst (nl gWide)) := upd_same
        generalize (upd H9 w0 (.lst [.int 5, .int 0, .int 9, .int 2, .int 7, .int 1, .int 4, .int 8, .int 3, .int 6])) = H10 at hF1 hW1 ⊢
        clear nw hFar9
        refine ⟨_, rfl, w0, gWide, rfl, hW1, plWide, by decide, fun H11 l s11 n11 hl => ?_⟩
        refine ⟨_, rfl, l, _, rfl, .inl (SqL.of hl), _, rfl, w0, gWide, rfl, s11 _ _ hW1, plWide, by decide, fun H12 s12 => ⟨rfl, ?_⟩⟩
        have e3 : decide (V.int ((nl (SS.firstProgram gWide)).length : Int) = V.int (((SS.best gWide).1 : Nat) : Int)) = true := decide_eq_true (by rw [nl_len, w1])
        rw [e3]
        have hl12 := s12 _ _ hl
        have hW12 := s12 _ _ (s11 _ _ hW1)
        have hF12 := s12 _ _ (s11 _ _ hF1)
        refine ⟨_, rfl, iteF ⟨_, rfl, 10, l, _, rfl, hl12, w2, by decide, fun H13 p s13 np hp => ⟨_, rfl, dl gWide, dl gWide, ?_, dp_nl (SqL.of (s13 _ _ hW12)), shaped_dl _, shaped_dl _, ?_⟩⟩⟩
        · have w3' : SS.moved 10 (SS.firstProgram gWide) = gWide := w3
          rw [w3'] at hp
          exact dp_nl (SqL.of hp)
        rw [eqv_dl, decide_eq_true rfl]
        refine ⟨_, rfl, iteF ?_⟩
        have hF13 := s13 _ _ hF12
        clear hF12 hW12 hl12 hF1 hW1 hl s11 s12 s13 hp np
        -- far, no deeds, few deeds
        refine ⟨_, rfl, D, SS.gFar, rfl, hF13, plFar, by decide, fun H14 s14 => ⟨rfl, ?_⟩⟩
        have e4 : decide (V.int (((SS.best SS.gFar).1 : Nat) : Int) = V.int 30) = true := decide_eq_true (by rw [SS.c3]; rfl)
        rw [e4]
        refine ⟨_, rfl, iteF ⟨_, rfl, ⟨by decide, by decide, by decide, by decide, by decide⟩, fun l7 n7 => ⟨l7, List.range 20, rfl, ?_, plTwenty, by decide, fun H15 s15 => ⟨rfl, ?_⟩⟩⟩⟩
        · rw [upd_same]
          exact congrArg (fun x => some (HO.lst x)) rg_twenty
        have e5 : decide (V.int (((SS.best (List.range 20)).2 : Nat) : Int) = V.int 1) = true := decide_eq_true (by rw [SS.c4]; rfl)
        rw [e5]
        refine ⟨_, rfl, iteF ⟨szl (by simp), fun l8 n8 => ⟨_, _, rfl, rfl, ⟨by decide, by decide, by decide, by decide, by decide⟩, fun l9 n9 => ⟨l8, l9, _, _, rfl, rfl, same_new n9 _ _ upd_same, upd_same, szl (by simp [rgV_length]), fun l10 n10 => ⟨l10, gFive, rfl, ?_, plFive, by decide, fun H16 s16 => ⟨rfl, ?_⟩⟩⟩⟩⟩⟩
        · rw [upd_same]
          exact congrArg (fun x => some (HO.lst x)) rg_five
        have e6 : decide (V.int (((SS.best gFive).1 : Nat) : Int) = V.int 3) = true := decide_eq_true (by rw [SS.c5]; rfl)
        rw [e6]
        refine ⟨_, rfl, iteF ?_⟩
        clear n7 s15 n8 n9 n10 s16 s14 hF13
        -- the last five
        obtain ⟨k1, k2, k3, k4, k5⟩ := SS.c6
        refine ⟨szl (by simp), fun m1 nm1 => ⟨m1, [1, 0, 2], rfl, upd_same, plA, by decide, fun H17 s17 => ⟨szl (by simp), fun m2 nm2 => ⟨m2, [1, 0, 2], rfl, upd_same, plA, by decide, fun H18 r s18 nr hr18 => ⟨szl (by simp), fun m3 nm3 => ⟨m3, [1, 0, 2], rfl, upd_same, plA, by decide, fun H19 s19 =>
          ⟨szl (by simp), fun m4 nm4 => ⟨m4, [1, 0, 2, 3], rfl, upd_same, plB, by decide, fun H20 s20 => ⟨Nat.zero_le _, fun m5 nm5 => ⟨m5, [], rfl, upd_same, plC, by decide, fun H21 s21 => ⟨szl (by simp), fun t nt => ?_⟩⟩⟩⟩⟩⟩⟩⟩⟩⟩⟩
        rw [k1, k3, k4, k5]
        rw [k2] at hr18
        have s1821 := (((((same_new (o := .lst [.int 1, .int 0, .int 2]) nm3).trans s19).new (o := .lst [.int 1, .int 0, .int 2, .int 3]) nm4).trans s20).new (o := .lst []) nm5).trans s21
        have hr22 := same_new (o := .lst [.int ((2 : Nat) : Int), .ref r, .int ((2 : Nat) : Int), .int ((4 : Nat) : Int), .int ((0 : Nat) : Int)]) nt _ _ (s1821 _ _ hr18)
        obtain ⟨z1, z2, z3, z4⟩ := d5_ok
        have ht22 : (upd H21 t (.lst [.int ((2 : Nat) : Int), .ref r, .int ((2 : Nat) : Int), .int ((4 : Nat) : Int), .int ((0 : Nat) : Int)])) t = some (.lst [.int ((2 : Nat) : Int), .ref r, .int ((2 : Nat) : Int), .int ((4 : Nat) : Int), .int ((0 : Nat) : Int)]) := upd_same
        generalize (upd H21 t (.lst [.int ((2 : Nat) : Int), .ref r, .int ((2 : Nat) : Int), .int ((4 : Nat) : Int), .int ((0 : Nat) : Int)])) = H22 at hr22 ht22 ⊢
        have dp5 : ∀ {HH : Hp} {t r : Addr}, HH t = some (.lst [.int 2, .ref r, .int 2, .int 4, .int 0]) → HH r = some (.lst (nl [1, 0])) → Dp K HH (.ref t) d5 :=
          fun ht hr => .lst (SqL.of ht) (.cons (.int _) (.cons (dp_nl (SqL.of hr)) (.cons (.int _) (.cons (.int _) (.cons (.int _) .nil)))))
        refine ⟨_, rfl, t, d5, rfl, dp5 ht22 hr22, z1, z2, z3, z4, szl (by simp), fun o1 no1 => ⟨szl (by simp), fun o2 no2 => ⟨o2, d5, rfl, dp5 upd_same (same_new no2 _ _ upd_same), z1, z2, z3, z4, rfl, ?_⟩⟩⟩
        rw [decide_eq_true rfl]
        exact q _
end
end SSw
namespace SSw
open PySem PySem.Spec PyProof.Rows L2
/-! ### the call of the law, no repr under way -/
section
variable {P : Program} {w : World} {K : PySem.W.Frag} {mg mb : Str → Option Value} {k : Nat} {fa a : Addr} {fd : FuncData} {x : Str} {sp : Sp} {t : Shared} {vs : List Value} {ns : List Int}
/-- from an abstract heap where at most the script is tracked, as a list that stays -/
theorem call_from (KX : K.In t.heap) (hns : t.heap.Ns mainGlobals mg) (hbn : t.heap.Ns builtinsNs mb) (hbb : ∀ x : Str, x ≠ "__name__" → mb x = bootBuiltins x) (hlim : t.heap.NoLimit) (hgen : t.gens = #[])
    (hobj : ∃ o : Obj, t.heap.get? a = some o ∧ ∀ es ep, o.data ≠ .dict es ep) (hr : Room k callerA)
    (F : ∀ base : Heap, K.In base → base.Ns mainGlobals mg → FnOkG P w K mg base k fa fd [x] sp) (hbind : ∀ (s : Shared) (u : Value), BindsTo s fd ⟨[u], []⟩ [(x, u)])
    (H : Hp) (hH : HOk P w H t.heap) (hT : ∀ b u, H b = some u → b = a ∧ K.lookup a = none ∧ ∃ o ys, u = .frz o (.lst ys))
    (hsp : sp [.ref a] H (fun v _ => v = .bl true) E0) :
    codeAny (model P w) callerA (.call (.ref fa) ⟨[.ref a], []⟩) (fun r s' => r = .ok (.ret (.bool true)) ∧ OldK t.heap s'.heap ∧ s'.os = t.os ∧ AllBare s'.gens) t := by
  have free_of : ∀ b, (b = a → K.lookup a ≠ none) → H b = none := fun b hne => by
    cases e : H b with
    | none => rfl
    | some u =>
      obtain ⟨e1, e2, _⟩ := hT b u e
      exact absurd e2 (hne e1)
  have free_dict : ∀ (b : Addr) (o : Obj) (es : Array DictEntry) (ep : Nat), t.heap.get? b = some o → o.data = .dict es ep → H b = none := fun b o es ep h1 h2 => by
    cases e : H b with
    | none => rfl
    | some u =>
      obtain ⟨rfl, _, _⟩ := hT b u e
      obtain ⟨o2, h3, h4⟩ := hobj
      rw [h1] at h3
      cases h3
      exact absurd h2 (h4 es ep)
  have old : ∀ (b : Addr) (o : Obj), t.heap.get? b = some o → H b = none → (hidT t.heap H).get? b = some o := fun b o h1 h2 => hidT_get h1 h2
  have spaces : ∀ (b : Addr) (m : Str → Option Value), t.heap.Ns b m → (hidT t.heap H).Ns b m := fun b m h => by
    obtain ⟨o, es, ep, h1, h2, h3⟩ := h
    exact ⟨o, es, ep, old b o h1 (free_dict b o es ep h1 h2), h2, h3⟩
  have inK : K.In (hidT t.heap H) := fun b o h => old b o (KX b o h) (free_of b fun e z => by
    subst e
    rw [h] at z
    cases z)
  have limit : (hidT t.heap H).NoLimit := by
    obtain ⟨m, h1, h2⟩ := hlim
    exact ⟨m, spaces _ _ h1, h2⟩
  have env : Env0 P w K mg (hidT t.heap H) callerA [] t H := {
    frames := rfl
    mod := ⟨inK, spaces _ _ hns, ⟨mb, spaces _ _ hbn, hbb⟩, limit⟩
    bs := fun b o h => of_hidT h
    bsz := Nat.le_of_eq (hidT_size t.heap H)
    funs := trivial
    frf := fun b h => absurd (show b ∈ ([] : List Addr) from h) List.not_mem_nil
    hok := hH
    bare := .of_eq hgen }
  have run := (F _ inK (spaces _ _ hns)).go callerA [] t H ⟨[.ref a], []⟩ [.ref a] [.ref a] (fun v _ => v = .bl true) E0 rfl hr env (hbind t (.ref a)) (.cons rfl .nil) hsp
  refine codeAny_mono run fun res s' done => ?_
  match res, done with
  | .error _, z => exact z.elim
  | .ok .next, z => exact z.elim
  | .ok .brk, z => exact z.elim
  | .ok .cont, z => exact z.elim
  | .ok (.ret u), z =>
    obtain ⟨v, H', hos, hbare, un, hok', hrel, hv⟩ := z
    have hv' : v = .bl true := hv
    rw [hv'] at hrel
    have hu : u = Value.bool true := hrel
    rw [hu]
    refine ⟨rfl, OldK.of_keep fun b o h => ?_, hos, hbare⟩
    cases e : H b with
    | none => exact un.keep b o h e (fun z => absurd (show b ∈ ([] : List Addr) from z) List.not_mem_nil) List.not_mem_nil
    | some u' =>
      obtain ⟨_, _, o', ys, rfl⟩ := hT b u' e
      obtain ⟨p1, _⟩ := hH b _ e
      obtain ⟨p2, _⟩ := hok' b _ (un.frzs b o' _ e)
      rw [h] at p1
      cases p1
      exact p2
theorem law_callG (KX : K.In t.heap) (hns : t.heap.Ns mainGlobals mg) (hbn : t.heap.Ns builtinsNs mb) (hbb : ∀ x : Str, x ≠ "__name__" → mb x = bootBuiltins x) (hlim : t.heap.NoLimit) (hgen : t.gens = #[])
    (ha : t.heap.get? a = some { cls := .type "list", data := .seq vs.toArray }) (hi : IntsAre vs ns) (hl : ns.length ≤ sizeLine) (hr : Room k callerA)
    (F : ∀ base : Heap, K.In base → base.Ns mainGlobals mg → FnOkG P w K mg base k fa fd [x] sp) (hbind : ∀ (s : Shared) (u : Value), BindsTo s fd ⟨[u], []⟩ [(x, u)])
    (hsp : ∀ H : Hp, SqL K H a (ns.map V.int) → sp [.ref a] H (fun v _ => v = .bl true) E0) :
    codeAny (model P w) callerA (.call (.ref fa) ⟨[.ref a], []⟩) (fun r s' => r = .ok (.ret (.bool true)) ∧ OldK t.heap s'.heap ∧ s'.os = t.os ∧ AllBare s'.gens) t := by
  have nd : ∃ o : Obj, t.heap.get? a = some o ∧ ∀ es ep, o.data ≠ .dict es ep := ⟨_, ha, fun _ _ z => nomatch z⟩
  have go := fun H hH hT hS => call_from (a := a) KX hns hbn hbb hlim hgen nd hr F hbind H hH hT (hsp H hS)
  cases e : K.lookup a with
  | some o =>
    have e2 := (KX a o e).symm.trans ha
    cases e2
    refine go (fun _ => none) (fun b u z => nomatch z) (fun b u z => nomatch z) (.inr ⟨_, vs.toArray, _, e, rfl, rfl, rfl, ?_, ?_⟩)
    · rw [List.size_toArray, hi.length]
      exact hl
    · rw [List.toList_toArray]
      exact vals_ints hi
  | none =>
    have one : ∀ b u, upd (fun _ => none) a (.frz { cls := .type "list", data := .seq vs.toArray } (.lst (ns.map V.int))) b = some u → b = a ∧ u = .frz { cls := .type "list", data := .seq vs.toArray } (.lst (ns.map V.int)) := fun b u z => by
      by_cases q : b = a
      · subst q
        rw [upd_same] at z
        exact ⟨rfl, (Option.some.inj z).symm⟩
      · rw [upd_ne q] at z
        cases z
    refine go (upd (fun _ => none) a (.frz { cls := .type "list", data := .seq vs.toArray } (.lst (ns.map V.int)))) (fun b u z => ?_) (fun b u z => ?_) (.inl (.inr ⟨_, upd_same⟩))
    · obtain ⟨rfl, rfl⟩ := one b u z
      exact ⟨ha, by rw [List.length_map]; exact hl, vs, _, vals_ints hi, ha⟩
    · obtain ⟨rfl, rfl⟩ := one b u z
      exact ⟨rfl, e, _, _, rfl⟩
end
theorem walk_ofG {l : PySem.W.OpenLaw} {n k : Nat} {q : Program} {loose : List Str} {XP : (Str → Option Value) → Heap → Prop} {YP : World → Heap → Prop} {d : DefRec} {K : Params → PySem.W.Frag} {sp : World → Sp} {x : Str}
    (hn : l.most = some n) (hn2 : n ≤ sizeLine) (hdf : d.params.defaults = []) (hr : Room k callerA) (hY : ∀ (w : World) (h : Heap), YP w h → (K w.params).In h)
    (F : ∀ (w : World) (mg : Str → Option Value) (fa : Addr) (h : Heap), (K w.params).In h → h.Ns mainGlobals mg → mg d.name = some (.ref fa) →
      ∃ fd : FuncData, (∀ (s : Shared) (u : Value), BindsTo s fd ⟨[u], []⟩ [(x, u)]) ∧ ∀ base : Heap, (K w.params).In base → base.Ns mainGlobals mg → FnOkG l.prog w (K w.params) mg base k fa fd [x] (sp w))
    (hsp : ∀ (w : World) (H : Hp) (a : Addr) (ns : List Int), SqL (K w.params) H a (ns.map V.int) → sp w [.ref a] H (fun v _ => v = .bl true) E0) :
    PySem.W.WalkO q loose XP YP l.row.toRowW d [] (fun f vs => PySem.call f vs) :=
  Att.attach_call hn hdf fun w _ t mg mb fa _ _ _ _ a vs ns G Y _ _ _ hmg hobj hints hlen hgen => by
    have inK := hY w _ Y
    obtain ⟨fd, hb, hF⟩ := F w mg fa _ inK G.T.g hmg
    exact law_callG inK G.T.g G.T.b G.T.builtins G.T.nolimit hgen hobj hints (Nat.le_trans hlen hn2) hr hF hb fun H hS => hsp w H a ns hS
end SSw
namespace SSw
open PySem PySem.Spec PyProof.Rows L2
/-! ### what the top has written (printed by gen9.py) -/
theorem all_mk {l : PySem.W.OpenLaw} {w : World} {K : PySem.W.Frag} {h : Heap} {mg : Str → Option Value} {fa : Addr} (X : K.In h) (G : h.Ns mainGlobals mg) (hfa : mg "law" = some (.ref fa)) {tk : Tok}
    {f1 f2 f3 f4 f5 f6 f7 f8 f9 f10 f11 f12 f13 f14 f15 f16 f17 f18 f19 f20 f21 f22 f23 f24 f25 f26 f27 f28 f29 f30 f31 f32 : Addr} {od1 an1 od2 an2 od3 an3 od4 an4 od5 an5 od6 an6 od7 an7 od8 an8 od9 an9 od10 an10 od11 an11 od12 an12 od13 an13 od14 an14 od15 an15 od16 an16 od17 an17 od18 an18 od19 an19 od20 an20 od21 an21 od22 an22 od23 an23 od24 an24 od25 an25 od26 an26 od27 an27 od28 an28 od29 an29 od30 an30 od31 an31 od32 an32 : Option Addr} {sl1 sl2 sl3 sl4 sl5 sl6 sl7 sl8 sl9 sl10 sl11 sl12 sl13 sl14 sl15 sl16 sl17 sl18 sl19 sl20 sl21 sl22 sl23 sl24 sl25 sl26 sl27 sl28 sl29 sl30 sl31 sl32 : Array (Option Value)}
    {oc1 kV1 dc1 pm1 cd1 ct1 oc2 kV2 dc2 pm2 cd2 ct2 oc3 kV3 dc3 pm3 cd3 ct3 oc4 kV4 dc4 pm4 cd4 ct4 oc5 kV5 dc5 pm5 cd5 ct5 oc6 kV6 dc6 pm6 cd6 ct6 oc7 kV7 dc7 pm7 cd7 ct7 oc8 kV8 dc8 pm8 cd8 ct8 oc9 kV9 dc9 pm9 cd9 ct9 oc10 kV10 dc10 pm10 cd10 ct10 oc11 kV11 dc11 pm11 cd11 ct11 oc12 kV12 dc12 pm12 cd12 ct12 oc13 kV13 dc13 pm13 cd13 ct13 oc14 kV14 dc14 pm14 cd14 ct14 oc15 kV15 dc15 pm15 cd15 ct15 oc16 kV16 dc16 pm16 cd16 ct16 oc17 kV17 dc17 pm17 cd17 ct17 oc18 kV18 dc18 pm18 cd18 ct18 oc19 kV19 dc19 pm19 cd19 ct19 oc20 kV20 dc20 pm20 cd20 ct20 oc21 kV21 dc21 pm21 cd21 ct21 oc22 kV22 dc22 pm22 cd22 ct22 oc23 kV23 dc23 pm23 cd23 ct23 oc24 kV24 dc24 pm24 cd24 ct24 oc25 kV25 dc25 pm25 cd25 ct25 oc26 kV26 dc26 pm26 cd26 ct26 oc27 kV27 dc27 pm27 cd27 ct27 oc28 kV28 dc28 pm28 cd28 ct28 oc29 kV29 dc29 pm29 cd29 ct29 oc30 kV30 dc30 pm30 cd30 ct30 oc31 kV31 dc31 pm31 cd31 ct31 oc32 kV32 dc32 pm32 cd32 ct32 : Value}
    (a1 : PySem.W.nsIn K mainGlobals "is_whole" = some (some (.ref f1))) (l1 : K.lookup f1 = some ⟨oc1, od1, .func (PySem.W.fnOf "is_whole" "is_whole" (defArgs sWhole) (defBody sWhole) (defScope sWhole) .none kV1 dc1 pm1 an1 cd1 ct1), sl1⟩) (c1 : PySem.W.codeIn K cd1 "is_whole" = true) (k1 : PySem.W.keepIn K (.ref f1) = true)
    (a2 : PySem.W.nsIn K mainGlobals "is_between" = some (some (.ref f2))) (l2 : K.lookup f2 = some ⟨oc2, od2, .func (PySem.W.fnOf "is_between" "is_between" (defArgs sBetween) (defBody sBetween) (defScope sBetween) .none kV2 dc2 pm2 an2 cd2 ct2), sl2⟩) (c2 : PySem.W.codeIn K cd2 "is_between" = true) (k2 : PySem.W.keepIn K (.ref f2) = true)
    (a3 : PySem.W.nsIn K mainGlobals "check_number" = some (some (.ref f3))) (l3 : K.lookup f3 = some ⟨oc3, od3, .func (PySem.W.fnOf "check_number" "check_number" (defArgs sNumber) (defBody sNumber) (defScope sNumber) .none kV3 dc3 pm3 an3 cd3 ct3), sl3⟩) (c3 : PySem.W.codeIn K cd3 "check_number" = true) (k3 : PySem.W.keepIn K (.ref f3) = true)
    (a4 : PySem.W.nsIn K mainGlobals "check_size" = some (some (.ref f4))) (l4 : K.lookup f4 = some ⟨oc4, od4, .func (PySem.W.fnOf "check_size" "check_size" (defArgs sSize) (defBody sSize) (defScope sSize) .none kV4 dc4 pm4 an4 cd4 ct4), sl4⟩) (c4 : PySem.W.codeIn K cd4 "check_size" = true) (k4 : PySem.W.keepIn K (.ref f4) = true)
    (a5 : PySem.W.nsIn K mainGlobals "is_program" = some (some (.ref f5))) (l5 : K.lookup f5 = some ⟨oc5, od5, .func (PySem.W.fnOf "is_program" "is_program" (defArgs sIsProg) (defBody sIsProg) (defScope sIsProg) .none kV5 dc5 pm5 an5 cd5 ct5), sl5⟩) (c5 : PySem.W.codeIn K cd5 "is_program" = true) (k5 : PySem.W.keepIn K (.ref f5) = true)
    (a6 : PySem.W.nsIn K mainGlobals "check_program" = some (some (.ref f6))) (l6 : K.lookup f6 = some ⟨oc6, od6, .func (PySem.W.fnOf "check_program" "check_program" (defArgs sChProg) (defBody sChProg) (defScope sChProg) .none kV6 dc6 pm6 an6 cd6 ct6), sl6⟩) (c6 : PySem.W.codeIn K cd6 "check_program" = true) (k6 : PySem.W.keepIn K (.ref f6) = true)
    (a7 : PySem.W.nsIn K mainGlobals "check_placing" = some (some (.ref f7))) (l7 : K.lookup f7 = some ⟨oc7, od7, .func (PySem.W.fnOf "check_placing" "check_placing" (defArgs sChPl) (defBody sChPl) (defScope sChPl) .none kV7 dc7 pm7 an7 cd7 ct7), sl7⟩) (c7 : PySem.W.codeIn K cd7 "check_placing" = true) (k7 : PySem.W.keepIn K (.ref f7) = true)
    (a8 : PySem.W.nsIn K mainGlobals "moved_by" = some (some (.ref f8))) (l8 : K.lookup f8 = some ⟨oc8, od8, .func (PySem.W.fnOf "moved_by" "moved_by" (defArgs sMovedBy) (defBody sMovedBy) (defScope sMovedBy) .none kV8 dc8 pm8 an8 cd8 ct8), sl8⟩) (c8 : PySem.W.codeIn K cd8 "moved_by" = true) (k8 : PySem.W.keepIn K (.ref f8) = true)
    (a9 : PySem.W.nsIn K mainGlobals "moves_of" = some (some (.ref f9))) (l9 : K.lookup f9 = some ⟨oc9, od9, .func (PySem.W.fnOf "moves_of" "moves_of" (defArgs sMovesOf) (defBody sMovesOf) (defScope sMovesOf) .none kV9 dc9 pm9 an9 cd9 ct9), sl9⟩) (c9 : PySem.W.codeIn K cd9 "moves_of" = true) (k9 : PySem.W.keepIn K (.ref f9) = true)
    (a10 : PySem.W.nsIn K mainGlobals "goals_of" = some (some (.ref f10))) (l10 : K.lookup f10 = some ⟨oc10, od10, .func (PySem.W.fnOf "goals_of" "goals_of" (defArgs sGoals) (defBody sGoals) (defScope sGoals) .none kV10 dc10 pm10 an10 cd10 ct10), sl10⟩) (c10 : PySem.W.codeIn K cd10 "goals_of" = true) (k10 : PySem.W.keepIn K (.ref f10) = true)
    (a11 : PySem.W.nsIn K mainGlobals "before" = some (some (.ref f11))) (l11 : K.lookup f11 = some ⟨oc11, od11, .func (PySem.W.fnOf "before" "before" (defArgs sBefore) (defBody sBefore) (defScope sBefore) .none kV11 dc11 pm11 an11 cd11 ct11), sl11⟩) (c11 : PySem.W.codeIn K cd11 "before" = true) (k11 : PySem.W.keepIn K (.ref f11) = true)
    (a12 : PySem.W.nsIn K mainGlobals "_law_moved" = some (some (.ref f12))) (l12 : K.lookup f12 = some ⟨oc12, od12, .func (PySem.W.fnOf "_law_moved" "_law_moved" (defArgs sLMoved) (defBody sLMoved) (defScope sLMoved) .none kV12 dc12 pm12 an12 cd12 ct12), sl12⟩) (c12 : PySem.W.codeIn K cd12 "_law_moved" = true) (k12 : PySem.W.keepIn K (.ref f12) = true)
    (a13 : PySem.W.nsIn K mainGlobals "_law_moves" = some (some (.ref f13))) (l13 : K.lookup f13 = some ⟨oc13, od13, .func (PySem.W.fnOf "_law_moves" "_law_moves" (defArgs sLMoves) (defBody sLMoves) (defScope sLMoves) .none kV13 dc13 pm13 an13 cd13 ct13), sl13⟩) (c13 : PySem.W.codeIn K cd13 "_law_moves" = true) (k13 : PySem.W.keepIn K (.ref f13) = true)
    (a14 : PySem.W.nsIn K mainGlobals "_law_before" = some (some (.ref f14))) (l14 : K.lookup f14 = some ⟨oc14, od14, .func (PySem.W.fnOf "_law_before" "_law_before" (defArgs sLBefore) (defBody sLBefore) (defScope sLBefore) .none kV14 dc14 pm14 an14 cd14 ct14), sl14⟩) (c14 : PySem.W.codeIn K cd14 "_law_before" = true) (k14 : PySem.W.keepIn K (.ref f14) = true)
    (a15 : PySem.W.nsIn K mainGlobals "lie_rounds" = some (some (.ref f15))) (l15 : K.lookup f15 = some ⟨oc15, od15, .func (PySem.W.fnOf "lie_rounds" "lie_rounds" (defArgs sRounds) (defBody sRounds) (defScope sRounds) .none kV15 dc15 pm15 an15 cd15 ct15), sl15⟩) (c15 : PySem.W.codeIn K cd15 "lie_rounds" = true) (k15 : PySem.W.keepIn K (.ref f15) = true)
    (a16 : PySem.W.nsIn K mainGlobals "lie_worth" = some (some (.ref f16))) (l16 : K.lookup f16 = some ⟨oc16, od16, .func (PySem.W.fnOf "lie_worth" "lie_worth" (defArgs sWorth) (defBody sWorth) (defScope sWorth) .none kV16 dc16 pm16 an16 cd16 ct16), sl16⟩) (c16 : PySem.W.codeIn K cd16 "lie_worth" = true) (k16 : PySem.W.keepIn K (.ref f16) = true)
    (a17 : PySem.W.nsIn K mainGlobals "best_worths" = some (some (.ref f17))) (l17 : K.lookup f17 = some ⟨oc17, od17, .func (PySem.W.fnOf "best_worths" "best_worths" (defArgs sBest) (defBody sBest) (defScope sBest) .none kV17 dc17 pm17 an17 cd17 ct17), sl17⟩) (c17 : PySem.W.codeIn K cd17 "best_worths" = true) (k17 : PySem.W.keepIn K (.ref f17) = true)
    (a18 : PySem.W.nsIn K mainGlobals "fewest_places" = some (some (.ref f18))) (l18 : K.lookup f18 = some ⟨oc18, od18, .func (PySem.W.fnOf "fewest_places" "fewest_places" (defArgs sFewest) (defBody sFewest) (defScope sFewest) .none kV18 dc18 pm18 an18 cd18 ct18), sl18⟩) (c18 : PySem.W.codeIn K cd18 "fewest_places" = true) (k18 : PySem.W.keepIn K (.ref f18) = true)
    (a19 : PySem.W.nsIn K mainGlobals "how_many_programs" = some (some (.ref f19))) (l19 : K.lookup f19 = some ⟨oc19, od19, .func (PySem.W.fnOf "how_many_programs" "how_many_programs" (defArgs sHowMany) (defBody sHowMany) (defScope sHowMany) .none kV19 dc19 pm19 an19 cd19 ct19), sl19⟩) (c19 : PySem.W.codeIn K cd19 "how_many_programs" = true) (k19 : PySem.W.keepIn K (.ref f19) = true)
    (a20 : PySem.W.nsIn K mainGlobals "first_of" = some (some (.ref f20))) (l20 : K.lookup f20 = some ⟨oc20, od20, .func (PySem.W.fnOf "first_of" "first_of" (defArgs sFirstOf) (defBody sFirstOf) (defScope sFirstOf) .none kV20 dc20 pm20 an20 cd20 ct20), sl20⟩) (c20 : PySem.W.codeIn K cd20 "first_of" = true) (k20 : PySem.W.keepIn K (.ref f20) = true)
    (a21 : PySem.W.nsIn K mainGlobals "first_program" = some (some (.ref f21))) (l21 : K.lookup f21 = some ⟨oc21, od21, .func (PySem.W.fnOf "first_program" "first_program" (defArgs sFirstP) (defBody sFirstP) (defScope sFirstP) .none kV21 dc21 pm21 an21 cd21 ct21), sl21⟩) (c21 : PySem.W.codeIn K cd21 "first_program" = true) (k21 : PySem.W.keepIn K (.ref f21) = true)
    (a22 : PySem.W.nsIn K mainGlobals "_law_value" = some (some (.ref f22))) (l22 : K.lookup f22 = some ⟨oc22, od22, .func (PySem.W.fnOf "_law_value" "_law_value" (defArgs sLValue) (defBody sLValue) (defScope sLValue) .none kV22 dc22 pm22 an22 cd22 ct22), sl22⟩) (c22 : PySem.W.codeIn K cd22 "_law_value" = true) (k22 : PySem.W.keepIn K (.ref f22) = true)
    (a23 : PySem.W.nsIn K mainGlobals "_law_hash" = some (some (.ref f23))) (l23 : K.lookup f23 = some ⟨oc23, od23, .func (PySem.W.fnOf "_law_hash" "_law_hash" (defArgs sHash) (defBody sHash) (defScope sHash) .none kV23 dc23 pm23 an23 cd23 ct23), sl23⟩) (c23 : PySem.W.codeIn K cd23 "_law_hash" = true) (k23 : PySem.W.keepIn K (.ref f23) = true)
    (a24 : PySem.W.nsIn K mainGlobals "_law_random" = some (some (.ref f24))) (l24 : K.lookup f24 = some ⟨oc24, od24, .func (PySem.W.fnOf "_law_random" "_law_random" (defArgs sRandom) (defBody sRandom) (defScope sRandom) .none kV24 dc24 pm24 an24 cd24 ct24), sl24⟩) (c24 : PySem.W.codeIn K cd24 "_law_random" = true) (k24 : PySem.W.keepIn K (.ref f24) = true)
    (a25 : PySem.W.nsIn K mainGlobals "_law_cell" = some (some (.ref f25))) (l25 : K.lookup f25 = some ⟨oc25, od25, .func (PySem.W.fnOf "_law_cell" "_law_cell" (defArgs sCell) (defBody sCell) (defScope sCell) .none kV25 dc25 pm25 an25 cd25 ct25), sl25⟩) (c25 : PySem.W.codeIn K cd25 "_law_cell" = true) (k25 : PySem.W.keepIn K (.ref f25) = true)
    (a26 : PySem.W.nsIn K mainGlobals "_law_generator" = some (some (.ref f26))) (l26 : K.lookup f26 = some ⟨oc26, od26, .func (PySem.W.fnOf "_law_generator" "_law_generator" (defArgs sGener) (defBody sGener) (defScope sGener) .none kV26 dc26 pm26 an26 cd26 ct26), sl26⟩) (c26 : PySem.W.codeIn K cd26 "_law_generator" = true) (k26 : PySem.W.keepIn K (.ref f26) = true)
    (a27 : PySem.W.nsIn K mainGlobals "_law_program" = some (some (.ref f27))) (l27 : K.lookup f27 = some ⟨oc27, od27, .func (PySem.W.fnOf "_law_program" "_law_program" (defArgs sLProg) (defBody sLProg) (defScope sLProg) .none kV27 dc27 pm27 an27 cd27 ct27), sl27⟩) (c27 : PySem.W.codeIn K cd27 "_law_program" = true) (k27 : PySem.W.keepIn K (.ref f27) = true)
    (a28 : PySem.W.nsIn K mainGlobals "_law_drawn" = some (some (.ref f28))) (l28 : K.lookup f28 = some ⟨oc28, od28, .func (PySem.W.fnOf "_law_drawn" "_law_drawn" (defArgs sDrawn) (defBody sDrawn) (defScope sDrawn) .none kV28 dc28 pm28 an28 cd28 ct28), sl28⟩) (c28 : PySem.W.codeIn K cd28 "_law_drawn" = true) (k28 : PySem.W.keepIn K (.ref f28) = true)
    (a29 : PySem.W.nsIn K mainGlobals "_law_walked" = some (some (.ref f29))) (l29 : K.lookup f29 = some ⟨oc29, od29, .func (PySem.W.fnOf "_law_walked" "_law_walked" (defArgs sWalked) (defBody sWalked) (defScope sWalked) .none kV29 dc29 pm29 an29 cd29 ct29), sl29⟩) (c29 : PySem.W.codeIn K cd29 "_law_walked" = true) (k29 : PySem.W.keepIn K (.ref f29) = true)
    (a30 : PySem.W.nsIn K mainGlobals "_law_small_right" = some (some (.ref f30))) (l30 : K.lookup f30 = some ⟨oc30, od30, .func (PySem.W.fnOf "_law_small_right" "_law_small_right" (defArgs sSmall) (defBody sSmall) (defScope sSmall) .none kV30 dc30 pm30 an30 cd30 ct30), sl30⟩) (c30 : PySem.W.codeIn K cd30 "_law_small_right" = true) (k30 : PySem.W.keepIn K (.ref f30) = true)
    (a31 : PySem.W.nsIn K mainGlobals "_law_great_right" = some (some (.ref f31))) (l31 : K.lookup f31 = some ⟨oc31, od31, .func (PySem.W.fnOf "_law_great_right" "_law_great_right" (defArgs sGreat) (defBody sGreat) (defScope sGreat) .none kV31 dc31 pm31 an31 cd31 ct31), sl31⟩) (c31 : PySem.W.codeIn K cd31 "_law_great_right" = true) (k31 : PySem.W.keepIn K (.ref f31) = true)
    (a32 : PySem.W.nsIn K mainGlobals "law" = some (some (.ref f32))) (l32 : K.lookup f32 = some ⟨oc32, od32, .func (PySem.W.fnOf "law" "law" (defArgs sLaw) (defBody sLaw) (defScope sLaw) .none kV32 dc32 pm32 an32 cd32 ct32), sl32⟩) (c32 : PySem.W.codeIn K cd32 "law" = true) (k32 : PySem.W.keepIn K (.ref f32) = true)
    (aM : PySem.W.nsIn K mainGlobals "MOST_SIZE" = some (some (.int 60 tk)))
    (z1 : PySem.W.nsIn K mainGlobals "isinstance" = some none) (z2 : PySem.W.nsIn K mainGlobals "int" = some none) (z3 : PySem.W.nsIn K mainGlobals "bool" = some none) (z4 : PySem.W.nsIn K mainGlobals "list" = some none) (z5 : PySem.W.nsIn K mainGlobals "sorted" = some none) (z6 : PySem.W.nsIn K mainGlobals "range" = some none) (z7 : PySem.W.nsIn K mainGlobals "len" = some none) (z8 : PySem.W.nsIn K mainGlobals "enumerate" = some none) (z9 : PySem.W.nsIn K mainGlobals "min" = some none) (z10 : PySem.W.nsIn K mainGlobals "sum" = some none) (z11 : PySem.W.nsIn K mainGlobals "max" = some none) (z12 : PySem.W.nsIn K mainGlobals "tuple" = some none) (z13 : PySem.W.nsIn K mainGlobals "repr" = some none) :
    ∃ fd : FuncData, (∀ (s : Shared) (v : Value), BindsTo s fd ⟨[v], []⟩ [("_law_script", v)]) ∧ ∀ base : Heap, K.In base → base.Ns mainGlobals mg → FnOkG l.prog w K mg base 7 fa fd ["_law_script"] (spLaw K) := by
  have e := hfa.symm.trans (PySem.W.mg_of X G a32)
  cases e
  have F_is_whole := fun_mk (st := sWhole) l1 c1 k1
  have b_is_whole := F_is_whole.binds (ps := ["value"]) fun _ _ _ _ _ _ us hl => match us, hl with | [_], _ => rfl
  have F_is_between := fun_mk (st := sBetween) l2 c2 k2
  have b_is_between := F_is_between.binds (ps := ["value", "low", "high"]) fun _ _ _ _ _ _ us hl => match us, hl with | [_, _, _], _ => rfl
  have F_check_number := fun_mk (st := sNumber) l3 c3 k3
  have b_check_number := F_check_number.binds (ps := ["number", "low", "high"]) fun _ _ _ _ _ _ us hl => match us, hl with | [_, _, _], _ => rfl
  have F_check_size := fun_mk (st := sSize) l4 c4 k4
  have b_check_size := F_check_size.binds (ps := ["size"]) fun _ _ _ _ _ _ us hl => match us, hl with | [_], _ => rfl
  have F_is_program := fun_mk (st := sIsProg) l5 c5 k5
  have b_is_program := F_is_program.binds (ps := ["size", "value"]) fun _ _ _ _ _ _ us hl => match us, hl with | [_, _], _ => rfl
  have F_check_program := fun_mk (st := sChProg) l6 c6 k6
  have b_check_program := F_check_program.binds (ps := ["size", "program"]) fun _ _ _ _ _ _ us hl => match us, hl with | [_, _], _ => rfl
  have F_check_placing := fun_mk (st := sChPl) l7 c7 k7
  have b_check_placing := F_check_placing.binds (ps := ["placing"]) fun _ _ _ _ _ _ us hl => match us, hl with | [_], _ => rfl
  have F_moved_by := fun_mk (st := sMovedBy) l8 c8 k8
  have b_moved_by := F_moved_by.binds (ps := ["size", "program"]) fun _ _ _ _ _ _ us hl => match us, hl with | [_, _], _ => rfl
  have F_moves_of := fun_mk (st := sMovesOf) l9 c9 k9
  have b_moves_of := F_moves_of.binds (ps := ["size", "program"]) fun _ _ _ _ _ _ us hl => match us, hl with | [_, _], _ => rfl
  have F_goals_of := fun_mk (st := sGoals) l10 c10 k10
  have b_goals_of := F_goals_of.binds (ps := ["moves"]) fun _ _ _ _ _ _ us hl => match us, hl with | [_], _ => rfl
  have F_before := fun_mk (st := sBefore) l11 c11 k11
  have b_before := F_before.binds (ps := ["placing", "place"]) fun _ _ _ _ _ _ us hl => match us, hl with | [_, _], _ => rfl
  have F__law_moved := fun_mk (st := sLMoved) l12 c12 k12
  have b__law_moved := F__law_moved.binds (ps := ["_law_moves_here", "_law_place"]) fun _ _ _ _ _ _ us hl => match us, hl with | [_, _], _ => rfl
  have F__law_moves := fun_mk (st := sLMoves) l13 c13 k13
  have b__law_moves := F__law_moves.binds (ps := ["_law_size_told", "_law_places"]) fun _ _ _ _ _ _ us hl => match us, hl with | [_, _], _ => rfl
  have F__law_before := fun_mk (st := sLBefore) l14 c14 k14
  have b__law_before := F__law_before.binds (ps := ["_law_goal", "_law_place"]) fun _ _ _ _ _ _ us hl => match us, hl with | [_, _], _ => rfl
  have F_lie_rounds := fun_mk (st := sRounds) l15 c15 k15
  have b_lie_rounds := F_lie_rounds.binds (ps := ["placing", "lie"]) fun _ _ _ _ _ _ us hl => match us, hl with | [_, _], _ => rfl
  have F_lie_worth := fun_mk (st := sWorth) l16 c16 k16
  have b_lie_worth := F_lie_worth.binds (ps := ["placing", "lie"]) fun _ _ _ _ _ _ us hl => match us, hl with | [_, _], _ => rfl
  have F_best_worths := fun_mk (st := sBest) l17 c17 k17
  have b_best_worths := F_best_worths.binds (ps := ["placing"]) fun _ _ _ _ _ _ us hl => match us, hl with | [_], _ => rfl
  have F_fewest_places := fun_mk (st := sFewest) l18 c18 k18
  have b_fewest_places := F_fewest_places.binds (ps := ["placing"]) fun _ _ _ _ _ _ us hl => match us, hl with | [_], _ => rfl
  have F_how_many_programs := fun_mk (st := sHowMany) l19 c19 k19
  have b_how_many_programs := F_how_many_programs.binds (ps := ["placing"]) fun _ _ _ _ _ _ us hl => match us, hl with | [_], _ => rfl
  have F_first_of := fun_mk (st := sFirstOf) l20 c20 k20
  have b_first_of := F_first_of.binds (ps := ["placing"]) fun _ _ _ _ _ _ us hl => match us, hl with | [_], _ => rfl
  have F_first_program := fun_mk (st := sFirstP) l21 c21 k21
  have b_first_program := F_first_program.binds (ps := ["placing"]) fun _ _ _ _ _ _ us hl => match us, hl with | [_], _ => rfl
  have F__law_value := fun_mk (st := sLValue) l22 c22 k22
  have b__law_value := F__law_value.binds (ps := ["_law_goal", "_law_lie"]) fun _ _ _ _ _ _ us hl => match us, hl with | [_, _], _ => rfl
  have F__law_hash := fun_mk (st := sHash) l23 c23 k23
  have b__law_hash := F__law_hash.binds (ps := ["_law_seed", "_law_index"]) fun _ _ _ _ _ _ us hl => match us, hl with | [_, _], _ => rfl
  have F__law_random := fun_mk (st := sRandom) l24 c24 k24
  have b__law_random := F__law_random.binds (ps := ["_law_generator_here", "_law_bound"]) fun _ _ _ _ _ _ us hl => match us, hl with | [_, _], _ => rfl
  have F__law_cell := fun_mk (st := sCell) l25 c25 k25
  have b__law_cell := F__law_cell.binds (ps := ["_law_script", "_law_index"]) fun _ _ _ _ _ _ us hl => match us, hl with | [_, _], _ => rfl
  have F__law_generator := fun_mk (st := sGener) l26 c26 k26
  have b__law_generator := F__law_generator.binds (ps := ["_law_script", "_law_index"]) fun _ _ _ _ _ _ us hl => match us, hl with | [_, _], _ => rfl
  have F__law_program := fun_mk (st := sLProg) l27 c27 k27
  have b__law_program := F__law_program.binds (ps := ["_law_generator_here", "_law_size_told", "_law_many"]) fun _ _ _ _ _ _ us hl => match us, hl with | [_, _, _], _ => rfl
  have F__law_drawn := fun_mk (st := sDrawn) l28 c28 k28
  have b__law_drawn := F__law_drawn.binds (ps := ["_law_generator_here", "_law_size_told"]) fun _ _ _ _ _ _ us hl => match us, hl with | [_, _], _ => rfl
  have F__law_walked := fun_mk (st := sWalked) l29 c29 k29
  have b__law_walked := F__law_walked.binds (ps := ["_law_goal"]) fun _ _ _ _ _ _ us hl => match us, hl with | [_], _ => rfl
  have F__law_small_right := fun_mk (st := sSmall) l30 c30 k30
  have b__law_small_right := F__law_small_right.binds (ps := ["_law_generator_here"]) fun _ _ _ _ _ _ us hl => match us, hl with | [_], _ => rfl
  have F__law_great_right := fun_mk (st := sGreat) l31 c31 k31
  have b__law_great_right := F__law_great_right.binds (ps := ["_law_generator_here", "_law_size_told"]) fun _ _ _ _ _ _ us hl => match us, hl with | [_, _], _ => rfl
  have F_law := fun_mk (st := sLaw) l32 c32 k32
  have kb_fewest_places : KB K _ := kb_one F_fewest_places (fun _ _ _ _ _ _ _ => rfl) (fun _ _ _ _ _ _ _ => rfl)
  have kb_how_many_programs : KB K _ := kb_one F_how_many_programs (fun _ _ _ _ _ _ _ => rfl) (fun _ _ _ _ _ _ _ => rfl)
  have kb_first_program : KB K _ := kb_one F_first_program (fun _ _ _ _ _ _ _ => rfl) (fun _ _ _ _ _ _ _ => rfl)
  refine ⟨_, fun s v => .of_eq (fd := PySem.W.fnOf "law" "law" (defArgs sLaw) (defBody sLaw) (defScope sLaw) .none kV32 dc32 pm32 an32 cd32 ct32) rfl, fun base _ _ => ?_⟩
  have G_is_whole := ok_whole (P := l.prog) (w := w) (mg := mg) (base := base) F_is_whole (PySem.W.mg_none_of X G z1) (PySem.W.mg_none_of X G z2) (PySem.W.mg_none_of X G z3)
  have G_is_between := ok_between (P := l.prog) (w := w) (mg := mg) (base := base) F_is_between F_is_whole b_is_whole (PySem.W.mg_of X G a1) G_is_whole
  have G_check_number := ok_number (P := l.prog) (w := w) (mg := mg) (base := base) F_check_number F_is_between b_is_between (PySem.W.mg_of X G a2) G_is_between
  have G_check_size := ok_size (P := l.prog) (w := w) (mg := mg) (base := base) F_check_size F_check_number b_check_number (PySem.W.mg_of X G a3) (PySem.W.mg_of X G aM) G_check_number
  have G_is_program := ok_isProg (P := l.prog) (w := w) (mg := mg) (base := base) F_is_program F_is_between b_is_between (PySem.W.mg_of X G a2) (PySem.W.mg_none_of X G z1) (PySem.W.mg_none_of X G z4) G_is_between
  have G_check_program := ok_chProg (P := l.prog) (w := w) (mg := mg) (base := base) F_check_program F_is_program b_is_program (PySem.W.mg_of X G a5) G_is_program
  have G_check_placing := ok_chPl (P := l.prog) (w := w) (mg := mg) (base := base) F_check_placing F_is_between b_is_between (PySem.W.mg_of X G a2) (PySem.W.mg_none_of X G z1) (PySem.W.mg_none_of X G z4) (PySem.W.mg_none_of X G z5) (PySem.W.mg_none_of X G z6) (PySem.W.mg_none_of X G z7) G_is_between
  have G_moved_by := ok_movedBy (P := l.prog) (w := w) (mg := mg) (base := base) F_moved_by (PySem.W.mg_none_of X G z4) (PySem.W.mg_none_of X G z6)
  have G_moves_of := ok_movesOf (P := l.prog) (w := w) (mg := mg) (base := base) F_moves_of F_check_size b_check_size (PySem.W.mg_of X G a4) G_check_size F_check_program b_check_program (PySem.W.mg_of X G a6) G_check_program F_moved_by b_moved_by (PySem.W.mg_of X G a8) G_moved_by
  have G_goals_of := ok_goals (P := l.prog) (w := w) (mg := mg) (base := base) F_goals_of (PySem.W.mg_none_of X G z7) (PySem.W.mg_none_of X G z8)
  have G_before := ok_before (P := l.prog) (w := w) (mg := mg) (base := base) F_before (PySem.W.mg_none_of X G z7) F_goals_of b_goals_of (PySem.W.mg_of X G a10) G_goals_of F_moved_by b_moved_by (PySem.W.mg_of X G a8) G_moved_by
  have G__law_moved := ok_lmoved (P := l.prog) (w := w) (mg := mg) (base := base) F__law_moved
  have G__law_moves := ok_lmoves (P := l.prog) (w := w) (mg := mg) (base := base) F__law_moves (PySem.W.mg_none_of X G z4) (PySem.W.mg_none_of X G z6) F__law_moved b__law_moved (PySem.W.mg_of X G a12) G__law_moved
  have G__law_before := ok_lbefore (P := l.prog) (w := w) (mg := mg) (base := base) F__law_before (PySem.W.mg_none_of X G z7) F__law_moves b__law_moves (PySem.W.mg_of X G a13) G__law_moves
  have G_lie_rounds := ok_rounds (P := l.prog) (w := w) (mg := mg) (base := base) F_lie_rounds (PySem.W.mg_none_of X G z7) (PySem.W.mg_none_of X G z8) (PySem.W.mg_none_of X G z6)
  have G_lie_worth := ok_worth (P := l.prog) (w := w) (mg := mg) (base := base) F_lie_worth (PySem.W.mg_none_of X G z7) (PySem.W.mg_none_of X G z6) F_lie_rounds b_lie_rounds (PySem.W.mg_of X G a15) G_lie_rounds
  have G_best_worths := ok_best (P := l.prog) (w := w) (mg := mg) (base := base) F_best_worths (PySem.W.mg_none_of X G z7) (PySem.W.mg_none_of X G z6) (PySem.W.mg_none_of X G z9) (PySem.W.mg_none_of X G z10) F_lie_worth b_lie_worth (PySem.W.mg_of X G a16) G_lie_worth
  have G_fewest_places := ok_fewest (P := l.prog) (w := w) (mg := mg) (base := base) F_fewest_places F_check_placing b_check_placing (PySem.W.mg_of X G a7) G_check_placing F_best_worths b_best_worths (PySem.W.mg_of X G a17) G_best_worths
  have G_how_many_programs := ok_howMany (P := l.prog) (w := w) (mg := mg) (base := base) F_how_many_programs F_check_placing b_check_placing (PySem.W.mg_of X G a7) G_check_placing F_best_worths b_best_worths (PySem.W.mg_of X G a17) G_best_worths
  have G_first_of := ok_firstOf (P := l.prog) (w := w) (mg := mg) (base := base) F_first_of (PySem.W.mg_none_of X G z7) (PySem.W.mg_none_of X G z6) F_before b_before (PySem.W.mg_of X G a11) G_before F_best_worths b_best_worths (PySem.W.mg_of X G a17) G_best_worths
  have G_first_program := ok_firstP (P := l.prog) (w := w) (mg := mg) (base := base) F_first_program F_check_placing b_check_placing (PySem.W.mg_of X G a7) G_check_placing F_first_of b_first_of (PySem.W.mg_of X G a20) G_first_of
  have G__law_value := ok_lvalue (P := l.prog) (w := w) (mg := mg) (base := base) F__law_value (PySem.W.mg_none_of X G z7) (PySem.W.mg_none_of X G z8) (PySem.W.mg_none_of X G z6) (PySem.W.mg_none_of X G z2)
  have G__law_hash := ok_hash (P := l.prog) (w := w) (mg := mg) (base := base) F__law_hash (PySem.W.mg_none_of X G z2)
  have G__law_random := ok_random (P := l.prog) (w := w) (mg := mg) (base := base) F__law_random (PySem.W.mg_none_of X G z2) (PySem.W.mg_none_of X G z6) F__law_hash b__law_hash (PySem.W.mg_of X G a23) G__law_hash
  have G__law_cell := ok_cell (P := l.prog) (w := w) (mg := mg) (base := base) F__law_cell (PySem.W.mg_none_of X G z7) (PySem.W.mg_none_of X G z10)
  have G__law_generator := ok_gener (P := l.prog) (w := w) (mg := mg) (base := base) F__law_generator (PySem.W.mg_none_of X G z2) (PySem.W.mg_none_of X G z11) F__law_cell b__law_cell (PySem.W.mg_of X G a25) G__law_cell
  have G__law_program := ok_lprog (P := l.prog) (w := w) (mg := mg) (base := base) F__law_program (PySem.W.mg_none_of X G z6) F__law_random b__law_random (PySem.W.mg_of X G a24) G__law_random
  have G__law_drawn := ok_drawn (P := l.prog) (w := w) (mg := mg) (base := base) F__law_drawn (PySem.W.mg_none_of X G z6) (PySem.W.mg_none_of X G z4) (PySem.W.mg_none_of X G z7) F__law_random b__law_random (PySem.W.mg_of X G a24) G__law_random F__law_program b__law_program (PySem.W.mg_of X G a27) G__law_program F__law_moves b__law_moves (PySem.W.mg_of X G a13) G__law_moves
  have G__law_walked := ok_walked (P := l.prog) (w := w) (mg := mg) (base := base) F__law_walked (PySem.W.mg_none_of X G z7) (PySem.W.mg_none_of X G z12) (PySem.W.mg_none_of X G z6)
  have G__law_small_right := ok_small (P := l.prog) (w := w) (mg := mg) (base := base) F__law_small_right (PySem.W.mg_none_of X G z4) (PySem.W.mg_none_of X G z13) F__law_random b__law_random (PySem.W.mg_of X G a24) G__law_random F__law_drawn b__law_drawn (PySem.W.mg_of X G a28) G__law_drawn F__law_walked b__law_walked (PySem.W.mg_of X G a29) G__law_walked F_fewest_places b_fewest_places kb_fewest_places (PySem.W.mg_of X G a18) G_fewest_places F_how_many_programs b_how_many_programs kb_how_many_programs (PySem.W.mg_of X G a19) G_how_many_programs F_first_program b_first_program kb_first_program (PySem.W.mg_of X G a21) G_first_program
  have G__law_great_right := ok_great (P := l.prog) (w := w) (mg := mg) (base := base) F__law_great_right (PySem.W.mg_none_of X G z6) (PySem.W.mg_none_of X G z9) (PySem.W.mg_none_of X G z10) (PySem.W.mg_none_of X G z7) F__law_drawn b__law_drawn (PySem.W.mg_of X G a28) G__law_drawn F__law_value b__law_value (PySem.W.mg_of X G a22) G__law_value F__law_before b__law_before (PySem.W.mg_of X G a14) G__law_before F_fewest_places b_fewest_places (PySem.W.mg_of X G a18) G_fewest_places F_how_many_programs b_how_many_programs (PySem.W.mg_of X G a19) G_how_many_programs F_first_program b_first_program (PySem.W.mg_of X G a21) G_first_program F_moves_of b_moves_of (PySem.W.mg_of X G a9) G_moves_of
  exact ok_law (P := l.prog) (w := w) (mg := mg) (base := base) F_law (PySem.W.mg_none_of X G z6) (PySem.W.mg_none_of X G z4) (PySem.W.mg_none_of X G z7) (PySem.W.mg_none_of X G z13) (PySem.W.mg_none_of X G z2) F__law_generator b__law_generator (PySem.W.mg_of X G a26) G__law_generator F__law_small_right b__law_small_right (PySem.W.mg_of X G a30) G__law_small_right F__law_great_right b__law_great_right (PySem.W.mg_of X G a31) G__law_great_right F_fewest_places b_fewest_places (PySem.W.mg_of X G a18) G_fewest_places F_how_many_programs b_how_many_programs (PySem.W.mg_of X G a19) G_how_many_programs F_first_program b_first_program (PySem.W.mg_of X G a21) G_first_program F_moves_of b_moves_of (PySem.W.mg_of X G a9) G_moves_of F__law_random b__law_random (PySem.W.mg_of X G a24) G__law_random
end SSw
open PySem PySem.W PyProof.Rows
set_option maxRecDepth 100000 in
set_option maxHeartbeats 0 in
theorem PySem.Challenge.cw_sideswaps_k70_whole_fewest_programs_holds : PySem.Challenge.rw_sideswaps_k70_whole_fewest_programs.Holds := by
  w_on; o_law; k_head; (case hw => w_witness2)
  k_fill
  refine SSw.walk_ofG (l := PySem.Challenge.rw_sideswaps_k70_whole_fewest_programs) (n := 63) (k := 7) (x := "_law_script") (sp := fun w => SSw.spLaw _) rfl (by decide) rfl ⟨rfl, by decide, by decide⟩ (fun w h Y => PySem.W.kIn_of Y) ?F (fun _ _ a ns hS => ⟨a, ns, rfl, hS, fun _ => rfl⟩)
  case F =>
    intro w mg fa h KX G hmg
    refine' SSw.all_mk KX G hmg ?a1 ?l1 ?c1 ?k1 ?a2 ?l2 ?c2 ?k2 ?a3 ?l3 ?c3 ?k3 ?a4 ?l4 ?c4 ?k4 ?a5 ?l5 ?c5 ?k5 ?a6 ?l6 ?c6 ?k6 ?a7 ?l7 ?c7 ?k7 ?a8 ?l8 ?c8 ?k8 ?a9 ?l9 ?c9 ?k9 ?a10 ?l10 ?c10 ?k10 ?a11 ?l11 ?c11 ?k11 ?a12 ?l12 ?c12 ?k12 ?a13 ?l13 ?c13 ?k13 ?a14 ?l14 ?c14 ?k14 ?a15 ?l15 ?c15 ?k15 ?a16 ?l16 ?c16 ?k16 ?a17 ?l17 ?c17 ?k17 ?a18 ?l18 ?c18 ?k18 ?a19 ?l19 ?c19 ?k19 ?a20 ?l20 ?c20 ?k20 ?a21 ?l21 ?c21 ?k21 ?a22 ?l22 ?c22 ?k22 ?a23 ?l23 ?c23 ?k23 ?a24 ?l24 ?c24 ?k24 ?a25 ?l25 ?c25 ?k25 ?a26 ?l26 ?c26 ?k26 ?a27 ?l27 ?c27 ?k27 ?a28 ?l28 ?c28 ?k28 ?a29 ?l29 ?c29 ?k29 ?a30 ?l30 ?c30 ?k30 ?a31 ?l31 ?c31 ?k31 ?a32 ?l32 ?c32 ?k32 ?aM ?z1 ?z2 ?z3 ?z4 ?z5 ?z6 ?z7 ?z8 ?z9 ?z10 ?z11 ?z12 ?z13
    (case a1 => k_is); (case l1 => k_is); (case c1 => k_is); (case k1 => k_is); (case a2 => k_is); (case l2 => k_is); (case c2 => k_is); (case k2 => k_is)
    (case a3 => k_is); (case l3 => k_is); (case c3 => k_is); (case k3 => k_is); (case a4 => k_is); (case l4 => k_is); (case c4 => k_is); (case k4 => k_is)
    (case a5 => k_is); (case l5 => k_is); (case c5 => k_is); (case k5 => k_is); (case a6 => k_is); (case l6 => k_is); (case c6 => k_is); (case k6 => k_is)
    (case a7 => k_is); (case l7 => k_is); (case c7 => k_is); (case k7 => k_is); (case a8 => k_is); (case l8 => k_is); (case c8 => k_is); (case k8 => k_is)
    (case a9 => k_is); (case l9 => k_is); (case c9 => k_is); (case k9 => k_is); (case a10 => k_is); (case l10 => k_is); (case c10 => k_is); (case k10 => k_is)
    (case a11 => k_is); (case l11 => k_is); (case c11 => k_is); (case k11 => k_is); (case a12 => k_is); (case l12 => k_is); (case c12 => k_is); (case k12 => k_is)
    (case a13 => k_is); (case l13 => k_is); (case c13 => k_is); (case k13 => k_is); (case a14 => k_is); (case l14 => k_is); (case c14 => k_is); (case k14 => k_is)
    (case a15 => k_is); (case l15 => k_is); (case c15 => k_is); (case k15 => k_is); (case a16 => k_is); (case l16 => k_is); (case c16 => k_is); (case k16 => k_is)
    (case a17 => k_is); (case l17 => k_is); (case c17 => k_is); (case k17 => k_is); (case a18 => k_is); (case l18 => k_is); (case c18 => k_is); (case k18 => k_is)
    (case a19 => k_is); (case l19 => k_is); (case c19 => k_is); (case k19 => k_is); (case a20 => k_is); (case l20 => k_is); (case c20 => k_is); (case k20 => k_is)
    (case a21 => k_is); (case l21 => k_is); (case c21 => k_is); (case k21 => k_is); (case a22 => k_is); (case l22 => k_is); (case c22 => k_is); (case k22 => k_is)
    (case a23 => k_is); (case l23 => k_is); (case c23 => k_is); (case k23 => k_is); (case a24 => k_is); (case l24 => k_is); (case c24 => k_is); (case k24 => k_is)
    (case a25 => k_is); (case l25 => k_is); (case c25 => k_is); (case k25 => k_is); (case a26 => k_is); (case l26 => k_is); (case c26 => k_is); (case k26 => k_is)
    (case a27 => k_is); (case l27 => k_is); (case c27 => k_is); (case k27 => k_is); (case a28 => k_is); (case l28 => k_is); (case c28 => k_is); (case k28 => k_is)
    (case a29 => k_is); (case l29 => k_is); (case c29 => k_is); (case k29 => k_is); (case a30 => k_is); (case l30 => k_is); (case c30 => k_is); (case k30 => k_is)
    (case a31 => k_is); (case l31 => k_is); (case c31 => k_is); (case k31 => k_is); (case a32 => k_is); (case l32 => k_is); (case c32 => k_is); (case k32 => k_is)
    (case aM => k_is); (case z1 => k_is); (case z2 => k_is); (case z3 => k_is); (case z4 => k_is); (case z5 => k_is); (case z6 => k_is); (case z7 => k_is)
    (case z8 => k_is); (case z9 => k_is); (case z10 => k_is); (case z11 => k_is); (case z12 => k_is); (case z13 => k_is)
