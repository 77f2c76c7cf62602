import PyProof.Rows.All
import Wide.All
import OpenK.AllK
import Wide.FinOn
import HandS.ForMost
import HandS.Deep
import HandS.Nested
import HandS.TupAny
import HandS.Style
import HandS.GenList
import HandS.IsInst
import HandS.WideMore
import HandS.WideBits
import HandS.Conv
import HandS.Strs
import HandS.SetFor
import KE.SortKeyHeap
import HandS.SortKw
import HandS.Head0
import HandS.Head1
import HandS.Head2
import HandS.HeadEnd
import HandS.HeadHook1
import HandS.HeadHook2
import HandS.HeadWalk
import HandS.EndTab
import KE.KNestM
import PySem.Challenge.RW_notionary_k21_least_meeting
set_option Elab.async false
set_option linter.all false
set_option maxRecDepth 100000
set_option maxHeartbeats 1000001
/-! Pl: programs whose values are data; lists and dicts that a def owns. -/
namespace Pl
open PySem L2 LamX NdefX

abbrev D := PyData
/-- what an owned object holds -/
inductive OV where
  | lst (ds : List D)
  | dK (kvs : List (Key × D))
  | dT (kvs : List (List Key × D))
/-- what a name holds -/
inductive Sl where
  | no
  | val (d : D)
  | own (a : Addr) (u : OV)
/-- what an expression gives -/
inductive R where
  | val (d : D)
  | new (u : OV)
  | bor (i : Nat)

def dl (H : Hp) (A : List Addr) : Hp := fun a => if a ∈ A then none else H a
theorem dl_some {H : Hp} {A : List Addr} {a : Addr} {o : HO} (h : dl H A a = some o) : a ∉ A ∧ H a = some o := by
  unfold dl at h
  split at h
  · cases h
  · exact ⟨by assumption, h⟩
theorem dl_of {H : Hp} {A : List Addr} {a : Addr} {o : HO} (h : H a = some o) (n : a ∉ A) : dl H A a = some o := by
  unfold dl
  rw [if_neg n]
  exact h
def ow1 : Sl → List Addr
  | .own a _ => [a]
  | _ => []
def ow (δ : List Sl) (B : List (Addr × OV)) : List Addr := δ.flatMap ow1 ++ B.map (·.1)

/-- all that is read of data stays -/
def Rk (H H' : Hp) : Prop := ∀ a o, H a = some o → (∀ ps, o ≠ .tbl ps) → H' a = some o
theorem Rk.refl (H : Hp) : Rk H H := fun _ _ h _ => h
theorem Rk.trans {H H1 H2 : Hp} (a : Rk H H1) (b : Rk H1 H2) : Rk H H2 := fun c o h n => b c o (a c o h n) n
theorem Rk.rd {H H' : Hp} (e : Rk H H') {a : Addr} {u : HO} (hu : ∀ ps, u ≠ .tbl ps) (h : Rd H a u) : Rd H' a u := by
  rcases h with h | ⟨o, h⟩
  · exact .inl (e _ _ h hu)
  · exact .inr ⟨o, e _ _ h (fun _ z => by cases z)⟩
theorem Rk.sqL {K : PySem.W.Frag} {H H' : Hp} (e : Rk H H') {a : Addr} {xs : List V} (h : SqL K H a xs) : SqL K H' a xs := h.elim (fun h => .inl (e.rd (fun _ z => by cases z) h)) .inr
theorem Rk.sqT {K : PySem.W.Frag} {H H' : Hp} (e : Rk H H') {a : Addr} {xs : List V} (h : SqT K H a xs) : SqT K H' a xs := h.elim (fun h => .inl (e.rd (fun _ z => by cases z) h)) .inr
section
variable {K : PySem.W.Frag}
mutual
theorem dp_mono {H H' : Hp} (e : Rk H H') : ∀ (d : D) (v : V), Dp K H v d → Dp K H' v d
  | .none, _, h => by cases h; exact .non
  | .bool b, _, h => by cases h; exact .bl _
  | .int i, _, h => by cases h; exact .int _
  | .str x, _, h => by cases h; exact .str _
  | .list ds, _, h => by
    cases h with
    | lst hs ha => exact .lst (e.sqL hs) (da_mono e _ _ ha)
  | .tuple ds, _, h => by
    cases h with
    | tup hs ha => exact .tup (e.sqT hs) (da_mono e _ _ ha)
  | .dict _, _, h => by cases h
theorem da_mono {H H' : Hp} (e : Rk H H') : ∀ (ds : List D) (vs : List V), DpAll K H vs ds → DpAll K H' vs ds
  | [], _, h => by cases h; exact .nil
  | d :: ds, _, h => by
    cases h with
    | cons h1 h2 => exact .cons (dp_mono e _ _ h1) (da_mono e _ _ h2)
end
mutual
/-- no list within -/
def imm : D → Bool
  | .list _ => false
  | .tuple ds => immAll ds
  | .dict _ => false
  | _ => true
def immAll : List D → Bool
  | [] => true
  | d :: ds => imm d && immAll ds
end
/-- the tuples stay -/
def Tk (H H' : Hp) : Prop := ∀ a xs, Rd H a (.tup xs) → Rd H' a (.tup xs)
mutual
theorem dp_imm {H H' : Hp} (e : Tk H H') : ∀ (d : D) (v : V), Pl.imm d = true → Dp K H v d → Dp K H' v d
  | .none, _, _, h => by cases h; exact .non
  | .bool b, _, _, h => by cases h; exact .bl _
  | .int i, _, _, h => by cases h; exact .int _
  | .str x, _, _, h => by cases h; exact .str _
  | .list ds, _, hi, h => by simp [Pl.imm] at hi
  | .tuple ds, _, hi, h => by
    cases h with
    | tup hs ha => exact .tup (hs.elim (fun q => .inl (e _ _ q)) .inr) (da_imm e _ _ (by simpa [Pl.imm] using hi) ha)
  | .dict _, _, _, h => by cases h
theorem da_imm {H H' : Hp} (e : Tk H H') : ∀ (ds : List D) (vs : List V), immAll ds = true → DpAll K H vs ds → DpAll K H' vs ds
  | [], _, _, h => by cases h; exact .nil
  | d :: ds, _, hi, h => by
    cases h with
    | cons h1 h2 =>
      simp only [immAll, Bool.and_eq_true] at hi
      exact .cons (dp_imm e _ _ hi.1 h1) (da_imm e _ _ hi.2 h2)
end
theorem da_len {H : Hp} : ∀ {vs : List V} {ds : List D}, DpAll K H vs ds → vs.length = ds.length
  | _, _, .nil => rfl
  | _, _, .cons _ t => congrArg (· + 1) (da_len t)
theorem da_get {H : Hp} : ∀ {vs : List V} {ds : List D} {i : Nat} {d : D}, DpAll K H vs ds → ds[i]? = some d → ∃ v, vs[i]? = some v ∧ Dp K H v d
  | _, _, _, _, .nil, e => by simp at e
  | _, _, 0, _, .cons h _, e => by
    have e : _ = _ := Option.some.inj e
    exact ⟨_, rfl, e ▸ h⟩
  | _, _, i + 1, d, .cons _ t, e => da_get (i := i) t e
theorem da_get' {H : Hp} : ∀ {vs : List V} {ds : List D} {i : Nat} {v : V}, DpAll K H vs ds → vs[i]? = some v → ∃ d, ds[i]? = some d ∧ Dp K H v d
  | _, _, _, _, .nil, e => by simp at e
  | _, _, 0, _, .cons h _, e => by
    have e : _ = _ := Option.some.inj e
    exact ⟨_, rfl, e ▸ h⟩
  | _, _, i + 1, d, .cons _ t, e => da_get' (i := i) t e
theorem da_app {H : Hp} : ∀ {vs ws : List V} {ds es : List D}, DpAll K H vs ds → DpAll K H ws es → DpAll K H (vs ++ ws) (ds ++ es)
  | _, _, _, _, .nil, h => h
  | _, _, _, _, .cons a t, h => .cons a (da_app t h)
theorem da_one {H : Hp} {v : V} {d : D} (h : Dp K H v d) : DpAll K H [v] [d] := .cons h .nil
theorem da_rev {H : Hp} : ∀ {vs : List V} {ds : List D}, DpAll K H vs ds → DpAll K H vs.reverse ds.reverse
  | _, _, .nil => .nil
  | _, _, .cons a t => by
    rw [List.reverse_cons, List.reverse_cons]
    exact da_app (da_rev t) (da_one a)
theorem da_take {H : Hp} : ∀ {vs : List V} {ds : List D} (n : Nat), DpAll K H vs ds → DpAll K H (vs.take n) (ds.take n)
  | _, _, 0, _ => by simp only [List.take_zero]; exact .nil
  | _, _, _ + 1, .nil => by simp only [List.take_nil]; exact .nil
  | _, _, n + 1, .cons a t => by
    rw [List.take_succ_cons, List.take_succ_cons]
    exact .cons a (da_take n t)
theorem da_drop {H : Hp} : ∀ {vs : List V} {ds : List D} (n : Nat), DpAll K H vs ds → DpAll K H (vs.drop n) (ds.drop n)
  | _, _, 0, h => h
  | _, _, _ + 1, .nil => by simp only [List.drop_nil]; exact .nil
  | _, _, n + 1, .cons _ t => da_drop n t
theorem da_set {H : Hp} {v : V} {d : D} (h : Dp K H v d) : ∀ {vs : List V} {ds : List D} (i : Nat), DpAll K H vs ds → DpAll K H (vs.set i v) (ds.set i d)
  | _, _, _, .nil => .nil
  | _, _, 0, .cons _ t => .cons h t
  | _, _, i + 1, .cons a t => .cons a (da_set h i t)
theorem da_ins {H : Hp} {v : V} {d : D} (h : Dp K H v d) : ∀ {vs : List V} {ds : List D} (i : Nat), DpAll K H vs ds → DpAll K H (vs.take i ++ v :: vs.drop i) (ds.take i ++ d :: ds.drop i) := fun i a => da_app (da_take i a) (.cons h (da_drop i a))
theorem da_dropLast {H : Hp} {vs : List V} {ds : List D} (h : DpAll K H vs ds) : DpAll K H vs.dropLast ds.dropLast := by
  rw [List.dropLast_eq_take, List.dropLast_eq_take, da_len h]
  exact da_take _ h
end

/-- a dict's pairs -/
def KvAll (K : PySem.W.Frag) (H : Hp) {κ : Type} : List (κ × V) → List (κ × D) → Prop
  | [], [] => True
  | (k, v) :: r, (k', d) :: r' => k = k' ∧ Dp K H v d ∧ KvAll K H r r'
  | _, _ => False
theorem KvAll.mono {K : PySem.W.Frag} {H H' : Hp} (e : ∀ d v, Dp K H v d → Dp K H' v d) {κ : Type} : ∀ {a : List (κ × V)} {b : List (κ × D)}, KvAll K H a b → KvAll K H' a b
  | [], [], _ => trivial
  | (_, _) :: _, (_, _) :: _, ⟨h1, h2, h3⟩ => ⟨h1, e _ _ h2, KvAll.mono e h3⟩
  | [], _ :: _, h => h.elim
  | _ :: _, [], h => h.elim

/-- what stands at an owned address; L: the heap of its contents -/
def Holds (K : PySem.W.Frag) (L H : Hp) (a : Addr) : OV → Prop
  | .lst ds => ∃ xs, H a = some (.lst xs) ∧ DpAll K L xs ds
  | .dK kvs => ∃ xs, H a = some (.dK xs) ∧ KvAll K L xs kvs
  | .dT kvs => ∃ xs, H a = some (.dT xs) ∧ KvAll K L xs kvs
theorem Holds.mono {K : PySem.W.Frag} {L L' H H' : Hp} {a : Addr} {u : OV} (e : ∀ d v, Dp K L v d → Dp K L' v d) (ea : H' a = H a) (h : Holds K L H a u) : Holds K L' H' a u := by
  have all : ∀ {ds : List D} {vs : List V}, DpAll K L vs ds → DpAll K L' vs ds := by
    intro ds
    induction ds with
    | nil => intro vs h; cases h; exact .nil
    | cons d ds ih =>
      intro vs h
      cases h with
      | cons h1 h2 => exact .cons (e _ _ h1) (ih h2)
  cases u with
  | lst ds => obtain ⟨xs, h1, h2⟩ := h; exact ⟨xs, ea.trans h1, all h2⟩
  | dK ds => obtain ⟨xs, h1, h2⟩ := h; exact ⟨xs, ea.trans h1, h2.mono e⟩
  | dT ds => obtain ⟨xs, h1, h2⟩ := h; exact ⟨xs, ea.trans h1, h2.mono e⟩
theorem Holds.some {K : PySem.W.Frag} {L H : Hp} {a : Addr} {u : OV} (h : Holds K L H a u) : ∃ o, H a = some o ∧ (∀ ps, o ≠ .tbl ps) ∧ (∀ xs, o ≠ .tup xs) ∧ (∀ x y, o ≠ .frz x y) := by
  cases u with
  | lst ds => obtain ⟨xs, h1, h2⟩ := h; exact ⟨_, h1, (fun _ z => by cases z), (fun _ z => by cases z), (fun _ _ z => by cases z)⟩
  | dK ds => obtain ⟨xs, h1, h2⟩ := h; exact ⟨_, h1, (fun _ z => by cases z), (fun _ z => by cases z), (fun _ _ z => by cases z)⟩
  | dT ds => obtain ⟨xs, h1, h2⟩ := h; exact ⟨_, h1, (fun _ z => by cases z), (fun _ z => by cases z), (fun _ _ z => by cases z)⟩

/-- a slot -/
def SlOk (K : PySem.W.Frag) (A : List Addr) (H : Hp) (ov : Option (Option V)) : Sl → Prop
  | .no => True
  | .val d => ∃ v, ov = some (some v) ∧ Dp K (dl H A) v d
  | .own a u => ov = some (some (.ref a)) ∧ Holds K (dl H A) H a u

/-- the state: the slots σ hold δ; B: further owned objects -/
structure S (K : PySem.W.Frag) (T : List NTab) (B : List (Addr × OV)) (H : Hp) (σ : L2.St) (δ : List Sl) : Prop where
  len : σ.length = δ.length
  tab : TabsN T H
  ok : ∀ (i : Nat) (s : Sl), δ[i]? = some s → SlOk K (ow δ B) H σ[i]? s
  loose : ∀ p ∈ B, Holds K (dl H (ow δ B)) H p.1 p.2
  nd : (ow δ B).Nodup
/-- from a heap with owned A to one with owned A' -/
structure Go (A A' : List Addr) (H H' : Hp) : Prop where
  ext : ∀ a o, H a = some o → a ∉ A → (∀ ps, o ≠ .tbl ps) → H' a = some o
  dom : ∀ a, H' a = none → H a = none
  org : ∀ a ∈ A', a ∈ A ∨ H a = none
theorem Go.refl {A : List Addr} {H : Hp} : Go A A H H := ⟨fun _ _ h _ _ => h, fun _ h => h, fun _ h => .inl h⟩
theorem Go.trans {A A1 A2 : List Addr} {H H1 H2 : Hp} (a : Go A A1 H H1) (b : Go A1 A2 H1 H2) : Go A A2 H H2 where
  ext := fun c o h n t => b.ext c o (a.ext c o h n t) (fun m => (a.org c m).elim n fun z => by rw [h] at z; cases z) t
  dom := fun c h => a.dom c (b.dom c h)
  org := fun c m => (b.org c m).elim (a.org c) fun z => .inr (a.dom c z)
theorem Go.rk {A A' : List Addr} {H H' : Hp} (g : Go A A' H H') : Rk (dl H A) (dl H' A') := fun a o h t => by
  obtain ⟨n, e⟩ := dl_some h
  exact dl_of (g.ext a o e n t) fun m => (g.org a m).elim n fun z => by rw [e] at z; cases z
/-- fewer owned -/
theorem Go.less {A A1 A' : List Addr} {H H' : Hp} (g : Go A A' H H') (h : ∀ a ∈ A1, a ∈ A') : Go A A1 H H' := ⟨g.ext, g.dom, fun a m => g.org a (h a m)⟩
theorem Go.more {A A1 A' : List Addr} {H H' : Hp} (g : Go A A' H H') (h : ∀ a ∈ A, a ∈ A1) : Go A1 A' H H' := ⟨fun a o e n t => g.ext a o e (fun m => n (h a m)) t, g.dom, fun a m => (g.org a m).imp_left (h a)⟩

end Pl

set_option Elab.async false
set_option linter.all false
set_option maxRecDepth 100000
set_option maxHeartbeats 1000001
namespace Pl
open PySem L2 LamX NdefX

/-! ### owned addresses -/
theorem mem_ow {a : Addr} {δ : List Sl} {B : List (Addr × OV)} : a ∈ ow δ B ↔ (∃ (i : Nat) (u : OV), δ[i]? = some (.own a u)) ∨ ∃ u, (a, u) ∈ B := by
  unfold ow
  rw [List.mem_append, List.mem_flatMap, List.mem_map]
  constructor
  · rintro (⟨s, hs, ha⟩ | ⟨p, hp, rfl⟩)
    · cases s with
      | no => cases ha
      | val d => cases ha
      | own b u =>
        have e : a = b := by simpa [ow1] using ha
        subst e
        obtain ⟨i, hi⟩ := List.mem_iff_getElem?.mp hs
        exact .inl ⟨i, u, hi⟩
    · exact .inr ⟨p.2, hp⟩
  · rintro (⟨i, u, h⟩ | ⟨u, h⟩)
    · exact .inl ⟨_, List.mem_of_getElem? h, by simp [ow1]⟩
    · exact .inr ⟨_, h, rfl⟩
theorem ow_same {δ : List Sl} {i : Nat} {a : Addr} {u u' : OV} {B : List (Addr × OV)} (h : δ[i]? = some (.own a u)) : ow (δ.set i (.own a u')) B = ow δ B := by
  unfold ow
  congr 1
  induction δ generalizing i with
  | nil => simp at h
  | cons s r ih =>
    cases i with
    | zero =>
      have e : s = .own a u := Option.some.inj h
      subst e
      rfl
    | succ i =>
      rw [List.set_cons_succ, List.flatMap_cons, List.flatMap_cons, ih (by simpa using h)]
theorem ow_sub {δ : List Sl} {i : Nat} {s : Sl} {B : List (Addr × OV)} (hs : ow1 s = []) : (ow (δ.set i s) B).Sublist (ow δ B) := by
  unfold ow
  refine List.Sublist.append ?_ (List.Sublist.refl _)
  induction δ generalizing i with
  | nil => exact List.Sublist.refl _
  | cons t r ih =>
    cases i with
    | zero =>
      rw [List.set_cons_zero, List.flatMap_cons, List.flatMap_cons, hs]
      exact List.sublist_append_right _ _
    | succ i =>
      rw [List.set_cons_succ, List.flatMap_cons, List.flatMap_cons]
      exact (List.Sublist.refl _).append ih
theorem flat_own {δ : List Sl} {i : Nat} {p : Addr} {u : OV} (hi : i < δ.length) : ((δ.set i (.own p u)).flatMap ow1).Perm (p :: (δ.set i .no).flatMap ow1) := by
  induction δ generalizing i with
  | nil => exact absurd hi (Nat.not_lt_zero _)
  | cons t r ih =>
    cases i with
    | zero => exact List.Perm.refl _
    | succ i =>
      rw [List.set_cons_succ, List.set_cons_succ, List.flatMap_cons, List.flatMap_cons]
      exact ((ih (by simpa using hi)).append_left _).trans List.perm_middle
theorem ow_own {δ : List Sl} {i : Nat} {p : Addr} {u : OV} {B : List (Addr × OV)} (hi : i < δ.length) : (ow (δ.set i (.own p u)) B).Perm (p :: ow (δ.set i .no) B) := by
  unfold ow
  exact (flat_own hi).append_right _
theorem ow_loose {δ : List Sl} {p : Addr} {u : OV} {B : List (Addr × OV)} : (ow δ ((p, u) :: B)).Perm (p :: ow δ B) := by
  unfold ow
  exact List.perm_middle
theorem dl_less {H : Hp} {A A' : List Addr} (h : ∀ a ∈ A', a ∈ A) : Rk (dl H A) (dl H A') := fun a o e _ => by
  obtain ⟨n, e⟩ := dl_some e
  exact dl_of e fun m => n (h a m)
theorem dl_rk {H : Hp} {A : List Addr} : Rk (dl H A) H := fun a o e _ => (dl_some e).2

section
variable {K : PySem.W.Frag} {T : List NTab} {B : List (Addr × OV)} {H H' : Hp} {σ : L2.St} {δ : List Sl}

theorem dp_full {A : List Addr} {v : V} {d : D} (h : Dp K (dl H A) v d) : Dp K H v d := dp_mono dl_rk _ _ h
theorem S.at (s : S K T B H σ δ) {a : Addr} (m : a ∈ ow δ B) : ∃ u, Holds K (dl H (ow δ B)) H a u := by
  rcases mem_ow.mp m with ⟨i, u, h⟩ | ⟨u, h⟩
  · exact ⟨u, (s.ok i _ h).2⟩
  · exact ⟨u, s.loose _ h⟩
/-- frozen data stands against the owned: it has no list -/
theorem S.tk (s : S K T B H σ δ) : Tk H (dl H (ow δ B)) := fun a xs h => by
  rcases h with h | ⟨o, h⟩
  · refine .inl (dl_of h fun m => ?_)
    obtain ⟨u, hu⟩ := s.at m
    obtain ⟨o, e, _, n, _⟩ := hu.some
    rw [h] at e
    cases e
    exact n xs rfl
  · refine .inr ⟨o, dl_of h fun m => ?_⟩
    obtain ⟨u, hu⟩ := s.at m
    obtain ⟨o', e, _, _, n⟩ := hu.some
    rw [h] at e
    cases e
    exact n _ _ rfl
theorem S.imm (s : S K T B H σ δ) {v : V} {d : D} (hi : imm d = true) (h : Dp K H v d) : Dp K (dl H (ow δ B)) v d := dp_imm s.tk _ _ hi h

/-- fewer owned, the names elsewhere the same -/
theorem S.cut (s : S K T B H σ δ) {B' : List (Addr × OV)} {δ' : List Sl} {σ' : L2.St} (hsub : ∀ a ∈ ow δ' B', a ∈ ow δ B) (hlen : σ'.length = δ'.length) (nd : (ow δ' B').Nodup) (hB : ∀ p ∈ B', Holds K (dl H (ow δ' B')) H p.1 p.2)
    (hok : ∀ (i : Nat) (x : Sl), δ'[i]? = some x → (δ[i]? = some x ∧ σ'[i]? = σ[i]?) ∨ SlOk K (ow δ' B') H σ'[i]? x) : S K T B' H σ' δ' where
  len := hlen
  tab := s.tab
  nd := nd
  loose := hB
  ok := fun i x h => by
    have e := dl_less (H := H) hsub
    rcases hok i x h with ⟨h1, h2⟩ | q
    · have q := s.ok i x h1
      rw [h2]
      cases x with
      | no => trivial
      | val d => obtain ⟨v, q1, q2⟩ := q; exact ⟨v, q1, dp_mono e _ _ q2⟩
      | own a u => obtain ⟨q1, q2⟩ := q; exact ⟨q1, q2.mono (dp_mono e) rfl⟩
    · exact q
theorem ow_tail {p : Addr × OV} : ∀ a ∈ ow δ B, a ∈ ow δ (p :: B) := fun a m => (ow_loose (p := p.1) (u := p.2)).mem_iff.mpr (List.mem_cons_of_mem _ m)
theorem S.holds (s : S K T B H σ δ) {B' : List (Addr × OV)} {δ' : List Sl} (hsub : ∀ a ∈ ow δ' B', a ∈ ow δ B) {p : Addr × OV} (hp : p ∈ B) : Holds K (dl H (ow δ' B')) H p.1 p.2 := (s.loose p hp).mono (dp_mono (dl_less hsub)) rfl
theorem S.drop {p : Addr × OV} (s : S K T (p :: B) H σ δ) : S K T B H σ δ :=
  s.cut ow_tail s.len (((ow_loose (p := p.1) (u := p.2)).nodup_iff.mp s.nd).sublist (List.sublist_cons_self _ _)) (fun q hq => s.holds ow_tail (List.mem_cons_of_mem _ hq)) fun i x h => .inl ⟨h, rfl⟩
theorem S.cons_nd {p : Addr × OV} (s : S K T (p :: B) H σ δ) : p.1 ∉ ow δ B := (List.nodup_cons.mp ((ow_loose (p := p.1) (u := p.2)).nodup_iff.mp s.nd)).1
/-- the loose list as data -/
theorem S.frz {p : Addr} {ds : List D} (s : S K T ((p, .lst ds) :: B) H σ δ) : Dp K (dl H (ow δ B)) (.ref p) (.list ds) := by
  obtain ⟨xs, h1, h2⟩ := s.loose _ List.mem_cons_self
  exact .lst (.inl (.inl (dl_of h1 s.cons_nd))) (da_mono (dl_less ow_tail) _ _ h2)
theorem get_set {α : Type} {l : List α} {i j : Nat} {x y : α} (h : (l.set i x)[j]? = some y) : (i = j ∧ i < l.length ∧ y = x) ∨ (i ≠ j ∧ l[j]? = some y) := by
  by_cases e : i = j
  · subst e
    by_cases hl : i < l.length
    · rw [List.getElem?_set_self hl] at h
      exact .inl ⟨rfl, hl, (Option.some.inj h).symm⟩
    · rw [List.getElem?_eq_none_iff.mpr (by rw [List.length_set]; omega)] at h
      cases h
  · rw [List.getElem?_set_ne e] at h
    exact .inr ⟨e, h⟩
/-- a name gets data -/
theorem S.setv (s : S K T B H σ δ) {i : Nat} {v : V} {d : D} (hd : Dp K (dl H (ow δ B)) v d) : S K T B H (σ.set i (some v)) (δ.set i (.val d)) := by
  have hs : (ow (δ.set i (.val d)) B).Sublist (ow δ B) := ow_sub rfl
  refine s.cut (fun a m => hs.subset m) (by rw [List.length_set, List.length_set, s.len]) (s.nd.sublist hs) (fun p hp => s.holds (fun a m => hs.subset m) hp) fun j x h => ?_
  rcases get_set h with ⟨rfl, hl, rfl⟩ | ⟨hne, h⟩
  · refine .inr ⟨v, ?_, dp_mono (dl_less fun a m => hs.subset m) _ _ hd⟩
    rw [List.getElem?_set_self (by rw [s.len]; exact hl)]
  · exact .inl ⟨h, by rw [List.getElem?_set_ne hne]⟩
/-- a name gets what is loose -/
theorem S.setn {p : Addr} {u : OV} (s : S K T ((p, u) :: B) H σ δ) {i : Nat} (hi : i < δ.length) : S K T B H (σ.set i (some (.ref p))) (δ.set i (.own p u)) := by
  have hs : (ow (δ.set i .no) B).Sublist (ow δ B) := ow_sub rfl
  have hp := ow_own (p := p) (u := u) (B := B) hi
  have sub : ∀ a ∈ ow (δ.set i (.own p u)) B, a ∈ ow δ ((p, u) :: B) := fun a m => by
    refine ow_loose.mem_iff.mpr ?_
    rcases List.mem_cons.mp (hp.mem_iff.mp m) with z | z
    · rw [z]; exact List.mem_cons_self
    · exact List.mem_cons_of_mem _ (hs.subset z)
  refine s.cut sub (by rw [List.length_set, List.length_set, s.len]) ?_ (fun q hq => s.holds sub (List.mem_cons_of_mem _ hq)) fun j x h => ?_
  · exact hp.nodup_iff.mpr (((ow_loose (p := p) (u := u)).nodup_iff.mp s.nd).sublist (hs.cons₂ _))
  · rcases get_set h with ⟨rfl, hl, rfl⟩ | ⟨hne, h⟩
    · refine .inr ⟨?_, s.holds (p := (p, u)) sub List.mem_cons_self⟩
      rw [List.getElem?_set_self (by rw [s.len]; exact hl)]
    · exact .inl ⟨h, by rw [List.getElem?_set_ne hne]⟩
/-- a name's list becomes data -/
theorem S.frzAt (s : S K T B H σ δ) {i : Nat} {a : Addr} {ds : List D} (hi : δ[i]? = some (.own a (.lst ds))) : S K T B H σ (δ.set i (.val (.list ds))) := by
  have hs : (ow (δ.set i (.val (.list ds))) B).Sublist (ow δ B) := ow_sub rfl
  obtain ⟨h1, xs, h2, h3⟩ := s.ok i _ hi
  have hl : i < δ.length := (List.getElem?_eq_some_iff.mp hi).1
  have hn : a ∉ ow (δ.set i (.val (.list ds))) B := fun m => by
    have hp := ow_own (δ := δ) (p := a) (u := .lst ds) (B := B) hl
    rw [ow_same hi] at hp
    have e : ow (δ.set i (.val (.list ds))) B = ow (δ.set i .no) B := by
      unfold ow
      congr 1
      clear hs h1 h2 h3 m hp s
      induction δ generalizing i with
      | nil => rfl
      | cons t r ih =>
        cases i with
        | zero => rfl
        | succ i => rw [List.set_cons_succ, List.set_cons_succ, List.flatMap_cons, List.flatMap_cons, ih (by simpa using hi) (by simpa using hl)]
    rw [e] at m
    exact (List.nodup_cons.mp (hp.nodup_iff.mp s.nd)).1 m
  refine s.cut (fun a m => hs.subset m) (by rw [List.length_set, s.len]) (s.nd.sublist hs) (fun p hp => s.holds (fun a m => hs.subset m) hp) fun j x h => ?_
  rcases get_set h with ⟨rfl, hl, rfl⟩ | ⟨hne, h⟩
  · exact .inr ⟨_, h1, .lst (.inl (.inl (dl_of h2 hn))) (da_mono (dl_less fun a m => hs.subset m) _ _ h3)⟩
  · exact .inl ⟨h, rfl⟩
theorem S.no (s : S K T B H σ δ) {i : Nat} : S K T B H σ (δ.set i .no) := by
  have hs : (ow (δ.set i .no) B).Sublist (ow δ B) := ow_sub rfl
  refine s.cut (fun a m => hs.subset m) (by rw [List.length_set, s.len]) (s.nd.sublist hs) (fun p hp => s.holds (fun a m => hs.subset m) hp) fun j x h => ?_
  rcases get_set h with ⟨rfl, hl, rfl⟩ | ⟨hne, h⟩
  · exact .inr trivial
  · exact .inl ⟨h, rfl⟩

/-- the heap goes on, the owned as they stand -/
theorem S.on (s : S K T B H σ δ) (g : Go (ow δ B) (ow δ B) H H') (hT : TabsN T H') (ho : ∀ a ∈ ow δ B, H' a = H a) : S K T B H' σ δ where
  len := s.len
  tab := hT
  nd := s.nd
  loose := fun p hp => (s.loose p hp).mono (dp_mono g.rk) (ho _ (mem_ow.mpr (.inr ⟨p.2, hp⟩)))
  ok := fun i x h => by
    have q := s.ok i x h
    cases x with
    | no => trivial
    | val d => obtain ⟨v, q1, q2⟩ := q; exact ⟨v, q1, dp_mono g.rk _ _ q2⟩
    | own a u => obtain ⟨q1, q2⟩ := q; exact ⟨q1, q2.mono (dp_mono g.rk) (ho _ (mem_ow.mpr (.inl ⟨i, u, h⟩)))⟩
theorem go_upd {A : List Addr} {p : Addr} {o : HO} (hp : H p = none) : Go A A H (upd H p o) :=
  ⟨fun a o' h _ _ => by rw [upd_ne (ne_of_none h hp)]; exact h, fun a h => upd_none h, fun a m => .inl m⟩
theorem tab_new {p : Addr} {o : HO} (hp : H p = none) (t : TabsN T H) : TabsN T (upd H p o) := t.ext fun b u h => by rw [upd_ne (ne_of_none h hp)]; exact h
theorem S.free (s : S K T B H σ δ) {p : Addr} (hp : H p = none) : p ∉ ow δ B := fun m => by
  obtain ⟨u, hu⟩ := s.at m
  obtain ⟨o, e, _⟩ := hu.some
  rw [hp] at e
  cases e
/-- a new object, frozen -/
theorem S.laid (s : S K T B H σ δ) {p : Addr} {o : HO} (hp : H p = none) : S K T B (upd H p o) σ δ :=
  s.on (go_upd hp) (tab_new hp s.tab) fun a m => upd_ne fun e => s.free hp (e ▸ m)
/-- a new object, owned -/
theorem S.owned (s : S K T B H σ δ) {p : Addr} {o : HO} {u : OV} (hp : H p = none) (hh : Holds K (dl H (ow δ B)) (upd H p o) p u) : S K T ((p, u) :: B) (upd H p o) σ δ := by
  have s1 := s.laid (o := o) hp
  have np := s.free hp
  have e : ∀ d v, Dp K (dl H (ow δ B)) v d → Dp K (dl (upd H p o) (ow δ ((p, u) :: B))) v d := dp_mono fun a q h t => by
    obtain ⟨n, h⟩ := dl_some h
    refine dl_of (by rw [upd_ne (ne_of_none h hp)]; exact h) fun m => ?_
    rcases List.mem_cons.mp (ow_loose.mem_iff.mp m) with z | z
    · rw [z, hp] at h; cases h
    · exact n z
  refine ⟨s.len, s1.tab, fun i x h => ?_, fun q hq => ?_, ow_loose.nodup_iff.mpr (List.nodup_cons.mpr ⟨np, s.nd⟩)⟩
  · have q := s.ok i x h
    cases x with
    | no => trivial
    | val d => obtain ⟨v, q1, q2⟩ := q; exact ⟨v, q1, e _ _ q2⟩
    | own a w => obtain ⟨q1, q2⟩ := q; exact ⟨q1, q2.mono e (upd_ne fun z => np (z ▸ mem_ow.mpr (.inl ⟨i, w, h⟩)))⟩
  · rcases List.mem_cons.mp hq with z | z
    · rw [z]; exact hh.mono e rfl
    · exact (s.loose q z).mono e (upd_ne fun y => np (y ▸ mem_ow.mpr (.inr ⟨q.2, z⟩)))
theorem go_new {δ : List Sl} {B : List (Addr × OV)} {p : Addr} {o : HO} {u : OV} (hp : H p = none) : Go (ow δ B) (ow δ ((p, u) :: B)) H (upd H p o) :=
  ⟨(go_upd hp).ext, (go_upd (A := []) hp).dom, fun a m => (List.mem_cons.mp (ow_loose.mem_iff.mp m)).elim (fun z => .inr (z ▸ hp)) .inl⟩
theorem tab_upd {a : Addr} {o o' : HO} (ho : H a = some o) (h1 : ∀ ps, o ≠ .tbl ps) (h2 : ∀ φ, o ≠ .ext φ) (t : TabsN T H) : TabsN T (upd H a o') := fun p hp => by
  obtain ⟨ps, q1, q2, q3⟩ := t p hp
  refine ⟨ps, ?_, q2, fun pos cv hc => ?_⟩
  · rw [upd_ne fun e => by rw [e, ho] at q1; exact h1 _ (Option.some.inj q1)]
    exact q1
  · obtain ⟨c, e1, e2⟩ := q3 pos cv hc
    exact ⟨c, e1, by rw [upd_ne fun e => by rw [e, ho] at e2; exact h2 _ (Option.some.inj e2)]; exact e2⟩
theorem holds_obj {L : Hp} {a : Addr} {u : OV} (h : Holds K L H a u) : ∃ o, H a = some o ∧ (∀ ps, o ≠ .tbl ps) ∧ (∀ φ, o ≠ .ext φ) := by
  cases u with
  | lst ds => obtain ⟨xs, h1, h2⟩ := h; exact ⟨_, h1, (fun _ z => by cases z), (fun _ z => by cases z)⟩
  | dK ds => obtain ⟨xs, h1, h2⟩ := h; exact ⟨_, h1, (fun _ z => by cases z), (fun _ z => by cases z)⟩
  | dT ds => obtain ⟨xs, h1, h2⟩ := h; exact ⟨_, h1, (fun _ z => by cases z), (fun _ z => by cases z)⟩
theorem go_own {A : List Addr} {a : Addr} {o' : HO} (ha : a ∈ A) : Go A A H (upd H a o') :=
  ⟨fun b o h n _ => by rw [upd_ne fun e => n (by rw [e]; exact ha)]; exact h, fun b h => upd_none h, fun b m => .inl m⟩
/-- a name's object is changed -/
theorem S.write (s : S K T B H σ δ) {i : Nat} {a : Addr} {u u' : OV} {o' : HO} (hi : δ[i]? = some (.own a u)) (hh : Holds K (dl H (ow δ B)) (upd H a o') a u') : S K T B (upd H a o') σ (δ.set i (.own a u')) := by
  have ma : a ∈ ow δ B := mem_ow.mpr (.inl ⟨i, u, hi⟩)
  obtain ⟨o, q1, q2, q3⟩ := holds_obj (s.ok i _ hi).2
  have g : Go (ow δ B) (ow δ B) H (upd H a o') := go_own ma
  have hl : i < δ.length := (List.getElem?_eq_some_iff.mp hi).1
  have ndp : (a :: ow (δ.set i .no) B).Nodup := by
    have hp := ow_own (δ := δ) (p := a) (u := u) (B := B) hl
    rw [ow_same hi] at hp
    exact hp.nodup_iff.mp s.nd
  have apart : ∀ (j : Nat) (b : Addr) (w : OV), i ≠ j → δ[j]? = some (.own b w) → b ≠ a := fun j b w hne hj e => by
    refine (List.nodup_cons.mp ndp).1 (mem_ow.mpr (.inl ⟨j, w, ?_⟩))
    rw [List.getElem?_set_ne hne, hj, e]
  refine ⟨by rw [List.length_set]; exact s.len, tab_upd q1 q2 q3 s.tab, fun j x h => ?_, fun p hp => ?_, by rw [ow_same hi]; exact s.nd⟩
  · rw [ow_same hi]
    rcases get_set h with ⟨rfl, _, rfl⟩ | ⟨hne, h⟩
    · exact ⟨(s.ok i _ hi).1, hh.mono (dp_mono g.rk) rfl⟩
    · have q := s.ok j x h
      cases x with
      | no => trivial
      | val d => obtain ⟨v, q1, q2⟩ := q; exact ⟨v, q1, dp_mono g.rk _ _ q2⟩
      | own b w => obtain ⟨q1, q2⟩ := q; exact ⟨q1, q2.mono (dp_mono g.rk) (upd_ne (apart j b w hne h))⟩
  · rw [ow_same hi]
    refine (s.loose p hp).mono (dp_mono g.rk) (upd_ne fun e => ?_)
    refine (List.nodup_cons.mp ndp).1 (mem_ow.mpr (.inr ⟨p.2, ?_⟩))
    rw [← e]
    exact hp
end
end Pl

set_option Elab.async false
set_option linter.all false
set_option maxRecDepth 100000
set_option maxHeartbeats 1000001
namespace Pl
open PySem L2 LamX NdefX

abbrev N0 : Hp := fun _ => none
theorem rk_N0 {H : Hp} : Rk N0 H := fun _ _ h _ => nomatch h
abbrev Lo := List (Addr × OV)
section
variable (K : PySem.W.Frag) (T : List NTab)
/-- v is r -/
def Vr (B : Lo) (σ : L2.St) (δ : List Sl) (H : Hp) (v : V) : R → Prop
  | .val d => Dp K (dl H (ow δ B)) v d
  | .new u => ∃ p, v = .ref p ∧ (p, u) ∈ B
  | .bor i => σ[i]? = some (some v)
def Bx (B B' : Lo) (v : V) : R → Prop
  | .new u => ∃ p, v = .ref p ∧ B' = (p, u) :: B
  | _ => B' = B
structure RS (B B' : Lo) (A0 : List Addr) (H0 H' : Hp) (σ : L2.St) (δ' : List Sl) (v : V) (r : R) : Prop where
  s : S K T B' H' σ δ'
  go : Go A0 (ow δ' B') H0 H'
  vr : Vr K B' σ δ' H' v r
  bx : Bx B B' v r
def Vrs (B : Lo) (σ : L2.St) (δ : List Sl) (H : Hp) : List V → List R → Prop
  | [], [] => True
  | v :: vs, r :: rs => Vr K B σ δ H v r ∧ Vrs B σ δ H vs rs
  | _, _ => False
def Bxs (B B' : Lo) : List V → List R → Prop
  | v :: vs, r :: rs => ∃ B1, Bx B B1 v r ∧ Bxs B1 B' vs rs
  | _, _ => B' = B
structure RSs (B B' : Lo) (A0 : List Addr) (H0 H' : Hp) (σ : L2.St) (δ' : List Sl) (vs : List V) (rs : List R) : Prop where
  s : S K T B' H' σ δ'
  go : Go A0 (ow δ' B') H0 H'
  vr : Vrs K B' σ δ' H' vs rs
  bx : Bxs B B' vs rs
def Ex (te : TE) (δ : List Sl) (P : R → List Sl → Prop) : Prop := ∀ (B : Lo) (H : Hp) (σ : L2.St), S K T B H σ δ → ∀ Q : VK,
  (∀ v H' r δ' B', RS K T B B' (ow δ B) H H' σ δ' v r → P r δ' → Q v H') → te σ H Q
def ExA (ta : TA) (δ : List Sl) (P : List R → List Sl → Prop) : Prop := ∀ (B : Lo) (H : Hp) (σ : L2.St), S K T B H σ δ → ∀ Q : List V → Hp → Prop,
  (∀ vs H' rs δ' B', RSs K T B B' (ow δ B) H H' σ δ' vs rs → P rs δ' → Q vs H') → ta σ H Q
def ExT (tt : TT) (δ : List Sl) (P : Bool → List Sl → Prop) : Prop := ∀ (B : Lo) (H : Hp) (σ : L2.St), S K T B H σ δ → ∀ Q : Bool → Hp → Prop,
  (∀ b H' δ', S K T B H' σ δ' → Go (ow δ B) (ow δ' B) H H' → P b δ' → Q b H') → tt σ H Q
/-- read as data -/
def AsD (δ : List Sl) : R → D → Prop
  | .val d, x => x = d
  | .new (.lst ds), x => x = .list ds
  | .bor i, x => ∃ a ds, δ[i]? = some (.own a (.lst ds)) ∧ x = .list ds
  | _, _ => False
def AsDs (δ : List Sl) : List R → List D → Prop
  | [], [] => True
  | r :: rs, d :: ds => AsD δ r d ∧ AsDs δ rs ds
  | _, _ => False
/-- what an operation may give -/
structure Out (H : Hp) (P : R → Prop) (Q : VK) : Prop where
  val : ∀ u z, Dp K N0 u z → P (.val z) → Q u H
  old : ∀ u z, Dp K H u z → imm z = true → P (.val z) → Q u H
  lst : ∀ p xs es, H p = none → DpAll K H xs es → immAll es = true → P (.new (.lst es)) → Q (.ref p) (upd H p (.lst xs))
  tup : ∀ p xs es, H p = none → DpAll K H xs es → immAll es = true → P (.val (.tuple es)) → Q (.ref p) (upd H p (.tup xs))
  dK : ∀ p, H p = none → P (.new (.dK [])) → Q (.ref p) (upd H p (.dK []))
  dT : ∀ p, H p = none → P (.new (.dT [])) → Q (.ref p) (upd H p (.dT []))
def OpD (rr : R2) (x y : D) (P : R → Prop) : Prop := ∀ (H : Hp) (v w : V) (Q : VK), Dp K H v x → Dp K H w y → Out K H P Q → rr v w H Q
def UnD (rr : V → Hp → VK → Prop) (x : D) (P : R → Prop) : Prop := ∀ (H : Hp) (v : V) (Q : VK), Dp K H v x → Out K H P Q → rr v H Q
def CbD (rr : List V → Hp → VK → Prop) (ds : List D) (P : R → Prop) : Prop := ∀ (H : Hp) (vs : List V) (Q : VK), DpAll K H vs ds → Out K H P Q → rr vs H Q
end
section
variable {K : PySem.W.Frag} {T : List NTab} {B B' B1 : Lo} {A0 : List Addr} {H0 H H' : Hp} {σ : L2.St} {δ δ' : List Sl} {v : V} {r : R} {P : R → List Sl → Prop} {te ta tb : TE} {tt t1 t2 : TT}

theorem Bx.suf (h : Bx B B' v r) : ∃ C, B' = C ++ B := by
  cases r with
  | val d => exact ⟨[], h⟩
  | new u => obtain ⟨p, _, e⟩ := h; exact ⟨[(p, u)], e⟩
  | bor i => exact ⟨[], h⟩
theorem Bxs.suf : ∀ {vs : List V} {rs : List R} {B : Lo}, Bxs B B' vs rs → ∃ C, B' = C ++ B
  | [], _, _, h => ⟨[], h⟩
  | _ :: _, [], _, h => ⟨[], h⟩
  | v :: vs, r :: rs, B, ⟨B1, h1, h2⟩ => by
    obtain ⟨C, rfl⟩ := h1.suf
    obtain ⟨C', rfl⟩ := Bxs.suf h2
    exact ⟨C' ++ C, by rw [List.append_assoc]⟩
theorem S.dropAll : ∀ {C : Lo}, S K T (C ++ B) H σ δ → S K T B H σ δ
  | [], h => h
  | _ :: C, h => S.dropAll (C := C) h.drop
theorem ow_suf {C : Lo} : ∀ a ∈ ow δ B, a ∈ ow δ (C ++ B) := fun a m => by
  rcases mem_ow.mp m with h | ⟨u, h⟩
  · exact mem_ow.mpr (.inl h)
  · exact mem_ow.mpr (.inr ⟨u, List.mem_append_right _ h⟩)
theorem Vr.later {δ2 : List Sl} {H2 : Hp} {C : Lo} (h : Vr K B σ δ H v r) (g : Go (ow δ B) (ow δ2 (C ++ B)) H H2) : Vr K (C ++ B) σ δ2 H2 v r := by
  cases r with
  | val d => exact dp_mono g.rk _ _ h
  | new u => obtain ⟨p, e, m⟩ := h; exact ⟨p, e, List.mem_append_right _ m⟩
  | bor i => exact h
theorem Vr.dp (s : S K T B H σ δ) (h : Vr K B σ δ H v r) {x : D} (a : AsD δ r x) : Dp K H v x := by
  cases r with
  | val d => cases a; exact dp_full h
  | new u =>
    obtain ⟨p, rfl, m⟩ := h
    cases u with
    | lst ds =>
      cases a
      obtain ⟨xs, h1, h2⟩ := s.loose _ m
      exact .lst (.inl (.inl h1)) (da_mono dl_rk _ _ h2)
    | dK _ => exact a.elim
    | dT _ => exact a.elim
  | bor i =>
    obtain ⟨b, ds, h1, rfl⟩ := a
    obtain ⟨q1, xs, q2, q3⟩ := s.ok i _ h1
    have h : σ[i]? = some (some v) := h
    rw [h] at q1
    cases q1
    exact .lst (.inl (.inl q2)) (da_mono dl_rk _ _ q3)
theorem Vrs.dp (s : S K T B H σ δ) : ∀ {vs : List V} {rs : List R} {ds : List D}, Vrs K B σ δ H vs rs → AsDs δ rs ds → DpAll K H vs ds
  | [], [], [], _, _ => .nil
  | v :: vs, r :: rs, d :: ds, h, a => .cons (h.1.dp s a.1) (Vrs.dp s h.2 a.2)
  | [], _ :: _, _, h, _ => h.elim
  | _ :: _, [], _, h, _ => h.elim
  | [], [], _ :: _, _, a => a.elim
  | _ :: _, _ :: _, [], _, a => a.elim
/-- the ends of an operation at a state -/
theorem out_rs {Q : VK} (s : S K T B H σ δ) (g : Go A0 (ow δ B) H0 H) (k : ∀ v H' r δ' B', RS K T B B' A0 H0 H' σ δ' v r → P r δ' → Q v H') : Out K H (fun r => P r δ) Q where
  val := fun u z h p => k u H (.val z) δ B ⟨s, g, dp_mono rk_N0 _ _ h, rfl⟩ p
  old := fun u z h hi p => k u H (.val z) δ B ⟨s, g, s.imm hi h, rfl⟩ p
  lst := fun p xs es hp hx hi pr => k _ _ (.new (.lst es)) δ ((p, .lst es) :: B) ⟨s.owned hp ⟨xs, upd_same, da_imm s.tk _ _ hi hx⟩, g.trans (go_new hp), ⟨p, rfl, List.mem_cons_self⟩, ⟨p, rfl, rfl⟩⟩ pr
  tup := fun p xs es hp hx hi pr => k _ _ (.val (.tuple es)) δ B ⟨s.laid hp, g.trans (go_upd hp),
    .tup (.inl (.inl (dl_of upd_same (s.free hp)))) (da_mono (go_upd hp).rk _ _ (da_imm s.tk _ _ hi hx)), rfl⟩ pr
  dK := fun p hp pr => k _ _ (.new (.dK [])) δ ((p, .dK []) :: B) ⟨s.owned hp ⟨[], upd_same, trivial⟩, g.trans (go_new hp), ⟨p, rfl, List.mem_cons_self⟩, ⟨p, rfl, rfl⟩⟩ pr
  dT := fun p hp pr => k _ _ (.new (.dT [])) δ ((p, .dT []) :: B) ⟨s.owned hp ⟨[], upd_same, trivial⟩, g.trans (go_new hp), ⟨p, rfl, List.mem_cons_self⟩, ⟨p, rfl, rfl⟩⟩ pr
theorem out_suf {Q : VK} {C : Lo} (s : S K T (C ++ B) H σ δ) (g : Go A0 (ow δ (C ++ B)) H0 H) (k : ∀ v H' r δ' B', RS K T B B' A0 H0 H' σ δ' v r → P r δ' → Q v H') : Out K H (fun r => P r δ) Q :=
  out_rs s.dropAll (g.less ow_suf) k

/-! ### names, constants -/
theorem ex_var {i : Nat} {d : D} (h : δ[i]? = some (.val d)) (p : P (.val d) δ) : Ex K T (tVar i) δ P := fun B H σ s Q k => by
  obtain ⟨v, h1, h2⟩ := s.ok i _ h
  exact ⟨v, h1, k v H (.val d) δ B ⟨s, .refl, h2, rfl⟩ p⟩
theorem ex_bor {i : Nat} {a : Addr} {u : OV} (h : δ[i]? = some (.own a u)) (p : P (.bor i) δ) : Ex K T (tVar i) δ P := fun B H σ s Q k => by
  obtain ⟨h1, h2⟩ := s.ok i _ h
  exact ⟨.ref a, h1, k _ H (.bor i) δ B ⟨s, .refl, h1, rfl⟩ p⟩
theorem ex_c {c : V} {d : D} (h : Dp K N0 c d) (p : P (.val d) δ) : Ex K T (tC c) δ P := fun B H σ s Q k => k c H (.val d) δ B ⟨s, .refl, dp_mono rk_N0 _ _ h, rfl⟩ p
theorem ex_int {i : Int} (p : P (.val (.int i)) δ) : Ex K T (tC (.int i)) δ P := ex_c (.int _) p
theorem ex_bl {b : Bool} (p : P (.val (.bool b)) δ) : Ex K T (tC (.bl b)) δ P := ex_c (.bl _) p
theorem ex_str {x : Str} (p : P (.val (.str x)) δ) : Ex K T (tC (.str x)) δ P := ex_c (.str _) p
theorem ex_non (p : P (.val .none) δ) : Ex K T (tC .non) δ P := ex_c .non p
theorem Ex.imp {P' : R → List Sl → Prop} (h : Ex K T te δ P) (k : ∀ r δ', P r δ' → P' r δ') : Ex K T te δ P' := fun B H σ s Q q => h B H σ s Q fun v H' r δ' B' rs p => q v H' r δ' B' rs (k r δ' p)
theorem ExT.imp {P P' : Bool → List Sl → Prop} (h : ExT K T tt δ P) (k : ∀ r δ', P r δ' → P' r δ') : ExT K T tt δ P' := fun B H σ s Q q => h B H σ s Q fun v H' δ' rs g p => q v H' δ' rs g (k v δ' p)

/-! ### operators -/
theorem ex_op {rr : R2} (h : Ex K T ta δ fun r1 δ1 => Ex K T tb δ1 fun r2 δ2 => ∃ x y, AsD δ2 r1 x ∧ AsD δ2 r2 y ∧ OpD K rr x y fun z => P z δ2) : Ex K T (tOp rr ta tb) δ P := fun B H σ s Q k =>
  h B H σ s _ fun v H1 r1 δ1 B1 R1 h1 => h1 B1 H1 σ R1.s _ fun w H2 r2 δ2 B2 R2 ⟨x, y, a1, a2, o⟩ => by
    obtain ⟨C1, rfl⟩ := R1.bx.suf
    obtain ⟨C2, rfl⟩ := R2.bx.suf
    have s2 := R2.s
    have d1 := (R1.vr.later R2.go).dp s2 a1
    have d2 := R2.vr.dp s2 a2
    have g := R1.go.trans R2.go
    rw [← List.append_assoc] at s2 g
    exact o H2 v w Q d1 d2 (out_suf s2 g k)
theorem ex_un {rr : V → Hp → VK → Prop} (h : Ex K T ta δ fun r1 δ1 => ∃ x, AsD δ1 r1 x ∧ UnD K rr x fun z => P z δ1) : Ex K T (tUn rr ta) δ P := fun B H σ s Q k =>
  h B H σ s _ fun v H1 r1 δ1 B1 R1 ⟨x, a1, o⟩ => by
    obtain ⟨C1, rfl⟩ := R1.bx.suf
    exact o H1 v Q (R1.vr.dp R1.s a1) (out_suf R1.s R1.go k)
theorem opd_I0 {g : Int → Int → V} {i j : Int} {z : D} {P : R → Prop} (hz : Dp K N0 (g i j) z) (h : P (.val z)) : OpD K (rI0 g) (.int i) (.int j) P := fun H v w Q h1 h2 o => by
  cases h1
  cases h2
  exact ⟨i, j, rfl, rfl, o.val _ _ hz h⟩
theorem opd_I {C : Int → Int → Prop} {g : Int → Int → V} {i j : Int} {z : D} {P : R → Prop} (hc : C i j) (hz : Dp K N0 (g i j) z) (h : P (.val z)) : OpD K (rI C g) (.int i) (.int j) P := fun H v w Q h1 h2 o => by
  cases h1
  cases h2
  exact ⟨i, j, rfl, rfl, hc, o.val _ _ hz h⟩
theorem und_I {g : Int → V} {i : Int} {z : D} {P : R → Prop} (hz : Dp K N0 (g i) z) (h : P (.val z)) : UnD K (rU g) (.int i) P := fun H v Q h1 o => by
  cases h1
  exact ⟨i, rfl, o.val _ _ hz h⟩
theorem opd_eqD {x y : D} {P : R → Prop} (hx : SeqAt.shaped x = true) (hy : SeqAt.shaped y = true) (h : P (.val (.bool (PyData.eqv x y)))) : OpD K (rEqD K) x y P := fun H v w Q h1 h2 o => ⟨x, y, h1, h2, hx, hy, o.val _ _ (.bl _) h⟩
theorem opd_neD {x y : D} {P : R → Prop} (hx : SeqAt.shaped x = true) (hy : SeqAt.shaped y = true) (h : P (.val (.bool (!PyData.eqv x y)))) : OpD K (rNeD K) x y P := fun H v w Q h1 h2 o => ⟨x, y, h1, h2, hx, hy, o.val _ _ (.bl _) h⟩
theorem opd_inD {x : D} {ds : List D} {P : R → Prop} (hx : SeqAt.shaped x = true) (hy : SeqAt.shaped (.list ds) = true) (h : P (.val (.bool (ds.any fun z => PyData.eqv z x)))) : OpD K (rInD K) x (.list ds) P := fun H v w Q h1 h2 o => ⟨x, ds, h1, h2, hx, hy, o.val _ _ (.bl _) h⟩
theorem opd_notInD {x : D} {ds : List D} {P : R → Prop} (hx : SeqAt.shaped x = true) (hy : SeqAt.shaped (.list ds) = true) (h : P (.val (.bool (!ds.any fun z => PyData.eqv z x)))) : OpD K (rNotInD K) x (.list ds) P := fun H v w Q h1 h2 o => ⟨x, ds, h1, h2, hx, hy, o.val _ _ (.bl _) h⟩
/-- ints and bools compared -/
theorem opd_eqI {i j : Int} {P : R → Prop} (h : P (.val (.bool (decide (i = j))))) : OpD K rEq (.int i) (.int j) P := fun H v w Q h1 h2 o => by
  cases h1
  cases h2
  refine ⟨rfl, o.val _ _ (.bl _) ?_⟩
  have e : decide (V.int i = V.int j) = decide (i = j) := decide_eq_decide.mpr ⟨fun e => by cases e; rfl, fun e => by rw [e]⟩
  rw [e]
  exact h
theorem opd_neI {i j : Int} {P : R → Prop} (h : P (.val (.bool (!decide (i = j))))) : OpD K rNe (.int i) (.int j) P := fun H v w Q h1 h2 o => by
  cases h1
  cases h2
  refine ⟨rfl, o.val _ _ (.bl _) ?_⟩
  have e : decide (V.int i = V.int j) = decide (i = j) := decide_eq_decide.mpr ⟨fun e => by cases e; rfl, fun e => by rw [e]⟩
  rw [e]
  exact h

/-! ### argument lists, displays -/
theorem exa_nil {P : List R → List Sl → Prop} (p : P [] δ) : ExA K T tNil δ P := fun B H σ s Q k => k [] H [] δ B ⟨s, .refl, trivial, rfl⟩ p
theorem Vrs.later {δ2 : List Sl} {H2 : Hp} {C : Lo} (g : Go (ow δ B) (ow δ2 (C ++ B)) H H2) : ∀ {vs : List V} {rs : List R}, Vrs K B σ δ H vs rs → Vrs K (C ++ B) σ δ2 H2 vs rs
  | [], [], _ => trivial
  | _ :: _, _ :: _, h => ⟨h.1.later g, Vrs.later g h.2⟩
  | [], _ :: _, h => h.elim
  | _ :: _, [], h => h.elim
theorem exa_cons {P : List R → List Sl → Prop} {tr : TA} (h : Ex K T te δ fun r δ1 => ExA K T tr δ1 fun rs δ2 => P (r :: rs) δ2) : ExA K T (tCons te tr) δ P := fun B H σ s Q k =>
  h B H σ s _ fun v H1 r δ1 B1 R1 h1 => h1 B1 H1 σ R1.s _ fun vs H2 rs δ2 B2 R2 p => by
    obtain ⟨C2, e2⟩ := R2.bx.suf
    refine k (v :: vs) H2 (r :: rs) δ2 B2 ⟨R2.s, R1.go.trans R2.go, ⟨?_, R2.vr⟩, B1, R1.bx, R2.bx⟩ p
    have q := R2.go
    rw [e2] at q ⊢
    exact R1.vr.later q
/-- all are data -/
def Vals0 : List R → List D → Prop
  | [], [] => True
  | .val d :: rs, e :: ds => e = d ∧ Vals0 rs ds
  | _, _ => False
theorem vals0_bx : ∀ {vs : List V} {rs : List R} {ds : List D} {B : Lo}, Bxs B B' vs rs → Vals0 rs ds → B' = B
  | [], [], [], _, h, _ => h
  | _ :: _, .val d :: rs, e :: ds, B, ⟨B1, h1, h2⟩, a => by
    have e1 : B1 = B := h1
    rw [← e1]
    exact vals0_bx h2 a.2
  | [], .val d :: rs, e :: ds, _, h, _ => h
  | _ :: _, [], [], _, h, _ => h
  | _, .new _ :: _, _, _, _, a => by cases a
  | _, .bor _ :: _, _, _, _, a => by cases a
  | _, [], _ :: _, _, _, a => a.elim
  | _, .val _ :: _, [], _, _, a => by cases a
theorem vals0_dp : ∀ {vs : List V} {rs : List R} {ds : List D}, Vrs K B σ δ H vs rs → Vals0 rs ds → DpAll K (dl H (ow δ B)) vs ds
  | [], [], [], _, _ => .nil
  | _ :: _, .val d :: rs, e :: ds, h, a => by
    obtain ⟨a1, a2⟩ := a
    subst a1
    exact .cons h.1 (vals0_dp h.2 a2)
  | [], .val d :: rs, e :: ds, h, _ => h.elim
  | _ :: _, [], [], h, _ => h.elim
  | _, .new _ :: _, _, _, a => by cases a
  | _, .bor _ :: _, _, _, a => by cases a
  | _, [], _ :: _, _, a => a.elim
  | _, .val _ :: _, [], _, a => by cases a
theorem ex_tup {ta : TA} (h : ExA K T ta δ fun rs δ1 => ∃ ds, Vals0 rs ds ∧ ds.length ≤ 100000 ∧ P (.val (.tuple ds)) δ1) : Ex K T (tTup ta) δ P := fun B H σ s Q k =>
  h B H σ s _ fun vs H1 rs δ1 B1 R1 ⟨ds, a, hl, p⟩ => by
    obtain rfl := vals0_bx R1.bx a
    have hd := vals0_dp R1.vr a
    refine ⟨by rw [da_len hd]; exact Nat.le_trans hl (by decide), fun q hq => k _ _ (.val (.tuple ds)) δ1 _ ⟨R1.s.laid hq, R1.go.trans (go_upd hq), ?_, rfl⟩ p⟩
    exact .tup (.inl (.inl (dl_of upd_same (R1.s.free hq)))) (da_mono (go_upd hq).rk _ _ hd)
theorem ex_lst {ta : TA} (h : ExA K T ta δ fun rs δ1 => ∃ ds, Vals0 rs ds ∧ ds.length ≤ 100000 ∧ P (.new (.lst ds)) δ1) : Ex K T (tLst ta) δ P := fun B H σ s Q k =>
  h B H σ s _ fun vs H1 rs δ1 B1 R1 ⟨ds, a, hl, p⟩ => by
    obtain rfl := vals0_bx R1.bx a
    have hd := vals0_dp R1.vr a
    exact ⟨by rw [da_len hd]; exact Nat.le_trans hl (by decide), fun q hq => k _ _ (.new (.lst ds)) δ1 _ ⟨R1.s.owned (u := .lst ds) hq ⟨vs, upd_same, hd⟩, R1.go.trans (go_new hq), ⟨q, rfl, List.mem_cons_self⟩, ⟨q, rfl, rfl⟩⟩ p⟩

/-! ### items -/
theorem ixN_get {n : Nat} {i : Int} {j : Nat} (h : ixN n i = some j) : j < n := by
  unfold ixN at h
  split at h
  · split at h
    · cases h; omega
    · cases h
  · split at h
    · cases h; omega
    · cases h
theorem at_dp {xs : List V} {ds : List D} {i : Int} {d : D} (h : DpAll K H xs ds) (e : atI ds i = some d) : ∃ v, atI xs i = some v ∧ Dp K H v d := by
  unfold atI at e ⊢
  rw [da_len h]
  cases q : ixN ds.length i with
  | none => rw [q] at e; cases e
  | some j =>
    rw [q] at e
    exact da_get h e
/-- the list or tuple that r is, and where its items stand -/
def SeqD (δ : List Sl) (r : R) (ds : List D) : Prop := AsD δ r (.list ds)
theorem ex_ixL (h : Ex K T ta δ fun r1 δ1 => Ex K T tb δ1 fun r2 δ2 => ∃ ds i d, AsD δ2 r1 (.list ds) ∧ AsD δ2 r2 (.int i) ∧ atI ds i = some d ∧ (imm d = true ∨ ∃ e, r1 = .val e) ∧ P (.val d) δ2) : Ex K T (tOp (rIxL K) ta tb) δ P := fun B H σ s Q k =>
  h B H σ s _ fun v H1 r1 δ1 B1 R1 h1 => h1 B1 H1 σ R1.s _ fun w H2 r2 δ2 B2 R2 ⟨ds, i, d, a1, a2, e, hi, p⟩ => by
    obtain ⟨C1, rfl⟩ := R1.bx.suf
    obtain ⟨C2, rfl⟩ := R2.bx.suf
    have s2 := R2.s
    have v1 := R1.vr.later R2.go
    have d2 := R2.vr.dp s2 a2
    have g := R1.go.trans R2.go
    have s3 := s2
    have g3 := g
    rw [← List.append_assoc] at s3 g3
    have sB := s3.dropAll
    have gB := g3.less ow_suf
    cases d2
    rcases hi with hi | ⟨e1, rfl⟩
    · have d1 := v1.dp s2 a1
      cases d1 with
      | lst hs ha =>
        obtain ⟨u, e1, e2⟩ := at_dp ha e
        exact ⟨_, _, i, u, rfl, rfl, hs, e1, k u H2 (.val d) δ2 B ⟨sB, gB, sB.imm hi e2, rfl⟩ p⟩
    · cases a1
      have v1 : Dp K (dl H2 (ow δ2 (C2 ++ (C1 ++ B)))) v (.list ds) := v1
      cases v1 with
      | lst hs ha =>
        obtain ⟨u, e1, e2⟩ := at_dp ha e
        refine ⟨_, _, i, u, rfl, rfl, dl_rk.sqL hs, e1, k u H2 (.val d) δ2 B ⟨sB, gB, dp_mono (dl_less fun a m => ?_) _ _ e2, rfl⟩ p⟩
        rw [← List.append_assoc]
        exact ow_suf a m
theorem ex_ixT (h : Ex K T ta δ fun r1 δ1 => Ex K T tb δ1 fun r2 δ2 => ∃ ds i d, r1 = .val (.tuple ds) ∧ AsD δ2 r2 (.int i) ∧ atI ds i = some d ∧ P (.val d) δ2) : Ex K T (tOp (rIxT K) ta tb) δ P := fun B H σ s Q k =>
  h B H σ s _ fun v H1 r1 δ1 B1 R1 h1 => h1 B1 H1 σ R1.s _ fun w H2 r2 δ2 B2 R2 ⟨ds, i, d, a1, a2, e, p⟩ => by
    obtain ⟨C1, rfl⟩ := R1.bx.suf
    obtain ⟨C2, rfl⟩ := R2.bx.suf
    have s2 := R2.s
    have v1 := R1.vr.later R2.go
    have d2 := R2.vr.dp s2 a2
    have g := R1.go.trans R2.go
    have s3 := s2
    have g3 := g
    rw [← List.append_assoc] at s3 g3
    have sB := s3.dropAll
    have gB := g3.less ow_suf
    cases d2
    subst a1
    have v1 : Dp K (dl H2 (ow δ2 (C2 ++ (C1 ++ B)))) v (.tuple ds) := v1
    cases v1 with
    | tup hs ha =>
      obtain ⟨u, e1, e2⟩ := at_dp ha e
      refine ⟨_, _, i, u, rfl, rfl, dl_rk.sqT hs, e1, k u H2 (.val d) δ2 B ⟨sB, gB, dp_mono (dl_less fun a m => ?_) _ _ e2, rfl⟩ p⟩
      rw [← List.append_assoc]
      exact ow_suf a m

/-! ### tests -/
theorem et_B {P' : Bool → List Sl → Prop} (h : Ex K T te δ fun r δ' => ∃ b, r = .val (.bool b) ∧ P' b δ') : ExT K T (tB te) δ P' := fun B H σ s Q k =>
  h B H σ s _ fun v H1 r δ1 B1 R1 ⟨b, e, p⟩ => by
    subst e
    have hb : B1 = B := R1.bx
    subst hb
    have v1 : Dp K _ v (.bool b) := R1.vr
    cases v1
    exact ⟨b, rfl, k b H1 δ1 R1.s R1.go p⟩
theorem et_test {P' : Bool → List Sl → Prop} (h : Ex K T te δ fun r δ' => ∃ b, r = .val (.bool b) ∧ P' b δ') : ExT K T (tTest te) δ P' := fun B H σ s Q k =>
  h B H σ s _ fun v H1 r δ1 B1 R1 ⟨b, e, p⟩ => by
    subst e
    have hb : B1 = B := R1.bx
    subst hb
    have v1 : Dp K _ v (.bool b) := R1.vr
    cases v1
    exact ⟨b, rfl, k b H1 δ1 R1.s R1.go p⟩
theorem et_and {P' : Bool → List Sl → Prop} (h : ExT K T t1 δ fun b δ1 => if b = true then ExT K T t2 δ1 P' else P' false δ1) : ExT K T (tAnd t1 t2) δ P' := fun B H σ s Q k =>
  h B H σ s _ fun b H1 δ1 s1 g1 p => by
    cases b with
    | true =>
      show t2 σ H1 Q
      rw [if_pos rfl] at p
      exact p B H1 σ s1 Q fun b H2 δ2 s2 g2 p2 => k b H2 δ2 s2 (g1.trans g2) p2
    | false =>
      show Q false H1
      rw [if_neg Bool.false_ne_true] at p
      exact k false H1 δ1 s1 g1 p
theorem et_or {P' : Bool → List Sl → Prop} (h : ExT K T t1 δ fun b δ1 => if b = true then P' true δ1 else ExT K T t2 δ1 P') : ExT K T (tOr t1 t2) δ P' := fun B H σ s Q k =>
  h B H σ s _ fun b H1 δ1 s1 g1 p => by
    cases b with
    | true =>
      show Q true H1
      rw [if_pos rfl] at p
      exact k true H1 δ1 s1 g1 p
    | false =>
      show t2 σ H1 Q
      rw [if_neg Bool.false_ne_true] at p
      exact p B H1 σ s1 Q fun b H2 δ2 s2 g2 p2 => k b H2 δ2 s2 (g1.trans g2) p2
theorem et_not {P' : Bool → List Sl → Prop} (h : ExT K T t1 δ fun b δ1 => P' (!b) δ1) : ExT K T (tNot t1) δ P' := fun B H σ s Q k =>
  h B H σ s _ fun b H1 δ1 s1 g1 p => k (!b) H1 δ1 s1 g1 p
theorem ex_andV (h : Ex K T ta δ fun r δ1 => ∃ b, r = .val (.bool b) ∧ if b = true then Ex K T tb δ1 P else P (.val (.bool false)) δ1) : Ex K T (tAndV ta tb) δ P := fun B H σ s Q k =>
  h B H σ s _ fun v H1 r δ1 B1 R1 ⟨b, e, p⟩ => by
    subst e
    have hb : B1 = B := R1.bx
    subst hb
    have v1 : Dp K _ v (.bool b) := R1.vr
    cases v1
    refine ⟨b, rfl, ?_⟩
    cases b with
    | true =>
      rw [if_pos rfl] at p ⊢
      exact p B1 H1 σ R1.s Q fun v H2 r δ2 B2 R2 p2 => k v H2 r δ2 B2 ⟨R2.s, R1.go.trans R2.go, R2.vr, R2.bx⟩ p2
    | false =>
      rw [if_neg Bool.false_ne_true] at p ⊢
      exact k _ H1 (.val (.bool _)) δ1 B1 ⟨R1.s, R1.go, Dp.bl _, rfl⟩ p
theorem ex_orV (h : Ex K T ta δ fun r δ1 => ∃ b, r = .val (.bool b) ∧ if b = true then P (.val (.bool true)) δ1 else Ex K T tb δ1 P) : Ex K T (tOrV ta tb) δ P := fun B H σ s Q k =>
  h B H σ s _ fun v H1 r δ1 B1 R1 ⟨b, e, p⟩ => by
    subst e
    have hb : B1 = B := R1.bx
    subst hb
    have v1 : Dp K _ v (.bool b) := R1.vr
    cases v1
    refine ⟨b, rfl, ?_⟩
    cases b with
    | true =>
      rw [if_pos rfl] at p ⊢
      exact k _ H1 (.val (.bool _)) δ1 B1 ⟨R1.s, R1.go, Dp.bl _, rfl⟩ p
    | false =>
      rw [if_neg Bool.false_ne_true] at p ⊢
      exact p B1 H1 σ R1.s Q fun v H2 r δ2 B2 R2 p2 => k v H2 r δ2 B2 ⟨R2.s, R1.go.trans R2.go, R2.vr, R2.bx⟩ p2
theorem ex_notV (h : Ex K T ta δ fun r δ1 => ∃ b, r = .val (.bool b) ∧ P (.val (.bool (!b))) δ1) : Ex K T (tNotV ta) δ P := fun B H σ s Q k =>
  h B H σ s _ fun v H1 r δ1 B1 R1 ⟨b, e, p⟩ => by
    subst e
    have hb : B1 = B := R1.bx
    subst hb
    have v1 : Dp K _ v (.bool b) := R1.vr
    cases v1
    exact ⟨b, rfl, k _ H1 (.val (.bool _)) δ1 B1 ⟨R1.s, R1.go, Dp.bl _, rfl⟩ p⟩
theorem ex_if (h : ExT K T tt δ fun b δ1 => if b = true then Ex K T ta δ1 P else Ex K T tb δ1 P) : Ex K T (tIf tt ta tb) δ P := fun B H σ s Q k =>
  h B H σ s _ fun b H1 δ1 s1 g1 p => by
    cases b with
    | true =>
      rw [if_pos rfl] at p ⊢
      exact p B H1 σ s1 Q fun v H2 r δ2 B2 R2 p2 => k v H2 r δ2 B2 ⟨R2.s, g1.trans R2.go, R2.vr, R2.bx⟩ p2
    | false =>
      rw [if_neg Bool.false_ne_true] at p ⊢
      exact p B H1 σ s1 Q fun v H2 r δ2 B2 R2 p2 => k v H2 r δ2 B2 ⟨R2.s, g1.trans R2.go, R2.vr, R2.bx⟩ p2
end
end Pl

set_option Elab.async false
set_option linter.all false
set_option maxRecDepth 100000
set_option maxHeartbeats 1000001
namespace Pl
open PySem L2 LamX NdefX

structure Es where
  nx : List Sl → Prop
  rt : R → List Sl → Prop
  bk : List Sl → Prop := fun _ => False
  ct : List Sl → Prop := fun _ => False
section
variable (K : PySem.W.Frag) (T : List NTab)
def Ss (ts : TS) (δ : List Sl) (E : Es) : Prop := ∀ (B : Lo) (H : Hp) (σ : L2.St), S K T B H σ δ → ∀ D : Ends,
  (∀ σ' H' δ', S K T B H' σ' δ' → Go (ow δ B) (ow δ' B) H H' → E.nx δ' → D.nx σ' H') →
  (∀ v σ' H' r δ' B', RS K T B B' (ow δ B) H H' σ' δ' v r → E.rt r δ' → D.rt v H') →
  (∀ σ' H' δ', S K T B H' σ' δ' → Go (ow δ B) (ow δ' B) H H' → E.bk δ' → D.bk σ' H') →
  (∀ σ' H' δ', S K T B H' σ' δ' → Go (ow δ B) (ow δ' B) H H' → E.ct δ' → D.ct σ' H') → ts D σ H
/-- a target gets data -/
def Gt (g : TG) (d : D) (δ : List Sl) (N : List Sl → Prop) : Prop := ∀ (B : Lo) (H : Hp) (σ : L2.St) (v : V), S K T B H σ δ → Dp K (dl H (ow δ B)) v d → ∀ Q : L2.St → Hp → Prop,
  (∀ σ' δ', S K T B H σ' δ' → Go (ow δ B) (ow δ' B) H H → N δ' → Q σ' H) → g v σ H Q
def Gts (g : TGs) (ds : List D) (δ : List Sl) (N : List Sl → Prop) : Prop := ∀ (B : Lo) (H : Hp) (σ : L2.St) (vs : List V), S K T B H σ δ → DpAll K (dl H (ow δ B)) vs ds → ∀ Q : L2.St → Hp → Prop,
  (∀ σ' δ', S K T B H σ' δ' → Go (ow δ B) (ow δ' B) H H → N δ' → Q σ' H) → g vs σ H Q
def StoreR (i : Nat) (δ : List Sl) (N : List Sl → Prop) : R → Prop
  | .val d => N (δ.set i (.val d))
  | .new u => i < δ.length ∧ ∀ p, N (δ.set i (.own p u))
  | .bor _ => False
/-- frozen -/
def Fz : R → D → Prop
  | .val d, x => x = d
  | .new (.lst ds), x => x = .list ds
  | _, _ => False
end
section
variable {K : PySem.W.Frag} {T : List NTab} {B B' B1 : Lo} {A0 : List Addr} {H0 H H' : Hp} {σ : L2.St} {δ δ' : List Sl} {v : V} {r : R} {E : Es} {te ta tb : TE} {tt t1 t2 : TT} {ts t u : TS} {g : TG}

theorem Go.set {x : Sl} {i : Nat} (h : ow1 x = []) : Go (ow δ B) (ow (δ.set i x) B) H H := (Go.refl (A := ow δ B)).less fun a m => (ow_sub h).subset m
theorem rs_fz {d : D} (h : RS K T B B' A0 H0 H σ δ v r) (f : Fz r d) : S K T B H σ δ ∧ Go A0 (ow δ B) H0 H ∧ Dp K (dl H (ow δ B)) v d := by
  cases r with
  | val e =>
    cases f
    have e1 : B' = B := h.bx
    subst e1
    exact ⟨h.s, h.go, h.vr⟩
  | new u =>
    cases u with
    | lst ds =>
      cases f
      obtain ⟨p, rfl, e1⟩ := h.bx
      subst e1
      exact ⟨h.s.drop, h.go.less ow_tail, h.s.frz⟩
    | dK _ => exact f.elim
    | dT _ => exact f.elim
  | bor i => exact f.elim
theorem gt_name {i : Nat} {d : D} {N : List Sl → Prop} (h : N (δ.set i (.val d))) : Gt K T (gName i) d δ N := fun B H σ v s hd Q k => k _ _ (s.setv hd) (Go.set rfl) h
theorem gts_nil {N : List Sl → Prop} (h : N δ) : Gts K T gNil [] δ N := fun B H σ vs s hd Q k => by
  cases hd
  exact ⟨rfl, k σ δ s .refl h⟩
theorem gts_cons {tg : TG} {ug : TGs} {d : D} {ds : List D} {N : List Sl → Prop} (h : Gt K T tg d δ fun δ1 => Gts K T ug ds δ1 N) : Gts K T (gCons tg ug) (d :: ds) δ N := fun B H σ vs s hd Q k => by
  cases hd with
  | cons h1 h2 => exact ⟨_, _, rfl, h B H σ _ s h1 _ fun σ1 δ1 s1 g1 q => q B H σ1 _ s1 (da_mono g1.rk _ _ h2) Q fun σ2 δ2 s2 g2 n => k σ2 δ2 s2 (g1.trans g2) n⟩
theorem gt_tup {n : Nat} {ug : TGs} {ds : List D} {N : List Sl → Prop} (hn : ds.length = n) (h : Gts K T ug ds δ N) : Gt K T (gTup K n ug) (.tuple ds) δ N := fun B H σ v s hd Q k => by
  cases hd with
  | tup hs ha => exact ⟨_, _, rfl, dl_rk.sqT hs, (da_len ha).trans hn, h B H σ _ s ha Q k⟩

/-! ### statements -/
theorem ss_next (h : E.nx δ) : Ss K T tNext δ E := fun B H σ s D kn _ _ _ => kn σ H δ s .refl h
theorem ss_break (h : E.bk δ) : Ss K T tBreak δ E := fun B H σ s D _ _ kb _ => kb σ H δ s .refl h
theorem ss_cont (h : E.ct δ) : Ss K T tCont δ E := fun B H σ s D _ _ _ kc => kc σ H δ s .refl h
theorem RS.pre {A1 : List Addr} {H1 : Hp} (g : Go A0 A1 H0 H1) (h : RS K T B B' A1 H1 H σ δ v r) : RS K T B B' A0 H0 H σ δ v r := ⟨h.s, g.trans h.go, h.vr, h.bx⟩
theorem ss_seq (h : Ss K T t δ { E with nx := fun δ1 => Ss K T u δ1 E }) : Ss K T (tSeq t u) δ E := fun B H σ s D kn kr kb kc =>
  h B H σ s { D with nx := u D } (fun σ1 H1 δ1 s1 g1 q => q B H1 σ1 s1 D (fun σ2 H2 δ2 s2 g2 n => kn σ2 H2 δ2 s2 (g1.trans g2) n) (fun v σ2 H2 r δ2 B2 R2 n => kr v σ2 H2 r δ2 B2 (R2.pre g1) n)
    (fun σ2 H2 δ2 s2 g2 n => kb σ2 H2 δ2 s2 (g1.trans g2) n) (fun σ2 H2 δ2 s2 g2 n => kc σ2 H2 δ2 s2 (g1.trans g2) n)) kr kb kc
/-- from a state on, behind a step -/
theorem Ss.after {H1 : Hp} {σ1 : L2.St} {δ1 : List Sl} (q : Ss K T t δ1 E) (s1 : S K T B H1 σ1 δ1) (g1 : Go (ow δ B) (ow δ1 B) H H1) {D : Ends}
    (kn : ∀ σ' H' δ', S K T B H' σ' δ' → Go (ow δ B) (ow δ' B) H H' → E.nx δ' → D.nx σ' H')
    (kr : ∀ v σ' H' r δ' B', RS K T B B' (ow δ B) H H' σ' δ' v r → E.rt r δ' → D.rt v H')
    (kb : ∀ σ' H' δ', S K T B H' σ' δ' → Go (ow δ B) (ow δ' B) H H' → E.bk δ' → D.bk σ' H')
    (kc : ∀ σ' H' δ', S K T B H' σ' δ' → Go (ow δ B) (ow δ' B) H H' → E.ct δ' → D.ct σ' H') : t D σ1 H1 :=
  q B H1 σ1 s1 D (fun σ2 H2 δ2 s2 g2 n => kn σ2 H2 δ2 s2 (g1.trans g2) n) (fun v σ2 H2 r δ2 B2 R2 n => kr v σ2 H2 r δ2 B2 (R2.pre g1) n)
    (fun σ2 H2 δ2 s2 g2 n => kb σ2 H2 δ2 s2 (g1.trans g2) n) (fun σ2 H2 δ2 s2 g2 n => kc σ2 H2 δ2 s2 (g1.trans g2) n)
theorem Ss.imp {E' : Es} (h : Ss K T t δ E) (h1 : ∀ δ', E.nx δ' → E'.nx δ') (h2 : ∀ r δ', E.rt r δ' → E'.rt r δ') (h3 : ∀ δ', E.bk δ' → E'.bk δ') (h4 : ∀ δ', E.ct δ' → E'.ct δ') : Ss K T t δ E' := fun B H σ s D kn kr kb kc =>
  h B H σ s D (fun σ' H' δ' s' g' n => kn σ' H' δ' s' g' (h1 _ n)) (fun v σ' H' r δ' B' R n => kr v σ' H' r δ' B' R (h2 _ _ n)) (fun σ' H' δ' s' g' n => kb σ' H' δ' s' g' (h3 _ n)) (fun σ' H' δ' s' g' n => kc σ' H' δ' s' g' (h4 _ n))
theorem ow_setn {p : Addr} {u : OV} {i : Nat} : ∀ a ∈ ow (δ.set i (.own p u)) B, a ∈ ow δ ((p, u) :: B) := fun a m => by
  rcases mem_ow.mp m with ⟨j, w, h⟩ | ⟨w, h⟩
  · rcases get_set h with ⟨rfl, _, e⟩ | ⟨_, h⟩
    · cases e
      exact mem_ow.mpr (.inr ⟨u, List.mem_cons_self⟩)
    · exact mem_ow.mpr (.inl ⟨j, w, h⟩)
  · exact mem_ow.mpr (.inr ⟨w, List.mem_cons_of_mem _ h⟩)
theorem ss_set {i : Nat} (h : Ex K T te δ fun r δ1 => StoreR i δ1 E.nx r) : Ss K T (tAsg te (gName i)) δ E := fun B H σ s D kn _ _ _ =>
  h B H σ s _ fun v H1 r δ1 B1 R1 q => by
    show D.nx (σ.set i (some v)) H1
    cases r with
    | val d =>
      have e : B1 = B := R1.bx
      subst e
      exact kn _ H1 _ (R1.s.setv R1.vr) (R1.go.trans (Go.set rfl)) q
    | new u =>
      obtain ⟨p, rfl, e⟩ := R1.bx
      subst e
      exact kn _ H1 _ (R1.s.setn q.1) (R1.go.less ow_setn) (q.2 p)
    | bor j => exact q.elim
/-- any target, the value frozen -/
theorem ss_asg (h : Ex K T te δ fun r δ1 => ∃ d, Fz r d ∧ Gt K T g d δ1 E.nx) : Ss K T (tAsg te g) δ E := fun B H σ s D kn _ _ _ =>
  h B H σ s _ fun v H1 r δ1 B1 R1 ⟨d, f, q⟩ => by
    obtain ⟨s1, g1, hd⟩ := rs_fz R1 f
    exact q B H1 σ v s1 hd D.nx fun σ2 δ2 s2 g2 n => kn σ2 H1 δ2 s2 (g1.trans g2) n
theorem ss_ret (h : Ex K T te δ E.rt) : Ss K T (tRet te) δ E := fun B H σ s D _ kr _ _ => h B H σ s _ fun v H1 r δ1 B1 R1 q => kr v σ H1 r δ1 B1 R1 q
theorem ss_retN (h : E.rt (.val .none) δ) : Ss K T tRetN δ E := fun B H σ s D _ kr _ _ => kr .non σ H (.val .none) δ B ⟨s, .refl, Dp.non, rfl⟩ h
theorem ss_drop (h : Ex K T te δ fun _ δ1 => E.nx δ1) : Ss K T (tDrop te) δ E := fun B H σ s D kn _ _ _ => h B H σ s _ fun v H1 r δ1 B1 R1 q => by
  obtain ⟨C, rfl⟩ := R1.bx.suf
  exact kn σ H1 δ1 R1.s.dropAll (R1.go.less ow_suf) q
theorem ss_if (h : ExT K T tt δ fun b δ1 => if b = true then Ss K T t δ1 E else Ss K T u δ1 E) : Ss K T (tIfS tt t u) δ E := fun B H σ s D kn kr kb kc =>
  h B H σ s _ fun b H1 δ1 s1 g1 q => by
    cases b with
    | true =>
      rw [if_pos rfl] at q ⊢
      exact q.after s1 g1 kn kr kb kc
    | false =>
      rw [if_neg Bool.false_ne_true] at q ⊢
      exact q.after s1 g1 kn kr kb kc
/-- a name's list is data from now on -/
theorem ss_frz {i : Nat} {a : Addr} {ds : List D} (hi : δ[i]? = some (.own a (.lst ds))) (h : Ss K T ts (δ.set i (.val (.list ds))) E) : Ss K T ts δ E := fun B H σ s D kn kr kb kc =>
  h.after (s.frzAt hi) (Go.set rfl) kn kr kb kc
theorem ss_no {i : Nat} (h : Ss K T ts (δ.set i .no) E) : Ss K T ts δ E := fun B H σ s D kn kr kb kc => h.after s.no (Go.set rfl) kn kr kb kc
theorem ss_while {W : Nat → List Sl → Prop} (h0 : ∃ m, W m δ) (h : ∀ m δ, W m δ → ExT K T tt δ fun b δ1 => if b = true then Ss K T t δ1 ⟨fun δ' => ∃ m', m' < m ∧ W m' δ', E.rt, E.nx, fun δ' => ∃ m', m' < m ∧ W m' δ'⟩ else E.nx δ1) :
    Ss K T (tWhile tt t) δ E := fun B H σ s D kn kr kb kc => by
  obtain ⟨m0, w0⟩ := h0
  refine ⟨fun m σ1 H1 => ∃ δ1, S K T B H1 σ1 δ1 ∧ Go (ow δ B) (ow δ1 B) H H1 ∧ W m δ1, ⟨m0, δ, s, .refl, w0⟩, ?_⟩
  rintro m σ1 H1 ⟨δ1, s1, g1, w1⟩
  refine h m δ1 w1 B H1 σ1 s1 _ fun b H2 δ2 s2 g2 q => ?_
  cases b with
  | true =>
    rw [if_pos rfl] at q ⊢
    refine ⟨fun σ3 H3 => ∃ δ3, S K T B H3 σ3 δ3 ∧ Go (ow δ B) (ow δ3 B) H H3 ∧ ∃ m', m' < m ∧ W m' δ3, fun σ3 H3 ⟨δ3, s3, g3, m', hm, w3⟩ => ⟨m', hm, δ3, s3, g3, w3⟩, ?_⟩
    exact q.after (δ := δ) (H := H) s2 (g1.trans g2) (fun σ3 H3 δ3 s3 g3 n => ⟨δ3, s3, g3, n⟩) kr kn (fun σ3 H3 δ3 s3 g3 n => ⟨δ3, s3, g3, n⟩)
  | false =>
    rw [if_neg Bool.false_ne_true] at q ⊢
    exact kn σ1 H2 δ2 s2 (g1.trans g2) q
/-- over a list -/
theorem ss_forL (h : Ex K T te δ fun r δ1 => ∃ ds, Fz r (.list ds) ∧ ∃ W : Nat → List Sl → Prop, W 0 δ1 ∧
      (∀ i d δ2, ds[i]? = some d → W i δ2 → Gt K T g d δ2 fun δ3 => Ss K T t δ3 ⟨W (i + 1), E.rt, E.nx, W (i + 1)⟩) ∧ ∀ δ2, W ds.length δ2 → E.nx δ2) : Ss K T (tFor (iList K te) g t) δ E := fun B H σ s D kn kr kb kc =>
  h B H σ s _ fun v H1 r δ1 B1 R1 ⟨ds, f, W, w0, hs, hd⟩ => by
    obtain ⟨s1, g1, hv⟩ := rs_fz R1 f
    cases hv with
    | lst hq ha =>
      refine ⟨_, rfl, ⟨_, dl_rk.sqL hq⟩, for_list (fun i σ2 H2 => ∃ δ2, S K T B H2 σ2 δ2 ∧ Go (ow δ B) (ow δ2 B) H H2 ∧ Go (ow δ1 B) (ow δ2 B) H1 H2 ∧ W i δ2) ⟨δ1, s1, g1, .refl, w0⟩
        (fun i σ2 H2 _ ⟨δ2, s2, g2, g12, _⟩ => dl_rk.sqL (g12.rk.sqL hq)) (fun i x σ2 H2 hx ⟨δ2, s2, g2, g12, w2⟩ => ?_) (fun σ2 H2 ⟨δ2, s2, g2, g12, w2⟩ => ?_)⟩
      · obtain ⟨d, e1, e2⟩ := da_get' ha hx
        refine hs i d δ2 e1 w2 B H2 σ2 x s2 (dp_mono g12.rk _ _ e2) _ fun σ3 δ3 s3 g3 q => ?_
        exact q B H2 σ3 s3 { D with nx := _, ct := _, bk := D.nx } (fun σ4 H4 δ4 s4 g4 n => ⟨δ4, s4, (g2.trans g3).trans g4, (g12.trans g3).trans g4, n⟩) (fun v σ4 H4 r δ4 B4 R4 n => kr v σ4 H4 r δ4 B4 (R4.pre (g2.trans g3)) n)
          (fun σ4 H4 δ4 s4 g4 n => kn σ4 H4 δ4 s4 ((g2.trans g3).trans g4) n) (fun σ4 H4 δ4 s4 g4 n => ⟨δ4, s4, (g2.trans g3).trans g4, (g12.trans g3).trans g4, n⟩)
      · rw [da_len ha] at w2
        exact kn σ2 H2 δ2 s2 g2 (hd δ2 w2)
/-- over a tuple -/
theorem ss_forT (h : Ex K T te δ fun r δ1 => ∃ ds, r = .val (.tuple ds) ∧ ∃ W : Nat → List Sl → Prop, W 0 δ1 ∧
      (∀ i d δ2, ds[i]? = some d → W i δ2 → Gt K T g d δ2 fun δ3 => Ss K T t δ3 ⟨W (i + 1), E.rt, E.nx, W (i + 1)⟩) ∧ ∀ δ2, W ds.length δ2 → E.nx δ2) : Ss K T (tFor (iTup K te) g t) δ E := fun B H σ s D kn kr kb kc =>
  h B H σ s _ fun v H1 r δ1 B1 R1 ⟨ds, f, W, w0, hs, hd⟩ => by
    subst f
    obtain ⟨s1, g1, hv⟩ := rs_fz R1 (d := .tuple ds) rfl
    cases hv with
    | tup hq ha =>
      refine ⟨_, rfl, ⟨_, dl_rk.sqT hq⟩, for_tup (fun i σ2 H2 => ∃ δ2, S K T B H2 σ2 δ2 ∧ Go (ow δ B) (ow δ2 B) H H2 ∧ Go (ow δ1 B) (ow δ2 B) H1 H2 ∧ W i δ2) ⟨δ1, s1, g1, .refl, w0⟩
        (fun i σ2 H2 _ ⟨δ2, s2, g2, g12, _⟩ => dl_rk.sqT (g12.rk.sqT hq)) (fun i x σ2 H2 hx ⟨δ2, s2, g2, g12, w2⟩ => ?_) (fun σ2 H2 ⟨δ2, s2, g2, g12, w2⟩ => ?_)⟩
      · obtain ⟨d, e1, e2⟩ := da_get' ha hx
        refine hs i d δ2 e1 w2 B H2 σ2 x s2 (dp_mono g12.rk _ _ e2) _ fun σ3 δ3 s3 g3 q => ?_
        exact q B H2 σ3 s3 { D with nx := _, ct := _, bk := D.nx } (fun σ4 H4 δ4 s4 g4 n => ⟨δ4, s4, (g2.trans g3).trans g4, (g12.trans g3).trans g4, n⟩) (fun v σ4 H4 r δ4 B4 R4 n => kr v σ4 H4 r δ4 B4 (R4.pre (g2.trans g3)) n)
          (fun σ4 H4 δ4 s4 g4 n => kn σ4 H4 δ4 s4 ((g2.trans g3).trans g4) n) (fun σ4 H4 δ4 s4 g4 n => ⟨δ4, s4, (g2.trans g3).trans g4, (g12.trans g3).trans g4, n⟩)
      · rw [da_len ha] at w2
        exact kn σ2 H2 δ2 s2 g2 (hd δ2 w2)
/-- over range(n) -/
theorem ss_forR {ta : TA} {i : Nat} (h : ExA K T ta δ fun rs δ1 => ∃ n : Int, rs = [.val (.int n)] ∧ -(2 ^ 62) ≤ n ∧ n < 2 ^ 62 ∧ ∃ W : Nat → List Sl → Prop, W 0 δ1 ∧
      (∀ (k : Nat) δ2, (k : Int) < n → W k δ2 → Ss K T t (δ2.set i (.val (.int k))) ⟨W (k + 1), E.rt, E.nx, W (k + 1)⟩) ∧ ∀ δ2, W n.toNat δ2 → E.nx δ2) : Ss K T (tFor (iRng1 ta) (gName i) t) δ E := fun B H σ s D kn kr kb kc =>
  h B H σ s _ fun vs H1 rs δ1 B1 R1 ⟨n, f, hn1, hn2, W, w0, hs, hd⟩ => by
    subst f
    have e1 : B1 = B := vals0_bx (ds := [.int n]) R1.bx ⟨rfl, trivial⟩
    subst e1
    have hv : DpAll K (dl H1 (ow δ1 B1)) vs [.int n] := vals0_dp (ds := [.int n]) R1.vr ⟨rfl, trivial⟩
    have s1 := R1.s
    have g1 := R1.go
    cases hv with
    | cons hv1 hv2 =>
      cases hv1
      cases hv2
      refine ⟨n, rfl, hn1, hn2, for_range (fun k σ2 H2 => ∃ δ2, S K T B1 H2 σ2 δ2 ∧ Go (ow δ B1) (ow δ2 B1) H H2 ∧ W k δ2) ⟨δ1, s1, g1, w0⟩ (fun k σ2 H2 hk ⟨δ2, s2, g2, w2⟩ => ?_) (fun σ2 H2 ⟨δ2, s2, g2, w2⟩ => kn σ2 H2 δ2 s2 g2 (hd δ2 w2))⟩
      have ek : (0 : Int) + (k : Int) = (k : Int) := Int.zero_add _
      show t _ (σ2.set i (some (.int ((0 : Int) + (k : Int))))) H2
      rw [ek]
      exact (hs k δ2 (by omega) w2).after (δ := δ) (H := H) (D := { D with nx := _, ct := _, bk := D.nx }) (s2.setv (Dp.int _)) (g2.trans (Go.set rfl)) (fun σ4 H4 δ4 s4 g4 n => ⟨δ4, s4, g4, n⟩) kr kn (fun σ4 H4 δ4 s4 g4 n => ⟨δ4, s4, g4, n⟩)
end
end Pl

set_option Elab.async false
set_option linter.all false
set_option maxRecDepth 100000
set_option maxHeartbeats 1000001
namespace Pl
open PySem L2 LamX NdefX
section
variable {K : PySem.W.Frag} {T : List NTab} {B B' B1 : Lo} {A0 : List Addr} {H0 H H' : Hp} {σ : L2.St} {δ δ' : List Sl} {v : V} {r : R} {E : Es} {te ta tb : TE} {tt t1 t2 : TT} {ts t u : TS} {g : TG} {P : R → List Sl → Prop}

/-! ### owned lists -/
theorem S.hp (s : S K T B H σ δ) {i : Nat} {a : Addr} {u : OV} (hi : δ[i]? = some (.own a u)) : σ[i]? = some (some (.ref a)) ∧ Holds K (dl H (ow δ B)) H a u := s.ok i _ hi
theorem rs_write {i : Nat} {a : Addr} {u u' : OV} {o' : HO} {z : D} {w : V} (s : S K T B H σ δ) (g : Go A0 (ow δ B) H0 H) (hi : δ[i]? = some (.own a u)) (hh : Holds K (dl H (ow δ B)) (upd H a o') a u') (hz : Dp K (dl H (ow δ B)) w z) :
    RS K T B B A0 H0 (upd H a o') σ (δ.set i (.own a u')) w (.val z) := by
  have ma : a ∈ ow δ B := mem_ow.mpr (.inl ⟨i, u, hi⟩)
  have g1 : Go (ow δ B) (ow (δ.set i (.own a u')) B) H (upd H a o') := by
    rw [ow_same hi]
    exact go_own ma
  exact ⟨s.write hi hh, g.trans g1, dp_mono g1.rk _ _ hz, rfl⟩
/-- a method of a list that a name owns: ds becomes es, z comes back -/
def LmD (K : PySem.W.Frag) (rr : V → List V → Hp → VK → Prop) (ds args : List D) (Pk : D → List D → Prop) : Prop := ∀ (L H : Hp) (a : Addr) (xs vs : List V) (Q : VK), H a = some (.lst xs) → DpAll K L xs ds → DpAll K L vs args →
  (∀ w z ys es, Dp K L w z → DpAll K L ys es → Pk z es → Q w (upd H a (.lst ys))) → rr (.ref a) vs H Q
theorem ex_lm {rr : V → List V → Hp → VK → Prop} {i : Nat} {t : TA} (h : (∃ a ds, δ[i]? = some (.own a (.lst ds))) ∧ ExA K T t δ fun rs δ1 => ∃ args a ds, Vals0 rs args ∧ δ1[i]? = some (.own a (.lst ds)) ∧ LmD K rr ds args fun z es => P (.val z) (δ1.set i (.own a (.lst es)))) :
    Ex K T (tBM K "list" rr (tVar i) t) δ P := fun B H σ s Q k => by
  obtain ⟨⟨a, ds, hi⟩, h⟩ := h
  obtain ⟨h1, xs, h2, h3⟩ := s.hp hi
  refine ⟨.ref a, h1, .inl ⟨rfl, xs, .inl (.inl h2)⟩, ?_⟩
  refine h B H σ s _ fun vs H1 rs δ1 B1 R1 ⟨args, a1, ds1, va, hi1, m⟩ => ?_
  have e1 : B1 = B := vals0_bx R1.bx va
  subst e1
  obtain ⟨q1, ys, q2, q3⟩ := R1.s.hp hi1
  rw [h1] at q1
  cases q1
  exact m _ H1 a ys vs Q q2 q3 (vals0_dp R1.vr va) fun w z ys' es hz hes p => k w _ (.val z) _ B1 (rs_write (u' := .lst es) R1.s R1.go hi1 ⟨ys', upd_same, hes⟩ hz) p
theorem ex_lm0 {rr : V → List V → Hp → VK → Prop} {i : Nat} (h : ∃ a ds, δ[i]? = some (.own a (.lst ds)) ∧ LmD K rr ds [] fun z es => P (.val z) (δ.set i (.own a (.lst es)))) :
    Ex K T (tBM0 K "list" rr (tVar i)) δ P := fun B H σ s Q k => by
  obtain ⟨a, ds, hi, m⟩ := h
  obtain ⟨h1, xs, h2, h3⟩ := s.hp hi
  refine ⟨.ref a, h1, .inl ⟨rfl, xs, .inl (.inl h2)⟩, ?_⟩
  exact m _ H a xs [] Q h2 h3 .nil fun w z ys' es hz hes p => k w _ (.val z) _ B (rs_write (u' := .lst es) s .refl hi ⟨ys', upd_same, hes⟩ hz) p
theorem lm_append {ds : List D} {d : D} {Pk : D → List D → Prop} (hl : ds.length < 100000) (p : Pk .none (ds ++ [d])) : LmD K rAppend ds [d] Pk := fun L H a xs vs Q h1 h2 h3 k => by
  cases h3 with
  | cons h3 h4 =>
    cases h4
    exact ⟨a, xs, _, rfl, rfl, h1, by rw [da_len h2]; exact Nat.lt_of_lt_of_le hl (by decide), k _ _ _ _ .non (da_app h2 (da_one h3)) p⟩
theorem lm_reverse {ds : List D} {Pk : D → List D → Prop} (p : Pk .none ds.reverse) : LmD K rReverse ds [] Pk := fun L H a xs vs Q h1 h2 h3 k => by
  cases h3
  exact ⟨a, xs, rfl, rfl, h1, k _ _ _ _ .non (da_rev h2) p⟩
theorem lm_pop {ds : List D} {d : D} {Pk : D → List D → Prop} (p : Pk d ds) : LmD K rPop (ds ++ [d]) [] Pk := fun L H a xs vs Q h1 h2 h3 k => by
  cases h3
  have hl := da_len h2
  rw [List.length_append, List.length_singleton] at hl
  obtain ⟨w, e1, e2⟩ := da_get h2 (i := ds.length) (d := d) (by rw [List.getElem?_append_right (Nat.le_refl _), Nat.sub_self]; rfl)
  refine ⟨a, xs, w, rfl, rfl, h1, by rw [hl, Nat.add_sub_cancel]; exact e1, k _ _ _ _ e2 ?_ p⟩
  have q := da_dropLast h2
  rwa [List.dropLast_concat] at q
theorem lm_insert {ds : List D} {i : Nat} {d : D} {Pk : D → List D → Prop} (hi : i ≤ ds.length) (hl : ds.length < 100000) (p : Pk .none (ds.take i ++ d :: ds.drop i)) :
    LmD K (fun x vs H Q => ∃ (l : Addr) (xs : List V) (i : Int) (y : V), x = .ref l ∧ vs = [.int i, y] ∧ H l = some (.lst xs) ∧ xs.length < sizeLine ∧ 0 ≤ i ∧ i < 2 ^ 63 ∧ Q .non (upd H l (.lst (xs.take i.toNat ++ y :: xs.drop i.toNat)))) ds [.int i, d] Pk := fun L H a xs vs Q h1 h2 h3 k => by
  cases h3 with
  | cons h3 h4 =>
    cases h3
    cases h4 with
    | cons h4 h5 =>
      cases h5
      refine ⟨a, xs, i, _, rfl, rfl, h1, by rw [da_len h2]; exact Nat.lt_of_lt_of_le hl (by decide), by omega, by omega, ?_⟩
      rw [Int.toNat_natCast]
      exact k _ _ _ _ .non (da_ins h4 i h2) p
/-- xs.extend(a new list) -/
theorem ex_ext {i : Nat} {t : TE} (h : (∃ a ds, δ[i]? = some (.own a (.lst ds))) ∧ Ex K T t δ fun r δ1 => ∃ a ds es, r = .new (.lst es) ∧ δ1[i]? = some (.own a (.lst ds)) ∧ ds.length + es.length ≤ 100000 ∧ P (.val .none) (δ1.set i (.own a (.lst (ds ++ es))))) :
    Ex K T (tBM K "list" rExtend (tVar i) (tCons t tNil)) δ P := fun B H σ s Q k => by
  obtain ⟨⟨a, ds, hi⟩, h⟩ := h
  obtain ⟨h1, xs, h2, h3⟩ := s.hp hi
  refine ⟨.ref a, h1, .inl ⟨rfl, xs, .inl (.inl h2)⟩, ?_⟩
  refine h B H σ s _ fun v H1 r δ1 B1 R1 ⟨a1, ds1, es, e, hi1, hl, p⟩ => ?_
  subst e
  obtain ⟨b, rfl, e1⟩ := R1.bx
  subst e1
  obtain ⟨zs, m1, m2⟩ := R1.s.loose _ List.mem_cons_self
  obtain ⟨q1, ys, q2, q3⟩ := R1.s.hp hi1
  rw [h1] at q1
  cases q1
  refine ⟨a, b, ys, zs, rfl, rfl, q2, m1, by rw [da_len q3, da_len m2]; exact Nat.le_trans hl (by decide), ?_⟩
  have w := rs_write (z := .none) (w := .non) R1.s R1.go hi1 (u' := .lst (ds1 ++ es)) (o' := .lst (ys ++ zs)) ⟨_, upd_same, da_app q3 m2⟩ .non
  exact k _ _ (.val .none) _ B ⟨w.s.drop, w.go.less ow_tail, Dp.non, rfl⟩ p
/-- xs[j] = e -/
theorem ss_setL {i : Nat} {ti : TE} (h : Ex K T te δ fun r δ1 => ∃ d, r = .val d ∧ (∃ a u, δ1[i]? = some (.own a u)) ∧ Ex K T ti δ1 fun r2 δ2 => ∃ (j : Int) (k : Nat) (a : Addr) (ds : List D), r2 = .val (.int j) ∧ δ2[i]? = some (.own a (.lst ds)) ∧ ixN ds.length j = some k ∧ E.nx (δ2.set i (.own a (.lst (ds.set k d))))) :
    Ss K T (tAsg te (gSub (tVar i) ti rSetL)) δ E := fun B H σ s D kn _ _ _ =>
  h B H σ s _ fun v H1 r δ1 B1 R1 ⟨d, e, ⟨a, u, hi⟩, h1⟩ => by
    subst e
    have e1 : B1 = B := R1.bx
    subst e1
    refine ⟨.ref a, (R1.s.hp hi).1, ?_⟩
    refine h1 B1 H1 σ R1.s _ fun w H2 r2 δ2 B2 R2 ⟨j, k, a2, ds, e2, hi2, hk, p⟩ => ?_
    subst e2
    have e3 : B2 = B1 := R2.bx
    subst e3
    have hw : Dp K _ w (.int j) := R2.vr
    cases hw
    obtain ⟨q1, ys, q2, q3⟩ := R2.s.hp hi2
    rw [(R1.s.hp hi).1] at q1
    cases q1
    have hv : Dp K (dl H2 (ow δ2 B2)) v d := dp_mono R2.go.rk _ _ R1.vr
    refine ⟨a, ys, j, k, rfl, rfl, q2, by rw [da_len q3]; exact hk, ?_⟩
    have w := rs_write (z := .none) (w := .non) R2.s (R1.go.trans R2.go) hi2 (u' := .lst (ds.set k d)) (o' := .lst (ys.set k v)) ⟨_, upd_same, da_set hv k q3⟩ .non
    exact kn σ _ _ w.s w.go p

/-! ### comprehensions -/
theorem S.writeL {p : Addr} {u u' : OV} {o' : HO} (s : S K T ((p, u) :: B) H σ δ) (hh : Holds K (dl H (ow δ ((p, u) :: B))) (upd H p o') p u') : S K T ((p, u') :: B) (upd H p o') σ δ := by
  have ma : p ∈ ow δ ((p, u) :: B) := mem_ow.mpr (.inr ⟨u, List.mem_cons_self⟩)
  obtain ⟨o, q1, q2, q3⟩ := holds_obj (s.loose _ List.mem_cons_self)
  have g : Go (ow δ ((p, u) :: B)) (ow δ ((p, u) :: B)) H (upd H p o') := go_own ma
  have np : p ∉ ow δ B := s.cons_nd
  refine ⟨s.len, tab_upd q1 q2 q3 s.tab, fun j x h => ?_, fun q hq => ?_, s.nd⟩
  · have q := s.ok j x h
    cases x with
    | no => trivial
    | val d => obtain ⟨v, q1, q2⟩ := q; exact ⟨v, q1, dp_mono g.rk _ _ q2⟩
    | own b w => obtain ⟨q1, q2⟩ := q; exact ⟨q1, q2.mono (dp_mono g.rk) (upd_ne fun e => np (e ▸ mem_ow.mpr (.inl ⟨j, w, h⟩)))⟩
  · rcases List.mem_cons.mp hq with z | z
    · rw [z]; exact hh.mono (dp_mono g.rk) rfl
    · exact (s.loose q (List.mem_cons_of_mem _ z)).mono (dp_mono g.rk) (upd_ne fun e => np (e ▸ mem_ow.mpr (.inr ⟨q.2, z⟩)))
/-- one turn of a comprehension whose own name is in slot i; acc: what is made so far -/
def Turn1 (K : PySem.W.Frag) (T : List NTab) (i : Nat) (tt : TT) (te : TE) (δ : List Sl) (d : D) (acc acc' : List D) : Prop :=
  ExT K T tt (δ.set i (.val d)) fun b δ2 => δ2 = δ.set i (.val d) ∧ if b = true then Ex K T te (δ.set i (.val d)) fun r δ3 => ∃ z, r = .val z ∧ δ3 = δ.set i (.val d) ∧ acc' = acc ++ [z] ∧ acc.length < 100000 else acc' = acc
theorem S.back {i : Nat} {d : D} {x : Option V} (s : S K T B H (σ.set i x) (δ.set i (.val d))) (hi : δ[i]? = some .no) : S K T B H σ δ := by
  have hl : i < δ.length := (List.getElem?_eq_some_iff.mp hi).1
  have e : δ = (δ.set i (.val d)).set i .no := by
    rw [List.set_set]
    refine List.ext_getElem? fun j => ?_
    by_cases h : i = j
    · subst h
      rw [hi, List.getElem?_set_self hl]
    · rw [List.getElem?_set_ne h]
  have s1 := s.no (i := i)
  rw [← e] at s1
  refine ⟨by have := s1.len; rw [List.length_set] at this; exact this, s1.tab, fun j y h => ?_, s1.loose, s1.nd⟩
  by_cases hj : i = j
  · subst hj
    rw [hi] at h
    cases h
    trivial
  · have q := s1.ok j y h
    rw [List.getElem?_set_ne hj] at q
    exact q
theorem lc_turn {i : Nat} {p : Addr} {d : D} {acc acc' : List D} {x : V} {Nx : Hp → Prop} (hi : δ[i]? = some .no) (s : S K T ((p, .lst acc) :: B) H σ δ) (hx : Dp K (dl H (ow δ ((p, .lst acc) :: B))) x d) (h : Turn1 K T i tt te δ d acc acc')
    (k : ∀ H', S K T ((p, .lst acc') :: B) H' σ δ → Go (ow δ ((p, .lst acc) :: B)) (ow δ ((p, .lst acc') :: B)) H H' → Nx H') :
    gName i x (wipe σ [i]) H fun σ2 H2 => wipe σ2 [i] = wipe σ [i] ∧ tt σ2 H2 fun b H3 => if b = true then te σ2 H3 fun y H4 => ∃ ac, H4 p = some (.lst ac) ∧ ac.length < sizeLine ∧ Nx (upd H4 p (.lst (ac ++ [y]))) else Nx H3 := by
  have ew : ((wipe σ [i]).set i (some x)) = σ.set i (some x) := by
    show (σ.set i none).set i (some x) = _
    rw [List.set_set]
  show wipe ((wipe σ [i]).set i (some x)) [i] = wipe σ [i] ∧ tt ((wipe σ [i]).set i (some x)) H _
  refine ⟨?_, ?_⟩
  · rw [ew]
    show (σ.set i (some x)).set i none = σ.set i none
    rw [List.set_set]
  rw [ew]
  have s1 := s.setv (i := i) hx
  have g0 : Go (ow δ ((p, .lst acc) :: B)) (ow (δ.set i (.val d)) ((p, .lst acc) :: B)) H H := Go.set rfl
  have ob : ow (δ.set i (.val d)) ((p, .lst acc) :: B) = ow δ ((p, .lst acc) :: B) := by
    unfold ow
    congr 1
    clear h hx s s1 k g0 ew
    induction δ generalizing i with
    | nil => rfl
    | cons t r ih =>
      cases i with
      | zero =>
        have e : t = .no := Option.some.inj hi
        subst e
        rfl
      | succ i => rw [List.set_cons_succ, List.flatMap_cons, List.flatMap_cons, ih (by simpa using hi)]
  refine h _ H _ s1 _ fun b H3 δ3 s3 g3 ⟨e3, q⟩ => ?_
  subst e3
  cases b with
  | true =>
    rw [if_pos rfl] at q ⊢
    refine q _ H3 _ s3 _ fun y H4 r δ4 B4 R4 ⟨z, er, e4, ea, hl⟩ => ?_
    subst er
    subst e4
    subst ea
    have eB : B4 = (p, .lst acc) :: B := R4.bx
    subst eB
    obtain ⟨ac, m1, m2⟩ := R4.s.loose _ List.mem_cons_self
    refine ⟨ac, m1, by rw [da_len m2]; exact Nat.lt_of_lt_of_le hl (by decide), ?_⟩
    have s5 := R4.s.writeL (u' := .lst (acc ++ [z])) (o' := .lst (ac ++ [y])) ⟨_, upd_same, da_app m2 (da_one R4.vr)⟩
    refine k _ (s5.back hi) ?_
    have g := (g0.trans g3).trans R4.go
    rw [ob] at g
    exact g.trans (go_own (mem_ow.mpr (.inr ⟨_, List.mem_cons_self⟩)))
  | false =>
    rw [if_neg Bool.false_ne_true] at q ⊢
    subst q
    refine k _ (s3.back hi) ?_
    have g := g0.trans g3
    rw [ob] at g
    exact g
/-- [e for x in xs if t], xs a list -/
theorem ex_lcL {i : Nat} (h : Ex K T ta δ fun r δ1 => ∃ ds, Fz r (.list ds) ∧ δ1[i]? = some .no ∧ ∃ acc : Nat → List D, acc 0 = [] ∧ (∀ k d, ds[k]? = some d → Turn1 K T i tt te δ1 d (acc k) (acc (k + 1))) ∧ P (.new (.lst (acc ds.length))) δ1) :
    Ex K T (tLc (iList K ta) (gName i) tt te [i]) δ P := fun B H σ s Q k =>
  h B H σ s _ fun v H1 r δ1 B1 R1 ⟨ds, f, hi, acc, a0, turn, p⟩ => by
    obtain ⟨s1, g1, hv⟩ := rs_fz R1 f
    cases hv with
    | lst hq ha =>
      refine ⟨_, rfl, ⟨_, dl_rk.sqL hq⟩, fun C hC => ?_⟩
      have hl := da_len ha
      refine lc_list (fun m H2 => S K T ((C, .lst (acc m)) :: B) H2 σ δ1 ∧ Go (ow δ1 B) (ow δ1 ((C, .lst (acc m)) :: B)) H1 H2) ⟨?_, go_new hC⟩ (fun m H2 _ ⟨_, g2⟩ => dl_rk.sqL (g2.rk.sqL hq)) (fun m x H2 hx ⟨s2, g2⟩ => ?_) fun H2 ⟨s2, g2⟩ => ?_
      · rw [a0]
        exact s1.owned hC ⟨_, upd_same, .nil⟩
      · obtain ⟨d, e1, e2⟩ := da_get' ha hx
        exact lc_turn hi s2 (dp_mono g2.rk _ _ e2) (turn m d e1) fun H' s' g' => ⟨s', g2.trans g'⟩
      · rw [hl] at s2 g2
        exact k _ H2 (.new (.lst (acc ds.length))) δ1 _ ⟨s2, g1.trans g2, ⟨C, rfl, List.mem_cons_self⟩, ⟨C, rfl, rfl⟩⟩ p
theorem ex_lcT {i : Nat} (h : Ex K T ta δ fun r δ1 => ∃ ds, r = .val (.tuple ds) ∧ δ1[i]? = some .no ∧ ∃ acc : Nat → List D, acc 0 = [] ∧ (∀ k d, ds[k]? = some d → Turn1 K T i tt te δ1 d (acc k) (acc (k + 1))) ∧ P (.new (.lst (acc ds.length))) δ1) :
    Ex K T (tLc (iTup K ta) (gName i) tt te [i]) δ P := fun B H σ s Q k =>
  h B H σ s _ fun v H1 r δ1 B1 R1 ⟨ds, f, hi, acc, a0, turn, p⟩ => by
    subst f
    obtain ⟨s1, g1, hv⟩ := rs_fz R1 (d := .tuple ds) rfl
    cases hv with
    | tup hq ha =>
      refine ⟨_, rfl, ⟨_, dl_rk.sqT hq⟩, fun C hC => ?_⟩
      have hl := da_len ha
      refine lc_tup (fun m H2 => S K T ((C, .lst (acc m)) :: B) H2 σ δ1 ∧ Go (ow δ1 B) (ow δ1 ((C, .lst (acc m)) :: B)) H1 H2) ⟨?_, go_new hC⟩ (fun m H2 _ ⟨_, g2⟩ => dl_rk.sqT (g2.rk.sqT hq)) (fun m x H2 hx ⟨s2, g2⟩ => ?_) fun H2 ⟨s2, g2⟩ => ?_
      · rw [a0]
        exact s1.owned hC ⟨_, upd_same, .nil⟩
      · obtain ⟨d, e1, e2⟩ := da_get' ha hx
        exact lc_turn hi s2 (dp_mono g2.rk _ _ e2) (turn m d e1) fun H' s' g' => ⟨s', g2.trans g'⟩
      · rw [hl] at s2 g2
        exact k _ H2 (.new (.lst (acc ds.length))) δ1 _ ⟨s2, g1.trans g2, ⟨C, rfl, List.mem_cons_self⟩, ⟨C, rfl, rfl⟩⟩ p
theorem ex_lcR {i : Nat} {taa : TA} (h : ExA K T taa δ fun rs δ1 => ∃ n : Int, rs = [.val (.int n)] ∧ -(2 ^ 62) ≤ n ∧ n < 2 ^ 62 ∧ δ1[i]? = some .no ∧ ∃ acc : Nat → List D, acc 0 = [] ∧ (∀ k : Nat, (k : Int) < n → Turn1 K T i tt te δ1 (.int k) (acc k) (acc (k + 1))) ∧ P (.new (.lst (acc n.toNat))) δ1) :
    Ex K T (tLc (iRng1 taa) (gName i) tt te [i]) δ P := fun B H σ s Q k =>
  h B H σ s _ fun vs H1 rs δ1 B1 R1 ⟨n, f, hn1, hn2, hi, acc, a0, turn, p⟩ => by
    subst f
    have e1 : B1 = B := vals0_bx (ds := [.int n]) R1.bx ⟨rfl, trivial⟩
    subst e1
    have hv : DpAll K (dl H1 (ow δ1 B1)) vs [.int n] := vals0_dp (ds := [.int n]) R1.vr ⟨rfl, trivial⟩
    have s1 := R1.s
    have g1 := R1.go
    cases hv with
    | cons hv1 hv2 =>
      cases hv1
      cases hv2
      refine ⟨n, rfl, hn1, hn2, fun C hC => ?_⟩
      refine lc_range (lo := 0) (n := n.toNat) (fun m H2 => S K T ((C, .lst (acc m)) :: B1) H2 σ δ1 ∧ Go (ow δ1 B1) (ow δ1 ((C, .lst (acc m)) :: B1)) H1 H2) ⟨?_, go_new hC⟩ (fun m H2 hm ⟨s2, g2⟩ => ?_) fun H2 ⟨s2, g2⟩ => ?_
      · rw [a0]
        exact s1.owned hC ⟨_, upd_same, .nil⟩
      · have ek : (0 : Int) + (m : Int) = (m : Int) := Int.zero_add _
        rw [ek]
        exact lc_turn hi s2 (Dp.int _) (turn m (by omega)) fun H' s' g' => ⟨s', g2.trans g'⟩
      · exact k _ H2 (.new (.lst (acc n.toNat))) δ1 _ ⟨s2, g1.trans g2, ⟨C, rfl, List.mem_cons_self⟩, ⟨C, rfl, rfl⟩⟩ p
end
end Pl

set_option Elab.async false
set_option linter.all false
set_option maxRecDepth 100000
set_option maxHeartbeats 1000001
namespace Pl
open PySem L2 LamX NdefX PyProof.Rows

/-! ### what a def promises, in data -/
inductive Ar where
  | val (d : D)
  | own (u : OV)
/-- the arguments, what is wanted of the result and of the owned arguments behind -/
abbrev FS := List Ar → (R → List OV → Prop) → Prop
def OvImm : OV → Prop
  | .lst ds => immAll ds = true
  | .dK kvs => ∀ p ∈ kvs, imm p.2 = true
  | .dT kvs => ∀ p ∈ kvs, imm p.2 = true
section
variable (K : PySem.W.Frag) (T : List NTab)
def ArgsOk (L H : Hp) : List V → List Ar → List Addr → Prop
  | [], [], [] => True
  | v :: vs, .val d :: as, ps => Dp K L v d ∧ ArgsOk L H vs as ps
  | v :: vs, .own u :: as, p :: ps => v = .ref p ∧ Holds K L H p u ∧ ArgsOk L H vs as ps
  | _, _, _ => False
def RvOk (H H' : Hp) (v : V) : R → Prop
  | .val d => imm d = true ∧ Dp K H' v d
  | .new u => ∃ p, v = .ref p ∧ H p = none ∧ OvImm u ∧ Holds K H' H' p u
  | .bor _ => False
def Behind (H' : Hp) : List Addr → List OV → Prop
  | [], [] => True
  | p :: ps, u :: us => OvImm u ∧ Holds K H' H' p u ∧ Behind H' ps us
  | _, _ => False
def spOf (F : FS) : Sp := fun vs H Q _ => ∃ (A : List Addr) (as : List Ar) (P : R → List OV → Prop), A.Nodup ∧ TabsN T H ∧ ArgsOk K (dl H A) H vs as A ∧ F as P ∧
  ∀ v H' r us, TabsN T H' → Go A A H H' → RvOk K H H' v r → Behind K H' A us → P r us → Q v H'
end
section
variable {K : PySem.W.Frag} {T : List NTab} {B B' B1 : Lo} {A A0 : List Addr} {H0 H H' : Hp} {σ : L2.St} {δ δ' : List Sl} {v : V} {r : R} {E : Es} {te ta tb : TE} {tt t1 t2 : TT} {ts t u : TS} {g : TG} {P : R → List Sl → Prop}
theorem Holds.imm {L L' : Hp} {a : Addr} {u : OV} (e : Tk L L') (hi : OvImm u) (h : Holds K L H a u) : Holds K L' H a u := by
  have kv : ∀ {κ : Type} {xs : List (κ × V)} {kvs : List (κ × D)}, (∀ p ∈ kvs, Pl.imm p.2 = true) → KvAll K L xs kvs → KvAll K L' xs kvs := by
    intro κ xs
    induction xs with
    | nil => intro kvs _ h; cases kvs with | nil => trivial | cons _ _ => exact h.elim
    | cons x xs ih =>
      intro kvs hi h
      cases kvs with
      | nil => exact h.elim
      | cons y ys =>
        obtain ⟨h1, h2, h3⟩ := h
        exact ⟨h1, dp_imm e _ _ (hi y List.mem_cons_self) h2, ih (fun p hp => hi p (List.mem_cons_of_mem _ hp)) h3⟩
  cases u with
  | lst ds => obtain ⟨xs, h1, h2⟩ := h; exact ⟨xs, h1, da_imm e _ _ hi h2⟩
  | dK ds => obtain ⟨xs, h1, h2⟩ := h; exact ⟨xs, h1, kv hi h2⟩
  | dT ds => obtain ⟨xs, h1, h2⟩ := h; exact ⟨xs, h1, kv hi h2⟩
theorem tk_dl {A : List Addr} : Tk (dl H A) H := fun a xs h => h.elim (fun h => .inl (dl_some h).2) fun ⟨o, h⟩ => .inr ⟨o, (dl_some h).2⟩
theorem tk_mut {A : List Addr} (h : ∀ a ∈ A, ∃ L u, Holds K L H a u) : Tk H (dl H A) := fun a xs q => by
  rcases q with q | ⟨o, q⟩
  · refine .inl (dl_of q fun m => ?_)
    obtain ⟨L, u, hu⟩ := h a m
    obtain ⟨o, e, _, n, _⟩ := hu.some
    rw [q] at e
    cases e
    exact n xs rfl
  · refine .inr ⟨o, dl_of q fun m => ?_⟩
    obtain ⟨L, u, hu⟩ := h a m
    obtain ⟨o', e, _, _, n⟩ := hu.some
    rw [q] at e
    cases e
    exact n _ _ rfl

/-! ### a call's step -/
/-- the owned A may have changed -/
theorem S.call (s : S K T B H σ δ) {A : List Addr} {δ2 : List Sl} {B2 : Lo} (g : Go A A H H') (hT : TabsN T H') (hA : ∀ a ∈ A, a ∈ ow δ B) (how : ∀ a ∈ ow δ2 B2, a ∈ ow δ B ∨ H a = none) (hnd : (ow δ2 B2).Nodup) (hlen : δ2.length = δ.length)
    (hs : ∀ (i : Nat) (x : Sl), δ2[i]? = some x → (δ[i]? = some x ∧ ∀ a u, x = .own a u → a ∉ A) ∨ ∃ a u u0, x = .own a u ∧ δ[i]? = some (.own a u0) ∧ OvImm u ∧ Holds K H' H' a u)
    (hB : ∀ q ∈ B2, (q ∈ B ∧ q.1 ∉ A) ∨ (OvImm q.2 ∧ Holds K H' H' q.1 q.2)) : S K T B2 H' σ δ2 := by
  have rk : Rk (dl H (ow δ B)) (dl H' (ow δ2 B2)) := fun a o h t => by
    obtain ⟨n, e⟩ := dl_some h
    exact dl_of (g.ext a o e (fun m => n (hA a m)) t) fun m => (how a m).elim n fun z => by rw [e] at z; cases z
  have stay : ∀ a u, Holds K (dl H (ow δ B)) H a u → a ∉ A → Holds K (dl H' (ow δ2 B2)) H' a u := fun a u h n => by
    obtain ⟨o, e, t, _⟩ := h.some
    exact h.mono (dp_mono rk) ((g.ext a o e n t).trans e.symm)
  have each : ∀ a ∈ ow δ2 B2, ∃ L u, Holds K L H' a u := fun a m => by
    rcases mem_ow.mp m with ⟨i, u, h⟩ | ⟨u, h⟩
    · rcases hs i _ h with ⟨h1, h2⟩ | ⟨b, w, u0, e, _, _, q⟩
      · exact ⟨_, u, stay a u (s.ok i _ h1).2 (h2 a u rfl)⟩
      · cases e
        exact ⟨_, u, q⟩
    · rcases hB _ h with ⟨h1, h2⟩ | ⟨_, q⟩
      · exact ⟨_, u, stay a u (s.loose _ h1) h2⟩
      · exact ⟨_, u, q⟩
  have tk := tk_mut each
  refine ⟨by rw [hlen]; exact s.len, hT, fun i x h => ?_, fun q hq => ?_, hnd⟩
  · rcases hs i x h with ⟨h1, h2⟩ | ⟨a, u, u0, e, h1, hi, q⟩
    · have q := s.ok i x h1
      cases x with
      | no => trivial
      | val d => obtain ⟨v, q1, q2⟩ := q; exact ⟨v, q1, dp_mono rk _ _ q2⟩
      | own a u => obtain ⟨q1, q2⟩ := q; exact ⟨q1, stay a u q2 (h2 a u rfl)⟩
    · subst e
      exact ⟨(s.ok i _ h1).1, q.imm tk hi⟩
  · rcases hB q hq with ⟨h1, h2⟩ | ⟨hi, q⟩
    · exact stay _ _ (s.loose _ h1) h2
    · exact q.imm tk hi

/-! ### how results become arguments -/
/-- I: the names whose objects are handed over -/
def ArgR (δ : List Sl) (I : List Nat) : List R → List Ar → List Nat → Prop
  | [], [], [] => True
  | .val d :: rs, .val e :: as, is => e = d ∧ ArgR δ I rs as is
  | .bor i :: rs, .own w :: as, j :: is => j = i ∧ (∃ a, δ[i]? = some (.own a w)) ∧ ArgR δ I rs as is
  | .bor i :: rs, .val e :: as, is => (∃ a ds, δ[i]? = some (.own a (.lst ds)) ∧ e = .list ds) ∧ i ∉ I ∧ ArgR δ I rs as is
  | _, _, _ => False
def putO (δ : List Sl) (i : Nat) (u : OV) : List Sl := match δ[i]? with
  | some (.own a _) => δ.set i (.own a u)
  | _ => δ
def putOs (δ : List Sl) : List Nat → List OV → List Sl
  | i :: is, u :: us => putOs (putO δ i u) is us
  | _, _ => δ
def plc (δ : List Sl) (i : Nat) : Addr := match δ[i]? with
  | some (.own a _) => a
  | _ => 0
theorem plc_of {i : Nat} {a : Addr} {u : OV} (h : δ[i]? = some (.own a u)) : plc δ i = a := by
  unfold plc
  rw [h]
theorem S.inj (s : S K T B H σ δ) {i j : Nat} {a b : Addr} {u w : OV} (h : δ[i]? = some (.own a u)) (h' : δ[j]? = some (.own b w)) (e : a = b) : i = j := by
  subst e
  by_cases hij : i = j
  · exact hij
  · exfalso
    have hl : i < δ.length := (List.getElem?_eq_some_iff.mp h).1
    have hp := ow_own (δ := δ) (p := a) (u := u) (B := B) hl
    rw [ow_same h] at hp
    refine (List.nodup_cons.mp (hp.nodup_iff.mp s.nd)).1 (mem_ow.mpr (.inl ⟨j, w, ?_⟩))
    rw [List.getElem?_set_ne hij]
    exact h'
theorem putO_ow {i : Nat} {u : OV} : ow (putO δ i u) B = ow δ B := by
  unfold putO
  split
  · rename_i a w h
    exact ow_same h
  · rfl
theorem putO_len {i : Nat} {u : OV} : (putO δ i u).length = δ.length := by
  unfold putO
  split
  · rw [List.length_set]
  · rfl
theorem putO_ne {i j : Nat} {u : OV} (h : i ≠ j) : (putO δ i u)[j]? = δ[j]? := by
  unfold putO
  split
  · rw [List.getElem?_set_ne h]
  · rfl
theorem putOs_ow : ∀ {is : List Nat} {us : List OV} {δ : List Sl}, ow (putOs δ is us) B = ow δ B
  | [], _, _ => rfl
  | _ :: _, [], _ => rfl
  | i :: is, u :: us, δ => by
    show ow (putOs (putO δ i u) is us) B = _
    rw [putOs_ow, putO_ow]
theorem putOs_len : ∀ {is : List Nat} {us : List OV} {δ : List Sl}, (putOs δ is us).length = δ.length
  | [], _, _ => rfl
  | _ :: _, [], _ => rfl
  | i :: is, u :: us, δ => by
    show (putOs (putO δ i u) is us).length = _
    rw [putOs_len, putO_len]
theorem putOs_ne : ∀ {is : List Nat} {us : List OV} {δ : List Sl} {j : Nat}, j ∉ is → (putOs δ is us)[j]? = δ[j]?
  | [], _, _, _, _ => rfl
  | _ :: _, [], _, _, _ => rfl
  | i :: is, u :: us, δ, j, h => by
    show (putOs (putO δ i u) is us)[j]? = _
    rw [putOs_ne fun m => h (List.mem_cons_of_mem _ m), putO_ne fun e => h (by rw [← e]; exact List.mem_cons_self)]
theorem putOs_at : ∀ {is : List Nat} {us : List OV} {δ : List Sl} {j : Nat} {x : Sl}, is.Nodup → (∀ i ∈ is, ∃ a u, δ[i]? = some (.own a u)) → Behind K H' (is.map (plc δ)) us → j ∈ is → (putOs δ is us)[j]? = some x →
    ∃ a u u0, x = .own a u ∧ δ[j]? = some (.own a u0) ∧ OvImm u ∧ Holds K H' H' a u
  | i :: is, u :: us, δ, j, x, nd, own, hb, hj, hx => by
    obtain ⟨nd1, nd2⟩ := List.nodup_cons.mp nd
    obtain ⟨b1, b2, b3⟩ := hb
    have hx : (putOs (putO δ i u) is us)[j]? = some x := hx
    obtain ⟨a, w, hi⟩ := own i List.mem_cons_self
    by_cases hji : j = i
    · subst hji
      rw [putOs_ne nd1] at hx
      unfold putO at hx
      rw [hi] at hx
      rw [List.getElem?_set_self (List.getElem?_eq_some_iff.mp hi).1] at hx
      rw [plc_of hi] at b2
      exact ⟨a, u, w, (Option.some.inj hx).symm, hi, b1, b2⟩
    · have hj' : j ∈ is := (List.mem_cons.mp hj).elim (fun e => absurd e hji) id
      have same : ∀ k ∈ is, (putO δ i u)[k]? = δ[k]? := fun k hk => putO_ne fun e => nd1 (e ▸ hk)
      have e : is.map (plc (putO δ i u)) = is.map (plc δ) := List.map_congr_left fun k hk => by
        unfold plc
        rw [same k hk]
      obtain ⟨a', u', u0, q1, q2, q3⟩ := putOs_at nd2 (fun k hk => by rw [same k hk]; exact own k (List.mem_cons_of_mem _ hk)) (by rw [e]; exact b3) hj' hx
      rw [same j hj'] at q2
      exact ⟨a', u', u0, q1, q2, q3⟩
  | _ :: _, [], _, _, _, _, _, hb, _, _ => hb.elim
theorem plc_nd (s : S K T B H σ δ) : ∀ {is : List Nat}, is.Nodup → (∀ i ∈ is, ∃ a u, δ[i]? = some (.own a u)) → (is.map (plc δ)).Nodup
  | [], _, _ => List.nodup_nil
  | i :: is, nd, own => by
    obtain ⟨nd1, nd2⟩ := List.nodup_cons.mp nd
    rw [List.map_cons]
    refine List.nodup_cons.mpr ⟨fun m => ?_, plc_nd s nd2 fun k hk => own k (List.mem_cons_of_mem _ hk)⟩
    obtain ⟨k, hk, e⟩ := List.mem_map.mp m
    obtain ⟨a, u, hi⟩ := own i List.mem_cons_self
    obtain ⟨b, w, hk'⟩ := own k (List.mem_cons_of_mem _ hk)
    rw [plc_of hi, plc_of hk'] at e
    have q := s.inj hi hk' e.symm
    exact nd1 (q ▸ hk)
theorem plc_ow {is : List Nat} (own : ∀ i ∈ is, ∃ a u, δ[i]? = some (.own a u)) : ∀ a ∈ is.map (plc δ), a ∈ ow δ B := fun a m => by
  obtain ⟨k, hk, rfl⟩ := List.mem_map.mp m
  obtain ⟨b, w, h⟩ := own k hk
  rw [plc_of h]
  exact mem_ow.mpr (.inl ⟨k, w, h⟩)
theorem argr_own : ∀ {rs : List R} {as : List Ar} {is I : List Nat}, ArgR δ I rs as is → ∀ i ∈ is, ∃ a u, δ[i]? = some (.own a u)
  | [], [], [], _, _, i, hi => by cases hi
  | .val d :: rs, .val e :: as, is, I, h, i, hi => argr_own h.2 i hi
  | .bor k :: rs, .own w :: as, j :: is, I, h, i, hi => by
    obtain ⟨rfl, ⟨a, q⟩, h⟩ := h
    rcases List.mem_cons.mp hi with e | hi
    · exact ⟨a, w, e ▸ q⟩
    · exact argr_own h i hi
  | .bor k :: rs, .val e :: as, is, I, h, i, hi => argr_own h.2.2 i hi
  | [], _ :: _, _, _, h, _, _ => by simp [ArgR] at h
  | [], [], _ :: _, _, h, _, _ => by simp [ArgR] at h
  | .val _ :: _, [], _, _, h, _, _ => by simp [ArgR] at h
  | .val _ :: _, .own _ :: _, _, _, h, _, _ => by simp [ArgR] at h
  | .bor _ :: _, [], _, _, h, _, _ => by simp [ArgR] at h
  | .bor _ :: _, .own _ :: _, [], _, h, _, _ => by simp [ArgR] at h
  | .new _ :: _, _, _, _, h, _, _ => by simp [ArgR] at h
theorem argr_ok (s : S K T B H σ δ) {A : List Addr} {I : List Nat} (hI : ∀ i ∈ I, ∃ a u, δ[i]? = some (.own a u)) (hA : ∀ a ∈ A, a ∈ I.map (plc δ)) : ∀ {vs : List V} {rs : List R} {as : List Ar} {is : List Nat}, Vrs K B σ δ H vs rs → ArgR δ I rs as is →
    ArgsOk K (dl H A) H vs as (is.map (plc δ))
  | [], [], [], [], _, _ => trivial
  | v :: vs, .val d :: rs, .val e :: as, is, h, a => by
    obtain ⟨rfl, a⟩ := a
    exact ⟨dp_mono (dl_less fun a m => plc_ow hI a (hA a m)) _ _ h.1, argr_ok s hI hA h.2 a⟩
  | v :: vs, .bor k :: rs, .own w :: as, j :: is, h, a => by
    obtain ⟨rfl, ⟨b, q⟩, a⟩ := a
    obtain ⟨q1, q2⟩ := s.hp q
    have h1 : σ[j]? = some (some v) := h.1
    rw [h1] at q1
    cases q1
    refine ⟨?_, ?_, argr_ok s hI hA h.2 a⟩
    · rw [plc_of q]
    · rw [plc_of q]
      exact q2.mono (dp_mono (dl_less fun a m => plc_ow hI a (hA a m))) rfl
  | v :: vs, .bor k :: rs, .val e :: as, is, h, a => by
    obtain ⟨⟨b, ds, q, rfl⟩, nI, a⟩ := a
    obtain ⟨q1, xs, q2, q3⟩ := s.hp q
    have h1 : σ[k]? = some (some v) := h.1
    rw [h1] at q1
    cases q1
    refine ⟨.lst (.inl (.inl (dl_of q2 fun m => ?_))) (da_mono (dl_less fun a m => plc_ow hI a (hA a m)) _ _ q3), argr_ok s hI hA h.2 a⟩
    obtain ⟨j, hj, e⟩ := List.mem_map.mp (hA _ m)
    obtain ⟨c, w, hc⟩ := hI j hj
    rw [plc_of hc] at e
    exact nI (s.inj hc q e ▸ hj)
  | [], _ :: _, _, _, h, _ => h.elim
  | _ :: _, [], _, _, h, _ => h.elim
  | [], [], _ :: _, _, _, h => by simp [ArgR] at h
  | [], [], [], _ :: _, _, h => by simp [ArgR] at h
  | _ :: _, .val _ :: _, [], _, _, h => by simp [ArgR] at h
  | _ :: _, .val _ :: _, .own _ :: _, _, _, h => by simp [ArgR] at h
  | _ :: _, .bor _ :: _, [], _, _, h => by simp [ArgR] at h
  | _ :: _, .bor _ :: _, .own _ :: _, [], _, h => by simp [ArgR] at h
  | _ :: _, .new _ :: _, _, _, _, h => by simp [ArgR] at h
theorem argr_bx : ∀ {vs : List V} {rs : List R} {as : List Ar} {is I : List Nat} {B : Lo}, Bxs B B' vs rs → ArgR δ I rs as is → B' = B
  | [], _, _, _, _, _, h, _ => h
  | _ :: _, [], _, _, _, _, h, _ => h
  | v :: vs, .val d :: rs, .val e :: as, is, I, B, ⟨B1, h1, h2⟩, a => by
    have e1 : B1 = B := h1
    rw [← e1]
    exact argr_bx h2 a.2
  | v :: vs, .bor k :: rs, .own w :: as, j :: is, I, B, ⟨B1, h1, h2⟩, a => by
    have e1 : B1 = B := h1
    rw [← e1]
    exact argr_bx h2 a.2.2
  | v :: vs, .bor k :: rs, .val e :: as, is, I, B, ⟨B1, h1, h2⟩, a => by
    have e1 : B1 = B := h1
    rw [← e1]
    exact argr_bx h2 a.2.2
  | _ :: _, .val _ :: _, [], _, _, _, _, h => by simp [ArgR] at h
  | _ :: _, .val _ :: _, .own _ :: _, _, _, _, _, h => by simp [ArgR] at h
  | _ :: _, .bor _ :: _, [], _, _, _, _, h => by simp [ArgR] at h
  | _ :: _, .bor _ :: _, .own _ :: _, [], _, _, _, h => by simp [ArgR] at h
  | _ :: _, .new _ :: _, _, _, _, _, _, h => by simp [ArgR] at h
/-- behind a call that got the objects of the names is -/
theorem rs_call {Q : VK} {is : List Nat} {us : List OV} (s : S K T B H σ δ) (g0 : Go A0 (ow δ B) H0 H) (nd : is.Nodup) (own : ∀ i ∈ is, ∃ a u, δ[i]? = some (.own a u)) (hT : TabsN T H') (g : Go (is.map (plc δ)) (is.map (plc δ)) H H') (h : RvOk K H H' v r) (hb : Behind K H' (is.map (plc δ)) us)
    (k : ∀ v H' r δ' B', RS K T B B' A0 H0 H' σ δ' v r → P r δ' → Q v H') (p : P r (putOs δ is us)) : Q v H' := by
  have how : ow (putOs δ is us) B = ow δ B := putOs_ow
  have hs : ∀ (i : Nat) (x : Sl), (putOs δ is us)[i]? = some x → (δ[i]? = some x ∧ ∀ a u, x = .own a u → a ∉ is.map (plc δ)) ∨ ∃ a u u0, x = .own a u ∧ δ[i]? = some (.own a u0) ∧ OvImm u ∧ Holds K H' H' a u := fun i x hx => by
    by_cases hi : i ∈ is
    · exact .inr (putOs_at nd own hb hi hx)
    · rw [putOs_ne hi] at hx
      refine .inl ⟨hx, fun a u e m => ?_⟩
      subst e
      obtain ⟨j, hj, e⟩ := List.mem_map.mp m
      obtain ⟨b, w, hj'⟩ := own j hj
      rw [plc_of hj'] at e
      exact hi (s.inj hj' hx e ▸ hj)
  have nB : ∀ q ∈ B, q.1 ∉ is.map (plc δ) := fun q hq m => by
    obtain ⟨j, hj, e⟩ := List.mem_map.mp m
    obtain ⟨b, w, hj'⟩ := own j hj
    rw [plc_of hj'] at e
    have hl : j < δ.length := (List.getElem?_eq_some_iff.mp hj').1
    have hp := ow_own (δ := δ) (p := b) (u := w) (B := B) hl
    rw [ow_same hj'] at hp
    refine (List.nodup_cons.mp (hp.nodup_iff.mp s.nd)).1 (mem_ow.mpr (.inr ⟨q.2, ?_⟩))
    rw [e]
    exact hq
  have sub := plc_ow (B := B) own
  have g1 : Go (ow δ B) (ow δ B) H H' := ⟨(g.more sub).ext, g.dom, fun a m => .inl m⟩
  cases r with
  | val d =>
    have s1 : S K T B H' σ (putOs δ is us) := s.call g hT sub (fun a m => by rw [how] at m; exact .inl m) (by rw [how]; exact s.nd) putOs_len hs fun q hq => .inl ⟨hq, nB q hq⟩
    exact k v H' (.val d) _ B ⟨s1, by rw [how]; exact g0.trans g1, s1.imm h.1 h.2, rfl⟩ p
  | new u =>
    obtain ⟨q, rfl, h1, h2, h3⟩ := h
    have nq : q ∉ ow (putOs δ is us) B := fun m => by
      rw [how] at m
      exact s.free h1 m
    have s1 : S K T ((q, u) :: B) H' σ (putOs δ is us) := s.call g hT sub (fun a m => (List.mem_cons.mp (ow_loose.mem_iff.mp m)).elim (fun z => .inr (z ▸ h1)) fun z => by rw [how] at z; exact .inl z)
      (ow_loose.nodup_iff.mpr (List.nodup_cons.mpr ⟨nq, by rw [how]; exact s.nd⟩)) putOs_len hs fun x hx => (List.mem_cons.mp hx).elim (fun z => .inr (by rw [z]; exact ⟨h2, h3⟩)) fun z => .inl ⟨z, nB x z⟩
    refine k _ H' (.new u) _ ((q, u) :: B) ⟨s1, g0.trans ⟨g1.ext, g1.dom, fun a m => ?_⟩, ⟨q, rfl, List.mem_cons_self⟩, ⟨q, rfl, rfl⟩⟩ p
    rcases List.mem_cons.mp (ow_loose.mem_iff.mp m) with z | z
    · exact .inr (z ▸ h1)
    · rw [how] at z
      exact .inl z
  | bor i => exact h.elim
/-- f(..) -/
theorem ex_call {F : FS} {ta : TA} {X : XK} (h : ExA K T ta δ fun rs δ1 => ∃ as is, ArgR δ1 is rs as is ∧ is.Nodup ∧ F as fun r us => P r (putOs δ1 is us)) : Ex K T (tCall (spOf K T F) [] X ta) δ P := fun B H σ s Q k =>
  h B H σ s _ fun vs H1 rs δ1 B1 R1 ⟨as, is, ar, nd, f⟩ => by
    have e1 : B1 = B := argr_bx R1.bx ar
    subst e1
    have own := argr_own ar
    show spOf K T F (vs ++ []) H1 Q X
    rw [List.append_nil]
    exact ⟨is.map (plc δ1), as, _, plc_nd R1.s nd own, R1.s.tab, argr_ok R1.s own (fun a m => m) R1.vr ar, f, fun v H' r us hT g hr hb p => rs_call R1.s R1.go nd own hT g hr hb k p⟩
/-- a new list as an argument that is only read -/
theorem ex_fz (h : Ex K T te δ fun r δ1 => ∃ d, Fz r d ∧ P (.val d) δ1) : Ex K T te δ P := fun B H σ s Q k =>
  h B H σ s _ fun v H1 r δ1 B1 R1 ⟨d, f, p⟩ => by
    obtain ⟨s1, g1, hv⟩ := rs_fz R1 f
    exact k v H1 (.val d) δ1 B ⟨s1, g1, hv, rfl⟩ p

/-! ### a def, by its body -/
def slotsOf : List Ar → List Addr → List Sl
  | .val d :: as, ps => .val d :: slotsOf as ps
  | .own u :: as, p :: ps => .own p u :: slotsOf as ps
  | _, _ => []
/-- what the owned parameters hold at the end -/
def Fin : List Ar → List Addr → List Sl → List OV → Prop
  | [], [], _, us => us = []
  | .val _ :: as, ps, _ :: δ, us => Fin as ps δ us
  | .own _ :: as, p :: ps, .own q u :: δ, us => q = p ∧ OvImm u ∧ ∃ us', us = u :: us' ∧ Fin as ps δ us'
  | _, _, _, _ => False
def RetR (n : Nat) (δ : List Sl) : R → R → Prop
  | .val d, r => imm d = true ∧ r = .val d
  | .new u, r => OvImm u ∧ r = .new u
  | .bor i, r => n ≤ i ∧ ∃ a u, δ[i]? = some (.own a u) ∧ OvImm u ∧ r = .new u
def owns : List Ar → Nat
  | [] => 0
  | .val _ :: as => owns as
  | .own _ :: as => owns as + 1
theorem argsOk_len {L : Hp} : ∀ {vs : List V} {as : List Ar} {ps : List Addr}, ArgsOk K L H vs as ps → vs.length = as.length ∧ ps.length = owns as ∧ (slotsOf as ps).length = as.length
  | [], [], [], _ => ⟨rfl, rfl, rfl⟩
  | _ :: vs, .val d :: as, ps, h => by
    obtain ⟨h1, h2, h3⟩ := argsOk_len h.2
    exact ⟨congrArg (· + 1) h1, h2, congrArg (· + 1) h3⟩
  | _ :: vs, .own u :: as, p :: ps, h => by
    obtain ⟨h1, h2, h3⟩ := argsOk_len h.2.2
    exact ⟨congrArg (· + 1) h1, congrArg (· + 1) h2, congrArg (· + 1) h3⟩
  | [], _ :: _, _, h => by simp [ArgsOk] at h
  | [], [], _ :: _, h => by simp [ArgsOk] at h
  | _ :: _, [], _, h => by simp [ArgsOk] at h
  | _ :: _, .own _ :: _, [], h => by simp [ArgsOk] at h
theorem argsOk_at {L : Hp} : ∀ {vs : List V} {as : List Ar} {ps : List Addr} {i : Nat} {x : Sl}, ArgsOk K L H vs as ps → (slotsOf as ps)[i]? = some x →
    ∃ v, vs[i]? = some v ∧ ((∃ d, x = .val d ∧ Dp K L v d) ∨ ∃ a u, x = .own a u ∧ v = .ref a ∧ Holds K L H a u)
  | [], [], [], i, x, _, e => by simp [slotsOf] at e
  | v :: vs, .val d :: as, ps, 0, x, h, e => ⟨v, rfl, .inl ⟨d, (Option.some.inj e).symm, h.1⟩⟩
  | v :: vs, .val d :: as, ps, i + 1, x, h, e => argsOk_at (i := i) h.2 e
  | v :: vs, .own u :: as, p :: ps, 0, x, h, e => ⟨v, rfl, .inr ⟨p, u, (Option.some.inj e).symm, h.1, h.2.1⟩⟩
  | v :: vs, .own u :: as, p :: ps, i + 1, x, h, e => argsOk_at (i := i) h.2.2 e
  | [], _ :: _, _, _, _, h, _ => by simp [ArgsOk] at h
  | [], [], _ :: _, _, _, h, _ => by simp [ArgsOk] at h
  | _ :: _, [], _, _, _, h, _ => by simp [ArgsOk] at h
  | _ :: _, .own _ :: _, [], _, _, h, _ => by simp [ArgsOk] at h
theorem slots_ow {L : Hp} : ∀ {vs : List V} {as : List Ar} {ps : List Addr}, ArgsOk K L H vs as ps → (slotsOf as ps).flatMap ow1 = ps
  | [], [], [], _ => rfl
  | _ :: vs, .val d :: as, ps, h => by
    show (Sl.val d :: slotsOf as ps).flatMap ow1 = ps
    rw [List.flatMap_cons, slots_ow h.2]
    rfl
  | _ :: vs, .own u :: as, p :: ps, h => by
    show (Sl.own p u :: slotsOf as ps).flatMap ow1 = p :: ps
    rw [List.flatMap_cons, slots_ow h.2.2]
    rfl
  | [], _ :: _, _, h => by simp [ArgsOk] at h
  | [], [], _ :: _, h => by simp [ArgsOk] at h
  | _ :: _, [], _, h => by simp [ArgsOk] at h
  | _ :: _, .own _ :: _, [], h => by simp [ArgsOk] at h
theorem rep_ow : ∀ n : Nat, (List.replicate n Sl.no).flatMap ow1 = []
  | 0 => rfl
  | n + 1 => by rw [List.replicate_succ, List.flatMap_cons, rep_ow n]; rfl
theorem entry_ow {L : Hp} {vs : List V} {as : List Ar} {n : Nat} (h : ArgsOk K L H vs as A) : ow (slotsOf as A ++ List.replicate n .no) [] = A := by
  unfold ow
  rw [List.flatMap_append, slots_ow h, rep_ow]
  simp
theorem entry {vs : List V} {as : List Ar} {N : List Str} (h : ArgsOk K (dl H A) H vs as A) (nd : A.Nodup) (hT : TabsN T H) : S K T [] H (L2.start N vs) (slotsOf as A ++ List.replicate (N.length - vs.length) .no) := by
  obtain ⟨l1, l2, l3⟩ := argsOk_len h
  have eo := entry_ow (n := N.length - vs.length) h
  refine ⟨?_, hT, fun i x hx => ?_, (fun p hp => by cases hp), by rw [eo]; exact nd⟩
  · unfold L2.start
    rw [List.length_append, List.length_append, List.length_map, List.length_replicate, List.length_replicate, l3, l1]
  · rw [eo]
    by_cases hi : i < as.length
    · rw [List.getElem?_append_left (by rw [l3]; exact hi)] at hx
      obtain ⟨v, e, q⟩ := argsOk_at h hx
      have es : (L2.start N vs)[i]? = some (some v) := by
        unfold L2.start
        rw [List.getElem?_append_left (by rw [List.length_map, l1]; exact hi), List.getElem?_map, e]
        rfl
      rw [es]
      rcases q with ⟨d, rfl, q⟩ | ⟨a, u, rfl, rfl, q⟩
      · exact ⟨v, rfl, q⟩
      · exact ⟨rfl, q⟩
    · rw [List.getElem?_append_right (by rw [l3]; omega), List.getElem?_replicate] at hx
      split at hx
      · cases hx
        trivial
      · cases hx
theorem fin_at : ∀ {as : List Ar} {ps : List Addr} {δ : List Sl} {us : List OV}, Fin as ps δ us → ∀ a ∈ ps, ∃ (i : Nat) (u : OV), i < as.length ∧ δ[i]? = some (.own a u)
  | [], [], _, _, _, a, m => by cases m
  | .val _ :: as, ps, _ :: δ, us, h, a, m => by
    obtain ⟨i, u, h1, h2⟩ := fin_at (δ := δ) h a m
    exact ⟨i + 1, u, Nat.succ_lt_succ h1, h2⟩
  | .own _ :: as, p :: ps, .own q u :: δ, us, h, a, m => by
    obtain ⟨rfl, _, us', _, h⟩ := h
    rcases List.mem_cons.mp m with e | m
    · exact ⟨0, u, Nat.succ_pos _, by rw [e]; rfl⟩
    · obtain ⟨i, u, h1, h2⟩ := fin_at (δ := δ) h a m
      exact ⟨i + 1, u, Nat.succ_lt_succ h1, h2⟩
  | [], _ :: _, _, _, h, _, _ => by simp [Fin] at h
  | .val _ :: _, _, [], _, h, _, _ => by simp [Fin] at h
  | .own _ :: _, [], _, _, h, _, _ => by simp [Fin] at h
  | .own _ :: _, _ :: _, [], _, h, _, _ => by simp [Fin] at h
  | .own _ :: _, _ :: _, .no :: _, _, h, _, _ => by simp [Fin] at h
  | .own _ :: _, _ :: _, .val _ :: _, _, h, _, _ => by simp [Fin] at h
theorem fin_behind (s : S K T B H' σ δ) : ∀ {as : List Ar} {ps : List Addr} {δ1 : List Sl} {us : List OV}, (∀ x ∈ δ1, x ∈ δ) → Fin as ps δ1 us → Behind K H' ps us
  | [], [], _, us, _, h => by
    have e : us = [] := by simpa [Fin] using h
    subst e
    trivial
  | .val _ :: as, ps, _ :: δ1, us, m, h => fin_behind s (δ1 := δ1) (fun x hx => m x (List.mem_cons_of_mem _ hx)) h
  | .own _ :: as, p :: ps, .own q u :: δ1, us, m, h => by
    obtain ⟨rfl, hi, us', rfl, h⟩ := h
    obtain ⟨j, hj⟩ := List.mem_iff_getElem?.mp (m _ List.mem_cons_self)
    exact ⟨hi, (s.hp hj).2.mono (dp_mono dl_rk) rfl, fin_behind s (δ1 := δ1) (fun x hx => m x (List.mem_cons_of_mem _ hx)) h⟩
  | [], _ :: _, _, _, _, h => by simp [Fin] at h
  | .val _ :: _, _, [], _, _, h => by simp [Fin] at h
  | .own _ :: _, [], _, _, _, h => by simp [Fin] at h
  | .own _ :: _, _ :: _, [], _, _, h => by simp [Fin] at h
  | .own _ :: _, _ :: _, .no :: _, _, _, h => by simp [Fin] at h
  | .own _ :: _, _ :: _, .val _ :: _, _, _, h => by simp [Fin] at h
theorem leave {as : List Ar} {us : List OV} {r' : R} (R1 : RS K T [] B' A H H' σ δ v r) (f : Fin as A δ us) (q : RetR as.length δ r r') : RvOk K H H' v r' := by
  have apart : ∀ p, p ∈ ow δ B' → (∀ (i : Nat) (u : OV), i < as.length → δ[i]? = some (.own p u) → False) → H p = none := fun p m n => by
    rcases R1.go.org p m with z | z
    · obtain ⟨i, u, h1, h2⟩ := fin_at f p z
      exact (n i u h1 h2).elim
    · exact z
  cases r with
  | val d =>
    obtain ⟨h1, rfl⟩ := q
    exact ⟨h1, dp_full R1.vr⟩
  | new u =>
    obtain ⟨h1, rfl⟩ := q
    obtain ⟨p, rfl, e⟩ := R1.bx
    subst e
    refine ⟨p, rfl, apart p (mem_ow.mpr (.inr ⟨u, List.mem_cons_self⟩)) fun i w _ hi => ?_, h1, (R1.s.loose _ List.mem_cons_self).mono (dp_mono dl_rk) rfl⟩
    have nd := ow_loose.nodup_iff.mp R1.s.nd
    exact (List.nodup_cons.mp nd).1 (mem_ow.mpr (.inl ⟨i, w, hi⟩))
  | bor j =>
    obtain ⟨hj, a, u, h1, h2, rfl⟩ := q
    obtain ⟨q1, q2⟩ := R1.s.hp h1
    have hv : σ[j]? = some (some v) := R1.vr
    rw [hv] at q1
    cases q1
    refine ⟨a, rfl, apart a (mem_ow.mpr (.inl ⟨j, u, h1⟩)) fun i w hi e => ?_, h2, q2.mono (dp_mono dl_rk) rfl⟩
    have := R1.s.inj h1 e rfl
    omega
/-- THE RULE: a def keeps its promise in data -/
theorem fs_ok {P : Program} {w : World} {mg : Str → Option Value} {base : Heap} {x qual : Str} {st : Stmt} {f : Addr} {fd : FuncData} {N ps : List Str} {k : Nat} {F : FS} (Fn : Fun K x qual st f fd) (Sc : FnScope N ps (defScope st)) (len : ∀ as Q, F as Q → as.length = ps.length)
    (body : ∀ (cdv : Value) (A : Around) (outer : List Env) (s : Shared) (H : Hp) (E : XK), Room k (A.deeper (envOfC qual (defScope st) s.heap.objs.size f cdv)) → ∀ (as : List Ar) (Q : R → List OV → Prop) (qs : List Addr), F as Q → qs.length = owns as →
      ∃ t, PSs (cxOf CX0 P w K mg base N qual (defScope st) f cdv A outer s H E).nox (defBody st) t ∧
        Ss K T t (slotsOf as qs ++ List.replicate (N.length - as.length) .no) { nx := fun δ' => ∃ us, Fin as qs δ' us ∧ Q (.val .none) us, rt := fun r δ' => ∃ us r', Fin as qs δ' us ∧ RetR as.length δ' r r' ∧ Q r' us }) :
    FnOk P w K mg base CX0 (k + 1) f fd ps (spOf K T F) := by
  refine Fn.ok Sc (fun vs H Q E h => ?_) (fun cdv Ar outer s H vs Q E hr h => ?_)
  · obtain ⟨A, as, P, nd, hT, ha, f, _⟩ := h
    rw [(argsOk_len ha).1]
    exact len as P f
  · obtain ⟨A, as, P, nd, hT, ha, f, fin⟩ := h
    obtain ⟨t, ht, hs⟩ := body cdv Ar outer s H E hr as P A f (argsOk_len ha).2.1
    have s0 := entry (N := N) ha nd hT
    have eo := entry_ow (n := N.length - vs.length) ha
    rw [(argsOk_len ha).1] at s0 eo
    refine ⟨t, ht, hs [] H _ s0 _ (fun σ' H' δ' s' g' ⟨us, q1, q2⟩ => ?_) (fun v σ' H' r δ' B' R1 ⟨us, r', q1, q2, q3⟩ => ?_) (fun _ _ _ _ _ z => z.elim) (fun _ _ _ _ _ z => z.elim)⟩
    · rw [eo] at g'
      exact fin .non H' (.val .none) us s'.tab ⟨g'.ext, g'.dom, fun a m => .inl m⟩ ⟨rfl, .non⟩ (fin_behind s' (fun x hx => hx) q1) q2
    · have R2 := R1
      rw [eo] at R2
      have g' := R2.go
      exact fin v H' r' us R2.s.tab ⟨g'.ext, g'.dom, fun a m => .inl m⟩ (leave R2 q1 q2) (fin_behind R2.s (fun x hx => hx) q1) q3
end
end Pl

set_option Elab.async false
set_option linter.all false
set_option maxRecDepth 100000
set_option maxHeartbeats 1000001
namespace Pl
open PySem L2 LamX NdefX PyProof.Rows
section
variable {K : PySem.W.Frag} {T : List NTab} {B B' B1 : Lo} {A A0 : List Addr} {H0 H H' : Hp} {σ : L2.St} {δ δ' : List Sl} {v : V} {r : R} {E : Es} {te ta tb : TE} {tt t1 t2 : TT} {ts t u : TS} {g : TG} {P : R → List Sl → Prop}

/-! ### built-ins called -/
theorem ex_cb {rr : List V → Hp → VK → Prop} {t : TA} (h : ExA K T t δ fun rs δ1 => ∃ ds, AsDs δ1 rs ds ∧ CbD K rr ds fun z => P z δ1) : Ex K T (tCB rr t) δ P := fun B H σ s Q k =>
  h B H σ s _ fun vs H1 rs δ1 B1 R1 ⟨ds, a, o⟩ => by
    obtain ⟨C, rfl⟩ := R1.bx.suf
    exact o H1 vs Q (R1.vr.dp R1.s a) (out_suf R1.s R1.go k)
theorem dp_l {v : V} {ds : List D} (h : Dp K H v (.list ds)) : ∃ a xs, v = .ref a ∧ SqL K H a xs ∧ DpAll K H xs ds := by
  cases h with
  | lst hs ha => exact ⟨_, _, rfl, hs, ha⟩
theorem dp_t {v : V} {ds : List D} (h : Dp K H v (.tuple ds)) : ∃ a xs, v = .ref a ∧ SqT K H a xs ∧ DpAll K H xs ds := by
  cases h with
  | tup hs ha => exact ⟨_, _, rfl, hs, ha⟩
theorem da_1 {vs : List V} {d : D} (h : DpAll K H vs [d]) : ∃ v, vs = [v] ∧ Dp K H v d := by
  cases h with
  | cons h1 h2 =>
    cases h2
    exact ⟨_, rfl, h1⟩
theorem da_2 {vs : List V} {d e : D} (h : DpAll K H vs [d, e]) : ∃ v w, vs = [v, w] ∧ Dp K H v d ∧ Dp K H w e := by
  cases h with
  | cons h1 h2 =>
    obtain ⟨w, rfl, h3⟩ := da_1 h2
    exact ⟨_, w, rfl, h1, h3⟩
theorem da_ints : ∀ {vs : List V} {ns : List Int}, DpAll K H vs (ns.map .int) → vs = ns.map V.int
  | _, [], h => by cases h; rfl
  | _, n :: ns, h => by
    have h : DpAll K H _ (.int n :: ns.map .int) := h
    cases h with
    | cons h1 h2 =>
      cases h1
      rw [da_ints h2]
      rfl
theorem da_bools : ∀ {vs : List V} {ns : List Bool}, DpAll K H vs (ns.map .bool) → vs = ns.map V.bl
  | _, [], h => by cases h; rfl
  | _, n :: ns, h => by
    have h : DpAll K H _ (.bool n :: ns.map .bool) := h
    cases h with
    | cons h1 h2 =>
      cases h1
      rw [da_bools h2]
      rfl
theorem da_ofInts : ∀ {ns : List Int}, DpAll K H (ns.map V.int) (ns.map .int)
  | [] => .nil
  | n :: ns => .cons (.int n) da_ofInts
theorem imm_ints : ∀ ns : List Int, immAll (ns.map .int) = true
  | [] => rfl
  | n :: ns => by
    show (imm (.int n) && immAll (ns.map .int)) = true
    rw [imm_ints ns]
    rfl
abbrev rLen (K : PySem.W.Frag) : List V → Hp → VK → Prop := fun xs H Q => ∃ x n, xs = [x] ∧ LenV K x H n ∧ Q (.int n) H
theorem cb_lenL {ds : List D} {P : R → Prop} (p : P (.val (.int ds.length))) : CbD K (rLen K) [.list ds] P := fun H vs Q h o => by
  obtain ⟨v, rfl, h1⟩ := da_1 h
  obtain ⟨a, xs, rfl, hs, ha⟩ := dp_l h1
  exact ⟨_, xs.length, rfl, .inl ⟨xs, hs, rfl⟩, by rw [da_len ha]; exact o.val _ _ (.int _) p⟩
theorem cb_lenT {ds : List D} {P : R → Prop} (p : P (.val (.int ds.length))) : CbD K (rLen K) [.tuple ds] P := fun H vs Q h o => by
  obtain ⟨v, rfl, h1⟩ := da_1 h
  obtain ⟨a, xs, rfl, hs, ha⟩ := dp_t h1
  exact ⟨_, xs.length, rfl, .inr ⟨xs, hs, rfl⟩, by rw [da_len ha]; exact o.val _ _ (.int _) p⟩
abbrev rInt1 : List V → Hp → VK → Prop := fun xs H Q => (∃ i, xs = [.int i] ∧ Q (.int i) H) ∨ ∃ k, xs = [.bl k] ∧ Q (.int (if k then 1 else 0)) H
theorem cb_int {i : Int} {P : R → Prop} (p : P (.val (.int i))) : CbD K rInt1 [.int i] P := fun H vs Q h o => by
  obtain ⟨v, rfl, h1⟩ := da_1 h
  cases h1
  exact .inl ⟨i, rfl, o.val _ _ (.int _) p⟩
theorem cb_intB {b : Bool} {P : R → Prop} (p : P (.val (.int (if b then 1 else 0)))) : CbD K rInt1 [.bool b] P := fun H vs Q h o => by
  obtain ⟨v, rfl, h1⟩ := da_1 h
  cases h1
  exact .inr ⟨b, rfl, o.val _ _ (.int _) p⟩
theorem cb_sum {ns : List Int} {P : R → Prop} (p : P (.val (.int ns.sum))) : CbD K (rSum K) [.list (ns.map .int)] P := fun H vs Q h o => by
  obtain ⟨v, rfl, h1⟩ := da_1 h
  obtain ⟨a, xs, rfl, hs, ha⟩ := dp_l h1
  rw [da_ints ha] at hs
  exact ⟨a, ns, rfl, hs, o.val _ _ (.int _) p⟩
theorem cb_any {bs : List Bool} {P : R → Prop} (p : P (.val (.bool (bs.any id)))) : CbD K (rAny K) [.list (bs.map .bool)] P := fun H vs Q h o => by
  obtain ⟨v, rfl, h1⟩ := da_1 h
  obtain ⟨a, xs, rfl, hs, ha⟩ := dp_l h1
  rw [da_bools ha] at hs
  exact ⟨a, bs, rfl, hs, o.val _ _ (.bl _) p⟩
abbrev rListOf (K : PySem.W.Frag) : List V → Hp → VK → Prop := fun xs H Q => ∃ p ys, xs = [.ref p] ∧ (SqL K H p ys ∨ SqT K H p ys) ∧ ∀ l, H l = none → Q (.ref l) (upd H l (.lst ys))
abbrev rTupOf (K : PySem.W.Frag) : List V → Hp → VK → Prop := fun xs H Q => ∃ p ys, xs = [.ref p] ∧ ((SqL K H p ys ∧ ∀ l, H l = none → Q (.ref l) (upd H l (.tup ys))) ∨ (SqT K H p ys ∧ Q (.ref p) H))
theorem cb_listL {ds : List D} {P : R → Prop} (hi : immAll ds = true) (p : P (.new (.lst ds))) : CbD K (rListOf K) [.list ds] P := fun H vs Q h o => by
  obtain ⟨v, rfl, h1⟩ := da_1 h
  obtain ⟨a, xs, rfl, hs, ha⟩ := dp_l h1
  exact ⟨a, xs, rfl, .inl hs, fun l hl => o.lst l xs ds hl ha hi p⟩
theorem cb_listT {ds : List D} {P : R → Prop} (hi : immAll ds = true) (p : P (.new (.lst ds))) : CbD K (rListOf K) [.tuple ds] P := fun H vs Q h o => by
  obtain ⟨v, rfl, h1⟩ := da_1 h
  obtain ⟨a, xs, rfl, hs, ha⟩ := dp_t h1
  exact ⟨a, xs, rfl, .inr hs, fun l hl => o.lst l xs ds hl ha hi p⟩
theorem cb_tupL {ds : List D} {P : R → Prop} (hi : immAll ds = true) (p : P (.val (.tuple ds))) : CbD K (rTupOf K) [.list ds] P := fun H vs Q h o => by
  obtain ⟨v, rfl, h1⟩ := da_1 h
  obtain ⟨a, xs, rfl, hs, ha⟩ := dp_l h1
  exact ⟨a, xs, rfl, .inl ⟨hs, fun l hl => o.tup l xs ds hl ha hi p⟩⟩
theorem cb_tupT {ds : List D} {P : R → Prop} (hi : immAll ds = true) (p : P (.val (.tuple ds))) : CbD K (rTupOf K) [.tuple ds] P := fun H vs Q h o => by
  obtain ⟨v, rfl, h1⟩ := da_1 h
  obtain ⟨a, xs, rfl, hs, ha⟩ := dp_t h1
  refine ⟨a, xs, rfl, .inr ⟨hs, o.old _ (.tuple ds) (.tup hs ha) ?_ p⟩⟩
  simpa [imm] using hi
/-- in, not in: flat things -/
def flatD : D → Option V
  | .int i => some (.int i)
  | .str x => some (.str x)
  | .bool b => some (.bl b)
  | .none => some .non
  | _ => none
theorem flat_dp {v : V} {d : D} {w : V} (h : Dp K H v d) (e : flatD d = some w) : v = w := by
  cases d <;> simp [flatD] at e <;> cases h <;> exact e
theorem inV_ints {x : Int} : ∀ ns : List Int, inV (.int x) (ns.map V.int) = decide (x ∈ ns)
  | [] => by simp [inV]
  | n :: ns => by
    show (eqV (.int n) (.int x) || inV (.int x) (ns.map V.int)) = _
    rw [inV_ints ns]
    show ((n == x) || decide (x ∈ ns)) = _
    by_cases hx : x = n
    · subst hx; simp
    · have : ¬ n = x := fun z => hx z.symm
      simp [hx, this]
theorem flat_ints : ∀ ns : List Int, (ns.map V.int).all flatV = true
  | [] => rfl
  | _ :: ns => flat_ints ns
theorem opd_inL {x : Int} {ns : List Int} {P : R → Prop} (p : P (.val (.bool (decide (x ∈ ns))))) : OpD K (rIn K false) (.int x) (.list (ns.map .int)) P := fun H v w Q h1 h2 o => by
  cases h1
  obtain ⟨a, xs, rfl, hs, ha⟩ := dp_l h2
  rw [da_ints ha] at hs
  refine ⟨a, _, rfl, .inl hs, rfl, flat_ints ns, ?_⟩
  rw [if_neg Bool.false_ne_true, inV_ints]
  exact o.val _ _ (.bl _) p
theorem opd_inT {x : Int} {ns : List Int} {P : R → Prop} (p : P (.val (.bool (decide (x ∈ ns))))) : OpD K (rIn K false) (.int x) (.tuple (ns.map .int)) P := fun H v w Q h1 h2 o => by
  cases h1
  obtain ⟨a, xs, rfl, hs, ha⟩ := dp_t h2
  rw [da_ints ha] at hs
  refine ⟨a, _, rfl, .inr hs, rfl, flat_ints ns, ?_⟩
  rw [if_neg Bool.false_ne_true, inV_ints]
  exact o.val _ _ (.bl _) p
theorem opd_niL {x : Int} {ns : List Int} {P : R → Prop} (p : P (.val (.bool (!decide (x ∈ ns))))) : OpD K (rIn K true) (.int x) (.list (ns.map .int)) P := fun H v w Q h1 h2 o => by
  cases h1
  obtain ⟨a, xs, rfl, hs, ha⟩ := dp_l h2
  rw [da_ints ha] at hs
  refine ⟨a, _, rfl, .inl hs, rfl, flat_ints ns, ?_⟩
  rw [if_pos rfl, inV_ints]
  exact o.val _ _ (.bl _) p
theorem opd_niT {x : Int} {ns : List Int} {P : R → Prop} (p : P (.val (.bool (!decide (x ∈ ns))))) : OpD K (rIn K true) (.int x) (.tuple (ns.map .int)) P := fun H v w Q h1 h2 o => by
  cases h1
  obtain ⟨a, xs, rfl, hs, ha⟩ := dp_t h2
  rw [da_ints ha] at hs
  refine ⟨a, _, rfl, .inr hs, rfl, flat_ints ns, ?_⟩
  rw [if_pos rfl, inV_ints]
  exact o.val _ _ (.bl _) p
/-- t + u -/
theorem opd_catA {ds es : List D} {P : R → Prop} (hi : immAll ds = true) (hj : immAll es = true) (hl : ds.length + es.length ≤ 100000) (p : P (.val (.tuple (ds ++ es)))) : OpD K (rCatA K) (.tuple ds) (.tuple es) P := fun H v w Q h1 h2 o => by
  obtain ⟨a, xs, rfl, hs, ha⟩ := dp_t h1
  obtain ⟨b, ys, rfl, hs2, ha2⟩ := dp_t h2
  have both : ∀ l : List D, immAll l = true → immAll (l ++ es) = true := by
    intro l
    induction l with
    | nil => intro _; exact hj
    | cons d l ih =>
      intro h
      simp only [immAll, Bool.and_eq_true] at h
      simp only [List.cons_append, immAll, Bool.and_eq_true]
      exact ⟨h.1, ih h.2⟩
  refine ⟨a, b, xs, ys, rfl, rfl, hs, hs2, by rw [da_len ha, da_len ha2]; exact Nat.le_trans hl (by decide), fun e => ?_, fun _ e => ?_, fun _ _ q hq => ?_⟩
  · subst e
    cases ha
    exact o.old _ (.tuple es) (.tup hs2 ha2) (by simpa [imm] using hj) p
  · subst e
    cases ha2
    rw [List.append_nil] at p
    exact o.old _ (.tuple ds) (.tup hs ha) (by simpa [imm] using hi) p
  · exact o.tup q _ _ hq (da_app ha ha2) (both ds hi) p
/-! ### slices -/
def ExO (K : PySem.W.Frag) (T : List NTab) (to : TO) (δ : List Sl) (P : Option Int → List Sl → Prop) : Prop := ∀ (B : Lo) (H : Hp) (σ : L2.St), S K T B H σ δ → ∀ Q : Option Int → Hp → Prop,
  (∀ o H' δ', S K T B H' σ δ' → Go (ow δ B) (ow δ' B) H H' → P o δ' → Q o H') → to σ H Q
theorem exo_none {P : Option Int → List Sl → Prop} (p : P none δ) : ExO K T tNoPart δ P := fun B H σ s Q k => k none H δ s .refl p
theorem exo_some {P : Option Int → List Sl → Prop} (h : Ex K T te δ fun r δ1 => ∃ i, r = .val (.int i) ∧ P (some i) δ1) : ExO K T (tPart te) δ P := fun B H σ s Q k =>
  h B H σ s _ fun v H1 r δ1 B1 R1 ⟨i, e, p⟩ => by
    subst e
    have hb : B1 = B := R1.bx
    subst hb
    have v1 : Dp K _ v (.int i) := R1.vr
    cases v1
    exact ⟨i, rfl, k _ H1 δ1 R1.s R1.go p⟩
def cutD (ds : List D) (lo hi : Option Int) : List D := (ds.drop (HT.sIx ds.length 0 lo)).take (HT.sIx ds.length ds.length hi - HT.sIx ds.length 0 lo)
theorem da_cut {xs : List V} {ds : List D} {lo hi : Option Int} (h : DpAll K H xs ds) : DpAll K H (cutV xs lo hi) (cutD ds lo hi) := by
  unfold cutV cutD
  rw [da_len h]
  exact da_take _ (da_drop _ h)
theorem ex_slL {tl th : TO} (h : Ex K T te δ fun r δ1 => ExO K T tl δ1 fun lo δ2 => ExO K T th δ2 fun hi δ3 => ∃ ds, AsD δ3 r (.list ds) ∧ immAll (cutD ds lo hi) = true ∧ P (.new (.lst (cutD ds lo hi))) δ3) : Ex K T (tSl (rSlL K) te tl th) δ P := fun B H σ s Q k =>
  h B H σ s _ fun v H1 r δ1 B1 R1 h1 => h1 B1 H1 σ R1.s _ fun lo H2 δ2 s2 g2 h2 => h2 B1 H2 σ s2 _ fun hi H3 δ3 s3 g3 ⟨ds, a, hi', p⟩ => by
    obtain ⟨C, rfl⟩ := R1.bx.suf
    have v3 : Vr K (C ++ B) σ δ3 H3 v r := Vr.later (C := []) R1.vr (g2.trans g3)
    obtain ⟨b, xs, rfl, hs, ha⟩ := dp_l (v3.dp s3 a)
    exact ⟨b, xs, rfl, hs, fun q hq => (out_suf (P := P) s3 ((R1.go.trans g2).trans g3) k).lst q _ _ hq (da_cut ha) hi' p⟩
theorem immAll_mem {ds : List D} : immAll ds = true ↔ ∀ d ∈ ds, imm d = true := by
  induction ds with
  | nil => simp [immAll]
  | cons d ds ih => simp [immAll, ih]
theorem imm_rev {ds : List D} (h : immAll ds = true) : immAll ds.reverse = true := immAll_mem.mpr fun d m => immAll_mem.mp h d (List.mem_reverse.mp m)
theorem imm_cut {ds : List D} {lo hi : Option Int} (h : immAll ds = true) : immAll (cutD ds lo hi) = true := immAll_mem.mpr fun d m => immAll_mem.mp h d (List.mem_of_mem_drop (List.mem_of_mem_take m))
theorem ex_revL (h : Ex K T te δ fun r δ1 => ∃ ds, AsD δ1 r (.list ds) ∧ immAll ds = true ∧ P (.new (.lst ds.reverse)) δ1) : Ex K T (tRevL K te) δ P := fun B H σ s Q k =>
  h B H σ s _ fun v H1 r δ1 B1 R1 ⟨ds, a, hi, p⟩ => by
    obtain ⟨C, rfl⟩ := R1.bx.suf
    obtain ⟨b, xs, rfl, hs, ha⟩ := dp_l (R1.vr.dp R1.s a)
    exact ⟨b, xs, rfl, hs, fun q hq => (out_suf (P := P) R1.s R1.go k).lst q _ _ hq (da_rev ha) (imm_rev hi) p⟩
/-! ### isinstance -/
theorem ty_of {d : D} {v : V} (h : Dp K H v d) : ∃ t, TyX K H v t ∧ t = (match d with | .none => .type "NoneType" | .bool _ => .type "bool" | .int _ => .type "int" | .str _ => .type "str" | .list _ => .type "list" | .tuple _ => .type "tuple" | .dict _ => .type "dict") := by
  cases h with
  | non => exact ⟨_, .base .non, rfl⟩
  | bl b => exact ⟨_, .base (.bl b), rfl⟩
  | int i => exact ⟨_, .base (.int i), rfl⟩
  | str x => exact ⟨_, .base (.str x), rfl⟩
  | lst hs ha =>
    rcases hs with (hs | ⟨o, hs⟩) | ⟨o, _, _, e, c, _⟩
    · exact ⟨_, .base (.lst hs), rfl⟩
    · exact ⟨_, .base (.frz hs), rfl⟩
    · exact ⟨_, .kList e c, rfl⟩
  | tup hs ha =>
    rcases hs with (hs | ⟨o, hs⟩) | ⟨o, _, _, e, c, _⟩
    · exact ⟨_, .base (.tup hs), rfl⟩
    · exact ⟨_, .fTuple hs, rfl⟩
    · exact ⟨_, .kTuple e c, rfl⟩
def tyD : D → Value
  | .none => .type "NoneType" | .bool _ => .type "bool" | .int _ => .type "int" | .str _ => .type "str" | .list _ => .type "list" | .tuple _ => .type "tuple" | .dict _ => .type "dict"
/-- isinstance(x, T), T a built-in type -/
theorem ex_isi {n : String} {b : Bool} (h : Ex K T te δ fun r δ1 => ∃ d, AsD δ1 r d ∧ PySem.W.kitOne K (tyD d) (.type n) = some b ∧ P (.val (.bool b)) δ1) : Ex K T (tCB (rIsi K) (tCons te (tCons (tC (.ty n)) tNil))) δ P := fun B H σ s Q k =>
  h B H σ s _ fun v H1 r δ1 B1 R1 ⟨d, a, e, p⟩ => by
    obtain ⟨C, rfl⟩ := R1.bx.suf
    obtain ⟨t, h1, h2⟩ := ty_of (R1.vr.dp R1.s a)
    have h2 : t = tyD d := by rw [h2]; cases d <;> rfl
    subst h2
    exact ⟨v, .ty n, _, .type n, b, rfl, .ty n, h1, e, (out_suf (P := P) R1.s R1.go k).val _ _ (.bl _) p⟩
/-! ### truth -/
abbrev rTru (K : PySem.W.Frag) : V → Hp → (Bool → Hp → Prop) → Prop := fun x H Q => ∃ k, TruV K x H k ∧ Q k H
/-! ### x.bit_length() -/
theorem ex_bits (h : Ex K T te δ fun r δ1 => ∃ i, r = .val (.int i) ∧ P (.val (.int (Builtin.Int.intBits i : Nat))) δ1) : Ex K T (tBits te) δ P := fun B H σ s Q k =>
  h B H σ s _ fun v H1 r δ1 B1 R1 ⟨i, e, p⟩ => by
    subst e
    have hb : B1 = B := R1.bx
    subst hb
    have v1 : Dp K _ v (.int i) := R1.vr
    cases v1
    exact ⟨i, rfl, k _ H1 (.val (.int _)) δ1 B1 ⟨R1.s, R1.go, Dp.int _, rfl⟩ p⟩
/-! ### dicts with keys that are ints and texts -/
section
variable {κ : Type} [DecidableEq κ]
def valD (kvs : List (κ × D)) (k : κ) : Option D := (kvs.find? fun kv => decide (kv.1 = k)).map (·.2)
def putD (kvs : List (κ × D)) (k : κ) (v : D) : List (κ × D) :=
  if (kvs.any fun kv => decide (kv.1 = k)) = true then kvs.map (fun kv => if kv.1 = k then (kv.1, v) else kv) else kvs ++ [(k, v)]
theorem kv_val {k : κ} : ∀ {a : List (κ × V)} {b : List (κ × D)}, KvAll K H a b → (match valD b k with | none => valV a k = none | some d => ∃ v, valV a k = some v ∧ Dp K H v d)
  | [], [], _ => rfl
  | (k1, v) :: a, (k2, d) :: b, ⟨e, h1, h2⟩ => by
    subst e
    by_cases hk : k1 = k
    · have e1 : valD ((k1, d) :: b) k = some d := by simp [valD, List.find?_cons, hk]
      rw [e1]
      exact ⟨v, valV_pos hk, h1⟩
    · have e1 : valD ((k1, d) :: b) k = valD b k := by simp [valD, List.find?_cons, hk]
      rw [e1, valV_neg (p := (k1, v)) hk]
      exact kv_val h2
  | [], _ :: _, h => h.elim
  | _ :: _, [], h => h.elim
theorem kv_any {k : κ} : ∀ {a : List (κ × V)} {b : List (κ × D)}, KvAll K H a b → (a.any fun kv => decide (kv.1 = k)) = (b.any fun kv => decide (kv.1 = k))
  | [], [], _ => rfl
  | (k1, v) :: a, (k2, d) :: b, ⟨e, h1, h2⟩ => by
    subst e
    rw [List.any_cons, List.any_cons, kv_any h2]
  | [], _ :: _, h => h.elim
  | _ :: _, [], h => h.elim
theorem kv_map {k : κ} {w : V} {e : D} (hw : Dp K H w e) : ∀ {a : List (κ × V)} {b : List (κ × D)}, KvAll K H a b → KvAll K H (a.map fun kv => if kv.1 = k then (kv.1, w) else kv) (b.map fun kv => if kv.1 = k then (kv.1, e) else kv)
  | [], [], _ => trivial
  | (k1, v) :: a, (k2, d) :: b, ⟨e1, h1, h2⟩ => by
    subst e1
    rw [List.map_cons, List.map_cons]
    by_cases hk : k1 = k
    · rw [if_pos hk, if_pos hk]
      exact ⟨rfl, hw, kv_map hw h2⟩
    · rw [if_neg hk, if_neg hk]
      exact ⟨rfl, h1, kv_map hw h2⟩
  | [], _ :: _, h => h.elim
  | _ :: _, [], h => h.elim
theorem kv_snoc {k : κ} {w : V} {e : D} (hw : Dp K H w e) : ∀ {a : List (κ × V)} {b : List (κ × D)}, KvAll K H a b → KvAll K H (a ++ [(k, w)]) (b ++ [(k, e)])
  | [], [], _ => ⟨rfl, hw, trivial⟩
  | (k1, v) :: a, (k2, d) :: b, ⟨e1, h1, h2⟩ => ⟨e1, h1, kv_snoc hw h2⟩
  | [], _ :: _, h => h.elim
  | _ :: _, [], h => h.elim
theorem kv_put {k : κ} {w : V} {e : D} {a : List (κ × V)} {b : List (κ × D)} (hw : Dp K H w e) (h : KvAll K H a b) : KvAll K H (putK a k w) (putD b k e) := by
  unfold putK putD
  rw [kv_any h]
  split
  · exact kv_map hw h
  · exact kv_snoc hw h
theorem kv_len : ∀ {a : List (κ × V)} {b : List (κ × D)}, KvAll K H a b → a.length = b.length
  | [], [], _ => rfl
  | (_, _) :: _, (_, _) :: _, ⟨_, _, h⟩ => congrArg (· + 1) (kv_len h)
  | [], _ :: _, h => h.elim
  | _ :: _, [], h => h.elim
end
end
end Pl

set_option Elab.async false
set_option linter.all false
set_option maxRecDepth 100000
set_option maxHeartbeats 1000001
namespace Pl
open PySem L2 LamX NdefX PyProof.Rows GenW
section
variable {K : PySem.W.Frag} {T : List NTab} {B B' B1 : Lo} {A A0 : List Addr} {H0 H H' : Hp} {σ : L2.St} {δ δ' : List Sl} {v : V} {r : R} {E : Es} {te ta tb ty tv : TE} {tt t1 t2 : TT} {ts t u : TS} {g : TG} {P : R → List Sl → Prop}
def keyD : Key → D
  | .inl i => .int i
  | .inr x => .str x
theorem key_dp {k : Key} {v : V} (h : Dp K H v (keyD k)) : v = kV k := by
  cases k <;> cases h <;> rfl
theorem dp_key {k : Key} : Dp K H (kV k) (keyD k) := by
  cases k
  · exact .int _
  · exact .str _
/-- d[k] = v, d a name's dict of ints and texts -/
theorem ss_dputK {i : Nat} (h : Ex K T tv δ fun r δ1 => ∃ d, r = .val d ∧ (∃ a u, δ1[i]? = some (.own a u)) ∧ Ex K T ty δ1 fun r2 δ2 => ∃ (k : Key) (a : Addr) (kvs : List (Key × D)), r2 = .val (keyD k) ∧ δ2[i]? = some (.own a (.dK kvs)) ∧ kvs.length < 100000 ∧ E.nx (δ2.set i (.own a (.dK (putD kvs k d))))) :
    Ss K T (sDPut (tVar i) ty tv) δ E := fun B H σ s D kn _ _ _ =>
  h B H σ s _ fun v H1 r δ1 B1 R1 ⟨d, e, ⟨a, u, hi⟩, h1⟩ => by
    subst e
    have e1 : B1 = B := R1.bx
    subst e1
    refine ⟨.ref a, (R1.s.hp hi).1, ?_⟩
    refine h1 B1 H1 σ R1.s _ fun w H2 r2 δ2 B2 R2 ⟨k, a2, kvs, e2, hi2, hl, p⟩ => ?_
    subst e2
    have e3 : B2 = B1 := R2.bx
    subst e3
    have hw : w = kV k := key_dp R2.vr
    subst hw
    obtain ⟨q1, ys, q2, q3⟩ := R2.s.hp hi2
    rw [(R1.s.hp hi).1] at q1
    cases q1
    have hv : Dp K (dl H2 (ow δ2 B2)) v d := dp_mono R2.go.rk _ _ R1.vr
    refine ⟨a, _, rfl, DPut.k q2 (by rw [kv_len q3]; exact Nat.lt_of_lt_of_le hl (by decide)), ?_⟩
    have w := rs_write (z := .none) (w := .non) R2.s (R1.go.trans R2.go) hi2 (u' := .dK (putD kvs k d)) (o' := .dK (putK ys k v)) ⟨_, upd_same, kv_put hv q3⟩ .non
    exact kn σ _ _ w.s w.go p
/-- d[tuple(new list)] = v, d a name's dict of tuples -/
theorem ss_dputT {i : Nat} (h : Ex K T tv δ fun r δ1 => ∃ d, r = .val d ∧ (∃ a u, δ1[i]? = some (.own a u)) ∧ Ex K T ty δ1 fun r2 δ2 => ∃ (k : List Key) (a : Addr) (kvs : List (List Key × D)), AsD δ2 r2 (.list (k.map keyD)) ∧ δ2[i]? = some (.own a (.dT kvs)) ∧ kvs.length < 100000 ∧ E.nx (δ2.set i (.own a (.dT (putD kvs k d))))) :
    Ss K T (sDPut (tVar i) (tCB (rTupOf K) (tCons ty tNil)) tv) δ E := fun B H σ s D kn _ _ _ =>
  h B H σ s _ fun v H1 r δ1 B1 R1 ⟨d, e, ⟨a, u, hi⟩, h1⟩ => by
    subst e
    have e1 : B1 = B := R1.bx
    subst e1
    refine ⟨.ref a, (R1.s.hp hi).1, ?_⟩
    refine h1 B1 H1 σ R1.s _ fun w H2 r2 δ2 B2 R2 ⟨k, a2, kvs, ad, hi2, hl, p⟩ => ?_
    obtain ⟨C, rfl⟩ := R2.bx.suf
    obtain ⟨b, xs, rfl, hs, ha⟩ := dp_l (R2.vr.dp R2.s ad)
    have s2 := R2.s.dropAll
    have g2 := R2.go.less ow_suf
    refine ⟨b, xs, rfl, .inl ⟨hs, fun q hq => ?_⟩⟩
    have s3 := s2.laid (o := .tup xs) hq
    have g3 : Go (ow δ2 B1) (ow δ2 B1) H2 (upd H2 q (.tup xs)) := go_upd hq
    obtain ⟨q1, ys, q2, q3⟩ := s3.hp hi2
    rw [(R1.s.hp hi).1] at q1
    cases q1
    have ex : xs = k.map kV := by
      have : ∀ {k : List Key} {xs : List V}, DpAll K H2 xs (k.map keyD) → xs = k.map kV := by
        intro k
        induction k with
        | nil => intro xs h; cases h; rfl
        | cons k0 k ih =>
          intro xs h
          have h : DpAll K H2 xs (keyD k0 :: k.map keyD) := h
          cases h with
          | cons h1 h2 =>
            rw [key_dp h1, ih h2]
            rfl
      exact this ha
    subst ex
    have hv : Dp K (dl (upd H2 q (.tup (k.map kV))) (ow δ2 B1)) v d := dp_mono (g2.trans g3).rk _ _ R1.vr
    refine ⟨a, _, rfl, DPut.t q2 upd_same (by rw [kv_len q3]; exact Nat.lt_of_lt_of_le hl (by decide)), ?_⟩
    have w := rs_write (z := .none) (w := .non) s3 ((R1.go.trans g2).trans g3) hi2 (u' := .dT (putD kvs k d)) (o' := .dT (putK ys k v)) ⟨_, upd_same, kv_put hv q3⟩ .non
    exact kn σ _ _ w.s w.go p
/-- d.get(k, x), d[k], d a name's dict -/
theorem ex_dget2 {i : Nat} {tx : TE} (h : (∃ a kvs, δ[i]? = some (.own a (.dK kvs))) ∧ Ex K T ty δ fun r δ1 => ∃ k, r = .val (keyD k) ∧ Ex K T tx δ1 fun r2 δ2 => ∃ a kvs z, r2 = .val z ∧ δ2[i]? = some (.own a (.dK kvs)) ∧ P (.val ((valD kvs k).getD z)) δ2) :
    Ex K T (tDGet2 (tVar i) ty tx) δ P := fun B H σ s Q kk => by
  obtain ⟨⟨a, kvs, hi⟩, h⟩ := h
  obtain ⟨h1, xs, h2, h3⟩ := s.hp hi
  refine ⟨.ref a, h1, a, rfl, .inl ⟨xs, .inl h2⟩, ?_⟩
  refine h B H σ s _ fun w H1 r δ1 B1 R1 ⟨k, e, h4⟩ => ?_
  subst e
  have e1 : B1 = B := R1.bx
  subst e1
  have hw : w = kV k := key_dp R1.vr
  subst hw
  refine h4 B1 H1 σ R1.s _ fun x H2 r2 δ2 B2 R2 ⟨a2, kvs2, z, e2, hi2, p⟩ => ?_
  subst e2
  have e3 : B2 = B1 := R2.bx
  subst e3
  obtain ⟨q1, ys, q2, q3⟩ := R2.s.hp hi2
  rw [h1] at q1
  cases q1
  refine ⟨_, DGet.k q2, ?_⟩
  have kv := kv_val (k := k) q3
  have g := R1.go.trans R2.go
  cases e : valD kvs2 k with
  | none =>
    rw [e] at kv p
    rw [kv]
    exact kk _ H2 (.val _) δ2 B2 ⟨R2.s, g, R2.vr, rfl⟩ p
  | some d =>
    rw [e] at kv p
    obtain ⟨v, ev, hv⟩ := kv
    rw [ev]
    exact kk _ H2 (.val _) δ2 B2 ⟨R2.s, g, hv, rfl⟩ p
theorem ex_dget {i : Nat} (h : (∃ a kvs, δ[i]? = some (.own a (.dK kvs))) ∧ Ex K T ty δ fun r δ1 => ∃ k a kvs d, r = .val (keyD k) ∧ δ1[i]? = some (.own a (.dK kvs)) ∧ valD kvs k = some d ∧ P (.val d) δ1) :
    Ex K T (tDGet (tVar i) ty) δ P := fun B H σ s Q kk => by
  obtain ⟨⟨a, kvs, hi⟩, h⟩ := h
  obtain ⟨h1, xs, h2, h3⟩ := s.hp hi
  refine ⟨.ref a, h1, ?_⟩
  refine h B H σ s _ fun w H1 r δ1 B1 R1 ⟨k, a2, kvs2, d, e, hi2, ed, p⟩ => ?_
  subst e
  have e1 : B1 = B := R1.bx
  subst e1
  have hw : w = kV k := key_dp R1.vr
  subst hw
  obtain ⟨q1, ys, q2, q3⟩ := R1.s.hp hi2
  rw [h1] at q1
  cases q1
  have kv := kv_val (k := k) q3
  rw [ed] at kv
  obtain ⟨v, ev, hv⟩ := kv
  refine ⟨a, v, rfl, ?_, kk v H1 (.val d) δ1 B1 ⟨R1.s, R1.go, hv, rfl⟩ p⟩
  rw [← ev]
  exact DGet.k q2
theorem ex_dnewK (p : P (.new (.dK [])) δ) : Ex K T tDNewK δ P := fun B H σ s Q k => fun q hq => (out_rs (P := P) s .refl k).dK q hq p
theorem ex_dnewT (p : P (.new (.dT [])) δ) : Ex K T tDNewT δ P := fun B H σ s Q k => fun q hq => (out_rs (P := P) s .refl k).dT q hq p
/-- list(d), d a name's dict of tuples -/
abbrev rListDT : List V → Hp → VK → Prop := fun xs H Q => ∃ d kvs, xs = [V.ref d] ∧ Rd H d (.dT kvs) ∧ ∀ p bs, H p = none → IsKeys H kvs bs → Q (.ref p) (upd H p (.lst (bs.map V.ref)))
theorem ex_listDT {i : Nat} {a : Addr} {kvs : List (List Key × D)} (hi : δ[i]? = some (.own a (.dT kvs))) (p : P (.new (.lst (kvs.map fun kv => .tuple (kv.1.map keyD)))) δ) : Ex K T (tCB rListDT (tCons (tVar i) tNil)) δ P := fun B H σ s Q k => by
  obtain ⟨h1, xs, h2, h3⟩ := s.hp hi
  refine ⟨.ref a, h1, a, xs, rfl, .inl h2, fun q bs hq hk => ?_⟩
  have keys : ∀ l : List Key, DpAll K H (l.map kV) (l.map keyD) := by
    intro l
    induction l with
    | nil => exact .nil
    | cons x l ih => exact .cons dp_key ih
  have immk : ∀ l : List Key, immAll (l.map keyD) = true := by
    intro l
    induction l with
    | nil => rfl
    | cons x l ih =>
      show (imm (keyD x) && immAll (l.map keyD)) = true
      rw [ih]
      cases x <;> rfl
  have all : ∀ {xs : List (List Key × V)} {kvs : List (List Key × D)} {bs : List Addr}, KvAll K (dl H (ow δ B)) xs kvs → IsKeys H xs bs → DpAll K H (bs.map V.ref) (kvs.map fun kv => .tuple (kv.1.map keyD)) := by
    intro xs
    induction xs with
    | nil =>
      intro kvs bs hv hk
      cases hk
      cases kvs with
      | nil => exact .nil
      | cons _ _ => exact hv.elim
    | cons x xs ih =>
      intro kvs bs hv hk
      cases kvs with
      | nil => exact hv.elim
      | cons kv kvs =>
        obtain ⟨e1, _, hv⟩ := hv
        cases hk with
        | cons hb ht =>
          refine .cons (.tup (.inl (.inl hb)) ?_) (ih hv ht)
          rw [e1]
          exact keys _
  refine (out_rs (P := P) s .refl k).lst q _ _ hq (all h3 hk) (immAll_mem.mpr fun d m => ?_) p
  obtain ⟨kv, _, rfl⟩ := List.mem_map.mp m
  simpa [imm] using immk kv.1
/-- for i, x in enumerate(xs) -/
theorem ss_forE {i j : Nat} {t0 : TA} (h : ExA K T t0 δ fun rs δ1 => ∃ ds, rs = [.val (.list ds)] ∧ ∃ W : Nat → List Sl → Prop, W 0 δ1 ∧
      (∀ (k : Nat) d δ2, ds[k]? = some d → W k δ2 → Ss K T t ((δ2.set i (.val (.int k))).set j (.val d)) ⟨W (k + 1), E.rt, E.nx, W (k + 1)⟩) ∧ ∀ δ2, W ds.length δ2 → E.nx δ2) :
    Ss K T (tFor (iEnum K t0) (gTup K 2 (gCons (gName i) (gCons (gName j) gNil))) t) δ E := fun B H σ s D kn kr kb kc =>
  h B H σ s _ fun vs H1 rs δ1 B1 R1 ⟨ds, f, W, w0, hs, hd⟩ => by
    subst f
    have e1 : B1 = B := vals0_bx (ds := [.list ds]) R1.bx ⟨rfl, trivial⟩
    subst e1
    have hv : DpAll K (dl H1 (ow δ1 B1)) vs [.list ds] := vals0_dp (ds := [.list ds]) R1.vr ⟨rfl, trivial⟩
    obtain ⟨v, rfl, hv1⟩ := da_1 hv
    obtain ⟨a, xs, rfl, hq, ha⟩ := dp_l hv1
    have hl := da_len ha
    refine ⟨a, xs, rfl, dl_rk.sqL hq, fun k m σ2 H2 => m = xs.length - k ∧ k ≤ xs.length ∧ ∃ δ2, S K T B1 H2 σ2 δ2 ∧ Go (ow δ B1) (ow δ2 B1) H H2 ∧ Go (ow δ1 B1) (ow δ2 B1) H1 H2 ∧ W k δ2,
      ⟨xs.length, by simp, Nat.zero_le _, δ1, R1.s, R1.go, .refl, w0⟩, ?_⟩
    rintro k m σ2 H2 ⟨rfl, hk, δ2, s2, g2, g12, w2⟩
    have hqk : SqL K H2 a xs := dl_rk.sqL (g12.rk.sqL hq)
    by_cases hlt : k < xs.length
    · refine .inr ⟨⟨xs, xs[k], hqk, List.getElem?_eq_getElem hlt⟩, fun σ' H' => ∃ δ', S K T B1 H' σ' δ' ∧ Go (ow δ B1) (ow δ' B1) H H' ∧ Go (ow δ1 B1) (ow δ' B1) H1 H' ∧ W (k + 1) δ',
        fun σ' H' ⟨δ', s', g', g1', w'⟩ => ⟨xs.length - (k + 1), by omega, rfl, hlt, δ', s', g', g1', w'⟩, fun x H' y => ?_⟩
      obtain ⟨Tp, x1, rfl, hn, rfl, hx⟩ := y
      obtain ⟨d, e1, e2⟩ := da_get' ha (hx xs hqk)
      have s3 := s2.laid (o := .tup [.int (k : Nat), x1]) hn
      have g3 : Go (ow δ2 B1) (ow δ2 B1) H2 (upd H2 Tp (.tup [.int (k : Nat), x1])) := go_upd hn
      have hx1 : Dp K (dl (upd H2 Tp (.tup [.int (k : Nat), x1])) (ow δ2 B1)) x1 d := dp_mono (g12.trans g3).rk _ _ e2
      have s4 := s3.setv (i := i) (v := .int (k : Nat)) (d := .int k) (.int _)
      have g4 : Go (ow δ2 B1) (ow (δ2.set i (.val (.int k))) B1) (upd H2 Tp (.tup [.int (k : Nat), x1])) (upd H2 Tp (.tup [.int (k : Nat), x1])) := Go.set rfl
      have s5 := s4.setv (i := j) (v := x1) (d := d) (dp_mono g4.rk _ _ hx1)
      have g5 : Go (ow (δ2.set i (.val (.int k))) B1) (ow ((δ2.set i (.val (.int k))).set j (.val d)) B1) (upd H2 Tp (.tup [.int (k : Nat), x1])) (upd H2 Tp (.tup [.int (k : Nat), x1])) := Go.set rfl
      have gg := (g3.trans g4).trans g5
      refine ⟨Tp, _, rfl, .inl (.inl upd_same), rfl, _, _, rfl, _, _, rfl, rfl, ?_⟩
      exact (hs k d δ2 e1 w2) B1 _ _ s5 { D with nx := _, ct := _, bk := D.nx } (fun σ6 H6 δ6 s6 g6 n => ⟨δ6, s6, (g2.trans gg).trans g6, (g12.trans gg).trans g6, n⟩) (fun v σ6 H6 r δ6 B6 R6 n => kr v σ6 H6 r δ6 B6 (R6.pre (g2.trans gg)) n)
        (fun σ6 H6 δ6 s6 g6 n => kn σ6 H6 δ6 s6 ((g2.trans gg).trans g6) n) (fun σ6 H6 δ6 s6 g6 n => ⟨δ6, s6, (g2.trans gg).trans g6, (g12.trans gg).trans g6, n⟩)
    · have e : k = xs.length := by omega
      refine .inl ⟨⟨xs, hqk, by omega⟩, kn σ2 H2 δ2 s2 g2 (hd δ2 ?_)⟩
      rw [← hl, ← e]
      exact w2
end
end Pl

set_option Elab.async false
set_option linter.all false
set_option maxRecDepth 100000
set_option maxHeartbeats 1000001
namespace Pl
open PySem L2 LamX NdefX PyProof.Rows GenW
/-! ### generators -/
def tGIf (c : TT) (t u : TGn) : TGn := fun D ys σ H => c σ H fun b H1 => if b = true then t D ys σ H1 else u D ys σ H1
section
variable {X : Cx}
theorem gs_if {c : Expr} {a b : List Stmt} {pos : Pos} {tc : TT} {t u : TGn} (hc : PT X c tc) (ha : GSs X a t) (hb : GSs X b u) : GS X (.If c a b pos) (tGIf tc t u) := by
  refine ⟨fun A S ip R n ys s₀ cc fs Kk J gd lv s σ H D g hn k hI ht => ?_⟩
  obtain ⟨acc, c2, r, I⟩ := hI
  rw [exec_If]
  refine seg_at ?_
  refine seg_bind_wrap (wpAny_pure ?_)
  refine seg_bind_wrap ?_
  rw [g.over]
  refine wpAny_mono (hc.run _ s σ H _ I ht) (fun d s1 ⟨H1, I1, q1⟩ => ?_) fun x s' hx => k.exc n s₀ x s' hx
  cases d with
  | true => exact ha.run A S ip R n ys s₀ cc fs Kk J gd lv s1 σ H1 D g hn k ⟨acc, c2, r, I1⟩ q1
  | false => exact hb.run A S ip R n ys s₀ cc fs Kk J gd lv s1 σ H1 D g hn k ⟨acc, c2, r, I1⟩ q1
end
structure EsG where
  nx : List D → List Sl → Prop
  bk : List D → List Sl → Prop := fun _ _ => False
  ct : List D → List Sl → Prop := fun _ _ => False
section
variable (K : PySem.W.Frag) (T : List NTab)
/-- zs: what is out -/
def Sg (tg : TGn) (δ : List Sl) (zs : List D) (E : EsG) : Prop := ∀ (B : Lo) (H : Hp) (σ : L2.St) (ys : List V), S K T B H σ δ → DpAll K (dl H (ow δ B)) ys zs → ∀ D : GEnds,
  (∀ ys' zs' σ' H' δ', S K T B H' σ' δ' → Go (ow δ B) (ow δ' B) H H' → DpAll K (dl H' (ow δ' B)) ys' zs' → E.nx zs' δ' → D.nx ys' σ' H') →
  (∀ ys' zs' σ' H' δ', S K T B H' σ' δ' → Go (ow δ B) (ow δ' B) H H' → DpAll K (dl H' (ow δ' B)) ys' zs' → E.bk zs' δ' → D.bk ys' σ' H') →
  (∀ ys' zs' σ' H' δ', S K T B H' σ' δ' → Go (ow δ B) (ow δ' B) H H' → DpAll K (dl H' (ow δ' B)) ys' zs' → E.ct zs' δ' → D.ct ys' σ' H') → tg D ys σ H
end
section
variable {K : PySem.W.Frag} {T : List NTab} {B B' B1 : Lo} {A A0 : List Addr} {H0 H H' : Hp} {σ : L2.St} {δ δ' : List Sl} {v : V} {r : R} {E : EsG} {te ta tb ty tv : TE} {tt t1 t2 : TT} {ts t u : TS} {tg ug : TGn} {zs : List D} {P : R → List Sl → Prop}
theorem Sg.after {H1 : Hp} {σ1 : L2.St} {δ1 : List Sl} {ys1 : List V} {zs1 : List D} (q : Sg K T tg δ1 zs1 E) (s1 : S K T B H1 σ1 δ1) (h1 : DpAll K (dl H1 (ow δ1 B)) ys1 zs1) (g1 : Go (ow δ B) (ow δ1 B) H H1) {D : GEnds}
    (kn : ∀ ys' zs' σ' H' δ', S K T B H' σ' δ' → Go (ow δ B) (ow δ' B) H H' → DpAll K (dl H' (ow δ' B)) ys' zs' → E.nx zs' δ' → D.nx ys' σ' H')
    (kb : ∀ ys' zs' σ' H' δ', S K T B H' σ' δ' → Go (ow δ B) (ow δ' B) H H' → DpAll K (dl H' (ow δ' B)) ys' zs' → E.bk zs' δ' → D.bk ys' σ' H')
    (kc : ∀ ys' zs' σ' H' δ', S K T B H' σ' δ' → Go (ow δ B) (ow δ' B) H H' → DpAll K (dl H' (ow δ' B)) ys' zs' → E.ct zs' δ' → D.ct ys' σ' H') : tg D ys1 σ1 H1 :=
  q B H1 σ1 ys1 s1 h1 D (fun ys' zs' σ2 H2 δ2 s2 g2 h2 n => kn ys' zs' σ2 H2 δ2 s2 (g1.trans g2) h2 n) (fun ys' zs' σ2 H2 δ2 s2 g2 h2 n => kb ys' zs' σ2 H2 δ2 s2 (g1.trans g2) h2 n) (fun ys' zs' σ2 H2 δ2 s2 g2 h2 n => kc ys' zs' σ2 H2 δ2 s2 (g1.trans g2) h2 n)
theorem sg_plain (h : Ss K T t δ { nx := fun δ' => E.nx zs δ', rt := fun _ _ => False, bk := fun δ' => E.bk zs δ', ct := fun δ' => E.ct zs δ' }) : Sg K T (tPlain t) δ zs E := fun B H σ ys s hy D kn kb kc =>
  h B H σ s (D.at ys) (fun σ' H' δ' s' g' n => kn ys zs σ' H' δ' s' g' (da_mono g'.rk _ _ hy) n) (fun _ _ _ _ _ _ _ z => z.elim) (fun σ' H' δ' s' g' n => kb ys zs σ' H' δ' s' g' (da_mono g'.rk _ _ hy) n) (fun σ' H' δ' s' g' n => kc ys zs σ' H' δ' s' g' (da_mono g'.rk _ _ hy) n)
theorem sg_nil (h : E.nx zs δ) : Sg K T tG0 δ zs E := fun B H σ ys s hy D kn _ _ => kn ys zs σ H δ s .refl hy h
theorem sg_then (h : Sg K T tg δ zs { E with nx := fun zs' δ' => Sg K T ug δ' zs' E }) : Sg K T (tGThen tg ug) δ zs E := fun B H σ ys s hy D kn kb kc =>
  h B H σ ys s hy { D with nx := fun ys' σ' H' => ug D ys' σ' H' } (fun ys' zs' σ' H' δ' s' g' h' q => q.after s' h' g' kn kb kc) kb kc
theorem sg_yield (hl : zs.length < 100000) (h : Ex K T te δ fun r δ1 => ∃ z, r = .val z ∧ E.nx (zs ++ [z]) δ1) : Sg K T (tGYield te) δ zs E := fun B H σ ys s hy D kn _ _ =>
  ⟨by rw [da_len hy]; exact Nat.lt_of_lt_of_le hl (by decide), h B H σ s _ fun v H1 r δ1 B1 R1 ⟨z, e, n⟩ => by
    subst e
    have hb : B1 = B := R1.bx
    subst hb
    exact kn (ys ++ [v]) (zs ++ [z]) σ H1 δ1 R1.s R1.go (da_app (da_mono R1.go.rk _ _ hy) (da_one R1.vr)) n⟩
theorem sg_if (h : ExT K T tt δ fun b δ1 => if b = true then Sg K T tg δ1 zs E else Sg K T ug δ1 zs E) : Sg K T (tGIf tt tg ug) δ zs E := fun B H σ ys s hy D kn kb kc =>
  h B H σ s _ fun b H1 δ1 s1 g1 q => by
    cases b with
    | true =>
      rw [if_pos rfl] at q ⊢
      exact q.after s1 (da_mono g1.rk _ _ hy) g1 kn kb kc
    | false =>
      rw [if_neg Bool.false_ne_true] at q ⊢
      exact q.after s1 (da_mono g1.rk _ _ hy) g1 kn kb kc
theorem sg_while {W : Nat → List D → List Sl → Prop} (h0 : ∃ m, W m zs δ) (h : ∀ m zs δ, W m zs δ → ExT K T tt δ fun b δ1 => if b = true then Sg K T tg δ1 zs ⟨fun zs' δ' => ∃ m', m' < m ∧ W m' zs' δ', E.nx, fun zs' δ' => ∃ m', m' < m ∧ W m' zs' δ'⟩ else E.nx zs δ1) :
    Sg K T (tGWhile tt tg) δ zs E := fun B H σ ys s hy D kn kb kc => by
  obtain ⟨m0, w0⟩ := h0
  refine ⟨fun m ys1 σ1 H1 => ∃ δ1 zs1, S K T B H1 σ1 δ1 ∧ Go (ow δ B) (ow δ1 B) H H1 ∧ DpAll K (dl H1 (ow δ1 B)) ys1 zs1 ∧ W m zs1 δ1, ⟨m0, δ, zs, s, .refl, hy, w0⟩, ?_⟩
  rintro m ys1 σ1 H1 ⟨δ1, zs1, s1, g1, hy1, w1⟩
  refine h m zs1 δ1 w1 B H1 σ1 s1 _ fun b H2 δ2 s2 g2 q => ?_
  cases b with
  | true =>
    rw [if_pos rfl] at q ⊢
    refine ⟨fun ys3 σ3 H3 => ∃ δ3 zs3, S K T B H3 σ3 δ3 ∧ Go (ow δ B) (ow δ3 B) H H3 ∧ DpAll K (dl H3 (ow δ3 B)) ys3 zs3 ∧ ∃ m', m' < m ∧ W m' zs3 δ3, fun ys3 σ3 H3 ⟨δ3, zs3, s3, g3, h3, m', hm, w3⟩ => ⟨m', hm, δ3, zs3, s3, g3, h3, w3⟩, ?_⟩
    exact q.after (δ := δ) (H := H) s2 (da_mono g2.rk _ _ hy1) (g1.trans g2) (fun ys3 zs3 σ3 H3 δ3 s3 g3 h3 n => ⟨δ3, zs3, s3, g3, h3, n⟩) kn (fun ys3 zs3 σ3 H3 δ3 s3 g3 h3 n => ⟨δ3, zs3, s3, g3, h3, n⟩)
  | false =>
    rw [if_neg Bool.false_ne_true] at q ⊢
    exact kn ys1 zs1 σ1 H2 δ2 s2 (g1.trans g2) (da_mono g2.rk _ _ hy1) q
/-- a generator def's promise, in data: the arguments, what is wanted of all that is out -/
abbrev FG := List D → (List D → Prop) → Prop
def spGOf (K : PySem.W.Frag) (T : List NTab) (F : FG) : SpG := fun vs H Q _ => ∃ (ds : List D) (P : List D → Prop), TabsN T H ∧ DpAll K H vs ds ∧ F ds P ∧ ∀ ys H' zs, TabsN T H' → Go [] [] H H' → DpAll K H' ys zs → immAll zs = true → P zs → Q ys H'
theorem gfs_ok {Pg : Program} {w : World} {mg : Str → Option Value} {base : Heap} {x qual : Str} {st : Stmt} {f : Addr} {fd : FuncData} {N ps : List Str} {k : Nat} {F : FG} (Fn : Fun K x qual st f fd) (Sc : GScope N ps (defScope st)) (len : ∀ as Q, F as Q → as.length = ps.length)
    (body : ∀ (cdv : Value) (A : Around) (outer : List Env) (s : Shared) (H : Hp) (E : XK) (pn : List (Addr × Obj)), Room k (A.deeper (envOfC qual (defScope st) s.heap.objs.size f cdv)) → ∀ (ds : List D) (Q : List D → Prop), F ds Q →
      ∃ t, GSs (gcxOf Pg w K mg base N qual (defScope st) f cdv A outer s H E pn) (defBody st) t ∧
        Sg K T t (ds.map Sl.val ++ List.replicate (N.length - ds.length) .no) [] { nx := fun zs _ => immAll zs = true ∧ Q zs }) :
    GFn Pg w K mg base (k + 1) f fd ps (spGOf K T F) := by
  obtain ⟨oc, od, kV, doc, pm, an, cdv, ct, osl, rfl, lk, hcd⟩ := Fn.ex
  refine gfn_of lk hcd Sc (fun vs H Q E h => ?_) fun A outer s H vs Q E pn hr h => ?_
  · obtain ⟨ds, P, hT, ha, f, _⟩ := h
    rw [da_len ha]
    exact len ds P f
  · obtain ⟨ds, P, hT, ha, f, fin⟩ := h
    obtain ⟨t, ht, hs⟩ := body cdv A outer s H E pn hr ds P f
    have args : ArgsOk K (dl H []) H vs (ds.map Ar.val) [] := by
      have e : ∀ {vs : List V} {ds : List D}, DpAll K H vs ds → ArgsOk K (dl H []) H vs (ds.map Ar.val) [] := by
        intro vs
        induction vs with
        | nil => intro ds h; cases h; trivial
        | cons v vs ih =>
          intro ds h
          cases h with
          | cons h1 h2 => exact ⟨dp_mono (fun a o q _ => dl_of q (by simp)) _ _ h1, ih h2⟩
      exact e ha
    have es : slotsOf (ds.map Ar.val) [] = ds.map Sl.val := by
      clear hs f args ha fin
      induction ds with
      | nil => rfl
      | cons d ds ih =>
        show Sl.val d :: slotsOf (ds.map Ar.val) [] = _
        rw [ih]
        rfl
    have s0 := entry (N := N) args List.nodup_nil hT
    have eo := entry_ow (n := N.length - vs.length) args
    rw [es] at s0 eo
    rw [da_len ha] at s0 eo
    refine ⟨t, ht, hs [] H _ [] s0 .nil _ (fun ys' zs' σ' H' δ' s' g' h' ⟨hi, n⟩ => ?_) (fun _ _ _ _ _ _ _ _ z => z.elim) (fun _ _ _ _ _ _ _ _ z => z.elim)⟩
    rw [eo] at g'
    exact fin ys' H' zs' s'.tab ⟨g'.ext, g'.dom, fun a m => .inl m⟩ (da_mono dl_rk _ _ h') hi n
/-- list(f(..)), f a generator def -/
theorem ex_listG {F : FG} {X : XK} {t : TA} (h : ExA K T t δ fun rs δ1 => ∃ ds, AsDs δ1 rs ds ∧ F ds fun zs => P (.new (.lst zs)) δ1) : Ex K T (tListG (tCallG (spGOf K T F) [] X t)) δ P := fun B H σ s Q k =>
  h B H σ s _ fun vs H1 rs δ1 B1 R1 ⟨ds, a, f⟩ => by
    obtain ⟨C, rfl⟩ := R1.bx.suf
    show spGOf K T F (vs ++ []) H1 _ X
    rw [List.append_nil]
    refine ⟨ds, _, R1.s.tab, R1.vr.dp R1.s a, f, fun ys H' zs hT g hy hi p => fun q hq => ?_⟩
    have s1 := R1.s.dropAll
    have g1 : Go (ow δ1 B) (ow δ1 B) H1 H' := ⟨(g.more (fun a m => by cases m)).ext, g.dom, fun a m => .inl m⟩
    have s2 : S K T B H' σ δ1 := s1.on g1 hT fun a m => by
      obtain ⟨u, hu⟩ := s1.at m
      obtain ⟨o, e, t, _⟩ := hu.some
      rw [e]
      exact g.ext a o e (by simp) t
    exact (out_rs (P := P) s2 ((R1.go.less ow_suf).trans g1) k).lst q ys zs hq hy hi p
end
end Pl

set_option Elab.async false
set_option linter.all false
set_option maxRecDepth 100000
set_option maxHeartbeats 2000001
namespace Pl
open PySem L2 LamX NdefX PyProof.Rows GenW PySem.W PySem.Calls
/-! ### sorted: lists and tuples of data -/
section
variable {prog : Program} {w : World} {A : Around} {E : Value → Shared → Prop} {s : Shared}
theorem collect_tup {l : Addr} {vs : List Value} {Q : List Value → Shared → Prop} (hl : IsTup s.heap l vs.toArray)
    (h : Q vs { s with heap := (s.heap.push (seqObj "list" #[] 0)).update s.heap.objs.size (Obj.mapSeq (· ++ vs.toArray)) }) (hsz : vs.length ≤ sizeLine) :
    wpAny (model prog w) A (collect (.ref l)) Q E s := by
  obtain ⟨o, ho, hc, n, hd⟩ := id hl
  unfold collect
  refine wpAny_bind (wpAny_runValue (codeAny_builtin entry_proto_collect' ?_))
  show wpAny _ _ (do again (.builtin "list.__iadd__" ⟨[← newList [], .ref l], []⟩)) _ _ s
  refine wpAny_bind (wpAny_newList (wpAny_pure ⟨Code.quiet_builtin _ (by decide +kernel), codeAny_builtin entry_list_iadd' ?_⟩))
  show wpAny _ _ (Builtin.List.listExtendWith (.ref s.heap.objs.size) (.ref l) (.ref s.heap.objs.size)) _ _ { s with heap := s.heap.push (seqObj "list" #[] 0) }
  unfold Builtin.List.listExtendWith
  have ho' : (s.heap.push (seqObj "list" #[] 0)).get? l = some o := Heap.get?_push_of_some _ ho
  refine wpAny_bind (wpAny_typeOf (T := "tuple") ⟨o, ho', hc⟩ ?_)
  have ht : (Value.type "tuple" == Value.type "tuple") = true := by rfl
  rw [if_pos (by rw [ht]; simp)]
  refine wpAny_bind (listItems_at ho' hd ?_)
  refine wpAny_bind (listItems_at (xs := #[]) (n := 0) (Heap.get?_push_size _ rfl) rfl ?_)
  rw [if_neg (by simp)]
  refine wpAny_bind (listUpdate_at (xs := #[]) (n := 0) (Heap.get?_push_size _ rfl) rfl ?_ (Nat.zero_le _) (by show (#[] ++ vs.toArray).size ≤ sizeLine + 1; simp only [Array.size_append, List.size_toArray, List.length_nil]; omega))
  refine wpAny_pure ?_
  show wpAny (model prog w) A (do
      let o ← load s.heap.objs.size
      match o.data with
      | .seq xs _ => pure xs.toList
      | _ => unsupported "internal:collect") Q E { s with heap := (s.heap.push (seqObj "list" #[] 0)).update s.heap.objs.size (Obj.mapSeq (· ++ vs.toArray)) }
  refine wpAny_bind (wpAny_load (get?_update_seq (Heap.get?_push_size _ rfl) _) ?_)
  show wpAny _ _ (pure ((#[] : Array Value) ++ vs.toArray).toList) Q E _
  rw [show ((#[] : Array Value) ++ vs.toArray).toList = vs by simp]
  exact wpAny_pure h
theorem sorted_of_sortT {l : Addr} {vs : List Value} {kw : List (Str × Value)} {Q : Value → Shared → Prop} (hl : IsTup s.heap l vs.toArray) (hL : vs.length ≤ sizeLine) (ha1 : argsOk "sorted" ⟨[.ref l], kw⟩) (ha2 : ∀ x, argsOk "list.sort" ⟨[.ref x], kw⟩)
    (body : ∀ E' : Value → Shared → Prop, wpAny (model prog w) A.in1.in1 (Builtin.«list.sort» ⟨[.ref (s.heap.objs.size + 1)], kw⟩) (fun f s' => f = .done (.ret .none) ∧ Q (.ref (s.heap.objs.size + 1)) s') E' { s with heap := copyHeap s.heap vs }) :
    wpAny (model prog w) A (call (.builtin "sorted") [.ref l] kw) Q E s := by
  refine call_function_entry_kw kind_sorted plain_sorted entry_sorted ha1 ?_
  unfold Builtin.«sorted»
  refine wpAny_bind (m := checkCount "sorted" 1 1 _) (wpAny_pure ?_)
  refine wpAny_bind (collect_tup hl ?_ hL)
  refine wpAny_bind (wpAny_newList ?_ hL)
  have hsz : ((s.heap.push (seqObj "list" #[] 0)).update s.heap.objs.size (Obj.mapSeq (· ++ vs.toArray))).objs.size = s.heap.objs.size + 1 := by
    rw [Heap.size_update, size_push']
  show wpAny _ _ _ _ _ { s with heap := copyHeap s.heap vs }
  rw [hsz]
  refine wpAny_bind (wpAny_holding (wpAny_call_entry_kw slot_list_sort ⟨_, copyHeap_at s.heap vs, rfl⟩ entry_list_sort ?body (ha2 _)))
  case body =>
    show wpAny (model prog w) A.in1.in1 (Builtin.«list.sort» ⟨[.ref (s.heap.objs.size + 1)], kw⟩) _ _ _
    refine wpAny_mono (body _) (fun f s' hf => ?_) fun _ _ e => e
    obtain ⟨rfl, hq⟩ := hf
    exact ⟨_, rfl, wpAny_pure ⟨_, rfl, hq⟩⟩
theorem sorted_dataT {β : Type} {R : Value → β → Prop} {enc : β → PyData} {vs : List Value} {bs : List β} {l : Addr} {Q : Value → Shared → Prop} (hl : IsTup s.heap l vs.toArray) (e : EachIs R vs bs) (er : EachIs (fun v b => ∃ as, Reads s.heap v (enc b) as) vs bs) (hal : AllAlike (bs.map enc)) (hk : Sortable (bs.map enc)) (hL : bs.length ≤ sizeLine)
    (hu : ∀ b, b ∈ bs → A.units + 2 + (enc b).depth < cLine) (h : ∀ out, out.length = bs.length → EachIs R out (bs.mergeSort (dataLe false enc)) → Q (.ref (s.heap.objs.size + 1)) { s with heap := sortedAll s.heap vs (List.toArray out) }) :
    wpAny (model prog w) A (call (.builtin "sorted") [.ref l]) Q E s := by
  have er' : EachIs (fun v b => ∃ as, Reads (sortingHeap (copyHeap s.heap vs) (s.heap.objs.size + 1) vs) v (enc b) as) vs bs := er.mono fun _ _ ⟨as, r⟩ => ⟨as, PyProof.Rows.Reads.keeps (fun _ _ => sorting_copy_old) r⟩
  refine sorted_of_sortT hl (by rw [e.length]; exact hL) (args_sorted1 _) (fun _ => args_list_sort _) fun _ => list_sort_vals (s := { s with heap := copyHeap s.heap vs }) (copyHeap_at s.heap vs)
    (SortsAt.data (s := { s with heap := sortingHeap (copyHeap s.heap vs) (s.heap.objs.size + 1) vs }) (each_map (R := fun v d => ∃ as, Reads (sortingHeap (copyHeap s.heap vs) (s.heap.objs.size + 1) vs) v d as) enc er') hal hk (bound_map hu)) (by rw [e.length]; exact hL) ⟨rfl, ?_⟩
  exact h _ (by rw [sortVals_length false rfl]; exact e.length) (sortVals_data false e er' hal)
end
section
variable {X : Cx} {pins : List (Addr × Obj)} {σ : L2.St} {H : Hp} {s : Shared}
/-- a value that stands for data -/
def DV (K : PySem.W.Frag) (H : Hp) (u : Value) (d : PyData) : Prop := ∃ x : V, L2.RelV x u ∧ Dp K H x d
theorem each_dv {K : PySem.W.Frag} : ∀ {xs : List V} {ds : List PyData} {us : List Value}, DpAll K H xs ds → L2.Vals xs us → EachIs (DV K H) us ds
  | _, _, _, .nil, .nil => .nil
  | _, _, _, .cons h t, .cons r rs => .cons ⟨_, r, h⟩ (each_dv t rs)
theorem of_each {K : PySem.W.Frag} : ∀ {us : List Value} {ds : List PyData}, EachIs (DV K H) us ds → ∃ xs, L2.Vals xs us ∧ DpAll K H xs ds
  | _, _, .nil => ⟨[], .nil, .nil⟩
  | _, _, .cons ⟨x, r, h⟩ t => by
    obtain ⟨xs, q1, q2⟩ := of_each t
    exact ⟨x :: xs, .cons r q1, .cons h q2⟩
def rSortedD (K : PySem.W.Frag) : List V → Hp → VK → Prop := fun vs H Q => ∃ (v : V) (ds : List PyData), vs = [v] ∧ (Dp K H v (.list ds) ∨ Dp K H v (.tuple ds)) ∧ AllAlike ds ∧ Sortable ds ∧ (∀ d ∈ ds, d.depth ≤ 60) ∧
  ∀ (p : Addr) (ys : List V), H p = none → DpAll K H ys (ds.mergeSort (dataLe false id)) → Q (.ref p) (upd H p (.lst ys))
theorem cr_sortedD (hu : X.A.units + 64 < cLine) : CallR X (.builtin "sorted") (rSortedD X.K) := by
  intro pins s σ H xs us Q I r h
  obtain ⟨v, ds, rfl, hv, hal, hk, hdep, q⟩ := h
  obtain ⟨u, rfl, rv⟩ := vals1 r
  have fin : ∀ (its : List Value), its.length = ds.length → ds.length ≤ sizeLine → ∀ out : List Value, out.length = ds.length → EachIs (DV X.K H) out (ds.mergeSort (dataLe false id)) → EP X pins σ Q (.ref (s.heap.objs.size + 1)) { s with heap := sortedAll s.heap its (List.toArray out) } := fun its hi hz out hl he => by
    obtain ⟨ys, h1, h2⟩ := of_each he
    obtain ⟨ep, he'⟩ := PyProof.Rows.sortedAll_at s.heap its out.toArray
    have hlen : ys.length ≤ sizeLine := by rw [h1.length, hl]; exact hz
    exact ⟨.ref _, upd H (s.heap.objs.size + 1) (.lst ys), I.laid (t' := s.toks) (fun _ _ => PyProof.Rows.sortedAll_old) (Nat.le_succ _) ⟨hlen, out, ep, h1, he'⟩, rfl, q _ ys (I.hok.fresh (Nat.le_succ _)) h2⟩
  have dep : ∀ d ∈ ds, X.A.units + 2 + (id d).depth < cLine := fun d hd => by
    have := hdep d hd
    show X.A.units + 2 + d.depth < cLine
    omega
  have eid : ds.map id = ds := List.map_id ds
  rcases hv with hv | hv
  · obtain ⟨a, xs, rfl, hs, ha⟩ := (by cases hv with | lst hs ha => exact ⟨_, _, rfl, hs, ha⟩ : ∃ a xs, v = .ref a ∧ SqL X.K H a xs ∧ DpAll X.K H xs ds)
    cases rv
    obtain ⟨its, rv, hl, hz⟩ := I.list hs
    have e := each_dv ha rv
    have hn : its.length = ds.length := e.length
    refine sorted_data (enc := id) hl.isList e (e.mono fun v d ⟨x, r, h⟩ => Dp.reads I d x v h r) (by rw [eid]; exact hal) (by rw [eid]; exact hk) (by rw [← hn, ← rv.length]; exact hz) dep (fin its hn (by rw [← hn, ← rv.length]; exact hz))
  · obtain ⟨a, xs, rfl, hs, ha⟩ := (by cases hv with | tup hs ha => exact ⟨_, _, rfl, hs, ha⟩ : ∃ a xs, v = .ref a ∧ SqT X.K H a xs ∧ DpAll X.K H xs ds)
    cases rv
    obtain ⟨its, rv, hl, hz⟩ := I.tuple hs
    have e := each_dv ha rv
    have hn : its.length = ds.length := e.length
    refine sorted_dataT (enc := id) hl e (e.mono fun v d ⟨x, r, h⟩ => Dp.reads I d x v h r) (by rw [eid]; exact hal) (by rw [eid]; exact hk) (by rw [← hn, ← rv.length]; exact hz) dep (fin its hn (by rw [← hn, ← rv.length]; exact hz))
/-- set(t), t a tuple of ints -/
def rSetT (K : PySem.W.Frag) (w : World) : List V → Hp → VK → Prop := fun vs H Q => ∃ (v : V) (ns : List Int), vs = [v] ∧ Dp K H v (.tuple (ns.map .int)) ∧ ns.length ≤ 1000 ∧
  ∀ (p : Addr) (c : Nat), c ≤ ns.length → H p = none → Q (.ref p) (upd H p (SetO w p (fun j => decide (j ∈ ns)) c))
theorem cr_setT (hc : X.calm = true) : CallR X (.type "set") (rSetT X.K X.w) := by
  intro pins s σ H xs us Q I r h
  obtain ⟨v, ns, rfl, hv, hn, q⟩ := h
  obtain ⟨u, rfl, rv⟩ := vals1 r
  obtain ⟨a, xs, rfl, hs, ha⟩ := (by cases hv with | tup hs ha => exact ⟨_, _, rfl, hs, ha⟩ : ∃ a xs, v = .ref a ∧ SqT X.K H a xs ∧ DpAll X.K H xs (ns.map .int))
  rw [da_ints ha] at hs
  cases rv
  obtain ⟨its, rv, pt, hz⟩ := I.tuple hs
  refine call_set_tupI ns (I.ok.hd hc) (show s.heap.IsTuple a its.toArray from pt) (ints_of_vals rv) (by unfold scanBound; omega) fun h' tk c R1 hcn k => ?_
  have I1 : L2.Inv X pins σ (upd H s.heap.objs.size (SetO X.w s.heap.objs.size (fun j => decide (j ∈ ns)) c)) { s with heap := h', toks := tk } := I.laid (t' := tk) k (Nat.le_refl _) (setO_new R1)
  exact ⟨.ref _, _, I1, rfl, q _ c hcn (I.hok.fresh (Nat.le_refl _))⟩
end
/-! ### t[::-1] -/
section
variable {prog : Program} {w : World} {A : Around} {E : Value → Shared → Prop} {s : Shared}
theorem adjust_rev (n : Nat) : Builtin.Slice.sliceAdjust none none (-1) (n : Int) = ((n : Int) - 1, -1) := by
  unfold Builtin.Slice.sliceAdjust
  have h1 : ((-1 : Int) < 0) := by omega
  simp only [h1, if_true]
theorem places_rev (n : Nat) : Builtin.Slice.slicePlaces ((n : Int) - 1) (-1) (-1) = n := by
  unfold Builtin.Slice.slicePlaces
  have h1 : ¬ ((-1 : Int) > 0) := by omega
  simp only [h1, if_false]
  rw [show (- -1 : Int) = 1 by decide, Int.ediv_one]
  split <;> omega
theorem fm_congr {α β : Type} {f g : α → Option β} : ∀ {l : List α}, (∀ x ∈ l, f x = g x) → l.filterMap f = l.filterMap g
  | [], _ => rfl
  | x :: l, h => by
    rw [List.filterMap_cons, List.filterMap_cons, h x List.mem_cons_self, fm_congr fun y hy => h y (List.mem_cons_of_mem _ hy)]
theorem pick_rev (xs : Array Value) : ((List.range xs.size).filterMap fun (m : Nat) => xs[(((xs.size : Int) - 1) + (m : Int) * (-1)).toNat]?).toArray = xs.toList.reverse.toArray := by
  congr 1
  refine List.ext_getElem? fun i => ?_
  have e : (List.range xs.size).filterMap (fun (m : Nat) => xs[(((xs.size : Int) - 1) + (m : Int) * (-1)).toNat]?) = (List.range xs.size).map fun m => xs.toList.getD (xs.size - 1 - m) .none := by
    rw [← List.filterMap_eq_map]
    refine fm_congr fun m hm => ?_
    have hm := List.mem_range.mp hm
    have e1 : (((xs.size : Int) - 1) + (m : Int) * (-1)).toNat = xs.size - 1 - m := by omega
    rw [e1]
    have h2 : xs.size - 1 - m < xs.toList.length := by rw [Array.length_toList]; omega
    show _ = some (xs.toList.getD (xs.size - 1 - m) .none)
    rw [List.getD_eq_getElem?_getD, List.getElem?_eq_getElem h2, Option.getD_some, Array.getElem?_eq_getElem (by omega)]
    simp
  rw [e, List.getElem?_map]
  by_cases hi : i < xs.size
  · rw [List.getElem?_range hi, List.getElem?_reverse (by rw [Array.length_toList]; exact hi), Array.length_toList]
    have h2 : xs.size - 1 - i < xs.toList.length := by rw [Array.length_toList]; omega
    rw [List.getElem?_eq_getElem h2]
    show some (xs.toList.getD (xs.size - 1 - i) .none) = _
    rw [List.getD_eq_getElem?_getD, List.getElem?_eq_getElem h2, Option.getD_some]
  · rw [List.getElem?_eq_none_iff.mpr (by rw [List.length_range]; omega), List.getElem?_eq_none_iff.mpr (by rw [List.length_reverse, Array.length_toList]; omega)]
    rfl
theorem getItem_tuple_rev {t sl : Addr} {items : Array Value} {vs : Value} {Q : Value → Shared → Prop} (ht : IsTup s.heap t items) (hs : s.heap.IsSliceOf sl .none .none vs) (ps : IsPart vs (some (-1)))
    (h : Q (.ref s.heap.objs.size) { s with heap := s.heap.push { cls := .type "tuple", data := .seq items.toList.reverse.toArray } })
    (hsz : items.size ≤ sizeLine) : wpAny (model prog w) A (getItem (.ref t) (.ref sl)) Q E s := by
  have htake : sizeOk (.seq items.toList.reverse.toArray) := by
    show items.toList.reverse.toArray.size ≤ sizeLine
    rw [List.size_toArray, List.length_reverse, Array.length_toList]
    exact hsz
  obtain ⟨os, hos, hcs, hds⟩ := id hs
  have hTs : s.TypeIs (.ref sl) "slice" := ⟨os, hos, hcs⟩
  unfold getItem
  try with_reducible refine wpAny_holding ?_
  first | refine wpAny_bind (wpAny_pure ?_) | skip
  refine wpAny_bind (wpAny_sequenceKey ht.typeIs (by decide) ?_)
  refine wpAny_bind (wpAny_callSpecial?_slot (name := Str.ofString "__getitem__") ht.typeIs PyProof.Rows.slot_tuple_getitem
    (wpAny_call_entry PyProof.Rows.slot_tuple_getitem ht.typeIs entry_tuple_getitem ?_ (args_tuple_getitem _ _)))
  show wpAny _ _ (Builtin.Tuple.tupleItemsOf (.ref t) >>= _) _ _ s
  refine wpAny_bind (tupleItemsOf_ ht ?_)
  refine wpAny_bind (wpAny_typeOf hTs ?_)
  rw [if_pos (by decide)]
  refine wpAny_bind (m := Builtin.Slice.sliceApplied (.ref sl) (pure (items.size : Int))) ?_
  unfold Builtin.Slice.sliceApplied Builtin.Slice.sliceFields
  refine wpAny_bind (wpAny_bind (wpAny_field hos hds (x := .none) rfl (wpAny_bind (wpAny_field hos hds (x := .none) rfl (wpAny_bind (wpAny_field hos hds (x := vs) rfl (wpAny_pure ?_)))))))
  refine wpAny_bind (HT.slicePart_ ps ?_)
  show wpAny _ _ (if ((-1 : Int) == 0) = true then _ else _) _ _ s
  rw [if_neg (by decide)]
  refine wpAny_bind (slicePart_none (wpAny_bind (slicePart_none (wpAny_bind (wpAny_pure ?_)))))
  show wpAny _ _ (match Builtin.Slice.sliceAdjust none none (-1) (items.size : Int) with | (lo, hi) => pure (lo, (-1 : Int), Builtin.Slice.slicePlaces lo hi (-1))) _ _ s
  rw [adjust_rev]
  show wpAny _ _ (pure (((items.size : Int) - 1), (-1 : Int), Builtin.Slice.slicePlaces ((items.size : Int) - 1) (-1) (-1))) _ _ s
  rw [places_rev]
  refine wpAny_pure ?_
  have hno : ¬ ((((items.size : Int) - 1) == 0 && (-1 : Int) == 1 && items.size == items.size) = true) := by
    intro q
    rw [Bool.and_eq_true, Bool.and_eq_true] at q
    exact absurd q.1.2 (by decide)
  show wpAny _ _ (if (((items.size : Int) - 1) == 0 && (-1 : Int) == 1 && items.size == items.size) = true then _ else _) _ _ s
  rw [if_neg hno, pick_rev]
  first
    | exact wpAny_bind (m := Builtin.Tuple.tupleExact _) (wpAny_newObj_type (wpAny_pure ⟨_, rfl, wpAny_pure h⟩) htake)
    | exact wpAny_bind (m := Builtin.Tuple.tupleExact _) (wpAny_newObj_type (wpAny_bind (wpAny_pure (wpAny_pure ⟨_, rfl, wpAny_pure h⟩))) htake)
    | exact wpAny_bind (wpAny_bind (m := Builtin.Tuple.tupleExact _) (wpAny_newObj_type (wpAny_pure (wpAny_pure ⟨_, rfl, wpAny_pure h⟩)) htake))
    | exact wpAny_bind (wpAny_bind (m := Builtin.Tuple.tupleExact _) (wpAny_newObj_type (wpAny_pure ⟨_, rfl, wpAny_pure h⟩) htake))
end
section
variable {X : Cx}
def tRevT (K : PySem.W.Frag) (te : TE) : TE := fun σ H Q => te σ H fun x H1 => ∃ a xs, x = .ref a ∧ SqT K H1 a xs ∧ ∀ p, H1 p = none → Q (.ref p) (upd H1 p (.tup xs.reverse))
theorem pe_revT {e : Expr} {te : TE} {k : Nat} {p1 p2 p3 pos : Pos} (he : PE X e te) : PE X (.Subscript e (.Slice none none (some (.UnaryOp .USub (.Constant (.int 1) k p1) p2)) p3) pos) (tRevT X.K te) := by
  refine ⟨fun pins s σ H Q I h => ?_⟩
  refine Subscript_ (thn (he.run pins s σ H _ I h) fun v s1 ⟨x, H1, I1, r1, q1⟩ => ?_)
  obtain ⟨a, xs, ex, hx, q⟩ := q1
  subst ex
  cases r1
  have hst : PO X (some (.UnaryOp .USub (.Constant (.int 1) k p1) p2)) (tPart (tUn (rU fun i => .int (-i)) (tC (.int 1)))) := po_some (pe_un un_neg pe_int)
  refine wpAny_Slice (thn (po_none.run pins s1 σ H1 (fun o H2 => o = none ∧ H2 = H1) I1 ⟨rfl, rfl⟩) fun vl s2 ⟨l, H2, I2, pl, el, e2⟩ => ?_)
  subst el e2
  refine thn (po_none.run pins s2 σ H2 (fun o H3 => o = none ∧ H3 = H2) I2 ⟨rfl, rfl⟩) fun vu s3 ⟨u, H3, I3, pu, eu, e3⟩ => ?_
  subst eu e3
  refine thn (hst.run pins s3 σ H3 (fun o H4 => o = some (-1) ∧ H4 = H3) I3 ⟨1, rfl, -1, rfl, rfl, rfl⟩) fun vs s4 ⟨o, H4, I4, ps, eo, e4⟩ => ?_
  subst eo e4
  have I5 : L2.Inv X pins σ H4 { s4 with heap := s4.heap.push { cls := .type "slice", data := .fields #[vl, vu, vs] } } := I4.kept (t' := s4.toks) fun b ob q => Heap.get?_push_of_some _ q
  obtain ⟨its, r, ht, hz⟩ := I5.tuple hx
  have hlen := r.length
  cases pl
  cases pu
  show wpAny (model X.prog X.w) X.A (subscriptTail e (.Slice none none (some (.UnaryOp .USub (.Constant (.int 1) k p1) p2)) p3) (.ref a) (.ref s4.heap.objs.size)) (EP X pins σ Q) X.xe { s4 with heap := s4.heap.push { cls := .type "slice", data := .fields #[.none, .none, vs] } }
  refine tail_any (ops := [.ref a, .ref s4.heap.objs.size]) ht.typeIs (PyProof.Rows.slot_tuple_getitem.lookup) ?_ (by with_unfolding_all rfl)
  refine getItem_tuple_rev ht (Heap.IsSliceOf.new _ .none .none vs) ps ?_ (by rw [List.size_toArray]; omega)
  refine ⟨.ref _, _, I5.laid (t' := s4.toks) (o := .tup xs.reverse) (fun b ob q => Heap.get?_push_of_some _ q) (Nat.le_refl _) ?_, rfl, q _ (I5.hok.fresh (Nat.le_refl _))⟩
  exact ⟨by rw [List.length_reverse]; exact hz, _, r.reverse, IsTup.new _ _⟩
end
end Pl

set_option Elab.async false
set_option linter.all false
set_option maxRecDepth 100000
set_option maxHeartbeats 2000001
namespace Pl
open PySem L2 LamX NdefX PyProof.Rows GenW PySem.W PySem.Calls
/-! ### sorted(xs, key=f) -/
section
variable {X : Cx} {pins : List (Addr × Obj)} {σ : L2.St} {H : Hp} {s : Shared}
def srtH (H : Hp) (a kS : Addr) (zs : List V) : Hp := fun b => if b = a then some (.lst zs) else if b = kS then none else H b
theorem srt_at {a kS : Addr} {zs : List V} {b : Addr} (h1 : b ≠ a) (h2 : b ≠ kS) : srtH H a kS zs b = H b := by
  unfold srtH
  rw [if_neg h1, if_neg h2]
theorem srt_a {a kS : Addr} {zs : List V} : srtH H a kS zs a = some (.lst zs) := by
  unfold srtH
  rw [if_pos rfl]
theorem srt_k {a kS : Addr} {zs : List V} (h : kS ≠ a) : srtH H a kS zs kS = none := by
  unfold srtH
  rw [if_neg h, if_pos rfl]
/-- the state is left as it was but for the heap, which lost the pin a and the list kS; a is tracked now -/
theorem inv_sorted {a kS : Addr} {oa : Obj} {ks zs : List V} {h' : Heap} {t' : Nat} (I : L2.Inv X (pins ++ [(a, oa)]) σ H s) (hk : H kS = some (.lst ks)) (ea : X.s_0.heap.objs.size ≤ a) (ec : ∀ x c, X.env.cells.lookup x = some c → c ≠ a) (ep : ∀ p ∈ X.pn ++ pins, p.1 ≠ a)
    (ek : (X.s_0.heap.objs.size ≤ kS) ∧ kS ≠ X.env.locals ∧ (∀ x c, X.env.cells.lookup x = some c → c ≠ kS) ∧ ∀ p ∈ X.pn ++ pins, p.1 ≠ kS)
    (k : ∀ b o, b ≠ a → b ≠ kS → s.heap.get? b = some o → h'.get? b = some o) (new : ObjOk X.prog X.w (srtH H a kS zs) h' a (.lst zs)) :
    L2.Inv X pins σ (srtH H a kS zs) { s with heap := h', toks := t' } := by
  obtain ⟨p1, p2, p3, p4, p5⟩ := I.pin (a, oa) (List.mem_append_right _ (List.mem_append_right _ List.mem_cons_self))
  have I0 : L2.Inv X pins σ H s := I.pins_of fun p hp => I.pin p (List.mem_append_right _ (List.mem_append_left _ hp))
  have nk : kS ≠ a := fun e => by rw [e, p2] at hk; cases hk
  have na : ∀ b u, H b = some u → b ≠ a := fun b u e z => by rw [z, p2] at e; cases e
  have nkk : ∀ b u, H b = some u → (∀ l, u ≠ .lst l) → b ≠ kS := fun b u e n z => by rw [z, hk] at e; exact n ks (Option.some.inj e).symm
  have nn : ∀ b, H b = none → b ≠ kS := fun b e z => by rw [z, hk] at e; cases e
  have c1 : ∀ {b : Addr}, b ∉ [a, kS] → b ≠ a := fun h z => h (by simp [z])
  have c2 : ∀ {b : Addr}, b ∉ [a, kS] → b ≠ kS := fun h z => h (by simp [z])
  refine I0.step (g' := s.gens) (d' := s.drawn) (ch := [a, kS]) (fun b hb => ?_) (fun b o _ _ hc e n => k b o (c1 hc) (c2 hc) e) (fun b o _ _ hc e n => ⟨o.slots, k b o (c1 hc) (c2 hc) e⟩)
    (fun b o hc e n => by rw [srt_at (c1 hc) (c2 hc)]; exact n) (fun b o hc e => ⟨o, k b o (c1 hc) (c2 hc) e⟩) (fun b xs e => by rw [srt_at (na b _ e) (nkk b _ e fun l z => by cases z)]; exact e) (fun b o u e => by rw [srt_at (na b _ e) (nkk b _ e fun l z => by cases z)]; exact e)
    (fun b ps e => ⟨#[], by rw [srt_at (na b _ e) (nkk b _ e fun l z => by cases z), e]; simp⟩) (fun m hm => ?_) (fun b u e => ?_) I0.bare
  · have e : b = a ∨ b = kS := by simpa using hb
    rcases e with e | e
    · rw [e]
      exact ⟨.inr ea, p3, ec, ep⟩
    · rw [e]
      exact ⟨.inr ek.1, ek.2.1, ek.2.2.1, ek.2.2.2⟩
  · obtain ⟨ob, es, ep, ho, r⟩ := hm
    exact ⟨ob, es, ep, k _ ob p3.symm (nn _ I0.free) ho, r⟩
  · by_cases hb : b = a
    · subst hb
      rw [srt_a] at e
      cases e
      exact new
    · by_cases hbk : b = kS
      · subst hbk
        rw [srt_k hb] at e
        cases e
      · rw [srt_at hb hbk] at e
        refine (I0.hok b u e).stay (fun c v hc q => ?_) (fun c q => by rw [srt_at (na c _ q) (nkk c _ q fun l z => by cases z)]; exact q) fun c xs q => by rw [srt_at (na c _ q) (nkk c _ q fun l z => by cases z)]; exact q
        rcases hc with z | z
        · rw [z] at q ⊢
          exact k b v hb hbk q
        · exact k c v (na c _ z) (nkk c _ z fun l y => by cases y) q
end
/-- the call of a key function that stands at fa -/
def KeyCall (X : Cx) (kk : Nat) (kr : Addr → V → Hp → VK → Prop) : Prop := ∀ (A' : Around) (pins : List (Addr × Obj)) (s : Shared) (σ : L2.St) (H : Hp) (fa : Addr) (w : V) (u : Value) (Q : VK) (E : Value → Shared → Prop), Room kk A' → A'.frames = some X.stack → L2.Inv X pins σ H s → L2.RelV w u → kr fa w H Q →
  wpAny (model X.prog X.w) A' (call (.ref fa) [u]) (EP X pins σ Q) E s
def rSortKey (K : PySem.W.Frag) (T : List NTab) (kr : Addr → V → Hp → VK → Prop) : List V → List V → Hp → VK → Prop := fun vs zs H Q => ∃ (v : V) (fa : Addr) (ds : List PyData) (kd : PyData → PyData), vs = [v] ∧ zs = [.ref fa] ∧ Dp K H v (.list ds) ∧ TabsN T H ∧
  AllAlike (ds.map kd) ∧ Sortable (ds.map kd) ∧ (∀ d ∈ ds, (kd d).depth ≤ 60 ∧ imm (kd d) = true) ∧
  (∀ d ∈ ds, ∀ H2, Go [] [] H H2 → TabsN T H2 → ∀ w, Dp K H2 w d → ∀ Q' : VK, (∀ y H3, Go [] [] H2 H3 → TabsN T H3 → Dp K H3 y (kd d) → Q' y H3) → kr fa w H2 Q') ∧
  ∀ (p : Addr) (ys : List V) (H3 : Hp), Go [] [] H H3 → TabsN T H3 → H p = none → H3 p = some (.lst ys) → DpAll K H3 ys (ds.mergeSort (dataLe false kd)) → Q (.ref p) H3
theorem crk_sortKey {X : Cx} {T : List NTab} {kk : Nat} {kr : Addr → V → Hp → VK → Prop} (hr : Room (kk + 1) X.A) (kc : KeyCall X kk kr) : CallRK X (.builtin "sorted") [Str.ofString "key"] (rSortKey X.K T kr) := by
  intro pins s σ H vs zs us ws Q I r rz h
  obtain ⟨v, fa, ds, kd, rfl, rfl, hv, hT, hal, hsk, hdep, key, q⟩ := h
  have hfr : X.A.frames = some X.stack := I.ok.frames
  obtain ⟨u, rfl, rv⟩ := vals1 r
  obtain ⟨w1, rfl, e1⟩ := vals1 rz
  obtain rfl : w1 = Value.ref fa := e1
  obtain ⟨l, xs, rfl, hs, ha⟩ := (by cases hv with | lst hs ha => exact ⟨_, _, rfl, hs, ha⟩ : ∃ a xs, v = .ref a ∧ SqL X.K H a xs ∧ DpAll X.K H xs ds)
  cases rv
  obtain ⟨its, rv, hl, hz⟩ := I.list hs
  have hn : its.length = ds.length := rv.length.symm.trans (da_len ha)
  have hzz : its.length ≤ sizeLine := by rw [← rv.length]; exact hz
  have hu : X.A.units + 64 < cLine := hr.units
  refine sorted_of_sort hl.isList hzz (ksk_s1 _ _) (fun _ => ksk_l1 _ _) fun E' => ?_
  rw [show Builtin.«list.sort» ⟨[.ref (s.heap.objs.size + 1)], [Str.ofString "key"].zip [Value.ref fa]⟩ = ksk_tree (s.heap.objs.size + 1) (.ref fa) false from ksk_t1 fa _]
  generalize ea : s.heap.objs.size + 1 = a
  have ea2 : @Eq Nat (s.heap.objs.size + 1) a := ea
  have ho : (copyHeap s.heap its).get? a = some (seqObj "list" its.toArray 0) := by rw [← ea]; exact copyHeap_at s.heap its
  obtain ⟨e1, ho1⟩ : ∃ e1, ((copyHeap s.heap its).update a (Obj.mapSeq fun _ => (#[] : Array Value))).get? a = some (seqObj "list" #[] e1) := ⟨_, get?_update_seq ho fun _ => #[]⟩
  unfold ksk_tree
  refine wpAny_bind (listItems_at ho rfl ?_)
  refine wpAny_bind (listUpdate_at ho rfl ?_ (by rw [List.size_toArray]; exact hzz) (Nat.zero_le _))
  refine wpAny_bind (seqEpoch_at ho1 rfl ?_)
  refine wpAny_bind (wpAny_newTuple ?_ (by show its.length ≤ _; exact hzz))
  refine wpAny_bind (wpAny_newList ?_ (Nat.zero_le _))
  refine wpAny_holding ?_
  generalize eh : (((copyHeap s.heap its).update a (Obj.mapSeq fun _ => (#[] : Array Value))).push (seqObj "tuple" its.toArray 0)) = h1
  have old : ∀ b o, s.heap.get? b = some o → h1.get? b = some o := fun b o q => by
    rw [← eh]
    refine Heap.get?_push_of_some _ ?_
    have hlt : b < s.heap.objs.size := Heap.lt_size q
    rw [Heap.get?_update_ne _ _ _ _ (Nat.ne_of_lt (show @LT.lt Nat _ b a by have : @LT.lt Nat _ b s.heap.objs.size := hlt; omega))]
    exact copyHeap_old q
  have ha1 : h1.get? a = some (seqObj "list" #[] e1) := by rw [← eh]; exact Heap.get?_push_of_some _ ho1
  have hsz : s.heap.objs.size ≤ h1.objs.size := by
    have := (show @LT.lt Nat _ a h1.objs.size from Heap.lt_size ha1)
    omega
  have halt : a < h1.objs.size := Heap.lt_size ha1
  generalize ek : h1.objs.size = kS
  have ek2 : @Eq Nat h1.objs.size kS := ek
  have halt2 : @LT.lt Nat _ a h1.objs.size := halt
  have I1 : L2.Inv X pins σ H { s with heap := h1.push (seqObj "list" #[] 0) } := I.kept (t' := s.toks) fun b o q => Heap.get?_push_of_some _ (old b o q)
  have nH : ∀ b, s.heap.objs.size ≤ b → H b = none := fun b hb => I.hok.fresh hb
  have I2 : L2.Inv X pins σ (upd H kS (.lst [])) { s with heap := h1.push (seqObj "list" #[] 0) } := I.laid (t' := s.toks) (fun b o q => Heap.get?_push_of_some _ (old b o q)) (by rw [← ek]; exact hsz) ⟨Nat.zero_le _, [], 0, .nil, by rw [← ek]; exact Heap.get?_push_size _ rfl⟩
  have nak : a ≠ kS := by rw [← ek]; exact Nat.ne_of_lt halt
  have nl : @LT.lt Nat _ X.env.locals s.heap.objs.size := I.lt
  have I3 : L2.Inv X (pins ++ [(a, seqObj "list" #[] e1)]) σ (upd H kS (.lst [])) { s with heap := h1.push (seqObj "list" #[] 0) } := I2.pins_of fun p hp => by
    rcases List.mem_append.mp hp with hp | hp
    · exact I2.pin p (List.mem_append_right _ hp)
    · have e : p = (a, seqObj "list" #[] e1) := by simpa using hp
      subst e
      refine ⟨Heap.get?_push_of_some _ ha1, by rw [upd_ne nak]; exact nH a (show @LE.le Nat _ _ _ by omega), Nat.ne_of_gt (show @LT.lt Nat _ X.env.locals a by omega), I.nofs (show @LE.le Nat _ s.heap.objs.size a by omega), fun v z => by cases z⟩
  have nk : H kS = none := nH kS (show @LE.le Nat _ _ _ by omega)
  have g0 : Go [] [] H (upd H kS (.lst [])) := go_upd nk
  have fixc : ∀ x c, X.env.cells.lookup x = some c → c ≠ a := fun x c e z => by
    obtain ⟨v, q⟩ := I.cell x c e
    have h1 : @LT.lt Nat _ c s.heap.objs.size := q.lt
    have h2 : @Eq Nat c a := z
    omega
  have fixp : ∀ p ∈ X.pn ++ pins, p.1 ≠ a := fun p hp z => by
    have h1 : @LT.lt Nat _ p.1 s.heap.objs.size := Heap.lt_size (I.pin p hp).1
    have h2 : @Eq Nat p.1 a := z
    omega
  have efr : X.A.in1.in1.frames = some X.stack := hfr
  have hr2 : Room kk X.A.in1.in1 := ⟨hr.hd, by have := hr.dp; show X.A.depth + 3 * kk + 5 < _; omega, by have := hr.un; show X.A.units + 1 + 1 + 16 * kk + 200 < _; omega⟩
  show wpAny (model X.prog X.w) X.A.in1.in1 (ksk_rest a (.ref fa) false its.toArray e1 (.ref kS)) _ E' _
  unfold ksk_rest
  refine wpAny_bind (wpAny_rule ?_)
  first
    | rw [List.forIn_toArray]
    | (rw [← Array.forIn_toList]; simp only [List.toList_toArray])
    | rw [← Array.forIn_toList]
  refine wpAny_bind (ksk_fold (fun i s' => ∃ H' ys, L2.Inv X (pins ++ [(a, seqObj "list" #[] e1)]) σ H' s' ∧ Go [] [] H H' ∧ TabsN T H' ∧ H' kS = some (.lst ys) ∧ DpAll X.K H' ys ((ds.map kd).take i)) its 0 _
    ⟨_, [], I3, g0, tab_new nk hT, upd_same, by rw [List.take_zero]; exact .nil⟩ ?step ?done)
  case step =>
    rintro j x s' hx ⟨H', ys, J, g, hT', hks, hys⟩
    rw [Nat.zero_add] at hys ⊢
    have hj : j < its.length := (List.getElem?_eq_some_iff.mp hx).1
    obtain ⟨d, hd⟩ : ∃ d, ds[j]? = some d := ⟨_, List.getElem?_eq_getElem (by omega)⟩
    obtain ⟨xv, hxv, rxv⟩ : ∃ xv, xs[j]? = some xv ∧ L2.RelV xv x := by
      have hjl : j < xs.length := by rw [rv.length]; exact hj
      obtain ⟨u', e', r'⟩ := rv.get (List.getElem?_eq_getElem hjl)
      rw [hx] at e'
      cases e'
      exact ⟨_, List.getElem?_eq_getElem hjl, r'⟩
    obtain ⟨d', ed, hxd⟩ := da_get' ha hxv
    rw [hd] at ed
    cases ed
    have rk : Rk H H' := fun b o e t => g.ext b o e (by simp) t
    have dm : d ∈ ds := List.mem_of_getElem? hd
    refine wpAny_bind (wpAny_attempt (wpAny_mono (kc X.A.in1.in1 _ s' σ H' fa xv x (fun y H3 => Go [] [] H' H3 ∧ TabsN T H3 ∧ Dp X.K H3 y (kd d)) (fun _ _ => False) hr2 efr J rxv (key d dm H' g hT' xv (dp_mono rk _ _ hxd) _ fun y H3 h1 h2 h3 => ⟨h1, h2, h3⟩)) (fun r s2 he => ?_) fun _ _ hF => ?_))
    · obtain ⟨y, H3, J3, ry, g3, hT3, hy⟩ := he
      have hk3 : H3 kS = some (.lst ys) := g3.ext kS _ hks (by simp) (fun _ z => by cases z)
      obtain ⟨kits, n, rk2, hko, hkz⟩ := J3.lst hk3
      have yl : ys.length = j := by
        have := da_len hys
        rw [List.length_take, List.length_map] at this
        omega
      have hsmall : ys.length + 1 ≤ sizeLine := by omega
      try dsimp only
      refine wpAny_bind (listUpdate_at hko rfl ?_ (by rw [List.size_toArray, ← rk2.length]; omega) (by rw [Array.size_push, List.size_toArray, ← rk2.length]; omega))
      obtain ⟨c2, hc2⟩ : ∃ c2, (s2.heap.update kS (Obj.mapSeq (·.push r))).get? kS = some (seqObj "list" (kits.toArray.push r) c2) := ⟨_, get?_update_seq hko (·.push r)⟩
      have J4 : L2.Inv X (pins ++ [(a, seqObj "list" #[] e1)]) σ (upd H3 kS (.lst (ys ++ [y]))) { s2 with heap := s2.heap.update kS (Obj.mapSeq (·.push r)) } := by
        refine J3.write (x := kS) (e := kS) (t' := s2.toks) (by rw [hk3]; trivial) (.inl rfl) (fun b u hb q => (Heap.get?_update_other _ _ (Ne.symm hb)).trans q) ⟨_, hc2⟩ ?_
        refine ⟨by rw [List.length_append, List.length_singleton]; exact hsmall, kits ++ [r], c2, rk2.append (.cons ry .nil), ?_⟩
        rw [hc2]
        simp
      have g4 : Go [] [] H (upd H3 kS (.lst (ys ++ [y]))) := ⟨fun b o e n t => by rw [upd_ne fun z => by rw [z, nk] at e; cases e]; exact g3.ext b o (g.ext b o e n t) n t, fun b e => g.dom b (g3.dom b (upd_none e)), fun b m => .inl m⟩
      have tk : Tk H3 (upd H3 kS (.lst (ys ++ [y]))) := fun b l h => by
        rcases h with h | ⟨o, h⟩
        · exact .inl (by rw [upd_ne fun z => by rw [z, hk3] at h; cases h]; exact h)
        · exact .inr ⟨o, by rw [upd_ne fun z => by rw [z, hk3] at h; cases h]; exact h⟩
      have immK : ∀ l : List PyData, (∀ d ∈ l, d ∈ ds) → immAll (l.map kd) = true := fun l hl => immAll_mem.mpr fun k hk => by
        obtain ⟨d, hd, rfl⟩ := List.mem_map.mp hk
        exact (hdep d (hl d hd)).2
      refine wpAny_pure ⟨rfl, _, ys ++ [y], J4, g4, tab_upd hk3 (fun _ z => by cases z) (fun _ z => by cases z) hT3, upd_same, ?_⟩
      rw [List.take_add_one, List.getElem?_map, hd]
      refine da_app ?_ (da_one (dp_imm tk _ _ (hdep d dm).2 hy))
      refine da_imm tk _ _ ?_ (da_mono (fun b o e t => g3.ext b o e (by simp) t) _ _ hys)
      rw [← List.map_take]
      exact immK _ fun d hd => List.mem_of_mem_take hd
    · exact hF.elim
  case done =>
    rintro s' ⟨H', ys, J, g, hT', hks, hys⟩
    rw [Nat.zero_add, List.take_of_length_le (by rw [List.length_map]; omega)] at hys
    obtain ⟨kits, n, rk2, hko, hkz⟩ := J.lst hks
    have yl : ys.length = ds.length := by
      have := da_len hys
      rw [List.length_map] at this
      exact this
    have hpin := J.pin (a, seqObj "list" #[] e1) (List.mem_append_right _ (List.mem_append_right _ List.mem_cons_self))
    try dsimp only
    refine wpAny_bind (listItems_at hko rfl ?_)
    have eks : EachIs (fun v k => ∃ as, Reads s'.heap v k as) kits (ds.map kd) := (each_dv hys rk2).mono fun v d ⟨x, r, h⟩ => Dp.reads J d x v h r
    have kp : KeepsBut a (hideAll s'.heap [kS]) s'.heap := fun b o _ e => of_hideAll _ e
    have dpt : ∀ k ∈ ds.map kd, X.A.in1.in1.units + k.depth < cLine := fun k hk => by
      obtain ⟨d, hd, rfl⟩ := List.mem_map.mp hk
      have := (hdep d hd).1
      show X.A.units + 1 + 1 + (kd d).depth < cLine
      omega
    refine keyH_end (κ := dataKind s'.heap (ds.map kd)) (h₁ := hideAll s'.heap [kS]) kp (hideAll_none _ List.mem_cons_self) hko hpin.1 nak.symm (SortsAt.data (s := s') (by simpa using eks) hal hsk dpt) (by rw [List.size_toArray, ← rk2.length, yl, hn]) hzz fun h3 tk3 c k3 n3 => ⟨rfl, ?_⟩
    have ko : KeyedOut false (ds.map kd) its (sortVals (dataKind s'.heap (ds.map kd)) false kits.toArray.toList its) := ⟨s'.heap, kits, hal, by simp, eks⟩
    have rkH : Rk H H' := fun b o e t => g.ext b o e (by simp) t
    have eI : EachIs (DV X.K H) its ds := each_dv ha rv
    have eo := keyedOut_each kd ko eI
    obtain ⟨zs, q1, q2⟩ := of_each eo
    have zl : zs.length = ds.length := by
      have h1 := da_len q2
      rw [List.length_mergeSort] at h1
      exact h1
    have nkS : H' a = none := hpin.2.1
    have keep : ∀ b o, b ≠ a → b ≠ kS → s'.heap.get? b = some o → h3.get? b = some o := fun b o h1 h2 e => k3 b o h1 (hideAll_get _ e (by simpa using h2))
    have n0 : X.s_0.heap.objs.size ≤ s.heap.objs.size := I.sz
    have fixk : (X.s_0.heap.objs.size ≤ kS) ∧ kS ≠ X.env.locals ∧ (∀ x c, X.env.cells.lookup x = some c → c ≠ kS) ∧ ∀ p ∈ X.pn ++ pins, p.1 ≠ kS := by
      have n1 : @LE.le Nat _ X.s_0.heap.objs.size s.heap.objs.size := n0
      refine ⟨show @LE.le Nat _ X.s_0.heap.objs.size kS by omega, Nat.ne_of_gt (show @LT.lt Nat _ X.env.locals kS by omega), fun x c e z => ?_, fun p hp z => ?_⟩
      · obtain ⟨v, q⟩ := I.cell x c e
        have h1 : @LT.lt Nat _ c s.heap.objs.size := q.lt
        have h2 : @Eq Nat c kS := z
        omega
      · have h1 : @LT.lt Nat _ p.1 s.heap.objs.size := Heap.lt_size (I.pin p hp).1
        have h2 : @Eq Nat p.1 kS := z
        omega
    have J1 := inv_sorted (zs := zs) (t' := tk3) J hks (show @LE.le Nat _ X.s_0.heap.objs.size a by have n1 : @LE.le Nat _ X.s_0.heap.objs.size s.heap.objs.size := n0; omega) fixc fixp fixk keep ⟨by omega, _, c, q1, n3⟩
    have nH' : ∀ b, s.heap.objs.size ≤ b → H b = none := nH
    have nz : ∀ b u, H b = some u → b ≠ a ∧ b ≠ kS := fun b u e => ⟨(fun z => by rw [z, nH a (show @LE.le Nat _ _ _ by omega)] at e; cases e), (fun z => by rw [z, nk] at e; cases e)⟩
    have gx : Go [] [] H (srtH H' a kS zs) := by
      refine ⟨fun b o e n t => ?_, fun b e => ?_, fun b m => .inl m⟩
      · rw [srt_at (nz b o e).1 (nz b o e).2]
        exact g.ext b o e n t
      · by_cases hb : b = a
        · rw [hb]; exact nH a (show @LE.le Nat _ _ _ by omega)
        · by_cases hbk : b = kS
          · rw [hbk]; exact nk
          · rw [srt_at hb hbk] at e
            exact g.dom b e
    refine ⟨.ref a, _, J1, rfl, q a zs _ gx ?_ (nH a (show @LE.le Nat _ _ _ by omega)) srt_a (da_mono (fun b o e t => gx.ext b o e (by simp) t) _ _ q2)⟩
    refine fun p hp => ?_
    obtain ⟨ps, q1, q2, q3⟩ := hT' p hp
    refine ⟨ps, ?_, q2, fun pos cv hc => ?_⟩
    · rw [srt_at (fun z => by rw [z, nkS] at q1; cases q1) (fun z => by rw [z, hks] at q1; cases q1)]
      exact q1
    · obtain ⟨c, e1, e2⟩ := q3 pos cv hc
      refine ⟨c, e1, ?_⟩
      rw [srt_at (fun z => by rw [z, nkS] at e2; cases e2) (fun z => by rw [z, hks] at e2; cases e2)]
      exact e2
end Pl

set_option Elab.async false
set_option linter.all false
set_option maxRecDepth 100000
set_option maxHeartbeats 2000001
namespace Pl
open PySem L2 LamX NdefX PyProof.Rows GenW PySem.Calls
/-! ### a lambda of one parameter that captures nothing -/
structure LF where
  qual : Str
  params : Arguments
  body : Expr
  scope : Scope
  c : Addr
abbrev LF.fd (F : LF) (pm ctv : Value) : FuncData := PySem.W.kla_fn "<lambda>" F.qual F.params F.body F.scope [] pm (.ref F.c) ctv
def LamO (f : Addr) (F : LF) : HO := .ext fun h => ∃ (od : Option Addr) (sl : Array (Option Value)) (pm ctv : Value), h.get? f = some (⟨.type "function", od, .func (F.fd pm ctv), sl⟩ : Obj)
theorem lamO_at {P : Program} {w : World} {H : Hp} {h : Heap} {f : Addr} {F : LF} (hok : HOk P w H h) (e : H f = some (LamO f F)) : ∃ (od : Option Addr) (sl : Array (Option Value)) (pm ctv : Value), h.get? f = some (⟨.type "function", od, .func (F.fd pm ctv), sl⟩ : Obj) := by
  obtain ⟨z, _, _⟩ := hok f _ e
  exact z
section
variable {X : Cx} {pins : List (Addr × Obj)} {σ : L2.St} {H : Hp} {s : Shared}
theorem inv_lam {F : LF} {o : Obj} {t' : Nat} {pm ctv : Value} (I : L2.Inv X pins σ H s) (ho : o = { cls := .type "function", data := .func (F.fd pm ctv) }) :
    L2.Inv X pins σ (upd H s.heap.objs.size (LamO s.heap.objs.size F)) { s with heap := s.heap.push o, toks := t' } := by
  subst ho
  refine I.laid (a := s.heap.objs.size) (fun b u e => Heap.get?_push_of_some _ e) (Nat.le_refl _) ?_
  have e : (s.heap.push ({ cls := .type "function", data := .func (F.fd pm ctv) } : Obj)).get? s.heap.objs.size = some ({ cls := .type "function", data := .func (F.fd pm ctv) } : Obj) := Heap.get?_push_size _ rfl
  exact ⟨⟨_, _, pm, ctv, e⟩, ⟨_, e⟩, fun h1 h2 ⟨od, sl, p, t, z⟩ st => ⟨od, sl, p, t, st _ z⟩⟩
theorem lam_make {T : List NTab} {nm : Nat → Nat → Str} {c P : Addr} {params : Arguments} {body : Expr} {scope : Scope} {pos : Pos} {E : Value → Shared → Prop} {Q : Value → Shared → Prop} (I : L2.Inv X pins σ H s) (TB : TabB X.base X.mg c P) (hcode : X.env.code = .ref c)
    (hm : (P, nm) ∈ T) (hn : nm pos.line pos.col = X.env.qual ++ "<lambda>") (hu : ∀ p ∈ T, p.1 = P → p.2 = nm) (hT : TabsN T H) (hdef : defaultsOf params X.env = ([], [])) (hfree : ∀ y ∈ scope.names, y.2 ≠ .free) (hcl : cloFrom X.env.cells scope.names [] = [])
    (h : ∀ (f c' : Addr) (H1 : Hp) (s' : Shared), L2.Inv X pins σ H1 s' → ExtN H H1 → (∀ b, H1 b = Option.none → H b = Option.none) → TabsN T H1 → H1 f = some (LamO f ⟨X.env.qual ++ "<lambda>", params, body, scope, c'⟩) → H1 c' = some (CodeO c' (X.env.qual ++ "<lambda>")) → Q (.ref f) s') :
    wpAny (model X.prog X.w) X.A (eval (.Lambda params body scope pos) X.env) Q E s := by
  obtain ⟨ps, hP, ht, ha⟩ := (show TabN H P nm from hT _ hm)
  refine PySem.W.kla_eval hdef ?_
  have bP : s.heap.BuiltinsAt X.mg P := TB.bm.keeps I.bk
  have hP' : s.heap.get? P = some { cls := .none, data := .fields ps } := I.hok P _ hP
  have hfr : ∀ y ∈ scope.names, y.2 = .free → ∃ c, X.env.cells.lookup y.1 = some c := fun y hy e => absurd e (hfree y hy)
  cases hc : codeAmong pos ps.toList with
  | none =>
    refine PySem.W.kla_makeFunction (mg := X.mg) (c := c) (P := P) (ps := ps) (closure_ok hfr) I.ok.glob (I.mod.glob.keeps I.bk) hcode (TB.code.keeps I.bk) hP' ht hc TB.gP bP fun c' ctv h' tk hx hge hlt hrec htb => ?_
    obtain ⟨c2, oc, vs, t, e2, hoc, hd, hv⟩ := hrec
    cases e2
    have nC : H c' = none := I.hok.fresh hge
    have I1 := inv_table (t' := tk) (more := #[rawInt pos.line, rawInt pos.col, .ref c']) (h' := h') I hP (fun b o hb e => hx b o hb e) htb hge ⟨oc, vs, t, hoc, hd, hv⟩
    have hE : ExtN H (upd (upd H P (.tbl (ps ++ #[rawInt pos.line, rawInt pos.col, .ref c']))) c' (CodeO c' (X.env.qual ++ "<lambda>"))) := fun b o e n => by
      rw [upd_ne (ne_of_none e nC), upd_ne (fun z => n ps (Option.some.inj (e.symm.trans (by rw [z]; exact hP))))]
      exact e
    have eL : (ps ++ #[rawInt pos.line, rawInt pos.col, .ref c']).toList = ps.toList ++ [rawInt pos.line, rawInt pos.col, .ref c'] := by simp
    have T1 : TabsN T (upd (upd H P (.tbl (ps ++ #[rawInt pos.line, rawInt pos.col, .ref c']))) c' (CodeO c' (X.env.qual ++ "<lambda>"))) := fun p hp => by
      by_cases hb : p.1 = P
      · rw [hu p hp hb, hb]
        refine ⟨_, by rw [upd_ne (ne_of_none hP nC), upd_same], by rw [eL]; exact PySem.TriplesOk_snoc _ _ _ _ ht, fun p' cv hcv => ?_⟩
        rw [eL] at hcv
        rcases among_app2 _ ht hcv with z | ⟨z, z1, z2⟩
        · obtain ⟨c0, e1, e2⟩ := ha p' cv z
          exact ⟨c0, e1, hE _ _ e2 codeO_ne⟩
        · refine ⟨c', z, ?_⟩
          rw [← z1, ← z2, hn]
          exact upd_same
      · obtain ⟨ps', a1, a2, a3⟩ := hT p hp
        refine ⟨ps', by rw [upd_ne (ne_of_none a1 nC), upd_ne hb]; exact a1, a2, fun p' cv hcv => ?_⟩
        obtain ⟨c0, e1, e2⟩ := a3 p' cv hcv
        exact ⟨c0, e1, hE _ _ e2 codeO_ne⟩
    have nF := I1.hok.fresh (Nat.le_refl _)
    have I2 := inv_lam (F := ⟨X.env.qual ++ "<lambda>", params, body, scope, c'⟩) (o := PySem.W.kla_obj "<lambda>" (X.env.qual ++ "<lambda>") params body scope (cloFrom X.env.cells scope.names []) ((X.mg "__name__").getD .none) c' ctv) (t' := tk) (pm := (X.mg "__name__").getD .none) (ctv := ctv) I1 (by rw [hcl])
    refine h h'.objs.size c' _ _ I2 (fun b o e n => ?_) (fun b e => upd_none (upd_none (upd_none e))) (T1.ext fun b o e => ?_) upd_same ?_
    · have e1 := hE b o e n
      exact (upd_ne (ne_of_none e1 nF)).trans e1
    · exact (upd_ne (ne_of_none e nF)).trans e
    · exact (upd_ne (Nat.ne_of_lt hlt)).trans upd_same
  | some cv =>
    obtain ⟨c', e, hco⟩ := ha pos cv hc
    subst e
    rw [hn] at hco
    refine PySem.W.kla_makeFunctionHit (mg := X.mg) (c := c) (P := P) (ps := ps) (closure_ok hfr) I.ok.glob (I.mod.glob.keeps I.bk) hcode (TB.code.keeps I.bk) hP' ht hc bP fun ctv h' tk hx hsz => ?_
    have I1 : L2.Inv X pins σ H { s with heap := h', toks := tk } := I.kept hx
    have nF : H h'.objs.size = none := I1.hok.fresh (Nat.le_refl _)
    have I2 := inv_lam (F := ⟨X.env.qual ++ "<lambda>", params, body, scope, c'⟩) (o := PySem.W.kla_obj "<lambda>" (X.env.qual ++ "<lambda>") params body scope (cloFrom X.env.cells scope.names []) ((X.mg "__name__").getD .none) c' ctv) (t' := tk) (pm := (X.mg "__name__").getD .none) (ctv := ctv) I1 (by rw [hcl])
    refine h h'.objs.size c' _ _ I2 (fun b o e n => ?_) (fun b e => upd_none e) (hT.ext fun b o e => ?_) upd_same ?_
    · exact (upd_ne (ne_of_none e nF)).trans e
    · exact (upd_ne (ne_of_none e nF)).trans e
    · exact (upd_ne (ne_of_none hco nF)).trans hco
end
def tLamE (T : List NTab) (mk : Addr → LF) : TE := fun σ H Q => TabsN T H ∧ ∀ (f c' : Addr) (H1 : Hp), Go [] [] H H1 → TabsN T H1 → H1 f = some (LamO f (mk c')) → H1 c' = some (CodeO c' (mk c').qual) → Q (.ref f) H1
section
variable {X : Cx}
theorem pe_lam {T : List NTab} {nm : Nat → Nat → Str} {c P : Addr} {params : Arguments} {body : Expr} {scope : Scope} {pos : Pos} (TB : TabB X.base X.mg c P) (hcode : X.env.code = .ref c) (hm : (P, nm) ∈ T) (hn : nm pos.line pos.col = X.env.qual ++ "<lambda>") (hu : ∀ p ∈ T, p.1 = P → p.2 = nm)
    (hfree : ∀ y ∈ scope.names, y.2 ≠ .free) (hcl : cloFrom X.env.cells scope.names [] = [] := by rfl) (hdef : defaultsOf params X.env = ([], []) := by rfl) :
    PE X (.Lambda params body scope pos) (tLamE T fun c' => ⟨X.env.qual ++ "<lambda>", params, body, scope, c'⟩) := by
  refine ⟨fun pins s σ H Q I h => ?_⟩
  obtain ⟨hT, h⟩ := h
  exact lam_make I TB hcode hm hn hu hT hdef hfree hcl fun f c' H1 s' I1 e d T1 h1 h2 => ⟨.ref f, H1, I1, rfl, h f c' H1 ⟨fun a o e0 _ t => e a o e0 t, d, fun a m => .inl m⟩ T1 h1 h2⟩
/-- the lambda's own context: one name -/
abbrev NF.lam (F : LF) : NF := ⟨"<lambda>", F.qual, F.params, [], F.scope, [], F.c⟩
theorem kc_lam {k : Nat} {a : Str} {params : Arguments} {body : Expr} {scope : Scope} {qual : Str} {te : TE} (Sc : NScope [a] [a] [] scope)
    (hb : ∀ (q : Str) (pm cv ctv u : Value), bindArgs (PySem.W.kla_fn "<lambda>" q params body scope [] pm cv ctv) ⟨[u], []⟩ = pure [(a, u)])
    (hbody : ∀ (A : Around) (outer : List Env) (s : Shared) (H : Hp) (f c' : Addr), Room k (A.deeper (envF (NF.lam ⟨qual, params, body, scope, c'⟩) f s.heap.objs.size)) → PE (ncx CX0 X.prog X.w X.K X.mg X.base [a] (NF.lam ⟨qual, params, body, scope, c'⟩) f A outer s H E0).nox body te) :
    KeyCall X (k + 1) (fun fa w H Q => ∃ c', H fa = some (LamO fa ⟨qual, params, body, scope, c'⟩) ∧ H c' = some (CodeO c' qual) ∧ te [some w] H Q) := by
  intro A' pins s σ H fa w u Q E hr hfr I rw' h
  obtain ⟨c', hf, hc, ht⟩ := h
  have e0 : Env0 X.prog X.w X.K X.mg X.base A' X.stack s H := ⟨hfr, I.env0.mod, I.env0.bs, I.env0.bsz, I.env0.funs, I.env0.frf, I.env0.hok, I.env0.bare⟩
  have lim : s.heap.NoLimit := e0.mod.nolimit.keeps fun b o e => (e0.bs b o e).1
  have rc : codeAny (model X.prog X.w) A' (.call (.ref fa) ⟨[u], []⟩) (CR CX0 X.stack X.prog X.w H s Q E0) s := by
    obtain ⟨od, sl, pm, ctv, ho⟩ := lamO_at e0.hok hf
    refine PySem.W.kla_callFunE hr.depth ho rfl Sc.co Sc.gen rfl (codeO_at e0.hok hc) ?_
    rw [hb _ pm _ ctv u]
    refine wpAny_pure (wpAny_newFunctionEnv Sc.nocell (fun y hy => ?_) (fun h₁ hns hsb => ⟨lim.fresh _ hsb, ?_⟩) Sc.kind)
    · have e : y = (a, u) := by simpa using hy
      subst e
      exact Sc.par a List.mem_cons_self
    show codeAny _ _ (.expr body (envF (NF.lam ⟨qual, params, body, scope, c'⟩) fa s.heap.objs.size)) _ _
    have kp : ∀ b o, s.heap.get? b = some o → h₁.get? b = some o := fun b o e => hsb.extBut b o (Nat.ne_of_lt (Heap.lt_size e)) (Heap.get?_push_of_some _ e)
    have C : CellsAt (NF.lam ⟨qual, params, body, scope, c'⟩).cl [] [] s.heap H := ⟨rfl, (fun y c e => by cases e), (fun x y c e => by cases e), fun i y e => by simp at e⟩
    have J : L2.Inv (ncx CX0 X.prog X.w X.K X.mg X.base [a] (NF.lam ⟨qual, params, body, scope, c'⟩) fa A' X.stack s H E0) [] (startF [a] [w] []) H { s with heap := h₁, toks := s.toks + ([a].zip [u]).length } :=
      inv_startN Sc hr.hd e0 rfl (.cons rw' .nil) C hns kp
    refine PySem.W.kla_codeExpr (wpAny_mono ((hbody A' X.stack s H fa c' (hr.deeper _)).nox.run [] _ _ H Q J ht) (fun v s' hq => ?_) fun e s' hq => hq)
    obtain ⟨w', H', J', rv, q⟩ := hq
    exact ⟨w', H', J'.os, J'.bare, J'.base, J'.hok, rv, q⟩
  refine wpAny_call (codeAny_mono rc fun r s' hq => ?_)
  cases r with
  | error e => exact (show False from hq).elim
  | ok fl =>
    cases fl with
    | ret u => exact I.after hq
    | next => exact False.elim hq
    | brk => exact False.elim hq
    | cont => exact False.elim hq
end
end Pl

set_option Elab.async false
set_option linter.all false
set_option maxRecDepth 100000
set_option maxHeartbeats 1000001
namespace Pl
open PySem L2 LamX NdefX PyProof.Rows GenW PySem.W PySem.Calls
section
variable {K : PySem.W.Frag} {T : List NTab} {w : World} {B B' B1 : Lo} {A A0 : List Addr} {H0 H H' : Hp} {σ : L2.St} {δ δ' : List Sl} {v : V} {r : R} {E : Es} {te ta tb ty tv : TE} {tt t1 t2 : TT} {ts t u : TS} {g : TG} {P : R → List Sl → Prop}
theorem imm_sort {f : D → D} {ds : List D} (h : immAll ds = true) : immAll (ds.mergeSort (dataLe false f)) = true := immAll_mem.mpr fun d m => immAll_mem.mp h d ((List.mergeSort_perm _ _).mem_iff.mp m)
theorem cb_sortedL {ds : List D} {P : R → Prop} (hi : immAll ds = true) (hal : AllAlike ds) (hk : Sortable ds) (hd : ∀ d ∈ ds, d.depth ≤ 60) (p : P (.new (.lst (ds.mergeSort (dataLe false id))))) : CbD K (rSortedD K) [.list ds] P := fun H vs Q h o => by
  obtain ⟨v, rfl, h1⟩ := da_1 h
  exact ⟨v, ds, rfl, .inl h1, hal, hk, hd, fun q ys hq hy => o.lst q ys _ hq hy (imm_sort hi) p⟩
theorem cb_sortedT {ds : List D} {P : R → Prop} (hi : immAll ds = true) (hal : AllAlike ds) (hk : Sortable ds) (hd : ∀ d ∈ ds, d.depth ≤ 60) (p : P (.new (.lst (ds.mergeSort (dataLe false id))))) : CbD K (rSortedD K) [.tuple ds] P := fun H vs Q h o => by
  obtain ⟨v, rfl, h1⟩ := da_1 h
  exact ⟨v, ds, rfl, .inr h1, hal, hk, hd, fun q ys hq hy => o.lst q ys _ hq hy (imm_sort hi) p⟩
/-- sorted(set(x)), x a tuple of ints -/
theorem ex_sortSet (h : Ex K T te δ fun r δ1 => ∃ ns : List Int, AsD δ1 r (.tuple (ns.map .int)) ∧ ns.length < 64 ∧ ∀ ms : List Int, ms.Pairwise (· < ·) → (∀ k, k ∈ ms ↔ k ∈ ns) → ms.length ≤ ns.length → P (.new (.lst (ms.map .int))) δ1) :
    Ex K T (tCB (rSortedSet w) (tCons (tCB (rSetT K w) (tCons te tNil)) tNil)) δ P := fun B H σ s Q k =>
  h B H σ s _ fun v H1 r δ1 B1 R1 ⟨ns, a, hl, p⟩ => by
    obtain ⟨C, rfl⟩ := R1.bx.suf
    refine ⟨v, ns, rfl, R1.vr.dp R1.s a, by omega, fun q c hc hq => ?_⟩
    refine ⟨q, _, c, rfl, upd_same, by omega, fun ms q2 hp hm hn hq2 => ?_⟩
    have s1 := R1.s.dropAll
    have g1 := R1.go.less ow_suf
    have s2 := s1.laid (o := SetO w q (fun j => decide (j ∈ ns)) c) hq
    have g2 := g1.trans (go_upd (A := ow δ1 B) (o := SetO w q (fun j => decide (j ∈ ns)) c) hq)
    exact (out_rs (P := P) s2 g2 k).lst q2 _ (ms.map .int) hq2 da_ofInts (imm_ints ms) (p ms hp (fun k => by rw [hm k]; simp) (by omega))
/-! ### truth -/
theorem et_truI {P' : Bool → List Sl → Prop} (h : Ex K T te δ fun r δ' => ∃ i : Int, AsD δ' r (.int i) ∧ P' (i != 0) δ') : ExT K T (fun σ H Q => te σ H fun x H' => ∃ k, TruV K x H' k ∧ Q k H') δ P' := fun B H σ s Q k =>
  h B H σ s _ fun v H1 r δ1 B1 R1 ⟨i, a, p⟩ => by
    obtain ⟨C, rfl⟩ := R1.bx.suf
    have d := R1.vr.dp R1.s a
    cases d
    exact ⟨_, rfl, k _ H1 δ1 R1.s.dropAll (R1.go.less ow_suf) p⟩
theorem et_truL {P' : Bool → List Sl → Prop} (h : Ex K T te δ fun r δ' => ∃ ds, AsD δ' r (.list ds) ∧ P' (!ds.isEmpty) δ') : ExT K T (fun σ H Q => te σ H fun x H' => ∃ k, TruV K x H' k ∧ Q k H') δ P' := fun B H σ s Q k =>
  h B H σ s _ fun v H1 r δ1 B1 R1 ⟨ds, a, p⟩ => by
    obtain ⟨C, rfl⟩ := R1.bx.suf
    obtain ⟨b, xs, rfl, hs, ha⟩ := dp_l (R1.vr.dp R1.s a)
    have e : xs.isEmpty = ds.isEmpty := by cases ha <;> rfl
    exact ⟨_, .inl ⟨xs, hs, rfl⟩, by rw [e]; exact k _ H1 δ1 R1.s.dropAll (R1.go.less ow_suf) p⟩
theorem et_truT {P' : Bool → List Sl → Prop} (h : Ex K T te δ fun r δ' => ∃ ds, AsD δ' r (.tuple ds) ∧ P' (!ds.isEmpty) δ') : ExT K T (fun σ H Q => te σ H fun x H' => ∃ k, TruV K x H' k ∧ Q k H') δ P' := fun B H σ s Q k =>
  h B H σ s _ fun v H1 r δ1 B1 R1 ⟨ds, a, p⟩ => by
    obtain ⟨C, rfl⟩ := R1.bx.suf
    obtain ⟨b, xs, rfl, hs, ha⟩ := dp_t (R1.vr.dp R1.s a)
    have e : xs.isEmpty = ds.isEmpty := by cases ha <;> rfl
    exact ⟨_, .inr (.inl ⟨xs, hs, rfl⟩), by rw [e]; exact k _ H1 δ1 R1.s.dropAll (R1.go.less ow_suf) p⟩
theorem ex_revT (h : Ex K T te δ fun r δ1 => ∃ ds, AsD δ1 r (.tuple ds) ∧ immAll ds = true ∧ P (.val (.tuple ds.reverse)) δ1) : Ex K T (tRevT K te) δ P := fun B H σ s Q k =>
  h B H σ s _ fun v H1 r δ1 B1 R1 ⟨ds, a, hi, p⟩ => by
    obtain ⟨C, rfl⟩ := R1.bx.suf
    obtain ⟨b, xs, rfl, hs, ha⟩ := dp_t (R1.vr.dp R1.s a)
    exact ⟨b, xs, rfl, hs, fun q hq => (out_suf (P := P) R1.s R1.go k).tup q _ _ hq (da_rev ha) (imm_rev hi) p⟩
/-! ### sorted(xs, key=lambda x: ..) -/
abbrev krLam (mk : Addr → LF) (tb : TE) : Addr → V → Hp → VK → Prop := fun fa w H Q => ∃ c', H fa = some (LamO fa (mk c')) ∧ H c' = some (CodeO c' (mk c').qual) ∧ tb [some w] H Q
theorem ex_sortLam {mk : Addr → LF} (h : Ex K T te δ fun r δ1 => ∃ (ds : List D) (kd : D → D), AsD δ1 r (.list ds) ∧ immAll ds = true ∧ AllAlike (ds.map kd) ∧ Sortable (ds.map kd) ∧ (∀ d ∈ ds, (kd d).depth ≤ 60 ∧ imm (kd d) = true) ∧
      (∀ d ∈ ds, Ex K T tb [.val d] fun r _ => r = .val (kd d)) ∧ P (.new (.lst (ds.mergeSort (dataLe false kd)))) δ1) :
    Ex K T (tCKw (rSortKey K T (krLam mk tb)) (tCons te tNil) (tCons (tLamE T mk) tNil)) δ P := fun B H σ s Q k =>
  h B H σ s _ fun v H1 r δ1 B1 R1 ⟨ds, kd, a, hi, hal, hk, hd, body, p⟩ => by
    obtain ⟨C, rfl⟩ := R1.bx.suf
    have hv := R1.vr.dp R1.s a
    have s1 := R1.s.dropAll
    have g1 := R1.go.less (ow_suf (C := C))
    refine ⟨s1.tab, fun f c' H2 g2 T2 hf hc => ?_⟩
    have rk2 : Rk H1 H2 := fun b o e t => g2.ext b o e (by simp) t
    refine ⟨v, f, ds, kd, rfl, rfl, dp_mono rk2 _ _ hv, T2, hal, hk, hd, fun d hd3 H3 g3 T3 w hw Q' kq => ?_, fun q ys H3 g3 T3 hq hq3 hy => ?_⟩
    · refine ⟨c', g3.ext f _ hf (by simp) (fun _ z => by cases z), g3.ext c' _ hc (by simp) (fun _ z => by cases z), ?_⟩
      have S0 : S K T [] H3 [some w] [.val d] := ⟨rfl, T3, fun i x hx => by
        cases i with
        | zero =>
          cases hx
          exact ⟨w, rfl, dp_mono (fun b o e t => dl_of e (by simp [ow, ow1])) _ _ hw⟩
        | succ i => simp at hx, (fun p hp => by cases hp), by simp [ow, ow1]⟩
      refine body d hd3 [] H3 _ S0 Q' fun y H4 r4 δ4 B4 R4 e => ?_
      subst e
      have g4 := R4.go
      refine kq y H4 ⟨fun b o e n t => g4.ext b o e (by simp [ow, ow1]) t, g4.dom, fun b m => .inl m⟩ R4.s.tab (dp_full R4.vr)
    · have g13 := g2.trans g3
      have hq1 : H1 q = none := g2.dom q hq
      have hiS := imm_sort (f := kd) hi
      have nq := s1.free hq1
      have s3 : S K T ((q, .lst (ds.mergeSort (dataLe false kd))) :: B) H3 σ δ1 := s1.call g13 T3 (fun b m => by cases m) (fun b m => (List.mem_cons.mp (ow_loose.mem_iff.mp m)).elim (fun z => .inr (z ▸ hq1)) .inl)
        (ow_loose.nodup_iff.mpr (List.nodup_cons.mpr ⟨nq, s1.nd⟩)) rfl (fun i x hx => .inl ⟨hx, fun _ _ _ m => by cases m⟩) fun x hx => (List.mem_cons.mp hx).elim (fun z => .inr (by rw [z]; exact ⟨hiS, ys, hq3, hy⟩)) fun z => .inl ⟨z, fun m => by cases m⟩
      refine k _ H3 (.new (.lst _)) δ1 _ ⟨s3, g1.trans ⟨fun b o e n t => g13.ext b o e (by simp) t, g13.dom, fun b m => ?_⟩, ⟨q, rfl, List.mem_cons_self⟩, ⟨q, rfl, rfl⟩⟩ p
      rcases List.mem_cons.mp (ow_loose.mem_iff.mp m) with z | z
      · exact .inr (z ▸ hq1)
      · exact .inl z
end
end Pl

set_option Elab.async false
set_option linter.all false
set_option maxRecDepth 100000
set_option maxHeartbeats 1000001
namespace Pl
open PySem L2 LamX NdefX PyProof.Rows GenW
/-! ### the head: defs, free names, tables -/
/-- a def of the top by its name and its statement -/
abbrev DI := Str × Stmt
def DI.d (x : DI) : He.DefD := ⟨(x.1, none), x.1, x.1, defArgs x.2, defBody x.2, defScope x.2, [], []⟩
def isTab : Option Obj → Bool
  | some ⟨.none, none, .fields vs, sl⟩ => vs.isEmpty && sl.isEmpty
  | _ => false
theorem isTab_ok {o : Option Obj} (h : isTab o = true) : o = some (PySem.W.tabObj #[]) := by
  unfold isTab at h
  split at h
  · rename_i vs sl
    simp only [Bool.and_eq_true, Array.isEmpty_iff] at h
    obtain ⟨h1, h2⟩ := h
    subst h1 h2
    rfl
  · cases h
def tabOk (g : Addr → Option Obj) (K : PySem.W.Frag) (x : Str) : Bool := match PySem.W.tabIn K x with
  | some (c, P) => PySem.W.codeHdIn K c P && ((K.lookup P).isNone && (isTab (g P) && decide (P ≠ mainGlobals)))
  | none => false
def TabAt (K : PySem.W.Frag) (h : Heap) (x : Str) : Prop := ∃ c P, PySem.W.tabIn K x = some (c, P) ∧ PySem.W.CodeHd h c P ∧ K.lookup P = none ∧ h.get? P = some (PySem.W.tabObj #[]) ∧ P ≠ mainGlobals
theorem tabOk_ok {K : PySem.W.Frag} {h : Heap} {x : Str} (X : K.In h) (e : tabOk h.get? K x = true) : TabAt K h x := by
  unfold tabOk at e
  split at e
  · rename_i c P q
    simp only [Bool.and_eq_true, decide_eq_true_eq, Option.isNone_iff_eq_none] at e
    exact ⟨c, P, q, PySem.W.codeHd_of_K X e.1, e.2.1, isTab_ok e.2.2.1, e.2.2.2⟩
  · cases e
def obsT (n : Nat) (fa : List He.Fa) (fn : List He.DefD) (ts : List Str) (g : Addr → Option Obj) : He.AlD × Bool :=
  (He.obsD fa fn (He.frG g (He.asD g n)), ts.all (tabOk g (He.frG g (He.asD g n))))
def hookT (n : Nat) (fa : List He.Fa) (fn : List He.DefD) (ts : List Str) : PySem.W.Hook where
  α := He.AlD × Bool
  obs := fun s => obsT n fa fn ts s.heap.get?
  val := fun _ => (He.valD fn, true)
  says := fun _ h => ∃ K : PySem.W.Frag, K.In h ∧ He.SaysD fa fn K ∧ ∀ x ∈ ts, TabAt K h x
  of := fun _ _ e => ⟨_, He.frG_in, (Prod.mk.inj e).1, fun x hx => tabOk_ok He.frG_in (List.all_eq_true.mp (Prod.mk.inj e).2 x hx)⟩
  keeps := fun _ _ _ ⟨K, hK, c, t⟩ k => ⟨K, PySem.W.Frag.In.keeps hK k, c, fun x hx => by
    obtain ⟨c, P, h1, h2, h3, h4, h5⟩ := t x hx
    exact ⟨c, P, h1, h2.keeps k, h3, k _ _ h4, h5⟩⟩
theorem obsT_eq {n : Nat} {fa : List He.Fa} {fn : List He.DefD} {ts : List Str} {g : Addr → Option Obj} {s : Shared} (h : ∀ a, g a = s.heap.get? a) : obsT n fa fn ts g = (hookT n fa fn ts).obs s := by
  have e : g = s.heap.get? := funext h
  rw [e]
  rfl
theorem fun_of {K : PySem.W.Frag} {x q : Str} {st : Stmt} {f : Addr} {fd : FuncData} (F : FunD K x q (defArgs st) (defBody st) (defScope st) [] [] f fd) : Fun K x q st f fd := by
  obtain ⟨⟨oc, od, dV, kV, doc, pm, an, cdv, ct, osl, e, lk, hcd, hD, hK⟩, kp⟩ := F
  rcases hD with ⟨_, e2⟩ | ⟨e2, _⟩
  · rw [e2] at e
    exact ⟨⟨oc, od, kV, doc, pm, an, cdv, ct, osl, e, lk, hcd⟩, kp⟩
  · exact absurd rfl e2
/-- what a def's proof may lean on -/
structure Al (K : PySem.W.Frag) (mg : Str → Option Value) (base : Heap) (ds : List DI) (fr : List Str) (ts : List Str) : Prop where
  df : ∀ d ∈ ds, mg d.1 = some (.ref (He.ga K d.1)) ∧ ∃ fd, Fun K d.1 d.1 d.2 (He.ga K d.1) fd
  fr : ∀ x ∈ fr, mg x = none
  tb : ∀ x ∈ ts, ∃ c P, PySem.W.tabIn K x = some (c, P) ∧ TabB base mg c P
/-- a def that keeps its promise -/
def Ok (P : Program) (w : World) (K : PySem.W.Frag) (mg : Str → Option Value) (base : Heap) (k : Nat) (x : Str) (ps : List Str) (sp : Sp) : Prop :=
  ∃ fd, (∃ st, Fun K x x st (He.ga K x) fd) ∧ FnOk P w K mg base CX0 k (He.ga K x) fd ps sp ∧ mg x = some (.ref (He.ga K x)) ∧ PySem.W.keepIn K (.ref (He.ga K x)) = true ∧ Binds K fd ps []
def OkG (P : Program) (w : World) (K : PySem.W.Frag) (mg : Str → Option Value) (base : Heap) (k : Nat) (x : Str) (ps : List Str) (sp : SpG) : Prop :=
  ∃ fd, GFn P w K mg base k (He.ga K x) fd ps sp ∧ mg x = some (.ref (He.ga K x)) ∧ PySem.W.keepIn K (.ref (He.ga K x)) = true ∧ Binds K fd ps []
section
variable {P : Program} {w : World} {K : PySem.W.Frag} {mg : Str → Option Value} {base : Heap} {T : List NTab} {ds : List DI} {fr ts : List Str}
abbrev BindsBy (st : Stmt) (x : Str) (ps : List Str) : Prop := ∀ (kV doc pm : Value) (an : Option Addr) (cdv ct : Value) (us : List Value), us.length = ps.length → bindArgs (PySem.W.fnOf x x (defArgs st) (defBody st) (defScope st) .none kV doc pm an cdv ct) ⟨us, []⟩ = pure (ps.zip us)
/-- THE RULE for a def of the top -/
theorem ok_of (c : Al K mg base ds fr ts) {x : Str} {st : Stmt} {N ps : List Str} {k : Nat} {F : FS} (hm : (x, st) ∈ ds) (bd : BindsBy st x ps) (Sc : FnScope N ps (defScope st)) (len : ∀ as Q, F as Q → as.length = ps.length)
    (body : ∀ (f : Addr) (cdv : Value) (A : Around) (outer : List Env) (s : Shared) (H : Hp) (E : XK), Room k (A.deeper (envOfC x (defScope st) s.heap.objs.size f cdv)) → ∀ (as : List Ar) (Q : R → List OV → Prop) (qs : List Addr), F as Q → qs.length = owns as →
      ∃ t, PSs (cxOf CX0 P w K mg base N x (defScope st) f cdv A outer s H E).nox (defBody st) t ∧
        Ss K T t (slotsOf as qs ++ List.replicate (N.length - as.length) .no) { nx := fun δ' => ∃ us, Fin as qs δ' us ∧ Q (.val .none) us, rt := fun r δ' => ∃ us r', Fin as qs δ' us ∧ RetR as.length δ' r r' ∧ Q r' us }) :
    Ok P w K mg base (k + 1) x ps (spOf K T F) := by
  obtain ⟨g, fd, Fn⟩ := c.df (x, st) hm
  exact ⟨fd, ⟨st, Fn⟩, fs_ok Fn Sc len (fun cdv A outer s H E hr => body _ cdv A outer s H E hr), g, Fn.kp, Fn.binds bd⟩
/-- the same where the body's code object is needed -/
theorem ok_ofC (c : Al K mg base ds fr ts) {x : Str} {st : Stmt} {N ps : List Str} {k : Nat} {F : FS} (hm : (x, st) ∈ ds) (ht : x ∈ ts) (bd : BindsBy st x ps) (Sc : FnScope N ps (defScope st)) (len : ∀ as Q, F as Q → as.length = ps.length)
    (hX : PySem.W.nsIn K mainGlobals x = some (some (.ref (He.ga K x))))
    (body : ∀ (f : Addr) (cc PP : Addr) (A : Around) (outer : List Env) (s : Shared) (H : Hp) (E : XK), PySem.W.tabIn K x = some (cc, PP) → TabB base mg cc PP → Room k (A.deeper (envOfC x (defScope st) s.heap.objs.size f (.ref cc))) → ∀ (as : List Ar) (Q : R → List OV → Prop) (qs : List Addr), F as Q → qs.length = owns as →
      ∃ t, PSs (cxOf CX0 P w K mg base N x (defScope st) f (.ref cc) A outer s H E).nox (defBody st) t ∧
        Ss K T t (slotsOf as qs ++ List.replicate (N.length - as.length) .no) { nx := fun δ' => ∃ us, Fin as qs δ' us ∧ Q (.val .none) us, rt := fun r δ' => ∃ us r', Fin as qs δ' us ∧ RetR as.length δ' r r' ∧ Q r' us }) :
    Ok P w K mg base (k + 1) x ps (spOf K T F) := by
  obtain ⟨g, fd, Fn⟩ := c.df (x, st) hm
  obtain ⟨cc, PP, ht, hB⟩ := c.tb x ht
  refine ⟨fd, ⟨st, Fn⟩, ?_, g, Fn.kp, Fn.binds bd⟩
  obtain ⟨oc, od, kV, doc, pm, an, cdv, ct, osl, rfl, lk, hcd⟩ := Fn.ex
  have ec : cdv = .ref cc := by
    have ht2 := ht
    unfold PySem.W.tabIn at ht2
    rw [hX] at ht2
    simp only [lk] at ht2
    cases cdv with
    | ref c₂ =>
      simp only at ht2
      split at ht2
      · split at ht2
        · cases ht2
          rfl
        · cases ht2
      · cases ht2
    | _ => cases ht2
  subst ec
  refine fn_of lk hcd Sc (fun vs H Q E h => ?_) fun A outer s H vs Q E hr h => ?_
  · obtain ⟨A, as, P, nd, hT, ha, f, _⟩ := h
    rw [(argsOk_len ha).1]
    exact len as P f
  · obtain ⟨Ad, as, P, nd, hT, ha, f, fin⟩ := h
    obtain ⟨t, ht3, hs⟩ := body _ cc PP A outer s H E ht hB hr as P Ad f (argsOk_len ha).2.1
    have s0 := entry (N := N) ha nd hT
    have eo := entry_ow (n := N.length - vs.length) ha
    rw [(argsOk_len ha).1] at s0 eo
    refine ⟨t, PSs.nox ht3, hs [] H _ s0 _ (fun σ' H' δ' s' g' ⟨us, q1, q2⟩ => ?_) (fun v σ' H' r δ' B' R1 ⟨us, r', q1, q2, q3⟩ => ?_) (fun _ _ _ _ _ z => z.elim) (fun _ _ _ _ _ z => z.elim)⟩
    · rw [eo] at g'
      exact fin .non H' (.val .none) us s'.tab ⟨g'.ext, g'.dom, fun a m => .inl m⟩ ⟨rfl, .non⟩ (fin_behind s' (fun x hx => hx) q1) q2
    · have R2 := R1
      rw [eo] at R2
      have g' := R2.go
      exact fin v H' r' us R2.s.tab ⟨g'.ext, g'.dom, fun a m => .inl m⟩ (leave R2 q1 q2) (fin_behind R2.s (fun x hx => hx) q1) q3
theorem okG_of (c : Al K mg base ds fr ts) {x : Str} {st : Stmt} {N ps : List Str} {k : Nat} {F : FG} (hm : (x, st) ∈ ds) (bd : BindsBy st x ps) (Sc : GScope N ps (defScope st)) (len : ∀ as Q, F as Q → as.length = ps.length)
    (body : ∀ (f : Addr) (cdv : Value) (A : Around) (outer : List Env) (s : Shared) (H : Hp) (E : XK) (pn : List (Addr × Obj)), Room k (A.deeper (envOfC x (defScope st) s.heap.objs.size f cdv)) → ∀ (ds : List D) (Q : List D → Prop), F ds Q →
      ∃ t, GSs (gcxOf P w K mg base N x (defScope st) f cdv A outer s H E pn) (defBody st) t ∧
        Sg K T t (ds.map Sl.val ++ List.replicate (N.length - ds.length) .no) [] { nx := fun zs _ => immAll zs = true ∧ Q zs }) :
    OkG P w K mg base (k + 1) x ps (spGOf K T F) := by
  obtain ⟨g, fd, Fn⟩ := c.df (x, st) hm
  exact ⟨fd, gfs_ok Fn Sc len (fun cdv A outer s H E pn hr => body _ cdv A outer s H E pn hr), g, Fn.kp, Fn.binds bd⟩
/-! ### calls by such facts -/
variable {X : Cx} {x : Str} {ps : List Str} {k : Nat} {sp : Sp} {sg : SpG} {p pos : Pos} {e : Expr} {es : List Expr} {t : TA}
theorem pe_f (h : Ok X.prog X.w X.K X.mg X.base k x ps sp) (hr : Room k X.A) (hg : Gl X x) (ha : PA X (e :: es) t) (hdb : (x == ("__debug__" : Str)) = false := by decide) (he : starEach (e :: es) X.env = (false, eval e X.env) :: starEach es X.env := by rfl) (hpl : (backTo pos (starEach es X.env)).any (·.1) = false := by rfl) :
    PE X (.Call (.Name x p) (e :: es) [] pos) (tCall sp [] E0 t) := by
  obtain ⟨fd, _, h1, h2, h3, h4⟩ := h
  exact pe_call h1 hr hg h2 h3 h4 .nil pass0 ha hdb he hpl
theorem pe_f0 (h : Ok X.prog X.w X.K X.mg X.base k x ps sp) (hr : Room k X.A) (hg : Gl X x) (hdb : (x == ("__debug__" : Str)) = false := by decide) :
    PE X (.Call (.Name x p) [] [] pos) (tCall sp [] E0 tNil) := by
  obtain ⟨fd, _, h1, h2, h3, h4⟩ := h
  exact pe_call0 h1 hr hg h2 h3 h4 .nil pass0 hdb
theorem pe_lg {n : Str} {p2 pos2 : Pos} (h : OkG X.prog X.w X.K X.mg X.base k x ps sg) (hr : Room (k + 3) X.A) (hg : Gl X x) (ha : PA X (e :: es) t) (hgl : Gl X n) (hmg : X.mg n = none) (hv : bootBuiltins n = some (.type "list")) (hx : Passes (CX X.prog X.w) X E0) (hns : NoStop X.K E0)
    (hnm : n ≠ "__name__" := by decide) (hdb : (n == ("__debug__" : Str)) = false := by decide) (hdb2 : (x == ("__debug__" : Str)) = false := by decide) (he : starEach (e :: es) X.env = (false, eval e X.env) :: starEach es X.env := by rfl) (hpl : (backTo pos (starEach es X.env)).any (·.1) = false := by rfl)
    (he2 : starEach [Expr.Call (.Name x p) (e :: es) [] pos] X.env = (false, eval (.Call (.Name x p) (e :: es) [] pos) X.env) :: starEach [] X.env := by rfl) :
    PE X (.Call (.Name n p2) [.Call (.Name x p) (e :: es) [] pos] [] pos2) (tListG (tCallG sg [] E0 t)) := by
  obtain ⟨fd, h1, h2, h3, h4⟩ := h
  have hr2 : Room k X.A := ⟨hr.hd, by have := hr.dp; omega, by have := hr.un; omega⟩
  exact pe_listG (pgen_call h1 hr2 hg h2 h3 h4 .nil ha hdb2 he hpl) hx hns hr hgl hmg hv hnm hdb he2
end
/-! ### the end -/
theorem tabs_new {K : PySem.W.Frag} {H : Hp} {T : List NTab} (h : ∀ p ∈ T, H p.1 = some (.tbl #[])) : TabsN T H := fun p hp =>
  ⟨#[], h p hp, trivial, fun pos cv hc => by cases hc⟩
/-- the tables of these defs -/
def tabsOf (K : PySem.W.Frag) (ts : List (Str × (Nat → Nat → Str))) : List NTab := ts.map fun x => (((PySem.W.tabIn K x.1).getD (0, 0)).2, x.2)
theorem sp_law {K : PySem.W.Frag} {T : List NTab} {F : FS} {ns : List Int} {a : Addr} {H : Hp} (hT : TabsN T H) (hS : SqL K H a (ns.map V.int)) (hF : F [.val (.list (ns.map .int))] fun r _ => r = .val (.bool true)) :
    spOf K T F [.ref a] H (fun v _ => v = .bl true) fun _ _ _ => False := by
  refine ⟨[], [.val (.list (ns.map .int))], _, List.nodup_nil, hT, ⟨.lst ?_ da_ofInts, trivial⟩, hF, fun v H' r us _ _ hr _ e => ?_⟩
  · rcases hS with (h | ⟨o, h⟩) | h
    · exact .inl (.inl (dl_of h (by simp)))
    · exact .inl (.inr ⟨o, dl_of h (by simp)⟩)
    · exact .inr h
  · subst e
    obtain ⟨_, h⟩ := hr
    cases h
    rfl
theorem walk_end {l : PySem.W.OpenLaw} {k n m : Nat} {q : Program} {loose : List Str} {XP : (Str → Option Value) → Heap → Prop} {d : DefRec} {fr : List Str} {ds : List DI} {fa : List He.Fa} {ts : List (Str × (Nat → Nat → Str))} {F : FS} {st : Stmt}
    (hn : l.most = some n) (hn2 : n ≤ sizeLine) (hdf : d.params.defaults = []) (hr : Room k callerA) (hfa : fa = ds.map (fun x => .glo x.1) ++ fr.map .free) (hdn : d.name = ("law" : Str)) (hl : (("law" : Str), st) ∈ ds) (bd : BindsBy st "law" ["script"])
    (ok : ∀ (w : World) (mg : Str → Option Value) (base : Heap) (K : PySem.W.Frag), Al K mg base ds fr (ts.map (·.1)) → (∀ x ∈ ds, PySem.W.nsIn K mainGlobals x.1 = some (some (.ref (He.ga K x.1)))) → Ok l.prog w K mg base k "law" ["script"] (spOf K (tabsOf K ts) F))
    (hF : ∀ ns : List Int, ns.length ≤ n → (∀ z ∈ ns, Builtin.Int.intBits z ≤ 1048576) → F [.val (.list (ns.map .int))] fun r _ => r = .val (.bool true)) :
    PySem.W.WalkO q loose XP (hookT m fa (ds.map DI.d) (ts.map (·.1))).says l.row.toRowW d [] (fun f vs => PySem.call f vs) := by
  refine walk_ofTsE (k := k) (x := "script") (CX := fun _ => CX0) hn hn2 hdf hr (fun w mg f h Y G hmg => ?_) (fun _ _ _ _ _ z => z)
  obtain ⟨K, KX, c, tb⟩ := Y
  have glo : ∀ x ∈ ds, PySem.W.nsIn K mainGlobals x.1 = some (some (.ref (He.ga K x.1))) := fun x hx => by
    have hm : He.Fa.glo x.1 ∈ fa := by rw [hfa]; exact List.mem_append_left _ (List.mem_map.mpr ⟨x, hx, rfl⟩)
    obtain ⟨i, hi⟩ := List.mem_iff_getElem?.mp hm
    exact He.eqO_ok (c.fact i hi)
  have free : ∀ x ∈ fr, PySem.W.nsIn K mainGlobals x = some none := fun x hx => by
    have hm : He.Fa.free x ∈ fa := by rw [hfa]; exact List.mem_append_right _ (List.mem_map.mpr ⟨x, hx, rfl⟩)
    obtain ⟨i, hi⟩ := List.mem_iff_getElem?.mp hm
    exact He.eqO_ok (c.fact i hi)
  have funs : ∀ x ∈ ds, ∃ fd, Fun K x.1 x.1 x.2 (He.ga K x.1) fd := fun x hx => by
    have hm : x.d ∈ ds.map DI.d := List.mem_map.mpr ⟨x, hx, rfl⟩
    obtain ⟨i, hi⟩ := List.mem_iff_getElem?.mp hm
    obtain ⟨fd, F⟩ := c.def_ i hi
    exact ⟨fd, fun_of F⟩
  have eL := PySem.W.mg_of KX G (glo _ hl)
  rw [hdn] at hmg
  have ef : f = He.ga K "law" := by
    have e := hmg.symm.trans eL
    cases e
    rfl
  subst ef
  obtain ⟨fd, FL⟩ := funs _ hl
  have tabs : ∀ p ∈ tabsOf K ts, ∃ x ∈ ts, ∃ c, PySem.W.tabIn K x.1 = some (c, p.1) ∧ PySem.W.CodeHd h c p.1 ∧ K.lookup p.1 = none ∧ h.get? p.1 = some (PySem.W.tabObj #[]) ∧ p.1 ≠ mainGlobals := fun p hp => by
    obtain ⟨x, hx, e⟩ := List.mem_map.mp hp
    obtain ⟨c, P, h1, h2⟩ := tb x.1 (List.mem_map.mpr ⟨x, hx, rfl⟩)
    subst e
    refine ⟨x, hx, c, ?_⟩
    simp only [h1, Option.getD_some]
    exact ⟨trivial, h2⟩
  refine ⟨K, KX, fd, ts.map (fun x => (PySem.W.tabIn K x.1).getD (0, 0)), spOf K (tabsOf K ts) F, ?_, ?_, ?_, fun s u => ?_, fun H a ns hlen hb hT hS => ?_, fun base KB GB TB => ?_⟩
  · intro p hp
    obtain ⟨x, hx, rfl⟩ := List.mem_map.mp hp
    obtain ⟨c, P, h1, h2, h3, h4, h5⟩ := tb x.1 (List.mem_map.mpr ⟨x, hx, rfl⟩)
    simp only [h1, Option.getD_some]
    exact h4
  · intro p hp
    obtain ⟨x, hx, rfl⟩ := List.mem_map.mp hp
    obtain ⟨c, P, h1, h2, h3, h4, h5⟩ := tb x.1 (List.mem_map.mpr ⟨x, hx, rfl⟩)
    simp only [h1, Option.getD_some]
    exact h3
  · intro p hp
    obtain ⟨x, hx, rfl⟩ := List.mem_map.mp hp
    obtain ⟨c, P, h1, h2, h3, h4, h5⟩ := tb x.1 (List.mem_map.mpr ⟨x, hx, rfl⟩)
    simp only [h1, Option.getD_some]
    exact h2
  · obtain ⟨oc, od, kV, doc, pm, an, cdv, ct, osl, rfl, lk, hcd⟩ := FL.ex
    exact .of_eq (bd kV doc pm an cdv ct [u] rfl)
  · refine sp_law (tabs_new (K := K) fun p hp => ?_) hS (hF ns hlen hb)
    obtain ⟨x, hx, rfl⟩ := List.mem_map.mp hp
    exact hT _ (List.mem_map.mpr ⟨x, hx, rfl⟩)
  · obtain ⟨fd2, ⟨st2, FL2⟩, h1, h2, h3, h4⟩ := ok w mg base K ⟨fun x hx => ⟨PySem.W.mg_of KB GB (glo x hx), funs x hx⟩, fun x hx => PySem.W.mg_none_of KB GB (free x hx), fun x hx => by
      obtain ⟨y, hy, rfl⟩ := List.mem_map.mp hx
      obtain ⟨c, P, q1, q2⟩ := tb y.1 hx
      refine ⟨c, P, q1, ?_⟩
      have := TB _ (List.mem_map.mpr ⟨y, hy, rfl⟩)
      simpa only [q1, Option.getD_some] using this⟩ glo
    obtain ⟨oc, od, kV, doc, pm, an, cdv, ct, osl, e1, lk, hcd⟩ := FL.ex
    obtain ⟨oc2, od2, kV2, doc2, pm2, an2, cdv2, ct2, osl2, e12, lk2, hcd2⟩ := FL2.ex
    rw [lk] at lk2
    cases lk2
    exact h1
end Pl

set_option Elab.async false
set_option linter.all false
set_option maxRecDepth 100000
set_option maxHeartbeats 1000001
namespace Pl
open PySem L2 LamX NdefX PyProof.Rows GenW
section
variable {K : PySem.W.Frag} {T : List NTab} {w : World} {B B' B1 : Lo} {A A0 : List Addr} {H0 H H' : Hp} {σ : L2.St} {δ δ' : List Sl} {v : V} {r : R} {E : Es} {te ta tb ty tv : TE} {tt t1 t2 : TT} {ts t u : TS} {g : TG} {P : R → List Sl → Prop}
theorem st_v {i : Nat} {d : D} {N : List Sl → Prop} (e : δ.set i (.val d) = δ') (h : N δ') : StoreR i δ N (.val d) := by
  subst e
  exact h
theorem st_n {i : Nat} {u : OV} {N : List Sl → Prop} {f : Addr → List Sl} (hl : i < δ.length) (e : ∀ p, δ.set i (.own p u) = f p) (h : ∀ p, N (f p)) : StoreR i δ N (.new u) :=
  ⟨hl, fun p => by rw [e p]; exact h p⟩
theorem ex_call0 {F : FS} {ta : TA} {X : XK} (h : ExA K T ta δ fun rs δ1 => ∃ as, ArgR δ1 [] rs as [] ∧ F as fun r us => P r δ1) : Ex K T (tCall (spOf K T F) [] X ta) δ P :=
  ex_call (fun B H σ s Q q => h B H σ s Q fun vs H' rs δ1 B' R1 ⟨as, h1, h2⟩ => q vs H' rs δ1 B' R1 ⟨as, [], h1, List.nodup_nil, h2⟩)
/-! ### comprehensions that map and filter -/
theorem ex_mapL {i : Nat} {f : D → D} (h : Ex K T ta δ fun r δ1 => ∃ ds, Fz r (.list ds) ∧ δ1[i]? = some .no ∧ ds.length ≤ 100000 ∧ (∀ d ∈ ds, Ex K T te (δ1.set i (.val d)) fun r δ3 => r = .val (f d) ∧ δ3 = δ1.set i (.val d)) ∧ P (.new (.lst (ds.map f))) δ1) :
    Ex K T (tLc (iList K ta) (gName i) tYes te [i]) δ P := ex_lcL (h.imp fun r δ1 ⟨ds, h1, h2, hl, h3, h4⟩ => by
  refine ⟨ds, h1, h2, fun k => (ds.take k).map f, rfl, fun k d hd => ?_, by show P (.new (.lst ((ds.take ds.length).map f))) δ1; rw [List.take_length]; exact h4⟩
  refine fun B H σ s Q q => q true H _ s .refl ⟨rfl, ?_⟩
  rw [if_pos rfl]
  have hk : k < ds.length := (List.getElem?_eq_some_iff.mp hd).1
  refine (h3 d (List.mem_of_getElem? hd)).imp fun r δ3 ⟨e1, e2⟩ => ⟨_, e1, e2, ?_, ?_⟩
  · show List.map f (ds.take (k + 1)) = List.map f (ds.take k) ++ [f d]
    rw [List.take_add_one, hd]
    simp
  · show ((ds.take k).map f).length < 100000
    rw [List.length_map, List.length_take]
    omega)
theorem ex_mapT {i : Nat} {f : D → D} (h : Ex K T ta δ fun r δ1 => ∃ ds, r = .val (.tuple ds) ∧ δ1[i]? = some .no ∧ ds.length ≤ 100000 ∧ (∀ d ∈ ds, Ex K T te (δ1.set i (.val d)) fun r δ3 => r = .val (f d) ∧ δ3 = δ1.set i (.val d)) ∧ P (.new (.lst (ds.map f))) δ1) :
    Ex K T (tLc (iTup K ta) (gName i) tYes te [i]) δ P := ex_lcT (h.imp fun r δ1 ⟨ds, h1, h2, hl, h3, h4⟩ => by
  refine ⟨ds, h1, h2, fun k => (ds.take k).map f, rfl, fun k d hd => ?_, by show P (.new (.lst ((ds.take ds.length).map f))) δ1; rw [List.take_length]; exact h4⟩
  refine fun B H σ s Q q => q true H _ s .refl ⟨rfl, ?_⟩
  rw [if_pos rfl]
  have hk : k < ds.length := (List.getElem?_eq_some_iff.mp hd).1
  refine (h3 d (List.mem_of_getElem? hd)).imp fun r δ3 ⟨e1, e2⟩ => ⟨_, e1, e2, ?_, ?_⟩
  · show List.map f (ds.take (k + 1)) = List.map f (ds.take k) ++ [f d]
    rw [List.take_add_one, hd]
    simp
  · show ((ds.take k).map f).length < 100000
    rw [List.length_map, List.length_take]
    omega)
/-- [f(k) for k in range(n) if c(k)] -/
theorem ex_filR {i : Nat} {f : Nat → D} {c : Nat → Bool} {taa : TA} (h : ExA K T taa δ fun rs δ1 => ∃ n : Nat, rs = [.val (.int n)] ∧ δ1[i]? = some .no ∧ n ≤ 100000 ∧
      (∀ k, k < n → ExT K T tt (δ1.set i (.val (.int k))) fun b δ2 => b = c k ∧ δ2 = δ1.set i (.val (.int k))) ∧
      (∀ k, k < n → c k = true → Ex K T te (δ1.set i (.val (.int k))) fun r δ3 => r = .val (f k) ∧ δ3 = δ1.set i (.val (.int k))) ∧ P (.new (.lst (((List.range n).filter c).map f))) δ1) :
    Ex K T (tLc (iRng1 taa) (gName i) tt te [i]) δ P := ex_lcR (fun B H σ s Q q => h B H σ s Q fun vs H' rs δ1 B' R1 ⟨n, h1, h2, hl, h3, h4, h5⟩ => q vs H' rs δ1 B' R1 (by
  refine ⟨n, h1, by omega, by omega, h2, fun k => ((List.range k).filter c).map f, rfl, fun k hk => ?_, by rw [Int.toNat_natCast]; exact h5⟩
  have hk : k < n := by omega
  refine (h3 k hk).imp fun b δ2 ⟨e1, e2⟩ => ⟨e2, ?_⟩
  subst e1
  have hlen : (((List.range k).filter c).map f).length < 100000 := by
    rw [List.length_map]
    have := List.length_filter_le c (List.range k)
    rw [List.length_range] at this
    omega
  have e3 : ((List.range (k + 1)).filter c).map f = ((List.range k).filter c).map f ++ if c k = true then [f k] else [] := by
    rw [List.range_succ, List.filter_append, List.map_append]
    congr 1
    by_cases hc : c k = true
    · rw [if_pos hc, List.filter_cons_of_pos hc]
      rfl
    · rw [if_neg hc, List.filter_cons_of_neg hc]
      rfl
  by_cases hc : c k = true
  · rw [if_pos hc]
    refine (h4 k hk hc).imp fun r δ3 ⟨e4, e5⟩ => ⟨_, e4, e5, ?_, hlen⟩
    show ((List.range (k + 1)).filter c).map f = _
    rw [e3, if_pos hc]
  · rw [if_neg hc]
    show ((List.range (k + 1)).filter c).map f = _
    rw [e3, if_neg hc, List.append_nil]))
/-- insert, as the method reads -/
theorem lm_ins {ds : List D} {i : Int} {d : D} {Pk : D → List D → Prop} (hi : 0 ≤ i) (hi2 : i ≤ ds.length) (hl : ds.length < 100000) (p : Pk .none (ds.take i.toNat ++ [d] ++ ds.drop i.toNat)) :
    LmD K (fun x vs H Q => ∃ (l : Addr) (xs : List V) (i : Int) (y : V), x = .ref l ∧ vs = [.int i, y] ∧ H l = some (.lst xs) ∧ xs.length < sizeLine ∧ 0 ≤ i ∧ i < 2 ^ 63 ∧ Q .non (upd H l (.lst (xs.take i.toNat ++ [y] ++ xs.drop i.toNat)))) ds [.int i, d] Pk := fun L H a xs vs Q h1 h2 h3 k => by
  cases h3 with
  | cons h3 h4 =>
    cases h3
    cases h4 with
    | cons h4 h5 =>
      cases h5
      refine ⟨a, xs, i, _, rfl, rfl, h1, by rw [da_len h2]; exact Nat.lt_of_lt_of_le hl (by decide), hi, by omega, ?_⟩
      exact k _ _ _ _ .non (da_app (da_app (da_take _ h2) (da_one h4)) (da_drop _ h2)) p
/-! ### statement lists of a generator -/
theorem et_not' {P' : Bool → List Sl → Prop} (h : ExT K T t1 δ fun b δ1 => P' (!b) δ1) : ExT K T (tNot t1) δ P' := fun B H σ s Q k => h B H σ s _ fun b H1 δ1 s1 g1 p => k _ H1 δ1 s1 g1 p
end
section
variable {X : Cx}
theorem pass0G {P : Program} {w : World} {X : Cx} : Passes (CX P w) X E0 := fun _ _ _ _ _ _ _ h => by
  obtain ⟨_, _, _, _, _, _, _, _, _, _, _, _, h⟩ := h
  exact h.elim
theorem nostop0 {K : PySem.W.Frag} : NoStop K E0 := fun _ _ _ h => h.elim
end
end Pl

set_option Elab.async false
set_option linter.all false
set_option maxRecDepth 100000
set_option maxHeartbeats 1000001
namespace Pl
open PySem L2 LamX NdefX PyProof.Rows GenW PySem.W
/-! ### rows of ints -/
def tI (ns : List Int) : D := .tuple (ns.map .int)
def tR (rows : List (List Int)) : List D := rows.map tI
theorem imm_tI (ns : List Int) : imm (tI ns) = true := by
  show immAll (ns.map .int) = true
  exact imm_ints ns
theorem imm_tR (rows : List (List Int)) : immAll (tR rows) = true := immAll_mem.mpr fun d hd => by
  obtain ⟨r, _, rfl⟩ := List.mem_map.mp hd
  exact imm_tI r
theorem depth_ints : ∀ ns : List Int, PyData.depthAll (ns.map .int) = 0
  | [] => rfl
  | n :: ns => by
    show max (PyData.depth (.int n)) (PyData.depthAll (ns.map .int)) = 0
    rw [depth_ints ns]
    rfl
theorem depth_tI (ns : List Int) : (tI ns).depth = 1 := by
  show PyData.depthAll (ns.map .int) + 1 = 1
  rw [depth_ints]
theorem depth_tR : ∀ rows : List (List Int), PyData.depthAll (tR rows) ≤ 1
  | [] => Nat.zero_le _
  | r :: rows => by
    show max (tI r).depth (PyData.depthAll (tR rows)) ≤ 1
    rw [depth_tI]
    exact Nat.max_le.mpr ⟨Nat.le_refl _, depth_tR rows⟩
theorem lay_ints : ∀ ns : List Int, PyData.canLayAll0 (ns.map .int) = true
  | [] => rfl
  | n :: ns => by
    show (PyData.canLay0 (.int n) && PyData.canLayAll0 (ns.map .int)) = true
    rw [lay_ints ns]
    rfl
theorem lay_tR : ∀ rows : List (List Int), PyData.canLayAll0 (tR rows) = true
  | [] => rfl
  | r :: rows => by
    show (PyData.canLayAll0 (r.map .int) && PyData.canLayAll0 (tR rows)) = true
    rw [lay_tR rows, lay_ints r]
    rfl
theorem shaped_I (ns : List Int) : SeqAt.shaped (.list (ns.map .int)) = true := by
  unfold SeqAt.shaped
  rw [Bool.and_eq_true]
  refine ⟨lay_ints ns, decide_eq_true ?_⟩
  show PyData.depthAll (ns.map .int) + 1 ≤ 64
  rw [depth_ints]
  decide
theorem shaped_tI (ns : List Int) : SeqAt.shaped (tI ns) = true := by
  unfold SeqAt.shaped
  rw [Bool.and_eq_true]
  refine ⟨lay_ints ns, decide_eq_true ?_⟩
  rw [depth_tI]
  decide
theorem shaped_R (rows : List (List Int)) : SeqAt.shaped (.list (tR rows)) = true := by
  unfold SeqAt.shaped
  rw [Bool.and_eq_true]
  refine ⟨lay_tR rows, decide_eq_true ?_⟩
  show PyData.depthAll (tR rows) + 1 ≤ 64
  have := depth_tR rows
  omega
theorem shaped_nil : SeqAt.shaped (.list []) = true := by decide
theorem eqv_ints : ∀ a b : List Int, PyData.eqvAll (a.map .int) (b.map .int) = decide (a = b)
  | [], [] => rfl
  | [], _ :: _ => rfl
  | _ :: _, [] => rfl
  | x :: a, y :: b => by
    show (PyData.eqv (.int x) (.int y) && PyData.eqvAll (a.map .int) (b.map .int)) = _
    rw [eqv_ints a b]
    show ((x == y) && decide (a = b)) = decide (x :: a = y :: b)
    by_cases h1 : x = y <;> by_cases h2 : a = b <;> simp [h1, h2]
theorem eqv_tI (a b : List Int) : PyData.eqv (tI a) (tI b) = decide (a = b) := eqv_ints a b
theorem eqv_R : ∀ a b : List (List Int), PyData.eqvAll (tR a) (tR b) = decide (a = b)
  | [], [] => rfl
  | [], _ :: _ => rfl
  | _ :: _, [] => rfl
  | x :: a, y :: b => by
    show (PyData.eqv (tI x) (tI y) && PyData.eqvAll (tR a) (tR b)) = _
    rw [eqv_R a b, eqv_tI]
    by_cases h1 : x = y <;> by_cases h2 : a = b <;> simp [h1, h2]
theorem eqv_LR (a b : List (List Int)) : PyData.eqv (.list (tR a)) (.list (tR b)) = decide (a = b) := eqv_R a b
theorem any_R (rows : List (List Int)) (r : List Int) : ((tR rows).any fun z => PyData.eqv z (tI r)) = decide (r ∈ rows) := by
  induction rows with
  | nil => rfl
  | cons x rows ih =>
    show (PyData.eqv (tI x) (tI r) || (tR rows).any fun z => PyData.eqv z (tI r)) = _
    rw [ih, eqv_tI]
    by_cases h : x = r
    · subst h; simp
    · have : ¬ r = x := fun z => h z.symm
      by_cases h2 : r ∈ rows <;> simp [h, h2, this]
/-! ### sorting rows by size, then by items -/
/-- (len(row), row) -/
def kRow : D → D
  | .tuple es => .tuple [.int es.length, .tuple es]
  | d => d
theorem kRow_tI (ns : List Int) : kRow (tI ns) = .tuple [.int ns.length, tI ns] := by
  show PyData.tuple [.int ((ns.map PyData.int).length), .tuple (ns.map .int)] = _
  rw [List.length_map]
  rfl
theorem alike_ints : ∀ a b : List Int, alikeAll (a.map .int) (b.map .int) = true
  | [], _ => by
    show alikeAll [] _ = true
    unfold alikeAll
    rfl
  | _ :: _, [] => rfl
  | x :: a, y :: b => by
    show (alike (.int x) (.int y) && alikeAll (a.map .int) (b.map .int)) = true
    rw [alike_ints a b]
    rfl
theorem alike_kRow (a b : List Int) : alike (kRow (tI a)) (kRow (tI b)) = true := by
  rw [kRow_tI, kRow_tI]
  show (alike (.int a.length) (.int b.length) && (alikeAll (a.map .int) (b.map .int) && alikeAll [] [])) = true
  rw [alike_ints]
  rfl
theorem alike_kRows (rows : List (List Int)) : AllAlike ((tR rows).map kRow) := fun d hd d' hd' => by
  obtain ⟨e, he, rfl⟩ := List.mem_map.mp hd
  obtain ⟨r, _, rfl⟩ := List.mem_map.mp he
  obtain ⟨e', he', rfl⟩ := List.mem_map.mp hd'
  obtain ⟨r', _, rfl⟩ := List.mem_map.mp he'
  exact alike_kRow r r'
theorem sortable_kRows (rows : List (List Int)) : Sortable ((tR rows).map kRow) := .inl fun d hd => by
  obtain ⟨e, he, rfl⟩ := List.mem_map.mp hd
  obtain ⟨r, _, rfl⟩ := List.mem_map.mp he
  exact ⟨_, _, kRow_tI r⟩
theorem depth_kRow (ns : List Int) : (kRow (tI ns)).depth = 2 := by
  rw [kRow_tI]
  show max (PyData.depth (.int ns.length)) (max (tI ns).depth 0) + 1 = 2
  rw [depth_tI]
  rfl
theorem imm_kRow (ns : List Int) : imm (kRow (tI ns)) = true := by
  rw [kRow_tI]
  show (imm (.int ns.length) && (imm (tI ns) && true)) = true
  rw [imm_tI]
  rfl
/-- the order of rows -/
def rowLe : List Int → List Int → Bool := dataLe false fun r => kRow (tI r)
def ordR (rows : List (List Int)) : List (List Int) := rows.mergeSort rowLe
theorem toks_ints : ∀ (a b : List Int) (x y : List (Int ⊕ List Nat)), keyToksAll (a.map .int) ++ x = keyToksAll (b.map .int) ++ y → a = b
  | [], [], _, _, _ => rfl
  | [], y :: b, _, _, h => by
    have h : (Sum.inl 0 :: _ : List (Int ⊕ List Nat)) = .inl 1 :: _ := h
    have := (List.cons.inj h).1
    cases this
  | x :: a, [], _, _, h => by
    have h : (Sum.inl 1 :: _ : List (Int ⊕ List Nat)) = .inl 0 :: _ := h
    have := (List.cons.inj h).1
    cases this
  | x :: a, y :: b, p, q, h => by
    have h : (Sum.inl 1 :: (Sum.inl x :: keyToksAll (a.map .int)) ++ p : List (Int ⊕ List Nat)) = (Sum.inl 1 :: (Sum.inl y :: keyToksAll (b.map .int))) ++ q := h
    have h1 := (List.cons.inj h).2
    have h2 := List.cons.inj h1
    have e1 : x = y := Sum.inl.inj h2.1
    rw [e1, toks_ints a b p q h2.2]
theorem toks_row {a b : List Int} (h : keyToks (kRow (tI a)) = keyToks (kRow (tI b))) : a = b := by
  rw [kRow_tI, kRow_tI] at h
  have h : (Sum.inl 1 :: (Sum.inl (a.length : Int) :: Sum.inl 1 :: (keyToksAll (a.map .int) ++ [Sum.inl 0])) : List (Int ⊕ List Nat)) = Sum.inl 1 :: (Sum.inl (b.length : Int) :: Sum.inl 1 :: (keyToksAll (b.map .int) ++ [Sum.inl 0])) := h
  have h1 := (List.cons.inj (List.cons.inj (List.cons.inj h).2).2).2
  exact toks_ints a b _ _ h1
theorem rowLe_total : TotalLe rowLe := sortLe_total (listOrd itemOrd) false _
theorem rowLe_anti {a b : List Int} (h1 : rowLe a b = true) (h2 : rowLe b a = true) : a = b := by
  have h1 : (!(listOrd itemOrd).blt (keyToks (kRow (tI b))) (keyToks (kRow (tI a)))) = true := h1
  have h2 : (!(listOrd itemOrd).blt (keyToks (kRow (tI a))) (keyToks (kRow (tI b)))) = true := h2
  rw [Bool.not_eq_true'] at h1 h2
  exact toks_row ((listOrd itemOrd).total _ _ h2 h1)
theorem sort_tR (rows : List (List Int)) : (tR rows).mergeSort (dataLe false kRow) = tR (ordR rows) := (sort_maps tI fun _ _ _ _ => rfl).symm
theorem sort_kR (rows : List (List Int)) : ((tR rows).map kRow).mergeSort (dataLe false id) = (tR (ordR rows)).map kRow := by
  rw [← sort_tR]
  exact (sort_maps kRow fun _ _ _ _ => rfl).symm
theorem ordR_perm (rows : List (List Int)) : (ordR rows).Perm rows := List.mergeSort_perm _ _
theorem ordR_of {a b : List (List Int)} (h : a.Perm b) : ordR a = ordR b := by
  refine List.Perm.eq_of_pairwise (le := fun x y => rowLe x y = true) (fun x y _ _ h1 h2 => rowLe_anti h1 h2) (sort_pairwise rowLe_total a) (sort_pairwise rowLe_total b) (((ordR_perm a).trans h).trans (ordR_perm b).symm)
theorem ordR_idem (a : List (List Int)) : ordR (ordR a) = ordR a := ordR_of (ordR_perm a)
end Pl

set_option Elab.async false
set_option linter.all false
set_option maxRecDepth 100000
set_option maxHeartbeats 1000001
namespace Pl
open PySem L2 LamX NdefX PyProof.Rows GenW PySem.W
/-! ### ascending rows -/
def insA (x : Int) : List Int → List Int
  | [] => [x]
  | y :: l => if x < y then x :: y :: l else if x = y then y :: l else y :: insA x l
def asc : List Int → List Int
  | [] => []
  | x :: l => insA x (asc l)
abbrev Asc (l : List Int) : Prop := l.Pairwise (· < ·)
theorem mem_insA {x z : Int} : ∀ {l : List Int}, z ∈ insA x l ↔ z = x ∨ z ∈ l
  | [] => by simp [insA]
  | y :: l => by
    unfold insA
    split
    · simp
    · split
      · rename_i h; subst h; simp
      · rw [List.mem_cons, mem_insA, List.mem_cons]
        constructor
        · rintro (h | h | h)
          · exact .inr (.inl h)
          · exact .inl h
          · exact .inr (.inr h)
        · rintro (h | h | h)
          · exact .inr (.inl h)
          · exact .inl h
          · exact .inr (.inr h)
theorem asc_insA {x : Int} : ∀ {l : List Int}, Asc l → Asc (insA x l)
  | [], _ => List.pairwise_singleton _ _
  | y :: l, h => by
    obtain ⟨h1, h2⟩ := List.pairwise_cons.mp h
    unfold insA
    split
    · rename_i hx
      exact List.pairwise_cons.mpr ⟨fun z hz => by
        rcases List.mem_cons.mp hz with e | e
        · rw [e]; exact hx
        · exact Int.lt_trans hx (h1 z e), h⟩
    · split
      · exact h
      · rename_i h3 h4
        refine List.pairwise_cons.mpr ⟨fun z hz => ?_, asc_insA h2⟩
        rcases mem_insA.mp hz with e | e
        · omega
        · exact h1 z e
theorem mem_asc {z : Int} : ∀ {l : List Int}, z ∈ asc l ↔ z ∈ l
  | [] => Iff.rfl
  | x :: l => by
    show z ∈ insA x (asc l) ↔ _
    rw [mem_insA, mem_asc, List.mem_cons]
theorem asc_asc : ∀ l : List Int, Asc (asc l)
  | [] => List.Pairwise.nil
  | x :: l => asc_insA (asc_asc l)
theorem Asc.nodup {l : List Int} (h : Asc l) : l.Nodup := h.imp fun h => by omega
theorem asc_eq {a b : List Int} (ha : Asc a) (hb : Asc b) (h : ∀ k, k ∈ a ↔ k ∈ b) : a = b :=
  List.Perm.eq_of_pairwise (le := fun x y => x < y) (fun x y _ _ h1 h2 => by omega) ha hb ((List.perm_ext_iff_of_nodup ha.nodup hb.nodup).mpr h)
theorem asc_of {a b : List Int} (ha : Asc a) (h : ∀ k, k ∈ a ↔ k ∈ b) : a = asc b := asc_eq ha (asc_asc b) fun k => (h k).trans mem_asc.symm
theorem asc_id {a : List Int} (ha : Asc a) : asc a = a := (asc_of ha fun _ => Iff.rfl).symm
theorem len_insA {x : Int} : ∀ {l : List Int}, (insA x l).length ≤ l.length + 1
  | [] => Nat.le_refl _
  | y :: l => by
    unfold insA
    split
    · simp
    · split
      · simp
      · rw [List.length_cons, List.length_cons]
        exact Nat.succ_le_succ len_insA
theorem len_asc : ∀ {l : List Int}, (asc l).length ≤ l.length
  | [] => Nat.le_refl _
  | x :: l => Nat.le_trans len_insA (Nat.succ_le_succ len_asc)
/-! ### different rows, in the order of the first -/
section
variable {α : Type} [DecidableEq α]
def insN (L : List α) (r : α) : List α := if r ∈ L then L else L ++ [r]
def dedup (rows : List α) : List α := rows.foldl insN []
theorem mem_insN {L : List α} {r z : α} : z ∈ insN L r ↔ z ∈ L ∨ z = r := by
  unfold insN
  split
  · rename_i h
    constructor
    · exact .inl
    · rintro (h2 | h2)
      · exact h2
      · rw [h2]; exact h
  · simp
theorem nodup_insN {L : List α} {r : α} (h : L.Nodup) : (insN L r).Nodup := by
  unfold insN
  split
  · exact h
  · rename_i hr
    refine List.nodup_append.mpr ⟨h, by simp, fun a ha b hb => ?_⟩
    have e : b = r := by simpa using hb
    intro q
    rw [← e, ← q] at hr
    exact hr ha
theorem fold_mem {z : α} : ∀ {rows L : List α}, z ∈ rows.foldl insN L ↔ z ∈ L ∨ z ∈ rows
  | [], L => by simp
  | r :: rows, L => by
    rw [List.foldl_cons, fold_mem, mem_insN, List.mem_cons, or_assoc]
theorem fold_nodup : ∀ {rows L : List α}, L.Nodup → (rows.foldl insN L).Nodup
  | [], _, h => h
  | r :: rows, L, h => by
    rw [List.foldl_cons]
    exact fold_nodup (nodup_insN h)
theorem mem_dedup {rows : List α} {z : α} : z ∈ dedup rows ↔ z ∈ rows := by
  unfold dedup
  rw [fold_mem]
  simp
theorem nodup_dedup (rows : List α) : (dedup rows).Nodup := fold_nodup List.nodup_nil
theorem dedup_snoc (rows : List α) (r : α) : dedup (rows ++ [r]) = insN (dedup rows) r := by
  unfold dedup
  rw [List.foldl_append]
  rfl
theorem len_insN {L : List α} {r : α} : (insN L r).length ≤ L.length + 1 := by
  unfold insN
  split
  · omega
  · simp
theorem len_dedup {rows : List α} : (dedup rows).length ≤ rows.length := (nodup_dedup rows).length_le_of_subset fun _ h => mem_dedup.mp h
end
/-- the keys of a dict behind a store -/
theorem putD_keys {κ : Type} [DecidableEq κ] (kvs : List (κ × D)) (k : κ) (d : D) : (putD kvs k d).map (·.1) = insN (kvs.map (·.1)) k := by
  have ha : (kvs.any fun kv => decide (kv.1 = k)) = decide (k ∈ kvs.map (·.1)) := by
    induction kvs with
    | nil => rfl
    | cons x r ih =>
      rw [List.any_cons, ih, List.map_cons]
      by_cases h : x.1 = k
      · rw [decide_eq_true h]; simp [h]
      · have : ¬ k = x.1 := fun z => h z.symm
        by_cases h2 : k ∈ r.map (·.1) <;> simp [h, h2, this]
  unfold putD insN
  rw [ha]
  by_cases h : k ∈ kvs.map (·.1)
  · rw [if_pos (decide_eq_true h), if_pos h, List.map_map]
    refine List.map_congr_left fun x _ => ?_
    show (if x.1 = k then (x.1, d) else x).1 = x.1
    split <;> rfl
  · rw [if_neg (by simpa using h), if_neg h, List.map_append]
    rfl
theorem valD_put {κ : Type} [DecidableEq κ] (kvs : List (κ × D)) (k j : κ) (d : D) : valD (putD kvs k d) j = if j = k then some d else valD kvs j := by
  have hm : ∀ l : List (κ × D), (∃ x ∈ l, x.1 = k) → valD (l.map fun kv => if kv.1 = k then (kv.1, d) else kv) j = if j = k then some d else valD l j := by
    intro l
    induction l with
    | nil => rintro ⟨x, hx, _⟩; cases hx
    | cons x l ih =>
      intro hx
      rw [List.map_cons]
      by_cases h1 : x.1 = k
      · rw [if_pos h1]
        by_cases h2 : j = k
        · rw [if_pos h2]
          simp [valD, List.find?_cons, h1, h2]
        · rw [if_neg h2]
          have n : ¬ x.1 = j := fun z => h2 (by rw [← z, h1])
          have e1 : ∀ (y : D) (r : List (κ × D)), valD ((x.1, y) :: r) j = valD r j := fun y r => by simp [valD, List.find?_cons, n]
          have e2 : valD (x :: l) j = valD l j := e1 x.2 l
          rw [e1, e2]
          by_cases h3 : ∃ x ∈ l, x.1 = k
          · rw [ih h3, if_neg h2]
          · congr 1
            have : (l.map fun kv => if kv.1 = k then (kv.1, d) else kv) = l.map id := List.map_congr_left fun y hy => by
              rw [if_neg fun z => h3 ⟨y, hy, z⟩]
              rfl
            rw [this, List.map_id]
      · rw [if_neg h1]
        have hx' : ∃ x ∈ l, x.1 = k := by
          obtain ⟨y, hy, e⟩ := hx
          rcases List.mem_cons.mp hy with z | z
          · rw [z] at e; exact (h1 e).elim
          · exact ⟨y, z, e⟩
        by_cases h2 : x.1 = j
        · have n : ¬ j = k := fun z => h1 (by rw [h2, z])
          rw [if_neg n]
          simp [valD, List.find?_cons, h2]
        · have e1 : ∀ r : List (κ × D), valD (x :: r) j = valD r j := fun r => by simp [valD, List.find?_cons, h2]
          rw [e1, e1, ih hx']
  unfold putD
  split
  · rename_i h
    obtain ⟨x, hx, e⟩ := List.any_eq_true.mp h
    exact hm kvs ⟨x, hx, of_decide_eq_true e⟩
  · rename_i h
    have h0 : ∀ x ∈ kvs, ¬ x.1 = k := fun x hx e => h (List.any_eq_true.mpr ⟨x, hx, decide_eq_true e⟩)
    clear hm h
    induction kvs with
    | nil =>
      by_cases h2 : j = k
      · simp [valD, h2]
      · have : ¬ k = j := fun z => h2 z.symm
        simp [valD, h2, this]
    | cons x l ih =>
      by_cases h1 : x.1 = j
      · have n : ¬ j = k := fun z => h0 x List.mem_cons_self (by rw [h1, z])
        rw [if_neg n]
        simp [valD, List.find?_cons, h1]
      · have e1 : ∀ r : List (κ × D), valD (x :: r) j = valD r j := fun r => by simp [valD, List.find?_cons, h1]
        rw [List.cons_append, e1, e1, ih fun y hy => h0 y (List.mem_cons_of_mem _ hy)]
/-! ### masks -/
def bits (p : Nat → Bool) : Nat → Nat
  | 0 => 0
  | n + 1 => bits p n + if p n = true then 2 ^ n else 0
theorem bits_lt (p : Nat → Bool) : ∀ n, bits p n < 2 ^ n
  | 0 => Nat.zero_lt_one
  | n + 1 => by
    have := bits_lt p n
    show bits p n + (if p n = true then 2 ^ n else 0) < 2 ^ (n + 1)
    rw [Nat.pow_succ]
    split <;> omega
theorem testBit_bits (p : Nat → Bool) (i : Nat) : ∀ n, (bits p n).testBit i = (decide (i < n) && p i)
  | 0 => by simp [bits]
  | n + 1 => by
    have ih := testBit_bits p i n
    have hl := bits_lt p n
    have e : bits p (n + 1) = 2 ^ n * (if p n = true then 1 else 0) + bits p n := by
      show bits p n + (if p n = true then 2 ^ n else 0) = _
      split <;> omega
    rw [e, Nat.testBit_two_pow_mul_add _ hl, ih]
    by_cases h1 : i < n
    · rw [if_pos h1]
      have h2 : i < n + 1 := by omega
      simp [h1, h2]
    · rw [if_neg h1]
      by_cases h2 : i = n
      · subst h2
        rw [Nat.sub_self]
        by_cases hp : p i = true
        · rw [if_pos hp]; simp [hp]
        · rw [if_neg hp]
          have hp : p i = false := by simpa using hp
          simp [hp]
      · have h3 : ¬ i < n + 1 := by omega
        have h4 : 1 ≤ i - n := by omega
        rw [decide_eq_false h3, Bool.false_and]
        split
        · exact Nat.testBit_lt_two_pow (Nat.lt_of_lt_of_le (by decide : 1 < 2 ^ 1) (Nat.pow_le_pow_right (by decide) h4))
        · exact Nat.zero_testBit _
theorem bits_self {a n : Nat} (h : a < 2 ^ n) : bits a.testBit n = a := Nat.eq_of_testBit_eq fun i => by
  rw [testBit_bits]
  by_cases hi : i < n
  · simp [hi]
  · rw [decide_eq_false hi, Bool.false_and, Nat.testBit_lt_two_pow (Nat.lt_of_lt_of_le h (Nat.pow_le_pow_right (by decide) (by omega)))]
theorem bits_congr {p q : Nat → Bool} : ∀ {n : Nat}, (∀ i < n, p i = q i) → bits p n = bits q n
  | 0, _ => rfl
  | n + 1, h => by
    show bits p n + (if p n = true then 2 ^ n else 0) = bits q n + (if q n = true then 2 ^ n else 0)
    rw [bits_congr fun i hi => h i (by omega), h n (by omega)]
theorem bits_add {p q : Nat → Bool} (h : ∀ i, ¬ (p i = true ∧ q i = true)) : ∀ n, bits p n + bits q n = bits (fun i => p i || q i) n
  | 0 => rfl
  | n + 1 => by
    have ih := bits_add h n
    have hn := h n
    show bits p n + (if p n = true then 2 ^ n else 0) + (bits q n + (if q n = true then 2 ^ n else 0)) = bits (fun i => p i || q i) n + (if (p n || q n) = true then 2 ^ n else 0)
    rw [← ih]
    cases hp : p n <;> cases hq : q n <;> simp_all <;> omega
theorem testBit_sub_and (a b i : Nat) : (a - (a &&& b)).testBit i = (a.testBit i && !b.testBit i) := by
  obtain ⟨n, hn⟩ : ∃ n, a < 2 ^ n := ⟨a, Nat.lt_two_pow_self⟩
  have h1 : a &&& b < 2 ^ n := Nat.lt_of_le_of_lt Nat.and_le_left hn
  have e := bits_add (p := fun i => a.testBit i && b.testBit i) (q := fun i => a.testBit i && !b.testBit i) (fun i => by cases a.testBit i <;> cases b.testBit i <;> simp) n
  have e1 : bits (fun i => a.testBit i && b.testBit i) n = a &&& b := by
    rw [← bits_self h1]
    exact bits_congr fun i _ => (Nat.testBit_and a b i).symm
  have e2 : bits (fun i => (a.testBit i && b.testBit i) || (a.testBit i && !b.testBit i)) n = a := by
    conv => rhs; rw [← bits_self hn]
    exact bits_congr fun i _ => by cases a.testBit i <;> cases b.testBit i <;> rfl
  rw [e1, e2] at e
  have e3 : a - (a &&& b) = bits (fun i => a.testBit i && !b.testBit i) n := by omega
  rw [e3, testBit_bits]
  by_cases hi : i < n
  · simp [hi]
  · rw [decide_eq_false hi, Bool.false_and, Nat.testBit_lt_two_pow (Nat.lt_of_lt_of_le hn (Nat.pow_le_pow_right (by decide) (by omega)))]
    rfl
theorem int_and (a b : Nat) : Builtin.bitAnd (a : Int) (b : Int) = ((a &&& b : Nat) : Int) := by
  rw [PyProof.Rows.bitAnd_pp (Int.natCast_nonneg _) (Int.natCast_nonneg _)]
  rfl
theorem int_or (a b : Nat) : Builtin.bitOr (a : Int) (b : Int) = ((a ||| b : Nat) : Int) := by
  rw [L2.bitOr_nn (Int.natCast_nonneg _) (Int.natCast_nonneg _)]
  rfl
theorem int_sub_and (a b : Nat) : (a : Int) - Builtin.bitAnd (a : Int) (b : Int) = ((a - (a &&& b) : Nat) : Int) := by
  rw [int_and]
  have : a &&& b ≤ a := Nat.and_le_left
  omega
/-- the lowest place that is set -/
theorem low_ex : ∀ n : Nat, 0 < n → ∃ k, n.testBit k = true ∧ ∀ j < k, n.testBit j = false := by
  intro n
  induction n using Nat.strongRecOn with
  | ind n ih =>
    intro hn
    by_cases h : n % 2 = 1
    · exact ⟨0, by simp [Nat.testBit_zero, h], fun j hj => absurd hj (Nat.not_lt_zero _)⟩
    · obtain ⟨k, h1, h2⟩ := ih (n / 2) (by omega) (by omega)
      refine ⟨k + 1, by rw [Nat.testBit_succ]; exact h1, fun j hj => ?_⟩
      cases j with
      | zero => simp [Nat.testBit_zero, h]
      | succ j => rw [Nat.testBit_succ]; exact h2 j (by omega)
noncomputable def low (n : Nat) : Nat := if h : 0 < n then (low_ex n h).choose else 0
theorem low_spec {n : Nat} (h : 0 < n) : n.testBit (low n) = true ∧ ∀ j < low n, n.testBit j = false := by
  unfold low
  rw [dif_pos h]
  exact (low_ex n h).choose_spec
theorem and_pred {n k : Nat} (h1 : n.testBit k = true) (h2 : ∀ j < k, n.testBit j = false) : n - (n &&& (n - 1)) = 2 ^ k := by
  have hm : n % 2 ^ k = 0 := Nat.eq_of_testBit_eq fun i => by
    rw [Nat.testBit_mod_two_pow, Nat.zero_testBit]
    by_cases hi : i < k
    · rw [h2 i hi, Bool.and_false]
    · rw [decide_eq_false hi, Bool.false_and]
  obtain ⟨a, ha⟩ : ∃ a, n = 2 ^ k * a := ⟨n / 2 ^ k, by have := Nat.div_add_mod n (2 ^ k); omega⟩
  have pk : 0 < 2 ^ k := Nat.two_pow_pos k
  have ao : a % 2 = 1 := by
    have : n.testBit k = a.testBit 0 := by
      have q := Nat.testBit_two_pow_mul_add a (b := 0) pk k
      rw [if_neg (Nat.lt_irrefl k), Nat.sub_self, Nat.add_zero, ← ha] at q
      exact q
    rw [this, Nat.testBit_zero] at h1
    exact of_decide_eq_true h1
  have e : n - 1 = 2 ^ k * (a - 1) + (2 ^ k - 1) := by
    rw [ha, Nat.mul_sub, Nat.mul_one]
    have : 2 ^ k ≤ 2 ^ k * a := Nat.le_mul_of_pos_right _ (by omega)
    omega
  refine Nat.eq_of_testBit_eq fun i => ?_
  rw [testBit_sub_and, Nat.testBit_two_pow, e, Nat.testBit_two_pow_mul_add _ (by omega)]
  by_cases hi : i < k
  · rw [h2 i hi, Bool.false_and, decide_eq_false (by omega)]
  · rw [if_neg hi]
    have en : n.testBit i = a.testBit (i - k) := by
      have q := Nat.testBit_two_pow_mul_add a (b := 0) pk i
      rw [if_neg hi, Nat.add_zero, ← ha] at q
      exact q
    rw [en]
    by_cases hk : k = i
    · subst hk
      rw [Nat.sub_self, Nat.testBit_zero, Nat.testBit_zero, decide_eq_true rfl]
      have : (a - 1) % 2 = 0 := by omega
      simp [ao, this]
    · rw [decide_eq_false hk]
      obtain ⟨j, hj⟩ : ∃ j, i - k = j + 1 := ⟨i - k - 1, by omega⟩
      rw [hj, Nat.testBit_succ, Nat.testBit_succ]
      have : (a - 1) / 2 = a / 2 := by omega
      rw [this]
      cases (a / 2).testBit j <;> rfl
theorem low_int {n : Nat} (h : 0 < n) : ((Builtin.Int.intBits (Builtin.bitAnd (n : Int) (-(n : Int))) : Nat) : Int) - 1 = (low n : Int) := by
  obtain ⟨h1, h2⟩ := low_spec h
  have e1 : Builtin.bitAnd (n : Int) (-(n : Int)) = ((2 ^ low n : Nat) : Int) := by
    rw [PyProof.Rows.bitAnd_pn (Int.natCast_nonneg _) (by omega)]
    have e2 : (Builtin.bitNot (-(n : Int))).toNat = n - 1 := by
      show (-(-(n : Int)) - 1).toNat = n - 1
      omega
    rw [e2, Int.toNat_natCast, ← and_pred h1 h2]
    have : n &&& (n - 1) ≤ n := Nat.and_le_left
    omega
  rw [e1]
  unfold Builtin.Int.intBits
  have e3 : ((((2 ^ low n : Nat) : Int)) == 0) = false := by
    have := Nat.two_pow_pos (low n)
    simp only [beq_eq_false_iff_ne]
    omega
  rw [e3]
  simp only [Bool.false_eq_true, if_false, Int.natAbs_natCast, Nat.log2_two_pow]
  omega
end Pl

set_option Elab.async false
set_option linter.all false
set_option maxRecDepth 100000
set_option maxHeartbeats 1000001
namespace Pl
open PySem L2 LamX NdefX PyProof.Rows GenW
/-! ### rules with the fragment said -/
section
variable {X : Cx} {K0 : PySem.W.Frag}
theorem pi_listK {tg l : Expr} {tl : TE} (hl : PE X l tl) (e : X.K = K0 := by rfl) : PI X tg l (iList K0 tl) := e ▸ pi_list hl
theorem pi_tupK {tg l : Expr} {tl : TE} (hl : PE X l tl) (e : X.K = K0 := by rfl) : PI X tg l (iTup K0 tl) := e ▸ pi_tup hl
theorem pe_bmK {o e : Expr} {es : List Expr} {to : TE} {t : TA} {name : Str} {apos cpos : Pos} {T id : String} {r : V → List V → Hp → VK → Prop} (pa : PlainAttrs T) (slot : Slot T name id) (hty : typeOf (.builtin id) = pure (.type "method_descriptor")) (hm : MtR X id r) (ho : PE X o to) (ha : PA X (e :: es) t)
    (ek : X.K = K0 := by rfl) (h1 : attributeBase o name X.env (eval o X.env) = eval o X.env := by rfl)
    (h2 : ((backTo cpos (starEach (e :: es) X.env)).all (fun x => !x.1) && (backToKw cpos (keywordEach [] X.env)).all (fun x => x.1.isSome) && decide ((e :: es).length + ([] : List Keyword).length + (if ([] : List Keyword).isEmpty then 0 else 1) < 30)) = true := by rfl) (h3 : (apos.endLine == cpos.line) = true := by rfl)
    (h4 : starEach (e :: es) X.env = (false, eval e X.env) :: starEach es X.env := by rfl) (h5 : (backTo cpos (starEach es X.env)).any (·.1) = false := by rfl) : PE X (.Call (.Attribute o name apos) (e :: es) [] cpos) (tBM K0 T r to t) := ek ▸ pe_bm pa slot hty hm ho ha h1 h2 h3 h4 h5
theorem pe_bm0K {o : Expr} {to : TE} {name : Str} {apos cpos : Pos} {T id : String} {r : V → List V → Hp → VK → Prop} (pa : PlainAttrs T) (slot : Slot T name id) (hty : typeOf (.builtin id) = pure (.type "method_descriptor")) (hm : MtR X id r) (ho : PE X o to)
    (ek : X.K = K0 := by rfl) (h1 : attributeBase o name X.env (eval o X.env) = eval o X.env := by rfl) (h3 : (apos.endLine == cpos.line) = true := by rfl) : PE X (.Call (.Attribute o name apos) [] [] cpos) (tBM0 K0 T r to) := ek ▸ pe_bm0 pa slot hty hm ho h1 h3
theorem pe_revLK {e : Expr} {te : TE} {k : Nat} {p1 p2 p3 pos : Pos} (he : PE X e te) (ek : X.K = K0 := by rfl) : PE X (.Subscript e (.Slice none none (some (.UnaryOp .USub (.Constant (.int 1) k p1) p2)) p3) pos) (tRevL K0 te) := ek ▸ pe_revL he
theorem pe_revTK {e : Expr} {te : TE} {k : Nat} {p1 p2 p3 pos : Pos} (he : PE X e te) (ek : X.K = K0 := by rfl) : PE X (.Subscript e (.Slice none none (some (.UnaryOp .USub (.Constant (.int 1) k p1) p2)) p3) pos) (tRevT K0 te) := ek ▸ pe_revT he
theorem pt_truthK {a : Expr} {ta : TE} (ha : PE X a ta) (he : ∀ whole, isTrue a X.env whole = (do let v ← whole; standAt a.pos; holding [v] (truthy v))) (ek : X.K = K0 := by rfl) : PT X a (fun σ H Q => ta σ H fun x H' => ∃ k, TruV K0 x H' k ∧ Q k H') := ek ▸ pt_truth ha he
theorem pi_enumK {e : Expr} {ta : TA} {p pos tpos : Pos} {elts : List Expr} {kk : Nat} (hg : Gl X "enumerate") (hm : X.mg "enumerate" = none) (ha : PA X [e] ta) (ek : X.K = K0 := by rfl) (hs : starEach [e] X.env = [(false, eval e X.env)] := by rfl) : PI X (.Tuple elts kk tpos) (.Call (.Name "enumerate" p) [e] [] pos) (iEnum K0 ta) := ek ▸ pi_enum hg hm ha hs
end
end Pl

set_option Elab.async false
set_option linter.all false
set_option maxRecDepth 100000
set_option maxHeartbeats 4000001
namespace K21
open PySem L2 LamX NdefX PyProof.Rows GenW Pl
def top (i : Nat) : Stmt := PySem.Challenge.pw_notionary_k21_least_meeting.main.body.getD i (.Pass ⟨0, 0, 0, 0⟩)
def ds : List DI := [("set_order", top 1), ("different_sets", top 2), ("meeting_masks", top 3), ("meeting_sets", top 4), ("least_meeting", top 5), ("_law_cell", top 7), ("_law_purse", top 8), ("_law_draw", top 9), ("_law_integers", top 10), ("_law_set", top 11), ("_law_sets", top 12), ("_law_meets", top 13), ("_law_is_least", top 14), ("_law_ordered", top 15), ("_law_least", top 16), ("_law_within", top 17), ("_law_smallest", top 18), ("_law_same", top 19), ("law", top 20)]
def fr : List Str := ["sorted", "len", "list", "tuple", "set", "enumerate", "int", "sum", "range", "any", "isinstance", "bool"]
theorem sc_set_order : FnScope ["sets"] ["sets"] (defScope (top 1)) := ⟨rfl, rfl, rfl, by decide +kernel, rfl, by decide +kernel, by decide +kernel⟩
theorem sc_different_sets : FnScope ["sets", "rows", "row"] ["sets"] (defScope (top 2)) := ⟨rfl, rfl, rfl, by decide +kernel, rfl, by decide +kernel, by decide +kernel⟩
theorem sc_meeting_masks : FnScope ["rows", "masks", "at", "row", "member"] ["rows"] (defScope (top 3)) := ⟨rfl, rfl, rfl, by decide +kernel, rfl, by decide +kernel, by decide +kernel⟩
theorem sc_meeting_sets : GScope ["sets", "rows", "masks", "stack", "chosen", "alone", "unmet", "barred", "nodes", "member", "mask", "left", "own"] ["sets"] (defScope (top 4)) := ⟨rfl, rfl, rfl, by decide +kernel, rfl, by decide +kernel, by decide +kernel⟩
theorem sc_least_meeting : FnScope ["sets"] ["sets"] (defScope (top 5)) := ⟨rfl, rfl, rfl, by decide +kernel, rfl, by decide +kernel, by decide +kernel⟩
theorem sc__law_cell : FnScope ["script", "k", "one"] ["script", "k"] (defScope (top 7)) := ⟨rfl, rfl, rfl, by decide +kernel, rfl, by decide +kernel, by decide +kernel⟩
theorem sc__law_purse : FnScope ["script", "k", "cell"] ["script", "k"] (defScope (top 8)) := ⟨rfl, rfl, rfl, by decide +kernel, rfl, by decide +kernel, by decide +kernel⟩
theorem sc__law_draw : FnScope ["purse", "many", "first", "second", "digit"] ["purse", "many"] (defScope (top 9)) := ⟨rfl, rfl, rfl, by decide +kernel, rfl, by decide +kernel, by decide +kernel⟩
theorem sc__law_integers : FnScope ["purse", "many", "edge", "place", "found", "k"] ["purse", "many"] (defScope (top 10)) := ⟨rfl, rfl, rfl, by decide +kernel, rfl, by decide +kernel, by decide +kernel⟩
theorem sc__law_set : FnScope ["purse", "integers", "row", "one"] ["purse", "integers"] (defScope (top 11)) := ⟨rfl, rfl, rfl, by decide +kernel, rfl, by decide +kernel, by decide +kernel⟩
theorem sc__law_sets : FnScope ["script", "integers", "many", "sets", "k", "purse"] ["script", "integers", "many"] (defScope (top 12)) := ⟨rfl, rfl, rfl, by decide +kernel, rfl, by decide +kernel, by decide +kernel⟩
theorem sc__law_meets : FnScope ["masks", "mask", "one"] ["masks", "mask"] (defScope (top 13)) := ⟨rfl, rfl, rfl, by decide +kernel, rfl, by decide +kernel, by decide +kernel⟩
theorem sc__law_is_least : FnScope ["masks", "mask", "many", "k"] ["masks", "mask", "many"] (defScope (top 14)) := ⟨rfl, rfl, rfl, by decide +kernel, rfl, by decide +kernel, by decide +kernel⟩
theorem sc__law_ordered : FnScope ["rows", "pair", "row"] ["rows"] (defScope (top 15)) := ⟨rfl, rfl, rfl, by decide +kernel, rfl, by decide +kernel, by decide +kernel⟩
theorem sc__law_least : FnScope ["sets", "integers", "many", "masks", "found", "mask", "one", "k"] ["sets", "integers"] (defScope (top 16)) := ⟨rfl, rfl, rfl, by decide +kernel, rfl, by decide +kernel, by decide +kernel⟩
theorem sc__law_within : FnScope ["one", "other", "member"] ["one", "other"] (defScope (top 17)) := ⟨rfl, rfl, rfl, by decide +kernel, rfl, by decide +kernel, by decide +kernel⟩
theorem sc__law_smallest : FnScope ["sets", "rows", "one", "kept", "row"] ["sets"] (defScope (top 18)) := ⟨rfl, rfl, rfl, by decide +kernel, rfl, by decide +kernel, by decide +kernel⟩
theorem sc__law_same : FnScope ["told", "due", "k", "member"] ["told", "due"] (defScope (top 19)) := ⟨rfl, rfl, rfl, by decide +kernel, rfl, by decide +kernel, by decide +kernel⟩
theorem sc_law : FnScope ["script", "purse", "wide", "many", "count", "integers", "sets", "due", "passed", "told"] ["script"] (defScope (top 20)) := ⟨rfl, rfl, rfl, by decide +kernel, rfl, by decide +kernel, by decide +kernel⟩
def ts : List (Str × (Nat → Nat → Str)) := [("set_order", fun _ _ => "set_order.<locals>.<lambda>")]
end K21

set_option Elab.async false
set_option linter.all false
set_option maxRecDepth 100000
set_option maxHeartbeats 4000001
namespace K21
open PySem L2 LamX NdefX PyProof.Rows GenW Pl
local macro_rules | `(tactic| walk_at "set") => `(tactic| first | (dsimp only [putOs, putO, List.getElem?_cons_zero, List.getElem?_cons_succ, List.set_cons_zero, List.set_cons_succ]; done) | (dsimp only [putOs, putO, List.getElem?_cons_zero, List.getElem?_cons_succ, List.set_cons_zero, List.set_cons_succ]; exact rfl) | exact rfl)
local macro_rules | `(tactic| walk_at "setn") => `(tactic| (intro _; first | (dsimp only [putOs, putO, List.getElem?_cons_zero, List.getElem?_cons_succ, List.set_cons_zero, List.set_cons_succ]; done) | (dsimp only [putOs, putO, List.getElem?_cons_zero, List.getElem?_cons_succ, List.set_cons_zero, List.set_cons_succ]; exact rfl) | exact rfl))
local macro_rules | `(tactic| walk_at "cnd") => `(tactic| first | assumption | omega | decide | exact ⟨by omega, by decide⟩ | exact Or.inr ⟨by decide, by decide⟩ | exact Or.inl ⟨by decide, by decide⟩ | exact ⟨by decide, by decide, by decide⟩)
local macro_rules | `(tactic| walk_at "len") => `(tactic| first | exact Nat.le_of_ble_eq_true rfl | (simp; done) | omega)

/-! ### calls -/
section
variable {K : PySem.W.Frag} {T : List NTab} {δ : List Sl} {P : R → List Sl → Prop}
end
/-! ### the draws -/
def PU (u : OV) : Prop := ∃ a b d : Int, 0 ≤ a ∧ u = .lst [.int a, .int b, .int d]
def F__law_cell : FS := fun as Q => ∃ (ns : List Int) (k : Int), as = [.val (.list (ns.map .int)), .val (.int k)] ∧ 0 ≤ k ∧ k < 2 ^ 60 ∧ ns.length ≤ 1000 ∧ ∀ z : Int, Q (.val (.int z)) []
def F__law_purse : FS := fun as Q => ∃ (ns : List Int) (k : Int), as = [.val (.list (ns.map .int)), .val (.int k)] ∧ 0 ≤ k ∧ k < 2 ^ 60 ∧ ns.length ≤ 1000 ∧ ∀ u, PU u → Q (.new u) []
def F__law_draw : FS := fun as Q => ∃ (u : OV) (m : Int), as = [.own u, .val (.int m)] ∧ PU u ∧ 0 < m ∧ m ≤ 10 ^ 13 ∧ ∀ r u', PU u' → 0 ≤ r → r < m → Q (.val (.int r)) [u']
section
variable {P : Program} {w : World} {K : PySem.W.Frag} {mg : Str → Option Value} {base : Heap} {T : List NTab}
theorem at_ints {ns : List Int} {k : Int} (h0 : 0 ≤ k) (h1 : k < ns.length) : ∃ z, atI (ns.map PyData.int) k = some (.int z) := by
  have h2 : k.toNat < ns.length := by omega
  refine ⟨ns[k.toNat], ?_⟩
  unfold atI ixN
  rw [List.length_map, if_pos h0, if_pos h1]
  show (ns.map PyData.int)[k.toNat]? = _
  rw [List.getElem?_map, List.getElem?_eq_getElem h2]
  rfl
theorem ok__law_cell (c : Al K mg base ds fr (ts.map (·.1))) : Ok P w K mg base 1 "_law_cell" ["script", "k"] (spOf K T F__law_cell) := by
  have nd := sc__law_cell.nd
  refine ok_of c (.tail _ (.tail _ (.tail _ (.tail _ (.tail _ (.head _)))))) (fun _ _ _ _ _ _ us hl => match us, hl with | [_, _], _ => rfl) sc__law_cell (fun as Q h => by obtain ⟨_, _, rfl, _⟩ := h; rfl) fun f cdv A outer s H E hr as Q qs hF hq => ?_
  obtain ⟨ns, k, rfl, hk0, hk1, hns, hQ⟩ := hF
  refine ⟨_, (pss_cons (ps_if (pt_cmpR op_lt (pv 1) (pe_callB call_len rfl (c.fr _ (.tail _ (.head _))) PySem.boot_len (pa_cons (pv 0) pa_nil)) (nomark _)) (pss_one (ps_ret (pe_callTy call_int1 rfl (c.fr _ (.tail _ (.tail _ (.tail _ (.tail _ (.tail _ (.tail _ (.head _)))))))) PyProof.Rows.boot_int (pa_cons (pe_ix ix_list (pv 0) (pv 1) (fun _ _ => rfl)) pa_nil)))) pss_nil)
    (pss_one (ps_ret (pe_op op_add (pe_op op_add (pe_op op_mul (pe_callB (cr_sum rfl) rfl (c.fr _ (.tail _ (.tail _ (.tail _ (.tail _ (.tail _ (.tail _ (.tail _ (.head _))))))))) PyProof.Rows.boot_sum (pa_cons (pe_lc (own := [("one", 2)]) (g := gName 2) (tt := tYes) rfl nd (pi_list (pe_slice sl_list (pv 0) po_none (po_some pe_int))) (blkOk_by (N := ["script", "k", "one"]) (sc := defScope (top 7)) (by decide +kernel)) (fun _ _ _ _ _ => pg_name (i := 2) nd rfl (Or.inl rfl)) (fun _ _ _ _ _ => pts_nil) (fun _ _ _ _ _ => (pe_op op_mod (pe_callTy call_int1 rfl (c.fr _ (.tail _ (.tail _ (.tail _ (.tail _ (.tail _ (.tail _ (.head _)))))))) PyProof.Rows.boot_int (pa_cons (pv 2) pa_nil)) pe_int))) pa_nil)) pe_int) (pe_op op_mul (pv 1) pe_int)) pe_int)))), ?_⟩
  show Ss K T _ [.val _, .val _, .no] _
  have fin : ∀ (δ' : List Sl) z, ∃ us r', Fin [Ar.val (.list (ns.map .int)), .val (.int k)] qs [.val (.list (ns.map .int)), .val (.int k), .no] us ∧ RetR 2 δ' (.val (.int z)) r' ∧ Q r' us := fun δ' z => by
    cases qs with
    | nil => exact ⟨[], _, rfl, ⟨rfl, rfl⟩, hQ z⟩
    | cons _ _ => simp [owns] at hq
  refine ss_seq (ss_if (et_test (ex_op (ex_var rfl (ex_cb (exa_cons (ex_var rfl (exa_nil ⟨[_], ⟨rfl, trivial⟩, cb_lenL ⟨_, _, rfl, rfl, opd_I0 (.bl _) ⟨_, rfl, (ite2 (fun hc => ?_) (fun hc => ?_))⟩⟩⟩))))))))
  · -- return int(script[k])
    have hc := of_decide_eq_true hc
    rw [List.length_map] at hc
    obtain ⟨z, hz⟩ := at_ints hk0 hc
    exact ss_ret (ex_cb (exa_cons (ex_ixL (ex_var rfl (ex_var rfl ⟨_, _, _, rfl, rfl, hz, .inr ⟨_, rfl⟩, (exa_nil ⟨[_], ⟨rfl, trivial⟩, cb_int (fin _ z)⟩)⟩)))))
  · refine ss_next ?_
    refine ss_ret (ex_op (ex_op (ex_op (ex_cb (exa_cons (ex_mapL (f := fun d => match d with | .int i => .int (i % 1000003) | d => d) (ex_slL (ex_var rfl (exo_none (exo_some (ex_int ⟨_, rfl, ⟨_, rfl, imm_cut (imm_ints ns), ⟨_, rfl, rfl, ?_, fun d hd => ?_, ?_⟩⟩⟩)))))))))))
    · have h1 : (Pl.cutD (ns.map PyData.int) none (some 1)).length ≤ ns.length := by
        unfold Pl.cutD
        rw [List.length_take, List.length_drop, List.length_map]
        omega
      exact Nat.le_trans h1 (by omega)
    · obtain ⟨z, _, rfl⟩ := List.mem_map.mp (List.mem_of_mem_drop (List.mem_of_mem_take hd))
      exact ex_op (ex_cb (exa_cons (ex_var rfl (exa_nil ⟨[_], ⟨rfl, trivial⟩, cb_int (ex_int ⟨_, _, rfl, rfl, opd_I (by walk_at "cnd") (.int _) ⟨rfl, rfl⟩⟩)⟩))))
    · obtain ⟨ms, hms⟩ : ∃ ms : List Int, ((Pl.cutD (ns.map .int) none (some 1)).map fun d => match d with | .int i => .int (i % 1000003) | d => d) = ms.map PyData.int := by
        refine ⟨((ns.drop (HT.sIx (ns.map PyData.int).length 0 none)).take (HT.sIx (ns.map PyData.int).length (ns.map PyData.int).length (some 1) - HT.sIx (ns.map PyData.int).length 0 none)).map (· % 1000003), ?_⟩
        simp only [Pl.cutD, ← List.map_drop, ← List.map_take, List.map_map]
        rfl
      rw [hms]
      refine exa_nil ⟨[_], ⟨rfl, trivial⟩, cb_sum (ex_int ⟨_, _, rfl, rfl, opd_I (by walk_at "cnd") (.int _) (ex_op (ex_var rfl (ex_int ⟨_, _, rfl, rfl, opd_I (by walk_at "cnd") (.int _) ⟨_, _, rfl, rfl, opd_I0 (.int _) (ex_int ⟨_, _, rfl, rfl, opd_I0 (.int _) (fin _ _)⟩)⟩⟩)))⟩)⟩
theorem ok__law_purse (c : Al K mg base ds fr (ts.map (·.1))) (h__law_cell : Ok P w K mg base 1 "_law_cell" ["script", "k"] (spOf K T F__law_cell)) : Ok P w K mg base 2 "_law_purse" ["script", "k"] (spOf K T F__law_purse) := by
  have nd := sc__law_purse.nd
  refine ok_of c (.tail _ (.tail _ (.tail _ (.tail _ (.tail _ (.tail _ (.head _))))))) (fun _ _ _ _ _ _ us hl => match us, hl with | [_, _], _ => rfl) sc__law_purse (fun as Q h => by obtain ⟨_, _, rfl, _⟩ := h; rfl) fun f cdv A outer s H E hr as Q qs hF hq => ?_
  obtain ⟨ns, k, rfl, hk0, hk1, hns, hQ⟩ := hF
  refine ⟨_, (pss_cons (ps_set (i := 2) nd rfl (Or.inl rfl) (pe_f h__law_cell hr rfl (pa_cons (pv 0) (pa_cons (pv 1) pa_nil))))
    (pss_one (ps_ret (pe_lst (pa_cons (pe_op op_mul (pv 2) (pe_callTy call_int1 rfl (c.fr _ (.tail _ (.tail _ (.tail _ (.tail _ (.tail _ (.tail _ (.head _)))))))) PyProof.Rows.boot_int (pa_cons (pe_cmpR op_ge (pv 2) (pe_op op_pow pe_int pe_int) (nomark _)) pa_nil))) (pa_cons pe_int (pa_cons (pe_op op_mod (pe_callTy call_int1 rfl (c.fr _ (.tail _ (.tail _ (.tail _ (.tail _ (.tail _ (.tail _ (.head _)))))))) PyProof.Rows.boot_int (pa_cons (pv 2) pa_nil)) pe_int) pa_nil))))))), ?_⟩
  show Ss K T _ [.val _, .val _, .no] _
  obtain rfl : qs = [] := by simpa [owns] using hq
  refine ss_seq (ss_set (ex_call0 (exa_cons (ex_var rfl (exa_cons (ex_var rfl (exa_nil ⟨[.val _, .val _], ⟨rfl, rfl, trivial⟩, ⟨_, _, rfl, hk0, hk1, hns, fun z => st_v (by walk_at "set") ?_⟩⟩)))))))
  refine ss_ret (ex_lst (exa_cons (ex_op (ex_var rfl (ex_cb (exa_cons (ex_op (ex_var rfl (ex_op (ex_int (ex_int ⟨_, _, rfl, rfl, opd_I ⟨by decide, by decide, by decide⟩ (.int _) ⟨_, _, rfl, rfl, opd_I0 (.bl _) (exa_nil ⟨[_], ⟨rfl, trivial⟩, cb_intB ⟨_, _, rfl, rfl, opd_I ?_ (.int _) (exa_cons (ex_int (exa_cons (ex_op (ex_cb (exa_cons (ex_var rfl (exa_nil ⟨[_], ⟨rfl, trivial⟩, cb_int (ex_int ⟨_, _, rfl, rfl, opd_I (by walk_at "cnd") (.int _) (exa_nil ⟨[_, _, _], ⟨rfl, rfl, rfl, trivial⟩, (by walk_at "len"), ?_⟩)⟩)⟩))))))))⟩⟩)⟩⟩)))))))))))
  · refine .inr ?_
    split <;> exact ⟨by decide, by decide⟩
  · refine ⟨[], _, rfl, ⟨rfl, rfl⟩, hQ _ ⟨_, _, _, ?_, rfl⟩⟩
    split
    · rename_i h
      have h := of_decide_eq_true h
      have : (0 : Int) ≤ z := Int.le_trans (by decide) h
      omega
    · omega
theorem ok__law_draw (c : Al K mg base ds fr (ts.map (·.1))) : Ok P w K mg base 1 "_law_draw" ["purse", "many"] (spOf K T F__law_draw) := by
  have nd := sc__law_draw.nd
  refine ok_of c (.tail _ (.tail _ (.tail _ (.tail _ (.tail _ (.tail _ (.tail _ (.head _)))))))) (fun _ _ _ _ _ _ us hl => match us, hl with | [_, _], _ => rfl) sc__law_draw (fun as Q h => by obtain ⟨_, _, rfl, _⟩ := h; rfl) fun f cdv A outer s H E hr as Q qs hF hq => ?_
  obtain ⟨_, m, rfl, ⟨a, b, d, ha, rfl⟩, hm, hm2, hQ⟩ := hF
  refine ⟨_, (pss_cons (ps_asg (pe_op op_add (pe_ix ix_list (pv 0) pe_int (fun _ _ => rfl)) pe_int) (pg_sub (pv 0) pe_int set_list))
    (pss_cons (ps_if (pt_cmpR op_gt (pe_ix ix_list (pv 0) pe_int (fun _ _ => rfl)) pe_int (nomark _)) (pss_cons (ps_set (i := 4) nd rfl (Or.inl rfl) (pe_op op_mod (pe_callTy call_int1 rfl (c.fr _ (.tail _ (.tail _ (.tail _ (.tail _ (.tail _ (.tail _ (.head _)))))))) PyProof.Rows.boot_int (pa_cons (pe_ix ix_list (pv 0) pe_int (fun _ _ => rfl)) pa_nil)) (pv 1)))
    (pss_cons (ps_asg (pe_op op_fdivW (pe_callTy call_int1 rfl (c.fr _ (.tail _ (.tail _ (.tail _ (.tail _ (.tail _ (.tail _ (.head _)))))))) PyProof.Rows.boot_int (pa_cons (pe_ix ix_list (pv 0) pe_int (fun _ _ => rfl)) pa_nil)) (pv 1)) (pg_sub (pv 0) pe_int set_list))
    (pss_one (ps_ret (pv 4))))) pss_nil)
    (pss_cons (ps_set (i := 2) nd rfl (Or.inl rfl) (pe_op op_mod (pe_callTy call_int1 rfl (c.fr _ (.tail _ (.tail _ (.tail _ (.tail _ (.tail _ (.tail _ (.head _)))))))) PyProof.Rows.boot_int (pa_cons (pe_op op_add (pe_op op_add (pe_op op_mul (pe_ix ix_list (pv 0) pe_int (fun _ _ => rfl)) pe_int) (pe_op op_mul (pe_ix ix_list (pv 0) pe_int (fun _ _ => rfl)) pe_int)) pe_int) pa_nil)) pe_int))
    (pss_cons (ps_set (i := 3) nd rfl (Or.inl rfl) (pe_op op_mod (pe_callTy call_int1 rfl (c.fr _ (.tail _ (.tail _ (.tail _ (.tail _ (.tail _ (.tail _ (.head _)))))))) PyProof.Rows.boot_int (pa_cons (pe_op op_add (pe_op op_mul (pv 2) (pe_op op_add (pe_op op_fdivW (pv 2) pe_int) pe_int)) (pe_op op_mul (pe_ix ix_list (pv 0) pe_int (fun _ _ => rfl)) pe_int)) pa_nil)) pe_int))
    (pss_one (ps_ret (pe_op op_mod (pe_callTy call_int1 rfl (c.fr _ (.tail _ (.tail _ (.tail _ (.tail _ (.tail _ (.tail _ (.head _)))))))) PyProof.Rows.boot_int (pa_cons (pe_op op_fdivW (pv 3) pe_int) pa_nil)) (pv 1)))))))), ?_⟩
  obtain ⟨p, rfl⟩ : ∃ p, qs = [p] := by
    match qs, hq with
    | [p], _ => exact ⟨p, rfl⟩
  show Ss K T _ [.own _ _, .val _, .no, .no, .no] _
  have ht : m < 10 ^ 14 := by omega
  have cm : CDivW a m := ⟨hm, by
    have h1 : m.natAbs < 2 ^ 60 := by
      have : m.natAbs ≤ 10 ^ 13 := by omega
      exact Nat.lt_of_le_of_lt this (by decide)
    exact Nat.lt_of_lt_of_le (PySem.Flt.log2_lt_of (by decide) h1) (by decide)⟩
  refine ss_seq (ss_setL (ex_op (ex_ixL (ex_bor rfl (ex_int ⟨_, _, _, ⟨_, _, rfl, rfl⟩, rfl, rfl, .inl rfl, (ex_int ⟨_, _, rfl, rfl, opd_I0 (.int _) ⟨_, rfl, ⟨_, _, rfl⟩, (ex_int ⟨_, _, _, _, rfl, rfl, rfl, ?_⟩)⟩⟩)⟩)))))
  refine ss_seq (ss_if (et_test (ex_op (ex_ixL (ex_bor rfl (ex_int ⟨_, _, _, ⟨_, _, rfl, rfl⟩, rfl, rfl, .inl rfl, (ex_int ⟨_, _, rfl, rfl, opd_I0 (.bl _) ⟨_, rfl, (ite2 (fun hc => ?_) (fun hc => ?_))⟩⟩)⟩))))))
  · -- digit = int(purse[0]) % many
    refine ss_seq (ss_set (ex_op (ex_cb (exa_cons (ex_ixL (ex_bor rfl (ex_int ⟨_, _, _, ⟨_, _, rfl, rfl⟩, rfl, rfl, .inl rfl, (exa_nil ⟨[_], ⟨rfl, trivial⟩, cb_int (ex_var rfl ⟨_, _, rfl, rfl, opd_I hm (.int _) (st_v (by walk_at "set") ?_)⟩)⟩)⟩)))))))
    refine ss_seq (ss_setL (ex_op (ex_cb (exa_cons (ex_ixL (ex_bor rfl (ex_int ⟨_, _, _, ⟨_, _, rfl, rfl⟩, rfl, rfl, .inl rfl, (exa_nil ⟨[_], ⟨rfl, trivial⟩, cb_int (ex_var rfl ⟨_, _, rfl, rfl, opd_I cm (.int _) ⟨_, rfl, ⟨_, _, rfl⟩, (ex_int ⟨_, _, _, _, rfl, rfl, rfl, ?_⟩)⟩⟩)⟩)⟩)))))))
    refine ss_ret (ex_var rfl ?_)
    refine ⟨_, _, ⟨rfl, rfl, _, rfl, rfl⟩, ⟨rfl, rfl⟩, hQ _ _ ⟨_, _, _, ?_, rfl⟩ (Int.emod_nonneg _ (by omega)) (Int.emod_lt_of_pos _ hm)⟩
    exact Int.ediv_nonneg ha (by omega)
  · refine ss_next ?_
    refine ss_seq (ss_set (ex_op (ex_cb (exa_cons (ex_op (ex_op (ex_op (ex_ixL (ex_bor rfl (ex_int ⟨_, _, _, ⟨_, _, rfl, rfl⟩, rfl, rfl, .inl rfl, (ex_int ⟨_, _, rfl, rfl, opd_I (by walk_at "cnd") (.int _) (ex_op (ex_ixL (ex_bor rfl (ex_int ⟨_, _, _, ⟨_, _, rfl, rfl⟩, rfl, rfl, .inl rfl, (ex_int ⟨_, _, rfl, rfl, opd_I (by walk_at "cnd") (.int _) ⟨_, _, rfl, rfl, opd_I0 (.int _) (ex_int ⟨_, _, rfl, rfl, opd_I0 (.int _) (exa_nil ⟨[_], ⟨rfl, trivial⟩, cb_int (ex_int ⟨_, _, rfl, rfl, opd_I (by walk_at "cnd") (.int _) (st_v (by walk_at "set") ?_)⟩)⟩)⟩)⟩⟩)⟩))))⟩)⟩))))))))))
    generalize hf : (d * 48271 + (b + 1) * 69621 + 7) % 2147483647 = ff
    have hf0 : 0 ≤ ff := by rw [← hf]; exact Int.emod_nonneg _ (by decide)
    have hf1 : ff < 2147483647 := by rw [← hf]; exact Int.emod_lt_of_pos _ (by decide)
    refine ss_seq (ss_set (ex_op (ex_cb (exa_cons (ex_op (ex_op (ex_var rfl (ex_op (ex_op (ex_var rfl (ex_int ⟨_, _, rfl, rfl, opd_I (by walk_at "cnd") (.int _) (ex_int ⟨_, _, rfl, rfl, opd_I0 (.int _) ⟨_, _, rfl, rfl, opd_I (.inl ⟨by omega, by omega⟩) (.int _) (ex_op (ex_ixL (ex_bor rfl (ex_int ⟨_, _, _, ⟨_, _, rfl, rfl⟩, rfl, rfl, .inl rfl, (ex_int ⟨_, _, rfl, rfl, opd_I (by walk_at "cnd") (.int _) ⟨_, _, rfl, rfl, opd_I0 (.int _) (exa_nil ⟨[_], ⟨rfl, trivial⟩, cb_int (ex_int ⟨_, _, rfl, rfl, opd_I (by walk_at "cnd") (.int _) (st_v (by walk_at "set") ?_)⟩)⟩)⟩⟩)⟩))))⟩⟩)⟩)))))))))))
    refine ss_ret (ex_op (ex_cb (exa_cons (ex_op (ex_var rfl (ex_int ⟨_, _, rfl, rfl, opd_I (by walk_at "cnd") (.int _) (exa_nil ⟨[_], ⟨rfl, trivial⟩, cb_int (ex_var rfl ⟨_, _, rfl, rfl, opd_I hm (.int _) ?_⟩)⟩)⟩))))))
    exact ⟨_, _, ⟨rfl, rfl, _, rfl, rfl⟩, ⟨rfl, rfl⟩, hQ _ _ ⟨_, _, _, ha, rfl⟩ (Int.emod_nonneg _ (by omega)) (Int.emod_lt_of_pos _ hm)⟩
end
end K21

set_option Elab.async false
set_option linter.all false
set_option maxRecDepth 100000
set_option maxHeartbeats 4000001
namespace K21
open PySem L2 LamX NdefX PyProof.Rows GenW Pl
local macro_rules | `(tactic| walk_at "set") => `(tactic| first | (dsimp only [putOs, putO, List.getElem?_cons_zero, List.getElem?_cons_succ, List.set_cons_zero, List.set_cons_succ]; done) | (dsimp only [putOs, putO, List.getElem?_cons_zero, List.getElem?_cons_succ, List.set_cons_zero, List.set_cons_succ]; exact rfl) | exact rfl)
local macro_rules | `(tactic| walk_at "setn") => `(tactic| (intro _; first | (dsimp only [putOs, putO, List.getElem?_cons_zero, List.getElem?_cons_succ, List.set_cons_zero, List.set_cons_succ]; done) | (dsimp only [putOs, putO, List.getElem?_cons_zero, List.getElem?_cons_succ, List.set_cons_zero, List.set_cons_succ]; exact rfl) | exact rfl))
local macro_rules | `(tactic| walk_at "cnd") => `(tactic| first | assumption | omega | decide | exact ⟨by omega, by decide⟩ | exact Or.inr ⟨by decide, by decide⟩ | exact Or.inl ⟨by decide, by decide⟩ | exact ⟨by decide, by decide, by decide⟩)
local macro_rules | `(tactic| walk_at "len") => `(tactic| first | exact Nat.le_of_ble_eq_true rfl | (simp; done) | omega)

/-- the lambda in return f(.., key = lambda ..) -/
def lamR (b : List Stmt) : Arguments × Expr × Scope := match b with
  | [.Return (some (.Call _ _ [⟨_, .Lambda p b sc _, _⟩] _)) _] => (p, b, sc)
  | _ => (⟨[], [], none, [], [], none, []⟩, .Constant .none 0 ⟨0, 0, 0, 0⟩, ⟨.function, [], false, false, []⟩)
def F_set_order : FS := fun as Q => ∃ rows : List (List Int), as = [.val (.list (tR rows))] ∧ Q (.new (.lst (tR (ordR rows)))) []
section
variable {P : Program} {w : World} {K : PySem.W.Frag} {mg : Str → Option Value} {base : Heap} {T : List NTab}
theorem ok_set_order (c : Al K mg base ds fr (ts.map (·.1))) (glo : PySem.W.nsIn K mainGlobals "set_order" = some (some (.ref (He.ga K "set_order")))) : Ok P w K mg base 3 "set_order" ["sets"] (spOf K (tabsOf K ts) F_set_order) := by
  have nd := sc_set_order.nd
  refine ok_ofC c (.head _) (.head _) (fun _ _ _ _ _ _ us hl => match us, hl with | [_], _ => rfl) sc_set_order (fun as Q h => by obtain ⟨_, rfl, _⟩ := h; rfl) glo fun f cc PP A outer s H E htab hB hr as Q qs hF hq => ?_
  obtain ⟨rows, rfl, hQ⟩ := hF
  have eT : tabsOf K ts = [(PP, fun (_ _ : Nat) => ("set_order.<locals>.<lambda>" : Str))] := by
    show [(((PySem.W.tabIn K "set_order").getD (0, 0)).2, fun (_ _ : Nat) => ("set_order.<locals>.<lambda>" : Str))] = _
    rw [htab]
    rfl
  have hT : (PP, fun (_ _ : Nat) => ("set_order.<locals>.<lambda>" : Str)) ∈ tabsOf K ts := by rw [eT]; exact .head _
  have hTu : ∀ p ∈ tabsOf K ts, p.1 = PP → p.2 = fun (_ _ : Nat) => ("set_order.<locals>.<lambda>" : Str) := fun p hp _ => by
    rw [eT] at hp
    have : p = (PP, fun (_ _ : Nat) => ("set_order.<locals>.<lambda>" : Str)) := by simpa using hp
    rw [this]
  refine ⟨_, (pss_one (ps_ret (pe_callBK (crk_sortKey (T := tabsOf K ts) hr (kc_lam (te := tTup (tCons (tCB (Pl.rLen K) (tCons (tVar 0) tNil)) (tCons (tVar 0) tNil))) (a := "row") (qual := "set_order.<locals>.<lambda>") (params := (lamR (defBody (top 1))).1) (body := (lamR (defBody (top 1))).2.1) (scope := (lamR (defBody (top 1))).2.2) (nscope_by (by decide +kernel)) (fun _ _ _ _ _ => rfl) fun A outer s H f c' hr => (pe_tup (pa_cons (pe_callB call_len rfl (c.fr _ (.tail _ (.head _))) PySem.boot_len (pa_cons (pv 0) pa_nil)) (pa_cons (pv 0) pa_nil))))) rfl (c.fr _ (.head _)) PyProof.Rows.boot_sorted (pa_cons (pv 0) pa_nil) (pk_cons (pe_lam hB rfl hT rfl hTu (by decide +kernel)) pk_nil)))), ?_⟩
  obtain rfl : qs = [] := by simpa [owns] using hq
  show Ss K _ _ [.val _] _
  refine ss_ret (ex_sortLam (ex_var rfl ⟨_, kRow, rfl, imm_tR rows, alike_kRows rows, sortable_kRows rows, fun d hd => ?_, fun d hd => ?_, ?_⟩))
  · obtain ⟨r, _, rfl⟩ := List.mem_map.mp hd
    exact ⟨by rw [depth_kRow]; decide, imm_kRow r⟩
  · obtain ⟨r, _, rfl⟩ := List.mem_map.mp hd
    exact ex_tup (exa_cons (ex_cb (exa_cons (ex_var rfl (exa_nil ⟨[_], ⟨rfl, trivial⟩, cb_lenT (exa_cons (ex_var rfl (exa_nil ⟨[_, _], ⟨rfl, rfl, trivial⟩, by walk_at "len", rfl⟩)))⟩)))))
  · rw [sort_tR]
    exact ⟨[], _, rfl, ⟨imm_tR _, rfl⟩, hQ⟩
end
end K21

set_option Elab.async false
set_option linter.all false
set_option maxRecDepth 100000
set_option maxHeartbeats 4000001
namespace K21
open PySem L2 LamX NdefX PyProof.Rows GenW Pl
local macro_rules | `(tactic| walk_at "set") => `(tactic| first | (dsimp only [putOs, putO, List.getElem?_cons_zero, List.getElem?_cons_succ, List.set_cons_zero, List.set_cons_succ]; done) | (dsimp only [putOs, putO, List.getElem?_cons_zero, List.getElem?_cons_succ, List.set_cons_zero, List.set_cons_succ]; exact rfl) | exact rfl)
local macro_rules | `(tactic| walk_at "setn") => `(tactic| (intro _; first | (dsimp only [putOs, putO, List.getElem?_cons_zero, List.getElem?_cons_succ, List.set_cons_zero, List.set_cons_succ]; done) | (dsimp only [putOs, putO, List.getElem?_cons_zero, List.getElem?_cons_succ, List.set_cons_zero, List.set_cons_succ]; exact rfl) | exact rfl))
local macro_rules | `(tactic| walk_at "cnd") => `(tactic| first | assumption | omega | decide | exact ⟨by omega, by decide⟩ | exact Or.inr ⟨by decide, by decide⟩ | exact Or.inl ⟨by decide, by decide⟩ | exact ⟨by decide, by decide, by decide⟩)
local macro_rules | `(tactic| walk_at "len") => `(tactic| first | exact Nat.le_of_ble_eq_true rfl | (simp; done) | omega)

def diffR (sets : List (List Int)) : List (List Int) := ordR (dedup (sets.map asc))
def F_different_sets : FS := fun as Q => ∃ sets : List (List Int), (as = [.val (.list (tR sets))] ∨ as = [.val (.tuple (tR sets))]) ∧ sets.length ≤ 1000 ∧ (∀ r ∈ sets, r.length < 64) ∧ Q (.new (.lst (tR (diffR sets)))) []
def inRow (rows : List (List Int)) (x : Int) (i : Nat) : Bool := decide (x ∈ rows.getD i [])
def maskN (rows : List (List Int)) (x : Int) : Nat := bits (inRow rows x) rows.length
def F_meeting_masks : FS := fun as Q => ∃ rows : List (List Int), as = [.val (.list (tR rows))] ∧ rows.length ≤ 1000 ∧ (∀ r ∈ rows, r.length < 64) ∧
  ∀ kvs : List (Key × D), (∀ x, (∃ r ∈ rows, x ∈ r) → valD kvs (.inl x) = some (.int (maskN rows x))) → (∀ p ∈ kvs, imm p.2 = true) → Q (.new (.dK kvs)) []
/-- keys of a row -/
def kyR (r : List Int) : List Key := r.map Sum.inl
theorem kyR_inj {a b : List Int} (h : kyR a = kyR b) : a = b := (List.map_inj_right fun _ _ h => Sum.inl.inj h).mp h
theorem kyR_D (r : List Int) : (kyR r).map keyD = r.map .int := by
  unfold kyR
  rw [List.map_map]
  rfl
theorem map_insN (L : List (List Int)) (r : List Int) : (insN L r).map kyR = insN (L.map kyR) (kyR r) := by
  unfold insN
  have : kyR r ∈ L.map kyR ↔ r ∈ L := by
    rw [List.mem_map]
    exact ⟨fun ⟨x, hx, e⟩ => kyR_inj e ▸ hx, fun h => ⟨r, h, rfl⟩⟩
  by_cases h : r ∈ L
  · rw [if_pos h, if_pos (this.mpr h)]
  · rw [if_neg h, if_neg fun z => h (this.mp z), List.map_append]
    rfl
/-- the masks behind k rows and the members r of the next one -/
def Gm (rows : List (List Int)) (k : Nat) (r : List Int) (kvs : List (Key × D)) : Prop := ∀ x : Int,
  (valD kvs (.inl x)).getD (.int 0) = .int (((bits (inRow rows x) k) ||| (if x ∈ r then 2 ^ k else 0) : Nat) : Int) ∧ (((∃ i, i < k ∧ inRow rows x i = true) ∨ x ∈ r) → ∃ d, valD kvs (.inl x) = some d)
theorem Gm.start (rows : List (List Int)) : Gm rows 0 [] [] := fun x => ⟨by simp [valD, bits], fun h => by
  rcases h with ⟨i, h, _⟩ | h
  · exact absurd h (Nat.not_lt_zero _)
  · cases h⟩
theorem Gm.next {rows : List (List Int)} {k : Nat} {r : List Int} {kvs : List (Key × D)} (hr : rows[k]? = some r) (h : Gm rows k r kvs) : Gm rows (k + 1) [] kvs := fun x => by
  obtain ⟨h1, h2⟩ := h x
  have e : inRow rows x k = decide (x ∈ r) := by
    unfold inRow
    rw [List.getD_eq_getElem?_getD, hr]
    rfl
  refine ⟨?_, fun h3 => h2 ?_⟩
  · rw [h1]
    congr 2
    rw [if_neg (List.not_mem_nil), Nat.or_zero]
    show _ = bits (inRow rows x) k + (if inRow rows x k = true then 2 ^ k else 0)
    have hl := bits_lt (inRow rows x) k
    by_cases hx : x ∈ r
    · rw [if_pos hx, if_pos (by rw [e]; exact decide_eq_true hx)]
      have := Nat.two_pow_add_eq_or_of_lt hl 1
      rw [Nat.mul_one] at this
      rw [Nat.or_comm, ← this, Nat.add_comm]
    · rw [if_neg hx, if_neg (by rw [e]; simpa using hx), Nat.or_zero, Nat.add_zero]
  · rcases h3 with ⟨i, hi, hb⟩ | h3
    · by_cases hik : i = k
      · subst hik
        rw [e] at hb
        exact .inr (of_decide_eq_true hb)
      · exact .inl ⟨i, by omega, hb⟩
    · cases h3
theorem Gm.put {rows : List (List Int)} {k : Nat} {r : List Int} {m : Int} {kvs : List (Key × D)} (h : Gm rows k r kvs) : Gm rows k (r ++ [m]) (putD kvs (.inl m) (.int ((((bits (inRow rows m) k) ||| (if m ∈ r then 2 ^ k else 0)) ||| 2 ^ k : Nat) : Int))) := fun x => by
  obtain ⟨h1, h2⟩ := h x
  rw [valD_put]
  by_cases hx : x = m
  · subst hx
    rw [if_pos rfl]
    refine ⟨?_, fun _ => ⟨_, rfl⟩⟩
    have hm : x ∈ r ++ [x] := List.mem_append_right _ List.mem_cons_self
    rw [if_pos hm, Option.getD_some]
    congr 2
    split
    · rw [Nat.or_assoc, Nat.or_self]
    · rw [Nat.or_zero]
  · have n : ¬ (Sum.inl x : Key) = .inl m := fun z => hx (Sum.inl.inj z)
    have em : x ∈ r ++ [m] ↔ x ∈ r := by simp [hx]
    rw [if_neg n]
    refine ⟨?_, fun h3 => h2 (h3.imp_right em.mp)⟩
    rw [h1]
    by_cases hr : x ∈ r
    · rw [if_pos hr, if_pos (em.mpr hr)]
    · rw [if_neg hr, if_neg fun z => hr (em.mp z)]
section
variable {P : Program} {w : World} {K : PySem.W.Frag} {mg : Str → Option Value} {base : Heap} {T : List NTab}
theorem ok_different_sets (c : Al K mg base ds fr (ts.map (·.1))) (h_set_order : Ok P w K mg base 3 "set_order" ["sets"] (spOf K T F_set_order)) : Ok P w K mg base 4 "different_sets" ["sets"] (spOf K T F_different_sets) := by
  have nd := sc_different_sets.nd
  refine ok_of c (.tail _ (.head _)) (fun _ _ _ _ _ _ us hl => match us, hl with | [_], _ => rfl) sc_different_sets (fun as Q h => by obtain ⟨_, h1 | h1, _⟩ := h <;> (rw [h1]; rfl)) fun f cdv A outer s H E hr as Q qs hF hq => ?_
  obtain ⟨sets, hor, hlen, hrow, hQ⟩ := hF
  obtain rfl : qs = [] := by rcases hor with e | e <;> (subst e; simpa [owns] using hq)
  rcases hor with rfl | rfl
  · refine ⟨_, (pss_cons (ps_set (i := 1) nd rfl (Or.inl rfl) pe_dnewT)
      (pss_cons (ps_for PassesOwn.never rfl (pi_list (pv 0)) (pg_name (i := 2) nd rfl (Or.inl rfl)) (pss_one (ps_dput (hu_of hr) (pv 1) (pe_callTy call_tuple_of rfl (c.fr _ (.tail _ (.tail _ (.tail _ (.head _))))) PyProof.Rows.boot_tuple (pa_cons (pe_callB (cr_sortedSet rfl) rfl (c.fr _ (.head _)) PyProof.Rows.boot_sorted (pa_cons (pe_callTy (cr_setT rfl) rfl (c.fr _ (.tail _ (.tail _ (.tail _ (.tail _ (.head _)))))) PyProof.Rows.boot_set (pa_cons (pv 2) pa_nil)) pa_nil)) pa_nil)) pe_bl rfl)))
      (pss_one (ps_ret (pe_f h_set_order hr rfl (pa_cons (pe_callTy (call_list_dT rfl) rfl (c.fr _ (.tail _ (.tail _ (.head _)))) PyProof.Rows.boot_list (pa_cons (pv 1) pa_nil)) pa_nil)))))), ?_⟩
    show Ss K T _ [.val _, .no, .no] _
    refine ss_seq (ss_set (ex_dnewT (st_n (by walk_at "len") (by walk_at "setn") fun p => ?_)))
    refine ss_seq (ss_forL (ex_var rfl ⟨_, rfl, fun i δ => ∃ kvs x, δ = [.val (.list (tR sets)), .own p (.dT kvs), x] ∧ kvs.map (·.1) = (dedup ((sets.take i).map asc)).map kyR ∧ kvs.length ≤ i ∧ (∀ q ∈ kvs, imm q.2 = true), ⟨[], .no, rfl, rfl, Nat.le_refl _, (fun q hq => nomatch hq)⟩, fun i d δ2 hd hW => ?_, fun δ2 hW => ?_⟩))
    · obtain ⟨kvs, x, rfl, hk, hl, him⟩ := hW
      obtain ⟨r, hr, rfl⟩ : ∃ r, sets[i]? = some r ∧ tI r = d := by
        rw [tR, List.getElem?_map] at hd
        cases e : sets[i]? with
        | none => rw [e] at hd; cases hd
        | some r => rw [e] at hd; exact ⟨r, rfl, Option.some.inj hd⟩
      have hi : i < sets.length := (List.getElem?_eq_some_iff.mp hr).1
      refine gt_name ?_
      refine ss_dputT (ex_bl ⟨_, rfl, ⟨_, _, rfl⟩, ex_sortSet (ex_var rfl ⟨r, rfl, hrow r (List.mem_of_getElem? hr), fun ms h1 h2 h3 => ⟨kyR ms, p, kvs, ?_, rfl, by omega, ?_⟩⟩)⟩)
      · show PyData.list _ = PyData.list _
        rw [kyR_D]
      · obtain rfl : ms = asc r := asc_of h1 h2
        refine ⟨_, _, rfl, ?_, ?_, ?_⟩
        · rw [putD_keys, hk, List.take_add_one, hr]
          show _ = (dedup (((sets.take i) ++ [r]).map asc)).map kyR
          rw [List.map_append, List.map_singleton, dedup_snoc, map_insN]
        · have h5 := congrArg List.length (putD_keys kvs (kyR (asc r)) (.bool true))
          rw [List.length_map] at h5
          have h6 := len_insN (L := kvs.map (·.1)) (r := kyR (asc r))
          rw [List.length_map] at h6
          omega
        · intro q hq
          unfold putD at hq
          split at hq
          · obtain ⟨y, hy, e⟩ := List.mem_map.mp hq
            subst e
            split
            · rfl
            · exact him y hy
          · rcases List.mem_append.mp hq with z | z
            · exact him q z
            · rw [List.mem_singleton.mp z]; rfl
    · obtain ⟨kvs, x, rfl, hk, hl, him⟩ := hW
      have eL : (tR sets).length = sets.length := List.length_map _
      rw [eL, List.take_length] at hk
      have e1 : (kvs.map fun kv => PyData.tuple (kv.1.map keyD)) = tR (dedup (sets.map asc)) := by
        have : (kvs.map fun kv => PyData.tuple (kv.1.map keyD)) = (kvs.map (·.1)).map fun k => PyData.tuple (k.map keyD) := by rw [List.map_map]; rfl
        rw [this, hk, List.map_map]
        unfold tR
        refine List.map_congr_left fun r _ => ?_
        show PyData.tuple ((kyR r).map keyD) = _
        rw [kyR_D]
        rfl
      refine ss_ret (ex_call0 (exa_cons (ex_fz (ex_listDT rfl ⟨_, rfl, (exa_nil ⟨[.val _], ⟨rfl, trivial⟩, ⟨_, by rw [e1], ?_⟩⟩)⟩))))
      exact ⟨[], _, rfl, ⟨imm_tR _, rfl⟩, hQ⟩

  · refine ⟨_, (pss_cons (ps_set (i := 1) nd rfl (Or.inl rfl) pe_dnewT)
      (pss_cons (ps_for PassesOwn.never rfl (pi_tup (pv 0)) (pg_name (i := 2) nd rfl (Or.inl rfl)) (pss_one (ps_dput (hu_of hr) (pv 1) (pe_callTy call_tuple_of rfl (c.fr _ (.tail _ (.tail _ (.tail _ (.head _))))) PyProof.Rows.boot_tuple (pa_cons (pe_callB (cr_sortedSet rfl) rfl (c.fr _ (.head _)) PyProof.Rows.boot_sorted (pa_cons (pe_callTy (cr_setT rfl) rfl (c.fr _ (.tail _ (.tail _ (.tail _ (.tail _ (.head _)))))) PyProof.Rows.boot_set (pa_cons (pv 2) pa_nil)) pa_nil)) pa_nil)) pe_bl rfl)))
      (pss_one (ps_ret (pe_f h_set_order hr rfl (pa_cons (pe_callTy (call_list_dT rfl) rfl (c.fr _ (.tail _ (.tail _ (.head _)))) PyProof.Rows.boot_list (pa_cons (pv 1) pa_nil)) pa_nil)))))), ?_⟩
    show Ss K T _ [.val _, .no, .no] _
    refine ss_seq (ss_set (ex_dnewT (st_n (by walk_at "len") (by walk_at "setn") fun p => ?_)))
    refine ss_seq (ss_forT (ex_var rfl ⟨_, rfl, fun i δ => ∃ kvs x, δ = [.val (.tuple (tR sets)), .own p (.dT kvs), x] ∧ kvs.map (·.1) = (dedup ((sets.take i).map asc)).map kyR ∧ kvs.length ≤ i ∧ (∀ q ∈ kvs, imm q.2 = true), ⟨[], .no, rfl, rfl, Nat.le_refl _, (fun q hq => nomatch hq)⟩, fun i d δ2 hd hW => ?_, fun δ2 hW => ?_⟩))
    · obtain ⟨kvs, x, rfl, hk, hl, him⟩ := hW
      obtain ⟨r, hr, rfl⟩ : ∃ r, sets[i]? = some r ∧ tI r = d := by
        rw [tR, List.getElem?_map] at hd
        cases e : sets[i]? with
        | none => rw [e] at hd; cases hd
        | some r => rw [e] at hd; exact ⟨r, rfl, Option.some.inj hd⟩
      have hi : i < sets.length := (List.getElem?_eq_some_iff.mp hr).1
      refine gt_name ?_
      refine ss_dputT (ex_bl ⟨_, rfl, ⟨_, _, rfl⟩, ex_sortSet (ex_var rfl ⟨r, rfl, hrow r (List.mem_of_getElem? hr), fun ms h1 h2 h3 => ⟨kyR ms, p, kvs, ?_, rfl, by omega, ?_⟩⟩)⟩)
      · show PyData.list _ = PyData.list _
        rw [kyR_D]
      · obtain rfl : ms = asc r := asc_of h1 h2
        refine ⟨_, _, rfl, ?_, ?_, ?_⟩
        · rw [putD_keys, hk, List.take_add_one, hr]
          show _ = (dedup (((sets.take i) ++ [r]).map asc)).map kyR
          rw [List.map_append, List.map_singleton, dedup_snoc, map_insN]
        · have h5 := congrArg List.length (putD_keys kvs (kyR (asc r)) (.bool true))
          rw [List.length_map] at h5
          have h6 := len_insN (L := kvs.map (·.1)) (r := kyR (asc r))
          rw [List.length_map] at h6
          omega
        · intro q hq
          unfold putD at hq
          split at hq
          · obtain ⟨y, hy, e⟩ := List.mem_map.mp hq
            subst e
            split
            · rfl
            · exact him y hy
          · rcases List.mem_append.mp hq with z | z
            · exact him q z
            · rw [List.mem_singleton.mp z]; rfl
    · obtain ⟨kvs, x, rfl, hk, hl, him⟩ := hW
      have eL : (tR sets).length = sets.length := List.length_map _
      rw [eL, List.take_length] at hk
      have e1 : (kvs.map fun kv => PyData.tuple (kv.1.map keyD)) = tR (dedup (sets.map asc)) := by
        have : (kvs.map fun kv => PyData.tuple (kv.1.map keyD)) = (kvs.map (·.1)).map fun k => PyData.tuple (k.map keyD) := by rw [List.map_map]; rfl
        rw [this, hk, List.map_map]
        unfold tR
        refine List.map_congr_left fun r _ => ?_
        show PyData.tuple ((kyR r).map keyD) = _
        rw [kyR_D]
        rfl
      refine ss_ret (ex_call0 (exa_cons (ex_fz (ex_listDT rfl ⟨_, rfl, (exa_nil ⟨[.val _], ⟨rfl, trivial⟩, ⟨_, by rw [e1], ?_⟩⟩)⟩))))
      exact ⟨[], _, rfl, ⟨imm_tR _, rfl⟩, hQ⟩

theorem ok_meeting_masks (c : Al K mg base ds fr (ts.map (·.1))) : Ok P w K mg base 1 "meeting_masks" ["rows"] (spOf K T F_meeting_masks) := by
  have nd := sc_meeting_masks.nd
  refine ok_of c (.tail _ (.tail _ (.head _))) (fun _ _ _ _ _ _ us hl => match us, hl with | [_], _ => rfl) sc_meeting_masks (fun as Q h => by obtain ⟨_, rfl, _⟩ := h; rfl) fun f cdv A outer s H E hr as Q qs hF hq => ?_
  obtain ⟨rows, rfl, hlen, hrow, hQ⟩ := hF
  refine ⟨_, (pss_cons (ps_set (i := 1) nd rfl (Or.inl rfl) pe_dnewK)
    (pss_cons (ps_for PassesOwn.never rfl (pi_enum rfl (c.fr _ (.tail _ (.tail _ (.tail _ (.tail _ (.tail _ (.head _))))))) (pa_cons (pv 0) pa_nil)) (pg_tup rfl (pgs_cons (pg_name (i := 2) nd rfl (Or.inl rfl)) (pgs_cons (pg_name (i := 3) nd rfl (Or.inl rfl)) pgs_nil))) (pss_one (ps_for PassesOwn.never rfl (pi_tup (pv 3)) (pg_name (i := 4) nd rfl (Or.inl rfl)) (pss_one (ps_dput (hu_of hr) (pv 1) (pv 4) (pe_op op_or (pe_dget2 (hu_of hr) (pv 1) (pv 4) pe_int ⟨rfl, rfl, rfl, rfl⟩) (pe_op op_shlW pe_int (pv 2))) rfl)))))
    (pss_one (ps_ret (pv 1))))), ?_⟩
  show Ss K T _ [.val _, .no, .no, .no, .no] _
  obtain rfl : qs = [] := by simpa [owns] using hq
  have get : ∀ {k : Nat} {d : D}, (tR rows)[k]? = some d → ∃ r, rows[k]? = some r ∧ d = tI r := fun {k d} hd => by
    rw [tR, List.getElem?_map] at hd
    cases e : rows[k]? with
    | none => rw [e] at hd; cases hd
    | some r => rw [e] at hd; exact ⟨r, rfl, (Option.some.inj hd).symm⟩
  refine ss_seq (ss_set (ex_dnewK (st_n (by walk_at "len") (by walk_at "setn") fun p => ?_)))
  refine ss_seq (ss_forE (exa_cons (ex_var rfl (exa_nil ⟨_, rfl, fun k δ => ∃ kvs x y z, δ = [.val (.list (tR rows)), .own p (.dK kvs), x, y, z] ∧ Gm rows k [] kvs ∧ kvs.length ≤ 64 * k ∧ (∀ q ∈ kvs, imm q.2 = true),
    ⟨[], .no, .no, .no, rfl, Gm.start rows, Nat.le_refl _, (fun q hq => nomatch hq)⟩, fun k d δ2 hd hW => ?_, fun δ2 hW => ?_⟩))))
  · obtain ⟨kvs, x, y, z, rfl, hG, hl, him⟩ := hW
    obtain ⟨r, hr, rfl⟩ := get hd
    have hk : k < rows.length := (List.getElem?_eq_some_iff.mp hr).1
    have hr64 := hrow r (List.mem_of_getElem? hr)
    show Ss K T _ [.val (.list (tR rows)), .own p (.dK kvs), .val (.int k), .val (tI r), z] _
    refine ss_forT (ex_var rfl ⟨r.map .int, rfl, fun j δ => ∃ kvs z, δ = [.val (.list (tR rows)), .own p (.dK kvs), .val (.int k), .val (tI r), z] ∧ Gm rows k (r.take j) kvs ∧ kvs.length ≤ 64 * k + j ∧ (∀ q ∈ kvs, imm q.2 = true),
      ⟨kvs, z, rfl, hG, hl, him⟩, fun j d δ2 hd hW => ?_, fun δ2 hW => ?_⟩)
    · obtain ⟨kvs, z, rfl, hG, hl, him⟩ := hW
      obtain ⟨m, hm, rfl⟩ : ∃ m, r[j]? = some m ∧ PyData.int m = d := by
        rw [List.getElem?_map] at hd
        cases e : r[j]? with
        | none => rw [e] at hd; cases hd
        | some m => rw [e] at hd; exact ⟨m, rfl, Option.some.inj hd⟩
      have hj : j < r.length := (List.getElem?_eq_some_iff.mp hm).1
      refine gt_name ?_
      have hv := (hG m).1
      have b1 : Builtin.Int.intBits 1 = 1 := by decide
      refine ss_dputK (ex_op (ex_dget2 ⟨⟨_, _, rfl⟩, ex_var rfl ⟨.inl m, rfl, ex_int ⟨_, _, _, rfl, rfl, ex_op (ex_int (ex_var rfl ⟨_, _, rfl, rfl, opd_I ⟨by omega, by rw [b1]; omega⟩ (.int _) ⟨_, _, hv.symm, rfl, opd_I0 (.int _) ⟨_, rfl, ⟨_, _, rfl⟩, ex_var rfl ⟨.inl m, _, _, rfl, rfl, by omega, ?_⟩⟩⟩⟩))⟩⟩⟩))
      have e2 : Builtin.bitOr (((bits (inRow rows m) k) ||| (if m ∈ r.take j then 2 ^ k else 0) : Nat) : Int) (1 * 2 ^ ((k : Int)).toNat) = ((((bits (inRow rows m) k) ||| (if m ∈ r.take j then 2 ^ k else 0)) ||| 2 ^ k : Nat) : Int) := by
        rw [Int.one_mul, Int.toNat_natCast]
        have : (2 : Int) ^ k = ((2 ^ k : Nat) : Int) := by simp
        rw [this, int_or]
      rw [e2]
      refine ⟨_, _, rfl, ?_, ?_, ?_⟩
      · rw [List.take_add_one, hm]
        exact hG.put
      · have h5 := congrArg List.length (putD_keys kvs (.inl m) (.int ((((bits (inRow rows m) k) ||| (if m ∈ r.take j then 2 ^ k else 0)) ||| 2 ^ k : Nat) : Int)))
        rw [List.length_map] at h5
        have h6 := len_insN (L := kvs.map (·.1)) (r := (Sum.inl m : Key))
        rw [List.length_map] at h6
        omega
      · intro q hq
        unfold putD at hq
        split at hq
        · obtain ⟨y, hy, e⟩ := List.mem_map.mp hq
          subst e
          split
          · rfl
          · exact him y hy
        · rcases List.mem_append.mp hq with z | z
          · exact him q z
          · rw [List.mem_singleton.mp z]; rfl
    · obtain ⟨kvs, z, rfl, hG, hl, him⟩ := hW
      rw [List.length_map] at hG hl
      rw [List.take_length] at hG
      exact ⟨kvs, _, _, z, rfl, hG.next hr, by omega, him⟩
  · obtain ⟨kvs, x, y, z, rfl, hG, hl, him⟩ := hW
    have eL : (tR rows).length = rows.length := List.length_map _
    rw [eL] at hG
    refine ss_ret (ex_bor rfl ⟨[], _, rfl, ⟨Nat.le_refl _, _, _, rfl, him, rfl⟩, hQ kvs (fun x hx => ?_) him⟩)
    obtain ⟨r, hr, hx⟩ := hx
    obtain ⟨i, hi⟩ := List.mem_iff_getElem?.mp hr
    obtain ⟨h1, h2⟩ := hG x
    obtain ⟨d, hd⟩ := h2 (.inl ⟨i, (List.getElem?_eq_some_iff.mp hi).1, by unfold inRow; rw [List.getD_eq_getElem?_getD, hi]; exact decide_eq_true hx⟩)
    rw [hd] at h1 ⊢
    have h1 : d = _ := h1
    rw [h1, if_neg (List.not_mem_nil), Nat.or_zero]
    rfl
end
end K21

set_option Elab.async false
set_option linter.all false
set_option maxRecDepth 100000
set_option maxHeartbeats 4000001
namespace K21
open PySem L2 LamX NdefX PyProof.Rows GenW Pl
local macro_rules | `(tactic| walk_at "set") => `(tactic| first | (dsimp only [putOs, putO, List.getElem?_cons_zero, List.getElem?_cons_succ, List.set_cons_zero, List.set_cons_succ]; done) | (dsimp only [putOs, putO, List.getElem?_cons_zero, List.getElem?_cons_succ, List.set_cons_zero, List.set_cons_succ]; exact rfl) | exact rfl)
local macro_rules | `(tactic| walk_at "setn") => `(tactic| (intro _; first | (dsimp only [putOs, putO, List.getElem?_cons_zero, List.getElem?_cons_succ, List.set_cons_zero, List.set_cons_succ]; done) | (dsimp only [putOs, putO, List.getElem?_cons_zero, List.getElem?_cons_succ, List.set_cons_zero, List.set_cons_succ]; exact rfl) | exact rfl))
local macro_rules | `(tactic| walk_at "cnd") => `(tactic| first | assumption | omega | decide | exact ⟨by omega, by decide⟩ | exact Or.inr ⟨by decide, by decide⟩ | exact Or.inl ⟨by decide, by decide⟩ | exact ⟨by decide, by decide, by decide⟩)
local macro_rules | `(tactic| walk_at "len") => `(tactic| first | exact Nat.le_of_ble_eq_true rfl | (simp; done) | omega)

section
variable {K : PySem.W.Frag} {T : List NTab} {δ : List Sl} {P : R → List Sl → Prop} {E : Es} {t u : TS} {tt : TT}
theorem ss_mid (M : List Sl → Prop) (h1 : Ss K T t δ { E with nx := M }) (h2 : ∀ δ1, M δ1 → Ss K T u δ1 E) : Ss K T (tSeq t u) δ E := ss_seq (h1.imp h2 (fun _ _ h => h) (fun _ h => h) (fun _ h => h))
theorem et_mid {P' : Bool → List Sl → Prop} (M : List Sl → Prop) (h1 : ExT K T tt δ fun _ => M) (h2 : ∀ b δ1, M δ1 → P' b δ1) : ExT K T tt δ P' := h1.imp h2
end
theorem get_ints {ns : List Int} {k : Nat} {d : D} (h : (ns.map PyData.int)[k]? = some d) : ∃ z, ns[k]? = some z ∧ d = .int z := by
  rw [List.getElem?_map] at h
  cases e : ns[k]? with
  | none => rw [e] at h; cases h
  | some z => rw [e] at h; exact ⟨z, rfl, (Option.some.inj h).symm⟩
theorem at_mem {ns : List Int} {k : Int} (h0 : 0 ≤ k) (h1 : k < ns.length) : ∃ z ∈ ns, atI (ns.map PyData.int) k = some (.int z) := by
  have h2 : k.toNat < ns.length := by omega
  refine ⟨ns[k.toNat], List.getElem_mem _, ?_⟩
  unfold atI ixN
  rw [List.length_map, if_pos h0, if_pos h1]
  show (ns.map PyData.int)[k.toNat]? = _
  rw [List.getElem?_map, List.getElem?_eq_getElem h2]
  rfl
theorem at_memR {rows : List (List Int)} {k : Int} (h0 : 0 ≤ k) (h1 : k < rows.length) : ∃ z ∈ rows, atI (tR rows) k = some (tI z) := by
  have h2 : k.toNat < rows.length := by omega
  refine ⟨rows[k.toNat], List.getElem_mem _, ?_⟩
  unfold atI ixN
  rw [tR, List.length_map, if_pos h0, if_pos h1]
  show (rows.map tI)[k.toNat]? = _
  rw [List.getElem?_map, List.getElem?_eq_getElem h2]
  rfl
theorem PU.imm {u : OV} (h : PU u) : OvImm u := by
  obtain ⟨a, b, d, _, rfl⟩ := h
  rfl
def F__law_integers : FS := fun as Q => ∃ (u : OV) (m : Int), as = [.own u, .val (.int m)] ∧ PU u ∧ 0 ≤ m ∧ m ≤ 12 ∧ ∀ u' (ns : List Int), PU u' → Asc ns → (ns.length : Int) = m → Q (.new (.lst (ns.map .int))) [u']
def F__law_set : FS := fun as Q => ∃ (u : OV) (iz : List Int), as = [.own u, .val (.list (iz.map .int))] ∧ PU u ∧ iz.length ≤ 12 ∧ ∀ u' (row : List Int), PU u' → (∀ x ∈ row, x ∈ iz) → row.length ≤ 13 → Q (.val (tI row)) [u']
def F__law_sets : FS := fun as Q => ∃ (sc iz : List Int) (m : Int), as = [.val (.list (sc.map .int)), .val (.list (iz.map .int)), .val (.int m)] ∧ sc.length ≤ 1000 ∧ iz.length ≤ 12 ∧ 0 ≤ m ∧ m ≤ 12 ∧
  ∀ rows : List (List Int), (rows.length : Int) = m → (∀ r ∈ rows, r.length ≤ 13 ∧ ∀ x ∈ r, x ∈ iz) → Q (.new (.lst (tR rows))) []
section
variable {P : Program} {w : World} {K : PySem.W.Frag} {mg : Str → Option Value} {base : Heap} {T : List NTab}
theorem ok__law_integers (c : Al K mg base ds fr (ts.map (·.1))) (h__law_draw : Ok P w K mg base 1 "_law_draw" ["purse", "many"] (spOf K T F__law_draw)) : Ok P w K mg base 2 "_law_integers" ["purse", "many"] (spOf K T F__law_integers) := by
  have nd := sc__law_integers.nd
  refine ok_of c (.tail _ (.tail _ (.tail _ (.tail _ (.tail _ (.tail _ (.tail _ (.tail _ (.head _))))))))) (fun _ _ _ _ _ _ us hl => match us, hl with | [_, _], _ => rfl) sc__law_integers (fun as Q h => by obtain ⟨_, _, rfl, _⟩ := h; rfl) fun f cdv A outer s H E hr as Q qs hF hq => ?_
  obtain ⟨_, m, rfl, hu, hm0, hm, hQ⟩ := hF
  refine ⟨_, (pss_cons (ps_set (i := 2) nd rfl (Or.inl rfl) (pe_f h__law_draw hr rfl (pa_cons (pv 0) (pa_cons (pe_op op_add (pe_op op_pow pe_int pe_int) pe_int) pa_nil))))
    (pss_cons (ps_set (i := 3) nd rfl (Or.inl rfl) (pe_ix ix_list (pe_lst (pa_cons pe_int (pa_cons (pv 2) (pa_cons (pe_op op_sub pe_int (pv 2)) (pa_cons (pe_op op_sub pe_int (pv 1)) pa_nil))))) (pe_f h__law_draw hr rfl (pa_cons (pv 0) (pa_cons pe_int pa_nil))) (fun _ _ => rfl)))
    (pss_cons (ps_set (i := 4) nd rfl (Or.inl rfl) (pe_lst pa_nil))
    (pss_cons (ps_for PassesOwn.never rfl (pi_range1 rfl (c.fr _ (.tail _ (.tail _ (.tail _ (.tail _ (.tail _ (.tail _ (.tail _ (.tail _ (.head _)))))))))) (pa_cons (pv 1) pa_nil)) (pg_name (i := 5) nd rfl (Or.inl rfl)) (pss_cons (ps_set (i := 3) nd rfl (Or.inl rfl) (pe_op op_add (pe_op op_add (pv 3) pe_int) (pe_f h__law_draw hr rfl (pa_cons (pv 0) (pa_cons (pe_ix ix_list (pe_lst (pa_cons pe_int (pa_cons pe_int (pa_cons pe_int (pa_cons pe_int (pa_cons (pe_op op_pow pe_int pe_int) pa_nil)))))) (pe_f h__law_draw hr rfl (pa_cons (pv 0) (pa_cons pe_int pa_nil))) (fun _ _ => rfl)) pa_nil)))))
    (pss_one (ps_expr (pe_bm PySem.F.plainAttrs_list PySem.F.slot_list_append PySem.F.type_list_append mt_append (pv 4) (pa_cons (pv 3) pa_nil))))))
    (pss_one (ps_ret (pv 4))))))), ?_⟩
  obtain ⟨p, rfl⟩ : ∃ p, qs = [p] := by
    match qs, hq with
    | [p], _ => exact ⟨p, rfl⟩
  show Ss K T _ [.own _ _, .val _, .no, .no, .no, .no] _
  refine ss_seq (ss_set (ex_call (exa_cons (ex_bor rfl (exa_cons (ex_op (ex_op (ex_int (ex_int ⟨_, _, rfl, rfl, opd_I ⟨by decide, by decide, by decide⟩ (.int _) (ex_int ⟨_, _, rfl, rfl, opd_I0 (.int _) (exa_nil ⟨[.own _, .val _], [0], ⟨rfl, ⟨_, rfl⟩, rfl, trivial⟩, (by decide), ⟨_, _, rfl, hu, by decide, by decide, fun edge u1 hu1 he0 he1 => st_v (by walk_at "set") ?_⟩⟩)⟩)⟩)))))))))
  refine ss_seq (ss_set (ex_ixL (ex_lst (exa_cons (ex_int (exa_cons (ex_var rfl (exa_cons (ex_op (ex_int (ex_var rfl ⟨_, _, rfl, rfl, opd_I0 (.int _) (exa_cons (ex_op (ex_int (ex_var rfl ⟨_, _, rfl, rfl, opd_I0 (.int _) (exa_nil ⟨[_, _, _, _], ⟨rfl, rfl, rfl, rfl, trivial⟩, (by walk_at "len"), (ex_call (exa_cons (ex_bor rfl (exa_cons (ex_int (exa_nil ⟨[.own _, .val _], [0], ⟨rfl, ⟨_, rfl⟩, rfl, trivial⟩, (by decide), ⟨_, _, rfl, hu1, by decide, by decide, fun ix u2 hu2 h0 h1 => ?_⟩⟩))))))⟩)⟩))))⟩)))))))))))
  obtain ⟨pl, hpl⟩ := at_ints (ns := [0, edge, 0 - edge, 0 - m]) h0 h1
  refine ⟨_, _, _, rfl, rfl, hpl, .inl rfl, st_v (by walk_at "set") ?_⟩
  refine ss_seq (ss_set (ex_lst (exa_nil ⟨[], trivial, (by decide), (st_n (by walk_at "len") (by walk_at "setn") fun q => ?_)⟩)))
  refine ss_seq (ss_forR (exa_cons (ex_var rfl (exa_nil ⟨_, rfl, (by omega), (by omega), fun k δ => ∃ u' pl ns x, δ = [.own p u', .val (.int m), .val (.int edge), .val (.int pl), .own q (.lst (ns.map .int)), x] ∧ PU u' ∧ Asc ns ∧ ns.length = k ∧ (∀ x ∈ ns, x ≤ pl),
    ⟨u2, pl, [], .no, rfl, hu2, List.Pairwise.nil, rfl, fun x hx => nomatch hx⟩, (fun k δ2 hk hW => ?_), (fun δ2 hW => ?_)⟩))))
  · obtain ⟨u', pl, ns, x, rfl, hu', ha, hl, hx⟩ := hW
    show Ss K T _ [.own p u', .val (.int m), .val (.int edge), .val (.int pl), .own q (.lst (ns.map .int)), .val (.int k)] _
    refine ss_seq (ss_set (ex_op (ex_op (ex_var rfl (ex_int ⟨_, _, rfl, rfl, opd_I0 (.int _) (ex_call (exa_cons (ex_bor rfl (exa_cons (ex_ixL (ex_lst (exa_cons (ex_int (exa_cons (ex_int (exa_cons (ex_int (exa_cons (ex_int (exa_cons (ex_op (ex_int (ex_int ⟨_, _, rfl, rfl, opd_I ⟨by decide, by decide, by decide⟩ (.int _) (exa_nil ⟨[_, _, _, _, _], ⟨rfl, rfl, rfl, rfl, rfl, trivial⟩, (by walk_at "len"), (ex_call (exa_cons (ex_bor rfl (exa_cons (ex_int (exa_nil ⟨[.own _, .val _], [0], ⟨rfl, ⟨_, rfl⟩, rfl, trivial⟩, (by decide), ⟨_, _, rfl, hu', by decide, by decide, fun ix u3 hu3 h0 h1 => ?_⟩⟩))))))⟩)⟩))))))))))))))))))⟩)))))
    obtain ⟨g, hg, hga⟩ := at_mem (ns := [1, 1, 1, 5, 10 ^ Int.toNat 9]) h0 h1
    have hg0 : 0 < g ∧ g ≤ 10 ^ 13 := by
      simp only [List.mem_cons, List.not_mem_nil, or_false] at hg
      rcases hg with rfl | rfl | rfl | rfl | rfl <;> decide
    refine ⟨_, _, _, rfl, rfl, hga, .inl rfl, exa_nil ⟨[.own _, .val _], [0], ⟨rfl, ⟨_, rfl⟩, rfl, trivial⟩, (by decide), ⟨_, _, rfl, hu3, hg0.1, hg0.2, fun st u4 hu4 h0 h1 => ⟨_, _, rfl, rfl, opd_I0 (.int _) (st_v (by walk_at "set") ?_)⟩⟩⟩⟩
    refine ss_drop (ex_lm ⟨⟨_, _, rfl⟩, (exa_cons (ex_var rfl (exa_nil ⟨[_], _, _, ⟨rfl, trivial⟩, rfl, lm_append ?_ ?_⟩)))⟩)
    · rw [List.length_map]; omega
    · rw [show ns.map PyData.int ++ [.int (pl + 1 + st)] = (ns ++ [pl + 1 + st]).map .int from by rw [List.map_append]; rfl]
      refine ⟨u4, _, ns ++ [pl + 1 + st], _, rfl, hu4, List.pairwise_append.mpr ⟨ha, List.pairwise_singleton _ _, fun a ha b hb => ?_⟩, by simp [hl], fun x hx' => ?_⟩
      · have := hx a ha
        have e : b = pl + 1 + st := by simpa using hb
        omega
      · rcases List.mem_append.mp hx' with z | z
        · have := hx x z
          omega
        · have e : x = pl + 1 + st := by simpa using z
          omega
  · obtain ⟨u', pl, ns, x, rfl, hu', ha, hl, hx⟩ := hW
    exact ss_ret (ex_bor rfl ⟨_, _, ⟨rfl, PU.imm hu', _, rfl, rfl⟩, ⟨Nat.le_of_ble_eq_true rfl, _, _, rfl, imm_ints ns, rfl⟩, hQ u' ns hu' ha (by omega)⟩)
theorem ok__law_set (c : Al K mg base ds fr (ts.map (·.1))) (h__law_draw : Ok P w K mg base 1 "_law_draw" ["purse", "many"] (spOf K T F__law_draw)) : Ok P w K mg base 2 "_law_set" ["purse", "integers"] (spOf K T F__law_set) := by
  have nd := sc__law_set.nd
  refine ok_of c (.tail _ (.tail _ (.tail _ (.tail _ (.tail _ (.tail _ (.tail _ (.tail _ (.tail _ (.head _)))))))))) (fun _ _ _ _ _ _ us hl => match us, hl with | [_, _], _ => rfl) sc__law_set (fun as Q h => by obtain ⟨_, _, rfl, _⟩ := h; rfl) fun f cdv A outer s H E hr as Q qs hF hq => ?_
  obtain ⟨_, iz, rfl, hu, hl, hQ⟩ := hF
  refine ⟨_, (pss_cons (ps_set (i := 2) nd rfl (Or.inl rfl) (pe_lst pa_nil))
    (pss_cons (ps_for PassesOwn.never rfl (pi_list (pv 1)) (pg_name (i := 3) nd rfl (Or.inl rfl)) (pss_one (ps_if (pt_cmpR op_eq (pe_f h__law_draw hr rfl (pa_cons (pv 0) (pa_cons pe_int pa_nil))) pe_int (nomark _)) (pss_one (ps_expr (pe_bm PySem.F.plainAttrs_list PySem.F.slot_list_insert PySem.F.type_list_insert mt_insert (pv 2) (pa_cons (pe_f h__law_draw hr rfl (pa_cons (pv 0) (pa_cons (pe_op op_add (pe_callB call_len rfl (c.fr _ (.tail _ (.head _))) PySem.boot_len (pa_cons (pv 2) pa_nil)) pe_int) pa_nil))) (pa_cons (pv 3) pa_nil))))) pss_nil)))
    (pss_cons (ps_if (PW.pt (pw_and (pt_cmpR (op_eqD hr.units) (pv 2) (pe_lst pa_nil) (nomark _)) (pw_and (pt_cmpR (op_neD hr.units) (pv 1) (pe_lst pa_nil) (nomark _)) (pw_and1 (pt_cmpR op_gt (pe_f h__law_draw hr rfl (pa_cons (pv 0) (pa_cons pe_int pa_nil))) pe_int (nomark _)))))) (pss_one (ps_expr (pe_bm PySem.F.plainAttrs_list PySem.F.slot_list_append PySem.F.type_list_append mt_append (pv 2) (pa_cons (pe_ix ix_list (pv 1) (pe_f h__law_draw hr rfl (pa_cons (pv 0) (pa_cons (pe_callB call_len rfl (c.fr _ (.tail _ (.head _))) PySem.boot_len (pa_cons (pv 1) pa_nil)) pa_nil))) (fun _ _ => rfl)) pa_nil)))) pss_nil)
    (pss_cons (ps_if (PW.pt (pw_and (pt_cmpR (op_neD hr.units) (pv 2) (pe_lst pa_nil) (nomark _)) (pw_and1 (pt_cmpR op_eq (pe_f h__law_draw hr rfl (pa_cons (pv 0) (pa_cons pe_int pa_nil))) pe_int (nomark _))))) (pss_one (ps_expr (pe_bm PySem.F.plainAttrs_list PySem.F.slot_list_insert PySem.F.type_list_insert mt_insert (pv 2) (pa_cons (pe_f h__law_draw hr rfl (pa_cons (pv 0) (pa_cons (pe_op op_add (pe_callB call_len rfl (c.fr _ (.tail _ (.head _))) PySem.boot_len (pa_cons (pv 2) pa_nil)) pe_int) pa_nil))) (pa_cons (pe_ix ix_list (pv 2) (pe_f h__law_draw hr rfl (pa_cons (pv 0) (pa_cons (pe_callB call_len rfl (c.fr _ (.tail _ (.head _))) PySem.boot_len (pa_cons (pv 2) pa_nil)) pa_nil))) (fun _ _ => rfl)) pa_nil))))) pss_nil)
    (pss_one (ps_ret (pe_callTy call_tuple_of rfl (c.fr _ (.tail _ (.tail _ (.tail _ (.head _))))) PyProof.Rows.boot_tuple (pa_cons (pv 2) pa_nil)))))))), ?_⟩
  obtain ⟨p, rfl⟩ : ∃ p, qs = [p] := by
    match qs, hq with
    | [p], _ => exact ⟨p, rfl⟩
  show Ss K T _ [.own _ _, .val _, .no, .no] _
  refine ss_seq (ss_set (ex_lst (exa_nil ⟨[], trivial, (by decide), (st_n (by walk_at "len") (by walk_at "setn") fun q => ?_)⟩)))
  let St : Nat → List Sl → Prop := fun k δ => ∃ (u' : OV) (row : List Int) (x : Sl), δ = [.own p u', .val (.list (iz.map .int)), .own q (.lst (row.map .int)), x] ∧ PU u' ∧ (∀ x ∈ row, x ∈ iz) ∧ row.length ≤ k
  have ins : ∀ (row : List Int) (r z : Int), (row.map PyData.int).take r.toNat ++ [.int z] ++ (row.map PyData.int).drop r.toNat = (row.take r.toNat ++ [z] ++ row.drop r.toNat).map .int := fun row r z => by simp
  have insm : ∀ (row : List Int) (r z : Int), (∀ x ∈ row, x ∈ iz) → z ∈ iz → ∀ x ∈ row.take r.toNat ++ [z] ++ row.drop r.toNat, x ∈ iz := fun row r z h hz x hx => by
    simp only [List.mem_append, List.mem_singleton] at hx
    rcases hx with (hx | hx) | hx
    · exact h x (List.mem_of_mem_take hx)
    · rw [hx]; exact hz
    · exact h x (List.mem_of_mem_drop hx)
  have insl : ∀ (row : List Int) (r z : Int), (row.take r.toNat ++ [z] ++ row.drop r.toNat).length = row.length + 1 := fun row r z => by
    simp only [List.length_append, List.length_take, List.length_drop, List.length_singleton]
    omega
  refine ss_mid (St 12) (ss_forL (ex_var rfl ⟨_, rfl, St, ⟨_, [], .no, rfl, hu, (fun x hx => nomatch hx), Nat.le_refl _⟩, fun i d δ2 hd hW => ?_, fun δ2 hW => ?_⟩)) fun δ1 hW => ?_
  · obtain ⟨u', row, x, rfl, hu', hm, hr⟩ := hW
    obtain ⟨z, hz, rfl⟩ := get_ints hd
    have hi : i < iz.length := (List.getElem?_eq_some_iff.mp hz).1
    refine gt_name ?_
    show Ss K T _ [.own p u', .val (.list (iz.map .int)), .own q (.lst (row.map .int)), .val (.int z)] _
    refine ss_if (et_test (ex_op (ex_call (exa_cons (ex_bor rfl (exa_cons (ex_int (exa_nil ⟨[.own _, .val _], [0], ⟨rfl, ⟨_, rfl⟩, rfl, trivial⟩, (by decide), ⟨_, _, rfl, hu', by decide, by decide, fun r u1 hu1 h0 h1 => ex_int ⟨_, _, rfl, rfl, opd_eqI ⟨_, rfl, (ite2 (fun hc => ?_) (fun hc => ?_))⟩⟩⟩⟩))))))))
    · refine ss_drop (ex_lm ⟨⟨_, _, rfl⟩, (exa_cons (ex_call (exa_cons (ex_bor rfl (exa_cons (ex_op (ex_cb (exa_cons (ex_bor rfl (exa_nil ⟨[_], ⟨⟨_, _, rfl, rfl⟩, trivial⟩, cb_lenL (ex_int ⟨_, _, rfl, rfl, opd_I0 (.int _) (exa_nil ⟨[.own _, .val _], [0], ⟨rfl, ⟨_, rfl⟩, rfl, trivial⟩, (by decide), ⟨_, _, rfl, hu1, by omega, by rw [List.length_map]; omega, fun r u2 hu2 h0 h1 => (exa_cons (ex_var rfl (exa_nil ⟨[_, _], _, _, ⟨rfl, rfl, trivial⟩, rfl, lm_ins h0 (by omega) (by rw [List.length_map]; omega) ?_⟩)))⟩⟩)⟩)⟩))))))))))⟩)
      rw [ins]
      exact ⟨u2, _, _, rfl, hu2, insm row r z hm (List.mem_of_getElem? hz), by rw [insl]; omega⟩
    · exact ss_next ⟨u1, row, _, rfl, hu1, hm, by omega⟩
  · obtain ⟨u', row, x, rfl, hu', hm, hr⟩ := hW
    rw [List.length_map] at hr
    exact ⟨u', row, x, rfl, hu', hm, by omega⟩
  obtain ⟨u', row, x, rfl, hu', hm, hr⟩ := hW
  have hsr := shaped_I row
  have hsi := shaped_I iz
  refine ss_mid (fun δ => ∃ (u' : OV) (row : List Int), δ = [.own p u', .val (.list (iz.map .int)), .own q (.lst (row.map .int)), x] ∧ PU u' ∧ (∀ x ∈ row, x ∈ iz) ∧ row.length ≤ 12) (ss_if (et_and (et_test (ex_op (ex_bor rfl (ex_lst (exa_nil ⟨[], trivial, (by decide), ⟨_, _, ⟨_, _, rfl, rfl⟩, rfl, opd_eqD hsr shaped_nil ⟨_, rfl, ite2 (fun hc1 => ?_) (fun _ => ?_)⟩⟩⟩))))))) fun δ1 hW => ?_
  · have hrow : row = [] := by
      cases row with
      | nil => rfl
      | cons a b => simp [PyData.eqv, PyData.eqvAll] at hc1
    subst hrow
    refine et_and (et_test (ex_op (ex_var rfl (ex_lst (exa_nil ⟨[], trivial, (by decide), ⟨_, _, rfl, rfl, opd_neD hsi shaped_nil ⟨_, rfl, ite2 (fun hc2 => ?_) (fun _ => ?_)⟩⟩⟩)))))
    · have hi : 0 < iz.length := by
        cases iz with
        | nil => simp [PyData.eqv, PyData.eqvAll] at hc2
        | cons a b => simp
      refine et_test (ex_op (ex_call (exa_cons (ex_bor rfl (exa_cons (ex_int (exa_nil ⟨[.own _, .val _], [0], ⟨rfl, ⟨_, rfl⟩, rfl, trivial⟩, (by decide), ⟨_, _, rfl, hu', by decide, by decide, fun r u1 hu1 h0 h1 => ex_int ⟨_, _, rfl, rfl, opd_I0 (.bl _) ⟨_, rfl, ite2 (fun _ => ?_) (fun _ => ?_)⟩⟩⟩⟩)))))))
      · refine ss_drop (ex_lm ⟨⟨_, _, rfl⟩, (exa_cons (ex_ixL (ex_var rfl (ex_call (exa_cons (ex_bor rfl (exa_cons (ex_cb (exa_cons (ex_var rfl (exa_nil ⟨[_], ⟨rfl, trivial⟩, cb_lenL (exa_nil ⟨[.own _, .val _], [0], ⟨rfl, ⟨_, rfl⟩, rfl, trivial⟩, (by decide), ⟨_, _, rfl, hu1, by rw [List.length_map]; omega, by rw [List.length_map]; omega, fun r u2 hu2 h0 h1 => ?_⟩⟩)⟩)))))))))))⟩)
        rw [List.length_map] at h1
        obtain ⟨z, hz, hza⟩ := at_mem h0 h1
        refine ⟨_, _, _, rfl, rfl, hza, .inr ⟨_, rfl⟩, exa_nil ⟨[_], _, _, ⟨rfl, trivial⟩, rfl, lm_append (by decide) ⟨u2, [z], rfl, hu2, fun x hx => ?_, Nat.le_of_ble_eq_true rfl⟩⟩⟩
        rw [List.mem_singleton.mp hx]
        exact hz
      · exact ss_next ⟨u1, [], rfl, hu1, hm, hr⟩
    · exact iteF (ss_next ⟨u', [], rfl, hu', hm, hr⟩)
  · exact iteF (ss_next ⟨u', row, rfl, hu', hm, hr⟩)
  obtain ⟨u', row, rfl, hu', hm, hr⟩ := hW
  have hsr := shaped_I row
  refine ss_mid (fun δ => ∃ (u' : OV) (row : List Int), δ = [.own p u', .val (.list (iz.map .int)), .own q (.lst (row.map .int)), x] ∧ PU u' ∧ (∀ x ∈ row, x ∈ iz) ∧ row.length ≤ 13) (ss_if (et_and (et_test (ex_op (ex_bor rfl (ex_lst (exa_nil ⟨[], trivial, (by decide), ⟨_, _, ⟨_, _, rfl, rfl⟩, rfl, opd_neD hsr shaped_nil ⟨_, rfl, ite2 (fun hc1 => ?_) (fun _ => ?_)⟩⟩⟩))))))) fun δ1 hW => ?_
  · have hi : 0 < row.length := by
      cases row with
      | nil => simp [PyData.eqv, PyData.eqvAll] at hc1
      | cons a b => simp
    refine et_test (ex_op (ex_call (exa_cons (ex_bor rfl (exa_cons (ex_int (exa_nil ⟨[.own _, .val _], [0], ⟨rfl, ⟨_, rfl⟩, rfl, trivial⟩, (by decide), ⟨_, _, rfl, hu', by decide, by decide, fun r u1 hu1 h0 h1 => ex_int ⟨_, _, rfl, rfl, opd_eqI ⟨_, rfl, ite2 (fun _ => ?_) (fun _ => ?_)⟩⟩⟩⟩)))))))
    · refine ss_drop (ex_lm ⟨⟨_, _, rfl⟩, (exa_cons (ex_call (exa_cons (ex_bor rfl (exa_cons (ex_op (ex_cb (exa_cons (ex_bor rfl (exa_nil ⟨[_], ⟨⟨_, _, rfl, rfl⟩, trivial⟩, cb_lenL (ex_int ⟨_, _, rfl, rfl, opd_I0 (.int _) (exa_nil ⟨[.own _, .val _], [0], ⟨rfl, ⟨_, rfl⟩, rfl, trivial⟩, (by decide), ⟨_, _, rfl, hu1, by omega, by rw [List.length_map]; omega, fun r u2 hu2 h0 h1 => (exa_cons (ex_ixL (ex_bor rfl (ex_call (exa_cons (ex_bor rfl (exa_cons (ex_cb (exa_cons (ex_bor rfl (exa_nil ⟨[_], ⟨⟨_, _, rfl, rfl⟩, trivial⟩, cb_lenL (exa_nil ⟨[.own _, .val _], [0], ⟨rfl, ⟨_, rfl⟩, rfl, trivial⟩, (by decide), ⟨_, _, rfl, hu2, by rw [List.length_map]; omega, by rw [List.length_map]; omega, fun r3 u3 hu3 h2 h3 => ?_⟩⟩)⟩)))))))))))⟩⟩)⟩)⟩))))))))))⟩)
      rw [List.length_map] at h3
      obtain ⟨z, hz, hza⟩ := at_mem h2 h3
      refine ⟨_, _, _, ⟨_, _, rfl, rfl⟩, rfl, hza, .inl rfl, (exa_nil ⟨[_, _], _, _, ⟨rfl, rfl, trivial⟩, rfl, lm_ins h0 (by omega) (by rw [List.length_map]; omega) ?_⟩)⟩
      rw [ins]
      exact ⟨u3, _, rfl, hu3, insm row r z hm (hm z hz), by rw [insl]; omega⟩
    · exact ss_next ⟨u1, row, rfl, hu1, hm, by omega⟩
  · exact iteF (ss_next ⟨u', row, rfl, hu', hm, by omega⟩)
  obtain ⟨u', row, rfl, hu', hm, hr⟩ := hW
  exact ss_ret (ex_cb (exa_cons (ex_bor rfl (exa_nil ⟨[_], ⟨⟨_, _, rfl, rfl⟩, trivial⟩, cb_tupL (imm_ints row) ⟨_, _, ⟨rfl, PU.imm hu', _, rfl, rfl⟩, ⟨imm_tI row, rfl⟩, hQ u' row hu' hm hr⟩⟩))))
end
end K21

set_option Elab.async false
set_option linter.all false
set_option maxRecDepth 100000
set_option maxHeartbeats 4000001
namespace K21
open PySem L2 LamX NdefX PyProof.Rows GenW Pl
local macro_rules | `(tactic| walk_at "set") => `(tactic| first | (dsimp only [putOs, putO, List.getElem?_cons_zero, List.getElem?_cons_succ, List.set_cons_zero, List.set_cons_succ]; done) | (dsimp only [putOs, putO, List.getElem?_cons_zero, List.getElem?_cons_succ, List.set_cons_zero, List.set_cons_succ]; exact rfl) | exact rfl)
local macro_rules | `(tactic| walk_at "setn") => `(tactic| (intro _; first | (dsimp only [putOs, putO, List.getElem?_cons_zero, List.getElem?_cons_succ, List.set_cons_zero, List.set_cons_succ]; done) | (dsimp only [putOs, putO, List.getElem?_cons_zero, List.getElem?_cons_succ, List.set_cons_zero, List.set_cons_succ]; exact rfl) | exact rfl))
local macro_rules | `(tactic| walk_at "cnd") => `(tactic| first | assumption | omega | decide | exact ⟨by omega, by decide⟩ | exact Or.inr ⟨by decide, by decide⟩ | exact Or.inl ⟨by decide, by decide⟩ | exact ⟨by decide, by decide, by decide⟩)
local macro_rules | `(tactic| walk_at "len") => `(tactic| first | exact Nat.le_of_ble_eq_true rfl | (simp; done) | omega)

theorem get_R {rows : List (List Int)} {k : Nat} {d : D} (h : (tR rows)[k]? = some d) : ∃ r, rows[k]? = some r ∧ d = tI r := by
  rw [tR, List.getElem?_map] at h
  cases e : rows[k]? with
  | none => rw [e] at h; cases h
  | some r => rw [e] at h; exact ⟨r, rfl, (Option.some.inj h).symm⟩
theorem tR_snoc (rows : List (List Int)) (r : List Int) : tR rows ++ [tI r] = tR (rows ++ [r]) := by
  unfold tR
  rw [List.map_append]
  rfl
theorem len_tR (rows : List (List Int)) : (tR rows).length = rows.length := List.length_map _
def meets (ms : List Nat) (k : Nat) : Bool := ms.all fun m => m &&& k != 0
def mI (ms : List Nat) : List D := ms.map fun (m : Nat) => PyData.int (m : Int)
def isLeast (ms : List Nat) (k n : Nat) : Bool := meets ms k && (List.range n).all fun i => !(k.testBit i && meets ms (k - 2 ^ i))
def within (a b : List Int) : Bool := a.all fun x => decide (x ∈ b)
def F__law_meets : FS := fun as Q => ∃ (ms : List Nat) (k : Nat), as = [.val (.list (mI ms)), .val (.int k)] ∧ Q (.val (.bool (meets ms k))) []
def F__law_is_least : FS := fun as Q => ∃ (ms : List Nat) (k n : Nat), as = [.val (.list (mI ms)), .val (.int k), .val (.int n)] ∧ n ≤ 1000 ∧ Q (.val (.bool (isLeast ms k n))) []
def F__law_within : FS := fun as Q => ∃ a b : List Int, as = [.val (tI a), .val (tI b)] ∧ Q (.val (.bool (within a b))) []
def F__law_ordered : FS := fun as Q => ∃ rows : List (List Int), as = [.val (.list (tR rows))] ∧ rows.length ≤ 100000 ∧ Q (.new (.lst (tR (ordR rows)))) []
theorem shr_and (m k : Nat) : (Builtin.bitAnd ((m : Int) / 2 ^ ((k : Int)).toNat) 1 != 0) = m.testBit k := by
  have e1 : (m : Int) / 2 ^ ((k : Int)).toNat = ((m / 2 ^ k : Nat) : Int) := by
    rw [Int.toNat_natCast]
    simp
  have e2 : Builtin.bitAnd ((m / 2 ^ k : Nat) : Int) 1 = ((m / 2 ^ k % 2 : Nat) : Int) := by
    have := int_and (m / 2 ^ k) 1
    rw [Nat.and_one_is_mod] at this
    exact this
  rw [e1, e2, Nat.testBit_eq_decide_div_mod_eq]
  have h := Nat.mod_lt (m / 2 ^ k) (by decide : 0 < 2)
  by_cases h1 : m / 2 ^ k % 2 = 1
  · rw [h1]; rfl
  · have h0 : m / 2 ^ k % 2 = 0 := by omega
    rw [h0]; rfl
theorem sub_shl {m k : Nat} (h : m.testBit k = true) : (m : Int) - 1 * 2 ^ ((k : Int)).toNat = ((m - 2 ^ k : Nat) : Int) := by
  have h1 : 2 ^ k ≤ m := by
    refine Nat.le_of_not_lt fun z => ?_
    rw [Nat.testBit_lt_two_pow z] at h
    cases h
  rw [Int.one_mul, Int.toNat_natCast]
  have : ((2 ^ k : Nat) : Int) = (2 : Int) ^ k := by simp
  rw [← this]
  omega
section
variable {P : Program} {w : World} {K : PySem.W.Frag} {mg : Str → Option Value} {base : Heap} {T : List NTab}
theorem ok__law_sets (c : Al K mg base ds fr (ts.map (·.1))) (h__law_purse : Ok P w K mg base 2 "_law_purse" ["script", "k"] (spOf K T F__law_purse)) (h__law_draw : Ok P w K mg base 1 "_law_draw" ["purse", "many"] (spOf K T F__law_draw)) (h__law_set : Ok P w K mg base 2 "_law_set" ["purse", "integers"] (spOf K T F__law_set)) : Ok P w K mg base 3 "_law_sets" ["script", "integers", "many"] (spOf K T F__law_sets) := by
  have nd := sc__law_sets.nd
  refine ok_of c (.tail _ (.tail _ (.tail _ (.tail _ (.tail _ (.tail _ (.tail _ (.tail _ (.tail _ (.tail _ (.head _))))))))))) (fun _ _ _ _ _ _ us hl => match us, hl with | [_, _, _], _ => rfl) sc__law_sets (fun as Q h => by obtain ⟨_, _, _, rfl, _⟩ := h; rfl) fun f cdv A outer s H E hr as Q qs hF hq => ?_
  obtain ⟨scr, iz, m, rfl, hsc, hiz, hm0, hm, hQ⟩ := hF
  refine ⟨_, (pss_cons (ps_set (i := 3) nd rfl (Or.inl rfl) (pe_lst pa_nil))
    (pss_cons (ps_for PassesOwn.never rfl (pi_range1 rfl (c.fr _ (.tail _ (.tail _ (.tail _ (.tail _ (.tail _ (.tail _ (.tail _ (.tail _ (.head _)))))))))) (pa_cons (pv 2) pa_nil)) (pg_name (i := 4) nd rfl (Or.inl rfl)) (pss_cons (ps_set (i := 5) nd rfl (Or.inl rfl) (pe_f h__law_purse hr rfl (pa_cons (pv 0) (pa_cons (pe_op op_add pe_int (pv 4)) pa_nil))))
    (pss_one (ps_if (PW.pt (pw_and (pt_cmpR (r := rNeD K) (op_neD hr.units) (pv 3) (pe_lst pa_nil) (nomark _)) (pw_and1 (pt_cmpR op_eq (pe_f h__law_draw (hr.mono (by decide)) rfl (pa_cons (pv 5) (pa_cons pe_int pa_nil))) pe_int (nomark _))))) (pss_one (ps_expr (pe_bmK (K0 := K) PySem.F.plainAttrs_list PySem.F.slot_list_append PySem.F.type_list_append mt_append (pv 3) (pa_cons (pe_revTK (K0 := K) (pe_ix (r := rIxL K) ix_list (pv 3) (pe_f h__law_draw (hr.mono (by decide)) rfl (pa_cons (pv 5) (pa_cons (pe_callB (r := Pl.rLen K) call_len rfl (c.fr _ (.tail _ (.head _))) PySem.boot_len (pa_cons (pv 3) pa_nil)) pa_nil))) (fun _ _ => rfl))) pa_nil)))) (pss_one (ps_expr (pe_bmK (K0 := K) PySem.F.plainAttrs_list PySem.F.slot_list_append PySem.F.type_list_append mt_append (pv 3) (pa_cons (pe_f h__law_set hr rfl (pa_cons (pv 5) (pa_cons (pv 1) pa_nil))) pa_nil))))))))
    (pss_one (ps_ret (pv 3))))), ?_⟩
  obtain rfl : qs = [] := by simpa [owns] using hq
  show Ss K T _ [.val _, .val _, .val _, .no, .no, .no] _
  refine ss_seq (ss_set (ex_lst (exa_nil ⟨[], trivial, (by decide), (st_n (by walk_at "len") (by walk_at "setn") fun p => ?_)⟩)))
  let St : Nat → List Sl → Prop := fun k δ => ∃ (rows : List (List Int)) (x y : Sl), δ = [.val (.list (scr.map .int)), .val (.list (iz.map .int)), .val (.int m), .own p (.lst (tR rows)), x, y] ∧ rows.length = k ∧ (∀ r ∈ rows, r.length ≤ 13 ∧ ∀ x ∈ r, x ∈ iz)
  refine ss_seq (ss_forR (exa_cons (ex_var rfl (exa_nil ⟨_, rfl, (by omega), (by omega), St, ⟨[], .no, .no, rfl, rfl, fun r hr => nomatch hr⟩, (fun k δ2 hk hW => ?_), (fun δ2 hW => ?_)⟩))))
  · obtain ⟨rows, x, y, rfl, hl, hr⟩ := hW
    show Ss K T _ [.val (.list (scr.map .int)), .val (.list (iz.map .int)), .val (.int m), .own p (.lst (tR rows)), .val (.int k), y] _
    refine ss_seq (ss_set (ex_call0 (exa_cons (ex_var rfl (exa_cons (ex_op (ex_int (ex_var rfl ⟨_, _, rfl, rfl, opd_I0 (.int _) (exa_nil ⟨[.val _, .val _], ⟨rfl, rfl, trivial⟩, ⟨_, _, rfl, by omega, by omega, hsc, fun u hu => (st_n (by walk_at "len") (by walk_at "setn") fun q => ?_)⟩⟩)⟩))))))))
    have hsr := shaped_R rows
    have add : ∀ (u' : OV) (r : List Int), r.length ≤ 13 → (∀ x ∈ r, x ∈ iz) → St (k + 1) [.val (.list (scr.map .int)), .val (.list (iz.map .int)), .val (.int m), .own p (.lst (tR rows ++ [tI r])), .val (.int k), .own q u'] := fun u' r h1 h2 => by
      rw [tR_snoc]
      refine ⟨rows ++ [r], _, _, rfl, by simp [hl], fun r' hr' => ?_⟩
      rcases List.mem_append.mp hr' with z | z
      · exact hr r' z
      · rw [List.mem_singleton.mp z]
        exact ⟨h1, h2⟩
    have other : ∀ u, PU u → ∀ E' : Es, (∀ δ', St (k + 1) δ' → E'.nx δ') → Ss K T (tDrop (tBM K "list" rAppend (tVar 3) (tCons (tCall (spOf K T F__law_set) [] E0 (tCons (tVar 5) (tCons (tVar 1) tNil))) tNil))) [.val (.list (scr.map .int)), .val (.list (iz.map .int)), .val (.int m), .own p (.lst (tR rows)), .val (.int k), .own q u] E' := fun u hu E' hE => by
      refine ss_drop (ex_lm ⟨⟨_, _, rfl⟩, (exa_cons (ex_call (exa_cons (ex_bor rfl (exa_cons (ex_var rfl (exa_nil ⟨[.own _, .val _], [5], ⟨rfl, ⟨_, rfl⟩, rfl, trivial⟩, (by decide), ⟨_, _, rfl, hu, hiz, fun u2 row hu2 h1 h2 => (exa_nil ⟨[_], _, _, ⟨rfl, trivial⟩, rfl, lm_append (by rw [len_tR]; omega) (hE _ (add u2 row h2 h1))⟩)⟩⟩)))))))⟩)
    refine ss_if (et_and (et_test (ex_op (ex_bor rfl (ex_lst (exa_nil ⟨[], trivial, (by decide), ⟨_, _, ⟨_, _, rfl, rfl⟩, rfl, opd_neD hsr shaped_nil ⟨_, rfl, ite2 (fun hc => ?_) (fun hc => ?_)⟩⟩⟩))))))
    · have hne : 0 < rows.length := by
        cases rows with
        | nil => simp [PyData.eqv, PyData.eqvAll, tR] at hc
        | cons a b => simp
      refine et_test (ex_op (ex_call (exa_cons (ex_bor rfl (exa_cons (ex_int (exa_nil ⟨[.own _, .val _], [5], ⟨rfl, ⟨_, rfl⟩, rfl, trivial⟩, (by decide), ⟨_, _, rfl, hu, by decide, by decide, fun r u1 hu1 h0 h1 => ex_int ⟨_, _, rfl, rfl, opd_eqI ⟨_, rfl, ite2 (fun _ => ?_) (fun _ => ?_)⟩⟩⟩⟩)))))))
      · refine ss_drop (ex_lm ⟨⟨_, _, rfl⟩, (exa_cons (ex_revT (ex_ixL (ex_bor rfl (ex_call (exa_cons (ex_bor rfl (exa_cons (ex_cb (exa_cons (ex_bor rfl (exa_nil ⟨[_], ⟨⟨_, _, rfl, rfl⟩, trivial⟩, cb_lenL (exa_nil ⟨[.own _, .val _], [5], ⟨rfl, ⟨_, rfl⟩, rfl, trivial⟩, (by decide), ⟨_, _, rfl, hu1, by rw [len_tR]; omega, by rw [len_tR]; omega, fun r u2 hu2 h0 h1 => ?_⟩⟩)⟩))))))))))))⟩)
        rw [len_tR] at h1
        obtain ⟨z, hz, hza⟩ := at_memR h0 h1
        obtain ⟨hz1, hz2⟩ := hr z hz
        refine ⟨_, _, _, ⟨_, _, rfl, rfl⟩, rfl, hza, .inl (imm_tI z), ⟨_, rfl, imm_ints z, (exa_nil ⟨[_], _, _, ⟨rfl, trivial⟩, rfl, lm_append (by rw [len_tR]; omega) ?_⟩)⟩⟩
        have e : PyData.tuple (z.map PyData.int).reverse = tI z.reverse := by rw [← List.map_reverse]; rfl
        rw [e]
        exact add u2 z.reverse (by rw [List.length_reverse]; exact hz1) fun x hx => hz2 x (List.mem_reverse.mp hx)
      · exact other u1 hu1 _ fun _ h => h
    · exact iteF (other u hu _ fun _ h => h)
  · obtain ⟨rows, x, y, rfl, hl, hr⟩ := hW
    exact ss_ret (ex_bor rfl ⟨_, _, rfl, ⟨Nat.le_of_ble_eq_true rfl, _, _, rfl, imm_tR rows, rfl⟩, hQ rows (by omega) hr⟩)
theorem ok__law_meets (c : Al K mg base ds fr (ts.map (·.1))) : Ok P w K mg base 1 "_law_meets" ["masks", "mask"] (spOf K T F__law_meets) := by
  have nd := sc__law_meets.nd
  refine ok_of c (.tail _ (.tail _ (.tail _ (.tail _ (.tail _ (.tail _ (.tail _ (.tail _ (.tail _ (.tail _ (.tail _ (.head _)))))))))))) (fun _ _ _ _ _ _ us hl => match us, hl with | [_, _], _ => rfl) sc__law_meets (fun as Q h => by obtain ⟨_, _, rfl, _⟩ := h; rfl) fun f cdv A outer s H E hr as Q qs hF hq => ?_
  obtain ⟨ms, k, rfl, hQ⟩ := hF
  refine ⟨_, (pss_cons (ps_for PassesOwn.never rfl (pi_listK (K0 := K) (pv 0)) (pg_name (i := 2) nd rfl (Or.inl rfl)) (pss_one (ps_if (pt_cmpR op_eq (pe_op op_and (pv 2) (pv 1)) pe_int (nomark _)) (pss_one (ps_ret pe_bl)) pss_nil)))
    (pss_one (ps_ret pe_bl))), ?_⟩
  obtain rfl : qs = [] := by simpa [owns] using hq
  show Ss K T _ [.val _, .val _, .no] _
  refine ss_seq (ss_forL (ex_var rfl ⟨_, rfl, fun i δ => ∃ x, δ = [.val (.list (mI ms)), .val (.int k), x] ∧ meets (ms.take i) k = true, ⟨.no, rfl, by rw [List.take_zero]; rfl⟩, fun i d δ2 hd hW => ?_, fun δ2 hW => ?_⟩))
  · obtain ⟨x, rfl, hm⟩ := hW
    obtain ⟨m, hmi, rfl⟩ : ∃ m : Nat, ms[i]? = some m ∧ PyData.int (m : Int) = d := by
      rw [mI, List.getElem?_map] at hd
      cases e : ms[i]? with
      | none => rw [e] at hd; cases hd
      | some m => rw [e] at hd; exact ⟨m, rfl, Option.some.inj hd⟩
    refine gt_name ?_
    show Ss K T _ [.val (.list (mI ms)), .val (.int k), .val (.int (m : Int))] _
    refine ss_if (et_test (ex_op (ex_op (ex_var rfl (ex_var rfl ⟨_, _, rfl, rfl, opd_I0 (.int _) (ex_int ⟨_, _, rfl, rfl, opd_eqI ⟨_, rfl, (ite2 (fun hc => ?_) (fun hc => ?_))⟩⟩)⟩)))))
    · have hc := of_decide_eq_true hc
      rw [int_and] at hc
      have h0 : m &&& k = 0 := by omega
      refine ss_ret (ex_bl ⟨[], _, rfl, ⟨rfl, rfl⟩, ?_⟩)
      have : meets ms k = false := by
        unfold meets
        rw [List.all_eq_false]
        exact ⟨m, List.mem_of_getElem? hmi, by simp [h0]⟩
      rw [this] at hQ
      exact hQ
    · have hc := of_decide_eq_false (by simpa using hc)
      rw [int_and] at hc
      refine ss_next ⟨_, rfl, ?_⟩
      rw [List.take_add_one, hmi]
      unfold meets at hm ⊢
      rw [List.all_append, hm]
      have : m &&& k ≠ 0 := fun z => hc (by rw [z]; rfl)
      simp [this]
  · obtain ⟨x, rfl, hm⟩ := hW
    have e : (mI ms).length = ms.length := List.length_map _
    rw [e, List.take_length] at hm
    rw [hm] at hQ
    exact ss_ret (ex_bl ⟨[], _, rfl, ⟨rfl, rfl⟩, hQ⟩)
theorem ok__law_is_least (c : Al K mg base ds fr (ts.map (·.1))) (h__law_meets : Ok P w K mg base 1 "_law_meets" ["masks", "mask"] (spOf K T F__law_meets)) : Ok P w K mg base 2 "_law_is_least" ["masks", "mask", "many"] (spOf K T F__law_is_least) := by
  have nd := sc__law_is_least.nd
  refine ok_of c (.tail _ (.tail _ (.tail _ (.tail _ (.tail _ (.tail _ (.tail _ (.tail _ (.tail _ (.tail _ (.tail _ (.tail _ (.head _))))))))))))) (fun _ _ _ _ _ _ us hl => match us, hl with | [_, _, _], _ => rfl) sc__law_is_least (fun as Q h => by obtain ⟨_, _, _, rfl, _⟩ := h; rfl) fun f cdv A outer s H E hr as Q qs hF hq => ?_
  obtain ⟨ms, k, n, rfl, hn, hQ⟩ := hF
  refine ⟨_, (pss_cons (ps_if (pt_not (pt_val (pe_f h__law_meets hr rfl (pa_cons (pv 0) (pa_cons (pv 1) pa_nil))))) (pss_one (ps_ret pe_bl)) pss_nil)
    (pss_cons (ps_for PassesOwn.never rfl (pi_range1 rfl (c.fr _ (.tail _ (.tail _ (.tail _ (.tail _ (.tail _ (.tail _ (.tail _ (.tail _ (.head _)))))))))) (pa_cons (pv 2) pa_nil)) (pg_name (i := 3) nd rfl (Or.inl rfl)) (pss_one (ps_if (PW.pt (pw_and (pt_truthK (K0 := K) (pe_op op_and (pe_op op_shr (pv 1) (pv 3)) pe_int) (fun _ => rfl)) (pw_and1 (pt_val (pe_f h__law_meets hr rfl (pa_cons (pv 0) (pa_cons (pe_op op_sub (pv 1) (pe_op op_shlW pe_int (pv 3))) pa_nil))))))) (pss_one (ps_ret pe_bl)) pss_nil)))
    (pss_one (ps_ret pe_bl)))), ?_⟩
  obtain rfl : qs = [] := by simpa [owns] using hq
  show Ss K T _ [.val _, .val _, .val _, .no] _
  refine ss_seq (ss_if (et_not' (et_B (ex_call0 (exa_cons (ex_var rfl (exa_cons (ex_var rfl (exa_nil ⟨[.val _, .val _], ⟨rfl, rfl, trivial⟩, ⟨_, _, rfl, ⟨_, rfl, (ite2 (fun hc => ?_) (fun hc => ?_))⟩⟩⟩)))))))))
  · have h0 : meets ms k = false := by simpa using hc
    have : isLeast ms k n = false := by unfold isLeast; rw [h0]; rfl
    rw [this] at hQ
    exact ss_ret (ex_bl ⟨[], _, rfl, ⟨rfl, rfl⟩, hQ⟩)
  refine ss_next ?_
  have hm : meets ms k = true := by simpa using hc
  refine ss_seq (ss_forR (exa_cons (ex_var rfl (exa_nil ⟨_, rfl, (by omega), (by omega), fun j δ => ∃ x, δ = [.val (.list (mI ms)), .val (.int (k : Int)), .val (.int (n : Int)), x] ∧ ((List.range j).all fun i => !(k.testBit i && meets ms (k - 2 ^ i))) = true, ⟨.no, rfl, rfl⟩, (fun j δ2 hj hW => ?_), (fun δ2 hW => ?_)⟩))))
  · obtain ⟨x, rfl, hall⟩ := hW
    have hj : j < n := by omega
    show Ss K T _ [.val (.list (mI ms)), .val (.int (k : Int)), .val (.int (n : Int)), .val (.int (j : Int))] _
    have b1 : Builtin.Int.intBits 1 = 1 := by decide
    refine ss_if (et_and (et_truI (ex_op (ex_op (ex_var rfl (ex_var rfl ⟨_, _, rfl, rfl, opd_I (by omega) (.int _) (ex_int ⟨_, _, rfl, rfl, opd_I0 (.int _) ⟨_, rfl, (ite2 (fun hc => ?_) (fun hc => ?_))⟩⟩)⟩))))))
    · rw [shr_and] at hc
      refine et_B (ex_call0 (exa_cons (ex_var rfl (exa_cons (ex_op (ex_var rfl (ex_op (ex_int (ex_var rfl ⟨_, _, rfl, rfl, opd_I ⟨by omega, by rw [b1]; omega⟩ (.int _) ⟨_, _, rfl, rfl, opd_I0 (.int _) ?_⟩⟩)))))))))
      rw [sub_shl hc]
      refine exa_nil ⟨[.val _, .val _], ⟨rfl, rfl, trivial⟩, ⟨_, _, rfl, ⟨_, rfl, (ite2 (fun hc2 => ?_) (fun hc2 => ?_))⟩⟩⟩
      · have : isLeast ms k n = false := by
          unfold isLeast
          rw [hm, Bool.true_and, List.all_eq_false]
          exact ⟨j, List.mem_range.mpr hj, by rw [hc, hc2]; simp⟩
        rw [this] at hQ
        exact ss_ret (ex_bl ⟨[], _, rfl, ⟨rfl, rfl⟩, hQ⟩)
      · refine ss_next ⟨_, rfl, ?_⟩
        rw [List.range_succ, List.all_append, hall]
        have hc2 : meets ms (k - 2 ^ j) = false := by simpa using hc2
        simp [hc2]
    · rw [shr_and] at hc
      refine iteF (ss_next ⟨_, rfl, ?_⟩)
      have hc : k.testBit j = false := by simpa using hc
      rw [List.range_succ, List.all_append, hall]
      simp [hc]
  · obtain ⟨x, rfl, hall⟩ := hW
    rw [Int.toNat_natCast] at hall
    have : isLeast ms k n = true := by unfold isLeast; rw [hm, hall]; rfl
    rw [this] at hQ
    exact ss_ret (ex_bl ⟨[], _, rfl, ⟨rfl, rfl⟩, hQ⟩)
theorem ok__law_within (c : Al K mg base ds fr (ts.map (·.1))) : Ok P w K mg base 1 "_law_within" ["one", "other"] (spOf K T F__law_within) := by
  have nd := sc__law_within.nd
  refine ok_of c (.tail _ (.tail _ (.tail _ (.tail _ (.tail _ (.tail _ (.tail _ (.tail _ (.tail _ (.tail _ (.tail _ (.tail _ (.tail _ (.tail _ (.tail _ (.head _)))))))))))))))) (fun _ _ _ _ _ _ us hl => match us, hl with | [_, _], _ => rfl) sc__law_within (fun as Q h => by obtain ⟨_, _, rfl, _⟩ := h; rfl) fun f cdv A outer s H E hr as Q qs hF hq => ?_
  obtain ⟨a, b, rfl, hQ⟩ := hF
  refine ⟨_, (pss_cons (ps_for PassesOwn.never rfl (pi_tupK (K0 := K) (pv 0)) (pg_name (i := 2) nd rfl (Or.inl rfl)) (pss_one (ps_if (pt_cmpR (r := rIn K true) op_notIn_seq (pv 2) (pv 1) rfl) (pss_one (ps_ret pe_bl)) pss_nil)))
    (pss_one (ps_ret pe_bl))), ?_⟩
  obtain rfl : qs = [] := by simpa [owns] using hq
  show Ss K T _ [.val _, .val _, .no] _
  refine ss_seq (ss_forT (ex_var rfl ⟨_, rfl, fun i δ => ∃ x, δ = [.val (tI a), .val (tI b), x] ∧ within (a.take i) b = true, ⟨.no, rfl, by rw [List.take_zero]; rfl⟩, fun i d δ2 hd hW => ?_, fun δ2 hW => ?_⟩))
  · obtain ⟨x, rfl, hm⟩ := hW
    obtain ⟨m, hmi, rfl⟩ := get_ints hd
    refine gt_name ?_
    show Ss K T _ [.val (tI a), .val (tI b), .val (.int m)] _
    refine ss_if (et_test (ex_op (ex_var rfl (ex_var rfl ⟨_, _, rfl, rfl, opd_niT ⟨_, rfl, (ite2 (fun hc => ?_) (fun hc => ?_))⟩⟩))))
    · have hc : m ∉ b := by simpa using hc
      refine ss_ret (ex_bl ⟨[], _, rfl, ⟨rfl, rfl⟩, ?_⟩)
      have : within a b = false := by
        unfold within
        rw [List.all_eq_false]
        exact ⟨m, List.mem_of_getElem? hmi, by simp [hc]⟩
      rw [this] at hQ
      exact hQ
    · have hc : m ∈ b := by simpa using hc
      refine ss_next ⟨_, rfl, ?_⟩
      rw [List.take_add_one, hmi]
      unfold within at hm ⊢
      rw [List.all_append, hm]
      simp [hc]
  · obtain ⟨x, rfl, hm⟩ := hW
    rw [List.length_map, List.take_length] at hm
    rw [hm] at hQ
    exact ss_ret (ex_bl ⟨[], _, rfl, ⟨rfl, rfl⟩, hQ⟩)
theorem ok__law_ordered (c : Al K mg base ds fr (ts.map (·.1))) : Ok P w K mg base 1 "_law_ordered" ["rows"] (spOf K T F__law_ordered) := by
  have nd := sc__law_ordered.nd
  refine ok_of c (.tail _ (.tail _ (.tail _ (.tail _ (.tail _ (.tail _ (.tail _ (.tail _ (.tail _ (.tail _ (.tail _ (.tail _ (.tail _ (.head _)))))))))))))) (fun _ _ _ _ _ _ us hl => match us, hl with | [_], _ => rfl) sc__law_ordered (fun as Q h => by obtain ⟨_, rfl, _⟩ := h; rfl) fun f cdv A outer s H E hr as Q qs hF hq => ?_
  obtain ⟨rows, rfl, hl, hQ⟩ := hF
  refine ⟨_, (pss_one (ps_ret (pe_lc (own := [("pair", 1)]) (g := gName 1) (tt := tYes) rfl nd (pi_listK (K0 := K) (pe_callB (r := rSortedD K) (cr_sortedD hr.units) rfl (c.fr _ (.head _)) PyProof.Rows.boot_sorted (pa_cons (pe_lc (own := [("row", 2)]) (g := gName 2) (tt := tYes) rfl nd (pi_listK (K0 := K) (pv 0)) (blkOk_by (N := ["rows", "pair", "row"]) (sc := defScope (top 15)) (by decide +kernel)) (fun _ _ _ _ _ => pg_name (i := 2) nd rfl (Or.inl rfl)) (fun _ _ _ _ _ => pts_nil) (fun _ _ _ _ _ => (pe_tup (pa_cons (pe_callB (r := Pl.rLen K) call_len rfl (c.fr _ (.tail _ (.head _))) PySem.boot_len (pa_cons (pv 2) pa_nil)) (pa_cons (pv 2) pa_nil))))) pa_nil))) (blkOk_by (N := ["rows", "pair", "row"]) (sc := defScope (top 15)) (by decide +kernel)) (fun _ _ _ _ _ => pg_name (i := 1) nd rfl (Or.inl rfl)) (fun _ _ _ _ _ => pts_nil) (fun _ _ _ _ _ => (pe_ix (r := rIxT K) ix_tup (pv 1) pe_int (fun _ _ => rfl)))))), ?_⟩
  obtain rfl : qs = [] := by simpa [owns] using hq
  show Ss K T _ [.val _, .no, .no] _
  refine ss_ret (ex_mapL (f := fun d => match d with | .tuple [_, y] => y | d => d) (ex_cb (exa_cons (ex_mapL (f := kRow) (ex_var rfl ⟨_, rfl, rfl, by rw [len_tR]; exact hl, fun d hd => ?_, (exa_nil ⟨[_], ⟨rfl, trivial⟩, cb_sortedL ?_ ?_ ?_ ?_ ?_⟩)⟩)))))
  · obtain ⟨r, _, rfl⟩ := List.mem_map.mp hd
    exact ex_tup (exa_cons (ex_cb (exa_cons (ex_var rfl (exa_nil ⟨[_], ⟨rfl, trivial⟩, cb_lenT (exa_cons (ex_var rfl (exa_nil ⟨[_, _], ⟨rfl, rfl, trivial⟩, (by walk_at "len"), ⟨rfl, rfl⟩⟩)))⟩)))))
  · refine immAll_mem.mpr fun d hd => ?_
    obtain ⟨e, he, rfl⟩ := List.mem_map.mp hd
    obtain ⟨r, _, rfl⟩ := List.mem_map.mp he
    exact imm_kRow r
  · exact alike_kRows rows
  · exact sortable_kRows rows
  · intro d hd
    obtain ⟨e, he, rfl⟩ := List.mem_map.mp hd
    obtain ⟨r, _, rfl⟩ := List.mem_map.mp he
    rw [depth_kRow]
    decide
  · rw [sort_kR]
    refine ⟨_, rfl, rfl, ?_, fun d hd => ?_, ?_⟩
    · rw [List.length_map, len_tR, (ordR_perm rows).length_eq]
      exact hl
    · obtain ⟨e, he, rfl⟩ := List.mem_map.mp hd
      obtain ⟨r, _, rfl⟩ := List.mem_map.mp he
      rw [kRow_tI]
      exact ex_ixT (ex_var rfl (ex_int ⟨_, _, _, rfl, rfl, rfl, ⟨rfl, rfl⟩⟩))
    · have e : (((tR (ordR rows)).map kRow).map fun d => match d with | .tuple [_, y] => y | d => d) = tR (ordR rows) := by
        rw [List.map_map]
        unfold tR
        rw [List.map_map]
        refine List.map_congr_left fun r _ => ?_
        show (match kRow (tI r) with | .tuple [_, y] => y | d => d) = tI r
        rw [kRow_tI]
      rw [e]
      exact ⟨[], _, rfl, ⟨imm_tR _, rfl⟩, hQ⟩
end
end K21

set_option Elab.async false
set_option linter.all false
set_option maxRecDepth 100000
set_option maxHeartbeats 4000001
namespace K21
open PySem L2 LamX NdefX PyProof.Rows GenW Pl
local macro_rules | `(tactic| walk_at "set") => `(tactic| first | (dsimp only [putOs, putO, List.getElem?_cons_zero, List.getElem?_cons_succ, List.set_cons_zero, List.set_cons_succ]; done) | (dsimp only [putOs, putO, List.getElem?_cons_zero, List.getElem?_cons_succ, List.set_cons_zero, List.set_cons_succ]; exact rfl) | exact rfl)
local macro_rules | `(tactic| walk_at "setn") => `(tactic| (intro _; first | (dsimp only [putOs, putO, List.getElem?_cons_zero, List.getElem?_cons_succ, List.set_cons_zero, List.set_cons_succ]; done) | (dsimp only [putOs, putO, List.getElem?_cons_zero, List.getElem?_cons_succ, List.set_cons_zero, List.set_cons_succ]; exact rfl) | exact rfl))
local macro_rules | `(tactic| walk_at "cnd") => `(tactic| first | assumption | omega | decide | exact ⟨by omega, by decide⟩ | exact Or.inr ⟨by decide, by decide⟩ | exact Or.inl ⟨by decide, by decide⟩ | exact ⟨by decide, by decide, by decide⟩)
local macro_rules | `(tactic| walk_at "len") => `(tactic| first | exact Nat.le_of_ble_eq_true rfl | (simp; done) | omega)

def maskOf (iz s : List Int) : Nat := bits (fun i => decide (iz.getD i 0 ∈ s)) iz.length
def rowOf (iz : List Int) (k : Nat) : List Int := ((List.range iz.length).filter k.testBit).map fun i => iz.getD i 0
def foundR (sets : List (List Int)) (iz : List Int) (m : Nat) : List (List Int) := ((List.range m).filter fun k => isLeast (sets.map (maskOf iz)) k iz.length).map (rowOf iz)
def leastR (sets : List (List Int)) (iz : List Int) : List (List Int) := ordR (foundR sets iz (2 ^ iz.length))
def keptR (rows : List (List Int)) : List (List Int) := rows.filter fun r => !(rows.any fun o => decide (o ≠ r) && within o r)
def smallR (sets : List (List Int)) : List (List Int) := ordR (keptR (dedup (sets.map asc)))
def F__law_least : FS := fun as Q => ∃ (sets : List (List Int)) (iz : List Int), as = [.val (.list (tR sets)), .val (.list (iz.map .int))] ∧ sets.length ≤ 1000 ∧ iz.length ≤ 12 ∧ Q (.new (.lst (tR (leastR sets iz)))) []
def F__law_smallest : FS := fun as Q => ∃ sets : List (List Int), as = [.val (.list (tR sets))] ∧ sets.length ≤ 1000 ∧ (∀ r ∈ sets, r.length < 64) ∧ Q (.new (.lst (tR (smallR sets)))) []
def F__law_same : FS := fun as Q => ∃ a b : List (List Int), as = [.val (.list (tR a)), .val (.list (tR b))] ∧ b.length ≤ 100000 ∧ Q (.val (.bool (decide (a = b)))) []
theorem sum_bits (c : Nat → Bool) : ∀ n, (((List.range n).filter c).map fun k => (2 : Int) ^ k).sum = (bits c n : Nat)
  | 0 => rfl
  | n + 1 => by
    rw [List.range_succ, List.filter_append, List.map_append, List.sum_append, sum_bits c n]
    show _ = ((bits c n + (if c n = true then 2 ^ n else 0) : Nat) : Int)
    by_cases h : c n = true
    · rw [List.filter_cons_of_pos h, if_pos h]
      simp
    · rw [List.filter_cons_of_neg h, if_neg h]
      simp
theorem isLeast_sub (ms : List Nat) (k n : Nat) : True := trivial
theorem at_nat {ns : List Int} {k : Nat} (h : k < ns.length) : atI (ns.map PyData.int) (k : Int) = some (.int (ns.getD k 0)) := by
  unfold atI ixN
  rw [List.length_map, if_pos (Int.natCast_nonneg _), if_pos (by omega)]
  show (ns.map PyData.int)[((k : Int)).toNat]? = _
  rw [Int.toNat_natCast, List.getElem?_map, List.getElem?_eq_getElem h, List.getD_eq_getElem?_getD, List.getElem?_eq_getElem h]
  rfl
theorem at_natR {rows : List (List Int)} {k : Nat} (h : k < rows.length) : atI (tR rows) (k : Int) = some (tI (rows.getD k [])) := by
  unfold atI ixN
  rw [len_tR, if_pos (Int.natCast_nonneg _), if_pos (by omega)]
  show (rows.map tI)[((k : Int)).toNat]? = _
  rw [Int.toNat_natCast, List.getElem?_map, List.getElem?_eq_getElem h, List.getD_eq_getElem?_getD, List.getElem?_eq_getElem h]
  rfl
section
variable {P : Program} {w : World} {K : PySem.W.Frag} {mg : Str → Option Value} {base : Heap} {T : List NTab}
theorem ok__law_least (c : Al K mg base ds fr (ts.map (·.1))) (h__law_ordered : Ok P w K mg base 1 "_law_ordered" ["rows"] (spOf K T F__law_ordered)) (h__law_is_least : Ok P w K mg base 2 "_law_is_least" ["masks", "mask", "many"] (spOf K T F__law_is_least)) : Ok P w K mg base 3 "_law_least" ["sets", "integers"] (spOf K T F__law_least) := by
  have nd := sc__law_least.nd
  refine ok_of c (.tail _ (.tail _ (.tail _ (.tail _ (.tail _ (.tail _ (.tail _ (.tail _ (.tail _ (.tail _ (.tail _ (.tail _ (.tail _ (.tail _ (.head _))))))))))))))) (fun _ _ _ _ _ _ us hl => match us, hl with | [_, _], _ => rfl) sc__law_least (fun as Q h => by obtain ⟨_, _, rfl, _⟩ := h; rfl) fun f cdv A outer s H E hr as Q qs hF hq => ?_
  obtain ⟨sets, iz, rfl, hs, hiz, hQ⟩ := hF
  refine ⟨_, (pss_cons (ps_set (i := 2) nd rfl (Or.inr rfl) (pe_callB (r := Pl.rLen K) call_len rfl (c.fr _ (.tail _ (.head _))) PySem.boot_len (pa_cons (pv 1) pa_nil)))
    (pss_cons (ps_setLc (i := 3) (own := [("one", 6)]) (g := gName 6) (tt := tYes) rfl nd rfl rfl (sw_true rfl rfl rfl (by decide +kernel)) (pi_listK (K0 := K) (pv 0)) (blkOk_by (N := ["sets", "integers", "many", "masks", "found", "mask", "one", "k"]) (sc := defScope (top 16)) (by first | decide +kernel | rfl)) (fun _ _ _ _ _ => pg_name (i := 6) nd rfl (by first | exact Or.inl rfl | exact Or.inr rfl)) (fun _ _ _ _ _ => pts_nil) (fun _ _ _ _ _ => (pe_callB (r := rSum K) (cr_sum rfl) rfl (c.fr _ (.tail _ (.tail _ (.tail _ (.tail _ (.tail _ (.tail _ (.tail _ (.head _))))))))) PyProof.Rows.boot_sum (pa_cons (pe_lc (own := [("k", 7)]) (g := gName 7) rfl nd (pi_range1 rfl (c.fr _ (.tail _ (.tail _ (.tail _ (.tail _ (.tail _ (.tail _ (.tail _ (.tail _ (.head _)))))))))) (pa_cons (pv 2) pa_nil)) (blkOk_by (N := ["sets", "integers", "many", "masks", "found", "mask", "one", "k"]) (by first | decide +kernel | rfl)) (fun _ _ _ _ _ => pg_name (i := 7) nd rfl (by first | exact Or.inl rfl | exact Or.inr rfl)) (fun _ _ _ _ _ => (pts_one (pt_cmpR (r := rIn K false) op_in_seq (pe_ix (r := rIxL K) ix_list (pv 1) (pv 7) (fun _ _ => rfl)) (pv 6) rfl))) (fun _ _ _ _ _ => (pe_op op_shlW pe_int (pv 7)))) pa_nil))))
    (pss_cons (ps_set (i := 4) nd rfl (Or.inl rfl) (pe_lst pa_nil))
    (pss_cons (ps_for PassesOwn.never rfl (pi_range1 rfl (c.fr _ (.tail _ (.tail _ (.tail _ (.tail _ (.tail _ (.tail _ (.tail _ (.tail _ (.head _)))))))))) (pa_cons (pe_op op_shlW pe_int (pv 2)) pa_nil)) (pg_name (i := 5) nd rfl (Or.inr rfl)) (pss_one (ps_if (pt_val (pe_f h__law_is_least hr rfl (pa_cons (pv 3) (pa_cons (pv 5) (pa_cons (pv 2) pa_nil))))) (pss_one (ps_expr (pe_bmK (K0 := K) PySem.F.plainAttrs_list PySem.F.slot_list_append PySem.F.type_list_append mt_append (pv 4) (pa_cons (pe_callTy (r := rTupOf K) call_tuple_of rfl (c.fr _ (.tail _ (.tail _ (.tail _ (.head _))))) PyProof.Rows.boot_tuple (pa_cons (pe_lc (own := [("k", 7)]) (g := gName 7) rfl nd (pi_range1 rfl (c.fr _ (.tail _ (.tail _ (.tail _ (.tail _ (.tail _ (.tail _ (.tail _ (.tail _ (.head _)))))))))) (pa_cons (pv 2) pa_nil)) (blkOk_by (N := ["sets", "integers", "many", "masks", "found", "mask", "one", "k"]) (sc := defScope (top 16)) (by first | decide +kernel | rfl)) (fun _ _ _ _ _ => pg_name (i := 7) nd rfl (by first | exact Or.inl rfl | exact Or.inr rfl)) (fun _ _ _ _ _ => (pts_one (pt_truthK (K0 := K) (pe_op op_and (pe_op op_shr (pv 5) (pv 7)) pe_int) (fun _ => rfl)))) (fun _ _ _ _ _ => (pe_ix (r := rIxL K) ix_list (pv 1) (pv 7) (fun _ _ => rfl)))) pa_nil)) pa_nil)))) pss_nil)))
    (pss_one (ps_ret (pe_f h__law_ordered (hr.mono (by decide)) rfl (pa_cons (pv 4) pa_nil)))))))), ?_⟩
  obtain rfl : qs = [] := by simpa [owns] using hq
  show Ss K T _ [.val _, .val _, .no, .no, .no, .no, .no, .no] _
  have b1 : Builtin.Int.intBits 1 = 1 := by decide
  have eiz : (iz.map PyData.int).length = iz.length := List.length_map _
  refine ss_seq (ss_set (ex_cb (exa_cons (ex_var rfl (exa_nil ⟨[_], ⟨rfl, trivial⟩, cb_lenL (st_v (by walk_at "set") ?_)⟩)))))
  rw [eiz]
  refine ss_seq (ss_set (ex_mapL (f := fun d => match d with | .tuple es => .int (maskOf iz (es.map fun x => match x with | .int i => i | _ => 0) : Nat) | d => d) (ex_var rfl ⟨_, rfl, rfl, by rw [len_tR]; omega, fun d hd => ?_, (st_n (by walk_at "len") (by walk_at "setn") fun p => ?_)⟩)))
  · obtain ⟨r, _, rfl⟩ := List.mem_map.mp hd
    have er : (r.map PyData.int).map (fun x => match x with | .int i => i | _ => (0 : Int)) = r := by
      rw [List.map_map]
      exact List.map_id _
    refine ex_cb (exa_cons (ex_filR (f := fun k => .int ((2 : Int) ^ k)) (c := fun i => decide (iz.getD i 0 ∈ r)) (exa_cons (ex_var rfl (exa_nil ⟨_, rfl, rfl, by omega, fun k hk => ?_, fun k hk hc => ?_, ?_⟩)))))
    · exact et_test (ex_op (ex_ixL (ex_var rfl (ex_var rfl ⟨_, _, _, rfl, rfl, at_nat hk, .inr ⟨_, rfl⟩, ex_var rfl ⟨_, _, rfl, rfl, opd_inT ⟨_, rfl, rfl, rfl⟩⟩⟩))))
    · refine ex_op (ex_int (ex_var rfl ⟨_, _, rfl, rfl, opd_I ⟨by omega, by rw [b1]; omega⟩ (.int _) ⟨?_, rfl⟩⟩))
      rw [Int.one_mul, Int.toNat_natCast]
    · have e : (((List.range iz.length).filter fun i => decide (iz.getD i 0 ∈ r)).map fun k => PyData.int ((2 : Int) ^ k)) = (((List.range iz.length).filter fun i => decide (iz.getD i 0 ∈ r)).map fun k => (2 : Int) ^ k).map PyData.int := by
        rw [List.map_map]
        rfl
      rw [e]
      refine exa_nil ⟨[_], ⟨rfl, trivial⟩, cb_sum ⟨?_, rfl⟩⟩
      rw [sum_bits]
      show R.val (.int _) = R.val (.int ((maskOf iz ((r.map PyData.int).map fun x => match x with | .int i => i | _ => (0 : Int)) : Nat) : Int))
      rw [er]
      rfl
  have em : ((tR sets).map fun d => match d with | .tuple es => .int (maskOf iz (es.map fun x => match x with | .int i => i | _ => 0) : Nat) | d => d) = mI (sets.map (maskOf iz)) := by
    unfold tR mI
    rw [List.map_map, List.map_map]
    refine List.map_congr_left fun r _ => ?_
    show PyData.int ((maskOf iz ((r.map PyData.int).map fun x => match x with | .int i => i | _ => (0 : Int)) : Nat) : Int) = _
    rw [List.map_map]
    have : r.map ((fun x => match x with | .int i => i | _ => (0 : Int)) ∘ PyData.int) = r := List.map_id _
    rw [this]
    rfl
  rw [em]
  refine ss_seq (ss_set (ex_lst (exa_nil ⟨[], trivial, (by decide), (st_n (by walk_at "len") (by walk_at "setn") fun q => ?_)⟩)))
  have h12 : 2 ^ iz.length ≤ 4096 := Nat.le_trans (Nat.pow_le_pow_right (by decide) hiz) (by decide)
  have e2 : (1 : Int) * 2 ^ ((iz.length : Int)).toNat = ((2 ^ iz.length : Nat) : Int) := by
    rw [Int.one_mul, Int.toNat_natCast]
    simp
  have im : ∀ ms : List Nat, immAll (mI ms) = true := fun ms => immAll_mem.mpr fun d hd => by
    obtain ⟨m, _, rfl⟩ := List.mem_map.mp hd
    rfl
  refine ss_seq (ss_forR (exa_cons (ex_op (ex_int (ex_var rfl ⟨_, _, rfl, rfl, opd_I ⟨by omega, by rw [b1]; omega⟩ (.int _) ?_⟩)))))
  rw [e2]
  refine exa_nil ⟨_, rfl, Int.le_trans (by decide) (Int.natCast_nonneg _), Int.lt_of_le_of_lt (Int.ofNat_le.mpr h12) (by decide), fun k δ => ∃ x, δ = [.val (.list (tR sets)), .val (.list (iz.map .int)), .val (.int (iz.length : Nat)), .own p (.lst (mI (sets.map (maskOf iz)))), .own q (.lst (tR (foundR sets iz k))), x, .no, .no], ⟨.no, rfl⟩, (fun k δ2 hk hW => ?_), (fun δ2 hW => ?_)⟩
  · obtain ⟨x, rfl⟩ := hW
    have hk : k < 2 ^ iz.length := by omega
    show Ss K T _ [.val (.list (tR sets)), .val (.list (iz.map .int)), .val (.int (iz.length : Nat)), .own p (.lst (mI (sets.map (maskOf iz)))), .own q (.lst (tR (foundR sets iz k))), .val (.int k), .no, .no] _
    have ef : foundR sets iz (k + 1) = foundR sets iz k ++ if isLeast (sets.map (maskOf iz)) k iz.length = true then [rowOf iz k] else [] := by
      unfold foundR
      rw [List.range_succ, List.filter_append, List.map_append]
      congr 1
      by_cases h : isLeast (sets.map (maskOf iz)) k iz.length = true
      · rw [if_pos h]
        show List.map (rowOf iz) (match isLeast (sets.map (maskOf iz)) k iz.length with | true => k :: [] | false => []) = _
        rw [h]
        rfl
      · rw [if_neg h]
        show List.map (rowOf iz) (match isLeast (sets.map (maskOf iz)) k iz.length with | true => k :: [] | false => []) = _
        have h : isLeast (sets.map (maskOf iz)) k iz.length = false := by simpa using h
        rw [h]
        rfl
    have lf : (foundR sets iz k).length ≤ k := by
      unfold foundR
      rw [List.length_map]
      have := List.length_filter_le (fun k => isLeast (sets.map (maskOf iz)) k iz.length) (List.range k)
      rw [List.length_range] at this
      exact this
    refine ss_if (et_B (ex_call0 (exa_cons (ex_bor rfl (exa_cons (ex_var rfl (exa_cons (ex_var rfl (exa_nil ⟨[.val _, .val _, .val _], ⟨⟨_, _, rfl, rfl⟩, (by decide), rfl, rfl, trivial⟩, ⟨_, _, _, rfl, by omega, ⟨_, rfl, (ite2 (fun hc => ?_) (fun hc => ?_))⟩⟩⟩)))))))))
    · rw [if_pos hc] at ef
      refine ss_drop (ex_lm ⟨⟨_, _, rfl⟩, (exa_cons (ex_cb (exa_cons (ex_filR (f := fun i => .int (iz.getD i 0)) (c := k.testBit) (exa_cons (ex_var rfl (exa_nil ⟨_, rfl, rfl, by omega, fun i hi => ?_, fun i hi hc => ?_, ?_⟩)))))))⟩)
      · refine et_truI (ex_op (ex_op (ex_var rfl (ex_var rfl ⟨_, _, rfl, rfl, opd_I (by omega) (.int _) (ex_int ⟨_, _, rfl, rfl, opd_I0 (.int _) ⟨_, rfl, ?_, rfl⟩⟩)⟩))))
        rw [shr_and]
      · exact ex_ixL (ex_var rfl (ex_var rfl ⟨_, _, _, rfl, rfl, at_nat hi, .inr ⟨_, rfl⟩, rfl, rfl⟩))
      · have e : ((List.range iz.length).filter k.testBit).map (fun i => PyData.int (iz.getD i 0)) = (rowOf iz k).map .int := by
          unfold rowOf
          rw [List.map_map]
          rfl
        rw [e]
        refine exa_nil ⟨[_], ⟨rfl, trivial⟩, cb_tupL (imm_ints _) (exa_nil ⟨[_], _, _, ⟨rfl, trivial⟩, rfl, lm_append (by rw [len_tR]; omega) ?_⟩)⟩
        have e3 : tR (foundR sets iz k) ++ [PyData.tuple ((rowOf iz k).map .int)] = tR (foundR sets iz (k + 1)) := by
          rw [ef]
          exact tR_snoc _ _
        rw [e3]
        exact ⟨_, rfl⟩
    · rw [if_neg hc, List.append_nil] at ef
      rw [← ef]
      exact ss_next ⟨_, rfl⟩
  · obtain ⟨x, rfl⟩ := hW
    rw [Int.toNat_natCast]
    have lf : (foundR sets iz (2 ^ iz.length)).length ≤ 2 ^ iz.length := by
      unfold foundR
      rw [List.length_map]
      have := List.length_filter_le (fun k => isLeast (sets.map (maskOf iz)) k iz.length) (List.range (2 ^ iz.length))
      rw [List.length_range] at this
      exact this
    exact ss_ret (ex_call0 (exa_cons (ex_bor rfl (exa_nil ⟨[.val _], ⟨⟨_, _, rfl, rfl⟩, (by decide), trivial⟩, ⟨_, rfl, by omega, [], _, rfl, ⟨imm_tR _, rfl⟩, hQ⟩⟩))))
theorem ok__law_smallest (c : Al K mg base ds fr (ts.map (·.1))) (h__law_ordered : Ok P w K mg base 1 "_law_ordered" ["rows"] (spOf K T F__law_ordered)) (h__law_within : Ok P w K mg base 1 "_law_within" ["one", "other"] (spOf K T F__law_within)) : Ok P w K mg base 2 "_law_smallest" ["sets"] (spOf K T F__law_smallest) := by
  have nd := sc__law_smallest.nd
  refine ok_of c (.tail _ (.tail _ (.tail _ (.tail _ (.tail _ (.tail _ (.tail _ (.tail _ (.tail _ (.tail _ (.tail _ (.tail _ (.tail _ (.tail _ (.tail _ (.tail _ (.head _))))))))))))))))) (fun _ _ _ _ _ _ us hl => match us, hl with | [_], _ => rfl) sc__law_smallest (fun as Q h => by obtain ⟨_, rfl, _⟩ := h; rfl) fun f cdv A outer s H E hr as Q qs hF hq => ?_
  obtain ⟨sets, rfl, hlen, hrow, hQ⟩ := hF
  refine ⟨_, (pss_cons (ps_set (i := 1) nd rfl (Or.inl rfl) (pe_lst pa_nil))
    (pss_cons (ps_for PassesOwn.never rfl (pi_listK (K0 := K) (pv 0)) (pg_name (i := 2) nd rfl (Or.inl rfl)) (pss_cons (ps_set (i := 4) nd rfl (Or.inr rfl) (pe_callTy (r := rTupOf K) call_tuple_of rfl (c.fr _ (.tail _ (.tail _ (.tail _ (.head _))))) PyProof.Rows.boot_tuple (pa_cons (pe_callB (r := rSortedSet w) (cr_sortedSet rfl) rfl (c.fr _ (.head _)) PyProof.Rows.boot_sorted (pa_cons (pe_callTy (r := rSetT K w) (cr_setT rfl) rfl (c.fr _ (.tail _ (.tail _ (.tail _ (.tail _ (.head _)))))) PyProof.Rows.boot_set (pa_cons (pv 2) pa_nil)) pa_nil)) pa_nil)))
    (pss_one (ps_if (pt_cmpR (r := rNotInD K) (op_notInD (Nat.lt_of_le_of_lt (Nat.add_le_add (Nat.le_add_right _ _) (by decide)) hr.un)) (pv 4) (pv 1) rfl) (pss_one (ps_expr (pe_bmK (K0 := K) PySem.F.plainAttrs_list PySem.F.slot_list_append PySem.F.type_list_append mt_append (pv 1) (pa_cons (pv 4) pa_nil)))) pss_nil))))
    (pss_cons (ps_set (i := 3) nd rfl (Or.inl rfl) (pe_lst pa_nil))
    (pss_cons (ps_for PassesOwn.never rfl (pi_listK (K0 := K) (pv 1)) (pg_name (i := 4) nd rfl (Or.inr rfl)) (pss_one (ps_if (pt_not (pt_val (pe_callB (r := rAny K) (cr_any rfl) rfl (c.fr _ (.tail _ (.tail _ (.tail _ (.tail _ (.tail _ (.tail _ (.tail _ (.tail _ (.tail _ (.head _))))))))))) PyProof.Rows.boot_any (pa_cons (pe_lc (own := [("one", 2)]) (g := gName 2) (tt := tYes) rfl nd (pi_listK (K0 := K) (pv 1)) (blkOk_by (N := ["sets", "rows", "one", "kept", "row"]) (sc := defScope (top 18)) (by first | decide +kernel | rfl)) (fun _ _ _ _ _ => pg_name (i := 2) nd rfl (by first | exact Or.inl rfl | exact Or.inr rfl)) (fun _ _ _ _ _ => pts_nil) (fun _ _ _ _ _ => (pe_and (pe_cmpR (r := rNeD K) (op_neD hr.units) (pv 2) (pv 4) (nomark _)) (pe_one (pe_f h__law_within hr rfl (pa_cons (pv 2) (pa_cons (pv 4) pa_nil))))))) pa_nil)))) (pss_one (ps_expr (pe_bmK (K0 := K) PySem.F.plainAttrs_list PySem.F.slot_list_append PySem.F.type_list_append mt_append (pv 3) (pa_cons (pv 4) pa_nil)))) pss_nil)))
    (pss_one (ps_ret (pe_f h__law_ordered hr rfl (pa_cons (pv 3) pa_nil)))))))), ?_⟩
  obtain rfl : qs = [] := by simpa [owns] using hq
  show Ss K T _ [.val _, .no, .no, .no, .no] _
  refine ss_seq (ss_set (ex_lst (exa_nil ⟨[], trivial, (by decide), (st_n (by walk_at "len") (by walk_at "setn") fun p => ?_)⟩)))
  refine ss_seq (ss_forL (ex_var rfl ⟨_, rfl, fun k δ => ∃ x y, δ = [.val (.list (tR sets)), .own p (.lst (tR (dedup ((sets.take k).map asc)))), x, .no, y], ⟨.no, .no, rfl⟩, fun i d δ2 hd hW => ?_, fun δ2 hW => ?_⟩))
  · obtain ⟨x, y, rfl⟩ := hW
    obtain ⟨r, hr, rfl⟩ := get_R hd
    have hi : i < sets.length := (List.getElem?_eq_some_iff.mp hr).1
    refine gt_name ?_
    show Ss K T _ [.val (.list (tR sets)), .own p (.lst (tR (dedup ((sets.take i).map asc)))), .val (tI r), .no, y] _
    refine ss_seq (ss_set (ex_cb (exa_cons (ex_sortSet (ex_var rfl ⟨r, rfl, hrow r (List.mem_of_getElem? hr), fun ms h1 h2 h3 => (exa_nil ⟨[_], ⟨rfl, trivial⟩, cb_tupL (imm_ints ms) (st_v (by walk_at "set") ?_)⟩)⟩)))))
    obtain rfl : ms = asc r := asc_of h1 h2
    have ed : dedup ((sets.take (i + 1)).map asc) = insN (dedup ((sets.take i).map asc)) (asc r) := by
      rw [List.take_add_one, hr]
      show dedup (((sets.take i) ++ [r]).map asc) = _
      rw [List.map_append, List.map_singleton, dedup_snoc]
    have ld : (dedup ((sets.take i).map asc)).length ≤ i := Nat.le_trans len_dedup (by rw [List.length_map, List.length_take]; omega)
    refine ss_if (et_test (ex_op (ex_var rfl (ex_bor rfl ⟨_, _, rfl, ⟨_, _, rfl, rfl⟩, opd_notInD (shaped_tI _) (shaped_R _) ⟨_, rfl, (ite2 (fun hc => ?_) (fun hc => ?_))⟩⟩))))
    · have hc : (!((tR (dedup ((sets.take i).map asc))).any fun z => PyData.eqv z (tI (asc r)))) = true := hc
      rw [any_R] at hc
      have hc : asc r ∉ dedup ((sets.take i).map asc) := by simpa using hc
      refine ss_drop (ex_lm ⟨⟨_, _, rfl⟩, (exa_cons (ex_var rfl (exa_nil ⟨[_], _, _, ⟨rfl, trivial⟩, rfl, lm_append (by rw [len_tR]; omega) ?_⟩)))⟩)
      have e3 : tR (dedup ((sets.take i).map asc)) ++ [PyData.tuple ((asc r).map .int)] = tR (dedup ((sets.take (i + 1)).map asc)) := by
        rw [ed]
        unfold insN
        rw [if_neg hc]
        exact tR_snoc _ _
      rw [e3]
      exact ⟨_, _, rfl⟩
    · have hc : ¬ (!((tR (dedup ((sets.take i).map asc))).any fun z => PyData.eqv z (tI (asc r)))) = true := hc
      rw [any_R] at hc
      have hc : asc r ∈ dedup ((sets.take i).map asc) := by simpa using hc
      have e3 : dedup ((sets.take (i + 1)).map asc) = dedup ((sets.take i).map asc) := by
        rw [ed]
        unfold insN
        rw [if_pos hc]
      exact ss_next ⟨.val (tI r), .val (tI (asc r)), by rw [e3]; rfl⟩
  · obtain ⟨x, y, rfl⟩ := hW
    rw [len_tR, List.take_length]
    have ld : (dedup (sets.map asc)).length ≤ 1000 := Nat.le_trans len_dedup (by rw [List.length_map]; omega)
    generalize hrows : dedup (sets.map asc) = rows at ld ⊢
    refine ss_seq (ss_set (ex_lst (exa_nil ⟨[], trivial, (by decide), (st_n (by walk_at "len") (by walk_at "setn") fun q => ?_)⟩)))
    refine ss_frz (i := 1) rfl ?_
    refine ss_no (i := 2) ?_
    show Ss K T _ [.val (.list (tR sets)), .val (.list (tR rows)), .no, .own q (.lst []), y] _
    refine ss_seq (ss_forL (ex_var rfl ⟨_, rfl, fun k δ => ∃ y, δ = [.val (.list (tR sets)), .val (.list (tR rows)), .no, .own q (.lst (tR ((rows.take k).filter fun r => !(rows.any fun o => decide (o ≠ r) && within o r)))), y], ⟨y, by rw [List.take_zero]; rfl⟩, fun i d δ2 hd hW => ?_, fun δ2 hW => ?_⟩))
    · obtain ⟨y, rfl⟩ := hW
      obtain ⟨r, hr, rfl⟩ := get_R hd
      have hi : i < rows.length := (List.getElem?_eq_some_iff.mp hr).1
      refine gt_name ?_
      show Ss K T _ [.val (.list (tR sets)), .val (.list (tR rows)), .no, .own q (.lst (tR ((rows.take i).filter fun r => !(rows.any fun o => decide (o ≠ r) && within o r)))), .val (tI r)] _
      have un : ∀ o : List Int, (o.map PyData.int).map (fun x => match x with | .int i => i | _ => (0 : Int)) = o := fun o => by
        rw [List.map_map]
        exact List.map_id _
      have ek : ((rows.take (i + 1)).filter fun r => !(rows.any fun o => decide (o ≠ r) && within o r)) = ((rows.take i).filter fun r => !(rows.any fun o => decide (o ≠ r) && within o r)) ++ if (!(rows.any fun o => decide (o ≠ r) && within o r)) = true then [r] else [] := by
        rw [List.take_add_one, hr]
        show (List.filter _ (rows.take i ++ [r])) = _
        rw [List.filter_append]
        congr 1
        by_cases h : (!(rows.any fun o => decide (o ≠ r) && within o r)) = true
        · rw [if_pos h]
          show (match (!(rows.any fun o => decide (o ≠ r) && within o r)) with | true => r :: [] | false => []) = _
          rw [h]
        · rw [if_neg h]
          show (match (!(rows.any fun o => decide (o ≠ r) && within o r)) with | true => r :: [] | false => []) = _
          have h : (!(rows.any fun o => decide (o ≠ r) && within o r)) = false := by simpa using h
          rw [h]
      have lk : ((rows.take i).filter fun r => !(rows.any fun o => decide (o ≠ r) && within o r)).length ≤ 1000 := by
        have h1 := List.length_filter_le (fun r => !(rows.any fun o => decide (o ≠ r) && within o r)) (rows.take i)
        rw [List.length_take] at h1
        omega
      refine ss_if (et_not' (et_B (ex_cb (exa_cons (ex_mapL (f := fun d => match d with | .tuple es => .bool (decide ((es.map fun x => match x with | .int i => i | _ => (0 : Int)) ≠ r) && within (es.map fun x => match x with | .int i => i | _ => (0 : Int)) r) | d => d) (ex_var rfl ⟨_, rfl, rfl, by rw [len_tR]; omega, fun d hd => ?_, ?_⟩))))))
      · obtain ⟨o, _, rfl⟩ := List.mem_map.mp hd
        refine ex_andV (ex_op (ex_var rfl (ex_var rfl ⟨_, _, rfl, rfl, opd_neD (shaped_tI _) (shaped_tI _) ⟨_, rfl, ite2 (fun hc => ?_) (fun hc => ?_)⟩⟩)))
        · rw [eqv_tI] at hc
          have hc : o ≠ r := by simpa using hc
          refine ex_call0 (exa_cons (ex_var rfl (exa_cons (ex_var rfl (exa_nil ⟨[.val _, .val _], ⟨rfl, rfl, trivial⟩, ⟨o, r, rfl, ?_, rfl⟩⟩)))))
          show R.val (.bool _) = R.val (.bool (decide (((o.map PyData.int).map fun x => match x with | .int i => i | _ => (0 : Int)) ≠ r) && within ((o.map PyData.int).map fun x => match x with | .int i => i | _ => (0 : Int)) r))
          rw [un, decide_eq_true hc, Bool.true_and]
        · rw [eqv_tI] at hc
          have hc : o = r := by simpa using hc
          refine ⟨?_, rfl⟩
          show R.val (.bool _) = R.val (.bool (decide (((o.map PyData.int).map fun x => match x with | .int i => i | _ => (0 : Int)) ≠ r) && within ((o.map PyData.int).map fun x => match x with | .int i => i | _ => (0 : Int)) r))
          rw [un, decide_eq_false (fun z => z hc), Bool.false_and]
      · have e : ((tR rows).map fun d => match d with | .tuple es => .bool (decide ((es.map fun x => match x with | .int i => i | _ => (0 : Int)) ≠ r) && within (es.map fun x => match x with | .int i => i | _ => (0 : Int)) r) | d => d) = (rows.map fun o => decide (o ≠ r) && within o r).map PyData.bool := by
          unfold tR
          rw [List.map_map, List.map_map]
          refine List.map_congr_left fun o _ => ?_
          show PyData.bool (decide (((o.map PyData.int).map fun x => match x with | .int i => i | _ => (0 : Int)) ≠ r) && within ((o.map PyData.int).map fun x => match x with | .int i => i | _ => (0 : Int)) r) = _
          rw [un]
          rfl
        rw [e]
        have ea : (rows.map fun o => decide (o ≠ r) && within o r).any id = rows.any fun o => decide (o ≠ r) && within o r := by
          rw [List.any_map]
          rfl
        refine exa_nil ⟨[_], ⟨rfl, trivial⟩, cb_any ⟨_, rfl, (ite2 (fun hc => ?_) (fun hc => ?_))⟩⟩
        · rw [ea] at hc
          rw [if_pos hc] at ek
          refine ss_drop (ex_lm ⟨⟨_, _, rfl⟩, (exa_cons (ex_var rfl (exa_nil ⟨[_], _, _, ⟨rfl, trivial⟩, rfl, lm_append (by rw [len_tR]; omega) ?_⟩)))⟩)
          rw [tR_snoc, ← ek]
          exact ⟨_, rfl⟩
        · rw [ea] at hc
          rw [if_neg hc, List.append_nil] at ek
          rw [← ek]
          exact ss_next ⟨_, rfl⟩
    · obtain ⟨y, rfl⟩ := hW
      rw [len_tR, List.take_length]
      have e : (rows.filter fun r => !(rows.any fun o => decide (o ≠ r) && within o r)) = keptR rows := rfl
      rw [e]
      have lk : (keptR rows).length ≤ 1000 := Nat.le_trans (List.length_filter_le _ _) ld
      refine ss_ret (ex_call0 (exa_cons (ex_bor rfl (exa_nil ⟨[.val _], ⟨⟨_, _, rfl, rfl⟩, (by decide), trivial⟩, ⟨_, rfl, by omega, [], _, rfl, ⟨imm_tR _, rfl⟩, ?_⟩⟩))))
      have e4 : smallR sets = ordR (keptR rows) := by unfold smallR; rw [hrows]
      rw [← e4]
      exact hQ
end
end K21

set_option Elab.async false
set_option linter.all false
set_option maxRecDepth 100000
set_option maxHeartbeats 4000001
namespace K21
open PySem L2 LamX NdefX PyProof.Rows GenW Pl
local macro_rules | `(tactic| walk_at "set") => `(tactic| first | (dsimp only [putOs, putO, List.getElem?_cons_zero, List.getElem?_cons_succ, List.set_cons_zero, List.set_cons_succ]; done) | (dsimp only [putOs, putO, List.getElem?_cons_zero, List.getElem?_cons_succ, List.set_cons_zero, List.set_cons_succ]; exact rfl) | exact rfl)
local macro_rules | `(tactic| walk_at "setn") => `(tactic| (intro _; first | (dsimp only [putOs, putO, List.getElem?_cons_zero, List.getElem?_cons_succ, List.set_cons_zero, List.set_cons_succ]; done) | (dsimp only [putOs, putO, List.getElem?_cons_zero, List.getElem?_cons_succ, List.set_cons_zero, List.set_cons_succ]; exact rfl) | exact rfl))
local macro_rules | `(tactic| walk_at "cnd") => `(tactic| first | assumption | omega | decide | exact ⟨by omega, by decide⟩ | exact Or.inr ⟨by decide, by decide⟩ | exact Or.inl ⟨by decide, by decide⟩ | exact ⟨by decide, by decide, by decide⟩)
local macro_rules | `(tactic| walk_at "len") => `(tactic| first | exact Nat.le_of_ble_eq_true rfl | (simp; done) | omega)

theorem take_eq {a b : List (List Int)} {k : Nat} (hl : a.length = b.length) (hk : k < b.length) (h : a.take k = b.take k) (e : a.getD k [] = b.getD k []) : a.take (k + 1) = b.take (k + 1) := by
  have hka : k < a.length := by omega
  rw [List.take_add_one, List.take_add_one, h, List.getElem?_eq_getElem hka, List.getElem?_eq_getElem hk]
  rw [List.getD_eq_getElem?_getD, List.getD_eq_getElem?_getD, List.getElem?_eq_getElem hka, List.getElem?_eq_getElem hk] at e
  have e : a[k] = b[k] := e
  rw [e]
section
variable {P : Program} {w : World} {K : PySem.W.Frag} {mg : Str → Option Value} {base : Heap} {T : List NTab}
theorem ok__law_same (c : Al K mg base ds fr (ts.map (·.1))) : Ok P w K mg base 1 "_law_same" ["told", "due"] (spOf K T F__law_same) := by
  have nd := sc__law_same.nd
  refine ok_of c (.tail _ (.tail _ (.tail _ (.tail _ (.tail _ (.tail _ (.tail _ (.tail _ (.tail _ (.tail _ (.tail _ (.tail _ (.tail _ (.tail _ (.tail _ (.tail _ (.tail _ (.head _)))))))))))))))))) (fun _ _ _ _ _ _ us hl => match us, hl with | [_, _], _ => rfl) sc__law_same (fun as Q h => by obtain ⟨_, _, rfl, _⟩ := h; rfl) fun f cdv A outer s H E hr as Q qs hF hq => ?_
  obtain ⟨a, b, rfl, hb, hQ⟩ := hF
  refine ⟨_, (pss_cons (ps_if (PW.pt (pw_or (pt_not (pt_val (pe_callB (r := rIsi K) call_isi rfl (c.fr _ (.tail _ (.tail _ (.tail _ (.tail _ (.tail _ (.tail _ (.tail _ (.tail _ (.tail _ (.tail _ (.head _)))))))))))) PyProof.Rows.boot_isinstance (pa_cons (pv 0) (pa_cons (pe_bltn (v := .ty "list") rfl (c.fr _ (.tail _ (.tail _ (.head _)))) PyProof.Rows.boot_list rfl) pa_nil))))) (pw_or1 (pt_cmpR op_ne (pe_callB (r := Pl.rLen K) call_len rfl (c.fr _ (.tail _ (.head _))) PySem.boot_len (pa_cons (pv 0) pa_nil)) (pe_callB (r := Pl.rLen K) call_len rfl (c.fr _ (.tail _ (.head _))) PySem.boot_len (pa_cons (pv 1) pa_nil)) (nomark _))))) (pss_one (ps_ret pe_bl)) pss_nil)
    (pss_cons (ps_for PassesOwn.never rfl (pi_range1 rfl (c.fr _ (.tail _ (.tail _ (.tail _ (.tail _ (.tail _ (.tail _ (.tail _ (.tail _ (.head _)))))))))) (pa_cons (pe_callB (r := Pl.rLen K) call_len rfl (c.fr _ (.tail _ (.head _))) PySem.boot_len (pa_cons (pv 1) pa_nil)) pa_nil)) (pg_name (i := 2) nd rfl (Or.inl rfl)) (pss_cons (ps_if (pt_not (pt_val (pe_callB (r := rIsi K) call_isi rfl (c.fr _ (.tail _ (.tail _ (.tail _ (.tail _ (.tail _ (.tail _ (.tail _ (.tail _ (.tail _ (.tail _ (.head _)))))))))))) PyProof.Rows.boot_isinstance (pa_cons (pe_ix (r := rIxL K) ix_list (pv 0) (pv 2) (fun _ _ => rfl)) (pa_cons (pe_bltn (v := .ty "tuple") rfl (c.fr _ (.tail _ (.tail _ (.tail _ (.head _))))) PyProof.Rows.boot_tuple rfl) pa_nil))))) (pss_one (ps_ret pe_bl)) pss_nil)
    (pss_cons (ps_for PassesOwn.never rfl (pi_tupK (K0 := K) (pe_ix (r := rIxL K) ix_list (pv 0) (pv 2) (fun _ _ => rfl))) (pg_name (i := 3) nd rfl (Or.inl rfl)) (pss_one (ps_if (PW.pt (pw_or (pt_not (pt_val (pe_callB (r := rIsi K) call_isi rfl (c.fr _ (.tail _ (.tail _ (.tail _ (.tail _ (.tail _ (.tail _ (.tail _ (.tail _ (.tail _ (.tail _ (.head _)))))))))))) PyProof.Rows.boot_isinstance (pa_cons (pv 3) (pa_cons (pe_bltn (v := .ty "int") rfl (c.fr _ (.tail _ (.tail _ (.tail _ (.tail _ (.tail _ (.tail _ (.head _)))))))) PyProof.Rows.boot_int rfl) pa_nil))))) (pw_or1 (pt_val (pe_callB (r := rIsi K) call_isi rfl (c.fr _ (.tail _ (.tail _ (.tail _ (.tail _ (.tail _ (.tail _ (.tail _ (.tail _ (.tail _ (.tail _ (.head _)))))))))))) PyProof.Rows.boot_isinstance (pa_cons (pv 3) (pa_cons (pe_bltn (v := .ty "bool") rfl (c.fr _ (.tail _ (.tail _ (.tail _ (.tail _ (.tail _ (.tail _ (.tail _ (.tail _ (.tail _ (.tail _ (.tail _ (.head _))))))))))))) PyProof.Rows.boot_bool rfl) pa_nil))))))) (pss_one (ps_ret pe_bl)) pss_nil)))
    (pss_one (ps_if (pt_cmpR (r := rNeD K) (op_neD hr.units) (pe_ix (r := rIxL K) ix_list (pv 0) (pv 2) (fun _ _ => rfl)) (pe_ix (r := rIxL K) ix_list (pv 1) (pv 2) (fun _ _ => rfl)) (nomark _)) (pss_one (ps_ret pe_bl)) pss_nil)))))
    (pss_one (ps_ret pe_bl)))), ?_⟩
  obtain rfl : qs = [] := by simpa [owns] using hq
  show Ss K T _ [.val _, .val _, .no, .no] _
  have fls : a ≠ b → ∀ δ' : List Sl, δ'.length = 4 → (∃ x y, δ' = [.val (.list (tR a)), .val (.list (tR b)), x, y]) → ∃ us r', Fin [Ar.val (.list (tR a)), .val (.list (tR b))] [] δ' us ∧ RetR 2 δ' (.val (.bool false)) r' ∧ Q r' us := fun n δ' _ ⟨x, y, e⟩ => by
    subst e
    rw [decide_eq_false n] at hQ
    exact ⟨[], _, rfl, ⟨rfl, rfl⟩, hQ⟩
  refine ss_seq (ss_if (et_or (et_not' (et_B (ex_isi (n := "list") (b := true) (ex_var rfl ⟨_, rfl, rfl, ⟨_, rfl, iteF ?_⟩⟩))))))
  refine et_test (ex_op (ex_cb (exa_cons (ex_var rfl (exa_nil ⟨[_], ⟨rfl, trivial⟩, cb_lenL (ex_cb (exa_cons (ex_var rfl (exa_nil ⟨[_], ⟨rfl, trivial⟩, cb_lenL ⟨_, _, rfl, rfl, opd_neI ⟨_, rfl, (ite2 (fun hc => ?_) (fun hc => ?_))⟩⟩⟩))))⟩)))))
  · rw [len_tR, len_tR] at hc
    have hc : a.length ≠ b.length := fun z => by rw [z] at hc; simp at hc
    exact ss_ret (ex_bl (fls (fun z => hc (by rw [z])) _ rfl ⟨_, _, rfl⟩))
  rw [len_tR, len_tR] at hc
  have hl : a.length = b.length := by
    by_cases h : a.length = b.length
    · exact h
    · have : ((a.length : Int)) ≠ b.length := by omega
      rw [decide_eq_false this] at hc
      simp at hc
  refine ss_next ?_
  refine ss_seq (ss_forR (exa_cons (ex_cb (exa_cons (ex_var rfl (exa_nil ⟨[_], ⟨rfl, trivial⟩, cb_lenL (exa_nil ⟨_, rfl, by rw [len_tR]; omega, by rw [len_tR]; omega, fun k δ => ∃ x y, δ = [.val (.list (tR a)), .val (.list (tR b)), x, y] ∧ a.take k = b.take k, ⟨_, _, rfl, rfl⟩, (fun k δ2 hk hW => ?_), (fun δ2 hW => ?_)⟩)⟩))))))
  · obtain ⟨x, y, rfl, ht⟩ := hW
    rw [len_tR] at hk
    have hk : k < b.length := by omega
    have hka : k < a.length := by omega
    show Ss K T _ [.val (.list (tR a)), .val (.list (tR b)), .val (.int k), y] _
    refine ss_seq (ss_if (et_not' (et_B (ex_isi (n := "tuple") (b := true) (ex_ixL (ex_var rfl (ex_var rfl ⟨_, _, _, rfl, rfl, at_natR hka, .inr ⟨_, rfl⟩, ⟨_, rfl, rfl, ⟨_, rfl, iteF (ss_next ?_)⟩⟩⟩)))))))
    refine ss_seq (ss_forT (ex_ixL (ex_var rfl (ex_var rfl ⟨_, _, _, rfl, rfl, at_natR hka, .inr ⟨_, rfl⟩, ⟨_, rfl, fun j δ => ∃ y, δ = [.val (.list (tR a)), .val (.list (tR b)), .val (.int k), y], ⟨_, rfl⟩, fun j d δ2 hd hW => ?_, fun δ2 hW => ?_⟩⟩))))
    · obtain ⟨y, rfl⟩ := hW
      obtain ⟨m, _, rfl⟩ := get_ints hd
      refine gt_name ?_
      show Ss K T _ [.val (.list (tR a)), .val (.list (tR b)), .val (.int k), .val (.int m)] _
      exact ss_if (et_or (et_not' (et_B (ex_isi (n := "int") (b := true) (ex_var rfl ⟨_, rfl, rfl, ⟨_, rfl, iteF (et_B (ex_isi (n := "bool") (b := false) (ex_var rfl ⟨_, rfl, rfl, ⟨_, rfl, iteF (ss_next ⟨_, rfl⟩)⟩⟩)))⟩⟩)))))
    · obtain ⟨y, rfl⟩ := hW
      refine ss_if (et_test (ex_op (ex_ixL (ex_var rfl (ex_var rfl ⟨_, _, _, rfl, rfl, at_natR hka, .inr ⟨_, rfl⟩, (ex_ixL (ex_var rfl (ex_var rfl ⟨_, _, _, rfl, rfl, at_natR hk, .inr ⟨_, rfl⟩, ⟨_, _, rfl, rfl, opd_neD (shaped_tI _) (shaped_tI _) ⟨_, rfl, (ite2 (fun hc => ?_) (fun hc => ?_))⟩⟩⟩)))⟩)))))
      · rw [eqv_tI] at hc
        have hc : a.getD k [] ≠ b.getD k [] := by simpa using hc
        exact ss_ret (ex_bl (fls (fun z => hc (by rw [z])) _ rfl ⟨_, _, rfl⟩))
      · rw [eqv_tI] at hc
        have hc : a.getD k [] = b.getD k [] := by simpa using hc
        exact ss_next ⟨_, _, rfl, take_eq hl hk ht hc⟩
  · obtain ⟨x, y, rfl, ht⟩ := hW
    rw [len_tR, Int.toNat_natCast, ← hl, List.take_length, hl, List.take_length] at ht
    rw [decide_eq_true ht] at hQ
    exact ss_ret (ex_bl ⟨[], _, rfl, ⟨rfl, rfl⟩, hQ⟩)
end
end K21

set_option Elab.async false
set_option linter.all false
set_option maxRecDepth 100000
set_option maxHeartbeats 4000001
namespace K21
open PySem L2 LamX NdefX PyProof.Rows GenW Pl PySem.W
local macro_rules | `(tactic| walk_at "set") => `(tactic| first | (dsimp only [putOs, putO, List.getElem?_cons_zero, List.getElem?_cons_succ, List.set_cons_zero, List.set_cons_succ]; done) | (dsimp only [putOs, putO, List.getElem?_cons_zero, List.getElem?_cons_succ, List.set_cons_zero, List.set_cons_succ]; exact rfl) | exact rfl)
local macro_rules | `(tactic| walk_at "setn") => `(tactic| (intro _; first | (dsimp only [putOs, putO, List.getElem?_cons_zero, List.getElem?_cons_succ, List.set_cons_zero, List.set_cons_succ]; done) | (dsimp only [putOs, putO, List.getElem?_cons_zero, List.getElem?_cons_succ, List.set_cons_zero, List.set_cons_succ]; exact rfl) | exact rfl))
local macro_rules | `(tactic| walk_at "cnd") => `(tactic| first | assumption | omega | decide | exact ⟨by omega, by decide⟩ | exact Or.inr ⟨by decide, by decide⟩ | exact Or.inl ⟨by decide, by decide⟩ | exact ⟨by decide, by decide, by decide⟩)
local macro_rules | `(tactic| walk_at "len") => `(tactic| first | exact Nat.le_of_ble_eq_true rfl | (simp; done) | omega)

/-! ### the search -/
structure Node where
  ch : List Int
  al : List Nat
  un : Nat
  br : List Int
def left (msk : Int → Nat) (n : Node) (m : Int) : List Nat := n.al.map fun a => a - (a &&& msk m)
def child (msk : Int → Nat) (n : Node) (br : List Int) (m : Int) : List Node := if 0 ∈ left msk n m then [] else [⟨n.ch ++ [m], left msk n m ++ [n.un &&& msk m], n.un - (n.un &&& msk m), br⟩]
def kids (msk : Int → Nat) (n : Node) : List Int → List Int → List Node
  | [], _ => []
  | m :: R, br => if m ∈ br then kids msk n R br else child msk n br m ++ kids msk n R (br ++ [m])
theorem kids_snoc (msk : Int → Nat) (n : Node) (m : Int) : ∀ (R br : List Int), kids msk n (R ++ [m]) br = kids msk n R br ++ (if m ∈ R.foldl insN br then [] else child msk n (R.foldl insN br) m)
  | [], br => by
    show (if m ∈ br then kids msk n [] br else child msk n br m ++ kids msk n [] (br ++ [m])) = [] ++ (if m ∈ br then [] else child msk n br m)
    split
    · rfl
    · show child msk n br m ++ [] = _
      rw [List.append_nil, List.nil_append]
  | x :: R, br => by
    show (if x ∈ br then kids msk n (R ++ [m]) br else child msk n br x ++ kids msk n (R ++ [m]) (br ++ [x])) = (if x ∈ br then kids msk n R br else child msk n br x ++ kids msk n R (br ++ [x])) ++ (if m ∈ R.foldl insN (insN br x) then [] else child msk n (R.foldl insN (insN br x)) m)
    unfold insN
    split
    · exact kids_snoc msk n m R br
    · rw [kids_snoc msk n m R (br ++ [x]), List.append_assoc]
      rfl
theorem kids_mem {msk : Int → Nat} {n k : Node} : ∀ {R br : List Int}, k ∈ kids msk n R br → ∃ m ∈ R, ∃ br' : List Int, k = ⟨n.ch ++ [m], left msk n m ++ [n.un &&& msk m], n.un - (n.un &&& msk m), br'⟩ ∧ br'.length ≤ br.length + R.length
  | [], _, h => nomatch h
  | x :: R, br, h => by
    have h : k ∈ (if x ∈ br then kids msk n R br else child msk n br x ++ kids msk n R (br ++ [x])) := h
    split at h
    · obtain ⟨m, hm, br', e, hl⟩ := kids_mem h
      exact ⟨m, List.mem_cons_of_mem _ hm, br', e, by rw [List.length_cons]; omega⟩
    · rcases List.mem_append.mp h with h | h
      · unfold child at h
        split at h
        · cases h
        · exact ⟨x, List.mem_cons_self, br, List.mem_singleton.mp h, by omega⟩
      · obtain ⟨m, hm, br', e, hl⟩ := kids_mem h
        rw [List.length_append, List.length_singleton] at hl
        exact ⟨m, List.mem_cons_of_mem _ hm, br', e, by rw [List.length_cons]; omega⟩
theorem kids_len {msk : Int → Nat} {n : Node} : ∀ {R br : List Int}, (kids msk n R br).length ≤ R.length
  | [], _ => Nat.le_refl _
  | x :: R, br => by
    show (if x ∈ br then kids msk n R br else child msk n br x ++ kids msk n R (br ++ [x])).length ≤ R.length + 1
    split
    · exact Nat.le_succ_of_le kids_len
    · rw [List.length_append]
      have h1 : (child msk n br x).length ≤ 1 := by
        unfold child
        split
        · exact Nat.zero_le _
        · exact Nat.le_refl _
      have h2 := kids_len (msk := msk) (n := n) (R := R) (br := br ++ [x])
      omega
mutual
inductive Tr (row : Nat → List Int) (msk : Int → Nat) : Node → List (List Int) → Nat → Prop
  | leaf {n : Node} : n.un = 0 → Tr row msk n [asc n.ch] 1
  | node {n : Node} {L : List (List Int)} {s : Nat} : n.un ≠ 0 → Fo row msk (kids msk n (row (low n.un)) n.br) L s → Tr row msk n L (s + 1)
inductive Fo (row : Nat → List Int) (msk : Int → Nat) : List Node → List (List Int) → Nat → Prop
  | nil : Fo row msk [] [] 0
  | cons {n : Node} {ns : List Node} {L L' : List (List Int)} {s s' : Nat} : Tr row msk n L s → Fo row msk ns L' s' → Fo row msk (n :: ns) (L ++ L') (s + s')
end
theorem Fo.append {row : Nat → List Int} {msk : Int → Nat} {ns : List Node} {L' : List (List Int)} {s' : Nat} (h2 : Fo row msk ns L' s') : ∀ {ms : List Node} {L : List (List Int)} {s : Nat}, Fo row msk ms L s → Fo row msk (ms ++ ns) (L ++ L') (s + s')
  | _, _, _, .nil => by rw [Nat.zero_add]; exact h2
  | _, _, _, .cons t f => by
    rw [List.append_assoc, Nat.add_assoc]
    exact .cons t (Fo.append h2 f)
/-- what holds of a node -/
structure Good (msk : Int → Nat) (N : Nat) (n : Node) : Prop where
  un : n.un < 2 ^ N
  al : n.al.length = n.ch.length
  pc : (List.range N).countP n.un.testBit + n.ch.length ≤ N
  br : n.br.length ≤ 64 * n.ch.length
  nd : n.ch.Nodup
  met : ∀ x ∈ n.ch, ∀ i, n.un.testBit i = true → (msk x).testBit i = false
theorem countP_lt {p q : Nat → Bool} {N i : Nat} (hi : i < N) (h1 : p i = true) (h2 : q i = false) (h : ∀ j, q j = true → p j = true) : (List.range N).countP q < (List.range N).countP p := by
  induction N with
  | zero => omega
  | succ N ih =>
    rw [List.range_succ, List.countP_append, List.countP_append]
    by_cases e : i = N
    · subst e
      have := List.countP_mono_left (l := List.range i) (p := q) (q := p) fun x _ hx => h x hx
      simp [List.countP_cons, h1, h2]
      omega
    · have := ih (by omega)
      have h3 : (List.countP q [N]) ≤ List.countP p [N] := List.countP_mono_left fun x _ hx => h x hx
      omega
/-- rows and masks that go together -/
structure RM (rows : List (List Int)) (msk : Int → Nat) : Prop where
  in_ : ∀ i r, rows[i]? = some r → ∀ x ∈ r, (msk x).testBit i = true
theorem Good.low {rows : List (List Int)} {msk : Int → Nat} {n : Node} (g : Good msk rows.length n) (h : n.un ≠ 0) : low n.un < rows.length ∧ n.un.testBit (low n.un) = true := by
  obtain ⟨h1, h2⟩ := low_spec (Nat.pos_of_ne_zero h)
  refine ⟨Nat.lt_of_not_le fun z => ?_, h1⟩
  rw [Nat.testBit_lt_two_pow (Nat.lt_of_lt_of_le g.un (Nat.pow_le_pow_right (by decide) z))] at h1
  cases h1
theorem Good.kid {rows : List (List Int)} {msk : Int → Nat} {n k : Node} (rm : RM rows msk) (hr : ∀ r ∈ rows, r.length ≤ 64) (g : Good msk rows.length n) (h : n.un ≠ 0) (hk : k ∈ kids msk n (rows.getD (Pl.low n.un) []) n.br) : Good msk rows.length k ∧ k.ch.length = n.ch.length + 1 := by
  obtain ⟨hl, hb⟩ := g.low h
  have er : rows[Pl.low n.un]? = some (rows.getD (Pl.low n.un) []) := by
    rw [List.getD_eq_getElem?_getD, List.getElem?_eq_getElem hl]
    rfl
  obtain ⟨m, hm, br', rfl, hbl⟩ := kids_mem hk
  have hmb := rm.in_ _ _ er m hm
  have hrl := hr _ (List.mem_of_getElem? er)
  refine ⟨⟨?_, ?_, ?_, ?_, ?_, ?_⟩, ?_⟩
  · exact Nat.lt_of_le_of_lt (Nat.sub_le _ _) g.un
  · show (left msk n m ++ [n.un &&& msk m]).length = (n.ch ++ [m]).length
    unfold left
    rw [List.length_append, List.length_append, List.length_map, g.al]
    rfl
  · show (List.range rows.length).countP (n.un - (n.un &&& msk m)).testBit + (n.ch ++ [m]).length ≤ rows.length
    have h1 := countP_lt (p := n.un.testBit) (q := (n.un - (n.un &&& msk m)).testBit) hl hb (by rw [testBit_sub_and, hmb]; simp) fun j hj => by
      rw [testBit_sub_and] at hj
      simp only [Bool.and_eq_true] at hj
      exact hj.1
    have := g.pc
    rw [List.length_append, List.length_singleton]
    omega
  · show br'.length ≤ 64 * (n.ch ++ [m]).length
    have := g.br
    rw [List.length_append, List.length_singleton]
    omega
  · refine List.nodup_append.mpr ⟨g.nd, by simp, fun a ha b hb2 e => ?_⟩
    have e2 : b = m := List.mem_singleton.mp hb2
    subst e e2
    have := g.met a ha _ hb
    rw [hmb] at this
    cases this
  · intro x hx i hi
    have hi : (n.un - (n.un &&& msk m)).testBit i = true := hi
    rw [testBit_sub_and] at hi
    simp only [Bool.and_eq_true, Bool.not_eq_true'] at hi
    have hx : x ∈ n.ch ++ [m] := hx
    rcases List.mem_append.mp hx with z | z
    · exact g.met x z i hi.1
    · rw [List.mem_singleton.mp z]
      exact hi.2
  · show (n.ch ++ [m]).length = _
    rw [List.length_append]
    rfl
/-- the pile is low -/
def Low : List Node → Prop
  | [] => True
  | n :: r => r.length ≤ 64 * n.ch.length ∧ Low r
theorem Low.kids {d : Nat} {r : List Node} (h : Low r) (hr : r.length ≤ 64 * d) : ∀ {ks : List Node}, ks.length ≤ 64 → (∀ k ∈ ks, k.ch.length = d + 1) → Low (ks ++ r)
  | [], _, _ => h
  | k :: ks, hl, hk => by
    rw [List.length_cons] at hl
    refine ⟨?_, Low.kids h hr (by omega) fun k' h' => hk k' (List.mem_cons_of_mem _ h')⟩
    show (ks ++ r).length ≤ _
    rw [List.length_append, hk k List.mem_cons_self]
    omega
theorem Low.len {N : Nat} {st : List Node} (h : Low st) (hd : ∀ n ∈ st, n.ch.length ≤ N) : st.length ≤ 64 * N + 1 := by
  cases st with
  | nil => exact Nat.zero_le _
  | cons n r =>
    have h1 := h.1
    have h2 := hd n List.mem_cons_self
    have : 64 * n.ch.length ≤ 64 * N := Nat.mul_le_mul_left _ h2
    rw [List.length_cons]
    omega
/-! ### a node as data -/
def nD (n : Node) : D := .tuple [tI n.ch, .tuple (mI n.al), .int (n.un : Int), tI n.br]
theorem mI_eq (l : List Nat) : mI l = (l.map fun (m : Nat) => (m : Int)).map .int := by
  unfold mI
  rw [List.map_map]
  rfl
theorem mem_cast {l : List Nat} : (0 : Int) ∈ l.map (fun (m : Nat) => (m : Int)) ↔ 0 ∈ l := by
  rw [List.mem_map]
  constructor
  · rintro ⟨a, ha, e⟩
    have : a = 0 := by omega
    rw [← this]; exact ha
  · exact fun h => ⟨0, h, rfl⟩
theorem imm_mI (l : List Nat) : immAll (mI l) = true := by rw [mI_eq]; exact imm_ints _
theorem imm_nD (n : Node) : imm (nD n) = true := by
  show (imm (tI n.ch) && (immAll (mI n.al) && (true && (imm (tI n.br) && true)))) = true
  rw [imm_tI, imm_tI, imm_mI]
  rfl
theorem imm_nDs (l : List Node) : immAll (l.map nD) = true := immAll_mem.mpr fun d hd => by
  obtain ⟨n, _, rfl⟩ := List.mem_map.mp hd
  exact imm_nD n
theorem sort_ch {ns : List Int} (h : ns.Nodup) : (ns.map PyData.int).mergeSort (dataLe false id) = (asc ns).map .int := by
  have e : (ns.map PyData.int).mergeSort (dataLe false id) = (ns.mergeSort (dataLe false PyData.int)).map .int := (sort_maps PyData.int fun _ _ _ _ => rfl).symm
  have pm : (ns.mergeSort (dataLe false PyData.int)).Perm ns := List.mergeSort_perm _ _
  have tl : TotalLe (dataLe false PyData.int) := sortLe_total (listOrd itemOrd) false _
  have sp := sort_pairwise tl ns
  have nd2 : (ns.mergeSort (dataLe false PyData.int)).Nodup := pm.nodup_iff.mpr h
  have le_of : ∀ a b : Int, dataLe false PyData.int a b = true → a ≤ b := fun a b hab => by
    have h : (!(PyProof.Rows.lexLt itemOrd [Sum.inl b] [Sum.inl a])) = true := hab
    have h2 : PyProof.Rows.lexLt itemOrd [Sum.inl b] [Sum.inl a] = (decide (b < a) || (!decide (a < b) && false)) := rfl
    rw [h2] at h
    simp at h
    exact h
  have as : Asc (ns.mergeSort (dataLe false PyData.int)) := by
    have := sp.and nd2
    exact this.imp fun ⟨h1, h2⟩ => by
      have := le_of _ _ h1
      omega
  rw [e, asc_of as fun k => pm.mem_iff]
theorem alike_is (ns : List Int) : AllAlike (ns.map PyData.int) := fun d hd d' hd' => by
  obtain ⟨a, _, rfl⟩ := List.mem_map.mp hd
  obtain ⟨b, _, rfl⟩ := List.mem_map.mp hd'
  rfl
theorem sortable_is (ns : List Int) : Sortable (ns.map PyData.int) := .inr fun d hd => by
  obtain ⟨a, _, rfl⟩ := List.mem_map.mp hd
  exact ⟨by simp, fun xs => by simp⟩
theorem depth_is (ns : List Int) : ∀ d ∈ ns.map PyData.int, d.depth ≤ 60 := fun d hd => by
  obtain ⟨a, _, rfl⟩ := List.mem_map.mp hd
  exact Nat.zero_le _
def root (N : Nat) : Node := ⟨[], [], 2 ^ N - 1, []⟩
theorem root_good (msk : Int → Nat) (N : Nat) : Good msk N (root N) := ⟨by have := Nat.two_pow_pos N; show 2 ^ N - 1 < 2 ^ N; omega, rfl, by
  have := List.countP_le_length (p := (root N).un.testBit) (l := List.range N)
  rw [List.length_range] at this
  exact this, Nat.le_refl _, List.nodup_nil, fun x hx => nomatch hx⟩
def F_meeting_sets : FG := fun as Q => ∃ sets : List (List Int), (as = [.list (tR sets)] ∨ as = [.tuple (tR sets)]) ∧ sets.length ≤ 1000 ∧ (∀ r ∈ sets, r.length < 64) ∧ (diffR sets).length ≤ 60 ∧
  ∃ L s, Tr (fun i => (diffR sets).getD i []) (maskN (diffR sets)) (root (diffR sets).length) L s ∧ L.length ≤ 90000 ∧ Q (tR L)
end K21

set_option Elab.async false
set_option linter.all false
set_option maxRecDepth 100000
set_option maxHeartbeats 4000001
namespace K21
open PySem L2 LamX NdefX PyProof.Rows GenW Pl
local macro_rules | `(tactic| walk_at "set") => `(tactic| first | (dsimp only [putOs, putO, List.getElem?_cons_zero, List.getElem?_cons_succ, List.set_cons_zero, List.set_cons_succ]; done) | (dsimp only [putOs, putO, List.getElem?_cons_zero, List.getElem?_cons_succ, List.set_cons_zero, List.set_cons_succ]; exact rfl) | exact rfl)
local macro_rules | `(tactic| walk_at "setn") => `(tactic| (intro _; first | (dsimp only [putOs, putO, List.getElem?_cons_zero, List.getElem?_cons_succ, List.set_cons_zero, List.set_cons_succ]; done) | (dsimp only [putOs, putO, List.getElem?_cons_zero, List.getElem?_cons_succ, List.set_cons_zero, List.set_cons_succ]; exact rfl) | exact rfl))
local macro_rules | `(tactic| walk_at "cnd") => `(tactic| first | assumption | omega | decide | exact ⟨by omega, by decide⟩ | exact Or.inr ⟨by decide, by decide⟩ | exact Or.inl ⟨by decide, by decide⟩ | exact ⟨by decide, by decide, by decide⟩)
local macro_rules | `(tactic| walk_at "len") => `(tactic| first | exact Nat.le_of_ble_eq_true rfl | (simp; done) | omega)

section
variable {K : PySem.W.Frag} {T : List NTab} {δ : List Sl} {zs : List D} {tg : TGn} {E : EsG}
theorem sg_frz {i : Nat} {a : Addr} {ds : List D} (hi : δ[i]? = some (.own a (.lst ds))) (h : Sg K T tg (δ.set i (.val (.list ds))) zs E) : Sg K T tg δ zs E := fun B H σ ys s hy D kn kb kc =>
  h.after (s.frzAt hi) (da_mono (Go.set rfl : Go (ow δ B) (ow (δ.set i (.val (.list ds))) B) H H).rk _ _ hy) (Go.set rfl) kn kb kc
end
theorem maskN_row {rows : List (List Int)} : RM rows (maskN rows) := ⟨fun i r hi x hx => by
  unfold maskN
  rw [testBit_bits, decide_eq_true (List.getElem?_eq_some_iff.mp hi).1, Bool.true_and]
  unfold inRow
  rw [List.getD_eq_getElem?_getD, hi]
  exact decide_eq_true hx⟩
theorem diff_len {sets : List (List Int)} {n : Nat} (h : ∀ r ∈ sets, r.length < n) : ∀ r ∈ diffR sets, r.length < n := fun r hr => by
  have h1 := (ordR_perm (dedup (sets.map asc))).mem_iff.mp hr
  obtain ⟨r0, h2, rfl⟩ := List.mem_map.mp (mem_dedup.mp h1)
  exact Nat.lt_of_le_of_lt len_asc (h r0 h2)
section
variable {P : Program} {w : World} {K : PySem.W.Frag} {mg : Str → Option Value} {base : Heap} {T : List NTab}
theorem ok_meeting_sets (c : Al K mg base ds fr (ts.map (·.1))) (h_different_sets : Ok P w K mg base 4 "different_sets" ["sets"] (spOf K T F_different_sets)) (h_meeting_masks : Ok P w K mg base 1 "meeting_masks" ["rows"] (spOf K T F_meeting_masks)) : OkG P w K mg base 5 "meeting_sets" ["sets"] (spGOf K T F_meeting_sets) := by
  have nd := sc_meeting_sets.nd
  refine okG_of c (.tail _ (.tail _ (.tail _ (.head _)))) (fun _ _ _ _ _ _ us hl => match us, hl with | [_], _ => rfl) sc_meeting_sets (fun as Q h => by obtain ⟨_, h1 | h1, _⟩ := h <;> (rw [h1]; rfl)) fun f cdv A outer s H E pn hr as Q hF => ?_
  obtain ⟨sets, hor, hlen, hrow, hN, L0, s0, htr, hL0, hQ⟩ := hF
  rcases hor with rfl | rfl
  · refine ⟨_, (gss_cons (gs_ps (ps_set (i := 1) nd rfl (Or.inl rfl) (pe_f h_different_sets hr rfl (pa_cons (pv 0) pa_nil))))
      (gss_cons (gs_ps (ps_set (i := 2) nd rfl (Or.inl rfl) (pe_f h_meeting_masks (hr.mono (by decide)) rfl (pa_cons (pv 1) pa_nil))))
      (gss_cons (gs_ps (ps_set (i := 3) nd rfl (Or.inl rfl) (pe_lst (pa_cons (pe_tup (pa_cons (pe_tup pa_nil) (pa_cons (pe_tup pa_nil) (pa_cons (pe_op op_sub (pe_op op_shlW pe_int (pe_callB (r := Pl.rLen K) call_len rfl (c.fr _ (.tail _ (.head _))) PySem.boot_len (pa_cons (pv 1) pa_nil))) pe_int) (pa_cons (pe_tup pa_nil) pa_nil))))) pa_nil))))
      (gss_cons (gs_while owns_gcx (pt_truthK (K0 := K) (pv 3) (fun _ => rfl)) (gss_cons (gs_ps (ps_asg (pe_bm0K (K0 := K) PySem.F.plainAttrs_list PySem.F.slot_list_pop PySem.F.type_list_pop mt_pop (pv 3)) (pg_tup rfl (pgs_cons (pg_name (i := 4) nd rfl (Or.inl rfl)) (pgs_cons (pg_name (i := 5) nd rfl (Or.inl rfl)) (pgs_cons (pg_name (i := 6) nd rfl (Or.inl rfl)) (pgs_cons (pg_name (i := 7) nd rfl (Or.inl rfl)) pgs_nil)))))))
      (gss_cons (gs_if (pt_cmpR op_eq (pv 6) pe_int (nomark _)) (gss_cons (gs_yield (pe_callTy (r := rTupOf K) call_tuple_of rfl (c.fr _ (.tail _ (.tail _ (.tail _ (.head _))))) PyProof.Rows.boot_tuple (pa_cons (pe_callB (r := rSortedD K) (cr_sortedD hr.units) rfl (c.fr _ (.head _)) PyProof.Rows.boot_sorted (pa_cons (pv 4) pa_nil)) pa_nil)))
      (gss_cons (gs_ps ps_continue)
      gss_nil)) (gss_pss pss_nil))
      (gss_cons (gs_ps (ps_set (i := 8) nd rfl (Or.inl rfl) (pe_lst pa_nil)))
      (gss_cons (gs_ps (ps_for owns_gcx rfl (pi_tupK (K0 := K) (pe_ix (r := rIxL K) ix_list (pv 1) (pe_op op_sub (pe_bits (pe_op op_and (pv 6) (pe_un un_neg (pv 6)))) pe_int) (fun _ _ => rfl))) (pg_name (i := 9) nd rfl (Or.inl rfl)) (pss_one (ps_if (pt_cmpR (r := rIn K true) op_notIn_seq (pv 9) (pv 7) rfl) (pss_cons (ps_set (i := 10) nd rfl (Or.inr rfl) (pe_dget (hu_of hr) (pv 2) (pv 9) (fun _ _ => rfl)))
      (pss_cons (ps_set (i := 11) nd rfl (Or.inl rfl) (pe_callTy (r := rTupOf K) call_tuple_of rfl (c.fr _ (.tail _ (.tail _ (.tail _ (.head _))))) PyProof.Rows.boot_tuple (pa_cons (pe_lc (own := [("own", 12)]) (g := gName 12) (tt := tYes) rfl nd (pi_tupK (K0 := K) (pv 5)) (blkOk_by (N := ["sets", "rows", "masks", "stack", "chosen", "alone", "unmet", "barred", "nodes", "member", "mask", "left", "own"]) (sc := defScope (top 4)) (by first | decide +kernel | rfl)) (fun _ _ _ _ _ => pg_name (i := 12) nd rfl (by first | exact Or.inl rfl | exact Or.inr rfl)) (fun _ _ _ _ _ => pts_nil) (fun _ _ _ _ _ => (pe_op op_sub (pv 12) (pe_op op_and (pv 12) (pv 10))))) pa_nil)))
      (pss_cons (ps_if (pt_cmpR (r := rIn K true) op_notIn_seq pe_int (pv 11) rfl) (pss_one (ps_expr (pe_bmK (K0 := K) PySem.F.plainAttrs_list PySem.F.slot_list_append PySem.F.type_list_append mt_append (pv 8) (pa_cons (pe_tup (pa_cons (pe_op (r := rCatA K) op_catA (pv 4) (pe_tup (pa_cons (pv 9) pa_nil))) (pa_cons (pe_op (r := rCatA K) op_catA (pv 11) (pe_tup (pa_cons (pe_op op_and (pv 6) (pv 10)) pa_nil))) (pa_cons (pe_op op_sub (pv 6) (pe_op op_and (pv 6) (pv 10))) (pa_cons (pv 7) pa_nil))))) pa_nil)))) pss_nil)
      (pss_one (ps_set (i := 7) nd rfl (Or.inl rfl) (pe_op (r := rCatA K) op_catA (pv 7) (pe_tup (pa_cons (pv 9) pa_nil)))))))) pss_nil))))
      (gss_cons (gs_ps (ps_expr (pe_bmK (K0 := K) PySem.F.plainAttrs_list PySem.F.slot_list_extend PySem.F.type_list_extend mt_extend (pv 3) (pa_cons (pe_revLK (K0 := K) (pv 8)) pa_nil))))
      gss_nil))))))
      gss_nil)))), ?_⟩
    show Sg K T _ [.val (.list (tR sets)), .no, .no, .no, .no, .no, .no, .no, .no, .no, .no, .no, .no] [] _
    refine sg_then (sg_plain (ss_set (ex_call0 (exa_cons (ex_var rfl (exa_nil ⟨[.val _], ⟨rfl, trivial⟩, ⟨sets, (.inl rfl), hlen, hrow, (st_n (by walk_at "len") (by walk_at "setn") fun p1 => ?_)⟩⟩))))))
    refine sg_then (sg_plain (ss_set (ex_call0 (exa_cons (ex_bor rfl (exa_nil ⟨[.val _], ⟨⟨_, _, rfl, rfl⟩, (by decide), trivial⟩, ⟨diffR sets, rfl, by omega, diff_len hrow, fun kvs hkv him => (st_n (by walk_at "len") (by walk_at "setn") fun p2 => ?_)⟩⟩))))))
    have hrow' := diff_len hrow
    generalize hR : diffR sets = rows at hN htr hkv hrow' ⊢
    refine sg_frz (i := 1) rfl ?_
    show Sg K T _ [.val (.list (tR sets)), .val (.list (tR rows)), .own p2 (.dK kvs), .no, .no, .no, .no, .no, .no, .no, .no, .no, .no] [] _
    have b1 : Builtin.Int.intBits 1 = 1 := by decide
    have lr : (tR rows).length = rows.length := len_tR rows
    refine sg_then (sg_plain (ss_set (ex_lst (exa_cons (ex_tup (exa_cons (ex_tup (exa_nil ⟨[], trivial, (by decide), (exa_cons (ex_tup (exa_nil ⟨[], trivial, (by decide), (exa_cons (ex_op (ex_op (ex_int (ex_cb (exa_cons (ex_var rfl (exa_nil ⟨[_], ⟨rfl, trivial⟩, cb_lenL ⟨_, _, rfl, rfl, opd_I ⟨by omega, by rw [b1, lr]; omega⟩ (.int _) (ex_int ⟨_, _, rfl, rfl, opd_I0 (.int _) (exa_cons (ex_tup (exa_nil ⟨[], trivial, (by decide), (exa_nil ⟨[_, _, _, _], ⟨rfl, rfl, rfl, rfl, trivial⟩, (by walk_at "len"), (exa_nil ⟨[_], ⟨rfl, trivial⟩, (by walk_at "len"), (st_n (by walk_at "len") (by walk_at "setn") fun p3 => ?_)⟩)⟩)⟩)))⟩)⟩⟩))))))))⟩)))⟩))))))))
    have e0 : PyData.tuple [.tuple [], .tuple [], .int (1 * 2 ^ ((((tR rows).length : Nat) : Int)).toNat - 1), .tuple []] = nD (root rows.length) := by
      have e1 : (1 : Int) * 2 ^ ((((tR rows).length : Nat) : Int)).toNat - 1 = ((2 ^ rows.length - 1 : Nat) : Int) := by
        rw [Int.one_mul, Int.toNat_natCast, lr]
        have := Nat.two_pow_pos rows.length
        have e2 : ((2 ^ rows.length : Nat) : Int) = (2 : Int) ^ rows.length := by simp
        rw [← e2]
        omega
      rw [e1]
      rfl
    rw [e0]
    have rm : RM rows (maskN rows) := maskN_row
    have hr64 : ∀ r ∈ rows, r.length ≤ 64 := fun r hr => Nat.le_of_lt (hrow' r hr)
    refine sg_then (sg_while (W := fun m zs δ => ∃ (out : List (List Int)) (st : List Node) (L : List (List Int)) (x4 x5 x6 x7 x8 x9 x10 x11 : Sl), zs = tR out ∧ δ = [.val (.list (tR sets)), .val (.list (tR rows)), .own p2 (.dK kvs), .own p3 (.lst (st.reverse.map nD)), x4, x5, x6, x7, x8, x9, x10, x11, .no] ∧
        Fo (fun i => rows.getD i []) (maskN rows) st L m ∧ out ++ L = L0 ∧ Low st ∧ ∀ n ∈ st, Good (maskN rows) rows.length n)
      ⟨s0, [], [root rows.length], L0, .no, .no, .no, .no, .no, .no, .no, .no, rfl, rfl, by have := Fo.cons htr .nil; rw [List.append_nil, Nat.add_zero] at this; exact this, rfl, ⟨Nat.zero_le _, trivial⟩, fun n hn => by rw [List.mem_singleton.mp hn]; exact root_good _ _⟩ (fun m zs δ hW => ?_))
    obtain ⟨out, st, L, x4, x5, x6, x7, x8, x9, x10, x11, rfl, rfl, hfo, hout, hlow, hgood⟩ := hW
    refine et_truL (ex_bor rfl ⟨_, ⟨_, _, rfl, rfl⟩, ite2 (fun hc => ?_) (fun hc => ?_)⟩)
    · -- a turn
      cases hfo with
      | nil => simp at hc
      | @cons n st L1 L2 s1 s2 ht hf =>
        have gn := hgood n List.mem_cons_self
        have gst : ∀ k ∈ st, Good (maskN rows) rows.length k := fun k hk => hgood k (List.mem_cons_of_mem _ hk)
        rw [List.reverse_cons, List.map_append]
        refine sg_then (sg_plain (ss_asg (ex_lm0 ⟨_, _, rfl, lm_pop (d := nD n) ⟨_, rfl, gt_tup rfl (gts_cons (gt_name (gts_cons (gt_name (gts_cons (gt_name (gts_cons (gt_name (gts_nil ?_)))))))))⟩⟩)))
        show Sg K T _ [.val (.list (tR sets)), .val (.list (tR rows)), .own p2 (.dK kvs), .own p3 (.lst (st.reverse.map nD)), .val (tI n.ch), .val (.tuple (mI n.al)), .val (.int (n.un : Int)), .val (tI n.br), x8, x9, x10, x11, .no] (tR out) _
        refine sg_then (sg_if (et_test (ex_op (ex_var rfl (ex_int ⟨_, _, rfl, rfl, opd_eqI ⟨_, rfl, (ite2 (fun hc => ?_) (fun hc => ?_))⟩⟩)))))
        · have hun : n.un = 0 := by
            have := of_decide_eq_true hc
            omega
          cases ht with
          | leaf _ =>
            have hlo : (tR out).length < 100000 := by
              rw [len_tR]
              have := congrArg List.length hout
              rw [List.length_append, List.length_append] at this
              have h1 : [asc n.ch].length = 1 := rfl
              omega
            refine sg_then (sg_yield hlo (ex_cb (exa_cons (ex_cb (exa_cons (ex_var rfl (exa_nil ⟨[_], ⟨rfl, trivial⟩, cb_sortedT (imm_ints _) (alike_is _) (sortable_is _) (depth_is _) (exa_nil ⟨[_], ⟨rfl, trivial⟩, cb_tupL (by rw [sort_ch gn.nd]; exact imm_ints _) ⟨_, rfl, ?_⟩⟩)⟩)))))))
            rw [sort_ch gn.nd]
            refine sg_then (sg_plain (ss_cont ?_))
            have e1 : tR out ++ [PyData.tuple ((asc n.ch).map .int)] = tR (out ++ [asc n.ch]) := tR_snoc out _
            rw [e1]
            exact ⟨s2, by omega, out ++ [asc n.ch], st, L2, _, _, _, _, _, _, _, _, rfl, rfl, hf, by rw [List.append_assoc]; exact hout, hlow.2, gst⟩
          | node h _ => exact (h hun).elim
        · have hun : n.un ≠ 0 := fun z => hc (by rw [z]; rfl)
          refine sg_plain (ss_next ?_)
          cases ht with
          | leaf h => exact (hun h).elim
          | @node _ _ s1' _ hk =>
            obtain ⟨hl, hb⟩ := gn.low hun
            have gk : ∀ k ∈ kids (maskN rows) n (rows.getD (Pl.low n.un) []) n.br, Good (maskN rows) rows.length k ∧ k.ch.length = n.ch.length + 1 := fun k hk => Good.kid rm hr64 gn hun hk
            have er : rows[Pl.low n.un]? = some (rows.getD (Pl.low n.un) []) := by
              rw [List.getD_eq_getElem?_getD, List.getElem?_eq_getElem hl]
              rfl
            have hk : Fo (fun i => rows.getD i []) (maskN rows) (kids (maskN rows) n (rows.getD (Pl.low n.un) []) n.br) L1 s1' := hk
            generalize hR0 : rows.getD (Pl.low n.un) [] = R0 at gk er hk
            have hR64 : R0.length ≤ 64 := hr64 R0 (List.mem_of_getElem? er)
            have hch : n.ch.length ≤ 60 := by have := gn.pc; omega
            have hbr : n.br.length ≤ 3840 := by have := gn.br; omega
            have hal := gn.al
            refine sg_then (sg_plain (ss_set (ex_lst (exa_nil ⟨[], trivial, (by decide), (st_n (by walk_at "len") (by walk_at "setn") fun p8 => ?_)⟩))))
            refine sg_then (sg_plain (ss_forT (ex_ixL (ex_var rfl (ex_op (ex_bits (ex_op (ex_var rfl (ex_un (ex_var rfl ⟨_, rfl, und_I (.int _) ⟨_, _, rfl, rfl, opd_I0 (.int _) ⟨_, rfl, (ex_int ⟨_, _, rfl, rfl, opd_I0 (.int _) ⟨_, _, tI R0, rfl, rfl, (by rw [low_int (Nat.pos_of_ne_zero hun), at_natR hl, hR0]), .inr ⟨_, rfl⟩, ⟨_, rfl, (fun j δ => ∃ x9 x10 x11, δ = [.val (.list (tR sets)), .val (.list (tR rows)), .own p2 (.dK kvs), .own p3 (.lst (st.reverse.map nD)), .val (tI n.ch), .val (.tuple (mI n.al)), .val (.int (n.un : Int)), .val (tI ((R0.take j).foldl insN n.br)), .own p8 (.lst ((kids (maskN rows) n (R0.take j) n.br).map nD)), x9, x10, x11, .no]), ⟨x9, x10, x11, rfl⟩, (fun j d δ2 hd hW => ?_), (fun δ2 hW => ?_)⟩⟩⟩)⟩⟩⟩))))))))))
            · -- a member
              obtain ⟨x9, x10, x11, rfl⟩ := hW
              obtain ⟨m, hm, rfl⟩ := get_ints hd
              have hj : j < R0.length := (List.getElem?_eq_some_iff.mp hm).1
              have e1 : R0.take (j + 1) = R0.take j ++ [m] := by rw [List.take_add_one, hm]; rfl
              have e2 : (R0.take (j + 1)).foldl insN n.br = insN ((R0.take j).foldl insN n.br) m := by rw [e1, List.foldl_append]; rfl
              have e3 := kids_snoc (maskN rows) n m (R0.take j) n.br
              rw [← e1] at e3
              have lb : ((R0.take j).foldl insN n.br).length ≤ 3840 + 64 := by
                have : ∀ (l L : List Int), (l.foldl insN L).length ≤ L.length + l.length := by
                  intro l
                  induction l with
                  | nil => intro L; exact Nat.le_refl _
                  | cons x l ih =>
                    intro L
                    have h1 := ih (insN L x)
                    have h2 := len_insN (L := L) (r := x)
                    rw [List.foldl_cons, List.length_cons]
                    omega
                have h1 := this (R0.take j) n.br
                rw [List.length_take] at h1
                omega
              have lk : (kids (maskN rows) n (R0.take j) n.br).length ≤ 64 := by
                have := kids_len (msk := maskN rows) (n := n) (R := R0.take j) (br := n.br)
                rw [List.length_take] at this
                omega
              refine gt_name ?_
              generalize hB : (R0.take j).foldl insN n.br = B at e2 e3 lb ⊢
              generalize hKs : kids (maskN rows) n (R0.take j) n.br = Ks at e3 lk ⊢
              show Ss K T _ [.val (.list (tR sets)), .val (.list (tR rows)), .own p2 (.dK kvs), .own p3 (.lst (st.reverse.map nD)), .val (tI n.ch), .val (.tuple (mI n.al)), .val (.int (n.un : Int)), .val (tI B), .own p8 (.lst (Ks.map nD)), .val (.int m), x10, x11, .no] _
              refine ss_if (et_test (ex_op (ex_var rfl (ex_var rfl ⟨_, _, rfl, rfl, opd_niT ⟨_, rfl, (ite2 (fun hc => ?_) (fun hc => ?_))⟩⟩))))
              · have hmB : m ∉ B := by simpa using hc
                rw [if_neg hmB] at e3
                have e2' : (R0.take (j + 1)).foldl insN n.br = B ++ [m] := by rw [e2]; unfold insN; rw [if_neg hmB]
                have hmR : m ∈ R0 := List.mem_of_getElem? hm
                refine ss_seq (ss_set (ex_dget ⟨⟨_, _, rfl⟩, (ex_var rfl ⟨.inl m, _, _, _, rfl, rfl, hkv m ⟨R0, List.mem_of_getElem? er, hmR⟩, (st_v (by walk_at "set") ?_)⟩)⟩))
                refine ss_seq (ss_set (ex_cb (exa_cons (ex_mapT (f := fun d => match d with | .int i => .int (i - Builtin.bitAnd i (maskN rows m : Nat)) | d => d) (ex_var rfl ⟨_, rfl, rfl, by show (mI n.al).length ≤ _; unfold mI; rw [List.length_map]; omega, fun d hd => ?_, ?_⟩)))))
                · obtain ⟨a, _, rfl⟩ := List.mem_map.mp hd
                  exact ex_op (ex_var rfl (ex_op (ex_var rfl (ex_var rfl ⟨_, _, rfl, rfl, opd_I0 (.int _) ⟨_, _, rfl, rfl, opd_I0 (.int _) ⟨rfl, rfl⟩⟩⟩))))
                have eL : ((mI n.al).map fun d => match d with | .int i => .int (i - Builtin.bitAnd i (maskN rows m : Nat)) | d => d) = mI (left (maskN rows) n m) := by
                  unfold mI left
                  rw [List.map_map, List.map_map]
                  refine List.map_congr_left fun a _ => ?_
                  show PyData.int ((a : Int) - Builtin.bitAnd (a : Int) (maskN rows m : Nat)) = PyData.int _
                  rw [int_sub_and]
                rw [eL]
                refine exa_nil ⟨[_], ⟨rfl, trivial⟩, cb_tupL (imm_mI _) (st_v (by walk_at "set") ?_)⟩
                have ec : PyData.tuple (mI (left (maskN rows) n m)) = .tuple (((left (maskN rows) n m).map fun (m : Nat) => (m : Int)).map .int) := by rw [mI_eq]
                refine ss_mid (fun δ => δ = [.val (.list (tR sets)), .val (.list (tR rows)), .own p2 (.dK kvs), .own p3 (.lst (st.reverse.map nD)), .val (tI n.ch), .val (.tuple (mI n.al)), .val (.int (n.un : Int)), .val (tI B), .own p8 (.lst ((Ks ++ child (maskN rows) n B m).map nD)), .val (.int m), .val (.int (maskN rows m : Nat)), .val (.tuple (mI (left (maskN rows) n m))), .no])
                  (ss_if (et_test (ex_op (ex_int (ex_var rfl ⟨_, _, rfl, ec.symm, opd_niT ⟨_, rfl, (ite2 (fun hc => ?_) (fun hc => ?_))⟩⟩))))) (fun δ1 hW => ?_)
                · have h0 : 0 ∉ left (maskN rows) n m := fun z => by
                    have := mem_cast.mpr z
                    simp [this] at hc
                  have ek : child (maskN rows) n B m = [⟨n.ch ++ [m], left (maskN rows) n m ++ [n.un &&& maskN rows m], n.un - (n.un &&& maskN rows m), B⟩] := by
                    unfold child
                    rw [if_neg h0]
                  rw [ek]
                  have ll : (left (maskN rows) n m).length ≤ 60 := by unfold left; rw [List.length_map]; omega
                  refine ss_drop (ex_lm ⟨⟨_, _, rfl⟩, (exa_cons (ex_tup (exa_cons (ex_op (ex_var rfl (ex_tup (exa_cons (ex_var rfl (exa_nil ⟨[_], ⟨rfl, trivial⟩, (by walk_at "len"), ⟨_, _, rfl, rfl, opd_catA (imm_ints _) rfl (by rw [List.length_map]; show n.ch.length + 1 ≤ _; omega) (exa_cons (ex_op (ex_var rfl (ex_tup (exa_cons (ex_op (ex_var rfl (ex_var rfl ⟨_, _, rfl, rfl, opd_I0 (.int _) (exa_nil ⟨[_], ⟨rfl, trivial⟩, (by walk_at "len"), ⟨_, _, rfl, rfl, opd_catA (imm_mI _) rfl (by unfold mI; rw [List.length_map]; show (left (maskN rows) n m).length + 1 ≤ _; omega) (exa_cons (ex_op (ex_var rfl (ex_op (ex_var rfl (ex_var rfl ⟨_, _, rfl, rfl, opd_I0 (.int _) ⟨_, _, rfl, rfl, opd_I0 (.int _) (exa_cons (ex_var rfl (exa_nil ⟨[_, _, _, _], ⟨rfl, rfl, rfl, rfl, trivial⟩, (by walk_at "len"), (exa_nil ⟨[_], _, _, ⟨rfl, trivial⟩, rfl, lm_append (by rw [List.length_map]; omega) ?_⟩)⟩)))⟩⟩))))))⟩⟩)⟩))))))))⟩⟩)))))))))⟩)
                  rw [List.map_append, int_sub_and, int_and]
                  have e5 : PyData.tuple [.tuple (n.ch.map .int ++ [.int m]), .tuple (mI (left (maskN rows) n m) ++ [.int ((n.un &&& maskN rows m : Nat) : Int)]), .int ((n.un - (n.un &&& maskN rows m) : Nat) : Int), tI B] = nD ⟨n.ch ++ [m], left (maskN rows) n m ++ [n.un &&& maskN rows m], n.un - (n.un &&& maskN rows m), B⟩ := by
                    unfold nD tI mI
                    rw [List.map_append, List.map_append]
                    rfl
                  rw [e5]
                  rfl
                · have h0 : 0 ∈ left (maskN rows) n m := by
                    have : (0 : Int) ∈ (left (maskN rows) n m).map fun (m : Nat) => (m : Int) := by simpa using hc
                    exact mem_cast.mp this
                  have ek : child (maskN rows) n B m = [] := by
                    unfold child
                    rw [if_pos h0]
                  rw [ek, List.append_nil]
                  exact ss_next rfl
                · subst hW
                  refine ss_set (ex_op (ex_var rfl (ex_tup (exa_cons (ex_var rfl (exa_nil ⟨[_], ⟨rfl, trivial⟩, (by walk_at "len"), ⟨_, _, rfl, rfl, opd_catA (imm_ints _) rfl (by rw [List.length_map]; show B.length + 1 ≤ _; omega) (st_v (by walk_at "set") ?_)⟩⟩))))))
                  have e6 : B.map PyData.int ++ [.int m] = (B ++ [m]).map .int := by rw [List.map_append]; rfl
                  refine ⟨.val (.int m), .val (.int (maskN rows m : Nat)), .val (.tuple (mI (left (maskN rows) n m))), ?_⟩
                  rw [e6, e2', e3]
                  rfl
              · have hmB : m ∈ B := by simpa using hc
                rw [if_pos hmB, List.append_nil] at e3
                have e2' : (R0.take (j + 1)).foldl insN n.br = B := by rw [e2]; unfold insN; rw [if_pos hmB]
                exact ss_next ⟨.val (.int m), x10, x11, by rw [e2', e3]⟩
            · -- the members are done
              obtain ⟨x9, x10, x11, rfl⟩ := hW
              have eR : (R0.map PyData.int).length = R0.length := List.length_map _
              rw [eR, List.take_length]
              have lk : (kids (maskN rows) n R0 n.br).length ≤ 64 := Nat.le_trans kids_len hR64
              have lst := Low.len hlow.2 fun k hk => by
                have := (gst k hk).pc
                show k.ch.length ≤ rows.length
                omega
              refine sg_then (sg_plain (ss_drop (ex_ext ⟨⟨_, _, rfl⟩, (ex_revL (ex_bor rfl ⟨_, ⟨_, _, rfl, rfl⟩, imm_nDs _, ⟨_, _, _, rfl, rfl, by rw [List.length_map, List.length_reverse, List.length_reverse, List.length_map]; omega, ?_⟩⟩))⟩)))
              rw [← List.map_reverse, ← List.map_append, ← List.reverse_append]
              refine sg_nil ⟨s1' + s2, by omega, out, kids (maskN rows) n R0 n.br ++ st, L1 ++ L2, _, _, _, _, _, _, _, _, rfl, rfl, hf.append hk, hout, hlow.2.kids hlow.1 lk fun k hk => (gk k hk).2, fun k hk => ?_⟩
              rcases List.mem_append.mp hk with z | z
              · exact (gk k z).1
              · exact gst k z
    · -- the end
      have hst : st = [] := by
        cases st with
        | nil => rfl
        | cons a b => simp at hc
      subst hst
      cases hfo
      rw [List.append_nil] at hout
      subst hout
      exact sg_nil ⟨imm_tR _, hQ⟩

  · refine ⟨_, (gss_cons (gs_ps (ps_set (i := 1) nd rfl (Or.inl rfl) (pe_f h_different_sets hr rfl (pa_cons (pv 0) pa_nil))))
      (gss_cons (gs_ps (ps_set (i := 2) nd rfl (Or.inl rfl) (pe_f h_meeting_masks (hr.mono (by decide)) rfl (pa_cons (pv 1) pa_nil))))
      (gss_cons (gs_ps (ps_set (i := 3) nd rfl (Or.inl rfl) (pe_lst (pa_cons (pe_tup (pa_cons (pe_tup pa_nil) (pa_cons (pe_tup pa_nil) (pa_cons (pe_op op_sub (pe_op op_shlW pe_int (pe_callB (r := Pl.rLen K) call_len rfl (c.fr _ (.tail _ (.head _))) PySem.boot_len (pa_cons (pv 1) pa_nil))) pe_int) (pa_cons (pe_tup pa_nil) pa_nil))))) pa_nil))))
      (gss_cons (gs_while owns_gcx (pt_truthK (K0 := K) (pv 3) (fun _ => rfl)) (gss_cons (gs_ps (ps_asg (pe_bm0K (K0 := K) PySem.F.plainAttrs_list PySem.F.slot_list_pop PySem.F.type_list_pop mt_pop (pv 3)) (pg_tup rfl (pgs_cons (pg_name (i := 4) nd rfl (Or.inl rfl)) (pgs_cons (pg_name (i := 5) nd rfl (Or.inl rfl)) (pgs_cons (pg_name (i := 6) nd rfl (Or.inl rfl)) (pgs_cons (pg_name (i := 7) nd rfl (Or.inl rfl)) pgs_nil)))))))
      (gss_cons (gs_if (pt_cmpR op_eq (pv 6) pe_int (nomark _)) (gss_cons (gs_yield (pe_callTy (r := rTupOf K) call_tuple_of rfl (c.fr _ (.tail _ (.tail _ (.tail _ (.head _))))) PyProof.Rows.boot_tuple (pa_cons (pe_callB (r := rSortedD K) (cr_sortedD hr.units) rfl (c.fr _ (.head _)) PyProof.Rows.boot_sorted (pa_cons (pv 4) pa_nil)) pa_nil)))
      (gss_cons (gs_ps ps_continue)
      gss_nil)) (gss_pss pss_nil))
      (gss_cons (gs_ps (ps_set (i := 8) nd rfl (Or.inl rfl) (pe_lst pa_nil)))
      (gss_cons (gs_ps (ps_for owns_gcx rfl (pi_tupK (K0 := K) (pe_ix (r := rIxL K) ix_list (pv 1) (pe_op op_sub (pe_bits (pe_op op_and (pv 6) (pe_un un_neg (pv 6)))) pe_int) (fun _ _ => rfl))) (pg_name (i := 9) nd rfl (Or.inl rfl)) (pss_one (ps_if (pt_cmpR (r := rIn K true) op_notIn_seq (pv 9) (pv 7) rfl) (pss_cons (ps_set (i := 10) nd rfl (Or.inr rfl) (pe_dget (hu_of hr) (pv 2) (pv 9) (fun _ _ => rfl)))
      (pss_cons (ps_set (i := 11) nd rfl (Or.inl rfl) (pe_callTy (r := rTupOf K) call_tuple_of rfl (c.fr _ (.tail _ (.tail _ (.tail _ (.head _))))) PyProof.Rows.boot_tuple (pa_cons (pe_lc (own := [("own", 12)]) (g := gName 12) (tt := tYes) rfl nd (pi_tupK (K0 := K) (pv 5)) (blkOk_by (N := ["sets", "rows", "masks", "stack", "chosen", "alone", "unmet", "barred", "nodes", "member", "mask", "left", "own"]) (sc := defScope (top 4)) (by first | decide +kernel | rfl)) (fun _ _ _ _ _ => pg_name (i := 12) nd rfl (by first | exact Or.inl rfl | exact Or.inr rfl)) (fun _ _ _ _ _ => pts_nil) (fun _ _ _ _ _ => (pe_op op_sub (pv 12) (pe_op op_and (pv 12) (pv 10))))) pa_nil)))
      (pss_cons (ps_if (pt_cmpR (r := rIn K true) op_notIn_seq pe_int (pv 11) rfl) (pss_one (ps_expr (pe_bmK (K0 := K) PySem.F.plainAttrs_list PySem.F.slot_list_append PySem.F.type_list_append mt_append (pv 8) (pa_cons (pe_tup (pa_cons (pe_op (r := rCatA K) op_catA (pv 4) (pe_tup (pa_cons (pv 9) pa_nil))) (pa_cons (pe_op (r := rCatA K) op_catA (pv 11) (pe_tup (pa_cons (pe_op op_and (pv 6) (pv 10)) pa_nil))) (pa_cons (pe_op op_sub (pv 6) (pe_op op_and (pv 6) (pv 10))) (pa_cons (pv 7) pa_nil))))) pa_nil)))) pss_nil)
      (pss_one (ps_set (i := 7) nd rfl (Or.inl rfl) (pe_op (r := rCatA K) op_catA (pv 7) (pe_tup (pa_cons (pv 9) pa_nil)))))))) pss_nil))))
      (gss_cons (gs_ps (ps_expr (pe_bmK (K0 := K) PySem.F.plainAttrs_list PySem.F.slot_list_extend PySem.F.type_list_extend mt_extend (pv 3) (pa_cons (pe_revLK (K0 := K) (pv 8)) pa_nil))))
      gss_nil))))))
      gss_nil)))), ?_⟩
    show Sg K T _ [.val (.tuple (tR sets)), .no, .no, .no, .no, .no, .no, .no, .no, .no, .no, .no, .no] [] _
    refine sg_then (sg_plain (ss_set (ex_call0 (exa_cons (ex_var rfl (exa_nil ⟨[.val _], ⟨rfl, trivial⟩, ⟨sets, (.inr rfl), hlen, hrow, (st_n (by walk_at "len") (by walk_at "setn") fun p1 => ?_)⟩⟩))))))
    refine sg_then (sg_plain (ss_set (ex_call0 (exa_cons (ex_bor rfl (exa_nil ⟨[.val _], ⟨⟨_, _, rfl, rfl⟩, (by decide), trivial⟩, ⟨diffR sets, rfl, by omega, diff_len hrow, fun kvs hkv him => (st_n (by walk_at "len") (by walk_at "setn") fun p2 => ?_)⟩⟩))))))
    have hrow' := diff_len hrow
    generalize hR : diffR sets = rows at hN htr hkv hrow' ⊢
    refine sg_frz (i := 1) rfl ?_
    show Sg K T _ [.val (.tuple (tR sets)), .val (.list (tR rows)), .own p2 (.dK kvs), .no, .no, .no, .no, .no, .no, .no, .no, .no, .no] [] _
    have b1 : Builtin.Int.intBits 1 = 1 := by decide
    have lr : (tR rows).length = rows.length := len_tR rows
    refine sg_then (sg_plain (ss_set (ex_lst (exa_cons (ex_tup (exa_cons (ex_tup (exa_nil ⟨[], trivial, (by decide), (exa_cons (ex_tup (exa_nil ⟨[], trivial, (by decide), (exa_cons (ex_op (ex_op (ex_int (ex_cb (exa_cons (ex_var rfl (exa_nil ⟨[_], ⟨rfl, trivial⟩, cb_lenL ⟨_, _, rfl, rfl, opd_I ⟨by omega, by rw [b1, lr]; omega⟩ (.int _) (ex_int ⟨_, _, rfl, rfl, opd_I0 (.int _) (exa_cons (ex_tup (exa_nil ⟨[], trivial, (by decide), (exa_nil ⟨[_, _, _, _], ⟨rfl, rfl, rfl, rfl, trivial⟩, (by walk_at "len"), (exa_nil ⟨[_], ⟨rfl, trivial⟩, (by walk_at "len"), (st_n (by walk_at "len") (by walk_at "setn") fun p3 => ?_)⟩)⟩)⟩)))⟩)⟩⟩))))))))⟩)))⟩))))))))
    have e0 : PyData.tuple [.tuple [], .tuple [], .int (1 * 2 ^ ((((tR rows).length : Nat) : Int)).toNat - 1), .tuple []] = nD (root rows.length) := by
      have e1 : (1 : Int) * 2 ^ ((((tR rows).length : Nat) : Int)).toNat - 1 = ((2 ^ rows.length - 1 : Nat) : Int) := by
        rw [Int.one_mul, Int.toNat_natCast, lr]
        have := Nat.two_pow_pos rows.length
        have e2 : ((2 ^ rows.length : Nat) : Int) = (2 : Int) ^ rows.length := by simp
        rw [← e2]
        omega
      rw [e1]
      rfl
    rw [e0]
    have rm : RM rows (maskN rows) := maskN_row
    have hr64 : ∀ r ∈ rows, r.length ≤ 64 := fun r hr => Nat.le_of_lt (hrow' r hr)
    refine sg_then (sg_while (W := fun m zs δ => ∃ (out : List (List Int)) (st : List Node) (L : List (List Int)) (x4 x5 x6 x7 x8 x9 x10 x11 : Sl), zs = tR out ∧ δ = [.val (.tuple (tR sets)), .val (.list (tR rows)), .own p2 (.dK kvs), .own p3 (.lst (st.reverse.map nD)), x4, x5, x6, x7, x8, x9, x10, x11, .no] ∧
        Fo (fun i => rows.getD i []) (maskN rows) st L m ∧ out ++ L = L0 ∧ Low st ∧ ∀ n ∈ st, Good (maskN rows) rows.length n)
      ⟨s0, [], [root rows.length], L0, .no, .no, .no, .no, .no, .no, .no, .no, rfl, rfl, by have := Fo.cons htr .nil; rw [List.append_nil, Nat.add_zero] at this; exact this, rfl, ⟨Nat.zero_le _, trivial⟩, fun n hn => by rw [List.mem_singleton.mp hn]; exact root_good _ _⟩ (fun m zs δ hW => ?_))
    obtain ⟨out, st, L, x4, x5, x6, x7, x8, x9, x10, x11, rfl, rfl, hfo, hout, hlow, hgood⟩ := hW
    refine et_truL (ex_bor rfl ⟨_, ⟨_, _, rfl, rfl⟩, ite2 (fun hc => ?_) (fun hc => ?_)⟩)
    · -- a turn
      cases hfo with
      | nil => simp at hc
      | @cons n st L1 L2 s1 s2 ht hf =>
        have gn := hgood n List.mem_cons_self
        have gst : ∀ k ∈ st, Good (maskN rows) rows.length k := fun k hk => hgood k (List.mem_cons_of_mem _ hk)
        rw [List.reverse_cons, List.map_append]
        refine sg_then (sg_plain (ss_asg (ex_lm0 ⟨_, _, rfl, lm_pop (d := nD n) ⟨_, rfl, gt_tup rfl (gts_cons (gt_name (gts_cons (gt_name (gts_cons (gt_name (gts_cons (gt_name (gts_nil ?_)))))))))⟩⟩)))
        show Sg K T _ [.val (.tuple (tR sets)), .val (.list (tR rows)), .own p2 (.dK kvs), .own p3 (.lst (st.reverse.map nD)), .val (tI n.ch), .val (.tuple (mI n.al)), .val (.int (n.un : Int)), .val (tI n.br), x8, x9, x10, x11, .no] (tR out) _
        refine sg_then (sg_if (et_test (ex_op (ex_var rfl (ex_int ⟨_, _, rfl, rfl, opd_eqI ⟨_, rfl, (ite2 (fun hc => ?_) (fun hc => ?_))⟩⟩)))))
        · have hun : n.un = 0 := by
            have := of_decide_eq_true hc
            omega
          cases ht with
          | leaf _ =>
            have hlo : (tR out).length < 100000 := by
              rw [len_tR]
              have := congrArg List.length hout
              rw [List.length_append, List.length_append] at this
              have h1 : [asc n.ch].length = 1 := rfl
              omega
            refine sg_then (sg_yield hlo (ex_cb (exa_cons (ex_cb (exa_cons (ex_var rfl (exa_nil ⟨[_], ⟨rfl, trivial⟩, cb_sortedT (imm_ints _) (alike_is _) (sortable_is _) (depth_is _) (exa_nil ⟨[_], ⟨rfl, trivial⟩, cb_tupL (by rw [sort_ch gn.nd]; exact imm_ints _) ⟨_, rfl, ?_⟩⟩)⟩)))))))
            rw [sort_ch gn.nd]
            refine sg_then (sg_plain (ss_cont ?_))
            have e1 : tR out ++ [PyData.tuple ((asc n.ch).map .int)] = tR (out ++ [asc n.ch]) := tR_snoc out _
            rw [e1]
            exact ⟨s2, by omega, out ++ [asc n.ch], st, L2, _, _, _, _, _, _, _, _, rfl, rfl, hf, by rw [List.append_assoc]; exact hout, hlow.2, gst⟩
          | node h _ => exact (h hun).elim
        · have hun : n.un ≠ 0 := fun z => hc (by rw [z]; rfl)
          refine sg_plain (ss_next ?_)
          cases ht with
          | leaf h => exact (hun h).elim
          | @node _ _ s1' _ hk =>
            obtain ⟨hl, hb⟩ := gn.low hun
            have gk : ∀ k ∈ kids (maskN rows) n (rows.getD (Pl.low n.un) []) n.br, Good (maskN rows) rows.length k ∧ k.ch.length = n.ch.length + 1 := fun k hk => Good.kid rm hr64 gn hun hk
            have er : rows[Pl.low n.un]? = some (rows.getD (Pl.low n.un) []) := by
              rw [List.getD_eq_getElem?_getD, List.getElem?_eq_getElem hl]
              rfl
            have hk : Fo (fun i => rows.getD i []) (maskN rows) (kids (maskN rows) n (rows.getD (Pl.low n.un) []) n.br) L1 s1' := hk
            generalize hR0 : rows.getD (Pl.low n.un) [] = R0 at gk er hk
            have hR64 : R0.length ≤ 64 := hr64 R0 (List.mem_of_getElem? er)
            have hch : n.ch.length ≤ 60 := by have := gn.pc; omega
            have hbr : n.br.length ≤ 3840 := by have := gn.br; omega
            have hal := gn.al
            refine sg_then (sg_plain (ss_set (ex_lst (exa_nil ⟨[], trivial, (by decide), (st_n (by walk_at "len") (by walk_at "setn") fun p8 => ?_)⟩))))
            refine sg_then (sg_plain (ss_forT (ex_ixL (ex_var rfl (ex_op (ex_bits (ex_op (ex_var rfl (ex_un (ex_var rfl ⟨_, rfl, und_I (.int _) ⟨_, _, rfl, rfl, opd_I0 (.int _) ⟨_, rfl, (ex_int ⟨_, _, rfl, rfl, opd_I0 (.int _) ⟨_, _, tI R0, rfl, rfl, (by rw [low_int (Nat.pos_of_ne_zero hun), at_natR hl, hR0]), .inr ⟨_, rfl⟩, ⟨_, rfl, (fun j δ => ∃ x9 x10 x11, δ = [.val (.tuple (tR sets)), .val (.list (tR rows)), .own p2 (.dK kvs), .own p3 (.lst (st.reverse.map nD)), .val (tI n.ch), .val (.tuple (mI n.al)), .val (.int (n.un : Int)), .val (tI ((R0.take j).foldl insN n.br)), .own p8 (.lst ((kids (maskN rows) n (R0.take j) n.br).map nD)), x9, x10, x11, .no]), ⟨x9, x10, x11, rfl⟩, (fun j d δ2 hd hW => ?_), (fun δ2 hW => ?_)⟩⟩⟩)⟩⟩⟩))))))))))
            · -- a member
              obtain ⟨x9, x10, x11, rfl⟩ := hW
              obtain ⟨m, hm, rfl⟩ := get_ints hd
              have hj : j < R0.length := (List.getElem?_eq_some_iff.mp hm).1
              have e1 : R0.take (j + 1) = R0.take j ++ [m] := by rw [List.take_add_one, hm]; rfl
              have e2 : (R0.take (j + 1)).foldl insN n.br = insN ((R0.take j).foldl insN n.br) m := by rw [e1, List.foldl_append]; rfl
              have e3 := kids_snoc (maskN rows) n m (R0.take j) n.br
              rw [← e1] at e3
              have lb : ((R0.take j).foldl insN n.br).length ≤ 3840 + 64 := by
                have : ∀ (l L : List Int), (l.foldl insN L).length ≤ L.length + l.length := by
                  intro l
                  induction l with
                  | nil => intro L; exact Nat.le_refl _
                  | cons x l ih =>
                    intro L
                    have h1 := ih (insN L x)
                    have h2 := len_insN (L := L) (r := x)
                    rw [List.foldl_cons, List.length_cons]
                    omega
                have h1 := this (R0.take j) n.br
                rw [List.length_take] at h1
                omega
              have lk : (kids (maskN rows) n (R0.take j) n.br).length ≤ 64 := by
                have := kids_len (msk := maskN rows) (n := n) (R := R0.take j) (br := n.br)
                rw [List.length_take] at this
                omega
              refine gt_name ?_
              generalize hB : (R0.take j).foldl insN n.br = B at e2 e3 lb ⊢
              generalize hKs : kids (maskN rows) n (R0.take j) n.br = Ks at e3 lk ⊢
              show Ss K T _ [.val (.tuple (tR sets)), .val (.list (tR rows)), .own p2 (.dK kvs), .own p3 (.lst (st.reverse.map nD)), .val (tI n.ch), .val (.tuple (mI n.al)), .val (.int (n.un : Int)), .val (tI B), .own p8 (.lst (Ks.map nD)), .val (.int m), x10, x11, .no] _
              refine ss_if (et_test (ex_op (ex_var rfl (ex_var rfl ⟨_, _, rfl, rfl, opd_niT ⟨_, rfl, (ite2 (fun hc => ?_) (fun hc => ?_))⟩⟩))))
              · have hmB : m ∉ B := by simpa using hc
                rw [if_neg hmB] at e3
                have e2' : (R0.take (j + 1)).foldl insN n.br = B ++ [m] := by rw [e2]; unfold insN; rw [if_neg hmB]
                have hmR : m ∈ R0 := List.mem_of_getElem? hm
                refine ss_seq (ss_set (ex_dget ⟨⟨_, _, rfl⟩, (ex_var rfl ⟨.inl m, _, _, _, rfl, rfl, hkv m ⟨R0, List.mem_of_getElem? er, hmR⟩, (st_v (by walk_at "set") ?_)⟩)⟩))
                refine ss_seq (ss_set (ex_cb (exa_cons (ex_mapT (f := fun d => match d with | .int i => .int (i - Builtin.bitAnd i (maskN rows m : Nat)) | d => d) (ex_var rfl ⟨_, rfl, rfl, by show (mI n.al).length ≤ _; unfold mI; rw [List.length_map]; omega, fun d hd => ?_, ?_⟩)))))
                · obtain ⟨a, _, rfl⟩ := List.mem_map.mp hd
                  exact ex_op (ex_var rfl (ex_op (ex_var rfl (ex_var rfl ⟨_, _, rfl, rfl, opd_I0 (.int _) ⟨_, _, rfl, rfl, opd_I0 (.int _) ⟨rfl, rfl⟩⟩⟩))))
                have eL : ((mI n.al).map fun d => match d with | .int i => .int (i - Builtin.bitAnd i (maskN rows m : Nat)) | d => d) = mI (left (maskN rows) n m) := by
                  unfold mI left
                  rw [List.map_map, List.map_map]
                  refine List.map_congr_left fun a _ => ?_
                  show PyData.int ((a : Int) - Builtin.bitAnd (a : Int) (maskN rows m : Nat)) = PyData.int _
                  rw [int_sub_and]
                rw [eL]
                refine exa_nil ⟨[_], ⟨rfl, trivial⟩, cb_tupL (imm_mI _) (st_v (by walk_at "set") ?_)⟩
                have ec : PyData.tuple (mI (left (maskN rows) n m)) = .tuple (((left (maskN rows) n m).map fun (m : Nat) => (m : Int)).map .int) := by rw [mI_eq]
                refine ss_mid (fun δ => δ = [.val (.tuple (tR sets)), .val (.list (tR rows)), .own p2 (.dK kvs), .own p3 (.lst (st.reverse.map nD)), .val (tI n.ch), .val (.tuple (mI n.al)), .val (.int (n.un : Int)), .val (tI B), .own p8 (.lst ((Ks ++ child (maskN rows) n B m).map nD)), .val (.int m), .val (.int (maskN rows m : Nat)), .val (.tuple (mI (left (maskN rows) n m))), .no])
                  (ss_if (et_test (ex_op (ex_int (ex_var rfl ⟨_, _, rfl, ec.symm, opd_niT ⟨_, rfl, (ite2 (fun hc => ?_) (fun hc => ?_))⟩⟩))))) (fun δ1 hW => ?_)
                · have h0 : 0 ∉ left (maskN rows) n m := fun z => by
                    have := mem_cast.mpr z
                    simp [this] at hc
                  have ek : child (maskN rows) n B m = [⟨n.ch ++ [m], left (maskN rows) n m ++ [n.un &&& maskN rows m], n.un - (n.un &&& maskN rows m), B⟩] := by
                    unfold child
                    rw [if_neg h0]
                  rw [ek]
                  have ll : (left (maskN rows) n m).length ≤ 60 := by unfold left; rw [List.length_map]; omega
                  refine ss_drop (ex_lm ⟨⟨_, _, rfl⟩, (exa_cons (ex_tup (exa_cons (ex_op (ex_var rfl (ex_tup (exa_cons (ex_var rfl (exa_nil ⟨[_], ⟨rfl, trivial⟩, (by walk_at "len"), ⟨_, _, rfl, rfl, opd_catA (imm_ints _) rfl (by rw [List.length_map]; show n.ch.length + 1 ≤ _; omega) (exa_cons (ex_op (ex_var rfl (ex_tup (exa_cons (ex_op (ex_var rfl (ex_var rfl ⟨_, _, rfl, rfl, opd_I0 (.int _) (exa_nil ⟨[_], ⟨rfl, trivial⟩, (by walk_at "len"), ⟨_, _, rfl, rfl, opd_catA (imm_mI _) rfl (by unfold mI; rw [List.length_map]; show (left (maskN rows) n m).length + 1 ≤ _; omega) (exa_cons (ex_op (ex_var rfl (ex_op (ex_var rfl (ex_var rfl ⟨_, _, rfl, rfl, opd_I0 (.int _) ⟨_, _, rfl, rfl, opd_I0 (.int _) (exa_cons (ex_var rfl (exa_nil ⟨[_, _, _, _], ⟨rfl, rfl, rfl, rfl, trivial⟩, (by walk_at "len"), (exa_nil ⟨[_], _, _, ⟨rfl, trivial⟩, rfl, lm_append (by rw [List.length_map]; omega) ?_⟩)⟩)))⟩⟩))))))⟩⟩)⟩))))))))⟩⟩)))))))))⟩)
                  rw [List.map_append, int_sub_and, int_and]
                  have e5 : PyData.tuple [.tuple (n.ch.map .int ++ [.int m]), .tuple (mI (left (maskN rows) n m) ++ [.int ((n.un &&& maskN rows m : Nat) : Int)]), .int ((n.un - (n.un &&& maskN rows m) : Nat) : Int), tI B] = nD ⟨n.ch ++ [m], left (maskN rows) n m ++ [n.un &&& maskN rows m], n.un - (n.un &&& maskN rows m), B⟩ := by
                    unfold nD tI mI
                    rw [List.map_append, List.map_append]
                    rfl
                  rw [e5]
                  rfl
                · have h0 : 0 ∈ left (maskN rows) n m := by
                    have : (0 : Int) ∈ (left (maskN rows) n m).map fun (m : Nat) => (m : Int) := by simpa using hc
                    exact mem_cast.mp this
                  have ek : child (maskN rows) n B m = [] := by
                    unfold child
                    rw [if_pos h0]
                  rw [ek, List.append_nil]
                  exact ss_next rfl
                · subst hW
                  refine ss_set (ex_op (ex_var rfl (ex_tup (exa_cons (ex_var rfl (exa_nil ⟨[_], ⟨rfl, trivial⟩, (by walk_at "len"), ⟨_, _, rfl, rfl, opd_catA (imm_ints _) rfl (by rw [List.length_map]; show B.length + 1 ≤ _; omega) (st_v (by walk_at "set") ?_)⟩⟩))))))
                  have e6 : B.map PyData.int ++ [.int m] = (B ++ [m]).map .int := by rw [List.map_append]; rfl
                  refine ⟨.val (.int m), .val (.int (maskN rows m : Nat)), .val (.tuple (mI (left (maskN rows) n m))), ?_⟩
                  rw [e6, e2', e3]
                  rfl
              · have hmB : m ∈ B := by simpa using hc
                rw [if_pos hmB, List.append_nil] at e3
                have e2' : (R0.take (j + 1)).foldl insN n.br = B := by rw [e2]; unfold insN; rw [if_pos hmB]
                exact ss_next ⟨.val (.int m), x10, x11, by rw [e2', e3]⟩
            · -- the members are done
              obtain ⟨x9, x10, x11, rfl⟩ := hW
              have eR : (R0.map PyData.int).length = R0.length := List.length_map _
              rw [eR, List.take_length]
              have lk : (kids (maskN rows) n R0 n.br).length ≤ 64 := Nat.le_trans kids_len hR64
              have lst := Low.len hlow.2 fun k hk => by
                have := (gst k hk).pc
                show k.ch.length ≤ rows.length
                omega
              refine sg_then (sg_plain (ss_drop (ex_ext ⟨⟨_, _, rfl⟩, (ex_revL (ex_bor rfl ⟨_, ⟨_, _, rfl, rfl⟩, imm_nDs _, ⟨_, _, _, rfl, rfl, by rw [List.length_map, List.length_reverse, List.length_reverse, List.length_map]; omega, ?_⟩⟩))⟩)))
              rw [← List.map_reverse, ← List.map_append, ← List.reverse_append]
              refine sg_nil ⟨s1' + s2, by omega, out, kids (maskN rows) n R0 n.br ++ st, L1 ++ L2, _, _, _, _, _, _, _, _, rfl, rfl, hf.append hk, hout, hlow.2.kids hlow.1 lk fun k hk => (gk k hk).2, fun k hk => ?_⟩
              rcases List.mem_append.mp hk with z | z
              · exact (gk k z).1
              · exact gst k z
    · -- the end
      have hst : st = [] := by
        cases st with
        | nil => rfl
        | cons a b => simp at hc
      subst hst
      cases hfo
      rw [List.append_nil] at hout
      subst hout
      exact sg_nil ⟨imm_tR _, hQ⟩

end
end K21

set_option Elab.async false
set_option linter.all false
set_option maxRecDepth 100000
set_option maxHeartbeats 4000001
namespace K21
open PySem Pl
/-! ### the plain law: minimal hitting sets -/
/-- r meets each set, and each of its members is needed -/
def MinHit (S : List (List Int)) (r : List Int) : Prop := (∀ s ∈ S, ∃ x ∈ s, x ∈ r) ∧ ∀ x ∈ r, ∃ s ∈ S, ∀ y ∈ s, y ∈ r → y = x
theorem MinHit.sets {S S' : List (List Int)} {r : List Int} (h : ∀ s, s ∈ S ↔ s ∈ S') (m : MinHit S r) : MinHit S' r :=
  ⟨fun s hs => m.1 s ((h s).mpr hs), fun x hx => let ⟨s, hs, q⟩ := m.2 x hx; ⟨s, (h s).mp hs, q⟩⟩
/-- the same with sets told by other lists -/
theorem MinHit.alike {S S' : List (List Int)} {r : List Int} (h1 : ∀ s ∈ S', ∃ t ∈ S, ∀ x, x ∈ t ↔ x ∈ s) (h2 : ∀ s ∈ S, ∃ t ∈ S', ∀ x, x ∈ s ↔ x ∈ t) (m : MinHit S r) : MinHit S' r := by
  refine ⟨fun s hs => ?_, fun x hx => ?_⟩
  · obtain ⟨t, ht, e⟩ := h1 s hs
    obtain ⟨x, hx, hr⟩ := m.1 t ht
    exact ⟨x, (e x).mp hx, hr⟩
  · obtain ⟨s, hs, q⟩ := m.2 x hx
    obtain ⟨t, ht, e⟩ := h2 s hs
    exact ⟨t, ht, fun y hy hr => q y ((e y).mpr hy) hr⟩
theorem MinHit.mem {S : List (List Int)} {r : List Int} (m : MinHit S r) {x : Int} (hx : x ∈ r) : ∃ s ∈ S, x ∈ s ∧ ∀ y ∈ s, y ∈ r → y = x := by
  obtain ⟨s, hs, q⟩ := m.2 x hx
  obtain ⟨y, hy, hr⟩ := m.1 s hs
  have e := q y hy hr
  subst e
  exact ⟨s, hs, hy, q⟩
/-- a smaller one that meets all is the same -/
theorem MinHit.least {S : List (List Int)} {r t : List Int} (m : MinHit S r) (ht : ∀ x ∈ t, x ∈ r) (hh : ∀ s ∈ S, ∃ x ∈ s, x ∈ t) : ∀ x, x ∈ t ↔ x ∈ r := fun x => ⟨ht x, fun hx => by
  obtain ⟨s, hs, q⟩ := m.2 x hx
  obtain ⟨y, hy, hyt⟩ := hh s hs
  have := q y hy (ht y hyt)
  rw [← this]
  exact hyt⟩
/-- what meets all holds a least one -/
theorem MinHit.below {S : List (List Int)} : ∀ (n : Nat) (c : List Int), c.length ≤ n → (∀ s ∈ S, ∃ x ∈ s, x ∈ c) → ∃ r, Asc r ∧ (∀ x ∈ r, x ∈ c) ∧ MinHit S r
  | 0, c, hl, hh => by
    have e : c = [] := List.length_eq_zero_iff.mp (Nat.le_zero.mp hl)
    subst e
    exact ⟨[], List.Pairwise.nil, fun x hx => hx, hh, fun x hx => nomatch hx⟩
  | n + 1, c, hl, hh => by
    by_cases h : ∃ x ∈ c, ∀ s ∈ S, ∃ y ∈ s, y ∈ c ∧ y ≠ x
    · obtain ⟨x, hx, q⟩ := h
      obtain ⟨r, h1, h2, h3⟩ := MinHit.below n (c.filter fun y => decide (y ≠ x)) (by
        have hlt : (c.filter fun y => decide (y ≠ x)).length < c.length := by
          refine Nat.lt_of_le_of_ne (List.length_filter_le _ _) fun e => ?_
          have := List.length_filter_eq_length_iff.mp e x hx
          simp at this
        omega) fun s hs => by
        obtain ⟨y, hy, hyc, hne⟩ := q s hs
        exact ⟨y, hy, List.mem_filter.mpr ⟨hyc, decide_eq_true hne⟩⟩
      exact ⟨r, h1, fun x hx => (List.mem_filter.mp (h2 x hx)).1, h3⟩
    · refine ⟨asc c, asc_asc c, fun x hx => mem_asc.mp hx, fun s hs => ?_, fun x hx => ?_⟩
      · obtain ⟨x, hx, hc⟩ := hh s hs
        exact ⟨x, hx, mem_asc.mpr hc⟩
      · have hx := mem_asc.mp hx
        refine Classical.byContradiction fun z => h ⟨x, hx, fun s hs => ?_⟩
        refine Classical.byContradiction fun z2 => z ⟨s, hs, fun y hy hyr => ?_⟩
        refine Classical.byContradiction fun z3 => z2 ⟨y, hy, mem_asc.mp hyr, z3⟩
/-! ### the search finds them all, each once -/
/-- masks that tell the rows -/
structure Exact (rows : List (List Int)) (msk : Int → Nat) : Prop where
  bit : ∀ x i, (msk x).testBit i = true ↔ ∃ r, rows[i]? = some r ∧ x ∈ r
structure NInv (rows : List (List Int)) (msk : Int → Nat) (n : Node) : Prop where
  un : ∀ i, n.un.testBit i = true ↔ i < rows.length ∧ ∀ x ∈ n.ch, (msk x).testBit i = false
  nd : n.ch.Nodup
  len : n.al.length = n.ch.length
  al : ∀ (j : Nat) (x : Int) (a : Nat), n.ch[j]? = some x → n.al[j]? = some a → a ≠ 0 ∧ ∀ i, a.testBit i = true ↔ (msk x).testBit i = true ∧ ∀ y ∈ n.ch, y ≠ x → (msk y).testBit i = false
  dis : ∀ x ∈ n.ch, x ∉ n.br
def Sol (rows : List (List Int)) (n : Node) (r : List Int) : Prop := Asc r ∧ MinHit rows r ∧ (∀ x ∈ n.ch, x ∈ r) ∧ ∀ x ∈ n.br, x ∉ r
variable {rows : List (List Int)} {msk : Int → Nat}
theorem sol_leaf (ex : Exact rows msk) {n : Node} (v : NInv rows msk n) (h : n.un = 0) (r : List Int) : r ∈ [asc n.ch] ↔ Sol rows n r := by
  have hits : ∀ s ∈ rows, ∃ x ∈ s, x ∈ n.ch := fun s hs => by
    obtain ⟨i, hi⟩ := List.mem_iff_getElem?.mp hs
    refine Classical.byContradiction fun z => ?_
    have : n.un.testBit i = true := (v.un i).mpr ⟨(List.getElem?_eq_some_iff.mp hi).1, fun x hx => by
      cases hb : (msk x).testBit i with
      | false => rfl
      | true =>
        obtain ⟨r', h1, h2⟩ := (ex.bit x i).mp hb
        rw [hi] at h1
        cases h1
        exact (z ⟨x, h2, hx⟩).elim⟩
    rw [h, Nat.zero_testBit] at this
    cases this
  rw [List.mem_singleton]
  constructor
  · rintro rfl
    refine ⟨asc_asc _, ⟨fun s hs => ?_, fun x hx => ?_⟩, fun x hx => mem_asc.mpr hx, fun x hx hr => v.dis x (mem_asc.mp hr) hx⟩
    · obtain ⟨x, h1, h2⟩ := hits s hs
      exact ⟨x, h1, mem_asc.mpr h2⟩
    · have hx := mem_asc.mp hx
      obtain ⟨j, hj⟩ := List.mem_iff_getElem?.mp hx
      have hjl : j < n.al.length := by rw [v.len]; exact (List.getElem?_eq_some_iff.mp hj).1
      obtain ⟨h1, h2⟩ := v.al j x _ hj (List.getElem?_eq_getElem hjl)
      obtain ⟨i, hi⟩ : ∃ i, (n.al[j]).testBit i = true := by
        refine Classical.byContradiction fun z => h1 (Nat.eq_of_testBit_eq fun i => ?_)
        rw [Nat.zero_testBit]
        cases hb : (n.al[j]).testBit i with
        | false => rfl
        | true => exact (z ⟨i, hb⟩).elim
      obtain ⟨h3, h4⟩ := (h2 i).mp hi
      obtain ⟨s, hs, _⟩ := (ex.bit x i).mp h3
      refine ⟨s, List.mem_of_getElem? hs, fun y hy hyr => ?_⟩
      have hyc := mem_asc.mp hyr
      refine Classical.byContradiction fun z => ?_
      have := h4 y hyc z
      rw [(ex.bit y i).mpr ⟨s, hs, hy⟩] at this
      cases this
  · rintro ⟨h1, h2, h3, _⟩
    exact (asc_of h1 fun x => ((MinHit.least h2 h3 hits) x).symm)
/-- the kids -/
theorem kid_inv (ex : Exact rows msk) {n : Node} (v : NInv rows msk n) {m : Int} {br : List Int} (i0 : Nat) (h0 : n.un.testBit i0 = true) (hm : (msk m).testBit i0 = true) (hmb : m ∉ br) (hbr : ∀ x ∈ n.ch, x ∉ br) (hl : 0 ∉ left msk n m) :
    NInv rows msk ⟨n.ch ++ [m], left msk n m ++ [n.un &&& msk m], n.un - (n.un &&& msk m), br⟩ := by
  have hmc : m ∉ n.ch := fun z => by
    have := ((v.un i0).mp h0).2 m z
    rw [hm] at this
    cases this
  refine ⟨fun i => ?_, ?_, ?_, fun j x a hx ha => ?_, fun x hx => ?_⟩
  · show (n.un - (n.un &&& msk m)).testBit i = true ↔ i < rows.length ∧ ∀ x ∈ n.ch ++ [m], (msk x).testBit i = false
    rw [testBit_sub_and, Bool.and_eq_true, Bool.not_eq_true', v.un i]
    constructor
    · rintro ⟨⟨h1, h2⟩, h3⟩
      refine ⟨h1, fun x hx => ?_⟩
      rcases List.mem_append.mp hx with z | z
      · exact h2 x z
      · rw [List.mem_singleton.mp z]; exact h3
    · rintro ⟨h1, h2⟩
      exact ⟨⟨h1, fun x hx => h2 x (List.mem_append_left _ hx)⟩, h2 m (List.mem_append_right _ List.mem_cons_self)⟩
  · refine List.nodup_append.mpr ⟨v.nd, by simp, fun a ha b hb e => ?_⟩
    have e2 : b = m := List.mem_singleton.mp hb
    subst e e2
    exact hmc ha
  · show (left msk n m ++ [n.un &&& msk m]).length = (n.ch ++ [m]).length
    unfold left
    rw [List.length_append, List.length_append, List.length_map, v.len]
    rfl
  · have hx : (n.ch ++ [m])[j]? = some x := hx
    have ha : (left msk n m ++ [n.un &&& msk m])[j]? = some a := ha
    have ll : (left msk n m).length = n.ch.length := by unfold left; rw [List.length_map, v.len]
    by_cases hj : j < n.ch.length
    · rw [List.getElem?_append_left hj] at hx
      rw [List.getElem?_append_left (by rw [ll]; exact hj)] at ha
      have hxc : x ∈ n.ch := List.mem_of_getElem? hx
      have ham : a ∈ left msk n m := List.mem_of_getElem? ha
      obtain ⟨a0, h1, h2⟩ : ∃ a0, n.al[j]? = some a0 ∧ a0 - (a0 &&& msk m) = a := by
        unfold left at ha
        rw [List.getElem?_map] at ha
        cases e : n.al[j]? with
        | none => rw [e] at ha; cases ha
        | some a0 => rw [e] at ha; exact ⟨a0, rfl, Option.some.inj ha⟩
      obtain ⟨_, h3⟩ := v.al j x a0 hx h1
      refine ⟨fun z => hl (by rw [← z]; exact ham), fun i => ?_⟩
      rw [← h2, testBit_sub_and, Bool.and_eq_true, Bool.not_eq_true', h3 i]
      constructor
      · rintro ⟨⟨q1, q2⟩, q3⟩
        refine ⟨q1, fun y hy hne => ?_⟩
        rcases List.mem_append.mp hy with z | z
        · exact q2 y z hne
        · rw [List.mem_singleton.mp z]; exact q3
      · rintro ⟨q1, q2⟩
        exact ⟨⟨q1, fun y hy => q2 y (List.mem_append_left _ hy)⟩, q2 m (List.mem_append_right _ List.mem_cons_self) fun e => hmc (by rw [e]; exact hxc)⟩
    · have hj2 : j = n.ch.length := by
        have := (List.getElem?_eq_some_iff.mp hx).1
        rw [List.length_append, List.length_singleton] at this
        omega
      subst hj2
      rw [List.getElem?_append_right (Nat.le_refl _), Nat.sub_self] at hx
      rw [List.getElem?_append_right (by rw [ll]; exact Nat.le_refl _), ll, Nat.sub_self] at ha
      have ex2 : x = m := (Option.some.inj hx).symm
      have ea : a = n.un &&& msk m := (Option.some.inj ha).symm
      subst ex2 ea
      refine ⟨fun z => ?_, fun i => ?_⟩
      · have : (n.un &&& msk x).testBit i0 = true := by rw [Nat.testBit_and, h0, hm]; rfl
        rw [z, Nat.zero_testBit] at this
        cases this
      · rw [Nat.testBit_and, Bool.and_eq_true, v.un i]
        constructor
        · rintro ⟨⟨_, q2⟩, q3⟩
          refine ⟨q3, fun y hy hne => ?_⟩
          rcases List.mem_append.mp hy with z | z
          · exact q2 y z
          · exact (hne (List.mem_singleton.mp z)).elim
        · rintro ⟨q1, q2⟩
          obtain ⟨r, hr, _⟩ := (ex.bit x i).mp q1
          exact ⟨⟨(List.getElem?_eq_some_iff.mp hr).1, fun y hy => q2 y (List.mem_append_left _ hy) fun e => hmc (by rw [← e]; exact hy)⟩, q1⟩
  · have hx : x ∈ n.ch ++ [m] := hx
    rcases List.mem_append.mp hx with z | z
    · exact hbr x z
    · rw [List.mem_singleton.mp z]; exact hmb
/-- each least set that holds m gives a kid -/
theorem kid_there (ex : Exact rows msk) {n : Node} (v : NInv rows msk n) {m : Int} {r : List Int} (hmin : MinHit rows r) (hch : ∀ x ∈ n.ch, x ∈ r) (hmc : m ∉ n.ch) (hm : m ∈ r) : 0 ∉ left msk n m := fun z => by
  unfold left at z
  obtain ⟨a, ha, e⟩ := List.mem_map.mp z
  obtain ⟨j, hj⟩ := List.mem_iff_getElem?.mp ha
  have hjl : j < n.ch.length := by rw [← v.len]; exact (List.getElem?_eq_some_iff.mp hj).1
  have hx := List.getElem?_eq_getElem hjl
  obtain ⟨_, h2⟩ := v.al j _ a hx hj
  have hxc : n.ch[j] ∈ n.ch := List.getElem_mem _
  obtain ⟨s, hs, hxs, q⟩ := hmin.mem (hch _ hxc)
  obtain ⟨i, hi⟩ := List.mem_iff_getElem?.mp hs
  have no : ∀ y, y ∈ r → y ≠ n.ch[j] → (msk y).testBit i = false := fun y hy hne => by
    cases hb : (msk y).testBit i with
    | false => rfl
    | true =>
      obtain ⟨s', h1, h3⟩ := (ex.bit y i).mp hb
      rw [hi] at h1
      cases h1
      exact (hne (q y h3 hy)).elim
  have hb : a.testBit i = true := (h2 i).mpr ⟨(ex.bit _ i).mpr ⟨s, hi, hxs⟩, fun y hy hne => no y (hch y hy) hne⟩
  have hmb : (msk m).testBit i = false := no m hm fun e => hmc (by rw [e]; exact hxc)
  have : (a - (a &&& msk m)).testBit i = true := by rw [testBit_sub_and, hb, hmb]; rfl
  rw [e, Nat.zero_testBit] at this
  cases this
theorem kids_ok (ex : Exact rows msk) {n : Node} (v : NInv rows msk n) (i0 : Nat) (h0 : n.un.testBit i0 = true) : ∀ (R br : List Int), (∀ m ∈ R, (msk m).testBit i0 = true) → (∀ x ∈ n.ch, x ∉ br) →
    (∀ k ∈ kids msk n R br, NInv rows msk k) ∧ (kids msk n R br).Pairwise (fun a b => ∀ r, Sol rows a r → Sol rows b r → False) ∧
    ∀ r, (∃ k ∈ kids msk n R br, Sol rows k r) ↔ Asc r ∧ MinHit rows r ∧ (∀ x ∈ n.ch, x ∈ r) ∧ (∀ x ∈ br, x ∉ r) ∧ ∃ m ∈ R, m ∈ r
  | [], br, _, _ => ⟨(fun k hk => nomatch hk), List.Pairwise.nil, fun r => ⟨(fun ⟨k, hk, _⟩ => nomatch hk), (fun ⟨_, _, _, _, m, hm, _⟩ => nomatch hm)⟩⟩
  | m :: R, br, hR, hb => by
    have hm0 := hR m List.mem_cons_self
    have hmc : m ∉ n.ch := fun z => by
      have := ((v.un i0).mp h0).2 m z
      rw [hm0] at this
      cases this
    have hR' : ∀ x ∈ R, (msk x).testBit i0 = true := fun x hx => hR x (List.mem_cons_of_mem _ hx)
    by_cases hmb : m ∈ br
    · have e : kids msk n (m :: R) br = kids msk n R br := if_pos hmb
      rw [e]
      obtain ⟨h1, h2, h3⟩ := kids_ok ex v i0 h0 R br hR' hb
      refine ⟨h1, h2, fun r => ?_⟩
      rw [h3 r]
      constructor
      · rintro ⟨q1, q2, q3, q4, x, hx, hxr⟩
        exact ⟨q1, q2, q3, q4, x, List.mem_cons_of_mem _ hx, hxr⟩
      · rintro ⟨q1, q2, q3, q4, x, hx, hxr⟩
        refine ⟨q1, q2, q3, q4, x, ?_, hxr⟩
        rcases List.mem_cons.mp hx with z | z
        · rw [z] at hxr; exact (q4 m hmb hxr).elim
        · exact z
    · have e : kids msk n (m :: R) br = child msk n br m ++ kids msk n R (br ++ [m]) := if_neg hmb
      rw [e]
      have hb' : ∀ x ∈ n.ch, x ∉ br ++ [m] := fun x hx z => by
        rcases List.mem_append.mp z with z | z
        · exact hb x hx z
        · rw [List.mem_singleton.mp z] at hx; exact hmc hx
      obtain ⟨h1, h2, h3⟩ := kids_ok ex v i0 h0 R (br ++ [m]) hR' hb'
      have hc : ∀ k ∈ child msk n br m, 0 ∉ left msk n m ∧ k = ⟨n.ch ++ [m], left msk n m ++ [n.un &&& msk m], n.un - (n.un &&& msk m), br⟩ := fun k hk => by
        unfold child at hk
        split at hk
        · cases hk
        · rename_i h
          exact ⟨h, List.mem_singleton.mp hk⟩
      refine ⟨fun k hk => ?_, ?_, fun r => ?_⟩
      · rcases List.mem_append.mp hk with z | z
        · obtain ⟨q1, rfl⟩ := hc k z
          exact kid_inv ex v i0 h0 hm0 hmb hb q1
        · exact h1 k z
      · refine List.pairwise_append.mpr ⟨?_, h2, fun a ha b hb2 r sa sb => ?_⟩
        · unfold child
          split
          · exact List.Pairwise.nil
          · exact List.pairwise_singleton _ _
        · obtain ⟨_, rfl⟩ := hc a ha
          have h5 := (h3 r).mp ⟨b, hb2, sb⟩
          exact h5.2.2.2.1 m (List.mem_append_right _ List.mem_cons_self) (sa.2.2.1 m (List.mem_append_right _ List.mem_cons_self))
      · constructor
        · rintro ⟨k, hk, sk⟩
          rcases List.mem_append.mp hk with z | z
          · obtain ⟨q1, rfl⟩ := hc k z
            exact ⟨sk.1, sk.2.1, fun x hx => sk.2.2.1 x (List.mem_append_left _ hx), sk.2.2.2, m, List.mem_cons_self, sk.2.2.1 m (List.mem_append_right _ List.mem_cons_self)⟩
          · obtain ⟨q1, q2, q3, q4, x, hx, hxr⟩ := (h3 r).mp ⟨k, z, sk⟩
            exact ⟨q1, q2, q3, fun y hy => q4 y (List.mem_append_left _ hy), x, List.mem_cons_of_mem _ hx, hxr⟩
        · rintro ⟨q1, q2, q3, q4, x, hx, hxr⟩
          by_cases hmr : m ∈ r
          · have hl := kid_there ex v q2 q3 hmc hmr
            refine ⟨_, List.mem_append_left _ (by unfold child; rw [if_neg hl]; exact List.mem_cons_self), q1, q2, fun y hy => ?_, q4⟩
            have hy : y ∈ n.ch ++ [m] := hy
            rcases List.mem_append.mp hy with z | z
            · exact q3 y z
            · rw [List.mem_singleton.mp z]; exact hmr
          · obtain ⟨k, hk, sk⟩ := (h3 r).mpr ⟨q1, q2, q3, fun y hy => by
              rcases List.mem_append.mp hy with z | z
              · exact q4 y z
              · rw [List.mem_singleton.mp z]; exact hmr, x, by
                rcases List.mem_cons.mp hx with z | z
                · rw [z] at hxr; exact (hmr hxr).elim
                · exact z, hxr⟩
            exact ⟨k, List.mem_append_right _ hk, sk⟩
theorem node_ok (ex : Exact rows msk) {n : Node} (v : NInv rows msk n) (h : n.un ≠ 0) :
    (∀ k ∈ kids msk n (rows.getD (low n.un) []) n.br, NInv rows msk k ∧ k.un < n.un) ∧ (kids msk n (rows.getD (low n.un) []) n.br).Pairwise (fun a b => ∀ r, Sol rows a r → Sol rows b r → False) ∧
    ∀ r, (∃ k ∈ kids msk n (rows.getD (low n.un) []) n.br, Sol rows k r) ↔ Sol rows n r := by
  obtain ⟨hb, _⟩ := low_spec (Nat.pos_of_ne_zero h)
  have hl := ((v.un _).mp hb).1
  have er : rows[low n.un]? = some (rows.getD (low n.un) []) := by
    rw [List.getD_eq_getElem?_getD, List.getElem?_eq_getElem hl]
    rfl
  have hR : ∀ m ∈ rows.getD (low n.un) [], (msk m).testBit (low n.un) = true := fun m hm => (ex.bit m _).mpr ⟨_, er, hm⟩
  obtain ⟨h1, h2, h3⟩ := kids_ok ex v _ hb _ n.br hR v.dis
  refine ⟨fun k hk => ⟨h1 k hk, ?_⟩, h2, fun r => ?_⟩
  · obtain ⟨m, hm, br', rfl, _⟩ := kids_mem hk
    show n.un - (n.un &&& msk m) < n.un
    have : n.un &&& msk m ≠ 0 := fun z => by
      have q : (n.un &&& msk m).testBit (low n.un) = true := by rw [Nat.testBit_and, hb, hR m hm]; rfl
      rw [z, Nat.zero_testBit] at q
      cases q
    have : n.un &&& msk m ≤ n.un := Nat.and_le_left
    omega
  · rw [h3 r]
    constructor
    · rintro ⟨q1, q2, q3, q4, _⟩
      exact ⟨q1, q2, q3, q4⟩
    · rintro ⟨q1, q2, q3, q4⟩
      obtain ⟨x, hx, hxr⟩ := q2.1 _ (List.mem_of_getElem? er)
      exact ⟨q1, q2, q3, q4, x, hx, hxr⟩
mutual
theorem tr_ok (ex : Exact rows msk) : ∀ {n : Node} {L : List (List Int)} {s : Nat}, Tr (fun i => rows.getD i []) msk n L s → NInv rows msk n → L.Nodup ∧ ∀ r, r ∈ L ↔ Sol rows n r
  | _, _, _, .leaf h, v => ⟨by simp, sol_leaf ex v h⟩
  | _, _, _, .node h f, v => by
    obtain ⟨h1, h2, h3⟩ := node_ok ex v h
    obtain ⟨q1, q2⟩ := fo_ok ex f fun k hk => (h1 k hk).1
    exact ⟨q2 h2, fun r => (q1 r).trans (h3 r)⟩
theorem fo_ok (ex : Exact rows msk) : ∀ {ns : List Node} {L : List (List Int)} {s : Nat}, Fo (fun i => rows.getD i []) msk ns L s → (∀ n ∈ ns, NInv rows msk n) → (∀ r, r ∈ L ↔ ∃ n ∈ ns, Sol rows n r) ∧ (ns.Pairwise (fun a b => ∀ r, Sol rows a r → Sol rows b r → False) → L.Nodup)
  | _, _, _, .nil, _ => ⟨fun r => ⟨(fun h => nomatch h), (fun ⟨n, hn, _⟩ => nomatch hn)⟩, fun _ => List.nodup_nil⟩
  | _, _, _, .cons t f, v => by
    obtain ⟨a1, a2⟩ := tr_ok ex t (v _ List.mem_cons_self)
    obtain ⟨b1, b2⟩ := fo_ok ex f fun k hk => v k (List.mem_cons_of_mem _ hk)
    refine ⟨fun r => ?_, fun hp => ?_⟩
    · rw [List.mem_append, a2 r, b1 r]
      constructor
      · rintro (h | ⟨k, hk, h⟩)
        · exact ⟨_, List.mem_cons_self, h⟩
        · exact ⟨k, List.mem_cons_of_mem _ hk, h⟩
      · rintro ⟨k, hk, h⟩
        rcases List.mem_cons.mp hk with z | z
        · rw [z] at h; exact .inl h
        · exact .inr ⟨k, z, h⟩
    · obtain ⟨p1, p2⟩ := List.pairwise_cons.mp hp
      refine List.nodup_append.mpr ⟨a1, b2 p2, fun r hr r' hr' e => ?_⟩
      subst e
      obtain ⟨k, hk, sk⟩ := (b1 r).mp hr'
      exact p1 k hk r ((a2 r).mp hr) sk
end
theorem tr_ex (ex : Exact rows msk) : ∀ (u : Nat) (n : Node), n.un = u → NInv rows msk n → ∃ L s, Tr (fun i => rows.getD i []) msk n L s := by
  intro u
  induction u using Nat.strongRecOn with
  | ind u ih =>
    intro n hn v
    by_cases h : n.un = 0
    · exact ⟨_, _, .leaf h⟩
    · obtain ⟨h1, _, _⟩ := node_ok ex v h
      have all : ∀ ks : List Node, (∀ k ∈ ks, NInv rows msk k ∧ k.un < n.un) → ∃ L s, Fo (fun i => rows.getD i []) msk ks L s := by
        intro ks
        induction ks with
        | nil => exact fun _ => ⟨_, _, .nil⟩
        | cons k ks ihk =>
          intro hk
          obtain ⟨L1, s1, t1⟩ := ih k.un (by have := (hk k List.mem_cons_self).2; omega) k rfl (hk k List.mem_cons_self).1
          obtain ⟨L2, s2, f2⟩ := ihk fun k' h' => hk k' (List.mem_cons_of_mem _ h')
          exact ⟨_, _, .cons t1 f2⟩
      obtain ⟨L, s, f⟩ := all _ h1
      exact ⟨_, _, .node h f⟩
theorem root_inv : NInv rows msk (root rows.length) := by
  refine ⟨fun i => ?_, List.nodup_nil, rfl, fun j x a hx => by simp [root] at hx, fun x hx => nomatch hx⟩
  show (2 ^ rows.length - 1).testBit i = true ↔ _
  rw [Nat.testBit_two_pow_sub_one, decide_eq_true_eq]
  exact ⟨fun h => ⟨h, fun x hx => nomatch hx⟩, fun h => h.1⟩
theorem exact_mask (rows : List (List Int)) : Exact rows (maskN rows) := ⟨fun x i => by
  unfold maskN
  rw [testBit_bits, Bool.and_eq_true, decide_eq_true_eq]
  unfold inRow
  rw [decide_eq_true_eq, List.getD_eq_getElem?_getD]
  constructor
  · rintro ⟨h1, h2⟩
    rw [List.getElem?_eq_getElem h1] at h2
    exact ⟨_, List.getElem?_eq_getElem h1, h2⟩
  · rintro ⟨r, h1, h2⟩
    refine ⟨(List.getElem?_eq_some_iff.mp h1).1, ?_⟩
    rw [h1]
    exact h2⟩
/-- the search from the root -/
theorem search (rows : List (List Int)) : ∃ L s, Tr (fun i => rows.getD i []) (maskN rows) (root rows.length) L s ∧ L.Nodup ∧ ∀ r, r ∈ L ↔ Asc r ∧ MinHit rows r := by
  have ex := exact_mask rows
  obtain ⟨L, s, t⟩ := tr_ex ex _ _ rfl (root_inv (rows := rows) (msk := maskN rows))
  obtain ⟨h1, h2⟩ := tr_ok ex t root_inv
  refine ⟨L, s, t, h1, fun r => (h2 r).trans ⟨fun h => ⟨h.1, h.2.1⟩, fun h => ⟨h.1, h.2, (fun x hx => nomatch hx), fun x hx => nomatch hx⟩⟩⟩
end K21

set_option Elab.async false
set_option linter.all false
set_option maxRecDepth 100000
set_option maxHeartbeats 4000001
namespace K21
open PySem Pl
theorem getD_inj {iz : List Int} (h : Asc iz) {i j : Nat} (hi : i < iz.length) (hj : j < iz.length) (e : iz.getD i 0 = iz.getD j 0) : i = j := by
  rw [List.getD_eq_getElem?_getD, List.getD_eq_getElem?_getD, List.getElem?_eq_getElem hi, List.getElem?_eq_getElem hj] at e
  have e : iz[i] = iz[j] := e
  rcases Nat.lt_trichotomy i j with z | z | z
  · have := List.pairwise_iff_getElem.mp h i j hi hj z
    omega
  · exact z
  · have := List.pairwise_iff_getElem.mp h j i hj hi z
    omega
theorem mem_getD {iz : List Int} {x : Int} : x ∈ iz ↔ ∃ i, i < iz.length ∧ iz.getD i 0 = x := by
  rw [List.mem_iff_getElem]
  constructor
  · rintro ⟨i, hi, e⟩
    refine ⟨i, hi, ?_⟩
    rw [List.getD_eq_getElem?_getD, List.getElem?_eq_getElem hi]
    exact e
  · rintro ⟨i, hi, e⟩
    refine ⟨i, hi, ?_⟩
    rw [List.getD_eq_getElem?_getD, List.getElem?_eq_getElem hi] at e
    exact e
theorem mem_rowOf {iz : List Int} {k : Nat} {x : Int} : x ∈ rowOf iz k ↔ ∃ i, i < iz.length ∧ k.testBit i = true ∧ iz.getD i 0 = x := by
  unfold rowOf
  rw [List.mem_map]
  constructor
  · rintro ⟨i, hi, e⟩
    obtain ⟨h1, h2⟩ := List.mem_filter.mp hi
    exact ⟨i, List.mem_range.mp h1, h2, e⟩
  · rintro ⟨i, h1, h2, e⟩
    exact ⟨i, List.mem_filter.mpr ⟨List.mem_range.mpr h1, h2⟩, e⟩
theorem asc_rowOf {iz : List Int} (h : Asc iz) (k : Nat) : Asc (rowOf iz k) := by
  unfold rowOf
  refine List.pairwise_map.mpr ?_
  have h1 : ((List.range iz.length).filter k.testBit).Pairwise (fun a b => a < b) := (List.pairwise_lt_range (n := iz.length)).filter _
  have h2 : ∀ i ∈ (List.range iz.length).filter k.testBit, i < iz.length := fun i hi => List.mem_range.mp (List.mem_filter.mp hi).1
  refine List.Pairwise.imp_of_mem (fun {a b} ha hb hab => ?_) h1
  have hi := h2 a ha
  have hj := h2 b hb
  rw [List.getD_eq_getElem?_getD, List.getD_eq_getElem?_getD, List.getElem?_eq_getElem hi, List.getElem?_eq_getElem hj]
  exact List.pairwise_iff_getElem.mp h a b hi hj hab
theorem meets_iff {sets : List (List Int)} {iz : List Int} {k : Nat} : meets (sets.map (maskOf iz)) k = true ↔ ∀ s ∈ sets, ∃ i, i < iz.length ∧ iz.getD i 0 ∈ s ∧ k.testBit i = true := by
  unfold meets
  rw [List.all_map, List.all_eq_true]
  refine forall_congr' fun s => forall_congr' fun hs => ?_
  show (maskOf iz s &&& k != 0) = true ↔ _
  rw [bne_iff_ne]
  constructor
  · intro h
    refine Classical.byContradiction fun z => h (Nat.eq_of_testBit_eq fun i => ?_)
    rw [Nat.testBit_and, Nat.zero_testBit]
    unfold maskOf
    rw [testBit_bits]
    cases hb : (decide (i < iz.length) && decide (iz.getD i 0 ∈ s) && k.testBit i) with
    | false => rfl
    | true =>
      simp only [Bool.and_eq_true, decide_eq_true_eq] at hb
      exact (z ⟨i, hb.1.1, hb.1.2, hb.2⟩).elim
  · rintro ⟨i, h1, h2, h3⟩ z
    have : (maskOf iz s &&& k).testBit i = true := by
      rw [Nat.testBit_and, h3]
      unfold maskOf
      rw [testBit_bits, decide_eq_true h1, decide_eq_true h2]
      rfl
    rw [z, Nat.zero_testBit] at this
    cases this
theorem bit_sub {k i j : Nat} (h : k.testBit i = true) : (k - 2 ^ i).testBit j = (k.testBit j && !decide (i = j)) := by
  have e : k &&& 2 ^ i = 2 ^ i := Nat.eq_of_testBit_eq fun j => by
    rw [Nat.testBit_and, Nat.testBit_two_pow]
    by_cases hj : i = j
    · subst hj; rw [h]; rfl
    · rw [decide_eq_false hj, Bool.and_false]
  have := testBit_sub_and k (2 ^ i) j
  rw [e, Nat.testBit_two_pow] at this
  exact this
theorem isLeast_iff {sets : List (List Int)} {iz : List Int} (ha : Asc iz) (hin : ∀ s ∈ sets, ∀ x ∈ s, x ∈ iz) {k : Nat} : isLeast (sets.map (maskOf iz)) k iz.length = true ↔ MinHit sets (rowOf iz k) := by
  unfold isLeast
  rw [Bool.and_eq_true, List.all_eq_true]
  have hit : ∀ k, meets (sets.map (maskOf iz)) k = true ↔ ∀ s ∈ sets, ∃ x ∈ s, x ∈ rowOf iz k := fun k => by
    rw [meets_iff]
    refine forall_congr' fun s => forall_congr' fun hs => ?_
    constructor
    · rintro ⟨i, h1, h2, h3⟩
      exact ⟨_, h2, mem_rowOf.mpr ⟨i, h1, h3, rfl⟩⟩
    · rintro ⟨x, hx, hr⟩
      obtain ⟨i, h1, h2, rfl⟩ := mem_rowOf.mp hr
      exact ⟨i, h1, hx, h2⟩
  rw [hit]
  refine and_congr Iff.rfl ⟨fun h x hx => ?_, fun h i hi => ?_⟩
  · obtain ⟨i, h1, h2, rfl⟩ := mem_rowOf.mp hx
    have h3 := h i (List.mem_range.mpr h1)
    rw [h2, Bool.true_and, Bool.not_eq_true'] at h3
    refine Classical.byContradiction fun z => ?_
    have : meets (sets.map (maskOf iz)) (k - 2 ^ i) = true := by
      rw [meets_iff]
      intro s hs
      refine Classical.byContradiction fun z2 => z ⟨s, hs, fun y hy hyr => ?_⟩
      obtain ⟨j, h4, h5, rfl⟩ := mem_rowOf.mp hyr
      refine Classical.byContradiction fun z3 => z2 ⟨j, h4, hy, ?_⟩
      rw [bit_sub h2, h5, decide_eq_false (fun e => z3 (by rw [e]))]
      rfl
    rw [this] at h3
    cases h3
  · have hi := List.mem_range.mp hi
    cases hb : k.testBit i with
    | false => rfl
    | true =>
      rw [Bool.true_and, Bool.not_eq_true']
      obtain ⟨s, hs, q⟩ := h _ (mem_rowOf.mpr ⟨i, hi, hb, rfl⟩)
      refine Bool.eq_false_iff.mpr fun z => ?_
      obtain ⟨j, h1, h2, h3⟩ := meets_iff.mp z s hs
      rw [bit_sub hb] at h3
      simp only [Bool.and_eq_true, Bool.not_eq_true', decide_eq_false_iff_not] at h3
      exact h3.2 (getD_inj ha hi h1 (q _ h2 (mem_rowOf.mpr ⟨j, h1, h3.1, rfl⟩)).symm)
theorem found_ok {sets : List (List Int)} {iz : List Int} (ha : Asc iz) (hin : ∀ s ∈ sets, ∀ x ∈ s, x ∈ iz) : (foundR sets iz (2 ^ iz.length)).Nodup ∧ (∀ r, r ∈ foundR sets iz (2 ^ iz.length) ↔ Asc r ∧ MinHit sets r) ∧ (foundR sets iz (2 ^ iz.length)).length ≤ 2 ^ iz.length := by
  refine ⟨?_, fun r => ?_, ?_⟩
  · unfold foundR
    have h1 : ((List.range (2 ^ iz.length)).filter fun k => isLeast (sets.map (maskOf iz)) k iz.length).Nodup := (List.nodup_range).filter _
    refine List.pairwise_map.mpr (List.Pairwise.imp_of_mem (fun {a b} hma hmb hab e => hab ?_) h1)
    have la := List.mem_range.mp (List.mem_filter.mp hma).1
    have lb := List.mem_range.mp (List.mem_filter.mp hmb).1
    have half : ∀ {a b : Nat}, rowOf iz a = rowOf iz b → ∀ i, i < iz.length → a.testBit i = true → b.testBit i = true := fun {a b} e i hi hb => by
      have : iz.getD i 0 ∈ rowOf iz b := by rw [← e]; exact mem_rowOf.mpr ⟨i, hi, hb, rfl⟩
      obtain ⟨j, h1, h2, h3⟩ := mem_rowOf.mp this
      rw [← getD_inj ha h1 hi h3]
      exact h2
    refine Nat.eq_of_testBit_eq fun i => ?_
    by_cases hi : i < iz.length
    · cases h1 : a.testBit i with
      | true => exact (half e i hi h1).symm
      | false =>
        cases h2 : b.testBit i with
        | true => rw [half e.symm i hi h2] at h1; cases h1
        | false => rfl
    · rw [Nat.testBit_lt_two_pow (Nat.lt_of_lt_of_le la (Nat.pow_le_pow_right (by decide) (by omega))), Nat.testBit_lt_two_pow (Nat.lt_of_lt_of_le lb (Nat.pow_le_pow_right (by decide) (by omega)))]
  · unfold foundR
    rw [List.mem_map]
    constructor
    · rintro ⟨k, hk, rfl⟩
      obtain ⟨_, h2⟩ := List.mem_filter.mp hk
      exact ⟨asc_rowOf ha k, (isLeast_iff ha hin).mp h2⟩
    · rintro ⟨h1, h2⟩
      have hsub : ∀ x ∈ r, x ∈ iz := fun x hx => by
        obtain ⟨s, hs, hxs, _⟩ := h2.mem hx
        exact hin s hs x hxs
      have e : rowOf iz (bits (fun i => decide (iz.getD i 0 ∈ r)) iz.length) = r := asc_eq (asc_rowOf ha _) h1 fun x => by
        rw [mem_rowOf]
        constructor
        · rintro ⟨i, hi, hb, rfl⟩
          rw [testBit_bits, decide_eq_true hi, Bool.true_and] at hb
          exact of_decide_eq_true hb
        · intro hx
          obtain ⟨i, hi, rfl⟩ := mem_getD.mp (hsub x hx)
          exact ⟨i, hi, by rw [testBit_bits, decide_eq_true hi, Bool.true_and]; exact decide_eq_true hx, rfl⟩
      refine ⟨_, List.mem_filter.mpr ⟨List.mem_range.mpr (bits_lt _ _), (isLeast_iff ha hin).mpr (by rw [e]; exact h2)⟩, e⟩
  · unfold foundR
    rw [List.length_map]
    have := List.length_filter_le (fun k => isLeast (sets.map (maskOf iz)) k iz.length) (List.range (2 ^ iz.length))
    rw [List.length_range] at this
    exact this
theorem mem_diffR {sets : List (List Int)} {r : List Int} : r ∈ diffR sets ↔ ∃ s ∈ sets, asc s = r := by
  unfold diffR
  rw [(ordR_perm _).mem_iff, mem_dedup, List.mem_map]
theorem minHit_diff {sets : List (List Int)} {r : List Int} : MinHit (diffR sets) r ↔ MinHit sets r := by
  have h1 : ∀ s ∈ sets, ∃ t ∈ diffR sets, ∀ x, x ∈ t ↔ x ∈ s := fun s hs => ⟨asc s, mem_diffR.mpr ⟨s, hs, rfl⟩, fun x => mem_asc⟩
  have h2 : ∀ s ∈ diffR sets, ∃ t ∈ sets, ∀ x, x ∈ s ↔ x ∈ t := fun s hs => by
    obtain ⟨t, ht, rfl⟩ := mem_diffR.mp hs
    exact ⟨t, ht, fun x => mem_asc⟩
  exact ⟨fun h => h.alike h1 h2, fun h => h.alike (fun s hs => let ⟨t, ht, e⟩ := h2 s hs; ⟨t, ht, fun x => (e x).symm⟩) (fun s hs => let ⟨t, ht, e⟩ := h1 s hs; ⟨t, ht, fun x => (e x).symm⟩)⟩
theorem len_diffR (sets : List (List Int)) : (diffR sets).length ≤ sets.length := by
  unfold diffR
  rw [(ordR_perm _).length_eq]
  exact Nat.le_trans len_dedup (by rw [List.length_map]; exact Nat.le_refl _)
/-- the program's list against any list of the least sets -/
theorem least_of {sets M : List (List Int)} (hM : M.Nodup) (hm : ∀ r, r ∈ M ↔ Asc r ∧ MinHit sets r) :
    ∃ L s, Tr (fun i => (diffR sets).getD i []) (maskN (diffR sets)) (root (diffR sets).length) L s ∧ L.length = M.length ∧ ordR L = ordR M := by
  obtain ⟨L, s, t, h1, h2⟩ := search (diffR sets)
  have pm : L.Perm M := (List.perm_ext_iff_of_nodup h1 hM).mpr fun r => by rw [h2, hm, minHit_diff]
  exact ⟨L, s, t, pm.length_eq, ordR_of pm⟩
/-! ### twice: the least of the sets themselves -/
theorem mem_kept {rows : List (List Int)} {r : List Int} : r ∈ keptR rows ↔ r ∈ rows ∧ ∀ o ∈ rows, (∀ x ∈ o, x ∈ r) → o = r := by
  unfold keptR
  rw [List.mem_filter, Bool.not_eq_true', List.any_eq_false]
  refine and_congr Iff.rfl (forall_congr' fun o => forall_congr' fun ho => ?_)
  have hw : within o r = true ↔ ∀ x ∈ o, x ∈ r := by
    unfold within
    rw [List.all_eq_true]
    exact forall_congr' fun x => forall_congr' fun _ => decide_eq_true_iff
  rw [Bool.and_eq_true, decide_eq_true_eq, hw]
  exact ⟨fun h q => Classical.byContradiction fun z => h ⟨z, q⟩, fun h ⟨q1, q2⟩ => q1 (h q2)⟩
theorem dual {sets M : List (List Int)} (hm : ∀ r, r ∈ M ↔ Asc r ∧ MinHit sets r) {r : List Int} (hr : Asc r) : MinHit M r ↔ r ∈ keptR (dedup (sets.map asc)) := by
  have memR : ∀ o, o ∈ dedup (sets.map asc) ↔ ∃ s ∈ sets, asc s = o := fun o => by rw [mem_dedup, List.mem_map]
  have cut : ∀ (q : Int → Prop), (∀ s ∈ sets, ∃ x ∈ s, q x) → ∃ t ∈ M, ∀ x ∈ t, q x := fun q h => by
    classical
    obtain ⟨t, h1, h2, h3⟩ := MinHit.below (S := sets) _ (sets.flatten.filter fun x => decide (q x)) (Nat.le_refl _) fun s hs => by
      obtain ⟨x, hx, hq⟩ := h s hs
      exact ⟨x, hx, List.mem_filter.mpr ⟨List.mem_flatten.mpr ⟨s, hs, hx⟩, decide_eq_true hq⟩⟩
    exact ⟨t, (hm t).mpr ⟨h1, h3⟩, fun x hx => of_decide_eq_true (List.mem_filter.mp (h2 x hx)).2⟩
  have up : ∀ r, r ∈ keptR (dedup (sets.map asc)) → MinHit M r := fun r hk => by
    obtain ⟨h1, h2⟩ := mem_kept.mp hk
    obtain ⟨s0, hs0, rfl⟩ := (memR r).mp h1
    refine ⟨fun t ht => ?_, fun x hx => ?_⟩
    · obtain ⟨x, hx, hxt⟩ := ((hm t).mp ht).2.1 s0 hs0
      exact ⟨x, hxt, mem_asc.mpr hx⟩
    · obtain ⟨t, ht, q⟩ := cut (fun y => y ∈ asc s0 → y = x) fun s hs => by
        refine Classical.byContradiction fun z => ?_
        have e : asc s = asc s0 := h2 (asc s) ((memR _).mpr ⟨s, hs, rfl⟩) fun y hy => by
          refine Classical.byContradiction fun z2 => z ⟨y, mem_asc.mp hy, fun z3 => (z2 z3).elim⟩
        refine z ⟨x, ?_, fun _ => rfl⟩
        rw [← e] at hx
        exact mem_asc.mp hx
      exact ⟨t, ht, fun y hy hyr => q y hy hyr⟩
  refine ⟨fun h => ?_, up r⟩
  obtain ⟨s0, hs0, hsub⟩ : ∃ s ∈ sets, ∀ x ∈ s, x ∈ r := by
    refine Classical.byContradiction fun z => ?_
    obtain ⟨t, ht, q⟩ := cut (fun y => y ∉ r) fun s hs => by
      refine Classical.byContradiction fun z2 => z ⟨s, hs, fun x hx => Classical.byContradiction fun z3 => z2 ⟨x, hx, z3⟩⟩
    obtain ⟨x, hx, hxr⟩ := h.1 t ht
    exact q x hx hxr
  have low : ∀ (n : Nat) (o : List Int), o.length ≤ n → o ∈ dedup (sets.map asc) → (∀ x ∈ o, x ∈ r) → ∃ p ∈ keptR (dedup (sets.map asc)), ∀ x ∈ p, x ∈ r := by
    intro n
    induction n with
    | zero =>
      intro o hl ho hs
      have e : o = [] := List.length_eq_zero_iff.mp (Nat.le_zero.mp hl)
      subst e
      exact ⟨[], mem_kept.mpr ⟨ho, fun p hp hps => by
        cases p with
        | nil => rfl
        | cons a b => exact nomatch hps a List.mem_cons_self⟩, hs⟩
    | succ n ih =>
      intro o hl ho hs
      by_cases hk : o ∈ keptR (dedup (sets.map asc))
      · exact ⟨o, hk, hs⟩
      · obtain ⟨p, hp, hpo, hne⟩ : ∃ p ∈ dedup (sets.map asc), (∀ x ∈ p, x ∈ o) ∧ p ≠ o := by
          refine Classical.byContradiction fun z => hk (mem_kept.mpr ⟨ho, fun p hp hps => Classical.byContradiction fun z2 => z ⟨p, hp, hps, z2⟩⟩)
        obtain ⟨s1, _, e1⟩ := (memR p).mp hp
        obtain ⟨s2, _, e2⟩ := (memR o).mp ho
        have ap : Asc p := by rw [← e1]; exact asc_asc _
        have ao : Asc o := by rw [← e2]; exact asc_asc _
        have hlt : p.length < o.length := by
          have h1 := ap.nodup.length_le_of_subset hpo
          refine Nat.lt_of_le_of_ne h1 fun e => hne (asc_eq ap ao fun x => ⟨hpo x, fun hx => Classical.byContradiction fun z => ?_⟩)
          have h2 : (x :: p).Nodup := List.nodup_cons.mpr ⟨z, ap.nodup⟩
          have h3 := h2.length_le_of_subset (l₂ := o) fun y hy => by
            rcases List.mem_cons.mp hy with q | q
            · rw [q]; exact hx
            · exact hpo y q
          rw [List.length_cons] at h3
          omega
        exact ih p (by omega) hp fun x hx => hs x (hpo x hx)
  obtain ⟨p, hp, hpr⟩ := low _ (asc s0) (Nat.le_refl _) ((memR _).mpr ⟨s0, hs0, rfl⟩) fun x hx => hsub x (mem_asc.mp hx)
  have mp := up p hp
  obtain ⟨s1, _, e1⟩ := (memR p).mp (mem_kept.mp hp).1
  have ap : Asc p := by rw [← e1]; exact asc_asc _
  have e : p = r := asc_eq ap hr fun x => MinHit.least h hpr (fun t ht => mp.1 t ht) x
  rw [← e]
  exact hp
theorem small_of {sets M : List (List Int)} (hm : ∀ r, r ∈ M ↔ Asc r ∧ MinHit sets r) : (keptR (dedup (sets.map asc))).Nodup ∧ ∀ r, r ∈ keptR (dedup (sets.map asc)) ↔ Asc r ∧ MinHit M r := by
  refine ⟨(nodup_dedup _).filter _, fun r => ⟨fun h => ?_, fun ⟨h1, h2⟩ => (dual hm h1).mp h2⟩⟩
  obtain ⟨s, _, e⟩ := List.mem_map.mp (mem_dedup.mp (mem_kept.mp h).1)
  have hr : Asc r := by rw [← e]; exact asc_asc _
  exact ⟨hr, (dual hm hr).mpr h⟩
end K21

set_option Elab.async false
set_option linter.all false
set_option maxRecDepth 100000
set_option maxHeartbeats 4000001
namespace K21
open PySem L2 LamX NdefX PyProof.Rows GenW Pl
local macro_rules | `(tactic| walk_at "set") => `(tactic| first | (dsimp only [putOs, putO, List.getElem?_cons_zero, List.getElem?_cons_succ, List.set_cons_zero, List.set_cons_succ]; done) | (dsimp only [putOs, putO, List.getElem?_cons_zero, List.getElem?_cons_succ, List.set_cons_zero, List.set_cons_succ]; exact rfl) | exact rfl)
local macro_rules | `(tactic| walk_at "setn") => `(tactic| (intro _; first | (dsimp only [putOs, putO, List.getElem?_cons_zero, List.getElem?_cons_succ, List.set_cons_zero, List.set_cons_succ]; done) | (dsimp only [putOs, putO, List.getElem?_cons_zero, List.getElem?_cons_succ, List.set_cons_zero, List.set_cons_succ]; exact rfl) | exact rfl))
local macro_rules | `(tactic| walk_at "cnd") => `(tactic| first | assumption | omega | decide | exact ⟨by omega, by decide⟩ | exact Or.inr ⟨by decide, by decide⟩ | exact Or.inl ⟨by decide, by decide⟩ | exact ⟨by decide, by decide, by decide⟩)
local macro_rules | `(tactic| walk_at "len") => `(tactic| first | exact Nat.le_of_ble_eq_true rfl | (simp; done) | omega)

def F_least_meeting : FS := fun as Q => ∃ sets : List (List Int), (as = [.val (.list (tR sets))] ∨ as = [.val (.tuple (tR sets))]) ∧ sets.length ≤ 60 ∧ (∀ r ∈ sets, r.length < 64) ∧
  ∃ L s, Tr (fun i => (diffR sets).getD i []) (maskN (diffR sets)) (root (diffR sets).length) L s ∧ L.length ≤ 90000 ∧ Q (.new (.lst (tR (ordR L)))) []
def F_law : FS := fun as Q => ∃ ns : List Int, as = [.val (.list (ns.map .int))] ∧ ns.length ≤ 63 ∧ Q (.val (.bool true)) []
section
variable {P : Program} {w : World} {K : PySem.W.Frag} {mg : Str → Option Value} {base : Heap} {T : List NTab}
theorem ok_least_meeting (c : Al K mg base ds fr (ts.map (·.1))) (h_set_order : Ok P w K mg base 3 "set_order" ["sets"] (spOf K T F_set_order)) (h_meeting_sets : OkG P w K mg base 5 "meeting_sets" ["sets"] (spGOf K T F_meeting_sets)) : Ok P w K mg base 9 "least_meeting" ["sets"] (spOf K T F_least_meeting) := by
  have nd := sc_least_meeting.nd
  refine ok_of c (.tail _ (.tail _ (.tail _ (.tail _ (.head _))))) (fun _ _ _ _ _ _ us hl => match us, hl with | [_], _ => rfl) sc_least_meeting (fun as Q h => by obtain ⟨_, h1 | h1, _⟩ := h <;> (rw [h1]; rfl)) fun f cdv A outer s H E hr as Q qs hF hq => ?_
  obtain ⟨sets, hor, hlen, hrow, L, s1, htr, hL, hQ⟩ := hF
  refine ⟨_, (pss_one (ps_ret (pe_f h_set_order (hr.mono (by decide)) rfl (pa_cons (pe_lg h_meeting_sets hr rfl (pa_cons (pv 0) pa_nil) rfl (c.fr _ (.tail _ (.tail _ (.head _)))) PyProof.Rows.boot_list pass0G nostop0) pa_nil)))), ?_⟩
  obtain rfl : qs = [] := by rcases hor with e | e <;> (subst e; simpa [owns] using hq)
  have hd := len_diffR sets
  rcases hor with rfl | rfl
  · show Ss K T _ [.val _] _
    exact ss_ret (ex_call0 (exa_cons (ex_fz (ex_listG (exa_cons (ex_var rfl (exa_nil ⟨[_], ⟨rfl, trivial⟩, ⟨sets, .inl rfl, by omega, hrow, by omega, L, s1, htr, hL, ⟨_, rfl, (exa_nil ⟨[.val _], ⟨rfl, trivial⟩, ⟨L, rfl, [], _, rfl, ⟨imm_tR _, rfl⟩, hQ⟩⟩)⟩⟩⟩)))))))
  · show Ss K T _ [.val _] _
    exact ss_ret (ex_call0 (exa_cons (ex_fz (ex_listG (exa_cons (ex_var rfl (exa_nil ⟨[_], ⟨rfl, trivial⟩, ⟨sets, .inr rfl, by omega, hrow, by omega, L, s1, htr, hL, ⟨_, rfl, (exa_nil ⟨[.val _], ⟨rfl, trivial⟩, ⟨L, rfl, [], _, rfl, ⟨imm_tR _, rfl⟩, hQ⟩⟩)⟩⟩⟩)))))))
theorem ok_law (c : Al K mg base ds fr (ts.map (·.1))) (h__law_purse : Ok P w K mg base 2 "_law_purse" ["script", "k"] (spOf K T F__law_purse)) (h__law_draw : Ok P w K mg base 1 "_law_draw" ["purse", "many"] (spOf K T F__law_draw)) (h__law_integers : Ok P w K mg base 2 "_law_integers" ["purse", "many"] (spOf K T F__law_integers)) (h__law_sets : Ok P w K mg base 3 "_law_sets" ["script", "integers", "many"] (spOf K T F__law_sets)) (h__law_least : Ok P w K mg base 3 "_law_least" ["sets", "integers"] (spOf K T F__law_least)) (h_least_meeting : Ok P w K mg base 9 "least_meeting" ["sets"] (spOf K T F_least_meeting)) (h__law_same : Ok P w K mg base 1 "_law_same" ["told", "due"] (spOf K T F__law_same)) (h__law_smallest : Ok P w K mg base 2 "_law_smallest" ["sets"] (spOf K T F__law_smallest)) : Ok P w K mg base 10 "law" ["script"] (spOf K T F_law) := by
  have nd := sc_law.nd
  refine ok_of c (.tail _ (.tail _ (.tail _ (.tail _ (.tail _ (.tail _ (.tail _ (.tail _ (.tail _ (.tail _ (.tail _ (.tail _ (.tail _ (.tail _ (.tail _ (.tail _ (.tail _ (.tail _ (.head _))))))))))))))))))) (fun _ _ _ _ _ _ us hl => match us, hl with | [_], _ => rfl) sc_law (fun as Q h => by obtain ⟨_, rfl, _⟩ := h; rfl) fun f cdv A outer s H E hr as Q qs hF hq => ?_
  obtain ⟨ns, rfl, hns, hQ⟩ := hF
  refine ⟨_, (pss_cons (ps_set (i := 1) nd rfl (Or.inl rfl) (pe_f h__law_purse (hr.mono (by decide)) rfl (pa_cons (pv 0) (pa_cons pe_int pa_nil))))
    (pss_cons (ps_set (i := 2) nd rfl (Or.inl rfl) (pe_cmpR op_eq (pe_f h__law_draw (hr.mono (by decide)) rfl (pa_cons (pv 1) (pa_cons pe_int pa_nil))) pe_int (nomark _)))
    (pss_cons (ps_set (i := 3) nd rfl (Or.inl rfl) (pe_f h__law_draw (hr.mono (by decide)) rfl (pa_cons (pv 1) (pa_cons (pe_op op_add pe_int (pe_op op_mul pe_int (pe_callTy call_int1 rfl (c.fr _ (.tail _ (.tail _ (.tail _ (.tail _ (.tail _ (.tail _ (.head _)))))))) PyProof.Rows.boot_int (pa_cons (pv 2) pa_nil)))) pa_nil))))
    (pss_cons (ps_set (i := 4) nd rfl (Or.inl rfl) (pe_f h__law_draw (hr.mono (by decide)) rfl (pa_cons (pv 1) (pa_cons (pe_op op_add pe_int (pe_op op_mul pe_int (pe_callTy call_int1 rfl (c.fr _ (.tail _ (.tail _ (.tail _ (.tail _ (.tail _ (.tail _ (.head _)))))))) PyProof.Rows.boot_int (pa_cons (pv 2) pa_nil)))) pa_nil))))
    (pss_cons (ps_set (i := 5) nd rfl (Or.inl rfl) (pe_f h__law_integers (hr.mono (by decide)) rfl (pa_cons (pv 1) (pa_cons (pv 3) pa_nil))))
    (pss_cons (ps_set (i := 6) nd rfl (Or.inl rfl) (pe_f h__law_sets (hr.mono (by decide)) rfl (pa_cons (pv 0) (pa_cons (pv 5) (pa_cons (pv 4) pa_nil)))))
    (pss_cons (ps_set (i := 7) nd rfl (Or.inl rfl) (pe_f h__law_least (hr.mono (by decide)) rfl (pa_cons (pv 6) (pa_cons (pv 5) pa_nil))))
    (pss_cons (ps_set (i := 8) nd rfl (Or.inl rfl) (pe_callTy (r := rListOf K) call_list_of rfl (c.fr _ (.tail _ (.tail _ (.head _)))) PyProof.Rows.boot_list (pa_cons (pv 6) pa_nil)))
    (pss_cons (ps_set (i := 9) nd rfl (Or.inl rfl) (pe_f h_least_meeting hr rfl (pa_cons (pv 8) pa_nil)))
    (pss_cons (ps_if (PW.pt (pw_or (pt_not (pt_val (pe_f h__law_same (hr.mono (by decide)) rfl (pa_cons (pv 9) (pa_cons (pv 7) pa_nil))))) (pw_or1 (pt_cmpR (r := rNeD K) (op_neD hr.units) (pv 8) (pv 6) (nomark _))))) (pss_one (ps_ret pe_bl)) pss_nil)
    (pss_cons (ps_expr (pe_bmK (K0 := K) PySem.F.plainAttrs_list PySem.F.slot_list_append PySem.F.type_list_append mt_append (pv 9) (pa_cons (pe_tup (pa_cons pe_int pa_nil)) pa_nil)))
    (pss_cons (ps_expr (pe_bm0K (K0 := K) PySem.F.plainAttrs_list PySem.F.slot_list_reverse PySem.F.type_list_reverse mt_reverse (pv 9)))
    (pss_cons (ps_if (pt_not (pt_val (pe_f h__law_same (hr.mono (by decide)) rfl (pa_cons (pe_f h_least_meeting hr rfl (pa_cons (pe_callTy (r := rTupOf K) call_tuple_of rfl (c.fr _ (.tail _ (.tail _ (.tail _ (.head _))))) PyProof.Rows.boot_tuple (pa_cons (pe_revLK (K0 := K) (pv 6)) pa_nil)) pa_nil)) (pa_cons (pv 7) pa_nil))))) (pss_one (ps_ret pe_bl)) pss_nil)
    (pss_cons (ps_if (pt_not (pt_val (pe_f h__law_same (hr.mono (by decide)) rfl (pa_cons (pe_f h_least_meeting hr rfl (pa_cons (pe_callTy (r := rListOf K) call_list_of rfl (c.fr _ (.tail _ (.tail _ (.head _)))) PyProof.Rows.boot_list (pa_cons (pv 6) pa_nil)) pa_nil)) (pa_cons (pv 7) pa_nil))))) (pss_one (ps_ret pe_bl)) pss_nil)
    (pss_cons (ps_if (pt_cmpR op_gt (pe_callB (r := Pl.rLen K) call_len rfl (c.fr _ (.tail _ (.head _))) PySem.boot_len (pa_cons (pv 7) pa_nil)) pe_int (nomark _)) (pss_one (ps_ret pe_bl)) pss_nil)
    (pss_one (ps_ret (pe_f h__law_same (hr.mono (by decide)) rfl (pa_cons (pe_f h_least_meeting hr rfl (pa_cons (pe_callTy (r := rListOf K) call_list_of rfl (c.fr _ (.tail _ (.tail _ (.head _)))) PyProof.Rows.boot_list (pa_cons (pv 7) pa_nil)) pa_nil)) (pa_cons (pe_f h__law_smallest (hr.mono (by decide)) rfl (pa_cons (pv 6) pa_nil)) pa_nil)))))))))))))))))))), ?_⟩
  obtain rfl : qs = [] := by simpa [owns] using hq
  show Ss K T _ [.val _, .no, .no, .no, .no, .no, .no, .no, .no, .no] _
  have fin : ∀ δ' : List Sl, ∃ us r', Fin [Ar.val (.list (ns.map .int))] [] (.val (.list (ns.map .int)) :: δ') us ∧ RetR 1 (.val (.list (ns.map .int)) :: δ') (.val (.bool true)) r' ∧ Q r' us := fun δ' => ⟨[], _, rfl, ⟨rfl, rfl⟩, hQ⟩
  refine ss_seq (ss_set (ex_call0 (exa_cons (ex_var rfl (exa_cons (ex_int (exa_nil ⟨[.val _, .val _], ⟨rfl, rfl, trivial⟩, ⟨_, _, rfl, by decide, by decide, by omega, fun u0 hu0 => (st_n (by walk_at "len") (by walk_at "setn") fun p1 => ?_)⟩⟩)))))))
  refine ss_seq (ss_set (ex_op (ex_call (exa_cons (ex_bor rfl (exa_cons (ex_int (exa_nil ⟨[.own _, .val _], [1], ⟨rfl, ⟨_, rfl⟩, rfl, trivial⟩, (by decide), ⟨_, _, rfl, hu0, by decide, by decide, fun r u1 hu1 h0 h1 => (ex_int ⟨_, _, rfl, rfl, opd_eqI (st_v (by walk_at "set") ?_)⟩)⟩⟩))))))))
  generalize hwd : decide (r = 7) = wd
  have hw6 : 0 < 7 + 6 * (if wd = true then 1 else 0 : Int) ∧ 7 + 6 * (if wd = true then 1 else 0 : Int) ≤ 13 := by cases wd <;> decide
  have hw5 : 0 < 8 + 5 * (if wd = true then 1 else 0 : Int) ∧ 8 + 5 * (if wd = true then 1 else 0 : Int) ≤ 13 := by cases wd <;> decide
  refine ss_seq (ss_set (ex_call (exa_cons (ex_bor rfl (exa_cons (ex_op (ex_int (ex_op (ex_int (ex_cb (exa_cons (ex_var rfl (exa_nil ⟨[_], ⟨rfl, trivial⟩, cb_intB ⟨_, _, rfl, rfl, opd_I (.inl ⟨by decide, by decide⟩) (.int _) ⟨_, _, rfl, rfl, opd_I0 (.int _) (exa_nil ⟨[.own _, .val _], [1], ⟨rfl, ⟨_, rfl⟩, rfl, trivial⟩, (by decide), ⟨_, _, rfl, hu1, hw6.1, Int.le_trans hw6.2 (by decide), fun many u2 hu2 hm0 hm1 => (st_v (by walk_at "set") ?_)⟩⟩)⟩⟩⟩)))))))))))))
  refine ss_seq (ss_set (ex_call (exa_cons (ex_bor rfl (exa_cons (ex_op (ex_int (ex_op (ex_int (ex_cb (exa_cons (ex_var rfl (exa_nil ⟨[_], ⟨rfl, trivial⟩, cb_intB ⟨_, _, rfl, rfl, opd_I (.inl ⟨by decide, by decide⟩) (.int _) ⟨_, _, rfl, rfl, opd_I0 (.int _) (exa_nil ⟨[.own _, .val _], [1], ⟨rfl, ⟨_, rfl⟩, rfl, trivial⟩, (by decide), ⟨_, _, rfl, hu2, hw5.1, Int.le_trans hw5.2 (by decide), fun count u3 hu3 hc0 hc1 => (st_v (by walk_at "set") ?_)⟩⟩)⟩⟩⟩)))))))))))))
  have hm12 : many ≤ 12 := by have := Int.lt_of_lt_of_le hm1 hw6.2; omega
  have hc12 : count ≤ 12 := by have := Int.lt_of_lt_of_le hc1 hw5.2; omega
  refine ss_seq (ss_set (ex_call (exa_cons (ex_bor rfl (exa_cons (ex_var rfl (exa_nil ⟨[.own _, .val _], [1], ⟨rfl, ⟨_, rfl⟩, rfl, trivial⟩, (by decide), ⟨_, _, rfl, hu3, hm0, hm12, fun u4 iz hu4 ha hl => (st_n (by walk_at "len") (by walk_at "setn") fun p5 => ?_)⟩⟩)))))))
  have hiz : iz.length ≤ 12 := by omega
  refine ss_seq (ss_set (ex_call0 (exa_cons (ex_var rfl (exa_cons (ex_bor rfl (exa_cons (ex_var rfl (exa_nil ⟨[.val _, .val _, .val _], ⟨rfl, ⟨_, _, rfl, rfl⟩, (by decide), rfl, trivial⟩, ⟨_, _, _, rfl, by omega, hiz, hc0, hc12, fun sets hsl hs => (st_n (by walk_at "len") (by walk_at "setn") fun p6 => ?_)⟩⟩)))))))))
  have hsl : sets.length ≤ 12 := by omega
  have hin : ∀ s ∈ sets, ∀ x ∈ s, x ∈ iz := fun s h => (hs s h).2
  have hrow : ∀ s ∈ sets, s.length < 64 := fun s h => by have := (hs s h).1; omega
  refine ss_seq (ss_set (ex_call0 (exa_cons (ex_bor rfl (exa_cons (ex_bor rfl (exa_nil ⟨[.val _, .val _], ⟨⟨_, _, rfl, rfl⟩, (by decide), ⟨_, _, rfl, rfl⟩, (by decide), trivial⟩, ⟨_, _, rfl, by omega, hiz, (st_n (by walk_at "len") (by walk_at "setn") fun p7 => ?_)⟩⟩)))))))
  obtain ⟨f1, f2, f3⟩ := found_ok ha hin
  have h4096 : 2 ^ iz.length ≤ 4096 := Nat.le_trans (Nat.pow_le_pow_right (by decide) hiz) (by decide)
  have f3' : (foundR sets iz (2 ^ iz.length)).length ≤ 4096 := Nat.le_trans f3 h4096
  have hdue : ∀ r, r ∈ leastR sets iz ↔ Asc r ∧ MinHit sets r := fun r => by
    unfold leastR
    rw [(ordR_perm _).mem_iff, f2]
  have ldue : (leastR sets iz).length ≤ 4096 := by
    unfold leastR
    rw [(ordR_perm _).length_eq]
    exact f3'
  have same : ∀ sets' : List (List Int), (∀ s, s ∈ sets' ↔ s ∈ sets) → ∃ L s, Tr (fun i => (diffR sets').getD i []) (maskN (diffR sets')) (root (diffR sets').length) L s ∧ L.length ≤ 90000 ∧ ordR L = leastR sets iz := fun sets' he => by
    obtain ⟨L, s, t, h1, h2⟩ := least_of (sets := sets') f1 fun r => by
      rw [f2]
      exact ⟨fun ⟨q1, q2⟩ => ⟨q1, q2.sets fun s => (he s).symm⟩, fun ⟨q1, q2⟩ => ⟨q1, q2.sets he⟩⟩
    exact ⟨L, s, t, by omega, h2⟩
  refine ss_seq (ss_set (ex_cb (exa_cons (ex_bor rfl (exa_nil ⟨[_], ⟨⟨_, _, rfl, rfl⟩, trivial⟩, cb_listL (imm_tR sets) (st_n (by walk_at "len") (by walk_at "setn") fun p8 => ?_)⟩)))))
  obtain ⟨L1, s1, t1, l1, e1⟩ := same sets fun _ => Iff.rfl
  refine ss_seq (ss_set (ex_call0 (exa_cons (ex_bor rfl (exa_nil ⟨[.val _], ⟨⟨_, _, rfl, rfl⟩, (by decide), trivial⟩, ⟨sets, .inl rfl, by omega, hrow, L1, s1, t1, l1, (st_n (by walk_at "len") (by walk_at "setn") fun p9 => ?_)⟩⟩)))))
  rw [e1]
  refine ss_seq (ss_if (et_or (et_not' (et_B (ex_call0 (exa_cons (ex_bor rfl (exa_cons (ex_bor rfl (exa_nil ⟨[.val _, .val _], ⟨⟨_, _, rfl, rfl⟩, (by decide), ⟨_, _, rfl, rfl⟩, (by decide), trivial⟩, ⟨_, _, rfl, by omega, ⟨_, rfl, ?_⟩⟩⟩))))))))))
  rw [decide_eq_true rfl]
  refine iteF (et_test (ex_op (ex_bor rfl (ex_bor rfl ⟨_, _, ⟨_, _, rfl, rfl⟩, ⟨_, _, rfl, rfl⟩, opd_neD (shaped_R _) (shaped_R _) ⟨_, rfl, ?_⟩⟩))))
  rw [eqv_LR, decide_eq_true rfl]
  refine iteF (ss_next ?_)
  refine ss_seq (ss_drop (ex_lm ⟨⟨_, _, rfl⟩, (exa_cons (ex_tup (exa_cons (ex_int (exa_nil ⟨[_], ⟨rfl, trivial⟩, (by walk_at "len"), (exa_nil ⟨[_], _, _, ⟨rfl, trivial⟩, rfl, lm_append (by rw [len_tR]; omega) ?_⟩)⟩)))))⟩))
  refine ss_seq (ss_drop (ex_lm0 ⟨_, _, rfl, lm_reverse ?_⟩))
  obtain ⟨L2, s2, t2, l2, e2⟩ := same sets.reverse fun _ => List.mem_reverse
  refine ss_seq (ss_if (et_not' (et_B (ex_call0 (exa_cons (ex_fz (ex_call0 (exa_cons (ex_cb (exa_cons (ex_revL (ex_bor rfl ⟨_, ⟨_, _, rfl, rfl⟩, imm_tR sets, (exa_nil ⟨[_], ⟨rfl, trivial⟩, cb_tupL (imm_rev (imm_tR sets)) (exa_nil ⟨[.val _], ⟨rfl, trivial⟩, ⟨sets.reverse, .inr (by unfold tR; rw [List.map_reverse]), by rw [List.length_reverse]; omega, fun r hr => hrow r (List.mem_reverse.mp hr), L2, s2, t2, l2, ?_⟩⟩)⟩)⟩))))))))))))
  rw [e2]
  refine ⟨_, rfl, (exa_cons (ex_bor rfl (exa_nil ⟨[.val _, .val _], ⟨rfl, ⟨_, _, rfl, rfl⟩, (by decide), trivial⟩, ⟨_, _, rfl, by omega, ⟨_, rfl, ?_⟩⟩⟩)))⟩
  rw [decide_eq_true rfl]
  refine iteF (ss_next ?_)
  refine ss_seq (ss_if (et_not' (et_B (ex_call0 (exa_cons (ex_fz (ex_call0 (exa_cons (ex_fz (ex_cb (exa_cons (ex_bor rfl (exa_nil ⟨[_], ⟨⟨_, _, rfl, rfl⟩, trivial⟩, cb_listL (imm_tR sets) ⟨_, rfl, (exa_nil ⟨[.val _], ⟨rfl, trivial⟩, ⟨sets, .inl rfl, by omega, hrow, L1, s1, t1, l1, ?_⟩⟩)⟩⟩)))))))))))))
  rw [e1]
  refine ⟨_, rfl, (exa_cons (ex_bor rfl (exa_nil ⟨[.val _, .val _], ⟨rfl, ⟨_, _, rfl, rfl⟩, (by decide), trivial⟩, ⟨_, _, rfl, by omega, ⟨_, rfl, ?_⟩⟩⟩)))⟩
  rw [decide_eq_true rfl]
  refine iteF (ss_next ?_)
  refine ss_seq (ss_if (et_test (ex_op (ex_cb (exa_cons (ex_bor rfl (exa_nil ⟨[_], ⟨⟨_, _, rfl, rfl⟩, trivial⟩, cb_lenL (ex_int ⟨_, _, rfl, rfl, opd_I0 (.bl _) ⟨_, rfl, (ite2 (fun hc => ?_) (fun hc => ?_))⟩⟩)⟩)))))))
  · exact ss_ret (ex_bl (fin _))
  refine ss_next ?_
  have hd12 : (leastR sets iz).length ≤ 12 := by
    rw [len_tR] at hc
    by_cases h : (12 : Int) < ((leastR sets iz).length : Int)
    · exact (hc (decide_eq_true h)).elim
    · omega
  obtain ⟨g1, g2⟩ := small_of hdue
  have duein : ∀ s ∈ leastR sets iz, ∀ x ∈ s, x ∈ iz := fun s hsd x hx => by
    obtain ⟨t, ht, hxt, _⟩ := ((hdue s).mp hsd).2.mem hx
    exact hin t ht x hxt
  have duerow : ∀ s ∈ leastR sets iz, s.length < 64 := fun s hsd => by
    have h1 := ((hdue s).mp hsd).1.nodup.length_le_of_subset (l₂ := iz) fun x hx => duein s hsd x hx
    omega
  obtain ⟨k1, k2, k3⟩ := found_ok ha duein
  have lk : (keptR (dedup (sets.map asc))).length ≤ 4096 := by
    have h1 := g1.length_le_of_subset (l₂ := foundR (leastR sets iz) iz (2 ^ iz.length)) fun r hr => (k2 r).mpr ((g2 r).mp hr)
    omega
  obtain ⟨L3, s3, t3, l3, e3⟩ := least_of g1 g2
  refine ss_ret (ex_call0 (exa_cons (ex_fz (ex_call0 (exa_cons (ex_fz (ex_cb (exa_cons (ex_bor rfl (exa_nil ⟨[_], ⟨⟨_, _, rfl, rfl⟩, trivial⟩, cb_listL (imm_tR _) ⟨_, rfl, (exa_nil ⟨[.val _], ⟨rfl, trivial⟩, ⟨leastR sets iz, .inl rfl, by omega, duerow, L3, s3, t3, by omega, ⟨_, rfl, (exa_cons (ex_fz (ex_call0 (exa_cons (ex_bor rfl (exa_nil ⟨[.val _], ⟨⟨_, _, rfl, rfl⟩, (by decide), trivial⟩, ⟨sets, rfl, by omega, hrow, ⟨_, rfl, (exa_nil ⟨[.val _, .val _], ⟨rfl, rfl, trivial⟩, ⟨_, _, rfl, ?_, ?_⟩⟩)⟩⟩⟩))))))⟩⟩⟩)⟩⟩))))))))))
  · unfold smallR
    rw [(ordR_perm _).length_eq]
    omega
  · have e4 : ordR L3 = smallR sets := e3
    rw [e4, decide_eq_true rfl]
    exact fin _
end
end K21

set_option Elab.async false
set_option linter.all false
set_option maxRecDepth 100000
set_option maxHeartbeats 0
namespace K21
open PySem L2 LamX NdefX PyProof.Rows GenW Pl
abbrev theLaw : PySem.W.OpenLaw := PySem.Challenge.rw_notionary_k21_least_meeting
abbrev R : PySem.W.OpenRow := PySem.W.OpenLaw.row theLaw
theorem ok_all (w : World) (mg : Str → Option Value) (base : Heap) (K : PySem.W.Frag) (c : Al K mg base ds fr (ts.map (·.1))) (glo : ∀ x ∈ ds, PySem.W.nsIn K mainGlobals x.1 = some (some (.ref (He.ga K x.1)))) :
    Ok theLaw.prog w K mg base 10 "law" ["script"] (spOf K (tabsOf K ts) F_law) := by
  have h_set_order := ok_set_order (P := theLaw.prog) (w := w) c (glo _ (.head _))
  have h_different_sets := ok_different_sets c h_set_order
  have h_meeting_masks := ok_meeting_masks (P := theLaw.prog) (w := w) (T := tabsOf K ts) c
  have h_meeting_sets := ok_meeting_sets c h_different_sets h_meeting_masks
  have h_least_meeting := ok_least_meeting c h_set_order h_meeting_sets
  have h_cell := ok__law_cell (P := theLaw.prog) (w := w) (T := tabsOf K ts) c
  have h_purse := ok__law_purse c h_cell
  have h_draw := ok__law_draw (P := theLaw.prog) (w := w) (T := tabsOf K ts) c
  have h_integers := ok__law_integers c h_draw
  have h_set := ok__law_set c h_draw
  have h_meets := ok__law_meets (P := theLaw.prog) (w := w) (T := tabsOf K ts) c
  have h_is_least := ok__law_is_least c h_meets
  have h_ordered := ok__law_ordered (P := theLaw.prog) (w := w) (T := tabsOf K ts) c
  have h_least := ok__law_least c h_ordered h_is_least
  have h_within := ok__law_within (P := theLaw.prog) (w := w) (T := tabsOf K ts) c
  have h_smallest := ok__law_smallest c h_ordered h_within
  have h_same := ok__law_same (P := theLaw.prog) (w := w) (T := tabsOf K ts) c
  have h_sets := ok__law_sets c h_purse h_draw h_set
  exact ok_law c h_purse h_draw h_integers h_sets h_least h_least_meeting h_same h_smallest
def fa : List He.Fa := ds.map (fun x => .glo x.1) ++ fr.map .free
def fn : List He.DefD := ds.map DI.d
def tn : List Str := ts.map (·.1)
abbrev hk : PySem.W.Hook := hookT 2 fa fn tn
def ob (s : PySem.W.SharedT) : He.AlD × Bool := obsT 2 fa fn tn (HandSHeadRun.getT s)
theorem ob_eq (s : PySem.W.SharedT) : ob s = hk.obs s.abs := obsT_eq (HandSHeadRun.getT_eq s)
def names : List Str := ["set_order", "different_sets", "meeting_masks", "meeting_sets", "least_meeting", "_law_cell", "_law_purse", "_law_draw", "_law_integers", "_law_set", "_law_sets", "_law_meets", "_law_is_least", "_law_ordered", "_law_least", "_law_within", "_law_smallest", "_law_same"]
theorem run (w : World) : HandSHeadRun.RunEq R (PySem.W.view R.prog [20]) hk ob 2000 names w := by
  intro os
  kernel_rfl
end K21
open PySem PySem.W PySem.Calls PyProof.Rows
theorem PySem.Challenge.cw_notionary_k21_least_meeting_holds : PySem.Challenge.rw_notionary_k21_least_meeting.Holds := by
  w_on; o_law
  refine HandSHeadRun.head_any (r := OpenLaw.row PySem.Challenge.rw_notionary_k21_least_meeting) (q := view (OpenLaw.row PySem.Challenge.rw_notionary_k21_least_meeting).prog [20]) (H := K21.hk) (ob := K21.ob) (M := 2000) (loose := K21.names) (d := HandSHeadRun.topDef (OpenLaw.row PySem.Challenge.rw_notionary_k21_least_meeting).prog 20) (kwd := []) K21.ob_eq
    (by kernel_rfl) (fun s => by kernel_rfl) K21.run (by kernel_rfl) (by kernel_rfl) (by kernel_rfl) (by rfl) (by first | assumption | decide +kernel) (by decide +kernel) ⟨rfl, rfl, rfl, rfl, rfl, by decide +kernel⟩ ?hw ?hc
  case hw => w_witness2
  case hc =>
    refine Pl.walk_end (l := PySem.Challenge.rw_notionary_k21_least_meeting) (k := 10) (n := 63) (m := 2) (ds := K21.ds) (fr := K21.fr) (ts := K21.ts) (F := K21.F_law) (st := K21.top 20) rfl (by decide) (by kernel_rfl) ⟨rfl, by decide, by decide⟩ rfl (by kernel_rfl) (.tail _ (.tail _ (.tail _ (.tail _ (.tail _ (.tail _ (.tail _ (.tail _ (.tail _ (.tail _ (.tail _ (.tail _ (.tail _ (.tail _ (.tail _ (.tail _ (.tail _ (.tail _ (.head _))))))))))))))))))) (fun _ _ _ _ _ _ us hl => match us, hl with | [_], _ => rfl) K21.ok_all (fun ns hl _ => ⟨ns, rfl, hl, rfl⟩)

