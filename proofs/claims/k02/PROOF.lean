import PyProof.Rows.All
import Wide.All
import OpenK.AllK
import Wide.FinOn
import HandS.ForMost
import HandS.Deep
import HandS.Nested
import HandS.TupAny
import HandS.Style
import HandS.GenList
import HandS.IsInst
import HandS.WideMore
import HandS.WideBits
import HandS.Conv
import HandS.Strs
import HandS.SetFor
import KE.SortKeyHeap
import HandS.SortKw
import HandS.Head0
import HandS.Head1
import HandS.Head2
import HandS.HeadEnd
import HandS.HeadHook1
import HandS.HeadHook2
import HandS.HeadWalk
import HandS.EndTab
import KE.KNestM
import HandS.Text
import HandS.FStr
import HandS.TupLe
import HandS.Star
import HandS.Walk
import HandS.Iter
import HandS.Sort
import HandS.Rev
import KE.KDictList
import HandS.RevTup
import HandS.More
import KE.KSearch
import PySem.Challenge.RW_notionary_k02_equal_terms
set_option Elab.async false
set_option linter.all false
set_option maxRecDepth 100000
set_option maxHeartbeats 1000001
namespace Pl
open PySem L2 LamX NdefX
abbrev D := PyData
/-- what an owned object holds -/
inductive OV where
  | lst (ds : List D)
  | dK (kvs : List (Key × D))
  | dT (kvs : List (List Key × D))
/-- what a name holds -/
inductive Sl where
  | no
  | val (d : D)
  | own (a : Addr) (u : OV)
/-- what an expression gives -/
inductive R where
  | val (d : D)
  | new (u : OV)
  | bor (i : Nat)
def dl (H : Hp) (A : List Addr) : Hp := fun a => if a ∈ A then none else H a
theorem dl_some {H : Hp} {A : List Addr} {a : Addr} {o : HO} (h : dl H A a = some o) : a ∉ A ∧ H a = some o := by
  unfold dl at h
  split at h
  · cases h
  · exact ⟨by assumption, h⟩
theorem dl_of {H : Hp} {A : List Addr} {a : Addr} {o : HO} (h : H a = some o) (n : a ∉ A) : dl H A a = some o := by
  unfold dl
  rw [if_neg n]
  exact h
def ow1 : Sl → List Addr
  | .own a _ => [a]
  | _ => []
def ow (δ : List Sl) (B : List (Addr × OV)) : List Addr := δ.flatMap ow1 ++ B.map (·.1)
/-- all that is read of data stays -/
def Rk (H H' : Hp) : Prop := ∀ a o, H a = some o → (∀ ps, o ≠ .tbl ps) → H' a = some o
theorem Rk.refl (H : Hp) : Rk H H := fun _ _ h _ => h
theorem Rk.trans {H H1 H2 : Hp} (a : Rk H H1) (b : Rk H1 H2) : Rk H H2 := fun c o h n => b c o (a c o h n) n
theorem Rk.rd {H H' : Hp} (e : Rk H H') {a : Addr} {u : HO} (hu : ∀ ps, u ≠ .tbl ps) (h : Rd H a u) : Rd H' a u := by
  rcases h with h | ⟨o, h⟩
  · exact .inl (e _ _ h hu)
  · exact .inr ⟨o, e _ _ h (fun _ z => by cases z)⟩
theorem Rk.sqL {K : PySem.W.Frag} {H H' : Hp} (e : Rk H H') {a : Addr} {xs : List V} (h : SqL K H a xs) : SqL K H' a xs := h.elim (fun h => .inl (e.rd (fun _ z => by cases z) h)) .inr
theorem Rk.sqT {K : PySem.W.Frag} {H H' : Hp} (e : Rk H H') {a : Addr} {xs : List V} (h : SqT K H a xs) : SqT K H' a xs := h.elim (fun h => .inl (e.rd (fun _ z => by cases z) h)) .inr
section
variable {K : PySem.W.Frag}
mutual
theorem dp_mono {H H' : Hp} (e : Rk H H') : ∀ (d : D) (v : V), Dp K H v d → Dp K H' v d
  | .none, _, h => by cases h; exact .non
  | .bool b, _, h => by cases h; exact .bl _
  | .int i, _, h => by cases h; exact .int _
  | .str x, _, h => by cases h; exact .str _
  | .list ds, _, h => by
    cases h with
    | lst hs ha => exact .lst (e.sqL hs) (da_mono e _ _ ha)
  | .tuple ds, _, h => by
    cases h with
    | tup hs ha => exact .tup (e.sqT hs) (da_mono e _ _ ha)
  | .dict _, _, h => by cases h
theorem da_mono {H H' : Hp} (e : Rk H H') : ∀ (ds : List D) (vs : List V), DpAll K H vs ds → DpAll K H' vs ds
  | [], _, h => by cases h; exact .nil
  | d :: ds, _, h => by
    cases h with
    | cons h1 h2 => exact .cons (dp_mono e _ _ h1) (da_mono e _ _ h2)
end
mutual
/-- no list within -/
def imm : D → Bool
  | .list _ => false
  | .tuple ds => immAll ds
  | .dict _ => false
  | _ => true
def immAll : List D → Bool
  | [] => true
  | d :: ds => imm d && immAll ds
end
/-- the tuples stay -/
def Tk (H H' : Hp) : Prop := ∀ a xs, Rd H a (.tup xs) → Rd H' a (.tup xs)
mutual
theorem dp_imm {H H' : Hp} (e : Tk H H') : ∀ (d : D) (v : V), Pl.imm d = true → Dp K H v d → Dp K H' v d
  | .none, _, _, h => by cases h; exact .non
  | .bool b, _, _, h => by cases h; exact .bl _
  | .int i, _, _, h => by cases h; exact .int _
  | .str x, _, _, h => by cases h; exact .str _
  | .list ds, _, hi, h => by simp [Pl.imm] at hi
  | .tuple ds, _, hi, h => by
    cases h with
    | tup hs ha => exact .tup (hs.elim (fun q => .inl (e _ _ q)) .inr) (da_imm e _ _ (by simpa [Pl.imm] using hi) ha)
  | .dict _, _, _, h => by cases h
theorem da_imm {H H' : Hp} (e : Tk H H') : ∀ (ds : List D) (vs : List V), immAll ds = true → DpAll K H vs ds → DpAll K H' vs ds
  | [], _, _, h => by cases h; exact .nil
  | d :: ds, _, hi, h => by
    cases h with
    | cons h1 h2 =>
      simp only [immAll, Bool.and_eq_true] at hi
      exact .cons (dp_imm e _ _ hi.1 h1) (da_imm e _ _ hi.2 h2)
end
theorem da_len {H : Hp} : ∀ {vs : List V} {ds : List D}, DpAll K H vs ds → vs.length = ds.length
  | _, _, .nil => rfl
  | _, _, .cons _ t => congrArg (· + 1) (da_len t)
theorem da_get {H : Hp} : ∀ {vs : List V} {ds : List D} {i : Nat} {d : D}, DpAll K H vs ds → ds[i]? = some d → ∃ v, vs[i]? = some v ∧ Dp K H v d
  | _, _, _, _, .nil, e => by simp at e
  | _, _, 0, _, .cons h _, e => by
    have e : _ = _ := Option.some.inj e
    exact ⟨_, rfl, e ▸ h⟩
  | _, _, i + 1, d, .cons _ t, e => da_get (i := i) t e
theorem da_get' {H : Hp} : ∀ {vs : List V} {ds : List D} {i : Nat} {v : V}, DpAll K H vs ds → vs[i]? = some v → ∃ d, ds[i]? = some d ∧ Dp K H v d
  | _, _, _, _, .nil, e => by simp at e
  | _, _, 0, _, .cons h _, e => by
    have e : _ = _ := Option.some.inj e
    exact ⟨_, rfl, e ▸ h⟩
  | _, _, i + 1, d, .cons _ t, e => da_get' (i := i) t e
theorem da_app {H : Hp} : ∀ {vs ws : List V} {ds es : List D}, DpAll K H vs ds → DpAll K H ws es → DpAll K H (vs ++ ws) (ds ++ es)
  | _, _, _, _, .nil, h => h
  | _, _, _, _, .cons a t, h => .cons a (da_app t h)
theorem da_one {H : Hp} {v : V} {d : D} (h : Dp K H v d) : DpAll K H [v] [d] := .cons h .nil
theorem da_rev {H : Hp} : ∀ {vs : List V} {ds : List D}, DpAll K H vs ds → DpAll K H vs.reverse ds.reverse
  | _, _, .nil => .nil
  | _, _, .cons a t => by
    rw [List.reverse_cons, List.reverse_cons]
    exact da_app (da_rev t) (da_one a)
theorem da_take {H : Hp} : ∀ {vs : List V} {ds : List D} (n : Nat), DpAll K H vs ds → DpAll K H (vs.take n) (ds.take n)
  | _, _, 0, _ => by simp only [List.take_zero]; exact .nil
  | _, _, _ + 1, .nil => by simp only [List.take_nil]; exact .nil
  | _, _, n + 1, .cons a t => by
    rw [List.take_succ_cons, List.take_succ_cons]
    exact .cons a (da_take n t)
theorem da_drop {H : Hp} : ∀ {vs : List V} {ds : List D} (n : Nat), DpAll K H vs ds → DpAll K H (vs.drop n) (ds.drop n)
  | _, _, 0, h => h
  | _, _, _ + 1, .nil => by simp only [List.drop_nil]; exact .nil
  | _, _, n + 1, .cons _ t => da_drop n t
theorem da_set {H : Hp} {v : V} {d : D} (h : Dp K H v d) : ∀ {vs : List V} {ds : List D} (i : Nat), DpAll K H vs ds → DpAll K H (vs.set i v) (ds.set i d)
  | _, _, _, .nil => .nil
  | _, _, 0, .cons _ t => .cons h t
  | _, _, i + 1, .cons a t => .cons a (da_set h i t)
theorem da_dropLast {H : Hp} {vs : List V} {ds : List D} (h : DpAll K H vs ds) : DpAll K H vs.dropLast ds.dropLast := by
  rw [List.dropLast_eq_take, List.dropLast_eq_take, da_len h]
  exact da_take _ h
end
/-- a dict's pairs -/
def KvAll (K : PySem.W.Frag) (H : Hp) {κ : Type} : List (κ × V) → List (κ × D) → Prop
  | [], [] => True
  | (k, v) :: r, (k', d) :: r' => k = k' ∧ Dp K H v d ∧ KvAll K H r r'
  | _, _ => False
theorem KvAll.mono {K : PySem.W.Frag} {H H' : Hp} (e : ∀ d v, Dp K H v d → Dp K H' v d) {κ : Type} : ∀ {a : List (κ × V)} {b : List (κ × D)}, KvAll K H a b → KvAll K H' a b
  | [], [], _ => trivial
  | (_, _) :: _, (_, _) :: _, ⟨h1, h2, h3⟩ => ⟨h1, e _ _ h2, KvAll.mono e h3⟩
  | [], _ :: _, h => h.elim
  | _ :: _, [], h => h.elim
/-- what stands at an owned address; L: the heap of its contents -/
def Holds (K : PySem.W.Frag) (L H : Hp) (a : Addr) : OV → Prop
  | .lst ds => ∃ xs, H a = some (.lst xs) ∧ DpAll K L xs ds
  | .dK kvs => ∃ xs, H a = some (.dK xs) ∧ KvAll K L xs kvs
  | .dT kvs => ∃ xs, H a = some (.dT xs) ∧ KvAll K L xs kvs
theorem Holds.mono {K : PySem.W.Frag} {L L' H H' : Hp} {a : Addr} {u : OV} (e : ∀ d v, Dp K L v d → Dp K L' v d) (ea : H' a = H a) (h : Holds K L H a u) : Holds K L' H' a u := by
  have all : ∀ {ds : List D} {vs : List V}, DpAll K L vs ds → DpAll K L' vs ds := by
    intro ds
    induction ds with
    | nil => intro vs h; cases h; exact .nil
    | cons d ds ih =>
      intro vs h
      cases h with
      | cons h1 h2 => exact .cons (e _ _ h1) (ih h2)
  cases u with
  | lst ds => obtain ⟨xs, h1, h2⟩ := h; exact ⟨xs, ea.trans h1, all h2⟩
  | dK ds => obtain ⟨xs, h1, h2⟩ := h; exact ⟨xs, ea.trans h1, h2.mono e⟩
  | dT ds => obtain ⟨xs, h1, h2⟩ := h; exact ⟨xs, ea.trans h1, h2.mono e⟩
theorem Holds.some {K : PySem.W.Frag} {L H : Hp} {a : Addr} {u : OV} (h : Holds K L H a u) : ∃ o, H a = some o ∧ (∀ ps, o ≠ .tbl ps) ∧ (∀ xs, o ≠ .tup xs) ∧ (∀ x y, o ≠ .frz x y) := by
  cases u with
  | lst ds => obtain ⟨xs, h1, h2⟩ := h; exact ⟨_, h1, (fun _ z => by cases z), (fun _ z => by cases z), (fun _ _ z => by cases z)⟩
  | dK ds => obtain ⟨xs, h1, h2⟩ := h; exact ⟨_, h1, (fun _ z => by cases z), (fun _ z => by cases z), (fun _ _ z => by cases z)⟩
  | dT ds => obtain ⟨xs, h1, h2⟩ := h; exact ⟨_, h1, (fun _ z => by cases z), (fun _ z => by cases z), (fun _ _ z => by cases z)⟩
/-- a slot -/
def SlOk (K : PySem.W.Frag) (A : List Addr) (H : Hp) (ov : Option (Option V)) : Sl → Prop
  | .no => True
  | .val d => ∃ v, ov = some (some v) ∧ Dp K (dl H A) v d
  | .own a u => ov = some (some (.ref a)) ∧ Holds K (dl H A) H a u
/-- the state: the slots σ hold δ; B: further owned objects -/
structure S (K : PySem.W.Frag) (T : List NTab) (B : List (Addr × OV)) (H : Hp) (σ : L2.St) (δ : List Sl) : Prop where
  len : σ.length = δ.length
  tab : TabsN T H
  ok : ∀ (i : Nat) (s : Sl), δ[i]? = some s → SlOk K (ow δ B) H σ[i]? s
  loose : ∀ p ∈ B, Holds K (dl H (ow δ B)) H p.1 p.2
  nd : (ow δ B).Nodup
/-- from a heap with owned A to one with owned A' -/
structure Go (A A' : List Addr) (H H' : Hp) : Prop where
  ext : ∀ a o, H a = some o → a ∉ A → (∀ ps, o ≠ .tbl ps) → H' a = some o
  dom : ∀ a, H' a = none → H a = none
  org : ∀ a ∈ A', a ∈ A ∨ H a = none
theorem Go.refl {A : List Addr} {H : Hp} : Go A A H H := ⟨fun _ _ h _ _ => h, fun _ h => h, fun _ h => .inl h⟩
theorem Go.trans {A A1 A2 : List Addr} {H H1 H2 : Hp} (a : Go A A1 H H1) (b : Go A1 A2 H1 H2) : Go A A2 H H2 where
  ext := fun c o h n t => b.ext c o (a.ext c o h n t) (fun m => (a.org c m).elim n fun z => by rw [h] at z; cases z) t
  dom := fun c h => a.dom c (b.dom c h)
  org := fun c m => (b.org c m).elim (a.org c) fun z => .inr (a.dom c z)
theorem Go.rk {A A' : List Addr} {H H' : Hp} (g : Go A A' H H') : Rk (dl H A) (dl H' A') := fun a o h t => by
  obtain ⟨n, e⟩ := dl_some h
  exact dl_of (g.ext a o e n t) fun m => (g.org a m).elim n fun z => by rw [e] at z; cases z
/-- fewer owned -/
theorem Go.less {A A1 A' : List Addr} {H H' : Hp} (g : Go A A' H H') (h : ∀ a ∈ A1, a ∈ A') : Go A A1 H H' := ⟨g.ext, g.dom, fun a m => g.org a (h a m)⟩
theorem Go.more {A A1 A' : List Addr} {H H' : Hp} (g : Go A A' H H') (h : ∀ a ∈ A, a ∈ A1) : Go A1 A' H H' := ⟨fun a o e n t => g.ext a o e (fun m => n (h a m)) t, g.dom, fun a m => (g.org a m).imp_left (h a)⟩
end Pl
set_option Elab.async false
set_option linter.all false
set_option maxRecDepth 100000
set_option maxHeartbeats 1000001
namespace Pl
open PySem L2 LamX NdefX
theorem mem_ow {a : Addr} {δ : List Sl} {B : List (Addr × OV)} : a ∈ ow δ B ↔ (∃ (i : Nat) (u : OV), δ[i]? = some (.own a u)) ∨ ∃ u, (a, u) ∈ B := by
  unfold ow
  rw [List.mem_append, List.mem_flatMap, List.mem_map]
  constructor
  · rintro (⟨s, hs, ha⟩ | ⟨p, hp, rfl⟩)
    · cases s with
      | no => cases ha
      | val d => cases ha
      | own b u =>
        have e : a = b := by simpa [ow1] using ha
        subst e
        obtain ⟨i, hi⟩ := List.mem_iff_getElem?.mp hs
        exact .inl ⟨i, u, hi⟩
    · exact .inr ⟨p.2, hp⟩
  · rintro (⟨i, u, h⟩ | ⟨u, h⟩)
    · exact .inl ⟨_, List.mem_of_getElem? h, by simp [ow1]⟩
    · exact .inr ⟨_, h, rfl⟩
theorem ow_same {δ : List Sl} {i : Nat} {a : Addr} {u u' : OV} {B : List (Addr × OV)} (h : δ[i]? = some (.own a u)) : ow (δ.set i (.own a u')) B = ow δ B := by
  unfold ow
  congr 1
  induction δ generalizing i with
  | nil => simp at h
  | cons s r ih =>
    cases i with
    | zero =>
      have e : s = .own a u := Option.some.inj h
      subst e
      rfl
    | succ i =>
      rw [List.set_cons_succ, List.flatMap_cons, List.flatMap_cons, ih (by simpa using h)]
theorem ow_sub {δ : List Sl} {i : Nat} {s : Sl} {B : List (Addr × OV)} (hs : ow1 s = []) : (ow (δ.set i s) B).Sublist (ow δ B) := by
  unfold ow
  refine List.Sublist.append ?_ (List.Sublist.refl _)
  induction δ generalizing i with
  | nil => exact List.Sublist.refl _
  | cons t r ih =>
    cases i with
    | zero =>
      rw [List.set_cons_zero, List.flatMap_cons, List.flatMap_cons, hs]
      exact List.sublist_append_right _ _
    | succ i =>
      rw [List.set_cons_succ, List.flatMap_cons, List.flatMap_cons]
      exact (List.Sublist.refl _).append ih
theorem flat_own {δ : List Sl} {i : Nat} {p : Addr} {u : OV} (hi : i < δ.length) : ((δ.set i (.own p u)).flatMap ow1).Perm (p :: (δ.set i .no).flatMap ow1) := by
  induction δ generalizing i with
  | nil => exact absurd hi (Nat.not_lt_zero _)
  | cons t r ih =>
    cases i with
    | zero => exact List.Perm.refl _
    | succ i =>
      rw [List.set_cons_succ, List.set_cons_succ, List.flatMap_cons, List.flatMap_cons]
      exact ((ih (by simpa using hi)).append_left _).trans List.perm_middle
theorem ow_own {δ : List Sl} {i : Nat} {p : Addr} {u : OV} {B : List (Addr × OV)} (hi : i < δ.length) : (ow (δ.set i (.own p u)) B).Perm (p :: ow (δ.set i .no) B) := by
  unfold ow
  exact (flat_own hi).append_right _
theorem ow_loose {δ : List Sl} {p : Addr} {u : OV} {B : List (Addr × OV)} : (ow δ ((p, u) :: B)).Perm (p :: ow δ B) := by
  unfold ow
  exact List.perm_middle
theorem dl_less {H : Hp} {A A' : List Addr} (h : ∀ a ∈ A', a ∈ A) : Rk (dl H A) (dl H A') := fun a o e _ => by
  obtain ⟨n, e⟩ := dl_some e
  exact dl_of e fun m => n (h a m)
theorem dl_rk {H : Hp} {A : List Addr} : Rk (dl H A) H := fun a o e _ => (dl_some e).2
section
variable {K : PySem.W.Frag} {T : List NTab} {B : List (Addr × OV)} {H H' : Hp} {σ : L2.St} {δ : List Sl}
theorem dp_full {A : List Addr} {v : V} {d : D} (h : Dp K (dl H A) v d) : Dp K H v d := dp_mono dl_rk _ _ h
theorem S.at (s : S K T B H σ δ) {a : Addr} (m : a ∈ ow δ B) : ∃ u, Holds K (dl H (ow δ B)) H a u := by
  rcases mem_ow.mp m with ⟨i, u, h⟩ | ⟨u, h⟩
  · exact ⟨u, (s.ok i _ h).2⟩
  · exact ⟨u, s.loose _ h⟩
/-- frozen data stands against the owned: it has no list -/
theorem S.tk (s : S K T B H σ δ) : Tk H (dl H (ow δ B)) := fun a xs h => by
  rcases h with h | ⟨o, h⟩
  · refine .inl (dl_of h fun m => ?_)
    obtain ⟨u, hu⟩ := s.at m
    obtain ⟨o, e, _, n, _⟩ := hu.some
    rw [h] at e
    cases e
    exact n xs rfl
  · refine .inr ⟨o, dl_of h fun m => ?_⟩
    obtain ⟨u, hu⟩ := s.at m
    obtain ⟨o', e, _, _, n⟩ := hu.some
    rw [h] at e
    cases e
    exact n _ _ rfl
theorem S.imm (s : S K T B H σ δ) {v : V} {d : D} (hi : imm d = true) (h : Dp K H v d) : Dp K (dl H (ow δ B)) v d := dp_imm s.tk _ _ hi h
/-- fewer owned, the names elsewhere the same -/
theorem S.cut (s : S K T B H σ δ) {B' : List (Addr × OV)} {δ' : List Sl} {σ' : L2.St} (hsub : ∀ a ∈ ow δ' B', a ∈ ow δ B) (hlen : σ'.length = δ'.length) (nd : (ow δ' B').Nodup) (hB : ∀ p ∈ B', Holds K (dl H (ow δ' B')) H p.1 p.2)
    (hok : ∀ (i : Nat) (x : Sl), δ'[i]? = some x → (δ[i]? = some x ∧ σ'[i]? = σ[i]?) ∨ SlOk K (ow δ' B') H σ'[i]? x) : S K T B' H σ' δ' where
  len := hlen
  tab := s.tab
  nd := nd
  loose := hB
  ok := fun i x h => by
    have e := dl_less (H := H) hsub
    rcases hok i x h with ⟨h1, h2⟩ | q
    · have q := s.ok i x h1
      rw [h2]
      cases x with
      | no => trivial
      | val d => obtain ⟨v, q1, q2⟩ := q; exact ⟨v, q1, dp_mono e _ _ q2⟩
      | own a u => obtain ⟨q1, q2⟩ := q; exact ⟨q1, q2.mono (dp_mono e) rfl⟩
    · exact q
theorem ow_tail {p : Addr × OV} : ∀ a ∈ ow δ B, a ∈ ow δ (p :: B) := fun a m => (ow_loose (p := p.1) (u := p.2)).mem_iff.mpr (List.mem_cons_of_mem _ m)
theorem S.holds (s : S K T B H σ δ) {B' : List (Addr × OV)} {δ' : List Sl} (hsub : ∀ a ∈ ow δ' B', a ∈ ow δ B) {p : Addr × OV} (hp : p ∈ B) : Holds K (dl H (ow δ' B')) H p.1 p.2 := (s.loose p hp).mono (dp_mono (dl_less hsub)) rfl
theorem S.drop {p : Addr × OV} (s : S K T (p :: B) H σ δ) : S K T B H σ δ :=
  s.cut ow_tail s.len (((ow_loose (p := p.1) (u := p.2)).nodup_iff.mp s.nd).sublist (List.sublist_cons_self _ _)) (fun q hq => s.holds ow_tail (List.mem_cons_of_mem _ hq)) fun i x h => .inl ⟨h, rfl⟩
theorem S.cons_nd {p : Addr × OV} (s : S K T (p :: B) H σ δ) : p.1 ∉ ow δ B := (List.nodup_cons.mp ((ow_loose (p := p.1) (u := p.2)).nodup_iff.mp s.nd)).1
/-- the loose list as data -/
theorem S.frz {p : Addr} {ds : List D} (s : S K T ((p, .lst ds) :: B) H σ δ) : Dp K (dl H (ow δ B)) (.ref p) (.list ds) := by
  obtain ⟨xs, h1, h2⟩ := s.loose _ List.mem_cons_self
  exact .lst (.inl (.inl (dl_of h1 s.cons_nd))) (da_mono (dl_less ow_tail) _ _ h2)
theorem get_set {α : Type} {l : List α} {i j : Nat} {x y : α} (h : (l.set i x)[j]? = some y) : (i = j ∧ i < l.length ∧ y = x) ∨ (i ≠ j ∧ l[j]? = some y) := by
  by_cases e : i = j
  · subst e
    by_cases hl : i < l.length
    · rw [List.getElem?_set_self hl] at h
      exact .inl ⟨rfl, hl, (Option.some.inj h).symm⟩
    · rw [List.getElem?_eq_none_iff.mpr (by rw [List.length_set]; omega)] at h
      cases h
  · rw [List.getElem?_set_ne e] at h
    exact .inr ⟨e, h⟩
/-- a name gets data -/
theorem S.setv (s : S K T B H σ δ) {i : Nat} {v : V} {d : D} (hd : Dp K (dl H (ow δ B)) v d) : S K T B H (σ.set i (some v)) (δ.set i (.val d)) := by
  have hs : (ow (δ.set i (.val d)) B).Sublist (ow δ B) := ow_sub rfl
  refine s.cut (fun a m => hs.subset m) (by rw [List.length_set, List.length_set, s.len]) (s.nd.sublist hs) (fun p hp => s.holds (fun a m => hs.subset m) hp) fun j x h => ?_
  rcases get_set h with ⟨rfl, hl, rfl⟩ | ⟨hne, h⟩
  · refine .inr ⟨v, ?_, dp_mono (dl_less fun a m => hs.subset m) _ _ hd⟩
    rw [List.getElem?_set_self (by rw [s.len]; exact hl)]
  · exact .inl ⟨h, by rw [List.getElem?_set_ne hne]⟩
/-- a name gets what is loose -/
theorem S.setn {p : Addr} {u : OV} (s : S K T ((p, u) :: B) H σ δ) {i : Nat} (hi : i < δ.length) : S K T B H (σ.set i (some (.ref p))) (δ.set i (.own p u)) := by
  have hs : (ow (δ.set i .no) B).Sublist (ow δ B) := ow_sub rfl
  have hp := ow_own (p := p) (u := u) (B := B) hi
  have sub : ∀ a ∈ ow (δ.set i (.own p u)) B, a ∈ ow δ ((p, u) :: B) := fun a m => by
    refine ow_loose.mem_iff.mpr ?_
    rcases List.mem_cons.mp (hp.mem_iff.mp m) with z | z
    · rw [z]; exact List.mem_cons_self
    · exact List.mem_cons_of_mem _ (hs.subset z)
  refine s.cut sub (by rw [List.length_set, List.length_set, s.len]) ?_ (fun q hq => s.holds sub (List.mem_cons_of_mem _ hq)) fun j x h => ?_
  · exact hp.nodup_iff.mpr (((ow_loose (p := p) (u := u)).nodup_iff.mp s.nd).sublist (hs.cons₂ _))
  · rcases get_set h with ⟨rfl, hl, rfl⟩ | ⟨hne, h⟩
    · refine .inr ⟨?_, s.holds (p := (p, u)) sub List.mem_cons_self⟩
      rw [List.getElem?_set_self (by rw [s.len]; exact hl)]
    · exact .inl ⟨h, by rw [List.getElem?_set_ne hne]⟩
/-- a name's list becomes data -/
theorem S.frzAt (s : S K T B H σ δ) {i : Nat} {a : Addr} {ds : List D} (hi : δ[i]? = some (.own a (.lst ds))) : S K T B H σ (δ.set i (.val (.list ds))) := by
  have hs : (ow (δ.set i (.val (.list ds))) B).Sublist (ow δ B) := ow_sub rfl
  obtain ⟨h1, xs, h2, h3⟩ := s.ok i _ hi
  have hl : i < δ.length := (List.getElem?_eq_some_iff.mp hi).1
  have hn : a ∉ ow (δ.set i (.val (.list ds))) B := fun m => by
    have hp := ow_own (δ := δ) (p := a) (u := .lst ds) (B := B) hl
    rw [ow_same hi] at hp
    have e : ow (δ.set i (.val (.list ds))) B = ow (δ.set i .no) B := by
      unfold ow
      congr 1
      clear hs h1 h2 h3 m hp s
      induction δ generalizing i with
      | nil => rfl
      | cons t r ih =>
        cases i with
        | zero => rfl
        | succ i => rw [List.set_cons_succ, List.set_cons_succ, List.flatMap_cons, List.flatMap_cons, ih (by simpa using hi) (by simpa using hl)]
    rw [e] at m
    exact (List.nodup_cons.mp (hp.nodup_iff.mp s.nd)).1 m
  refine s.cut (fun a m => hs.subset m) (by rw [List.length_set, s.len]) (s.nd.sublist hs) (fun p hp => s.holds (fun a m => hs.subset m) hp) fun j x h => ?_
  rcases get_set h with ⟨rfl, hl, rfl⟩ | ⟨hne, h⟩
  · exact .inr ⟨_, h1, .lst (.inl (.inl (dl_of h2 hn))) (da_mono (dl_less fun a m => hs.subset m) _ _ h3)⟩
  · exact .inl ⟨h, rfl⟩
theorem S.no (s : S K T B H σ δ) {i : Nat} : S K T B H σ (δ.set i .no) := by
  have hs : (ow (δ.set i .no) B).Sublist (ow δ B) := ow_sub rfl
  refine s.cut (fun a m => hs.subset m) (by rw [List.length_set, s.len]) (s.nd.sublist hs) (fun p hp => s.holds (fun a m => hs.subset m) hp) fun j x h => ?_
  rcases get_set h with ⟨rfl, hl, rfl⟩ | ⟨hne, h⟩
  · exact .inr trivial
  · exact .inl ⟨h, rfl⟩
/-- the heap goes on, the owned as they stand -/
theorem S.on (s : S K T B H σ δ) (g : Go (ow δ B) (ow δ B) H H') (hT : TabsN T H') (ho : ∀ a ∈ ow δ B, H' a = H a) : S K T B H' σ δ where
  len := s.len
  tab := hT
  nd := s.nd
  loose := fun p hp => (s.loose p hp).mono (dp_mono g.rk) (ho _ (mem_ow.mpr (.inr ⟨p.2, hp⟩)))
  ok := fun i x h => by
    have q := s.ok i x h
    cases x with
    | no => trivial
    | val d => obtain ⟨v, q1, q2⟩ := q; exact ⟨v, q1, dp_mono g.rk _ _ q2⟩
    | own a u => obtain ⟨q1, q2⟩ := q; exact ⟨q1, q2.mono (dp_mono g.rk) (ho _ (mem_ow.mpr (.inl ⟨i, u, h⟩)))⟩
theorem go_upd {A : List Addr} {p : Addr} {o : HO} (hp : H p = none) : Go A A H (upd H p o) :=
  ⟨fun a o' h _ _ => by rw [upd_ne (ne_of_none h hp)]; exact h, fun a h => upd_none h, fun a m => .inl m⟩
theorem tab_new {p : Addr} {o : HO} (hp : H p = none) (t : TabsN T H) : TabsN T (upd H p o) := t.ext fun b u h => by rw [upd_ne (ne_of_none h hp)]; exact h
theorem S.free (s : S K T B H σ δ) {p : Addr} (hp : H p = none) : p ∉ ow δ B := fun m => by
  obtain ⟨u, hu⟩ := s.at m
  obtain ⟨o, e, _⟩ := hu.some
  rw [hp] at e
  cases e
/-- a new object, frozen -/
theorem S.laid (s : S K T B H σ δ) {p : Addr} {o : HO} (hp : H p = none) : S K T B (upd H p o) σ δ :=
  s.on (go_upd hp) (tab_new hp s.tab) fun a m => upd_ne fun e => s.free hp (e ▸ m)
/-- a new object, owned -/
theorem S.owned (s : S K T B H σ δ) {p : Addr} {o : HO} {u : OV} (hp : H p = none) (hh : Holds K (dl H (ow δ B)) (upd H p o) p u) : S K T ((p, u) :: B) (upd H p o) σ δ := by
  have s1 := s.laid (o := o) hp
  have np := s.free hp
  have e : ∀ d v, Dp K (dl H (ow δ B)) v d → Dp K (dl (upd H p o) (ow δ ((p, u) :: B))) v d := dp_mono fun a q h t => by
    obtain ⟨n, h⟩ := dl_some h
    refine dl_of (by rw [upd_ne (ne_of_none h hp)]; exact h) fun m => ?_
    rcases List.mem_cons.mp (ow_loose.mem_iff.mp m) with z | z
    · rw [z, hp] at h; cases h
    · exact n z
  refine ⟨s.len, s1.tab, fun i x h => ?_, fun q hq => ?_, ow_loose.nodup_iff.mpr (List.nodup_cons.mpr ⟨np, s.nd⟩)⟩
  · have q := s.ok i x h
    cases x with
    | no => trivial
    | val d => obtain ⟨v, q1, q2⟩ := q; exact ⟨v, q1, e _ _ q2⟩
    | own a w => obtain ⟨q1, q2⟩ := q; exact ⟨q1, q2.mono e (upd_ne fun z => np (z ▸ mem_ow.mpr (.inl ⟨i, w, h⟩)))⟩
  · rcases List.mem_cons.mp hq with z | z
    · rw [z]; exact hh.mono e rfl
    · exact (s.loose q z).mono e (upd_ne fun y => np (y ▸ mem_ow.mpr (.inr ⟨q.2, z⟩)))
theorem go_new {δ : List Sl} {B : List (Addr × OV)} {p : Addr} {o : HO} {u : OV} (hp : H p = none) : Go (ow δ B) (ow δ ((p, u) :: B)) H (upd H p o) :=
  ⟨(go_upd hp).ext, (go_upd (A := []) hp).dom, fun a m => (List.mem_cons.mp (ow_loose.mem_iff.mp m)).elim (fun z => .inr (z ▸ hp)) .inl⟩
theorem tab_upd {a : Addr} {o o' : HO} (ho : H a = some o) (h1 : ∀ ps, o ≠ .tbl ps) (h2 : ∀ φ, o ≠ .ext φ) (t : TabsN T H) : TabsN T (upd H a o') := fun p hp => by
  obtain ⟨ps, q1, q2, q3⟩ := t p hp
  refine ⟨ps, ?_, q2, fun pos cv hc => ?_⟩
  · rw [upd_ne fun e => by rw [e, ho] at q1; exact h1 _ (Option.some.inj q1)]
    exact q1
  · obtain ⟨c, e1, e2⟩ := q3 pos cv hc
    exact ⟨c, e1, by rw [upd_ne fun e => by rw [e, ho] at e2; exact h2 _ (Option.some.inj e2)]; exact e2⟩
theorem holds_obj {L : Hp} {a : Addr} {u : OV} (h : Holds K L H a u) : ∃ o, H a = some o ∧ (∀ ps, o ≠ .tbl ps) ∧ (∀ φ, o ≠ .ext φ) := by
  cases u with
  | lst ds => obtain ⟨xs, h1, h2⟩ := h; exact ⟨_, h1, (fun _ z => by cases z), (fun _ z => by cases z)⟩
  | dK ds => obtain ⟨xs, h1, h2⟩ := h; exact ⟨_, h1, (fun _ z => by cases z), (fun _ z => by cases z)⟩
  | dT ds => obtain ⟨xs, h1, h2⟩ := h; exact ⟨_, h1, (fun _ z => by cases z), (fun _ z => by cases z)⟩
theorem go_own {A : List Addr} {a : Addr} {o' : HO} (ha : a ∈ A) : Go A A H (upd H a o') :=
  ⟨fun b o h n _ => by rw [upd_ne fun e => n (by rw [e]; exact ha)]; exact h, fun b h => upd_none h, fun b m => .inl m⟩
/-- a name's object is changed -/
theorem S.write (s : S K T B H σ δ) {i : Nat} {a : Addr} {u u' : OV} {o' : HO} (hi : δ[i]? = some (.own a u)) (hh : Holds K (dl H (ow δ B)) (upd H a o') a u') : S K T B (upd H a o') σ (δ.set i (.own a u')) := by
  have ma : a ∈ ow δ B := mem_ow.mpr (.inl ⟨i, u, hi⟩)
  obtain ⟨o, q1, q2, q3⟩ := holds_obj (s.ok i _ hi).2
  have g : Go (ow δ B) (ow δ B) H (upd H a o') := go_own ma
  have hl : i < δ.length := (List.getElem?_eq_some_iff.mp hi).1
  have ndp : (a :: ow (δ.set i .no) B).Nodup := by
    have hp := ow_own (δ := δ) (p := a) (u := u) (B := B) hl
    rw [ow_same hi] at hp
    exact hp.nodup_iff.mp s.nd
  have apart : ∀ (j : Nat) (b : Addr) (w : OV), i ≠ j → δ[j]? = some (.own b w) → b ≠ a := fun j b w hne hj e => by
    refine (List.nodup_cons.mp ndp).1 (mem_ow.mpr (.inl ⟨j, w, ?_⟩))
    rw [List.getElem?_set_ne hne, hj, e]
  refine ⟨by rw [List.length_set]; exact s.len, tab_upd q1 q2 q3 s.tab, fun j x h => ?_, fun p hp => ?_, by rw [ow_same hi]; exact s.nd⟩
  · rw [ow_same hi]
    rcases get_set h with ⟨rfl, _, rfl⟩ | ⟨hne, h⟩
    · exact ⟨(s.ok i _ hi).1, hh.mono (dp_mono g.rk) rfl⟩
    · have q := s.ok j x h
      cases x with
      | no => trivial
      | val d => obtain ⟨v, q1, q2⟩ := q; exact ⟨v, q1, dp_mono g.rk _ _ q2⟩
      | own b w => obtain ⟨q1, q2⟩ := q; exact ⟨q1, q2.mono (dp_mono g.rk) (upd_ne (apart j b w hne h))⟩
  · rw [ow_same hi]
    refine (s.loose p hp).mono (dp_mono g.rk) (upd_ne fun e => ?_)
    refine (List.nodup_cons.mp ndp).1 (mem_ow.mpr (.inr ⟨p.2, ?_⟩))
    rw [← e]
    exact hp
end
end Pl
set_option Elab.async false
set_option linter.all false
set_option maxRecDepth 100000
set_option maxHeartbeats 1000001
namespace Pl
open PySem L2 LamX NdefX
abbrev N0 : Hp := fun _ => none
theorem rk_N0 {H : Hp} : Rk N0 H := fun _ _ h _ => nomatch h
abbrev Lo := List (Addr × OV)
section
variable (K : PySem.W.Frag) (T : List NTab)
/-- v is r -/
def Vr (B : Lo) (σ : L2.St) (δ : List Sl) (H : Hp) (v : V) : R → Prop
  | .val d => Dp K (dl H (ow δ B)) v d
  | .new u => ∃ p, v = .ref p ∧ (p, u) ∈ B
  | .bor i => σ[i]? = some (some v)
def Bx (B B' : Lo) (v : V) : R → Prop
  | .new u => ∃ p, v = .ref p ∧ B' = (p, u) :: B
  | _ => B' = B
structure RS (B B' : Lo) (A0 : List Addr) (H0 H' : Hp) (σ : L2.St) (δ' : List Sl) (v : V) (r : R) : Prop where
  s : S K T B' H' σ δ'
  go : Go A0 (ow δ' B') H0 H'
  vr : Vr K B' σ δ' H' v r
  bx : Bx B B' v r
def Vrs (B : Lo) (σ : L2.St) (δ : List Sl) (H : Hp) : List V → List R → Prop
  | [], [] => True
  | v :: vs, r :: rs => Vr K B σ δ H v r ∧ Vrs B σ δ H vs rs
  | _, _ => False
def Bxs (B B' : Lo) : List V → List R → Prop
  | v :: vs, r :: rs => ∃ B1, Bx B B1 v r ∧ Bxs B1 B' vs rs
  | _, _ => B' = B
structure RSs (B B' : Lo) (A0 : List Addr) (H0 H' : Hp) (σ : L2.St) (δ' : List Sl) (vs : List V) (rs : List R) : Prop where
  s : S K T B' H' σ δ'
  go : Go A0 (ow δ' B') H0 H'
  vr : Vrs K B' σ δ' H' vs rs
  bx : Bxs B B' vs rs
def Ex (te : TE) (δ : List Sl) (P : R → List Sl → Prop) : Prop := ∀ (B : Lo) (H : Hp) (σ : L2.St), S K T B H σ δ → ∀ Q : VK,
  (∀ v H' r δ' B', RS K T B B' (ow δ B) H H' σ δ' v r → P r δ' → Q v H') → te σ H Q
def ExA (ta : TA) (δ : List Sl) (P : List R → List Sl → Prop) : Prop := ∀ (B : Lo) (H : Hp) (σ : L2.St), S K T B H σ δ → ∀ Q : List V → Hp → Prop,
  (∀ vs H' rs δ' B', RSs K T B B' (ow δ B) H H' σ δ' vs rs → P rs δ' → Q vs H') → ta σ H Q
def ExT (tt : TT) (δ : List Sl) (P : Bool → List Sl → Prop) : Prop := ∀ (B : Lo) (H : Hp) (σ : L2.St), S K T B H σ δ → ∀ Q : Bool → Hp → Prop,
  (∀ b H' δ', S K T B H' σ δ' → Go (ow δ B) (ow δ' B) H H' → P b δ' → Q b H') → tt σ H Q
/-- read as data -/
def AsD (δ : List Sl) : R → D → Prop
  | .val d, x => x = d
  | .new (.lst ds), x => x = .list ds
  | .bor i, x => ∃ a ds, δ[i]? = some (.own a (.lst ds)) ∧ x = .list ds
  | _, _ => False
def AsDs (δ : List Sl) : List R → List D → Prop
  | [], [] => True
  | r :: rs, d :: ds => AsD δ r d ∧ AsDs δ rs ds
  | _, _ => False
/-- what an operation may give -/
structure Out (H : Hp) (P : R → Prop) (Q : VK) : Prop where
  val : ∀ u z, Dp K N0 u z → P (.val z) → Q u H
  old : ∀ u z, Dp K H u z → imm z = true → P (.val z) → Q u H
  lst : ∀ p xs es, H p = none → DpAll K H xs es → immAll es = true → P (.new (.lst es)) → Q (.ref p) (upd H p (.lst xs))
  tup : ∀ p xs es, H p = none → DpAll K H xs es → immAll es = true → P (.val (.tuple es)) → Q (.ref p) (upd H p (.tup xs))
  dK : ∀ p, H p = none → P (.new (.dK [])) → Q (.ref p) (upd H p (.dK []))
  dT : ∀ p, H p = none → P (.new (.dT [])) → Q (.ref p) (upd H p (.dT []))
def OpD (rr : R2) (x y : D) (P : R → Prop) : Prop := ∀ (H : Hp) (v w : V) (Q : VK), Dp K H v x → Dp K H w y → Out K H P Q → rr v w H Q
def UnD (rr : V → Hp → VK → Prop) (x : D) (P : R → Prop) : Prop := ∀ (H : Hp) (v : V) (Q : VK), Dp K H v x → Out K H P Q → rr v H Q
def CbD (rr : List V → Hp → VK → Prop) (ds : List D) (P : R → Prop) : Prop := ∀ (H : Hp) (vs : List V) (Q : VK), DpAll K H vs ds → Out K H P Q → rr vs H Q
end
section
variable {K : PySem.W.Frag} {T : List NTab} {B B' B1 : Lo} {A0 : List Addr} {H0 H H' : Hp} {σ : L2.St} {δ δ' : List Sl} {v : V} {r : R} {P : R → List Sl → Prop} {te ta tb : TE} {tt t1 t2 : TT}
theorem Bx.suf (h : Bx B B' v r) : ∃ C, B' = C ++ B := by
  cases r with
  | val d => exact ⟨[], h⟩
  | new u => obtain ⟨p, _, e⟩ := h; exact ⟨[(p, u)], e⟩
  | bor i => exact ⟨[], h⟩
theorem Bxs.suf : ∀ {vs : List V} {rs : List R} {B : Lo}, Bxs B B' vs rs → ∃ C, B' = C ++ B
  | [], _, _, h => ⟨[], h⟩
  | _ :: _, [], _, h => ⟨[], h⟩
  | v :: vs, r :: rs, B, ⟨B1, h1, h2⟩ => by
    obtain ⟨C, rfl⟩ := h1.suf
    obtain ⟨C', rfl⟩ := Bxs.suf h2
    exact ⟨C' ++ C, by rw [List.append_assoc]⟩
theorem S.dropAll : ∀ {C : Lo}, S K T (C ++ B) H σ δ → S K T B H σ δ
  | [], h => h
  | _ :: C, h => S.dropAll (C := C) h.drop
theorem ow_suf {C : Lo} : ∀ a ∈ ow δ B, a ∈ ow δ (C ++ B) := fun a m => by
  rcases mem_ow.mp m with h | ⟨u, h⟩
  · exact mem_ow.mpr (.inl h)
  · exact mem_ow.mpr (.inr ⟨u, List.mem_append_right _ h⟩)
theorem Vr.later {δ2 : List Sl} {H2 : Hp} {C : Lo} (h : Vr K B σ δ H v r) (g : Go (ow δ B) (ow δ2 (C ++ B)) H H2) : Vr K (C ++ B) σ δ2 H2 v r := by
  cases r with
  | val d => exact dp_mono g.rk _ _ h
  | new u => obtain ⟨p, e, m⟩ := h; exact ⟨p, e, List.mem_append_right _ m⟩
  | bor i => exact h
theorem Vr.dp (s : S K T B H σ δ) (h : Vr K B σ δ H v r) {x : D} (a : AsD δ r x) : Dp K H v x := by
  cases r with
  | val d => cases a; exact dp_full h
  | new u =>
    obtain ⟨p, rfl, m⟩ := h
    cases u with
    | lst ds =>
      cases a
      obtain ⟨xs, h1, h2⟩ := s.loose _ m
      exact .lst (.inl (.inl h1)) (da_mono dl_rk _ _ h2)
    | dK _ => exact a.elim
    | dT _ => exact a.elim
  | bor i =>
    obtain ⟨b, ds, h1, rfl⟩ := a
    obtain ⟨q1, xs, q2, q3⟩ := s.ok i _ h1
    have h : σ[i]? = some (some v) := h
    rw [h] at q1
    cases q1
    exact .lst (.inl (.inl q2)) (da_mono dl_rk _ _ q3)
theorem Vrs.dp (s : S K T B H σ δ) : ∀ {vs : List V} {rs : List R} {ds : List D}, Vrs K B σ δ H vs rs → AsDs δ rs ds → DpAll K H vs ds
  | [], [], [], _, _ => .nil
  | v :: vs, r :: rs, d :: ds, h, a => .cons (h.1.dp s a.1) (Vrs.dp s h.2 a.2)
  | [], _ :: _, _, h, _ => h.elim
  | _ :: _, [], _, h, _ => h.elim
  | [], [], _ :: _, _, a => a.elim
  | _ :: _, _ :: _, [], _, a => a.elim
/-- the ends of an operation at a state -/
theorem out_rs {Q : VK} (s : S K T B H σ δ) (g : Go A0 (ow δ B) H0 H) (k : ∀ v H' r δ' B', RS K T B B' A0 H0 H' σ δ' v r → P r δ' → Q v H') : Out K H (fun r => P r δ) Q where
  val := fun u z h p => k u H (.val z) δ B ⟨s, g, dp_mono rk_N0 _ _ h, rfl⟩ p
  old := fun u z h hi p => k u H (.val z) δ B ⟨s, g, s.imm hi h, rfl⟩ p
  lst := fun p xs es hp hx hi pr => k _ _ (.new (.lst es)) δ ((p, .lst es) :: B) ⟨s.owned hp ⟨xs, upd_same, da_imm s.tk _ _ hi hx⟩, g.trans (go_new hp), ⟨p, rfl, List.mem_cons_self⟩, ⟨p, rfl, rfl⟩⟩ pr
  tup := fun p xs es hp hx hi pr => k _ _ (.val (.tuple es)) δ B ⟨s.laid hp, g.trans (go_upd hp),
    .tup (.inl (.inl (dl_of upd_same (s.free hp)))) (da_mono (go_upd hp).rk _ _ (da_imm s.tk _ _ hi hx)), rfl⟩ pr
  dK := fun p hp pr => k _ _ (.new (.dK [])) δ ((p, .dK []) :: B) ⟨s.owned hp ⟨[], upd_same, trivial⟩, g.trans (go_new hp), ⟨p, rfl, List.mem_cons_self⟩, ⟨p, rfl, rfl⟩⟩ pr
  dT := fun p hp pr => k _ _ (.new (.dT [])) δ ((p, .dT []) :: B) ⟨s.owned hp ⟨[], upd_same, trivial⟩, g.trans (go_new hp), ⟨p, rfl, List.mem_cons_self⟩, ⟨p, rfl, rfl⟩⟩ pr
theorem out_suf {Q : VK} {C : Lo} (s : S K T (C ++ B) H σ δ) (g : Go A0 (ow δ (C ++ B)) H0 H) (k : ∀ v H' r δ' B', RS K T B B' A0 H0 H' σ δ' v r → P r δ' → Q v H') : Out K H (fun r => P r δ) Q :=
  out_rs s.dropAll (g.less ow_suf) k
theorem ex_var {i : Nat} {d : D} (h : δ[i]? = some (.val d)) (p : P (.val d) δ) : Ex K T (tVar i) δ P := fun B H σ s Q k => by
  obtain ⟨v, h1, h2⟩ := s.ok i _ h
  exact ⟨v, h1, k v H (.val d) δ B ⟨s, .refl, h2, rfl⟩ p⟩
theorem ex_bor {i : Nat} {a : Addr} {u : OV} (h : δ[i]? = some (.own a u)) (p : P (.bor i) δ) : Ex K T (tVar i) δ P := fun B H σ s Q k => by
  obtain ⟨h1, h2⟩ := s.ok i _ h
  exact ⟨.ref a, h1, k _ H (.bor i) δ B ⟨s, .refl, h1, rfl⟩ p⟩
theorem ex_c {c : V} {d : D} (h : Dp K N0 c d) (p : P (.val d) δ) : Ex K T (tC c) δ P := fun B H σ s Q k => k c H (.val d) δ B ⟨s, .refl, dp_mono rk_N0 _ _ h, rfl⟩ p
theorem ex_int {i : Int} (p : P (.val (.int i)) δ) : Ex K T (tC (.int i)) δ P := ex_c (.int _) p
theorem ex_bl {b : Bool} (p : P (.val (.bool b)) δ) : Ex K T (tC (.bl b)) δ P := ex_c (.bl _) p
theorem ex_str {x : Str} (p : P (.val (.str x)) δ) : Ex K T (tC (.str x)) δ P := ex_c (.str _) p
theorem ex_non (p : P (.val .none) δ) : Ex K T (tC .non) δ P := ex_c .non p
theorem Ex.imp {P' : R → List Sl → Prop} (h : Ex K T te δ P) (k : ∀ r δ', P r δ' → P' r δ') : Ex K T te δ P' := fun B H σ s Q q => h B H σ s Q fun v H' r δ' B' rs p => q v H' r δ' B' rs (k r δ' p)
theorem ExT.imp {P P' : Bool → List Sl → Prop} (h : ExT K T tt δ P) (k : ∀ r δ', P r δ' → P' r δ') : ExT K T tt δ P' := fun B H σ s Q q => h B H σ s Q fun v H' δ' rs g p => q v H' δ' rs g (k v δ' p)
theorem ex_op {rr : R2} (h : Ex K T ta δ fun r1 δ1 => Ex K T tb δ1 fun r2 δ2 => ∃ x y, AsD δ2 r1 x ∧ AsD δ2 r2 y ∧ OpD K rr x y fun z => P z δ2) : Ex K T (tOp rr ta tb) δ P := fun B H σ s Q k =>
  h B H σ s _ fun v H1 r1 δ1 B1 R1 h1 => h1 B1 H1 σ R1.s _ fun w H2 r2 δ2 B2 R2 ⟨x, y, a1, a2, o⟩ => by
    obtain ⟨C1, rfl⟩ := R1.bx.suf
    obtain ⟨C2, rfl⟩ := R2.bx.suf
    have s2 := R2.s
    have d1 := (R1.vr.later R2.go).dp s2 a1
    have d2 := R2.vr.dp s2 a2
    have g := R1.go.trans R2.go
    rw [← List.append_assoc] at s2 g
    exact o H2 v w Q d1 d2 (out_suf s2 g k)
theorem ex_un {rr : V → Hp → VK → Prop} (h : Ex K T ta δ fun r1 δ1 => ∃ x, AsD δ1 r1 x ∧ UnD K rr x fun z => P z δ1) : Ex K T (tUn rr ta) δ P := fun B H σ s Q k =>
  h B H σ s _ fun v H1 r1 δ1 B1 R1 ⟨x, a1, o⟩ => by
    obtain ⟨C1, rfl⟩ := R1.bx.suf
    exact o H1 v Q (R1.vr.dp R1.s a1) (out_suf R1.s R1.go k)
theorem opd_I0 {g : Int → Int → V} {i j : Int} {z : D} {P : R → Prop} (hz : Dp K N0 (g i j) z) (h : P (.val z)) : OpD K (rI0 g) (.int i) (.int j) P := fun H v w Q h1 h2 o => by
  cases h1
  cases h2
  exact ⟨i, j, rfl, rfl, o.val _ _ hz h⟩
theorem opd_I {C : Int → Int → Prop} {g : Int → Int → V} {i j : Int} {z : D} {P : R → Prop} (hc : C i j) (hz : Dp K N0 (g i j) z) (h : P (.val z)) : OpD K (rI C g) (.int i) (.int j) P := fun H v w Q h1 h2 o => by
  cases h1
  cases h2
  exact ⟨i, j, rfl, rfl, hc, o.val _ _ hz h⟩
theorem und_I {g : Int → V} {i : Int} {z : D} {P : R → Prop} (hz : Dp K N0 (g i) z) (h : P (.val z)) : UnD K (rU g) (.int i) P := fun H v Q h1 o => by
  cases h1
  exact ⟨i, rfl, o.val _ _ hz h⟩
theorem opd_eqD {x y : D} {P : R → Prop} (hx : SeqAt.shaped x = true) (hy : SeqAt.shaped y = true) (h : P (.val (.bool (PyData.eqv x y)))) : OpD K (rEqD K) x y P := fun H v w Q h1 h2 o => ⟨x, y, h1, h2, hx, hy, o.val _ _ (.bl _) h⟩
theorem opd_neD {x y : D} {P : R → Prop} (hx : SeqAt.shaped x = true) (hy : SeqAt.shaped y = true) (h : P (.val (.bool (!PyData.eqv x y)))) : OpD K (rNeD K) x y P := fun H v w Q h1 h2 o => ⟨x, y, h1, h2, hx, hy, o.val _ _ (.bl _) h⟩
theorem opd_inD {x : D} {ds : List D} {P : R → Prop} (hx : SeqAt.shaped x = true) (hy : SeqAt.shaped (.list ds) = true) (h : P (.val (.bool (ds.any fun z => PyData.eqv z x)))) : OpD K (rInD K) x (.list ds) P := fun H v w Q h1 h2 o => ⟨x, ds, h1, h2, hx, hy, o.val _ _ (.bl _) h⟩
theorem opd_notInD {x : D} {ds : List D} {P : R → Prop} (hx : SeqAt.shaped x = true) (hy : SeqAt.shaped (.list ds) = true) (h : P (.val (.bool (!ds.any fun z => PyData.eqv z x)))) : OpD K (rNotInD K) x (.list ds) P := fun H v w Q h1 h2 o => ⟨x, ds, h1, h2, hx, hy, o.val _ _ (.bl _) h⟩
/-- ints and bools compared -/
theorem opd_eqI {i j : Int} {P : R → Prop} (h : P (.val (.bool (decide (i = j))))) : OpD K rEq (.int i) (.int j) P := fun H v w Q h1 h2 o => by
  cases h1
  cases h2
  refine ⟨rfl, o.val _ _ (.bl _) ?_⟩
  have e : decide (V.int i = V.int j) = decide (i = j) := decide_eq_decide.mpr ⟨fun e => by cases e; rfl, fun e => by rw [e]⟩
  rw [e]
  exact h
theorem opd_neI {i j : Int} {P : R → Prop} (h : P (.val (.bool (!decide (i = j))))) : OpD K rNe (.int i) (.int j) P := fun H v w Q h1 h2 o => by
  cases h1
  cases h2
  refine ⟨rfl, o.val _ _ (.bl _) ?_⟩
  have e : decide (V.int i = V.int j) = decide (i = j) := decide_eq_decide.mpr ⟨fun e => by cases e; rfl, fun e => by rw [e]⟩
  rw [e]
  exact h
theorem exa_nil {P : List R → List Sl → Prop} (p : P [] δ) : ExA K T tNil δ P := fun B H σ s Q k => k [] H [] δ B ⟨s, .refl, trivial, rfl⟩ p
theorem Vrs.later {δ2 : List Sl} {H2 : Hp} {C : Lo} (g : Go (ow δ B) (ow δ2 (C ++ B)) H H2) : ∀ {vs : List V} {rs : List R}, Vrs K B σ δ H vs rs → Vrs K (C ++ B) σ δ2 H2 vs rs
  | [], [], _ => trivial
  | _ :: _, _ :: _, h => ⟨h.1.later g, Vrs.later g h.2⟩
  | [], _ :: _, h => h.elim
  | _ :: _, [], h => h.elim
theorem exa_cons {P : List R → List Sl → Prop} {tr : TA} (h : Ex K T te δ fun r δ1 => ExA K T tr δ1 fun rs δ2 => P (r :: rs) δ2) : ExA K T (tCons te tr) δ P := fun B H σ s Q k =>
  h B H σ s _ fun v H1 r δ1 B1 R1 h1 => h1 B1 H1 σ R1.s _ fun vs H2 rs δ2 B2 R2 p => by
    obtain ⟨C2, e2⟩ := R2.bx.suf
    refine k (v :: vs) H2 (r :: rs) δ2 B2 ⟨R2.s, R1.go.trans R2.go, ⟨?_, R2.vr⟩, B1, R1.bx, R2.bx⟩ p
    have q := R2.go
    rw [e2] at q ⊢
    exact R1.vr.later q
/-- all are data -/
def Vals0 : List R → List D → Prop
  | [], [] => True
  | .val d :: rs, e :: ds => e = d ∧ Vals0 rs ds
  | _, _ => False
theorem vals0_bx : ∀ {vs : List V} {rs : List R} {ds : List D} {B : Lo}, Bxs B B' vs rs → Vals0 rs ds → B' = B
  | [], [], [], _, h, _ => h
  | _ :: _, .val d :: rs, e :: ds, B, ⟨B1, h1, h2⟩, a => by
    have e1 : B1 = B := h1
    rw [← e1]
    exact vals0_bx h2 a.2
  | [], .val d :: rs, e :: ds, _, h, _ => h
  | _ :: _, [], [], _, h, _ => h
  | _, .new _ :: _, _, _, _, a => by cases a
  | _, .bor _ :: _, _, _, _, a => by cases a
  | _, [], _ :: _, _, _, a => a.elim
  | _, .val _ :: _, [], _, _, a => by cases a
theorem vals0_dp : ∀ {vs : List V} {rs : List R} {ds : List D}, Vrs K B σ δ H vs rs → Vals0 rs ds → DpAll K (dl H (ow δ B)) vs ds
  | [], [], [], _, _ => .nil
  | _ :: _, .val d :: rs, e :: ds, h, a => by
    obtain ⟨a1, a2⟩ := a
    subst a1
    exact .cons h.1 (vals0_dp h.2 a2)
  | [], .val d :: rs, e :: ds, h, _ => h.elim
  | _ :: _, [], [], h, _ => h.elim
  | _, .new _ :: _, _, _, a => by cases a
  | _, .bor _ :: _, _, _, a => by cases a
  | _, [], _ :: _, _, a => a.elim
  | _, .val _ :: _, [], _, a => by cases a
theorem ex_tup {ta : TA} (h : ExA K T ta δ fun rs δ1 => ∃ ds, Vals0 rs ds ∧ ds.length ≤ 100000 ∧ P (.val (.tuple ds)) δ1) : Ex K T (tTup ta) δ P := fun B H σ s Q k =>
  h B H σ s _ fun vs H1 rs δ1 B1 R1 ⟨ds, a, hl, p⟩ => by
    obtain rfl := vals0_bx R1.bx a
    have hd := vals0_dp R1.vr a
    refine ⟨by rw [da_len hd]; exact Nat.le_trans hl (by decide), fun q hq => k _ _ (.val (.tuple ds)) δ1 _ ⟨R1.s.laid hq, R1.go.trans (go_upd hq), ?_, rfl⟩ p⟩
    exact .tup (.inl (.inl (dl_of upd_same (R1.s.free hq)))) (da_mono (go_upd hq).rk _ _ hd)
theorem ex_lst {ta : TA} (h : ExA K T ta δ fun rs δ1 => ∃ ds, Vals0 rs ds ∧ ds.length ≤ 100000 ∧ P (.new (.lst ds)) δ1) : Ex K T (tLst ta) δ P := fun B H σ s Q k =>
  h B H σ s _ fun vs H1 rs δ1 B1 R1 ⟨ds, a, hl, p⟩ => by
    obtain rfl := vals0_bx R1.bx a
    have hd := vals0_dp R1.vr a
    exact ⟨by rw [da_len hd]; exact Nat.le_trans hl (by decide), fun q hq => k _ _ (.new (.lst ds)) δ1 _ ⟨R1.s.owned (u := .lst ds) hq ⟨vs, upd_same, hd⟩, R1.go.trans (go_new hq), ⟨q, rfl, List.mem_cons_self⟩, ⟨q, rfl, rfl⟩⟩ p⟩
theorem at_dp {xs : List V} {ds : List D} {i : Int} {d : D} (h : DpAll K H xs ds) (e : atI ds i = some d) : ∃ v, atI xs i = some v ∧ Dp K H v d := by
  unfold atI at e ⊢
  rw [da_len h]
  cases q : ixN ds.length i with
  | none => rw [q] at e; cases e
  | some j =>
    rw [q] at e
    exact da_get h e
theorem ex_ixL (h : Ex K T ta δ fun r1 δ1 => Ex K T tb δ1 fun r2 δ2 => ∃ ds i d, AsD δ2 r1 (.list ds) ∧ AsD δ2 r2 (.int i) ∧ atI ds i = some d ∧ (imm d = true ∨ ∃ e, r1 = .val e) ∧ P (.val d) δ2) : Ex K T (tOp (rIxL K) ta tb) δ P := fun B H σ s Q k =>
  h B H σ s _ fun v H1 r1 δ1 B1 R1 h1 => h1 B1 H1 σ R1.s _ fun w H2 r2 δ2 B2 R2 ⟨ds, i, d, a1, a2, e, hi, p⟩ => by
    obtain ⟨C1, rfl⟩ := R1.bx.suf
    obtain ⟨C2, rfl⟩ := R2.bx.suf
    have s2 := R2.s
    have v1 := R1.vr.later R2.go
    have d2 := R2.vr.dp s2 a2
    have g := R1.go.trans R2.go
    have s3 := s2
    have g3 := g
    rw [← List.append_assoc] at s3 g3
    have sB := s3.dropAll
    have gB := g3.less ow_suf
    cases d2
    rcases hi with hi | ⟨e1, rfl⟩
    · have d1 := v1.dp s2 a1
      cases d1 with
      | lst hs ha =>
        obtain ⟨u, e1, e2⟩ := at_dp ha e
        exact ⟨_, _, i, u, rfl, rfl, hs, e1, k u H2 (.val d) δ2 B ⟨sB, gB, sB.imm hi e2, rfl⟩ p⟩
    · cases a1
      have v1 : Dp K (dl H2 (ow δ2 (C2 ++ (C1 ++ B)))) v (.list ds) := v1
      cases v1 with
      | lst hs ha =>
        obtain ⟨u, e1, e2⟩ := at_dp ha e
        refine ⟨_, _, i, u, rfl, rfl, dl_rk.sqL hs, e1, k u H2 (.val d) δ2 B ⟨sB, gB, dp_mono (dl_less fun a m => ?_) _ _ e2, rfl⟩ p⟩
        rw [← List.append_assoc]
        exact ow_suf a m
theorem ex_ixT (h : Ex K T ta δ fun r1 δ1 => Ex K T tb δ1 fun r2 δ2 => ∃ ds i d, r1 = .val (.tuple ds) ∧ AsD δ2 r2 (.int i) ∧ atI ds i = some d ∧ P (.val d) δ2) : Ex K T (tOp (rIxT K) ta tb) δ P := fun B H σ s Q k =>
  h B H σ s _ fun v H1 r1 δ1 B1 R1 h1 => h1 B1 H1 σ R1.s _ fun w H2 r2 δ2 B2 R2 ⟨ds, i, d, a1, a2, e, p⟩ => by
    obtain ⟨C1, rfl⟩ := R1.bx.suf
    obtain ⟨C2, rfl⟩ := R2.bx.suf
    have s2 := R2.s
    have v1 := R1.vr.later R2.go
    have d2 := R2.vr.dp s2 a2
    have g := R1.go.trans R2.go
    have s3 := s2
    have g3 := g
    rw [← List.append_assoc] at s3 g3
    have sB := s3.dropAll
    have gB := g3.less ow_suf
    cases d2
    subst a1
    have v1 : Dp K (dl H2 (ow δ2 (C2 ++ (C1 ++ B)))) v (.tuple ds) := v1
    cases v1 with
    | tup hs ha =>
      obtain ⟨u, e1, e2⟩ := at_dp ha e
      refine ⟨_, _, i, u, rfl, rfl, dl_rk.sqT hs, e1, k u H2 (.val d) δ2 B ⟨sB, gB, dp_mono (dl_less fun a m => ?_) _ _ e2, rfl⟩ p⟩
      rw [← List.append_assoc]
      exact ow_suf a m
theorem et_B {P' : Bool → List Sl → Prop} (h : Ex K T te δ fun r δ' => ∃ b, r = .val (.bool b) ∧ P' b δ') : ExT K T (tB te) δ P' := fun B H σ s Q k =>
  h B H σ s _ fun v H1 r δ1 B1 R1 ⟨b, e, p⟩ => by
    subst e
    have hb : B1 = B := R1.bx
    subst hb
    have v1 : Dp K _ v (.bool b) := R1.vr
    cases v1
    exact ⟨b, rfl, k b H1 δ1 R1.s R1.go p⟩
theorem et_test {P' : Bool → List Sl → Prop} (h : Ex K T te δ fun r δ' => ∃ b, r = .val (.bool b) ∧ P' b δ') : ExT K T (tTest te) δ P' := fun B H σ s Q k =>
  h B H σ s _ fun v H1 r δ1 B1 R1 ⟨b, e, p⟩ => by
    subst e
    have hb : B1 = B := R1.bx
    subst hb
    have v1 : Dp K _ v (.bool b) := R1.vr
    cases v1
    exact ⟨b, rfl, k b H1 δ1 R1.s R1.go p⟩
theorem et_and {P' : Bool → List Sl → Prop} (h : ExT K T t1 δ fun b δ1 => if b = true then ExT K T t2 δ1 P' else P' false δ1) : ExT K T (tAnd t1 t2) δ P' := fun B H σ s Q k =>
  h B H σ s _ fun b H1 δ1 s1 g1 p => by
    cases b with
    | true =>
      show t2 σ H1 Q
      rw [if_pos rfl] at p
      exact p B H1 σ s1 Q fun b H2 δ2 s2 g2 p2 => k b H2 δ2 s2 (g1.trans g2) p2
    | false =>
      show Q false H1
      rw [if_neg Bool.false_ne_true] at p
      exact k false H1 δ1 s1 g1 p
theorem et_or {P' : Bool → List Sl → Prop} (h : ExT K T t1 δ fun b δ1 => if b = true then P' true δ1 else ExT K T t2 δ1 P') : ExT K T (tOr t1 t2) δ P' := fun B H σ s Q k =>
  h B H σ s _ fun b H1 δ1 s1 g1 p => by
    cases b with
    | true =>
      show Q true H1
      rw [if_pos rfl] at p
      exact k true H1 δ1 s1 g1 p
    | false =>
      show t2 σ H1 Q
      rw [if_neg Bool.false_ne_true] at p
      exact p B H1 σ s1 Q fun b H2 δ2 s2 g2 p2 => k b H2 δ2 s2 (g1.trans g2) p2
theorem ex_andV (h : Ex K T ta δ fun r δ1 => ∃ b, r = .val (.bool b) ∧ if b = true then Ex K T tb δ1 P else P (.val (.bool false)) δ1) : Ex K T (tAndV ta tb) δ P := fun B H σ s Q k =>
  h B H σ s _ fun v H1 r δ1 B1 R1 ⟨b, e, p⟩ => by
    subst e
    have hb : B1 = B := R1.bx
    subst hb
    have v1 : Dp K _ v (.bool b) := R1.vr
    cases v1
    refine ⟨b, rfl, ?_⟩
    cases b with
    | true =>
      rw [if_pos rfl] at p ⊢
      exact p B1 H1 σ R1.s Q fun v H2 r δ2 B2 R2 p2 => k v H2 r δ2 B2 ⟨R2.s, R1.go.trans R2.go, R2.vr, R2.bx⟩ p2
    | false =>
      rw [if_neg Bool.false_ne_true] at p ⊢
      exact k _ H1 (.val (.bool _)) δ1 B1 ⟨R1.s, R1.go, Dp.bl _, rfl⟩ p
theorem ex_orV (h : Ex K T ta δ fun r δ1 => ∃ b, r = .val (.bool b) ∧ if b = true then P (.val (.bool true)) δ1 else Ex K T tb δ1 P) : Ex K T (tOrV ta tb) δ P := fun B H σ s Q k =>
  h B H σ s _ fun v H1 r δ1 B1 R1 ⟨b, e, p⟩ => by
    subst e
    have hb : B1 = B := R1.bx
    subst hb
    have v1 : Dp K _ v (.bool b) := R1.vr
    cases v1
    refine ⟨b, rfl, ?_⟩
    cases b with
    | true =>
      rw [if_pos rfl] at p ⊢
      exact k _ H1 (.val (.bool _)) δ1 B1 ⟨R1.s, R1.go, Dp.bl _, rfl⟩ p
    | false =>
      rw [if_neg Bool.false_ne_true] at p ⊢
      exact p B1 H1 σ R1.s Q fun v H2 r δ2 B2 R2 p2 => k v H2 r δ2 B2 ⟨R2.s, R1.go.trans R2.go, R2.vr, R2.bx⟩ p2
theorem ex_notV (h : Ex K T ta δ fun r δ1 => ∃ b, r = .val (.bool b) ∧ P (.val (.bool (!b))) δ1) : Ex K T (tNotV ta) δ P := fun B H σ s Q k =>
  h B H σ s _ fun v H1 r δ1 B1 R1 ⟨b, e, p⟩ => by
    subst e
    have hb : B1 = B := R1.bx
    subst hb
    have v1 : Dp K _ v (.bool b) := R1.vr
    cases v1
    exact ⟨b, rfl, k _ H1 (.val (.bool _)) δ1 B1 ⟨R1.s, R1.go, Dp.bl _, rfl⟩ p⟩
theorem ex_if (h : ExT K T tt δ fun b δ1 => if b = true then Ex K T ta δ1 P else Ex K T tb δ1 P) : Ex K T (tIf tt ta tb) δ P := fun B H σ s Q k =>
  h B H σ s _ fun b H1 δ1 s1 g1 p => by
    cases b with
    | true =>
      rw [if_pos rfl] at p ⊢
      exact p B H1 σ s1 Q fun v H2 r δ2 B2 R2 p2 => k v H2 r δ2 B2 ⟨R2.s, g1.trans R2.go, R2.vr, R2.bx⟩ p2
    | false =>
      rw [if_neg Bool.false_ne_true] at p ⊢
      exact p B H1 σ s1 Q fun v H2 r δ2 B2 R2 p2 => k v H2 r δ2 B2 ⟨R2.s, g1.trans R2.go, R2.vr, R2.bx⟩ p2
end
end Pl
set_option Elab.async false
set_option linter.all false
set_option maxRecDepth 100000
set_option maxHeartbeats 1000001
namespace Pl
open PySem L2 LamX NdefX
structure Es where
  nx : List Sl → Prop
  rt : R → List Sl → Prop
  bk : List Sl → Prop := fun _ => False
  ct : List Sl → Prop := fun _ => False
section
variable (K : PySem.W.Frag) (T : List NTab)
def Ss (ts : TS) (δ : List Sl) (E : Es) : Prop := ∀ (B : Lo) (H : Hp) (σ : L2.St), S K T B H σ δ → ∀ D : Ends,
  (∀ σ' H' δ', S K T B H' σ' δ' → Go (ow δ B) (ow δ' B) H H' → E.nx δ' → D.nx σ' H') →
  (∀ v σ' H' r δ' B', RS K T B B' (ow δ B) H H' σ' δ' v r → E.rt r δ' → D.rt v H') →
  (∀ σ' H' δ', S K T B H' σ' δ' → Go (ow δ B) (ow δ' B) H H' → E.bk δ' → D.bk σ' H') →
  (∀ σ' H' δ', S K T B H' σ' δ' → Go (ow δ B) (ow δ' B) H H' → E.ct δ' → D.ct σ' H') → ts D σ H
/-- a target gets data -/
def Gt (g : TG) (d : D) (δ : List Sl) (N : List Sl → Prop) : Prop := ∀ (B : Lo) (H : Hp) (σ : L2.St) (v : V), S K T B H σ δ → Dp K (dl H (ow δ B)) v d → ∀ Q : L2.St → Hp → Prop,
  (∀ σ' δ', S K T B H σ' δ' → Go (ow δ B) (ow δ' B) H H → N δ' → Q σ' H) → g v σ H Q
def StoreR (i : Nat) (δ : List Sl) (N : List Sl → Prop) : R → Prop
  | .val d => N (δ.set i (.val d))
  | .new u => i < δ.length ∧ ∀ p, N (δ.set i (.own p u))
  | .bor _ => False
/-- frozen -/
def Fz : R → D → Prop
  | .val d, x => x = d
  | .new (.lst ds), x => x = .list ds
  | _, _ => False
end
section
variable {K : PySem.W.Frag} {T : List NTab} {B B' B1 : Lo} {A0 : List Addr} {H0 H H' : Hp} {σ : L2.St} {δ δ' : List Sl} {v : V} {r : R} {E : Es} {te ta tb : TE} {tt t1 t2 : TT} {ts t u : TS} {g : TG}
theorem Go.set {x : Sl} {i : Nat} (h : ow1 x = []) : Go (ow δ B) (ow (δ.set i x) B) H H := (Go.refl (A := ow δ B)).less fun a m => (ow_sub h).subset m
theorem rs_fz {d : D} (h : RS K T B B' A0 H0 H σ δ v r) (f : Fz r d) : S K T B H σ δ ∧ Go A0 (ow δ B) H0 H ∧ Dp K (dl H (ow δ B)) v d := by
  cases r with
  | val e =>
    cases f
    have e1 : B' = B := h.bx
    subst e1
    exact ⟨h.s, h.go, h.vr⟩
  | new u =>
    cases u with
    | lst ds =>
      cases f
      obtain ⟨p, rfl, e1⟩ := h.bx
      subst e1
      exact ⟨h.s.drop, h.go.less ow_tail, h.s.frz⟩
    | dK _ => exact f.elim
    | dT _ => exact f.elim
  | bor i => exact f.elim
theorem gt_name {i : Nat} {d : D} {N : List Sl → Prop} (h : N (δ.set i (.val d))) : Gt K T (gName i) d δ N := fun B H σ v s hd Q k => k _ _ (s.setv hd) (Go.set rfl) h
theorem ss_next (h : E.nx δ) : Ss K T tNext δ E := fun B H σ s D kn _ _ _ => kn σ H δ s .refl h
theorem ss_break (h : E.bk δ) : Ss K T tBreak δ E := fun B H σ s D _ _ kb _ => kb σ H δ s .refl h
theorem ss_cont (h : E.ct δ) : Ss K T tCont δ E := fun B H σ s D _ _ _ kc => kc σ H δ s .refl h
theorem RS.pre {A1 : List Addr} {H1 : Hp} (g : Go A0 A1 H0 H1) (h : RS K T B B' A1 H1 H σ δ v r) : RS K T B B' A0 H0 H σ δ v r := ⟨h.s, g.trans h.go, h.vr, h.bx⟩
theorem ss_seq (h : Ss K T t δ { E with nx := fun δ1 => Ss K T u δ1 E }) : Ss K T (tSeq t u) δ E := fun B H σ s D kn kr kb kc =>
  h B H σ s { D with nx := u D } (fun σ1 H1 δ1 s1 g1 q => q B H1 σ1 s1 D (fun σ2 H2 δ2 s2 g2 n => kn σ2 H2 δ2 s2 (g1.trans g2) n) (fun v σ2 H2 r δ2 B2 R2 n => kr v σ2 H2 r δ2 B2 (R2.pre g1) n)
    (fun σ2 H2 δ2 s2 g2 n => kb σ2 H2 δ2 s2 (g1.trans g2) n) (fun σ2 H2 δ2 s2 g2 n => kc σ2 H2 δ2 s2 (g1.trans g2) n)) kr kb kc
/-- from a state on, behind a step -/
theorem Ss.after {H1 : Hp} {σ1 : L2.St} {δ1 : List Sl} (q : Ss K T t δ1 E) (s1 : S K T B H1 σ1 δ1) (g1 : Go (ow δ B) (ow δ1 B) H H1) {D : Ends}
    (kn : ∀ σ' H' δ', S K T B H' σ' δ' → Go (ow δ B) (ow δ' B) H H' → E.nx δ' → D.nx σ' H')
    (kr : ∀ v σ' H' r δ' B', RS K T B B' (ow δ B) H H' σ' δ' v r → E.rt r δ' → D.rt v H')
    (kb : ∀ σ' H' δ', S K T B H' σ' δ' → Go (ow δ B) (ow δ' B) H H' → E.bk δ' → D.bk σ' H')
    (kc : ∀ σ' H' δ', S K T B H' σ' δ' → Go (ow δ B) (ow δ' B) H H' → E.ct δ' → D.ct σ' H') : t D σ1 H1 :=
  q B H1 σ1 s1 D (fun σ2 H2 δ2 s2 g2 n => kn σ2 H2 δ2 s2 (g1.trans g2) n) (fun v σ2 H2 r δ2 B2 R2 n => kr v σ2 H2 r δ2 B2 (R2.pre g1) n)
    (fun σ2 H2 δ2 s2 g2 n => kb σ2 H2 δ2 s2 (g1.trans g2) n) (fun σ2 H2 δ2 s2 g2 n => kc σ2 H2 δ2 s2 (g1.trans g2) n)
theorem Ss.imp {E' : Es} (h : Ss K T t δ E) (h1 : ∀ δ', E.nx δ' → E'.nx δ') (h2 : ∀ r δ', E.rt r δ' → E'.rt r δ') (h3 : ∀ δ', E.bk δ' → E'.bk δ') (h4 : ∀ δ', E.ct δ' → E'.ct δ') : Ss K T t δ E' := fun B H σ s D kn kr kb kc =>
  h B H σ s D (fun σ' H' δ' s' g' n => kn σ' H' δ' s' g' (h1 _ n)) (fun v σ' H' r δ' B' R n => kr v σ' H' r δ' B' R (h2 _ _ n)) (fun σ' H' δ' s' g' n => kb σ' H' δ' s' g' (h3 _ n)) (fun σ' H' δ' s' g' n => kc σ' H' δ' s' g' (h4 _ n))
theorem ow_setn {p : Addr} {u : OV} {i : Nat} : ∀ a ∈ ow (δ.set i (.own p u)) B, a ∈ ow δ ((p, u) :: B) := fun a m => by
  rcases mem_ow.mp m with ⟨j, w, h⟩ | ⟨w, h⟩
  · rcases get_set h with ⟨rfl, _, e⟩ | ⟨_, h⟩
    · cases e
      exact mem_ow.mpr (.inr ⟨u, List.mem_cons_self⟩)
    · exact mem_ow.mpr (.inl ⟨j, w, h⟩)
  · exact mem_ow.mpr (.inr ⟨w, List.mem_cons_of_mem _ h⟩)
theorem ss_set {i : Nat} (h : Ex K T te δ fun r δ1 => StoreR i δ1 E.nx r) : Ss K T (tAsg te (gName i)) δ E := fun B H σ s D kn _ _ _ =>
  h B H σ s _ fun v H1 r δ1 B1 R1 q => by
    show D.nx (σ.set i (some v)) H1
    cases r with
    | val d =>
      have e : B1 = B := R1.bx
      subst e
      exact kn _ H1 _ (R1.s.setv R1.vr) (R1.go.trans (Go.set rfl)) q
    | new u =>
      obtain ⟨p, rfl, e⟩ := R1.bx
      subst e
      exact kn _ H1 _ (R1.s.setn q.1) (R1.go.less ow_setn) (q.2 p)
    | bor j => exact q.elim
theorem ss_ret (h : Ex K T te δ E.rt) : Ss K T (tRet te) δ E := fun B H σ s D _ kr _ _ => h B H σ s _ fun v H1 r δ1 B1 R1 q => kr v σ H1 r δ1 B1 R1 q
theorem ss_retN (h : E.rt (.val .none) δ) : Ss K T tRetN δ E := fun B H σ s D _ kr _ _ => kr .non σ H (.val .none) δ B ⟨s, .refl, Dp.non, rfl⟩ h
theorem ss_drop (h : Ex K T te δ fun _ δ1 => E.nx δ1) : Ss K T (tDrop te) δ E := fun B H σ s D kn _ _ _ => h B H σ s _ fun v H1 r δ1 B1 R1 q => by
  obtain ⟨C, rfl⟩ := R1.bx.suf
  exact kn σ H1 δ1 R1.s.dropAll (R1.go.less ow_suf) q
theorem ss_if (h : ExT K T tt δ fun b δ1 => if b = true then Ss K T t δ1 E else Ss K T u δ1 E) : Ss K T (tIfS tt t u) δ E := fun B H σ s D kn kr kb kc =>
  h B H σ s _ fun b H1 δ1 s1 g1 q => by
    cases b with
    | true =>
      rw [if_pos rfl] at q ⊢
      exact q.after s1 g1 kn kr kb kc
    | false =>
      rw [if_neg Bool.false_ne_true] at q ⊢
      exact q.after s1 g1 kn kr kb kc
/-- a name's list is data from now on -/
theorem ss_frz {i : Nat} {a : Addr} {ds : List D} (hi : δ[i]? = some (.own a (.lst ds))) (h : Ss K T ts (δ.set i (.val (.list ds))) E) : Ss K T ts δ E := fun B H σ s D kn kr kb kc =>
  h.after (s.frzAt hi) (Go.set rfl) kn kr kb kc
theorem ss_no {i : Nat} (h : Ss K T ts (δ.set i .no) E) : Ss K T ts δ E := fun B H σ s D kn kr kb kc => h.after s.no (Go.set rfl) kn kr kb kc
theorem ss_while {W : Nat → List Sl → Prop} (h0 : ∃ m, W m δ) (h : ∀ m δ, W m δ → ExT K T tt δ fun b δ1 => if b = true then Ss K T t δ1 ⟨fun δ' => ∃ m', m' < m ∧ W m' δ', E.rt, E.nx, fun δ' => ∃ m', m' < m ∧ W m' δ'⟩ else E.nx δ1) :
    Ss K T (tWhile tt t) δ E := fun B H σ s D kn kr kb kc => by
  obtain ⟨m0, w0⟩ := h0
  refine ⟨fun m σ1 H1 => ∃ δ1, S K T B H1 σ1 δ1 ∧ Go (ow δ B) (ow δ1 B) H H1 ∧ W m δ1, ⟨m0, δ, s, .refl, w0⟩, ?_⟩
  rintro m σ1 H1 ⟨δ1, s1, g1, w1⟩
  refine h m δ1 w1 B H1 σ1 s1 _ fun b H2 δ2 s2 g2 q => ?_
  cases b with
  | true =>
    rw [if_pos rfl] at q ⊢
    refine ⟨fun σ3 H3 => ∃ δ3, S K T B H3 σ3 δ3 ∧ Go (ow δ B) (ow δ3 B) H H3 ∧ ∃ m', m' < m ∧ W m' δ3, fun σ3 H3 ⟨δ3, s3, g3, m', hm, w3⟩ => ⟨m', hm, δ3, s3, g3, w3⟩, ?_⟩
    exact q.after (δ := δ) (H := H) s2 (g1.trans g2) (fun σ3 H3 δ3 s3 g3 n => ⟨δ3, s3, g3, n⟩) kr kn (fun σ3 H3 δ3 s3 g3 n => ⟨δ3, s3, g3, n⟩)
  | false =>
    rw [if_neg Bool.false_ne_true] at q ⊢
    exact kn σ1 H2 δ2 s2 (g1.trans g2) q
/-- over a list -/
theorem ss_forL (h : Ex K T te δ fun r δ1 => ∃ ds, Fz r (.list ds) ∧ ∃ W : Nat → List Sl → Prop, W 0 δ1 ∧
      (∀ i d δ2, ds[i]? = some d → W i δ2 → Gt K T g d δ2 fun δ3 => Ss K T t δ3 ⟨W (i + 1), E.rt, E.nx, W (i + 1)⟩) ∧ ∀ δ2, W ds.length δ2 → E.nx δ2) : Ss K T (tFor (iList K te) g t) δ E := fun B H σ s D kn kr kb kc =>
  h B H σ s _ fun v H1 r δ1 B1 R1 ⟨ds, f, W, w0, hs, hd⟩ => by
    obtain ⟨s1, g1, hv⟩ := rs_fz R1 f
    cases hv with
    | lst hq ha =>
      refine ⟨_, rfl, ⟨_, dl_rk.sqL hq⟩, for_list (fun i σ2 H2 => ∃ δ2, S K T B H2 σ2 δ2 ∧ Go (ow δ B) (ow δ2 B) H H2 ∧ Go (ow δ1 B) (ow δ2 B) H1 H2 ∧ W i δ2) ⟨δ1, s1, g1, .refl, w0⟩
        (fun i σ2 H2 _ ⟨δ2, s2, g2, g12, _⟩ => dl_rk.sqL (g12.rk.sqL hq)) (fun i x σ2 H2 hx ⟨δ2, s2, g2, g12, w2⟩ => ?_) (fun σ2 H2 ⟨δ2, s2, g2, g12, w2⟩ => ?_)⟩
      · obtain ⟨d, e1, e2⟩ := da_get' ha hx
        refine hs i d δ2 e1 w2 B H2 σ2 x s2 (dp_mono g12.rk _ _ e2) _ fun σ3 δ3 s3 g3 q => ?_
        exact q B H2 σ3 s3 { D with nx := _, ct := _, bk := D.nx } (fun σ4 H4 δ4 s4 g4 n => ⟨δ4, s4, (g2.trans g3).trans g4, (g12.trans g3).trans g4, n⟩) (fun v σ4 H4 r δ4 B4 R4 n => kr v σ4 H4 r δ4 B4 (R4.pre (g2.trans g3)) n)
          (fun σ4 H4 δ4 s4 g4 n => kn σ4 H4 δ4 s4 ((g2.trans g3).trans g4) n) (fun σ4 H4 δ4 s4 g4 n => ⟨δ4, s4, (g2.trans g3).trans g4, (g12.trans g3).trans g4, n⟩)
      · rw [da_len ha] at w2
        exact kn σ2 H2 δ2 s2 g2 (hd δ2 w2)
/-- over a tuple -/
theorem ss_forT (h : Ex K T te δ fun r δ1 => ∃ ds, r = .val (.tuple ds) ∧ ∃ W : Nat → List Sl → Prop, W 0 δ1 ∧
      (∀ i d δ2, ds[i]? = some d → W i δ2 → Gt K T g d δ2 fun δ3 => Ss K T t δ3 ⟨W (i + 1), E.rt, E.nx, W (i + 1)⟩) ∧ ∀ δ2, W ds.length δ2 → E.nx δ2) : Ss K T (tFor (iTup K te) g t) δ E := fun B H σ s D kn kr kb kc =>
  h B H σ s _ fun v H1 r δ1 B1 R1 ⟨ds, f, W, w0, hs, hd⟩ => by
    subst f
    obtain ⟨s1, g1, hv⟩ := rs_fz R1 (d := .tuple ds) rfl
    cases hv with
    | tup hq ha =>
      refine ⟨_, rfl, ⟨_, dl_rk.sqT hq⟩, for_tup (fun i σ2 H2 => ∃ δ2, S K T B H2 σ2 δ2 ∧ Go (ow δ B) (ow δ2 B) H H2 ∧ Go (ow δ1 B) (ow δ2 B) H1 H2 ∧ W i δ2) ⟨δ1, s1, g1, .refl, w0⟩
        (fun i σ2 H2 _ ⟨δ2, s2, g2, g12, _⟩ => dl_rk.sqT (g12.rk.sqT hq)) (fun i x σ2 H2 hx ⟨δ2, s2, g2, g12, w2⟩ => ?_) (fun σ2 H2 ⟨δ2, s2, g2, g12, w2⟩ => ?_)⟩
      · obtain ⟨d, e1, e2⟩ := da_get' ha hx
        refine hs i d δ2 e1 w2 B H2 σ2 x s2 (dp_mono g12.rk _ _ e2) _ fun σ3 δ3 s3 g3 q => ?_
        exact q B H2 σ3 s3 { D with nx := _, ct := _, bk := D.nx } (fun σ4 H4 δ4 s4 g4 n => ⟨δ4, s4, (g2.trans g3).trans g4, (g12.trans g3).trans g4, n⟩) (fun v σ4 H4 r δ4 B4 R4 n => kr v σ4 H4 r δ4 B4 (R4.pre (g2.trans g3)) n)
          (fun σ4 H4 δ4 s4 g4 n => kn σ4 H4 δ4 s4 ((g2.trans g3).trans g4) n) (fun σ4 H4 δ4 s4 g4 n => ⟨δ4, s4, (g2.trans g3).trans g4, (g12.trans g3).trans g4, n⟩)
      · rw [da_len ha] at w2
        exact kn σ2 H2 δ2 s2 g2 (hd δ2 w2)
/-- over range(n) -/
theorem ss_forR {ta : TA} {i : Nat} (h : ExA K T ta δ fun rs δ1 => ∃ n : Int, rs = [.val (.int n)] ∧ -(2 ^ 62) ≤ n ∧ n < 2 ^ 62 ∧ ∃ W : Nat → List Sl → Prop, W 0 δ1 ∧
      (∀ (k : Nat) δ2, (k : Int) < n → W k δ2 → Ss K T t (δ2.set i (.val (.int k))) ⟨W (k + 1), E.rt, E.nx, W (k + 1)⟩) ∧ ∀ δ2, W n.toNat δ2 → E.nx δ2) : Ss K T (tFor (iRng1 ta) (gName i) t) δ E := fun B H σ s D kn kr kb kc =>
  h B H σ s _ fun vs H1 rs δ1 B1 R1 ⟨n, f, hn1, hn2, W, w0, hs, hd⟩ => by
    subst f
    have e1 : B1 = B := vals0_bx (ds := [.int n]) R1.bx ⟨rfl, trivial⟩
    subst e1
    have hv : DpAll K (dl H1 (ow δ1 B1)) vs [.int n] := vals0_dp (ds := [.int n]) R1.vr ⟨rfl, trivial⟩
    have s1 := R1.s
    have g1 := R1.go
    cases hv with
    | cons hv1 hv2 =>
      cases hv1
      cases hv2
      refine ⟨n, rfl, hn1, hn2, for_range (fun k σ2 H2 => ∃ δ2, S K T B1 H2 σ2 δ2 ∧ Go (ow δ B1) (ow δ2 B1) H H2 ∧ W k δ2) ⟨δ1, s1, g1, w0⟩ (fun k σ2 H2 hk ⟨δ2, s2, g2, w2⟩ => ?_) (fun σ2 H2 ⟨δ2, s2, g2, w2⟩ => kn σ2 H2 δ2 s2 g2 (hd δ2 w2))⟩
      have ek : (0 : Int) + (k : Int) = (k : Int) := Int.zero_add _
      show t _ (σ2.set i (some (.int ((0 : Int) + (k : Int))))) H2
      rw [ek]
      exact (hs k δ2 (by omega) w2).after (δ := δ) (H := H) (D := { D with nx := _, ct := _, bk := D.nx }) (s2.setv (Dp.int _)) (g2.trans (Go.set rfl)) (fun σ4 H4 δ4 s4 g4 n => ⟨δ4, s4, g4, n⟩) kr kn (fun σ4 H4 δ4 s4 g4 n => ⟨δ4, s4, g4, n⟩)
end
end Pl
set_option Elab.async false
set_option linter.all false
set_option maxRecDepth 100000
set_option maxHeartbeats 1000001
namespace Pl
open PySem L2 LamX NdefX
section
variable {K : PySem.W.Frag} {T : List NTab} {B B' B1 : Lo} {A0 : List Addr} {H0 H H' : Hp} {σ : L2.St} {δ δ' : List Sl} {v : V} {r : R} {E : Es} {te ta tb : TE} {tt t1 t2 : TT} {ts t u : TS} {g : TG} {P : R → List Sl → Prop}
theorem S.hp (s : S K T B H σ δ) {i : Nat} {a : Addr} {u : OV} (hi : δ[i]? = some (.own a u)) : σ[i]? = some (some (.ref a)) ∧ Holds K (dl H (ow δ B)) H a u := s.ok i _ hi
theorem rs_write {i : Nat} {a : Addr} {u u' : OV} {o' : HO} {z : D} {w : V} (s : S K T B H σ δ) (g : Go A0 (ow δ B) H0 H) (hi : δ[i]? = some (.own a u)) (hh : Holds K (dl H (ow δ B)) (upd H a o') a u') (hz : Dp K (dl H (ow δ B)) w z) :
    RS K T B B A0 H0 (upd H a o') σ (δ.set i (.own a u')) w (.val z) := by
  have ma : a ∈ ow δ B := mem_ow.mpr (.inl ⟨i, u, hi⟩)
  have g1 : Go (ow δ B) (ow (δ.set i (.own a u')) B) H (upd H a o') := by
    rw [ow_same hi]
    exact go_own ma
  exact ⟨s.write hi hh, g.trans g1, dp_mono g1.rk _ _ hz, rfl⟩
/-- a method of a list that a name owns: ds becomes es, z comes back -/
def LmD (K : PySem.W.Frag) (rr : V → List V → Hp → VK → Prop) (ds args : List D) (Pk : D → List D → Prop) : Prop := ∀ (L H : Hp) (a : Addr) (xs vs : List V) (Q : VK), H a = some (.lst xs) → DpAll K L xs ds → DpAll K L vs args →
  (∀ w z ys es, Dp K L w z → DpAll K L ys es → Pk z es → Q w (upd H a (.lst ys))) → rr (.ref a) vs H Q
theorem ex_lm {rr : V → List V → Hp → VK → Prop} {i : Nat} {t : TA} (h : (∃ a ds, δ[i]? = some (.own a (.lst ds))) ∧ ExA K T t δ fun rs δ1 => ∃ args a ds, Vals0 rs args ∧ δ1[i]? = some (.own a (.lst ds)) ∧ LmD K rr ds args fun z es => P (.val z) (δ1.set i (.own a (.lst es)))) :
    Ex K T (tBM K "list" rr (tVar i) t) δ P := fun B H σ s Q k => by
  obtain ⟨⟨a, ds, hi⟩, h⟩ := h
  obtain ⟨h1, xs, h2, h3⟩ := s.hp hi
  refine ⟨.ref a, h1, .inl ⟨rfl, xs, .inl (.inl h2)⟩, ?_⟩
  refine h B H σ s _ fun vs H1 rs δ1 B1 R1 ⟨args, a1, ds1, va, hi1, m⟩ => ?_
  have e1 : B1 = B := vals0_bx R1.bx va
  subst e1
  obtain ⟨q1, ys, q2, q3⟩ := R1.s.hp hi1
  rw [h1] at q1
  cases q1
  exact m _ H1 a ys vs Q q2 q3 (vals0_dp R1.vr va) fun w z ys' es hz hes p => k w _ (.val z) _ B1 (rs_write (u' := .lst es) R1.s R1.go hi1 ⟨ys', upd_same, hes⟩ hz) p
theorem ex_lm0 {rr : V → List V → Hp → VK → Prop} {i : Nat} (h : ∃ a ds, δ[i]? = some (.own a (.lst ds)) ∧ LmD K rr ds [] fun z es => P (.val z) (δ.set i (.own a (.lst es)))) :
    Ex K T (tBM0 K "list" rr (tVar i)) δ P := fun B H σ s Q k => by
  obtain ⟨a, ds, hi, m⟩ := h
  obtain ⟨h1, xs, h2, h3⟩ := s.hp hi
  refine ⟨.ref a, h1, .inl ⟨rfl, xs, .inl (.inl h2)⟩, ?_⟩
  exact m _ H a xs [] Q h2 h3 .nil fun w z ys' es hz hes p => k w _ (.val z) _ B (rs_write (u' := .lst es) s .refl hi ⟨ys', upd_same, hes⟩ hz) p
theorem lm_append {ds : List D} {d : D} {Pk : D → List D → Prop} (hl : ds.length < 100000) (p : Pk .none (ds ++ [d])) : LmD K rAppend ds [d] Pk := fun L H a xs vs Q h1 h2 h3 k => by
  cases h3 with
  | cons h3 h4 =>
    cases h4
    exact ⟨a, xs, _, rfl, rfl, h1, by rw [da_len h2]; exact Nat.lt_of_lt_of_le hl (by decide), k _ _ _ _ .non (da_app h2 (da_one h3)) p⟩
theorem lm_pop {ds : List D} {d : D} {Pk : D → List D → Prop} (p : Pk d ds) : LmD K rPop (ds ++ [d]) [] Pk := fun L H a xs vs Q h1 h2 h3 k => by
  cases h3
  have hl := da_len h2
  rw [List.length_append, List.length_singleton] at hl
  obtain ⟨w, e1, e2⟩ := da_get h2 (i := ds.length) (d := d) (by rw [List.getElem?_append_right (Nat.le_refl _), Nat.sub_self]; rfl)
  refine ⟨a, xs, w, rfl, rfl, h1, by rw [hl, Nat.add_sub_cancel]; exact e1, k _ _ _ _ e2 ?_ p⟩
  have q := da_dropLast h2
  rwa [List.dropLast_concat] at q
/-- xs.extend(a new list) -/
theorem ex_ext {i : Nat} {t : TE} (h : (∃ a ds, δ[i]? = some (.own a (.lst ds))) ∧ Ex K T t δ fun r δ1 => ∃ a ds es, r = .new (.lst es) ∧ δ1[i]? = some (.own a (.lst ds)) ∧ ds.length + es.length ≤ 100000 ∧ P (.val .none) (δ1.set i (.own a (.lst (ds ++ es))))) :
    Ex K T (tBM K "list" rExtend (tVar i) (tCons t tNil)) δ P := fun B H σ s Q k => by
  obtain ⟨⟨a, ds, hi⟩, h⟩ := h
  obtain ⟨h1, xs, h2, h3⟩ := s.hp hi
  refine ⟨.ref a, h1, .inl ⟨rfl, xs, .inl (.inl h2)⟩, ?_⟩
  refine h B H σ s _ fun v H1 r δ1 B1 R1 ⟨a1, ds1, es, e, hi1, hl, p⟩ => ?_
  subst e
  obtain ⟨b, rfl, e1⟩ := R1.bx
  subst e1
  obtain ⟨zs, m1, m2⟩ := R1.s.loose _ List.mem_cons_self
  obtain ⟨q1, ys, q2, q3⟩ := R1.s.hp hi1
  rw [h1] at q1
  cases q1
  refine ⟨a, b, ys, zs, rfl, rfl, q2, m1, by rw [da_len q3, da_len m2]; exact Nat.le_trans hl (by decide), ?_⟩
  have w := rs_write (z := .none) (w := .non) R1.s R1.go hi1 (u' := .lst (ds1 ++ es)) (o' := .lst (ys ++ zs)) ⟨_, upd_same, da_app q3 m2⟩ .non
  exact k _ _ (.val .none) _ B ⟨w.s.drop, w.go.less ow_tail, Dp.non, rfl⟩ p
/-- xs[j] = e -/
theorem ss_setL {i : Nat} {ti : TE} (h : Ex K T te δ fun r δ1 => ∃ d, r = .val d ∧ (∃ a u, δ1[i]? = some (.own a u)) ∧ Ex K T ti δ1 fun r2 δ2 => ∃ (j : Int) (k : Nat) (a : Addr) (ds : List D), r2 = .val (.int j) ∧ δ2[i]? = some (.own a (.lst ds)) ∧ ixN ds.length j = some k ∧ E.nx (δ2.set i (.own a (.lst (ds.set k d))))) :
    Ss K T (tAsg te (gSub (tVar i) ti rSetL)) δ E := fun B H σ s D kn _ _ _ =>
  h B H σ s _ fun v H1 r δ1 B1 R1 ⟨d, e, ⟨a, u, hi⟩, h1⟩ => by
    subst e
    have e1 : B1 = B := R1.bx
    subst e1
    refine ⟨.ref a, (R1.s.hp hi).1, ?_⟩
    refine h1 B1 H1 σ R1.s _ fun w H2 r2 δ2 B2 R2 ⟨j, k, a2, ds, e2, hi2, hk, p⟩ => ?_
    subst e2
    have e3 : B2 = B1 := R2.bx
    subst e3
    have hw : Dp K _ w (.int j) := R2.vr
    cases hw
    obtain ⟨q1, ys, q2, q3⟩ := R2.s.hp hi2
    rw [(R1.s.hp hi).1] at q1
    cases q1
    have hv : Dp K (dl H2 (ow δ2 B2)) v d := dp_mono R2.go.rk _ _ R1.vr
    refine ⟨a, ys, j, k, rfl, rfl, q2, by rw [da_len q3]; exact hk, ?_⟩
    have w := rs_write (z := .none) (w := .non) R2.s (R1.go.trans R2.go) hi2 (u' := .lst (ds.set k d)) (o' := .lst (ys.set k v)) ⟨_, upd_same, da_set hv k q3⟩ .non
    exact kn σ _ _ w.s w.go p
theorem S.writeL {p : Addr} {u u' : OV} {o' : HO} (s : S K T ((p, u) :: B) H σ δ) (hh : Holds K (dl H (ow δ ((p, u) :: B))) (upd H p o') p u') : S K T ((p, u') :: B) (upd H p o') σ δ := by
  have ma : p ∈ ow δ ((p, u) :: B) := mem_ow.mpr (.inr ⟨u, List.mem_cons_self⟩)
  obtain ⟨o, q1, q2, q3⟩ := holds_obj (s.loose _ List.mem_cons_self)
  have g : Go (ow δ ((p, u) :: B)) (ow δ ((p, u) :: B)) H (upd H p o') := go_own ma
  have np : p ∉ ow δ B := s.cons_nd
  refine ⟨s.len, tab_upd q1 q2 q3 s.tab, fun j x h => ?_, fun q hq => ?_, s.nd⟩
  · have q := s.ok j x h
    cases x with
    | no => trivial
    | val d => obtain ⟨v, q1, q2⟩ := q; exact ⟨v, q1, dp_mono g.rk _ _ q2⟩
    | own b w => obtain ⟨q1, q2⟩ := q; exact ⟨q1, q2.mono (dp_mono g.rk) (upd_ne fun e => np (e ▸ mem_ow.mpr (.inl ⟨j, w, h⟩)))⟩
  · rcases List.mem_cons.mp hq with z | z
    · rw [z]; exact hh.mono (dp_mono g.rk) rfl
    · exact (s.loose q (List.mem_cons_of_mem _ z)).mono (dp_mono g.rk) (upd_ne fun e => np (e ▸ mem_ow.mpr (.inr ⟨q.2, z⟩)))
/-- one turn of a comprehension whose own name is in slot i; acc: what is made so far -/
def Turn1 (K : PySem.W.Frag) (T : List NTab) (i : Nat) (tt : TT) (te : TE) (δ : List Sl) (d : D) (acc acc' : List D) : Prop :=
  ExT K T tt (δ.set i (.val d)) fun b δ2 => δ2 = δ.set i (.val d) ∧ if b = true then Ex K T te (δ.set i (.val d)) fun r δ3 => ∃ z, r = .val z ∧ δ3 = δ.set i (.val d) ∧ acc' = acc ++ [z] ∧ acc.length < 100000 else acc' = acc
theorem S.back {i : Nat} {d : D} {x : Option V} (s : S K T B H (σ.set i x) (δ.set i (.val d))) (hi : δ[i]? = some .no) : S K T B H σ δ := by
  have hl : i < δ.length := (List.getElem?_eq_some_iff.mp hi).1
  have e : δ = (δ.set i (.val d)).set i .no := by
    rw [List.set_set]
    refine List.ext_getElem? fun j => ?_
    by_cases h : i = j
    · subst h
      rw [hi, List.getElem?_set_self hl]
    · rw [List.getElem?_set_ne h]
  have s1 := s.no (i := i)
  rw [← e] at s1
  refine ⟨by have := s1.len; rw [List.length_set] at this; exact this, s1.tab, fun j y h => ?_, s1.loose, s1.nd⟩
  by_cases hj : i = j
  · subst hj
    rw [hi] at h
    cases h
    trivial
  · have q := s1.ok j y h
    rw [List.getElem?_set_ne hj] at q
    exact q
theorem lc_turn {i : Nat} {p : Addr} {d : D} {acc acc' : List D} {x : V} {Nx : Hp → Prop} (hi : δ[i]? = some .no) (s : S K T ((p, .lst acc) :: B) H σ δ) (hx : Dp K (dl H (ow δ ((p, .lst acc) :: B))) x d) (h : Turn1 K T i tt te δ d acc acc')
    (k : ∀ H', S K T ((p, .lst acc') :: B) H' σ δ → Go (ow δ ((p, .lst acc) :: B)) (ow δ ((p, .lst acc') :: B)) H H' → Nx H') :
    gName i x (wipe σ [i]) H fun σ2 H2 => wipe σ2 [i] = wipe σ [i] ∧ tt σ2 H2 fun b H3 => if b = true then te σ2 H3 fun y H4 => ∃ ac, H4 p = some (.lst ac) ∧ ac.length < sizeLine ∧ Nx (upd H4 p (.lst (ac ++ [y]))) else Nx H3 := by
  have ew : ((wipe σ [i]).set i (some x)) = σ.set i (some x) := by
    show (σ.set i none).set i (some x) = _
    rw [List.set_set]
  show wipe ((wipe σ [i]).set i (some x)) [i] = wipe σ [i] ∧ tt ((wipe σ [i]).set i (some x)) H _
  refine ⟨?_, ?_⟩
  · rw [ew]
    show (σ.set i (some x)).set i none = σ.set i none
    rw [List.set_set]
  rw [ew]
  have s1 := s.setv (i := i) hx
  have g0 : Go (ow δ ((p, .lst acc) :: B)) (ow (δ.set i (.val d)) ((p, .lst acc) :: B)) H H := Go.set rfl
  have ob : ow (δ.set i (.val d)) ((p, .lst acc) :: B) = ow δ ((p, .lst acc) :: B) := by
    unfold ow
    congr 1
    clear h hx s s1 k g0 ew
    induction δ generalizing i with
    | nil => rfl
    | cons t r ih =>
      cases i with
      | zero =>
        have e : t = .no := Option.some.inj hi
        subst e
        rfl
      | succ i => rw [List.set_cons_succ, List.flatMap_cons, List.flatMap_cons, ih (by simpa using hi)]
  refine h _ H _ s1 _ fun b H3 δ3 s3 g3 ⟨e3, q⟩ => ?_
  subst e3
  cases b with
  | true =>
    rw [if_pos rfl] at q ⊢
    refine q _ H3 _ s3 _ fun y H4 r δ4 B4 R4 ⟨z, er, e4, ea, hl⟩ => ?_
    subst er
    subst e4
    subst ea
    have eB : B4 = (p, .lst acc) :: B := R4.bx
    subst eB
    obtain ⟨ac, m1, m2⟩ := R4.s.loose _ List.mem_cons_self
    refine ⟨ac, m1, by rw [da_len m2]; exact Nat.lt_of_lt_of_le hl (by decide), ?_⟩
    have s5 := R4.s.writeL (u' := .lst (acc ++ [z])) (o' := .lst (ac ++ [y])) ⟨_, upd_same, da_app m2 (da_one R4.vr)⟩
    refine k _ (s5.back hi) ?_
    have g := (g0.trans g3).trans R4.go
    rw [ob] at g
    exact g.trans (go_own (mem_ow.mpr (.inr ⟨_, List.mem_cons_self⟩)))
  | false =>
    rw [if_neg Bool.false_ne_true] at q ⊢
    subst q
    refine k _ (s3.back hi) ?_
    have g := g0.trans g3
    rw [ob] at g
    exact g
/-- [e for x in xs if t], xs a list -/
theorem ex_lcL {i : Nat} (h : Ex K T ta δ fun r δ1 => ∃ ds, Fz r (.list ds) ∧ δ1[i]? = some .no ∧ ∃ acc : Nat → List D, acc 0 = [] ∧ (∀ k d, ds[k]? = some d → Turn1 K T i tt te δ1 d (acc k) (acc (k + 1))) ∧ P (.new (.lst (acc ds.length))) δ1) :
    Ex K T (tLc (iList K ta) (gName i) tt te [i]) δ P := fun B H σ s Q k =>
  h B H σ s _ fun v H1 r δ1 B1 R1 ⟨ds, f, hi, acc, a0, turn, p⟩ => by
    obtain ⟨s1, g1, hv⟩ := rs_fz R1 f
    cases hv with
    | lst hq ha =>
      refine ⟨_, rfl, ⟨_, dl_rk.sqL hq⟩, fun C hC => ?_⟩
      have hl := da_len ha
      refine lc_list (fun m H2 => S K T ((C, .lst (acc m)) :: B) H2 σ δ1 ∧ Go (ow δ1 B) (ow δ1 ((C, .lst (acc m)) :: B)) H1 H2) ⟨?_, go_new hC⟩ (fun m H2 _ ⟨_, g2⟩ => dl_rk.sqL (g2.rk.sqL hq)) (fun m x H2 hx ⟨s2, g2⟩ => ?_) fun H2 ⟨s2, g2⟩ => ?_
      · rw [a0]
        exact s1.owned hC ⟨_, upd_same, .nil⟩
      · obtain ⟨d, e1, e2⟩ := da_get' ha hx
        exact lc_turn hi s2 (dp_mono g2.rk _ _ e2) (turn m d e1) fun H' s' g' => ⟨s', g2.trans g'⟩
      · rw [hl] at s2 g2
        exact k _ H2 (.new (.lst (acc ds.length))) δ1 _ ⟨s2, g1.trans g2, ⟨C, rfl, List.mem_cons_self⟩, ⟨C, rfl, rfl⟩⟩ p
theorem ex_lcT {i : Nat} (h : Ex K T ta δ fun r δ1 => ∃ ds, r = .val (.tuple ds) ∧ δ1[i]? = some .no ∧ ∃ acc : Nat → List D, acc 0 = [] ∧ (∀ k d, ds[k]? = some d → Turn1 K T i tt te δ1 d (acc k) (acc (k + 1))) ∧ P (.new (.lst (acc ds.length))) δ1) :
    Ex K T (tLc (iTup K ta) (gName i) tt te [i]) δ P := fun B H σ s Q k =>
  h B H σ s _ fun v H1 r δ1 B1 R1 ⟨ds, f, hi, acc, a0, turn, p⟩ => by
    subst f
    obtain ⟨s1, g1, hv⟩ := rs_fz R1 (d := .tuple ds) rfl
    cases hv with
    | tup hq ha =>
      refine ⟨_, rfl, ⟨_, dl_rk.sqT hq⟩, fun C hC => ?_⟩
      have hl := da_len ha
      refine lc_tup (fun m H2 => S K T ((C, .lst (acc m)) :: B) H2 σ δ1 ∧ Go (ow δ1 B) (ow δ1 ((C, .lst (acc m)) :: B)) H1 H2) ⟨?_, go_new hC⟩ (fun m H2 _ ⟨_, g2⟩ => dl_rk.sqT (g2.rk.sqT hq)) (fun m x H2 hx ⟨s2, g2⟩ => ?_) fun H2 ⟨s2, g2⟩ => ?_
      · rw [a0]
        exact s1.owned hC ⟨_, upd_same, .nil⟩
      · obtain ⟨d, e1, e2⟩ := da_get' ha hx
        exact lc_turn hi s2 (dp_mono g2.rk _ _ e2) (turn m d e1) fun H' s' g' => ⟨s', g2.trans g'⟩
      · rw [hl] at s2 g2
        exact k _ H2 (.new (.lst (acc ds.length))) δ1 _ ⟨s2, g1.trans g2, ⟨C, rfl, List.mem_cons_self⟩, ⟨C, rfl, rfl⟩⟩ p
end
end Pl
set_option Elab.async false
set_option linter.all false
set_option maxRecDepth 100000
set_option maxHeartbeats 1000001
namespace Pl
open PySem L2 LamX NdefX PyProof.Rows
inductive Ar where
  | val (d : D)
  | own (u : OV)
/-- the arguments, what is wanted of the result and of the owned arguments behind -/
abbrev FS := List Ar → (R → List OV → Prop) → Prop
def OvImm : OV → Prop
  | .lst ds => immAll ds = true
  | .dK kvs => ∀ p ∈ kvs, imm p.2 = true
  | .dT kvs => ∀ p ∈ kvs, imm p.2 = true
section
variable (K : PySem.W.Frag) (T : List NTab)
def ArgsOk (L H : Hp) : List V → List Ar → List Addr → Prop
  | [], [], [] => True
  | v :: vs, .val d :: as, ps => Dp K L v d ∧ ArgsOk L H vs as ps
  | v :: vs, .own u :: as, p :: ps => v = .ref p ∧ Holds K L H p u ∧ ArgsOk L H vs as ps
  | _, _, _ => False
/-- the new address of a result -/
def nwA (v : V) : R → List Addr
  | .new _ => (match v with | .ref p => [p] | _ => [])
  | _ => []
/-- Z: what the caller owns besides; it stays out of sight -/
def RvOk (Z : List Addr) (H H' : Hp) (v : V) : R → Prop
  | .val d => Dp K (dl H' Z) v d
  | .new u => ∃ p, v = .ref p ∧ H p = none ∧ Holds K (dl H' (p :: Z)) H' p u
  | .bor _ => False
def Behind (L H' : Hp) : List Addr → List OV → Prop
  | [], [] => True
  | p :: ps, u :: us => Holds K L H' p u ∧ Behind L H' ps us
  | _, _ => False
abbrev al (A : List Addr) (Z : Lo) : List Addr := A ++ Z.map (·.1)
structure After (A : List Addr) (Z : Lo) (H H' : Hp) (v : V) (r : R) (us : List OV) : Prop where
  res : RvOk K (al A Z) H H' v r
  args : Behind K (dl H' (nwA v r ++ al A Z)) H' A us
  rest : ∀ q ∈ Z, Holds K (dl H' (nwA v r ++ al A Z)) H' q.1 q.2
def spOf (F : FS) : Sp := fun vs H Q _ => ∃ (A : List Addr) (Z : Lo) (as : List Ar) (P : R → List OV → Prop), (al A Z).Nodup ∧ TabsN T H ∧ ArgsOk K (dl H (al A Z)) H vs as A ∧ (∀ q ∈ Z, Holds K (dl H (al A Z)) H q.1 q.2) ∧ F as P ∧
  ∀ v H' r us, TabsN T H' → Go (al A Z) (al A Z) H H' → After K A Z H H' v r us → P r us → Q v H'
/-- no list within a result and the owned arguments behind -/
def RImm (r : R) (us : List OV) : Prop := (match r with | .val d => imm d = true | .new u => OvImm u | .bor _ => False) ∧ ∀ u ∈ us, OvImm u
end
section
variable {K : PySem.W.Frag} {T : List NTab} {B B' B1 : Lo} {A A0 : List Addr} {H0 H H' : Hp} {σ : L2.St} {δ δ' : List Sl} {v : V} {r : R} {E : Es} {te ta tb : TE} {tt t1 t2 : TT} {ts t u : TS} {g : TG} {P : R → List Sl → Prop}
theorem Holds.imm {L L' : Hp} {a : Addr} {u : OV} (e : Tk L L') (hi : OvImm u) (h : Holds K L H a u) : Holds K L' H a u := by
  have kv : ∀ {κ : Type} {xs : List (κ × V)} {kvs : List (κ × D)}, (∀ p ∈ kvs, Pl.imm p.2 = true) → KvAll K L xs kvs → KvAll K L' xs kvs := by
    intro κ xs
    induction xs with
    | nil => intro kvs _ h; cases kvs with | nil => trivial | cons _ _ => exact h.elim
    | cons x xs ih =>
      intro kvs hi h
      cases kvs with
      | nil => exact h.elim
      | cons y ys =>
        obtain ⟨h1, h2, h3⟩ := h
        exact ⟨h1, dp_imm e _ _ (hi y List.mem_cons_self) h2, ih (fun p hp => hi p (List.mem_cons_of_mem _ hp)) h3⟩
  cases u with
  | lst ds => obtain ⟨xs, h1, h2⟩ := h; exact ⟨xs, h1, da_imm e _ _ hi h2⟩
  | dK ds => obtain ⟨xs, h1, h2⟩ := h; exact ⟨xs, h1, kv hi h2⟩
  | dT ds => obtain ⟨xs, h1, h2⟩ := h; exact ⟨xs, h1, kv hi h2⟩
theorem tk_mut {A : List Addr} (h : ∀ a ∈ A, ∃ L u, Holds K L H a u) : Tk H (dl H A) := fun a xs q => by
  rcases q with q | ⟨o, q⟩
  · refine .inl (dl_of q fun m => ?_)
    obtain ⟨L, u, hu⟩ := h a m
    obtain ⟨o, e, _, n, _⟩ := hu.some
    rw [q] at e
    cases e
    exact n xs rfl
  · refine .inr ⟨o, dl_of q fun m => ?_⟩
    obtain ⟨L, u, hu⟩ := h a m
    obtain ⟨o', e, _, _, n⟩ := hu.some
    rw [q] at e
    cases e
    exact n _ _ rfl
/-- the owned A may have changed -/
theorem S.call (s : S K T B H σ δ) {A : List Addr} {δ2 : List Sl} {B2 : Lo} (g : Go A A H H') (hT : TabsN T H') (hA : ∀ a ∈ A, a ∈ ow δ B) (how : ∀ a ∈ ow δ2 B2, a ∈ ow δ B ∨ H a = none) (hnd : (ow δ2 B2).Nodup) (hlen : δ2.length = δ.length)
    (hs : ∀ (i : Nat) (x : Sl), δ2[i]? = some x → (δ[i]? = some x ∧ ∀ a u, x = .own a u → a ∉ A) ∨ ∃ a u u0, x = .own a u ∧ δ[i]? = some (.own a u0) ∧ OvImm u ∧ Holds K H' H' a u)
    (hB : ∀ q ∈ B2, (q ∈ B ∧ q.1 ∉ A) ∨ (OvImm q.2 ∧ Holds K H' H' q.1 q.2)) : S K T B2 H' σ δ2 := by
  have rk : Rk (dl H (ow δ B)) (dl H' (ow δ2 B2)) := fun a o h t => by
    obtain ⟨n, e⟩ := dl_some h
    exact dl_of (g.ext a o e (fun m => n (hA a m)) t) fun m => (how a m).elim n fun z => by rw [e] at z; cases z
  have stay : ∀ a u, Holds K (dl H (ow δ B)) H a u → a ∉ A → Holds K (dl H' (ow δ2 B2)) H' a u := fun a u h n => by
    obtain ⟨o, e, t, _⟩ := h.some
    exact h.mono (dp_mono rk) ((g.ext a o e n t).trans e.symm)
  have each : ∀ a ∈ ow δ2 B2, ∃ L u, Holds K L H' a u := fun a m => by
    rcases mem_ow.mp m with ⟨i, u, h⟩ | ⟨u, h⟩
    · rcases hs i _ h with ⟨h1, h2⟩ | ⟨b, w, u0, e, _, _, q⟩
      · exact ⟨_, u, stay a u (s.ok i _ h1).2 (h2 a u rfl)⟩
      · cases e
        exact ⟨_, u, q⟩
    · rcases hB _ h with ⟨h1, h2⟩ | ⟨_, q⟩
      · exact ⟨_, u, stay a u (s.loose _ h1) h2⟩
      · exact ⟨_, u, q⟩
  have tk := tk_mut each
  refine ⟨by rw [hlen]; exact s.len, hT, fun i x h => ?_, fun q hq => ?_, hnd⟩
  · rcases hs i x h with ⟨h1, h2⟩ | ⟨a, u, u0, e, h1, hi, q⟩
    · have q := s.ok i x h1
      cases x with
      | no => trivial
      | val d => obtain ⟨v, q1, q2⟩ := q; exact ⟨v, q1, dp_mono rk _ _ q2⟩
      | own a u => obtain ⟨q1, q2⟩ := q; exact ⟨q1, stay a u q2 (h2 a u rfl)⟩
    · subst e
      exact ⟨(s.ok i _ h1).1, q.imm tk hi⟩
  · rcases hB q hq with ⟨h1, h2⟩ | ⟨hi, q⟩
    · exact stay _ _ (s.loose _ h1) h2
    · exact q.imm tk hi
/-- I: the names whose objects are handed over -/
def ArgR (δ : List Sl) (I : List Nat) : List R → List Ar → List Nat → Prop
  | [], [], [] => True
  | .val d :: rs, .val e :: as, is => e = d ∧ ArgR δ I rs as is
  | .bor i :: rs, .own w :: as, j :: is => j = i ∧ (∃ a, δ[i]? = some (.own a w)) ∧ ArgR δ I rs as is
  | .bor i :: rs, .val e :: as, is => (∃ a ds, δ[i]? = some (.own a (.lst ds)) ∧ e = .list ds) ∧ i ∉ I ∧ ArgR δ I rs as is
  | _, _, _ => False
def putO (δ : List Sl) (i : Nat) (u : OV) : List Sl := match δ[i]? with
  | some (.own a _) => δ.set i (.own a u)
  | _ => δ
def putOs (δ : List Sl) : List Nat → List OV → List Sl
  | i :: is, u :: us => putOs (putO δ i u) is us
  | _, _ => δ
def plc (δ : List Sl) (i : Nat) : Addr := match δ[i]? with
  | some (.own a _) => a
  | _ => 0
theorem plc_of {i : Nat} {a : Addr} {u : OV} (h : δ[i]? = some (.own a u)) : plc δ i = a := by
  unfold plc
  rw [h]
theorem S.inj (s : S K T B H σ δ) {i j : Nat} {a b : Addr} {u w : OV} (h : δ[i]? = some (.own a u)) (h' : δ[j]? = some (.own b w)) (e : a = b) : i = j := by
  subst e
  by_cases hij : i = j
  · exact hij
  · exfalso
    have hl : i < δ.length := (List.getElem?_eq_some_iff.mp h).1
    have hp := ow_own (δ := δ) (p := a) (u := u) (B := B) hl
    rw [ow_same h] at hp
    refine (List.nodup_cons.mp (hp.nodup_iff.mp s.nd)).1 (mem_ow.mpr (.inl ⟨j, w, ?_⟩))
    rw [List.getElem?_set_ne hij]
    exact h'
theorem putO_ow {i : Nat} {u : OV} : ow (putO δ i u) B = ow δ B := by
  unfold putO
  split
  · rename_i a w h
    exact ow_same h
  · rfl
theorem putO_len {i : Nat} {u : OV} : (putO δ i u).length = δ.length := by
  unfold putO
  split
  · rw [List.length_set]
  · rfl
theorem putO_ne {i j : Nat} {u : OV} (h : i ≠ j) : (putO δ i u)[j]? = δ[j]? := by
  unfold putO
  split
  · rw [List.getElem?_set_ne h]
  · rfl
theorem putOs_ow : ∀ {is : List Nat} {us : List OV} {δ : List Sl}, ow (putOs δ is us) B = ow δ B
  | [], _, _ => rfl
  | _ :: _, [], _ => rfl
  | i :: is, u :: us, δ => by
    show ow (putOs (putO δ i u) is us) B = _
    rw [putOs_ow, putO_ow]
theorem putOs_len : ∀ {is : List Nat} {us : List OV} {δ : List Sl}, (putOs δ is us).length = δ.length
  | [], _, _ => rfl
  | _ :: _, [], _ => rfl
  | i :: is, u :: us, δ => by
    show (putOs (putO δ i u) is us).length = _
    rw [putOs_len, putO_len]
theorem putOs_ne : ∀ {is : List Nat} {us : List OV} {δ : List Sl} {j : Nat}, j ∉ is → (putOs δ is us)[j]? = δ[j]?
  | [], _, _, _, _ => rfl
  | _ :: _, [], _, _, _ => rfl
  | i :: is, u :: us, δ, j, h => by
    show (putOs (putO δ i u) is us)[j]? = _
    rw [putOs_ne fun m => h (List.mem_cons_of_mem _ m), putO_ne fun e => h (by rw [← e]; exact List.mem_cons_self)]
theorem putOs_at {L : Hp} : ∀ {is : List Nat} {us : List OV} {δ : List Sl} {j : Nat} {x : Sl}, is.Nodup → (∀ i ∈ is, ∃ a u, δ[i]? = some (.own a u)) → Behind K L H' (is.map (plc δ)) us → j ∈ is → (putOs δ is us)[j]? = some x →
    ∃ a u u0, x = .own a u ∧ δ[j]? = some (.own a u0) ∧ u ∈ us ∧ Holds K L H' a u
  | i :: is, u :: us, δ, j, x, nd, own, hb, hj, hx => by
    obtain ⟨nd1, nd2⟩ := List.nodup_cons.mp nd
    obtain ⟨b2, b3⟩ := hb
    have hx : (putOs (putO δ i u) is us)[j]? = some x := hx
    obtain ⟨a, w, hi⟩ := own i List.mem_cons_self
    by_cases hji : j = i
    · subst hji
      rw [putOs_ne nd1] at hx
      unfold putO at hx
      rw [hi] at hx
      rw [List.getElem?_set_self (List.getElem?_eq_some_iff.mp hi).1] at hx
      rw [plc_of hi] at b2
      exact ⟨a, u, w, (Option.some.inj hx).symm, hi, List.mem_cons_self, b2⟩
    · have hj' : j ∈ is := (List.mem_cons.mp hj).elim (fun e => absurd e hji) id
      have same : ∀ k ∈ is, (putO δ i u)[k]? = δ[k]? := fun k hk => putO_ne fun e => nd1 (e ▸ hk)
      have e : is.map (plc (putO δ i u)) = is.map (plc δ) := List.map_congr_left fun k hk => by
        unfold plc
        rw [same k hk]
      obtain ⟨a', u', u0, q1, q2, q3⟩ := putOs_at nd2 (fun k hk => by rw [same k hk]; exact own k (List.mem_cons_of_mem _ hk)) (by rw [e]; exact b3) hj' hx
      rw [same j hj'] at q2
      exact ⟨a', u', u0, q1, q2, List.mem_cons_of_mem _ q3.1, q3.2⟩
  | _ :: _, [], _, _, _, _, _, hb, _, _ => hb.elim
theorem plc_nd (s : S K T B H σ δ) : ∀ {is : List Nat}, is.Nodup → (∀ i ∈ is, ∃ a u, δ[i]? = some (.own a u)) → (is.map (plc δ)).Nodup
  | [], _, _ => List.nodup_nil
  | i :: is, nd, own => by
    obtain ⟨nd1, nd2⟩ := List.nodup_cons.mp nd
    rw [List.map_cons]
    refine List.nodup_cons.mpr ⟨fun m => ?_, plc_nd s nd2 fun k hk => own k (List.mem_cons_of_mem _ hk)⟩
    obtain ⟨k, hk, e⟩ := List.mem_map.mp m
    obtain ⟨a, u, hi⟩ := own i List.mem_cons_self
    obtain ⟨b, w, hk'⟩ := own k (List.mem_cons_of_mem _ hk)
    rw [plc_of hi, plc_of hk'] at e
    have q := s.inj hi hk' e.symm
    exact nd1 (q ▸ hk)
theorem plc_ow {is : List Nat} (own : ∀ i ∈ is, ∃ a u, δ[i]? = some (.own a u)) : ∀ a ∈ is.map (plc δ), a ∈ ow δ B := fun a m => by
  obtain ⟨k, hk, rfl⟩ := List.mem_map.mp m
  obtain ⟨b, w, h⟩ := own k hk
  rw [plc_of h]
  exact mem_ow.mpr (.inl ⟨k, w, h⟩)
theorem argr_own : ∀ {rs : List R} {as : List Ar} {is I : List Nat}, ArgR δ I rs as is → ∀ i ∈ is, ∃ a u, δ[i]? = some (.own a u)
  | [], [], [], _, _, i, hi => by cases hi
  | .val d :: rs, .val e :: as, is, I, h, i, hi => argr_own h.2 i hi
  | .bor k :: rs, .own w :: as, j :: is, I, h, i, hi => by
    obtain ⟨rfl, ⟨a, q⟩, h⟩ := h
    rcases List.mem_cons.mp hi with e | hi
    · exact ⟨a, w, e ▸ q⟩
    · exact argr_own h i hi
  | .bor k :: rs, .val e :: as, is, I, h, i, hi => argr_own h.2.2 i hi
  | [], _ :: _, _, _, h, _, _ => by simp [ArgR] at h
  | [], [], _ :: _, _, h, _, _ => by simp [ArgR] at h
  | .val _ :: _, [], _, _, h, _, _ => by simp [ArgR] at h
  | .val _ :: _, .own _ :: _, _, _, h, _, _ => by simp [ArgR] at h
  | .bor _ :: _, [], _, _, h, _, _ => by simp [ArgR] at h
  | .bor _ :: _, .own _ :: _, [], _, h, _, _ => by simp [ArgR] at h
  | .new _ :: _, _, _, _, h, _, _ => by simp [ArgR] at h
theorem argr_ok (s : S K T B H σ δ) {A : List Addr} {I : List Nat} (hI : ∀ i ∈ I, ∃ a u, δ[i]? = some (.own a u)) (hA : ∀ a ∈ A, a ∈ I.map (plc δ)) : ∀ {vs : List V} {rs : List R} {as : List Ar} {is : List Nat}, Vrs K B σ δ H vs rs → ArgR δ I rs as is →
    ArgsOk K (dl H A) H vs as (is.map (plc δ))
  | [], [], [], [], _, _ => trivial
  | v :: vs, .val d :: rs, .val e :: as, is, h, a => by
    obtain ⟨rfl, a⟩ := a
    exact ⟨dp_mono (dl_less fun a m => plc_ow hI a (hA a m)) _ _ h.1, argr_ok s hI hA h.2 a⟩
  | v :: vs, .bor k :: rs, .own w :: as, j :: is, h, a => by
    obtain ⟨rfl, ⟨b, q⟩, a⟩ := a
    obtain ⟨q1, q2⟩ := s.hp q
    have h1 : σ[j]? = some (some v) := h.1
    rw [h1] at q1
    cases q1
    refine ⟨?_, ?_, argr_ok s hI hA h.2 a⟩
    · rw [plc_of q]
    · rw [plc_of q]
      exact q2.mono (dp_mono (dl_less fun a m => plc_ow hI a (hA a m))) rfl
  | v :: vs, .bor k :: rs, .val e :: as, is, h, a => by
    obtain ⟨⟨b, ds, q, rfl⟩, nI, a⟩ := a
    obtain ⟨q1, xs, q2, q3⟩ := s.hp q
    have h1 : σ[k]? = some (some v) := h.1
    rw [h1] at q1
    cases q1
    refine ⟨.lst (.inl (.inl (dl_of q2 fun m => ?_))) (da_mono (dl_less fun a m => plc_ow hI a (hA a m)) _ _ q3), argr_ok s hI hA h.2 a⟩
    obtain ⟨j, hj, e⟩ := List.mem_map.mp (hA _ m)
    obtain ⟨c, w, hc⟩ := hI j hj
    rw [plc_of hc] at e
    exact nI (s.inj hc q e ▸ hj)
  | [], _ :: _, _, _, h, _ => h.elim
  | _ :: _, [], _, _, h, _ => h.elim
  | [], [], _ :: _, _, _, h => by simp [ArgR] at h
  | [], [], [], _ :: _, _, h => by simp [ArgR] at h
  | _ :: _, .val _ :: _, [], _, _, h => by simp [ArgR] at h
  | _ :: _, .val _ :: _, .own _ :: _, _, _, h => by simp [ArgR] at h
  | _ :: _, .bor _ :: _, [], _, _, h => by simp [ArgR] at h
  | _ :: _, .bor _ :: _, .own _ :: _, [], _, h => by simp [ArgR] at h
  | _ :: _, .new _ :: _, _, _, _, h => by simp [ArgR] at h
theorem argr_bx : ∀ {vs : List V} {rs : List R} {as : List Ar} {is I : List Nat} {B : Lo}, Bxs B B' vs rs → ArgR δ I rs as is → B' = B
  | [], _, _, _, _, _, h, _ => h
  | _ :: _, [], _, _, _, _, h, _ => h
  | v :: vs, .val d :: rs, .val e :: as, is, I, B, ⟨B1, h1, h2⟩, a => by
    have e1 : B1 = B := h1
    rw [← e1]
    exact argr_bx h2 a.2
  | v :: vs, .bor k :: rs, .own w :: as, j :: is, I, B, ⟨B1, h1, h2⟩, a => by
    have e1 : B1 = B := h1
    rw [← e1]
    exact argr_bx h2 a.2.2
  | v :: vs, .bor k :: rs, .val e :: as, is, I, B, ⟨B1, h1, h2⟩, a => by
    have e1 : B1 = B := h1
    rw [← e1]
    exact argr_bx h2 a.2.2
  | _ :: _, .val _ :: _, [], _, _, _, _, h => by simp [ArgR] at h
  | _ :: _, .val _ :: _, .own _ :: _, _, _, _, _, h => by simp [ArgR] at h
  | _ :: _, .bor _ :: _, [], _, _, _, _, h => by simp [ArgR] at h
  | _ :: _, .bor _ :: _, .own _ :: _, [], _, _, _, h => by simp [ArgR] at h
  | _ :: _, .new _ :: _, _, _, _, _, _, h => by simp [ArgR] at h
/-- behind a call that got the objects of the names is; results without lists -/
theorem rs_call {Q : VK} {is : List Nat} {us : List OV} (s : S K T B H σ δ) (g0 : Go A0 (ow δ B) H0 H) (nd : is.Nodup) (own : ∀ i ∈ is, ∃ a u, δ[i]? = some (.own a u)) (hT : TabsN T H') (g : Go (al (is.map (plc δ)) []) (al (is.map (plc δ)) []) H H') (af : After K (is.map (plc δ)) [] H H' v r us) (im : RImm r us)
    (k : ∀ v H' r δ' B', RS K T B B' A0 H0 H' σ δ' v r → P r δ' → Q v H') (p : P r (putOs δ is us)) : Q v H' := by
  have e0 : al (is.map (plc δ)) [] = is.map (plc δ) := List.append_nil _
  rw [e0] at g
  have how : ow (putOs δ is us) B = ow δ B := putOs_ow
  have hs : ∀ (i : Nat) (x : Sl), (putOs δ is us)[i]? = some x → (δ[i]? = some x ∧ ∀ a u, x = .own a u → a ∉ is.map (plc δ)) ∨ ∃ a u u0, x = .own a u ∧ δ[i]? = some (.own a u0) ∧ OvImm u ∧ Holds K H' H' a u := fun i x hx => by
    by_cases hi : i ∈ is
    · obtain ⟨a, u, u0, q1, q2, q3, q4⟩ := putOs_at nd own af.args hi hx
      exact .inr ⟨a, u, u0, q1, q2, im.2 u q3, q4.mono (dp_mono dl_rk) rfl⟩
    · rw [putOs_ne hi] at hx
      refine .inl ⟨hx, fun a u e m => ?_⟩
      subst e
      obtain ⟨j, hj, e⟩ := List.mem_map.mp m
      obtain ⟨b, w, hj'⟩ := own j hj
      rw [plc_of hj'] at e
      exact hi (s.inj hj' hx e ▸ hj)
  have nB : ∀ q ∈ B, q.1 ∉ is.map (plc δ) := fun q hq m => by
    obtain ⟨j, hj, e⟩ := List.mem_map.mp m
    obtain ⟨b, w, hj'⟩ := own j hj
    rw [plc_of hj'] at e
    have hl : j < δ.length := (List.getElem?_eq_some_iff.mp hj').1
    have hp := ow_own (δ := δ) (p := b) (u := w) (B := B) hl
    rw [ow_same hj'] at hp
    refine (List.nodup_cons.mp (hp.nodup_iff.mp s.nd)).1 (mem_ow.mpr (.inr ⟨q.2, ?_⟩))
    rw [e]
    exact hq
  have sub := plc_ow (B := B) own
  have g1 : Go (ow δ B) (ow δ B) H H' := ⟨(g.more sub).ext, g.dom, fun a m => .inl m⟩
  have h := af.res
  cases r with
  | val d =>
    have s1 : S K T B H' σ (putOs δ is us) := s.call g hT sub (fun a m => by rw [how] at m; exact .inl m) (by rw [how]; exact s.nd) putOs_len hs fun q hq => .inl ⟨hq, nB q hq⟩
    exact k v H' (.val d) _ B ⟨s1, by rw [how]; exact g0.trans g1, s1.imm im.1 (dp_full h), rfl⟩ p
  | new u =>
    obtain ⟨q, rfl, h1, h3⟩ := h
    have h2 : OvImm u := im.1
    have nq : q ∉ ow (putOs δ is us) B := fun m => by
      rw [how] at m
      exact s.free h1 m
    have s1 : S K T ((q, u) :: B) H' σ (putOs δ is us) := s.call g hT sub (fun a m => (List.mem_cons.mp (ow_loose.mem_iff.mp m)).elim (fun z => .inr (z ▸ h1)) fun z => by rw [how] at z; exact .inl z)
      (ow_loose.nodup_iff.mpr (List.nodup_cons.mpr ⟨nq, by rw [how]; exact s.nd⟩)) putOs_len hs fun x hx => (List.mem_cons.mp hx).elim (fun z => .inr (by rw [z]; exact ⟨h2, h3.mono (dp_mono dl_rk) rfl⟩)) fun z => .inl ⟨z, nB x z⟩
    refine k _ H' (.new u) _ ((q, u) :: B) ⟨s1, g0.trans ⟨g1.ext, g1.dom, fun a m => ?_⟩, ⟨q, rfl, List.mem_cons_self⟩, ⟨q, rfl, rfl⟩⟩ p
    rcases List.mem_cons.mp (ow_loose.mem_iff.mp m) with z | z
    · exact .inr (z ▸ h1)
    · rw [how] at z
      exact .inl z
  | bor i => exact h.elim
/-- f(..), names' objects handed over or read; what comes back holds no list -/
theorem ex_call {F : FS} {ta : TA} {X : XK} (h : ExA K T ta δ fun rs δ1 => ∃ as is, ArgR δ1 is rs as is ∧ is.Nodup ∧ F as fun r us => RImm r us ∧ P r (putOs δ1 is us)) : Ex K T (tCall (spOf K T F) [] X ta) δ P := fun B H σ s Q k =>
  h B H σ s _ fun vs H1 rs δ1 B1 R1 ⟨as, is, ar, nd, f⟩ => by
    have e1 : B1 = B := argr_bx R1.bx ar
    subst e1
    have own := argr_own ar
    show spOf K T F (vs ++ []) H1 Q X
    rw [List.append_nil]
    have e0 : al (is.map (plc δ1)) [] = is.map (plc δ1) := List.append_nil _
    refine ⟨is.map (plc δ1), [], as, _, by rw [e0]; exact plc_nd R1.s nd own, R1.s.tab, by rw [e0]; exact argr_ok R1.s own (fun a m => m) R1.vr ar, (fun q hq => by cases hq), f, fun v H' r us hT g af p => rs_call R1.s R1.go nd own hT g af p.1 k p.2⟩
/-- a new list as an argument that is only read -/
theorem ex_fz (h : Ex K T te δ fun r δ1 => ∃ d, Fz r d ∧ P (.val d) δ1) : Ex K T te δ P := fun B H σ s Q k =>
  h B H σ s _ fun v H1 r δ1 B1 R1 ⟨d, f, p⟩ => by
    obtain ⟨s1, g1, hv⟩ := rs_fz R1 f
    exact k v H1 (.val d) δ1 B ⟨s1, g1, hv, rfl⟩ p
def slotsOf : List Ar → List Addr → List Sl
  | .val d :: as, ps => .val d :: slotsOf as ps
  | .own u :: as, p :: ps => .own p u :: slotsOf as ps
  | _, _ => []
/-- what the owned parameters hold at the end -/
def Fin : List Ar → List Addr → List Sl → List OV → Prop
  | [], [], _, us => us = []
  | .val _ :: as, ps, _ :: δ, us => Fin as ps δ us
  | .own _ :: as, p :: ps, .own q u :: δ, us => q = p ∧ ∃ us', us = u :: us' ∧ Fin as ps δ us'
  | _, _, _, _ => False
def RetR (n : Nat) (δ : List Sl) : R → R → Prop
  | .val d, r => r = .val d
  | .new u, r => r = .new u
  | .bor i, r => n ≤ i ∧ ∃ a u, δ[i]? = some (.own a u) ∧ r = .new u
def owns : List Ar → Nat
  | [] => 0
  | .val _ :: as => owns as
  | .own _ :: as => owns as + 1
theorem argsOk_len {L : Hp} : ∀ {vs : List V} {as : List Ar} {ps : List Addr}, ArgsOk K L H vs as ps → vs.length = as.length ∧ ps.length = owns as ∧ (slotsOf as ps).length = as.length
  | [], [], [], _ => ⟨rfl, rfl, rfl⟩
  | _ :: vs, .val d :: as, ps, h => by
    obtain ⟨h1, h2, h3⟩ := argsOk_len h.2
    exact ⟨congrArg (· + 1) h1, h2, congrArg (· + 1) h3⟩
  | _ :: vs, .own u :: as, p :: ps, h => by
    obtain ⟨h1, h2, h3⟩ := argsOk_len h.2.2
    exact ⟨congrArg (· + 1) h1, congrArg (· + 1) h2, congrArg (· + 1) h3⟩
  | [], _ :: _, _, h => by simp [ArgsOk] at h
  | [], [], _ :: _, h => by simp [ArgsOk] at h
  | _ :: _, [], _, h => by simp [ArgsOk] at h
  | _ :: _, .own _ :: _, [], h => by simp [ArgsOk] at h
theorem argsOk_at {L : Hp} : ∀ {vs : List V} {as : List Ar} {ps : List Addr} {i : Nat} {x : Sl}, ArgsOk K L H vs as ps → (slotsOf as ps)[i]? = some x →
    ∃ v, vs[i]? = some v ∧ ((∃ d, x = .val d ∧ Dp K L v d) ∨ ∃ a u, x = .own a u ∧ v = .ref a ∧ Holds K L H a u)
  | [], [], [], i, x, _, e => by simp [slotsOf] at e
  | v :: vs, .val d :: as, ps, 0, x, h, e => ⟨v, rfl, .inl ⟨d, (Option.some.inj e).symm, h.1⟩⟩
  | v :: vs, .val d :: as, ps, i + 1, x, h, e => argsOk_at (i := i) h.2 e
  | v :: vs, .own u :: as, p :: ps, 0, x, h, e => ⟨v, rfl, .inr ⟨p, u, (Option.some.inj e).symm, h.1, h.2.1⟩⟩
  | v :: vs, .own u :: as, p :: ps, i + 1, x, h, e => argsOk_at (i := i) h.2.2 e
  | [], _ :: _, _, _, _, h, _ => by simp [ArgsOk] at h
  | [], [], _ :: _, _, _, h, _ => by simp [ArgsOk] at h
  | _ :: _, [], _, _, _, h, _ => by simp [ArgsOk] at h
  | _ :: _, .own _ :: _, [], _, _, h, _ => by simp [ArgsOk] at h
theorem slots_ow {L : Hp} : ∀ {vs : List V} {as : List Ar} {ps : List Addr}, ArgsOk K L H vs as ps → (slotsOf as ps).flatMap ow1 = ps
  | [], [], [], _ => rfl
  | _ :: vs, .val d :: as, ps, h => by
    show (Sl.val d :: slotsOf as ps).flatMap ow1 = ps
    rw [List.flatMap_cons, slots_ow h.2]
    rfl
  | _ :: vs, .own u :: as, p :: ps, h => by
    show (Sl.own p u :: slotsOf as ps).flatMap ow1 = p :: ps
    rw [List.flatMap_cons, slots_ow h.2.2]
    rfl
  | [], _ :: _, _, h => by simp [ArgsOk] at h
  | [], [], _ :: _, h => by simp [ArgsOk] at h
  | _ :: _, [], _, h => by simp [ArgsOk] at h
  | _ :: _, .own _ :: _, [], h => by simp [ArgsOk] at h
theorem rep_ow : ∀ n : Nat, (List.replicate n Sl.no).flatMap ow1 = []
  | 0 => rfl
  | n + 1 => by rw [List.replicate_succ, List.flatMap_cons, rep_ow n]; rfl
theorem entry_ow {L : Hp} {vs : List V} {as : List Ar} {n : Nat} {Z : Lo} (h : ArgsOk K L H vs as A) : ow (slotsOf as A ++ List.replicate n .no) Z = al A Z := by
  unfold ow
  rw [List.flatMap_append, slots_ow h, rep_ow, List.append_nil]
theorem entry {vs : List V} {as : List Ar} {N : List Str} {Z : Lo} (h : ArgsOk K (dl H (al A Z)) H vs as A) (hZ : ∀ q ∈ Z, Holds K (dl H (al A Z)) H q.1 q.2) (nd : (al A Z).Nodup) (hT : TabsN T H) : S K T Z H (L2.start N vs) (slotsOf as A ++ List.replicate (N.length - vs.length) .no) := by
  obtain ⟨l1, l2, l3⟩ := argsOk_len h
  have eo := entry_ow (n := N.length - vs.length) (Z := Z) h
  refine ⟨?_, hT, fun i x hx => ?_, (fun p hp => by rw [eo]; exact hZ p hp), by rw [eo]; exact nd⟩
  · unfold L2.start
    rw [List.length_append, List.length_append, List.length_map, List.length_replicate, List.length_replicate, l3, l1]
  · rw [eo]
    by_cases hi : i < as.length
    · rw [List.getElem?_append_left (by rw [l3]; exact hi)] at hx
      obtain ⟨v, e, q⟩ := argsOk_at h hx
      have es : (L2.start N vs)[i]? = some (some v) := by
        unfold L2.start
        rw [List.getElem?_append_left (by rw [List.length_map, l1]; exact hi), List.getElem?_map, e]
        rfl
      rw [es]
      rcases q with ⟨d, rfl, q⟩ | ⟨a, u, rfl, rfl, q⟩
      · exact ⟨v, rfl, q⟩
      · exact ⟨rfl, q⟩
    · rw [List.getElem?_append_right (by rw [l3]; omega), List.getElem?_replicate] at hx
      split at hx
      · cases hx
        trivial
      · cases hx
theorem fin_at : ∀ {as : List Ar} {ps : List Addr} {δ : List Sl} {us : List OV}, Fin as ps δ us → ∀ a ∈ ps, ∃ (i : Nat) (u : OV), i < as.length ∧ δ[i]? = some (.own a u)
  | [], [], _, _, _, a, m => by cases m
  | .val _ :: as, ps, _ :: δ, us, h, a, m => by
    obtain ⟨i, u, h1, h2⟩ := fin_at (δ := δ) h a m
    exact ⟨i + 1, u, Nat.succ_lt_succ h1, h2⟩
  | .own _ :: as, p :: ps, .own q u :: δ, us, h, a, m => by
    obtain ⟨rfl, us', _, h⟩ := h
    rcases List.mem_cons.mp m with e | m
    · exact ⟨0, u, Nat.succ_pos _, by rw [e]; rfl⟩
    · obtain ⟨i, u, h1, h2⟩ := fin_at (δ := δ) h a m
      exact ⟨i + 1, u, Nat.succ_lt_succ h1, h2⟩
  | [], _ :: _, _, _, h, _, _ => by simp [Fin] at h
  | .val _ :: _, _, [], _, h, _, _ => by simp [Fin] at h
  | .own _ :: _, [], _, _, h, _, _ => by simp [Fin] at h
  | .own _ :: _, _ :: _, [], _, h, _, _ => by simp [Fin] at h
  | .own _ :: _, _ :: _, .no :: _, _, h, _, _ => by simp [Fin] at h
  | .own _ :: _, _ :: _, .val _ :: _, _, h, _, _ => by simp [Fin] at h
theorem fin_behind {L : Hp} (e : ∀ d v, Dp K (dl H' (ow δ B)) v d → Dp K L v d) (s : S K T B H' σ δ) : ∀ {as : List Ar} {ps : List Addr} {δ1 : List Sl} {us : List OV}, (∀ x ∈ δ1, x ∈ δ) → Fin as ps δ1 us → Behind K L H' ps us
  | [], [], _, us, _, h => by
    have e : us = [] := by simpa [Fin] using h
    subst e
    trivial
  | .val _ :: as, ps, _ :: δ1, us, m, h => fin_behind e s (δ1 := δ1) (fun x hx => m x (List.mem_cons_of_mem _ hx)) h
  | .own _ :: as, p :: ps, .own q u :: δ1, us, m, h => by
    obtain ⟨rfl, us', rfl, h⟩ := h
    obtain ⟨j, hj⟩ := List.mem_iff_getElem?.mp (m _ List.mem_cons_self)
    exact ⟨(s.hp hj).2.mono e rfl, fin_behind e s (δ1 := δ1) (fun x hx => m x (List.mem_cons_of_mem _ hx)) h⟩
  | [], _ :: _, _, _, _, h => by simp [Fin] at h
  | .val _ :: _, _, [], _, _, h => by simp [Fin] at h
  | .own _ :: _, [], _, _, _, h => by simp [Fin] at h
  | .own _ :: _, _ :: _, [], _, _, h => by simp [Fin] at h
  | .own _ :: _, _ :: _, .no :: _, _, _, h => by simp [Fin] at h
  | .own _ :: _, _ :: _, .val _ :: _, _, _, h => by simp [Fin] at h
theorem al_sub {Z : Lo} {as : List Ar} {us : List OV} (f : Fin as A δ us) (hZ : ∀ q ∈ Z, q ∈ B') : ∀ a ∈ al A Z, a ∈ ow δ B' := fun a m => by
  rcases List.mem_append.mp m with m | m
  · obtain ⟨i, u, _, h⟩ := fin_at f a m
    exact mem_ow.mpr (.inl ⟨i, u, h⟩)
  · obtain ⟨q, hq, rfl⟩ := List.mem_map.mp m
    exact mem_ow.mpr (.inr ⟨q.2, hZ q hq⟩)
/-- leaving by the end -/
theorem leave0 {Z : Lo} {as : List Ar} {us : List OV} (s : S K T Z H' σ δ) (f : Fin as A δ us) : After K A Z H H' .non (.val .none) us := by
  have e : ∀ d v, Dp K (dl H' (ow δ Z)) v d → Dp K (dl H' (al A Z)) v d := dp_mono (dl_less (al_sub f fun q hq => hq))
  exact ⟨.non, fin_behind e s (fun x hx => hx) f, fun q hq => (s.loose q hq).mono e rfl⟩
theorem leave {Z : Lo} {as : List Ar} {us : List OV} {r' : R} (R1 : RS K T Z B' (al A Z) H H' σ δ v r) (f : Fin as A δ us) (q : RetR as.length δ r r') : After K A Z H H' v r' us := by
  have sZ : ∀ x ∈ Z, x ∈ B' := fun x hx => by
    obtain ⟨C, e⟩ := R1.bx.suf
    rw [e]
    exact List.mem_append_right _ hx
  have sub := al_sub f sZ
  have apart : ∀ p, p ∈ ow δ B' → (∀ (i : Nat) (u : OV), i < as.length → δ[i]? = some (.own p u) → False) → (∀ x ∈ Z, x.1 ≠ p) → H p = none := fun p m n nz => by
    rcases R1.go.org p m with z | z
    · rcases List.mem_append.mp z with z | z
      · obtain ⟨i, u, h1, h2⟩ := fin_at f p z
        exact (n i u h1 h2).elim
      · obtain ⟨x, hx, e⟩ := List.mem_map.mp z
        exact (nz x hx e).elim
    · exact z
  have fin : ∀ N : List Addr, (∀ a ∈ N, a ∈ ow δ B') → Behind K (dl H' (N ++ al A Z)) H' A us ∧ ∀ q ∈ Z, Holds K (dl H' (N ++ al A Z)) H' q.1 q.2 := fun N hN => by
    have e : ∀ d v, Dp K (dl H' (ow δ B')) v d → Dp K (dl H' (N ++ al A Z)) v d := dp_mono (dl_less fun a m => (List.mem_append.mp m).elim (hN a) (sub a))
    exact ⟨fin_behind e R1.s (fun x hx => hx) f, fun q hq => (R1.s.loose q (sZ q hq)).mono e rfl⟩
  cases r with
  | val d =>
    have q : r' = .val d := q
    subst q
    obtain ⟨h1, h2⟩ := fin [] (fun a m => by cases m)
    exact ⟨dp_mono (dl_less sub) _ _ R1.vr, h1, h2⟩
  | new u =>
    have q : r' = .new u := q
    subst q
    obtain ⟨p, rfl, e⟩ := R1.bx
    subst e
    have mp : p ∈ ow δ ((p, u) :: Z) := mem_ow.mpr (.inr ⟨u, List.mem_cons_self⟩)
    have nd := List.nodup_cons.mp (ow_loose.nodup_iff.mp R1.s.nd)
    obtain ⟨h1, h2⟩ := fin [p] (fun a m => by rw [List.mem_singleton.mp m]; exact mp)
    refine ⟨⟨p, rfl, apart p mp (fun i w _ hi => nd.1 (mem_ow.mpr (.inl ⟨i, w, hi⟩))) (fun x hx e => nd.1 (mem_ow.mpr (.inr ⟨x.2, by rw [← e]; exact hx⟩))), ?_⟩, h1, h2⟩
    refine (R1.s.loose _ List.mem_cons_self).mono (dp_mono (dl_less fun a m => ?_)) rfl
    rcases List.mem_cons.mp m with z | z
    · rw [z]; exact mp
    · exact sub a z
  | bor j =>
    obtain ⟨hj, a, u, h1, rfl⟩ := q
    obtain ⟨q1, q2⟩ := R1.s.hp h1
    have hv : σ[j]? = some (some v) := R1.vr
    rw [hv] at q1
    cases q1
    have eB : B' = Z := R1.bx
    subst eB
    have ma : a ∈ ow δ B' := mem_ow.mpr (.inl ⟨j, u, h1⟩)
    obtain ⟨h3, h4⟩ := fin [a] (fun b m => by rw [List.mem_singleton.mp m]; exact ma)
    refine ⟨⟨a, rfl, apart a ma (fun i w hi e => ?_) (fun x hx e => ?_), ?_⟩, h3, h4⟩
    · have := R1.s.inj h1 e rfl
      omega
    · have hl : j < δ.length := (List.getElem?_eq_some_iff.mp h1).1
      have hp := ow_own (δ := δ) (p := a) (u := u) (B := B') hl
      rw [ow_same h1] at hp
      refine (List.nodup_cons.mp (hp.nodup_iff.mp R1.s.nd)).1 (mem_ow.mpr (.inr ⟨x.2, ?_⟩))
      rw [← e]
      exact hx
    · refine q2.mono (dp_mono (dl_less fun b m => ?_)) rfl
      rcases List.mem_cons.mp m with z | z
      · rw [z]; exact ma
      · exact sub b z
/-- THE RULE: a def keeps its promise in data -/
theorem fs_ok {P : Program} {w : World} {mg : Str → Option Value} {base : Heap} {x qual : Str} {st : Stmt} {f : Addr} {fd : FuncData} {N ps : List Str} {k : Nat} {F : FS} (Fn : Fun K x qual st f fd) (Sc : FnScope N ps (defScope st)) (len : ∀ as Q, F as Q → as.length = ps.length)
    (body : ∀ (cdv : Value) (A : Around) (outer : List Env) (s : Shared) (H : Hp) (E : XK), Room k (A.deeper (envOfC qual (defScope st) s.heap.objs.size f cdv)) → ∀ (as : List Ar) (Q : R → List OV → Prop) (qs : List Addr), F as Q → qs.length = owns as →
      ∃ t, PSs (cxOf CX0 P w K mg base N qual (defScope st) f cdv A outer s H E).nox (defBody st) t ∧
        Ss K T t (slotsOf as qs ++ List.replicate (N.length - as.length) .no) { nx := fun δ' => ∃ us, Fin as qs δ' us ∧ Q (.val .none) us, rt := fun r δ' => ∃ us r', Fin as qs δ' us ∧ RetR as.length δ' r r' ∧ Q r' us }) :
    FnOk P w K mg base CX0 (k + 1) f fd ps (spOf K T F) := by
  refine Fn.ok Sc (fun vs H Q E h => ?_) (fun cdv Ar outer s H vs Q E hr h => ?_)
  · obtain ⟨A, Z, as, P, nd, hT, ha, hZ, f, _⟩ := h
    rw [(argsOk_len ha).1]
    exact len as P f
  · obtain ⟨A, Z, as, P, nd, hT, ha, hZ, f, fin⟩ := h
    obtain ⟨t, ht, hs⟩ := body cdv Ar outer s H E hr as P A f (argsOk_len ha).2.1
    have s0 := entry (N := N) ha hZ nd hT
    have eo := entry_ow (n := N.length - vs.length) (Z := Z) ha
    rw [(argsOk_len ha).1] at s0 eo
    refine ⟨t, ht, hs Z H _ s0 _ (fun σ' H' δ' s' g' ⟨us, q1, q2⟩ => ?_) (fun v σ' H' r δ' B' R1 ⟨us, r', q1, q2, q3⟩ => ?_) (fun _ _ _ _ _ z => z.elim) (fun _ _ _ _ _ z => z.elim)⟩
    · rw [eo] at g'
      exact fin .non H' (.val .none) us s'.tab ⟨g'.ext, g'.dom, fun a m => .inl m⟩ (leave0 s' q1) q2
    · have R2 := R1
      rw [eo] at R2
      have g' := R2.go
      exact fin v H' r' us R2.s.tab ⟨g'.ext, g'.dom, fun a m => .inl m⟩ (leave R2 q1 q2) q3
end
end Pl
set_option Elab.async false
set_option linter.all false
set_option maxRecDepth 100000
set_option maxHeartbeats 1000001
namespace Pl
open PySem L2 LamX NdefX PyProof.Rows
def lo1 : Sl → Lo
  | .own a u => [(a, u)]
  | _ => []
theorem lo1_map : ∀ δ : List Sl, (δ.flatMap lo1).map (·.1) = δ.flatMap ow1
  | [] => rfl
  | s :: δ => by
    rw [List.flatMap_cons, List.flatMap_cons, List.map_append, lo1_map δ]
    cases s <;> rfl
theorem mem_lo {δ : List Sl} {q : Addr × OV} (h : q ∈ δ.flatMap lo1) : ∃ i : Nat, δ[i]? = some (.own q.1 q.2) := by
  obtain ⟨s, hs, m⟩ := List.mem_flatMap.mp h
  obtain ⟨i, hi⟩ := List.mem_iff_getElem?.mp hs
  cases s with
  | no => cases m
  | val d => cases m
  | own a u =>
    have e : q = (a, u) := by simpa [lo1] using m
    subst e
    exact ⟨i, hi⟩
theorem lo_mem {δ : List Sl} {i : Nat} {a : Addr} {u : OV} (h : δ[i]? = some (.own a u)) : (a, u) ∈ δ.flatMap lo1 :=
  List.mem_flatMap.mpr ⟨_, List.mem_of_getElem? h, List.mem_cons_self⟩
def clr (δ : List Sl) : List Nat → List Sl
  | [] => δ
  | i :: is => (clr δ is).set i .no
theorem clr_ne {δ : List Sl} {j : Nat} : ∀ {is : List Nat}, j ∉ is → (clr δ is)[j]? = δ[j]?
  | [], _ => rfl
  | i :: is, h => by
    show ((clr δ is).set i .no)[j]? = _
    rw [List.getElem?_set_ne fun e => h (by rw [← e]; exact List.mem_cons_self), clr_ne fun m => h (List.mem_cons_of_mem _ m)]
theorem clr_own {δ : List Sl} {j : Nat} {a : Addr} {u : OV} : ∀ {is : List Nat}, (clr δ is)[j]? = some (.own a u) → δ[j]? = some (.own a u) ∧ j ∉ is
  | [], h => ⟨h, by simp⟩
  | i :: is, h => by
    have h : ((clr δ is).set i .no)[j]? = some (.own a u) := h
    rcases get_set h with ⟨_, _, e⟩ | ⟨ne, h⟩
    · cases e
    · obtain ⟨h1, h2⟩ := clr_own h
      exact ⟨h1, fun m => (List.mem_cons.mp m).elim (fun e => ne e.symm) h2⟩
theorem clr_perm {δ : List Sl} {B : Lo} : ∀ {is : List Nat}, is.Nodup → (∀ i ∈ is, ∃ a u, δ[i]? = some (.own a u)) → (ow δ B).Perm (is.map (plc δ) ++ ow (clr δ is) B)
  | [], _, _ => List.Perm.refl _
  | i :: is, nd, own => by
    obtain ⟨nd1, nd2⟩ := List.nodup_cons.mp nd
    obtain ⟨a, u, h⟩ := own i List.mem_cons_self
    have h' : (clr δ is)[i]? = some (.own a u) := by rw [clr_ne nd1]; exact h
    have hp := ow_own (δ := clr δ is) (p := a) (u := u) (B := B) (List.getElem?_eq_some_iff.mp h').1
    rw [ow_same h'] at hp
    refine (clr_perm nd2 fun k hk => own k (List.mem_cons_of_mem _ hk)).trans ?_
    rw [List.map_cons, plc_of h]
    exact (hp.append_left _).trans List.perm_middle
def nms : List (Option Nat) → List Nat
  | [] => []
  | some i :: os => i :: nms os
  | none :: os => nms os
def ArgF (δ : List Sl) : List R → List Ar → List (Option Nat) → Prop
  | [], [], [] => True
  | .val d :: rs, .val e :: as, os => e = d ∧ ArgF δ rs as os
  | .bor i :: rs, .own w :: as, o :: os => o = some i ∧ (∃ a, δ[i]? = some (.own a w)) ∧ ArgF δ rs as os
  | .new u :: rs, .own w :: as, o :: os => o = none ∧ w = u ∧ ArgF δ rs as os
  | .new u :: rs, .val e :: as, os => (∃ ds, u = .lst ds ∧ e = .list ds) ∧ ArgF δ rs as os
  | _, _, _ => False
def putOo (δ : List Sl) : List (Option Nat) → List OV → List Sl
  | some i :: os, u :: us => putOo (putO δ i u) os us
  | none :: os, _ :: us => putOo δ os us
  | _, _ => δ
def PosO (δ : List Sl) : List (Option Nat) → List Addr → Prop
  | [], [] => True
  | some i :: os, a :: A => a = plc δ i ∧ PosO δ os A
  | none :: os, _ :: A => PosO δ os A
  | _, _ => False
section
variable {K : PySem.W.Frag} {T : List NTab} {B B' B1 : Lo} {A A0 : List Addr} {H0 H H' : Hp} {σ : L2.St} {δ δ' : List Sl} {v : V} {r : R} {P : R → List Sl → Prop} {te : TE}
theorem putOo_ow : ∀ {os : List (Option Nat)} {us : List OV} {δ : List Sl}, ow (putOo δ os us) B = ow δ B
  | [], _, _ => rfl
  | some _ :: _, [], _ => rfl
  | none :: _, [], _ => rfl
  | some i :: os, u :: us, δ => by
    show ow (putOo (putO δ i u) os us) B = _
    rw [putOo_ow, putO_ow]
  | none :: os, u :: us, δ => putOo_ow (os := os) (us := us)
theorem putOo_len : ∀ {os : List (Option Nat)} {us : List OV} {δ : List Sl}, (putOo δ os us).length = δ.length
  | [], _, _ => rfl
  | some _ :: _, [], _ => rfl
  | none :: _, [], _ => rfl
  | some i :: os, u :: us, δ => by
    show (putOo (putO δ i u) os us).length = _
    rw [putOo_len, putO_len]
  | none :: os, u :: us, δ => putOo_len (os := os) (us := us)
theorem putOo_ne : ∀ {os : List (Option Nat)} {us : List OV} {δ : List Sl} {j : Nat}, j ∉ nms os → (putOo δ os us)[j]? = δ[j]?
  | [], _, _, _, _ => rfl
  | some _ :: _, [], _, _, _ => rfl
  | none :: _, [], _, _, _ => rfl
  | some i :: os, u :: us, δ, j, h => by
    show (putOo (putO δ i u) os us)[j]? = _
    rw [putOo_ne fun m => h (List.mem_cons_of_mem _ m), putO_ne fun e => h (by rw [← e]; exact List.mem_cons_self)]
  | none :: os, u :: us, δ, j, h => putOo_ne (os := os) (us := us) (δ := δ) h
theorem pos_same : ∀ {os : List (Option Nat)} {A : List Addr} {δ δ' : List Sl}, (∀ i ∈ nms os, plc δ' i = plc δ i) → PosO δ os A → PosO δ' os A
  | [], [], _, _, _, _ => trivial
  | some i :: os, a :: A, δ, δ', h, p => ⟨by rw [h i List.mem_cons_self]; exact p.1, pos_same (fun j hj => h j (List.mem_cons_of_mem _ hj)) p.2⟩
  | none :: os, a :: A, δ, δ', h, p => pos_same (os := os) (A := A) (fun j hj => h j hj) p
  | [], _ :: _, _, _, _, p => p.elim
  | some _ :: _, [], _, _, _, p => p.elim
  | none :: _, [], _, _, _, p => p.elim
theorem putOo_at {L : Hp} : ∀ {os : List (Option Nat)} {A : List Addr} {us : List OV} {δ : List Sl} {j : Nat} {x : Sl}, (nms os).Nodup → (∀ i ∈ nms os, ∃ a u, δ[i]? = some (.own a u)) → PosO δ os A → Behind K L H' A us → j ∈ nms os → (putOo δ os us)[j]? = some x →
    ∃ a u u0, x = .own a u ∧ δ[j]? = some (.own a u0) ∧ Holds K L H' a u
  | some i :: os, a0 :: A, u :: us, δ, j, x, nd, own, hp, hb, hj, hx => by
    obtain ⟨nd1, nd2⟩ := List.nodup_cons.mp nd
    obtain ⟨b2, b3⟩ := hb
    obtain ⟨p1, p2⟩ := hp
    have hx : (putOo (putO δ i u) os us)[j]? = some x := hx
    obtain ⟨a, w, hi⟩ := own i List.mem_cons_self
    by_cases hji : j = i
    · subst hji
      rw [putOo_ne nd1] at hx
      unfold putO at hx
      rw [hi] at hx
      rw [List.getElem?_set_self (List.getElem?_eq_some_iff.mp hi).1] at hx
      rw [p1, plc_of hi] at b2
      exact ⟨a, u, w, (Option.some.inj hx).symm, hi, b2⟩
    · have hj' : j ∈ nms os := (List.mem_cons.mp hj).elim (fun e => absurd e hji) id
      have same : ∀ k ∈ nms os, (putO δ i u)[k]? = δ[k]? := fun k hk => putO_ne fun e => nd1 (e ▸ hk)
      obtain ⟨a', u', u0, q1, q2, q3⟩ := putOo_at nd2 (fun k hk => by rw [same k hk]; exact own k (List.mem_cons_of_mem _ hk)) (pos_same (fun k hk => by unfold plc; rw [same k hk]) p2) b3 hj' hx
      rw [same j hj'] at q2
      exact ⟨a', u', u0, q1, q2, q3⟩
  | none :: os, a0 :: A, u :: us, δ, j, x, nd, own, hp, hb, hj, hx => putOo_at (os := os) (A := A) (us := us) nd own hp hb.2 hj hx
  | [], _, _, _, _, _, _, _, _, _, hj, _ => by cases hj
  | some _ :: _, [], _, _, _, _, _, _, p, _, _, _ => p.elim
  | none :: _, [], _, _, _, _, _, _, p, _, _, _ => p.elim
  | some _ :: _, _ :: _, [], _, _, _, _, _, _, h, _, _ => h.elim
  | none :: _, _ :: _, [], _, _, _, _, _, _, h, _, _ => h.elim
theorem argf_own : ∀ {rs : List R} {as : List Ar} {os : List (Option Nat)}, ArgF δ rs as os → ∀ i ∈ nms os, ∃ a u, δ[i]? = some (.own a u)
  | [], [], [], _, i, hi => by cases hi
  | .val d :: rs, .val e :: as, os, h, i, hi => argf_own h.2 i hi
  | .bor k :: rs, .own w :: as, o :: os, h, i, hi => by
    obtain ⟨rfl, ⟨a, q⟩, h⟩ := h
    rcases List.mem_cons.mp hi with e | hi
    · exact ⟨a, w, e ▸ q⟩
    · exact argf_own h i hi
  | .new u :: rs, .own w :: as, o :: os, h, i, hi => by
    obtain ⟨rfl, rfl, h⟩ := h
    exact argf_own h i hi
  | .new u :: rs, .val e :: as, os, h, i, hi => argf_own h.2 i hi
  | [], _ :: _, _, h, _, _ => by simp [ArgF] at h
  | [], [], _ :: _, h, _, _ => by simp [ArgF] at h
  | _ :: _, [], _, h, _, _ => by simp [ArgF] at h
  | .val _ :: _, .own _ :: _, _, h, _, _ => by simp [ArgF] at h
  | .bor _ :: _, .val _ :: _, _, h, _, _ => by simp [ArgF] at h
  | .bor _ :: _, .own _ :: _, [], h, _, _ => by simp [ArgF] at h
  | .new _ :: _, .own _ :: _, [], h, _, _ => by simp [ArgF] at h
theorem argf_ok (s : S K T B1 H σ δ) : ∀ {vs : List V} {rs : List R} {as : List Ar} {os : List (Option Nat)} {B : Lo}, Vrs K B1 σ δ H vs rs → Bxs B B1 vs rs → ArgF δ rs as os →
    ∃ A N : List Addr, A.Perm (N ++ (nms os).map (plc δ)) ∧ (N ++ ow δ B).Nodup ∧ (∀ a ∈ N ++ ow δ B, a ∈ ow δ B1) ∧ PosO δ os A ∧ (∀ q ∈ B, q ∈ B1) ∧
      ∀ L : Hp, (∀ d v, Dp K (dl H (N ++ ow δ B)) v d → Dp K L v d) → ArgsOk K L H vs as A
  | [], [], [], [], B, _, hb, _ => by
    have e : B1 = B := hb
    subst e
    exact ⟨[], [], .refl _, s.nd, fun a m => m, trivial, fun q h => h, fun _ _ => trivial⟩
  | v :: vs, .val d :: rs, .val e :: as, os, B, h, ⟨Bm, b1, b2⟩, a => by
    obtain ⟨rfl, a⟩ := a
    have e1 : Bm = B := b1
    subst e1
    obtain ⟨A, N, h1, h2, h3, h4, h5, h6⟩ := argf_ok s h.2 b2 a
    exact ⟨A, N, h1, h2, h3, h4, h5, fun L q => ⟨q _ _ (dp_mono (dl_less h3) _ _ h.1), h6 L q⟩⟩
  | v :: vs, .bor k :: rs, .own w :: as, o :: os, B, h, ⟨Bm, b1, b2⟩, a => by
    obtain ⟨rfl, ⟨b, q⟩, a⟩ := a
    have e1 : Bm = B := b1
    subst e1
    obtain ⟨A, N, h1, h2, h3, h4, h5, h6⟩ := argf_ok s h.2 b2 a
    obtain ⟨q1, q2⟩ := s.hp q
    have hv : σ[k]? = some (some v) := h.1
    rw [hv] at q1
    cases q1
    exact ⟨b :: A, N, (h1.cons b).trans (by show List.Perm _ (N ++ plc δ k :: (nms os).map (plc δ)); rw [plc_of q]; exact List.perm_middle.symm), h2, h3, ⟨(plc_of q).symm, h4⟩, h5,
      fun L m => ⟨rfl, q2.mono (fun d v z => m _ _ (dp_mono (dl_less h3) _ _ z)) rfl, h6 L m⟩⟩
  | v :: vs, .new u :: rs, .own w :: as, o :: os, B, h, ⟨Bm, b1, b2⟩, a => by
    obtain ⟨rfl, rfl, a⟩ := a
    obtain ⟨p, rfl, e1⟩ := b1
    subst e1
    obtain ⟨A, N, h1, h2, h3, h4, h5, h6⟩ := argf_ok s h.2 b2 a
    have pp : (N ++ ow δ ((p, w) :: B)).Perm (p :: N ++ ow δ B) := (ow_loose.append_left N).trans List.perm_middle
    refine ⟨p :: A, p :: N, h1.cons p, pp.nodup_iff.mp h2, fun a m => h3 a (pp.mem_iff.mpr m), h4, fun q m => h5 q (List.mem_cons_of_mem _ m), fun L m => ?_⟩
    have m' : ∀ d v, Dp K (dl H (N ++ ow δ ((p, w) :: B))) v d → Dp K L v d := fun d v z => m _ _ (dp_mono (dl_less fun a q => pp.mem_iff.mpr q) _ _ z)
    exact ⟨rfl, (s.loose _ (h5 _ List.mem_cons_self)).mono (fun d v z => m' _ _ (dp_mono (dl_less h3) _ _ z)) rfl, h6 L m'⟩
  | v :: vs, .new u :: rs, .val e :: as, os, B, h, ⟨Bm, b1, b2⟩, a => by
    obtain ⟨⟨ds, rfl, rfl⟩, a⟩ := a
    obtain ⟨p, rfl, e1⟩ := b1
    subst e1
    obtain ⟨A, N, h1, h2, h3, h4, h5, h6⟩ := argf_ok s h.2 b2 a
    have pp : (N ++ ow δ ((p, .lst ds) :: B)).Perm (p :: N ++ ow δ B) := (ow_loose.append_left N).trans List.perm_middle
    have nd := List.nodup_cons.mp (pp.nodup_iff.mp h2)
    have sub : ∀ a ∈ N ++ ow δ B, a ∈ N ++ ow δ ((p, .lst ds) :: B) := fun a m => pp.mem_iff.mpr (List.mem_cons_of_mem _ m)
    refine ⟨A, N, h1, nd.2, fun a m => h3 a (sub a m), h4, fun q m => h5 q (List.mem_cons_of_mem _ m), fun L m => ?_⟩
    obtain ⟨xs, q1, q2⟩ := s.loose _ (h5 _ List.mem_cons_self)
    refine ⟨m _ _ (.lst (.inl (.inl (dl_of q1 nd.1))) (da_mono (dl_less fun a m => h3 a (sub a m)) _ _ q2)), h6 L fun d v z => m _ _ (dp_mono (dl_less sub) _ _ z)⟩
  | [], _ :: _, _, _, _, h, _, _ => h.elim
  | _ :: _, [], _, _, _, h, _, _ => h.elim
  | [], [], _ :: _, _, _, _, _, h => by simp [ArgF] at h
  | [], [], [], _ :: _, _, _, _, h => by simp [ArgF] at h
  | _ :: _, .val _ :: _, [], _, _, _, _, h => by simp [ArgF] at h
  | _ :: _, .val _ :: _, .own _ :: _, _, _, _, _, h => by simp [ArgF] at h
  | _ :: _, .bor _ :: _, [], _, _, _, _, h => by simp [ArgF] at h
  | _ :: _, .bor _ :: _, .val _ :: _, _, _, _, _, h => by simp [ArgF] at h
  | _ :: _, .bor _ :: _, .own _ :: _, [], _, _, _, h => by simp [ArgF] at h
  | _ :: _, .new _ :: _, [], _, _, _, _, h => by simp [ArgF] at h
  | _ :: _, .new _ :: _, .own _ :: _, [], _, _, _, h => by simp [ArgF] at h
/-- f(..), nothing that is read alone is a name's own object: any result -/
theorem ex_callF {F : FS} {ta : TA} {X : XK} (h : ExA K T ta δ fun rs δ1 => ∃ as os, ArgF δ1 rs as os ∧ (nms os).Nodup ∧ F as fun r us => P r (putOo δ1 os us)) : Ex K T (tCall (spOf K T F) [] X ta) δ P := fun B H σ s Q k =>
  h B H σ s _ fun vs H1 rs δ1 B1 R1 ⟨as, os, ar, nd, f⟩ => by
    have own := argf_own ar
    obtain ⟨A, N, h1, h2, h3, h4, h5, h6⟩ := argf_ok R1.s R1.vr R1.bx ar
    have cp := clr_perm (B := B) nd own
    have key : ∀ Z : Lo, Z.map (·.1) = ow (clr δ1 (nms os)) B → (al A Z).Perm (N ++ ow δ1 B) := fun Z e => by
      show (A ++ Z.map (·.1)).Perm _
      rw [e]
      refine (h1.append_right _).trans ?_
      rw [List.append_assoc]
      exact cp.symm.append_left N
    have eZ : ((clr δ1 (nms os)).flatMap lo1 ++ B).map (·.1) = ow (clr δ1 (nms os)) B := by
      rw [List.map_append, lo1_map]
      rfl
    generalize hZd : (clr δ1 (nms os)).flatMap lo1 ++ B = Z at eZ
    have pz := key Z eZ
    have sub : ∀ a ∈ al A Z, a ∈ ow δ1 B1 := fun a m => h3 a (pz.mem_iff.mp m)
    have up : ∀ d v, Dp K (dl H1 (ow δ1 B1)) v d → Dp K (dl H1 (al A Z)) v d := dp_mono (dl_less sub)
    have inZ : ∀ (i : Nat) (a : Addr) (u : OV), i ∉ nms os → δ1[i]? = some (.own a u) → (a, u) ∈ Z := fun i a u n e => by
      rw [← hZd]
      exact List.mem_append_left _ (lo_mem (i := i) (by rw [clr_ne n]; exact e))
    have inB : ∀ q ∈ B, q ∈ Z := fun q m => by rw [← hZd]; exact List.mem_append_right _ m
    show spOf K T F (vs ++ []) H1 Q X
    rw [List.append_nil]
    refine ⟨A, Z, as, _, pz.nodup_iff.mpr h2, R1.s.tab, h6 _ (dp_mono (dl_less fun a m => pz.mem_iff.mp m)), fun q m => ?_, f, fun v H' r us hT g af p => ?_⟩
    · rw [← hZd] at m
      rcases List.mem_append.mp m with m | m
      · obtain ⟨i, e⟩ := mem_lo m
        exact (R1.s.hp (clr_own e).1).2.mono up rfl
      · exact (R1.s.loose q (h5 q m)).mono up rfl
    · have low : ∀ a ∈ ow δ1 B, a ∈ al A Z := fun a m => pz.mem_iff.mpr (List.mem_append_right _ m)
      have go : ∀ B2 : Lo, (∀ a ∈ ow (putOo δ1 os us) B2, a ∈ ow δ1 B ∨ H1 a = none) → Go (ow δ1 B1) (ow (putOo δ1 os us) B2) H1 H' := fun B2 hB2 =>
        ⟨(g.more sub).ext, g.dom, fun a m => (hB2 a m).imp_left fun z => sub a (low a z)⟩
      have st : ∀ B2 : Lo, (∀ a ∈ ow (putOo δ1 os us) B2, a ∈ ow δ1 B ∨ H1 a = none) → (∀ a ∈ ow (putOo δ1 os us) B2, a ∈ nwA v r ++ al A Z) → (ow (putOo δ1 os us) B2).Nodup →
          (∀ q ∈ B2, q ∈ B ∨ Holds K (dl H' (nwA v r ++ al A Z)) H' q.1 q.2) → S K T B2 H' σ (putOo δ1 os us) := fun B2 hB2 hin hnd hl => by
        have dn : ∀ d v', Dp K (dl H' (nwA v r ++ al A Z)) v' d → Dp K (dl H' (ow (putOo δ1 os us) B2)) v' d := dp_mono (dl_less hin)
        refine ⟨by rw [putOo_len]; exact R1.s.len, hT, fun i x hx => ?_, fun q hq => ?_, hnd⟩
        · by_cases hi : i ∈ nms os
          · obtain ⟨a, u, u0, rfl, q2, q3⟩ := putOo_at nd own h4 af.args hi hx
            exact ⟨(R1.s.hp q2).1, q3.mono dn rfl⟩
          · rw [putOo_ne hi] at hx
            cases x with
            | no => trivial
            | val d =>
              obtain ⟨w, q1, q2⟩ := R1.s.ok i _ hx
              exact ⟨w, q1, dp_mono (go B2 hB2).rk _ _ q2⟩
            | own a u => exact ⟨(R1.s.hp hx).1, (af.rest _ (inZ i a u hi hx)).mono dn rfl⟩
        · rcases hl q hq with m | m
          · exact (af.rest q (inB q m)).mono dn rfl
          · exact m.mono dn rfl
      have nd0 : (ow (putOo δ1 os us) B).Nodup := by
        rw [putOo_ow]
        exact (List.nodup_append.mp h2).2.1
      have hr := af.res
      cases r with
      | val d =>
        have b0 : ∀ a ∈ ow (putOo δ1 os us) B, a ∈ ow δ1 B ∨ H1 a = none := fun a m => by rw [putOo_ow] at m; exact .inl m
        have b1 : ∀ a ∈ ow (putOo δ1 os us) B, a ∈ al A Z := fun a m => by rw [putOo_ow] at m; exact low a m
        exact k v H' (.val d) _ B ⟨st B b0 (fun a m => List.mem_append_right _ (b1 a m)) nd0 fun q m => .inl m, R1.go.trans (go B b0), dp_mono (dl_less b1) _ _ hr, rfl⟩ p
      | new u =>
        obtain ⟨q, rfl, q1, q2⟩ := hr
        have nq : q ∉ ow (putOo δ1 os us) B := fun m => by
          rw [putOo_ow] at m
          exact R1.s.free q1 (sub q (low q m))
        have b0 : ∀ a ∈ ow (putOo δ1 os us) ((q, u) :: B), a ∈ ow δ1 B ∨ H1 a = none := fun a m => by
          rcases List.mem_cons.mp (ow_loose.mem_iff.mp m) with z | z
          · exact .inr (z ▸ q1)
          · rw [putOo_ow] at z
            exact .inl z
        have b1 : ∀ a ∈ ow (putOo δ1 os us) ((q, u) :: B), a ∈ q :: al A Z := fun a m => by
          rcases List.mem_cons.mp (ow_loose.mem_iff.mp m) with z | z
          · rw [z]; exact List.mem_cons_self
          · rw [putOo_ow] at z
            exact List.mem_cons_of_mem _ (low a z)
        exact k _ H' (.new u) _ ((q, u) :: B) ⟨st _ b0 b1 (ow_loose.nodup_iff.mpr (List.nodup_cons.mpr ⟨nq, nd0⟩)) fun x m => (List.mem_cons.mp m).elim (fun e => .inr (by rw [e]; exact q2)) .inl,
          R1.go.trans (go _ b0), ⟨q, rfl, List.mem_cons_self⟩, ⟨q, rfl, rfl⟩⟩ p
      | bor i => exact hr.elim
end
end Pl
set_option Elab.async false
set_option linter.all false
set_option maxRecDepth 100000
set_option maxHeartbeats 1000001
namespace Pl
open PySem L2 LamX NdefX PyProof.Rows
section
variable {K : PySem.W.Frag} {T : List NTab} {B B' B1 : Lo} {A A0 : List Addr} {H0 H H' : Hp} {σ : L2.St} {δ δ' : List Sl} {v : V} {r : R} {E : Es} {te ta tb : TE} {tt t1 t2 : TT} {ts t u : TS} {g : TG} {P : R → List Sl → Prop}
theorem ex_cb {rr : List V → Hp → VK → Prop} {t : TA} (h : ExA K T t δ fun rs δ1 => ∃ ds, AsDs δ1 rs ds ∧ CbD K rr ds fun z => P z δ1) : Ex K T (tCB rr t) δ P := fun B H σ s Q k =>
  h B H σ s _ fun vs H1 rs δ1 B1 R1 ⟨ds, a, o⟩ => by
    obtain ⟨C, rfl⟩ := R1.bx.suf
    exact o H1 vs Q (R1.vr.dp R1.s a) (out_suf R1.s R1.go k)
theorem dp_l {v : V} {ds : List D} (h : Dp K H v (.list ds)) : ∃ a xs, v = .ref a ∧ SqL K H a xs ∧ DpAll K H xs ds := by
  cases h with
  | lst hs ha => exact ⟨_, _, rfl, hs, ha⟩
theorem dp_t {v : V} {ds : List D} (h : Dp K H v (.tuple ds)) : ∃ a xs, v = .ref a ∧ SqT K H a xs ∧ DpAll K H xs ds := by
  cases h with
  | tup hs ha => exact ⟨_, _, rfl, hs, ha⟩
theorem da_1 {vs : List V} {d : D} (h : DpAll K H vs [d]) : ∃ v, vs = [v] ∧ Dp K H v d := by
  cases h with
  | cons h1 h2 =>
    cases h2
    exact ⟨_, rfl, h1⟩
theorem da_2 {vs : List V} {d e : D} (h : DpAll K H vs [d, e]) : ∃ v w, vs = [v, w] ∧ Dp K H v d ∧ Dp K H w e := by
  cases h with
  | cons h1 h2 =>
    obtain ⟨w, rfl, h3⟩ := da_1 h2
    exact ⟨_, w, rfl, h1, h3⟩
theorem da_ints : ∀ {vs : List V} {ns : List Int}, DpAll K H vs (ns.map .int) → vs = ns.map V.int
  | _, [], h => by cases h; rfl
  | _, n :: ns, h => by
    have h : DpAll K H _ (.int n :: ns.map .int) := h
    cases h with
    | cons h1 h2 =>
      cases h1
      rw [da_ints h2]
      rfl
theorem da_bools : ∀ {vs : List V} {ns : List Bool}, DpAll K H vs (ns.map .bool) → vs = ns.map V.bl
  | _, [], h => by cases h; rfl
  | _, n :: ns, h => by
    have h : DpAll K H _ (.bool n :: ns.map .bool) := h
    cases h with
    | cons h1 h2 =>
      cases h1
      rw [da_bools h2]
      rfl
theorem da_ofInts : ∀ {ns : List Int}, DpAll K H (ns.map V.int) (ns.map .int)
  | [] => .nil
  | n :: ns => .cons (.int n) da_ofInts
theorem imm_ints : ∀ ns : List Int, immAll (ns.map .int) = true
  | [] => rfl
  | n :: ns => by
    show (imm (.int n) && immAll (ns.map .int)) = true
    rw [imm_ints ns]
    rfl
abbrev rLen (K : PySem.W.Frag) : List V → Hp → VK → Prop := fun xs H Q => ∃ x n, xs = [x] ∧ LenV K x H n ∧ Q (.int n) H
theorem cb_lenL {ds : List D} {P : R → Prop} (p : P (.val (.int ds.length))) : CbD K (rLen K) [.list ds] P := fun H vs Q h o => by
  obtain ⟨v, rfl, h1⟩ := da_1 h
  obtain ⟨a, xs, rfl, hs, ha⟩ := dp_l h1
  exact ⟨_, xs.length, rfl, .inl ⟨xs, hs, rfl⟩, by rw [da_len ha]; exact o.val _ _ (.int _) p⟩
theorem cb_lenT {ds : List D} {P : R → Prop} (p : P (.val (.int ds.length))) : CbD K (rLen K) [.tuple ds] P := fun H vs Q h o => by
  obtain ⟨v, rfl, h1⟩ := da_1 h
  obtain ⟨a, xs, rfl, hs, ha⟩ := dp_t h1
  exact ⟨_, xs.length, rfl, .inr ⟨xs, hs, rfl⟩, by rw [da_len ha]; exact o.val _ _ (.int _) p⟩
abbrev rInt1 : List V → Hp → VK → Prop := fun xs H Q => (∃ i, xs = [.int i] ∧ Q (.int i) H) ∨ ∃ k, xs = [.bl k] ∧ Q (.int (if k then 1 else 0)) H
theorem cb_int {i : Int} {P : R → Prop} (p : P (.val (.int i))) : CbD K rInt1 [.int i] P := fun H vs Q h o => by
  obtain ⟨v, rfl, h1⟩ := da_1 h
  cases h1
  exact .inl ⟨i, rfl, o.val _ _ (.int _) p⟩
theorem cb_intB {b : Bool} {P : R → Prop} (p : P (.val (.int (if b then 1 else 0)))) : CbD K rInt1 [.bool b] P := fun H vs Q h o => by
  obtain ⟨v, rfl, h1⟩ := da_1 h
  cases h1
  exact .inr ⟨b, rfl, o.val _ _ (.int _) p⟩
theorem cb_sum {ns : List Int} {P : R → Prop} (p : P (.val (.int ns.sum))) : CbD K (rSum K) [.list (ns.map .int)] P := fun H vs Q h o => by
  obtain ⟨v, rfl, h1⟩ := da_1 h
  obtain ⟨a, xs, rfl, hs, ha⟩ := dp_l h1
  rw [da_ints ha] at hs
  exact ⟨a, ns, rfl, hs, o.val _ _ (.int _) p⟩
abbrev rListOf (K : PySem.W.Frag) : List V → Hp → VK → Prop := fun xs H Q => ∃ p ys, xs = [.ref p] ∧ (SqL K H p ys ∨ SqT K H p ys) ∧ ∀ l, H l = none → Q (.ref l) (upd H l (.lst ys))
abbrev rTupOf (K : PySem.W.Frag) : List V → Hp → VK → Prop := fun xs H Q => ∃ p ys, xs = [.ref p] ∧ ((SqL K H p ys ∧ ∀ l, H l = none → Q (.ref l) (upd H l (.tup ys))) ∨ (SqT K H p ys ∧ Q (.ref p) H))
theorem cb_listT {ds : List D} {P : R → Prop} (hi : immAll ds = true) (p : P (.new (.lst ds))) : CbD K (rListOf K) [.tuple ds] P := fun H vs Q h o => by
  obtain ⟨v, rfl, h1⟩ := da_1 h
  obtain ⟨a, xs, rfl, hs, ha⟩ := dp_t h1
  exact ⟨a, xs, rfl, .inr hs, fun l hl => o.lst l xs ds hl ha hi p⟩
theorem cb_tupL {ds : List D} {P : R → Prop} (hi : immAll ds = true) (p : P (.val (.tuple ds))) : CbD K (rTupOf K) [.list ds] P := fun H vs Q h o => by
  obtain ⟨v, rfl, h1⟩ := da_1 h
  obtain ⟨a, xs, rfl, hs, ha⟩ := dp_l h1
  exact ⟨a, xs, rfl, .inl ⟨hs, fun l hl => o.tup l xs ds hl ha hi p⟩⟩
theorem cb_tupT {ds : List D} {P : R → Prop} (hi : immAll ds = true) (p : P (.val (.tuple ds))) : CbD K (rTupOf K) [.tuple ds] P := fun H vs Q h o => by
  obtain ⟨v, rfl, h1⟩ := da_1 h
  obtain ⟨a, xs, rfl, hs, ha⟩ := dp_t h1
  refine ⟨a, xs, rfl, .inr ⟨hs, o.old _ (.tuple ds) (.tup hs ha) ?_ p⟩⟩
  simpa [imm] using hi
/-- t + u -/
theorem opd_catA {ds es : List D} {P : R → Prop} (hi : immAll ds = true) (hj : immAll es = true) (hl : ds.length + es.length ≤ 100000) (p : P (.val (.tuple (ds ++ es)))) : OpD K (rCatA K) (.tuple ds) (.tuple es) P := fun H v w Q h1 h2 o => by
  obtain ⟨a, xs, rfl, hs, ha⟩ := dp_t h1
  obtain ⟨b, ys, rfl, hs2, ha2⟩ := dp_t h2
  have both : ∀ l : List D, immAll l = true → immAll (l ++ es) = true := by
    intro l
    induction l with
    | nil => intro _; exact hj
    | cons d l ih =>
      intro h
      simp only [immAll, Bool.and_eq_true] at h
      simp only [List.cons_append, immAll, Bool.and_eq_true]
      exact ⟨h.1, ih h.2⟩
  refine ⟨a, b, xs, ys, rfl, rfl, hs, hs2, by rw [da_len ha, da_len ha2]; exact Nat.le_trans hl (by decide), fun e => ?_, fun _ e => ?_, fun _ _ q hq => ?_⟩
  · subst e
    cases ha
    exact o.old _ (.tuple es) (.tup hs2 ha2) (by simpa [imm] using hj) p
  · subst e
    cases ha2
    rw [List.append_nil] at p
    exact o.old _ (.tuple ds) (.tup hs ha) (by simpa [imm] using hi) p
  · exact o.tup q _ _ hq (da_app ha ha2) (both ds hi) p
def ExO (K : PySem.W.Frag) (T : List NTab) (to : TO) (δ : List Sl) (P : Option Int → List Sl → Prop) : Prop := ∀ (B : Lo) (H : Hp) (σ : L2.St), S K T B H σ δ → ∀ Q : Option Int → Hp → Prop,
  (∀ o H' δ', S K T B H' σ δ' → Go (ow δ B) (ow δ' B) H H' → P o δ' → Q o H') → to σ H Q
theorem exo_none {P : Option Int → List Sl → Prop} (p : P none δ) : ExO K T tNoPart δ P := fun B H σ s Q k => k none H δ s .refl p
theorem exo_some {P : Option Int → List Sl → Prop} (h : Ex K T te δ fun r δ1 => ∃ i, r = .val (.int i) ∧ P (some i) δ1) : ExO K T (tPart te) δ P := fun B H σ s Q k =>
  h B H σ s _ fun v H1 r δ1 B1 R1 ⟨i, e, p⟩ => by
    subst e
    have hb : B1 = B := R1.bx
    subst hb
    have v1 : Dp K _ v (.int i) := R1.vr
    cases v1
    exact ⟨i, rfl, k _ H1 δ1 R1.s R1.go p⟩
def cutD (ds : List D) (lo hi : Option Int) : List D := (ds.drop (HT.sIx ds.length 0 lo)).take (HT.sIx ds.length ds.length hi - HT.sIx ds.length 0 lo)
theorem da_cut {xs : List V} {ds : List D} {lo hi : Option Int} (h : DpAll K H xs ds) : DpAll K H (cutV xs lo hi) (cutD ds lo hi) := by
  unfold cutV cutD
  rw [da_len h]
  exact da_take _ (da_drop _ h)
theorem ex_slL {tl th : TO} (h : Ex K T te δ fun r δ1 => ExO K T tl δ1 fun lo δ2 => ExO K T th δ2 fun hi δ3 => ∃ ds, AsD δ3 r (.list ds) ∧ immAll (cutD ds lo hi) = true ∧ P (.new (.lst (cutD ds lo hi))) δ3) : Ex K T (tSl (rSlL K) te tl th) δ P := fun B H σ s Q k =>
  h B H σ s _ fun v H1 r δ1 B1 R1 h1 => h1 B1 H1 σ R1.s _ fun lo H2 δ2 s2 g2 h2 => h2 B1 H2 σ s2 _ fun hi H3 δ3 s3 g3 ⟨ds, a, hi', p⟩ => by
    obtain ⟨C, rfl⟩ := R1.bx.suf
    have v3 : Vr K (C ++ B) σ δ3 H3 v r := Vr.later (C := []) R1.vr (g2.trans g3)
    obtain ⟨b, xs, rfl, hs, ha⟩ := dp_l (v3.dp s3 a)
    exact ⟨b, xs, rfl, hs, fun q hq => (out_suf (P := P) s3 ((R1.go.trans g2).trans g3) k).lst q _ _ hq (da_cut ha) hi' p⟩
theorem immAll_mem {ds : List D} : immAll ds = true ↔ ∀ d ∈ ds, imm d = true := by
  induction ds with
  | nil => simp [immAll]
  | cons d ds ih => simp [immAll, ih]
theorem imm_rev {ds : List D} (h : immAll ds = true) : immAll ds.reverse = true := immAll_mem.mpr fun d m => immAll_mem.mp h d (List.mem_reverse.mp m)
theorem ty_of {d : D} {v : V} (h : Dp K H v d) : ∃ t, TyX K H v t ∧ t = (match d with | .none => .type "NoneType" | .bool _ => .type "bool" | .int _ => .type "int" | .str _ => .type "str" | .list _ => .type "list" | .tuple _ => .type "tuple" | .dict _ => .type "dict") := by
  cases h with
  | non => exact ⟨_, .base .non, rfl⟩
  | bl b => exact ⟨_, .base (.bl b), rfl⟩
  | int i => exact ⟨_, .base (.int i), rfl⟩
  | str x => exact ⟨_, .base (.str x), rfl⟩
  | lst hs ha =>
    rcases hs with (hs | ⟨o, hs⟩) | ⟨o, _, _, e, c, _⟩
    · exact ⟨_, .base (.lst hs), rfl⟩
    · exact ⟨_, .base (.frz hs), rfl⟩
    · exact ⟨_, .kList e c, rfl⟩
  | tup hs ha =>
    rcases hs with (hs | ⟨o, hs⟩) | ⟨o, _, _, e, c, _⟩
    · exact ⟨_, .base (.tup hs), rfl⟩
    · exact ⟨_, .fTuple hs, rfl⟩
    · exact ⟨_, .kTuple e c, rfl⟩
def tyD : D → Value
  | .none => .type "NoneType" | .bool _ => .type "bool" | .int _ => .type "int" | .str _ => .type "str" | .list _ => .type "list" | .tuple _ => .type "tuple" | .dict _ => .type "dict"
/-- isinstance(x, T), T a built-in type -/
theorem ex_isi {n : String} {b : Bool} (h : Ex K T te δ fun r δ1 => ∃ d, AsD δ1 r d ∧ PySem.W.kitOne K (tyD d) (.type n) = some b ∧ P (.val (.bool b)) δ1) : Ex K T (tCB (rIsi K) (tCons te (tCons (tC (.ty n)) tNil))) δ P := fun B H σ s Q k =>
  h B H σ s _ fun v H1 r δ1 B1 R1 ⟨d, a, e, p⟩ => by
    obtain ⟨C, rfl⟩ := R1.bx.suf
    obtain ⟨t, h1, h2⟩ := ty_of (R1.vr.dp R1.s a)
    have h2 : t = tyD d := by rw [h2]; cases d <;> rfl
    subst h2
    exact ⟨v, .ty n, _, .type n, b, rfl, .ty n, h1, e, (out_suf (P := P) R1.s R1.go k).val _ _ (.bl _) p⟩
section
variable {κ : Type} [DecidableEq κ]
def valD (kvs : List (κ × D)) (k : κ) : Option D := (kvs.find? fun kv => decide (kv.1 = k)).map (·.2)
def putD (kvs : List (κ × D)) (k : κ) (v : D) : List (κ × D) :=
  if (kvs.any fun kv => decide (kv.1 = k)) = true then kvs.map (fun kv => if kv.1 = k then (kv.1, v) else kv) else kvs ++ [(k, v)]
theorem kv_any {k : κ} : ∀ {a : List (κ × V)} {b : List (κ × D)}, KvAll K H a b → (a.any fun kv => decide (kv.1 = k)) = (b.any fun kv => decide (kv.1 = k))
  | [], [], _ => rfl
  | (k1, v) :: a, (k2, d) :: b, ⟨e, h1, h2⟩ => by
    subst e
    rw [List.any_cons, List.any_cons, kv_any h2]
  | [], _ :: _, h => h.elim
  | _ :: _, [], h => h.elim
theorem kv_map {k : κ} {w : V} {e : D} (hw : Dp K H w e) : ∀ {a : List (κ × V)} {b : List (κ × D)}, KvAll K H a b → KvAll K H (a.map fun kv => if kv.1 = k then (kv.1, w) else kv) (b.map fun kv => if kv.1 = k then (kv.1, e) else kv)
  | [], [], _ => trivial
  | (k1, v) :: a, (k2, d) :: b, ⟨e1, h1, h2⟩ => by
    subst e1
    rw [List.map_cons, List.map_cons]
    by_cases hk : k1 = k
    · rw [if_pos hk, if_pos hk]
      exact ⟨rfl, hw, kv_map hw h2⟩
    · rw [if_neg hk, if_neg hk]
      exact ⟨rfl, h1, kv_map hw h2⟩
  | [], _ :: _, h => h.elim
  | _ :: _, [], h => h.elim
theorem kv_snoc {k : κ} {w : V} {e : D} (hw : Dp K H w e) : ∀ {a : List (κ × V)} {b : List (κ × D)}, KvAll K H a b → KvAll K H (a ++ [(k, w)]) (b ++ [(k, e)])
  | [], [], _ => ⟨rfl, hw, trivial⟩
  | (k1, v) :: a, (k2, d) :: b, ⟨e1, h1, h2⟩ => ⟨e1, h1, kv_snoc hw h2⟩
  | [], _ :: _, h => h.elim
  | _ :: _, [], h => h.elim
theorem kv_put {k : κ} {w : V} {e : D} {a : List (κ × V)} {b : List (κ × D)} (hw : Dp K H w e) (h : KvAll K H a b) : KvAll K H (putK a k w) (putD b k e) := by
  unfold putK putD
  rw [kv_any h]
  split
  · exact kv_map hw h
  · exact kv_snoc hw h
theorem kv_len : ∀ {a : List (κ × V)} {b : List (κ × D)}, KvAll K H a b → a.length = b.length
  | [], [], _ => rfl
  | (_, _) :: _, (_, _) :: _, ⟨_, _, h⟩ => congrArg (· + 1) (kv_len h)
  | [], _ :: _, h => h.elim
  | _ :: _, [], h => h.elim
end
end
end Pl
set_option Elab.async false
set_option linter.all false
set_option maxRecDepth 100000
set_option maxHeartbeats 1000001
namespace Pl
open PySem L2 LamX NdefX PyProof.Rows GenW
section
variable {K : PySem.W.Frag} {T : List NTab} {B B' B1 : Lo} {A A0 : List Addr} {H0 H H' : Hp} {σ : L2.St} {δ δ' : List Sl} {v : V} {r : R} {E : Es} {te ta tb ty tv : TE} {tt t1 t2 : TT} {ts t u : TS} {g : TG} {P : R → List Sl → Prop}
def keyD : Key → D
  | .inl i => .int i
  | .inr x => .str x
theorem key_dp {k : Key} {v : V} (h : Dp K H v (keyD k)) : v = kV k := by
  cases k <;> cases h <;> rfl
/-- d[k] = v, d a name's dict of ints and texts -/
theorem ss_dputK {i : Nat} (h : Ex K T tv δ fun r δ1 => ∃ d, r = .val d ∧ (∃ a u, δ1[i]? = some (.own a u)) ∧ Ex K T ty δ1 fun r2 δ2 => ∃ (k : Key) (a : Addr) (kvs : List (Key × D)), r2 = .val (keyD k) ∧ δ2[i]? = some (.own a (.dK kvs)) ∧ kvs.length < 100000 ∧ E.nx (δ2.set i (.own a (.dK (putD kvs k d))))) :
    Ss K T (sDPut (tVar i) ty tv) δ E := fun B H σ s D kn _ _ _ =>
  h B H σ s _ fun v H1 r δ1 B1 R1 ⟨d, e, ⟨a, u, hi⟩, h1⟩ => by
    subst e
    have e1 : B1 = B := R1.bx
    subst e1
    refine ⟨.ref a, (R1.s.hp hi).1, ?_⟩
    refine h1 B1 H1 σ R1.s _ fun w H2 r2 δ2 B2 R2 ⟨k, a2, kvs, e2, hi2, hl, p⟩ => ?_
    subst e2
    have e3 : B2 = B1 := R2.bx
    subst e3
    have hw : w = kV k := key_dp R2.vr
    subst hw
    obtain ⟨q1, ys, q2, q3⟩ := R2.s.hp hi2
    rw [(R1.s.hp hi).1] at q1
    cases q1
    have hv : Dp K (dl H2 (ow δ2 B2)) v d := dp_mono R2.go.rk _ _ R1.vr
    refine ⟨a, _, rfl, DPut.k q2 (by rw [kv_len q3]; exact Nat.lt_of_lt_of_le hl (by decide)), ?_⟩
    have w := rs_write (z := .none) (w := .non) R2.s (R1.go.trans R2.go) hi2 (u' := .dK (putD kvs k d)) (o' := .dK (putK ys k v)) ⟨_, upd_same, kv_put hv q3⟩ .non
    exact kn σ _ _ w.s w.go p
theorem ex_dnewK (p : P (.new (.dK [])) δ) : Ex K T tDNewK δ P := fun B H σ s Q k => fun q hq => (out_rs (P := P) s .refl k).dK q hq p
end
end Pl
set_option Elab.async false
set_option linter.all false
set_option maxRecDepth 100000
set_option maxHeartbeats 1000001
namespace Pl
open PySem L2 LamX NdefX PyProof.Rows GenW
structure EsG where
  nx : List D → List Sl → Prop
  bk : List D → List Sl → Prop := fun _ _ => False
  ct : List D → List Sl → Prop := fun _ _ => False
section
variable (K : PySem.W.Frag) (T : List NTab)
/-- zs: what is out -/
def Sg (tg : TGn) (δ : List Sl) (zs : List D) (E : EsG) : Prop := ∀ (B : Lo) (H : Hp) (σ : L2.St) (ys : List V), S K T B H σ δ → DpAll K (dl H (ow δ B)) ys zs → ∀ D : GEnds,
  (∀ ys' zs' σ' H' δ', S K T B H' σ' δ' → Go (ow δ B) (ow δ' B) H H' → DpAll K (dl H' (ow δ' B)) ys' zs' → E.nx zs' δ' → D.nx ys' σ' H') →
  (∀ ys' zs' σ' H' δ', S K T B H' σ' δ' → Go (ow δ B) (ow δ' B) H H' → DpAll K (dl H' (ow δ' B)) ys' zs' → E.bk zs' δ' → D.bk ys' σ' H') →
  (∀ ys' zs' σ' H' δ', S K T B H' σ' δ' → Go (ow δ B) (ow δ' B) H H' → DpAll K (dl H' (ow δ' B)) ys' zs' → E.ct zs' δ' → D.ct ys' σ' H') → tg D ys σ H
end
section
variable {K : PySem.W.Frag} {T : List NTab} {B B' B1 : Lo} {A A0 : List Addr} {H0 H H' : Hp} {σ : L2.St} {δ δ' : List Sl} {v : V} {r : R} {E : EsG} {te ta tb ty tv : TE} {tt t1 t2 : TT} {ts t u : TS} {tg ug : TGn} {zs : List D} {P : R → List Sl → Prop}
theorem Sg.after {H1 : Hp} {σ1 : L2.St} {δ1 : List Sl} {ys1 : List V} {zs1 : List D} (q : Sg K T tg δ1 zs1 E) (s1 : S K T B H1 σ1 δ1) (h1 : DpAll K (dl H1 (ow δ1 B)) ys1 zs1) (g1 : Go (ow δ B) (ow δ1 B) H H1) {D : GEnds}
    (kn : ∀ ys' zs' σ' H' δ', S K T B H' σ' δ' → Go (ow δ B) (ow δ' B) H H' → DpAll K (dl H' (ow δ' B)) ys' zs' → E.nx zs' δ' → D.nx ys' σ' H')
    (kb : ∀ ys' zs' σ' H' δ', S K T B H' σ' δ' → Go (ow δ B) (ow δ' B) H H' → DpAll K (dl H' (ow δ' B)) ys' zs' → E.bk zs' δ' → D.bk ys' σ' H')
    (kc : ∀ ys' zs' σ' H' δ', S K T B H' σ' δ' → Go (ow δ B) (ow δ' B) H H' → DpAll K (dl H' (ow δ' B)) ys' zs' → E.ct zs' δ' → D.ct ys' σ' H') : tg D ys1 σ1 H1 :=
  q B H1 σ1 ys1 s1 h1 D (fun ys' zs' σ2 H2 δ2 s2 g2 h2 n => kn ys' zs' σ2 H2 δ2 s2 (g1.trans g2) h2 n) (fun ys' zs' σ2 H2 δ2 s2 g2 h2 n => kb ys' zs' σ2 H2 δ2 s2 (g1.trans g2) h2 n) (fun ys' zs' σ2 H2 δ2 s2 g2 h2 n => kc ys' zs' σ2 H2 δ2 s2 (g1.trans g2) h2 n)
end
end Pl
set_option Elab.async false
set_option linter.all false
set_option maxRecDepth 100000
set_option maxHeartbeats 2000001
namespace Pl
open PySem L2 LamX NdefX PyProof.Rows GenW PySem.W PySem.Calls
section
variable {X : Cx} {pins : List (Addr × Obj)} {σ : L2.St} {H : Hp} {s : Shared}
/-- a value that stands for data -/
def DV (K : PySem.W.Frag) (H : Hp) (u : Value) (d : PyData) : Prop := ∃ x : V, L2.RelV x u ∧ Dp K H x d
theorem each_dv {K : PySem.W.Frag} : ∀ {xs : List V} {ds : List PyData} {us : List Value}, DpAll K H xs ds → L2.Vals xs us → EachIs (DV K H) us ds
  | _, _, _, .nil, .nil => .nil
  | _, _, _, .cons h t, .cons r rs => .cons ⟨_, r, h⟩ (each_dv t rs)
theorem of_each {K : PySem.W.Frag} : ∀ {us : List Value} {ds : List PyData}, EachIs (DV K H) us ds → ∃ xs, L2.Vals xs us ∧ DpAll K H xs ds
  | _, _, .nil => ⟨[], .nil, .nil⟩
  | _, _, .cons ⟨x, r, h⟩ t => by
    obtain ⟨xs, q1, q2⟩ := of_each t
    exact ⟨x :: xs, .cons r q1, .cons h q2⟩
end
end Pl
set_option Elab.async false
set_option linter.all false
set_option maxRecDepth 100000
set_option maxHeartbeats 2000001
namespace Pl
open PySem L2 LamX NdefX PyProof.Rows GenW PySem.W PySem.Calls
section
variable {X : Cx} {pins : List (Addr × Obj)} {σ : L2.St} {H : Hp} {s : Shared}
def srtH (H : Hp) (a kS : Addr) (zs : List V) : Hp := fun b => if b = a then some (.lst zs) else if b = kS then none else H b
theorem srt_at {a kS : Addr} {zs : List V} {b : Addr} (h1 : b ≠ a) (h2 : b ≠ kS) : srtH H a kS zs b = H b := by
  unfold srtH
  rw [if_neg h1, if_neg h2]
theorem srt_a {a kS : Addr} {zs : List V} : srtH H a kS zs a = some (.lst zs) := by
  unfold srtH
  rw [if_pos rfl]
theorem srt_k {a kS : Addr} {zs : List V} (h : kS ≠ a) : srtH H a kS zs kS = none := by
  unfold srtH
  rw [if_neg h, if_pos rfl]
/-- the state is left as it was but for the heap, which lost the pin a and the list kS; a is tracked now -/
theorem inv_sorted {a kS : Addr} {oa : Obj} {ks zs : List V} {h' : Heap} {t' : Nat} (I : L2.Inv X (pins ++ [(a, oa)]) σ H s) (hk : H kS = some (.lst ks)) (ea : X.s_0.heap.objs.size ≤ a) (ec : ∀ x c, X.env.cells.lookup x = some c → c ≠ a) (ep : ∀ p ∈ X.pn ++ pins, p.1 ≠ a)
    (ek : (X.s_0.heap.objs.size ≤ kS) ∧ kS ≠ X.env.locals ∧ (∀ x c, X.env.cells.lookup x = some c → c ≠ kS) ∧ ∀ p ∈ X.pn ++ pins, p.1 ≠ kS)
    (k : ∀ b o, b ≠ a → b ≠ kS → s.heap.get? b = some o → h'.get? b = some o) (new : ObjOk X.prog X.w (srtH H a kS zs) h' a (.lst zs)) :
    L2.Inv X pins σ (srtH H a kS zs) { s with heap := h', toks := t' } := by
  obtain ⟨p1, p2, p3, p4, p5⟩ := I.pin (a, oa) (List.mem_append_right _ (List.mem_append_right _ List.mem_cons_self))
  have I0 : L2.Inv X pins σ H s := I.pins_of fun p hp => I.pin p (List.mem_append_right _ (List.mem_append_left _ hp))
  have nk : kS ≠ a := fun e => by rw [e, p2] at hk; cases hk
  have na : ∀ b u, H b = some u → b ≠ a := fun b u e z => by rw [z, p2] at e; cases e
  have nkk : ∀ b u, H b = some u → (∀ l, u ≠ .lst l) → b ≠ kS := fun b u e n z => by rw [z, hk] at e; exact n ks (Option.some.inj e).symm
  have nn : ∀ b, H b = none → b ≠ kS := fun b e z => by rw [z, hk] at e; cases e
  have c1 : ∀ {b : Addr}, b ∉ [a, kS] → b ≠ a := fun h z => h (by simp [z])
  have c2 : ∀ {b : Addr}, b ∉ [a, kS] → b ≠ kS := fun h z => h (by simp [z])
  refine I0.step (g' := s.gens) (d' := s.drawn) (ch := [a, kS]) (fun b hb => ?_) (fun b o _ _ hc e n => k b o (c1 hc) (c2 hc) e) (fun b o _ _ hc e n => ⟨o.slots, k b o (c1 hc) (c2 hc) e⟩)
    (fun b o hc e n => by rw [srt_at (c1 hc) (c2 hc)]; exact n) (fun b o hc e => ⟨o, k b o (c1 hc) (c2 hc) e⟩) (fun b xs e => by rw [srt_at (na b _ e) (nkk b _ e fun l z => by cases z)]; exact e) (fun b o u e => by rw [srt_at (na b _ e) (nkk b _ e fun l z => by cases z)]; exact e)
    (fun b ps e => ⟨#[], by rw [srt_at (na b _ e) (nkk b _ e fun l z => by cases z), e]; simp⟩) (fun m hm => ?_) (fun b u e => ?_) I0.bare
  · have e : b = a ∨ b = kS := by simpa using hb
    rcases e with e | e
    · rw [e]
      exact ⟨.inr ea, p3, ec, ep⟩
    · rw [e]
      exact ⟨.inr ek.1, ek.2.1, ek.2.2.1, ek.2.2.2⟩
  · obtain ⟨ob, es, ep, ho, r⟩ := hm
    exact ⟨ob, es, ep, k _ ob p3.symm (nn _ I0.free) ho, r⟩
  · by_cases hb : b = a
    · subst hb
      rw [srt_a] at e
      cases e
      exact new
    · by_cases hbk : b = kS
      · subst hbk
        rw [srt_k hb] at e
        cases e
      · rw [srt_at hb hbk] at e
        refine (I0.hok b u e).stay (fun c v hc q => ?_) (fun c q => by rw [srt_at (na c _ q) (nkk c _ q fun l z => by cases z)]; exact q) fun c xs q => by rw [srt_at (na c _ q) (nkk c _ q fun l z => by cases z)]; exact q
        rcases hc with z | z
        · rw [z] at q ⊢
          exact k b v hb hbk q
        · exact k c v (na c _ z) (nkk c _ z fun l y => by cases y) q
end
/-- the call of a key function that stands at fa -/
def KeyCall (X : Cx) (kk : Nat) (kr : Addr → V → Hp → VK → Prop) : Prop := ∀ (A' : Around) (pins : List (Addr × Obj)) (s : Shared) (σ : L2.St) (H : Hp) (fa : Addr) (w : V) (u : Value) (Q : VK) (E : Value → Shared → Prop), Room kk A' → A'.frames = some X.stack → L2.Inv X pins σ H s → L2.RelV w u → kr fa w H Q →
  wpAny (model X.prog X.w) A' (call (.ref fa) [u]) (EP X pins σ Q) E s
def rSortKey (K : PySem.W.Frag) (T : List NTab) (kr : Addr → V → Hp → VK → Prop) : List V → List V → Hp → VK → Prop := fun vs zs H Q => ∃ (v : V) (fa : Addr) (ds : List PyData) (kd : PyData → PyData), vs = [v] ∧ zs = [.ref fa] ∧ Dp K H v (.list ds) ∧ TabsN T H ∧
  AllAlike (ds.map kd) ∧ Sortable (ds.map kd) ∧ (∀ d ∈ ds, (kd d).depth ≤ 60 ∧ imm (kd d) = true) ∧
  (∀ d ∈ ds, ∀ H2, Go [] [] H H2 → TabsN T H2 → ∀ w, Dp K H2 w d → ∀ Q' : VK, (∀ y H3, Go [] [] H2 H3 → TabsN T H3 → Dp K H3 y (kd d) → Q' y H3) → kr fa w H2 Q') ∧
  ∀ (p : Addr) (ys : List V) (H3 : Hp), Go [] [] H H3 → TabsN T H3 → H p = none → H3 p = some (.lst ys) → DpAll K H3 ys (ds.mergeSort (dataLe false kd)) → Q (.ref p) H3
theorem crk_sortKey {X : Cx} {T : List NTab} {kk : Nat} {kr : Addr → V → Hp → VK → Prop} (hr : Room (kk + 1) X.A) (kc : KeyCall X kk kr) : CallRK X (.builtin "sorted") [Str.ofString "key"] (rSortKey X.K T kr) := by
  intro pins s σ H vs zs us ws Q I r rz h
  obtain ⟨v, fa, ds, kd, rfl, rfl, hv, hT, hal, hsk, hdep, key, q⟩ := h
  have hfr : X.A.frames = some X.stack := I.ok.frames
  obtain ⟨u, rfl, rv⟩ := vals1 r
  obtain ⟨w1, rfl, e1⟩ := vals1 rz
  obtain rfl : w1 = Value.ref fa := e1
  obtain ⟨l, xs, rfl, hs, ha⟩ := (by cases hv with | lst hs ha => exact ⟨_, _, rfl, hs, ha⟩ : ∃ a xs, v = .ref a ∧ SqL X.K H a xs ∧ DpAll X.K H xs ds)
  cases rv
  obtain ⟨its, rv, hl, hz⟩ := I.list hs
  have hn : its.length = ds.length := rv.length.symm.trans (da_len ha)
  have hzz : its.length ≤ sizeLine := by rw [← rv.length]; exact hz
  have hu : X.A.units + 64 < cLine := hr.units
  refine sorted_of_sort hl.isList hzz (ksk_s1 _ _) (fun _ => ksk_l1 _ _) fun E' => ?_
  rw [show Builtin.«list.sort» ⟨[.ref (s.heap.objs.size + 1)], [Str.ofString "key"].zip [Value.ref fa]⟩ = ksk_tree (s.heap.objs.size + 1) (.ref fa) false from ksk_t1 fa _]
  generalize ea : s.heap.objs.size + 1 = a
  have ea2 : @Eq Nat (s.heap.objs.size + 1) a := ea
  have ho : (copyHeap s.heap its).get? a = some (seqObj "list" its.toArray 0) := by rw [← ea]; exact copyHeap_at s.heap its
  obtain ⟨e1, ho1⟩ : ∃ e1, ((copyHeap s.heap its).update a (Obj.mapSeq fun _ => (#[] : Array Value))).get? a = some (seqObj "list" #[] e1) := ⟨_, get?_update_seq ho fun _ => #[]⟩
  unfold ksk_tree
  refine wpAny_bind (listItems_at ho rfl ?_)
  refine wpAny_bind (listUpdate_at ho rfl ?_ (by rw [List.size_toArray]; exact hzz) (Nat.zero_le _))
  refine wpAny_bind (seqEpoch_at ho1 rfl ?_)
  refine wpAny_bind (wpAny_newTuple ?_ (by show its.length ≤ _; exact hzz))
  refine wpAny_bind (wpAny_newList ?_ (Nat.zero_le _))
  refine wpAny_holding ?_
  generalize eh : (((copyHeap s.heap its).update a (Obj.mapSeq fun _ => (#[] : Array Value))).push (seqObj "tuple" its.toArray 0)) = h1
  have old : ∀ b o, s.heap.get? b = some o → h1.get? b = some o := fun b o q => by
    rw [← eh]
    refine Heap.get?_push_of_some _ ?_
    have hlt : b < s.heap.objs.size := Heap.lt_size q
    rw [Heap.get?_update_ne _ _ _ _ (Nat.ne_of_lt (show @LT.lt Nat _ b a by have : @LT.lt Nat _ b s.heap.objs.size := hlt; omega))]
    exact copyHeap_old q
  have ha1 : h1.get? a = some (seqObj "list" #[] e1) := by rw [← eh]; exact Heap.get?_push_of_some _ ho1
  have hsz : s.heap.objs.size ≤ h1.objs.size := by
    have := (show @LT.lt Nat _ a h1.objs.size from Heap.lt_size ha1)
    omega
  have halt : a < h1.objs.size := Heap.lt_size ha1
  generalize ek : h1.objs.size = kS
  have ek2 : @Eq Nat h1.objs.size kS := ek
  have halt2 : @LT.lt Nat _ a h1.objs.size := halt
  have I1 : L2.Inv X pins σ H { s with heap := h1.push (seqObj "list" #[] 0) } := I.kept (t' := s.toks) fun b o q => Heap.get?_push_of_some _ (old b o q)
  have nH : ∀ b, s.heap.objs.size ≤ b → H b = none := fun b hb => I.hok.fresh hb
  have I2 : L2.Inv X pins σ (upd H kS (.lst [])) { s with heap := h1.push (seqObj "list" #[] 0) } := I.laid (t' := s.toks) (fun b o q => Heap.get?_push_of_some _ (old b o q)) (by rw [← ek]; exact hsz) ⟨Nat.zero_le _, [], 0, .nil, by rw [← ek]; exact Heap.get?_push_size _ rfl⟩
  have nak : a ≠ kS := by rw [← ek]; exact Nat.ne_of_lt halt
  have nl : @LT.lt Nat _ X.env.locals s.heap.objs.size := I.lt
  have I3 : L2.Inv X (pins ++ [(a, seqObj "list" #[] e1)]) σ (upd H kS (.lst [])) { s with heap := h1.push (seqObj "list" #[] 0) } := I2.pins_of fun p hp => by
    rcases List.mem_append.mp hp with hp | hp
    · exact I2.pin p (List.mem_append_right _ hp)
    · have e : p = (a, seqObj "list" #[] e1) := by simpa using hp
      subst e
      refine ⟨Heap.get?_push_of_some _ ha1, by rw [upd_ne nak]; exact nH a (show @LE.le Nat _ _ _ by omega), Nat.ne_of_gt (show @LT.lt Nat _ X.env.locals a by omega), I.nofs (show @LE.le Nat _ s.heap.objs.size a by omega), fun v z => by cases z⟩
  have nk : H kS = none := nH kS (show @LE.le Nat _ _ _ by omega)
  have g0 : Go [] [] H (upd H kS (.lst [])) := go_upd nk
  have fixc : ∀ x c, X.env.cells.lookup x = some c → c ≠ a := fun x c e z => by
    obtain ⟨v, q⟩ := I.cell x c e
    have h1 : @LT.lt Nat _ c s.heap.objs.size := q.lt
    have h2 : @Eq Nat c a := z
    omega
  have fixp : ∀ p ∈ X.pn ++ pins, p.1 ≠ a := fun p hp z => by
    have h1 : @LT.lt Nat _ p.1 s.heap.objs.size := Heap.lt_size (I.pin p hp).1
    have h2 : @Eq Nat p.1 a := z
    omega
  have efr : X.A.in1.in1.frames = some X.stack := hfr
  have hr2 : Room kk X.A.in1.in1 := ⟨hr.hd, by have := hr.dp; show X.A.depth + 3 * kk + 5 < _; omega, by have := hr.un; show X.A.units + 1 + 1 + 16 * kk + 200 < _; omega⟩
  show wpAny (model X.prog X.w) X.A.in1.in1 (ksk_rest a (.ref fa) false its.toArray e1 (.ref kS)) _ E' _
  unfold ksk_rest
  refine wpAny_bind (wpAny_rule ?_)
  first
    | rw [List.forIn_toArray]
    | (rw [← Array.forIn_toList]; simp only [List.toList_toArray])
    | rw [← Array.forIn_toList]
  refine wpAny_bind (ksk_fold (fun i s' => ∃ H' ys, L2.Inv X (pins ++ [(a, seqObj "list" #[] e1)]) σ H' s' ∧ Go [] [] H H' ∧ TabsN T H' ∧ H' kS = some (.lst ys) ∧ DpAll X.K H' ys ((ds.map kd).take i)) its 0 _
    ⟨_, [], I3, g0, tab_new nk hT, upd_same, by rw [List.take_zero]; exact .nil⟩ ?step ?done)
  case step =>
    rintro j x s' hx ⟨H', ys, J, g, hT', hks, hys⟩
    rw [Nat.zero_add] at hys ⊢
    have hj : j < its.length := (List.getElem?_eq_some_iff.mp hx).1
    obtain ⟨d, hd⟩ : ∃ d, ds[j]? = some d := ⟨_, List.getElem?_eq_getElem (by omega)⟩
    obtain ⟨xv, hxv, rxv⟩ : ∃ xv, xs[j]? = some xv ∧ L2.RelV xv x := by
      have hjl : j < xs.length := by rw [rv.length]; exact hj
      obtain ⟨u', e', r'⟩ := rv.get (List.getElem?_eq_getElem hjl)
      rw [hx] at e'
      cases e'
      exact ⟨_, List.getElem?_eq_getElem hjl, r'⟩
    obtain ⟨d', ed, hxd⟩ := da_get' ha hxv
    rw [hd] at ed
    cases ed
    have rk : Rk H H' := fun b o e t => g.ext b o e (by simp) t
    have dm : d ∈ ds := List.mem_of_getElem? hd
    refine wpAny_bind (wpAny_attempt (wpAny_mono (kc X.A.in1.in1 _ s' σ H' fa xv x (fun y H3 => Go [] [] H' H3 ∧ TabsN T H3 ∧ Dp X.K H3 y (kd d)) (fun _ _ => False) hr2 efr J rxv (key d dm H' g hT' xv (dp_mono rk _ _ hxd) _ fun y H3 h1 h2 h3 => ⟨h1, h2, h3⟩)) (fun r s2 he => ?_) fun _ _ hF => ?_))
    · obtain ⟨y, H3, J3, ry, g3, hT3, hy⟩ := he
      have hk3 : H3 kS = some (.lst ys) := g3.ext kS _ hks (by simp) (fun _ z => by cases z)
      obtain ⟨kits, n, rk2, hko, hkz⟩ := J3.lst hk3
      have yl : ys.length = j := by
        have := da_len hys
        rw [List.length_take, List.length_map] at this
        omega
      have hsmall : ys.length + 1 ≤ sizeLine := by omega
      try dsimp only
      refine wpAny_bind (listUpdate_at hko rfl ?_ (by rw [List.size_toArray, ← rk2.length]; omega) (by rw [Array.size_push, List.size_toArray, ← rk2.length]; omega))
      obtain ⟨c2, hc2⟩ : ∃ c2, (s2.heap.update kS (Obj.mapSeq (·.push r))).get? kS = some (seqObj "list" (kits.toArray.push r) c2) := ⟨_, get?_update_seq hko (·.push r)⟩
      have J4 : L2.Inv X (pins ++ [(a, seqObj "list" #[] e1)]) σ (upd H3 kS (.lst (ys ++ [y]))) { s2 with heap := s2.heap.update kS (Obj.mapSeq (·.push r)) } := by
        refine J3.write (x := kS) (e := kS) (t' := s2.toks) (by rw [hk3]; trivial) (.inl rfl) (fun b u hb q => (Heap.get?_update_other _ _ (Ne.symm hb)).trans q) ⟨_, hc2⟩ ?_
        refine ⟨by rw [List.length_append, List.length_singleton]; exact hsmall, kits ++ [r], c2, rk2.append (.cons ry .nil), ?_⟩
        rw [hc2]
        simp
      have g4 : Go [] [] H (upd H3 kS (.lst (ys ++ [y]))) := ⟨fun b o e n t => by rw [upd_ne fun z => by rw [z, nk] at e; cases e]; exact g3.ext b o (g.ext b o e n t) n t, fun b e => g.dom b (g3.dom b (upd_none e)), fun b m => .inl m⟩
      have tk : Tk H3 (upd H3 kS (.lst (ys ++ [y]))) := fun b l h => by
        rcases h with h | ⟨o, h⟩
        · exact .inl (by rw [upd_ne fun z => by rw [z, hk3] at h; cases h]; exact h)
        · exact .inr ⟨o, by rw [upd_ne fun z => by rw [z, hk3] at h; cases h]; exact h⟩
      have immK : ∀ l : List PyData, (∀ d ∈ l, d ∈ ds) → immAll (l.map kd) = true := fun l hl => immAll_mem.mpr fun k hk => by
        obtain ⟨d, hd, rfl⟩ := List.mem_map.mp hk
        exact (hdep d (hl d hd)).2
      refine wpAny_pure ⟨rfl, _, ys ++ [y], J4, g4, tab_upd hk3 (fun _ z => by cases z) (fun _ z => by cases z) hT3, upd_same, ?_⟩
      rw [List.take_add_one, List.getElem?_map, hd]
      refine da_app ?_ (da_one (dp_imm tk _ _ (hdep d dm).2 hy))
      refine da_imm tk _ _ ?_ (da_mono (fun b o e t => g3.ext b o e (by simp) t) _ _ hys)
      rw [← List.map_take]
      exact immK _ fun d hd => List.mem_of_mem_take hd
    · exact hF.elim
  case done =>
    rintro s' ⟨H', ys, J, g, hT', hks, hys⟩
    rw [Nat.zero_add, List.take_of_length_le (by rw [List.length_map]; omega)] at hys
    obtain ⟨kits, n, rk2, hko, hkz⟩ := J.lst hks
    have yl : ys.length = ds.length := by
      have := da_len hys
      rw [List.length_map] at this
      exact this
    have hpin := J.pin (a, seqObj "list" #[] e1) (List.mem_append_right _ (List.mem_append_right _ List.mem_cons_self))
    try dsimp only
    refine wpAny_bind (listItems_at hko rfl ?_)
    have eks : EachIs (fun v k => ∃ as, Reads s'.heap v k as) kits (ds.map kd) := (each_dv hys rk2).mono fun v d ⟨x, r, h⟩ => Dp.reads J d x v h r
    have kp : KeepsBut a (hideAll s'.heap [kS]) s'.heap := fun b o _ e => of_hideAll _ e
    have dpt : ∀ k ∈ ds.map kd, X.A.in1.in1.units + k.depth < cLine := fun k hk => by
      obtain ⟨d, hd, rfl⟩ := List.mem_map.mp hk
      have := (hdep d hd).1
      show X.A.units + 1 + 1 + (kd d).depth < cLine
      omega
    refine keyH_end (κ := dataKind s'.heap (ds.map kd)) (h₁ := hideAll s'.heap [kS]) kp (hideAll_none _ List.mem_cons_self) hko hpin.1 nak.symm (SortsAt.data (s := s') (by simpa using eks) hal hsk dpt) (by rw [List.size_toArray, ← rk2.length, yl, hn]) hzz fun h3 tk3 c k3 n3 => ⟨rfl, ?_⟩
    have ko : KeyedOut false (ds.map kd) its (sortVals (dataKind s'.heap (ds.map kd)) false kits.toArray.toList its) := ⟨s'.heap, kits, hal, by simp, eks⟩
    have rkH : Rk H H' := fun b o e t => g.ext b o e (by simp) t
    have eI : EachIs (DV X.K H) its ds := each_dv ha rv
    have eo := keyedOut_each kd ko eI
    obtain ⟨zs, q1, q2⟩ := of_each eo
    have zl : zs.length = ds.length := by
      have h1 := da_len q2
      rw [List.length_mergeSort] at h1
      exact h1
    have nkS : H' a = none := hpin.2.1
    have keep : ∀ b o, b ≠ a → b ≠ kS → s'.heap.get? b = some o → h3.get? b = some o := fun b o h1 h2 e => k3 b o h1 (hideAll_get _ e (by simpa using h2))
    have n0 : X.s_0.heap.objs.size ≤ s.heap.objs.size := I.sz
    have fixk : (X.s_0.heap.objs.size ≤ kS) ∧ kS ≠ X.env.locals ∧ (∀ x c, X.env.cells.lookup x = some c → c ≠ kS) ∧ ∀ p ∈ X.pn ++ pins, p.1 ≠ kS := by
      have n1 : @LE.le Nat _ X.s_0.heap.objs.size s.heap.objs.size := n0
      refine ⟨show @LE.le Nat _ X.s_0.heap.objs.size kS by omega, Nat.ne_of_gt (show @LT.lt Nat _ X.env.locals kS by omega), fun x c e z => ?_, fun p hp z => ?_⟩
      · obtain ⟨v, q⟩ := I.cell x c e
        have h1 : @LT.lt Nat _ c s.heap.objs.size := q.lt
        have h2 : @Eq Nat c kS := z
        omega
      · have h1 : @LT.lt Nat _ p.1 s.heap.objs.size := Heap.lt_size (I.pin p hp).1
        have h2 : @Eq Nat p.1 kS := z
        omega
    have J1 := inv_sorted (zs := zs) (t' := tk3) J hks (show @LE.le Nat _ X.s_0.heap.objs.size a by have n1 : @LE.le Nat _ X.s_0.heap.objs.size s.heap.objs.size := n0; omega) fixc fixp fixk keep ⟨by omega, _, c, q1, n3⟩
    have nH' : ∀ b, s.heap.objs.size ≤ b → H b = none := nH
    have nz : ∀ b u, H b = some u → b ≠ a ∧ b ≠ kS := fun b u e => ⟨(fun z => by rw [z, nH a (show @LE.le Nat _ _ _ by omega)] at e; cases e), (fun z => by rw [z, nk] at e; cases e)⟩
    have gx : Go [] [] H (srtH H' a kS zs) := by
      refine ⟨fun b o e n t => ?_, fun b e => ?_, fun b m => .inl m⟩
      · rw [srt_at (nz b o e).1 (nz b o e).2]
        exact g.ext b o e n t
      · by_cases hb : b = a
        · rw [hb]; exact nH a (show @LE.le Nat _ _ _ by omega)
        · by_cases hbk : b = kS
          · rw [hbk]; exact nk
          · rw [srt_at hb hbk] at e
            exact g.dom b e
    refine ⟨.ref a, _, J1, rfl, q a zs _ gx ?_ (nH a (show @LE.le Nat _ _ _ by omega)) srt_a (da_mono (fun b o e t => gx.ext b o e (by simp) t) _ _ q2)⟩
    refine fun p hp => ?_
    obtain ⟨ps, q1, q2, q3⟩ := hT' p hp
    refine ⟨ps, ?_, q2, fun pos cv hc => ?_⟩
    · rw [srt_at (fun z => by rw [z, nkS] at q1; cases q1) (fun z => by rw [z, hks] at q1; cases q1)]
      exact q1
    · obtain ⟨c, e1, e2⟩ := q3 pos cv hc
      refine ⟨c, e1, ?_⟩
      rw [srt_at (fun z => by rw [z, nkS] at e2; cases e2) (fun z => by rw [z, hks] at e2; cases e2)]
      exact e2
end Pl
set_option Elab.async false
set_option linter.all false
set_option maxRecDepth 100000
set_option maxHeartbeats 2000001
namespace Pl
open PySem L2 LamX NdefX PyProof.Rows GenW PySem.Calls
end Pl
set_option Elab.async false
set_option linter.all false
set_option maxRecDepth 100000
set_option maxHeartbeats 1000001
namespace Pl
open PySem L2 LamX NdefX PyProof.Rows GenW PySem.W PySem.Calls
section
variable {K : PySem.W.Frag} {T : List NTab} {w : World} {B B' B1 : Lo} {A A0 : List Addr} {H0 H H' : Hp} {σ : L2.St} {δ δ' : List Sl} {v : V} {r : R} {E : Es} {te ta tb ty tv : TE} {tt t1 t2 : TT} {ts t u : TS} {g : TG} {P : R → List Sl → Prop}
theorem imm_sort {f : D → D} {ds : List D} (h : immAll ds = true) : immAll (ds.mergeSort (dataLe false f)) = true := immAll_mem.mpr fun d m => immAll_mem.mp h d ((List.mergeSort_perm _ _).mem_iff.mp m)
theorem et_truL {P' : Bool → List Sl → Prop} (h : Ex K T te δ fun r δ' => ∃ ds, AsD δ' r (.list ds) ∧ P' (!ds.isEmpty) δ') : ExT K T (fun σ H Q => te σ H fun x H' => ∃ k, TruV K x H' k ∧ Q k H') δ P' := fun B H σ s Q k =>
  h B H σ s _ fun v H1 r δ1 B1 R1 ⟨ds, a, p⟩ => by
    obtain ⟨C, rfl⟩ := R1.bx.suf
    obtain ⟨b, xs, rfl, hs, ha⟩ := dp_l (R1.vr.dp R1.s a)
    have e : xs.isEmpty = ds.isEmpty := by cases ha <;> rfl
    exact ⟨_, .inl ⟨xs, hs, rfl⟩, by rw [e]; exact k _ H1 δ1 R1.s.dropAll (R1.go.less ow_suf) p⟩
theorem et_truT {P' : Bool → List Sl → Prop} (h : Ex K T te δ fun r δ' => ∃ ds, AsD δ' r (.tuple ds) ∧ P' (!ds.isEmpty) δ') : ExT K T (fun σ H Q => te σ H fun x H' => ∃ k, TruV K x H' k ∧ Q k H') δ P' := fun B H σ s Q k =>
  h B H σ s _ fun v H1 r δ1 B1 R1 ⟨ds, a, p⟩ => by
    obtain ⟨C, rfl⟩ := R1.bx.suf
    obtain ⟨b, xs, rfl, hs, ha⟩ := dp_t (R1.vr.dp R1.s a)
    have e : xs.isEmpty = ds.isEmpty := by cases ha <;> rfl
    exact ⟨_, .inr (.inl ⟨xs, hs, rfl⟩), by rw [e]; exact k _ H1 δ1 R1.s.dropAll (R1.go.less ow_suf) p⟩
end
end Pl
set_option Elab.async false
set_option linter.all false
set_option maxRecDepth 100000
set_option maxHeartbeats 1000001
namespace Pl
open PySem L2 LamX NdefX PyProof.Rows GenW
/-- a def of the top by its name and its statement -/
abbrev DI := Str × Stmt
def DI.d (x : DI) : He.DefD := ⟨(x.1, none), x.1, x.1, defArgs x.2, defBody x.2, defScope x.2, [], []⟩
def isTab : Option Obj → Bool
  | some ⟨.none, none, .fields vs, sl⟩ => vs.isEmpty && sl.isEmpty
  | _ => false
theorem isTab_ok {o : Option Obj} (h : isTab o = true) : o = some (PySem.W.tabObj #[]) := by
  unfold isTab at h
  split at h
  · rename_i vs sl
    simp only [Bool.and_eq_true, Array.isEmpty_iff] at h
    obtain ⟨h1, h2⟩ := h
    subst h1 h2
    rfl
  · cases h
def tabOk (g : Addr → Option Obj) (K : PySem.W.Frag) (x : Str) : Bool := match PySem.W.tabIn K x with
  | some (c, P) => PySem.W.codeHdIn K c P && ((K.lookup P).isNone && (isTab (g P) && decide (P ≠ mainGlobals)))
  | none => false
def TabAt (K : PySem.W.Frag) (h : Heap) (x : Str) : Prop := ∃ c P, PySem.W.tabIn K x = some (c, P) ∧ PySem.W.CodeHd h c P ∧ K.lookup P = none ∧ h.get? P = some (PySem.W.tabObj #[]) ∧ P ≠ mainGlobals
theorem tabOk_ok {K : PySem.W.Frag} {h : Heap} {x : Str} (X : K.In h) (e : tabOk h.get? K x = true) : TabAt K h x := by
  unfold tabOk at e
  split at e
  · rename_i c P q
    simp only [Bool.and_eq_true, decide_eq_true_eq, Option.isNone_iff_eq_none] at e
    exact ⟨c, P, q, PySem.W.codeHd_of_K X e.1, e.2.1, isTab_ok e.2.2.1, e.2.2.2⟩
  · cases e
/-- a constant of the module -/
inductive Kc where
  | tup (x : Str) (zs : List Str)
  | str (x z : Str)
  | int (x : Str) (i : Int)
def Kc.fa : Kc → He.Fa
  | .tup x _ => .glo x
  | .str x z => .str x z
  | .int x i => .int x i
def Kc.chk (K : PySem.W.Frag) : Kc → Bool
  | .tup x zs => He.tupB K x (zs.map .str)
  | _ => true
def Kc.ok (K : PySem.W.Frag) (mg : Str → Option Value) : Kc → Prop
  | .tup x zs => mg x = some (.ref (He.ga K x)) ∧ Dp K N0 (.ref (He.ga K x)) (.tuple (zs.map .str))
  | .str x z => ∃ t, mg x = some (.str z t)
  | .int x i => ∃ t, mg x = some (.int i t)
theorem dv_strs {K : PySem.W.Frag} {H : Hp} : ∀ zs : List Str, DpAll K H ((zs.map He.Dv.str).map (He.Dv.v K)) (zs.map .str)
  | [] => .nil
  | z :: zs => .cons (.str z) (dv_strs zs)
def obsT (n : Nat) (fa : List He.Fa) (fn : List He.DefD) (ts : List Str) (cs : List Kc) (g : Addr → Option Obj) : He.AlD × Bool :=
  (He.obsD fa fn (He.frG g (He.asD g n)), ts.all (tabOk g (He.frG g (He.asD g n))) && cs.all (Kc.chk (He.frG g (He.asD g n))))
def hookT (n : Nat) (fa : List He.Fa) (fn : List He.DefD) (ts : List Str) (cs : List Kc) : PySem.W.Hook where
  α := He.AlD × Bool
  obs := fun s => obsT n fa fn ts cs s.heap.get?
  val := fun _ => (He.valD fn, true)
  says := fun _ h => ∃ K : PySem.W.Frag, K.In h ∧ He.SaysD fa fn K ∧ (∀ x ∈ ts, TabAt K h x) ∧ ∀ c ∈ cs, Kc.chk K c = true
  of := fun _ _ e => ⟨_, He.frG_in, (Prod.mk.inj e).1, fun x hx => tabOk_ok He.frG_in (List.all_eq_true.mp (He.ba (Prod.mk.inj e).2).1 x hx), fun c hc => List.all_eq_true.mp (He.ba (Prod.mk.inj e).2).2 c hc⟩
  keeps := fun _ _ _ ⟨K, hK, c, t, q⟩ k => ⟨K, PySem.W.Frag.In.keeps hK k, c, fun x hx => by
    obtain ⟨c, P, h1, h2, h3, h4, h5⟩ := t x hx
    exact ⟨c, P, h1, h2.keeps k, h3, k _ _ h4, h5⟩, q⟩
theorem obsT_eq {n : Nat} {fa : List He.Fa} {fn : List He.DefD} {ts : List Str} {cs : List Kc} {g : Addr → Option Obj} {s : Shared} (h : ∀ a, g a = s.heap.get? a) : obsT n fa fn ts cs g = (hookT n fa fn ts cs).obs s := by
  have e : g = s.heap.get? := funext h
  rw [e]
  rfl
theorem fun_of {K : PySem.W.Frag} {x q : Str} {st : Stmt} {f : Addr} {fd : FuncData} (F : FunD K x q (defArgs st) (defBody st) (defScope st) [] [] f fd) : Fun K x q st f fd := by
  obtain ⟨⟨oc, od, dV, kV, doc, pm, an, cdv, ct, osl, e, lk, hcd, hD, hK⟩, kp⟩ := F
  rcases hD with ⟨_, e2⟩ | ⟨e2, _⟩
  · rw [e2] at e
    exact ⟨⟨oc, od, kV, doc, pm, an, cdv, ct, osl, e, lk, hcd⟩, kp⟩
  · exact absurd rfl e2
/-- what a def's proof may lean on -/
structure Al (K : PySem.W.Frag) (mg : Str → Option Value) (base : Heap) (ds : List DI) (fr : List Str) (ts : List Str) (cs : List Kc) : Prop where
  df : ∀ d ∈ ds, mg d.1 = some (.ref (He.ga K d.1)) ∧ ∃ fd, Fun K d.1 d.1 d.2 (He.ga K d.1) fd
  fr : ∀ x ∈ fr, mg x = none
  tb : ∀ x ∈ ts, ∃ c P, PySem.W.tabIn K x = some (c, P) ∧ TabB base mg c P
  cs : ∀ c ∈ cs, c.ok K mg
/-- a def that keeps its promise -/
def Ok (P : Program) (w : World) (K : PySem.W.Frag) (mg : Str → Option Value) (base : Heap) (k : Nat) (x : Str) (ps : List Str) (sp : Sp) : Prop :=
  ∃ fd, (∃ st, Fun K x x st (He.ga K x) fd) ∧ FnOk P w K mg base CX0 k (He.ga K x) fd ps sp ∧ mg x = some (.ref (He.ga K x)) ∧ PySem.W.keepIn K (.ref (He.ga K x)) = true ∧ Binds K fd ps []
section
variable {P : Program} {w : World} {K : PySem.W.Frag} {mg : Str → Option Value} {base : Heap} {T : List NTab} {ds : List DI} {fr ts : List Str} {cs : List Kc}
abbrev BindsBy (st : Stmt) (x : Str) (ps : List Str) : Prop := ∀ (kV doc pm : Value) (an : Option Addr) (cdv ct : Value) (us : List Value), us.length = ps.length → bindArgs (PySem.W.fnOf x x (defArgs st) (defBody st) (defScope st) .none kV doc pm an cdv ct) ⟨us, []⟩ = pure (ps.zip us)
/-- THE RULE for a def of the top -/
theorem ok_of (c : Al K mg base ds fr ts cs) {x : Str} {st : Stmt} {N ps : List Str} {k : Nat} {F : FS} (hm : (x, st) ∈ ds) (bd : BindsBy st x ps) (Sc : FnScope N ps (defScope st)) (len : ∀ as Q, F as Q → as.length = ps.length)
    (body : ∀ (f : Addr) (cdv : Value) (A : Around) (outer : List Env) (s : Shared) (H : Hp) (E : XK), Room k (A.deeper (envOfC x (defScope st) s.heap.objs.size f cdv)) → ∀ (as : List Ar) (Q : R → List OV → Prop) (qs : List Addr), F as Q → qs.length = owns as →
      ∃ t, PSs (cxOf CX0 P w K mg base N x (defScope st) f cdv A outer s H E).nox (defBody st) t ∧
        Ss K T t (slotsOf as qs ++ List.replicate (N.length - as.length) .no) { nx := fun δ' => ∃ us, Fin as qs δ' us ∧ Q (.val .none) us, rt := fun r δ' => ∃ us r', Fin as qs δ' us ∧ RetR as.length δ' r r' ∧ Q r' us }) :
    Ok P w K mg base (k + 1) x ps (spOf K T F) := by
  obtain ⟨g, fd, Fn⟩ := c.df (x, st) hm
  exact ⟨fd, ⟨st, Fn⟩, fs_ok Fn Sc len (fun cdv A outer s H E hr => body _ cdv A outer s H E hr), g, Fn.kp, Fn.binds bd⟩
variable {X : Cx} {x : Str} {ps : List Str} {k : Nat} {sp : Sp} {sg : SpG} {p pos : Pos} {e : Expr} {es : List Expr} {t : TA}
theorem pe_f (h : Ok X.prog X.w X.K X.mg X.base k x ps sp) (hr : Room k X.A) (hg : Gl X x) (ha : PA X (e :: es) t) (hdb : (x == ("__debug__" : Str)) = false := by decide) (he : starEach (e :: es) X.env = (false, eval e X.env) :: starEach es X.env := by rfl) (hpl : (backTo pos (starEach es X.env)).any (·.1) = false := by rfl) :
    PE X (.Call (.Name x p) (e :: es) [] pos) (tCall sp [] E0 t) := by
  obtain ⟨fd, _, h1, h2, h3, h4⟩ := h
  exact pe_call h1 hr hg h2 h3 h4 .nil pass0 ha hdb he hpl
theorem pe_f0 (h : Ok X.prog X.w X.K X.mg X.base k x ps sp) (hr : Room k X.A) (hg : Gl X x) (hdb : (x == ("__debug__" : Str)) = false := by decide) :
    PE X (.Call (.Name x p) [] [] pos) (tCall sp [] E0 tNil) := by
  obtain ⟨fd, _, h1, h2, h3, h4⟩ := h
  exact pe_call0 h1 hr hg h2 h3 h4 .nil pass0 hdb
end
theorem tabs_new {K : PySem.W.Frag} {H : Hp} {T : List NTab} (h : ∀ p ∈ T, H p.1 = some (.tbl #[])) : TabsN T H := fun p hp =>
  ⟨#[], h p hp, trivial, fun pos cv hc => by cases hc⟩
/-- the tables of these defs -/
def tabsOf (K : PySem.W.Frag) (ts : List (Str × (Nat → Nat → Str))) : List NTab := ts.map fun x => (((PySem.W.tabIn K x.1).getD (0, 0)).2, x.2)
theorem sp_law {K : PySem.W.Frag} {T : List NTab} {F : FS} {ns : List Int} {a : Addr} {H : Hp} (hT : TabsN T H) (hS : SqL K H a (ns.map V.int)) (hF : F [.val (.list (ns.map .int))] fun r _ => r = .val (.bool true)) :
    spOf K T F [.ref a] H (fun v _ => v = .bl true) fun _ _ _ => False := by
  refine ⟨[], [], [.val (.list (ns.map .int))], _, List.nodup_nil, hT, ⟨.lst ?_ da_ofInts, trivial⟩, (fun q hq => by cases hq), hF, fun v H' r us _ _ af e => ?_⟩
  · rcases hS with (h | ⟨o, h⟩) | h
    · exact .inl (.inl (dl_of h (by simp)))
    · exact .inl (.inr ⟨o, dl_of h (by simp)⟩)
    · exact .inr h
  · subst e
    have h : Dp K _ v _ := af.res
    cases h
    rfl
theorem walk_end {l : PySem.W.OpenLaw} {k n m : Nat} {q : Program} {loose : List Str} {XP : (Str → Option Value) → Heap → Prop} {d : DefRec} {fr : List Str} {ds : List DI} {fa : List He.Fa} {ts : List (Str × (Nat → Nat → Str))} {cs : List Kc} {F : FS} {st : Stmt}
    (hn : l.most = some n) (hn2 : n ≤ sizeLine) (hdf : d.params.defaults = []) (hr : Room k callerA) (hfa : fa = ds.map (fun x => .glo x.1) ++ fr.map .free ++ cs.map Kc.fa) (hdn : d.name = ("law" : Str)) (hl : (("law" : Str), st) ∈ ds) (bd : BindsBy st "law" ["script"])
    (ok : ∀ (w : World) (mg : Str → Option Value) (base : Heap) (K : PySem.W.Frag), Al K mg base ds fr (ts.map (·.1)) cs → (∀ x ∈ ds, PySem.W.nsIn K mainGlobals x.1 = some (some (.ref (He.ga K x.1)))) → Ok l.prog w K mg base k "law" ["script"] (spOf K (tabsOf K ts) F))
    (hF : ∀ ns : List Int, ns.length ≤ n → (∀ z ∈ ns, Builtin.Int.intBits z ≤ 1048576) → F [.val (.list (ns.map .int))] fun r _ => r = .val (.bool true)) :
    PySem.W.WalkO q loose XP (hookT m fa (ds.map DI.d) (ts.map (·.1)) cs).says l.row.toRowW d [] (fun f vs => PySem.call f vs) := by
  refine walk_ofTsE (k := k) (x := "script") (CX := fun _ => CX0) hn hn2 hdf hr (fun w mg f h Y G hmg => ?_) (fun _ _ _ _ _ z => z)
  obtain ⟨K, KX, c, tb, kc⟩ := Y
  have glo : ∀ x ∈ ds, PySem.W.nsIn K mainGlobals x.1 = some (some (.ref (He.ga K x.1))) := fun x hx => by
    have hm : He.Fa.glo x.1 ∈ fa := by rw [hfa]; exact List.mem_append_left _ (List.mem_append_left _ (List.mem_map.mpr ⟨x, hx, rfl⟩))
    obtain ⟨i, hi⟩ := List.mem_iff_getElem?.mp hm
    exact He.eqO_ok (c.fact i hi)
  have free : ∀ x ∈ fr, PySem.W.nsIn K mainGlobals x = some none := fun x hx => by
    have hm : He.Fa.free x ∈ fa := by rw [hfa]; exact List.mem_append_left _ (List.mem_append_right _ (List.mem_map.mpr ⟨x, hx, rfl⟩))
    obtain ⟨i, hi⟩ := List.mem_iff_getElem?.mp hm
    exact He.eqO_ok (c.fact i hi)
  have consts : ∀ (mg2 : Str → Option Value) (base : Heap), K.In base → base.Ns mainGlobals mg2 → ∀ y ∈ cs, y.ok K mg2 := fun mg2 base KB GB y hy => by
    have hm : y.fa ∈ fa := by rw [hfa]; exact List.mem_append_right _ (List.mem_map.mpr ⟨y, hy, rfl⟩)
    obtain ⟨i, hi⟩ := List.mem_iff_getElem?.mp hm
    have q := c.fact i hi
    cases y with
    | tup x zs => exact ⟨He.glo_ok KB GB q, .tup (He.tupB_ok (kc _ hy) N0) (dv_strs zs)⟩
    | str x z => exact He.str_ok KB GB q
    | int x j => exact He.int_ok KB GB q
  have funs : ∀ x ∈ ds, ∃ fd, Fun K x.1 x.1 x.2 (He.ga K x.1) fd := fun x hx => by
    have hm : x.d ∈ ds.map DI.d := List.mem_map.mpr ⟨x, hx, rfl⟩
    obtain ⟨i, hi⟩ := List.mem_iff_getElem?.mp hm
    obtain ⟨fd, F⟩ := c.def_ i hi
    exact ⟨fd, fun_of F⟩
  have eL := PySem.W.mg_of KX G (glo _ hl)
  rw [hdn] at hmg
  have ef : f = He.ga K "law" := by
    have e := hmg.symm.trans eL
    cases e
    rfl
  subst ef
  obtain ⟨fd, FL⟩ := funs _ hl
  have tabs : ∀ p ∈ tabsOf K ts, ∃ x ∈ ts, ∃ c, PySem.W.tabIn K x.1 = some (c, p.1) ∧ PySem.W.CodeHd h c p.1 ∧ K.lookup p.1 = none ∧ h.get? p.1 = some (PySem.W.tabObj #[]) ∧ p.1 ≠ mainGlobals := fun p hp => by
    obtain ⟨x, hx, e⟩ := List.mem_map.mp hp
    obtain ⟨c, P, h1, h2⟩ := tb x.1 (List.mem_map.mpr ⟨x, hx, rfl⟩)
    subst e
    refine ⟨x, hx, c, ?_⟩
    simp only [h1, Option.getD_some]
    exact ⟨trivial, h2⟩
  refine ⟨K, KX, fd, ts.map (fun x => (PySem.W.tabIn K x.1).getD (0, 0)), spOf K (tabsOf K ts) F, ?_, ?_, ?_, fun s u => ?_, fun H a ns hlen hb hT hS => ?_, fun base KB GB TB => ?_⟩
  · intro p hp
    obtain ⟨x, hx, rfl⟩ := List.mem_map.mp hp
    obtain ⟨c, P, h1, h2, h3, h4, h5⟩ := tb x.1 (List.mem_map.mpr ⟨x, hx, rfl⟩)
    simp only [h1, Option.getD_some]
    exact h4
  · intro p hp
    obtain ⟨x, hx, rfl⟩ := List.mem_map.mp hp
    obtain ⟨c, P, h1, h2, h3, h4, h5⟩ := tb x.1 (List.mem_map.mpr ⟨x, hx, rfl⟩)
    simp only [h1, Option.getD_some]
    exact h3
  · intro p hp
    obtain ⟨x, hx, rfl⟩ := List.mem_map.mp hp
    obtain ⟨c, P, h1, h2, h3, h4, h5⟩ := tb x.1 (List.mem_map.mpr ⟨x, hx, rfl⟩)
    simp only [h1, Option.getD_some]
    exact h2
  · obtain ⟨oc, od, kV, doc, pm, an, cdv, ct, osl, rfl, lk, hcd⟩ := FL.ex
    exact .of_eq (bd kV doc pm an cdv ct [u] rfl)
  · refine sp_law (tabs_new (K := K) fun p hp => ?_) hS (hF ns hlen hb)
    obtain ⟨x, hx, rfl⟩ := List.mem_map.mp hp
    exact hT _ (List.mem_map.mpr ⟨x, hx, rfl⟩)
  · obtain ⟨fd2, ⟨st2, FL2⟩, h1, h2, h3, h4⟩ := ok w mg base K ⟨fun x hx => ⟨PySem.W.mg_of KB GB (glo x hx), funs x hx⟩, fun x hx => PySem.W.mg_none_of KB GB (free x hx), fun x hx => by
      obtain ⟨y, hy, rfl⟩ := List.mem_map.mp hx
      obtain ⟨c, P, q1, q2⟩ := tb y.1 hx
      refine ⟨c, P, q1, ?_⟩
      have := TB _ (List.mem_map.mpr ⟨y, hy, rfl⟩)
      simpa only [q1, Option.getD_some] using this, fun y hy => consts mg base KB GB y hy⟩ glo
    obtain ⟨oc, od, kV, doc, pm, an, cdv, ct, osl, e1, lk, hcd⟩ := FL.ex
    obtain ⟨oc2, od2, kV2, doc2, pm2, an2, cdv2, ct2, osl2, e12, lk2, hcd2⟩ := FL2.ex
    rw [lk] at lk2
    cases lk2
    exact h1
end Pl
set_option Elab.async false
set_option linter.all false
set_option maxRecDepth 100000
set_option maxHeartbeats 1000001
namespace Pl
open PySem L2 LamX NdefX PyProof.Rows GenW
section
variable {K : PySem.W.Frag} {T : List NTab} {w : World} {B B' B1 : Lo} {A A0 : List Addr} {H0 H H' : Hp} {σ : L2.St} {δ δ' : List Sl} {v : V} {r : R} {E : Es} {te ta tb ty tv : TE} {tt t1 t2 : TT} {ts t u : TS} {g : TG} {P : R → List Sl → Prop}
theorem st_v {i : Nat} {d : D} {N : List Sl → Prop} (e : δ.set i (.val d) = δ') (h : N δ') : StoreR i δ N (.val d) := by
  subst e
  exact h
theorem st_n {i : Nat} {u : OV} {N : List Sl → Prop} {f : Addr → List Sl} (hl : i < δ.length) (e : ∀ p, δ.set i (.own p u) = f p) (h : ∀ p, N (f p)) : StoreR i δ N (.new u) :=
  ⟨hl, fun p => by rw [e p]; exact h p⟩
theorem et_not' {P' : Bool → List Sl → Prop} (h : ExT K T t1 δ fun b δ1 => P' (!b) δ1) : ExT K T (tNot t1) δ P' := fun B H σ s Q k => h B H σ s _ fun b H1 δ1 s1 g1 p => k _ H1 δ1 s1 g1 p
end
end Pl
set_option Elab.async false
set_option linter.all false
set_option maxRecDepth 100000
set_option maxHeartbeats 1000001
namespace Pl
open PySem L2 LamX NdefX PyProof.Rows GenW PySem.W
end Pl
set_option Elab.async false
set_option linter.all false
set_option maxRecDepth 100000
set_option maxHeartbeats 1000001
namespace Pl
open PySem L2 LamX NdefX PyProof.Rows GenW PySem.W
def insA (x : Int) : List Int → List Int
  | [] => [x]
  | y :: l => if x < y then x :: y :: l else if x = y then y :: l else y :: insA x l
def asc : List Int → List Int
  | [] => []
  | x :: l => insA x (asc l)
/-- the lowest place that is set -/
theorem low_ex : ∀ n : Nat, 0 < n → ∃ k, n.testBit k = true ∧ ∀ j < k, n.testBit j = false := by
  intro n
  induction n using Nat.strongRecOn with
  | ind n ih =>
    intro hn
    by_cases h : n % 2 = 1
    · exact ⟨0, by simp [Nat.testBit_zero, h], fun j hj => absurd hj (Nat.not_lt_zero _)⟩
    · obtain ⟨k, h1, h2⟩ := ih (n / 2) (by omega) (by omega)
      refine ⟨k + 1, by rw [Nat.testBit_succ]; exact h1, fun j hj => ?_⟩
      cases j with
      | zero => simp [Nat.testBit_zero, h]
      | succ j => rw [Nat.testBit_succ]; exact h2 j (by omega)
noncomputable def low (n : Nat) : Nat := if h : 0 < n then (low_ex n h).choose else 0
end Pl
set_option Elab.async false
set_option linter.all false
set_option maxRecDepth 100000
set_option maxHeartbeats 1000001
namespace Pl
open PySem L2 LamX NdefX PyProof.Rows GenW
section
variable {X : Cx} {K0 : PySem.W.Frag}
theorem pi_listK {tg l : Expr} {tl : TE} (hl : PE X l tl) (e : X.K = K0 := by rfl) : PI X tg l (iList K0 tl) := e ▸ pi_list hl
theorem pi_tupK {tg l : Expr} {tl : TE} (hl : PE X l tl) (e : X.K = K0 := by rfl) : PI X tg l (iTup K0 tl) := e ▸ pi_tup hl
theorem pe_bmK {o e : Expr} {es : List Expr} {to : TE} {t : TA} {name : Str} {apos cpos : Pos} {T id : String} {r : V → List V → Hp → VK → Prop} (pa : PlainAttrs T) (slot : Slot T name id) (hty : typeOf (.builtin id) = pure (.type "method_descriptor")) (hm : MtR X id r) (ho : PE X o to) (ha : PA X (e :: es) t)
    (ek : X.K = K0 := by rfl) (h1 : attributeBase o name X.env (eval o X.env) = eval o X.env := by rfl)
    (h2 : ((backTo cpos (starEach (e :: es) X.env)).all (fun x => !x.1) && (backToKw cpos (keywordEach [] X.env)).all (fun x => x.1.isSome) && decide ((e :: es).length + ([] : List Keyword).length + (if ([] : List Keyword).isEmpty then 0 else 1) < 30)) = true := by rfl) (h3 : (apos.endLine == cpos.line) = true := by rfl)
    (h4 : starEach (e :: es) X.env = (false, eval e X.env) :: starEach es X.env := by rfl) (h5 : (backTo cpos (starEach es X.env)).any (·.1) = false := by rfl) : PE X (.Call (.Attribute o name apos) (e :: es) [] cpos) (tBM K0 T r to t) := ek ▸ pe_bm pa slot hty hm ho ha h1 h2 h3 h4 h5
theorem pe_bm0K {o : Expr} {to : TE} {name : Str} {apos cpos : Pos} {T id : String} {r : V → List V → Hp → VK → Prop} (pa : PlainAttrs T) (slot : Slot T name id) (hty : typeOf (.builtin id) = pure (.type "method_descriptor")) (hm : MtR X id r) (ho : PE X o to)
    (ek : X.K = K0 := by rfl) (h1 : attributeBase o name X.env (eval o X.env) = eval o X.env := by rfl) (h3 : (apos.endLine == cpos.line) = true := by rfl) : PE X (.Call (.Attribute o name apos) [] [] cpos) (tBM0 K0 T r to) := ek ▸ pe_bm0 pa slot hty hm ho h1 h3
theorem pt_truthK {a : Expr} {ta : TE} (ha : PE X a ta) (he : ∀ whole, isTrue a X.env whole = (do let v ← whole; standAt a.pos; holding [v] (truthy v))) (ek : X.K = K0 := by rfl) : PT X a (fun σ H Q => ta σ H fun x H' => ∃ k, TruV K0 x H' k ∧ Q k H') := ek ▸ pt_truth ha he
end
end Pl
set_option Elab.async false
set_option linter.all false
set_option maxRecDepth 100000
set_option maxHeartbeats 1000001
namespace Pl
open PySem L2 LamX NdefX PyProof.Rows GenW
section
variable {K : PySem.W.Frag} {T : List NTab} {w : World} {B B' B1 : Lo} {A A0 : List Addr} {H0 H H' : Hp} {σ : L2.St} {δ δ' : List Sl} {v : V} {r : R} {E : Es} {te ta tb tc ty tv : TE} {tt t1 t2 : TT} {ts t u : TS} {g : TG} {P : R → List Sl → Prop}
abbrev rAddT : R2 := fun x y H Q => ∃ i j, x = .str i ∧ y = .str j ∧ i.length + j.length ≤ sizeLine ∧ Q (.str (i ++ j)) H
theorem opd_addS {x y : Str} {P : R → Prop} (hl : x.length + y.length ≤ 100000) (p : P (.val (.str (x ++ y)))) : OpD K rAddT (.str x) (.str y) P := fun H v w Q h1 h2 o => by
  cases h1; cases h2
  exact ⟨x, y, rfl, rfl, Nat.le_trans hl (by decide), o.val _ _ (.str _) p⟩
abbrev rInSg : R2 := fun x y H Q => ∃ (c : Nat) (z : Str), x = .str ⟨#[c]⟩ ∧ y = .str z ∧ Q (.bl (decide (c ∈ z.cps.toList))) H
abbrev rNiSg : R2 := fun x y H Q => ∃ (c : Nat) (z : Str), x = .str ⟨#[c]⟩ ∧ y = .str z ∧ Q (.bl (!decide (c ∈ z.cps.toList))) H
theorem opd_inSg {c : Nat} {z : Str} {P : R → Prop} (p : P (.val (.bool (decide (c ∈ z.cps.toList))))) : OpD K rInSg (.str ⟨#[c]⟩) (.str z) P := fun H v w Q h1 h2 o => by
  cases h1; cases h2
  exact ⟨c, z, rfl, rfl, o.val _ _ (.bl _) p⟩
theorem opd_niSg {c : Nat} {z : Str} {P : R → Prop} (p : P (.val (.bool (!decide (c ∈ z.cps.toList))))) : OpD K rNiSg (.str ⟨#[c]⟩) (.str z) P := fun H v w Q h1 h2 o => by
  cases h1; cases h2
  exact ⟨c, z, rfl, rfl, o.val _ _ (.bl _) p⟩
theorem opd_eqS {x y : Str} {P : R → Prop} (p : P (.val (.bool (decide (x = y))))) : OpD K rEq (.str x) (.str y) P := fun H v w Q h1 h2 o => by
  cases h1; cases h2
  refine ⟨rfl, ?_⟩
  have e : decide (V.str x = V.str y) = decide (x = y) := by
    by_cases h : x = y
    · subst h; simp
    · simp [h]
  rw [e]
  exact o.val _ _ (.bl _) p
theorem opd_neS {x y : Str} {P : R → Prop} (p : P (.val (.bool (!decide (x = y))))) : OpD K rNe (.str x) (.str y) P := fun H v w Q h1 h2 o => by
  cases h1; cases h2
  refine ⟨rfl, ?_⟩
  have e : decide (V.str x = V.str y) = decide (x = y) := by
    by_cases h : x = y
    · subst h; simp
    · simp [h]
  rw [e]
  exact o.val _ _ (.bl _) p
theorem opd_eqB {x y : Bool} {P : R → Prop} (p : P (.val (.bool (decide (x = y))))) : OpD K rEq (.bool x) (.bool y) P := fun H v w Q h1 h2 o => by
  cases h1; cases h2
  refine ⟨rfl, ?_⟩
  have e : decide (V.bl x = V.bl y) = decide (x = y) := by
    cases x <;> cases y <;> rfl
  rw [e]
  exact o.val _ _ (.bl _) p
theorem da_strs : ∀ {vs : List V} {ns : List Str}, DpAll K H vs (ns.map .str) → vs = ns.map V.str
  | _, [], h => by cases h; rfl
  | _, n :: ns, h => by
    have h : DpAll K H _ (.str n :: ns.map .str) := h
    cases h with
    | cons h1 h2 =>
      cases h1
      rw [da_strs h2]
      rfl
theorem imm_strs : ∀ ns : List Str, immAll (ns.map .str) = true
  | [] => rfl
  | n :: ns => by
    show (imm (.str n) && immAll (ns.map .str)) = true
    rw [imm_strs ns]
    rfl
theorem inV_strs {x : Str} : ∀ ns : List Str, inV (.str x) (ns.map V.str) = decide (x ∈ ns)
  | [] => by simp [inV]
  | n :: ns => by
    show (eqV (.str n) (.str x) || inV (.str x) (ns.map V.str)) = _
    rw [inV_strs ns]
    show ((n == x) || decide (x ∈ ns)) = _
    by_cases hx : x = n
    · subst hx; simp
    · have : ¬ n = x := fun z => hx z.symm
      simp [hx, this]
theorem flat_strs : ∀ ns : List Str, (ns.map V.str).all flatV = true
  | [] => rfl
  | _ :: ns => flat_strs ns
theorem opd_inSL {x : Str} {ns : List Str} {P : R → Prop} (p : P (.val (.bool (decide (x ∈ ns))))) : OpD K (rIn K false) (.str x) (.list (ns.map .str)) P := fun H v w Q h1 h2 o => by
  cases h1
  obtain ⟨a, xs, rfl, hs, ha⟩ := dp_l h2
  rw [da_strs ha] at hs
  refine ⟨a, _, rfl, .inl hs, rfl, flat_strs ns, ?_⟩
  rw [if_neg Bool.false_ne_true, inV_strs]
  exact o.val _ _ (.bl _) p
theorem opd_inST {x : Str} {ns : List Str} {P : R → Prop} (p : P (.val (.bool (decide (x ∈ ns))))) : OpD K (rIn K false) (.str x) (.tuple (ns.map .str)) P := fun H v w Q h1 h2 o => by
  cases h1
  obtain ⟨a, xs, rfl, hs, ha⟩ := dp_t h2
  rw [da_strs ha] at hs
  refine ⟨a, _, rfl, .inr hs, rfl, flat_strs ns, ?_⟩
  rw [if_neg Bool.false_ne_true, inV_strs]
  exact o.val _ _ (.bl _) p
theorem cb_lenS {x : Str} {P : R → Prop} (hl : x.length ≤ 1000000) (p : P (.val (.int x.length))) : CbD K (rLen K) [.str x] P := fun H vs Q h o => by
  obtain ⟨v, rfl, h1⟩ := da_1 h
  cases h1
  exact ⟨_, x.length, rfl, ⟨Nat.le_trans hl (by decide), rfl⟩, o.val _ _ (.int _) p⟩
theorem cb_all {bs : List Bool} {P : R → Prop} (p : P (.val (.bool (bs.all id)))) : CbD K (rAll K) [.list (bs.map .bool)] P := fun H vs Q h o => by
  obtain ⟨v, rfl, h1⟩ := da_1 h
  obtain ⟨a, xs, rfl, hs, ha⟩ := dp_l h1
  rw [da_bools ha] at hs
  exact ⟨a, bs, rfl, hs, o.val _ _ (.bl _) p⟩
/-- s[i] -/
theorem ex_ixS (h : Ex K T ta δ fun r1 δ1 => Ex K T tb δ1 fun r2 δ2 => ∃ (x : Str) (i : Int) (c : Nat), r1 = .val (.str x) ∧ AsD δ2 r2 (.int i) ∧ x.length ≤ 1000000 ∧ atI x.cps.toList i = some c ∧ P (.val (.str ⟨#[c]⟩)) δ2) : Ex K T (tOp rIxS ta tb) δ P := ex_op (h.imp fun r1 δ1 h => h.imp fun r2 δ2 ⟨x, i, c, e1, a, hl, e, p⟩ =>
  ⟨.str x, .int i, by subst e1; rfl, a, fun H v w Q h1 h2 o => by
    cases h1; cases h2
    exact ⟨x, i, c, rfl, rfl, Nat.le_trans hl (by decide), e, o.val _ _ (.str _) p⟩⟩)
def noneD : D → Bool
  | .none => true
  | _ => false
theorem none_v {d : D} (h : Dp K H v d) : decide (v = V.non) = noneD d := by
  cases h <;> simp [noneD]
/-- x is None, x is not None -/
theorem ex_isN (h : Ex K T te δ fun r δ1 => ∃ d, AsD δ1 r d ∧ P (.val (.bool (noneD d))) δ1) : Ex K T (tIsN te) δ P := fun B H σ s Q k =>
  h B H σ s _ fun v H1 r δ1 B1 R1 ⟨d, e, p⟩ => by
    obtain ⟨C, rfl⟩ := R1.bx.suf
    show Q (.bl (decide (v = .non))) H1
    rw [none_v (R1.vr.dp R1.s e)]
    exact (out_suf (P := P) R1.s R1.go k).val _ _ (.bl _) p
/-- a op b op c of ints -/
theorem ex_chI {g g' : Int → Int → V} (h : Ex K T ta δ fun r1 δ1 => Ex K T tb δ1 fun r2 δ2 => ∃ (i j : Int) (b : Bool), r1 = .val (.int i) ∧ r2 = .val (.int j) ∧ g i j = .bl b ∧
      if b = true then Ex K T tc δ2 fun r3 δ3 => ∃ (m : Int) (b2 : Bool), r3 = .val (.int m) ∧ g' j m = .bl b2 ∧ P (.val (.bool b2)) δ3 else P (.val (.bool false)) δ2) : Ex K T (tChain (rI0 g) (rI0 g') ta tb tc) δ P := fun B H σ s Q k =>
  h B H σ s _ fun v H1 r1 δ1 B1 R1 h1 => h1 B1 H1 σ R1.s _ fun w H2 r2 δ2 B2 R2 ⟨i, j, b, e1, e2, e3, q⟩ => by
    subst e1 e2
    have b1 : B1 = B := R1.bx
    subst b1
    have b2 : B2 = B1 := R2.bx
    subst b2
    have hv : Dp K _ v (.int i) := R1.vr
    have hw : Dp K _ w (.int j) := R2.vr
    cases hv; cases hw
    refine ⟨i, j, rfl, rfl, b, e3, ?_⟩
    cases b with
    | true =>
      rw [if_pos rfl] at q ⊢
      refine q _ H2 σ R2.s _ fun u H3 r3 δ3 B3 R3 ⟨m, c, e4, e5, p⟩ => ?_
      subst e4
      have b3 : B3 = B2 := R3.bx
      subst b3
      have hu : Dp K _ u (.int m) := R3.vr
      cases hu
      refine ⟨j, m, rfl, rfl, ?_⟩
      rw [e5]
      exact k _ H3 (.val (.bool c)) δ3 _ ⟨R3.s, (R1.go.trans R2.go).trans R3.go, .bl _, rfl⟩ p
    | false =>
      rw [if_neg Bool.false_ne_true] at q ⊢
      exact k _ H2 (.val (.bool false)) δ2 _ ⟨R2.s, R1.go.trans R2.go, .bl _, rfl⟩ q
/-- f'..' -/
def ExJ (K : PySem.W.Frag) (T : List NTab) : List TE → Str → List Sl → (R → List Sl → Prop) → Prop
  | [], acc, δ, P => P (.val (.str acc)) δ
  | t :: ts, acc, δ, P => Ex K T t δ fun r δ1 => ∃ y, r = .val (.str y) ∧ (acc ++ y).length ≤ 1000000 ∧ ExJ K T ts (acc ++ y) δ1 P
theorem exj_run : ∀ {l : List TE} {acc : Str} {δ : List Sl} {A0 : List Addr} {H0 : Hp}, ExJ K T l acc δ P → ∀ (B : Lo) (H : Hp) (σ : L2.St), S K T B H σ δ → Go A0 (ow δ B) H0 H → ∀ Q : Str → Hp → Prop,
    (∀ x H' δ', S K T B H' σ δ' → Go A0 (ow δ' B) H0 H' → P (.val (.str x)) δ' → Q x H') → tJs l acc σ H Q
  | [], acc, δ, A0, H0, h, B, H, σ, s, g, Q, k => k acc H δ s g h
  | t :: ts, acc, δ, A0, H0, h, B, H, σ, s, g, Q, k => h B H σ s _ fun v H1 r δ1 B1 R1 ⟨y, e, hl, h1⟩ => by
    subst e
    have b1 : B1 = B := R1.bx
    subst b1
    have hv : Dp K _ v (.str y) := R1.vr
    cases hv
    exact ⟨y, rfl, Nat.le_trans hl (by decide), exj_run h1 _ H1 σ R1.s (g.trans R1.go) Q k⟩
theorem ex_joined {l : List TE} (h : ExJ K T l Str.empty δ P) : Ex K T (fun σ H Q => tJs l Str.empty σ H fun out H1 => Q (.str out) H1) δ P := fun B H σ s Q k =>
  exj_run h B H σ s .refl _ fun x H' δ' s' g' p => k _ H' (.val (.str x)) δ' B ⟨s', g', .str _, rfl⟩ p
theorem ex_fmt (h : Ex K T te δ fun r δ1 => ∃ y, r = .val (.str y) ∧ y.length ≤ 1000000 ∧ P r δ1) : Ex K T (tFmt te) δ P := fun B H σ s Q k =>
  h B H σ s _ fun v H1 r δ1 B1 R1 ⟨y, e, hl, p⟩ => by
    subst e
    have hv : Dp K _ v (.str y) := R1.vr
    have R2 := R1
    cases hv
    exact .inl ⟨y, rfl, Nat.le_trans hl (by decide), k _ H1 _ δ1 B1 R2 p⟩
/-- s.join(xs) -/
abbrev rJoin (K : PySem.W.Frag) : V → List V → Hp → VK → Prop := fun x xs H Q => ∃ a p, ∃ ys : List Str, x = .str a ∧ xs = [.ref p] ∧ (SqL K H p (ys.map V.str) ∨ SqT K H p (ys.map V.str)) ∧
      (ys.map (·.length)).sum + ys.length * a.length ≤ 16777216 ∧ Q (.str (Txt.join a ys)) H
theorem ex_join (h : Ex K T ta δ fun r1 δ1 => ∃ a, r1 = .val (.str a) ∧ Ex K T tb δ1 fun r2 δ2 => ∃ ys : List Str, AsD δ2 r2 (.list (ys.map .str)) ∧ (ys.map (·.length)).sum + ys.length * a.length ≤ 16777216 ∧ P (.val (.str (Txt.join a ys))) δ2) :
    Ex K T (tM1 (rJoin K) ta tb) δ P := fun B H σ s Q k =>
  h B H σ s _ fun v H1 r1 δ1 B1 R1 ⟨a, e, h1⟩ => by
    subst e
    have b1 : B1 = B := R1.bx
    subst b1
    have hv : Dp K _ v (.str a) := R1.vr
    cases hv
    refine ⟨⟨a, rfl⟩, h1 _ H1 σ R1.s _ fun w H2 r2 δ2 B2 R2 ⟨ys, a2, hl, p⟩ => ?_⟩
    obtain ⟨C, rfl⟩ := R2.bx.suf
    obtain ⟨b, xs, rfl, hs, ha⟩ := dp_l (R2.vr.dp R2.s a2)
    rw [da_strs ha] at hs
    exact ⟨a, b, ys, rfl, rfl, .inl hs, hl, (out_suf (P := P) R2.s (R1.go.trans R2.go) k).val _ _ (.str _) p⟩
/-- s[lo:hi] -/
theorem ex_slS {tl th : TO} (h : Ex K T te δ fun r δ1 => ExO K T tl δ1 fun lo δ2 => ExO K T th δ2 fun hi δ3 => ∃ x, r = .val (.str x) ∧ x.length ≤ 1000000 ∧ P (.val (.str (cutS x lo hi))) δ3) : Ex K T (tSl rSlS te tl th) δ P := fun B H σ s Q k =>
  h B H σ s _ fun v H1 r δ1 B1 R1 h1 => h1 B1 H1 σ R1.s _ fun lo H2 δ2 s2 g2 h2 => h2 B1 H2 σ s2 _ fun hi H3 δ3 s3 g3 ⟨x, e, hl, p⟩ => by
    subst e
    have b1 : B1 = B := R1.bx
    subst b1
    have hv : Dp K _ v (.str x) := R1.vr
    cases hv
    exact ⟨x, rfl, Nat.le_trans hl (by decide), k _ H3 (.val (.str _)) δ3 _ ⟨s3, (R1.go.trans g2).trans g3, .str _, rfl⟩ p⟩
/-- t[lo:hi], t a tuple, not the whole -/
theorem ex_slT {tl th : TO} (h : Ex K T te δ fun r δ1 => ExO K T tl δ1 fun lo δ2 => ExO K T th δ2 fun hi δ3 => ∃ ds, r = .val (.tuple ds) ∧ ¬ (HT.sIx ds.length 0 lo = 0 ∧ HT.sIx ds.length ds.length hi = ds.length) ∧ P (.val (.tuple (cutD ds lo hi))) δ3) : Ex K T (tSl (rSlT K) te tl th) δ P := fun B H σ s Q k =>
  h B H σ s _ fun v H1 r δ1 B1 R1 h1 => h1 B1 H1 σ R1.s _ fun lo H2 δ2 s2 g2 h2 => h2 B1 H2 σ s2 _ fun hi H3 δ3 s3 g3 ⟨ds, e, hn, p⟩ => by
    subst e
    have b1 : B1 = B := R1.bx
    subst b1
    have hv : Dp K _ v (.tuple ds) := R1.vr
    obtain ⟨b, xs, rfl, hs, ha⟩ := dp_t (dp_mono (g2.trans g3).rk _ _ hv)
    refine ⟨b, xs, rfl, dl_rk.sqT hs, by rw [da_len ha]; exact hn, fun q hq => ?_⟩
    refine k _ _ (.val (.tuple (cutD ds lo hi))) δ3 _ ⟨s3.laid hq, ((R1.go.trans g2).trans g3).trans (go_upd hq), ?_, rfl⟩ p
    exact .tup (.inl (.inl (dl_of upd_same (s3.free hq)))) (da_mono (go_upd hq).rk _ _ (da_cut ha))
theorem ow_no {i : Nat} {d : D} (hi : δ[i]? = some .no) : ow (δ.set i (.val d)) B = ow δ B := by
  unfold ow
  congr 1
  induction δ generalizing i with
  | nil => rfl
  | cons t r ih =>
    cases i with
    | zero =>
      have e : t = .no := Option.some.inj hi
      subst e
      rfl
    | succ i => rw [List.set_cons_succ, List.flatMap_cons, List.flatMap_cons, ih (by simpa using hi)]
/-- one turn: from δ, acc to what W wants -/
def TurnW (K : PySem.W.Frag) (T : List NTab) (i : Nat) (tt : TT) (te : TE) (δ : List Sl) (d : D) (acc : List D) (W : List Sl → List D → Prop) : Prop :=
  ExT K T tt (δ.set i (.val d)) fun b δ2 => if b = true then Ex K T te δ2 fun r δ3 => ∃ z δ4, r = .val z ∧ δ3 = δ4.set i (.val d) ∧ δ4[i]? = some .no ∧ acc.length < 100000 ∧ W δ4 (acc ++ [z]) else ∃ δ4, δ2 = δ4.set i (.val d) ∧ δ4[i]? = some .no ∧ W δ4 acc
theorem lc_turnW {i : Nat} {p : Addr} {d : D} {acc : List D} {x : V} {Nx : Hp → Prop} {W : List Sl → List D → Prop} (hi : δ[i]? = some .no) (s : S K T ((p, .lst acc) :: B) H σ δ) (hx : Dp K (dl H (ow δ ((p, .lst acc) :: B))) x d) (h : TurnW K T i tt te δ d acc W)
    (k : ∀ H' δ4 acc', W δ4 acc' → δ4[i]? = some .no → S K T ((p, .lst acc') :: B) H' σ δ4 → Go (ow δ ((p, .lst acc) :: B)) (ow δ4 ((p, .lst acc') :: B)) H H' → Nx H') :
    gName i x (wipe σ [i]) H fun σ2 H2 => wipe σ2 [i] = wipe σ [i] ∧ tt σ2 H2 fun b H3 => if b = true then te σ2 H3 fun y H4 => ∃ ac, H4 p = some (.lst ac) ∧ ac.length < sizeLine ∧ Nx (upd H4 p (.lst (ac ++ [y]))) else Nx H3 := by
  have ew : ((wipe σ [i]).set i (some x)) = σ.set i (some x) := by
    show (σ.set i none).set i (some x) = _
    rw [List.set_set]
  show wipe ((wipe σ [i]).set i (some x)) [i] = wipe σ [i] ∧ tt ((wipe σ [i]).set i (some x)) H _
  refine ⟨?_, ?_⟩
  · rw [ew]
    show (σ.set i (some x)).set i none = σ.set i none
    rw [List.set_set]
  rw [ew]
  have s1 := s.setv (i := i) hx
  have g0 : Go (ow δ ((p, .lst acc) :: B)) (ow (δ.set i (.val d)) ((p, .lst acc) :: B)) H H := Go.set rfl
  refine h _ H _ s1 _ fun b H3 δ3 s3 g3 q => ?_
  cases b with
  | true =>
    rw [if_pos rfl] at q ⊢
    refine q _ H3 _ s3 _ fun y H4 r δ5 B4 R4 ⟨z, δ4, er, e4, hn, hl, w⟩ => ?_
    subst er
    subst e4
    have eB : B4 = (p, .lst acc) :: B := R4.bx
    subst eB
    obtain ⟨ac, m1, m2⟩ := R4.s.loose _ List.mem_cons_self
    refine ⟨ac, m1, by rw [da_len m2]; exact Nat.lt_of_lt_of_le hl (by decide), ?_⟩
    have s5 := R4.s.writeL (u' := .lst (acc ++ [z])) (o' := .lst (ac ++ [y])) ⟨_, upd_same, da_app m2 (da_one R4.vr)⟩
    refine k _ δ4 _ w hn (s5.back hn) ?_
    have g := (g0.trans g3).trans R4.go
    rw [ow_no hn] at g
    exact g.trans (go_own (mem_ow.mpr (.inr ⟨_, List.mem_cons_self⟩)))
  | false =>
    rw [if_neg Bool.false_ne_true] at q ⊢
    obtain ⟨δ4, e4, hn, w⟩ := q
    subst e4
    refine k _ δ4 _ w hn (s3.back hn) ?_
    have g := g0.trans g3
    rw [ow_no hn] at g
    exact g
theorem ex_lcTW {i : Nat} (h : Ex K T ta δ fun r δ1 => ∃ ds, r = .val (.tuple ds) ∧ δ1[i]? = some .no ∧ ∃ W : Nat → List Sl → List D → Prop, W 0 δ1 [] ∧ (∀ k d δ2 acc, ds[k]? = some d → δ2[i]? = some .no → W k δ2 acc → TurnW K T i tt te δ2 d acc (W (k + 1))) ∧ ∀ δ2 acc, W ds.length δ2 acc → P (.new (.lst acc)) δ2) :
    Ex K T (tLc (iTup K ta) (gName i) tt te [i]) δ P := fun B H σ s Q k =>
  h B H σ s _ fun v H1 r δ1 B1 R1 ⟨ds, f, hi, W, a0, turn, p⟩ => by
    subst f
    obtain ⟨s1, g1, hv⟩ := rs_fz R1 (d := .tuple ds) rfl
    cases hv with
    | tup hq ha =>
      refine ⟨_, rfl, ⟨_, dl_rk.sqT hq⟩, fun C hC => ?_⟩
      have hl := da_len ha
      refine lc_tup (fun m H2 => ∃ δ2 acc, S K T ((C, .lst acc) :: B) H2 σ δ2 ∧ Go (ow δ1 B) (ow δ2 ((C, .lst acc) :: B)) H1 H2 ∧ δ2[i]? = some .no ∧ W m δ2 acc) ⟨δ1, [], s1.owned hC ⟨_, upd_same, .nil⟩, go_new hC, hi, a0⟩ (fun m H2 _ ⟨_, _, _, g2, _⟩ => dl_rk.sqT (g2.rk.sqT hq)) (fun m x H2 hx ⟨δ2, acc, s2, g2, hn, w⟩ => ?_) fun H2 ⟨δ2, acc, s2, g2, hn, w⟩ => ?_
      · obtain ⟨d, e1, e2⟩ := da_get' ha hx
        exact lc_turnW hn s2 (dp_mono g2.rk _ _ e2) (turn m d δ2 acc e1 hn w) fun H' δ4 acc' w' hn' s' g' => ⟨δ4, acc', s', g2.trans g', hn', w'⟩
      · rw [hl] at w
        exact k _ H2 (.new (.lst acc)) δ2 _ ⟨s2, g1.trans g2, ⟨C, rfl, List.mem_cons_self⟩, ⟨C, rfl, rfl⟩⟩ (p δ2 acc w)
end
end Pl
set_option Elab.async false
set_option linter.all false
set_option maxRecDepth 100000
set_option maxHeartbeats 1000001
namespace Pl
open PySem L2 LamX NdefX PyProof.Rows GenW PySem.W PySem.Calls
def ge2 (i j : Int) (x y : Str) : Bool := if i = j then (if x = y then true else !decide (x.cps.toList < y.cps.toList)) else decide (j ≤ i)
def rGe2 (K : PySem.W.Frag) : R2 := fun v w H Q => ∃ a b i j x y, v = .ref a ∧ w = .ref b ∧ SqT K H a [.int i, .str x] ∧ SqT K H b [.int j, .str y] ∧ Q (.bl (ge2 i j x y)) H
theorem RcOp.ge_str {A : Around} {s : Shared} (a b : Str) (t u : Tok) : Ob.RcOp .GtE A s (.str a t) (.str b u) (!decide (a.cps.toList < b.cps.toList)) := fun _ _ _ _ h => PySem.P.ge_str h
theorem op_ge2 {X : Cx} (hu : X.A.units < cLine) : OpR X (compareOp .GtE) (rGe2 X.K) := by
  intro pins s σ H v w v' u Q I rx ry h
  obtain ⟨a, b, i, j, x, y, rfl, rfl, ha, hb, q⟩ := h
  cases rx
  cases ry
  obtain ⟨its, r1, p1, _⟩ := I.tuple ha
  obtain ⟨its2, r2, p2, _⟩ := I.tuple hb
  obtain ⟨u1, u2, rfl, w1, w2⟩ := Vals.two r1
  obtain ⟨u3, u4, rfl, w3, w4⟩ := Vals.two r2
  obtain ⟨t1, rfl⟩ := w1
  obtain ⟨t2, rfl⟩ := w2
  obtain ⟨t3, rfl⟩ := w3
  obtain ⟨t4, rfl⟩ := w4
  have R := Ob.RcOp.tuples_ge (A := X.A) (s := s) (e := fun k => if k = 0 then (i == j) else (x == y)) (r := fun k => if k = 0 then decide (j ≤ i) else !decide (x.cps.toList < y.cps.toList)) p1 p2 hu (fun k h1 h2 => by
    have hk : k < 2 := h1
    match k, hk with
    | 0, _ => exact SeqAt.EqAt.int_int _ _ _ _
    | 1, _ => exact SeqAt.EqAt.str_str _ _ _ _) (fun k h1 h2 _ => by
    have hk : k < 2 := h1
    match k, hk with
    | 0, _ => exact Ob.RcOp.ge_int _ _ _ _
    | 1, _ => exact RcOp.ge_str _ _ _ _)
  have e : Ob.lexAt (fun k => if k = 0 then (i == j) else (x == y)) (fun k => if k = 0 then decide (j ≤ i) else !decide (x.cps.toList < y.cps.toList)) (decide ((#[Value.int i t1, Value.str x t2] : Array Value).size ≥ (#[Value.int j t3, Value.str y t4] : Array Value).size)) 0 (min (#[Value.int i t1, Value.str x t2] : Array Value).size (#[Value.int j t3, Value.str y t4] : Array Value).size) = ge2 i j x y := by
    show (if (if (0 : Nat) = 0 then (i == j) else (x == y)) = true then (if (if (1 : Nat) = 0 then (i == j) else (x == y)) = true then decide (2 ≥ 2) else (if (1 : Nat) = 0 then decide (j ≤ i) else !decide (x.cps.toList < y.cps.toList))) else (if (0 : Nat) = 0 then decide (j ≤ i) else !decide (x.cps.toList < y.cps.toList))) = ge2 i j x y
    unfold ge2
    by_cases h1 : i = j
    · by_cases h2 : x = y
      · simp [h1, h2]
      · simp [h1, h2]
    · simp [h1]
  have z : wpAny (model X.prog X.w) X.A (compareOp .GtE (.ref a) (.ref b)) (EP X pins σ Q) X.xe s := R X.prog X.w X.xe (EP X pins σ Q) ⟨.bl _, H, I, by rw [← e]; rfl, q⟩
  exact z
theorem kc_def {X : Cx} {k : Nat} {f : Addr} {sp : Sp} (F : FnR X.prog X.w X.K X.mg X.base CX0 k f sp) : KeyCall X k (fun fa w H Q => fa = f ∧ sp [w] H Q E0) := by
  intro A' pins s σ H fa w u Q E hr hfr I rw' h
  obtain ⟨rfl, h⟩ := h
  have e0 : Env0 X.prog X.w X.K X.mg X.base A' X.stack s H := ⟨hfr, I.env0.mod, I.env0.bs, I.env0.bsz, I.env0.funs, I.env0.frf, I.env0.hok, I.env0.bare⟩
  refine wpAny_call (codeAny_mono (F A' X.stack s H [u] [w] Q E0 hr e0 (.cons rw' .nil) h) fun r s' hq => ?_)
  cases r with
  | error e => exact (show False from hq).elim
  | ok fl =>
    cases fl with
    | ret u => exact I.after hq
    | next => exact False.elim hq
    | brk => exact False.elim hq
    | cont => exact False.elim hq
section
variable {K : PySem.W.Frag} {T : List NTab} {w : World} {B B' B1 : Lo} {A A0 : List Addr} {H0 H H' : Hp} {σ : L2.St} {δ δ' : List Sl} {v : V} {r : R} {E : Es} {te ta tb tc ty tv : TE} {tt t1 t2 : TT} {ts t u : TS} {g : TG} {P : R → List Sl → Prop}
theorem ex_sortDef {f : Addr} {F : FS} (h : Ex K T te δ fun r δ1 => ∃ (ds : List D) (kd : D → D), AsD δ1 r (.list ds) ∧ immAll ds = true ∧ AllAlike (ds.map kd) ∧ Sortable (ds.map kd) ∧ (∀ d ∈ ds, (kd d).depth ≤ 60 ∧ imm (kd d) = true) ∧
      (∀ d ∈ ds, F [.val d] fun r _ => r = .val (kd d)) ∧ P (.new (.lst (ds.mergeSort (dataLe false kd)))) δ1) :
    Ex K T (tCKw (rSortKey K T (fun fa w H Q => fa = f ∧ spOf K T F [w] H Q E0)) (tCons te tNil) (tCons (tC (.ref f)) tNil)) δ P := fun B H σ s Q k =>
  h B H σ s _ fun v H1 r δ1 B1 R1 ⟨ds, kd, a, hi, hal, hk, hd, body, p⟩ => by
    obtain ⟨C, rfl⟩ := R1.bx.suf
    have hv := R1.vr.dp R1.s a
    have s1 := R1.s.dropAll
    have g1 := R1.go.less (ow_suf (C := C))
    refine ⟨v, f, ds, kd, rfl, rfl, hv, s1.tab, hal, hk, hd, fun d hd3 H3 g3 T3 w hw Q' kq => ?_, fun q ys H3 g3 T3 hq hq3 hy => ?_⟩
    · refine ⟨rfl, [], [], [.val d], _, List.nodup_nil, T3, ⟨dp_mono (fun a o q _ => dl_of q (by simp)) _ _ hw, trivial⟩, (fun q hq => by cases hq), body d hd3, fun y H4 r4 us T4 g4 af e => ?_⟩
      subst e
      exact kq y H4 g4 T4 (dp_full af.res)
    · have hiS := imm_sort (f := kd) hi
      have nq := s1.free hq
      have s3 : S K T ((q, .lst (ds.mergeSort (dataLe false kd))) :: B) H3 σ δ1 := s1.call g3 T3 (fun b m => by cases m) (fun b m => (List.mem_cons.mp (ow_loose.mem_iff.mp m)).elim (fun z => .inr (z ▸ hq)) .inl)
        (ow_loose.nodup_iff.mpr (List.nodup_cons.mpr ⟨nq, s1.nd⟩)) rfl (fun i x hx => .inl ⟨hx, fun _ _ _ m => by cases m⟩) fun x hx => (List.mem_cons.mp hx).elim (fun z => .inr (by rw [z]; exact ⟨hiS, ys, hq3, hy⟩)) fun z => .inl ⟨z, fun m => by cases m⟩
      refine k _ H3 (.new (.lst _)) δ1 _ ⟨s3, g1.trans ⟨fun b o e n t => g3.ext b o e (by simp) t, g3.dom, fun b m => ?_⟩, ⟨q, rfl, List.mem_cons_self⟩, ⟨q, rfl, rfl⟩⟩ p
      rcases List.mem_cons.mp (ow_loose.mem_iff.mp m) with z | z
      · exact .inr (z ▸ hq)
      · exact .inl z
theorem opd_ge2 {i j : Int} {x y : Str} {P : R → Prop} (p : P (.val (.bool (ge2 i j x y)))) : OpD K (rGe2 K) (.tuple [.int i, .str x]) (.tuple [.int j, .str y]) P := fun H v w Q h1 h2 o => by
  obtain ⟨a, xs, rfl, hs, ha⟩ := dp_t h1
  obtain ⟨b, ys, rfl, ht, hb⟩ := dp_t h2
  obtain ⟨v1, v2, rfl, d1, d2⟩ := da_2 ha
  obtain ⟨w1, w2, rfl, e1, e2⟩ := da_2 hb
  cases d1; cases d2; cases e1; cases e2
  exact ⟨a, b, i, j, x, y, rfl, rfl, hs, ht, o.val _ _ (.bl _) p⟩
theorem cb_max {ns : List Int} {m : Int} {P : R → Prop} (hm : m ∈ ns) (hle : ∀ y ∈ ns, y ≤ m) (p : P (.val (.int m))) : CbD K (rMax K) [.list (ns.map .int)] P := fun H vs Q h o => by
  obtain ⟨v, rfl, h1⟩ := da_1 h
  obtain ⟨a, xs, rfl, hs, ha⟩ := dp_l h1
  rw [da_ints ha] at hs
  refine ⟨a, ns, rfl, hs, List.length_pos_of_mem hm, fun n hn hmax => ?_⟩
  have e : n = m := Int.le_antisymm (hle n hn) (hmax m hm)
  subst e
  exact o.val _ _ (.int _) p
theorem ex_lcSW {i : Nat} (h : Ex K T te δ fun r δ1 => ∃ x : Str, r = .val (.str x) ∧ δ1[i]? = some .no ∧ ∃ W : Nat → List Sl → List D → Prop, W 0 δ1 [] ∧ (∀ k c δ2 acc, x.cps[k]? = some c → δ2[i]? = some .no → W k δ2 acc → TurnW K T i tt ta δ2 (.str ⟨#[c]⟩) acc (W (k + 1))) ∧ ∀ δ2 acc, W x.cps.size δ2 acc → P (.new (.lst acc)) δ2) :
    Ex K T (tLc (iStr te) (gName i) tt ta [i]) δ P := fun B H σ s Q k =>
  h B H σ s _ fun v H1 r δ1 B1 R1 ⟨x, f, hi, W, a0, turn, p⟩ => by
    subst f
    obtain ⟨s1, g1, hv⟩ := rs_fz R1 (d := .str x) rfl
    cases hv
    refine ⟨x, rfl, fun C hC => ?_⟩
    refine lc_it walk_str (fun m H2 => ∃ δ2 acc, S K T ((C, .lst acc) :: B) H2 σ δ2 ∧ Go (ow δ1 B) (ow δ2 ((C, .lst acc) :: B)) H1 H2 ∧ δ2[i]? = some .no ∧ W m δ2 acc) ⟨δ1, [], s1.owned hC ⟨_, upd_same, .nil⟩, go_new hC, hi, a0⟩ (fun _ _ _ _ => trivial) (fun m z H2 H3 _ ⟨δ2, acc, s2, g2, hn, w⟩ ⟨eH, c, ec, ez⟩ => ?_) fun H2 ⟨δ2, acc, s2, g2, hn, w⟩ => ?_
    · subst eH ez
      exact lc_turnW hn s2 (.str _) (turn m c δ2 acc ec hn w) fun H' δ4 acc' w' hn' s' g' => ⟨δ4, acc', s', g2.trans g', hn', w'⟩
    · exact k _ H2 (.new (.lst acc)) δ2 _ ⟨s2, g1.trans g2, ⟨C, rfl, List.mem_cons_self⟩, ⟨C, rfl, rfl⟩⟩ (p δ2 acc w)
/-- for c in s -/
theorem ss_forS (h : Ex K T te δ fun r δ1 => ∃ x : Str, r = .val (.str x) ∧ ∃ W : Nat → List Sl → Prop, W 0 δ1 ∧
      (∀ i c δ2, x.cps[i]? = some c → W i δ2 → Gt K T g (.str ⟨#[c]⟩) δ2 fun δ3 => Ss K T t δ3 ⟨W (i + 1), E.rt, E.nx, W (i + 1)⟩) ∧ ∀ δ2, W x.cps.size δ2 → E.nx δ2) : Ss K T (tFor (iStr te) g t) δ E := fun B H σ s D kn kr kb kc =>
  h B H σ s _ fun v H1 r δ1 B1 R1 ⟨x, f, W, w0, hs, hd⟩ => by
    subst f
    obtain ⟨s1, g1, hv⟩ := rs_fz R1 (d := .str x) rfl
    cases hv
    refine ⟨x, rfl, for_it walk_str (fun i σ2 H2 => ∃ δ2, S K T B H2 σ2 δ2 ∧ Go (ow δ B) (ow δ2 B) H H2 ∧ W i δ2) ⟨δ1, s1, g1, w0⟩
        (fun _ _ _ _ _ => trivial) (fun i z σ2 H2 H3 _ ⟨δ2, s2, g2, w2⟩ ⟨eH, c, ec, ez⟩ => ?_) (fun σ2 H2 ⟨δ2, s2, g2, w2⟩ => ?_)⟩
    · subst eH ez
      refine hs i c δ2 ec w2 B _ σ2 _ s2 (.str _) _ fun σ3 δ3 s3 g3 q => ?_
      exact q B _ σ3 s3 { D with nx := _, ct := _, bk := D.nx } (fun σ4 H4 δ4 s4 g4 n => ⟨δ4, s4, (g2.trans g3).trans g4, n⟩) (fun v σ4 H4 r δ4 B4 R4 n => kr v σ4 H4 r δ4 B4 (R4.pre (g2.trans g3)) n)
        (fun σ4 H4 δ4 s4 g4 n => kn σ4 H4 δ4 s4 ((g2.trans g3).trans g4) n) (fun σ4 H4 δ4 s4 g4 n => ⟨δ4, s4, (g2.trans g3).trans g4, n⟩)
    · exact kn σ2 H2 δ2 s2 g2 (hd δ2 w2)
end
end Pl
set_option Elab.async false
set_option linter.all false
set_option maxRecDepth 100000
set_option maxHeartbeats 1000001
namespace Pl
open PySem L2 LamX NdefX PyProof.Rows GenW PySem.W PySem.Calls
def tListVals (td : TE) : TE := fun σ H Q => td σ H fun x H1 => ∃ a kvs, x = .ref a ∧ H1 a = some (.dK kvs) ∧ ∀ q, H1 q = none → Q (.ref q) (upd H1 q (.lst (kvs.map (·.2))))
section
variable {X : Cx} {o e : Expr} {td te : TE} {p pos apos mpos : Pos}
theorem pe_listVals (hc : X.calm = true) (hg : Gl X "list") (hm : X.mg "list" = none) (hd : PE X o td) (hbase : attributeBase o "values" X.env (eval o X.env) = eval o X.env := by rfl) (hline : (apos.endLine == mpos.line) = true := by rfl)
    (hse : starEach [Expr.Call (.Attribute o "values" apos) [] [] mpos] X.env = (false, eval (Expr.Call (.Attribute o "values" apos) [] [] mpos) X.env) :: starEach [] X.env := by rfl) :
    PE X (.Call (.Name "list" p) [.Call (.Attribute o "values" apos) [] [] mpos] [] pos) (tListVals td) := by
  refine ⟨fun pins s σ H Q I h => ?_⟩
  refine Call_ (ld_blt I hg hm boot_list (PyProof.Rows.callWith_type1 (args_cons (wpAny_Call_method (T := "dict") (id := "dict.values") hbase rfl hline F.plainAttrs_dict F.slot_dict_values F.type_dict_values (thn (hd.run pins s σ H _ I h) fun v s1 ⟨x, H1, I1, r1, a, kvs, ex, ha, q⟩ => ?_)) hse) hse rfl))
  subst ex
  obtain rfl : v = Value.ref a := r1
  obtain ⟨hz, hsys, vs, rel, dof⟩ := (show ObjOk X.prog X.w H1 s1.heap a (.dK kvs) from I1.hok a _ ha)
  obtain ⟨ep, dat⟩ := dof.dictAt
  refine ⟨dof.typeIs, dof.mapOf.noDict, ?_⟩
  have k1 : ∀ b u, s1.heap.get? b = some u → (s1.heap.push { cls := .type "dict_values", data := .fields #[.ref a] }).get? b = some u := fun b u e => Heap.get?_push_of_some _ e
  have I2 : Inv X pins σ H1 { s1 with heap := s1.heap.push { cls := .type "dict_values", data := .fields #[.ref a] } } := I1.kept (t' := s1.toks) k1
  have hl : kvs.length = vs.length := Paired.length rel
  refine method_meetsIn F.slot_dict_values F.entry_dict_values rfl (PySem.evalArgs_none ⟨rfl, dof.typeIs, F.args_dict_values_1 _, _, meets_dict_values (mixKind X.prog X.w) a hsys, ⟨vs, dof⟩, args_nil ?_⟩)
  refine PySem.W.kdl_call (PySem.W.kdl_values (knd := mixKind X.prog X.w) (kvs := vs) (ep := ep) (d := a)) (I2.ok.hd hc) ⟨⟨_, Heap.get?_push_size _ rfl, rfl, rfl⟩, dat.keep k1⟩ (by rw [← hl]; exact hz) fun h' tk acc' c' hkeep hS hacc => ?_
  refine ⟨.ref (s1.heap.push { cls := .type "dict_values", data := .fields #[.ref a] }).objs.size, upd H1 (s1.heap.push { cls := .type "dict_values", data := .fields #[.ref a] }).objs.size (.lst (kvs.map (·.2))),
    I2.laid hkeep (Nat.le_refl _) (show ObjOk X.prog X.w _ _ _ (.lst (kvs.map (·.2))) from ⟨by rw [List.length_map]; exact hz, acc'.toList, c', ?_, by rw [Array.toArray_toList]; exact hS⟩), rfl, q _ (I2.hok.fresh (Nat.le_refl _))⟩
  have el : acc'.toList.length = acc'.size := by simp
  refine vals_of_at (by rw [List.length_map, el, hacc.1, hl]) fun j x u h1 h2 => ?_
  obtain ⟨k, hk⟩ := hacc.2 j u (by rw [← Array.getElem?_toList]; exact h2)
  obtain ⟨x', e1, e2⟩ := KV.at' rel hk
  rw [List.getElem?_map, e1] at h1
  cases h1
  exact e2
end
section
variable {K : PySem.W.Frag} {T : List NTab} {w : World} {B B' B1 : Lo} {A A0 : List Addr} {H0 H H' : Hp} {σ : L2.St} {δ δ' : List Sl} {v : V} {r : R} {E : Es} {te ta tb tc ty tv : TE} {tt t1 t2 : TT} {ts t u : TS} {g : TG} {P : R → List Sl → Prop}
theorem kv_vals {K : PySem.W.Frag} {H : Hp} {κ : Type} : ∀ {a : List (κ × V)} {b : List (κ × D)}, KvAll K H a b → DpAll K H (a.map (·.2)) (b.map (·.2))
  | [], [], _ => .nil
  | (_, _) :: _, (_, _) :: _, ⟨_, h2, h3⟩ => .cons h2 (kv_vals h3)
  | [], _ :: _, h => h.elim
  | _ :: _, [], h => h.elim
/-- list(d.values()), d a name's dict -/
theorem ex_listVals {i : Nat} (h : ∃ a kvs, δ[i]? = some (.own a (.dK kvs)) ∧ immAll (kvs.map (·.2)) = true ∧ P (.new (.lst (kvs.map (·.2)))) δ) : Ex K T (tListVals (tVar i)) δ P := fun B H σ s Q k => by
  obtain ⟨a, kvs, hi, him, p⟩ := h
  obtain ⟨q1, xs, q2, q3⟩ := s.hp hi
  refine ⟨.ref a, q1, a, xs, rfl, q2, fun q hq => ?_⟩
  exact (out_rs (P := P) s .refl k).lst q _ _ hq (da_mono dl_rk _ _ (kv_vals q3)) him p
end
end Pl
set_option Elab.async false
set_option linter.all false
set_option maxRecDepth 100000
set_option maxHeartbeats 1000001
namespace Pl
open PySem PySem.Spec PyProof.Rows RT
section
variable {prog : Program} {w : World} {A : Around} {E : Value → Shared → Prop} {s : Shared}
theorem init_rev {R : Result → Shared → Prop} {it l : Addr} {items : Array Value} (hh : A.handled = none) (S : Addr) (hSi : S ≠ it) (hSl : S ≠ l) (hit : s.heap.IsRevIter it l ((items.size : Int) - 1)) (hl : s.heap.IsList l items) (hne : l ≠ it) (hn : items.size ≤ sizeLine)
    (hS : s.heap.get? S = some { cls := .type "list", data := .seq #[] })
    (hR : ∀ (h' : Heap) (tk : Nat) (acc : Array Value) (c' : Nat), (∀ b o, b ≠ S → b ≠ it → s.heap.get? b = some o → h'.get? b = some o) → h'.get? S = some { cls := .type "list", dict := none, data := .seq acc c', slots := #[] } → ItemsOf (fun i v => items[items.size - 1 - i]? = some v) acc items.size → R (.ok (.ret .none)) { s with heap := h', toks := tk }) :
    wpAny (model prog w) A.in1 (Builtin.«list.__init__» ⟨[.ref S, .ref it], []⟩)
      (fun fin s' => match fin with | .done f => R (.ok f) s' | .again c' => c'.quiet = true ∧ codeAny (model prog w) A c' R s') (fun e s' => R (.error e) s') s := by
  have W := (Walks.listRev (prog := prog) (w := w) (A := A.in1) hh it l hne items).toS
  have hSf : S ∉ [it, l] := by simp only [List.mem_cons, List.not_mem_nil, or_false, not_or]; exact ⟨hSi, hSl⟩
  show wpAny _ A.in1 (do let old ← Builtin.List.listItems (.ref S); Builtin.List.listUpdate (.ref S) (fun _ => #[]); letGo old.toList.reverse; Builtin.List.listExtendWith (.ref S) (.ref it) .none) _ _ s
  refine wpAny_bind ?_
  unfold Builtin.List.listItems
  refine wpAny_bind (wpAny_seqItems hS rfl (wpAny_pure ?_))
  show wpAny _ A.in1 (updateSeq S (fun _ => #[]) >>= fun _ => letGo (#[] : Array Value).toList.reverse >>= fun _ => Builtin.List.listExtendWith (.ref S) (.ref it) .none) _ _ s
  refine wpAny_bind (wpAny_updateSeq hS rfl ?_)
  have hS₁ := Heap.get?_update_self (Obj.mapSeq (fun _ => (#[] : Array Value))) hS rfl
  have oth : ∀ b o, b ≠ S → s.heap.get? b = some o → (s.heap.update S (Obj.mapSeq (fun _ => (#[] : Array Value)))).get? b = some o :=
    fun b o hb e => (Heap.get?_update_other _ _ (Ne.symm hb)).trans e
  refine wpAny_bind (wpAny_letGo ?_)
  have hit1 : (s.heap.update S (Obj.mapSeq (fun _ => (#[] : Array Value)))).IsRevIter it l ((items.size : Int) - 1) := hit.at fun o e => oth it o hSi.symm e
  have hl1 : (s.heap.update S (Obj.mapSeq (fun _ => (#[] : Array Value)))).IsList l items := by
    obtain ⟨o, ho, x⟩ := hl
    exact ⟨o, oth l o hSl.symm ho, x⟩
  have hT : ({ s with heap := s.heap.update S (Obj.mapSeq (fun _ => (#[] : Array Value))) } : Shared).TypeIs (.ref it) "list_reverseiterator" := Heap.IsRevIter.typeIs (s := { s with heap := s.heap.update S (Obj.mapSeq (fun _ => (#[] : Array Value))) }) hit1
  have h1 : Builtin.List.listSameRef (.ref S) (.ref it) = false := by simp [Builtin.List.listSameRef, hSi]
  unfold Builtin.List.listExtendWith
  refine wpAny_bind (wpAny_typeOf hT ?_)
  rw [if_neg (by rw [h1]; decide)]
  refine wpAny_bind (wpAny_pyIter_revIter (s := { s with heap := s.heap.update S (Obj.mapSeq (fun _ => (#[] : Array Value))) }) hit1 ?_)
  refine wpAny_bind (wpAny_holding ?_)
  unfold Builtin.List.listLengthHint
  refine wpAny_bind (wpAny_specialOf hT nolen_lri ?_)
  show wpAny _ A.in1 (specialOf (Value.ref it) (Str.ofString "__length_hint__") >>= _) _ _ _
  refine wpAny_bind (wpAny_specialOf hT hint_lri ?_)
  generalize hid : ("list_reverseiterator.__length_hint__" : String) = id0
  wp_delta
  rw [show splitId id0 = some ("list_reverseiterator", "__length_hint__") from by subst hid; decide +kernel]
  subst hid
  refine wpAny_bind (wpAny_isInstance (b := true) hT (by rw [isSubtype_type]; kernel_rfl) ?_)
  refine wpAny_pure ?_
  rw [if_neg (by decide)]
  have e0 : ((items.size : Nat) : Int) - 1 - ((0 : Nat) : Int) = (items.size : Int) - 1 := by omega
  refine wpAny_pure ⟨plainId_quiet F.plain_extend_loop _, codeAny_extend_loopS W hn _ hSf _ items.size 0 _ _ _ rfl (Nat.zero_le _) ⟨Nat.zero_le _, by rw [e0]; exact hit1, hl1⟩ hS₁ (ItemsOf.nil _) fun s' acc' c' hm hS' hacc => ?_⟩
  rw [Moved.eq_with hm]
  refine hR s'.heap s'.toks acc' c' (fun b o hb hb2 e => hm.heap b o (fun hmem => ?_) (oth b o hb e)) hS' hacc
  rcases List.mem_cons.mp hmem with e' | hmem
  · exact hb e'
  · exact hb2 (List.mem_singleton.mp hmem)
theorem call_list_rev {it l : Addr} {items : Array Value} {Q : Value → Shared → Prop} (hh : A.handled = none) (hit : s.heap.IsRevIter it l ((items.size : Int) - 1)) (hl : s.heap.IsList l items) (hne : l ≠ it) (hn : items.size ≤ sizeLine)
    (hQ : ∀ (h' : Heap) (tk : Nat) (acc : Array Value) (c' : Nat), (∀ b o, b ≠ it → s.heap.get? b = some o → h'.get? b = some o) → h'.get? s.heap.objs.size = some { cls := .type "list", dict := none, data := .seq acc c', slots := #[] } → ItemsOf (fun i v => items[items.size - 1 - i]? = some v) acc items.size →
      Q (.ref s.heap.objs.size) { s with heap := h', toks := tk }) :
    wpAny (model prog w) A (call (.type "list") [.ref it]) Q E s := by
  obtain ⟨oi, hoi, _⟩ := id hit
  obtain ⟨ol, hol, _⟩ := id hl
  have hSi : s.heap.objs.size ≠ it := Nat.ne_of_gt (Heap.lt_size hoi)
  have hSl : s.heap.objs.size ≠ l := Nat.ne_of_gt (Heap.lt_size hol)
  refine callType_codes (Q₁ := fun obj s₁ => obj = .ref s.heap.objs.size ∧ s₁ = { s with heap := s.heap.push { cls := .type "list", data := .seq #[] } }) F.called_list (F.typeCall_list_1 _) F.entry_list_init
    (code_list_new _ ⟨rfl, rfl⟩) fun obj s₁ h₁ => ?_
  obtain ⟨rfl, rfl⟩ := h₁
  have hS : (s.heap.push { cls := .type "list", data := .seq #[] }).get? s.heap.objs.size = some { cls := .type "list", data := .seq #[] } := Heap.get?_push_size _ rfl
  refine ⟨⟨_, hS, rfl⟩, F.args_list_init_2 _ _, init_rev (A := A.in1) (s := { s with heap := s.heap.push { cls := .type "list", data := .seq #[] } }) hh _ hSi hSl (hit.at fun o e => Heap.get?_push_of_some _ e) (hl.push _) hne hn hS fun h' tk acc c' hk hS' hacc => ?_⟩
  exact ⟨rfl, hQ h' tk acc c' (fun b o hb e => hk b o (Nat.ne_of_lt (Heap.lt_size e)) hb (Heap.get?_push_of_some _ e)) hS' hacc⟩
end
end Pl
namespace Pl
open PySem L2 LamX NdefX PyProof.Rows GenW PySem.W PySem.Calls
def tListRev (K : PySem.W.Frag) (te : TE) : TE := fun σ H Q => te σ H fun v H1 => ∃ (a : Addr) (xs : List V), v = .ref a ∧ SqL K H1 a xs ∧ ∀ q, H1 q = none → Q (.ref q) (upd H1 q (.lst xs.reverse))
section
variable {X : Cx}
theorem pe_listRev {K0 : PySem.W.Frag} {e : Expr} {te : TE} {p p2 pos pos2 : Pos} (hc : X.calm = true) (hg : Gl X "list") (hm : X.mg "list" = none) (hg2 : Gl X "reversed") (hm2 : X.mg "reversed" = none) (he : PE X e te) (ek : X.K = K0 := by rfl)
    (hs : starEach [e] X.env = (false, eval e X.env) :: starEach [] X.env := by rfl)
    (hs2 : starEach [.Call (.Name "reversed" p2) [e] [] pos2] X.env = (false, eval (.Call (.Name "reversed" p2) [e] [] pos2) X.env) :: starEach [] X.env := by rfl) :
    PE X (.Call (.Name "list" p) [.Call (.Name "reversed" p2) [e] [] pos2] [] pos) (tListRev K0 te) := by
  subst ek
  refine ⟨fun pins s σ H Q I h => ?_⟩
  refine Call_ (ld_blt I hg hm boot_list (PyProof.Rows.callWith_type1 (args_cons (Call_ (ld_blt I hg2 hm2 PyProof.Rows.boot_reversed (PyProof.Rows.callWith_type1 (args_cons (thn (he.run pins s σ H _ I h) fun u s1 ⟨v, H1, I1, r1, q1⟩ => args_nil ?_) hs) hs rfl))) hs2) hs2 rfl))
  obtain ⟨a, xs, ev, hq, q⟩ := q1
  subst ev
  obtain rfl : u = Value.ref a := r1
  obtain ⟨its, rv, p', hz⟩ := I1.list hq
  refine call_reversed_list p'.isList (args_nil ?_)
  have k0 : ∀ b o, s1.heap.get? b = some o → (s1.heap.push (revObj a ((its.toArray.size : Int) - 1))).get? b = some o := fun b o e => Heap.get?_push_of_some _ e
  have I2 : Inv X pins σ H1 { s1 with heap := s1.heap.push (revObj a ((its.toArray.size : Int) - 1)) } := I1.kept (t' := s1.toks) k0
  obtain ⟨f0, f1, f2, f3, f4, f5⟩ := I1.fpOk (H' := H1) (b := s1.heap.objs.size) (Nat.le_refl _) (I1.hok.fresh (Nat.le_refl _))
  have hl := p'.isList
  obtain ⟨ol, hol, _⟩ := id hl
  have hne : a ≠ s1.heap.objs.size := Nat.ne_of_lt (Heap.lt_size hol)
  have hn : its.toArray.size ≤ sizeLine := by rw [List.size_toArray, ← rv.length]; exact hz
  refine call_list_rev (s := { s1 with heap := s1.heap.push (revObj a ((its.toArray.size : Int) - 1)) }) (I1.ok.hd hc) ⟨_, Heap.get?_push_size _ rfl, rfl, rfl⟩ (hl.push _) hne hn fun h' tk acc c' hk hS hi => ?_
  have hsz : (s1.heap.push (revObj a ((its.toArray.size : Int) - 1))).objs.size = s1.heap.objs.size + 1 := Heap.size_push _ _
  have hle : s1.heap.objs.size ≤ (s1.heap.push (revObj a ((its.toArray.size : Int) - 1))).objs.size := by rw [hsz]; exact Nat.le_succ _
  have hl2 : xs.length = its.length := rv.length
  refine ⟨.ref (s1.heap.push (revObj a ((its.toArray.size : Int) - 1))).objs.size, upd H1 (s1.heap.push (revObj a ((its.toArray.size : Int) - 1))).objs.size (.lst xs.reverse),
    I1.laid (t' := tk) (fun b u e => hk b u (Nat.ne_of_lt (Heap.lt_size e)) (k0 b u e)) hle (show ObjOk X.prog X.w _ _ _ (.lst xs.reverse) from ⟨by rw [List.length_reverse]; exact hz, acc.toList, c', RT.vals_rev rv hi, by rw [Array.toArray_toList]; exact hS⟩), rfl, q _ (I1.hok.fresh hle)⟩
end
section
variable {K : PySem.W.Frag} {T : List NTab} {w : World} {B B' B1 : Lo} {A A0 : List Addr} {H0 H H' : Hp} {σ : L2.St} {δ δ' : List Sl} {v : V} {r : R} {E : Es} {te ta tb tc ty tv : TE} {tt t1 t2 : TT} {ts t u : TS} {g : TG} {P : R → List Sl → Prop}
theorem ex_listRev (h : Ex K T te δ fun r δ1 => ∃ ds, AsD δ1 r (.list ds) ∧ immAll ds = true ∧ P (.new (.lst ds.reverse)) δ1) : Ex K T (tListRev K te) δ P := fun B H σ s Q k =>
  h B H σ s _ fun v H1 r δ1 B1 R1 ⟨ds, a, hi, p⟩ => by
    obtain ⟨C, rfl⟩ := R1.bx.suf
    obtain ⟨b, xs, rfl, hs, ha⟩ := dp_l (R1.vr.dp R1.s a)
    exact ⟨b, xs, rfl, hs, fun q hq => (out_suf (P := P) R1.s R1.go k).lst q _ _ hq (da_rev ha) (imm_rev hi) p⟩
end
end Pl
set_option Elab.async false
set_option linter.all false
set_option maxRecDepth 100000
set_option maxHeartbeats 1000001
namespace Pl
open PySem L2 LamX NdefX PyProof.Rows GenW PySem.W PySem.Calls
theorem cxNew0 : CXNew CX0 := fun _ _ _ _ _ _ _ _ _ _ _ _ h => h.elim
/-- the promise of f( *r ): its body's, of the one tuple -/
def spV (nmax : Nat) (sp : Sp) : Sp := fun vs H Q E => vs.length ≤ nmax ∧ ∀ p, H p = none → sp [.ref p] (upd H p (.tup vs)) Q E
theorem fn_ofV0 {P : Program} {w : World} {K : PySem.W.Frag} {mg : Str → Option Value} {base : Heap} {k : Nat} {f : Addr} {name qual : Str} {params : Arguments} {body : List Stmt} {scope : Scope} {dV kV doc pm cdv ct oc : Value} {an od : Option Addr}
    {osl : Array (Option Value)} {N : List Str} {pv : Str} {nmax : Nat} {sp : Sp} (lk : K.lookup f = some ⟨oc, od, .func (PySem.W.fnOf name qual params body scope dV kV doc pm an cdv ct), osl⟩) (hcd : PySem.W.codeIn K cdv qual = true) (S : FnScope N [pv] scope)
    (hz : nmax ≤ sizeLine) (hb : ∀ (rest : List Value), rest.length ≤ nmax → bindArgs (PySem.W.fnOf name qual params body scope dV kV doc pm an cdv ct) ⟨rest, []⟩ = (newTuple rest >>= fun t => pure [(pv, t)]))
    (hbody : ∀ (A : Around) (outer : List Env) (s : Shared) (H : Hp) (vs : List V) (Q : VK) (E : XK), Room k (A.deeper (envOfC qual scope s.heap.objs.size f cdv)) → sp vs H Q E →
      ∃ t, PSs (cxOf CX0 P w K mg base N qual scope f cdv A outer s H E) body t ∧ t { nx := fun _ H' => Q .non H', rt := Q } (start N vs) H) :
    FnR P w K mg base CX0 (k + 1) f (spV nmax sp) := by
  intro A outer s H us rest Q E hr e0 rr hsp
  obtain ⟨hl, hq⟩ := hsp
  have hl' : us.length ≤ nmax := by rw [← rr.length]; exact hl
  have KX : K.In s.heap := e0.mod.kin.keeps fun b o e => (e0.bs b o e).1
  have hn : H s.heap.objs.size = none := e0.hok.fresh (Nat.le_refl _)
  have hp := hq s.heap.objs.size hn
  have kp : ∀ b o, s.heap.get? b = some o → (s.heap.push ({ cls := .type "tuple", data := .seq us.toArray } : Obj)).get? b = some o := fun b o e => Heap.get?_push_of_some _ e
  have new : ObjOk P w (upd H s.heap.objs.size (.tup rest)) (s.heap.push ({ cls := .type "tuple", data := .seq us.toArray } : Obj)) s.heap.objs.size (.tup rest) :=
    ⟨Nat.le_trans hl hz, us, rr, ⟨_, Heap.get?_push_size _ rfl, rfl, _, rfl⟩⟩
  have hok2 := e0.hok.laid kp (Nat.le_refl _) new
  have un : Un (frs outer) [] H (upd H s.heap.objs.size (.tup rest)) s.heap (s.heap.push ({ cls := .type "tuple", data := .seq us.toArray } : Obj)) := Un.laid kp (Nat.le_refl _) hn
  have e2 : Env0 P w K mg base A outer { s with heap := s.heap.push ({ cls := .type "tuple", data := .seq us.toArray } : Obj) } (upd H s.heap.objs.size (.tup rest)) := by
    refine ⟨e0.frames, e0.mod, fun b o e => ⟨kp b o (e0.bs b o e).1, ?_⟩, ?_, Heap.FunFrames.of_keeps (fun b o e _ => ⟨o, kp b o e, rfl⟩) e0.funs, fun b hb' => ?_, hok2, e0.bare⟩
    · rw [upd_ne (Nat.ne_of_lt (Heap.lt_size (e0.bs b o e).1))]
      exact (e0.bs b o e).2
    · show base.objs.size ≤ (s.heap.push _).objs.size
      rw [Heap.size_push]
      exact Nat.le_succ_of_le e0.bsz
    · obtain ⟨_, o, ho, _⟩ := e0.funs.mem hb'
      rw [upd_ne (Nat.ne_of_lt (Heap.lt_size ho))]
      exact e0.frf b hb'
  have lim : (s.heap.push ({ cls := .type "tuple", data := .seq us.toArray } : Obj)).NoLimit := e0.mod.nolimit.keeps fun b o e => (e2.bs b o e).1
  have hkind : ∀ y ∈ [pv].zip [Value.ref s.heap.objs.size], scope.names.lookup y.1 = some .local ∨
      (scope.names.lookup y.1 = some .cell ∧ ((cellsFrom ((s.heap.push ({ cls := .type "tuple", data := .seq us.toArray } : Obj)).objs.size + 1) scope.names []).lookup y.1).isSome = true) := fun y hy => by
    rcases S.par y.1 (List.of_mem_zip hy).1 with q | q
    · exact .inl q
    · exact .inr ⟨q, PySem.W.cellsFrom_some _ _ _ (.inl q)⟩
  refine codeAny_call_function hr.depth (KX _ _ lk) rfl S.co S.gen rfl (PySem.W.codeRec_of KX hcd) ?_
  rw [hb us hl']
  refine wpAny_bind (wpAny_newTuple (wpAny_pure ?_) (Nat.le_trans hl' hz))
  refine wpAny_newFunctionEnv_cells (s := { s with heap := s.heap.push ({ cls := .type "tuple", data := .seq us.toArray } : Obj) }) S.kind hkind fun env he s1 x => ?_
  subst he
  refine ⟨lim.keeps x.toInCall.keep, codeAny_func ?_⟩
  obtain ⟨t, ht, hq'⟩ := hbody A outer { s with heap := s.heap.push ({ cls := .type "tuple", data := .seq us.toArray } : Obj) } (upd H s.heap.objs.size (.tup rest)) [.ref s.heap.objs.size] Q E (hr.deeper _) hp
  have r2 : Vals [V.ref s.heap.objs.size] [Value.ref s.heap.objs.size] := .cons rfl .nil
  have I : Inv (cxOf CX0 P w K mg base N qual scope f cdv A outer { s with heap := s.heap.push ({ cls := .type "tuple", data := .seq us.toArray } : Obj) } (upd H s.heap.objs.size (.tup rest)) E) [] (start N [.ref s.heap.objs.size]) (upd H s.heap.objs.size (.tup rest)) s1 :=
    inv_start S hr.hd e2 rfl r2 x
  refine wpAny_mono (ht.run [] s1 _ _ _ I hq') (fun fl s' hs => ?_) fun e s' hs => ?_
  · have fin : ∀ {σ' : L2.St} {H' : Hp} {v' : V} {u' : Value}, Inv (cxOf CX0 P w K mg base N qual scope f cdv A outer { s with heap := s.heap.push ({ cls := .type "tuple", data := .seq us.toArray } : Obj) } (upd H s.heap.objs.size (.tup rest)) E) [] σ' H' s' → RelV v' u' → Q v' H' →
        CE outer P w H s Q u' s' := fun {σ' H' v' u'} J rv' q => ⟨v', H', J.os, J.bare, un.trans J.base, J.hok, rv', q⟩
    cases fl with
    | ret u' =>
      obtain ⟨v', σ', H', J, rv', q⟩ := hs
      exact fin J rv' q
    | next =>
      obtain ⟨σ', H', J, q⟩ := hs
      exact fin (v' := V.non) (u' := Value.none) J rfl q
    | brk =>
      obtain ⟨_, _, _, q⟩ := hs
      exact False.elim q
    | cont =>
      obtain ⟨_, _, _, q⟩ := hs
      exact False.elim q
  · exact wpAny_mono hs (fun _ s'' z => cxNew0 outer s H _ _ rest E e s'' kp (Nat.le_refl _) hn z) fun e' s'' z => cxNew0 outer s H _ _ rest E e' s'' kp (Nat.le_refl _) hn z
section
variable {X : Cx} {x : Str} {f : Addr} {k : Nat} {sp : Sp} {E : XK} {e : Expr} {es : List Expr} {t : TA} {p pos : Pos}
theorem pe_callR0 (F : FnR X.prog X.w X.K X.mg X.base CX0 k f sp) (hr : Room k X.A) (hg : Gl X x) (hm : X.mg x = some (.ref f)) (hk : PySem.W.keepIn X.K (.ref f) = true) (ha : PA X (e :: es) t)
    (hdb : (x == ("__debug__" : Str)) = false := by decide) (he : starEach (e :: es) X.env = (false, eval e X.env) :: starEach es X.env := by rfl) (hpl : (backTo pos (starEach es X.env)).any (·.1) = false := by rfl) :
    PE X (.Call (.Name x p) (e :: es) [] pos) (tCall sp [] E0 t) := by
  refine ⟨fun pins s σ H Q I h => ?_⟩
  refine wpAny_Call_Name_kw (ld_glob I hg hm ?_ hdb)
  refine PySem.W.callWith_K (h₀ := X.base) I.ok.mod.kin hk (thn (ha.run pos pins s σ H _ I h) fun us s1 ⟨vs, H1, I1, r, q⟩ => ⟨I1.kIn, ?_⟩) he hpl
  have q2 : sp (vs ++ []) H1 Q E0 := q
  rw [List.append_nil] at q2
  exact wpAny_call (run_fnR F hr pass0 I1 r q2)
end
/-- a def of the top with one star parameter -/
def OkV (P : Program) (w : World) (K : PySem.W.Frag) (mg : Str → Option Value) (base : Heap) (k : Nat) (x : Str) (sp : Sp) : Prop :=
  FnR P w K mg base CX0 k (He.ga K x) sp ∧ mg x = some (.ref (He.ga K x)) ∧ PySem.W.keepIn K (.ref (He.ga K x)) = true
section
variable {P : Program} {w : World} {K : PySem.W.Frag} {mg : Str → Option Value} {base : Heap} {T : List NTab} {ds : List DI} {fr ts : List Str} {cs : List Kc}
theorem okV_of (c : Al K mg base ds fr ts cs) {x : Str} {st : Stmt} {N : List Str} {pv : Str} {k nmax : Nat} {F : FS} (hm : (x, st) ∈ ds) (hz : nmax ≤ sizeLine)
    (bd : ∀ (kV doc pm : Value) (an : Option Addr) (cdv ct : Value) (rest : List Value), rest.length ≤ nmax → bindArgs (PySem.W.fnOf x x (defArgs st) (defBody st) (defScope st) .none kV doc pm an cdv ct) ⟨rest, []⟩ = (newTuple rest >>= fun t => pure [(pv, t)]))
    (Sc : FnScope N [pv] (defScope st)) (len : ∀ as Q, F as Q → as.length = 1)
    (body : ∀ (f : Addr) (cdv : Value) (A : Around) (outer : List Env) (s : Shared) (H : Hp) (E : XK), Room k (A.deeper (envOfC x (defScope st) s.heap.objs.size f cdv)) → ∀ (as : List Ar) (Q : R → List OV → Prop) (qs : List Addr), F as Q → qs.length = owns as →
      ∃ t, PSs (cxOf CX0 P w K mg base N x (defScope st) f cdv A outer s H E).nox (defBody st) t ∧
        Ss K T t (slotsOf as qs ++ List.replicate (N.length - as.length) .no) { nx := fun δ' => ∃ us, Fin as qs δ' us ∧ Q (.val .none) us, rt := fun r δ' => ∃ us r', Fin as qs δ' us ∧ RetR as.length δ' r r' ∧ Q r' us }) :
    OkV P w K mg base (k + 1) x (spV nmax (spOf K T F)) := by
  obtain ⟨g, fd, Fn⟩ := c.df (x, st) hm
  refine ⟨?_, g, Fn.kp⟩
  obtain ⟨oc, od, kV, doc, pm, an, cdv, ct, osl, rfl, lk, hcd⟩ := Fn.ex
  refine fn_ofV0 lk hcd Sc hz (bd kV doc pm an cdv ct) fun A outer s H vs Q E hr h => ?_
  obtain ⟨Ad, Z, as, P, nd, hT, ha, hZ, f, fin⟩ := h
  obtain ⟨t, ht3, hs⟩ := body _ cdv A outer s H E hr as P Ad f (argsOk_len ha).2.1
  have s0 := entry (N := N) ha hZ nd hT
  have eo := entry_ow (n := N.length - vs.length) (Z := Z) ha
  rw [(argsOk_len ha).1] at s0 eo
  refine ⟨t, PSs.nox ht3, hs Z H _ s0 _ (fun σ' H' δ' s' g' ⟨us, q1, q2⟩ => ?_) (fun v σ' H' r δ' B' R1 ⟨us, r', q1, q2, q3⟩ => ?_) (fun _ _ _ _ _ z => z.elim) (fun _ _ _ _ _ z => z.elim)⟩
  · rw [eo] at g'
    exact fin .non H' (.val .none) us s'.tab ⟨g'.ext, g'.dom, fun a m => .inl m⟩ (leave0 s' q1) q2
  · have R2 := R1
    rw [eo] at R2
    have g' := R2.go
    exact fin v H' r' us R2.s.tab ⟨g'.ext, g'.dom, fun a m => .inl m⟩ (leave R2 q1 q2) q3
variable {X : Cx} {x : Str} {k : Nat} {sp : Sp} {e : Expr} {es : List Expr} {t : TA} {p pos : Pos}
theorem pe_fV (h : OkV X.prog X.w X.K X.mg X.base k x sp) (hr : Room k X.A) (hg : Gl X x) (ha : PA X (e :: es) t)
    (hdb : (x == ("__debug__" : Str)) = false := by decide) (he : starEach (e :: es) X.env = (false, eval e X.env) :: starEach es X.env := by rfl) (hpl : (backTo pos (starEach es X.env)).any (·.1) = false := by rfl) :
    PE X (.Call (.Name x p) (e :: es) [] pos) (tCall sp [] E0 t) := pe_callR0 h.1 hr hg h.2.1 h.2.2 ha hdb he hpl
end
section
variable {K : PySem.W.Frag} {T : List NTab} {B B' B1 : Lo} {A A0 : List Addr} {H0 H H' : Hp} {σ : L2.St} {δ δ' : List Sl} {v : V} {r : R} {P : R → List Sl → Prop}
/-- f(a, b, ..) of data; what comes back holds no list -/
theorem ex_callV {F : FS} {nmax : Nat} {ta : TA} {X : XK} (h : ExA K T ta δ fun rs δ1 => ∃ ds, Vals0 rs ds ∧ ds.length ≤ nmax ∧ F [.val (.tuple ds)] fun r us => RImm r us ∧ P r δ1) : Ex K T (tCall (spV nmax (spOf K T F)) [] X ta) δ P := fun B H σ s Q k =>
  h B H σ s _ fun vs H1 rs δ1 B1 R1 ⟨ds, a, hl, f⟩ => by
    obtain rfl := vals0_bx R1.bx a
    have hd := vals0_dp R1.vr a
    show spV nmax (spOf K T F) (vs ++ []) H1 Q X
    rw [List.append_nil]
    refine ⟨by rw [da_len hd]; exact hl, fun p hp => ?_⟩
    have s1 := R1.s.laid (o := .tup vs) hp
    have g1 : Go (ow δ1 B1) (ow δ1 B1) H1 (upd H1 p (.tup vs)) := go_upd hp
    have g2 := R1.go.trans g1
    have dp : Dp K (dl (upd H1 p (.tup vs)) []) (.ref p) (.tuple ds) := .tup (.inl (.inl (dl_of upd_same (by simp)))) (da_mono (dl_less fun a m => by cases m) _ _ (da_mono g1.rk _ _ hd))
    exact ⟨[], [], [.val (.tuple ds)], _, List.nodup_nil, s1.tab, ⟨dp, trivial⟩, (fun q hq => by cases hq), f, fun v H' r us hT g af p => rs_call (is := []) s1 g2 List.nodup_nil (fun i m => by cases m) hT g af p.1 k p.2⟩
end
section
variable {X : Cx} {K : PySem.W.Frag} {mg : Str → Option Value} {x z : Str} {zs : List Str} {i : Int} {p : Pos}
theorem pe_kT (h : (Kc.tup x zs).ok K X.mg) (hg : Gl X x) (hd : (x == ("__debug__" : Str)) = false := by decide) : PE X (.Name x p) (tC (.ref (He.ga K x))) := pe_glob hg h.1 rfl hd
theorem pe_kS (h : (Kc.str x z).ok K X.mg) (hg : Gl X x) (hd : (x == ("__debug__" : Str)) = false := by decide) : PE X (.Name x p) (tC (.str z)) := by
  obtain ⟨t, h⟩ := h
  exact pe_glob hg h ⟨t, rfl⟩ hd
theorem pe_kI (h : (Kc.int x i).ok K X.mg) (hg : Gl X x) (hd : (x == ("__debug__" : Str)) = false := by decide) : PE X (.Name x p) (tC (.int i)) := by
  obtain ⟨t, h⟩ := h
  exact pe_glob hg h ⟨t, rfl⟩ hd
end
section
variable {K : PySem.W.Frag} {T : List NTab} {δ : List Sl} {P : R → List Sl → Prop} {mg : Str → Option Value} {x : Str} {zs : List Str}
theorem ex_kT (h : (Kc.tup x zs).ok K mg) (p : P (.val (.tuple (zs.map .str))) δ) : Ex K T (tC (.ref (He.ga K x))) δ P := ex_c h.2 p
end
theorem Ok.fnR {P : Program} {w : World} {K : PySem.W.Frag} {mg : Str → Option Value} {base : Heap} {k : Nat} {x : Str} {ps : List Str} {sp : Sp} (h : Ok P w K mg base k x ps sp) : FnR P w K mg base CX0 k (He.ga K x) sp := by
  obtain ⟨fd, _, h1, h2, h3, h4⟩ := h
  exact (h1.raw h4 .nil).imp fun vs H Q E q => by rw [List.append_nil]; exact q
theorem pe_fn {X : Cx} {k : Nat} {x : Str} {ps : List Str} {sp : Sp} {p : Pos} (h : Ok X.prog X.w X.K X.mg X.base k x ps sp) (hg : Gl X x) (hd : (x == ("__debug__" : Str)) = false := by decide) : PE X (.Name x p) (tC (.ref (He.ga X.K x))) := by
  obtain ⟨fd, _, h1, h2, h3, h4⟩ := h
  exact pe_glob hg h2 rfl hd
end Pl
set_option Elab.async false
set_option linter.all false
set_option maxRecDepth 100000
set_option maxHeartbeats 1000001
namespace Pl
open PySem L2 LamX NdefX PyProof.Rows GenW PySem.W PySem.Calls
section
variable {K : PySem.W.Frag} {T : List NTab} {w : World} {B B' B1 : Lo} {A A0 : List Addr} {H0 H H' : Hp} {σ : L2.St} {δ δ' : List Sl} {v : V} {r : R} {E : Es} {te ta tb tc ty tv : TE} {tt t1 t2 : TT} {ts t u : TS} {g : TG} {P : R → List Sl → Prop}
/-- a name's list, from here on data -/
theorem ex_frzB {i : Nat} (h : ∃ a ds, δ[i]? = some (.own a (.lst ds)) ∧ P (.val (.list ds)) (δ.set i (.val (.list ds)))) : Ex K T (tVar i) δ P := fun B H σ s Q k => by
  obtain ⟨a, ds, hi, p⟩ := h
  have s1 := s.frzAt hi
  have hl : i < δ.length := (List.getElem?_eq_some_iff.mp hi).1
  obtain ⟨v, q1, q2⟩ := s1.ok i _ (List.getElem?_set_self hl)
  have sub : (ow (δ.set i (.val (.list ds))) B).Sublist (ow δ B) := ow_sub rfl
  exact ⟨v, q1, k v H (.val (.list ds)) _ B ⟨s1, Go.refl.less fun a m => sub.subset m, q2, rfl⟩ p⟩
theorem cb_abs {i : Int} {P : R → Prop} (p : P (.val (.int i.natAbs))) : CbD K (fun xs H Q => ∃ i, xs = [.int i] ∧ Q (.int (if i < 0 then -i else i)) H) [.int i] P := fun H vs Q h o => by
  obtain ⟨v, rfl, h1⟩ := da_1 h
  cases h1
  refine ⟨i, rfl, ?_⟩
  have e : (if i < 0 then -i else i) = (i.natAbs : Int) := by split <;> omega
  rw [e]
  exact o.val _ _ (.int _) p
end
theorem turnW_yes {K : PySem.W.Frag} {T : List NTab} {i : Nat} {te : TE} {δ : List Sl} {d : D} {acc : List D} {W : List Sl → List D → Prop} (h : Ex K T te (δ.set i (.val d)) fun r δ3 => ∃ z δ4, r = .val z ∧ δ3 = δ4.set i (.val d) ∧ δ4[i]? = some .no ∧ acc.length < 100000 ∧ W δ4 (acc ++ [z])) :
    TurnW K T i tYes te δ d acc W := fun B H σ s Q q => q true H _ s .refl (by
  show if true = true then _ else _
  rw [if_pos rfl]
  exact h)
def rCatS (K : PySem.W.Frag) : R2 := fun x y H Q => ∃ a b xs zs, x = .ref a ∧ y = .ref b ∧ SqL K H a xs ∧ SqL K H b zs ∧ xs.length + zs.length ≤ sizeLine ∧ ∀ p, H p = none → Q (.ref p) (upd H p (.lst (xs ++ zs)))
theorem op_catS {X : Cx} : OpR X (binaryOp .Add) (rCatS X.K) := by
  intro pins s σ H x y v u Q I rx ry h
  obtain ⟨l, b, xs, zs, rfl, rfl, hH, hB, hz, q⟩ := h
  cases rx
  cases ry
  obtain ⟨its, r, hl, z1⟩ := I.list hH
  obtain ⟨its2, r2, hb, z2⟩ := I.list hB
  obtain ⟨⟨cls, dd, data, sl⟩, ho, hc, n, hd⟩ := hl.isList
  obtain ⟨⟨cls2, dd2, data2, sl2⟩, ho2, hc2, n2, hd2⟩ := hb.isList
  simp only at hc hd hc2 hd2
  subst hc hd hc2 hd2
  have e : its.toArray ++ its2.toArray = (its ++ its2).toArray := by simp
  refine concat_meets ⟨_, ho, rfl⟩ ⟨_, ho2, rfl⟩ noFill_list_add seq_list_add PySem.F.slot_list_add PySem.F.entry_list_add (PySem.F.args_list_add_2 _ _) (list_addW l b its.toArray its2.toArray n n2 dd dd2 sl sl2 (by rw [List.size_toArray, List.size_toArray, ← r.length, ← r2.length]; exact hz)) ⟨ho, ho2, ?_⟩
  rw [e]
  exact ⟨.ref _, _, I.lnew (t' := s.toks) (r.append r2) (by rw [List.length_append]; omega), rfl, q _ I.fresh⟩
section
variable {K : PySem.W.Frag}
theorem imm_app {ds es : List D} (h1 : immAll ds = true) (h2 : immAll es = true) : immAll (ds ++ es) = true := immAll_mem.mpr fun d m => (List.mem_append.mp m).elim (immAll_mem.mp h1 d) (immAll_mem.mp h2 d)
theorem opd_catL {ds es : List D} {P : R → Prop} (hi : immAll ds = true) (hj : immAll es = true) (hl : ds.length + es.length ≤ 100000) (p : P (.new (.lst (ds ++ es)))) : OpD K (rCatS K) (.list ds) (.list es) P := fun H v w Q h1 h2 o => by
  obtain ⟨a, xs, rfl, hs, ha⟩ := dp_l h1
  obtain ⟨b, ys, rfl, hs2, ha2⟩ := dp_l h2
  exact ⟨a, b, xs, ys, rfl, rfl, hs, hs2, by rw [da_len ha, da_len ha2]; exact Nat.le_trans hl (by decide), fun q hq => o.lst q _ _ hq (da_app ha ha2) (imm_app hi hj) p⟩
end
end Pl
set_option Elab.async false
set_option linter.all false
set_option maxRecDepth 100000
set_option maxHeartbeats 1000001
namespace Pl
open PySem L2 LamX NdefX PyProof.Rows GenW PySem.W PySem.Calls
theorem iteT {b : Prop} [Decidable b] {P Q : Prop} (h : b) (p : P) : if b then P else Q := by rw [if_pos h]; exact p
theorem iteF {b : Prop} [Decidable b] {P Q : Prop} (h : ¬ b) (q : Q) : if b then P else Q := by rw [if_neg h]; exact q
theorem iteC {b : Prop} [Decidable b] {P Q : Prop} (p : b → P) (q : ¬ b → Q) : if b then P else Q := by
  by_cases h : b
  · rw [if_pos h]; exact p h
  · rw [if_neg h]; exact q h
/-- a test by what it decides -/
theorem iteD {c : Prop} [Decidable c] {P Q : Prop} (p : c → P) (q : ¬ c → Q) : if decide c = true then P else Q := iteC (fun h => p (of_decide_eq_true h)) (fun h => q (of_decide_eq_false (Bool.eq_false_iff.mpr h)))
theorem iteN {c : Prop} [Decidable c] {P Q : Prop} (p : ¬ c → P) (q : c → Q) : if (!decide c) = true then P else Q := by
  by_cases h : c
  · rw [decide_eq_true h]; exact q h
  · rw [decide_eq_false h]; exact p h
theorem iteB {b : Bool} {P Q : Prop} (p : b = true → P) (q : b = false → Q) : if b = true then P else Q := by
  cases b
  · exact q rfl
  · exact p rfl
section
variable {K : PySem.W.Frag} {T : List NTab} {δ δ' : List Sl} {te ta tb tv ty : TE} {tt t1 t2 : TT} {ts t u : TS} {g : TG} {P : R → List Sl → Prop} {nx bk ct : List Sl → Prop} {rt : R → List Sl → Prop}
theorem go_seq (h : Ss K T t δ ⟨fun δ1 => Ss K T u δ1 ⟨nx, rt, bk, ct⟩, rt, bk, ct⟩) : Ss K T (tSeq t u) δ ⟨nx, rt, bk, ct⟩ := ss_seq h
/-- what holds in between -/
theorem go_cut (N : List Sl → Prop) (h : Ss K T t δ ⟨N, rt, bk, ct⟩) (k : ∀ δ', N δ' → Ss K T u δ' ⟨nx, rt, bk, ct⟩) : Ss K T (tSeq t u) δ ⟨nx, rt, bk, ct⟩ := ss_seq (h.imp k (fun _ _ q => q) (fun _ q => q) (fun _ q => q))
theorem go_next (h : nx δ) : Ss K T tNext δ ⟨nx, rt, bk, ct⟩ := ss_next h
theorem go_break (h : bk δ) : Ss K T tBreak δ ⟨nx, rt, bk, ct⟩ := ss_break h
theorem go_cont (h : ct δ) : Ss K T tCont δ ⟨nx, rt, bk, ct⟩ := ss_cont h
theorem go_set {i : Nat} (h : Ex K T te δ fun r δ1 => StoreR i δ1 nx r) : Ss K T (tAsg te (gName i)) δ ⟨nx, rt, bk, ct⟩ := ss_set h
theorem go_ret (h : Ex K T te δ rt) : Ss K T (tRet te) δ ⟨nx, rt, bk, ct⟩ := ss_ret h
theorem go_retN (h : rt (.val .none) δ) : Ss K T tRetN δ ⟨nx, rt, bk, ct⟩ := ss_retN h
theorem go_drop (h : Ex K T te δ fun _ δ1 => nx δ1) : Ss K T (tDrop te) δ ⟨nx, rt, bk, ct⟩ := ss_drop h
theorem go_if (h : ExT K T tt δ fun b δ1 => if b = true then Ss K T t δ1 ⟨nx, rt, bk, ct⟩ else Ss K T u δ1 ⟨nx, rt, bk, ct⟩) : Ss K T (tIfS tt t u) δ ⟨nx, rt, bk, ct⟩ := ss_if h
theorem go_setL {i : Nat} {ti : TE} (h : Ex K T te δ fun r δ1 => ∃ d, r = .val d ∧ (∃ a u, δ1[i]? = some (.own a u)) ∧ Ex K T ti δ1 fun r2 δ2 => ∃ (j : Int) (k : Nat) (a : Addr) (ds : List D), r2 = .val (.int j) ∧ δ2[i]? = some (.own a (.lst ds)) ∧ ixN ds.length j = some k ∧ nx (δ2.set i (.own a (.lst (ds.set k d))))) :
    Ss K T (tAsg te (gSub (tVar i) ti rSetL)) δ ⟨nx, rt, bk, ct⟩ := ss_setL h
/-- a loop over a tuple: W turns-done slots -/
theorem go_forT (ds : List D) (W : Nat → List Sl → Prop) {i : Nat} (h : Ex K T te δ fun r δ1 => r = .val (.tuple ds) ∧ W 0 δ1)
    (s : ∀ k d δ2, ds[k]? = some d → W k δ2 → Ss K T t (δ2.set i (.val d)) ⟨W (k + 1), rt, nx, W (k + 1)⟩) (e : ∀ δ2, W ds.length δ2 → nx δ2) : Ss K T (tFor (iTup K te) (gName i) t) δ ⟨nx, rt, bk, ct⟩ :=
  ss_forT (h.imp fun r δ1 ⟨e1, w⟩ => ⟨ds, e1, W, w, fun k d δ2 hk w => gt_name (s k d δ2 hk w), e⟩)
theorem go_forL (ds : List D) (W : Nat → List Sl → Prop) {i : Nat} (h : Ex K T te δ fun r δ1 => Fz r (.list ds) ∧ W 0 δ1)
    (s : ∀ k d δ2, ds[k]? = some d → W k δ2 → Ss K T t (δ2.set i (.val d)) ⟨W (k + 1), rt, nx, W (k + 1)⟩) (e : ∀ δ2, W ds.length δ2 → nx δ2) : Ss K T (tFor (iList K te) (gName i) t) δ ⟨nx, rt, bk, ct⟩ :=
  ss_forL (h.imp fun r δ1 ⟨e1, w⟩ => ⟨ds, e1, W, w, fun k d δ2 hk w => gt_name (s k d δ2 hk w), e⟩)
theorem go_forR (n : Nat) (W : Nat → List Sl → Prop) {ta : TA} {i : Nat} (hn : n ≤ 1000000) (h : ExA K T ta δ fun rs δ1 => rs = [.val (.int n)] ∧ W 0 δ1)
    (s : ∀ k δ2, k < n → W k δ2 → Ss K T t (δ2.set i (.val (.int k))) ⟨W (k + 1), rt, nx, W (k + 1)⟩) (e : ∀ δ2, W n δ2 → nx δ2) : Ss K T (tFor (iRng1 ta) (gName i) t) δ ⟨nx, rt, bk, ct⟩ :=
  ss_forR fun B H σ S1 Q k => h B H σ S1 Q fun vs H1 rs δ1 B1 R1 ⟨e1, w⟩ => k vs H1 rs δ1 B1 R1 ⟨n, e1, by omega, by omega, W, w, fun k δ2 hk w => s k δ2 (by omega) w, fun δ2 w => e δ2 (by rw [Int.toNat_natCast] at w; exact w)⟩
theorem go_while {W : Nat → List Sl → Prop} (m : Nat) (h0 : W m δ) (h : ∀ m δ, W m δ → ExT K T tt δ fun b δ1 => if b = true then Ss K T t δ1 ⟨fun δ' => ∃ m', m' < m ∧ W m' δ', rt, nx, fun δ' => ∃ m', m' < m ∧ W m' δ'⟩ else nx δ1) :
    Ss K T (tWhile tt t) δ ⟨nx, rt, bk, ct⟩ := ss_while ⟨m, h0⟩ h
theorem rim {d : D} (h : imm d = true) : RImm (.val d) [] := ⟨h, fun _ h => nomatch h⟩
theorem rimL {ds : List D} (h : immAll ds = true) : RImm (.new (.lst ds)) [] := ⟨h, fun _ h => nomatch h⟩
theorem rim1 {d : D} {ds : List D} (h : imm d = true) (k : immAll ds = true) : RImm (.val d) [.lst ds] := ⟨h, fun u m => by rw [List.mem_singleton.mp m]; exact k⟩
theorem rimL1 {es ds : List D} (h : immAll es = true) (k : immAll ds = true) : RImm (.new (.lst es)) [.lst ds] := ⟨h, fun u m => by rw [List.mem_singleton.mp m]; exact k⟩
theorem rim2 {d : D} {ds es : List D} (h : imm d = true) (k : immAll ds = true) (l : immAll es = true) : RImm (.val d) [.lst ds, .lst es] := ⟨h, fun u m => by
  rcases List.mem_cons.mp m with e | m
  · rw [e]; exact k
  · rw [List.mem_singleton.mp m]; exact l⟩
end
end Pl
set_option Elab.async false
set_option linter.all false
set_option maxRecDepth 100000
set_option maxHeartbeats 1000001
namespace Pl
open PySem L2
inductive Tm where
  | top
  | bot
  | name (w : Str)
  | some (r : Str) (t : Tm)
  | and (ts : List Tm)
mutual
def Tm.d : Tm → D
  | .top => .tuple [.str "top"]
  | .bot => .tuple [.str "bottom"]
  | .name w => .tuple [.str "name", .str w]
  | .some r t => .tuple [.str "some", .str r, t.d]
  | .and ts => .tuple [.str "and", .tuple (Tm.dL ts)]
def Tm.dL : List Tm → List D
  | [] => []
  | t :: ts => t.d :: Tm.dL ts
end
theorem Tm.dL_map : ∀ ts : List Tm, Tm.dL ts = ts.map Tm.d
  | [] => rfl
  | t :: ts => by rw [Tm.dL, Tm.dL_map ts]; rfl
mutual
/-- the height, 1 for a leaf -/
def Tm.ht : Tm → Nat
  | .some _ t => t.ht + 1
  | .and ts => Tm.htL ts + 1
  | _ => 1
def Tm.htL : List Tm → Nat
  | [] => 0
  | t :: ts => max t.ht (Tm.htL ts)
end
mutual
/-- how many tuples -/
def Tm.cnt : Tm → Nat
  | .some _ t => t.cnt + 1
  | .and ts => Tm.cntL ts + 1
  | _ => 1
def Tm.cntL : List Tm → Nat
  | [] => 0
  | t :: ts => t.cnt + Tm.cntL ts
end
mutual
theorem Tm.imm_d : ∀ t : Tm, imm t.d = true
  | .top => rfl
  | .bot => rfl
  | .name _ => rfl
  | .some r t => by
    show (true && (true && (imm t.d && true))) = true
    rw [Tm.imm_d t]
    rfl
  | .and ts => by
    show (true && (immAll (Tm.dL ts) && true)) = true
    rw [Tm.imm_dL ts]
    rfl
theorem Tm.imm_dL : ∀ ts : List Tm, immAll (Tm.dL ts) = true
  | [] => rfl
  | t :: ts => by
    show (imm t.d && immAll (Tm.dL ts)) = true
    rw [Tm.imm_d t, Tm.imm_dL ts]
    rfl
end
mutual
/-- the parts of and within and -/
def Tm.raw : Tm → List Tm
  | .top => []
  | .bot => [.bot]
  | .name w => [.name w]
  | .some r t => [.some r t]
  | .and ts => Tm.rawL ts
def Tm.rawL : List Tm → List Tm
  | [] => []
  | t :: ts => t.raw ++ Tm.rawL ts
end
theorem Tm.htL_le : ∀ {ts : List Tm} {t : Tm}, t ∈ ts → t.ht ≤ Tm.htL ts
  | u :: ts, t, h => by
    rcases List.mem_cons.mp h with e | h
    · rw [e]; exact Nat.le_max_left _ _
    · exact Nat.le_trans (Tm.htL_le h) (Nat.le_max_right _ _)
theorem Tm.cntL_le : ∀ {ts : List Tm} {t : Tm}, t ∈ ts → t.cnt ≤ Tm.cntL ts
  | u :: ts, t, h => by
    rcases List.mem_cons.mp h with e | h
    · rw [e]; exact Nat.le_add_right _ _
    · exact Nat.le_trans (Tm.cntL_le h) (Nat.le_add_left _ _)
theorem Tm.cnt_pos : ∀ t : Tm, 1 ≤ t.cnt
  | .top => Nat.le_refl _
  | .bot => Nat.le_refl _
  | .name _ => Nat.le_refl _
  | .some _ _ => Nat.le_add_left _ _
  | .and _ => Nat.le_add_left _ _
theorem Tm.ht_pos : ∀ t : Tm, 1 ≤ t.ht
  | .top => Nat.le_refl _
  | .bot => Nat.le_refl _
  | .name _ => Nat.le_refl _
  | .some _ _ => Nat.le_add_left _ _
  | .and _ => Nat.le_add_left _ _
theorem Tm.len_cntL : ∀ ts : List Tm, ts.length ≤ Tm.cntL ts
  | [] => Nat.le_refl _
  | t :: ts => by
    have h1 := Tm.cnt_pos t
    have h2 := Tm.len_cntL ts
    show ts.length + 1 ≤ t.cnt + Tm.cntL ts
    omega
theorem Tm.rawL_flat : ∀ ts : List Tm, Tm.rawL ts = ts.flatMap Tm.raw
  | [] => rfl
  | t :: ts => by rw [Tm.rawL, Tm.rawL_flat ts]; rfl
mutual
theorem Tm.raw_len : ∀ t : Tm, t.raw.length ≤ t.cnt
  | .top => Nat.zero_le _
  | .bot => Nat.le_refl _
  | .name _ => Nat.le_refl _
  | .some _ t => Nat.le_add_left _ _
  | .and ts => Nat.le_succ_of_le (Tm.rawL_len ts)
theorem Tm.rawL_len : ∀ ts : List Tm, (Tm.rawL ts).length ≤ Tm.cntL ts
  | [] => Nat.le_refl _
  | t :: ts => by
    show (t.raw ++ Tm.rawL ts).length ≤ _
    rw [List.length_append]
    exact Nat.add_le_add (Tm.raw_len t) (Tm.rawL_len ts)
end
end Pl
set_option Elab.async false
set_option linter.all false
set_option maxRecDepth 100000
set_option maxHeartbeats 4000001
namespace K02
open PySem L2 LamX NdefX PyProof.Rows GenW Pl
def top (i : Nat) : Stmt := PySem.Challenge.pw_notionary_k02_equal_terms.main.body.getD i (.Pass ⟨0, 0, 0, 0⟩)
def ds : List DI := [(("is_word" : Str), top 10), (("direct_parts" : Str), top 11), (("is_term" : Str), top 12), (("check_term" : Str), top 13), (("raw_conjuncts" : Str), top 14), (("is_void" : Str), top 15), (("is_met" : Str), top 16), (("meets_all" : Str), top 17), (("plain_below" : Str), top 18), (("write" : Str), top 19), (("atom_key" : Str), top 20), (("join_atoms" : Str), top 21), (("is_implied" : Str), top 22), (("make_normal" : Str), top 23), (("normal" : Str), top 24), (("conjuncts" : Str), top 25), (("both" : Str), top 26), (("below" : Str), top 27), (("normal_size" : Str), top 28), (("size_of" : Str), top 29), (("shown" : Str), top 30), (("_law_cell" : Str), top 32), (("_law_open" : Str), top 33), (("_law_take" : Str), top 34), (("_law_reserved" : Str), top 35), (("_law_is_word" : Str), top 36), (("_law_is_term" : Str), top 37), (("_law_word" : Str), top 38), (("_law_words" : Str), top 39), (("_law_pool" : Str), top 40), (("_law_term" : Str), top 41), (("_law_chain" : Str), top 42), (("_law_wide" : Str), top 43), (("_law_root" : Str), top 44), (("_law_weak" : Str), top 45), (("_law_other" : Str), top 46), (("_law_change" : Str), top 47), (("_law_alike" : Str), top 48), (("_law_count" : Str), top 49), (("_law_height" : Str), top 50), (("_law_within" : Str), top 51), (("_law_conjuncts" : Str), top 52), (("_law_void" : Str), top 53), (("_law_met" : Str), top 54), (("_law_under" : Str), top 55), (("_law_written" : Str), top 56), (("_law_same" : Str), top 57), (("_law_row_is_normal" : Str), top 58), (("_law_is_normal" : Str), top 59), (("_law_size" : Str), top 60), (("_law_judged" : Str), top 61), (("_law_fine" : Str), top 62), (("_law_meet" : Str), top 63), (("_law_within_terms" : Str), top 64), (("_law_twins" : Str), top 65), (("law" : Str), top 66)]
def cs : List Kc := [.tup "TOP" ["top"], .tup "BOTTOM" ["bottom"], .str "LETTERS" "abcdefghijklmnopqrstuvwxyz", .str "WORD_SIGNS" "abcdefghijklmnopqrstuvwxyz0123456789", .int "WORD_LENGTH" 12, .tup "RESERVED" ["and", "apart", "bottom", "clash", "eq", "is", "link", "range", "role", "some", "sub", "then", "thing", "top"]]
def fr : List Str := ["all", "isinstance", "str", "len", "tuple", "list", "sorted", "int", "sum", "abs", "range", "reversed", "max", "bool"]
theorem sc_is_word : FnScope ["value", "sign"] ["value"] (defScope (top 10)) := ⟨rfl, rfl, rfl, by decide +kernel, rfl, by decide +kernel, by decide +kernel⟩
theorem sc_direct_parts : FnScope ["value"] ["value"] (defScope (top 11)) := ⟨rfl, rfl, rfl, by decide +kernel, rfl, by decide +kernel, by decide +kernel⟩
theorem sc_is_term : FnScope ["value", "waiting", "parts"] ["value"] (defScope (top 12)) := ⟨rfl, rfl, rfl, by decide +kernel, rfl, by decide +kernel, by decide +kernel⟩
theorem sc_check_term : FnScope ["value"] ["value"] (defScope (top 13)) := ⟨rfl, rfl, rfl, by decide +kernel, rfl, by decide +kernel, by decide +kernel⟩
theorem sc_raw_conjuncts : FnScope ["term", "found", "part"] ["term"] (defScope (top 14)) := ⟨rfl, rfl, rfl, by decide +kernel, rfl, by decide +kernel, by decide +kernel⟩
theorem sc_is_void : FnScope ["term", "atom"] ["term"] (defScope (top 15)) := ⟨rfl, rfl, rfl, by decide +kernel, rfl, by decide +kernel, by decide +kernel⟩
theorem sc_is_met : FnScope ["atom", "others", "other"] ["atom", "others"] (defScope (top 16)) := ⟨rfl, rfl, rfl, by decide +kernel, rfl, by decide +kernel, by decide +kernel⟩
theorem sc_meets_all : FnScope ["one", "other", "atoms", "atom"] ["one", "other"] (defScope (top 17)) := ⟨rfl, rfl, rfl, by decide +kernel, rfl, by decide +kernel, by decide +kernel⟩
theorem sc_plain_below : FnScope ["one", "other"] ["one", "other"] (defScope (top 18)) := ⟨rfl, rfl, rfl, by decide +kernel, rfl, by decide +kernel, by decide +kernel⟩
theorem sc_write : FnScope ["term", "inner", "part"] ["term"] (defScope (top 19)) := ⟨rfl, rfl, rfl, by decide +kernel, rfl, by decide +kernel, by decide +kernel⟩
theorem sc_atom_key : FnScope ["atom"] ["atom"] (defScope (top 20)) := ⟨rfl, rfl, rfl, by decide +kernel, rfl, by decide +kernel, by decide +kernel⟩
theorem sc_join_atoms : FnScope ["atoms", "found", "atom", "different", "kept"] ["atoms"] (defScope (top 21)) := ⟨rfl, rfl, rfl, by decide +kernel, rfl, by decide +kernel, by decide +kernel⟩
theorem sc_is_implied : FnScope ["atom", "atoms", "other"] ["atom", "atoms"] (defScope (top 22)) := ⟨rfl, rfl, rfl, by decide +kernel, rfl, by decide +kernel, by decide +kernel⟩
theorem sc_make_normal : FnScope ["term", "found", "atom", "inner"] ["term"] (defScope (top 23)) := ⟨rfl, rfl, rfl, by decide +kernel, rfl, by decide +kernel, by decide +kernel⟩
theorem sc_normal : FnScope ["term"] ["term"] (defScope (top 24)) := ⟨rfl, rfl, rfl, by decide +kernel, rfl, by decide +kernel, by decide +kernel⟩
theorem sc_conjuncts : FnScope ["term"] ["term"] (defScope (top 25)) := ⟨rfl, rfl, rfl, by decide +kernel, rfl, by decide +kernel, by decide +kernel⟩
theorem sc_both : FnScope ["terms", "term"] ["terms"] (defScope (top 26)) := ⟨rfl, rfl, rfl, by decide +kernel, rfl, by decide +kernel, by decide +kernel⟩
theorem sc_below : FnScope ["one", "other"] ["one", "other"] (defScope (top 27)) := ⟨rfl, rfl, rfl, by decide +kernel, rfl, by decide +kernel, by decide +kernel⟩
theorem sc_normal_size : FnScope ["term", "count", "atom"] ["term"] (defScope (top 28)) := ⟨rfl, rfl, rfl, by decide +kernel, rfl, by decide +kernel, by decide +kernel⟩
theorem sc_size_of : FnScope ["term"] ["term"] (defScope (top 29)) := ⟨rfl, rfl, rfl, by decide +kernel, rfl, by decide +kernel, by decide +kernel⟩
theorem sc_shown : FnScope ["term"] ["term"] (defScope (top 30)) := ⟨rfl, rfl, rfl, by decide +kernel, rfl, by decide +kernel, by decide +kernel⟩
theorem sc__law_cell : FnScope ["script", "k", "one"] ["script", "k"] (defScope (top 32)) := ⟨rfl, rfl, rfl, by decide +kernel, rfl, by decide +kernel, by decide +kernel⟩
theorem sc__law_open : FnScope ["script", "k", "cell"] ["script", "k"] (defScope (top 33)) := ⟨rfl, rfl, rfl, by decide +kernel, rfl, by decide +kernel, by decide +kernel⟩
theorem sc__law_take : FnScope ["box", "many", "mixed", "digit"] ["box", "many"] (defScope (top 34)) := ⟨rfl, rfl, rfl, by decide +kernel, rfl, by decide +kernel, by decide +kernel⟩
theorem sc__law_reserved : FnScope ["found"] [] (defScope (top 35)) := ⟨rfl, rfl, rfl, by decide +kernel, rfl, by decide +kernel, by decide +kernel⟩
theorem sc__law_is_word : FnScope ["value", "letters", "sign"] ["value"] (defScope (top 36)) := ⟨rfl, rfl, rfl, by decide +kernel, rfl, by decide +kernel, by decide +kernel⟩
theorem sc__law_is_term : FnScope ["value", "part"] ["value"] (defScope (top 37)) := ⟨rfl, rfl, rfl, by decide +kernel, rfl, by decide +kernel, by decide +kernel⟩
theorem sc__law_word : FnScope ["box", "letters", "word", "k"] ["box"] (defScope (top 38)) := ⟨rfl, rfl, rfl, by decide +kernel, rfl, by decide +kernel, by decide +kernel⟩
theorem sc__law_words : FnScope ["box", "many", "free", "menu", "start", "step", "found", "k"] ["box", "many", "free"] (defScope (top 39)) := ⟨rfl, rfl, rfl, by decide +kernel, rfl, by decide +kernel, by decide +kernel⟩
theorem sc__law_pool : FnScope ["box", "free", "empty", "labels", "ties"] ["box"] (defScope (top 40)) := ⟨rfl, rfl, rfl, by decide +kernel, rfl, by decide +kernel, by decide +kernel⟩
theorem sc__law_term : FnScope ["box", "pool", "deep", "left", "kind", "parts", "k", "tie"] ["box", "pool", "deep", "left"] (defScope (top 41)) := ⟨rfl, rfl, rfl, by decide +kernel, rfl, by decide +kernel, by decide +kernel⟩
theorem sc__law_chain : FnScope ["box", "pool", "deep", "room", "term", "size", "high", "k", "tie"] ["box", "pool", "deep", "room"] (defScope (top 42)) := ⟨rfl, rfl, rfl, by decide +kernel, rfl, by decide +kernel, by decide +kernel⟩
theorem sc__law_wide : FnScope ["box", "pool", "room", "start", "parts", "k", "label", "tie"] ["box", "pool", "room"] (defScope (top 43)) := ⟨rfl, rfl, rfl, by decide +kernel, rfl, by decide +kernel, by decide +kernel⟩
theorem sc__law_root : FnScope ["box", "pool", "deep", "room", "way", "left", "parts", "k"] ["box", "pool", "deep", "room"] (defScope (top 44)) := ⟨rfl, rfl, rfl, by decide +kernel, rfl, by decide +kernel, by decide +kernel⟩
theorem sc__law_weak : FnScope ["box", "term", "kind", "parts", "part"] ["box", "term"] (defScope (top 45)) := ⟨rfl, rfl, rfl, by decide +kernel, rfl, by decide +kernel, by decide +kernel⟩
theorem sc__law_other : FnScope ["box", "pool", "term", "label", "tie", "menu"] ["box", "pool", "term"] (defScope (top 46)) := ⟨rfl, rfl, rfl, by decide +kernel, rfl, by decide +kernel, by decide +kernel⟩
theorem sc__law_change : FnScope ["box", "pool", "term", "at"] ["box", "pool", "term"] (defScope (top 47)) := ⟨rfl, rfl, rfl, by decide +kernel, rfl, by decide +kernel, by decide +kernel⟩
theorem sc__law_alike : FnScope ["box", "term", "kind", "turned", "parts", "at", "part"] ["box", "term"] (defScope (top 48)) := ⟨rfl, rfl, rfl, by decide +kernel, rfl, by decide +kernel, by decide +kernel⟩
theorem sc__law_count : FnScope ["term", "part"] ["term"] (defScope (top 49)) := ⟨rfl, rfl, rfl, by decide +kernel, rfl, by decide +kernel, by decide +kernel⟩
theorem sc__law_height : FnScope ["term", "part"] ["term"] (defScope (top 50)) := ⟨rfl, rfl, rfl, by decide +kernel, rfl, by decide +kernel, by decide +kernel⟩
theorem sc__law_within : FnScope ["term", "plain"] ["term", "plain"] (defScope (top 51)) := ⟨rfl, rfl, rfl, by decide +kernel, rfl, by decide +kernel, by decide +kernel⟩
theorem sc__law_conjuncts : FnScope ["term", "found", "part"] ["term"] (defScope (top 52)) := ⟨rfl, rfl, rfl, by decide +kernel, rfl, by decide +kernel, by decide +kernel⟩
theorem sc__law_void : FnScope ["term", "one"] ["term"] (defScope (top 53)) := ⟨rfl, rfl, rfl, by decide +kernel, rfl, by decide +kernel, by decide +kernel⟩
theorem sc__law_met : FnScope ["want", "have", "one"] ["want", "have"] (defScope (top 54)) := ⟨rfl, rfl, rfl, by decide +kernel, rfl, by decide +kernel, by decide +kernel⟩
theorem sc__law_under : FnScope ["one", "other", "have", "want"] ["one", "other"] (defScope (top 55)) := ⟨rfl, rfl, rfl, by decide +kernel, rfl, by decide +kernel, by decide +kernel⟩
theorem sc__law_written : FnScope ["term", "inner", "part"] ["term"] (defScope (top 56)) := ⟨rfl, rfl, rfl, by decide +kernel, rfl, by decide +kernel, by decide +kernel⟩
theorem sc__law_same : FnScope ["actual", "due", "k"] ["actual", "due"] (defScope (top 57)) := ⟨rfl, rfl, rfl, by decide +kernel, rfl, by decide +kernel, by decide +kernel⟩
theorem sc__law_row_is_normal : FnScope ["parts", "keys", "one", "k", "j"] ["parts"] (defScope (top 58)) := ⟨rfl, rfl, rfl, by decide +kernel, rfl, by decide +kernel, by decide +kernel⟩
theorem sc__law_is_normal : FnScope ["term"] ["term"] (defScope (top 59)) := ⟨rfl, rfl, rfl, by decide +kernel, rfl, by decide +kernel, by decide +kernel⟩
theorem sc__law_size : FnScope ["term", "part"] ["term"] (defScope (top 60)) := ⟨rfl, rfl, rfl, by decide +kernel, rfl, by decide +kernel, by decide +kernel⟩
theorem sc__law_judged : FnScope ["term", "told"] ["term", "told"] (defScope (top 61)) := ⟨rfl, rfl, rfl, by decide +kernel, rfl, by decide +kernel, by decide +kernel⟩
theorem sc__law_fine : FnScope ["term", "told"] ["term", "told"] (defScope (top 62)) := ⟨rfl, rfl, rfl, by decide +kernel, rfl, by decide +kernel, by decide +kernel⟩
theorem sc__law_meet : FnScope ["one", "other", "due", "told", "second"] ["one", "other", "due", "told", "second"] (defScope (top 63)) := ⟨rfl, rfl, rfl, by decide +kernel, rfl, by decide +kernel, by decide +kernel⟩
theorem sc__law_within_terms : FnScope ["tie", "one", "other", "more", "due", "wide"] ["tie", "one", "other", "more", "due"] (defScope (top 64)) := ⟨rfl, rfl, rfl, by decide +kernel, rfl, by decide +kernel, by decide +kernel⟩
theorem sc__law_twins : FnScope ["tie", "one", "other", "more", "joined", "inner"] ["tie", "one", "other", "more"] (defScope (top 65)) := ⟨rfl, rfl, rfl, by decide +kernel, rfl, by decide +kernel, by decide +kernel⟩
theorem sc_law : FnScope ["script", "pool", "box", "plain", "alike", "bent", "weaker", "more", "listed", "told", "k", "tie", "small", "one", "j", "other", "due"] ["script"] (defScope (top 66)) := ⟨rfl, rfl, rfl, by decide +kernel, rfl, by decide +kernel, by decide +kernel⟩
end K02
set_option Elab.async false
set_option linter.all false
set_option maxRecDepth 100000
set_option maxHeartbeats 0
namespace K02
open PySem L2 LamX NdefX PyProof.Rows GenW Pl
abbrev theLaw : PySem.W.OpenLaw := PySem.Challenge.rw_notionary_k02_equal_terms
abbrev theRow : PySem.W.OpenRow := PySem.W.OpenLaw.row theLaw
def fa : List He.Fa := ds.map (fun x => .glo x.1) ++ fr.map .free ++ cs.map Kc.fa
def fn : List He.DefD := ds.map DI.d
def tn : List Str := []
abbrev hk : PySem.W.Hook := hookT 2 fa fn tn cs
def ob (s : PySem.W.SharedT) : He.AlD × Bool := obsT 2 fa fn tn cs (HandSHeadRun.getT s)
theorem ob_eq (s : PySem.W.SharedT) : ob s = hk.obs s.abs := obsT_eq (HandSHeadRun.getT_eq s)
def names : List Str := [("is_word" : Str), ("direct_parts" : Str), ("is_term" : Str), ("check_term" : Str), ("raw_conjuncts" : Str), ("is_void" : Str), ("is_met" : Str), ("meets_all" : Str), ("plain_below" : Str), ("write" : Str), ("atom_key" : Str), ("join_atoms" : Str), ("is_implied" : Str), ("make_normal" : Str), ("normal" : Str), ("conjuncts" : Str), ("both" : Str), ("below" : Str), ("normal_size" : Str), ("size_of" : Str), ("shown" : Str), ("_law_cell" : Str), ("_law_open" : Str), ("_law_take" : Str), ("_law_reserved" : Str), ("_law_is_word" : Str), ("_law_is_term" : Str), ("_law_word" : Str), ("_law_words" : Str), ("_law_pool" : Str), ("_law_term" : Str), ("_law_chain" : Str), ("_law_wide" : Str), ("_law_root" : Str), ("_law_weak" : Str), ("_law_other" : Str), ("_law_change" : Str), ("_law_alike" : Str), ("_law_count" : Str), ("_law_height" : Str), ("_law_within" : Str), ("_law_conjuncts" : Str), ("_law_void" : Str), ("_law_met" : Str), ("_law_under" : Str), ("_law_written" : Str), ("_law_same" : Str), ("_law_row_is_normal" : Str), ("_law_is_normal" : Str), ("_law_size" : Str), ("_law_judged" : Str), ("_law_fine" : Str), ("_law_meet" : Str), ("_law_within_terms" : Str), ("_law_twins" : Str), ("TOP" : Str), ("BOTTOM" : Str), ("LETTERS" : Str), ("WORD_SIGNS" : Str), ("WORD_LENGTH" : Str), ("RESERVED" : Str), ("NotionError" : Str), ("InvalidTerm" : Str)]
theorem run (w : World) : HandSHeadRun.RunEq theRow (PySem.W.view theRow.prog [66]) hk ob 4000 names w := by
  intro os
  kernel_rfl
end K02
set_option Elab.async false
set_option linter.all false
set_option maxRecDepth 100000
set_option maxHeartbeats 1000001
namespace Pl
open PySem
noncomputable instance : DecidableEq Tm := fun _ _ => Classical.propDecidable _
mutual
def Tm.void : Tm → Bool
  | .top => false
  | .bot => true
  | .name _ => false
  | .some _ t => t.void
  | .and ts => Tm.voidL ts
def Tm.voidL : List Tm → Bool
  | [] => false
  | t :: ts => t.void || Tm.voidL ts
end
mutual
/-- the conjuncts `as` meet every conjunct of the term -/
noncomputable def Tm.meets : Tm → List Tm → Bool
  | .top, _ => true
  | .bot, _ => false
  | .name w, as => as.any fun a => decide (a = .name w)
  | .some r t, as => as.any fun a => match a with
    | .some r' t' => decide (r' = r) && t.meets t'.raw
    | _ => false
  | .and ts, as => Tm.meetsL ts as
noncomputable def Tm.meetsL : List Tm → List Tm → Bool
  | [], _ => true
  | t :: ts, as => t.meets as && Tm.meetsL ts as
end
noncomputable def Tm.under (a b : Tm) : Bool := a.void || b.meets a.raw
theorem Tm.meetsL_all : ∀ (ts as : List Tm), Tm.meetsL ts as = ts.all fun t => t.meets as
  | [], _ => rfl
  | t :: ts, as => by rw [Tm.meetsL, Tm.meetsL_all ts]; rfl
mutual
theorem Tm.meets_raw : ∀ (t : Tm) (as : List Tm), t.meets as = t.raw.all fun u => u.meets as
  | .top, _ => by simp [Tm.meets, Tm.raw]
  | .bot, _ => by simp [Tm.meets, Tm.raw]
  | .name w, as => by simp [Tm.raw]
  | .some r t, as => by simp [Tm.raw]
  | .and ts, as => by rw [Tm.meets, Tm.raw]; exact Tm.meetsL_raw ts as
theorem Tm.meetsL_raw : ∀ (ts as : List Tm), Tm.meetsL ts as = (Tm.rawL ts).all fun u => u.meets as
  | [], _ => rfl
  | t :: ts, as => by rw [Tm.meetsL, Tm.rawL, List.all_append, Tm.meets_raw t as, Tm.meetsL_raw ts as]
end
mutual
theorem Tm.void_raw : ∀ t : Tm, t.void = t.raw.any Tm.void
  | .top => rfl
  | .bot => rfl
  | .name _ => rfl
  | .some r t => by simp [Tm.raw]
  | .and ts => by rw [Tm.void, Tm.raw]; exact Tm.voidL_raw ts
theorem Tm.voidL_raw : ∀ ts : List Tm, Tm.voidL ts = (Tm.rawL ts).any Tm.void
  | [] => rfl
  | t :: ts => by rw [Tm.voidL, Tm.rawL, List.any_append, Tm.void_raw t, Tm.voidL_raw ts]
end
/-- an atom: a name, a some, bottom -/
def Tm.atom : Tm → Bool
  | .bot => true
  | .name _ => true
  | .some _ _ => true
  | _ => false
mutual
theorem Tm.raw_atom : ∀ (t u : Tm), u ∈ t.raw → u.atom = true
  | .top, _, h => by cases h
  | .bot, _, h => by rw [List.mem_singleton.mp h]; rfl
  | .name _, _, h => by rw [List.mem_singleton.mp h]; rfl
  | .some _ _, _, h => by rw [List.mem_singleton.mp h]; rfl
  | .and ts, u, h => Tm.rawL_atom ts u h
theorem Tm.rawL_atom : ∀ (ts : List Tm) (u : Tm), u ∈ Tm.rawL ts → u.atom = true
  | [], _, h => by cases h
  | t :: ts, u, h => by
    rcases List.mem_append.mp h with h | h
    · exact Tm.raw_atom t u h
    · exact Tm.rawL_atom ts u h
end
theorem Tm.atom_raw {t : Tm} (h : t.atom = true) : t.raw = [t] := by
  cases t <;> simp [Tm.atom] at h <;> rfl
mutual
theorem Tm.raw_ht : ∀ (t u : Tm), u ∈ t.raw → u.ht ≤ t.ht
  | .top, _, h => by cases h
  | .bot, _, h => by rw [List.mem_singleton.mp h]; exact Nat.le_refl _
  | .name _, _, h => by rw [List.mem_singleton.mp h]; exact Nat.le_refl _
  | .some _ _, _, h => by rw [List.mem_singleton.mp h]; exact Nat.le_refl _
  | .and ts, u, h => Nat.le_succ_of_le (Tm.rawL_ht ts u h)
theorem Tm.rawL_ht : ∀ (ts : List Tm) (u : Tm), u ∈ Tm.rawL ts → u.ht ≤ Tm.htL ts
  | [], _, h => by cases h
  | t :: ts, u, h => by
    rcases List.mem_append.mp h with h | h
    · exact Nat.le_trans (Tm.raw_ht t u h) (Nat.le_max_left _ _)
    · exact Nat.le_trans (Tm.rawL_ht ts u h) (Nat.le_max_right _ _)
end
theorem some_met {r : Str} {t : Tm} {as : List Tm} : (Tm.some r t).meets as = true ↔ ∃ t', Tm.some r t' ∈ as ∧ t.meets t'.raw = true := by
  rw [Tm.meets, List.any_eq_true]
  constructor
  · rintro ⟨a, h1, h2⟩
    cases a with
    | some r' t' =>
      simp only [Bool.and_eq_true, decide_eq_true_eq] at h2
      obtain ⟨rfl, h2⟩ := h2
      exact ⟨t', h1, h2⟩
    | _ => simp at h2
  · rintro ⟨t', h1, h2⟩
    exact ⟨_, h1, by simp [h2]⟩
theorem name_met {w : Str} {as : List Tm} : (Tm.name w).meets as = true ↔ Tm.name w ∈ as := by
  rw [Tm.meets, List.any_eq_true]
  constructor
  · rintro ⟨a, h1, h2⟩
    rw [of_decide_eq_true h2] at h1
    exact h1
  · intro h
    exact ⟨_, h, by simp⟩
theorem and_met {ts as : List Tm} : (Tm.and ts).meets as = true ↔ ∀ t ∈ ts, t.meets as = true := by
  rw [Tm.meets, Tm.meetsL_all, List.all_eq_true]
/-- every conjunct of bs is met by as -/
def Met (as bs : List Tm) : Prop := ∀ b ∈ bs, b.meets as = true
theorem meets_iff {t : Tm} {as : List Tm} : t.meets as = true ↔ Met as t.raw := by
  rw [Tm.meets_raw, List.all_eq_true]; rfl
mutual
theorem meets_trans : ∀ (c : Tm) {as bs : List Tm}, Met as bs → c.meets bs = true → c.meets as = true
  | .top, _, _, _, _ => rfl
  | .bot, _, _, _, h => by simp [Tm.meets] at h
  | .name w, as, bs, m, h => m _ (name_met.mp h)
  | .some r c, as, bs, m, h => by
    obtain ⟨b, h1, h2⟩ := some_met.mp h
    obtain ⟨a, h3, h4⟩ := some_met.mp (m _ h1)
    exact some_met.mpr ⟨a, h3, meets_trans c (meets_iff.mp h4) h2⟩
  | .and ts, as, bs, m, h => by
    rw [Tm.meets] at h ⊢
    exact meetsL_trans ts m h
theorem meetsL_trans : ∀ (ts : List Tm) {as bs : List Tm}, Met as bs → Tm.meetsL ts bs = true → Tm.meetsL ts as = true
  | [], _, _, _, _ => rfl
  | t :: ts, as, bs, m, h => by
    simp only [Tm.meetsL, Bool.and_eq_true] at h ⊢
    exact ⟨meets_trans t m h.1, meetsL_trans ts m h.2⟩
end
theorem Met.trans {as bs cs : List Tm} (h1 : Met as bs) (h2 : Met bs cs) : Met as cs := fun c hc => meets_trans c h1 (h2 c hc)
mutual
theorem meets_refl : ∀ (t : Tm) {as : List Tm}, t.void = false → (∀ u ∈ t.raw, u ∈ as) → t.meets as = true
  | .top, _, _, _ => rfl
  | .bot, _, h, _ => by simp [Tm.void] at h
  | .name w, as, _, h => name_met.mpr (h _ (List.mem_singleton.mpr rfl))
  | .some r t, as, hv, h => some_met.mpr ⟨t, h _ (List.mem_singleton.mpr rfl), meets_refl t hv fun _ h => h⟩
  | .and ts, as, hv, h => by
    rw [Tm.meets]
    exact meetsL_refl ts hv h
theorem meetsL_refl : ∀ (ts : List Tm) {as : List Tm}, Tm.voidL ts = false → (∀ u ∈ Tm.rawL ts, u ∈ as) → Tm.meetsL ts as = true
  | [], _, _, _ => rfl
  | t :: ts, as, hv, h => by
    simp only [Tm.voidL, Bool.or_eq_false_iff] at hv
    simp only [Tm.meetsL, Bool.and_eq_true]
    exact ⟨meets_refl t hv.1 fun u m => h u (List.mem_append_left _ m), meetsL_refl ts hv.2 fun u m => h u (List.mem_append_right _ m)⟩
end
mutual
theorem void_meets : ∀ (t : Tm) {as : List Tm}, t.void = true → t.meets as = false
  | .top, _, h => by simp [Tm.void] at h
  | .bot, _, _ => rfl
  | .name _, _, h => by simp [Tm.void] at h
  | .some r t, as, h => by
    cases e : (Tm.some r t).meets as with
    | false => rfl
    | true =>
      obtain ⟨a, _, h2⟩ := some_met.mp e
      rw [void_meets t h] at h2
      cases h2
  | .and ts, as, h => by
    rw [Tm.meets]
    exact voidL_meets ts h
theorem voidL_meets : ∀ (ts : List Tm) {as : List Tm}, Tm.voidL ts = true → Tm.meetsL ts as = false
  | [], _, h => by simp [Tm.voidL] at h
  | t :: ts, as, h => by
    simp only [Tm.voidL, Bool.or_eq_true] at h
    rw [Tm.meetsL]
    rcases h with h | h
    · rw [void_meets t h]; rfl
    · rw [voidL_meets ts h, Bool.and_false]
end
theorem meets_nv {t : Tm} {as : List Tm} (h : t.meets as = true) : t.void = false := by
  cases e : t.void with
  | false => rfl
  | true => rw [void_meets t e] at h; cases h
abbrev Le (a b : Tm) : Prop := a.under b = true
theorem le_iff {a b : Tm} : Le a b ↔ a.void = true ∨ b.meets a.raw = true := by
  unfold Le Tm.under
  rw [Bool.or_eq_true]
theorem le_refl (a : Tm) : Le a a := by
  rw [le_iff]
  cases h : a.void with
  | true => exact .inl rfl
  | false => exact .inr (meets_refl a h fun _ m => m)
theorem le_trans {a b c : Tm} (h1 : Le a b) (h2 : Le b c) : Le a c := by
  rw [le_iff] at h1 h2 ⊢
  rcases h1 with h1 | h1
  · exact .inl h1
  · rcases h2 with h2 | h2
    · rw [meets_nv h1] at h2; cases h2
    · exact .inr (meets_trans c (meets_iff.mp h1) h2)
theorem le_top (a : Tm) : Le a .top := le_iff.mpr (.inr rfl)
theorem le_and {c : Tm} {ts : List Tm} : Le c (.and ts) ↔ ∀ t ∈ ts, Le c t := by
  rw [le_iff, and_met]
  constructor
  · intro h t ht
    rw [le_iff]
    exact h.imp id fun q => q t ht
  · intro h
    cases e : c.void with
    | true => exact .inl rfl
    | false =>
      refine .inr fun t ht => ?_
      rcases le_iff.mp (h t ht) with q | q
      · rw [e] at q; cases q
      · exact q
theorem some_le {r : Str} {a b : Tm} : Le (.some r a) (.some r b) ↔ Le a b := by
  rw [le_iff, le_iff]
  refine or_congr Iff.rfl ?_
  rw [some_met]
  constructor
  · rintro ⟨t', h1, h2⟩
    have e : Tm.some r t' = .some r a := List.mem_singleton.mp h1
    cases e
    exact h2
  · intro h
    exact ⟨a, List.mem_singleton.mpr rfl, h⟩
theorem some_ne_le {r s : Str} {a b : Tm} (h : r ≠ s) : (Tm.some r a).under (.some s b) = a.void := by
  cases e : a.void with
  | true => exact le_iff.mpr (.inl e)
  | false =>
    cases q : (Tm.some r a).under (.some s b) with
    | false => rfl
    | true =>
      rcases le_iff.mp q with q | q
      · have q : a.void = true := q
        rw [e] at q; cases q
      · obtain ⟨t', h1, _⟩ := some_met.mp q
        have e : Tm.some s t' = .some r a := List.mem_singleton.mp h1
        cases e
        exact absurd rfl h
theorem and_le {ts : List Tm} {t : Tm} (h : t ∈ ts) : Le (.and ts) t := le_and.mp (le_refl _) t h
theorem and_mono {ts us : List Tm} (h : ∀ u ∈ us, ∃ t ∈ ts, Le t u) : Le (.and ts) (.and us) := le_and.mpr fun u hu => by
  obtain ⟨t, ht, q⟩ := h u hu
  exact le_trans (and_le ht) q
def Eqt (a b : Tm) : Prop := Le a b ∧ Le b a
theorem Eqt.refl (a : Tm) : Eqt a a := ⟨le_refl a, le_refl a⟩
theorem Eqt.symm {a b : Tm} (h : Eqt a b) : Eqt b a := ⟨h.2, h.1⟩
theorem Eqt.trans {a b c : Tm} (h1 : Eqt a b) (h2 : Eqt b c) : Eqt a c := ⟨le_trans h1.1 h2.1, le_trans h2.2 h1.2⟩
theorem Eqt.void {a b : Tm} (h : Eqt a b) : a.void = b.void := by
  have one : ∀ {a b : Tm}, Le a b → b.void = true → a.void = true := by
    intro a b h hb
    rcases le_iff.mp h with q | q
    · exact q
    · rw [meets_nv q] at hb; cases hb
  cases ha : a.void with
  | true => exact (one h.2 ha).symm
  | false =>
    cases hb : b.void with
    | false => rfl
    | true => rw [one h.1 hb] at ha; cases ha
theorem Eqt.under {a b c d : Tm} (h : Eqt a b) (k : Eqt c d) : a.under c = b.under d := by
  cases e : a.under c with
  | true => exact (le_trans h.2 (le_trans e k.1)).symm
  | false =>
    cases e2 : b.under d with
    | false => rfl
    | true => rw [← e, ← (le_trans h.1 (le_trans e2 k.2) : Le a c)]
theorem and_eqt {ts us : List Tm} (h1 : ∀ u ∈ us, Le (.and ts) u) (h2 : ∀ t ∈ ts, Le (.and us) t) : Eqt (.and ts) (.and us) := ⟨le_and.mpr h1, le_and.mpr h2⟩
end Pl
set_option Elab.async false
set_option linter.all false
set_option maxRecDepth 100000
set_option maxHeartbeats 1000001
namespace Pl
open PySem
abbrev letters : Str := "abcdefghijklmnopqrstuvwxyz"
abbrev signs : Str := "abcdefghijklmnopqrstuvwxyz0123456789"
abbrev reserved : List Str := ["and", "apart", "bottom", "clash", "eq", "is", "link", "range", "role", "some", "sub", "then", "thing", "top"]
/-- a good word -/
structure W (x : Str) : Prop where
  lo : 1 ≤ x.length
  hi : x.length ≤ 12
  free : x ∉ reserved
  first : ∃ c, x.cps[0]? = some c ∧ c ∈ letters.cps.toList
  all : ∀ c ∈ x.cps.toList, c ∈ signs.cps.toList
end Pl
namespace Pl
open PySem
def isW (c : Nat) : Bool := (decide (97 ≤ c) && decide (c ≤ 122)) || (decide (48 ≤ c) && decide (c ≤ 57))
def cTop : List Nat := [116, 111, 112]
def cBot : List Nat := [98, 111, 116, 116, 111, 109]
def cSome : List Nat := [115, 111, 109, 101]
def cAnd : List Nat := [32, 97, 110, 100, 32]
def Tm.isAnd : Tm → Bool
  | .and _ => true
  | _ => false
def Tm.isAt : Tm → Bool
  | .name _ => true
  | .some _ _ => true
  | _ => false
mutual
def Tm.wl : Tm → List Nat
  | .top => cTop
  | .bot => cBot
  | .name w => w.cps.toList
  | .some r t => cSome ++ (32 :: (r.cps.toList ++ (32 :: (if t.isAnd = true then 40 :: (t.wl ++ [41]) else t.wl))))
  | .and ts => Tm.wlL ts
def Tm.wlL : List Tm → List Nat
  | [] => []
  | t :: ts => t.wl ++ (match ts with | [] => [] | u :: us => cAnd ++ Tm.wlL (u :: us))
end
def Tm.wlI (t : Tm) : List Nat := if t.isAnd = true then 40 :: (t.wl ++ [41]) else t.wl
mutual
/-- what stands within a some of a normal form -/
def Tm.sh : Tm → Prop
  | .top => True
  | .bot => False
  | .name w => W w
  | .some r t => W r ∧ t.sh
  | .and ts => ts ≠ [] ∧ Tm.shL ts
def Tm.shL : List Tm → Prop
  | [] => True
  | t :: ts => (t.sh ∧ t.isAt = true) ∧ Tm.shL ts
end
theorem Tm.shL_iff : ∀ {ts : List Tm}, Tm.shL ts ↔ ∀ t ∈ ts, t.sh ∧ t.isAt = true
  | [] => by simp [Tm.shL]
  | t :: ts => by rw [Tm.shL, Tm.shL_iff (ts := ts)]; simp
def Stop (x : List Nat) : Prop := x = [] ∨ ∃ c y, x = c :: y ∧ isW c = false
theorem word_cut : ∀ {w v x y : List Nat}, (∀ c ∈ w, isW c = true) → (∀ c ∈ v, isW c = true) → Stop x → Stop y → w ++ x = v ++ y → w = v ∧ x = y
  | [], [], _, _, _, _, _, _, e => ⟨rfl, e⟩
  | [], c :: v, x, y, _, hv, hx, _, e => by
    exfalso
    have hc := hv c List.mem_cons_self
    rcases hx with rfl | ⟨d, z, rfl, hd⟩
    · simp at e
    · simp only [List.nil_append, List.cons_append, List.cons.injEq] at e
      rw [e.1, hc] at hd
      cases hd
  | c :: w, [], x, y, hw, _, _, hy, e => by
    exfalso
    have hc := hw c List.mem_cons_self
    rcases hy with rfl | ⟨d, z, rfl, hd⟩
    · simp at e
    · simp only [List.nil_append, List.cons_append, List.cons.injEq] at e
      rw [← e.1, hc] at hd
      cases hd
  | c :: w, d :: v, x, y, hw, hv, hx, hy, e => by
    simp only [List.cons_append, List.cons.injEq] at e
    obtain ⟨h1, h2⟩ := word_cut (fun c h => hw c (List.mem_cons_of_mem _ h)) (fun c h => hv c (List.mem_cons_of_mem _ h)) hx hy e.2
    exact ⟨by rw [e.1, h1], h2⟩
theorem W.w {x : Str} (h : W x) : ∀ c ∈ x.cps.toList, isW c = true := fun c hc => by
  have q := h.all c hc
  have : ∀ c ∈ signs.cps.toList, isW c = true := by decide
  exact this c q
theorem str_eq {x : Str} {l : List Nat} (h : x.cps.toList = l) : x = ⟨l.toArray⟩ := by
  cases x with
  | mk a =>
    subst h
    simp
theorem W.ne {x : Str} (h : W x) {y : Str} (hy : y ∈ reserved) {l : List Nat} (e : y.cps.toList = l) : x.cps.toList ≠ l := fun q => h.free (by rw [str_eq q, ← str_eq e]; exact hy)
theorem stop_sp {x : List Nat} : Stop (32 :: x) := .inr ⟨32, x, rfl, by decide⟩
theorem stop_rp {x : List Nat} : Stop (41 :: x) := .inr ⟨41, x, rfl, by decide⟩
/-- the first word -/
def Tm.hw : Tm → List Nat
  | .top => cTop
  | .bot => cBot
  | .name w => w.cps.toList
  | .some _ _ => cSome
  | .and _ => []
def Tm.tl : Tm → List Nat
  | .some r t => 32 :: (r.cps.toList ++ (32 :: t.wlI))
  | _ => []
theorem wlI_hd {t : Tm} (h : t.isAnd = false) : t.wlI = t.hw ++ t.tl := by
  unfold Tm.wlI
  cases t with
  | and ts => cases h
  | some r t =>
    rw [if_neg (by rw [h]; exact Bool.false_ne_true)]
    show cSome ++ _ = cSome ++ _
    rfl
  | _ => simp [Tm.isAnd, Tm.wl, Tm.hw, Tm.tl]
theorem hw_w {t : Tm} (h : t.sh) : ∀ c ∈ t.hw, isW c = true := by
  cases t with
  | top => decide
  | bot => decide
  | name w => exact W.w h
  | some r t => show ∀ c ∈ cSome, isW c = true; decide
  | and ts => intro c hc; cases hc
theorem stop_tl {t : Tm} {x : List Nat} (h : Stop x) : Stop (t.tl ++ x) := by
  cases t with
  | some r t => exact stop_sp
  | _ => exact h
theorem hw_ne {t : Tm} (h : t.sh) (ha : t.isAnd = false) : ∃ c y, t.hw = c :: y ∧ isW c = true := by
  cases t with
  | top => exact ⟨_, _, rfl, by decide⟩
  | bot => exact h.elim
  | name w =>
    have h : W w := h
    cases e : w.cps.toList with
    | nil =>
      have := h.lo
      have q : w.cps.toList.length = 0 := by rw [e]; rfl
      rw [Array.length_toList] at q
      have : 1 ≤ w.cps.size := this
      omega
    | cons c y => exact ⟨c, y, e, h.w c (by rw [e]; exact List.mem_cons_self)⟩
  | some r t => exact ⟨_, _, rfl, by decide⟩
  | and ts => cases ha
theorem hw_inj {t u : Tm} (ht : t.sh) (hu : u.sh) (at1 : t.isAnd = false) (au : u.isAnd = false) (e : t.hw = u.hw) : t = u ∨ ∃ r a s b, t = .some r a ∧ u = .some s b := by
  have top_in : ("top" : Str) ∈ reserved := by decide
  have some_in : ("some" : Str) ∈ reserved := by decide
  cases t with
  | and ts => cases at1
  | bot => exact ht.elim
  | top =>
    cases u with
    | and ts => cases au
    | bot => exact hu.elim
    | top => exact .inl rfl
    | name w => exact absurd e.symm (W.ne hu top_in rfl)
    | some s b => exact absurd (show cTop = cSome from e) (by decide)
  | name w =>
    cases u with
    | and ts => cases au
    | bot => exact hu.elim
    | top => exact absurd e (W.ne ht top_in rfl)
    | name v => 
      have e : w.cps.toList = v.cps.toList := e
      left
      rw [str_eq e, ← str_eq (x := v) rfl]
    | some s b => exact absurd e (W.ne ht some_in rfl)
  | some r a =>
    cases u with
    | and ts => cases au
    | bot => exact hu.elim
    | top => exact absurd (show cSome = cTop from e) (by decide)
    | name v => exact absurd e.symm (W.ne hu some_in rfl)
    | some s b => exact .inr ⟨r, a, s, b, rfl, rfl⟩
theorem isAt_and {t : Tm} (h : t.isAt = true) : t.isAnd = false := by
  cases t <;> simp [Tm.isAt] at h <;> rfl
theorem wlI_at {t : Tm} (h : t.isAnd = false) : t.wlI = t.wl := by
  unfold Tm.wlI
  rw [if_neg (by rw [h]; exact Bool.false_ne_true)]
theorem wlI_and {ts : List Tm} : (Tm.and ts).wlI = 40 :: (Tm.wlL ts ++ [41]) := by
  simp [Tm.wlI, Tm.isAnd, Tm.wl]
theorem winj0 {t u : Tm} {x y : List Nat} (ht : t.sh) (hu : u.sh) (at1 : t.isAnd = false) (ns : ∀ r a, t ≠ .some r a) (hx : Stop x) (hy : Stop y) (e : t.wlI ++ x = u.wlI ++ y) : t = u ∧ x = y := by
  by_cases ha : u.isAnd = true
  · exfalso
    cases u with
    | and us =>
      obtain ⟨c, z, h1, h2⟩ := hw_ne ht at1
      rw [wlI_and, wlI_hd at1, h1] at e
      simp only [List.cons_append, List.cons.injEq] at e
      rw [e.1] at h2
      exact absurd h2 (by decide)
    | _ => cases ha
  · have ha : u.isAnd = false := Bool.eq_false_iff.mpr ha
    rw [wlI_hd at1, wlI_hd ha, List.append_assoc, List.append_assoc] at e
    obtain ⟨h1, h2⟩ := word_cut (hw_w ht) (hw_w hu) (stop_tl hx) (stop_tl hy) e
    rcases hw_inj ht hu at1 ha h1 with q | ⟨r, a, s, b, q1, q2⟩
    · subst q
      exact ⟨rfl, List.append_cancel_left h2⟩
    · exact absurd q1 (ns r a)
mutual
theorem winjI : ∀ (t u : Tm) (x y : List Nat), t.sh → u.sh → Stop x → Stop y → t.wlI ++ x = u.wlI ++ y → t = u ∧ x = y
  | .and ts, .and us, x, y, ht, hu, hx, hy, e => by
    rw [wlI_and, wlI_and] at e
    simp only [List.cons_append, List.cons.injEq, true_and, List.append_assoc, List.nil_append] at e
    obtain ⟨h1, h2⟩ := winjL ts us x y ht.1 hu.1 ht.2 hu.2 e
    exact ⟨by rw [h1], h2⟩
  | .and ts, .top, x, y, _, _, _, _, e => by
    exfalso
    rw [wlI_and, wlI_at (t := .top) rfl, Tm.wl] at e
    simp [cTop] at e
  | .and ts, .bot, x, y, _, hu, _, _, e => hu.elim
  | .and ts, .name w, x, y, _, hu, _, _, e => by
    exfalso
    obtain ⟨c, z, h1, h2⟩ := hw_ne hu rfl
    rw [wlI_and, wlI_hd (t := .name w) rfl, h1] at e
    simp only [List.cons_append, List.cons.injEq] at e
    rw [← e.1] at h2
    exact absurd h2 (by decide)
  | .and ts, .some r t, x, y, _, _, _, _, e => by
    exfalso
    rw [wlI_and, wlI_hd (t := .some r t) rfl] at e
    simp [Tm.hw, cSome] at e
  | .top, u, x, y, ht, hu, hx, hy, e => winj0 (t := .top) (u := u) ht hu rfl (fun _ _ h => by cases h) hx hy e
  | .bot, u, x, y, ht, hu, hx, hy, e => ht.elim
  | .name w, u, x, y, ht, hu, hx, hy, e => winj0 (t := .name w) (u := u) ht hu rfl (fun _ _ h => by cases h) hx hy e
  | .some r t, u, x, y, ht, hu, hx, hy, e => by
    by_cases ha : u.isAnd = true
    · exfalso
      cases u with
      | and us =>
        rw [wlI_and, wlI_hd (t := .some r t) rfl] at e
        simp [Tm.hw, cSome] at e
      | _ => cases ha
    · have ha : u.isAnd = false := Bool.eq_false_iff.mpr ha
      rw [wlI_hd (t := .some r t) rfl, wlI_hd ha, List.append_assoc, List.append_assoc] at e
      obtain ⟨h1, h2⟩ := word_cut (hw_w (t := .some r t) ht) (hw_w hu) (stop_tl (t := .some r t) hx) (stop_tl hy) e
      rcases hw_inj (t := .some r t) ht hu rfl ha h1 with q | ⟨_, _, s, b, q1, q2⟩
      · subst q
        exact ⟨rfl, List.append_cancel_left h2⟩
      · cases q1
        subst q2
        have h2 : 32 :: (r.cps.toList ++ (32 :: t.wlI)) ++ x = 32 :: (s.cps.toList ++ (32 :: b.wlI)) ++ y := h2
        simp only [List.cons_append, List.cons.injEq, true_and, List.append_assoc] at h2
        obtain ⟨h3, h4⟩ := word_cut (W.w ht.1) (W.w hu.1) stop_sp stop_sp h2
        simp only [List.cons.injEq, true_and] at h4
        obtain ⟨h5, h6⟩ := winjI t b x y ht.2 hu.2 hx hy h4
        refine ⟨?_, h6⟩
        rw [h5, str_eq h3, ← str_eq (x := s) rfl]
theorem winjL : ∀ (ts us : List Tm) (x y : List Nat), ts ≠ [] → us ≠ [] → Tm.shL ts → Tm.shL us → Tm.wlL ts ++ 41 :: x = Tm.wlL us ++ 41 :: y → ts = us ∧ x = y
  | [], _, _, _, h, _, _, _, _ => absurd rfl h
  | _, [], _, _, _, h, _, _, _ => absurd rfl h
  | [t], [u], x, y, _, _, ht, hu, e => by
    simp only [Tm.wlL, List.append_nil] at e
    rw [← wlI_at (isAt_and ht.1.2), ← wlI_at (isAt_and hu.1.2)] at e
    obtain ⟨h1, h2⟩ := winjI t u _ _ ht.1.1 hu.1.1 stop_rp stop_rp e
    rw [h1]
    simp only [List.cons.injEq, true_and] at h2
    exact ⟨rfl, h2⟩
  | [t], u :: v :: us, x, y, _, _, ht, hu, e => by
    exfalso
    rw [Tm.wlL, Tm.wlL] at e
    simp only [List.append_nil, List.append_assoc] at e
    rw [← wlI_at (isAt_and ht.1.2), ← wlI_at (isAt_and hu.1.2)] at e
    obtain ⟨h1, h2⟩ := winjI t u _ _ ht.1.1 hu.1.1 stop_rp stop_sp e
    simp [cAnd] at h2
  | t :: v :: ts, [u], x, y, _, _, ht, hu, e => by
    exfalso
    rw [Tm.wlL, Tm.wlL] at e
    simp only [List.append_nil, List.append_assoc] at e
    rw [← wlI_at (isAt_and ht.1.2), ← wlI_at (isAt_and hu.1.2)] at e
    obtain ⟨h1, h2⟩ := winjI t u _ _ ht.1.1 hu.1.1 stop_sp stop_rp e
    simp [cAnd] at h2
  | t :: t2 :: ts, u :: u2 :: us, x, y, _, _, ht, hu, e => by
    rw [Tm.wlL, Tm.wlL] at e
    simp only [List.append_assoc] at e
    rw [← wlI_at (isAt_and ht.1.2), ← wlI_at (isAt_and hu.1.2)] at e
    obtain ⟨h1, h2⟩ := winjI t u _ _ ht.1.1 hu.1.1 stop_sp stop_sp e
    have h2 : 32 :: 97 :: 110 :: 100 :: 32 :: (Tm.wlL (t2 :: ts) ++ 41 :: x) = 32 :: 97 :: 110 :: 100 :: 32 :: (Tm.wlL (u2 :: us) ++ 41 :: y) := h2
    simp only [List.cons.injEq, true_and] at h2
    obtain ⟨h3, h4⟩ := winjL (t2 :: ts) (u2 :: us) x y (by simp) (by simp) ht.2 hu.2 h2
    exact ⟨by rw [h1, h3], h4⟩
end
end Pl
set_option Elab.async false
set_option linter.all false
set_option maxRecDepth 100000
set_option maxHeartbeats 1000001
namespace Pl
open PySem PySem.W
def Tm.wr (t : Tm) : Str := ⟨t.wl.toArray⟩
/-- the key by which a row is sorted -/
def Tm.keyD : Tm → D
  | .bot => .tuple [.int (-1), .str "bottom"]
  | .name w => .tuple [.int 0, .str w]
  | t => .tuple [.int 1, .str t.wr]
noncomputable def srt (l : List Tm) : List Tm := l.mergeSort (dataLe false Tm.keyD)
theorem srt_perm (l : List Tm) : (srt l).Perm l := List.mergeSort_perm _ _
end Pl
namespace Pl
open PySem
mutual
/-- the words are good -/
def Tm.good : Tm → Prop
  | .name w => W w
  | .some r t => W r ∧ t.good
  | .and ts => Tm.goodL ts
  | _ => True
def Tm.goodL : List Tm → Prop
  | [] => True
  | t :: ts => t.good ∧ Tm.goodL ts
end
theorem Tm.goodL_iff : ∀ {ts : List Tm}, Tm.goodL ts ↔ ∀ t ∈ ts, t.good
  | [] => by simp [Tm.goodL]
  | t :: ts => by rw [Tm.goodL, Tm.goodL_iff (ts := ts)]; simp
noncomputable def impl1 (a : Tm) (as : List Tm) : Bool := match a with
  | .some r t => (Tm.some r t).meets (as.filter fun b => !decide (b = .some r t))
  | _ => false
noncomputable def ddp : List Tm → List Tm → List Tm
  | acc, [] => acc
  | acc, a :: as => ddp (if a ∈ acc then acc else acc ++ [a]) as
noncomputable def kpt (ds : List Tm) : List Tm := ds.filter fun a => !impl1 a ds
def shp : List Tm → Tm
  | [] => .top
  | [k] => k
  | k :: l :: ks => .and (k :: l :: ks)
noncomputable def jn (as : List Tm) : Tm := if Tm.bot ∈ as then .bot else shp (srt (kpt (ddp [] as)))
mutual
noncomputable def Tm.pre : Tm → List Tm
  | .top => []
  | .bot => [.bot]
  | .name w => [.name w]
  | .some r t => [if jn t.pre = .bot then .bot else .some r (jn t.pre)]
  | .and ts => Tm.preL ts
noncomputable def Tm.preL : List Tm → List Tm
  | [] => []
  | t :: ts => t.pre ++ Tm.preL ts
end
noncomputable def Tm.nf (t : Tm) : Tm := jn t.pre
theorem ddp_mem : ∀ {as acc : List Tm} {a : Tm}, a ∈ ddp acc as ↔ a ∈ acc ∨ a ∈ as
  | [], acc, a => by simp [ddp]
  | b :: as, acc, a => by
    rw [ddp, ddp_mem (as := as)]
    by_cases h : b ∈ acc
    · rw [if_pos h, List.mem_cons]
      constructor
      · rintro (q | q)
        · exact .inl q
        · exact .inr (.inr q)
      · rintro (q | rfl | q)
        · exact .inl q
        · exact .inl h
        · exact .inr q
    · rw [if_neg h, List.mem_append, List.mem_singleton, List.mem_cons, or_assoc]
theorem ddp_nodup : ∀ {as acc : List Tm}, acc.Nodup → (ddp acc as).Nodup
  | [], acc, h => h
  | b :: as, acc, h => by
    rw [ddp]
    refine ddp_nodup ?_
    by_cases q : b ∈ acc
    · rw [if_pos q]; exact h
    · rw [if_neg q, List.nodup_append]
      refine ⟨h, by simp, fun x hx y hy e => ?_⟩
      rw [List.mem_singleton.mp hy] at e
      exact q (e ▸ hx)
theorem mem_kept {ds : List Tm} {a : Tm} : a ∈ kpt ds ↔ a ∈ ds ∧ impl1 a ds = false := by
  unfold kpt
  rw [List.mem_filter, Bool.not_eq_true']
theorem shp_raw : ∀ {ks : List Tm}, (∀ k ∈ ks, k.atom = true) → (shp ks).raw = ks
  | [], _ => rfl
  | [k], h => Tm.atom_raw (h k List.mem_cons_self)
  | k :: l :: ks, h => by
    have all : ∀ {xs : List Tm}, (∀ k ∈ xs, k.atom = true) → Tm.rawL xs = xs := by
      intro xs
      induction xs with
      | nil => intro _; rfl
      | cons x xs ih =>
        intro h
        rw [Tm.rawL, Tm.atom_raw (h x List.mem_cons_self), ih fun k hk => h k (List.mem_cons_of_mem _ hk)]
        rfl
    exact all h
theorem pre_atom_aux {r : Str} {t : Tm} : ((if jn t.pre = .bot then Tm.bot else .some r (jn t.pre)) : Tm).atom = true := by
  by_cases h : jn t.pre = .bot
  · rw [if_pos h]; rfl
  · rw [if_neg h]; rfl
mutual
theorem pre_atom : ∀ (t a : Tm), a ∈ t.pre → a.atom = true
  | .top, _, h => by simp [Tm.pre] at h
  | .bot, _, h => by simp only [Tm.pre, List.mem_singleton] at h; rw [h]; rfl
  | .name _, _, h => by simp only [Tm.pre, List.mem_singleton] at h; rw [h]; rfl
  | .some r t, _, h => by simp only [Tm.pre, List.mem_singleton] at h; rw [h]; exact pre_atom_aux
  | .and ts, a, h => by rw [Tm.pre] at h; exact preL_atom ts a h
theorem preL_atom : ∀ (ts : List Tm) (a : Tm), a ∈ Tm.preL ts → a.atom = true
  | [], _, h => by simp [Tm.preL] at h
  | t :: ts, a, h => by
    rw [Tm.preL] at h
    rcases List.mem_append.mp h with h | h
    · exact pre_atom t a h
    · exact preL_atom ts a h
end
theorem jn_bot {as : List Tm} : jn as = .bot ↔ Tm.bot ∈ as := by
  unfold jn
  by_cases h : Tm.bot ∈ as
  · rw [if_pos h]; exact ⟨fun _ => h, fun _ => rfl⟩
  · rw [if_neg h]
    refine ⟨fun e => ?_, fun q => absurd q h⟩
    exfalso
    have sub : ∀ k ∈ srt (kpt (ddp [] as)), k ∈ as := fun k hk => by
      have q := (mem_kept.mp ((srt_perm _).mem_iff.mp hk)).1
      exact (ddp_mem.mp q).resolve_left (by simp)
    generalize srt (kpt (ddp [] as)) = ks at e sub
    match ks, e, sub with
    | [], e, _ => cases e
    | [k], e, sub =>
      have e : k = .bot := e
      exact h (e ▸ sub k List.mem_cons_self)
    | _ :: _ :: _, e, _ => cases e
mutual
theorem pre_bot : ∀ t : Tm, Tm.bot ∈ t.pre ↔ t.void = true
  | .top => by simp [Tm.pre, Tm.void]
  | .bot => by simp [Tm.pre, Tm.void]
  | .name w => by simp [Tm.pre, Tm.void]
  | .some r t => by
    rw [Tm.pre, Tm.void, List.mem_singleton, ← pre_bot t]
    by_cases h : jn t.pre = .bot
    · rw [if_pos h]; exact ⟨fun _ => jn_bot.mp h, fun _ => rfl⟩
    · rw [if_neg h]; exact ⟨(fun q => by cases q), fun q => absurd (jn_bot.mpr q) h⟩
  | .and ts => by rw [Tm.pre, Tm.void]; exact preL_bot ts
theorem preL_bot : ∀ ts : List Tm, Tm.bot ∈ Tm.preL ts ↔ Tm.voidL ts = true
  | [] => by simp [Tm.preL, Tm.voidL]
  | t :: ts => by rw [Tm.preL, Tm.voidL, List.mem_append, Bool.or_eq_true, pre_bot t, preL_bot ts]
end
theorem nf_bot {t : Tm} : t.nf = .bot ↔ t.void = true := jn_bot.trans (pre_bot t)
theorem pre_some {r : Str} {t : Tm} : (Tm.some r t).pre = [if t.void = true then .bot else .some r t.nf] := by
  rw [Tm.pre]
  have e : (jn t.pre = .bot) ↔ t.void = true := nf_bot
  by_cases h : t.void = true
  · rw [if_pos h, if_pos (e.mpr h)]
  · rw [if_neg h, if_neg (fun q => h (e.mp q))]; rfl
/-- what a term's parts become -/
def PreA (n : Nat) (a : Tm) : Prop := a = .bot ∨ (∃ w, a = .name w ∧ W w) ∨ ∃ (r : Str) (u : Tm), a = .some r u.nf ∧ W r ∧ u.good ∧ u.ht < n ∧ u.void = false
theorem PreA.mono {n m : Nat} {a : Tm} (h : n ≤ m) (p : PreA n a) : PreA m a := by
  rcases p with p | p | ⟨r, u, h1, h2, h3, h4, h5⟩
  · exact .inl p
  · exact .inr (.inl p)
  · exact .inr (.inr ⟨r, u, h1, h2, h3, by omega, h5⟩)
mutual
theorem pre_is : ∀ (t : Tm), t.good → ∀ a ∈ t.pre, PreA t.ht a
  | .top, _, _, h => by simp [Tm.pre] at h
  | .bot, _, _, h => by simp only [Tm.pre, List.mem_singleton] at h; exact .inl h
  | .name w, g, _, h => by simp only [Tm.pre, List.mem_singleton] at h; exact .inr (.inl ⟨w, h, g⟩)
  | .some r t, g, a, h => by
    rw [pre_some, List.mem_singleton] at h
    by_cases hv : t.void = true
    · rw [if_pos hv] at h; exact .inl h
    · rw [if_neg hv] at h
      exact .inr (.inr ⟨r, t, h, g.1, g.2, Nat.lt_succ_self _, Bool.eq_false_iff.mpr hv⟩)
  | .and ts, g, a, h => by
    rw [Tm.pre] at h
    exact (preL_is ts g a h).mono (Nat.le_succ _)
theorem preL_is : ∀ (ts : List Tm), Tm.goodL ts → ∀ a ∈ Tm.preL ts, PreA (Tm.htL ts) a
  | [], _, _, h => by simp [Tm.preL] at h
  | t :: ts, g, a, h => by
    rw [Tm.preL] at h
    rcases List.mem_append.mp h with h | h
    · exact (pre_is t g.1 a h).mono (Nat.le_max_left _ _)
    · exact (preL_is ts g.2 a h).mono (Nat.le_max_right _ _)
end
theorem met_self {a : Tm} {bs : List Tm} (hb : a ∈ bs) (hv : a.void = false) (at1 : a.atom = true) : a.meets bs = true :=
  meets_refl a hv fun u m => by rw [Tm.atom_raw at1, List.mem_singleton] at m; rw [m]; exact hb
/-- a some conjunct is met by one of these -/
theorem met_by {r : Str} {t : Tm} {bs : List Tm} (h : (Tm.some r t).meets bs = true) : ∃ u, Tm.some r u ∈ bs ∧ (Tm.some r t).meets [.some r u] = true := by
  obtain ⟨u, h1, h2⟩ := some_met.mp h
  exact ⟨u, h1, some_met.mpr ⟨u, List.mem_singleton.mpr rfl, h2⟩⟩
theorem count_lt {α : Type} {p q : α → Bool} : ∀ {l : List α}, (∀ x ∈ l, p x = true → q x = true) → (∃ x ∈ l, q x = true ∧ p x = false) → l.countP p < l.countP q
  | [], _, h => by obtain ⟨x, hx, _⟩ := h; cases hx
  | y :: l, h, ⟨x, hx, h1, h2⟩ => by
    have le : l.countP p ≤ l.countP q := List.countP_mono_left fun z hz => h z (List.mem_cons_of_mem _ hz)
    rw [List.countP_cons, List.countP_cons]
    rcases List.mem_cons.mp hx with e | hx
    · subst e
      rw [if_pos h1, if_neg (by rw [h2]; exact Bool.false_ne_true)]
      omega
    · have := count_lt (fun z hz => h z (List.mem_cons_of_mem _ hz)) ⟨x, hx, h1, h2⟩
      by_cases hp : p y = true
      · rw [if_pos hp, if_pos (h y List.mem_cons_self hp)]; omega
      · rw [if_neg hp]; split <;> omega
/-- what is left out is met by what is kpt -/
theorem kept_met {ds : List Tm} (hv : ∀ a ∈ ds, a.void = false) (ha : ∀ a ∈ ds, a.atom = true) (anti : ∀ x ∈ ds, ∀ y ∈ ds, x.meets [y] = true → y.meets [x] = true → x = y) : Met (kpt ds) ds := by
  have key : ∀ (n : Nat) (a : Tm), a ∈ ds → ds.countP (fun c => a.meets [c]) ≤ n → a.meets (kpt ds) = true := by
    intro n
    induction n with
    | zero =>
      intro a m h
      have : 0 < ds.countP fun c => a.meets [c] := List.countP_pos_iff.mpr ⟨a, m, met_self (List.mem_singleton.mpr rfl) (hv a m) (ha a m)⟩
      omega
    | succ n ih =>
      intro a m h
      cases hi : impl1 a ds with
      | false => exact met_self (mem_kept.mpr ⟨m, hi⟩) (hv a m) (ha a m)
      | true =>
        unfold impl1 at hi
        split at hi
        · rename_i r t
          obtain ⟨u, h1, h2⟩ := met_by hi
          obtain ⟨h1, h3⟩ := List.mem_filter.mp h1
          have h3 : ¬ Tm.some r u = .some r t := by simpa using h3
          have low : ds.countP (fun c => (Tm.some r u).meets [c]) ≤ n := by
            have : ds.countP (fun c => (Tm.some r u).meets [c]) < ds.countP (fun c => (Tm.some r t).meets [c]) := by
              refine count_lt (fun c hc q => ?_) ⟨_, m, met_self (List.mem_singleton.mpr rfl) (hv _ m) rfl, ?_⟩
              · exact meets_trans _ (fun b hb => by rw [List.mem_singleton.mp hb]; exact q) h2
              · cases e : (Tm.some r u).meets [.some r t] with
                | false => rfl
                | true => exact absurd (anti _ h1 _ m e h2) h3
            omega
          exact meets_trans _ (fun b hb => by rw [List.mem_singleton.mp hb]; exact ih _ h1 low) h2
        · cases hi
  exact fun a m => key _ a m (Nat.le_refl _)
end Pl
set_option Elab.async false
set_option linter.all false
set_option maxRecDepth 100000
set_option maxHeartbeats 1000001
namespace Pl
open PySem
/-- what the rows of normal forms hold -/
def KA (a : Tm) : Prop := (∃ w, a = .name w ∧ W w) ∨ ∃ (r : Str) (u : Tm), a = .some r u.nf ∧ W r ∧ u.good ∧ u.void = false
end Pl
namespace Pl
open PySem
theorem PreA.ka {n : Nat} {a : Tm} (h : PreA n a) (hb : a ≠ .bot) : KA a := by
  rcases h with h | h | ⟨r, u, h1, h2, h3, _, h5⟩
  · exact absurd h hb
  · exact .inl h
  · exact .inr ⟨r, u, h1, h2, h3, h5⟩
/-- the row of a normal form -/
noncomputable def Tm.row (t : Tm) : List Tm := srt (kpt (ddp [] t.pre))
theorem row_mem {t a : Tm} : a ∈ t.row ↔ a ∈ t.pre ∧ impl1 a (ddp [] t.pre) = false := by
  unfold Tm.row
  rw [(srt_perm _).mem_iff, mem_kept, ddp_mem]
  simp
theorem row_nodup (t : Tm) : t.row.Nodup := (srt_perm _).nodup_iff.mpr ((ddp_nodup List.nodup_nil).sublist List.filter_sublist)
theorem nf_row {t : Tm} (hv : t.void = false) : t.nf = shp t.row := by
  unfold Tm.nf jn
  rw [if_neg (fun h => by rw [(pre_bot t).mp h] at hv; cases hv)]
  rfl
theorem nf_raw {t : Tm} (hv : t.void = false) : t.nf.raw = t.row := by
  rw [nf_row hv]
  exact shp_raw fun k hk => pre_atom t k (row_mem.mp hk).1
theorem nf_void (t : Tm) : t.nf.void = t.void := by
  cases hv : t.void with
  | true => rw [nf_bot.mpr hv]; rfl
  | false =>
    cases h : t.nf.void with
    | false => rfl
    | true =>
      exfalso
      rw [Tm.void_raw, nf_raw hv, List.any_eq_true] at h
      obtain ⟨a, h1, h2⟩ := h
      have h1 := (row_mem.mp h1).1
      have nv : ∀ (n : Nat) (t : Tm), t.ht ≤ n → t.void = false → ∀ a ∈ t.pre, a.void = false := by
        intro n
        induction n with
        | zero =>
          intro t h
          have : 1 ≤ t.ht := by cases t <;> simp [Tm.ht]
          omega
        | succ n ih =>
          have one : ∀ t : Tm, t.ht ≤ n → t.void = false → t.nf.void = false := fun t ht hv => by
            cases h : t.nf.void with
            | false => rfl
            | true =>
              rw [Tm.void_raw, nf_raw hv, List.any_eq_true] at h
              obtain ⟨a, h1, h2⟩ := h
              rw [ih t ht hv a (row_mem.mp h1).1] at h2
              cases h2
          have go : ∀ t : Tm, t.ht ≤ n + 1 → t.void = false → ∀ a ∈ t.pre, a.void = false := by
            intro t
            induction t using Tm.rec (motive_2 := fun ts => Tm.htL ts ≤ n + 1 → Tm.voidL ts = false → ∀ a ∈ Tm.preL ts, a.void = false) with
            | top => intro _ _ a h; simp [Tm.pre] at h
            | bot => intro _ h; simp [Tm.void] at h
            | name w => intro _ _ a h; simp only [Tm.pre, List.mem_singleton] at h; rw [h]; rfl
            | some r t _ =>
              intro ht hv a h
              have hv : t.void = false := hv
              rw [pre_some, List.mem_singleton, hv, if_neg Bool.false_ne_true] at h
              rw [h]
              exact one t (by have : t.ht + 1 ≤ n + 1 := ht; omega) hv
            | and ts ih =>
              intro ht hv a h
              rw [Tm.pre] at h
              exact ih (by have : Tm.htL ts + 1 ≤ n + 1 := ht; omega) hv a h
            | nil => rename_i _ _ a h; simp [Tm.preL] at h
            | cons t ts h1 h2 =>
              rename_i ht hv a h
              have ht : max t.ht (Tm.htL ts) ≤ n + 1 := ht
              simp only [Tm.voidL, Bool.or_eq_false_iff] at hv
              rw [Tm.preL] at h
              rcases List.mem_append.mp h with h | h
              · exact h1 (by omega) hv.1 a h
              · exact h2 (by omega) hv.2 a h
          exact go
      rw [nv t.ht t (Nat.le_refl _) hv a h1] at h2
      cases h2
theorem pre_nv {t : Tm} (hv : t.void = false) (g : t.good) : ∀ a ∈ t.pre, a.void = false := fun a h => by
  rcases pre_is t g a h with e | ⟨w, e, _⟩ | ⟨r, u, e, _, _, _, h5⟩
  · rw [e] at h
    rw [(pre_bot t).mp h] at hv
    cases hv
  · rw [e]; rfl
  · rw [e]
    show u.nf.void = false
    rw [nf_void]; exact h5
end Pl
namespace Pl
open PySem PySem.W
theorem ka_of_row {t : Tm} (g : t.good) (hv : t.void = false) {a : Tm} (h : a ∈ t.row) : KA a := by
  have h := (row_mem.mp h).1
  exact (pre_is t g a h).ka fun e => by rw [e, pre_bot, hv] at h; cases h
theorem nf_sh : ∀ (n : Nat) (t : Tm), t.good → t.ht ≤ n → t.void = false → t.nf.sh
  | 0, t, _, h, _ => by have := t.ht_pos; omega
  | n + 1, t, g, ht, hv => by
    rw [nf_row hv]
    have all : ∀ a ∈ t.row, a.sh ∧ a.isAt = true := fun a ha => by
      have h := (row_mem.mp ha).1
      rcases pre_is t g a h with e | ⟨w, e, hw⟩ | ⟨r, u, e, hr, gu, hu, hv2⟩
      · rw [e, pre_bot, hv] at h; cases h
      · rw [e]; exact ⟨hw, rfl⟩
      · rw [e]; exact ⟨⟨hr, nf_sh n u gu (by omega) hv2⟩, rfl⟩
    match t.row, all with
    | [], _ => trivial
    | [k], all => exact (all k List.mem_cons_self).1
    | k :: l :: ks, all => exact ⟨by simp, Tm.shL_iff.mpr all⟩
theorem KA.sh {a : Tm} (h : KA a) : a.sh ∧ a.isAt = true := by
  rcases h with ⟨w, e, hw⟩ | ⟨r, u, e, hr, g, hv⟩
  · rw [e]; exact ⟨hw, rfl⟩
  · rw [e]; exact ⟨⟨hr, nf_sh _ u g (Nat.le_refl _) hv⟩, rfl⟩
theorem wl_inj {a b : Tm} (ha : a.sh) (hb : b.sh) (at1 : a.isAt = true) (at2 : b.isAt = true) (e : a.wl = b.wl) : a = b := by
  refine (winjI a b [] [] ha hb (.inl rfl) (.inl rfl) ?_).1
  rw [wlI_at (isAt_and at1), wlI_at (isAt_and at2), e]
theorem keyD_name {w : Str} : (Tm.name w).keyD = .tuple [.int 0, .str w] := rfl
theorem keyD_some {r : Str} {t : Tm} : (Tm.some r t).keyD = .tuple [.int 1, .str (Tm.some r t).wr] := rfl
theorem toks2 {i j : Int} {x y : Str} (h : keyToks (.tuple [.int i, .str x]) = keyToks (.tuple [.int j, .str y])) : i = j ∧ x = y := by
  simp only [keyToks, keyToksAll, List.cons_append, List.nil_append, List.cons.injEq, Sum.inl.injEq, Sum.inr.injEq, true_and, and_true] at h
  exact ⟨h.1, str_of_cps h.2⟩
theorem keyD_inj {a b : Tm} (ha : a.sh) (hb : b.sh) (at1 : a.isAt = true) (at2 : b.isAt = true) (e : keyToks a.keyD = keyToks b.keyD) : a = b := by
  cases a with
  | name w =>
    cases b with
    | name v => rw [keyD_name, keyD_name] at e; rw [(toks2 e).2]
    | some s u => rw [keyD_name, keyD_some] at e; exact absurd (toks2 e).1 (by decide)
    | _ => cases at2
  | some r t =>
    cases b with
    | name v => rw [keyD_name, keyD_some] at e; exact absurd (toks2 e).1 (by decide)
    | some s u =>
      rw [keyD_some, keyD_some] at e
      have e := (toks2 e).2
      refine wl_inj ha hb rfl rfl ?_
      unfold Tm.wr at e
      have e := congrArg (fun x : Str => x.cps.toList) e
      simpa using e
    | _ => cases at2
  | _ => cases at1
theorem keyLe_anti {a b : Tm} (ha : a.sh) (hb : b.sh) (at1 : a.isAt = true) (at2 : b.isAt = true) (h1 : dataLe false Tm.keyD a b = true) (h2 : dataLe false Tm.keyD b a = true) : a = b := by
  have h1 : (!(PyProof.Rows.listOrd PyProof.Rows.itemOrd).blt (keyToks b.keyD) (keyToks a.keyD)) = true := h1
  have h2 : (!(PyProof.Rows.listOrd PyProof.Rows.itemOrd).blt (keyToks a.keyD) (keyToks b.keyD)) = true := h2
  rw [Bool.not_eq_true'] at h1 h2
  exact keyD_inj ha hb at1 at2 ((PyProof.Rows.listOrd PyProof.Rows.itemOrd).total _ _ h2 h1)
theorem key_total : TotalLe (dataLe false Tm.keyD) := sortLe_total (PyProof.Rows.listOrd PyProof.Rows.itemOrd) false _
theorem srt_can {l m : List Tm} (h : l.Perm m) (ka : ∀ a ∈ l, KA a) : srt l = srt m := by
  have kl : ∀ a ∈ srt l, KA a := fun a ha => ka a ((srt_perm l).mem_iff.mp ha)
  have km : ∀ a ∈ srt m, KA a := fun a ha => ka a (h.mem_iff.mpr ((srt_perm m).mem_iff.mp ha))
  exact List.Perm.eq_of_pairwise (le := fun x y => dataLe false Tm.keyD x y = true) (fun x y hx hy h1 h2 => keyLe_anti (kl x hx).sh.1 (km y hy).sh.1 (kl x hx).sh.2 (km y hy).sh.2 h1 h2) (sort_pairwise key_total l) (sort_pairwise key_total m) (((srt_perm l).trans h).trans (srt_perm m).symm)
end Pl
namespace Pl
open PySem
def Up (n : Nat) : Prop := (∀ t : Tm, t.good → t.ht ≤ n → Eqt t t.nf) ∧ ∀ a b : Tm, a.good → b.good → a.ht ≤ n → b.ht ≤ n → Eqt a b → a.nf = b.nf
theorem Met.self {as : List Tm} (hv : ∀ a ∈ as, a.void = false) (ha : ∀ a ∈ as, a.atom = true) : Met as as := fun a m => met_self m (hv a m) (ha a m)
theorem Met.sub {as bs : List Tm} (h : ∀ b ∈ bs, b ∈ as) (hv : ∀ a ∈ bs, a.void = false) (ha : ∀ a ∈ bs, a.atom = true) : Met as bs := fun a m => met_self (h a m) (hv a m) (ha a m)
theorem Met.app {as bs cs ds : List Tm} (h1 : Met as bs) (h2 : Met cs ds) : Met (as ++ cs) (bs ++ ds) := by
  have mono : ∀ (t : Tm) {as bs : List Tm}, (∀ a ∈ as, a ∈ bs) → t.meets as = true → t.meets bs = true := by
    intro t
    induction t using Tm.rec (motive_2 := fun ts => ∀ {as bs : List Tm}, (∀ a ∈ as, a ∈ bs) → Tm.meetsL ts as = true → Tm.meetsL ts bs = true) with
    | top => intros; rfl
    | bot => intro as bs _ h; simp [Tm.meets] at h
    | name w => intro as bs s h; exact name_met.mpr (s _ (name_met.mp h))
    | some r t _ =>
      intro as bs s h
      obtain ⟨u, h1, h2⟩ := some_met.mp h
      exact some_met.mpr ⟨u, s _ h1, h2⟩
    | and ts ih => intro as bs s h; rw [Tm.meets] at h ⊢; exact ih s h
    | nil => rfl
    | cons t ts h1 h2 =>
      rename_i as bs s h
      simp only [Tm.meetsL, Bool.and_eq_true] at h ⊢
      exact ⟨h1 s h.1, h2 s h.2⟩
  intro b hb
  rcases List.mem_append.mp hb with h | h
  · exact mono b (fun a => List.mem_append_left _) (h1 b h)
  · exact mono b (fun a => List.mem_append_right _) (h2 b h)
/-- a term and its parts -/
theorem pre_eqv {n : Nat} (hU : Up n) : ∀ t : Tm, t.good → t.ht ≤ n + 1 → t.void = false → Met t.raw t.pre ∧ Met t.pre t.raw := by
  intro t
  induction t using Tm.rec (motive_2 := fun ts => Tm.goodL ts → Tm.htL ts ≤ n + 1 → Tm.voidL ts = false → Met (Tm.rawL ts) (Tm.preL ts) ∧ Met (Tm.preL ts) (Tm.rawL ts)) with
  | top => intro _ _ _; exact ⟨(fun a h => by simp [Tm.pre] at h), fun a h => by cases h⟩
  | bot => intro _ _ h; simp [Tm.void] at h
  | name w =>
    intro _ _ _
    have e : (Tm.name w).pre = (Tm.name w).raw := by rw [Tm.pre]; rfl
    rw [e]
    have : Met (Tm.name w).raw (Tm.name w).raw := .self (fun a h => by rw [List.mem_singleton.mp h]; rfl) (fun a h => by rw [List.mem_singleton.mp h]; rfl)
    exact ⟨this, this⟩
  | some r t _ =>
    intro g ht hv
    have hv : t.void = false := hv
    have ht : t.ht + 1 ≤ n + 1 := ht
    have e : (Tm.some r t).pre = [.some r t.nf] := by rw [pre_some, hv, if_neg Bool.false_ne_true]
    obtain ⟨h1, h2⟩ := hU.1 t g.2 (by omega)
    have m1 : t.nf.meets t.raw = true := (le_iff.mp h1).resolve_left (by rw [hv]; exact Bool.false_ne_true)
    have m2 : t.meets t.nf.raw = true := (le_iff.mp h2).resolve_left (by rw [nf_void, hv]; exact Bool.false_ne_true)
    rw [e]
    refine ⟨fun a h => ?_, fun a h => ?_⟩
    · rw [List.mem_singleton.mp h]
      exact some_met.mpr ⟨t, List.mem_singleton.mpr rfl, m1⟩
    · rw [List.mem_singleton.mp h]
      exact some_met.mpr ⟨_, List.mem_singleton.mpr rfl, m2⟩
  | and ts ih =>
    intro g ht hv
    have ht : Tm.htL ts + 1 ≤ n + 1 := ht
    have := ih g (by omega) hv
    rw [Tm.pre]
    exact this
  | nil => exact ⟨(fun a h => by simp [Tm.preL] at h), fun a h => by cases h⟩
  | cons t ts h1 h2 =>
    rename_i g ht hv
    have ht : max t.ht (Tm.htL ts) ≤ n + 1 := ht
    simp only [Tm.voidL, Bool.or_eq_false_iff] at hv
    obtain ⟨a1, a2⟩ := h1 g.1 (by omega) hv.1
    obtain ⟨b1, b2⟩ := h2 g.2 (by omega) hv.2
    rw [Tm.preL, Tm.rawL]
    exact ⟨a1.app b1, a2.app b2⟩
/-- atoms with parts below n that lie below one another are one -/
theorem pre_anti {n : Nat} (hU : Up n) {x y : Tm} (hx : PreA (n + 1) x) (hy : PreA (n + 1) y) (h1 : x.meets [y] = true) (h2 : y.meets [x] = true) : x = y := by
  rcases hx with rfl | ⟨w, rfl, _⟩ | ⟨r, u, rfl, _, g, hu, hv⟩
  · simp [Tm.meets] at h1
  · exact List.mem_singleton.mp (name_met.mp h1)
  · obtain ⟨v', e, m1⟩ := some_met.mp h1
    have e := List.mem_singleton.mp e
    subst e
    rcases hy with e | ⟨w, e, _⟩ | ⟨r', v, e, _, g', hv', hv2⟩
    · cases e
    · cases e
    · cases e
      obtain ⟨u', e, m2⟩ := some_met.mp h2
      have e := List.mem_singleton.mp e
      cases e
      have q : Eqt u.nf v.nf := ⟨le_iff.mpr (.inr m2), le_iff.mpr (.inr m1)⟩
      have q : Eqt u v := ((hU.1 u g (by omega)).trans q).trans (hU.1 v g' (by omega)).symm
      rw [hU.2 u v g g' (by omega) (by omega) q]
theorem row_met {n : Nat} (hU : Up n) {t : Tm} (g : t.good) (ht : t.ht ≤ n + 1) (hv : t.void = false) : Met t.row t.pre ∧ Met t.pre t.row := by
  have pa : ∀ a ∈ t.pre, PreA (n + 1) a := fun a h => (pre_is t g a h).mono ht
  have mm : ∀ a, a ∈ ddp [] t.pre → a ∈ t.pre := fun a h => (ddp_mem.mp h).resolve_left (by simp)
  have k : Met (kpt (ddp [] t.pre)) (ddp [] t.pre) := kept_met (fun a h => pre_nv hv g a (mm a h)) (fun a h => pre_atom t a (mm a h)) fun x hx y hy => pre_anti hU (pa x (mm x hx)) (pa y (mm y hy))
  have nv := pre_nv hv g
  have at1 := pre_atom t
  refine ⟨Met.trans (bs := kpt (ddp [] t.pre)) (.sub (fun b hb => (srt_perm _).mem_iff.mpr hb) (fun a h => nv a (mm a (mem_kept.mp h).1)) fun a h => at1 a (mm a (mem_kept.mp h).1)) fun b hb => k b (ddp_mem.mpr (.inr hb)), ?_⟩
  exact .sub (fun b hb => (row_mem.mp hb).1) (fun a h => nv a (row_mem.mp h).1) fun a h => at1 a (row_mem.mp h).1
theorem row_irr {t : Tm} {r : Str} {u v : Tm} (h1 : Tm.some r u ∈ t.row) (h2 : Tm.some r v ∈ t.row) (h : (Tm.some r u).meets [.some r v] = true) : v = u := by
  obtain ⟨_, q⟩ := row_mem.mp h1
  obtain ⟨m, _⟩ := row_mem.mp h2
  unfold impl1 at q
  by_cases e : Tm.some r v = .some r u
  · cases e; rfl
  · exfalso
    obtain ⟨v', e1, e2⟩ := some_met.mp h
    have e1 := List.mem_singleton.mp e1
    cases e1
    have : (Tm.some r u).meets ((ddp [] t.pre).filter fun b => !decide (b = .some r u)) = true :=
      some_met.mpr ⟨v, List.mem_filter.mpr ⟨ddp_mem.mpr (.inr m), by simp [e]⟩, e2⟩
    have q : (Tm.some r u).meets ((ddp [] t.pre).filter fun b => !decide (b = .some r u)) = false := q
    rw [this] at q
    cases q
theorem up_all : ∀ n, Up n
  | 0 => by
    have no : ∀ t : Tm, ¬ t.ht ≤ 0 := fun t h => by
      have : 1 ≤ t.ht := by cases t <;> simp [Tm.ht]
      omega
    exact ⟨fun t _ h => absurd h (no t), fun a b _ _ h => absurd h (no a)⟩
  | n + 1 => by
    have hU := up_all n
    have A : ∀ t : Tm, t.good → t.ht ≤ n + 1 → Eqt t t.nf := fun t g ht => by
      cases hv : t.void with
      | true =>
        rw [nf_bot.mpr hv]
        exact ⟨le_iff.mpr (.inl hv), le_iff.mpr (.inl rfl)⟩
      | false =>
        obtain ⟨a1, a2⟩ := pre_eqv hU t g ht hv
        obtain ⟨b1, b2⟩ := row_met hU g ht hv
        refine ⟨le_iff.mpr (.inr (meets_iff.mpr ?_)), le_iff.mpr (.inr (meets_iff.mpr ?_))⟩
        · rw [nf_raw hv]; exact a1.trans b2
        · rw [nf_raw hv]; exact b1.trans a2
    refine ⟨A, fun a b ga gb ha hb q => ?_⟩
    have hvv := q.void
    cases hv : a.void with
    | true => rw [nf_bot.mpr hv, nf_bot.mpr (hvv ▸ hv)]
    | false =>
      have hw : b.void = false := by rw [← hvv]; exact hv
      have qq : Eqt a.nf b.nf := ((A a ga ha).symm.trans q).trans (A b gb hb)
      have half : ∀ {a b : Tm}, a.good → b.good → a.ht ≤ n + 1 → b.ht ≤ n + 1 → a.void = false → b.void = false → Eqt a.nf b.nf → ∀ x ∈ a.row, x ∈ b.row := by
        intro a b ga gb ha hb hv hw qq x hx
        have m1 : Met b.row a.row := by
          have := (le_iff.mp qq.2).resolve_left (by rw [nf_void, hw]; exact Bool.false_ne_true)
          have := meets_iff.mp this
          rwa [nf_raw hv, nf_raw hw] at this
        have m2 : Met a.row b.row := by
          have := (le_iff.mp qq.1).resolve_left (by rw [nf_void, hv]; exact Bool.false_ne_true)
          have := meets_iff.mp this
          rwa [nf_raw hv, nf_raw hw] at this
        rcases (pre_is a ga x (row_mem.mp hx).1).mono ha with rfl | ⟨w, rfl, _⟩ | ⟨r, u, rfl, _, gu, hu, hv2⟩
        · rw [(pre_bot a).mp (row_mem.mp hx).1] at hv
          cases hv
        · exact name_met.mp (m1 _ hx)
        · obtain ⟨j, j1, j2⟩ := met_by (m1 _ hx)
          rcases (pre_is b gb _ (row_mem.mp j1).1).mono hb with e | ⟨w, e, _⟩ | ⟨r', v, e, _, gv, hv', hv3⟩
          · cases e
          · cases e
          · cases e
            obtain ⟨k, k1, k2⟩ := met_by (m2 _ j1)
            have e := row_irr hx k1 (meets_trans _ (fun c hc => by rw [List.mem_singleton.mp hc]; exact k2) j2)
            subst e
            have := pre_anti hU (.inr (.inr ⟨r, u, rfl, by assumption, gu, hu, hv2⟩)) (.inr (.inr ⟨r, v, rfl, by assumption, gv, hv', hv3⟩)) j2 k2
            rw [this]
            exact j1
      have hp : a.row.Perm b.row := (List.perm_ext_iff_of_nodup (row_nodup a) (row_nodup b)).mpr fun x => ⟨half ga gb ha hb hv hw qq x, half gb ga hb ha hw hv qq.symm x⟩
      rw [nf_row hv, nf_row hw]
      have e : a.row = b.row := by
        unfold Tm.row
        refine srt_can ((srt_perm _).symm.trans (hp.trans (srt_perm _))) fun x hx => ?_
        have hx : x ∈ a.row := (srt_perm _).mem_iff.mpr hx
        have hx := (row_mem.mp hx).1
        exact (pre_is a ga x hx).ka fun e => by rw [e, pre_bot, hv] at hx; cases hx
      rw [e]
theorem nf_eqt {t : Tm} (g : t.good) : Eqt t t.nf := (up_all t.ht).1 t g (Nat.le_refl _)
theorem nf_can {a b : Tm} (ga : a.good) (gb : b.good) : a.nf = b.nf ↔ Eqt a b :=
  ⟨fun e => (nf_eqt ga).trans (e ▸ (nf_eqt gb).symm), fun h => (up_all (max a.ht b.ht)).2 a b ga gb (Nat.le_max_left _ _) (Nat.le_max_right _ _) h⟩
end Pl
set_option Elab.async false
set_option linter.all false
set_option maxRecDepth 100000
set_option maxHeartbeats 1000001
namespace Pl
open PySem L2 LamX NdefX PyProof.Rows GenW PySem.W PySem.Calls
section
variable {K : PySem.W.Frag} {T : List NTab} {w : World} {B B' B1 : Lo} {A A0 : List Addr} {H0 H H' : Hp} {σ : L2.St} {δ δ' : List Sl} {te : TE} {P : R → List Sl → Prop}
/-- xs.extend(ys), ys another name's list -/
theorem ex_extB {i j : Nat} (h : ∃ a ds b es, δ[i]? = some (.own a (.lst ds)) ∧ δ[j]? = some (.own b (.lst es)) ∧ i ≠ j ∧ ds.length + es.length ≤ 100000 ∧ P (.val .none) (δ.set i (.own a (.lst (ds ++ es))))) :
    Ex K T (tBM K "list" rExtend (tVar i) (tCons (tVar j) tNil)) δ P := fun B H σ s Q k => by
  obtain ⟨a, ds, b, es, hi, hj, hne, hl, p⟩ := h
  obtain ⟨h1, xs, h2, h3⟩ := s.hp hi
  obtain ⟨k1, zs, k2, k3⟩ := s.hp hj
  refine ⟨.ref a, h1, .inl ⟨rfl, xs, .inl (.inl h2)⟩, .ref b, k1, ?_⟩
  refine ⟨a, b, xs, zs, rfl, rfl, h2, k2, by rw [da_len h3, da_len k3]; exact Nat.le_trans hl (by decide), ?_⟩
  have w := rs_write (z := .none) (w := .non) s .refl hi (u' := .lst (ds ++ es)) (o' := .lst (xs ++ zs)) ⟨_, upd_same, da_app h3 k3⟩ .non
  exact k _ _ (.val .none) _ B ⟨w.s, w.go, Dp.non, rfl⟩ p
theorem pe_joinK {X : Cx} {K0 : PySem.W.Frag} {o e : Expr} {to te : TE} {apos pos : Pos} (ho : PE X o to) (he : PE X e te) (ek : X.K = K0 := by rfl) (hs : starEach [e] X.env = [(false, eval e X.env)] := by rfl) (hbase : attributeBase o "join" X.env (eval o X.env) = eval o X.env := by rfl) (hline : (apos.endLine == pos.line) = true := by rfl) :
    PE X (.Call (.Attribute o "join" apos) [e] [] pos) (tM1 (rJoin K0) to te) := ek ▸ pe_join ho he hs hbase hline
section
variable {ta tb : TE}
theorem ex_ixQL (h : Ex K T ta δ fun r1 δ1 => Ex K T tb δ1 fun r2 δ2 => ∃ ds i d, AsD δ2 r1 (.list ds) ∧ AsD δ2 r2 (.int i) ∧ atI ds i = some d ∧ (imm d = true ∨ ∃ e, r1 = .val e) ∧ P (.val d) δ2) : Ex K T (tOp (rIx K) ta tb) δ P := fun B H σ s Q k =>
  h B H σ s _ fun v H1 r1 δ1 B1 R1 h1 => h1 B1 H1 σ R1.s _ fun w H2 r2 δ2 B2 R2 ⟨ds, i, d, a1, a2, e, hi, p⟩ => by
    obtain ⟨C1, rfl⟩ := R1.bx.suf
    obtain ⟨C2, rfl⟩ := R2.bx.suf
    have s2 := R2.s
    have v1 := R1.vr.later R2.go
    have d2 := R2.vr.dp s2 a2
    have g := R1.go.trans R2.go
    have s3 := s2
    have g3 := g
    rw [← List.append_assoc] at s3 g3
    have sB := s3.dropAll
    have gB := g3.less ow_suf
    cases d2
    rcases hi with hi | ⟨e1, rfl⟩
    · have d1 := v1.dp s2 a1
      cases d1 with
      | lst hs ha =>
        obtain ⟨u, e1, e2⟩ := at_dp ha e
        exact .inl ⟨_, _, i, u, rfl, rfl, hs, e1, k u H2 (.val d) δ2 B ⟨sB, gB, sB.imm hi e2, rfl⟩ p⟩
    · cases a1
      have v1 : Dp K (dl H2 (ow δ2 (C2 ++ (C1 ++ B)))) v (.list ds) := v1
      cases v1 with
      | lst hs ha =>
        obtain ⟨u, e1, e2⟩ := at_dp ha e
        refine .inl ⟨_, _, i, u, rfl, rfl, dl_rk.sqL hs, e1, k u H2 (.val d) δ2 B ⟨sB, gB, dp_mono (dl_less fun a m => ?_) _ _ e2, rfl⟩ p⟩
        rw [← List.append_assoc]
        exact ow_suf a m
theorem ex_ixQT (h : Ex K T ta δ fun r1 δ1 => Ex K T tb δ1 fun r2 δ2 => ∃ ds i d, r1 = .val (.tuple ds) ∧ AsD δ2 r2 (.int i) ∧ atI ds i = some d ∧ P (.val d) δ2) : Ex K T (tOp (rIx K) ta tb) δ P := fun B H σ s Q k =>
  h B H σ s _ fun v H1 r1 δ1 B1 R1 h1 => h1 B1 H1 σ R1.s _ fun w H2 r2 δ2 B2 R2 ⟨ds, i, d, a1, a2, e, p⟩ => by
    obtain ⟨C1, rfl⟩ := R1.bx.suf
    obtain ⟨C2, rfl⟩ := R2.bx.suf
    have s2 := R2.s
    have v1 := R1.vr.later R2.go
    have d2 := R2.vr.dp s2 a2
    have g := R1.go.trans R2.go
    have s3 := s2
    have g3 := g
    rw [← List.append_assoc] at s3 g3
    have sB := s3.dropAll
    have gB := g3.less ow_suf
    cases d2
    subst a1
    have v1 : Dp K (dl H2 (ow δ2 (C2 ++ (C1 ++ B)))) v (.tuple ds) := v1
    cases v1 with
    | tup hs ha =>
      obtain ⟨u, e1, e2⟩ := at_dp ha e
      refine .inr <| .inl ⟨_, _, i, u, rfl, rfl, dl_rk.sqT hs, e1, k u H2 (.val d) δ2 B ⟨sB, gB, dp_mono (dl_less fun a m => ?_) _ _ e2, rfl⟩ p⟩
      rw [← List.append_assoc]
      exact ow_suf a m
end
theorem opd_neB {x y : Bool} {P : R → Prop} (p : P (.val (.bool (!decide (x = y))))) : OpD K rNe (.bool x) (.bool y) P := fun H v w Q h1 h2 o => by
  cases h1; cases h2
  refine ⟨rfl, ?_⟩
  have e : decide (V.bl x = V.bl y) = decide (x = y) := by
    cases x <;> cases y <;> rfl
  rw [e]
  exact o.val _ _ (.bl _) p
theorem ex_isi3 {n : String} (h : Ex K T te δ fun r δ1 => ∃ d, AsD δ1 r d ∧ ∃ tn b, tyD d = .type tn ∧ kitB tn n = some b ∧ P (.val (.bool b)) δ1) : Ex K T (tCB (rIsi K) (tCons te (tCons (tC (.ty n)) tNil))) δ P := fun B H σ s Q k =>
  h B H σ s _ fun v H1 r δ1 B1 R1 ⟨d, a, tn, b, e1, e2, p⟩ => by
    obtain ⟨C, rfl⟩ := R1.bx.suf
    obtain ⟨t, h1, h2⟩ := ty_of (R1.vr.dp R1.s a)
    have h2 : t = tyD d := by rw [h2]; cases d <;> rfl
    subst h2
    exact ⟨v, .ty n, _, .type n, b, rfl, .ty n, h1, by rw [e1]; exact kit_ty e2, (out_suf (P := P) R1.s R1.go k).val _ _ (.bl _) p⟩
theorem kitAny2 {tn n m : String} {b1 b2 : Bool} (e2 : kitB tn n = some b1) (e3 : kitB tn m = some b2) : PySem.W.kitAny K (.type tn) [.type n, .type m] = some (b1 || b2) := by
  refine kitAny_cons (kit_ty e2) (fun h => ?_) (fun h => by rw [h]; rfl)
  subst h
  refine kitAny_cons (kit_ty e3) (fun h => ?_) (fun h => by rw [h]; rfl)
  subst h
  exact kitAny_nil
theorem ex_isi4 {n m : String} (h : Ex K T te δ fun r δ1 => ∃ d, AsD δ1 r d ∧ ∃ tn b1 b2, tyD d = .type tn ∧ kitB tn n = some b1 ∧ kitB tn m = some b2 ∧ P (.val (.bool (b1 || b2))) δ1) :
    Ex K T (tCB (rIsiT K) (tCons te (tCons (tTup (tCons (tC (.ty n)) (tCons (tC (.ty m)) tNil))) tNil))) δ P := fun B H σ s Q k =>
  h B H σ s _ fun v H1 r δ1 B1 R1 ⟨d, a, tn, b1, b2, e1, e2, e3, p⟩ => by
    have e : PySem.W.kitAny K (tyD d) [.type n, .type m] = some (b1 || b2) := by rw [e1]; exact kitAny2 e2 e3
    obtain ⟨C, rfl⟩ := R1.bx.suf
    refine ⟨by show 2 ≤ sizeLine; decide, fun q hq => ?_⟩
    have d1 := R1.vr.dp R1.s a
    obtain ⟨t, h3, h4⟩ := ty_of (dp_mono (go_upd (A := []) (o := .tup [.ty n, .ty m]) hq).rk _ _ (dp_mono (fun a o q _ => dl_of q (by simp)) _ _ d1) : Dp K (dl (upd H1 q (.tup [.ty n, .ty m])) []) v d)
    have h4 : t = tyD d := by rw [h4]; cases d <;> rfl
    subst h4
    have h5 : TyX K (upd H1 q (.tup [.ty n, .ty m])) v (tyD d) := by
      have e : dl (upd H1 q (.tup [.ty n, .ty m])) [] = upd H1 q (.tup [.ty n, .ty m]) := funext fun a => by simp [dl]
      rw [e] at h3
      exact h3
    refine ⟨v, q, [.ty n, .ty m], _, [.type n, .type m], b1 || b2, rfl, upd_same, .cons (.ty n) (.cons (.ty m) .nil), h5, e, ?_⟩
    exact k _ _ (.val (.bool (b1 || b2))) δ1 B ⟨R1.s.dropAll.laid hq, (R1.go.less (ow_suf (C := C))).trans (go_upd hq), .bl _, rfl⟩ p
theorem go_forRx {ta : TA} {i : Nat} {t : TS} {nx bk ct : List Sl → Prop} {rt : R → List Sl → Prop} (h : ExA K T ta δ fun rs δ1 => ∃ n : Nat, rs = [.val (.int n)] ∧ n ≤ 1000000 ∧ ∃ W : Nat → List Sl → Prop, W 0 δ1 ∧
    (∀ k δ2, k < n → W k δ2 → Ss K T t (δ2.set i (.val (.int k))) ⟨W (k + 1), rt, nx, W (k + 1)⟩) ∧ ∀ δ2, W n δ2 → nx δ2) : Ss K T (tFor (iRng1 ta) (gName i) t) δ ⟨nx, rt, bk, ct⟩ :=
  ss_forR fun B H σ S1 Q k => h B H σ S1 Q fun vs H1 rs δ1 B1 R1 ⟨n, e1, hn, W, w, s, e⟩ => k vs H1 rs δ1 B1 R1 ⟨n, e1, by omega, by omega, W, w, fun k δ2 hk w => s k δ2 (by omega) w, fun δ2 w => e δ2 (by rw [Int.toNat_natCast] at w; exact w)⟩
/-- what a call asks behind its arguments -/
def CallG (F : FS) (P : R → List Sl → Prop) (rs : List R) (δ1 : List Sl) : Prop := ∃ as is, ArgR δ1 is rs as is ∧ is.Nodup ∧ F as fun r us => RImm r us ∧ P r (putOs δ1 is us)
theorem go_call {F : FS} {ta : TA} {X : XK} (h : ExA K T ta δ (CallG F P)) : Ex K T (tCall (spOf K T F) [] X ta) δ P := ex_call h
theorem cv {F : FS} {rs : List R} (as : List Ar) (h : ArgR δ [] rs as []) (f : F as fun r us => RImm r us ∧ P r δ) : CallG F P rs δ := ⟨as, [], h, List.nodup_nil, f⟩
theorem cx {F : FS} {rs : List R} (as : List Ar) (is : List Nat) (h : ArgR δ is rs as is) (nd : is.Nodup) (f : F as fun r us => RImm r us ∧ P r (putOs δ is us)) : CallG F P rs δ := ⟨as, is, h, nd, f⟩
theorem exj_cons {t : TE} {l : List TE} {acc : Str} (h : Ex K T t δ fun r δ1 => ∃ y, r = .val (.str y) ∧ (acc ++ y).length ≤ 1000000 ∧ ExJ K T l (acc ++ y) δ1 P) : ExJ K T (t :: l) acc δ P := h
theorem exj_nil {acc : Str} (h : P (.val (.str acc)) δ) : ExJ K T [] acc δ P := h
/-- [e for x in xs], the results told -/
theorem turn_yes {i : Nat} {d z : D} {acc : List D} (hl : acc.length < 100000) (h : Ex K T te (δ.set i (.val d)) fun r δ3 => r = .val z ∧ δ3 = δ.set i (.val d)) : Turn1 K T i tYes te δ d acc (acc ++ [z]) := fun B H σ s Q q =>
  q true H _ s .refl ⟨rfl, by rw [if_pos rfl]; exact h.imp fun r δ3 ⟨e1, e2⟩ => ⟨z, e1, e2, rfl, hl⟩⟩
theorem ex_mapT2 {i : Nat} {ta : TE} (h : Ex K T ta δ fun r δ1 => ∃ (ds es : List D), r = .val (.tuple ds) ∧ δ1[i]? = some .no ∧ ds.length ≤ 100000 ∧ es.length = ds.length ∧ (∀ (k : Nat) (d e : D), ds[k]? = some d → es[k]? = some e → Ex K T te (δ1.set i (.val d)) fun r δ3 => r = .val e ∧ δ3 = δ1.set i (.val d)) ∧ P (.new (.lst es)) δ1) :
    Ex K T (tLc (iTup K ta) (gName i) tYes te [i]) δ P :=
  ex_lcT (h.imp fun r δ1 ⟨ds, es, e1, e2, hl, he, hs, p⟩ => ⟨ds, e1, e2, fun k => es.take k, rfl, fun k d hd => by
    have hk : k < es.length := by rw [he]; exact (List.getElem?_eq_some_iff.mp hd).1
    have hz : es[k]? = some es[k] := List.getElem?_eq_getElem hk
    show Turn1 K T i tYes te δ1 d (es.take k) (es.take (k + 1))
    rw [List.take_add_one, hz]
    exact turn_yes (by rw [List.length_take]; omega) (hs k d _ hd hz), by show P (.new (.lst (es.take ds.length))) δ1; rw [← he, List.take_length]; exact p⟩)
theorem ex_mapL2 {i : Nat} {ta : TE} (h : Ex K T ta δ fun r δ1 => ∃ (ds es : List D), Fz r (.list ds) ∧ δ1[i]? = some .no ∧ ds.length ≤ 100000 ∧ es.length = ds.length ∧ (∀ (k : Nat) (d e : D), ds[k]? = some d → es[k]? = some e → Ex K T te (δ1.set i (.val d)) fun r δ3 => r = .val e ∧ δ3 = δ1.set i (.val d)) ∧ P (.new (.lst es)) δ1) :
    Ex K T (tLc (iList K ta) (gName i) tYes te [i]) δ P :=
  ex_lcL (h.imp fun r δ1 ⟨ds, es, e1, e2, hl, he, hs, p⟩ => ⟨ds, e1, e2, fun k => es.take k, rfl, fun k d hd => by
    have hk : k < es.length := by rw [he]; exact (List.getElem?_eq_some_iff.mp hd).1
    have hz : es[k]? = some es[k] := List.getElem?_eq_getElem hk
    show Turn1 K T i tYes te δ1 d (es.take k) (es.take (k + 1))
    rw [List.take_add_one, hz]
    exact turn_yes (by rw [List.length_take]; omega) (hs k d _ hd hz), by show P (.new (.lst (es.take ds.length))) δ1; rw [← he, List.take_length]; exact p⟩)
/-- [x for x in xs if t] -/
theorem ex_filL2 {i : Nat} {ta : TE} {tt : TT} (p : D → Bool) (h : Ex K T ta δ fun r δ1 => ∃ ds, Fz r (.list ds) ∧ δ1[i]? = some .no ∧ ds.length ≤ 100000 ∧ (∀ d ∈ ds, ExT K T tt (δ1.set i (.val d)) fun b δ3 => b = p d ∧ δ3 = δ1.set i (.val d)) ∧ P (.new (.lst (ds.filter p))) δ1) :
    Ex K T (tLc (iList K ta) (gName i) tt (tVar i) [i]) δ P :=
  ex_lcL (h.imp fun r δ1 ⟨ds, e1, e2, hl, hs, q⟩ => ⟨ds, e1, e2, fun k => (ds.take k).filter p, rfl, fun k d hd => by
    have hm : d ∈ ds := List.mem_of_getElem? hd
    have hk : k < ds.length := (List.getElem?_eq_some_iff.mp hd).1
    have hi : i < δ1.length := (List.getElem?_eq_some_iff.mp e2).1
    refine (hs d hm).imp fun b δ3 ⟨q1, q2⟩ => ⟨q2, ?_⟩
    subst q1
    show if p d = true then _ else (ds.take (k + 1)).filter p = (ds.take k).filter p
    have e : (ds.take (k + 1)).filter p = (ds.take k).filter p ++ [d].filter p := by
      rw [List.take_add_one, hd, List.filter_append]
      rfl
    cases hp : p d with
    | true =>
      rw [if_pos rfl]
      refine ex_var (by rw [List.getElem?_set_self hi]) ⟨d, rfl, rfl, ?_, ?_⟩
      · show (ds.take (k + 1)).filter p = (ds.take k).filter p ++ [d]
        rw [e, List.filter_cons_of_pos hp]; rfl
      · have := List.length_filter_le p (ds.take k)
        rw [List.length_take] at this
        show ((ds.take k).filter p).length < 100000
        omega
    | false =>
      rw [if_neg Bool.false_ne_true, e, List.filter_cons_of_neg (by rw [hp]; exact Bool.false_ne_true)]
      simp, by
    show P (.new (.lst ((ds.take ds.length).filter p))) δ1
    rw [List.take_length]; exact q⟩)
theorem putOs_nil {us : List OV} : putOs δ [] us = δ := rfl
theorem id_len {ds : List D} {P : R → Prop} (h : CbD K (Pl.rLen K) ds P) : CbD K (Pl.rLen K) ds P := h
theorem id_list {ds : List D} {P : R → Prop} (h : CbD K (rListOf K) ds P) : CbD K (rListOf K) ds P := h
end
mutual
theorem eqv_tm : ∀ t u : Tm, PyData.eqv t.d u.d = decide (t = u)
  | .top, u => by cases u <;> simp [Tm.d, PyData.eqv, PyData.eqvAll] <;> decide
  | .bot, u => by cases u <;> simp [Tm.d, PyData.eqv, PyData.eqvAll] <;> decide
  | .name w, u => by
    cases u with
    | name v => simp [Tm.d, PyData.eqv, PyData.eqvAll, Bool.beq_eq_decide_eq]
    | and ts => simp [Tm.d, PyData.eqv, PyData.eqvAll]
    | _ => simp [Tm.d, PyData.eqv, PyData.eqvAll]
  | .some r t, u => by
    cases u with
    | some s v =>
      simp only [Tm.d, PyData.eqv, PyData.eqvAll, eqv_tm t v, Bool.and_true]
      simp [Bool.beq_eq_decide_eq]
    | _ => simp [Tm.d, PyData.eqv, PyData.eqvAll]
  | .and ts, u => by
    cases u with
    | and us =>
      simp only [Tm.d, PyData.eqv, PyData.eqvAll, eqv_tmL ts us, Bool.and_true]
      simp
    | _ => simp [Tm.d, PyData.eqv, PyData.eqvAll]
theorem eqv_tmL : ∀ ts us : List Tm, PyData.eqvAll (Tm.dL ts) (Tm.dL us) = decide (ts = us)
  | [], [] => by simp [Tm.dL, PyData.eqvAll]
  | [], _ :: _ => by simp [Tm.dL, PyData.eqvAll]
  | _ :: _, [] => by simp [Tm.dL, PyData.eqvAll]
  | t :: ts, u :: us => by
    simp only [Tm.dL, PyData.eqvAll, eqv_tm t u, eqv_tmL ts us]
    simp
end
theorem Tm.d_inj {t u : Tm} (h : t.d = u.d) : t = u := by
  have e := eqv_tm t u
  have e2 := eqv_tm u u
  rw [h, e2] at e
  simpa using e.symm
theorem W.ok {x : Str} (h : W x) : PyData.strOk x = true := by
  unfold PyData.strOk
  rw [Array.all_eq_true]
  intro i hi
  have hm : x.cps[i] ∈ x.cps.toList := Array.mem_toList_iff.mpr (Array.getElem_mem hi)
  have q := h.w _ hm
  unfold isW at q
  simp only [Bool.or_eq_true, Bool.and_eq_true, decide_eq_true_eq] at q
  rw [decide_eq_true_eq]
  omega
mutual
theorem lay_tm : ∀ t : Tm, t.good → PyData.canLay0 t.d = true
  | .top, _ => by decide +kernel
  | .bot, _ => by decide +kernel
  | .name w, g => by
    show (PyData.strOk "name" && (PyData.strOk w && true)) = true
    rw [W.ok g]
    decide +kernel
  | .some r t, g => by
    show (PyData.strOk "some" && (PyData.strOk r && (PyData.canLay0 t.d && true))) = true
    rw [W.ok g.1, lay_tm t g.2]
    decide +kernel
  | .and ts, g => by
    show (PyData.strOk "and" && (PyData.canLayAll0 (Tm.dL ts) && true)) = true
    rw [lay_tmL ts g]
    decide +kernel
theorem lay_tmL : ∀ ts : List Tm, Tm.goodL ts → PyData.canLayAll0 (Tm.dL ts) = true
  | [], _ => rfl
  | t :: ts, g => by
    show (PyData.canLay0 t.d && PyData.canLayAll0 (Tm.dL ts)) = true
    rw [lay_tm t g.1, lay_tmL ts g.2]
    rfl
end
mutual
theorem depth_tm : ∀ t : Tm, PyData.depth t.d ≤ 2 * t.ht
  | .top => by decide
  | .bot => by decide
  | .name w => by
    show max 0 (max 0 0) + 1 ≤ 2 * 1
    decide +kernel
  | .some r t => by
    show max 0 (max 0 (max (PyData.depth t.d) 0)) + 1 ≤ 2 * (t.ht + 1)
    have := depth_tm t
    omega
  | .and ts => by
    show max 0 (max (PyData.depthAll (Tm.dL ts) + 1) 0) + 1 ≤ 2 * (Tm.htL ts + 1)
    have := depth_tmL ts
    omega
theorem depth_tmL : ∀ ts : List Tm, PyData.depthAll (Tm.dL ts) ≤ 2 * Tm.htL ts
  | [] => Nat.le_refl _
  | t :: ts => by
    show max (PyData.depth t.d) (PyData.depthAll (Tm.dL ts)) ≤ 2 * max t.ht (Tm.htL ts)
    have := depth_tm t
    have := depth_tmL ts
    omega
end
theorem shaped_tm {t : Tm} (g : t.good) (h : t.ht ≤ 31) : SeqAt.shaped t.d = true := by
  unfold SeqAt.shaped
  rw [Bool.and_eq_true]
  refine ⟨lay_tm t g, decide_eq_true ?_⟩
  have := depth_tm t
  omega
theorem shaped_tmL {ts : List Tm} (g : ∀ t ∈ ts, t.good ∧ t.ht ≤ 31) : SeqAt.shaped (.list (ts.map Tm.d)) = true := by
  unfold SeqAt.shaped
  rw [Bool.and_eq_true]
  rw [← Tm.dL_map]
  refine ⟨lay_tmL ts (Tm.goodL_iff.mpr fun t m => (g t m).1), decide_eq_true ?_⟩
  show PyData.depthAll (Tm.dL ts) + 1 ≤ 64
  have h1 := depth_tmL ts
  have h2 : Tm.htL ts ≤ 31 := by
    clear h1
    induction ts with
    | nil => exact Nat.zero_le _
    | cons t ts ih => exact Nat.max_le.mpr ⟨(g t List.mem_cons_self).2, ih fun u m => g u (List.mem_cons_of_mem _ m)⟩
  omega
theorem shaped_W {x : Str} (h : W x) : SeqAt.shaped (.str x) = true := by
  unfold SeqAt.shaped
  rw [Bool.and_eq_true]
  exact ⟨h.ok, decide_eq_true (Nat.zero_le _)⟩
theorem eqv_str {x y : Str} : PyData.eqv (.str x) (.str y) = decide (x = y) := by
  simp [PyData.eqv, Bool.beq_eq_decide_eq]
theorem any_tm {ts : List Tm} {t : Tm} : ((ts.map Tm.d).any fun z => PyData.eqv z t.d) = decide (t ∈ ts) := by
  rw [List.any_map]
  have e : ((fun z => PyData.eqv z t.d) ∘ Tm.d) = fun u => decide (u = t) := by
    funext u
    exact eqv_tm u t
  rw [e]
  by_cases h : t ∈ ts
  · rw [decide_eq_true h, List.any_eq_true]
    exact ⟨t, h, by simp⟩
  · rw [decide_eq_false h, Bool.eq_false_iff]
    intro q
    obtain ⟨u, h1, h2⟩ := List.any_eq_true.mp q
    rw [of_decide_eq_true h2] at h1
    exact h h1
/-- a term within bounds -/
structure Tb (h : Nat) (t : Tm) : Prop where
  good : t.good
  ht : t.ht ≤ h
  cnt : t.cnt ≤ 1000
  low : t.ht ≤ 25
theorem Tb.some {h : Nat} {r : Str} {t : Tm} (b : Tb (h + 1) (.some r t)) : Tb h t := ⟨b.good.2, Nat.le_of_succ_le_succ b.ht, by have : t.cnt + 1 ≤ 1000 := b.cnt; omega, by have : t.ht + 1 ≤ 25 := b.low; omega⟩
theorem Tb.some' {h : Nat} {r : Str} {t : Tm} (b : Tb h (.some r t)) : Tb h t := ⟨b.good.2, by have : t.ht + 1 ≤ h := b.ht; omega, by have : t.cnt + 1 ≤ 1000 := b.cnt; omega, by have : t.ht + 1 ≤ 25 := b.low; omega⟩
theorem Tb.W {h : Nat} {r : Str} {t : Tm} (b : Tb h (.some r t)) : W r := b.good.1
theorem Tb.and {h : Nat} {us : List Tm} (b : Tb (h + 1) (.and us)) {t : Tm} (m : t ∈ us) : Tb h t :=
  ⟨Tm.goodL_iff.mp b.good t m, Nat.le_trans (Tm.htL_le m) (Nat.le_of_succ_le_succ b.ht), by have : Tm.cntL us + 1 ≤ 1000 := b.cnt; have := Tm.cntL_le m; omega, by have : Tm.htL us + 1 ≤ 25 := b.low; have := Tm.htL_le m; omega⟩
theorem Tb.len {h : Nat} {us : List Tm} (b : Tb h (.and us)) : us.length < 1000 := by have : Tm.cntL us + 1 ≤ 1000 := b.cnt; have := Tm.len_cntL us; omega
theorem Tb.no {t : Tm} (b : Tb 0 t) : False := by have := b.ht; have := t.ht_pos; omega
theorem Tb.mono {h k : Nat} {t : Tm} (b : Tb h t) (e : h ≤ k) : Tb k t := ⟨b.good, Nat.le_trans b.ht e, b.cnt, b.low⟩
theorem Tb.shaped {h : Nat} {t : Tm} (b : Tb h t) : SeqAt.shaped t.d = true := shaped_tm b.good (by have := b.low; omega)
theorem shaped_tb {h : Nat} {ts : List Tm} (b : ∀ t ∈ ts, Tb h t) : SeqAt.shaped (.list (ts.map Tm.d)) = true := shaped_tmL fun t m => ⟨(b t m).good, by have := (b t m).low; omega⟩
mutual
theorem good_raw : ∀ (t : Tm), t.good → ∀ u ∈ t.raw, u.good ∧ u.cnt ≤ t.cnt
  | .top, _, _, h => by cases h
  | .bot, _, _, h => by rw [List.mem_singleton.mp h]; exact ⟨trivial, Nat.le_refl _⟩
  | .name _, g, _, h => by rw [List.mem_singleton.mp h]; exact ⟨g, Nat.le_refl _⟩
  | .some _ _, g, _, h => by rw [List.mem_singleton.mp h]; exact ⟨g, Nat.le_refl _⟩
  | .and us, g, u, h => by
    have := goodL_raw us g u h
    exact ⟨this.1, Nat.le_succ_of_le this.2⟩
theorem goodL_raw : ∀ (ts : List Tm), Tm.goodL ts → ∀ u ∈ Tm.rawL ts, u.good ∧ u.cnt ≤ Tm.cntL ts
  | [], _, _, h => by cases h
  | t :: ts, g, u, h => by
    rcases List.mem_append.mp h with h | h
    · have := good_raw t g.1 u h
      exact ⟨this.1, Nat.le_trans this.2 (Nat.le_add_right _ _)⟩
    · have := goodL_raw ts g.2 u h
      exact ⟨this.1, Nat.le_trans this.2 (Nat.le_add_left _ _)⟩
end
theorem Tb.raw {h : Nat} {t u : Tm} (b : Tb h t) (m : u ∈ t.raw) : Tb h u := by
  have := good_raw t b.good u m
  have q := Tm.raw_ht t u m
  exact ⟨this.1, Nat.le_trans q b.ht, Nat.le_trans this.2 b.cnt, Nat.le_trans q b.low⟩
theorem Tb.rlen {h : Nat} {t : Tm} (b : Tb h t) : t.raw.length ≤ 1000 := Nat.le_trans (Tm.raw_len t) b.cnt
theorem tm_imm {us : List Tm} : immAll (us.map Tm.d) = true := by rw [← Tm.dL_map]; exact Tm.imm_dL us
theorem rawL_take {us : List Tm} {k : Nat} {t : Tm} (h : us[k]? = some t) : Tm.rawL (us.take (k + 1)) = Tm.rawL (us.take k) ++ t.raw := by
  rw [List.take_add_one, h, Tm.rawL_flat, Tm.rawL_flat, List.flatMap_append]
  simp
theorem rawL_len {us : List Tm} {k : Nat} (b : Tm.cntL us < 1000) : (Tm.rawL (us.take k)).length ≤ 1000 := by
  have h1 : (Tm.rawL (us.take k)).length ≤ (Tm.rawL us).length := by
    have e : Tm.rawL us = Tm.rawL (us.take k) ++ Tm.rawL (us.drop k) := by
      rw [Tm.rawL_flat, Tm.rawL_flat, Tm.rawL_flat, ← List.flatMap_append, List.take_append_drop]
    rw [e, List.length_append]
    exact Nat.le_add_right _ _
  have := Tm.rawL_len us
  omega
theorem map_at {us : List Tm} {k : Nat} {d : D} (h : (us.map Tm.d)[k]? = some d) : ∃ t, us[k]? = some t ∧ d = t.d := by
  rw [List.getElem?_map] at h
  cases e : us[k]? with
  | none => rw [e] at h; cases h
  | some t => rw [e] at h; exact ⟨t, rfl, (Option.some.inj h).symm⟩
section
variable {K : PySem.W.Frag} {T : List NTab} {P : R → Prop}
theorem opd_eqTop {t : Tm} (h : SeqAt.shaped t.d = true) (p : P (.val (.bool (decide (t = .top))))) : OpD K (rEqD K) t.d (.tuple [.str "top"]) P :=
  opd_eqD h (by decide +kernel) (by have e := eqv_tm t .top; rw [show PyData.tuple [.str "top"] = Tm.top.d from rfl, e]; exact p)
theorem opd_eqBot {t : Tm} (h : SeqAt.shaped t.d = true) (p : P (.val (.bool (decide (t = .bot))))) : OpD K (rEqD K) t.d (.tuple [.str "bottom"]) P :=
  opd_eqD h (by decide +kernel) (by have e := eqv_tm t .bot; rw [show PyData.tuple [.str "bottom"] = Tm.bot.d from rfl, e]; exact p)
theorem opd_neBot {t : Tm} (h : SeqAt.shaped t.d = true) (p : P (.val (.bool (!decide (t = .bot))))) : OpD K (rNeD K) t.d (.tuple [.str "bottom"]) P :=
  opd_neD h (by decide +kernel) (by have e := eqv_tm t .bot; rw [show PyData.tuple [.str "bottom"] = Tm.bot.d from rfl, e]; exact p)
theorem opd_eqTm {t u : Tm} (h : SeqAt.shaped t.d = true) (k : SeqAt.shaped u.d = true) (p : P (.val (.bool (decide (t = u))))) : OpD K (rEqD K) t.d u.d P :=
  opd_eqD h k (by rw [eqv_tm]; exact p)
theorem opd_neTm {t u : Tm} (h : SeqAt.shaped t.d = true) (k : SeqAt.shaped u.d = true) (p : P (.val (.bool (!decide (t = u))))) : OpD K (rNeD K) t.d u.d P :=
  opd_neD h k (by rw [eqv_tm]; exact p)
theorem opd_eqW {x y : Str} (h : W x) (k : W y) (p : P (.val (.bool (decide (x = y))))) : OpD K (rEqD K) (.str x) (.str y) P :=
  opd_eqD (shaped_W h) (shaped_W k) (by rw [eqv_str]; exact p)
theorem opd_inTm {t : Tm} {us : List Tm} (h : SeqAt.shaped t.d = true) (k : SeqAt.shaped (.list (us.map Tm.d)) = true) (p : P (.val (.bool (decide (t ∈ us))))) : OpD K (rInD K) t.d (.list (us.map Tm.d)) P :=
  opd_inD h k (by rw [any_tm]; exact p)
theorem opd_niTm {t : Tm} {us : List Tm} (h : SeqAt.shaped t.d = true) (k : SeqAt.shaped (.list (us.map Tm.d)) = true) (p : P (.val (.bool (!decide (t ∈ us))))) : OpD K (rNotInD K) t.d (.list (us.map Tm.d)) P :=
  opd_notInD h k (by rw [any_tm]; exact p)
theorem opd_inBot {us : List Tm} (k : SeqAt.shaped (.list (us.map Tm.d)) = true) (p : P (.val (.bool (decide (Tm.bot ∈ us))))) : OpD K (rInD K) (.tuple [.str "bottom"]) (.list (us.map Tm.d)) P :=
  opd_inTm (t := .bot) (by decide +kernel) k p
end
theorem str_ext {x y : Str} (h : x.cps.toList = y.cps.toList) : x = y := str_of_cps h
theorem tl_app (x y : Str) : (x ++ y).cps.toList = x.cps.toList ++ y.cps.toList := by
  show (x.cps ++ y.cps).toList = _
  rw [Array.toList_append]
theorem tl_wr (t : Tm) : t.wr.cps.toList = t.wl := by simp [Tm.wr]
theorem len_tl (x : Str) : x.length = x.cps.toList.length := by simp [Str.length]
mutual
theorem wl_len : ∀ t : Tm, t.good → t.wl.length + 5 ≤ 25 * t.cnt
  | .top, _ => by show 3 + 5 ≤ 25 * 1; decide
  | .bot, _ => by show 6 + 5 ≤ 25 * 1; decide
  | .name w, g => by
    have g : W w := g
    have h := g.hi
    rw [len_tl] at h
    show w.cps.toList.length + 5 ≤ 25 * 1
    omega
  | .some r t, g => by
    have h := g.1.hi
    have h2 := wl_len t g.2
    rw [len_tl] at h
    rw [Tm.wl]
    show _ ≤ 25 * (t.cnt + 1)
    by_cases ha : t.isAnd = true
    · rw [if_pos ha]
      simp only [cSome, List.length_append, List.length_cons, List.length_nil]
      omega
    · rw [if_neg ha]
      simp only [cSome, List.length_append, List.length_cons, List.length_nil]
      omega
  | .and ts, g => by
    rw [Tm.wl]
    show _ ≤ 25 * (Tm.cntL ts + 1)
    have := wlL_len ts g
    omega
theorem wlL_len : ∀ ts : List Tm, Tm.goodL ts → (Tm.wlL ts).length ≤ 25 * Tm.cntL ts
  | [], _ => by simp [Tm.wlL]
  | [t], g => by
    rw [Tm.wlL]
    have := wl_len t g.1
    show _ ≤ 25 * (t.cnt + 0)
    simp only [List.length_append, List.length_nil]
    omega
  | t :: u :: ts, g => by
    rw [Tm.wlL]
    have h1 := wl_len t g.1
    have h2 := wlL_len (u :: ts) g.2
    have h3 := t.cnt_pos
    show _ ≤ 25 * (t.cnt + Tm.cntL (u :: ts))
    simp only [cAnd, List.length_append, List.length_cons, List.length_nil]
    omega
end
theorem Tb.wlen {h : Nat} {t : Tm} (b : Tb h t) : t.wr.length ≤ 25000 := by
  have h1 := wl_len t b.good
  have h2 := b.cnt
  rw [len_tl, tl_wr]
  omega
theorem join_tl (y : Str) : ∀ ts : List Tm, y.cps.toList = cAnd → (Txt.join y (ts.map Tm.wr)).cps.toList = Tm.wlL ts := by
  intro ts hy
  have e : Txt.join y (ts.map Tm.wr) = Str.join y (ts.map Tm.wr) := StrLaws.glued_eq_join _ _
  rw [e]
  clear e
  induction ts with
  | nil => rfl
  | cons t ts ih =>
    cases ts with
    | nil =>
      show t.wr.cps.toList = _
      rw [tl_wr, Tm.wlL]
      simp
    | cons u us =>
      show (t.wr ++ y ++ Str.join y ((u :: us).map Tm.wr)).cps.toList = _
      rw [tl_app, tl_app, tl_wr, hy, ih, Tm.wlL, List.append_assoc]
theorem sum_wr : ∀ {ts : List Tm}, Tm.goodL ts → ((ts.map Tm.wr).map (·.length)).sum ≤ 25 * Tm.cntL ts
  | [], _ => by simp
  | t :: ts, g => by
    have h1 := wl_len t g.1
    have h2 := sum_wr (ts := ts) g.2
    show t.wr.length + ((ts.map Tm.wr).map (·.length)).sum ≤ 25 * (t.cnt + Tm.cntL ts)
    rw [len_tl, tl_wr]
    omega
end Pl
set_option Elab.async false
set_option linter.all false
set_option maxRecDepth 100000
set_option maxHeartbeats 1000001
namespace Pl
open PySem PySem.W
theorem cntL_app : ∀ (us vs : List Tm), Tm.cntL (us ++ vs) = Tm.cntL us + Tm.cntL vs
  | [], vs => by simp [Tm.cntL]
  | u :: us, vs => by rw [List.cons_append, Tm.cntL, Tm.cntL, cntL_app us vs]; omega
theorem cntL_sub {us vs : List Tm} (h : us.Sublist vs) : Tm.cntL us ≤ Tm.cntL vs := by
  induction h with
  | slnil => exact Nat.le_refl _
  | cons a _ ih => show _ ≤ a.cnt + _; omega
  | cons_cons a _ ih => show a.cnt + _ ≤ a.cnt + _; omega
theorem cntL_perm {us vs : List Tm} (h : us.Perm vs) : Tm.cntL us = Tm.cntL vs := by
  induction h with
  | nil => rfl
  | cons a _ ih => show a.cnt + _ = a.cnt + _; omega
  | swap a b l => show b.cnt + (a.cnt + _) = a.cnt + (b.cnt + _); omega
  | trans _ _ h1 h2 => omega
theorem cntL_ddp : ∀ (as acc : List Tm), Tm.cntL (ddp acc as) ≤ Tm.cntL acc + Tm.cntL as
  | [], acc => by simp [ddp, Tm.cntL]
  | a :: as, acc => by
    rw [ddp]
    have := cntL_ddp as (if a ∈ acc then acc else acc ++ [a])
    by_cases h : a ∈ acc
    · rw [if_pos h] at this ⊢
      show _ ≤ _ + (a.cnt + _)
      omega
    · rw [if_neg h] at this ⊢
      rw [cntL_app] at this
      have e : Tm.cntL [a] = a.cnt := by simp [Tm.cntL]
      show _ ≤ _ + (a.cnt + _)
      omega
theorem cntL_row (t : Tm) : Tm.cntL t.row ≤ Tm.cntL t.pre := by
  unfold Tm.row
  rw [cntL_perm (srt_perm _)]
  have h1 := cntL_sub (us := kpt (ddp [] t.pre)) (List.filter_sublist)
  have h2 := cntL_ddp t.pre []
  have e : Tm.cntL [] = 0 := rfl
  omega
theorem len_row (t : Tm) : t.row.length ≤ t.pre.length := by
  unfold Tm.row
  rw [(srt_perm _).length_eq]
  refine Nat.le_trans (List.length_filter_le _ _) ?_
  have : ∀ (as acc : List Tm), (ddp acc as).length ≤ acc.length + as.length := by
    intro as
    induction as with
    | nil => intro acc; simp [ddp]
    | cons a as ih =>
      intro acc
      rw [ddp]
      have := ih (if a ∈ acc then acc else acc ++ [a])
      by_cases h : a ∈ acc
      · rw [if_pos h] at this ⊢; simp; omega
      · rw [if_neg h] at this ⊢; simp at this ⊢; omega
  have := this t.pre []
  simpa using this
/-- what the parts are held to -/
structure Bd (t : Tm) : Prop where
  good : t.nf.good
  ht : t.nf.ht ≤ t.ht
  cnt : t.nf.cnt ≤ t.cnt
theorem shp_bd {ks : List Tm} {g : Prop} {n m : Nat} (h1 : ∀ k ∈ ks, k.good ∧ k.ht ≤ n) (h2 : Tm.cntL ks ≤ m) (hn : 1 ≤ n) (hm : 1 ≤ m) (hl : ks.length ≤ 1) : (shp ks).good ∧ (shp ks).ht ≤ n ∧ (shp ks).cnt ≤ m := by
  match ks, hl with
  | [], _ => exact ⟨trivial, hn, hm⟩
  | [k], _ => exact ⟨(h1 k List.mem_cons_self).1, (h1 k List.mem_cons_self).2, by have : k.cnt + 0 ≤ m := h2; exact this⟩
theorem shp_bd2 {ks : List Tm} {n m : Nat} (h1 : ∀ k ∈ ks, k.good ∧ k.ht ≤ n) (h2 : Tm.cntL ks ≤ m) : (shp ks).good ∧ (shp ks).ht ≤ n + 1 ∧ (shp ks).cnt ≤ m + 1 := by
  match ks, h1, h2 with
  | [], _, _ => exact ⟨trivial, Nat.le_add_left _ _, Nat.le_add_left _ _⟩
  | [k], h1, h2 => exact ⟨(h1 k List.mem_cons_self).1, Nat.le_succ_of_le (h1 k List.mem_cons_self).2, by have : k.cnt + 0 ≤ m := h2; show k.cnt ≤ m + 1; omega⟩
  | k :: l :: ks, h1, h2 =>
    refine ⟨Tm.goodL_iff.mpr fun x hx => (h1 x hx).1, ?_, Nat.succ_le_succ h2⟩
    show Tm.htL (k :: l :: ks) + 1 ≤ n + 1
    have all : ∀ xs : List Tm, (∀ x ∈ xs, x.ht ≤ n) → Tm.htL xs ≤ n := by
      intro xs
      induction xs with
      | nil => intro _; exact Nat.zero_le _
      | cons x xs ih => intro h; exact Nat.max_le.mpr ⟨h x List.mem_cons_self, ih fun y hy => h y (List.mem_cons_of_mem _ hy)⟩
    exact Nat.succ_le_succ (all _ fun x hx => (h1 x hx).2)
mutual
theorem pre_bd : ∀ t : Tm, t.good → (∀ a ∈ t.pre, a.good ∧ a.ht ≤ t.ht) ∧ Tm.cntL t.pre ≤ t.cnt
  | .top, _ => by simp [Tm.pre, Tm.cntL]
  | .bot, _ => by simp [Tm.pre, Tm.cntL, Tm.good, Tm.cnt]
  | .name w, g => by
    rw [Tm.pre]
    exact ⟨fun a h => by rw [List.mem_singleton.mp h]; exact ⟨g, Nat.le_refl _⟩, Nat.le_refl _⟩
  | .some r t, g => by
    have b := nf_bd t g.2
    rw [pre_some]
    by_cases hv : t.void = true
    · rw [if_pos hv]
      refine ⟨fun a h => by rw [List.mem_singleton.mp h]; exact ⟨trivial, Nat.le_add_left _ _⟩, ?_⟩
      show 1 + 0 ≤ t.cnt + 1
      omega
    · rw [if_neg hv]
      refine ⟨fun a h => by rw [List.mem_singleton.mp h]; exact ⟨⟨g.1, b.good⟩, Nat.succ_le_succ b.ht⟩, ?_⟩
      show t.nf.cnt + 1 + 0 ≤ t.cnt + 1
      have := b.cnt
      omega
  | .and ts, g => by
    rw [Tm.pre]
    obtain ⟨h1, h2⟩ := preL_bd ts g
    exact ⟨fun a h => ⟨(h1 a h).1, Nat.le_succ_of_le (h1 a h).2⟩, Nat.le_succ_of_le h2⟩
theorem preL_bd : ∀ ts : List Tm, Tm.goodL ts → (∀ a ∈ Tm.preL ts, a.good ∧ a.ht ≤ Tm.htL ts) ∧ Tm.cntL (Tm.preL ts) ≤ Tm.cntL ts
  | [], _ => by simp [Tm.preL, Tm.cntL]
  | t :: ts, g => by
    obtain ⟨h1, h2⟩ := pre_bd t g.1
    obtain ⟨h3, h4⟩ := preL_bd ts g.2
    rw [Tm.preL]
    refine ⟨fun a h => ?_, ?_⟩
    · rcases List.mem_append.mp h with h | h
      · exact ⟨(h1 a h).1, Nat.le_trans (h1 a h).2 (Nat.le_max_left _ _)⟩
      · exact ⟨(h3 a h).1, Nat.le_trans (h3 a h).2 (Nat.le_max_right _ _)⟩
    · rw [cntL_app]
      show _ ≤ t.cnt + Tm.cntL ts
      omega
theorem nf_bd : ∀ t : Tm, t.good → Bd t
  | .top, g => by
    have : Tm.top.nf = .top := by
      rw [nf_row rfl]
      have : Tm.top.row = [] := List.eq_nil_of_length_eq_zero (by have := len_row .top; simpa [Tm.pre] using this)
      rw [this]; rfl
    exact ⟨by rw [this]; exact trivial, by rw [this]; exact Nat.le_refl _, by rw [this]; exact Nat.le_refl _⟩
  | .bot, g => by
    have : Tm.bot.nf = .bot := nf_bot.mpr rfl
    exact ⟨by rw [this]; exact trivial, by rw [this]; exact Nat.le_refl _, by rw [this]; exact Nat.le_refl _⟩
  | .name w, g => by
    have h1 : (Tm.name w).row.length ≤ 1 := by have := len_row (.name w); rw [Tm.pre] at this; exact this
    have h2 : Tm.cntL (Tm.name w).row ≤ 1 := by have := cntL_row (.name w); rw [Tm.pre] at this; exact this
    have h3 : ∀ k ∈ (Tm.name w).row, k.good ∧ k.ht ≤ 1 := fun k hk => by
      have := (row_mem.mp hk).1
      rw [Tm.pre] at this
      rw [List.mem_singleton.mp this]
      exact ⟨g, Nat.le_refl _⟩
    obtain ⟨q1, q2, q3⟩ := shp_bd (g := True) h3 h2 (Nat.le_refl _) (Nat.le_refl _) h1
    rw [← nf_row rfl] at q1 q2 q3
    exact ⟨q1, q2, q3⟩
  | .some r t, g => by
    by_cases hv : t.void = true
    · have : (Tm.some r t).nf = .bot := nf_bot.mpr hv
      exact ⟨by rw [this]; exact trivial, by rw [this]; exact Nat.le_add_left _ _, by rw [this]; exact Nat.le_add_left _ _⟩
    · have b := nf_bd t g.2
      have hv : (Tm.some r t).void = false := Bool.eq_false_iff.mpr hv
      have hv2 : t.void = false := hv
      have ep : (Tm.some r t).pre = [.some r t.nf] := by rw [pre_some, hv2, if_neg Bool.false_ne_true]
      have h1 : (Tm.some r t).row.length ≤ 1 := by have := len_row (.some r t); rw [ep] at this; exact this
      have h2 : Tm.cntL (Tm.some r t).row ≤ (Tm.some r t).cnt := by
        have := cntL_row (.some r t)
        rw [ep] at this
        have e : Tm.cntL [Tm.some r t.nf] = t.nf.cnt + 1 := by simp [Tm.cntL, Tm.cnt]
        have := b.cnt
        show _ ≤ t.cnt + 1
        omega
      have h3 : ∀ k ∈ (Tm.some r t).row, k.good ∧ k.ht ≤ (Tm.some r t).ht := fun k hk => by
        have := (row_mem.mp hk).1
        rw [ep] at this
        rw [List.mem_singleton.mp this]
        exact ⟨⟨g.1, b.good⟩, Nat.succ_le_succ b.ht⟩
      obtain ⟨q1, q2, q3⟩ := shp_bd (g := True) h3 h2 (Nat.le_add_left _ _) (Nat.le_add_left _ _) h1
      rw [← nf_row hv] at q1 q2 q3
      exact ⟨q1, q2, q3⟩
  | .and ts, g => by
    by_cases hv : (Tm.and ts).void = true
    · have : (Tm.and ts).nf = .bot := nf_bot.mpr hv
      exact ⟨by rw [this]; exact trivial, by rw [this]; exact Nat.le_add_left _ _, by rw [this]; exact Nat.le_add_left _ _⟩
    · have hv : (Tm.and ts).void = false := Bool.eq_false_iff.mpr hv
      obtain ⟨h1, h2⟩ := preL_bd ts g
      have h3 : ∀ k ∈ (Tm.and ts).row, k.good ∧ k.ht ≤ Tm.htL ts := fun k hk => by
        have := (row_mem.mp hk).1
        rw [Tm.pre] at this
        exact h1 k this
      have h4 : Tm.cntL (Tm.and ts).row ≤ Tm.cntL ts := by
        have := cntL_row (.and ts)
        rw [Tm.pre] at this
        omega
      obtain ⟨q1, q2, q3⟩ := shp_bd2 h3 h4
      rw [← nf_row hv] at q1 q2 q3
      exact ⟨q1, q2, q3⟩
end
theorem Tb.nf {h : Nat} {t : Tm} (b : Tb h t) : Tb h t.nf := by
  have q := nf_bd t b.good
  exact ⟨q.good, Nat.le_trans q.ht b.ht, Nat.le_trans q.cnt b.cnt, Nat.le_trans q.ht b.low⟩
/-- what make_normal makes of a conjunct -/
noncomputable def stp : Tm → Tm
  | .some r v => if v.nf = .bot then .bot else .some r v.nf
  | x => x
mutual
theorem pre_raw : ∀ t : Tm, t.pre = t.raw.map stp
  | .top => by simp [Tm.pre, Tm.raw]
  | .bot => by simp [Tm.pre, Tm.raw, stp]
  | .name w => by simp [Tm.pre, Tm.raw, stp]
  | .some r t => by rw [Tm.pre]; rfl
  | .and ts => by rw [Tm.pre, Tm.raw]; exact preL_raw ts
theorem preL_raw : ∀ ts : List Tm, Tm.preL ts = (Tm.rawL ts).map stp
  | [] => by simp [Tm.preL, Tm.rawL]
  | t :: ts => by rw [Tm.preL, Tm.rawL, List.map_append, pre_raw t, preL_raw ts]
end
theorem ddp_snoc : ∀ (xs acc : List Tm) (a : Tm), ddp acc (xs ++ [a]) = if a ∈ ddp acc xs then ddp acc xs else ddp acc xs ++ [a]
  | [], acc, a => by rw [List.nil_append, ddp, ddp, ddp]
  | x :: xs, acc, a => by
    rw [List.cons_append, ddp, ddp, ddp_snoc xs]
theorem wr_inj {a b : Tm} (ha : KA a) (hb : KA b) (e : a.wr = b.wr) : a = b := by
  refine wl_inj ha.sh.1 hb.sh.1 ha.sh.2 hb.sh.2 ?_
  have := congrArg (fun x : Str => x.cps.toList) e
  simpa [Tm.wr] using this
def kvOf (ds : List Tm) : List (L2.Key × D) := ds.map fun a => (.inr a.wr, a.d)
theorem put_kv {ds : List Tm} {a : Tm} (h : ∀ x ∈ ds, KA x) (ha : KA a) : putD (kvOf ds) (.inr a.wr) a.d = kvOf (if a ∈ ds then ds else ds ++ [a]) := by
  unfold putD
  by_cases m : a ∈ ds
  · rw [if_pos m]
    have e : ((kvOf ds).any fun kv => decide (kv.1 = .inr a.wr)) = true := List.any_eq_true.mpr ⟨(.inr a.wr, a.d), List.mem_map.mpr ⟨a, m, rfl⟩, by simp⟩
    rw [if_pos e]
    unfold kvOf
    rw [List.map_map]
    refine List.map_congr_left fun x hx => ?_
    show (if (Sum.inr x.wr : L2.Key) = .inr a.wr then ((Sum.inr x.wr : L2.Key), a.d) else (.inr x.wr, x.d)) = (.inr x.wr, x.d)
    by_cases q : x.wr = a.wr
    · rw [if_pos (by rw [q]), wr_inj (h x hx) ha q]
    · rw [if_neg (fun z => q (by injection z))]
  · rw [if_neg m]
    have e : ((kvOf ds).any fun kv => decide (kv.1 = .inr a.wr)) = false := by
      rw [Bool.eq_false_iff]
      intro z
      obtain ⟨kv, h1, h2⟩ := List.any_eq_true.mp z
      obtain ⟨x, hx, rfl⟩ := List.mem_map.mp h1
      have h2 : (Sum.inr x.wr : L2.Key) = .inr a.wr := of_decide_eq_true h2
      exact m (wr_inj (h x hx) ha (by injection h2) ▸ hx)
    rw [if_neg (by rw [e]; exact Bool.false_ne_true)]
    simp [kvOf]
theorem kvOf_vals (ds : List Tm) : (kvOf ds).map (·.2) = ds.map Tm.d := by simp [kvOf]
noncomputable def Tm.of (d : D) : Tm := open Classical in if h : ∃ t : Tm, t.d = d then h.choose else .top
theorem Tm.of_d (t : Tm) : Tm.of t.d = t := by
  unfold Tm.of
  have h : ∃ u : Tm, u.d = t.d := ⟨t, rfl⟩
  rw [dif_pos h]
  exact Tm.d_inj h.choose_spec
theorem srt_d (ks : List Tm) : (ks.map Tm.d).mergeSort (dataLe false fun d => (Tm.of d).keyD) = (srt ks).map Tm.d := by
  refine (sort_maps Tm.d fun a _ b _ => ?_).symm
  show dataLe false Tm.keyD a b = dataLe false (fun d => (Tm.of d).keyD) a.d b.d
  unfold dataLe sortLe
  simp only [Tm.of_d]
theorem keyD_form (t : Tm) : ∃ i x, t.keyD = .tuple [.int i, .str x] := by
  cases t <;> exact ⟨_, _, rfl⟩
theorem keys_alike (ks : List Tm) : AllAlike ((ks.map Tm.d).map fun d => (Tm.of d).keyD) := fun d hd d' hd' => by
  obtain ⟨x, hx, rfl⟩ := List.mem_map.mp hd
  obtain ⟨y, hy, rfl⟩ := List.mem_map.mp hd'
  obtain ⟨i, s, e⟩ := keyD_form (Tm.of x)
  obtain ⟨j, s', e'⟩ := keyD_form (Tm.of y)
  rw [e, e']
  rfl
theorem keys_sortable (ks : List Tm) : Sortable ((ks.map Tm.d).map fun d => (Tm.of d).keyD) := .inl fun d hd => by
  obtain ⟨x, hx, rfl⟩ := List.mem_map.mp hd
  obtain ⟨i, s, e⟩ := keyD_form (Tm.of x)
  exact ⟨_, _, e⟩
theorem keyD_dep (t : Tm) : t.keyD.depth ≤ 60 ∧ imm t.keyD = true := by
  obtain ⟨i, s, e⟩ := keyD_form t
  rw [e]
  exact ⟨by show max 0 (max 0 0) + 1 ≤ 60; decide, rfl⟩
theorem srt_nil : srt [] = [] := List.Perm.eq_nil (srt_perm [])
theorem srt_one (k : Tm) : srt [k] = [k] := List.perm_singleton.mp (srt_perm [k])
mutual
def Tm.sz : Tm → Nat
  | .name _ => 1
  | .some _ t => t.sz + 1
  | .and ts => Tm.szL ts
  | _ => 0
def Tm.szL : List Tm → Nat
  | [] => 0
  | t :: ts => t.sz + Tm.szL ts
end
theorem szL_app : ∀ (us vs : List Tm), Tm.szL (us ++ vs) = Tm.szL us + Tm.szL vs
  | [], vs => by simp [Tm.szL]
  | u :: us, vs => by rw [List.cons_append, Tm.szL, Tm.szL, szL_app us vs]; omega
mutual
theorem sz_raw : ∀ t : Tm, t.sz = Tm.szL t.raw
  | .top => rfl
  | .bot => rfl
  | .name _ => rfl
  | .some r t => rfl
  | .and ts => by rw [Tm.sz, Tm.raw]; exact szL_raw ts
theorem szL_raw : ∀ ts : List Tm, Tm.szL ts = Tm.szL (Tm.rawL ts)
  | [] => rfl
  | t :: ts => by rw [Tm.szL, Tm.rawL, szL_app, ← sz_raw t, ← szL_raw ts]
end
theorem szL_take {us : List Tm} {k : Nat} {t : Tm} (h : us[k]? = some t) : Tm.szL (us.take (k + 1)) = Tm.szL (us.take k) + t.sz := by
  rw [List.take_add_one, h, szL_app]
  show _ + (t.sz + 0) = _
  omega
theorem ge2_lt {a b : Tm} (ha : KA a) (hb : KA b) (ne : a ≠ b) (le : dataLe false Tm.keyD a b = true) : ∃ i j x y, a.keyD = .tuple [.int i, .str x] ∧ b.keyD = .tuple [.int j, .str y] ∧ ge2 i j x y = false := by
  obtain ⟨i, x, ea⟩ := keyD_form a
  obtain ⟨j, y, eb⟩ := keyD_form b
  refine ⟨i, j, x, y, ea, eb, ?_⟩
  have h : (!PyProof.Rows.lexLt PyProof.Rows.itemOrd (keyToks b.keyD) (keyToks a.keyD)) = true := le
  rw [Bool.not_eq_true', ea, eb] at h
  have ta : keyToks (.tuple [.int i, .str x]) = .inl 1 :: .inl i :: .inl 1 :: .inr x.cps.toList :: [.inl 0] := by simp [keyToks, keyToksAll]
  have tb : keyToks (.tuple [.int j, .str y]) = .inl 1 :: .inl j :: .inl 1 :: .inr y.cps.toList :: [.inl 0] := by simp [keyToks, keyToksAll]
  rw [ta, tb, PyProof.Rows.lex_self (O := PyProof.Rows.itemOrd)] at h
  by_cases e : i = j
  · subst e
    rw [PyProof.Rows.lex_self (O := PyProof.Rows.itemOrd), PyProof.Rows.lex_self (O := PyProof.Rows.itemOrd)] at h
    have nx : x ≠ y := fun q => by
      subst q
      exact ne (keyD_inj ha.sh.1 hb.sh.1 ha.sh.2 hb.sh.2 (by rw [ea, eb]))
    have nl : y.cps.toList ≠ x.cps.toList := fun q => nx (str_of_cps q).symm
    rw [PyProof.Rows.lex_diff (O := PyProof.Rows.itemOrd) (fun q => nl (by injection q))] at h
    have h : decide (y.cps.toList < x.cps.toList) = false := h
    have h := of_decide_eq_false h
    unfold ge2
    rw [if_pos rfl, if_neg nx]
    have lt : x.cps.toList < y.cps.toList := by
      by_cases q : x.cps.toList < y.cps.toList
      · exact q
      · exact absurd (List.le_antisymm (List.not_lt.mp q) (List.not_lt.mp h)) nl
    rw [decide_eq_true lt]
    rfl
  · rw [PyProof.Rows.lex_diff (O := PyProof.Rows.itemOrd) (fun q => e (by injection q with q; exact q.symm))] at h
    have h : decide (j < i) = false := h
    have h := of_decide_eq_false h
    unfold ge2
    rw [if_neg e]
    exact decide_eq_false (by omega)
structure NR (h : Nat) (ks : List Tm) : Prop where
  mem : ∀ k ∈ ks, Tb h k ∧ KA k
  asc : ∀ (n : Nat) (a b : Tm), ks[n]? = some a → ks[n + 1]? = some b → ∃ i j x y, a.keyD = .tuple [.int i, .str x] ∧ b.keyD = .tuple [.int j, .str y] ∧ ge2 i j x y = false
  irr : ∀ (n m : Nat) (a : Tm) (r : Str) (v : Tm), ks[n]? = some a → ks[m]? = some (.some r v) → n ≠ m → a.under (.some r v) = false
  len : ks.length ≤ 1000
theorem nr_row {h : Nat} {t : Tm} (g : t.good) (hv : t.void = false) (hb : ∀ k ∈ t.row, Tb h k) (hl : t.row.length ≤ 1000) : NR h t.row where
  mem := fun k hk => ⟨hb k hk, ka_of_row g hv hk⟩
  asc := fun n a b h1 h2 => by
    have ma := List.mem_of_getElem? h1
    have mb := List.mem_of_getElem? h2
    obtain ⟨l1, e1⟩ := List.getElem?_eq_some_iff.mp h1
    obtain ⟨l2, e2⟩ := List.getElem?_eq_some_iff.mp h2
    refine ge2_lt (ka_of_row g hv ma) (ka_of_row g hv mb) (fun e => ?_) ?_
    · have := (List.pairwise_iff_getElem.mp (row_nodup t)) n (n + 1) l1 l2 (Nat.lt_succ_self n)
      rw [e1, e2] at this
      exact this e
    · have := (List.pairwise_iff_getElem.mp (sort_pairwise key_total (kpt (ddp [] t.pre)))) n (n + 1) l1 l2 (Nat.lt_succ_self n)
      have q : dataLe false Tm.keyD (t.row[n]) (t.row[n + 1]) = true := this
      rw [e1, e2] at q
      exact q
  irr := fun n m a r v h1 h2 hne => by
    have ma := List.mem_of_getElem? h1
    have mb := List.mem_of_getElem? h2
    obtain ⟨l1, e1⟩ := List.getElem?_eq_some_iff.mp h1
    obtain ⟨l2, e2⟩ := List.getElem?_eq_some_iff.mp h2
    cases q : a.under (.some r v) with
    | false => rfl
    | true =>
      exfalso
      have nv : a.void = false := pre_nv hv g a (row_mem.mp ma).1
      have at1 : a.atom = true := pre_atom t a (row_mem.mp ma).1
      have q := (le_iff.mp q).resolve_left (by rw [nv]; exact Bool.false_ne_true)
      rw [Tm.atom_raw at1] at q
      obtain ⟨u, h3, _⟩ := met_by q
      have h3 := List.mem_singleton.mp h3
      subst h3
      have e := row_irr mb ma q
      subst e
      have nd := row_nodup t
      rcases Nat.lt_or_gt_of_ne hne with z | z
      · exact (List.pairwise_iff_getElem.mp nd) n m l1 l2 z (by rw [e1, e2])
      · exact (List.pairwise_iff_getElem.mp nd) m n l2 l1 z (by rw [e1, e2])
  len := hl
end Pl
set_option Elab.async false
set_option linter.all false
set_option maxRecDepth 100000
set_option maxHeartbeats 4000001
namespace K02
open PySem L2 LamX NdefX PyProof.Rows GenW Pl
local macro_rules | `(tactic| k_search "set") => `(tactic| first | (dsimp only [putOs, putO, List.getElem?_cons_zero, List.getElem?_cons_succ, List.set_cons_zero, List.set_cons_succ]; done) | (dsimp only [putOs, putO, List.getElem?_cons_zero, List.getElem?_cons_succ, List.set_cons_zero, List.set_cons_succ]; exact rfl) | exact rfl)
local macro_rules | `(tactic| walk_at "setn") => `(tactic| (intro _; first | (dsimp only [putOs, putO, List.getElem?_cons_zero, List.getElem?_cons_succ, List.set_cons_zero, List.set_cons_succ]; done) | (dsimp only [putOs, putO, List.getElem?_cons_zero, List.getElem?_cons_succ, List.set_cons_zero, List.set_cons_succ]; exact rfl) | exact rfl))
local macro_rules | `(tactic| k_search "cnd") => `(tactic| first | assumption | omega | decide | exact ⟨by omega, by decide⟩ | exact Or.inr ⟨by decide, by decide⟩ | exact Or.inl ⟨by decide, by decide⟩ | exact ⟨by decide, by decide, by decide⟩)
local macro_rules | `(tactic| k_search "len") => `(tactic| first | exact Nat.le_of_ble_eq_true rfl | (simp; done) | omega)
variable {P : Program} {w : World} {K : PySem.W.Frag} {mg : Str → Option Value} {base : Heap} {T : List NTab} {ts : List Str}
theorem W.lt {x : Str} (h : W x) : x.length ≤ 1000000 := Nat.le_trans h.hi (by decide)
def F_is_word : FS := fun as Q => ∃ x : Str, as = [.val (.str x)] ∧ W x ∧ Q (.val (.bool true)) []
theorem atS0 {x : Str} {c : Nat} (h : x.cps[0]? = some c) : atI x.cps.toList 0 = some c := by
  have e : x.cps.toList[0]? = some c := by rw [Array.getElem?_toList]; exact h
  exact atI_nat (j := 0) e
theorem ok_is_word (c : Al K mg base ds fr ts cs) : Ok P w K mg base 1 "is_word" ["value"] (spOf K T F_is_word) := by
  have nd := sc_is_word.nd
  refine ok_of c (.head _) (fun _ _ _ _ _ _ us hl => match us, hl with | [_], _ => rfl) sc_is_word (fun as Q h => by obtain ⟨x, rfl, _⟩ := h; rfl) fun f cdv A outer s H E hr as Q qs hF hq => ?_
  obtain ⟨x, rfl, hw, hQ⟩ := hF
  obtain rfl : qs = [] := List.length_eq_zero_iff.mp hq
  refine ⟨_, (pss_cons (ps_if (PW.pt (pw_or (pt_not (pt_val (pe_callB (r := rIsi K) call_isi rfl (c.fr _ (.tail _ (.head _))) PyProof.Rows.boot_isinstance (pa_cons (pv 0) (pa_cons (pe_bltn (v := .ty "str") rfl (c.fr _ (.tail _ (.tail _ (.head _)))) PyProof.Rows.boot_str rfl) pa_nil))))) (pw_or1 (pt_not (pt_chain op_le op_le pe_int (pe_callB (r := Pl.rLen K) call_len rfl (c.fr _ (.tail _ (.tail _ (.tail _ (.head _))))) PySem.boot_len (pa_cons (pv 0) pa_nil)) (pe_kI (c.cs _ (.tail _ (.tail _ (.tail _ (.tail _ (.head _)))))) rfl)))))) (pss_one (ps_ret pe_bl)) pss_nil)
    (pss_cons (ps_if (PW.pt (pw_or (pt_cmpR (r := rIn K false) op_in_seq (pv 0) (pe_kT (c.cs _ (.tail _ (.tail _ (.tail _ (.tail _ (.tail _ (.head _))))))) rfl) rfl) (pw_or1 (pt_cmpR (r := rNiSg) op_notIn_sign (pe_ix (r := rIxS) ix_str (pv 0) pe_int (fun _ _ => rfl)) (pe_kS (c.cs _ (.tail _ (.tail _ (.head _)))) rfl) rfl)))) (pss_one (ps_ret pe_bl)) pss_nil)
    (pss_one (ps_ret (pe_callB (r := rAll K) (cr_all rfl) rfl (c.fr _ (.head _)) PyProof.Rows.boot_all (pa_cons (pe_lc (own := [("sign", 1)]) (g := gName 1) (tt := tYes) rfl nd (pi_str (pv 0)) (blkOk_by (N := ["value", "sign"]) (sc := defScope (top 10)) (by first | decide +kernel | rfl)) (fun _ _ _ _ _ => pg_name (i := 1) nd rfl (by first | exact Or.inl rfl | exact Or.inr rfl)) (fun _ _ _ _ _ => pts_nil) (fun _ _ _ _ _ => (pe_cmpR (r := rInSg) op_in_sign (pv 1) (pe_kS (c.cs _ (.tail _ (.tail _ (.tail _ (.head _))))) rfl) rfl))) pa_nil)))))), ?_⟩
  show Ss K T _ [.val _, .no] _
  obtain ⟨c0, hc0, hcl⟩ := hw.first
  have hl1 : x.length ≤ 1000000 := Nat.le_trans hw.hi (by decide)
  have g1 : (1 : Int) ≤ (x.length : Int) := by have := hw.lo; omega
  have g2 : (x.length : Int) ≤ 12 := by have := hw.hi; omega
  refine ss_seq (ss_if (et_or (et_not' (et_B (ex_isi (n := "str") (b := true) (ex_var rfl ⟨_, rfl, rfl, ⟨_, rfl, iteF (by decide) (et_not' (et_test (ex_chI (ex_int (ex_cb (exa_cons (ex_var rfl (exa_nil ⟨[_], ⟨rfl, trivial⟩, cb_lenS hl1 ⟨_, _, true, rfl, rfl, by rw [decide_eq_true g1], iteT rfl (ex_int ⟨_, true, rfl, by rw [decide_eq_true g2], ⟨_, rfl, iteF (by decide) ?_⟩⟩)⟩⟩))))))))⟩⟩))))))
  refine ss_next ?_
  refine ss_seq (ss_if (et_or (et_test (ex_op (ex_var rfl (ex_kT (c.cs _ (.tail _ (.tail _ (.tail _ (.tail _ (.tail _ (.head _))))))) ⟨_, _, rfl, rfl, opd_inST (ns := reserved) ⟨_, rfl, iteF (by rw [decide_eq_false hw.free]; decide) (et_test (ex_op (ex_ixS (ex_var rfl (ex_int ⟨_, _, _, rfl, rfl, hl1, atS0 hc0, (ex_str ⟨_, _, rfl, rfl, opd_niSg ⟨_, rfl, iteF (by rw [decide_eq_true hcl]; decide) ?_⟩⟩)⟩)))))⟩⟩))))))
  refine ss_next ?_
  refine ss_ret (ex_cb (exa_cons (ex_lcSW (ex_var rfl ⟨_, rfl, rfl, fun k δ2 acc => δ2 = [.val (.str x), .no] ∧ acc = (List.replicate k true).map .bool ∧ k ≤ 12, ⟨rfl, rfl, Nat.zero_le _⟩, fun k ch δ2 acc hk hn hW => ?_, fun δ2 acc hW => ?_⟩))))
  · obtain ⟨rfl, rfl, hk2⟩ := hW
    have hlt : k < x.cps.size := (Array.getElem?_eq_some_iff.mp hk).1
    have hx12 : x.cps.size ≤ 12 := hw.hi
    have hm : ch ∈ x.cps.toList := Array.mem_toList_iff.mpr (Array.mem_of_getElem? hk)
    have ha : (List.replicate k true).map PyData.bool ++ [PyData.bool (decide (ch ∈ signs.cps.toList))] = (List.replicate (k + 1) true).map PyData.bool := by
      rw [decide_eq_true (hw.all ch hm), List.replicate_succ', List.map_append]
      rfl
    have hk3 : ((List.replicate k true).map PyData.bool).length < 100000 := by rw [List.length_map, List.length_replicate]; omega
    have hk4 : k + 1 ≤ 12 := by omega
    exact turnW_yes (ex_op (ex_var rfl (ex_str ⟨_, _, rfl, rfl, opd_inSg ⟨_, [.val (.str x), .no], rfl, rfl, rfl, hk3, rfl, ha, hk4⟩⟩)))
  · obtain ⟨rfl, rfl, hk2⟩ := hW
    have e : (List.replicate x.cps.size true).all id = true := by simp
    refine exa_nil ⟨[_], ⟨rfl, trivial⟩, cb_all ⟨[], _, rfl, rfl, ?_⟩⟩
    rw [e]
    exact hQ
end K02
set_option Elab.async false
set_option linter.all false
set_option maxRecDepth 100000
set_option maxHeartbeats 4000001
namespace K02
open PySem L2 LamX NdefX PyProof.Rows GenW Pl
local macro_rules | `(tactic| k_search "nrm") => `(tactic| try dsimp only [Int.reduceToNat, putOs_nil, putOs, putO, List.getElem?_cons_zero, List.getElem?_cons_succ, List.set_cons_zero, List.set_cons_succ])
local macro_rules | `(tactic| k_search "take") => `(tactic| ((refine cx [.own _, .val _] [0] ⟨rfl, ⟨_, rfl⟩, rfl, trivial⟩ (by decide) ⟨_, _, _, _, rfl, by k_search "cnd", by k_search "cnd", fun n x y z h1 h2 => ⟨rim1 rfl rfl, ?_⟩⟩); k_search "nrm"))
local macro_rules | `(tactic| k_search "slen0") => `(tactic| (simp only [len_tl, tl_app, List.length_append] at *; omega))
local macro_rules | `(tactic| k_search "slen0") => `(tactic| omega)
local macro_rules | `(tactic| k_search "imm0") => `(tactic| (simp only [imm, immAll, Tm.imm_d, Tm.imm_dL, tm_imm, Bool.and_self]; done))
local macro_rules | `(tactic| k_search "imm0") => `(tactic| assumption)
local macro_rules | `(tactic| k_search "imm0") => `(tactic| exact tm_imm)
local macro_rules | `(tactic| k_search "imm0") => `(tactic| exact Tm.imm_dL _)
local macro_rules | `(tactic| k_search "imm0") => `(tactic| exact Tm.imm_d _)
local macro_rules | `(tactic| k_search "imm0") => `(tactic| rfl)
local macro_rules | `(tactic| k_search "hyp0") => `(tactic| omega)
local macro_rules | `(tactic| k_search "hyp0") => `(tactic| (simp only [*, decide_eq_true_eq, Bool.not_eq_true', decide_eq_false_iff_not, reduceCtorEq, not_false_eq_true]; done))
local macro_rules | `(tactic| k_search "hyp0") => `(tactic| assumption)
local macro_rules | `(tactic| k_search "hyp0") => `(tactic| decide)
local macro_rules | `(tactic| k_search "hyp0") => `(tactic| rfl)
local macro_rules | `(tactic| k_search "len0") => `(tactic| omega)
local macro_rules | `(tactic| k_search "len0") => `(tactic| (simp; done))
local macro_rules | `(tactic| k_search "len0") => `(tactic| exact Nat.le_of_ble_eq_true rfl)
local macro_rules | `(tactic| k_search "cnd0") => `(tactic| exact ⟨by decide, by decide, by decide⟩)
local macro_rules | `(tactic| k_search "cnd0") => `(tactic| exact Or.inl ⟨by omega, by omega⟩)
local macro_rules | `(tactic| k_search "cnd0") => `(tactic| exact Or.inl ⟨by decide, by decide⟩)
local macro_rules | `(tactic| k_search "cnd0") => `(tactic| exact Or.inr ⟨by decide, by decide⟩)
local macro_rules | `(tactic| k_search "cnd0") => `(tactic| exact ⟨by omega, by decide⟩)
local macro_rules | `(tactic| k_search "cnd0") => `(tactic| decide)
local macro_rules | `(tactic| k_search "cnd0") => `(tactic| omega)
local macro_rules | `(tactic| k_search "cnd0") => `(tactic| assumption)
local macro_rules | `(tactic| k_search "set0") => `(tactic| exact rfl)
local macro_rules | `(tactic| k_search "set0") => `(tactic| (dsimp only [Int.reduceToNat, putOs_nil, putOs, putO, List.getElem?_cons_zero, List.getElem?_cons_succ, List.set_cons_zero, List.set_cons_succ]; exact rfl))
local macro_rules | `(tactic| k_search "set0") => `(tactic| (dsimp only [Int.reduceToNat, putOs_nil, putOs, putO, List.getElem?_cons_zero, List.getElem?_cons_succ, List.set_cons_zero, List.set_cons_succ]; done))
local macro_rules | `(tactic| k_search "g1") => `(tactic| with_reducible refine go_cont ?_)
local macro_rules | `(tactic| k_search "g1") => `(tactic| with_reducible refine go_break ?_)
local macro_rules | `(tactic| k_search "g1") => `(tactic| with_reducible refine go_setL ?_)
local macro_rules | `(tactic| k_search "g1") => `(tactic| with_reducible refine go_drop ?_)
local macro_rules | `(tactic| k_search "g1") => `(tactic| with_reducible refine go_retN ?_)
local macro_rules | `(tactic| k_search "g1") => `(tactic| with_reducible refine go_ret ?_)
local macro_rules | `(tactic| k_search "g1") => `(tactic| with_reducible refine go_set ?_)
local macro_rules | `(tactic| k_search "g1") => `(tactic| with_reducible refine go_next ?_)
local macro_rules | `(tactic| k_search "g1") => `(tactic| with_reducible refine go_if ?_)
local macro_rules | `(tactic| k_search "g1") => `(tactic| with_reducible refine go_seq ?_)
local macro_rules | `(tactic| k_search "g2") => `(tactic| with_reducible refine ex_join ?_)
local macro_rules | `(tactic| k_search "g2") => `(tactic| with_reducible refine ex_joined ?_)
local macro_rules | `(tactic| k_search "g2") => `(tactic| with_reducible refine ex_lm ⟨⟨_, _, rfl⟩, ?_⟩)
local macro_rules | `(tactic| k_search "g2") => `(tactic| with_reducible refine ex_ext ⟨⟨_, _, rfl⟩, ?_⟩)
local macro_rules | `(tactic| k_search "g2") => `(tactic| ((with_reducible apply ex_extB); refine ⟨_, _, _, _, rfl, rfl, by decide, ?_, ?_⟩))
local macro_rules | `(tactic| k_search "g2") => `(tactic| with_reducible refine ex_un ?_)
local macro_rules | `(tactic| k_search "g2") => `(tactic| with_reducible refine ex_fmt ?_)
local macro_rules | `(tactic| k_search "g2") => `(tactic| with_reducible refine ex_callV ?_)
local macro_rules | `(tactic| k_search "g2") => `(tactic| with_reducible refine go_call ?_)
local macro_rules | `(tactic| k_search "g2") => `(tactic| with_reducible refine ex_notV ?_)
local macro_rules | `(tactic| k_search "g2") => `(tactic| with_reducible refine ex_andV ?_)
local macro_rules | `(tactic| k_search "g2") => `(tactic| with_reducible refine ex_orV ?_)
local macro_rules | `(tactic| k_search "g2") => `(tactic| with_reducible refine ex_if ?_)
local macro_rules | `(tactic| k_search "g2") => `(tactic| with_reducible refine ex_cb ?_)
local macro_rules | `(tactic| k_search "g2") => `(tactic| with_reducible refine ex_lst ?_)
local macro_rules | `(tactic| k_search "g2") => `(tactic| with_reducible refine ex_tup ?_)
local macro_rules | `(tactic| k_search "g2") => `(tactic| ((with_reducible apply ex_kT); assumption))
local macro_rules | `(tactic| k_search "g2") => `(tactic| with_reducible refine ex_dnewK ?_)
local macro_rules | `(tactic| k_search "g2") => `(tactic| with_reducible refine ex_isN ?_)
local macro_rules | `(tactic| k_search "g2") => `(tactic| with_reducible refine ex_isi4 ?_)
local macro_rules | `(tactic| k_search "g2") => `(tactic| with_reducible refine ex_slL ?_)
local macro_rules | `(tactic| k_search "g2") => `(tactic| with_reducible refine ex_isi3 ?_)
local macro_rules | `(tactic| k_search "g2") => `(tactic| with_reducible refine ex_op ?_)
local macro_rules | `(tactic| k_search "g2") => `(tactic| with_reducible refine ex_ixS ?_)
local macro_rules | `(tactic| k_search "g2") => `(tactic| with_reducible refine ex_ixL ?_)
local macro_rules | `(tactic| k_search "g2") => `(tactic| with_reducible refine ex_ixT ?_)
local macro_rules | `(tactic| k_search "g2") => `(tactic| with_reducible refine ex_non ?_)
local macro_rules | `(tactic| k_search "g2") => `(tactic| with_reducible refine ex_bl ?_)
local macro_rules | `(tactic| k_search "g2") => `(tactic| with_reducible refine ex_str ?_)
local macro_rules | `(tactic| k_search "g2") => `(tactic| with_reducible refine ex_int ?_)
local macro_rules | `(tactic| k_search "g2") => `(tactic| ((with_reducible apply ex_bor); exact rfl))
local macro_rules | `(tactic| k_search "g2") => `(tactic| ((with_reducible apply ex_var); exact rfl))
local macro_rules | `(tactic| k_search "g3") => `(tactic| with_reducible refine exa_nil ?_)
local macro_rules | `(tactic| k_search "g3") => `(tactic| with_reducible refine exa_cons ?_)
local macro_rules | `(tactic| k_search "g3") => `(tactic| with_reducible refine exa_cons (ex_fz (te := tSl (rSlL _) _ _ _) ?_))
local macro_rules | `(tactic| k_search "g3") => `(tactic| with_reducible refine exa_cons (ex_fz (te := tLst _) ?_))
local macro_rules | `(tactic| k_search "g3") => `(tactic| with_reducible refine exa_cons (ex_fz (te := tCB (rListOf _) _) ?_))
local macro_rules | `(tactic| k_search "g3") => `(tactic| with_reducible refine exa_cons (ex_fz (te := tLc _ _ _ _ _) ?_))
local macro_rules | `(tactic| k_search "g4") => `(tactic| with_reducible refine et_not' ?_)
local macro_rules | `(tactic| k_search "g4") => `(tactic| with_reducible refine et_and ?_)
local macro_rules | `(tactic| k_search "g4") => `(tactic| with_reducible refine et_or ?_)
local macro_rules | `(tactic| k_search "g4") => `(tactic| with_reducible refine et_B ?_)
local macro_rules | `(tactic| k_search "g4") => `(tactic| with_reducible refine et_test ?_)
local macro_rules | `(tactic| k_search "g4") => `(tactic| ((with_reducible refine et_truL ?_); ((with_reducible apply ex_bor); exact rfl); refine ⟨_, ⟨_, _, rfl, rfl⟩, ?_⟩))
local macro_rules | `(tactic| k_search "g4") => `(tactic| ((with_reducible refine et_truL ?_); ((with_reducible apply ex_var); exact rfl); refine ⟨_, rfl, ?_⟩))
local macro_rules | `(tactic| k_search "g4") => `(tactic| ((with_reducible refine et_truT ?_); ((with_reducible apply ex_var); exact rfl); refine ⟨_, rfl, ?_⟩))
local macro_rules | `(tactic| k_search "g5") => `(tactic| ((with_reducible apply st_n); (focus k_search "len"); (focus (intro _; k_search "set")); intro ad))
local macro_rules | `(tactic| k_search "g5") => `(tactic| ((with_reducible apply st_v); (focus k_search "set")))
local macro_rules | `(tactic| k_search "g6") => `(tactic| ((with_reducible refine opd_addS ?_ ?_); (focus k_search "slen")))
local macro_rules | `(tactic| k_search "g6") => `(tactic| ((with_reducible refine opd_I ?_ (.int _) ?_); (focus k_search "cnd")))
local macro_rules | `(tactic| k_search "g6") => `(tactic| with_reducible refine opd_I0 (.bl _) ?_)
local macro_rules | `(tactic| k_search "g6") => `(tactic| with_reducible refine opd_I0 (.int _) ?_)
local macro_rules | `(tactic| k_search "g6") => `(tactic| with_reducible refine opd_neB ?_)
local macro_rules | `(tactic| k_search "g6") => `(tactic| with_reducible refine opd_eqB ?_)
local macro_rules | `(tactic| k_search "g6") => `(tactic| with_reducible refine opd_neI ?_)
local macro_rules | `(tactic| k_search "g6") => `(tactic| with_reducible refine opd_eqI ?_)
local macro_rules | `(tactic| k_search "g6") => `(tactic| with_reducible refine opd_neS ?_)
local macro_rules | `(tactic| k_search "g6") => `(tactic| with_reducible refine opd_eqS ?_)
local macro_rules | `(tactic| k_search "g7") => `(tactic| with_reducible refine cb_intB ?_)
local macro_rules | `(tactic| k_search "g7") => `(tactic| with_reducible refine cb_int ?_)
local macro_rules | `(tactic| k_search "g7") => `(tactic| with_reducible refine cb_lenL ?_)
local macro_rules | `(tactic| k_search "g7") => `(tactic| with_reducible refine cb_lenT ?_)
local macro_rules | `(tactic| k_search "g8") => `(tactic| with_reducible refine und_I (.int _) ?_)
local macro_rules | `(tactic| k_search "g9") => `(tactic| (refine ⟨[_], ⟨⟨_, _, rfl, rfl⟩, trivial⟩, ?_⟩))
local macro_rules | `(tactic| k_search "g9") => `(tactic| (refine ⟨[_], ⟨rfl, trivial⟩, ?_⟩))
local macro_rules | `(tactic| k_search "g9") => `(tactic| (refine ⟨_, _, _, ⟨_, _, rfl, rfl⟩, rfl, rfl, .inl (by k_search "imm"), ?_⟩))
local macro_rules | `(tactic| k_search "g9") => `(tactic| (refine ⟨_, _, _, rfl, rfl, rfl, ?_⟩))
local macro_rules | `(tactic| k_search "g9") => `(tactic| (refine ⟨_, ⟨_, _, rfl, rfl⟩, ?_⟩))
local macro_rules | `(tactic| k_search "g9") => `(tactic| (refine ⟨_, _, ⟨_, _, rfl, rfl⟩, rfl, ?_⟩))
local macro_rules | `(tactic| k_search "g9") => `(tactic| (refine ⟨_, _, rfl, rfl, ?_⟩))
local macro_rules | `(tactic| k_search "g9") => `(tactic| (refine ⟨_, rfl, ?_⟩))
local macro_rules | `(tactic| k_search "g9") => `(tactic| (refine ⟨_, rfl, rfl, ?_⟩))
local macro_rules | `(tactic| k_search "g9") => `(tactic| (refine ⟨_, _, _, rfl, rfl, rfl, .inr ⟨_, rfl⟩, ?_⟩))
local macro_rules | `(tactic| k_search "g9") => `(tactic| ((refine ⟨_, _, _, _, rfl, rfl, rfl, ?_⟩); k_search "nrm"))
local macro_rules | `(tactic| k_search "g9") => `(tactic| (refine ⟨_, rfl, ⟨_, _, rfl⟩, ?_⟩))
local macro_rules | `(tactic| k_search "g9") => `(tactic| (refine ⟨_, rfl, _, false, false, rfl, by decide +kernel, by decide +kernel, ?_⟩))
local macro_rules | `(tactic| k_search "g9") => `(tactic| (refine ⟨_, rfl, _, false, true, rfl, by decide +kernel, by decide +kernel, ?_⟩))
local macro_rules | `(tactic| k_search "g9") => `(tactic| (refine ⟨_, rfl, _, true, false, rfl, by decide +kernel, by decide +kernel, ?_⟩))
local macro_rules | `(tactic| k_search "g9") => `(tactic| (refine ⟨_, ⟨_, _, rfl, rfl⟩, _, true, rfl, by decide +kernel, ?_⟩))
local macro_rules | `(tactic| k_search "g9") => `(tactic| (refine ⟨_, rfl, _, false, rfl, by decide +kernel, ?_⟩))
local macro_rules | `(tactic| k_search "g9") => `(tactic| (refine ⟨_, rfl, _, true, rfl, by decide +kernel, ?_⟩))
local macro_rules | `(tactic| k_search "g9") => `(tactic| (refine ⟨[], _, rfl, ⟨Nat.le_of_ble_eq_true rfl, _, _, rfl, rfl⟩, ?_⟩))
local macro_rules | `(tactic| k_search "g9") => `(tactic| (refine ⟨[], _, rfl, rfl, ?_⟩))
local macro_rules | `(tactic| k_search "g9") => `(tactic| ((refine ⟨_, _, _, rfl, rfl, by k_search "len", ?_⟩); k_search "nrm"))
local macro_rules | `(tactic| k_search "g9") => `(tactic| ((refine ⟨[_], _, _, ⟨rfl, trivial⟩, rfl, lm_append (by k_search "len") ?_⟩); k_search "nrm"))
local macro_rules | `(tactic| k_search "g9") => `(tactic| refine ⟨[_, _, _, _, _, _], ⟨rfl, rfl, rfl, rfl, rfl, rfl, trivial⟩, by k_search "len", ?_⟩)
local macro_rules | `(tactic| k_search "g9") => `(tactic| refine ⟨[_, _, _, _, _], ⟨rfl, rfl, rfl, rfl, rfl, trivial⟩, by k_search "len", ?_⟩)
local macro_rules | `(tactic| k_search "g9") => `(tactic| refine ⟨[_, _, _, _], ⟨rfl, rfl, rfl, rfl, trivial⟩, by k_search "len", ?_⟩)
local macro_rules | `(tactic| k_search "g9") => `(tactic| refine ⟨[_, _, _], ⟨rfl, rfl, rfl, trivial⟩, by k_search "len", ?_⟩)
local macro_rules | `(tactic| k_search "g9") => `(tactic| refine ⟨[_, _], ⟨rfl, rfl, trivial⟩, by k_search "len", ?_⟩)
local macro_rules | `(tactic| k_search "g9") => `(tactic| refine ⟨[_], ⟨rfl, trivial⟩, by k_search "len", ?_⟩)
local macro_rules | `(tactic| k_search "g9") => `(tactic| refine ⟨[], trivial, by k_search "len", ?_⟩)
local macro_rules | `(tactic| k_search "g9") => `(tactic| (refine ⟨_, _, _, ⟨_, _, rfl, rfl⟩, rfl, by assumption, .inl (by k_search "imm"), ?_⟩))
local macro_rules | `(tactic| k_search "g9") => `(tactic| (refine ⟨_, _, _, rfl, rfl, by assumption, .inr ⟨_, rfl⟩, ?_⟩))
local macro_rules | `(tactic| k_search "st") => `(tactic| with_reducible rfl)
local macro_rules | `(tactic| k_search "st") => `(tactic| ((with_reducible refine id_list ?_); refine cb_listT (by k_search "imm") ?_))
local macro_rules | `(tactic| k_search "st") => `(tactic| ((with_reducible refine id_len ?_); refine cb_lenT ?_))
local macro_rules | `(tactic| k_search "st") => `(tactic| with_reducible refine exj_nil ?_)
local macro_rules | `(tactic| k_search "st") => `(tactic| with_reducible refine exj_cons ?_)
local macro_rules | `(tactic| k_search "st") => `(tactic| with_reducible refine exo_some ?_)
local macro_rules | `(tactic| k_search "st") => `(tactic| with_reducible refine exo_none ?_)
local macro_rules | `(tactic| k_search "st") => `(tactic| (((with_reducible first | show Exists _ | show And _ _)); k_search "g9"))
local macro_rules | `(tactic| k_search "st") => `(tactic| ((with_reducible refine iteF ?_ ?_); (focus k_search "hyp")))
local macro_rules | `(tactic| k_search "st") => `(tactic| ((with_reducible refine iteT ?_ ?_); (focus k_search "hyp")))
local macro_rules | `(tactic| k_search "st") => `(tactic| ((with_reducible refine iteF ?_ ?_); (focus decide)))
local macro_rules | `(tactic| k_search "st") => `(tactic| ((with_reducible refine iteT ?_ ?_); (focus decide)))
local macro_rules | `(tactic| k_search "st") => `(tactic| ((with_reducible refine iteF ?_ ?_); (focus exact Bool.false_ne_true)))
local macro_rules | `(tactic| k_search "st") => `(tactic| ((with_reducible refine iteT ?_ ?_); (focus exact rfl)))
local macro_rules | `(tactic| k_search "st") => `(tactic| ((with_reducible show UnD _ _ _ _); k_search "g8"))
local macro_rules | `(tactic| k_search "st") => `(tactic| ((with_reducible show CbD _ _ _ _); k_search "g7"))
local macro_rules | `(tactic| k_search "st") => `(tactic| ((with_reducible show OpD _ _ _ _ _); k_search "g6"))
local macro_rules | `(tactic| k_search "st") => `(tactic| ((with_reducible show StoreR _ _ _ _); k_search "g5"))
local macro_rules | `(tactic| k_search "st") => `(tactic| ((with_reducible show ExT _ _ _ _ _); k_search "g4"))
local macro_rules | `(tactic| k_search "st") => `(tactic| ((with_reducible show ExA _ _ _ _ _); k_search "g3"))
local macro_rules | `(tactic| k_search "st") => `(tactic| ((with_reducible show Ex _ _ _ _ _); k_search "g2"))
local macro_rules | `(tactic| k_search "st") => `(tactic| ((with_reducible show Ss _ _ _ _ _); k_search "g1"))
local macro_rules | `(tactic| k_search "g1e") => `(tactic| with_reducible refine go_cont ?_)
local macro_rules | `(tactic| k_search "g1e") => `(tactic| with_reducible refine go_break ?_)
local macro_rules | `(tactic| k_search "g1e") => `(tactic| with_reducible refine go_setL ?_)
local macro_rules | `(tactic| k_search "g1e") => `(tactic| with_reducible refine go_drop ?_)
local macro_rules | `(tactic| k_search "g1e") => `(tactic| with_reducible refine go_retN ?_)
local macro_rules | `(tactic| k_search "g1e") => `(tactic| with_reducible refine go_ret ?_)
local macro_rules | `(tactic| k_search "g1e") => `(tactic| with_reducible refine go_set ?_)
local macro_rules | `(tactic| k_search "g1e") => `(tactic| with_reducible refine go_next ?_)
local macro_rules | `(tactic| k_search "g1e") => `(tactic| with_reducible refine go_if ?_)
local macro_rules | `(tactic| k_search "ste") => `(tactic| with_reducible rfl)
local macro_rules | `(tactic| k_search "ste") => `(tactic| ((with_reducible refine id_list ?_); refine cb_listT (by k_search "imm") ?_))
local macro_rules | `(tactic| k_search "ste") => `(tactic| ((with_reducible refine id_len ?_); refine cb_lenT ?_))
local macro_rules | `(tactic| k_search "ste") => `(tactic| with_reducible refine exj_nil ?_)
local macro_rules | `(tactic| k_search "ste") => `(tactic| with_reducible refine exj_cons ?_)
local macro_rules | `(tactic| k_search "ste") => `(tactic| with_reducible refine exo_some ?_)
local macro_rules | `(tactic| k_search "ste") => `(tactic| with_reducible refine exo_none ?_)
local macro_rules | `(tactic| k_search "ste") => `(tactic| (((with_reducible first | show Exists _ | show And _ _)); k_search "g9"))
local macro_rules | `(tactic| k_search "ste") => `(tactic| ((with_reducible refine iteF ?_ ?_); (focus k_search "hyp")))
local macro_rules | `(tactic| k_search "ste") => `(tactic| ((with_reducible refine iteT ?_ ?_); (focus k_search "hyp")))
local macro_rules | `(tactic| k_search "ste") => `(tactic| ((with_reducible refine iteF ?_ ?_); (focus decide)))
local macro_rules | `(tactic| k_search "ste") => `(tactic| ((with_reducible refine iteT ?_ ?_); (focus decide)))
local macro_rules | `(tactic| k_search "ste") => `(tactic| ((with_reducible refine iteF ?_ ?_); (focus exact Bool.false_ne_true)))
local macro_rules | `(tactic| k_search "ste") => `(tactic| ((with_reducible refine iteT ?_ ?_); (focus exact rfl)))
local macro_rules | `(tactic| k_search "ste") => `(tactic| ((with_reducible show UnD _ _ _ _); k_search "g8"))
local macro_rules | `(tactic| k_search "ste") => `(tactic| ((with_reducible show CbD _ _ _ _); k_search "g7"))
local macro_rules | `(tactic| k_search "ste") => `(tactic| ((with_reducible show OpD _ _ _ _ _); k_search "g6"))
local macro_rules | `(tactic| k_search "ste") => `(tactic| ((with_reducible show StoreR _ _ _ _); k_search "g5"))
local macro_rules | `(tactic| k_search "ste") => `(tactic| ((with_reducible show ExT _ _ _ _ _); k_search "g4"))
local macro_rules | `(tactic| k_search "ste") => `(tactic| ((with_reducible show ExA _ _ _ _ _); k_search "g3"))
local macro_rules | `(tactic| k_search "ste") => `(tactic| ((with_reducible show Ex _ _ _ _ _); k_search "g2"))
local macro_rules | `(tactic| k_search "ste") => `(tactic| ((with_reducible show Ss _ _ _ _ _); k_search "g1e"))
local macro_rules | `(tactic| k_search "go") => `(tactic| repeat' (first | k_search "st" | fail))
local macro_rules | `(tactic| k_search "goe") => `(tactic| repeat' (first | k_search "ste" | fail))
local macro_rules | `(tactic| k_search "set") => `(tactic| first | k_search "set0" | fail)
local macro_rules | `(tactic| k_search "cnd") => `(tactic| first | k_search "cnd0" | fail)
local macro_rules | `(tactic| k_search "len") => `(tactic| first | k_search "len0" | fail)
local macro_rules | `(tactic| k_search "hyp") => `(tactic| first | k_search "hyp0" | fail)
local macro_rules | `(tactic| k_search "imm") => `(tactic| first | k_search "imm0" | fail)
local macro_rules | `(tactic| k_search "slen") => `(tactic| first | k_search "slen0" | fail)
variable {P : Program} {w : World} {K : PySem.W.Frag} {mg : Str → Option Value} {base : Heap} {T : List NTab} {ts : List Str}
def F_raw (h : Nat) : FS := fun as Q => ∃ t : Tm, as = [.val t.d] ∧ Tb h t ∧ Q (.new (.lst (t.raw.map Tm.d))) []
theorem ok_raw (c : Al K mg base ds fr ts cs) : ∀ h : Nat, Ok P w K mg base (h + 1) "raw_conjuncts" ["term"] (spOf K T (F_raw h))
  | 0 => by
    have nd := sc_raw_conjuncts.nd
    have kTOP := c.cs _ (.head _)
    have kBOTTOM := c.cs _ (.tail _ (.head _))
    have kRESERVED := c.cs _ (.tail _ (.tail _ (.tail _ (.tail _ (.tail _ (.head _))))))
    refine ok_of c (.tail _ (.tail _ (.tail _ (.tail _ (.head _))))) (fun _ _ _ _ _ _ us hl => match us, hl with | [_], _ => rfl) sc_raw_conjuncts (fun as Q h => by first | (obtain ⟨_, rfl, _⟩ := h; rfl) | (obtain ⟨_, _, rfl, _⟩ := h; rfl) | (obtain ⟨_, _, _, rfl, _⟩ := h; rfl) | (obtain ⟨_, _, _, _, rfl, _⟩ := h; rfl) | (obtain ⟨_, _, _, _, _, rfl, _⟩ := h; rfl) | (obtain ⟨_, _, _, _, _, _, rfl, _⟩ := h; rfl) | (obtain ⟨_, _, _, _, _, _, _, rfl, _⟩ := h; rfl) | (obtain ⟨_, _, _, _, _, _, _, _, rfl, _⟩ := h; rfl) | (obtain ⟨_, _, _, _, _, _, _, _, _, rfl, _⟩ := h; rfl) | (obtain ⟨rfl, _⟩ := h; rfl)) fun f cdv A outer s H E hr as Q qs hF hq => ?_
    obtain ⟨t, rfl, b, _⟩ := hF
    exact b.no.elim
  | h + 1 => by
    have h_raw_conjuncts := ok_raw c h
    have nd := sc_raw_conjuncts.nd
    have kTOP := c.cs _ (.head _)
    have kBOTTOM := c.cs _ (.tail _ (.head _))
    have kRESERVED := c.cs _ (.tail _ (.tail _ (.tail _ (.tail _ (.tail _ (.head _))))))
    refine ok_of c (.tail _ (.tail _ (.tail _ (.tail _ (.head _))))) (fun _ _ _ _ _ _ us hl => match us, hl with | [_], _ => rfl) sc_raw_conjuncts (fun as Q h => by first | (obtain ⟨_, rfl, _⟩ := h; rfl) | (obtain ⟨_, _, rfl, _⟩ := h; rfl) | (obtain ⟨_, _, _, rfl, _⟩ := h; rfl) | (obtain ⟨_, _, _, _, rfl, _⟩ := h; rfl) | (obtain ⟨_, _, _, _, _, rfl, _⟩ := h; rfl) | (obtain ⟨_, _, _, _, _, _, rfl, _⟩ := h; rfl) | (obtain ⟨_, _, _, _, _, _, _, rfl, _⟩ := h; rfl) | (obtain ⟨_, _, _, _, _, _, _, _, rfl, _⟩ := h; rfl) | (obtain ⟨_, _, _, _, _, _, _, _, _, rfl, _⟩ := h; rfl) | (obtain ⟨rfl, _⟩ := h; rfl)) fun f cdv A outer s H E hr as Q qs hF hq => ?_
    obtain ⟨t, rfl, b, hQ⟩ := hF
    obtain rfl : qs = [] := List.length_eq_zero_iff.mp hq
    refine ⟨_, (pss_cons (ps_if (pt_cmpR op_eq (pe_ix (r := rIxT K) ix_tup (pv 0) pe_int (fun _ _ => rfl)) pe_str (nomark _)) (pss_one (ps_ret (pe_lst pa_nil))) pss_nil)
    (pss_cons (ps_if (pt_cmpR op_ne (pe_ix (r := rIxT K) ix_tup (pv 0) pe_int (fun _ _ => rfl)) pe_str (nomark _)) (pss_one (ps_ret (pe_lst (pa_cons (pv 0) pa_nil)))) pss_nil)
    (pss_cons (ps_set (i := 1) nd rfl (Or.inl rfl) (pe_lst pa_nil))
    (pss_cons (ps_for PassesOwn.never rfl (pi_tupK (K0 := K) (pe_ix (r := rIxT K) ix_tup (pv 0) pe_int (fun _ _ => rfl))) (pg_name (i := 2) nd rfl (Or.inl rfl)) (pss_one (ps_expr (pe_bmK (K0 := K) PySem.F.plainAttrs_list PySem.F.slot_list_extend PySem.F.type_list_extend mt_extend (pv 1) (pa_cons (pe_f h_raw_conjuncts (hr.mono (by omega)) rfl (pa_cons (pv 2) pa_nil)) pa_nil)))))
    (pss_one (ps_ret (pv 1))))))), ?_⟩
    show Ss K T _ [.val _, .no, .no] _
    cases t with
    | top =>
      k_search "go"
      exact hQ
    | bot =>
      k_search "go"
      exact hQ
    | name x =>
      k_search "go"
      exact hQ
    | some r t =>
      k_search "go"
      exact hQ
    | and us =>
      have bl : Tm.cntL us + 1 ≤ 1000 := b.cnt
      k_search "go"
      refine go_forT (Tm.dL us) (fun k δ => ∃ a s, δ = [.val (Tm.and us).d, .own a (.lst ((Tm.rawL (us.take k)).map Tm.d)), s]) ?_ ?_ ?_
      · k_search "go"
        exact ⟨rfl, _, _, rfl⟩
      · rintro k d δ2 hk ⟨a, s, rfl⟩
        rw [Tm.dL_map] at hk
        obtain ⟨t, ht, rfl⟩ := map_at hk
        have bt := b.and (List.mem_of_getElem? ht)
        k_search "nrm"
        k_search "go"
        refine cv [.val _] ⟨rfl, trivial⟩ ⟨t, rfl, bt, rimL tm_imm, ?_⟩
        have l1 := rawL_len (us := us) (k := k) (by omega)
        have l2 := bt.rlen
        refine ⟨_, _, _, rfl, rfl, by simp; omega, ?_⟩
        k_search "nrm"
        refine ⟨a, .val t.d, ?_⟩
        rw [rawL_take ht, List.map_append]
      · rintro δ2 ⟨a, s, rfl⟩
        k_search "go"
        rw [Tm.dL_map, List.length_map, List.take_length]
        exact hQ
set_option Elab.async false
set_option linter.all false
set_option maxRecDepth 100000
set_option maxHeartbeats 4000001
open PySem L2 LamX NdefX PyProof.Rows GenW Pl
variable {P : Program} {w : World} {K : PySem.W.Frag} {mg : Str → Option Value} {base : Heap} {T : List NTab} {ts : List Str}
mutual
/-- data without dicts, None -/
def okD : D → Bool
  | .bool _ => true
  | .int _ => true
  | .str x => PyData.strOk x
  | .list ds => decide (ds.length ≤ 1000) && okDs ds
  | .tuple ds => decide (ds.length ≤ 1000) && okDs ds
  | _ => false
def okDs : List D → Bool
  | [] => true
  | d :: ds => okD d && okDs ds
end
theorem okDs_all : ∀ {ds : List D} {h : Nat}, okDs ds = true → PyData.depthAll ds < h → ∀ d ∈ ds, okD d = true ∧ d.depth < h
  | [], _, _, _, d, m => by cases m
  | e :: ds, h, o, b, d, m => by
    simp only [okDs, Bool.and_eq_true] at o
    have b : max e.depth (PyData.depthAll ds) < h := b
    rcases List.mem_cons.mp m with q | q
    · rw [q]; exact ⟨o.1, by omega⟩
    · exact okDs_all o.2 (by omega) d q
/-- _law_same(d, d) is True -/
def F_same (h : Nat) : FS := fun as Q => ∃ d : D, as = [.val d, .val d] ∧ okD d = true ∧ d.depth < h ∧ Q (.val (.bool true)) []
theorem ok_same (c : Al K mg base ds fr ts cs) : ∀ h : Nat, Ok P w K mg base (h + 1) "_law_same" ["actual", "due"] (spOf K T (F_same h))
  | 0 => by
    have nd := sc__law_same.nd
    have kTOP := c.cs _ (.head _)
    have kBOTTOM := c.cs _ (.tail _ (.head _))
    have kRESERVED := c.cs _ (.tail _ (.tail _ (.tail _ (.tail _ (.tail _ (.head _))))))
    refine ok_of c (.tail _ (.tail _ (.tail _ (.tail _ (.tail _ (.tail _ (.tail _ (.tail _ (.tail _ (.tail _ (.tail _ (.tail _ (.tail _ (.tail _ (.tail _ (.tail _ (.tail _ (.tail _ (.tail _ (.tail _ (.tail _ (.tail _ (.tail _ (.tail _ (.tail _ (.tail _ (.tail _ (.tail _ (.tail _ (.tail _ (.tail _ (.tail _ (.tail _ (.tail _ (.tail _ (.tail _ (.tail _ (.tail _ (.tail _ (.tail _ (.tail _ (.tail _ (.tail _ (.tail _ (.tail _ (.tail _ (.head _))))))))))))))))))))))))))))))))))))))))))))))) (fun _ _ _ _ _ _ us hl => match us, hl with | [_, _], _ => rfl) sc__law_same (fun as Q h => by first | (obtain ⟨_, rfl, _⟩ := h; rfl) | (obtain ⟨_, _, rfl, _⟩ := h; rfl) | (obtain ⟨_, _, _, rfl, _⟩ := h; rfl) | (obtain ⟨_, _, _, _, rfl, _⟩ := h; rfl) | (obtain ⟨_, _, _, _, _, rfl, _⟩ := h; rfl) | (obtain ⟨_, _, _, _, _, _, rfl, _⟩ := h; rfl) | (obtain ⟨_, _, _, _, _, _, _, rfl, _⟩ := h; rfl) | (obtain ⟨_, _, _, _, _, _, _, _, rfl, _⟩ := h; rfl) | (obtain ⟨_, _, _, _, _, _, _, _, _, rfl, _⟩ := h; rfl) | (obtain ⟨rfl, _⟩ := h; rfl)) fun f cdv A outer s H E hr as Q qs hF hq => ?_
    obtain ⟨d, rfl, _, b, _⟩ := hF
    omega
  | h + 1 => by
    have h__law_same := ok_same c h
    have nd := sc__law_same.nd
    have kTOP := c.cs _ (.head _)
    have kBOTTOM := c.cs _ (.tail _ (.head _))
    have kRESERVED := c.cs _ (.tail _ (.tail _ (.tail _ (.tail _ (.tail _ (.head _))))))
    refine ok_of c (.tail _ (.tail _ (.tail _ (.tail _ (.tail _ (.tail _ (.tail _ (.tail _ (.tail _ (.tail _ (.tail _ (.tail _ (.tail _ (.tail _ (.tail _ (.tail _ (.tail _ (.tail _ (.tail _ (.tail _ (.tail _ (.tail _ (.tail _ (.tail _ (.tail _ (.tail _ (.tail _ (.tail _ (.tail _ (.tail _ (.tail _ (.tail _ (.tail _ (.tail _ (.tail _ (.tail _ (.tail _ (.tail _ (.tail _ (.tail _ (.tail _ (.tail _ (.tail _ (.tail _ (.tail _ (.tail _ (.head _))))))))))))))))))))))))))))))))))))))))))))))) (fun _ _ _ _ _ _ us hl => match us, hl with | [_, _], _ => rfl) sc__law_same (fun as Q h => by first | (obtain ⟨_, rfl, _⟩ := h; rfl) | (obtain ⟨_, _, rfl, _⟩ := h; rfl) | (obtain ⟨_, _, _, rfl, _⟩ := h; rfl) | (obtain ⟨_, _, _, _, rfl, _⟩ := h; rfl) | (obtain ⟨_, _, _, _, _, rfl, _⟩ := h; rfl) | (obtain ⟨_, _, _, _, _, _, rfl, _⟩ := h; rfl) | (obtain ⟨_, _, _, _, _, _, _, rfl, _⟩ := h; rfl) | (obtain ⟨_, _, _, _, _, _, _, _, rfl, _⟩ := h; rfl) | (obtain ⟨_, _, _, _, _, _, _, _, _, rfl, _⟩ := h; rfl) | (obtain ⟨rfl, _⟩ := h; rfl)) fun f cdv A outer s H E hr as Q qs hF hq => ?_
    obtain ⟨d, rfl, o, b, hQ⟩ := hF
    obtain rfl : qs = [] := List.length_eq_zero_iff.mp hq
    refine ⟨_, (pss_cons (ps_if (pt_val (pe_callB (r := rIsiT K) call_isiT rfl (c.fr _ (.tail _ (.head _))) PyProof.Rows.boot_isinstance (pa_cons (pv 1) (pa_cons (pe_tup (pa_cons (pe_bltn (v := .ty "tuple") rfl (c.fr _ (.tail _ (.tail _ (.tail _ (.tail _ (.head _)))))) PyProof.Rows.boot_tuple rfl) (pa_cons (pe_bltn (v := .ty "list") rfl (c.fr _ (.tail _ (.tail _ (.tail _ (.tail _ (.tail _ (.head _))))))) PyProof.Rows.boot_list rfl) pa_nil))) pa_nil)))) (pss_cons (ps_if (pt_cmpR op_ne (pe_callB (r := rIsi K) call_isi rfl (c.fr _ (.tail _ (.head _))) PyProof.Rows.boot_isinstance (pa_cons (pv 0) (pa_cons (pe_bltn (v := .ty "tuple") rfl (c.fr _ (.tail _ (.tail _ (.tail _ (.tail _ (.head _)))))) PyProof.Rows.boot_tuple rfl) pa_nil))) (pe_callB (r := rIsi K) call_isi rfl (c.fr _ (.tail _ (.head _))) PyProof.Rows.boot_isinstance (pa_cons (pv 1) (pa_cons (pe_bltn (v := .ty "tuple") rfl (c.fr _ (.tail _ (.tail _ (.tail _ (.tail _ (.head _)))))) PyProof.Rows.boot_tuple rfl) pa_nil))) (nomark _)) (pss_one (ps_ret pe_bl)) pss_nil)
    (pss_cons (ps_if (PW.pt (pw_or (pt_cmpR op_ne (pe_callB (r := rIsi K) call_isi rfl (c.fr _ (.tail _ (.head _))) PyProof.Rows.boot_isinstance (pa_cons (pv 0) (pa_cons (pe_bltn (v := .ty "list") rfl (c.fr _ (.tail _ (.tail _ (.tail _ (.tail _ (.tail _ (.head _))))))) PyProof.Rows.boot_list rfl) pa_nil))) (pe_callB (r := rIsi K) call_isi rfl (c.fr _ (.tail _ (.head _))) PyProof.Rows.boot_isinstance (pa_cons (pv 1) (pa_cons (pe_bltn (v := .ty "list") rfl (c.fr _ (.tail _ (.tail _ (.tail _ (.tail _ (.tail _ (.head _))))))) PyProof.Rows.boot_list rfl) pa_nil))) (nomark _)) (pw_or1 (pt_cmpR op_ne (pe_callB (r := Pl.rLen K) call_len rfl (c.fr _ (.tail _ (.tail _ (.tail _ (.head _))))) PySem.boot_len (pa_cons (pv 0) pa_nil)) (pe_callB (r := Pl.rLen K) call_len rfl (c.fr _ (.tail _ (.tail _ (.tail _ (.head _))))) PySem.boot_len (pa_cons (pv 1) pa_nil)) (nomark _))))) (pss_one (ps_ret pe_bl)) pss_nil)
    (pss_cons (ps_for PassesOwn.never rfl (pi_range1 rfl (c.fr _ (.tail _ (.tail _ (.tail _ (.tail _ (.tail _ (.tail _ (.tail _ (.tail _ (.tail _ (.tail _ (.head _)))))))))))) (pa_cons (pe_callB (r := Pl.rLen K) call_len rfl (c.fr _ (.tail _ (.tail _ (.tail _ (.head _))))) PySem.boot_len (pa_cons (pv 1) pa_nil)) pa_nil)) (pg_name (i := 2) nd rfl (Or.inl rfl)) (pss_one (ps_if (pt_not (pt_val (pe_f h__law_same (hr.mono (by omega)) rfl (pa_cons (pe_ix (r := rIx K) ix_seq (pv 0) (pv 2) (fun _ _ => rfl)) (pa_cons (pe_ix (r := rIx K) ix_seq (pv 1) (pv 2) (fun _ _ => rfl)) pa_nil))))) (pss_one (ps_ret pe_bl)) pss_nil)))
    (pss_one (ps_ret pe_bl))))) pss_nil)
    (pss_cons (ps_if (pt_cmp (pc_isN (pv 1))) (pss_one (ps_ret (pe_cmp (pc_isN (pv 0))))) pss_nil)
    (pss_cons (ps_if (pt_val (pe_callB (r := rIsi K) call_isi rfl (c.fr _ (.tail _ (.head _))) PyProof.Rows.boot_isinstance (pa_cons (pv 1) (pa_cons (pe_bltn (v := .ty "bool") rfl (c.fr _ (.tail _ (.tail _ (.tail _ (.tail _ (.tail _ (.tail _ (.tail _ (.tail _ (.tail _ (.tail _ (.tail _ (.tail _ (.tail _ (.head _))))))))))))))) PyProof.Rows.boot_bool rfl) pa_nil)))) (pss_one (ps_ret (pe_and (pe_callB (r := rIsi K) call_isi rfl (c.fr _ (.tail _ (.head _))) PyProof.Rows.boot_isinstance (pa_cons (pv 0) (pa_cons (pe_bltn (v := .ty "bool") rfl (c.fr _ (.tail _ (.tail _ (.tail _ (.tail _ (.tail _ (.tail _ (.tail _ (.tail _ (.tail _ (.tail _ (.tail _ (.tail _ (.tail _ (.head _))))))))))))))) PyProof.Rows.boot_bool rfl) pa_nil))) (pe_one (pe_cmpR (r := rEqD K) (op_eqD hr.units) (pv 0) (pv 1) (nomark _)))))) pss_nil)
    (pss_cons (ps_if (pt_val (pe_callB (r := rIsi K) call_isi rfl (c.fr _ (.tail _ (.head _))) PyProof.Rows.boot_isinstance (pa_cons (pv 1) (pa_cons (pe_bltn (v := .ty "int") rfl (c.fr _ (.tail _ (.tail _ (.tail _ (.tail _ (.tail _ (.tail _ (.tail _ (.head _))))))))) PyProof.Rows.boot_int rfl) pa_nil)))) (pss_one (ps_ret (pe_and (pe_callB (r := rIsi K) call_isi rfl (c.fr _ (.tail _ (.head _))) PyProof.Rows.boot_isinstance (pa_cons (pv 0) (pa_cons (pe_bltn (v := .ty "int") rfl (c.fr _ (.tail _ (.tail _ (.tail _ (.tail _ (.tail _ (.tail _ (.tail _ (.head _))))))))) PyProof.Rows.boot_int rfl) pa_nil))) (pe_and (pe_not (pe_callB (r := rIsi K) call_isi rfl (c.fr _ (.tail _ (.head _))) PyProof.Rows.boot_isinstance (pa_cons (pv 0) (pa_cons (pe_bltn (v := .ty "bool") rfl (c.fr _ (.tail _ (.tail _ (.tail _ (.tail _ (.tail _ (.tail _ (.tail _ (.tail _ (.tail _ (.tail _ (.tail _ (.tail _ (.tail _ (.head _))))))))))))))) PyProof.Rows.boot_bool rfl) pa_nil)))) (pe_one (pe_cmpR (r := rEqD K) (op_eqD hr.units) (pv 0) (pv 1) (nomark _))))))) pss_nil)
    (pss_one (ps_ret (pe_and (pe_callB (r := rIsi K) call_isi rfl (c.fr _ (.tail _ (.head _))) PyProof.Rows.boot_isinstance (pa_cons (pv 0) (pa_cons (pe_bltn (v := .ty "str") rfl (c.fr _ (.tail _ (.tail _ (.head _)))) PyProof.Rows.boot_str rfl) pa_nil))) (pe_one (pe_cmpR (r := rEqD K) (op_eqD hr.units) (pv 0) (pv 1) (nomark _)))))))))), ?_⟩
    show Ss K T _ [.val _, .val _, .no] _
    cases d with
    | none => cases o
    | dict _ => cases o
    | bool x =>
      k_search "go"
      refine opd_eqD (by rfl) (by rfl) ?_
      k_search "go"
      have e : PyData.eqv (.bool x) (.bool x) = true := by simp [PyData.eqv]
      rw [e]
      exact hQ
    | int x =>
      k_search "go"
      refine opd_eqD (by rfl) (by rfl) ?_
      k_search "go"
      have e : PyData.eqv (.int x) (.int x) = true := by simp [PyData.eqv]
      rw [e]
      exact hQ
    | str x =>
      have sh : SeqAt.shaped (.str x) = true := by
        unfold SeqAt.shaped
        rw [Bool.and_eq_true]
        exact ⟨o, decide_eq_true (Nat.zero_le _)⟩
      k_search "go"
      refine opd_eqD sh sh ?_
      k_search "go"
      have e : PyData.eqv (.str x) (.str x) = true := by simp [PyData.eqv]
      rw [e]
      exact hQ
    | list ds =>
      simp only [okD, Bool.and_eq_true, decide_eq_true_eq] at o
      have hd : ∀ d ∈ ds, okD d = true ∧ d.depth < h := okDs_all o.2 (by have : PyData.depthAll ds + 1 < h + 1 := b; omega)
      have hl := o.1
      k_search "go"
      refine iteN (fun z => absurd rfl z) fun _ => ?_
      k_search "go"
      refine go_forR ds.length (fun k δ => ∃ s, δ = [.val (.list ds), .val (.list ds), s]) (by omega) ?_ ?_ ?_
      · k_search "go"
        exact ⟨rfl, _, rfl⟩
      · rintro k δ2 hk ⟨s, rfl⟩
        have hm : ds[k] ∈ ds := List.getElem_mem hk
        have hat : atI ds (k : Int) = some ds[k] := atI_nat (List.getElem?_eq_getElem hk)
        k_search "nrm"
        refine go_if (et_not' (et_B (go_call (exa_cons (ex_ixQL (ex_var rfl (ex_var rfl ⟨ds, k, ds[k], rfl, rfl, hat, .inr ⟨_, rfl⟩, exa_cons (ex_ixQL (ex_var rfl (ex_var rfl ⟨ds, k, ds[k], rfl, rfl, hat, .inr ⟨_, rfl⟩, exa_nil ?_⟩)))⟩)))))))
        refine cv [.val _, .val _] ⟨rfl, rfl, trivial⟩ ⟨ds[k], rfl, (hd _ hm).1, (hd _ hm).2, rim rfl, ?_⟩
        k_search "go"
        exact ⟨_, rfl⟩
      · rintro δ2 ⟨s, rfl⟩
        k_search "go"
        exact hQ
    | tuple ds =>
      simp only [okD, Bool.and_eq_true, decide_eq_true_eq] at o
      have hd : ∀ d ∈ ds, okD d = true ∧ d.depth < h := okDs_all o.2 (by have : PyData.depthAll ds + 1 < h + 1 := b; omega)
      have hl := o.1
      k_search "go"
      refine iteN (fun z => absurd rfl z) fun _ => ?_
      k_search "go"
      refine go_forR ds.length (fun k δ => ∃ s, δ = [.val (.tuple ds), .val (.tuple ds), s]) (by omega) ?_ ?_ ?_
      · k_search "go"
        exact ⟨rfl, _, rfl⟩
      · rintro k δ2 hk ⟨s, rfl⟩
        have hm : ds[k] ∈ ds := List.getElem_mem hk
        have hat : atI ds (k : Int) = some ds[k] := atI_nat (List.getElem?_eq_getElem hk)
        k_search "nrm"
        refine go_if (et_not' (et_B (go_call (exa_cons (ex_ixQT (ex_var rfl (ex_var rfl ⟨ds, k, ds[k], rfl, rfl, hat, exa_cons (ex_ixQT (ex_var rfl (ex_var rfl ⟨ds, k, ds[k], rfl, rfl, hat, exa_nil ?_⟩)))⟩)))))))
        refine cv [.val _, .val _] ⟨rfl, rfl, trivial⟩ ⟨ds[k], rfl, (hd _ hm).1, (hd _ hm).2, rim rfl, ?_⟩
        k_search "go"
        exact ⟨_, rfl⟩
      · rintro δ2 ⟨s, rfl⟩
        k_search "go"
        exact hQ
set_option Elab.async false
set_option linter.all false
set_option maxRecDepth 100000
set_option maxHeartbeats 4000001
open PySem L2 LamX NdefX PyProof.Rows GenW Pl
variable {P : Program} {w : World} {K : PySem.W.Frag} {mg : Str → Option Value} {base : Heap} {T : List NTab} {ts : List Str}
def parts : Tm → List Tm
  | .some _ t => [t]
  | .and ts => ts
  | _ => []
def F_direct_parts : FS := fun as Q => ∃ (t : Tm) (h : Nat), as = [.val t.d] ∧ Tb h t ∧ Q (.new (.lst ((parts t).map Tm.d))) []
theorem ok_direct_parts (c : Al K mg base ds fr ts cs) (h_is_word : Ok P w K mg base 1 "is_word" ["value"] (spOf K T F_is_word)) : Ok P w K mg base 2 "direct_parts" ["value"] (spOf K T F_direct_parts) := by
  have nd := sc_direct_parts.nd
  have kTOP := c.cs _ (.head _)
  have kBOTTOM := c.cs _ (.tail _ (.head _))
  have kRESERVED := c.cs _ (.tail _ (.tail _ (.tail _ (.tail _ (.tail _ (.head _))))))
  refine ok_of c (.tail _ (.head _)) (fun _ _ _ _ _ _ us hl => match us, hl with | [_], _ => rfl) sc_direct_parts (fun as Q h => by first | (obtain ⟨_, rfl, _⟩ := h; rfl) | (obtain ⟨_, _, rfl, _⟩ := h; rfl) | (obtain ⟨_, _, _, rfl, _⟩ := h; rfl) | (obtain ⟨_, _, _, _, rfl, _⟩ := h; rfl) | (obtain ⟨_, _, _, _, _, rfl, _⟩ := h; rfl) | (obtain ⟨_, _, _, _, _, _, rfl, _⟩ := h; rfl) | (obtain ⟨_, _, _, _, _, _, _, rfl, _⟩ := h; rfl) | (obtain ⟨_, _, _, _, _, _, _, _, rfl, _⟩ := h; rfl) | (obtain ⟨_, _, _, _, _, _, _, _, _, rfl, _⟩ := h; rfl) | (obtain ⟨rfl, _⟩ := h; rfl)) fun f cdv A outer s H E hr as Q qs hF hq => ?_
  obtain ⟨t, h, rfl, b, hQ⟩ := hF
  obtain rfl : qs = [] := List.length_eq_zero_iff.mp hq
  refine ⟨_, (pss_cons (ps_if (PW.pt (pw_or (pt_not (pt_val (pe_callB (r := rIsi K) call_isi rfl (c.fr _ (.tail _ (.head _))) PyProof.Rows.boot_isinstance (pa_cons (pv 0) (pa_cons (pe_bltn (v := .ty "tuple") rfl (c.fr _ (.tail _ (.tail _ (.tail _ (.tail _ (.head _)))))) PyProof.Rows.boot_tuple rfl) pa_nil))))) (pw_or1 (pt_not (pt_truthK (K0 := K) (pv 0) (fun _ => rfl)))))) (pss_one (ps_ret pe_non)) pss_nil)
    (pss_cons (ps_if (PW.pt (pw_or (pt_cmpR (r := rEqD K) (op_eqD hr.units) (pv 0) (pe_kT (c.cs _ (.head _)) rfl) (nomark _)) (pw_or1 (pt_cmpR (r := rEqD K) (op_eqD hr.units) (pv 0) (pe_kT (c.cs _ (.tail _ (.head _))) rfl) (nomark _))))) (pss_one (ps_ret (pe_lst pa_nil))) pss_nil)
    (pss_cons (ps_if (PW.pt (pw_and (pt_cmpR op_eq (pe_callB (r := Pl.rLen K) call_len rfl (c.fr _ (.tail _ (.tail _ (.tail _ (.head _))))) PySem.boot_len (pa_cons (pv 0) pa_nil)) pe_int (nomark _)) (pw_and1 (pt_cmpR op_eq (pe_ix (r := rIxT K) ix_tup (pv 0) pe_int (fun _ _ => rfl)) pe_str (nomark _))))) (pss_one (ps_ret (pe_ifExp (pt_val (pe_f h_is_word (hr.mono (by omega)) rfl (pa_cons (pe_ix (r := rIxT K) ix_tup (pv 0) pe_int (fun _ _ => rfl)) pa_nil))) (pe_lst pa_nil) pe_non))) pss_nil)
    (pss_cons (ps_if (PW.pt (pw_and (pt_cmpR op_eq (pe_callB (r := Pl.rLen K) call_len rfl (c.fr _ (.tail _ (.tail _ (.tail _ (.head _))))) PySem.boot_len (pa_cons (pv 0) pa_nil)) pe_int (nomark _)) (pw_and1 (pt_cmpR op_eq (pe_ix (r := rIxT K) ix_tup (pv 0) pe_int (fun _ _ => rfl)) pe_str (nomark _))))) (pss_one (ps_ret (pe_ifExp (pt_val (pe_callB (r := rIsi K) call_isi rfl (c.fr _ (.tail _ (.head _))) PyProof.Rows.boot_isinstance (pa_cons (pe_ix (r := rIxT K) ix_tup (pv 0) pe_int (fun _ _ => rfl)) (pa_cons (pe_bltn (v := .ty "tuple") rfl (c.fr _ (.tail _ (.tail _ (.tail _ (.tail _ (.head _)))))) PyProof.Rows.boot_tuple rfl) pa_nil)))) (pe_callTy (r := rListOf K) call_list_of rfl (c.fr _ (.tail _ (.tail _ (.tail _ (.tail _ (.tail _ (.head _))))))) PyProof.Rows.boot_list (pa_cons (pe_ix (r := rIxT K) ix_tup (pv 0) pe_int (fun _ _ => rfl)) pa_nil)) pe_non))) pss_nil)
    (pss_cons (ps_if (PW.pt (pw_and (pt_cmpR op_eq (pe_callB (r := Pl.rLen K) call_len rfl (c.fr _ (.tail _ (.tail _ (.tail _ (.head _))))) PySem.boot_len (pa_cons (pv 0) pa_nil)) pe_int (nomark _)) (pw_and (pt_cmpR op_eq (pe_ix (r := rIxT K) ix_tup (pv 0) pe_int (fun _ _ => rfl)) pe_str (nomark _)) (pw_and1 (pt_val (pe_f h_is_word (hr.mono (by omega)) rfl (pa_cons (pe_ix (r := rIxT K) ix_tup (pv 0) pe_int (fun _ _ => rfl)) pa_nil))))))) (pss_one (ps_ret (pe_lst (pa_cons (pe_ix (r := rIxT K) ix_tup (pv 0) pe_int (fun _ _ => rfl)) pa_nil)))) pss_nil)
    (pss_one (ps_ret pe_non))))))), ?_⟩
  show Ss K T _ [.val _] _
  have sh := b.shaped
  cases t with
  | top =>
    k_search "go"
    refine opd_eqTop sh ?_
    k_search "go"
    exact hQ
  | bot =>
    k_search "go"
    refine opd_eqTop sh ?_
    k_search "go"
    refine opd_eqBot sh ?_
    k_search "go"
    exact hQ
  | name x =>
    k_search "go"
    refine opd_eqTop sh ?_
    k_search "go"
    refine opd_eqBot sh ?_
    k_search "go"
    refine cv [.val _] ⟨rfl, trivial⟩ ⟨x, rfl, b.good, rim rfl, ?_⟩
    k_search "go"
    exact hQ
  | some r t =>
    k_search "go"
    refine opd_eqTop sh ?_
    k_search "go"
    refine opd_eqBot sh ?_
    k_search "go"
    refine cv [.val _] ⟨rfl, trivial⟩ ⟨r, rfl, b.W, rim rfl, ?_⟩
    k_search "go"
    exact hQ
  | and us =>
    k_search "go"
    refine opd_eqTop sh ?_
    k_search "go"
    refine opd_eqBot sh ?_
    k_search "go"
    show Q (.new (.lst (Tm.dL us))) []
    rw [Tm.dL_map]
    exact hQ
set_option Elab.async false
set_option linter.all false
set_option maxRecDepth 100000
set_option maxHeartbeats 4000001
open PySem L2 LamX NdefX PyProof.Rows GenW Pl
variable {P : Program} {w : World} {K : PySem.W.Frag} {mg : Str → Option Value} {base : Heap} {T : List NTab} {ts : List Str}
def F_void (h : Nat) : FS := fun as Q => ∃ t : Tm, as = [.val t.d] ∧ Tb h t ∧ Q (.val (.bool t.void)) []
def F_met (h : Nat) : FS := fun as Q => ∃ (t : Tm) (us : List Tm), as = [.val t.d, .val (.list (us.map Tm.d))] ∧ t.atom = true ∧ Tb h t ∧ (∀ u ∈ us, Tb h u ∧ u.atom = true) ∧ Q (.val (.bool (t.meets us))) []
def F_meets (h : Nat) : FS := fun as Q => ∃ (t u : Tm), as = [.val t.d, .val u.d] ∧ Tb h t ∧ Tb h u ∧ Q (.val (.bool (u.meets t.raw))) []
def F_below (h : Nat) : FS := fun as Q => ∃ (t u : Tm), as = [.val t.d, .val u.d] ∧ Tb h t ∧ Tb h u ∧ Q (.val (.bool (t.under u))) []
theorem any_take {α : Type} {us : List α} {p : α → Bool} {k : Nat} {x : α} (h : us[k]? = some x) : (us.take (k + 1)).any p = ((us.take k).any p || p x) := by
  rw [List.take_add_one, h, List.any_append]
  simp
theorem all_take {α : Type} {us : List α} {p : α → Bool} {k : Nat} {x : α} (h : us[k]? = some x) : (us.take (k + 1)).all p = ((us.take k).all p && p x) := by
  rw [List.take_add_one, h, List.all_append]
  simp
theorem any_in {α : Type} {us : List α} {p : α → Bool} {k : Nat} {x : α} (h : us[k]? = some x) (hp : p x = true) : us.any p = true := List.any_eq_true.mpr ⟨x, List.mem_of_getElem? h, hp⟩
theorem all_in {α : Type} {us : List α} {p : α → Bool} {k : Nat} {x : α} (h : us[k]? = some x) (hp : p x = false) : us.all p = false := by
  rw [Bool.eq_false_iff]
  intro q
  rw [List.all_eq_true.mp q x (List.mem_of_getElem? h)] at hp
  cases hp
theorem ok_void (c : Al K mg base ds fr ts cs) (H0 : Nat) (h_raw_conjuncts : Ok P w K mg base (H0 + 1) "raw_conjuncts" ["term"] (spOf K T (F_raw H0))) : ∀ h : Nat, h ≤ H0 → Ok P w K mg base (H0 + 1 + h + 1) "is_void" ["term"] (spOf K T (F_void h))
  | 0, _ => by
    have nd := sc_is_void.nd
    have kTOP := c.cs _ (.head _)
    have kBOTTOM := c.cs _ (.tail _ (.head _))
    have kRESERVED := c.cs _ (.tail _ (.tail _ (.tail _ (.tail _ (.tail _ (.head _))))))
    refine ok_of c (.tail _ (.tail _ (.tail _ (.tail _ (.tail _ (.head _)))))) (fun _ _ _ _ _ _ us hl => match us, hl with | [_], _ => rfl) sc_is_void (fun as Q h => by first | (obtain ⟨_, rfl, _⟩ := h; rfl) | (obtain ⟨_, _, rfl, _⟩ := h; rfl) | (obtain ⟨_, _, _, rfl, _⟩ := h; rfl) | (obtain ⟨_, _, _, _, rfl, _⟩ := h; rfl) | (obtain ⟨_, _, _, _, _, rfl, _⟩ := h; rfl) | (obtain ⟨_, _, _, _, _, _, rfl, _⟩ := h; rfl) | (obtain ⟨_, _, _, _, _, _, _, rfl, _⟩ := h; rfl) | (obtain ⟨_, _, _, _, _, _, _, _, rfl, _⟩ := h; rfl) | (obtain ⟨_, _, _, _, _, _, _, _, _, rfl, _⟩ := h; rfl) | (obtain ⟨rfl, _⟩ := h; rfl)) fun f cdv A outer s H E hr as Q qs hF hq => ?_
    obtain ⟨t, rfl, b, _⟩ := hF
    exact b.no.elim
  | h + 1, hh => by
    have h_is_void := ok_void c H0 h_raw_conjuncts h (by omega)
    have nd := sc_is_void.nd
    have kTOP := c.cs _ (.head _)
    have kBOTTOM := c.cs _ (.tail _ (.head _))
    have kRESERVED := c.cs _ (.tail _ (.tail _ (.tail _ (.tail _ (.tail _ (.head _))))))
    refine ok_of c (.tail _ (.tail _ (.tail _ (.tail _ (.tail _ (.head _)))))) (fun _ _ _ _ _ _ us hl => match us, hl with | [_], _ => rfl) sc_is_void (fun as Q h => by first | (obtain ⟨_, rfl, _⟩ := h; rfl) | (obtain ⟨_, _, rfl, _⟩ := h; rfl) | (obtain ⟨_, _, _, rfl, _⟩ := h; rfl) | (obtain ⟨_, _, _, _, rfl, _⟩ := h; rfl) | (obtain ⟨_, _, _, _, _, rfl, _⟩ := h; rfl) | (obtain ⟨_, _, _, _, _, _, rfl, _⟩ := h; rfl) | (obtain ⟨_, _, _, _, _, _, _, rfl, _⟩ := h; rfl) | (obtain ⟨_, _, _, _, _, _, _, _, rfl, _⟩ := h; rfl) | (obtain ⟨_, _, _, _, _, _, _, _, _, rfl, _⟩ := h; rfl) | (obtain ⟨rfl, _⟩ := h; rfl)) fun f cdv A outer s H E hr as Q qs hF hq => ?_
    obtain ⟨t, rfl, b, hQ⟩ := hF
    obtain rfl : qs = [] := List.length_eq_zero_iff.mp hq
    refine ⟨_, (pss_cons (ps_for PassesOwn.never rfl (pi_listK (K0 := K) (pe_f h_raw_conjuncts (hr.mono (by omega)) rfl (pa_cons (pv 0) pa_nil))) (pg_name (i := 1) nd rfl (Or.inl rfl)) (pss_one (ps_if (PW.pt (pw_or (pt_cmpR op_eq (pe_ix (r := rIxT K) ix_tup (pv 1) pe_int (fun _ _ => rfl)) pe_str (nomark _)) (pw_or1 (PW.pt (pw_and (pt_cmpR op_eq (pe_ix (r := rIxT K) ix_tup (pv 1) pe_int (fun _ _ => rfl)) pe_str (nomark _)) (pw_and1 (pt_val (pe_f h_is_void (hr.mono (by omega)) rfl (pa_cons (pe_ix (r := rIxT K) ix_tup (pv 1) pe_int (fun _ _ => rfl)) pa_nil))))))))) (pss_one (ps_ret pe_bl)) pss_nil)))
    (pss_one (ps_ret pe_bl))), ?_⟩
    show Ss K T _ [.val _, .no] _
    refine go_seq (go_forL (t.raw.map Tm.d) (fun k δ => (t.raw.take k).any Tm.void = false ∧ ∃ s, δ = [.val t.d, s]) ?_ ?_ ?_)
    · k_search "go"
      refine cv [.val _] ⟨rfl, trivial⟩ ⟨t, rfl, b.mono hh, rimL tm_imm, rfl, rfl, _, rfl⟩
    · rintro k d δ2 hk ⟨hv, s, rfl⟩
      obtain ⟨u, hu, rfl⟩ := map_at hk
      have m := List.mem_of_getElem? hu
      have bu := b.raw m
      have ha := Tm.raw_atom t u m
      k_search "nrm"
      cases u with
      | top => cases ha
      | and us => cases ha
      | bot =>
        k_search "go"
        have e : t.void = true := by rw [Tm.void_raw]; exact any_in hu rfl
        rw [e] at hQ
        exact hQ
      | name x =>
        k_search "go"
        exact ⟨by rw [any_take hu, hv]; rfl, _, rfl⟩
      | some r v =>
        k_search "go"
        refine cv [.val _] ⟨rfl, trivial⟩ ⟨v, rfl, bu.some, rim rfl, ?_⟩
        refine ⟨_, rfl, ?_⟩
        refine iteB (fun e => ?_) fun e => ?_
        · k_search "go"
          have e : t.void = true := by rw [Tm.void_raw]; exact any_in hu e
          rw [e] at hQ
          exact hQ
        · k_search "go"
          exact ⟨by rw [any_take hu, hv]; exact e, _, rfl⟩
    · rintro δ2 ⟨hv, s, rfl⟩
      k_search "go"
      rw [List.length_map, List.take_length, ← Tm.void_raw] at hv
      rw [hv] at hQ
      exact hQ
noncomputable def mtc (r : Str) (v : Tm) : Tm → Bool := fun a => match a with
  | .some r' t' => decide (r' = r) && v.meets t'.raw
  | _ => false
theorem some_mtc {r : Str} {v : Tm} {us : List Tm} : (Tm.some r v).meets us = us.any (mtc r v) := by rw [Tm.meets]; rfl
theorem ok_meets (c : Al K mg base ds fr ts cs) (H0 : Nat) (h_raw_conjuncts : Ok P w K mg base (H0 + 1) "raw_conjuncts" ["term"] (spOf K T (F_raw H0))) : ∀ h : Nat, h ≤ H0 →
    Ok P w K mg base (H0 + 1 + 2 * h + 1) "is_met" ["atom", "others"] (spOf K T (F_met h)) ∧ Ok P w K mg base (H0 + 1 + 2 * h + 1 + 1) "meets_all" ["one", "other"] (spOf K T (F_meets h))
  | 0, _ => by
    refine ⟨?_, ?_⟩
    next =>
      have nd := sc_is_met.nd
      have kTOP := c.cs _ (.head _)
      have kBOTTOM := c.cs _ (.tail _ (.head _))
      have kRESERVED := c.cs _ (.tail _ (.tail _ (.tail _ (.tail _ (.tail _ (.head _))))))
      refine ok_of c (.tail _ (.tail _ (.tail _ (.tail _ (.tail _ (.tail _ (.head _))))))) (fun _ _ _ _ _ _ us hl => match us, hl with | [_, _], _ => rfl) sc_is_met (fun as Q h => by first | (obtain ⟨_, rfl, _⟩ := h; rfl) | (obtain ⟨_, _, rfl, _⟩ := h; rfl) | (obtain ⟨_, _, _, rfl, _⟩ := h; rfl) | (obtain ⟨_, _, _, _, rfl, _⟩ := h; rfl) | (obtain ⟨_, _, _, _, _, rfl, _⟩ := h; rfl) | (obtain ⟨_, _, _, _, _, _, rfl, _⟩ := h; rfl) | (obtain ⟨_, _, _, _, _, _, _, rfl, _⟩ := h; rfl) | (obtain ⟨_, _, _, _, _, _, _, _, rfl, _⟩ := h; rfl) | (obtain ⟨_, _, _, _, _, _, _, _, _, rfl, _⟩ := h; rfl) | (obtain ⟨rfl, _⟩ := h; rfl)) fun f cdv A outer s H E hr as Q qs hF hq => ?_
      obtain ⟨t, us, rfl, _, b, _⟩ := hF
      exact b.no.elim
    next =>
      have nd := sc_meets_all.nd
      have kTOP := c.cs _ (.head _)
      have kBOTTOM := c.cs _ (.tail _ (.head _))
      have kRESERVED := c.cs _ (.tail _ (.tail _ (.tail _ (.tail _ (.tail _ (.head _))))))
      refine ok_of c (.tail _ (.tail _ (.tail _ (.tail _ (.tail _ (.tail _ (.tail _ (.head _)))))))) (fun _ _ _ _ _ _ us hl => match us, hl with | [_, _], _ => rfl) sc_meets_all (fun as Q h => by first | (obtain ⟨_, rfl, _⟩ := h; rfl) | (obtain ⟨_, _, rfl, _⟩ := h; rfl) | (obtain ⟨_, _, _, rfl, _⟩ := h; rfl) | (obtain ⟨_, _, _, _, rfl, _⟩ := h; rfl) | (obtain ⟨_, _, _, _, _, rfl, _⟩ := h; rfl) | (obtain ⟨_, _, _, _, _, _, rfl, _⟩ := h; rfl) | (obtain ⟨_, _, _, _, _, _, _, rfl, _⟩ := h; rfl) | (obtain ⟨_, _, _, _, _, _, _, _, rfl, _⟩ := h; rfl) | (obtain ⟨_, _, _, _, _, _, _, _, _, rfl, _⟩ := h; rfl) | (obtain ⟨rfl, _⟩ := h; rfl)) fun f cdv A outer s H E hr as Q qs hF hq => ?_
      obtain ⟨t, u, rfl, b, _⟩ := hF
      exact b.no.elim
  | h + 1, hh => by
    have h_meets_all := (ok_meets c H0 h_raw_conjuncts h (by omega)).2
    have h_is_met : Ok P w K mg base (H0 + 1 + 2 * (h + 1) + 1) "is_met" ["atom", "others"] (spOf K T (F_met (h + 1))) := by
      have nd := sc_is_met.nd
      have kTOP := c.cs _ (.head _)
      have kBOTTOM := c.cs _ (.tail _ (.head _))
      have kRESERVED := c.cs _ (.tail _ (.tail _ (.tail _ (.tail _ (.tail _ (.head _))))))
      refine ok_of c (.tail _ (.tail _ (.tail _ (.tail _ (.tail _ (.tail _ (.head _))))))) (fun _ _ _ _ _ _ us hl => match us, hl with | [_, _], _ => rfl) sc_is_met (fun as Q h => by first | (obtain ⟨_, rfl, _⟩ := h; rfl) | (obtain ⟨_, _, rfl, _⟩ := h; rfl) | (obtain ⟨_, _, _, rfl, _⟩ := h; rfl) | (obtain ⟨_, _, _, _, rfl, _⟩ := h; rfl) | (obtain ⟨_, _, _, _, _, rfl, _⟩ := h; rfl) | (obtain ⟨_, _, _, _, _, _, rfl, _⟩ := h; rfl) | (obtain ⟨_, _, _, _, _, _, _, rfl, _⟩ := h; rfl) | (obtain ⟨_, _, _, _, _, _, _, _, rfl, _⟩ := h; rfl) | (obtain ⟨_, _, _, _, _, _, _, _, _, rfl, _⟩ := h; rfl) | (obtain ⟨rfl, _⟩ := h; rfl)) fun f cdv A outer s H E hr as Q qs hF hq => ?_
      obtain ⟨t, us, rfl, ha, b, hu, hQ⟩ := hF
      obtain rfl : qs = [] := List.length_eq_zero_iff.mp hq
      refine ⟨_, (pss_cons (ps_if (pt_cmpR op_eq (pe_ix (r := rIxT K) ix_tup (pv 0) pe_int (fun _ _ => rfl)) pe_str (nomark _)) (pss_one (ps_ret (pe_cmpR (r := rInD K) (op_inD (Nat.lt_of_le_of_lt (Nat.add_le_add (Nat.le_add_right _ _) (by decide)) hr.un)) (pv 0) (pv 1) rfl))) pss_nil)
    (pss_cons (ps_if (pt_cmpR op_eq (pe_ix (r := rIxT K) ix_tup (pv 0) pe_int (fun _ _ => rfl)) pe_str (nomark _)) (pss_one (ps_for PassesOwn.never rfl (pi_listK (K0 := K) (pv 1)) (pg_name (i := 2) nd rfl (Or.inl rfl)) (pss_one (ps_if (PW.pt (pw_and (pt_cmpR op_eq (pe_ix (r := rIxT K) ix_tup (pv 2) pe_int (fun _ _ => rfl)) pe_str (nomark _)) (pw_and (pt_cmpR (r := rEqD K) (op_eqD hr.units) (pe_ix (r := rIxT K) ix_tup (pv 2) pe_int (fun _ _ => rfl)) (pe_ix (r := rIxT K) ix_tup (pv 0) pe_int (fun _ _ => rfl)) (nomark _)) (pw_and1 (pt_val (pe_f h_meets_all (hr.mono (by omega)) rfl (pa_cons (pe_ix (r := rIxT K) ix_tup (pv 2) pe_int (fun _ _ => rfl)) (pa_cons (pe_ix (r := rIxT K) ix_tup (pv 0) pe_int (fun _ _ => rfl)) pa_nil)))))))) (pss_one (ps_ret pe_bl)) pss_nil)))) pss_nil)
    (pss_one (ps_ret pe_bl)))), ?_⟩
      show Ss K T _ [.val _, .val _, .no] _
      cases t with
      | top => cases ha
      | and us => cases ha
      | bot =>
        k_search "go"
        exact hQ
      | name x =>
        k_search "go"
        refine opd_inTm b.shaped (shaped_tb fun u m => (hu u m).1) ?_
        k_search "go"
        have e : (Tm.name x).meets us = decide (Tm.name x ∈ us) := by
          rw [Bool.eq_iff_iff, name_met, decide_eq_true_eq]
        rw [e] at hQ
        exact hQ
      | some r v =>
        k_search "go"
        refine go_forL (us.map Tm.d) (fun k δ => (us.take k).any (mtc r v) = false ∧ ∃ s, δ = [.val (Tm.some r v).d, .val (.list (us.map Tm.d)), s]) ?_ ?_ ?_
        · k_search "go"
          exact ⟨rfl, rfl, _, rfl⟩
        · rintro k d δ2 hk ⟨hv, s, rfl⟩
          obtain ⟨u, hu1, rfl⟩ := map_at hk
          have m := List.mem_of_getElem? hu1
          obtain ⟨bu, hau⟩ := hu u m
          k_search "nrm"
          cases u with
          | top => cases hau
          | and us => cases hau
          | bot =>
            k_search "go"
            exact ⟨by rw [any_take hu1, hv]; rfl, _, rfl⟩
          | name x =>
            k_search "go"
            exact ⟨by rw [any_take hu1, hv]; rfl, _, rfl⟩
          | some q u =>
            k_search "go"
            refine opd_eqW bu.W b.W ?_
            refine ⟨_, rfl, iteD (fun e => ?_) fun e => ?_⟩
            · k_search "go"
              refine cv [.val _, .val _] ⟨rfl, rfl, trivial⟩ ⟨u, v, rfl, bu.some, b.some, rim rfl, ?_⟩
              refine ⟨_, rfl, iteB (fun e2 => ?_) fun e2 => ?_⟩
              · k_search "go"
                have e3 : (Tm.some r v).meets us = true := by rw [some_mtc]; exact any_in hu1 (by simp [mtc, e, e2])
                rw [e3] at hQ
                exact hQ
              · k_search "go"
                exact ⟨by rw [any_take hu1, hv]; simp [mtc, e2], _, rfl⟩
            · k_search "go"
              exact ⟨by rw [any_take hu1, hv]; simp [mtc, e], _, rfl⟩
        · rintro δ2 ⟨hv, s, rfl⟩
          k_search "go"
          rw [List.length_map, List.take_length, ← some_mtc] at hv
          rw [hv] at hQ
          exact hQ
    refine ⟨h_is_met, ?_⟩
    have nd := sc_meets_all.nd
    have kTOP := c.cs _ (.head _)
    have kBOTTOM := c.cs _ (.tail _ (.head _))
    have kRESERVED := c.cs _ (.tail _ (.tail _ (.tail _ (.tail _ (.tail _ (.head _))))))
    refine ok_of c (.tail _ (.tail _ (.tail _ (.tail _ (.tail _ (.tail _ (.tail _ (.head _)))))))) (fun _ _ _ _ _ _ us hl => match us, hl with | [_, _], _ => rfl) sc_meets_all (fun as Q h => by first | (obtain ⟨_, rfl, _⟩ := h; rfl) | (obtain ⟨_, _, rfl, _⟩ := h; rfl) | (obtain ⟨_, _, _, rfl, _⟩ := h; rfl) | (obtain ⟨_, _, _, _, rfl, _⟩ := h; rfl) | (obtain ⟨_, _, _, _, _, rfl, _⟩ := h; rfl) | (obtain ⟨_, _, _, _, _, _, rfl, _⟩ := h; rfl) | (obtain ⟨_, _, _, _, _, _, _, rfl, _⟩ := h; rfl) | (obtain ⟨_, _, _, _, _, _, _, _, rfl, _⟩ := h; rfl) | (obtain ⟨_, _, _, _, _, _, _, _, _, rfl, _⟩ := h; rfl) | (obtain ⟨rfl, _⟩ := h; rfl)) fun f cdv A outer s H E hr as Q qs hF hq => ?_
    obtain ⟨t, u, rfl, b, b2, hQ⟩ := hF
    obtain rfl : qs = [] := List.length_eq_zero_iff.mp hq
    refine ⟨_, (pss_cons (ps_set (i := 2) nd rfl (Or.inl rfl) (pe_f h_raw_conjuncts (hr.mono (by omega)) rfl (pa_cons (pv 0) pa_nil)))
    (pss_cons (ps_for PassesOwn.never rfl (pi_listK (K0 := K) (pe_f h_raw_conjuncts (hr.mono (by omega)) rfl (pa_cons (pv 1) pa_nil))) (pg_name (i := 3) nd rfl (Or.inl rfl)) (pss_one (ps_if (pt_not (pt_val (pe_f h_is_met (hr.mono (by omega)) rfl (pa_cons (pv 3) (pa_cons (pv 2) pa_nil))))) (pss_one (ps_ret pe_bl)) pss_nil)))
    (pss_one (ps_ret pe_bl)))), ?_⟩
    show Ss K T _ [.val _, .val _, .no, .no] _
    k_search "go"
    refine cv [.val _] ⟨rfl, trivial⟩ ⟨t, rfl, b.mono hh, rimL tm_imm, ?_⟩
    k_search "go"
    refine go_forL (u.raw.map Tm.d) (fun k δ => (u.raw.take k).all (fun x => x.meets t.raw) = true ∧ ∃ a s, δ = [.val t.d, .val u.d, .own a (.lst (t.raw.map Tm.d)), s]) ?_ ?_ ?_
    · k_search "go"
      refine cv [.val _] ⟨rfl, trivial⟩ ⟨u, rfl, b2.mono hh, rimL tm_imm, rfl, rfl, _, _, rfl⟩
    · rintro k d δ2 hk ⟨hv, a, s, rfl⟩
      obtain ⟨x, hx, rfl⟩ := map_at hk
      have m := List.mem_of_getElem? hx
      k_search "nrm"
      k_search "go"
      refine cv [.val _, .val _] ⟨rfl, ⟨_, _, rfl, rfl⟩, by decide, trivial⟩ ⟨x, t.raw, rfl, Tm.raw_atom u x m, b2.raw m, fun y hy => ⟨b.raw hy, Tm.raw_atom t y hy⟩, rim rfl, ?_⟩
      refine ⟨_, rfl, ?_⟩
      cases e : x.meets t.raw with
      | true =>
        k_search "go"
        exact ⟨by rw [all_take hx, hv, e]; rfl, _, _, rfl⟩
      | false =>
        k_search "go"
        have e2 : u.meets t.raw = false := by rw [Tm.meets_raw]; exact all_in hx e
        rw [e2] at hQ
        exact hQ
    · rintro δ2 ⟨hv, a, s, rfl⟩
      k_search "go"
      rw [List.length_map, List.take_length, ← Tm.meets_raw] at hv
      rw [hv] at hQ
      exact hQ
theorem ok_below (c : Al K mg base ds fr ts cs) (H0 n1 n2 : Nat) (h_is_void : Ok P w K mg base n1 "is_void" ["term"] (spOf K T (F_void H0))) (h_meets_all : Ok P w K mg base n2 "meets_all" ["one", "other"] (spOf K T (F_meets H0))) :
    Ok P w K mg base (max n1 n2 + 1) "plain_below" ["one", "other"] (spOf K T (F_below H0)) := by
  have nd := sc_plain_below.nd
  have kTOP := c.cs _ (.head _)
  have kBOTTOM := c.cs _ (.tail _ (.head _))
  have kRESERVED := c.cs _ (.tail _ (.tail _ (.tail _ (.tail _ (.tail _ (.head _))))))
  refine ok_of c (.tail _ (.tail _ (.tail _ (.tail _ (.tail _ (.tail _ (.tail _ (.tail _ (.head _))))))))) (fun _ _ _ _ _ _ us hl => match us, hl with | [_, _], _ => rfl) sc_plain_below (fun as Q h => by first | (obtain ⟨_, rfl, _⟩ := h; rfl) | (obtain ⟨_, _, rfl, _⟩ := h; rfl) | (obtain ⟨_, _, _, rfl, _⟩ := h; rfl) | (obtain ⟨_, _, _, _, rfl, _⟩ := h; rfl) | (obtain ⟨_, _, _, _, _, rfl, _⟩ := h; rfl) | (obtain ⟨_, _, _, _, _, _, rfl, _⟩ := h; rfl) | (obtain ⟨_, _, _, _, _, _, _, rfl, _⟩ := h; rfl) | (obtain ⟨_, _, _, _, _, _, _, _, rfl, _⟩ := h; rfl) | (obtain ⟨_, _, _, _, _, _, _, _, _, rfl, _⟩ := h; rfl) | (obtain ⟨rfl, _⟩ := h; rfl)) fun f cdv A outer s H E hr as Q qs hF hq => ?_
  obtain ⟨t, u, rfl, b, b2, hQ⟩ := hF
  obtain rfl : qs = [] := List.length_eq_zero_iff.mp hq
  refine ⟨_, (pss_one (ps_ret (pe_or (pe_f h_is_void (hr.mono (by omega)) rfl (pa_cons (pv 0) pa_nil)) (pe_one (pe_f h_meets_all (hr.mono (by omega)) rfl (pa_cons (pv 0) (pa_cons (pv 1) pa_nil))))))), ?_⟩
  show Ss K T _ [.val _, .val _] _
  k_search "go"
  refine cv [.val _] ⟨rfl, trivial⟩ ⟨t, rfl, b, rim rfl, ?_⟩
  refine ⟨_, rfl, iteB (fun e => ?_) fun e => ?_⟩
  · k_search "go"
    have e3 : t.under u = true := by simp [Tm.under, e]
    rw [e3] at hQ
    exact hQ
  · k_search "go"
    refine cv [.val _, .val _] ⟨rfl, rfl, trivial⟩ ⟨t, u, rfl, b, b2, rim rfl, ?_⟩
    k_search "go"
    have e3 : t.under u = u.meets t.raw := by simp [Tm.under, e]
    rw [e3] at hQ
    exact hQ
set_option Elab.async false
set_option linter.all false
set_option maxRecDepth 100000
set_option maxHeartbeats 4000001
open PySem L2 LamX NdefX PyProof.Rows GenW Pl
variable {P : Program} {w : World} {K : PySem.W.Frag} {mg : Str → Option Value} {base : Heap} {T : List NTab} {ts : List Str}
def F_write (h : Nat) : FS := fun as Q => ∃ t : Tm, as = [.val t.d] ∧ Tb h t ∧ Q (.val (.str t.wr)) []
theorem ok_write (c : Al K mg base ds fr ts cs) : ∀ h : Nat, Ok P w K mg base (h + 1) "write" ["term"] (spOf K T (F_write h))
  | 0 => by
    have nd := sc_write.nd
    have kTOP := c.cs _ (.head _)
    have kBOTTOM := c.cs _ (.tail _ (.head _))
    have kRESERVED := c.cs _ (.tail _ (.tail _ (.tail _ (.tail _ (.tail _ (.head _))))))
    refine ok_of c (.tail _ (.tail _ (.tail _ (.tail _ (.tail _ (.tail _ (.tail _ (.tail _ (.tail _ (.head _)))))))))) (fun _ _ _ _ _ _ us hl => match us, hl with | [_], _ => rfl) sc_write (fun as Q h => by first | (obtain ⟨_, rfl, _⟩ := h; rfl) | (obtain ⟨_, _, rfl, _⟩ := h; rfl) | (obtain ⟨_, _, _, rfl, _⟩ := h; rfl) | (obtain ⟨_, _, _, _, rfl, _⟩ := h; rfl) | (obtain ⟨_, _, _, _, _, rfl, _⟩ := h; rfl) | (obtain ⟨_, _, _, _, _, _, rfl, _⟩ := h; rfl) | (obtain ⟨_, _, _, _, _, _, _, rfl, _⟩ := h; rfl) | (obtain ⟨_, _, _, _, _, _, _, _, rfl, _⟩ := h; rfl) | (obtain ⟨_, _, _, _, _, _, _, _, _, rfl, _⟩ := h; rfl) | (obtain ⟨rfl, _⟩ := h; rfl)) fun f cdv A outer s H E hr as Q qs hF hq => ?_
    obtain ⟨t, rfl, b, _⟩ := hF
    exact b.no.elim
  | h + 1 => by
    have h_write := ok_write c h
    have nd := sc_write.nd
    have kTOP := c.cs _ (.head _)
    have kBOTTOM := c.cs _ (.tail _ (.head _))
    have kRESERVED := c.cs _ (.tail _ (.tail _ (.tail _ (.tail _ (.tail _ (.head _))))))
    refine ok_of c (.tail _ (.tail _ (.tail _ (.tail _ (.tail _ (.tail _ (.tail _ (.tail _ (.tail _ (.head _)))))))))) (fun _ _ _ _ _ _ us hl => match us, hl with | [_], _ => rfl) sc_write (fun as Q h => by first | (obtain ⟨_, rfl, _⟩ := h; rfl) | (obtain ⟨_, _, rfl, _⟩ := h; rfl) | (obtain ⟨_, _, _, rfl, _⟩ := h; rfl) | (obtain ⟨_, _, _, _, rfl, _⟩ := h; rfl) | (obtain ⟨_, _, _, _, _, rfl, _⟩ := h; rfl) | (obtain ⟨_, _, _, _, _, _, rfl, _⟩ := h; rfl) | (obtain ⟨_, _, _, _, _, _, _, rfl, _⟩ := h; rfl) | (obtain ⟨_, _, _, _, _, _, _, _, rfl, _⟩ := h; rfl) | (obtain ⟨_, _, _, _, _, _, _, _, _, rfl, _⟩ := h; rfl) | (obtain ⟨rfl, _⟩ := h; rfl)) fun f cdv A outer s H E hr as Q qs hF hq => ?_
    obtain ⟨t, rfl, b, hQ⟩ := hF
    obtain rfl : qs = [] := List.length_eq_zero_iff.mp hq
    refine ⟨_, (pss_cons (ps_if (PW.pt (pw_or (pt_cmpR op_eq (pe_ix (r := rIxT K) ix_tup (pv 0) pe_int (fun _ _ => rfl)) pe_str (nomark _)) (pw_or1 (pt_cmpR op_eq (pe_ix (r := rIxT K) ix_tup (pv 0) pe_int (fun _ _ => rfl)) pe_str (nomark _))))) (pss_one (ps_ret (pe_ix (r := rIxT K) ix_tup (pv 0) pe_int (fun _ _ => rfl)))) pss_nil)
    (pss_cons (ps_if (pt_cmpR op_eq (pe_ix (r := rIxT K) ix_tup (pv 0) pe_int (fun _ _ => rfl)) pe_str (nomark _)) (pss_one (ps_ret (pe_ix (r := rIxT K) ix_tup (pv 0) pe_int (fun _ _ => rfl)))) pss_nil)
    (pss_cons (ps_if (pt_cmpR op_eq (pe_ix (r := rIxT K) ix_tup (pv 0) pe_int (fun _ _ => rfl)) pe_str (nomark _)) (pss_one (ps_ret (pe_joinK (K0 := K) pe_str (pe_lc (own := [("part", 2)]) (g := gName 2) (tt := tYes) rfl nd (pi_tupK (K0 := K) (pe_ix (r := rIxT K) ix_tup (pv 0) pe_int (fun _ _ => rfl))) (blkOk_by (N := ["term", "inner", "part"]) (sc := defScope (top 19)) (by first | decide +kernel | rfl)) (fun _ _ _ _ _ => pg_name (i := 2) nd rfl (by first | exact Or.inl rfl | exact Or.inr rfl)) (fun _ _ _ _ _ => pts_nil) (fun _ _ _ _ _ => (pe_f h_write (hr.mono (by omega)) rfl (pa_cons (pv 2) pa_nil))))))) pss_nil)
    (pss_cons (ps_set (i := 1) nd rfl (Or.inl rfl) (pe_f h_write (hr.mono (by omega)) rfl (pa_cons (pe_ix (r := rIxT K) ix_tup (pv 0) pe_int (fun _ _ => rfl)) pa_nil)))
    (pss_cons (ps_if (pt_cmpR op_eq (pe_ix (r := rIxT K) ix_tup (pe_ix (r := rIxT K) ix_tup (pv 0) pe_int (fun _ _ => rfl)) pe_int (fun _ _ => rfl)) pe_str (nomark _)) (pss_one (ps_set (i := 1) nd rfl (Or.inl rfl) (pe_joined (PJ.cons pe_str (PJ.cons (pe_fmt (pv 1)) (PJ.cons pe_str PJ.nil)))))) pss_nil)
    (pss_one (ps_ret (pe_joined (PJ.cons pe_str (PJ.cons (pe_fmt (pe_ix (r := rIxT K) ix_tup (pv 0) pe_int (fun _ _ => rfl))) (PJ.cons pe_str (PJ.cons (pe_fmt (pv 1)) PJ.nil)))))))))))), ?_⟩
    show Ss K T _ [.val _, .no, .no] _
    cases t with
    | top =>
      k_search "go"
      exact hQ
    | bot =>
      k_search "go"
      exact hQ
    | name x =>
      k_search "go"
      have e : (Tm.name x).wr = x := str_ext (by rw [tl_wr]; rfl)
      rw [e] at hQ
      exact hQ
    | some r t =>
      k_search "go"
      refine cv [.val _] ⟨rfl, trivial⟩ ⟨t, rfl, b.some, rim rfl, ?_⟩
      have hl := b.some.wlen
      have hr12 := b.W.hi
      have fin : ∀ (x : Str), x.cps.toList = t.wlI → (Str.empty ++ "some " ++ r ++ " " ++ x : Str) = (Tm.some r t).wr := fun x hx => str_ext (by
        rw [tl_app, tl_app, tl_app, tl_app, tl_wr, hx, Tm.wl]
        show ((([] ++ [115, 111, 109, 101, 32]) ++ r.cps.toList) ++ [32]) ++ t.wlI = _
        simp [cSome, Tm.wlI])
      have len4 : ∀ (x : Str), x.length ≤ 25100 → (Str.empty ++ "some " ++ r ++ " " ++ x : Str).length ≤ 1000000 ∧ (Str.empty ++ "some " ++ r ++ " " : Str).length ≤ 1000000 ∧ (Str.empty ++ "some " ++ r : Str).length ≤ 1000000 := fun x hx => by
        have z0 : Str.empty.cps.toList.length = 0 := rfl
        have z1 : ("some " : Str).cps.toList.length = 5 := by decide +kernel
        have z2 : (" " : Str).cps.toList.length = 1 := by decide +kernel
        rw [len_tl] at hx hr12
        refine ⟨?_, ?_, ?_⟩ <;> rw [len_tl] <;> simp only [tl_app, List.length_append] <;> omega
      have done : ∀ (x : Str), x.cps.toList = t.wlI → x.length ≤ 25100 → ExJ K T [tFmt (tOp (rIxT K) (tVar 0) (tC (.int 1))), tC (.str " "), tFmt (tVar 1)] (Str.empty ++ "some ") [.val (Tm.some r t).d, .val (.str x), .no]
          (fun r_1 δ' => ∃ us r', Fin [.val (Tm.some r t).d] [] δ' us ∧ RetR [Ar.val (Tm.some r t).d].length δ' r_1 r' ∧ Q r' us) := fun x hx hxl => by
        obtain ⟨l4, l3, l2⟩ := len4 x hxl
        k_search "go"
        refine ⟨by omega, _, rfl, l2, ?_⟩
        k_search "go"
        refine ⟨l3, ?_⟩
        k_search "go"
        refine ⟨by omega, _, rfl, l4, ?_⟩
        k_search "go"
        rw [← fin x hx] at hQ
        exact hQ
      cases t with
      | and us =>
        k_search "go"
        have z1 : ("(" : Str).cps.toList.length = 1 := by decide +kernel
        have z2 : (")" : Str).cps.toList.length = 1 := by decide +kernel
        have z0 : Str.empty.cps.toList.length = 0 := rfl
        have hl2 := hl
        rw [len_tl] at hl2
        refine ⟨by decide +kernel, ?_⟩
        k_search "go"
        refine ⟨by omega, _, rfl, by rw [len_tl]; simp only [tl_app, List.length_append]; omega, ?_⟩
        k_search "go"
        refine ⟨by rw [len_tl]; simp only [tl_app, List.length_append]; omega, ?_⟩
        k_search "go"
        refine ⟨by decide +kernel, done _ ?_ (by rw [len_tl]; simp only [tl_app, List.length_append]; omega)⟩
        rw [tl_app, tl_app, tl_app, tl_wr]
        show (([] ++ [40]) ++ (Tm.and us).wl) ++ [41] = _
        simp [Tm.wlI, Tm.isAnd]
      | _ => 
        k_search "go"
        exact ⟨by decide +kernel, done _ (by rw [tl_wr]; rfl) (by omega)⟩
    | and us =>
      have gl : Tm.goodL us := b.good
      have hc : Tm.cntL us + 1 ≤ 1000 := b.cnt
      have e1 := sum_wr gl
      have e2 := b.len
      k_search "go"
      refine ex_mapT2 ?_
      k_search "go"
      refine ⟨Tm.dL us, us.map (fun t => .str t.wr), rfl, rfl, by rw [Tm.dL_map, List.length_map]; omega, by rw [Tm.dL_map, List.length_map, List.length_map], fun k d e hd he => ?_, us.map Tm.wr, ?_, ?_, ?_⟩
      · rw [Tm.dL_map] at hd
        obtain ⟨t, ht, rfl⟩ := map_at hd
        rw [List.getElem?_map, ht] at he
        cases he
        k_search "nrm"
        k_search "go"
        exact cv [.val _] ⟨rfl, trivial⟩ ⟨t, rfl, b.and (List.mem_of_getElem? ht), rim rfl, rfl, rfl⟩
      · simp [AsD]
      · have z : (" and " : Str).length = 5 := by decide +kernel
        rw [z, List.length_map]
        omega
      · k_search "go"
        have e : (Tm.and us).wr = Txt.join " and " (us.map Tm.wr) := str_ext (by
          rw [tl_wr, Tm.wl, join_tl _ us (by decide +kernel)])
        rw [e] at hQ
        exact hQ
def F_key (h : Nat) : FS := fun as Q => ∃ t : Tm, as = [.val t.d] ∧ Tb h t ∧ t.atom = true ∧ Q (.val t.keyD) []
theorem ok_key (c : Al K mg base ds fr ts cs) (h n : Nat) (h_write : Ok P w K mg base n "write" ["term"] (spOf K T (F_write h))) : Ok P w K mg base (n + 1) "atom_key" ["atom"] (spOf K T (F_key h)) := by
  have nd := sc_atom_key.nd
  have kTOP := c.cs _ (.head _)
  have kBOTTOM := c.cs _ (.tail _ (.head _))
  have kRESERVED := c.cs _ (.tail _ (.tail _ (.tail _ (.tail _ (.tail _ (.head _))))))
  refine ok_of c (.tail _ (.tail _ (.tail _ (.tail _ (.tail _ (.tail _ (.tail _ (.tail _ (.tail _ (.tail _ (.head _))))))))))) (fun _ _ _ _ _ _ us hl => match us, hl with | [_], _ => rfl) sc_atom_key (fun as Q h => by first | (obtain ⟨_, rfl, _⟩ := h; rfl) | (obtain ⟨_, _, rfl, _⟩ := h; rfl) | (obtain ⟨_, _, _, rfl, _⟩ := h; rfl) | (obtain ⟨_, _, _, _, rfl, _⟩ := h; rfl) | (obtain ⟨_, _, _, _, _, rfl, _⟩ := h; rfl) | (obtain ⟨_, _, _, _, _, _, rfl, _⟩ := h; rfl) | (obtain ⟨_, _, _, _, _, _, _, rfl, _⟩ := h; rfl) | (obtain ⟨_, _, _, _, _, _, _, _, rfl, _⟩ := h; rfl) | (obtain ⟨_, _, _, _, _, _, _, _, _, rfl, _⟩ := h; rfl) | (obtain ⟨rfl, _⟩ := h; rfl)) fun f cdv A outer s H E hr as Q qs hF hq => ?_
  obtain ⟨t, rfl, b, ha, hQ⟩ := hF
  obtain rfl : qs = [] := List.length_eq_zero_iff.mp hq
  refine ⟨_, (pss_cons (ps_if (pt_cmpR op_eq (pe_ix (r := rIxT K) ix_tup (pv 0) pe_int (fun _ _ => rfl)) pe_str (nomark _)) (pss_one (ps_ret (pe_tup (pa_cons (pe_un un_neg pe_int) (pa_cons pe_str pa_nil))))) pss_nil)
    (pss_cons (ps_if (pt_cmpR op_eq (pe_ix (r := rIxT K) ix_tup (pv 0) pe_int (fun _ _ => rfl)) pe_str (nomark _)) (pss_one (ps_ret (pe_tup (pa_cons pe_int (pa_cons (pe_ix (r := rIxT K) ix_tup (pv 0) pe_int (fun _ _ => rfl)) pa_nil))))) pss_nil)
    (pss_one (ps_ret (pe_tup (pa_cons pe_int (pa_cons (pe_f h_write (hr.mono (by omega)) rfl (pa_cons (pv 0) pa_nil)) pa_nil))))))), ?_⟩
  show Ss K T _ [.val _] _
  cases t with
  | top => cases ha
  | and us => cases ha
  | bot =>
    k_search "go"
    exact hQ
  | name x =>
    k_search "go"
    exact hQ
  | some r t =>
    k_search "go"
    refine cv [.val _] ⟨rfl, trivial⟩ ⟨_, rfl, b, rim rfl, ?_⟩
    k_search "go"
    exact hQ
set_option Elab.async false
set_option linter.all false
set_option maxRecDepth 100000
set_option maxHeartbeats 4000001
open PySem L2 LamX NdefX PyProof.Rows GenW Pl
variable {P : Program} {w : World} {K : PySem.W.Frag} {mg : Str → Option Value} {base : Heap} {T : List NTab} {ts : List Str}
def F_is_term : FS := fun as Q => ∃ (t : Tm) (h : Nat), as = [.val t.d] ∧ Tb h t ∧ Q (.val (.bool true)) []
def F_check_term : FS := fun as Q => ∃ (t : Tm) (h : Nat), as = [.val t.d] ∧ Tb h t ∧ Q (.val .none) []
theorem cntL_app : ∀ (us vs : List Tm), Tm.cntL (us ++ vs) = Tm.cntL us + Tm.cntL vs
  | [], vs => by simp [Tm.cntL]
  | u :: us, vs => by rw [List.cons_append, Tm.cntL, Tm.cntL, cntL_app us vs]; omega
theorem parts_cnt (t : Tm) : Tm.cntL (parts t) + 1 ≤ t.cnt := by
  cases t with
  | some r t => show t.cnt + 0 + 1 ≤ t.cnt + 1; omega
  | and us => exact Nat.le_refl _
  | _ => exact Nat.le_refl _
theorem parts_tb {h : Nat} {t : Tm} (b : Tb h t) : ∀ u ∈ parts t, Tb h u := fun u m => by
  cases t with
  | some r t => rw [List.mem_singleton.mp m]; exact b.some'
  | and us =>
    have := b.ht
    cases h with
    | zero => exact b.no.elim
    | succ h => exact (b.and m).mono (Nat.le_succ h)
  | _ => cases m
theorem ok_is_term (c : Al K mg base ds fr ts cs) (h_direct_parts : Ok P w K mg base 2 "direct_parts" ["value"] (spOf K T F_direct_parts)) : Ok P w K mg base 3 "is_term" ["value"] (spOf K T F_is_term) := by
  have nd := sc_is_term.nd
  have kTOP := c.cs _ (.head _)
  have kBOTTOM := c.cs _ (.tail _ (.head _))
  have kRESERVED := c.cs _ (.tail _ (.tail _ (.tail _ (.tail _ (.tail _ (.head _))))))
  refine ok_of c (.tail _ (.tail _ (.head _))) (fun _ _ _ _ _ _ us hl => match us, hl with | [_], _ => rfl) sc_is_term (fun as Q h => by first | (obtain ⟨_, rfl, _⟩ := h; rfl) | (obtain ⟨_, _, rfl, _⟩ := h; rfl) | (obtain ⟨_, _, _, rfl, _⟩ := h; rfl) | (obtain ⟨_, _, _, _, rfl, _⟩ := h; rfl) | (obtain ⟨_, _, _, _, _, rfl, _⟩ := h; rfl) | (obtain ⟨_, _, _, _, _, _, rfl, _⟩ := h; rfl) | (obtain ⟨_, _, _, _, _, _, _, rfl, _⟩ := h; rfl) | (obtain ⟨_, _, _, _, _, _, _, _, rfl, _⟩ := h; rfl) | (obtain ⟨_, _, _, _, _, _, _, _, _, rfl, _⟩ := h; rfl) | (obtain ⟨rfl, _⟩ := h; rfl)) fun f cdv A outer s H E hr as Q qs hF hq => ?_
  obtain ⟨t, h, rfl, b, hQ⟩ := hF
  obtain rfl : qs = [] := List.length_eq_zero_iff.mp hq
  refine ⟨_, (pss_cons (ps_set (i := 1) nd rfl (Or.inl rfl) (pe_lst (pa_cons (pv 0) pa_nil)))
    (pss_cons (ps_while PassesOwn.never (pt_truthK (K0 := K) (pv 1) (fun _ => rfl)) (pss_cons (ps_set (i := 2) nd rfl (Or.inl rfl) (pe_f h_direct_parts (hr.mono (by omega)) rfl (pa_cons (pe_bm0K (K0 := K) PySem.F.plainAttrs_list PySem.F.slot_list_pop PySem.F.type_list_pop mt_pop (pv 1)) pa_nil)))
    (pss_cons (ps_if (pt_cmp (pc_isN (pv 2))) (pss_one (ps_ret pe_bl)) pss_nil)
    (pss_one (ps_expr (pe_bmK (K0 := K) PySem.F.plainAttrs_list PySem.F.slot_list_extend PySem.F.type_list_extend mt_extend (pv 1) (pa_cons (pv 2) pa_nil)))))))
    (pss_one (ps_ret pe_bl)))), ?_⟩
  show Ss K T _ [.val _, .no, .no] _
  k_search "go"
  refine go_while (W := fun m δ => ∃ (us : List Tm) (a : Addr) (s : Sl), δ = [.val t.d, .own a (.lst (us.map Tm.d)), s] ∧ (∀ u ∈ us, Tb h u) ∧ Tm.cntL us = m ∧ m ≤ 1000) t.cnt ⟨[t], _, _, rfl, fun u m => by rw [List.mem_singleton.mp m]; exact b, rfl, b.cnt⟩ ?_
  rintro m δ2 ⟨us, a, s, rfl, hu, hm, hm2⟩
  refine et_truL (ex_bor rfl ⟨_, ⟨_, _, rfl, rfl⟩, ?_⟩)
  rcases List.eq_nil_or_concat us with rfl | ⟨vs, u, rfl⟩
  · k_search "go"
    exact hQ
  · rw [List.concat_eq_append] at hu hm
    have bu : Tb h u := hu u (List.mem_append_right _ (List.mem_singleton.mpr rfl))
    have e : (!(List.map Tm.d (vs.concat u)).isEmpty) = true := by simp
    rw [e]
    refine iteT rfl ?_
    refine go_seq (go_set (go_call (exa_cons (ex_lm0 ⟨a, List.map Tm.d vs ++ [u.d], by simp, lm_pop (exa_nil ?_)⟩))))
    k_search "nrm"
    refine cv [.val _] ⟨rfl, trivial⟩ ⟨u, h, rfl, bu, rimL tm_imm, ?_⟩
    rw [cntL_app] at hm
    have hc := parts_cnt u
    have l1 := Tm.len_cntL vs
    have l2 := Tm.len_cntL (parts u)
    have hm : Tm.cntL vs + (u.cnt + 0) = m := hm
    k_search "go"
    · simp; omega
    k_search "nrm"
    refine ⟨Tm.cntL (vs ++ parts u), by rw [cntL_app]; omega, vs ++ parts u, a, _, by rw [List.map_append], ?_, rfl, by rw [cntL_app]; omega⟩
    intro x hx
    rcases List.mem_append.mp hx with hx | hx
    · exact hu x (List.mem_append_left _ hx)
    · exact parts_tb bu x hx
theorem ok_check_term (c : Al K mg base ds fr ts cs) (h_is_term : Ok P w K mg base 3 "is_term" ["value"] (spOf K T F_is_term)) : Ok P w K mg base 4 "check_term" ["value"] (spOf K T F_check_term) := by
  have nd := sc_check_term.nd
  have kTOP := c.cs _ (.head _)
  have kBOTTOM := c.cs _ (.tail _ (.head _))
  have kRESERVED := c.cs _ (.tail _ (.tail _ (.tail _ (.tail _ (.tail _ (.head _))))))
  refine ok_of c (.tail _ (.tail _ (.tail _ (.head _)))) (fun _ _ _ _ _ _ us hl => match us, hl with | [_], _ => rfl) sc_check_term (fun as Q h => by first | (obtain ⟨_, rfl, _⟩ := h; rfl) | (obtain ⟨_, _, rfl, _⟩ := h; rfl) | (obtain ⟨_, _, _, rfl, _⟩ := h; rfl) | (obtain ⟨_, _, _, _, rfl, _⟩ := h; rfl) | (obtain ⟨_, _, _, _, _, rfl, _⟩ := h; rfl) | (obtain ⟨_, _, _, _, _, _, rfl, _⟩ := h; rfl) | (obtain ⟨_, _, _, _, _, _, _, rfl, _⟩ := h; rfl) | (obtain ⟨_, _, _, _, _, _, _, _, rfl, _⟩ := h; rfl) | (obtain ⟨_, _, _, _, _, _, _, _, _, rfl, _⟩ := h; rfl) | (obtain ⟨rfl, _⟩ := h; rfl)) fun f cdv A outer s H E hr as Q qs hF hq => ?_
  obtain ⟨t, h, rfl, b, hQ⟩ := hF
  obtain rfl : qs = [] := List.length_eq_zero_iff.mp hq
  refine ⟨_, (pss_one (ps_if (pt_not (pt_val (pe_f h_is_term (hr.mono (by omega)) rfl (pa_cons (pv 0) pa_nil)))) (pss_one ps_never) pss_nil)), ?_⟩
  show Ss K T _ [.val _] _
  k_search "go"
  refine cv [.val _] ⟨rfl, trivial⟩ ⟨t, h, rfl, b, rim rfl, ?_⟩
  k_search "go"
  exact hQ
set_option Elab.async false
set_option linter.all false
set_option maxRecDepth 100000
set_option maxHeartbeats 4000001
open PySem L2 LamX NdefX PyProof.Rows GenW Pl
variable {P : Program} {w : World} {K : PySem.W.Frag} {mg : Str → Option Value} {base : Heap} {T : List NTab} {ts : List Str}
def F_impl (h : Nat) : FS := fun as Q => ∃ (t : Tm) (us : List Tm), as = [.val t.d, .val (.list (us.map Tm.d))] ∧ t.atom = true ∧ Tb h t ∧ (∀ u ∈ us, Tb h u ∧ u.atom = true) ∧ us.length ≤ 1000 ∧ Q (.val (.bool (impl1 t us))) []
theorem ok_impl (c : Al K mg base ds fr ts cs) (h n : Nat) (h_is_met : Ok P w K mg base n "is_met" ["atom", "others"] (spOf K T (F_met h))) : Ok P w K mg base (n + 1) "is_implied" ["atom", "atoms"] (spOf K T (F_impl h)) := by
  have nd := sc_is_implied.nd
  have kTOP := c.cs _ (.head _)
  have kBOTTOM := c.cs _ (.tail _ (.head _))
  have kRESERVED := c.cs _ (.tail _ (.tail _ (.tail _ (.tail _ (.tail _ (.head _))))))
  refine ok_of c (.tail _ (.tail _ (.tail _ (.tail _ (.tail _ (.tail _ (.tail _ (.tail _ (.tail _ (.tail _ (.tail _ (.tail _ (.head _))))))))))))) (fun _ _ _ _ _ _ us hl => match us, hl with | [_, _], _ => rfl) sc_is_implied (fun as Q h => by first | (obtain ⟨_, rfl, _⟩ := h; rfl) | (obtain ⟨_, _, rfl, _⟩ := h; rfl) | (obtain ⟨_, _, _, rfl, _⟩ := h; rfl) | (obtain ⟨_, _, _, _, rfl, _⟩ := h; rfl) | (obtain ⟨_, _, _, _, _, rfl, _⟩ := h; rfl) | (obtain ⟨_, _, _, _, _, _, rfl, _⟩ := h; rfl) | (obtain ⟨_, _, _, _, _, _, _, rfl, _⟩ := h; rfl) | (obtain ⟨_, _, _, _, _, _, _, _, rfl, _⟩ := h; rfl) | (obtain ⟨_, _, _, _, _, _, _, _, _, rfl, _⟩ := h; rfl) | (obtain ⟨rfl, _⟩ := h; rfl)) fun f cdv A outer s H E hr as Q qs hF hq => ?_
  obtain ⟨t, us, rfl, ha, b, hu, hl, hQ⟩ := hF
  obtain rfl : qs = [] := List.length_eq_zero_iff.mp hq
  refine ⟨_, (pss_one (ps_ret (pe_and (pe_cmpR op_eq (pe_ix (r := rIxT K) ix_tup (pv 0) pe_int (fun _ _ => rfl)) pe_str (nomark _)) (pe_one (pe_f h_is_met (hr.mono (by omega)) rfl (pa_cons (pv 0) (pa_cons (pe_lc (own := [("other", 2)]) (g := gName 2) rfl nd (pi_listK (K0 := K) (pv 1)) (blkOk_by (N := ["atom", "atoms", "other"]) (sc := defScope (top 22)) (by first | decide +kernel | rfl)) (fun _ _ _ _ _ => pg_name (i := 2) nd rfl (by first | exact Or.inl rfl | exact Or.inr rfl)) (fun _ _ _ _ _ => (pts_one (pt_cmpR (r := rNeD K) (op_neD hr.units) (pv 2) (pv 0) (nomark _)))) (fun _ _ _ _ _ => (pv 2))) pa_nil))))))), ?_⟩
  show Ss K T _ [.val _, .val _, .no] _
  cases t with
  | top => cases ha
  | and us => cases ha
  | bot =>
    k_search "go"
    exact hQ
  | name x =>
    k_search "go"
    exact hQ
  | some r t =>
    k_search "go"
    refine ex_filL2 (fun d => !PyData.eqv d (Tm.some r t).d) ?_
    k_search "go"
    refine ⟨by rw [List.length_map]; omega, fun d hd => ?_, ?_⟩
    · obtain ⟨u, hu2, rfl⟩ := List.mem_map.mp hd
      k_search "nrm"
      k_search "go"
      refine opd_neTm (hu u hu2).1.shaped b.shaped ?_
      rw [eqv_tm]
      k_search "go"
    · have e : (us.map Tm.d).filter (fun d => !PyData.eqv d (Tm.some r t).d) = (us.filter fun b => !decide (b = .some r t)).map Tm.d := by
        rw [List.filter_map]
        congr 1
        refine List.filter_congr fun u _ => ?_
        show (!PyData.eqv u.d (Tm.some r t).d) = _
        rw [eqv_tm]
      rw [e]
      refine ⟨_, rfl, ?_⟩
      k_search "go"
      refine cv [.val _, .val _] ⟨rfl, rfl, trivial⟩ ⟨_, _, rfl, ha, b, fun u m => hu u (List.mem_filter.mp m).1, rim rfl, ?_⟩
      k_search "go"
      exact hQ
def F_join (h : Nat) : FS := fun as Q => ∃ us : List Tm, as = [.val (.list (us.map Tm.d))] ∧ (∀ u ∈ us, Tb h u ∧ (u = .bot ∨ KA u)) ∧ us.length ≤ 1000 ∧ Q (.val (jn us).d) []
theorem ka_atom {u : Tm} (h : KA u) : u.atom = true := by
  rcases h with ⟨w, e, _⟩ | ⟨r, v, e, _⟩ <;> rw [e] <;> rfl
theorem ddp_len : ∀ (as acc : List Tm), (ddp acc as).length ≤ acc.length + as.length
  | [], acc => by simp [ddp]
  | a :: as, acc => by
    rw [ddp]
    have := ddp_len as (if a ∈ acc then acc else acc ++ [a])
    by_cases h : a ∈ acc
    · rw [if_pos h] at this ⊢; simp; omega
    · rw [if_neg h] at this ⊢; simp at this ⊢; omega
theorem ok_join (c : Al K mg base ds fr ts cs) (h n m k : Nat) (h_write : Ok P w K mg base n "write" ["term"] (spOf K T (F_write h))) (h_is_implied : Ok P w K mg base m "is_implied" ["atom", "atoms"] (spOf K T (F_impl h)))
    (h_atom_key : Ok P w K mg base k "atom_key" ["atom"] (spOf K T (F_key h))) : Ok P w K mg base (max (max n m) k + 3) "join_atoms" ["atoms"] (spOf K T (F_join h)) := by
  have nd := sc_join_atoms.nd
  have kTOP := c.cs _ (.head _)
  have kBOTTOM := c.cs _ (.tail _ (.head _))
  have kRESERVED := c.cs _ (.tail _ (.tail _ (.tail _ (.tail _ (.tail _ (.head _))))))
  refine ok_of c (.tail _ (.tail _ (.tail _ (.tail _ (.tail _ (.tail _ (.tail _ (.tail _ (.tail _ (.tail _ (.tail _ (.head _)))))))))))) (fun _ _ _ _ _ _ us hl => match us, hl with | [_], _ => rfl) sc_join_atoms (fun as Q h => by first | (obtain ⟨_, rfl, _⟩ := h; rfl) | (obtain ⟨_, _, rfl, _⟩ := h; rfl) | (obtain ⟨_, _, _, rfl, _⟩ := h; rfl) | (obtain ⟨_, _, _, _, rfl, _⟩ := h; rfl) | (obtain ⟨_, _, _, _, _, rfl, _⟩ := h; rfl) | (obtain ⟨_, _, _, _, _, _, rfl, _⟩ := h; rfl) | (obtain ⟨_, _, _, _, _, _, _, rfl, _⟩ := h; rfl) | (obtain ⟨_, _, _, _, _, _, _, _, rfl, _⟩ := h; rfl) | (obtain ⟨_, _, _, _, _, _, _, _, _, rfl, _⟩ := h; rfl) | (obtain ⟨rfl, _⟩ := h; rfl)) fun f cdv A outer s H E hr as Q qs hF hq => ?_
  obtain ⟨us, rfl, hu, hl, hQ⟩ := hF
  obtain rfl : qs = [] := List.length_eq_zero_iff.mp hq
  refine ⟨_, (pss_cons (ps_if (pt_cmpR (r := rInD K) (op_inD (Nat.lt_of_le_of_lt (Nat.add_le_add (Nat.le_add_right _ _) (by decide)) hr.un)) (pe_kT (c.cs _ (.tail _ (.head _))) rfl) (pv 0) rfl) (pss_one (ps_ret (pe_kT (c.cs _ (.tail _ (.head _))) rfl))) pss_nil)
    (pss_cons (ps_set (i := 1) nd rfl (Or.inl rfl) pe_dnewK)
    (pss_cons (ps_for PassesOwn.never rfl (pi_listK (K0 := K) (pv 0)) (pg_name (i := 2) nd rfl (Or.inl rfl)) (pss_one (ps_dput (hu_of hr) (pv 1) (pe_f h_write (hr.mono (by omega)) rfl (pa_cons (pv 2) pa_nil)) (pv 2) rfl)))
    (pss_cons (ps_set (i := 3) nd rfl (Or.inr rfl) (pe_listVals rfl rfl (c.fr _ (.tail _ (.tail _ (.tail _ (.tail _ (.tail _ (.head _))))))) (pv 1)))
    (pss_cons (ps_setLc (i := 4) (own := [("atom", 2)]) (g := gName 2) rfl nd rfl rfl (sw_true rfl rfl rfl (by decide +kernel)) (pi_listK (K0 := K) (pv 3)) (blkOk_by (N := ["atoms", "found", "atom", "different", "kept"]) (sc := defScope (top 21)) (by first | decide +kernel | rfl)) (fun _ _ _ _ _ => pg_name (i := 2) nd rfl (by first | exact Or.inl rfl | exact Or.inr rfl)) (fun _ _ _ _ _ => (pts_one (pt_not (pt_val (pe_f h_is_implied (hr.mono (by omega)) rfl (pa_cons (pv 2) (pa_cons (pv 3) pa_nil))))))) (fun _ _ _ _ _ => (pv 2)))
    (pss_cons (ps_if (pt_not (pt_truthK (K0 := K) (pv 4) (fun _ => rfl))) (pss_one (ps_ret (pe_kT (c.cs _ (.head _)) rfl))) pss_nil)
    (pss_cons (ps_if (pt_cmpR op_eq (pe_callB (r := Pl.rLen K) call_len rfl (c.fr _ (.tail _ (.tail _ (.tail _ (.head _))))) PySem.boot_len (pa_cons (pv 4) pa_nil)) pe_int (nomark _)) (pss_one (ps_ret (pe_ix (r := rIxL K) ix_list (pv 4) pe_int (fun _ _ => rfl)))) pss_nil)
    (pss_one (ps_ret (pe_tup (pa_cons pe_str (pa_cons (pe_callTy (r := rTupOf K) call_tuple_of rfl (c.fr _ (.tail _ (.tail _ (.tail _ (.tail _ (.head _)))))) PyProof.Rows.boot_tuple (pa_cons (pe_callBK (crk_sortKey (T := T) (hr.mono (by omega)) (kc_def h_atom_key.fnR)) rfl (c.fr _ (.tail _ (.tail _ (.tail _ (.tail _ (.tail _ (.tail _ (.head _)))))))) PyProof.Rows.boot_sorted (pa_cons (pv 4) pa_nil) (pk_cons (pe_fn h_atom_key rfl) pk_nil)) pa_nil)) pa_nil)))))))))))), ?_⟩
  show Ss K T _ [.val _, .no, .no, .no, .no] _
  k_search "go"
  refine opd_inBot (shaped_tb fun u m => (hu u m).1) ?_
  refine ⟨_, rfl, iteD (fun hb => ?_) fun hb => ?_⟩
  · k_search "go"
    have e : jn us = .bot := jn_bot.mpr hb
    rw [e] at hQ
    exact hQ
  · have ka : ∀ u ∈ us, KA u := fun u m => (hu u m).2.resolve_left fun e => hb (e ▸ m)
    have kad : ∀ x ∈ ddp [] us, KA x ∧ Tb h x := fun x hx => by
      have := (ddp_mem.mp hx).resolve_left (by simp)
      exact ⟨ka x this, (hu x this).1⟩
    have ld : (ddp [] us).length ≤ 1000 := by have := ddp_len us []; simp at this; omega
    have ej : jn us = shp (srt (kpt (ddp [] us))) := by unfold jn; rw [if_neg hb]
    rw [ej] at hQ
    k_search "go"
    refine go_forL (us.map Tm.d) (fun k δ => ∃ a s, δ = [.val (.list (us.map Tm.d)), .own a (.dK (kvOf (ddp [] (us.take k)))), s, .no, .no]) ?_ ?_ ?_
    · k_search "go"
      exact ⟨rfl, _, _, rfl⟩
    · rintro k d δ2 hk ⟨a, s, rfl⟩
      obtain ⟨u, hu1, rfl⟩ := map_at hk
      have m := List.mem_of_getElem? hu1
      have kat : ∀ x ∈ ddp [] (us.take k), KA x := fun x hx => ka x (List.mem_of_mem_take ((ddp_mem.mp hx).resolve_left (by simp)))
      k_search "nrm"
      refine ss_dputK ?_
      refine ex_var rfl ⟨_, rfl, ⟨_, _, rfl⟩, ?_⟩
      k_search "go"
      refine cv [.val _] ⟨rfl, trivial⟩ ⟨u, rfl, (hu u m).1, rim rfl, ?_⟩
      refine ⟨.inr u.wr, _, _, rfl, rfl, ?_, ?_⟩
      · have := ddp_len (us.take k) []
        rw [List.length_take] at this
        simp only [kvOf, List.length_map]
        simp at this
        omega
      · k_search "nrm"
        refine ⟨a, .val u.d, ?_⟩
        rw [put_kv kat (ka u m), List.take_add_one, hu1]
        show _ = [_, Sl.own a (.dK (kvOf (ddp [] (us.take k ++ [u])))), _, _, _]
        rw [ddp_snoc]
    · rintro δ2 ⟨a, s, rfl⟩
      rw [List.length_map, List.take_length]
      k_search "go"
      refine ex_listVals ⟨_, _, rfl, by rw [kvOf_vals]; exact tm_imm, ?_⟩
      rw [kvOf_vals]
      with_reducible apply st_n
      · k_search "len"
      · intro _; k_search "set"
      intro ad
      refine ss_no (i := 2) ?_
      k_search "nrm"
      refine ss_frz (i := 3) rfl ?_
      k_search "nrm"
      k_search "go"
      refine ex_filL2 (fun d => !impl1 (Tm.of d) (ddp [] us)) ?_
      k_search "go"
      refine ⟨by rw [List.length_map]; omega, fun d hd => ?_, ?_⟩
      · obtain ⟨u, hu2, rfl⟩ := List.mem_map.mp hd
        k_search "nrm"
        k_search "go"
        refine cv [.val _, .val _] ⟨rfl, rfl, trivial⟩ ⟨u, ddp [] us, rfl, ka_atom (kad u hu2).1, (kad u hu2).2, fun x hx => ⟨(kad x hx).2, ka_atom (kad x hx).1⟩, ld, rim rfl, ?_⟩
        rw [Tm.of_d]
        k_search "go"
      · have e : ((ddp [] us).map Tm.d).filter (fun d => !impl1 (Tm.of d) (ddp [] us)) = (kpt (ddp [] us)).map Tm.d := by
          rw [List.filter_map]
          unfold kpt
          congr 1
          refine List.filter_congr fun u _ => ?_
          show (!impl1 (Tm.of u.d) (ddp [] us)) = _
          rw [Tm.of_d]
        rw [e]
        have kk : ∀ x ∈ kpt (ddp [] us), KA x ∧ Tb h x := fun x hx => kad x (mem_kept.mp hx).1
        have lk : (kpt (ddp [] us)).length ≤ 1000 := Nat.le_trans (List.length_filter_le _ _) ld
        generalize kpt (ddp [] us) = ks at kk lk hQ
        k_search "nrm"
        match ks, kk, lk, hQ with
        | [], kk, lk, hQ =>
          k_search "go"
          rw [srt_nil] at hQ
          exact hQ
        | [x], kk, lk, hQ =>
          k_search "go"
          rw [srt_one] at hQ
          exact hQ
        | x :: y :: zs, kk, lk, hQ =>
          k_search "go"
          show Ex K T (tCKw (rSortKey K T fun fa w H Q => fa = He.ga K "atom_key" ∧ spOf K T (F_key h) [w] H Q E0) (tCons (tVar 4) tNil) (tCons (tC (.ref (He.ga K "atom_key"))) tNil)) _ _
          refine ex_sortDef (F := F_key h) (ex_bor rfl ⟨(x :: y :: zs).map Tm.d, fun d => (Tm.of d).keyD, ⟨_, _, rfl, rfl⟩, tm_imm, keys_alike _, keys_sortable _, fun d _ => keyD_dep _, fun d hd => ?_, ?_⟩)
          · obtain ⟨t, ht, rfl⟩ := List.mem_map.mp hd
            exact ⟨t, rfl, (kk t ht).2, ka_atom (kk t ht).1, by show R.val t.keyD = R.val (Tm.of t.d).keyD; rw [Tm.of_d]⟩
          · rw [srt_d]
            have hp := srt_perm (x :: y :: zs)
            generalize srt (x :: y :: zs) = rs at hp hQ
            match rs, hp, hQ with
            | [], hp, _ => exact absurd hp.length_eq (by simp)
            | [_], hp, _ => exact absurd hp.length_eq (by simp)
            | p :: q :: rs, hp, hQ =>
              k_search "go"
              refine cb_tupL tm_imm ?_
              k_search "go"
              have e : (shp (p :: q :: rs)).d = .tuple [.str "and", .tuple ((p :: q :: rs).map Tm.d)] := by
                rw [← Tm.dL_map]; rfl
              rw [e] at hQ
              exact hQ
def F_nf (h : Nat) : FS := fun as Q => ∃ t : Tm, as = [.val t.d] ∧ Tb h t ∧ Q (.val t.nf.d) []
theorem ok_nf (c : Al K mg base ds fr ts cs) (H0 n m : Nat) (h_raw_conjuncts : Ok P w K mg base n "raw_conjuncts" ["term"] (spOf K T (F_raw H0))) (h_join_atoms : Ok P w K mg base m "join_atoms" ["atoms"] (spOf K T (F_join H0))) :
    ∀ h : Nat, h ≤ H0 → Ok P w K mg base (max n m + h + 1) "make_normal" ["term"] (spOf K T (F_nf h))
  | 0, _ => by
    have nd := sc_make_normal.nd
    have kTOP := c.cs _ (.head _)
    have kBOTTOM := c.cs _ (.tail _ (.head _))
    have kRESERVED := c.cs _ (.tail _ (.tail _ (.tail _ (.tail _ (.tail _ (.head _))))))
    refine ok_of c (.tail _ (.tail _ (.tail _ (.tail _ (.tail _ (.tail _ (.tail _ (.tail _ (.tail _ (.tail _ (.tail _ (.tail _ (.tail _ (.head _)))))))))))))) (fun _ _ _ _ _ _ us hl => match us, hl with | [_], _ => rfl) sc_make_normal (fun as Q h => by first | (obtain ⟨_, rfl, _⟩ := h; rfl) | (obtain ⟨_, _, rfl, _⟩ := h; rfl) | (obtain ⟨_, _, _, rfl, _⟩ := h; rfl) | (obtain ⟨_, _, _, _, rfl, _⟩ := h; rfl) | (obtain ⟨_, _, _, _, _, rfl, _⟩ := h; rfl) | (obtain ⟨_, _, _, _, _, _, rfl, _⟩ := h; rfl) | (obtain ⟨_, _, _, _, _, _, _, rfl, _⟩ := h; rfl) | (obtain ⟨_, _, _, _, _, _, _, _, rfl, _⟩ := h; rfl) | (obtain ⟨_, _, _, _, _, _, _, _, _, rfl, _⟩ := h; rfl) | (obtain ⟨rfl, _⟩ := h; rfl)) fun f cdv A outer s H E hr as Q qs hF hq => ?_
    obtain ⟨t, rfl, b, _⟩ := hF
    exact b.no.elim
  | h + 1, hh => by
    have h_make_normal := ok_nf c H0 n m h_raw_conjuncts h_join_atoms h (by omega)
    have nd := sc_make_normal.nd
    have kTOP := c.cs _ (.head _)
    have kBOTTOM := c.cs _ (.tail _ (.head _))
    have kRESERVED := c.cs _ (.tail _ (.tail _ (.tail _ (.tail _ (.tail _ (.head _))))))
    refine ok_of c (.tail _ (.tail _ (.tail _ (.tail _ (.tail _ (.tail _ (.tail _ (.tail _ (.tail _ (.tail _ (.tail _ (.tail _ (.tail _ (.head _)))))))))))))) (fun _ _ _ _ _ _ us hl => match us, hl with | [_], _ => rfl) sc_make_normal (fun as Q h => by first | (obtain ⟨_, rfl, _⟩ := h; rfl) | (obtain ⟨_, _, rfl, _⟩ := h; rfl) | (obtain ⟨_, _, _, rfl, _⟩ := h; rfl) | (obtain ⟨_, _, _, _, rfl, _⟩ := h; rfl) | (obtain ⟨_, _, _, _, _, rfl, _⟩ := h; rfl) | (obtain ⟨_, _, _, _, _, _, rfl, _⟩ := h; rfl) | (obtain ⟨_, _, _, _, _, _, _, rfl, _⟩ := h; rfl) | (obtain ⟨_, _, _, _, _, _, _, _, rfl, _⟩ := h; rfl) | (obtain ⟨_, _, _, _, _, _, _, _, _, rfl, _⟩ := h; rfl) | (obtain ⟨rfl, _⟩ := h; rfl)) fun f cdv A outer s H E hr as Q qs hF hq => ?_
    obtain ⟨t, rfl, b, hQ⟩ := hF
    obtain rfl : qs = [] := List.length_eq_zero_iff.mp hq
    refine ⟨_, (pss_cons (ps_set (i := 1) nd rfl (Or.inl rfl) (pe_lst pa_nil))
    (pss_cons (ps_for PassesOwn.never rfl (pi_listK (K0 := K) (pe_f h_raw_conjuncts (hr.mono (by omega)) rfl (pa_cons (pv 0) pa_nil))) (pg_name (i := 2) nd rfl (Or.inl rfl)) (pss_one (ps_if (pt_cmpR op_eq (pe_ix (r := rIxT K) ix_tup (pv 2) pe_int (fun _ _ => rfl)) pe_str (nomark _)) (pss_cons (ps_set (i := 3) nd rfl (Or.inl rfl) (pe_f h_make_normal (hr.mono (by omega)) rfl (pa_cons (pe_ix (r := rIxT K) ix_tup (pv 2) pe_int (fun _ _ => rfl)) pa_nil)))
    (pss_one (ps_expr (pe_bmK (K0 := K) PySem.F.plainAttrs_list PySem.F.slot_list_append PySem.F.type_list_append mt_append (pv 1) (pa_cons (pe_ifExp (pt_cmpR (r := rEqD K) (op_eqD hr.units) (pv 3) (pe_kT (c.cs _ (.tail _ (.head _))) rfl) (nomark _)) (pe_kT (c.cs _ (.tail _ (.head _))) rfl) (pe_tup (pa_cons pe_str (pa_cons (pe_ix (r := rIxT K) ix_tup (pv 2) pe_int (fun _ _ => rfl)) (pa_cons (pv 3) pa_nil))))) pa_nil))))) (pss_one (ps_expr (pe_bmK (K0 := K) PySem.F.plainAttrs_list PySem.F.slot_list_append PySem.F.type_list_append mt_append (pv 1) (pa_cons (pv 2) pa_nil)))))))
    (pss_one (ps_ret (pe_f h_join_atoms (hr.mono (by omega)) rfl (pa_cons (pv 1) pa_nil)))))), ?_⟩
    show Ss K T _ [.val _, .no, .no, .no] _
    have lr := b.rlen
    k_search "go"
    refine go_forL (t.raw.map Tm.d) (fun k δ => ∃ a s s2, δ = [.val t.d, .own a (.lst (((t.raw.take k).map stp).map Tm.d)), s, s2]) ?_ ?_ ?_
    · k_search "go"
      exact cv [.val _] ⟨rfl, trivial⟩ ⟨t, rfl, b.mono hh, rimL tm_imm, rfl, _, _, _, rfl⟩
    · rintro k d δ2 hk ⟨a, s, s2, rfl⟩
      obtain ⟨u, hu, rfl⟩ := map_at hk
      have m := List.mem_of_getElem? hu
      have ha := Tm.raw_atom t u m
      have bu := b.raw m
      have hkl : k < t.raw.length := (List.getElem?_eq_some_iff.mp hu).1
      have ll : (((t.raw.take k).map stp).map Tm.d).length < 100000 := by
        rw [List.length_map, List.length_map, List.length_take]; omega
      have et : ((t.raw.take (k + 1)).map stp).map Tm.d = ((t.raw.take k).map stp).map Tm.d ++ [(stp u).d] := by
        rw [List.take_add_one, hu, List.map_append, List.map_append]; rfl
      k_search "nrm"
      cases u with
      | top => cases ha
      | and us => cases ha
      | bot =>
        k_search "go"
        exact ⟨a, _, _, by rw [et]; rfl⟩
      | name x =>
        k_search "go"
        exact ⟨a, _, _, by rw [et]; rfl⟩
      | some r v =>
        k_search "go"
        refine cv [.val _] ⟨rfl, trivial⟩ ⟨v, rfl, bu.some, rim (Tm.imm_d _), ?_⟩
        k_search "go"
        refine opd_eqBot bu.some.nf.shaped ?_
        refine ⟨_, rfl, iteD (fun e => ?_) fun e => ?_⟩
        · k_search "go"
          have et := et
          have : stp (Tm.some r v) = .bot := by show (if v.nf = .bot then Tm.bot else .some r v.nf) = _; rw [if_pos e]
          exact ⟨a, _, _, by rw [et, this]; rfl⟩
        · k_search "go"
          have et := et
          have : stp (Tm.some r v) = .some r v.nf := by show (if v.nf = .bot then Tm.bot else .some r v.nf) = _; rw [if_neg e]
          exact ⟨a, _, _, by rw [et, this]; rfl⟩
    · rintro δ2 ⟨a, s, s2, rfl⟩
      rw [List.length_map, List.take_length, ← pre_raw]
      k_search "go"
      have pb := pre_bd t b.good
      have pc : ∀ u ∈ t.pre, u.cnt ≤ t.cnt := fun u m => Nat.le_trans (Tm.cntL_le m) pb.2
      refine cv [.val _] ⟨⟨_, _, rfl, rfl⟩, by decide, trivial⟩ ⟨t.pre, rfl, fun u m => ⟨⟨(pb.1 u m).1, Nat.le_trans (pb.1 u m).2 (Nat.le_trans b.ht hh), Nat.le_trans (pc u m) b.cnt, Nat.le_trans (pb.1 u m).2 b.low⟩, ?_⟩, ?_, rim (Tm.imm_d _), ?_⟩
      · by_cases e : u = .bot
        · exact .inl e
        · exact .inr ((pre_is t b.good u m).ka e)
      · have := Tm.len_cntL t.pre
        have := pb.2
        have := b.cnt
        omega
      k_search "go"
      exact hQ
set_option Elab.async false
set_option linter.all false
set_option maxRecDepth 100000
set_option maxHeartbeats 4000001
open PySem L2 LamX NdefX PyProof.Rows GenW Pl
variable {P : Program} {w : World} {K : PySem.W.Frag} {mg : Str → Option Value} {base : Heap} {T : List NTab} {ts : List Str}
def F_conj (h : Nat) : FS := fun as Q => ∃ t : Tm, as = [.val t.d] ∧ Tb h t ∧ Q (.new (.lst (t.nf.raw.map Tm.d))) []
def F_nsize (h : Nat) : FS := fun as Q => ∃ t : Tm, as = [.val t.d] ∧ Tb h t ∧ Q (.val (.int t.sz)) []
def F_size (h : Nat) : FS := fun as Q => ∃ t : Tm, as = [.val t.d] ∧ Tb h t ∧ Q (.val (.int t.nf.sz)) []
def F_shown (h : Nat) : FS := fun as Q => ∃ t : Tm, as = [.val t.d] ∧ Tb h t ∧ Q (.val (.str t.nf.wr)) []
def F_both (h : Nat) : FS := fun as Q => ∃ us : List Tm, as = [.val (.tuple (us.map Tm.d))] ∧ Tb h (.and us) ∧ Q (.val (Tm.and us).nf.d) []
abbrev OkF (P : Program) (w : World) (K : PySem.W.Frag) (mg : Str → Option Value) (base : Heap) (T : List NTab) (k : Nat) (x : Str) (ps : List Str) (F : FS) := Ok P w K mg base k x ps (spOf K T F)
theorem ok_normal (c : Al K mg base ds fr ts cs) (h n : Nat) (h_check_term : OkF P w K mg base T 4 "check_term" ["value"] F_check_term) (h_make_normal : OkF P w K mg base T n "make_normal" ["term"] (F_nf h)) : OkF P w K mg base T (max 4 n + 1) "normal" ["term"] (F_nf h) := by
  have nd := sc_normal.nd
  have kTOP := c.cs _ (.head _)
  have kBOTTOM := c.cs _ (.tail _ (.head _))
  have kRESERVED := c.cs _ (.tail _ (.tail _ (.tail _ (.tail _ (.tail _ (.head _))))))
  refine ok_of c (.tail _ (.tail _ (.tail _ (.tail _ (.tail _ (.tail _ (.tail _ (.tail _ (.tail _ (.tail _ (.tail _ (.tail _ (.tail _ (.tail _ (.head _))))))))))))))) (fun _ _ _ _ _ _ us hl => match us, hl with | [_], _ => rfl) sc_normal (fun as Q h => by first | (obtain ⟨_, rfl, _⟩ := h; rfl) | (obtain ⟨_, _, rfl, _⟩ := h; rfl) | (obtain ⟨_, _, _, rfl, _⟩ := h; rfl) | (obtain ⟨_, _, _, _, rfl, _⟩ := h; rfl) | (obtain ⟨_, _, _, _, _, rfl, _⟩ := h; rfl) | (obtain ⟨_, _, _, _, _, _, rfl, _⟩ := h; rfl) | (obtain ⟨_, _, _, _, _, _, _, rfl, _⟩ := h; rfl) | (obtain ⟨_, _, _, _, _, _, _, _, rfl, _⟩ := h; rfl) | (obtain ⟨_, _, _, _, _, _, _, _, _, rfl, _⟩ := h; rfl) | (obtain ⟨rfl, _⟩ := h; rfl)) fun f cdv A outer s H E hr as Q qs hF hq => ?_
  obtain ⟨t, rfl, b, hQ⟩ := hF
  obtain rfl : qs = [] := List.length_eq_zero_iff.mp hq
  refine ⟨_, (pss_cons (ps_expr (pe_f h_check_term (hr.mono (by omega)) rfl (pa_cons (pv 0) pa_nil)))
    (pss_one (ps_ret (pe_f h_make_normal (hr.mono (by omega)) rfl (pa_cons (pv 0) pa_nil))))), ?_⟩
  show Ss K T _ [.val _] _
  k_search "go"
  refine cv [.val _] ⟨rfl, trivial⟩ ⟨t, h, rfl, b, rim rfl, ?_⟩
  k_search "go"
  refine cv [.val _] ⟨rfl, trivial⟩ ⟨t, rfl, b, rim (Tm.imm_d _), ?_⟩
  k_search "go"
  exact hQ
theorem ok_conjuncts (c : Al K mg base ds fr ts cs) (h n m : Nat) (h_check_term : OkF P w K mg base T 4 "check_term" ["value"] F_check_term) (h_make_normal : OkF P w K mg base T n "make_normal" ["term"] (F_nf h))
    (h_raw_conjuncts : OkF P w K mg base T m "raw_conjuncts" ["term"] (F_raw h)) : OkF P w K mg base T (max 4 (max n m) + 1) "conjuncts" ["term"] (F_conj h) := by
  have nd := sc_conjuncts.nd
  have kTOP := c.cs _ (.head _)
  have kBOTTOM := c.cs _ (.tail _ (.head _))
  have kRESERVED := c.cs _ (.tail _ (.tail _ (.tail _ (.tail _ (.tail _ (.head _))))))
  refine ok_of c (.tail _ (.tail _ (.tail _ (.tail _ (.tail _ (.tail _ (.tail _ (.tail _ (.tail _ (.tail _ (.tail _ (.tail _ (.tail _ (.tail _ (.tail _ (.head _)))))))))))))))) (fun _ _ _ _ _ _ us hl => match us, hl with | [_], _ => rfl) sc_conjuncts (fun as Q h => by first | (obtain ⟨_, rfl, _⟩ := h; rfl) | (obtain ⟨_, _, rfl, _⟩ := h; rfl) | (obtain ⟨_, _, _, rfl, _⟩ := h; rfl) | (obtain ⟨_, _, _, _, rfl, _⟩ := h; rfl) | (obtain ⟨_, _, _, _, _, rfl, _⟩ := h; rfl) | (obtain ⟨_, _, _, _, _, _, rfl, _⟩ := h; rfl) | (obtain ⟨_, _, _, _, _, _, _, rfl, _⟩ := h; rfl) | (obtain ⟨_, _, _, _, _, _, _, _, rfl, _⟩ := h; rfl) | (obtain ⟨_, _, _, _, _, _, _, _, _, rfl, _⟩ := h; rfl) | (obtain ⟨rfl, _⟩ := h; rfl)) fun f cdv A outer s H E hr as Q qs hF hq => ?_
  obtain ⟨t, rfl, b, hQ⟩ := hF
  obtain rfl : qs = [] := List.length_eq_zero_iff.mp hq
  refine ⟨_, (pss_cons (ps_expr (pe_f h_check_term (hr.mono (by omega)) rfl (pa_cons (pv 0) pa_nil)))
    (pss_one (ps_ret (pe_f h_raw_conjuncts (hr.mono (by omega)) rfl (pa_cons (pe_f h_make_normal (hr.mono (by omega)) rfl (pa_cons (pv 0) pa_nil)) pa_nil))))), ?_⟩
  show Ss K T _ [.val _] _
  k_search "go"
  refine cv [.val _] ⟨rfl, trivial⟩ ⟨t, h, rfl, b, rim rfl, ?_⟩
  k_search "go"
  refine cv [.val _] ⟨rfl, trivial⟩ ⟨t, rfl, b, rim (Tm.imm_d _), ?_⟩
  k_search "go"
  refine cv [.val _] ⟨rfl, trivial⟩ ⟨t.nf, rfl, b.nf, rimL tm_imm, ?_⟩
  k_search "go"
  exact hQ
theorem ok_shown (c : Al K mg base ds fr ts cs) (h n m : Nat) (h_check_term : OkF P w K mg base T 4 "check_term" ["value"] F_check_term) (h_make_normal : OkF P w K mg base T n "make_normal" ["term"] (F_nf h))
    (h_write : OkF P w K mg base T m "write" ["term"] (F_write h)) : OkF P w K mg base T (max 4 (max n m) + 1) "shown" ["term"] (F_shown h) := by
  have nd := sc_shown.nd
  have kTOP := c.cs _ (.head _)
  have kBOTTOM := c.cs _ (.tail _ (.head _))
  have kRESERVED := c.cs _ (.tail _ (.tail _ (.tail _ (.tail _ (.tail _ (.head _))))))
  refine ok_of c (.tail _ (.tail _ (.tail _ (.tail _ (.tail _ (.tail _ (.tail _ (.tail _ (.tail _ (.tail _ (.tail _ (.tail _ (.tail _ (.tail _ (.tail _ (.tail _ (.tail _ (.tail _ (.tail _ (.tail _ (.head _))))))))))))))))))))) (fun _ _ _ _ _ _ us hl => match us, hl with | [_], _ => rfl) sc_shown (fun as Q h => by first | (obtain ⟨_, rfl, _⟩ := h; rfl) | (obtain ⟨_, _, rfl, _⟩ := h; rfl) | (obtain ⟨_, _, _, rfl, _⟩ := h; rfl) | (obtain ⟨_, _, _, _, rfl, _⟩ := h; rfl) | (obtain ⟨_, _, _, _, _, rfl, _⟩ := h; rfl) | (obtain ⟨_, _, _, _, _, _, rfl, _⟩ := h; rfl) | (obtain ⟨_, _, _, _, _, _, _, rfl, _⟩ := h; rfl) | (obtain ⟨_, _, _, _, _, _, _, _, rfl, _⟩ := h; rfl) | (obtain ⟨_, _, _, _, _, _, _, _, _, rfl, _⟩ := h; rfl) | (obtain ⟨rfl, _⟩ := h; rfl)) fun f cdv A outer s H E hr as Q qs hF hq => ?_
  obtain ⟨t, rfl, b, hQ⟩ := hF
  obtain rfl : qs = [] := List.length_eq_zero_iff.mp hq
  refine ⟨_, (pss_cons (ps_expr (pe_f h_check_term (hr.mono (by omega)) rfl (pa_cons (pv 0) pa_nil)))
    (pss_one (ps_ret (pe_f h_write (hr.mono (by omega)) rfl (pa_cons (pe_f h_make_normal (hr.mono (by omega)) rfl (pa_cons (pv 0) pa_nil)) pa_nil))))), ?_⟩
  show Ss K T _ [.val _] _
  k_search "go"
  refine cv [.val _] ⟨rfl, trivial⟩ ⟨t, h, rfl, b, rim rfl, ?_⟩
  k_search "go"
  refine cv [.val _] ⟨rfl, trivial⟩ ⟨t, rfl, b, rim (Tm.imm_d _), ?_⟩
  k_search "go"
  refine cv [.val _] ⟨rfl, trivial⟩ ⟨t.nf, rfl, b.nf, rim rfl, ?_⟩
  k_search "go"
  exact hQ
theorem ok_size (c : Al K mg base ds fr ts cs) (h n m : Nat) (h_check_term : OkF P w K mg base T 4 "check_term" ["value"] F_check_term) (h_make_normal : OkF P w K mg base T n "make_normal" ["term"] (F_nf h))
    (h_normal_size : OkF P w K mg base T m "normal_size" ["term"] (F_nsize h)) : OkF P w K mg base T (max 4 (max n m) + 1) "size_of" ["term"] (F_size h) := by
  have nd := sc_size_of.nd
  have kTOP := c.cs _ (.head _)
  have kBOTTOM := c.cs _ (.tail _ (.head _))
  have kRESERVED := c.cs _ (.tail _ (.tail _ (.tail _ (.tail _ (.tail _ (.head _))))))
  refine ok_of c (.tail _ (.tail _ (.tail _ (.tail _ (.tail _ (.tail _ (.tail _ (.tail _ (.tail _ (.tail _ (.tail _ (.tail _ (.tail _ (.tail _ (.tail _ (.tail _ (.tail _ (.tail _ (.tail _ (.head _)))))))))))))))))))) (fun _ _ _ _ _ _ us hl => match us, hl with | [_], _ => rfl) sc_size_of (fun as Q h => by first | (obtain ⟨_, rfl, _⟩ := h; rfl) | (obtain ⟨_, _, rfl, _⟩ := h; rfl) | (obtain ⟨_, _, _, rfl, _⟩ := h; rfl) | (obtain ⟨_, _, _, _, rfl, _⟩ := h; rfl) | (obtain ⟨_, _, _, _, _, rfl, _⟩ := h; rfl) | (obtain ⟨_, _, _, _, _, _, rfl, _⟩ := h; rfl) | (obtain ⟨_, _, _, _, _, _, _, rfl, _⟩ := h; rfl) | (obtain ⟨_, _, _, _, _, _, _, _, rfl, _⟩ := h; rfl) | (obtain ⟨_, _, _, _, _, _, _, _, _, rfl, _⟩ := h; rfl) | (obtain ⟨rfl, _⟩ := h; rfl)) fun f cdv A outer s H E hr as Q qs hF hq => ?_
  obtain ⟨t, rfl, b, hQ⟩ := hF
  obtain rfl : qs = [] := List.length_eq_zero_iff.mp hq
  refine ⟨_, (pss_cons (ps_expr (pe_f h_check_term (hr.mono (by omega)) rfl (pa_cons (pv 0) pa_nil)))
    (pss_one (ps_ret (pe_f h_normal_size (hr.mono (by omega)) rfl (pa_cons (pe_f h_make_normal (hr.mono (by omega)) rfl (pa_cons (pv 0) pa_nil)) pa_nil))))), ?_⟩
  show Ss K T _ [.val _] _
  k_search "go"
  refine cv [.val _] ⟨rfl, trivial⟩ ⟨t, h, rfl, b, rim rfl, ?_⟩
  k_search "go"
  refine cv [.val _] ⟨rfl, trivial⟩ ⟨t, rfl, b, rim (Tm.imm_d _), ?_⟩
  k_search "go"
  refine cv [.val _] ⟨rfl, trivial⟩ ⟨t.nf, rfl, b.nf, rim rfl, ?_⟩
  k_search "go"
  exact hQ
theorem ok_nsize (c : Al K mg base ds fr ts cs) (H0 n : Nat) (h_raw_conjuncts : OkF P w K mg base T n "raw_conjuncts" ["term"] (F_raw H0)) : ∀ h : Nat, h ≤ H0 → OkF P w K mg base T (n + h + 1) "normal_size" ["term"] (F_nsize h)
  | 0, _ => by
    have nd := sc_normal_size.nd
    have kTOP := c.cs _ (.head _)
    have kBOTTOM := c.cs _ (.tail _ (.head _))
    have kRESERVED := c.cs _ (.tail _ (.tail _ (.tail _ (.tail _ (.tail _ (.head _))))))
    refine ok_of c (.tail _ (.tail _ (.tail _ (.tail _ (.tail _ (.tail _ (.tail _ (.tail _ (.tail _ (.tail _ (.tail _ (.tail _ (.tail _ (.tail _ (.tail _ (.tail _ (.tail _ (.tail _ (.head _))))))))))))))))))) (fun _ _ _ _ _ _ us hl => match us, hl with | [_], _ => rfl) sc_normal_size (fun as Q h => by first | (obtain ⟨_, rfl, _⟩ := h; rfl) | (obtain ⟨_, _, rfl, _⟩ := h; rfl) | (obtain ⟨_, _, _, rfl, _⟩ := h; rfl) | (obtain ⟨_, _, _, _, rfl, _⟩ := h; rfl) | (obtain ⟨_, _, _, _, _, rfl, _⟩ := h; rfl) | (obtain ⟨_, _, _, _, _, _, rfl, _⟩ := h; rfl) | (obtain ⟨_, _, _, _, _, _, _, rfl, _⟩ := h; rfl) | (obtain ⟨_, _, _, _, _, _, _, _, rfl, _⟩ := h; rfl) | (obtain ⟨_, _, _, _, _, _, _, _, _, rfl, _⟩ := h; rfl) | (obtain ⟨rfl, _⟩ := h; rfl)) fun f cdv A outer s H E hr as Q qs hF hq => ?_
    obtain ⟨t, rfl, b, _⟩ := hF
    exact b.no.elim
  | h + 1, hh => by
    have h_normal_size := ok_nsize c H0 n h_raw_conjuncts h (by omega)
    have nd := sc_normal_size.nd
    have kTOP := c.cs _ (.head _)
    have kBOTTOM := c.cs _ (.tail _ (.head _))
    have kRESERVED := c.cs _ (.tail _ (.tail _ (.tail _ (.tail _ (.tail _ (.head _))))))
    refine ok_of c (.tail _ (.tail _ (.tail _ (.tail _ (.tail _ (.tail _ (.tail _ (.tail _ (.tail _ (.tail _ (.tail _ (.tail _ (.tail _ (.tail _ (.tail _ (.tail _ (.tail _ (.tail _ (.head _))))))))))))))))))) (fun _ _ _ _ _ _ us hl => match us, hl with | [_], _ => rfl) sc_normal_size (fun as Q h => by first | (obtain ⟨_, rfl, _⟩ := h; rfl) | (obtain ⟨_, _, rfl, _⟩ := h; rfl) | (obtain ⟨_, _, _, rfl, _⟩ := h; rfl) | (obtain ⟨_, _, _, _, rfl, _⟩ := h; rfl) | (obtain ⟨_, _, _, _, _, rfl, _⟩ := h; rfl) | (obtain ⟨_, _, _, _, _, _, rfl, _⟩ := h; rfl) | (obtain ⟨_, _, _, _, _, _, _, rfl, _⟩ := h; rfl) | (obtain ⟨_, _, _, _, _, _, _, _, rfl, _⟩ := h; rfl) | (obtain ⟨_, _, _, _, _, _, _, _, _, rfl, _⟩ := h; rfl) | (obtain ⟨rfl, _⟩ := h; rfl)) fun f cdv A outer s H E hr as Q qs hF hq => ?_
    obtain ⟨t, rfl, b, hQ⟩ := hF
    obtain rfl : qs = [] := List.length_eq_zero_iff.mp hq
    refine ⟨_, (pss_cons (ps_set (i := 1) nd rfl (Or.inl rfl) pe_int)
    (pss_cons (ps_for PassesOwn.never rfl (pi_listK (K0 := K) (pe_f h_raw_conjuncts (hr.mono (by omega)) rfl (pa_cons (pv 0) pa_nil))) (pg_name (i := 2) nd rfl (Or.inl rfl)) (pss_one (ps_if (pt_cmpR op_eq (pe_ix (r := rIxT K) ix_tup (pv 2) pe_int (fun _ _ => rfl)) pe_str (nomark _)) (pss_one (ps_set (i := 1) nd rfl (Or.inl rfl) (pe_op op_add (pv 1) pe_int))) (pss_one (ps_if (pt_cmpR op_eq (pe_ix (r := rIxT K) ix_tup (pv 2) pe_int (fun _ _ => rfl)) pe_str (nomark _)) (pss_one (ps_set (i := 1) nd rfl (Or.inl rfl) (pe_op op_add (pe_op op_add (pv 1) pe_int) (pe_f h_normal_size (hr.mono (by omega)) rfl (pa_cons (pe_ix (r := rIxT K) ix_tup (pv 2) pe_int (fun _ _ => rfl)) pa_nil))))) pss_nil)))))
    (pss_one (ps_ret (pv 1))))), ?_⟩
    show Ss K T _ [.val _, .no, .no] _
    k_search "go"
    refine go_forL (t.raw.map Tm.d) (fun k δ => ∃ s, δ = [.val t.d, .val (.int (Tm.szL (t.raw.take k))), s]) ?_ ?_ ?_
    · k_search "go"
      exact cv [.val _] ⟨rfl, trivial⟩ ⟨t, rfl, b.mono hh, rimL tm_imm, rfl, _, rfl⟩
    · rintro k d δ2 hk ⟨s, rfl⟩
      obtain ⟨u, hu, rfl⟩ := map_at hk
      have m := List.mem_of_getElem? hu
      have ha := Tm.raw_atom t u m
      have bu := b.raw m
      have et := szL_take hu
      k_search "nrm"
      cases u with
      | top => cases ha
      | and us => cases ha
      | bot =>
        k_search "go"
        exact ⟨_, by rw [et]; rfl⟩
      | name x =>
        k_search "go"
        exact ⟨_, by rw [et]; rfl⟩
      | some r v =>
        k_search "go"
        refine cv [.val _] ⟨rfl, trivial⟩ ⟨v, rfl, bu.some, rim rfl, ?_⟩
        k_search "go"
        refine ⟨.val (Tm.some r v).d, ?_⟩
        rw [et]
        have e : ((Tm.szL (t.raw.take k) : Nat) : Int) + 1 + (v.sz : Nat) = ((Tm.szL (t.raw.take k) + (Tm.some r v).sz : Nat) : Int) := by
          show _ = ((Tm.szL (t.raw.take k) + (v.sz + 1) : Nat) : Int)
          omega
        rw [e]
    · rintro δ2 ⟨s, rfl⟩
      rw [List.length_map, List.take_length, ← sz_raw]
      k_search "go"
      exact hQ
theorem ok_below2 (c : Al K mg base ds fr ts cs) (h n : Nat) (h_check_term : OkF P w K mg base T 4 "check_term" ["value"] F_check_term) (h_plain_below : OkF P w K mg base T n "plain_below" ["one", "other"] (F_below h)) : OkF P w K mg base T (max 4 n + 1) "below" ["one", "other"] (F_below h) := by
  have nd := sc_below.nd
  have kTOP := c.cs _ (.head _)
  have kBOTTOM := c.cs _ (.tail _ (.head _))
  have kRESERVED := c.cs _ (.tail _ (.tail _ (.tail _ (.tail _ (.tail _ (.head _))))))
  refine ok_of c (.tail _ (.tail _ (.tail _ (.tail _ (.tail _ (.tail _ (.tail _ (.tail _ (.tail _ (.tail _ (.tail _ (.tail _ (.tail _ (.tail _ (.tail _ (.tail _ (.tail _ (.head _)))))))))))))))))) (fun _ _ _ _ _ _ us hl => match us, hl with | [_, _], _ => rfl) sc_below (fun as Q h => by first | (obtain ⟨_, rfl, _⟩ := h; rfl) | (obtain ⟨_, _, rfl, _⟩ := h; rfl) | (obtain ⟨_, _, _, rfl, _⟩ := h; rfl) | (obtain ⟨_, _, _, _, rfl, _⟩ := h; rfl) | (obtain ⟨_, _, _, _, _, rfl, _⟩ := h; rfl) | (obtain ⟨_, _, _, _, _, _, rfl, _⟩ := h; rfl) | (obtain ⟨_, _, _, _, _, _, _, rfl, _⟩ := h; rfl) | (obtain ⟨_, _, _, _, _, _, _, _, rfl, _⟩ := h; rfl) | (obtain ⟨_, _, _, _, _, _, _, _, _, rfl, _⟩ := h; rfl) | (obtain ⟨rfl, _⟩ := h; rfl)) fun f cdv A outer s H E hr as Q qs hF hq => ?_
  obtain ⟨t, u, rfl, b, b2, hQ⟩ := hF
  obtain rfl : qs = [] := List.length_eq_zero_iff.mp hq
  refine ⟨_, (pss_cons (ps_expr (pe_f h_check_term (hr.mono (by omega)) rfl (pa_cons (pv 0) pa_nil)))
    (pss_cons (ps_expr (pe_f h_check_term (hr.mono (by omega)) rfl (pa_cons (pv 1) pa_nil)))
    (pss_one (ps_ret (pe_f h_plain_below (hr.mono (by omega)) rfl (pa_cons (pv 0) (pa_cons (pv 1) pa_nil))))))), ?_⟩
  show Ss K T _ [.val _, .val _] _
  k_search "go"
  refine cv [.val _] ⟨rfl, trivial⟩ ⟨t, h, rfl, b, rim rfl, ?_⟩
  k_search "go"
  refine cv [.val _] ⟨rfl, trivial⟩ ⟨u, h, rfl, b2, rim rfl, ?_⟩
  k_search "go"
  refine cv [.val _, .val _] ⟨rfl, rfl, trivial⟩ ⟨t, u, rfl, b, b2, rim rfl, ?_⟩
  k_search "go"
  exact hQ
set_option Elab.async false
set_option linter.all false
set_option maxRecDepth 100000
set_option maxHeartbeats 4000001
open PySem L2 LamX NdefX PyProof.Rows GenW Pl
variable {P : Program} {w : World} {K : PySem.W.Frag} {mg : Str → Option Value} {base : Heap} {T : List NTab} {ts : List Str}
/-- the shape of a word -/
structure WS (x : Str) : Prop where
  lo : 1 ≤ x.length
  hi : x.length ≤ 12
  first : ∃ c, x.cps[0]? = some c ∧ c ∈ letters.cps.toList
  all : ∀ c ∈ x.cps.toList, c ∈ Pl.signs.cps.toList
theorem W.ws {x : Str} (h : W x) : WS x := ⟨h.lo, h.hi, h.first, h.all⟩
theorem WS.toW {x : Str} (h : WS x) (f : x ∉ reserved) : W x := ⟨h.lo, h.hi, f, h.first, h.all⟩
def F_reserved : FS := fun as Q => as = [] ∧ Q (.new (.lst (reserved.map .str))) []
def F_lis_word : FS := fun as Q => ∃ x : Str, as = [.val (.str x)] ∧ WS x ∧ Q (.val (.bool (!decide (x ∈ reserved)))) []
theorem ok_lreserved (c : Al K mg base ds fr ts cs) : Ok P w K mg base 1 "_law_reserved" [] (spOf K T F_reserved) := by
  have nd := sc__law_reserved.nd
  have kTOP := c.cs _ (.head _)
  have kBOTTOM := c.cs _ (.tail _ (.head _))
  have kRESERVED := c.cs _ (.tail _ (.tail _ (.tail _ (.tail _ (.tail _ (.head _))))))
  refine ok_of c (.tail _ (.tail _ (.tail _ (.tail _ (.tail _ (.tail _ (.tail _ (.tail _ (.tail _ (.tail _ (.tail _ (.tail _ (.tail _ (.tail _ (.tail _ (.tail _ (.tail _ (.tail _ (.tail _ (.tail _ (.tail _ (.tail _ (.tail _ (.tail _ (.head _))))))))))))))))))))))))) (fun _ _ _ _ _ _ us hl => match us, hl with | [], _ => rfl) sc__law_reserved (fun as Q h => by first | (obtain ⟨_, rfl, _⟩ := h; rfl) | (obtain ⟨_, _, rfl, _⟩ := h; rfl) | (obtain ⟨_, _, _, rfl, _⟩ := h; rfl) | (obtain ⟨_, _, _, _, rfl, _⟩ := h; rfl) | (obtain ⟨_, _, _, _, _, rfl, _⟩ := h; rfl) | (obtain ⟨_, _, _, _, _, _, rfl, _⟩ := h; rfl) | (obtain ⟨_, _, _, _, _, _, _, rfl, _⟩ := h; rfl) | (obtain ⟨_, _, _, _, _, _, _, _, rfl, _⟩ := h; rfl) | (obtain ⟨_, _, _, _, _, _, _, _, _, rfl, _⟩ := h; rfl) | (obtain ⟨rfl, _⟩ := h; rfl)) fun f cdv A outer s H E hr as Q qs hF hq => ?_
  obtain ⟨rfl, hQ⟩ := hF
  obtain rfl : qs = [] := List.length_eq_zero_iff.mp hq
  refine ⟨_, (pss_cons (ps_set (i := 0) nd rfl (Or.inl rfl) (pe_lst (pa_cons pe_str (pa_cons pe_str (pa_cons pe_str (pa_cons pe_str (pa_cons pe_str (pa_cons pe_str (pa_cons pe_str (pa_cons pe_str (pa_cons pe_str (pa_cons pe_str (pa_cons pe_str (pa_cons pe_str pa_nil))))))))))))))
    (pss_one (ps_ret (pe_op (r := rCatS K) op_catS (pv 0) (pe_lst (pa_cons pe_str (pa_cons pe_str pa_nil))))))), ?_⟩
  show Ss K T _ [.no] _
  k_search "go"
  refine ⟨[_, _, _, _, _, _, _, _, _, _, _, _], ⟨rfl, rfl, rfl, rfl, rfl, rfl, rfl, rfl, rfl, rfl, rfl, rfl, trivial⟩, by k_search "len", ?_⟩
  k_search "go"
  refine opd_catL (by rfl) (by rfl) (by k_search "len") ?_
  k_search "go"
  exact hQ
theorem ok_lis_word (c : Al K mg base ds fr ts cs) (h__law_reserved : Ok P w K mg base 1 "_law_reserved" [] (spOf K T F_reserved)) : Ok P w K mg base 2 "_law_is_word" ["value"] (spOf K T F_lis_word) := by
  have nd := sc__law_is_word.nd
  have kTOP := c.cs _ (.head _)
  have kBOTTOM := c.cs _ (.tail _ (.head _))
  have kRESERVED := c.cs _ (.tail _ (.tail _ (.tail _ (.tail _ (.tail _ (.head _))))))
  refine ok_of c (.tail _ (.tail _ (.tail _ (.tail _ (.tail _ (.tail _ (.tail _ (.tail _ (.tail _ (.tail _ (.tail _ (.tail _ (.tail _ (.tail _ (.tail _ (.tail _ (.tail _ (.tail _ (.tail _ (.tail _ (.tail _ (.tail _ (.tail _ (.tail _ (.tail _ (.head _)))))))))))))))))))))))))) (fun _ _ _ _ _ _ us hl => match us, hl with | [_], _ => rfl) sc__law_is_word (fun as Q h => by first | (obtain ⟨_, rfl, _⟩ := h; rfl) | (obtain ⟨_, _, rfl, _⟩ := h; rfl) | (obtain ⟨_, _, _, rfl, _⟩ := h; rfl) | (obtain ⟨_, _, _, _, rfl, _⟩ := h; rfl) | (obtain ⟨_, _, _, _, _, rfl, _⟩ := h; rfl) | (obtain ⟨_, _, _, _, _, _, rfl, _⟩ := h; rfl) | (obtain ⟨_, _, _, _, _, _, _, rfl, _⟩ := h; rfl) | (obtain ⟨_, _, _, _, _, _, _, _, rfl, _⟩ := h; rfl) | (obtain ⟨_, _, _, _, _, _, _, _, _, rfl, _⟩ := h; rfl) | (obtain ⟨rfl, _⟩ := h; rfl)) fun f cdv A outer s H E hr as Q qs hF hq => ?_
  obtain ⟨x, rfl, hw, hQ⟩ := hF
  obtain rfl : qs = [] := List.length_eq_zero_iff.mp hq
  refine ⟨_, (pss_cons (ps_if (PW.pt (pw_or (pt_not (pt_val (pe_callB (r := rIsi K) call_isi rfl (c.fr _ (.tail _ (.head _))) PyProof.Rows.boot_isinstance (pa_cons (pv 0) (pa_cons (pe_bltn (v := .ty "str") rfl (c.fr _ (.tail _ (.tail _ (.head _)))) PyProof.Rows.boot_str rfl) pa_nil))))) (pw_or (pt_not (pt_chain op_le op_le pe_int (pe_callB (r := Pl.rLen K) call_len rfl (c.fr _ (.tail _ (.tail _ (.tail _ (.head _))))) PySem.boot_len (pa_cons (pv 0) pa_nil)) pe_int)) (pw_or1 (pt_cmpR (r := rIn K false) op_in_seq (pv 0) (pe_f0 h__law_reserved (hr.mono (by omega)) rfl) rfl))))) (pss_one (ps_ret pe_bl)) pss_nil)
    (pss_cons (ps_set (i := 1) nd rfl (Or.inl rfl) pe_str)
    (pss_cons (ps_for PassesOwn.never rfl (pi_str (pv 0)) (pg_name (i := 2) nd rfl (Or.inl rfl)) (pss_one (ps_if (pt_cmpR (r := rNiSg) op_notIn_sign (pv 2) (pe_op op_add_str (pv 1) pe_str) rfl) (pss_one (ps_ret pe_bl)) pss_nil)))
    (pss_one (ps_ret (pe_cmpR (r := rInSg) op_in_sign (pe_ix (r := rIxS) ix_str (pv 0) pe_int (fun _ _ => rfl)) (pv 1) rfl)))))), ?_⟩
  show Ss K T _ [.val _, .no, .no] _
  have hl1 : x.length ≤ 1000000 := Nat.le_trans hw.hi (by decide)
  have g1 : (1 : Int) ≤ (x.length : Int) := by have := hw.lo; omega
  have g2 : (x.length : Int) ≤ 12 := by have := hw.hi; omega
  obtain ⟨c0, hc0, hcl⟩ := hw.first
  k_search "go"
  refine ex_chI (ex_int (ex_cb (exa_cons (ex_var rfl (exa_nil ⟨[_], ⟨rfl, trivial⟩, cb_lenS hl1 ⟨_, _, true, rfl, rfl, by rw [decide_eq_true g1], iteT rfl (ex_int ⟨_, true, rfl, by rw [decide_eq_true g2], ?_⟩)⟩⟩)))))
  k_search "go"
  refine cv [] trivial ⟨rfl, rimL (imm_strs _), ?_⟩
  refine ⟨_, _, rfl, rfl, opd_inSL (ns := reserved) ⟨_, rfl, iteD (fun hr => ?_) fun hr => ?_⟩⟩
  · k_search "go"
    rw [decide_eq_true hr] at hQ
    exact hQ
  · rw [decide_eq_false hr] at hQ
    k_search "go"
    refine ss_forS (ex_var rfl ⟨x, rfl, fun k δ => ∃ s, δ = [.val (.str x), .val (.str letters), s], ⟨_, rfl⟩, fun k ch δ2 hk hW => ?_, fun δ2 hW => ?_⟩)
    · obtain ⟨s, rfl⟩ := hW
      refine gt_name ?_
      k_search "nrm"
      have hm : ch ∈ x.cps.toList := Array.mem_toList_iff.mpr (Array.mem_of_getElem? hk)
      have hs : (letters ++ "0123456789" : Str) = Pl.signs := by decide +kernel
      k_search "go"
      refine opd_addS (by decide +kernel) ?_
      rw [hs]
      refine ⟨_, _, rfl, rfl, opd_niSg ⟨_, rfl, ?_⟩⟩
      rw [decide_eq_true (hw.all ch hm)]
      k_search "go"
      exact ⟨_, rfl⟩
    · obtain ⟨s, rfl⟩ := hW
      k_search "go"
      refine ⟨_, _, _, rfl, rfl, hl1, atS0 hc0, ?_⟩
      k_search "go"
      refine opd_inSg ?_
      rw [decide_eq_true hcl]
      k_search "go"
      exact hQ
def F_lis_term (h : Nat) : FS := fun as Q => ∃ t : Tm, as = [.val t.d] ∧ Tb h t ∧ Q (.val (.bool true)) []
theorem ok_lis_term (c : Al K mg base ds fr ts cs) (h__law_is_word : Ok P w K mg base 2 "_law_is_word" ["value"] (spOf K T F_lis_word)) : ∀ h : Nat, Ok P w K mg base (h + 3) "_law_is_term" ["value"] (spOf K T (F_lis_term h))
  | 0 => by
    have nd := sc__law_is_term.nd
    have kTOP := c.cs _ (.head _)
    have kBOTTOM := c.cs _ (.tail _ (.head _))
    have kRESERVED := c.cs _ (.tail _ (.tail _ (.tail _ (.tail _ (.tail _ (.head _))))))
    refine ok_of c (.tail _ (.tail _ (.tail _ (.tail _ (.tail _ (.tail _ (.tail _ (.tail _ (.tail _ (.tail _ (.tail _ (.tail _ (.tail _ (.tail _ (.tail _ (.tail _ (.tail _ (.tail _ (.tail _ (.tail _ (.tail _ (.tail _ (.tail _ (.tail _ (.tail _ (.tail _ (.head _))))))))))))))))))))))))))) (fun _ _ _ _ _ _ us hl => match us, hl with | [_], _ => rfl) sc__law_is_term (fun as Q h => by first | (obtain ⟨_, rfl, _⟩ := h; rfl) | (obtain ⟨_, _, rfl, _⟩ := h; rfl) | (obtain ⟨_, _, _, rfl, _⟩ := h; rfl) | (obtain ⟨_, _, _, _, rfl, _⟩ := h; rfl) | (obtain ⟨_, _, _, _, _, rfl, _⟩ := h; rfl) | (obtain ⟨_, _, _, _, _, _, rfl, _⟩ := h; rfl) | (obtain ⟨_, _, _, _, _, _, _, rfl, _⟩ := h; rfl) | (obtain ⟨_, _, _, _, _, _, _, _, rfl, _⟩ := h; rfl) | (obtain ⟨_, _, _, _, _, _, _, _, _, rfl, _⟩ := h; rfl) | (obtain ⟨rfl, _⟩ := h; rfl)) fun f cdv A outer s H E hr as Q qs hF hq => ?_
    obtain ⟨t, rfl, b, _⟩ := hF
    exact b.no.elim
  | h + 1 => by
    have h__law_is_term := ok_lis_term c h__law_is_word h
    have nd := sc__law_is_term.nd
    have kTOP := c.cs _ (.head _)
    have kBOTTOM := c.cs _ (.tail _ (.head _))
    have kRESERVED := c.cs _ (.tail _ (.tail _ (.tail _ (.tail _ (.tail _ (.head _))))))
    refine ok_of c (.tail _ (.tail _ (.tail _ (.tail _ (.tail _ (.tail _ (.tail _ (.tail _ (.tail _ (.tail _ (.tail _ (.tail _ (.tail _ (.tail _ (.tail _ (.tail _ (.tail _ (.tail _ (.tail _ (.tail _ (.tail _ (.tail _ (.tail _ (.tail _ (.tail _ (.tail _ (.head _))))))))))))))))))))))))))) (fun _ _ _ _ _ _ us hl => match us, hl with | [_], _ => rfl) sc__law_is_term (fun as Q h => by first | (obtain ⟨_, rfl, _⟩ := h; rfl) | (obtain ⟨_, _, rfl, _⟩ := h; rfl) | (obtain ⟨_, _, _, rfl, _⟩ := h; rfl) | (obtain ⟨_, _, _, _, rfl, _⟩ := h; rfl) | (obtain ⟨_, _, _, _, _, rfl, _⟩ := h; rfl) | (obtain ⟨_, _, _, _, _, _, rfl, _⟩ := h; rfl) | (obtain ⟨_, _, _, _, _, _, _, rfl, _⟩ := h; rfl) | (obtain ⟨_, _, _, _, _, _, _, _, rfl, _⟩ := h; rfl) | (obtain ⟨_, _, _, _, _, _, _, _, _, rfl, _⟩ := h; rfl) | (obtain ⟨rfl, _⟩ := h; rfl)) fun f cdv A outer s H E hr as Q qs hF hq => ?_
    obtain ⟨t, rfl, b, hQ⟩ := hF
    obtain rfl : qs = [] := List.length_eq_zero_iff.mp hq
    refine ⟨_, (pss_cons (ps_if (PW.pt (pw_or (pt_not (pt_val (pe_callB (r := rIsi K) call_isi rfl (c.fr _ (.tail _ (.head _))) PyProof.Rows.boot_isinstance (pa_cons (pv 0) (pa_cons (pe_bltn (v := .ty "tuple") rfl (c.fr _ (.tail _ (.tail _ (.tail _ (.tail _ (.head _)))))) PyProof.Rows.boot_tuple rfl) pa_nil))))) (pw_or1 (pt_cmpR op_eq (pe_callB (r := Pl.rLen K) call_len rfl (c.fr _ (.tail _ (.tail _ (.tail _ (.head _))))) PySem.boot_len (pa_cons (pv 0) pa_nil)) pe_int (nomark _))))) (pss_one (ps_ret pe_bl)) pss_nil)
    (pss_cons (ps_if (PW.pt (pw_or (pt_cmpR op_eq (pe_ix (r := rIxT K) ix_tup (pv 0) pe_int (fun _ _ => rfl)) pe_str (nomark _)) (pw_or1 (pt_cmpR op_eq (pe_ix (r := rIxT K) ix_tup (pv 0) pe_int (fun _ _ => rfl)) pe_str (nomark _))))) (pss_one (ps_ret (pe_cmpR op_eq (pe_callB (r := Pl.rLen K) call_len rfl (c.fr _ (.tail _ (.tail _ (.tail _ (.head _))))) PySem.boot_len (pa_cons (pv 0) pa_nil)) pe_int (nomark _)))) pss_nil)
    (pss_cons (ps_if (pt_cmpR op_eq (pe_ix (r := rIxT K) ix_tup (pv 0) pe_int (fun _ _ => rfl)) pe_str (nomark _)) (pss_one (ps_ret (pe_and (pe_cmpR op_eq (pe_callB (r := Pl.rLen K) call_len rfl (c.fr _ (.tail _ (.tail _ (.tail _ (.head _))))) PySem.boot_len (pa_cons (pv 0) pa_nil)) pe_int (nomark _)) (pe_one (pe_f h__law_is_word (hr.mono (by omega)) rfl (pa_cons (pe_ix (r := rIxT K) ix_tup (pv 0) pe_int (fun _ _ => rfl)) pa_nil)))))) pss_nil)
    (pss_cons (ps_if (pt_cmpR op_eq (pe_ix (r := rIxT K) ix_tup (pv 0) pe_int (fun _ _ => rfl)) pe_str (nomark _)) (pss_one (ps_ret (pe_and (pe_cmpR op_eq (pe_callB (r := Pl.rLen K) call_len rfl (c.fr _ (.tail _ (.tail _ (.tail _ (.head _))))) PySem.boot_len (pa_cons (pv 0) pa_nil)) pe_int (nomark _)) (pe_and (pe_f h__law_is_word (hr.mono (by omega)) rfl (pa_cons (pe_ix (r := rIxT K) ix_tup (pv 0) pe_int (fun _ _ => rfl)) pa_nil)) (pe_one (pe_f h__law_is_term (hr.mono (by omega)) rfl (pa_cons (pe_ix (r := rIxT K) ix_tup (pv 0) pe_int (fun _ _ => rfl)) pa_nil))))))) pss_nil)
    (pss_cons (ps_if (PW.pt (pw_or (pt_cmpR op_ne (pe_ix (r := rIxT K) ix_tup (pv 0) pe_int (fun _ _ => rfl)) pe_str (nomark _)) (pw_or (pt_cmpR op_ne (pe_callB (r := Pl.rLen K) call_len rfl (c.fr _ (.tail _ (.tail _ (.tail _ (.head _))))) PySem.boot_len (pa_cons (pv 0) pa_nil)) pe_int (nomark _)) (pw_or1 (pt_not (pt_val (pe_callB (r := rIsi K) call_isi rfl (c.fr _ (.tail _ (.head _))) PyProof.Rows.boot_isinstance (pa_cons (pe_ix (r := rIxT K) ix_tup (pv 0) pe_int (fun _ _ => rfl)) (pa_cons (pe_bltn (v := .ty "tuple") rfl (c.fr _ (.tail _ (.tail _ (.tail _ (.tail _ (.head _)))))) PyProof.Rows.boot_tuple rfl) pa_nil))))))))) (pss_one (ps_ret pe_bl)) pss_nil)
    (pss_cons (ps_for PassesOwn.never rfl (pi_tupK (K0 := K) (pe_ix (r := rIxT K) ix_tup (pv 0) pe_int (fun _ _ => rfl))) (pg_name (i := 1) nd rfl (Or.inl rfl)) (pss_one (ps_if (pt_not (pt_val (pe_f h__law_is_term (hr.mono (by omega)) rfl (pa_cons (pv 1) pa_nil)))) (pss_one (ps_ret pe_bl)) pss_nil)))
    (pss_one (ps_ret pe_bl)))))))), ?_⟩
    show Ss K T _ [.val _, .no] _
    cases t with
    | top =>
      k_search "go"
      exact hQ
    | bot =>
      k_search "go"
      exact hQ
    | name x =>
      k_search "go"
      have gx : W x := b.good
      refine cv [.val _] ⟨rfl, trivial⟩ ⟨x, rfl, W.ws gx, rim rfl, ?_⟩
      rw [decide_eq_false gx.free]
      k_search "go"
      exact hQ
    | some r t =>
      k_search "go"
      refine cv [.val _] ⟨rfl, trivial⟩ ⟨r, rfl, W.ws b.W, rim rfl, ?_⟩
      rw [decide_eq_false b.W.free]
      k_search "go"
      refine cv [.val _] ⟨rfl, trivial⟩ ⟨t, rfl, b.some, rim rfl, ?_⟩
      k_search "go"
      exact hQ
    | and us =>
      k_search "go"
      refine go_forT (Tm.dL us) (fun k δ => ∃ s, δ = [.val (Tm.and us).d, s]) ?_ ?_ ?_
      · k_search "go"
        exact ⟨rfl, _, rfl⟩
      · rintro k d δ2 hk ⟨s, rfl⟩
        rw [Tm.dL_map] at hk
        obtain ⟨u, hu, rfl⟩ := map_at hk
        have m := List.mem_of_getElem? hu
        k_search "nrm"
        k_search "go"
        refine cv [.val _] ⟨rfl, trivial⟩ ⟨u, rfl, b.and m, rim rfl, ?_⟩
        k_search "go"
        exact ⟨_, rfl⟩
      · rintro δ2 ⟨s, rfl⟩
        k_search "go"
        exact hQ
set_option Elab.async false
set_option linter.all false
set_option maxRecDepth 100000
set_option maxHeartbeats 4000001
open PySem L2 LamX NdefX PyProof.Rows GenW Pl
variable {P : Program} {w : World} {K : PySem.W.Frag} {mg : Str → Option Value} {base : Heap} {T : List NTab} {ts : List Str}
theorem ok_lconj (c : Al K mg base ds fr ts cs) : ∀ h : Nat, Ok P w K mg base (h + 1) "_law_conjuncts" ["term"] (spOf K T (F_raw h))
  | 0 => by
    have nd := sc__law_conjuncts.nd
    have kTOP := c.cs _ (.head _)
    have kBOTTOM := c.cs _ (.tail _ (.head _))
    have kRESERVED := c.cs _ (.tail _ (.tail _ (.tail _ (.tail _ (.tail _ (.head _))))))
    refine ok_of c (.tail _ (.tail _ (.tail _ (.tail _ (.tail _ (.tail _ (.tail _ (.tail _ (.tail _ (.tail _ (.tail _ (.tail _ (.tail _ (.tail _ (.tail _ (.tail _ (.tail _ (.tail _ (.tail _ (.tail _ (.tail _ (.tail _ (.tail _ (.tail _ (.tail _ (.tail _ (.tail _ (.tail _ (.tail _ (.tail _ (.tail _ (.tail _ (.tail _ (.tail _ (.tail _ (.tail _ (.tail _ (.tail _ (.tail _ (.tail _ (.tail _ (.head _)))))))))))))))))))))))))))))))))))))))))) (fun _ _ _ _ _ _ us hl => match us, hl with | [_], _ => rfl) sc__law_conjuncts (fun as Q h => by first | (obtain ⟨_, rfl, _⟩ := h; rfl) | (obtain ⟨_, _, rfl, _⟩ := h; rfl) | (obtain ⟨_, _, _, rfl, _⟩ := h; rfl) | (obtain ⟨_, _, _, _, rfl, _⟩ := h; rfl) | (obtain ⟨_, _, _, _, _, rfl, _⟩ := h; rfl) | (obtain ⟨_, _, _, _, _, _, rfl, _⟩ := h; rfl) | (obtain ⟨_, _, _, _, _, _, _, rfl, _⟩ := h; rfl) | (obtain ⟨_, _, _, _, _, _, _, _, rfl, _⟩ := h; rfl) | (obtain ⟨_, _, _, _, _, _, _, _, _, rfl, _⟩ := h; rfl) | (obtain ⟨rfl, _⟩ := h; rfl)) fun f cdv A outer s H E hr as Q qs hF hq => ?_
    obtain ⟨t, rfl, b, _⟩ := hF
    exact b.no.elim
  | h + 1 => by
    have h__law_conjuncts := ok_lconj c h
    have nd := sc__law_conjuncts.nd
    have kTOP := c.cs _ (.head _)
    have kBOTTOM := c.cs _ (.tail _ (.head _))
    have kRESERVED := c.cs _ (.tail _ (.tail _ (.tail _ (.tail _ (.tail _ (.head _))))))
    refine ok_of c (.tail _ (.tail _ (.tail _ (.tail _ (.tail _ (.tail _ (.tail _ (.tail _ (.tail _ (.tail _ (.tail _ (.tail _ (.tail _ (.tail _ (.tail _ (.tail _ (.tail _ (.tail _ (.tail _ (.tail _ (.tail _ (.tail _ (.tail _ (.tail _ (.tail _ (.tail _ (.tail _ (.tail _ (.tail _ (.tail _ (.tail _ (.tail _ (.tail _ (.tail _ (.tail _ (.tail _ (.tail _ (.tail _ (.tail _ (.tail _ (.tail _ (.head _)))))))))))))))))))))))))))))))))))))))))) (fun _ _ _ _ _ _ us hl => match us, hl with | [_], _ => rfl) sc__law_conjuncts (fun as Q h => by first | (obtain ⟨_, rfl, _⟩ := h; rfl) | (obtain ⟨_, _, rfl, _⟩ := h; rfl) | (obtain ⟨_, _, _, rfl, _⟩ := h; rfl) | (obtain ⟨_, _, _, _, rfl, _⟩ := h; rfl) | (obtain ⟨_, _, _, _, _, rfl, _⟩ := h; rfl) | (obtain ⟨_, _, _, _, _, _, rfl, _⟩ := h; rfl) | (obtain ⟨_, _, _, _, _, _, _, rfl, _⟩ := h; rfl) | (obtain ⟨_, _, _, _, _, _, _, _, rfl, _⟩ := h; rfl) | (obtain ⟨_, _, _, _, _, _, _, _, _, rfl, _⟩ := h; rfl) | (obtain ⟨rfl, _⟩ := h; rfl)) fun f cdv A outer s H E hr as Q qs hF hq => ?_
    obtain ⟨t, rfl, b, hQ⟩ := hF
    obtain rfl : qs = [] := List.length_eq_zero_iff.mp hq
    refine ⟨_, (pss_cons (ps_if (pt_cmpR op_eq (pe_ix (r := rIxT K) ix_tup (pv 0) pe_int (fun _ _ => rfl)) pe_str (nomark _)) (pss_one (ps_ret (pe_lst pa_nil))) pss_nil)
    (pss_cons (ps_if (pt_cmpR op_ne (pe_ix (r := rIxT K) ix_tup (pv 0) pe_int (fun _ _ => rfl)) pe_str (nomark _)) (pss_one (ps_ret (pe_lst (pa_cons (pv 0) pa_nil)))) pss_nil)
    (pss_cons (ps_set (i := 1) nd rfl (Or.inl rfl) (pe_lst pa_nil))
    (pss_cons (ps_for PassesOwn.never rfl (pi_tupK (K0 := K) (pe_ix (r := rIxT K) ix_tup (pv 0) pe_int (fun _ _ => rfl))) (pg_name (i := 2) nd rfl (Or.inl rfl)) (pss_one (ps_set (i := 1) nd rfl (Or.inl rfl) (pe_op (r := rCatS K) op_catS (pv 1) (pe_f h__law_conjuncts (hr.mono (by omega)) rfl (pa_cons (pv 2) pa_nil))))))
    (pss_one (ps_ret (pv 1))))))), ?_⟩
    show Ss K T _ [.val _, .no, .no] _
    cases t with
    | top =>
      k_search "go"
      exact hQ
    | bot =>
      k_search "go"
      exact hQ
    | name x =>
      k_search "go"
      exact hQ
    | some r t =>
      k_search "go"
      exact hQ
    | and us =>
      have bl : Tm.cntL us + 1 ≤ 1000 := b.cnt
      k_search "go"
      refine go_forT (Tm.dL us) (fun k δ => ∃ a s, δ = [.val (Tm.and us).d, .own a (.lst ((Tm.rawL (us.take k)).map Tm.d)), s]) ?_ ?_ ?_
      · k_search "go"
        exact ⟨rfl, _, _, rfl⟩
      · rintro k d δ2 hk ⟨a, s, rfl⟩
        rw [Tm.dL_map] at hk
        obtain ⟨t, ht, rfl⟩ := map_at hk
        have bt := b.and (List.mem_of_getElem? ht)
        have l1 := rawL_len (us := us) (k := k) (by omega)
        have l2 := bt.rlen
        k_search "nrm"
        k_search "go"
        refine cv [.val _] ⟨rfl, trivial⟩ ⟨t, rfl, bt, rimL tm_imm, ?_⟩
        refine ⟨_, _, ⟨_, _, rfl, rfl⟩, rfl, opd_catL tm_imm tm_imm (by rw [List.length_map, List.length_map]; omega) ?_⟩
        k_search "go"
        rename_i a2
        refine ⟨a2, .val t.d, ?_⟩
        rw [rawL_take ht, List.map_append]
      · rintro δ2 ⟨a, s, rfl⟩
        k_search "go"
        rw [Tm.dL_map, List.length_map, List.take_length]
        exact hQ
theorem ok_lvoid (c : Al K mg base ds fr ts cs) (H0 : Nat) (h__law_conjuncts : Ok P w K mg base (H0 + 1) "_law_conjuncts" ["term"] (spOf K T (F_raw H0))) : ∀ h : Nat, h ≤ H0 → Ok P w K mg base (H0 + 1 + h + 1) "_law_void" ["term"] (spOf K T (F_void h))
  | 0, _ => by
    have nd := sc__law_void.nd
    have kTOP := c.cs _ (.head _)
    have kBOTTOM := c.cs _ (.tail _ (.head _))
    have kRESERVED := c.cs _ (.tail _ (.tail _ (.tail _ (.tail _ (.tail _ (.head _))))))
    refine ok_of c (.tail _ (.tail _ (.tail _ (.tail _ (.tail _ (.tail _ (.tail _ (.tail _ (.tail _ (.tail _ (.tail _ (.tail _ (.tail _ (.tail _ (.tail _ (.tail _ (.tail _ (.tail _ (.tail _ (.tail _ (.tail _ (.tail _ (.tail _ (.tail _ (.tail _ (.tail _ (.tail _ (.tail _ (.tail _ (.tail _ (.tail _ (.tail _ (.tail _ (.tail _ (.tail _ (.tail _ (.tail _ (.tail _ (.tail _ (.tail _ (.tail _ (.tail _ (.head _))))))))))))))))))))))))))))))))))))))))))) (fun _ _ _ _ _ _ us hl => match us, hl with | [_], _ => rfl) sc__law_void (fun as Q h => by first | (obtain ⟨_, rfl, _⟩ := h; rfl) | (obtain ⟨_, _, rfl, _⟩ := h; rfl) | (obtain ⟨_, _, _, rfl, _⟩ := h; rfl) | (obtain ⟨_, _, _, _, rfl, _⟩ := h; rfl) | (obtain ⟨_, _, _, _, _, rfl, _⟩ := h; rfl) | (obtain ⟨_, _, _, _, _, _, rfl, _⟩ := h; rfl) | (obtain ⟨_, _, _, _, _, _, _, rfl, _⟩ := h; rfl) | (obtain ⟨_, _, _, _, _, _, _, _, rfl, _⟩ := h; rfl) | (obtain ⟨_, _, _, _, _, _, _, _, _, rfl, _⟩ := h; rfl) | (obtain ⟨rfl, _⟩ := h; rfl)) fun f cdv A outer s H E hr as Q qs hF hq => ?_
    obtain ⟨t, rfl, b, _⟩ := hF
    exact b.no.elim
  | h + 1, hh => by
    have h__law_void := ok_lvoid c H0 h__law_conjuncts h (by omega)
    have nd := sc__law_void.nd
    have kTOP := c.cs _ (.head _)
    have kBOTTOM := c.cs _ (.tail _ (.head _))
    have kRESERVED := c.cs _ (.tail _ (.tail _ (.tail _ (.tail _ (.tail _ (.head _))))))
    refine ok_of c (.tail _ (.tail _ (.tail _ (.tail _ (.tail _ (.tail _ (.tail _ (.tail _ (.tail _ (.tail _ (.tail _ (.tail _ (.tail _ (.tail _ (.tail _ (.tail _ (.tail _ (.tail _ (.tail _ (.tail _ (.tail _ (.tail _ (.tail _ (.tail _ (.tail _ (.tail _ (.tail _ (.tail _ (.tail _ (.tail _ (.tail _ (.tail _ (.tail _ (.tail _ (.tail _ (.tail _ (.tail _ (.tail _ (.tail _ (.tail _ (.tail _ (.tail _ (.head _))))))))))))))))))))))))))))))))))))))))))) (fun _ _ _ _ _ _ us hl => match us, hl with | [_], _ => rfl) sc__law_void (fun as Q h => by first | (obtain ⟨_, rfl, _⟩ := h; rfl) | (obtain ⟨_, _, rfl, _⟩ := h; rfl) | (obtain ⟨_, _, _, rfl, _⟩ := h; rfl) | (obtain ⟨_, _, _, _, rfl, _⟩ := h; rfl) | (obtain ⟨_, _, _, _, _, rfl, _⟩ := h; rfl) | (obtain ⟨_, _, _, _, _, _, rfl, _⟩ := h; rfl) | (obtain ⟨_, _, _, _, _, _, _, rfl, _⟩ := h; rfl) | (obtain ⟨_, _, _, _, _, _, _, _, rfl, _⟩ := h; rfl) | (obtain ⟨_, _, _, _, _, _, _, _, _, rfl, _⟩ := h; rfl) | (obtain ⟨rfl, _⟩ := h; rfl)) fun f cdv A outer s H E hr as Q qs hF hq => ?_
    obtain ⟨t, rfl, b, hQ⟩ := hF
    obtain rfl : qs = [] := List.length_eq_zero_iff.mp hq
    refine ⟨_, (pss_cons (ps_for PassesOwn.never rfl (pi_listK (K0 := K) (pe_f h__law_conjuncts (hr.mono (by omega)) rfl (pa_cons (pv 0) pa_nil))) (pg_name (i := 1) nd rfl (Or.inl rfl)) (pss_one (ps_if (PW.pt (pw_or (pt_cmpR op_eq (pe_ix (r := rIxT K) ix_tup (pv 1) pe_int (fun _ _ => rfl)) pe_str (nomark _)) (pw_or1 (PW.pt (pw_and (pt_cmpR op_eq (pe_ix (r := rIxT K) ix_tup (pv 1) pe_int (fun _ _ => rfl)) pe_str (nomark _)) (pw_and1 (pt_val (pe_f h__law_void (hr.mono (by omega)) rfl (pa_cons (pe_ix (r := rIxT K) ix_tup (pv 1) pe_int (fun _ _ => rfl)) pa_nil))))))))) (pss_one (ps_ret pe_bl)) pss_nil)))
    (pss_one (ps_ret pe_bl))), ?_⟩
    show Ss K T _ [.val _, .no] _
    refine go_seq (go_forL (t.raw.map Tm.d) (fun k δ => (t.raw.take k).any Tm.void = false ∧ ∃ s, δ = [.val t.d, s]) ?_ ?_ ?_)
    · k_search "go"
      refine cv [.val _] ⟨rfl, trivial⟩ ⟨t, rfl, b.mono hh, rimL tm_imm, rfl, rfl, _, rfl⟩
    · rintro k d δ2 hk ⟨hv, s, rfl⟩
      obtain ⟨u, hu, rfl⟩ := map_at hk
      have m := List.mem_of_getElem? hu
      have bu := b.raw m
      have ha := Tm.raw_atom t u m
      k_search "nrm"
      cases u with
      | top => cases ha
      | and us => cases ha
      | bot =>
        k_search "go"
        have e : t.void = true := by rw [Tm.void_raw]; exact any_in hu rfl
        rw [e] at hQ
        exact hQ
      | name x =>
        k_search "go"
        exact ⟨by rw [any_take hu, hv]; rfl, _, rfl⟩
      | some r v =>
        k_search "go"
        refine cv [.val _] ⟨rfl, trivial⟩ ⟨v, rfl, bu.some, rim rfl, ?_⟩
        refine ⟨_, rfl, ?_⟩
        refine iteB (fun e => ?_) fun e => ?_
        · k_search "go"
          have e : t.void = true := by rw [Tm.void_raw]; exact any_in hu e
          rw [e] at hQ
          exact hQ
        · k_search "go"
          exact ⟨by rw [any_take hu, hv]; exact e, _, rfl⟩
    · rintro δ2 ⟨hv, s, rfl⟩
      k_search "go"
      rw [List.length_map, List.take_length, ← Tm.void_raw] at hv
      rw [hv] at hQ
      exact hQ
noncomputable def lmt (r : Str) (v : Tm) : Tm → Bool := fun a => match a with
  | .some r' t' => decide (r' = r) && t'.under v
  | _ => false
theorem lmt_eq {r : Str} {v : Tm} {us : List Tm} (h : ∀ u ∈ us, u.void = false) : us.any (lmt r v) = (Tm.some r v).meets us := by
  rw [some_mtc]
  induction us with
  | nil => rfl
  | cons u us ih =>
    rw [List.any_cons, List.any_cons, ih fun x hx => h x (List.mem_cons_of_mem _ hx)]
    congr 1
    have hu := h u List.mem_cons_self
    cases u with
    | some q t =>
      have hu : t.void = false := hu
      show (decide (q = r) && t.under v) = (decide (q = r) && v.meets t.raw)
      rw [Tm.under, hu]
      rfl
    | _ => rfl
def F_lmet (h : Nat) : FS := fun as Q => ∃ (r : Str) (v : Tm) (us : List Tm), as = [.val (Tm.some r v).d, .val (.list (us.map Tm.d))] ∧ Tb h (.some r v) ∧ (∀ u ∈ us, Tb h u ∧ u.atom = true) ∧ Q (.val (.bool (us.any (lmt r v)))) []
theorem raw_nv {t : Tm} (h : t.void = false) : ∀ u ∈ t.raw, u.void = false := fun u m => by
  cases e : u.void with
  | false => rfl
  | true =>
    rw [Tm.void_raw] at h
    rw [List.any_eq_true.mpr ⟨u, m, e⟩] at h
    cases h
theorem ok_lunder (c : Al K mg base ds fr ts cs) (H0 n1 : Nat) (h__law_conjuncts : Ok P w K mg base (H0 + 1) "_law_conjuncts" ["term"] (spOf K T (F_raw H0))) (h__law_void : Ok P w K mg base n1 "_law_void" ["term"] (spOf K T (F_void H0))) : ∀ h : Nat, h ≤ H0 →
    Ok P w K mg base (max (H0 + 1) n1 + 2 * h + 1) "_law_met" ["want", "have"] (spOf K T (F_lmet h)) ∧ Ok P w K mg base (max (H0 + 1) n1 + 2 * h + 1 + 1) "_law_under" ["one", "other"] (spOf K T (F_below h))
  | 0, _ => by
    refine ⟨?_, ?_⟩
    next =>
      have nd := sc__law_met.nd
      have kTOP := c.cs _ (.head _)
      have kBOTTOM := c.cs _ (.tail _ (.head _))
      have kRESERVED := c.cs _ (.tail _ (.tail _ (.tail _ (.tail _ (.tail _ (.head _))))))
      refine ok_of c (.tail _ (.tail _ (.tail _ (.tail _ (.tail _ (.tail _ (.tail _ (.tail _ (.tail _ (.tail _ (.tail _ (.tail _ (.tail _ (.tail _ (.tail _ (.tail _ (.tail _ (.tail _ (.tail _ (.tail _ (.tail _ (.tail _ (.tail _ (.tail _ (.tail _ (.tail _ (.tail _ (.tail _ (.tail _ (.tail _ (.tail _ (.tail _ (.tail _ (.tail _ (.tail _ (.tail _ (.tail _ (.tail _ (.tail _ (.tail _ (.tail _ (.tail _ (.tail _ (.head _)))))))))))))))))))))))))))))))))))))))))))) (fun _ _ _ _ _ _ us hl => match us, hl with | [_, _], _ => rfl) sc__law_met (fun as Q h => by first | (obtain ⟨_, rfl, _⟩ := h; rfl) | (obtain ⟨_, _, rfl, _⟩ := h; rfl) | (obtain ⟨_, _, _, rfl, _⟩ := h; rfl) | (obtain ⟨_, _, _, _, rfl, _⟩ := h; rfl) | (obtain ⟨_, _, _, _, _, rfl, _⟩ := h; rfl) | (obtain ⟨_, _, _, _, _, _, rfl, _⟩ := h; rfl) | (obtain ⟨_, _, _, _, _, _, _, rfl, _⟩ := h; rfl) | (obtain ⟨_, _, _, _, _, _, _, _, rfl, _⟩ := h; rfl) | (obtain ⟨_, _, _, _, _, _, _, _, _, rfl, _⟩ := h; rfl) | (obtain ⟨rfl, _⟩ := h; rfl)) fun f cdv A outer s H E hr as Q qs hF hq => ?_
      obtain ⟨r, v, us, rfl, b, _⟩ := hF
      exact b.no.elim
    next =>
      have nd := sc__law_under.nd
      have kTOP := c.cs _ (.head _)
      have kBOTTOM := c.cs _ (.tail _ (.head _))
      have kRESERVED := c.cs _ (.tail _ (.tail _ (.tail _ (.tail _ (.tail _ (.head _))))))
      refine ok_of c (.tail _ (.tail _ (.tail _ (.tail _ (.tail _ (.tail _ (.tail _ (.tail _ (.tail _ (.tail _ (.tail _ (.tail _ (.tail _ (.tail _ (.tail _ (.tail _ (.tail _ (.tail _ (.tail _ (.tail _ (.tail _ (.tail _ (.tail _ (.tail _ (.tail _ (.tail _ (.tail _ (.tail _ (.tail _ (.tail _ (.tail _ (.tail _ (.tail _ (.tail _ (.tail _ (.tail _ (.tail _ (.tail _ (.tail _ (.tail _ (.tail _ (.tail _ (.tail _ (.tail _ (.head _))))))))))))))))))))))))))))))))))))))))))))) (fun _ _ _ _ _ _ us hl => match us, hl with | [_, _], _ => rfl) sc__law_under (fun as Q h => by first | (obtain ⟨_, rfl, _⟩ := h; rfl) | (obtain ⟨_, _, rfl, _⟩ := h; rfl) | (obtain ⟨_, _, _, rfl, _⟩ := h; rfl) | (obtain ⟨_, _, _, _, rfl, _⟩ := h; rfl) | (obtain ⟨_, _, _, _, _, rfl, _⟩ := h; rfl) | (obtain ⟨_, _, _, _, _, _, rfl, _⟩ := h; rfl) | (obtain ⟨_, _, _, _, _, _, _, rfl, _⟩ := h; rfl) | (obtain ⟨_, _, _, _, _, _, _, _, rfl, _⟩ := h; rfl) | (obtain ⟨_, _, _, _, _, _, _, _, _, rfl, _⟩ := h; rfl) | (obtain ⟨rfl, _⟩ := h; rfl)) fun f cdv A outer s H E hr as Q qs hF hq => ?_
      obtain ⟨t, u, rfl, b, _⟩ := hF
      exact b.no.elim
  | h + 1, hh => by
    have h__law_under := (ok_lunder c H0 n1 h__law_conjuncts h__law_void h (by omega)).2
    have h__law_met : Ok P w K mg base (max (H0 + 1) n1 + 2 * (h + 1) + 1) "_law_met" ["want", "have"] (spOf K T (F_lmet (h + 1))) := by
      have nd := sc__law_met.nd
      have kTOP := c.cs _ (.head _)
      have kBOTTOM := c.cs _ (.tail _ (.head _))
      have kRESERVED := c.cs _ (.tail _ (.tail _ (.tail _ (.tail _ (.tail _ (.head _))))))
      refine ok_of c (.tail _ (.tail _ (.tail _ (.tail _ (.tail _ (.tail _ (.tail _ (.tail _ (.tail _ (.tail _ (.tail _ (.tail _ (.tail _ (.tail _ (.tail _ (.tail _ (.tail _ (.tail _ (.tail _ (.tail _ (.tail _ (.tail _ (.tail _ (.tail _ (.tail _ (.tail _ (.tail _ (.tail _ (.tail _ (.tail _ (.tail _ (.tail _ (.tail _ (.tail _ (.tail _ (.tail _ (.tail _ (.tail _ (.tail _ (.tail _ (.tail _ (.tail _ (.tail _ (.head _)))))))))))))))))))))))))))))))))))))))))))) (fun _ _ _ _ _ _ us hl => match us, hl with | [_, _], _ => rfl) sc__law_met (fun as Q h => by first | (obtain ⟨_, rfl, _⟩ := h; rfl) | (obtain ⟨_, _, rfl, _⟩ := h; rfl) | (obtain ⟨_, _, _, rfl, _⟩ := h; rfl) | (obtain ⟨_, _, _, _, rfl, _⟩ := h; rfl) | (obtain ⟨_, _, _, _, _, rfl, _⟩ := h; rfl) | (obtain ⟨_, _, _, _, _, _, rfl, _⟩ := h; rfl) | (obtain ⟨_, _, _, _, _, _, _, rfl, _⟩ := h; rfl) | (obtain ⟨_, _, _, _, _, _, _, _, rfl, _⟩ := h; rfl) | (obtain ⟨_, _, _, _, _, _, _, _, _, rfl, _⟩ := h; rfl) | (obtain ⟨rfl, _⟩ := h; rfl)) fun f cdv A outer s H E hr as Q qs hF hq => ?_
      obtain ⟨r, v, us, rfl, b, hu, hQ⟩ := hF
      obtain rfl : qs = [] := List.length_eq_zero_iff.mp hq
      refine ⟨_, (pss_cons (ps_for PassesOwn.never rfl (pi_listK (K0 := K) (pv 1)) (pg_name (i := 2) nd rfl (Or.inl rfl)) (pss_one (ps_if (PW.pt (pw_and (pt_cmpR op_eq (pe_ix (r := rIxT K) ix_tup (pv 2) pe_int (fun _ _ => rfl)) pe_str (nomark _)) (pw_and (pt_cmpR (r := rEqD K) (op_eqD hr.units) (pe_ix (r := rIxT K) ix_tup (pv 2) pe_int (fun _ _ => rfl)) (pe_ix (r := rIxT K) ix_tup (pv 0) pe_int (fun _ _ => rfl)) (nomark _)) (pw_and1 (pt_val (pe_f h__law_under (hr.mono (by omega)) rfl (pa_cons (pe_ix (r := rIxT K) ix_tup (pv 2) pe_int (fun _ _ => rfl)) (pa_cons (pe_ix (r := rIxT K) ix_tup (pv 0) pe_int (fun _ _ => rfl)) pa_nil)))))))) (pss_one (ps_ret pe_bl)) pss_nil)))
    (pss_one (ps_ret pe_bl))), ?_⟩
      show Ss K T _ [.val _, .val _, .no] _
      k_search "go"
      refine go_forL (us.map Tm.d) (fun k δ => (us.take k).any (lmt r v) = false ∧ ∃ s, δ = [.val (Tm.some r v).d, .val (.list (us.map Tm.d)), s]) ?_ ?_ ?_
      · k_search "go"
        exact ⟨rfl, rfl, _, rfl⟩
      · rintro k d δ2 hk ⟨hv, s, rfl⟩
        obtain ⟨u, hu1, rfl⟩ := map_at hk
        have m := List.mem_of_getElem? hu1
        obtain ⟨bu, hau⟩ := hu u m
        k_search "nrm"
        cases u with
        | top => cases hau
        | and us => cases hau
        | bot =>
          k_search "go"
          exact ⟨by rw [any_take hu1, hv]; rfl, _, rfl⟩
        | name x =>
          k_search "go"
          exact ⟨by rw [any_take hu1, hv]; rfl, _, rfl⟩
        | some q u =>
          k_search "go"
          refine opd_eqW bu.W b.W ?_
          refine ⟨_, rfl, iteD (fun e => ?_) fun e => ?_⟩
          · k_search "go"
            refine cv [.val _, .val _] ⟨rfl, rfl, trivial⟩ ⟨u, v, rfl, bu.some, b.some, rim rfl, ?_⟩
            refine ⟨_, rfl, iteB (fun e2 => ?_) fun e2 => ?_⟩
            · k_search "go"
              have e3 : us.any (lmt r v) = true := any_in hu1 (by simp [lmt, e, e2])
              rw [e3] at hQ
              exact hQ
            · k_search "go"
              exact ⟨by rw [any_take hu1, hv]; simp [lmt, e2], _, rfl⟩
          · k_search "go"
            exact ⟨by rw [any_take hu1, hv]; simp [lmt, e], _, rfl⟩
      · rintro δ2 ⟨hv, s, rfl⟩
        k_search "go"
        rw [List.length_map, List.take_length] at hv
        rw [hv] at hQ
        exact hQ
    refine ⟨h__law_met, ?_⟩
    have nd := sc__law_under.nd
    have kTOP := c.cs _ (.head _)
    have kBOTTOM := c.cs _ (.tail _ (.head _))
    have kRESERVED := c.cs _ (.tail _ (.tail _ (.tail _ (.tail _ (.tail _ (.head _))))))
    refine ok_of c (.tail _ (.tail _ (.tail _ (.tail _ (.tail _ (.tail _ (.tail _ (.tail _ (.tail _ (.tail _ (.tail _ (.tail _ (.tail _ (.tail _ (.tail _ (.tail _ (.tail _ (.tail _ (.tail _ (.tail _ (.tail _ (.tail _ (.tail _ (.tail _ (.tail _ (.tail _ (.tail _ (.tail _ (.tail _ (.tail _ (.tail _ (.tail _ (.tail _ (.tail _ (.tail _ (.tail _ (.tail _ (.tail _ (.tail _ (.tail _ (.tail _ (.tail _ (.tail _ (.tail _ (.head _))))))))))))))))))))))))))))))))))))))))))))) (fun _ _ _ _ _ _ us hl => match us, hl with | [_, _], _ => rfl) sc__law_under (fun as Q h => by first | (obtain ⟨_, rfl, _⟩ := h; rfl) | (obtain ⟨_, _, rfl, _⟩ := h; rfl) | (obtain ⟨_, _, _, rfl, _⟩ := h; rfl) | (obtain ⟨_, _, _, _, rfl, _⟩ := h; rfl) | (obtain ⟨_, _, _, _, _, rfl, _⟩ := h; rfl) | (obtain ⟨_, _, _, _, _, _, rfl, _⟩ := h; rfl) | (obtain ⟨_, _, _, _, _, _, _, rfl, _⟩ := h; rfl) | (obtain ⟨_, _, _, _, _, _, _, _, rfl, _⟩ := h; rfl) | (obtain ⟨_, _, _, _, _, _, _, _, _, rfl, _⟩ := h; rfl) | (obtain ⟨rfl, _⟩ := h; rfl)) fun f cdv A outer s H E hr as Q qs hF hq => ?_
    obtain ⟨t, u, rfl, b, b2, hQ⟩ := hF
    obtain rfl : qs = [] := List.length_eq_zero_iff.mp hq
    refine ⟨_, (pss_cons (ps_if (pt_val (pe_f h__law_void (hr.mono (by omega)) rfl (pa_cons (pv 0) pa_nil))) (pss_one (ps_ret pe_bl)) pss_nil)
    (pss_cons (ps_set (i := 2) nd rfl (Or.inl rfl) (pe_f h__law_conjuncts (hr.mono (by omega)) rfl (pa_cons (pv 0) pa_nil)))
    (pss_cons (ps_for PassesOwn.never rfl (pi_listK (K0 := K) (pe_f h__law_conjuncts (hr.mono (by omega)) rfl (pa_cons (pv 1) pa_nil))) (pg_name (i := 3) nd rfl (Or.inl rfl)) (pss_cons (ps_if (PW.pt (pw_or (pt_cmpR op_eq (pe_ix (r := rIxT K) ix_tup (pv 3) pe_int (fun _ _ => rfl)) pe_str (nomark _)) (pw_or1 (PW.pt (pw_and (pt_cmpR op_eq (pe_ix (r := rIxT K) ix_tup (pv 3) pe_int (fun _ _ => rfl)) pe_str (nomark _)) (pw_and1 (pt_cmpR (r := rNotInD K) (op_notInD (Nat.lt_of_le_of_lt (Nat.add_le_add (Nat.le_add_right _ _) (by decide)) hr.un)) (pv 3) (pv 2) rfl))))))) (pss_one (ps_ret pe_bl)) pss_nil)
    (pss_one (ps_if (PW.pt (pw_and (pt_cmpR op_eq (pe_ix (r := rIxT K) ix_tup (pv 3) pe_int (fun _ _ => rfl)) pe_str (nomark _)) (pw_and1 (pt_not (pt_val (pe_f h__law_met (hr.mono (by omega)) rfl (pa_cons (pv 3) (pa_cons (pv 2) pa_nil)))))))) (pss_one (ps_ret pe_bl)) pss_nil))))
    (pss_one (ps_ret pe_bl))))), ?_⟩
    show Ss K T _ [.val _, .val _, .no, .no] _
    k_search "go"
    refine cv [.val _] ⟨rfl, trivial⟩ ⟨t, rfl, b.mono hh, rim rfl, ?_⟩
    refine ⟨_, rfl, iteB (fun e => ?_) fun e => ?_⟩
    · k_search "go"
      have e3 : t.under u = true := by simp [Tm.under, e]
      rw [e3] at hQ
      exact hQ
    have eu : t.under u = u.meets t.raw := by simp [Tm.under, e]
    rw [eu] at hQ
    k_search "go"
    refine cv [.val _] ⟨rfl, trivial⟩ ⟨t, rfl, b.mono hh, rimL tm_imm, ?_⟩
    k_search "go"
    refine go_forL (u.raw.map Tm.d) (fun k δ => (u.raw.take k).all (fun x => x.meets t.raw) = true ∧ ∃ a s, δ = [.val t.d, .val u.d, .own a (.lst (t.raw.map Tm.d)), s]) ?_ ?_ ?_
    · k_search "go"
      refine cv [.val _] ⟨rfl, trivial⟩ ⟨u, rfl, b2.mono hh, rimL tm_imm, rfl, rfl, _, _, rfl⟩
    · rintro k d δ2 hk ⟨hv, a, s, rfl⟩
      obtain ⟨x, hx, rfl⟩ := map_at hk
      have m := List.mem_of_getElem? hx
      have ha := Tm.raw_atom u x m
      have bx := b2.raw m
      have bad : x.meets t.raw = false → Q (.val (.bool false)) [] := fun z => by
        have e2 : u.meets t.raw = false := by rw [Tm.meets_raw]; exact all_in hx z
        rw [e2] at hQ
        exact hQ
      have good : x.meets t.raw = true → (u.raw.take (k + 1)).all (fun x => x.meets t.raw) = true := fun z => by rw [all_take hx, hv, z]; rfl
      k_search "nrm"
      cases x with
      | top => cases ha
      | and us => cases ha
      | bot =>
        k_search "go"
        exact bad rfl
      | name x =>
        k_search "go"
        refine ⟨_, _, rfl, ⟨_, _, rfl, rfl⟩, opd_niTm bx.shaped (shaped_tb fun y hy => b.raw hy) ?_⟩
        refine ⟨_, rfl, ?_⟩
        have e : (Tm.name x).meets t.raw = decide (Tm.name x ∈ t.raw) := by
          rw [Bool.eq_iff_iff, name_met, decide_eq_true_eq]
        rw [e] at bad good
        refine iteN (fun z => ?_) fun z => ?_
        · k_search "go"
          exact bad (decide_eq_false z)
        · k_search "go"
          exact ⟨good (decide_eq_true z), _, _, rfl⟩
      | some r v =>
        k_search "go"
        refine cv [.val _, .val _] ⟨rfl, ⟨_, _, rfl, rfl⟩, by decide, trivial⟩ ⟨r, v, t.raw, rfl, bx, fun y hy => ⟨b.raw hy, Tm.raw_atom t y hy⟩, rim rfl, ?_⟩
        rw [lmt_eq (raw_nv e)]
        refine ⟨_, rfl, ?_⟩
        cases z : (Tm.some r v).meets t.raw with
        | true =>
          k_search "go"
          exact ⟨good z, _, _, rfl⟩
        | false =>
          k_search "go"
          exact bad z
    · rintro δ2 ⟨hv, a, s, rfl⟩
      k_search "go"
      rw [List.length_map, List.take_length, ← Tm.meets_raw] at hv
      rw [hv] at hQ
      exact hQ
set_option Elab.async false
set_option linter.all false
set_option maxRecDepth 100000
set_option maxHeartbeats 4000001
open PySem L2 LamX NdefX PyProof.Rows GenW Pl
variable {P : Program} {w : World} {K : PySem.W.Frag} {mg : Str → Option Value} {base : Heap} {T : List NTab} {ts : List Str}
theorem ok_lwritten (c : Al K mg base ds fr ts cs) : ∀ h : Nat, Ok P w K mg base (h + 1) "_law_written" ["term"] (spOf K T (F_write h))
  | 0 => by
    have nd := sc__law_written.nd
    have kTOP := c.cs _ (.head _)
    have kBOTTOM := c.cs _ (.tail _ (.head _))
    have kRESERVED := c.cs _ (.tail _ (.tail _ (.tail _ (.tail _ (.tail _ (.head _))))))
    refine ok_of c (.tail _ (.tail _ (.tail _ (.tail _ (.tail _ (.tail _ (.tail _ (.tail _ (.tail _ (.tail _ (.tail _ (.tail _ (.tail _ (.tail _ (.tail _ (.tail _ (.tail _ (.tail _ (.tail _ (.tail _ (.tail _ (.tail _ (.tail _ (.tail _ (.tail _ (.tail _ (.tail _ (.tail _ (.tail _ (.tail _ (.tail _ (.tail _ (.tail _ (.tail _ (.tail _ (.tail _ (.tail _ (.tail _ (.tail _ (.tail _ (.tail _ (.tail _ (.tail _ (.tail _ (.tail _ (.head _)))))))))))))))))))))))))))))))))))))))))))))) (fun _ _ _ _ _ _ us hl => match us, hl with | [_], _ => rfl) sc__law_written (fun as Q h => by first | (obtain ⟨_, rfl, _⟩ := h; rfl) | (obtain ⟨_, _, rfl, _⟩ := h; rfl) | (obtain ⟨_, _, _, rfl, _⟩ := h; rfl) | (obtain ⟨_, _, _, _, rfl, _⟩ := h; rfl) | (obtain ⟨_, _, _, _, _, rfl, _⟩ := h; rfl) | (obtain ⟨_, _, _, _, _, _, rfl, _⟩ := h; rfl) | (obtain ⟨_, _, _, _, _, _, _, rfl, _⟩ := h; rfl) | (obtain ⟨_, _, _, _, _, _, _, _, rfl, _⟩ := h; rfl) | (obtain ⟨_, _, _, _, _, _, _, _, _, rfl, _⟩ := h; rfl) | (obtain ⟨rfl, _⟩ := h; rfl)) fun f cdv A outer s H E hr as Q qs hF hq => ?_
    obtain ⟨t, rfl, b, _⟩ := hF
    exact b.no.elim
  | h + 1 => by
    have h__law_written := ok_lwritten c h
    have nd := sc__law_written.nd
    have kTOP := c.cs _ (.head _)
    have kBOTTOM := c.cs _ (.tail _ (.head _))
    have kRESERVED := c.cs _ (.tail _ (.tail _ (.tail _ (.tail _ (.tail _ (.head _))))))
    refine ok_of c (.tail _ (.tail _ (.tail _ (.tail _ (.tail _ (.tail _ (.tail _ (.tail _ (.tail _ (.tail _ (.tail _ (.tail _ (.tail _ (.tail _ (.tail _ (.tail _ (.tail _ (.tail _ (.tail _ (.tail _ (.tail _ (.tail _ (.tail _ (.tail _ (.tail _ (.tail _ (.tail _ (.tail _ (.tail _ (.tail _ (.tail _ (.tail _ (.tail _ (.tail _ (.tail _ (.tail _ (.tail _ (.tail _ (.tail _ (.tail _ (.tail _ (.tail _ (.tail _ (.tail _ (.tail _ (.head _)))))))))))))))))))))))))))))))))))))))))))))) (fun _ _ _ _ _ _ us hl => match us, hl with | [_], _ => rfl) sc__law_written (fun as Q h => by first | (obtain ⟨_, rfl, _⟩ := h; rfl) | (obtain ⟨_, _, rfl, _⟩ := h; rfl) | (obtain ⟨_, _, _, rfl, _⟩ := h; rfl) | (obtain ⟨_, _, _, _, rfl, _⟩ := h; rfl) | (obtain ⟨_, _, _, _, _, rfl, _⟩ := h; rfl) | (obtain ⟨_, _, _, _, _, _, rfl, _⟩ := h; rfl) | (obtain ⟨_, _, _, _, _, _, _, rfl, _⟩ := h; rfl) | (obtain ⟨_, _, _, _, _, _, _, _, rfl, _⟩ := h; rfl) | (obtain ⟨_, _, _, _, _, _, _, _, _, rfl, _⟩ := h; rfl) | (obtain ⟨rfl, _⟩ := h; rfl)) fun f cdv A outer s H E hr as Q qs hF hq => ?_
    obtain ⟨t, rfl, b, hQ⟩ := hF
    obtain rfl : qs = [] := List.length_eq_zero_iff.mp hq
    refine ⟨_, (pss_cons (ps_if (PW.pt (pw_or (pt_cmpR op_eq (pe_ix (r := rIxT K) ix_tup (pv 0) pe_int (fun _ _ => rfl)) pe_str (nomark _)) (pw_or1 (pt_cmpR op_eq (pe_ix (r := rIxT K) ix_tup (pv 0) pe_int (fun _ _ => rfl)) pe_str (nomark _))))) (pss_one (ps_ret (pe_ix (r := rIxT K) ix_tup (pv 0) pe_int (fun _ _ => rfl)))) pss_nil)
    (pss_cons (ps_if (pt_cmpR op_eq (pe_ix (r := rIxT K) ix_tup (pv 0) pe_int (fun _ _ => rfl)) pe_str (nomark _)) (pss_one (ps_ret (pe_ix (r := rIxT K) ix_tup (pv 0) pe_int (fun _ _ => rfl)))) pss_nil)
    (pss_cons (ps_if (pt_cmpR op_eq (pe_ix (r := rIxT K) ix_tup (pv 0) pe_int (fun _ _ => rfl)) pe_str (nomark _)) (pss_one (ps_ret (pe_joinK (K0 := K) pe_str (pe_lc (own := [("part", 2)]) (g := gName 2) (tt := tYes) rfl nd (pi_tupK (K0 := K) (pe_ix (r := rIxT K) ix_tup (pv 0) pe_int (fun _ _ => rfl))) (blkOk_by (N := ["term", "inner", "part"]) (sc := defScope (top 56)) (by first | decide +kernel | rfl)) (fun _ _ _ _ _ => pg_name (i := 2) nd rfl (by first | exact Or.inl rfl | exact Or.inr rfl)) (fun _ _ _ _ _ => pts_nil) (fun _ _ _ _ _ => (pe_f h__law_written (hr.mono (by omega)) rfl (pa_cons (pv 2) pa_nil))))))) pss_nil)
    (pss_cons (ps_set (i := 1) nd rfl (Or.inl rfl) (pe_f h__law_written (hr.mono (by omega)) rfl (pa_cons (pe_ix (r := rIxT K) ix_tup (pv 0) pe_int (fun _ _ => rfl)) pa_nil)))
    (pss_cons (ps_if (pt_cmpR op_eq (pe_ix (r := rIxT K) ix_tup (pe_ix (r := rIxT K) ix_tup (pv 0) pe_int (fun _ _ => rfl)) pe_int (fun _ _ => rfl)) pe_str (nomark _)) (pss_one (ps_set (i := 1) nd rfl (Or.inl rfl) (pe_op op_add_str (pe_op op_add_str pe_str (pv 1)) pe_str))) pss_nil)
    (pss_one (ps_ret (pe_op op_add_str (pe_op op_add_str (pe_op op_add_str pe_str (pe_ix (r := rIxT K) ix_tup (pv 0) pe_int (fun _ _ => rfl))) pe_str) (pv 1))))))))), ?_⟩
    show Ss K T _ [.val _, .no, .no] _
    cases t with
    | top =>
      k_search "go"
      exact hQ
    | bot =>
      k_search "go"
      exact hQ
    | name x =>
      k_search "go"
      have e : (Tm.name x).wr = x := str_ext (by rw [tl_wr]; rfl)
      rw [e] at hQ
      exact hQ
    | some r t =>
      k_search "go"
      refine cv [.val _] ⟨rfl, trivial⟩ ⟨t, rfl, b.some, rim rfl, ?_⟩
      have hl := b.some.wlen
      have hr12 := b.W.hi
      have fin : ∀ (x : Str), x.cps.toList = t.wlI → (Str.empty ++ "some " ++ r ++ " " ++ x : Str) = (Tm.some r t).wr := fun x hx => str_ext (by
        rw [tl_app, tl_app, tl_app, tl_app, tl_wr, hx, Tm.wl]
        show ((([] ++ [115, 111, 109, 101, 32]) ++ r.cps.toList) ++ [32]) ++ t.wlI = _
        simp [cSome, Tm.wlI])
      have fin2 : ∀ (x : Str), x.cps.toList = t.wlI → ("some " ++ r ++ " " ++ x : Str) = (Tm.some r t).wr := fun x hx => str_ext (by
        rw [tl_app, tl_app, tl_app, tl_wr, hx, Tm.wl]
        show (([115, 111, 109, 101, 32] ++ r.cps.toList) ++ [32]) ++ t.wlI = _
        simp [cSome, Tm.wlI])
      have z1 : ("some " : Str).cps.toList.length = 5 := by decide +kernel
      have z2 : (" " : Str).cps.toList.length = 1 := by decide +kernel
      have z3 : ("(" : Str).cps.toList.length = 1 := by decide +kernel
      have z4 : (")" : Str).cps.toList.length = 1 := by decide +kernel
      cases t with
      | and us =>
        k_search "go"
        rw [← fin2 _ (show ("(" ++ (Tm.and us).wr ++ ")" : Str).cps.toList = _ by
          rw [tl_app, tl_app, tl_wr]
          show ([40] ++ (Tm.and us).wl) ++ [41] = _
          simp [Tm.wlI, Tm.isAnd])] at hQ
        exact hQ
      | _ =>
        k_search "go"
        rw [← fin2 _ (show _ from by rw [tl_wr]; rfl)] at hQ
        exact hQ
    | and us =>
      have gl : Tm.goodL us := b.good
      have hc : Tm.cntL us + 1 ≤ 1000 := b.cnt
      have e1 := sum_wr gl
      have e2 := b.len
      k_search "go"
      refine ex_mapT2 ?_
      k_search "go"
      refine ⟨Tm.dL us, us.map (fun t => .str t.wr), rfl, rfl, by rw [Tm.dL_map, List.length_map]; omega, by rw [Tm.dL_map, List.length_map, List.length_map], fun k d e hd he => ?_, us.map Tm.wr, ?_, ?_, ?_⟩
      · rw [Tm.dL_map] at hd
        obtain ⟨t, ht, rfl⟩ := map_at hd
        rw [List.getElem?_map, ht] at he
        cases he
        k_search "nrm"
        k_search "go"
        exact cv [.val _] ⟨rfl, trivial⟩ ⟨t, rfl, b.and (List.mem_of_getElem? ht), rim rfl, rfl, rfl⟩
      · simp [AsD]
      · have z : (" and " : Str).length = 5 := by decide +kernel
        rw [z, List.length_map]
        omega
      · k_search "go"
        have e : (Tm.and us).wr = Txt.join " and " (us.map Tm.wr) := str_ext (by
          rw [tl_wr, Tm.wl, join_tl _ us (by decide +kernel)])
        rw [e] at hQ
        exact hQ
set_option Elab.async false
set_option linter.all false
set_option maxRecDepth 100000
set_option maxHeartbeats 4000001
open PySem L2 LamX NdefX PyProof.Rows GenW Pl
variable {P : Program} {w : World} {K : PySem.W.Frag} {mg : Str → Option Value} {base : Heap} {T : List NTab} {ts : List Str}
theorem sum_sz : ∀ us : List Tm, (us.map fun t => ((t.sz : Nat) : Int)).sum = ((Tm.szL us : Nat) : Int)
  | [] => rfl
  | t :: ts => by rw [List.map_cons, List.sum_cons, sum_sz ts, Tm.szL]; omega
theorem sum_cnt : ∀ us : List Tm, (us.map fun t => ((t.cnt : Nat) : Int)).sum = ((Tm.cntL us : Nat) : Int)
  | [] => rfl
  | t :: ts => by rw [List.map_cons, List.sum_cons, sum_cnt ts, Tm.cntL]; omega
theorem max_ht : ∀ us : List Tm, ((Tm.htL us : Nat) : Int) ∈ (0 : Int) :: us.map (fun t => ((t.ht : Nat) : Int))
  | [] => by simp [Tm.htL]
  | t :: ts => by
    have h := max_ht ts
    rw [Tm.htL]
    rcases Nat.le_total t.ht (Tm.htL ts) with q | q
    · rw [Nat.max_eq_right q]
      rcases List.mem_cons.mp h with e | e
      · rw [e]; exact List.mem_cons_self
      · exact List.mem_cons_of_mem _ (List.mem_cons_of_mem _ e)
    · rw [Nat.max_eq_left q]
      exact List.mem_cons_of_mem _ List.mem_cons_self
def F_cnt (h : Nat) : FS := fun as Q => ∃ t : Tm, as = [.val t.d] ∧ Tb h t ∧ Q (.val (.int t.cnt)) []
def F_ht (h : Nat) : FS := fun as Q => ∃ t : Tm, as = [.val t.d] ∧ Tb h t ∧ Q (.val (.int t.ht)) []
theorem ok_lsize (c : Al K mg base ds fr ts cs) : ∀ h : Nat, Ok P w K mg base (h + 1) "_law_size" ["term"] (spOf K T (F_nsize h))
  | 0 => by
    have nd := sc__law_size.nd
    have kTOP := c.cs _ (.head _)
    have kBOTTOM := c.cs _ (.tail _ (.head _))
    have kRESERVED := c.cs _ (.tail _ (.tail _ (.tail _ (.tail _ (.tail _ (.head _))))))
    refine ok_of c (.tail _ (.tail _ (.tail _ (.tail _ (.tail _ (.tail _ (.tail _ (.tail _ (.tail _ (.tail _ (.tail _ (.tail _ (.tail _ (.tail _ (.tail _ (.tail _ (.tail _ (.tail _ (.tail _ (.tail _ (.tail _ (.tail _ (.tail _ (.tail _ (.tail _ (.tail _ (.tail _ (.tail _ (.tail _ (.tail _ (.tail _ (.tail _ (.tail _ (.tail _ (.tail _ (.tail _ (.tail _ (.tail _ (.tail _ (.tail _ (.tail _ (.tail _ (.tail _ (.tail _ (.tail _ (.tail _ (.tail _ (.tail _ (.tail _ (.head _)))))))))))))))))))))))))))))))))))))))))))))))))) (fun _ _ _ _ _ _ us hl => match us, hl with | [_], _ => rfl) sc__law_size (fun as Q h => by first | (obtain ⟨_, rfl, _⟩ := h; rfl) | (obtain ⟨_, _, rfl, _⟩ := h; rfl) | (obtain ⟨_, _, _, rfl, _⟩ := h; rfl) | (obtain ⟨_, _, _, _, rfl, _⟩ := h; rfl) | (obtain ⟨_, _, _, _, _, rfl, _⟩ := h; rfl) | (obtain ⟨_, _, _, _, _, _, rfl, _⟩ := h; rfl) | (obtain ⟨_, _, _, _, _, _, _, rfl, _⟩ := h; rfl) | (obtain ⟨_, _, _, _, _, _, _, _, rfl, _⟩ := h; rfl) | (obtain ⟨_, _, _, _, _, _, _, _, _, rfl, _⟩ := h; rfl) | (obtain ⟨rfl, _⟩ := h; rfl)) fun f cdv A outer s H E hr as Q qs hF hq => ?_
    obtain ⟨t, rfl, b, _⟩ := hF
    exact b.no.elim
  | h + 1 => by
    have h__law_size := ok_lsize c h
    have nd := sc__law_size.nd
    have kTOP := c.cs _ (.head _)
    have kBOTTOM := c.cs _ (.tail _ (.head _))
    have kRESERVED := c.cs _ (.tail _ (.tail _ (.tail _ (.tail _ (.tail _ (.head _))))))
    refine ok_of c (.tail _ (.tail _ (.tail _ (.tail _ (.tail _ (.tail _ (.tail _ (.tail _ (.tail _ (.tail _ (.tail _ (.tail _ (.tail _ (.tail _ (.tail _ (.tail _ (.tail _ (.tail _ (.tail _ (.tail _ (.tail _ (.tail _ (.tail _ (.tail _ (.tail _ (.tail _ (.tail _ (.tail _ (.tail _ (.tail _ (.tail _ (.tail _ (.tail _ (.tail _ (.tail _ (.tail _ (.tail _ (.tail _ (.tail _ (.tail _ (.tail _ (.tail _ (.tail _ (.tail _ (.tail _ (.tail _ (.tail _ (.tail _ (.tail _ (.head _)))))))))))))))))))))))))))))))))))))))))))))))))) (fun _ _ _ _ _ _ us hl => match us, hl with | [_], _ => rfl) sc__law_size (fun as Q h => by first | (obtain ⟨_, rfl, _⟩ := h; rfl) | (obtain ⟨_, _, rfl, _⟩ := h; rfl) | (obtain ⟨_, _, _, rfl, _⟩ := h; rfl) | (obtain ⟨_, _, _, _, rfl, _⟩ := h; rfl) | (obtain ⟨_, _, _, _, _, rfl, _⟩ := h; rfl) | (obtain ⟨_, _, _, _, _, _, rfl, _⟩ := h; rfl) | (obtain ⟨_, _, _, _, _, _, _, rfl, _⟩ := h; rfl) | (obtain ⟨_, _, _, _, _, _, _, _, rfl, _⟩ := h; rfl) | (obtain ⟨_, _, _, _, _, _, _, _, _, rfl, _⟩ := h; rfl) | (obtain ⟨rfl, _⟩ := h; rfl)) fun f cdv A outer s H E hr as Q qs hF hq => ?_
    obtain ⟨t, rfl, b, hQ⟩ := hF
    obtain rfl : qs = [] := List.length_eq_zero_iff.mp hq
    refine ⟨_, (pss_cons (ps_if (pt_cmpR op_eq (pe_ix (r := rIxT K) ix_tup (pv 0) pe_int (fun _ _ => rfl)) pe_str (nomark _)) (pss_one (ps_ret (pe_callB (r := rSum K) (cr_sum rfl) rfl (c.fr _ (.tail _ (.tail _ (.tail _ (.tail _ (.tail _ (.tail _ (.tail _ (.tail _ (.head _)))))))))) PyProof.Rows.boot_sum (pa_cons (pe_lc (own := [("part", 1)]) (g := gName 1) (tt := tYes) rfl nd (pi_tupK (K0 := K) (pe_ix (r := rIxT K) ix_tup (pv 0) pe_int (fun _ _ => rfl))) (blkOk_by (N := ["term", "part"]) (sc := defScope (top 60)) (by first | decide +kernel | rfl)) (fun _ _ _ _ _ => pg_name (i := 1) nd rfl (by first | exact Or.inl rfl | exact Or.inr rfl)) (fun _ _ _ _ _ => pts_nil) (fun _ _ _ _ _ => (pe_f h__law_size (hr.mono (by omega)) rfl (pa_cons (pv 1) pa_nil)))) pa_nil)))) pss_nil)
    (pss_cons (ps_if (pt_cmpR op_eq (pe_ix (r := rIxT K) ix_tup (pv 0) pe_int (fun _ _ => rfl)) pe_str (nomark _)) (pss_one (ps_ret (pe_op op_add pe_int (pe_f h__law_size (hr.mono (by omega)) rfl (pa_cons (pe_ix (r := rIxT K) ix_tup (pv 0) pe_int (fun _ _ => rfl)) pa_nil))))) pss_nil)
    (pss_one (ps_ret (pe_callTy call_int1 rfl (c.fr _ (.tail _ (.tail _ (.tail _ (.tail _ (.tail _ (.tail _ (.tail _ (.head _))))))))) PyProof.Rows.boot_int (pa_cons (pe_cmpR op_eq (pe_ix (r := rIxT K) ix_tup (pv 0) pe_int (fun _ _ => rfl)) pe_str (nomark _)) pa_nil)))))), ?_⟩
    show Ss K T _ [.val _, .no] _
    cases t with
    | some r t =>
      k_search "go"
      refine cv [.val _] ⟨rfl, trivial⟩ ⟨t, rfl, b.some, rim rfl, ?_⟩
      k_search "go"
      have e : (1 : Int) + ((t.sz : Nat) : Int) = (((Tm.some r t).sz : Nat) : Int) := by show _ = ((t.sz + 1 : Nat) : Int); omega
      rw [e]
      exact hQ
    | and us =>
      have hl := b.len
      k_search "go"
      refine ex_mapT2 ?_
      k_search "go"
      refine ⟨Tm.dL us, (us.map fun t => ((t.sz : Nat) : Int)).map .int, rfl, rfl, by rw [Tm.dL_map, List.length_map]; omega, by rw [Tm.dL_map, List.length_map, List.length_map, List.length_map], fun k d e hd he => ?_, ?_⟩
      · rw [Tm.dL_map] at hd
        obtain ⟨t, ht, rfl⟩ := map_at hd
        rw [List.map_map, List.getElem?_map, ht] at he
        cases he
        k_search "nrm"
        k_search "go"
        exact cv [.val _] ⟨rfl, trivial⟩ ⟨t, rfl, b.and (List.mem_of_getElem? ht), rim rfl, rfl, rfl⟩
      k_search "go"
      refine cb_sum ?_
      k_search "go"
      rw [sum_sz]
      exact hQ
    | _ =>
      k_search "go"
      exact hQ
theorem ok_lcount (c : Al K mg base ds fr ts cs) : ∀ h : Nat, Ok P w K mg base (h + 1) "_law_count" ["term"] (spOf K T (F_cnt h))
  | 0 => by
    have nd := sc__law_count.nd
    have kTOP := c.cs _ (.head _)
    have kBOTTOM := c.cs _ (.tail _ (.head _))
    have kRESERVED := c.cs _ (.tail _ (.tail _ (.tail _ (.tail _ (.tail _ (.head _))))))
    refine ok_of c (.tail _ (.tail _ (.tail _ (.tail _ (.tail _ (.tail _ (.tail _ (.tail _ (.tail _ (.tail _ (.tail _ (.tail _ (.tail _ (.tail _ (.tail _ (.tail _ (.tail _ (.tail _ (.tail _ (.tail _ (.tail _ (.tail _ (.tail _ (.tail _ (.tail _ (.tail _ (.tail _ (.tail _ (.tail _ (.tail _ (.tail _ (.tail _ (.tail _ (.tail _ (.tail _ (.tail _ (.tail _ (.tail _ (.head _))))))))))))))))))))))))))))))))))))))) (fun _ _ _ _ _ _ us hl => match us, hl with | [_], _ => rfl) sc__law_count (fun as Q h => by first | (obtain ⟨_, rfl, _⟩ := h; rfl) | (obtain ⟨_, _, rfl, _⟩ := h; rfl) | (obtain ⟨_, _, _, rfl, _⟩ := h; rfl) | (obtain ⟨_, _, _, _, rfl, _⟩ := h; rfl) | (obtain ⟨_, _, _, _, _, rfl, _⟩ := h; rfl) | (obtain ⟨_, _, _, _, _, _, rfl, _⟩ := h; rfl) | (obtain ⟨_, _, _, _, _, _, _, rfl, _⟩ := h; rfl) | (obtain ⟨_, _, _, _, _, _, _, _, rfl, _⟩ := h; rfl) | (obtain ⟨_, _, _, _, _, _, _, _, _, rfl, _⟩ := h; rfl) | (obtain ⟨rfl, _⟩ := h; rfl)) fun f cdv A outer s H E hr as Q qs hF hq => ?_
    obtain ⟨t, rfl, b, _⟩ := hF
    exact b.no.elim
  | h + 1 => by
    have h__law_count := ok_lcount c h
    have nd := sc__law_count.nd
    have kTOP := c.cs _ (.head _)
    have kBOTTOM := c.cs _ (.tail _ (.head _))
    have kRESERVED := c.cs _ (.tail _ (.tail _ (.tail _ (.tail _ (.tail _ (.head _))))))
    refine ok_of c (.tail _ (.tail _ (.tail _ (.tail _ (.tail _ (.tail _ (.tail _ (.tail _ (.tail _ (.tail _ (.tail _ (.tail _ (.tail _ (.tail _ (.tail _ (.tail _ (.tail _ (.tail _ (.tail _ (.tail _ (.tail _ (.tail _ (.tail _ (.tail _ (.tail _ (.tail _ (.tail _ (.tail _ (.tail _ (.tail _ (.tail _ (.tail _ (.tail _ (.tail _ (.tail _ (.tail _ (.tail _ (.tail _ (.head _))))))))))))))))))))))))))))))))))))))) (fun _ _ _ _ _ _ us hl => match us, hl with | [_], _ => rfl) sc__law_count (fun as Q h => by first | (obtain ⟨_, rfl, _⟩ := h; rfl) | (obtain ⟨_, _, rfl, _⟩ := h; rfl) | (obtain ⟨_, _, _, rfl, _⟩ := h; rfl) | (obtain ⟨_, _, _, _, rfl, _⟩ := h; rfl) | (obtain ⟨_, _, _, _, _, rfl, _⟩ := h; rfl) | (obtain ⟨_, _, _, _, _, _, rfl, _⟩ := h; rfl) | (obtain ⟨_, _, _, _, _, _, _, rfl, _⟩ := h; rfl) | (obtain ⟨_, _, _, _, _, _, _, _, rfl, _⟩ := h; rfl) | (obtain ⟨_, _, _, _, _, _, _, _, _, rfl, _⟩ := h; rfl) | (obtain ⟨rfl, _⟩ := h; rfl)) fun f cdv A outer s H E hr as Q qs hF hq => ?_
    obtain ⟨t, rfl, b, hQ⟩ := hF
    obtain rfl : qs = [] := List.length_eq_zero_iff.mp hq
    refine ⟨_, (pss_cons (ps_if (pt_cmpR op_eq (pe_ix (r := rIxT K) ix_tup (pv 0) pe_int (fun _ _ => rfl)) pe_str (nomark _)) (pss_one (ps_ret (pe_op op_add pe_int (pe_f h__law_count (hr.mono (by omega)) rfl (pa_cons (pe_ix (r := rIxT K) ix_tup (pv 0) pe_int (fun _ _ => rfl)) pa_nil))))) pss_nil)
    (pss_cons (ps_if (pt_cmpR op_eq (pe_ix (r := rIxT K) ix_tup (pv 0) pe_int (fun _ _ => rfl)) pe_str (nomark _)) (pss_one (ps_ret (pe_op op_add pe_int (pe_callB (r := rSum K) (cr_sum rfl) rfl (c.fr _ (.tail _ (.tail _ (.tail _ (.tail _ (.tail _ (.tail _ (.tail _ (.tail _ (.head _)))))))))) PyProof.Rows.boot_sum (pa_cons (pe_lc (own := [("part", 1)]) (g := gName 1) (tt := tYes) rfl nd (pi_tupK (K0 := K) (pe_ix (r := rIxT K) ix_tup (pv 0) pe_int (fun _ _ => rfl))) (blkOk_by (N := ["term", "part"]) (sc := defScope (top 49)) (by first | decide +kernel | rfl)) (fun _ _ _ _ _ => pg_name (i := 1) nd rfl (by first | exact Or.inl rfl | exact Or.inr rfl)) (fun _ _ _ _ _ => pts_nil) (fun _ _ _ _ _ => (pe_f h__law_count (hr.mono (by omega)) rfl (pa_cons (pv 1) pa_nil)))) pa_nil))))) pss_nil)
    (pss_one (ps_ret pe_int)))), ?_⟩
    show Ss K T _ [.val _, .no] _
    cases t with
    | some r t =>
      k_search "go"
      refine cv [.val _] ⟨rfl, trivial⟩ ⟨t, rfl, b.some, rim rfl, ?_⟩
      k_search "go"
      have e : (1 : Int) + ((t.cnt : Nat) : Int) = (((Tm.some r t).cnt : Nat) : Int) := by show _ = ((t.cnt + 1 : Nat) : Int); omega
      rw [e]
      exact hQ
    | and us =>
      have hl := b.len
      k_search "go"
      refine ex_mapT2 ?_
      k_search "go"
      refine ⟨Tm.dL us, (us.map fun t => ((t.cnt : Nat) : Int)).map .int, rfl, rfl, by rw [Tm.dL_map, List.length_map]; omega, by rw [Tm.dL_map, List.length_map, List.length_map, List.length_map], fun k d e hd he => ?_, ?_⟩
      · rw [Tm.dL_map] at hd
        obtain ⟨t, ht, rfl⟩ := map_at hd
        rw [List.map_map, List.getElem?_map, ht] at he
        cases he
        k_search "nrm"
        k_search "go"
        exact cv [.val _] ⟨rfl, trivial⟩ ⟨t, rfl, b.and (List.mem_of_getElem? ht), rim rfl, rfl, rfl⟩
      k_search "go"
      refine cb_sum ?_
      k_search "go"
      rw [sum_cnt]
      have e : (1 : Int) + ((Tm.cntL us : Nat) : Int) = (((Tm.and us).cnt : Nat) : Int) := by show _ = ((Tm.cntL us + 1 : Nat) : Int); omega
      rw [e]
      exact hQ
    | _ =>
      k_search "go"
      exact hQ
theorem ok_lheight (c : Al K mg base ds fr ts cs) : ∀ h : Nat, Ok P w K mg base (h + 1) "_law_height" ["term"] (spOf K T (F_ht h))
  | 0 => by
    have nd := sc__law_height.nd
    have kTOP := c.cs _ (.head _)
    have kBOTTOM := c.cs _ (.tail _ (.head _))
    have kRESERVED := c.cs _ (.tail _ (.tail _ (.tail _ (.tail _ (.tail _ (.head _))))))
    refine ok_of c (.tail _ (.tail _ (.tail _ (.tail _ (.tail _ (.tail _ (.tail _ (.tail _ (.tail _ (.tail _ (.tail _ (.tail _ (.tail _ (.tail _ (.tail _ (.tail _ (.tail _ (.tail _ (.tail _ (.tail _ (.tail _ (.tail _ (.tail _ (.tail _ (.tail _ (.tail _ (.tail _ (.tail _ (.tail _ (.tail _ (.tail _ (.tail _ (.tail _ (.tail _ (.tail _ (.tail _ (.tail _ (.tail _ (.tail _ (.head _)))))))))))))))))))))))))))))))))))))))) (fun _ _ _ _ _ _ us hl => match us, hl with | [_], _ => rfl) sc__law_height (fun as Q h => by first | (obtain ⟨_, rfl, _⟩ := h; rfl) | (obtain ⟨_, _, rfl, _⟩ := h; rfl) | (obtain ⟨_, _, _, rfl, _⟩ := h; rfl) | (obtain ⟨_, _, _, _, rfl, _⟩ := h; rfl) | (obtain ⟨_, _, _, _, _, rfl, _⟩ := h; rfl) | (obtain ⟨_, _, _, _, _, _, rfl, _⟩ := h; rfl) | (obtain ⟨_, _, _, _, _, _, _, rfl, _⟩ := h; rfl) | (obtain ⟨_, _, _, _, _, _, _, _, rfl, _⟩ := h; rfl) | (obtain ⟨_, _, _, _, _, _, _, _, _, rfl, _⟩ := h; rfl) | (obtain ⟨rfl, _⟩ := h; rfl)) fun f cdv A outer s H E hr as Q qs hF hq => ?_
    obtain ⟨t, rfl, b, _⟩ := hF
    exact b.no.elim
  | h + 1 => by
    have h__law_height := ok_lheight c h
    have nd := sc__law_height.nd
    have kTOP := c.cs _ (.head _)
    have kBOTTOM := c.cs _ (.tail _ (.head _))
    have kRESERVED := c.cs _ (.tail _ (.tail _ (.tail _ (.tail _ (.tail _ (.head _))))))
    refine ok_of c (.tail _ (.tail _ (.tail _ (.tail _ (.tail _ (.tail _ (.tail _ (.tail _ (.tail _ (.tail _ (.tail _ (.tail _ (.tail _ (.tail _ (.tail _ (.tail _ (.tail _ (.tail _ (.tail _ (.tail _ (.tail _ (.tail _ (.tail _ (.tail _ (.tail _ (.tail _ (.tail _ (.tail _ (.tail _ (.tail _ (.tail _ (.tail _ (.tail _ (.tail _ (.tail _ (.tail _ (.tail _ (.tail _ (.tail _ (.head _)))))))))))))))))))))))))))))))))))))))) (fun _ _ _ _ _ _ us hl => match us, hl with | [_], _ => rfl) sc__law_height (fun as Q h => by first | (obtain ⟨_, rfl, _⟩ := h; rfl) | (obtain ⟨_, _, rfl, _⟩ := h; rfl) | (obtain ⟨_, _, _, rfl, _⟩ := h; rfl) | (obtain ⟨_, _, _, _, rfl, _⟩ := h; rfl) | (obtain ⟨_, _, _, _, _, rfl, _⟩ := h; rfl) | (obtain ⟨_, _, _, _, _, _, rfl, _⟩ := h; rfl) | (obtain ⟨_, _, _, _, _, _, _, rfl, _⟩ := h; rfl) | (obtain ⟨_, _, _, _, _, _, _, _, rfl, _⟩ := h; rfl) | (obtain ⟨_, _, _, _, _, _, _, _, _, rfl, _⟩ := h; rfl) | (obtain ⟨rfl, _⟩ := h; rfl)) fun f cdv A outer s H E hr as Q qs hF hq => ?_
    obtain ⟨t, rfl, b, hQ⟩ := hF
    obtain rfl : qs = [] := List.length_eq_zero_iff.mp hq
    refine ⟨_, (pss_cons (ps_if (pt_cmpR op_eq (pe_ix (r := rIxT K) ix_tup (pv 0) pe_int (fun _ _ => rfl)) pe_str (nomark _)) (pss_one (ps_ret (pe_op op_add pe_int (pe_f h__law_height (hr.mono (by omega)) rfl (pa_cons (pe_ix (r := rIxT K) ix_tup (pv 0) pe_int (fun _ _ => rfl)) pa_nil))))) pss_nil)
    (pss_cons (ps_if (pt_cmpR op_eq (pe_ix (r := rIxT K) ix_tup (pv 0) pe_int (fun _ _ => rfl)) pe_str (nomark _)) (pss_one (ps_ret (pe_op op_add pe_int (pe_callB (r := rMax K) (cr_max rfl) rfl (c.fr _ (.tail _ (.tail _ (.tail _ (.tail _ (.tail _ (.tail _ (.tail _ (.tail _ (.tail _ (.tail _ (.tail _ (.tail _ (.head _)))))))))))))) PyProof.Rows.boot_max (pa_cons (pe_op (r := rCatS K) op_catS (pe_lst (pa_cons pe_int pa_nil)) (pe_lc (own := [("part", 1)]) (g := gName 1) (tt := tYes) rfl nd (pi_tupK (K0 := K) (pe_ix (r := rIxT K) ix_tup (pv 0) pe_int (fun _ _ => rfl))) (blkOk_by (N := ["term", "part"]) (sc := defScope (top 50)) (by first | decide +kernel | rfl)) (fun _ _ _ _ _ => pg_name (i := 1) nd rfl (by first | exact Or.inl rfl | exact Or.inr rfl)) (fun _ _ _ _ _ => pts_nil) (fun _ _ _ _ _ => (pe_f h__law_height (hr.mono (by omega)) rfl (pa_cons (pv 1) pa_nil))))) pa_nil))))) pss_nil)
    (pss_one (ps_ret pe_int)))), ?_⟩
    show Ss K T _ [.val _, .no] _
    cases t with
    | some r t =>
      k_search "go"
      refine cv [.val _] ⟨rfl, trivial⟩ ⟨t, rfl, b.some, rim rfl, ?_⟩
      k_search "go"
      have e : (1 : Int) + ((t.ht : Nat) : Int) = (((Tm.some r t).ht : Nat) : Int) := by show _ = ((t.ht + 1 : Nat) : Int); omega
      rw [e]
      exact hQ
    | and us =>
      have hl := b.len
      k_search "go"
      refine ex_mapT2 ?_
      k_search "go"
      refine ⟨Tm.dL us, (us.map fun t => ((t.ht : Nat) : Int)).map .int, rfl, rfl, by rw [Tm.dL_map, List.length_map]; omega, by rw [Tm.dL_map, List.length_map, List.length_map, List.length_map], fun k d e hd he => ?_, ?_⟩
      · rw [Tm.dL_map] at hd
        obtain ⟨t, ht, rfl⟩ := map_at hd
        rw [List.map_map, List.getElem?_map, ht] at he
        cases he
        k_search "nrm"
        k_search "go"
        exact cv [.val _] ⟨rfl, trivial⟩ ⟨t, rfl, b.and (List.mem_of_getElem? ht), rim rfl, rfl, rfl⟩
      k_search "go"
      refine opd_catL (by rfl) (imm_ints _) (by rw [List.length_map, List.length_map]; show 1 + _ ≤ _; omega) ?_
      k_search "go"
      show CbD K (rMax K) [.list (((0 : Int) :: us.map (fun t => ((t.ht : Nat) : Int))).map .int)] _
      refine cb_max (m := ((Tm.htL us : Nat) : Int)) (max_ht us) (fun y hy => ?_) ?_
      · rcases List.mem_cons.mp hy with e | e
        · rw [e]; omega
        · obtain ⟨t, ht, rfl⟩ := List.mem_map.mp e
          have := Tm.htL_le ht
          omega
      k_search "go"
      have e : (1 : Int) + ((Tm.htL us : Nat) : Int) = (((Tm.and us).ht : Nat) : Int) := by show _ = ((Tm.htL us + 1 : Nat) : Int); omega
      rw [e]
      exact hQ
    | _ =>
      k_search "go"
      exact hQ
def within (t p : Tm) : Tm := if 37 < t.cnt ∨ 11 < t.ht then .and [.top, p] else t
def F_within (h : Nat) : FS := fun as Q => ∃ t p : Tm, as = [.val t.d, .val p.d] ∧ Tb h t ∧ Q (.val (within t p).d) []
theorem ok_lwithin (c : Al K mg base ds fr ts cs) (h n m : Nat) (h__law_count : Ok P w K mg base n "_law_count" ["term"] (spOf K T (F_cnt h))) (h__law_height : Ok P w K mg base m "_law_height" ["term"] (spOf K T (F_ht h))) :
    Ok P w K mg base (max n m + 1) "_law_within" ["term", "plain"] (spOf K T (F_within h)) := by
  have nd := sc__law_within.nd
  have kTOP := c.cs _ (.head _)
  have kBOTTOM := c.cs _ (.tail _ (.head _))
  have kRESERVED := c.cs _ (.tail _ (.tail _ (.tail _ (.tail _ (.tail _ (.head _))))))
  refine ok_of c (.tail _ (.tail _ (.tail _ (.tail _ (.tail _ (.tail _ (.tail _ (.tail _ (.tail _ (.tail _ (.tail _ (.tail _ (.tail _ (.tail _ (.tail _ (.tail _ (.tail _ (.tail _ (.tail _ (.tail _ (.tail _ (.tail _ (.tail _ (.tail _ (.tail _ (.tail _ (.tail _ (.tail _ (.tail _ (.tail _ (.tail _ (.tail _ (.tail _ (.tail _ (.tail _ (.tail _ (.tail _ (.tail _ (.tail _ (.tail _ (.head _))))))))))))))))))))))))))))))))))))))))) (fun _ _ _ _ _ _ us hl => match us, hl with | [_, _], _ => rfl) sc__law_within (fun as Q h => by first | (obtain ⟨_, rfl, _⟩ := h; rfl) | (obtain ⟨_, _, rfl, _⟩ := h; rfl) | (obtain ⟨_, _, _, rfl, _⟩ := h; rfl) | (obtain ⟨_, _, _, _, rfl, _⟩ := h; rfl) | (obtain ⟨_, _, _, _, _, rfl, _⟩ := h; rfl) | (obtain ⟨_, _, _, _, _, _, rfl, _⟩ := h; rfl) | (obtain ⟨_, _, _, _, _, _, _, rfl, _⟩ := h; rfl) | (obtain ⟨_, _, _, _, _, _, _, _, rfl, _⟩ := h; rfl) | (obtain ⟨_, _, _, _, _, _, _, _, _, rfl, _⟩ := h; rfl) | (obtain ⟨rfl, _⟩ := h; rfl)) fun f cdv A outer s H E hr as Q qs hF hq => ?_
  obtain ⟨t, p, rfl, b, hQ⟩ := hF
  obtain rfl : qs = [] := List.length_eq_zero_iff.mp hq
  refine ⟨_, (pss_cons (ps_if (PW.pt (pw_or (pt_cmpR op_gt (pe_f h__law_count (hr.mono (by omega)) rfl (pa_cons (pv 0) pa_nil)) pe_int (nomark _)) (pw_or1 (pt_cmpR op_gt (pe_f h__law_height (hr.mono (by omega)) rfl (pa_cons (pv 0) pa_nil)) pe_int (nomark _))))) (pss_one (ps_ret (pe_tup (pa_cons pe_str (pa_cons (pe_tup (pa_cons (pe_tup (pa_cons pe_str pa_nil)) (pa_cons (pv 1) pa_nil))) pa_nil))))) pss_nil)
    (pss_one (ps_ret (pv 0)))), ?_⟩
  show Ss K T _ [.val _, .val _] _
  have yes : 37 < t.cnt ∨ 11 < t.ht → Q (.val (.tuple [.str "and", .tuple [.tuple [.str "top"], p.d]])) [] := fun q => by
    have e : within t p = .and [.top, p] := by unfold within; rw [if_pos q]
    rw [e] at hQ
    exact hQ
  k_search "go"
  refine cv [.val _] ⟨rfl, trivial⟩ ⟨t, rfl, b, rim rfl, ?_⟩
  k_search "go"
  refine iteD (fun q => ?_) fun q => ?_
  · k_search "go"
    exact yes (.inl (by omega))
  · k_search "go"
    refine cv [.val _] ⟨rfl, trivial⟩ ⟨t, rfl, b, rim rfl, ?_⟩
    k_search "go"
    refine iteD (fun q2 => ?_) fun q2 => ?_
    · k_search "go"
      exact yes (.inr (by omega))
    · k_search "go"
      have e : within t p = t := by unfold within; rw [if_neg (by omega)]
      rw [e] at hQ
      exact hQ
set_option Elab.async false
set_option linter.all false
set_option maxRecDepth 100000
set_option maxHeartbeats 4000001
open PySem L2 LamX NdefX PyProof.Rows GenW Pl
variable {P : Program} {w : World} {K : PySem.W.Frag} {mg : Str → Option Value} {base : Heap} {T : List NTab} {ts : List Str}
theorem ok_both (c : Al K mg base ds fr ts cs) (h n : Nat) (h_check_term : OkF P w K mg base T 4 "check_term" ["value"] F_check_term) (h_make_normal : OkF P w K mg base T n "make_normal" ["term"] (F_nf h)) :
    OkV P w K mg base (max 4 n + 1) "both" (spV 4 (spOf K T (F_both h))) := by
  have nd := sc_both.nd
  refine okV_of c (pv := "terms") (st := top 26) (by simp only [ds]; exact (.tail _ (.tail _ (.tail _ (.tail _ (.tail _ (.tail _ (.tail _ (.tail _ (.tail _ (.tail _ (.tail _ (.tail _ (.tail _ (.tail _ (.tail _ (.tail _ (.head _)))))))))))))))))) (by decide) (fun _ _ _ _ _ _ rest hl => ?_) sc_both (fun as Q h => by obtain ⟨_, rfl, _⟩ := h; rfl) fun f cdv A outer s H E hr as Q qs hF hq => ?_
  · match rest, hl with
    | [], _ => rfl
    | [_], _ => rfl
    | [_, _], _ => rfl
    | [_, _, _], _ => rfl
    | [_, _, _, _], _ => rfl
    | _ :: _ :: _ :: _ :: _ :: _, hl => exact absurd hl (by simp)
  obtain ⟨us, rfl, b, hQ⟩ := hF
  obtain rfl : qs = [] := List.length_eq_zero_iff.mp hq
  refine ⟨_, (pss_cons (ps_for PassesOwn.never rfl (pi_tupK (K0 := K) (pv 0)) (pg_name (i := 1) nd rfl (Or.inl rfl)) (pss_one (ps_expr (pe_f h_check_term (hr.mono (by omega)) rfl (pa_cons (pv 1) pa_nil)))))
    (pss_one (ps_ret (pe_f h_make_normal (hr.mono (by omega)) rfl (pa_cons (pe_tup (pa_cons pe_str (pa_cons (pe_callTy (r := rTupOf K) call_tuple_of rfl (c.fr _ (.tail _ (.tail _ (.tail _ (.tail _ (.head _)))))) PyProof.Rows.boot_tuple (pa_cons (pv 0) pa_nil)) pa_nil))) pa_nil))))), ?_⟩
  show Ss K T _ [.val _, .no] _
  k_search "go"
  have sub : ∀ t ∈ us, Tb h t := fun t m => by
    cases h with
    | zero => exact b.no.elim
    | succ h => exact (b.and m).mono (Nat.le_succ h)
  refine go_forT (us.map Tm.d) (fun k δ => ∃ s, δ = [.val (.tuple (us.map Tm.d)), s]) ?_ ?_ ?_
  · k_search "go"
    exact ⟨rfl, _, rfl⟩
  · rintro k d δ2 hk ⟨s, rfl⟩
    obtain ⟨u, hu, rfl⟩ := map_at hk
    have m := List.mem_of_getElem? hu
    k_search "nrm"
    k_search "go"
    refine cv [.val _] ⟨rfl, trivial⟩ ⟨u, h, rfl, sub u m, rim rfl, _, rfl⟩
  · rintro δ2 ⟨s, rfl⟩
    k_search "go"
    refine cb_tupT tm_imm ?_
    k_search "go"
    refine cv [.val _] ⟨rfl, trivial⟩ ⟨.and us, ?_, b, rim (Tm.imm_d _), ?_⟩
    · rw [← Tm.dL_map]; rfl
    k_search "go"
    exact hQ
set_option Elab.async false
set_option linter.all false
set_option maxRecDepth 100000
set_option maxHeartbeats 4000001
open PySem L2 LamX NdefX PyProof.Rows GenW Pl
variable {P : Program} {w : World} {K : PySem.W.Frag} {mg : Str → Option Value} {base : Heap} {T : List NTab} {ts : List Str}
def F_row (h : Nat) : FS := fun as Q => ∃ ks : List Tm, as = [.val (.list (ks.map Tm.d))] ∧ NR h ks ∧ ks ≠ [] ∧ Q (.val (.bool true)) []
def F_isn (h : Nat) : FS := fun as Q => ∃ v : Tm, as = [.val v.nf.d] ∧ v.good ∧ Tb h v.nf ∧ Q (.val (.bool true)) []
theorem keys_at {ks : List Tm} {n : Nat} {a : Tm} (h : ks[n]? = some a) : (ks.map Tm.keyD)[n]? = some a.keyD := by rw [List.getElem?_map, h]; rfl
theorem ok_normal_law (c : Al K mg base ds fr ts cs) (H0 n1 n2 : Nat) (h__law_under : Ok P w K mg base n1 "_law_under" ["one", "other"] (spOf K T (F_below H0))) (h__law_written : Ok P w K mg base n2 "_law_written" ["term"] (spOf K T (F_write H0))) : ∀ h : Nat, h ≤ H0 →
    Ok P w K mg base (max n1 n2 + 2 * h + 1) "_law_row_is_normal" ["parts"] (spOf K T (F_row h)) ∧ Ok P w K mg base (max n1 n2 + 2 * h + 1 + 1) "_law_is_normal" ["term"] (spOf K T (F_isn h))
  | 0, _ => by
    refine ⟨?_, ?_⟩
    next =>
      have nd := sc__law_row_is_normal.nd
      have kTOP := c.cs _ (.head _)
      have kBOTTOM := c.cs _ (.tail _ (.head _))
      have kRESERVED := c.cs _ (.tail _ (.tail _ (.tail _ (.tail _ (.tail _ (.head _))))))
      refine ok_of c (.tail _ (.tail _ (.tail _ (.tail _ (.tail _ (.tail _ (.tail _ (.tail _ (.tail _ (.tail _ (.tail _ (.tail _ (.tail _ (.tail _ (.tail _ (.tail _ (.tail _ (.tail _ (.tail _ (.tail _ (.tail _ (.tail _ (.tail _ (.tail _ (.tail _ (.tail _ (.tail _ (.tail _ (.tail _ (.tail _ (.tail _ (.tail _ (.tail _ (.tail _ (.tail _ (.tail _ (.tail _ (.tail _ (.tail _ (.tail _ (.tail _ (.tail _ (.tail _ (.tail _ (.tail _ (.tail _ (.tail _ (.head _)))))))))))))))))))))))))))))))))))))))))))))))) (fun _ _ _ _ _ _ us hl => match us, hl with | [_], _ => rfl) sc__law_row_is_normal (fun as Q h => by first | (obtain ⟨_, rfl, _⟩ := h; rfl) | (obtain ⟨_, _, rfl, _⟩ := h; rfl) | (obtain ⟨_, _, _, rfl, _⟩ := h; rfl) | (obtain ⟨_, _, _, _, rfl, _⟩ := h; rfl) | (obtain ⟨_, _, _, _, _, rfl, _⟩ := h; rfl) | (obtain ⟨_, _, _, _, _, _, rfl, _⟩ := h; rfl) | (obtain ⟨_, _, _, _, _, _, _, rfl, _⟩ := h; rfl) | (obtain ⟨_, _, _, _, _, _, _, _, rfl, _⟩ := h; rfl) | (obtain ⟨_, _, _, _, _, _, _, _, _, rfl, _⟩ := h; rfl) | (obtain ⟨rfl, _⟩ := h; rfl)) fun f cdv A outer s H E hr as Q qs hF hq => ?_
      obtain ⟨ks, rfl, nr, hne, hQ⟩ := hF
      obtain ⟨k, hk⟩ := List.exists_mem_of_ne_nil ks hne
      exact (nr.mem k hk).1.no.elim
    next =>
      have nd := sc__law_is_normal.nd
      have kTOP := c.cs _ (.head _)
      have kBOTTOM := c.cs _ (.tail _ (.head _))
      have kRESERVED := c.cs _ (.tail _ (.tail _ (.tail _ (.tail _ (.tail _ (.head _))))))
      refine ok_of c (.tail _ (.tail _ (.tail _ (.tail _ (.tail _ (.tail _ (.tail _ (.tail _ (.tail _ (.tail _ (.tail _ (.tail _ (.tail _ (.tail _ (.tail _ (.tail _ (.tail _ (.tail _ (.tail _ (.tail _ (.tail _ (.tail _ (.tail _ (.tail _ (.tail _ (.tail _ (.tail _ (.tail _ (.tail _ (.tail _ (.tail _ (.tail _ (.tail _ (.tail _ (.tail _ (.tail _ (.tail _ (.tail _ (.tail _ (.tail _ (.tail _ (.tail _ (.tail _ (.tail _ (.tail _ (.tail _ (.tail _ (.tail _ (.head _))))))))))))))))))))))))))))))))))))))))))))))))) (fun _ _ _ _ _ _ us hl => match us, hl with | [_], _ => rfl) sc__law_is_normal (fun as Q h => by first | (obtain ⟨_, rfl, _⟩ := h; rfl) | (obtain ⟨_, _, rfl, _⟩ := h; rfl) | (obtain ⟨_, _, _, rfl, _⟩ := h; rfl) | (obtain ⟨_, _, _, _, rfl, _⟩ := h; rfl) | (obtain ⟨_, _, _, _, _, rfl, _⟩ := h; rfl) | (obtain ⟨_, _, _, _, _, _, rfl, _⟩ := h; rfl) | (obtain ⟨_, _, _, _, _, _, _, rfl, _⟩ := h; rfl) | (obtain ⟨_, _, _, _, _, _, _, _, rfl, _⟩ := h; rfl) | (obtain ⟨_, _, _, _, _, _, _, _, _, rfl, _⟩ := h; rfl) | (obtain ⟨rfl, _⟩ := h; rfl)) fun f cdv A outer s H E hr as Q qs hF hq => ?_
      obtain ⟨v, rfl, g, b, hQ⟩ := hF
      exact b.no.elim
  | h + 1, hh => by
    have h__law_is_normal := (ok_normal_law c H0 n1 n2 h__law_under h__law_written h (by omega)).2
    have h__law_row_is_normal : Ok P w K mg base (max n1 n2 + 2 * (h + 1) + 1) "_law_row_is_normal" ["parts"] (spOf K T (F_row (h + 1))) := by
      have nd := sc__law_row_is_normal.nd
      have kTOP := c.cs _ (.head _)
      have kBOTTOM := c.cs _ (.tail _ (.head _))
      have kRESERVED := c.cs _ (.tail _ (.tail _ (.tail _ (.tail _ (.tail _ (.head _))))))
      refine ok_of c (.tail _ (.tail _ (.tail _ (.tail _ (.tail _ (.tail _ (.tail _ (.tail _ (.tail _ (.tail _ (.tail _ (.tail _ (.tail _ (.tail _ (.tail _ (.tail _ (.tail _ (.tail _ (.tail _ (.tail _ (.tail _ (.tail _ (.tail _ (.tail _ (.tail _ (.tail _ (.tail _ (.tail _ (.tail _ (.tail _ (.tail _ (.tail _ (.tail _ (.tail _ (.tail _ (.tail _ (.tail _ (.tail _ (.tail _ (.tail _ (.tail _ (.tail _ (.tail _ (.tail _ (.tail _ (.tail _ (.tail _ (.head _)))))))))))))))))))))))))))))))))))))))))))))))) (fun _ _ _ _ _ _ us hl => match us, hl with | [_], _ => rfl) sc__law_row_is_normal (fun as Q h => by first | (obtain ⟨_, rfl, _⟩ := h; rfl) | (obtain ⟨_, _, rfl, _⟩ := h; rfl) | (obtain ⟨_, _, _, rfl, _⟩ := h; rfl) | (obtain ⟨_, _, _, _, rfl, _⟩ := h; rfl) | (obtain ⟨_, _, _, _, _, rfl, _⟩ := h; rfl) | (obtain ⟨_, _, _, _, _, _, rfl, _⟩ := h; rfl) | (obtain ⟨_, _, _, _, _, _, _, rfl, _⟩ := h; rfl) | (obtain ⟨_, _, _, _, _, _, _, _, rfl, _⟩ := h; rfl) | (obtain ⟨_, _, _, _, _, _, _, _, _, rfl, _⟩ := h; rfl) | (obtain ⟨rfl, _⟩ := h; rfl)) fun f cdv A outer s H E hr as Q qs hF hq => ?_
      obtain ⟨ks, rfl, nr, hne, hQ⟩ := hF
      obtain rfl : qs = [] := List.length_eq_zero_iff.mp hq
      refine ⟨_, (pss_cons (ps_set (i := 1) nd rfl (Or.inl rfl) (pe_lst pa_nil))
    (pss_cons (ps_for PassesOwn.never rfl (pi_listK (K0 := K) (pv 0)) (pg_name (i := 2) nd rfl (Or.inl rfl)) (pss_one (ps_if (pt_cmpR op_eq (pe_ix (r := rIxT K) ix_tup (pv 2) pe_int (fun _ _ => rfl)) pe_str (nomark _)) (pss_one (ps_expr (pe_bmK (K0 := K) PySem.F.plainAttrs_list PySem.F.slot_list_append PySem.F.type_list_append mt_append (pv 1) (pa_cons (pe_tup (pa_cons pe_int (pa_cons (pe_ix (r := rIxT K) ix_tup (pv 2) pe_int (fun _ _ => rfl)) pa_nil))) pa_nil)))) (pss_one (ps_if (PW.pt (pw_and (pt_cmpR op_eq (pe_ix (r := rIxT K) ix_tup (pv 2) pe_int (fun _ _ => rfl)) pe_str (nomark _)) (pw_and (pt_cmpR (r := rNeD K) (op_neD hr.units) (pe_ix (r := rIxT K) ix_tup (pv 2) pe_int (fun _ _ => rfl)) (pe_tup (pa_cons pe_str pa_nil)) (nomark _)) (pw_and1 (pt_val (pe_f h__law_is_normal (hr.mono (by omega)) rfl (pa_cons (pe_ix (r := rIxT K) ix_tup (pv 2) pe_int (fun _ _ => rfl)) pa_nil))))))) (pss_one (ps_expr (pe_bmK (K0 := K) PySem.F.plainAttrs_list PySem.F.slot_list_append PySem.F.type_list_append mt_append (pv 1) (pa_cons (pe_tup (pa_cons pe_int (pa_cons (pe_f h__law_written (hr.mono (by omega)) rfl (pa_cons (pv 2) pa_nil)) pa_nil))) pa_nil)))) (pss_one (ps_ret pe_bl)))))))
    (pss_cons (ps_for PassesOwn.never rfl (pi_range1 rfl (c.fr _ (.tail _ (.tail _ (.tail _ (.tail _ (.tail _ (.tail _ (.tail _ (.tail _ (.tail _ (.tail _ (.head _)))))))))))) (pa_cons (pe_callB (r := Pl.rLen K) call_len rfl (c.fr _ (.tail _ (.tail _ (.tail _ (.head _))))) PySem.boot_len (pa_cons (pv 0) pa_nil)) pa_nil)) (pg_name (i := 3) nd rfl (Or.inl rfl)) (pss_cons (ps_if (PW.pt (pw_and (pt_cmpR op_gt (pv 3) pe_int (nomark _)) (pw_and1 (pt_cmpR (r := rGe2 K) (op_ge2 (Nat.lt_of_le_of_lt (Nat.le_add_right _ _) hr.units)) (pe_ix (r := rIxL K) ix_list (pv 1) (pe_op op_sub (pv 3) pe_int) (fun _ _ => rfl)) (pe_ix (r := rIxL K) ix_list (pv 1) (pv 3) (fun _ _ => rfl)) (nomark _))))) (pss_one (ps_ret pe_bl)) pss_nil)
    (pss_one (ps_for PassesOwn.never rfl (pi_range1 rfl (c.fr _ (.tail _ (.tail _ (.tail _ (.tail _ (.tail _ (.tail _ (.tail _ (.tail _ (.tail _ (.tail _ (.head _)))))))))))) (pa_cons (pe_callB (r := Pl.rLen K) call_len rfl (c.fr _ (.tail _ (.tail _ (.tail _ (.head _))))) PySem.boot_len (pa_cons (pv 0) pa_nil)) pa_nil)) (pg_name (i := 4) nd rfl (Or.inl rfl)) (pss_one (ps_if (PW.pt (pw_and (pt_cmpR op_ne (pv 4) (pv 3) (nomark _)) (pw_and (pt_cmpR op_eq (pe_ix (r := rIxT K) ix_tup (pe_ix (r := rIxL K) ix_list (pv 0) (pv 3) (fun _ _ => rfl)) pe_int (fun _ _ => rfl)) pe_str (nomark _)) (pw_and1 (pt_val (pe_f h__law_under (hr.mono (by omega)) rfl (pa_cons (pe_ix (r := rIxL K) ix_list (pv 0) (pv 4) (fun _ _ => rfl)) (pa_cons (pe_ix (r := rIxL K) ix_list (pv 0) (pv 3) (fun _ _ => rfl)) pa_nil)))))))) (pss_one (ps_ret pe_bl)) pss_nil))))))
    (pss_one (ps_ret pe_bl))))), ?_⟩
      show Ss K T _ [.val _, .no, .no, .no, .no] _
      have hlen := nr.len
      k_search "go"
      refine go_forL (ks.map Tm.d) (fun k δ => ∃ a s, δ = [.val (.list (ks.map Tm.d)), .own a (.lst ((ks.take k).map Tm.keyD)), s, .no, .no]) ?_ ?_ ?_
      · k_search "go"
        exact ⟨rfl, _, _, rfl⟩
      · rintro k d δ2 hk ⟨a, s, rfl⟩
        obtain ⟨u, hu, rfl⟩ := map_at hk
        have m := List.mem_of_getElem? hu
        obtain ⟨bu, ka⟩ := nr.mem u m
        have hkl : k < ks.length := (List.getElem?_eq_some_iff.mp hu).1
        have ll : ((ks.take k).map Tm.keyD).length < 100000 := by
          rw [List.length_map, List.length_take]; omega
        have et : (ks.take (k + 1)).map Tm.keyD = (ks.take k).map Tm.keyD ++ [u.keyD] := by
          rw [List.take_add_one, hu, List.map_append]; rfl
        k_search "nrm"
        rcases ka with ⟨x, rfl, hx⟩ | ⟨r, v, rfl, hr1, gv, hv⟩
        · k_search "go"
          exact ⟨a, _, by rw [et]; rfl⟩
        · k_search "go"
          refine opd_neBot bu.some.shaped ?_
          refine ⟨_, rfl, iteN (fun z => ?_) fun z => absurd (nf_bot.mp z) (by rw [hv]; exact Bool.false_ne_true)⟩
          k_search "go"
          refine cv [.val _] ⟨rfl, trivial⟩ ⟨v, rfl, gv, bu.some, rim rfl, ?_⟩
          k_search "go"
          refine cv [.val _] ⟨rfl, trivial⟩ ⟨_, rfl, bu.mono hh, rim rfl, ?_⟩
          k_search "go"
          exact ⟨a, _, by rw [et]; rfl⟩
      · rintro δ2 ⟨a, s, rfl⟩
        rw [List.length_map, List.take_length]
        k_search "go"
        refine go_forR ks.length (fun k δ => ∃ s2 s3, δ = [.val (.list (ks.map Tm.d)), .own a (.lst (ks.map Tm.keyD)), s, s2, s3]) (by omega) ?_ ?_ ?_
        · k_search "go"
          refine ⟨by rw [List.length_map], _, _, rfl⟩
        · rintro k δ2 hk ⟨s2, s3, rfl⟩
          obtain ⟨u, hu⟩ : ∃ u, ks[k]? = some u := ⟨_, List.getElem?_eq_getElem hk⟩
          have hm := List.mem_of_getElem? hu
          obtain ⟨bu, ka⟩ := nr.mem u hm
          have hatu : atI (ks.map Tm.d) (k : Int) = some u.d := atI_nat (by rw [List.getElem?_map, hu]; rfl)
          k_search "nrm"
          refine go_cut (fun δ => δ = [.val (.list (ks.map Tm.d)), .own a (.lst (ks.map Tm.keyD)), s, .val (.int k), s3]) ?_ ?_
          · k_search "go"
            refine iteD (fun hk0 => ?_) fun hk0 => ?_
            · obtain ⟨m, rfl⟩ : ∃ m, k = m + 1 := ⟨k - 1, by omega⟩
              obtain ⟨q, hq2⟩ : ∃ q, ks[m]? = some q := ⟨_, List.getElem?_eq_getElem (by omega)⟩
              obtain ⟨i, j, x, y, ea, eb, eg⟩ := nr.asc m q u hq2 hu
              have h1 : atI (ks.map Tm.keyD) (((m + 1 : Nat) : Int) - 1) = some (.tuple [.int i, .str x]) := by
                rw [show (((m + 1 : Nat) : Int) - 1) = (m : Int) by omega, ← ea]
                exact atI_nat (keys_at hq2)
              have h2 : atI (ks.map Tm.keyD) (((m + 1 : Nat) : Int)) = some (.tuple [.int j, .str y]) := by
                rw [← eb]
                exact atI_nat (keys_at hu)
              k_search "go"
              refine opd_ge2 ?_
              rw [eg]
              k_search "go"
            · k_search "go"
          · rintro δ3 rfl
            refine go_forR ks.length (fun j δ => ∃ s4, δ = [.val (.list (ks.map Tm.d)), .own a (.lst (ks.map Tm.keyD)), s, .val (.int k), s4]) (by omega) ?_ ?_ ?_
            · k_search "go"
              refine ⟨by rw [List.length_map], _, rfl⟩
            · rintro j δ2 hj ⟨s4, rfl⟩
              obtain ⟨z, hz⟩ : ∃ z, ks[j]? = some z := ⟨_, List.getElem?_eq_getElem hj⟩
              obtain ⟨bz, _⟩ := nr.mem z (List.mem_of_getElem? hz)
              have hatz : atI (ks.map Tm.d) (j : Int) = some z.d := atI_nat (by rw [List.getElem?_map, hz]; rfl)
              k_search "nrm"
              k_search "go"
              refine iteN (fun hne2 => ?_) fun he2 => ?_
              · rcases ka with ⟨x, rfl, hx⟩ | ⟨r, v, rfl, hr1, gv, hv⟩
                · k_search "go"
                  exact ⟨_, rfl⟩
                · have eu := nr.irr j k z r v.nf hz hu (by omega)
                  k_search "go"
                  refine cv [.val _, .val _] ⟨rfl, rfl, trivial⟩ ⟨z, _, rfl, bz.mono hh, bu.mono hh, rim rfl, ?_⟩
                  rw [eu]
                  k_search "go"
                  exact ⟨_, rfl⟩
              · k_search "go"
                exact ⟨_, rfl⟩
            · rintro δ2 ⟨s4, rfl⟩
              exact ⟨_, _, rfl⟩
        · rintro δ2 ⟨s2, s3, rfl⟩
          k_search "go"
          exact hQ
    refine ⟨h__law_row_is_normal, ?_⟩
    have nd := sc__law_is_normal.nd
    have kTOP := c.cs _ (.head _)
    have kBOTTOM := c.cs _ (.tail _ (.head _))
    have kRESERVED := c.cs _ (.tail _ (.tail _ (.tail _ (.tail _ (.tail _ (.head _))))))
    refine ok_of c (.tail _ (.tail _ (.tail _ (.tail _ (.tail _ (.tail _ (.tail _ (.tail _ (.tail _ (.tail _ (.tail _ (.tail _ (.tail _ (.tail _ (.tail _ (.tail _ (.tail _ (.tail _ (.tail _ (.tail _ (.tail _ (.tail _ (.tail _ (.tail _ (.tail _ (.tail _ (.tail _ (.tail _ (.tail _ (.tail _ (.tail _ (.tail _ (.tail _ (.tail _ (.tail _ (.tail _ (.tail _ (.tail _ (.tail _ (.tail _ (.tail _ (.tail _ (.tail _ (.tail _ (.tail _ (.tail _ (.tail _ (.tail _ (.head _))))))))))))))))))))))))))))))))))))))))))))))))) (fun _ _ _ _ _ _ us hl => match us, hl with | [_], _ => rfl) sc__law_is_normal (fun as Q h => by first | (obtain ⟨_, rfl, _⟩ := h; rfl) | (obtain ⟨_, _, rfl, _⟩ := h; rfl) | (obtain ⟨_, _, _, rfl, _⟩ := h; rfl) | (obtain ⟨_, _, _, _, rfl, _⟩ := h; rfl) | (obtain ⟨_, _, _, _, _, rfl, _⟩ := h; rfl) | (obtain ⟨_, _, _, _, _, _, rfl, _⟩ := h; rfl) | (obtain ⟨_, _, _, _, _, _, _, rfl, _⟩ := h; rfl) | (obtain ⟨_, _, _, _, _, _, _, _, rfl, _⟩ := h; rfl) | (obtain ⟨_, _, _, _, _, _, _, _, _, rfl, _⟩ := h; rfl) | (obtain ⟨rfl, _⟩ := h; rfl)) fun f cdv A outer s H E hr as Q qs hF hq => ?_
    obtain ⟨v, rfl, g, b, hQ⟩ := hF
    obtain rfl : qs = [] := List.length_eq_zero_iff.mp hq
    refine ⟨_, (pss_cons (ps_if (PW.pt (pw_or (pt_cmpR op_eq (pe_ix (r := rIxT K) ix_tup (pv 0) pe_int (fun _ _ => rfl)) pe_str (nomark _)) (pw_or1 (pt_cmpR op_eq (pe_ix (r := rIxT K) ix_tup (pv 0) pe_int (fun _ _ => rfl)) pe_str (nomark _))))) (pss_one (ps_ret pe_bl)) pss_nil)
    (pss_cons (ps_if (pt_cmpR op_eq (pe_ix (r := rIxT K) ix_tup (pv 0) pe_int (fun _ _ => rfl)) pe_str (nomark _)) (pss_one (ps_ret (pe_and (pe_cmpR op_gt (pe_callB (r := Pl.rLen K) call_len rfl (c.fr _ (.tail _ (.tail _ (.tail _ (.head _))))) PySem.boot_len (pa_cons (pe_ix (r := rIxT K) ix_tup (pv 0) pe_int (fun _ _ => rfl)) pa_nil)) pe_int (nomark _)) (pe_one (pe_f h__law_row_is_normal (hr.mono (by omega)) rfl (pa_cons (pe_callTy (r := rListOf K) call_list_of rfl (c.fr _ (.tail _ (.tail _ (.tail _ (.tail _ (.tail _ (.head _))))))) PyProof.Rows.boot_list (pa_cons (pe_ix (r := rIxT K) ix_tup (pv 0) pe_int (fun _ _ => rfl)) pa_nil)) pa_nil)))))) pss_nil)
    (pss_one (ps_ret (pe_f h__law_row_is_normal (hr.mono (by omega)) rfl (pa_cons (pe_lst (pa_cons (pv 0) pa_nil)) pa_nil)))))), ?_⟩
    show Ss K T _ [.val _] _
    cases hv : v.void with
    | true =>
      rw [nf_bot.mpr hv]
      k_search "go"
      exact hQ
    | false =>
      have e := nf_row hv
      have e2 := nf_raw hv
      have br : ∀ k ∈ v.row, Tb (h + 1) k := fun k hk => b.raw (by rw [e2]; exact hk)
      have lr : v.row.length ≤ 1000 := by rw [← e2]; exact b.rlen
      have nr := nr_row g hv br lr
      rw [e]
      generalize v.row = ks at nr br lr e e2
      rw [e] at b
      match ks, nr, b with
      | [], nr, b =>
        k_search "go"
        exact hQ
      | [k], nr, b =>
        obtain ⟨bk, ka⟩ := nr.mem k List.mem_cons_self
        show Ss K T _ [.val k.d] _
        rcases ka with ⟨x, rfl, hx⟩ | ⟨r, v, rfl, hr1, gv, hv⟩
        · k_search "go"
          refine cv [.val _] ⟨rfl, trivial⟩ ⟨[.name x], rfl, nr, by simp, rim rfl, ?_⟩
          k_search "go"
          exact hQ
        · k_search "go"
          refine cv [.val _] ⟨rfl, trivial⟩ ⟨[.some r v.nf], rfl, nr, by simp, rim rfl, ?_⟩
          k_search "go"
          exact hQ
      | k :: l :: r, nr, b =>
        have nr2 : NR h (k :: l :: r) := ⟨fun x hx => ⟨b.and hx, (nr.mem x hx).2⟩, nr.asc, nr.irr, nr.len⟩
        show Ss K T _ [.val (Tm.and (k :: l :: r)).d] _
        k_search "go"
        refine iteD (fun z => ?_) fun z => absurd (by rw [Tm.dL_map, List.length_map]; simp; omega) z
        k_search "go"
        refine cv [.val _] ⟨rfl, trivial⟩ ⟨k :: l :: r, by rw [← Tm.dL_map], ⟨fun x hx => ⟨(nr2.mem x hx).1.mono (Nat.le_succ h), (nr2.mem x hx).2⟩, nr2.asc, nr2.irr, nr2.len⟩, by simp, rim rfl, ?_⟩
        k_search "go"
        exact hQ
set_option Elab.async false
set_option linter.all false
set_option maxRecDepth 100000
set_option maxHeartbeats 4000001
open PySem L2 LamX NdefX PyProof.Rows GenW Pl
variable {P : Program} {w : World} {K : PySem.W.Frag} {mg : Str → Option Value} {base : Heap} {T : List NTab} {ts : List Str}
/-- a term of the law -/
structure Ts (t : Tm) : Prop where
  good : t.good
  ht : t.ht ≤ 20
  cnt : t.cnt ≤ 200
theorem Ts.tb {t : Tm} (b : Ts t) : Tb 22 t := ⟨b.good, by have := b.ht; omega, by have := b.cnt; omega, by have := b.ht; omega⟩
theorem Ts.nf {t : Tm} (b : Ts t) : Ts t.nf := by
  have q := nf_bd t b.good
  exact ⟨q.good, Nat.le_trans q.ht b.ht, Nat.le_trans q.cnt b.cnt⟩
theorem Ts.some {t : Tm} (b : Ts t) {r : Str} (hr : W r) : Tb 22 (.some r t) := ⟨⟨hr, b.good⟩, by have := b.ht; show t.ht + 1 ≤ 22; omega, by have := b.cnt; show t.cnt + 1 ≤ 1000; omega, by have := b.ht; show t.ht + 1 ≤ 25; omega⟩
theorem ts_and {us : List Tm} (h : ∀ t ∈ us, Ts t) (hl : us.length ≤ 4) : Tb 22 (.and us) := by
  have g : Tm.goodL us := Tm.goodL_iff.mpr fun t m => (h t m).good
  have a : ∀ us : List Tm, (∀ t ∈ us, Ts t) → Tm.htL us ≤ 20 ∧ Tm.cntL us ≤ 200 * us.length := by
    intro us
    induction us with
    | nil => intro _; exact ⟨Nat.zero_le _, Nat.le_refl _⟩
    | cons t us ih =>
      intro h
      obtain ⟨h1, h2⟩ := ih fun x hx => h x (List.mem_cons_of_mem _ hx)
      have q := h t List.mem_cons_self
      refine ⟨Nat.max_le.mpr ⟨q.ht, h1⟩, ?_⟩
      have := q.cnt
      show t.cnt + Tm.cntL us ≤ 200 * (us.length + 1)
      omega
  obtain ⟨h1, h2⟩ := a us h
  exact ⟨g, by show Tm.htL us + 1 ≤ 22; omega, by show Tm.cntL us + 1 ≤ 1000; omega, by show Tm.htL us + 1 ≤ 25; omega⟩
mutual
theorem okD_tm : ∀ t : Tm, t.good → t.cnt ≤ 1000 → okD t.d = true
  | .top, _, _ => by decide +kernel
  | .bot, _, _ => by decide +kernel
  | .name w, g, _ => by
    have e : okD (Tm.name w).d = (decide (2 ≤ 1000) && (PyData.strOk "name" && (PyData.strOk w && true))) := rfl
    rw [e, W.ok g]
    decide +kernel
  | .some r t, g, h => by
    have e : okD (Tm.some r t).d = (decide (3 ≤ 1000) && (PyData.strOk "some" && (PyData.strOk r && (okD t.d && true)))) := rfl
    rw [e, W.ok g.1, okD_tm t g.2 (by have : t.cnt + 1 ≤ 1000 := h; omega)]
    decide +kernel
  | .and ts, g, h => by
    have e : okD (Tm.and ts).d = (decide (2 ≤ 1000) && (PyData.strOk "and" && ((decide ((Tm.dL ts).length ≤ 1000) && okDs (Tm.dL ts)) && true))) := rfl
    have h : Tm.cntL ts + 1 ≤ 1000 := h
    have l := Tm.len_cntL ts
    have dl : decide ((Tm.dL ts).length ≤ 1000) = true := decide_eq_true (by rw [Tm.dL_map, List.length_map]; omega)
    rw [e, okD_tmL ts g (by omega), dl]
    decide +kernel
theorem okD_tmL : ∀ ts : List Tm, Tm.goodL ts → Tm.cntL ts ≤ 1000 → okDs (Tm.dL ts) = true
  | [], _, _ => rfl
  | t :: ts, g, h => by
    have h : t.cnt + Tm.cntL ts ≤ 1000 := h
    show (okD t.d && okDs (Tm.dL ts)) = true
    rw [okD_tm t g.1 (by omega), okD_tmL ts g.2 (by omega)]
    rfl
end
theorem Ts.same {t : Tm} (b : Ts t) : okD t.d = true ∧ t.d.depth < 64 := ⟨okD_tm t b.good (by have := b.cnt; omega), by have := depth_tm t; have := b.ht; omega⟩
theorem ts_row {t : Tm} (b : Ts t) : okD (.list (t.raw.map Tm.d)) = true ∧ (PyData.list (t.raw.map Tm.d)).depth < 64 := by
  have tb := b.tb
  have l := tb.rlen
  have h1 : ∀ us : List Tm, (∀ u ∈ us, u.good ∧ u.cnt ≤ 1000 ∧ u.ht ≤ 20) → okDs (us.map Tm.d) = true ∧ PyData.depthAll (us.map Tm.d) ≤ 40 := by
    intro us
    induction us with
    | nil => intro _; exact ⟨rfl, Nat.zero_le _⟩
    | cons u us ih =>
      intro h
      obtain ⟨a1, a2⟩ := ih fun x hx => h x (List.mem_cons_of_mem _ hx)
      obtain ⟨g, c, q⟩ := h u List.mem_cons_self
      refine ⟨?_, ?_⟩
      · show (okD u.d && okDs (us.map Tm.d)) = true
        rw [okD_tm u g c, a1]; rfl
      · show max u.d.depth (PyData.depthAll (us.map Tm.d)) ≤ 40
        have := depth_tm u
        omega
  obtain ⟨a1, a2⟩ := h1 t.raw fun u m => ⟨(tb.raw m).good, (tb.raw m).cnt, Nat.le_trans (Tm.raw_ht t u m) b.ht⟩
  refine ⟨?_, ?_⟩
  · show (decide ((t.raw.map Tm.d).length ≤ 1000) && okDs (t.raw.map Tm.d)) = true
    rw [a1, decide_eq_true (by rw [List.length_map]; exact l)]
    rfl
  · show PyData.depthAll (t.raw.map Tm.d) + 1 < 64
    omega
theorem wr_ok {t : Tm} (g : t.good) : PyData.strOk t.wr = true := by
  unfold PyData.strOk
  rw [Array.all_eq_true]
  intro i hi
  have hm : t.wr.cps[i] ∈ t.wl := by rw [← tl_wr]; exact Array.mem_toList_iff.mpr (Array.getElem_mem hi)
  have all : ∀ c ∈ t.wl, c < 0x110000 := by
    clear hm hi i
    have ww : ∀ {x : Str}, W x → ∀ c ∈ x.cps.toList, c < 0x110000 := fun h c hc => by
      have q := h.w c hc
      unfold isW at q
      simp only [Bool.or_eq_true, Bool.and_eq_true, decide_eq_true_eq] at q
      omega
    have s : ∀ c ∈ cSome, c < 0x110000 := by decide
    have a : ∀ c ∈ cAnd, c < 0x110000 := by decide
    induction t using Tm.rec (motive_2 := fun ts => Tm.goodL ts → ∀ c ∈ Tm.wlL ts, c < 0x110000) with
    | top => show ∀ c ∈ cTop, c < 0x110000; decide
    | bot => show ∀ c ∈ cBot, c < 0x110000; decide
    | name w => exact ww g
    | some r t ih =>
      intro c hc
      have ih := ih g.2
      rw [Tm.wl] at hc
      rcases List.mem_append.mp hc with h | h
      · exact s c h
      rcases List.mem_cons.mp h with h | h
      · rw [h]; decide
      rcases List.mem_append.mp h with h | h
      · exact ww g.1 c h
      rcases List.mem_cons.mp h with h | h
      · rw [h]; decide
      by_cases z : t.isAnd = true
      · rw [if_pos z] at h
        rcases List.mem_cons.mp h with h | h
        · rw [h]; decide
        rcases List.mem_append.mp h with h | h
        · exact ih c h
        · rw [List.mem_singleton.mp h]; decide
      · rw [if_neg z] at h
        exact ih c h
    | and ts ih => intro c hc; rw [Tm.wl] at hc; exact ih g c hc
    | nil => rename_i c hc; simp [Tm.wlL] at hc
    | cons t ts h1 h2 =>
      rename_i g c hc
      cases ts with
      | nil =>
        rw [Tm.wlL] at hc
        rcases List.mem_append.mp hc with h | h
        · exact h1 g.1 c h
        · cases h
      | cons u us =>
        rw [Tm.wlL] at hc
        rcases List.mem_append.mp hc with h | h
        · exact h1 g.1 c h
        · rcases List.mem_append.mp h with h | h
          · exact a c h
          · exact h2 g.2 c h
  rw [decide_eq_true_eq]
  exact all _ hm
theorem same_str {x : Str} (h : PyData.strOk x = true) : okD (.str x) = true ∧ (PyData.str x).depth < 64 := ⟨h, by show 0 < 64; decide⟩
theorem same_int {i : Int} : okD (.int i) = true ∧ (PyData.int i).depth < 64 := ⟨rfl, by show 0 < 64; decide⟩
theorem same_bool {i : Bool} : okD (.bool i) = true ∧ (PyData.bool i).depth < 64 := ⟨rfl, by show 0 < 64; decide⟩
def F_judged : FS := fun as Q => ∃ t : Tm, as = [.val t.d, .val t.nf.d] ∧ Tb 22 t ∧ Q (.val (.bool true)) []
def F_fine : FS := fun as Q => ∃ t : Tm, as = [.val t.d, .val t.nf.d] ∧ Ts t ∧ Q (.val (.bool true)) []
theorem ok_judged (c : Al K mg base ds fr ts cs) (n1 n2 n3 : Nat) (h__law_is_term : OkF P w K mg base T n1 "_law_is_term" ["value"] (F_lis_term 22)) (h__law_is_normal : OkF P w K mg base T n2 "_law_is_normal" ["term"] (F_isn 22))
    (h__law_under : OkF P w K mg base T n3 "_law_under" ["one", "other"] (F_below 22)) : OkF P w K mg base T (max n1 (max n2 n3) + 1) "_law_judged" ["term", "told"] F_judged := by
  have nd := sc__law_judged.nd
  have kTOP := c.cs _ (.head _)
  have kBOTTOM := c.cs _ (.tail _ (.head _))
  have kRESERVED := c.cs _ (.tail _ (.tail _ (.tail _ (.tail _ (.tail _ (.head _))))))
  refine ok_of c (.tail _ (.tail _ (.tail _ (.tail _ (.tail _ (.tail _ (.tail _ (.tail _ (.tail _ (.tail _ (.tail _ (.tail _ (.tail _ (.tail _ (.tail _ (.tail _ (.tail _ (.tail _ (.tail _ (.tail _ (.tail _ (.tail _ (.tail _ (.tail _ (.tail _ (.tail _ (.tail _ (.tail _ (.tail _ (.tail _ (.tail _ (.tail _ (.tail _ (.tail _ (.tail _ (.tail _ (.tail _ (.tail _ (.tail _ (.tail _ (.tail _ (.tail _ (.tail _ (.tail _ (.tail _ (.tail _ (.tail _ (.tail _ (.tail _ (.tail _ (.head _))))))))))))))))))))))))))))))))))))))))))))))))))) (fun _ _ _ _ _ _ us hl => match us, hl with | [_, _], _ => rfl) sc__law_judged (fun as Q h => by first | (obtain ⟨_, rfl, _⟩ := h; rfl) | (obtain ⟨_, _, rfl, _⟩ := h; rfl) | (obtain ⟨_, _, _, rfl, _⟩ := h; rfl) | (obtain ⟨_, _, _, _, rfl, _⟩ := h; rfl) | (obtain ⟨_, _, _, _, _, rfl, _⟩ := h; rfl) | (obtain ⟨_, _, _, _, _, _, rfl, _⟩ := h; rfl) | (obtain ⟨_, _, _, _, _, _, _, rfl, _⟩ := h; rfl) | (obtain ⟨_, _, _, _, _, _, _, _, rfl, _⟩ := h; rfl) | (obtain ⟨_, _, _, _, _, _, _, _, _, rfl, _⟩ := h; rfl) | (obtain ⟨rfl, _⟩ := h; rfl)) fun f cdv A outer s H E hr as Q qs hF hq => ?_
  obtain ⟨t, rfl, b, hQ⟩ := hF
  obtain rfl : qs = [] := List.length_eq_zero_iff.mp hq
  refine ⟨_, (pss_cons (ps_if (PW.pt (pw_or (pt_not (pt_val (pe_f h__law_is_term (hr.mono (by omega)) rfl (pa_cons (pv 1) pa_nil)))) (pw_or1 (pt_not (pt_val (pe_f h__law_is_normal (hr.mono (by omega)) rfl (pa_cons (pv 1) pa_nil))))))) (pss_one (ps_ret pe_bl)) pss_nil)
    (pss_one (ps_ret (pe_and (pe_f h__law_under (hr.mono (by omega)) rfl (pa_cons (pv 0) (pa_cons (pv 1) pa_nil))) (pe_one (pe_f h__law_under (hr.mono (by omega)) rfl (pa_cons (pv 1) (pa_cons (pv 0) pa_nil)))))))), ?_⟩
  show Ss K T _ [.val _, .val _] _
  have e := nf_eqt b.good
  k_search "go"
  refine cv [.val _] ⟨rfl, trivial⟩ ⟨t.nf, rfl, b.nf, rim rfl, ?_⟩
  k_search "go"
  refine cv [.val _] ⟨rfl, trivial⟩ ⟨t, rfl, b.good, b.nf, rim rfl, ?_⟩
  k_search "go"
  refine cv [.val _, .val _] ⟨rfl, rfl, trivial⟩ ⟨t, t.nf, rfl, b, b.nf, rim rfl, ?_⟩
  rw [(e.1 : t.under t.nf = true)]
  k_search "go"
  refine cv [.val _, .val _] ⟨rfl, rfl, trivial⟩ ⟨t.nf, t, rfl, b.nf, b, rim rfl, ?_⟩
  rw [(e.2 : t.nf.under t = true)]
  k_search "go"
  exact hQ
theorem ok_fine (c : Al K mg base ds fr ts cs) (n1 n2 n3 n4 n5 n6 n7 n8 n9 : Nat) (h__law_judged : OkF P w K mg base T n1 "_law_judged" ["term", "told"] F_judged) (h__law_same : OkF P w K mg base T n2 "_law_same" ["actual", "due"] (F_same 64))
    (h_normal : OkF P w K mg base T n3 "normal" ["term"] (F_nf 22)) (h_shown : OkF P w K mg base T n4 "shown" ["term"] (F_shown 22)) (h__law_written : OkF P w K mg base T n5 "_law_written" ["term"] (F_write 22))
    (h_size_of : OkF P w K mg base T n6 "size_of" ["term"] (F_size 22)) (h__law_size : OkF P w K mg base T n7 "_law_size" ["term"] (F_nsize 22)) (h_conjuncts : OkF P w K mg base T n8 "conjuncts" ["term"] (F_conj 22))
    (h__law_conjuncts : OkF P w K mg base T n9 "_law_conjuncts" ["term"] (F_raw 22)) : OkF P w K mg base T (max n1 (max n2 (max n3 (max n4 (max n5 (max n6 (max n7 (max n8 n9))))))) + 1) "_law_fine" ["term", "told"] F_fine := by
  have nd := sc__law_fine.nd
  have kTOP := c.cs _ (.head _)
  have kBOTTOM := c.cs _ (.tail _ (.head _))
  have kRESERVED := c.cs _ (.tail _ (.tail _ (.tail _ (.tail _ (.tail _ (.head _))))))
  refine ok_of c (.tail _ (.tail _ (.tail _ (.tail _ (.tail _ (.tail _ (.tail _ (.tail _ (.tail _ (.tail _ (.tail _ (.tail _ (.tail _ (.tail _ (.tail _ (.tail _ (.tail _ (.tail _ (.tail _ (.tail _ (.tail _ (.tail _ (.tail _ (.tail _ (.tail _ (.tail _ (.tail _ (.tail _ (.tail _ (.tail _ (.tail _ (.tail _ (.tail _ (.tail _ (.tail _ (.tail _ (.tail _ (.tail _ (.tail _ (.tail _ (.tail _ (.tail _ (.tail _ (.tail _ (.tail _ (.tail _ (.tail _ (.tail _ (.tail _ (.tail _ (.tail _ (.head _)))))))))))))))))))))))))))))))))))))))))))))))))))) (fun _ _ _ _ _ _ us hl => match us, hl with | [_, _], _ => rfl) sc__law_fine (fun as Q h => by first | (obtain ⟨_, rfl, _⟩ := h; rfl) | (obtain ⟨_, _, rfl, _⟩ := h; rfl) | (obtain ⟨_, _, _, rfl, _⟩ := h; rfl) | (obtain ⟨_, _, _, _, rfl, _⟩ := h; rfl) | (obtain ⟨_, _, _, _, _, rfl, _⟩ := h; rfl) | (obtain ⟨_, _, _, _, _, _, rfl, _⟩ := h; rfl) | (obtain ⟨_, _, _, _, _, _, _, rfl, _⟩ := h; rfl) | (obtain ⟨_, _, _, _, _, _, _, _, rfl, _⟩ := h; rfl) | (obtain ⟨_, _, _, _, _, _, _, _, _, rfl, _⟩ := h; rfl) | (obtain ⟨rfl, _⟩ := h; rfl)) fun f cdv A outer s H E hr as Q qs hF hq => ?_
  obtain ⟨t, rfl, b, hQ⟩ := hF
  obtain rfl : qs = [] := List.length_eq_zero_iff.mp hq
  refine ⟨_, (pss_cons (ps_if (pt_not (pt_val (pe_f h__law_judged (hr.mono (by omega)) rfl (pa_cons (pv 0) (pa_cons (pv 1) pa_nil))))) (pss_one (ps_ret pe_bl)) pss_nil)
    (pss_cons (ps_if (PW.pt (pw_or (pt_not (pt_val (pe_f h__law_same (hr.mono (by omega)) rfl (pa_cons (pe_f h_normal (hr.mono (by omega)) rfl (pa_cons (pv 1) pa_nil)) (pa_cons (pv 1) pa_nil))))) (pw_or1 (pt_not (pt_val (pe_f h__law_same (hr.mono (by omega)) rfl (pa_cons (pe_f h_shown (hr.mono (by omega)) rfl (pa_cons (pv 0) pa_nil)) (pa_cons (pe_f h__law_written (hr.mono (by omega)) rfl (pa_cons (pv 1) pa_nil)) pa_nil)))))))) (pss_one (ps_ret pe_bl)) pss_nil)
    (pss_cons (ps_if (pt_not (pt_val (pe_f h__law_same (hr.mono (by omega)) rfl (pa_cons (pe_f h_size_of (hr.mono (by omega)) rfl (pa_cons (pv 0) pa_nil)) (pa_cons (pe_f h__law_size (hr.mono (by omega)) rfl (pa_cons (pv 1) pa_nil)) pa_nil))))) (pss_one (ps_ret pe_bl)) pss_nil)
    (pss_one (ps_ret (pe_f h__law_same (hr.mono (by omega)) rfl (pa_cons (pe_f h_conjuncts (hr.mono (by omega)) rfl (pa_cons (pv 0) pa_nil)) (pa_cons (pe_f h__law_conjuncts (hr.mono (by omega)) rfl (pa_cons (pv 1) pa_nil)) pa_nil)))))))), ?_⟩
  show Ss K T _ [.val _, .val _] _
  have bn := b.nf
  have en : t.nf.nf = t.nf := (nf_can bn.good b.good).mpr (nf_eqt b.good).symm
  k_search "go"
  refine cv [.val _, .val _] ⟨rfl, rfl, trivial⟩ ⟨t, rfl, b.tb, rim rfl, ?_⟩
  k_search "go"
  refine cv [.val _] ⟨rfl, trivial⟩ ⟨t.nf, rfl, bn.tb, rim (Tm.imm_d _), ?_⟩
  rw [en]
  k_search "go"
  refine cv [.val _, .val _] ⟨rfl, rfl, trivial⟩ ⟨t.nf.d, rfl, bn.same.1, bn.same.2, rim rfl, ?_⟩
  k_search "go"
  refine cv [.val _] ⟨rfl, trivial⟩ ⟨t, rfl, b.tb, rim rfl, ?_⟩
  k_search "go"
  refine cv [.val _] ⟨rfl, trivial⟩ ⟨t.nf, rfl, bn.tb, rim rfl, ?_⟩
  k_search "go"
  refine cv [.val _, .val _] ⟨rfl, rfl, trivial⟩ ⟨.str t.nf.wr, rfl, (same_str (wr_ok bn.good)).1, (same_str (wr_ok bn.good)).2, rim rfl, ?_⟩
  k_search "go"
  refine cv [.val _] ⟨rfl, trivial⟩ ⟨t, rfl, b.tb, rim rfl, ?_⟩
  k_search "go"
  refine cv [.val _] ⟨rfl, trivial⟩ ⟨t.nf, rfl, bn.tb, rim rfl, ?_⟩
  k_search "go"
  refine cv [.val _, .val _] ⟨rfl, rfl, trivial⟩ ⟨.int _, rfl, same_int.1, same_int.2, rim rfl, ?_⟩
  refine ⟨_, rfl, iteF (by decide) (go_next (go_ret (go_call (exa_cons (ex_fz (go_call ?_))))))⟩
  k_search "go"
  refine cv [.val _] ⟨rfl, trivial⟩ ⟨t, rfl, b.tb, rimL tm_imm, ?_⟩
  refine ⟨_, rfl, exa_cons (ex_fz (go_call ?_))⟩
  k_search "go"
  refine cv [.val _] ⟨rfl, trivial⟩ ⟨t.nf, rfl, bn.tb, rimL tm_imm, ?_⟩
  k_search "go"
  refine cv [.val _, .val _] ⟨rfl, rfl, trivial⟩ ⟨.list (t.nf.raw.map Tm.d), rfl, (ts_row bn).1, (ts_row bn).2, rim rfl, ?_⟩
  k_search "go"
  exact hQ
set_option Elab.async false
set_option linter.all false
set_option maxRecDepth 100000
set_option maxHeartbeats 4000001
open PySem L2 LamX NdefX PyProof.Rows GenW Pl
variable {P : Program} {w : World} {K : PySem.W.Frag} {mg : Str → Option Value} {base : Heap} {T : List NTab} {ts : List Str}
def F_meet : FS := fun as Q => ∃ t u : Tm, as = [.val t.d, .val u.d, .val (.list [.bool (t.under u), .bool (u.under t)]), .val t.nf.d, .val u.nf.d] ∧ Ts t ∧ Ts u ∧ Q (.val (.bool true)) []
theorem ok_meet (c : Al K mg base ds fr ts cs) (n1 n2 : Nat) (h__law_same : OkF P w K mg base T n1 "_law_same" ["actual", "due"] (F_same 64)) (h_below : OkF P w K mg base T n2 "below" ["one", "other"] (F_below 22)) :
    OkF P w K mg base T (max n1 n2 + 1) "_law_meet" ["one", "other", "due", "told", "second"] F_meet := by
  have nd := sc__law_meet.nd
  have kTOP := c.cs _ (.head _)
  have kBOTTOM := c.cs _ (.tail _ (.head _))
  have kRESERVED := c.cs _ (.tail _ (.tail _ (.tail _ (.tail _ (.tail _ (.head _))))))
  refine ok_of c (.tail _ (.tail _ (.tail _ (.tail _ (.tail _ (.tail _ (.tail _ (.tail _ (.tail _ (.tail _ (.tail _ (.tail _ (.tail _ (.tail _ (.tail _ (.tail _ (.tail _ (.tail _ (.tail _ (.tail _ (.tail _ (.tail _ (.tail _ (.tail _ (.tail _ (.tail _ (.tail _ (.tail _ (.tail _ (.tail _ (.tail _ (.tail _ (.tail _ (.tail _ (.tail _ (.tail _ (.tail _ (.tail _ (.tail _ (.tail _ (.tail _ (.tail _ (.tail _ (.tail _ (.tail _ (.tail _ (.tail _ (.tail _ (.tail _ (.tail _ (.tail _ (.tail _ (.head _))))))))))))))))))))))))))))))))))))))))))))))))))))) (fun _ _ _ _ _ _ us hl => match us, hl with | [_, _, _, _, _], _ => rfl) sc__law_meet (fun as Q h => by first | (obtain ⟨_, rfl, _⟩ := h; rfl) | (obtain ⟨_, _, rfl, _⟩ := h; rfl) | (obtain ⟨_, _, _, rfl, _⟩ := h; rfl) | (obtain ⟨_, _, _, _, rfl, _⟩ := h; rfl) | (obtain ⟨_, _, _, _, _, rfl, _⟩ := h; rfl) | (obtain ⟨_, _, _, _, _, _, rfl, _⟩ := h; rfl) | (obtain ⟨_, _, _, _, _, _, _, rfl, _⟩ := h; rfl) | (obtain ⟨_, _, _, _, _, _, _, _, rfl, _⟩ := h; rfl) | (obtain ⟨_, _, _, _, _, _, _, _, _, rfl, _⟩ := h; rfl) | (obtain ⟨rfl, _⟩ := h; rfl)) fun f cdv A outer s H E hr as Q qs hF hq => ?_
  obtain ⟨t, u, rfl, b, b2, hQ⟩ := hF
  obtain rfl : qs = [] := List.length_eq_zero_iff.mp hq
  refine ⟨_, (pss_cons (ps_if (PW.pt (pw_or (pt_not (pt_val (pe_f h__law_same (hr.mono (by omega)) rfl (pa_cons (pe_f h_below (hr.mono (by omega)) rfl (pa_cons (pv 0) (pa_cons (pv 1) pa_nil))) (pa_cons (pe_ix (r := rIxL K) ix_list (pv 2) pe_int (fun _ _ => rfl)) pa_nil))))) (pw_or1 (pt_not (pt_val (pe_f h__law_same (hr.mono (by omega)) rfl (pa_cons (pe_f h_below (hr.mono (by omega)) rfl (pa_cons (pv 1) (pa_cons (pv 0) pa_nil))) (pa_cons (pe_ix (r := rIxL K) ix_list (pv 2) pe_int (fun _ _ => rfl)) pa_nil)))))))) (pss_one (ps_ret pe_bl)) pss_nil)
    (pss_one (ps_ret (pe_cmpR op_eq (pe_cmpR (r := rEqD K) (op_eqD hr.units) (pv 3) (pv 4) (nomark _)) (pe_and (pe_ix (r := rIxL K) ix_list (pv 2) pe_int (fun _ _ => rfl)) (pe_one (pe_ix (r := rIxL K) ix_list (pv 2) pe_int (fun _ _ => rfl)))) (nomark _))))), ?_⟩
  show Ss K T _ [.val _, .val _, .val _, .val _, .val _] _
  have h0 : atI [PyData.bool (t.under u), PyData.bool (u.under t)] 0 = some (.bool (t.under u)) := rfl
  have h1 : atI [PyData.bool (t.under u), PyData.bool (u.under t)] 1 = some (.bool (u.under t)) := rfl
  k_search "go"
  refine cv [.val _, .val _] ⟨rfl, rfl, trivial⟩ ⟨t, u, rfl, b.tb, b2.tb, rim rfl, ?_⟩
  k_search "go"
  refine cv [.val _, .val _] ⟨rfl, rfl, trivial⟩ ⟨.bool (t.under u), rfl, same_bool.1, same_bool.2, rim rfl, ?_⟩
  k_search "go"
  refine cv [.val _, .val _] ⟨rfl, rfl, trivial⟩ ⟨u, t, rfl, b2.tb, b.tb, rim rfl, ?_⟩
  k_search "go"
  refine cv [.val _, .val _] ⟨rfl, rfl, trivial⟩ ⟨.bool (u.under t), rfl, same_bool.1, same_bool.2, rim rfl, ?_⟩
  k_search "go"
  refine opd_eqTm b.tb.nf.shaped b2.tb.nf.shaped ?_
  k_search "go"
  have e := nf_can b.good b2.good
  refine iteB (fun z => ?_) fun z => ?_
  · k_search "go"
    have q : decide (t.nf = u.nf) = u.under t := by
      rw [Bool.eq_iff_iff, decide_eq_true_eq, e]
      exact ⟨fun h => h.2, fun h => ⟨z, h⟩⟩
    rw [q, decide_eq_true rfl]
    exact hQ
  · k_search "go"
    have q : decide (t.nf = u.nf) = false := decide_eq_false fun h => by
      have q : t.under u = true := (e.mp h).1
      rw [z] at q
      cases q
    rw [q]
    exact hQ
def F_wt : FS := fun as Q => ∃ (r : Str) (t u m : Tm), as = [.val (.str r), .val t.d, .val u.d, .val m.d, .val (.bool (t.under u))] ∧ W r ∧ r.length ≤ 11 ∧ W (r ++ "0") ∧ Ts t ∧ Ts u ∧ Ts m ∧ Q (.val (.bool true)) []
theorem nf_under {a b : Tm} (ga : a.good) (gb : b.good) : a.nf.under b.nf = a.under b := (nf_eqt ga).symm.under (nf_eqt gb).symm
theorem ok_wt (c : Al K mg base ds fr ts cs) (n1 n2 n3 n4 n5 : Nat) (h__law_same : OkF P w K mg base T n1 "_law_same" ["actual", "due"] (F_same 64)) (h_below : OkF P w K mg base T n2 "below" ["one", "other"] (F_below 22))
    (h__law_void : OkF P w K mg base T n3 "_law_void" ["term"] (F_void 22)) (h__law_under : OkF P w K mg base T n4 "_law_under" ["one", "other"] (F_below 22)) (h_both : OkV P w K mg base n5 "both" (spV 4 (spOf K T (F_both 22)))) :
    OkF P w K mg base T (max n1 (max n2 (max n3 (max n4 n5))) + 1) "_law_within_terms" ["tie", "one", "other", "more", "due"] F_wt := by
  have nd := sc__law_within_terms.nd
  have kTOP := c.cs _ (.head _)
  have kBOTTOM := c.cs _ (.tail _ (.head _))
  have kRESERVED := c.cs _ (.tail _ (.tail _ (.tail _ (.tail _ (.tail _ (.head _))))))
  refine ok_of c (.tail _ (.tail _ (.tail _ (.tail _ (.tail _ (.tail _ (.tail _ (.tail _ (.tail _ (.tail _ (.tail _ (.tail _ (.tail _ (.tail _ (.tail _ (.tail _ (.tail _ (.tail _ (.tail _ (.tail _ (.tail _ (.tail _ (.tail _ (.tail _ (.tail _ (.tail _ (.tail _ (.tail _ (.tail _ (.tail _ (.tail _ (.tail _ (.tail _ (.tail _ (.tail _ (.tail _ (.tail _ (.tail _ (.tail _ (.tail _ (.tail _ (.tail _ (.tail _ (.tail _ (.tail _ (.tail _ (.tail _ (.tail _ (.tail _ (.tail _ (.tail _ (.tail _ (.tail _ (.head _)))))))))))))))))))))))))))))))))))))))))))))))))))))) (fun _ _ _ _ _ _ us hl => match us, hl with | [_, _, _, _, _], _ => rfl) sc__law_within_terms (fun as Q h => by first | (obtain ⟨_, rfl, _⟩ := h; rfl) | (obtain ⟨_, _, rfl, _⟩ := h; rfl) | (obtain ⟨_, _, _, rfl, _⟩ := h; rfl) | (obtain ⟨_, _, _, _, rfl, _⟩ := h; rfl) | (obtain ⟨_, _, _, _, _, rfl, _⟩ := h; rfl) | (obtain ⟨_, _, _, _, _, _, rfl, _⟩ := h; rfl) | (obtain ⟨_, _, _, _, _, _, _, rfl, _⟩ := h; rfl) | (obtain ⟨_, _, _, _, _, _, _, _, rfl, _⟩ := h; rfl) | (obtain ⟨_, _, _, _, _, _, _, _, _, rfl, _⟩ := h; rfl) | (obtain ⟨rfl, _⟩ := h; rfl)) fun f cdv A outer s H E hr as Q qs hF hq => ?_
  obtain ⟨r, t, u, m, rfl, hr1, hr2, hr3, bt, bu, bm, hQ⟩ := hF
  obtain rfl : qs = [] := List.length_eq_zero_iff.mp hq
  refine ⟨_, (pss_cons (ps_if (pt_not (pt_val (pe_f h__law_same (hr.mono (by omega)) rfl (pa_cons (pe_f h_below (hr.mono (by omega)) rfl (pa_cons (pe_tup (pa_cons pe_str (pa_cons (pv 0) (pa_cons (pv 1) pa_nil)))) (pa_cons (pe_tup (pa_cons pe_str (pa_cons (pv 0) (pa_cons (pv 2) pa_nil)))) pa_nil))) (pa_cons (pv 4) pa_nil))))) (pss_one (ps_ret pe_bl)) pss_nil)
    (pss_cons (ps_if (pt_not (pt_val (pe_f h__law_same (hr.mono (by omega)) rfl (pa_cons (pe_f h_below (hr.mono (by omega)) rfl (pa_cons (pe_tup (pa_cons pe_str (pa_cons (pe_op op_add_str (pv 0) pe_str) (pa_cons (pv 1) pa_nil)))) (pa_cons (pe_tup (pa_cons pe_str (pa_cons (pv 0) (pa_cons (pv 2) pa_nil)))) pa_nil))) (pa_cons (pe_f h__law_void (hr.mono (by omega)) rfl (pa_cons (pv 1) pa_nil)) pa_nil))))) (pss_one (ps_ret pe_bl)) pss_nil)
    (pss_cons (ps_set (i := 5) nd rfl (Or.inl rfl) (pe_f h__law_under (hr.mono (by omega)) rfl (pa_cons (pe_tup (pa_cons pe_str (pa_cons (pe_tup (pa_cons (pv 1) (pa_cons (pv 3) pa_nil))) pa_nil))) (pa_cons (pe_tup (pa_cons pe_str (pa_cons (pe_tup (pa_cons (pv 2) (pa_cons (pv 3) pa_nil))) pa_nil))) pa_nil))))
    (pss_cons (ps_if (pt_not (pt_val (pe_f h__law_same (hr.mono (by omega)) rfl (pa_cons (pe_f h_below (hr.mono (by omega)) rfl (pa_cons (pe_tup (pa_cons pe_str (pa_cons (pe_tup (pa_cons (pv 1) (pa_cons (pv 3) pa_nil))) pa_nil))) (pa_cons (pe_tup (pa_cons pe_str (pa_cons (pe_tup (pa_cons (pv 3) (pa_cons (pv 2) pa_nil))) pa_nil))) pa_nil))) (pa_cons (pv 5) pa_nil))))) (pss_one (ps_ret pe_bl)) pss_nil)
    (pss_cons (ps_if (pt_not (pt_val (pe_f h__law_same (hr.mono (by omega)) rfl (pa_cons (pe_f h_below (hr.mono (by omega)) rfl (pa_cons (pe_fV h_both (hr.mono (by omega)) rfl (pa_cons (pv 3) (pa_cons (pv 1) pa_nil))) (pa_cons (pe_fV h_both (hr.mono (by omega)) rfl (pa_cons (pv 2) (pa_cons (pv 3) pa_nil))) pa_nil))) (pa_cons (pv 5) pa_nil))))) (pss_one (ps_ret pe_bl)) pss_nil)
    (pss_one (ps_ret (pe_or (pv 5) (pe_one (pe_not (pv 4))))))))))), ?_⟩
  show Ss K T _ [.val _, .val _, .val _, .val _, .val _, .no] _
  have a1 : Tb 22 (.and [t, m]) := ts_and (by intro x hx; simp at hx; rcases hx with rfl | rfl <;> assumption) (by simp)
  have a2 : Tb 22 (.and [u, m]) := ts_and (by intro x hx; simp at hx; rcases hx with rfl | rfl <;> assumption) (by simp)
  have a3 : Tb 22 (.and [m, u]) := ts_and (by intro x hx; simp at hx; rcases hx with rfl | rfl <;> assumption) (by simp)
  have a4 : Tb 22 (.and [m, t]) := ts_and (by intro x hx; simp at hx; rcases hx with rfl | rfl <;> assumption) (by simp)
  have e1 : (Tm.some r t).under (.some r u) = t.under u := by rw [Bool.eq_iff_iff]; exact some_le
  have ne : r ++ "0" ≠ r := fun z => by
    have := congrArg (fun x : Str => x.cps.toList.length) z
    simp only [tl_app, List.length_append] at this
    have z1 : ("0" : Str).cps.toList.length = 1 := by decide +kernel
    omega
  have e2 : (Tm.some (r ++ "0") t).under (.some r u) = t.void := some_ne_le ne
  have sw : ∀ x y : Tm, Eqt (.and [x, y]) (.and [y, x]) := fun x y => and_eqt (fun z hz => and_le (by simp at hz ⊢; exact hz.symm)) (fun z hz => and_le (by simp at hz ⊢; exact hz.symm))
  have e3 : (Tm.and [t, m]).under (.and [m, u]) = (Tm.and [t, m]).under (.and [u, m]) := (Eqt.refl _).under (sw m u)
  have e4 : (Tm.and [m, t]).nf.under (Tm.and [u, m]).nf = (Tm.and [t, m]).under (.and [u, m]) := (nf_under a4.good a2.good).trans ((sw m t).under (Eqt.refl _))
  have e5 : t.under u = true → (Tm.and [t, m]).under (.and [u, m]) = true := fun z => and_mono fun x hx => by
    simp at hx
    rcases hx with rfl | rfl
    · exact ⟨t, by simp, z⟩
    · exact ⟨x, by simp, le_refl x⟩
  have zl : ("0" : Str).length = 1 := by decide +kernel
  k_search "go"
  refine cv [.val _, .val _] ⟨rfl, rfl, trivial⟩ ⟨.some r t, .some r u, rfl, bt.some hr1, bu.some hr1, rim rfl, ?_⟩
  rw [e1]
  k_search "go"
  refine cv [.val _, .val _] ⟨rfl, rfl, trivial⟩ ⟨.bool (t.under u), rfl, same_bool.1, same_bool.2, rim rfl, ?_⟩
  k_search "go"
  refine cv [.val _, .val _] ⟨rfl, rfl, trivial⟩ ⟨.some (r ++ "0") t, .some r u, rfl, bt.some hr3, bu.some hr1, rim rfl, ?_⟩
  rw [e2]
  k_search "go"
  refine cv [.val _] ⟨rfl, trivial⟩ ⟨t, rfl, bt.tb, rim rfl, ?_⟩
  k_search "go"
  refine cv [.val _, .val _] ⟨rfl, rfl, trivial⟩ ⟨.bool t.void, rfl, same_bool.1, same_bool.2, rim rfl, ?_⟩
  k_search "go"
  refine cv [.val _, .val _] ⟨rfl, rfl, trivial⟩ ⟨.and [t, m], .and [u, m], rfl, a1, a2, rim rfl, ?_⟩
  k_search "go"
  refine cv [.val _, .val _] ⟨rfl, rfl, trivial⟩ ⟨.and [t, m], .and [m, u], rfl, a1, a3, rim rfl, ?_⟩
  rw [e3]
  k_search "go"
  refine cv [.val _, .val _] ⟨rfl, rfl, trivial⟩ ⟨.bool _, rfl, same_bool.1, same_bool.2, rim rfl, ?_⟩
  k_search "go"
  refine ⟨[m, t], rfl, a4, rim (Tm.imm_d _), ?_⟩
  k_search "go"
  refine ⟨[u, m], rfl, a2, rim (Tm.imm_d _), ?_⟩
  k_search "go"
  refine cv [.val _, .val _] ⟨rfl, rfl, trivial⟩ ⟨(Tm.and [m, t]).nf, (Tm.and [u, m]).nf, rfl, a4.nf, a2.nf, rim rfl, ?_⟩
  rw [e4]
  k_search "go"
  refine cv [.val _, .val _] ⟨rfl, rfl, trivial⟩ ⟨.bool _, rfl, same_bool.1, same_bool.2, rim rfl, ?_⟩
  k_search "go"
  refine iteB (fun z => ?_) fun z => ?_
  · k_search "go"
    exact hQ
  · k_search "go"
    cases z2 : t.under u with
    | true => rw [e5 z2] at z; cases z
    | false => exact hQ
def F_twins : FS := fun as Q => ∃ (r : Str) (t u m : Tm), as = [.val (.str r), .val t.d, .val u.d, .val m.d] ∧ W r ∧ Eqt t u ∧ Ts t ∧ Ts u ∧ Ts m ∧ Q (.val (.bool true)) []
theorem ok_twins (c : Al K mg base ds fr ts cs) (n1 n2 n3 n4 : Nat) (h__law_same : OkF P w K mg base T n1 "_law_same" ["actual", "due"] (F_same 64)) (h__law_judged : OkF P w K mg base T n2 "_law_judged" ["term", "told"] F_judged)
    (h_normal : OkF P w K mg base T n3 "normal" ["term"] (F_nf 22)) (h_both : OkV P w K mg base n4 "both" (spV 4 (spOf K T (F_both 22)))) :
    OkF P w K mg base T (max n1 (max n2 (max n3 n4)) + 1) "_law_twins" ["tie", "one", "other", "more"] F_twins := by
  have nd := sc__law_twins.nd
  have kTOP := c.cs _ (.head _)
  have kBOTTOM := c.cs _ (.tail _ (.head _))
  have kRESERVED := c.cs _ (.tail _ (.tail _ (.tail _ (.tail _ (.tail _ (.head _))))))
  refine ok_of c (.tail _ (.tail _ (.tail _ (.tail _ (.tail _ (.tail _ (.tail _ (.tail _ (.tail _ (.tail _ (.tail _ (.tail _ (.tail _ (.tail _ (.tail _ (.tail _ (.tail _ (.tail _ (.tail _ (.tail _ (.tail _ (.tail _ (.tail _ (.tail _ (.tail _ (.tail _ (.tail _ (.tail _ (.tail _ (.tail _ (.tail _ (.tail _ (.tail _ (.tail _ (.tail _ (.tail _ (.tail _ (.tail _ (.tail _ (.tail _ (.tail _ (.tail _ (.tail _ (.tail _ (.tail _ (.tail _ (.tail _ (.tail _ (.tail _ (.tail _ (.tail _ (.tail _ (.tail _ (.tail _ (.head _))))))))))))))))))))))))))))))))))))))))))))))))))))))) (fun _ _ _ _ _ _ us hl => match us, hl with | [_, _, _, _], _ => rfl) sc__law_twins (fun as Q h => by first | (obtain ⟨_, rfl, _⟩ := h; rfl) | (obtain ⟨_, _, rfl, _⟩ := h; rfl) | (obtain ⟨_, _, _, rfl, _⟩ := h; rfl) | (obtain ⟨_, _, _, _, rfl, _⟩ := h; rfl) | (obtain ⟨_, _, _, _, _, rfl, _⟩ := h; rfl) | (obtain ⟨_, _, _, _, _, _, rfl, _⟩ := h; rfl) | (obtain ⟨_, _, _, _, _, _, _, rfl, _⟩ := h; rfl) | (obtain ⟨_, _, _, _, _, _, _, _, rfl, _⟩ := h; rfl) | (obtain ⟨_, _, _, _, _, _, _, _, _, rfl, _⟩ := h; rfl) | (obtain ⟨rfl, _⟩ := h; rfl)) fun f cdv A outer s H E hr as Q qs hF hq => ?_
  obtain ⟨r, t, u, m, rfl, hr1, heq, bt, bu, bm, hQ⟩ := hF
  obtain rfl : qs = [] := List.length_eq_zero_iff.mp hq
  refine ⟨_, (pss_cons (ps_set (i := 4) nd rfl (Or.inl rfl) (pe_fV h_both (hr.mono (by omega)) rfl (pa_cons (pv 1) (pa_cons (pv 3) pa_nil))))
    (pss_cons (ps_if (PW.pt (pw_or (pt_not (pt_val (pe_f h__law_judged (hr.mono (by omega)) rfl (pa_cons (pe_tup (pa_cons pe_str (pa_cons (pe_tup (pa_cons (pv 1) (pa_cons (pv 3) pa_nil))) pa_nil))) (pa_cons (pv 4) pa_nil))))) (pw_or1 (pt_not (pt_val (pe_f h__law_same (hr.mono (by omega)) rfl (pa_cons (pe_fV h_both (hr.mono (by omega)) rfl (pa_cons (pv 3) (pa_cons (pv 2) pa_nil))) (pa_cons (pv 4) pa_nil)))))))) (pss_one (ps_ret pe_bl)) pss_nil)
    (pss_cons (ps_if (pt_not (pt_val (pe_f h__law_same (hr.mono (by omega)) rfl (pa_cons (pe_fV h_both (hr.mono (by omega)) rfl (pa_cons (pv 2) (pa_cons (pv 1) (pa_cons (pv 3) (pa_cons (pv 2) pa_nil))))) (pa_cons (pv 4) pa_nil))))) (pss_one (ps_ret pe_bl)) pss_nil)
    (pss_cons (ps_set (i := 5) nd rfl (Or.inl rfl) (pe_f h_normal (hr.mono (by omega)) rfl (pa_cons (pe_tup (pa_cons pe_str (pa_cons (pv 0) (pa_cons (pv 1) pa_nil)))) pa_nil)))
    (pss_one (ps_ret (pe_and (pe_f h__law_judged (hr.mono (by omega)) rfl (pa_cons (pe_tup (pa_cons pe_str (pa_cons (pv 0) (pa_cons (pv 1) pa_nil)))) (pa_cons (pv 5) pa_nil))) (pe_one (pe_f h__law_same (hr.mono (by omega)) rfl (pa_cons (pe_f h_normal (hr.mono (by omega)) rfl (pa_cons (pe_tup (pa_cons pe_str (pa_cons (pv 0) (pa_cons (pv 2) pa_nil)))) pa_nil)) (pa_cons (pv 5) pa_nil))))))))))), ?_⟩
  show Ss K T _ [.val _, .val _, .val _, .val _, .no, .no] _
  have a1 : Tb 22 (.and [t, m]) := ts_and (by intro x hx; simp at hx; rcases hx with rfl | rfl <;> assumption) (by simp)
  have a2 : Tb 22 (.and [m, u]) := ts_and (by intro x hx; simp at hx; rcases hx with rfl | rfl <;> assumption) (by simp)
  have a3 : Tb 22 (.and [u, t, m, u]) := ts_and (by intro x hx; simp at hx; rcases hx with rfl | rfl | rfl | rfl <;> assumption) (by simp)
  have e1 : (Tm.and [m, u]).nf = (Tm.and [t, m]).nf := (nf_can a2.good a1.good).mpr (and_eqt
    (fun z hz => by
      simp at hz
      rcases hz with rfl | rfl
      · exact le_trans (and_le (t := u) (by simp)) heq.2
      · exact and_le (by simp))
    (fun z hz => by
      simp at hz
      rcases hz with rfl | rfl
      · exact and_le (by simp)
      · exact le_trans (and_le (t := t) (by simp)) heq.1))
  have e2 : (Tm.and [u, t, m, u]).nf = (Tm.and [t, m]).nf := (nf_can a3.good a1.good).mpr (and_eqt
    (fun z hz => by
      simp at hz
      rcases hz with rfl | rfl <;> exact and_le (by simp))
    (fun z hz => by
      simp at hz
      rcases hz with rfl | rfl | rfl | rfl
      · exact le_trans (and_le (t := t) (by simp)) heq.1
      · exact and_le (by simp)
      · exact and_le (by simp)
      · exact le_trans (and_le (t := t) (by simp)) heq.1))
  have b1 := bt.some hr1
  have b2 := bu.some hr1
  have e3 : (Tm.some r u).nf = (Tm.some r t).nf := (nf_can b2.good b1.good).mpr ⟨some_le.mpr heq.2, some_le.mpr heq.1⟩
  have s1 : okD (Tm.and [t, m]).nf.d = true ∧ (Tm.and [t, m]).nf.d.depth < 64 := ⟨okD_tm _ a1.nf.good a1.nf.cnt, by have := depth_tm (Tm.and [t, m]).nf; have := a1.nf.ht; omega⟩
  have s2 : okD (Tm.some r t).nf.d = true ∧ (Tm.some r t).nf.d.depth < 64 := ⟨okD_tm _ b1.nf.good b1.nf.cnt, by have := depth_tm (Tm.some r t).nf; have := b1.nf.ht; omega⟩
  k_search "go"
  refine ⟨[t, m], rfl, a1, rim (Tm.imm_d _), ?_⟩
  k_search "go"
  refine cv [.val _, .val _] ⟨rfl, rfl, trivial⟩ ⟨.and [t, m], rfl, a1, rim rfl, ?_⟩
  k_search "go"
  refine ⟨[m, u], rfl, a2, rim (Tm.imm_d _), ?_⟩
  rw [e1]
  k_search "go"
  refine cv [.val _, .val _] ⟨rfl, rfl, trivial⟩ ⟨_, rfl, s1.1, s1.2, rim rfl, ?_⟩
  k_search "go"
  refine ⟨[u, t, m, u], rfl, a3, rim (Tm.imm_d _), ?_⟩
  rw [e2]
  k_search "go"
  refine cv [.val _, .val _] ⟨rfl, rfl, trivial⟩ ⟨_, rfl, s1.1, s1.2, rim rfl, ?_⟩
  k_search "go"
  refine cv [.val _] ⟨rfl, trivial⟩ ⟨.some r t, rfl, b1, rim (Tm.imm_d _), ?_⟩
  k_search "go"
  refine cv [.val _, .val _] ⟨rfl, rfl, trivial⟩ ⟨.some r t, rfl, b1, rim rfl, ?_⟩
  k_search "go"
  refine cv [.val _] ⟨rfl, trivial⟩ ⟨.some r u, rfl, b2, rim (Tm.imm_d _), ?_⟩
  rw [e3]
  k_search "go"
  refine cv [.val _, .val _] ⟨rfl, rfl, trivial⟩ ⟨_, rfl, s2.1, s2.2, rim rfl, ?_⟩
  k_search "go"
  exact hQ
set_option Elab.async false
set_option linter.all false
set_option maxRecDepth 100000
set_option maxHeartbeats 4000001
open PySem L2 LamX NdefX PyProof.Rows GenW Pl
variable {P : Program} {w : World} {K : PySem.W.Frag} {mg : Str → Option Value} {base : Heap} {T : List NTab} {ts : List Str}
abbrev bx (x y z : Int) : OV := .lst [.int x, .int y, .int z]
def F_cell : FS := fun as Q => ∃ (ns : List Int) (k : Nat), as = [.val (.list (ns.map .int)), .val (.int k)] ∧ ns.length ≤ 63 ∧ k ≤ 100 ∧ ∀ z : Int, Q (.val (.int z)) []
def F_open : FS := fun as Q => ∃ (ns : List Int) (k : Nat), as = [.val (.list (ns.map .int)), .val (.int k)] ∧ ns.length ≤ 63 ∧ k ≤ 100 ∧ ∀ x y z : Int, Q (.new (bx x y z)) []
def F_take : FS := fun as Q => ∃ (x y z : Int) (m : Int), as = [.own (bx x y z), .val (.int m)] ∧ 1 ≤ m ∧ m ≤ 1000 ∧ ∀ n x y z : Int, 0 ≤ n → n < m → Q (.val (.int n)) [bx x y z]
theorem cut_ints (ns : List Int) (lo hi : Option Int) : ∃ ms : List Int, Pl.cutD (ns.map .int) lo hi = ms.map .int ∧ ms.length ≤ ns.length := by
  unfold Pl.cutD
  rw [← List.map_drop, ← List.map_take]
  refine ⟨_, rfl, ?_⟩
  rw [List.length_take, List.length_drop]
  omega
theorem ok_lcell (c : Al K mg base ds fr ts cs) : Ok P w K mg base 1 "_law_cell" ["script", "k"] (spOf K T F_cell) := by
  have nd := sc__law_cell.nd
  have kTOP := c.cs _ (.head _)
  have kBOTTOM := c.cs _ (.tail _ (.head _))
  have kRESERVED := c.cs _ (.tail _ (.tail _ (.tail _ (.tail _ (.tail _ (.head _))))))
  refine ok_of c (.tail _ (.tail _ (.tail _ (.tail _ (.tail _ (.tail _ (.tail _ (.tail _ (.tail _ (.tail _ (.tail _ (.tail _ (.tail _ (.tail _ (.tail _ (.tail _ (.tail _ (.tail _ (.tail _ (.tail _ (.tail _ (.head _)))))))))))))))))))))) (fun _ _ _ _ _ _ us hl => match us, hl with | [_, _], _ => rfl) sc__law_cell (fun as Q h => by first | (obtain ⟨_, rfl, _⟩ := h; rfl) | (obtain ⟨_, _, rfl, _⟩ := h; rfl) | (obtain ⟨_, _, _, rfl, _⟩ := h; rfl) | (obtain ⟨_, _, _, _, rfl, _⟩ := h; rfl) | (obtain ⟨_, _, _, _, _, rfl, _⟩ := h; rfl) | (obtain ⟨_, _, _, _, _, _, rfl, _⟩ := h; rfl) | (obtain ⟨_, _, _, _, _, _, _, rfl, _⟩ := h; rfl) | (obtain ⟨_, _, _, _, _, _, _, _, rfl, _⟩ := h; rfl) | (obtain ⟨_, _, _, _, _, _, _, _, _, rfl, _⟩ := h; rfl) | (obtain ⟨rfl, _⟩ := h; rfl)) fun f cdv A outer s H E hr as Q qs hF hq => ?_
  obtain ⟨ns, k, rfl, hl, hk, hQ⟩ := hF
  obtain rfl : qs = [] := List.length_eq_zero_iff.mp hq
  refine ⟨_, (pss_cons (ps_if (pt_cmpR op_lt (pv 1) (pe_callB (r := Pl.rLen K) call_len rfl (c.fr _ (.tail _ (.tail _ (.tail _ (.head _))))) PySem.boot_len (pa_cons (pv 0) pa_nil)) (nomark _)) (pss_one (ps_ret (pe_ix (r := rIxL K) ix_list (pv 0) (pv 1) (fun _ _ => rfl)))) pss_nil)
    (pss_one (ps_ret (pe_op op_mod (pe_callTy call_int1 rfl (c.fr _ (.tail _ (.tail _ (.tail _ (.tail _ (.tail _ (.tail _ (.tail _ (.head _))))))))) PyProof.Rows.boot_int (pa_cons (pe_op op_add (pe_op op_add (pe_op op_mul (pe_callB (r := rSum K) (cr_sum rfl) rfl (c.fr _ (.tail _ (.tail _ (.tail _ (.tail _ (.tail _ (.tail _ (.tail _ (.tail _ (.head _)))))))))) PyProof.Rows.boot_sum (pa_cons (pe_lc (own := [("one", 2)]) (g := gName 2) (tt := tYes) rfl nd (pi_listK (K0 := K) (pe_slice (r := rSlL K) sl_list (pv 0) po_none (po_some pe_int))) (blkOk_by (N := ["script", "k", "one"]) (sc := defScope (top 32)) (by first | decide +kernel | rfl)) (fun _ _ _ _ _ => pg_name (i := 2) nd rfl (by first | exact Or.inl rfl | exact Or.inr rfl)) (fun _ _ _ _ _ => pts_nil) (fun _ _ _ _ _ => (pe_op op_mod (pe_callTy call_int1 rfl (c.fr _ (.tail _ (.tail _ (.tail _ (.tail _ (.tail _ (.tail _ (.tail _ (.head _))))))))) PyProof.Rows.boot_int (pa_cons (pe_callB call_abs rfl (c.fr _ (.tail _ (.tail _ (.tail _ (.tail _ (.tail _ (.tail _ (.tail _ (.tail _ (.tail _ (.head _))))))))))) PyProof.Rows.boot_abs (pa_cons (pv 2) pa_nil)) pa_nil)) pe_int))) pa_nil)) pe_int) (pe_op op_mul (pv 1) pe_int)) pe_int) pa_nil)) pe_int)))), ?_⟩
  show Ss K T _ [.val _, .val _, .no] _
  k_search "go"
  refine iteD (fun hc => ?_) fun hc => ?_
  · have hk2 : k < ns.length := by rw [List.length_map] at hc; omega
    have hat : atI (ns.map PyData.int) (k : Int) = some (.int ns[k]) := atI_nat (by rw [List.getElem?_map, List.getElem?_eq_getElem hk2]; rfl)
    k_search "go"
    exact hQ _
  · k_search "go"
    refine ex_mapL2 ?_
    k_search "go"
    obtain ⟨ms, em, lm⟩ := cut_ints ns none (some 9)
    rw [em]
    refine ⟨imm_ints ms, ms.map PyData.int, (ms.map fun i => ((i.natAbs : Nat) : Int) % 1000003).map PyData.int, rfl, rfl, by rw [List.length_map]; omega, by rw [List.length_map, List.length_map, List.length_map], fun j d e hd he => ?_, ?_⟩
    · rw [List.getElem?_map] at hd
      cases hj : ms[j]? with
      | none => rw [hj] at hd; cases hd
      | some v =>
        rw [hj] at hd
        cases hd
        rw [List.map_map, List.getElem?_map, hj] at he
        cases he
        k_search "nrm"
        k_search "go"
        refine cb_abs ?_
        k_search "go"
        exact ⟨rfl, rfl⟩
    · k_search "go"
      refine cb_sum ?_
      k_search "go"
      exact hQ _
theorem ok_lopen (c : Al K mg base ds fr ts cs) (h__law_cell : Ok P w K mg base 1 "_law_cell" ["script", "k"] (spOf K T F_cell)) : Ok P w K mg base 2 "_law_open" ["script", "k"] (spOf K T F_open) := by
  have nd := sc__law_open.nd
  have kTOP := c.cs _ (.head _)
  have kBOTTOM := c.cs _ (.tail _ (.head _))
  have kRESERVED := c.cs _ (.tail _ (.tail _ (.tail _ (.tail _ (.tail _ (.head _))))))
  refine ok_of c (.tail _ (.tail _ (.tail _ (.tail _ (.tail _ (.tail _ (.tail _ (.tail _ (.tail _ (.tail _ (.tail _ (.tail _ (.tail _ (.tail _ (.tail _ (.tail _ (.tail _ (.tail _ (.tail _ (.tail _ (.tail _ (.tail _ (.head _))))))))))))))))))))))) (fun _ _ _ _ _ _ us hl => match us, hl with | [_, _], _ => rfl) sc__law_open (fun as Q h => by first | (obtain ⟨_, rfl, _⟩ := h; rfl) | (obtain ⟨_, _, rfl, _⟩ := h; rfl) | (obtain ⟨_, _, _, rfl, _⟩ := h; rfl) | (obtain ⟨_, _, _, _, rfl, _⟩ := h; rfl) | (obtain ⟨_, _, _, _, _, rfl, _⟩ := h; rfl) | (obtain ⟨_, _, _, _, _, _, rfl, _⟩ := h; rfl) | (obtain ⟨_, _, _, _, _, _, _, rfl, _⟩ := h; rfl) | (obtain ⟨_, _, _, _, _, _, _, _, rfl, _⟩ := h; rfl) | (obtain ⟨_, _, _, _, _, _, _, _, _, rfl, _⟩ := h; rfl) | (obtain ⟨rfl, _⟩ := h; rfl)) fun f cdv A outer s H E hr as Q qs hF hq => ?_
  obtain ⟨ns, k, rfl, hl, hk, hQ⟩ := hF
  obtain rfl : qs = [] := List.length_eq_zero_iff.mp hq
  refine ⟨_, (pss_cons (ps_set (i := 2) nd rfl (Or.inl rfl) (pe_f h__law_cell (hr.mono (by omega)) rfl (pa_cons (pv 0) (pa_cons (pv 1) pa_nil))))
    (pss_one (ps_ret (pe_lst (pa_cons (pv 2) (pa_cons pe_int (pa_cons (pe_callTy call_int1 rfl (c.fr _ (.tail _ (.tail _ (.tail _ (.tail _ (.tail _ (.tail _ (.tail _ (.head _))))))))) PyProof.Rows.boot_int (pa_cons (pe_cmpR op_ge (pv 2) (pe_op op_pow pe_int pe_int) (nomark _)) pa_nil)) pa_nil))))))), ?_⟩
  show Ss K T _ [.val _, .val _, .no] _
  k_search "go"
  refine cv [.val _, .val _] ⟨rfl, rfl, trivial⟩ ⟨ns, k, rfl, hl, hk, fun z => ⟨rim rfl, ?_⟩⟩
  k_search "go"
  exact hQ _ _ _
theorem ok_ltake (c : Al K mg base ds fr ts cs) : Ok P w K mg base 1 "_law_take" ["box", "many"] (spOf K T F_take) := by
  have nd := sc__law_take.nd
  have kTOP := c.cs _ (.head _)
  have kBOTTOM := c.cs _ (.tail _ (.head _))
  have kRESERVED := c.cs _ (.tail _ (.tail _ (.tail _ (.tail _ (.tail _ (.head _))))))
  refine ok_of c (.tail _ (.tail _ (.tail _ (.tail _ (.tail _ (.tail _ (.tail _ (.tail _ (.tail _ (.tail _ (.tail _ (.tail _ (.tail _ (.tail _ (.tail _ (.tail _ (.tail _ (.tail _ (.tail _ (.tail _ (.tail _ (.tail _ (.tail _ (.head _)))))))))))))))))))))))) (fun _ _ _ _ _ _ us hl => match us, hl with | [_, _], _ => rfl) sc__law_take (fun as Q h => by first | (obtain ⟨_, rfl, _⟩ := h; rfl) | (obtain ⟨_, _, rfl, _⟩ := h; rfl) | (obtain ⟨_, _, _, rfl, _⟩ := h; rfl) | (obtain ⟨_, _, _, _, rfl, _⟩ := h; rfl) | (obtain ⟨_, _, _, _, _, rfl, _⟩ := h; rfl) | (obtain ⟨_, _, _, _, _, _, rfl, _⟩ := h; rfl) | (obtain ⟨_, _, _, _, _, _, _, rfl, _⟩ := h; rfl) | (obtain ⟨_, _, _, _, _, _, _, _, rfl, _⟩ := h; rfl) | (obtain ⟨_, _, _, _, _, _, _, _, _, rfl, _⟩ := h; rfl) | (obtain ⟨rfl, _⟩ := h; rfl)) fun f cdv A outer s H E hr as Q qs hF hq => ?_
  obtain ⟨x, y, z, m, rfl, hm1, hm2, hQ⟩ := hF
  obtain ⟨p, rfl⟩ := List.length_eq_one_iff.mp hq
  refine ⟨_, (pss_cons (ps_asg (pe_op op_add (pe_ix (r := rIxL K) ix_list (pv 0) pe_int (fun _ _ => rfl)) pe_int) (pg_sub (pv 0) pe_int set_list))
    (pss_cons (ps_if (pt_cmpR op_eq (pe_ix (r := rIxL K) ix_list (pv 0) pe_int (fun _ _ => rfl)) pe_int (nomark _)) (pss_cons (ps_set (i := 3) nd rfl (Or.inl rfl) (pe_op op_mod (pe_callTy call_int1 rfl (c.fr _ (.tail _ (.tail _ (.tail _ (.tail _ (.tail _ (.tail _ (.tail _ (.head _))))))))) PyProof.Rows.boot_int (pa_cons (pe_ix (r := rIxL K) ix_list (pv 0) pe_int (fun _ _ => rfl)) pa_nil)) (pv 1)))
    (pss_cons (ps_asg (pe_op op_fdivW (pe_ix (r := rIxL K) ix_list (pv 0) pe_int (fun _ _ => rfl)) (pv 1)) (pg_sub (pv 0) pe_int set_list))
    (pss_one (ps_ret (pv 3))))) pss_nil)
    (pss_cons (ps_set (i := 2) nd rfl (Or.inl rfl) (pe_op op_mod (pe_callTy call_int1 rfl (c.fr _ (.tail _ (.tail _ (.tail _ (.tail _ (.tail _ (.tail _ (.tail _ (.head _))))))))) PyProof.Rows.boot_int (pa_cons (pe_op op_add (pe_op op_mul (pe_ix (r := rIxL K) ix_list (pv 0) pe_int (fun _ _ => rfl)) pe_int) (pe_op op_mul (pe_ix (r := rIxL K) ix_list (pv 0) pe_int (fun _ _ => rfl)) pe_int)) pa_nil)) pe_int))
    (pss_cons (ps_set (i := 2) nd rfl (Or.inl rfl) (pe_op op_mod (pe_callTy call_int1 rfl (c.fr _ (.tail _ (.tail _ (.tail _ (.tail _ (.tail _ (.tail _ (.tail _ (.head _))))))))) PyProof.Rows.boot_int (pa_cons (pe_op op_add (pe_op op_add (pe_op op_mul (pv 2) (pv 2)) (pe_op op_mul (pe_ix (r := rIxL K) ix_list (pv 0) pe_int (fun _ _ => rfl)) pe_int)) pe_int) pa_nil)) pe_int))
    (pss_one (ps_ret (pe_op op_mod (pe_callTy call_int1 rfl (c.fr _ (.tail _ (.tail _ (.tail _ (.tail _ (.tail _ (.tail _ (.tail _ (.head _))))))))) PyProof.Rows.boot_int (pa_cons (pe_op op_fdivW (pv 2) pe_int) pa_nil)) (pv 1)))))))), ?_⟩
  show Ss K T _ [.own p _, .val _, .no, .no] _
  have hm : (0 : Int) < m := by omega
  have cm : ∀ a : Int, CDivW a m := fun a => ⟨hm, by
    have h1 : m.natAbs < 2 ^ 60 := by
      have : m.natAbs ≤ 1000 := by omega
      exact Nat.lt_of_le_of_lt this (by decide)
    exact Nat.lt_of_lt_of_le (PySem.Flt.log2_lt_of (by decide) h1) (by decide)⟩
  have cm0 := cm x
  k_search "go"
  refine iteD (fun hc => ?_) fun hc => ?_
  · k_search "go"
    exact ⟨_, _, ⟨rfl, _, rfl, rfl⟩, rfl, hQ _ _ _ _ (Int.emod_nonneg _ (by omega)) (Int.emod_lt_of_pos _ hm)⟩
  · k_search "go"
    exact ⟨_, _, ⟨rfl, _, rfl, rfl⟩, rfl, hQ _ _ _ _ (Int.emod_nonneg _ (by omega)) (Int.emod_lt_of_pos _ hm)⟩
set_option Elab.async false
set_option linter.all false
set_option maxRecDepth 100000
set_option maxHeartbeats 4000001
open PySem L2 LamX NdefX PyProof.Rows GenW Pl
variable {P : Program} {w : World} {K : PySem.W.Frag} {mg : Str → Option Value} {base : Heap} {T : List NTab} {ts : List Str}
/-- a new word by a letter -/
theorem at_str {ws : List Str} {n : Int} (h1 : 0 ≤ n) (h2 : n < ((ws.map PyData.str).length : Nat)) : ∃ x, x ∈ ws ∧ atI (ws.map PyData.str) n = some (.str x) := by
  rw [List.length_map] at h2
  obtain ⟨k, rfl⟩ : ∃ k : Nat, n = k := ⟨n.toNat, by omega⟩
  have hk : k < ws.length := by omega
  exact ⟨ws[k], List.getElem_mem hk, atI_nat (by rw [List.getElem?_map, List.getElem?_eq_getElem hk]; rfl)⟩
theorem at_cps {x : Str} {n : Int} (h1 : 0 ≤ n) (h2 : n < (x.cps.toList.length : Nat)) : ∃ c, c ∈ x.cps.toList ∧ atI x.cps.toList n = some c := by
  obtain ⟨k, rfl⟩ : ∃ k : Nat, n = k := ⟨n.toNat, by omega⟩
  have hk : k < x.cps.toList.length := by omega
  exact ⟨x.cps.toList[k], List.getElem_mem hk, atI_nat (List.getElem?_eq_getElem hk)⟩
def F_word : FS := fun as Q => ∃ x y z : Int, as = [.own (bx x y z)] ∧ ∀ (v : Str) (x y z : Int), W v → Q (.val (.str v)) [bx x y z]
/-- a word under way -/
structure WP (v : Str) (k : Nat) : Prop where
  len : v.cps.toList.length = k + 1
  first : ∃ c r, v.cps.toList = c :: r ∧ c ∈ letters.cps.toList
  all : ∀ c ∈ v.cps.toList, c ∈ Pl.signs.cps.toList
theorem letters_signs : ∀ c ∈ letters.cps.toList, c ∈ Pl.signs.cps.toList := by decide
theorem WP.ws {v : Str} {k : Nat} (h : WP v k) (hk : k ≤ 11) : WS v where
  lo := by rw [len_tl, h.len]; omega
  hi := by rw [len_tl, h.len]; omega
  first := by
    obtain ⟨c, r, e, hc⟩ := h.first
    refine ⟨c, ?_, hc⟩
    rw [← Array.getElem?_toList, e]
    rfl
  all := h.all
theorem WP.cut {v : Str} {k : Nat} (h : WP v k) (hr : v ∈ reserved) : W (cutS v none (some 11) ++ "0") := by
  have : ∀ v ∈ reserved, W (cutS v none (some 11) ++ "0") := by
    intro v hv
    have hall : ∀ v ∈ reserved, (decide (1 ≤ (cutS v none (some 11) ++ "0" : Str).length) && decide ((cutS v none (some 11) ++ "0" : Str).length ≤ 12) && decide ((cutS v none (some 11) ++ "0" : Str) ∉ reserved) &&
      (match (cutS v none (some 11) ++ "0" : Str).cps[0]? with | some c => decide (c ∈ letters.cps.toList) | none => false) && ((cutS v none (some 11) ++ "0" : Str).cps.toList.all fun c => decide (c ∈ Pl.signs.cps.toList))) = true := by decide +kernel
    have q := hall v hv
    simp only [Bool.and_eq_true, decide_eq_true_eq, List.all_eq_true] at q
    obtain ⟨⟨⟨⟨q1, q2⟩, q3⟩, q4⟩, q5⟩ := q
    refine ⟨q1, q2, q3, ?_, q5⟩
    cases e : (cutS v none (some 11) ++ "0" : Str).cps[0]? with
    | none => rw [e] at q4; cases q4
    | some c => rw [e] at q4; exact ⟨c, rfl, of_decide_eq_true q4⟩
  exact this v hr
theorem ok_lword (c : Al K mg base ds fr ts cs) (h__law_take : Ok P w K mg base 1 "_law_take" ["box", "many"] (spOf K T F_take)) (h__law_is_word : Ok P w K mg base 2 "_law_is_word" ["value"] (spOf K T F_lis_word)) :
    Ok P w K mg base 3 "_law_word" ["box"] (spOf K T F_word) := by
  have nd := sc__law_word.nd
  have kTOP := c.cs _ (.head _)
  have kBOTTOM := c.cs _ (.tail _ (.head _))
  have kRESERVED := c.cs _ (.tail _ (.tail _ (.tail _ (.tail _ (.tail _ (.head _))))))
  refine ok_of c (.tail _ (.tail _ (.tail _ (.tail _ (.tail _ (.tail _ (.tail _ (.tail _ (.tail _ (.tail _ (.tail _ (.tail _ (.tail _ (.tail _ (.tail _ (.tail _ (.tail _ (.tail _ (.tail _ (.tail _ (.tail _ (.tail _ (.tail _ (.tail _ (.tail _ (.tail _ (.tail _ (.head _)))))))))))))))))))))))))))) (fun _ _ _ _ _ _ us hl => match us, hl with | [_], _ => rfl) sc__law_word (fun as Q h => by first | (obtain ⟨_, rfl, _⟩ := h; rfl) | (obtain ⟨_, _, rfl, _⟩ := h; rfl) | (obtain ⟨_, _, _, rfl, _⟩ := h; rfl) | (obtain ⟨_, _, _, _, rfl, _⟩ := h; rfl) | (obtain ⟨_, _, _, _, _, rfl, _⟩ := h; rfl) | (obtain ⟨_, _, _, _, _, _, rfl, _⟩ := h; rfl) | (obtain ⟨_, _, _, _, _, _, _, rfl, _⟩ := h; rfl) | (obtain ⟨_, _, _, _, _, _, _, _, rfl, _⟩ := h; rfl) | (obtain ⟨_, _, _, _, _, _, _, _, _, rfl, _⟩ := h; rfl) | (obtain ⟨rfl, _⟩ := h; rfl)) fun f cdv A outer s H E hr as Q qs hF hq => ?_
  obtain ⟨x, y, z, rfl, hQ⟩ := hF
  obtain ⟨p, rfl⟩ := List.length_eq_one_iff.mp hq
  refine ⟨_, (pss_cons (ps_set (i := 1) nd rfl (Or.inl rfl) pe_str)
    (pss_cons (ps_set (i := 2) nd rfl (Or.inl rfl) (pe_ix (r := rIxS) ix_str (pv 1) (pe_f h__law_take (hr.mono (by omega)) rfl (pa_cons (pv 0) (pa_cons pe_int pa_nil))) (fun _ _ => rfl)))
    (pss_cons (ps_for PassesOwn.never rfl (pi_range1 rfl (c.fr _ (.tail _ (.tail _ (.tail _ (.tail _ (.tail _ (.tail _ (.tail _ (.tail _ (.tail _ (.tail _ (.head _)))))))))))) (pa_cons (pe_f h__law_take (hr.mono (by omega)) rfl (pa_cons (pv 0) (pa_cons pe_int pa_nil))) pa_nil)) (pg_name (i := 3) nd rfl (Or.inl rfl)) (pss_one (ps_set (i := 2) nd rfl (Or.inl rfl) (pe_op op_add_str (pv 2) (pe_ix (r := rIxS) ix_str (pe_op op_add_str (pv 1) pe_str) (pe_f h__law_take (hr.mono (by omega)) rfl (pa_cons (pv 0) (pa_cons pe_int pa_nil))) (fun _ _ => rfl))))))
    (pss_cons (ps_if (pt_not (pt_val (pe_f h__law_is_word (hr.mono (by omega)) rfl (pa_cons (pv 2) pa_nil)))) (pss_one (ps_set (i := 2) nd rfl (Or.inl rfl) (pe_op op_add_str (pe_slice (r := rSlS) sl_str (pv 2) po_none (po_some pe_int)) pe_str))) pss_nil)
    (pss_one (ps_ret (pv 2))))))), ?_⟩
  show Ss K T _ [.own p _, .no, .no, .no] _
  have ls : (letters ++ "0123456789" : Str) = Pl.signs := by decide +kernel
  have l26 : letters.cps.toList.length = 26 := by decide +kernel
  have l36 : Pl.signs.cps.toList.length = 36 := by decide +kernel
  k_search "go"
  k_search "take"
  rename_i n x y z h1 h2
  obtain ⟨c0, hc0, hat0⟩ := at_cps (x := letters) h1 (by rw [l26]; exact h2)
  refine ⟨_, _, _, rfl, rfl, by decide +kernel, hat0, ?_⟩
  have w0 : WP ⟨#[c0]⟩ 0 := ⟨rfl, ⟨c0, [], rfl, hc0⟩, fun c hc => by rw [List.mem_singleton.mp (show c ∈ [c0] from hc)]; exact letters_signs c0 hc0⟩
  k_search "go"
  refine go_forRx ?_
  k_search "go"
  k_search "take"
  rename_i m x y z h3 h4
  obtain ⟨m, rfl⟩ : ∃ k : Nat, m = k := ⟨m.toNat, by omega⟩
  k_search "go"
  refine ⟨by omega, fun k δ => ∃ (v : Str) (x y z : Int) (s : Sl), WP v k ∧ δ = [.own p (bx x y z), .val (.str letters), .val (.str v), s], ⟨_, _, _, _, _, w0, rfl⟩, ?_, ?_⟩
  · rintro k δ2 hk ⟨v, x, y, z, s, wp, rfl⟩
    k_search "nrm"
    k_search "go"
    refine opd_addS (by decide +kernel) ?_
    rw [ls]
    k_search "go"
    k_search "take"
    rename_i n x y z h5 h6
    obtain ⟨c1, hc1, hat1⟩ := at_cps (x := Pl.signs) h5 (by rw [l36]; exact h6)
    refine ⟨_, _, _, rfl, rfl, by decide +kernel, hat1, ?_⟩
    have vl := wp.len
    k_search "go"
    refine opd_addS (by rw [len_tl, len_tl, vl]; show k + 1 + 1 ≤ 100000; omega) ?_
    k_search "go"
    refine ⟨_, _, _, _, _, ⟨?_, ?_, ?_⟩, rfl⟩
    · rw [tl_app, List.length_append, vl]; rfl
    · obtain ⟨c, r, e, hc⟩ := wp.first
      exact ⟨c, r ++ [c1], by rw [tl_app, e]; rfl, hc⟩
    · intro c hc
      rw [tl_app] at hc
      rcases List.mem_append.mp hc with h | h
      · exact wp.all c h
      · rw [List.mem_singleton.mp (show c ∈ [c1] from h)]; exact hc1
  · rintro δ2 ⟨v, x, y, z, s, wp, rfl⟩
    have hws := wp.ws (by omega)
    k_search "go"
    refine cv [.val _] ⟨rfl, trivial⟩ ⟨v, rfl, hws, rim rfl, ?_⟩
    refine ⟨_, rfl, ?_⟩
    by_cases hr : v ∈ reserved
    · rw [decide_eq_true hr]
      have hl : v.length ≤ 1000000 := Nat.le_trans hws.hi (by decide)
      refine iteT rfl (go_set (ex_op (ex_slS ?_)))
      k_search "go"
      have w2 := wp.cut hr
      have w3 := w2.hi
      rw [len_tl, tl_app, List.length_append] at w3
      refine ⟨hl, ?_⟩
      k_search "go"
      exact ⟨_, _, ⟨rfl, _, rfl, rfl⟩, rfl, hQ _ _ _ _ w2⟩
    · rw [decide_eq_false hr]
      k_search "go"
      exact ⟨_, _, ⟨rfl, _, rfl, rfl⟩, rfl, hQ _ _ _ _ (hws.toW hr)⟩
def F_words : FS := fun as Q => ∃ (x y z m f : Int), as = [.own (bx x y z), .val (.int m), .val (.int f)] ∧ 1 ≤ m ∧ m ≤ 6 ∧ ∀ (ws : List Str) (x y z : Int), ((ws.length : Nat) : Int) = m → (∀ w ∈ ws, W w) → Q (.new (.lst (ws.map .str))) [bx x y z]
abbrev menu0 : List Str := ["a", "b", "a0", "ab", "top1", "so", "r", "b1", "andy", "thing2", "c"]
theorem menu_W : ∀ v ∈ menu0, W v := by
  intro v hv
  have hall : ∀ v ∈ menu0, (decide (1 ≤ v.length) && decide (v.length ≤ 12) && decide (v ∉ reserved) && (match v.cps[0]? with | some c => decide (c ∈ letters.cps.toList) | none => false) && (v.cps.toList.all fun c => decide (c ∈ Pl.signs.cps.toList))) = true := by decide +kernel
  have q := hall v hv
  simp only [Bool.and_eq_true, decide_eq_true_eq, List.all_eq_true] at q
  obtain ⟨⟨⟨⟨q1, q2⟩, q3⟩, q4⟩, q5⟩ := q
  refine ⟨q1, q2, q3, ?_, q5⟩
  cases e : v.cps[0]? with
  | none => rw [e] at q4; cases q4
  | some c => rw [e] at q4; exact ⟨c, rfl, of_decide_eq_true q4⟩
theorem ok_lwords (c : Al K mg base ds fr ts cs) (h__law_take : Ok P w K mg base 1 "_law_take" ["box", "many"] (spOf K T F_take)) (h__law_word : Ok P w K mg base 3 "_law_word" ["box"] (spOf K T F_word)) :
    Ok P w K mg base 4 "_law_words" ["box", "many", "free"] (spOf K T F_words) := by
  have nd := sc__law_words.nd
  have kTOP := c.cs _ (.head _)
  have kBOTTOM := c.cs _ (.tail _ (.head _))
  have kRESERVED := c.cs _ (.tail _ (.tail _ (.tail _ (.tail _ (.tail _ (.head _))))))
  refine ok_of c (.tail _ (.tail _ (.tail _ (.tail _ (.tail _ (.tail _ (.tail _ (.tail _ (.tail _ (.tail _ (.tail _ (.tail _ (.tail _ (.tail _ (.tail _ (.tail _ (.tail _ (.tail _ (.tail _ (.tail _ (.tail _ (.tail _ (.tail _ (.tail _ (.tail _ (.tail _ (.tail _ (.tail _ (.head _))))))))))))))))))))))))))))) (fun _ _ _ _ _ _ us hl => match us, hl with | [_, _, _], _ => rfl) sc__law_words (fun as Q h => by first | (obtain ⟨_, rfl, _⟩ := h; rfl) | (obtain ⟨_, _, rfl, _⟩ := h; rfl) | (obtain ⟨_, _, _, rfl, _⟩ := h; rfl) | (obtain ⟨_, _, _, _, rfl, _⟩ := h; rfl) | (obtain ⟨_, _, _, _, _, rfl, _⟩ := h; rfl) | (obtain ⟨_, _, _, _, _, _, rfl, _⟩ := h; rfl) | (obtain ⟨_, _, _, _, _, _, _, rfl, _⟩ := h; rfl) | (obtain ⟨_, _, _, _, _, _, _, _, rfl, _⟩ := h; rfl) | (obtain ⟨_, _, _, _, _, _, _, _, _, rfl, _⟩ := h; rfl) | (obtain ⟨rfl, _⟩ := h; rfl)) fun f cdv A outer s H E hr as Q qs hF hq => ?_
  obtain ⟨x, y, z, m, f, rfl, hm1, hm2, hQ⟩ := hF
  obtain ⟨p, rfl⟩ := List.length_eq_one_iff.mp hq
  refine ⟨_, (pss_cons (ps_set (i := 3) nd rfl (Or.inl rfl) (pe_lst (pa_cons pe_str (pa_cons pe_str (pa_cons pe_str (pa_cons pe_str (pa_cons pe_str (pa_cons pe_str (pa_cons pe_str (pa_cons pe_str (pa_cons pe_str (pa_cons pe_str (pa_cons pe_str pa_nil)))))))))))))
    (pss_cons (ps_set (i := 4) nd rfl (Or.inl rfl) (pe_f h__law_take (hr.mono (by omega)) rfl (pa_cons (pv 0) (pa_cons pe_int pa_nil))))
    (pss_cons (ps_set (i := 5) nd rfl (Or.inl rfl) (pe_op op_add pe_int (pe_f h__law_take (hr.mono (by omega)) rfl (pa_cons (pv 0) (pa_cons pe_int pa_nil)))))
    (pss_cons (ps_set (i := 6) nd rfl (Or.inl rfl) (pe_lst pa_nil))
    (pss_cons (ps_for PassesOwn.never rfl (pi_range1 rfl (c.fr _ (.tail _ (.tail _ (.tail _ (.tail _ (.tail _ (.tail _ (.tail _ (.tail _ (.tail _ (.tail _ (.head _)))))))))))) (pa_cons (pv 1) pa_nil)) (pg_name (i := 7) nd rfl (Or.inl rfl)) (pss_one (ps_if (pt_cmpR op_eq (pv 2) pe_int (nomark _)) (pss_one (ps_expr (pe_bmK (K0 := K) PySem.F.plainAttrs_list PySem.F.slot_list_append PySem.F.type_list_append mt_append (pv 6) (pa_cons (pe_f h__law_word (hr.mono (by omega)) rfl (pa_cons (pv 0) pa_nil)) pa_nil)))) (pss_one (ps_expr (pe_bmK (K0 := K) PySem.F.plainAttrs_list PySem.F.slot_list_append PySem.F.type_list_append mt_append (pv 6) (pa_cons (pe_ix (r := rIxL K) ix_list (pv 3) (pe_op op_mod (pe_op op_add (pv 4) (pe_op op_mul (pv 7) (pv 5))) pe_int) (fun _ _ => rfl)) pa_nil)))))))
    (pss_one (ps_ret (pv 6)))))))), ?_⟩
  show Ss K T _ [.own p _, .val _, .val _, .no, .no, .no, .no, .no] _
  obtain ⟨M, rfl⟩ : ∃ k : Nat, m = k := ⟨m.toNat, by omega⟩
  k_search "go"
  refine ⟨[_, _, _, _, _, _, _, _, _, _, _], ⟨rfl, rfl, rfl, rfl, rfl, rfl, rfl, rfl, rfl, rfl, rfl, trivial⟩, by k_search "len", ?_⟩
  k_search "go"
  k_search "take"
  rename_i n x y z h1 h2
  k_search "go"
  k_search "take"
  rename_i n2 x y z h3 h4
  k_search "go"
  refine go_forR M (fun k δ => ∃ (x y z : Int) (a b : Addr) (ws : List Str) (s : Sl), ws.length = k ∧ (∀ w ∈ ws, W w) ∧
    δ = [.own p (bx x y z), .val (.int M), .val (.int f), .own a (.lst (menu0.map .str)), .val (.int n), .val (.int (1 + n2)), .own b (.lst (ws.map .str)), s]) (by omega) ?_ ?_ ?_
  · k_search "go"
    exact ⟨rfl, _, _, _, _, _, [], _, rfl, (fun w hw => by cases hw), rfl⟩
  · rintro k δ2 hk ⟨x, y, z, a, b, ws, s, hl, hw, rfl⟩
    have hlm : (ws.map PyData.str).length < 100000 := by rw [List.length_map]; omega
    k_search "nrm"
    k_search "go"
    refine iteD (fun hc => ?_) fun hc => ?_
    · k_search "go"
      refine cx [.own _] [0] ⟨rfl, ⟨_, rfl⟩, trivial⟩ (by decide) ⟨_, _, _, rfl, fun v x y z hv => ⟨rim1 rfl rfl, ?_⟩⟩
      k_search "nrm"
      k_search "go"
      exact ⟨_, _, _, _, _, ws ++ [v], _, by rw [List.length_append, hl]; rfl, (fun w hx => (List.mem_append.mp hx).elim (hw w) fun q => by rw [List.mem_singleton.mp q]; exact hv), by rw [List.map_append]; rfl⟩
    · have e1 := Int.emod_nonneg (n + (k : Int) * (1 + n2)) (show (11 : Int) ≠ 0 by decide)
      have e2 := Int.emod_lt_of_pos (n + (k : Int) * (1 + n2)) (show (0 : Int) < 11 by decide)
      obtain ⟨v, hv, hat⟩ := at_str (ws := menu0) e1 e2
      k_search "go"
      exact ⟨_, _, _, _, _, ws ++ [v], _, by rw [List.length_append, hl]; rfl, (fun w hx => (List.mem_append.mp hx).elim (hw w) fun q => by rw [List.mem_singleton.mp q]; exact menu_W v hv), by rw [List.map_append]; rfl⟩
  · rintro δ2 ⟨x, y, z, a, b, ws, s, hl, hw, rfl⟩
    k_search "go"
    exact ⟨_, _, ⟨rfl, _, rfl, rfl⟩, ⟨Nat.le_of_ble_eq_true rfl, _, _, rfl, rfl⟩, hQ ws _ _ _ (by rw [hl]) hw⟩
def pool (ls ties : List Str) (e : Int) : D := .list [.list (ls.map .str), .list (ties.map .str), .int e]
structure PoolOk (ls ties : List Str) : Prop where
  l1 : ls ≠ []
  l2 : ties ≠ []
  l3 : ls.length ≤ 6
  l4 : ties.length ≤ 6
  l5 : ∀ w ∈ ls, W w
  l6 : ∀ w ∈ ties, W w
def F_pool : FS := fun as Q => ∃ x y z : Int, as = [.own (bx x y z)] ∧ ∀ (ls ties : List Str) (e x y z : Int), PoolOk ls ties → Q (.new (.lst [.list (ls.map .str), .list (ties.map .str), .int e])) [bx x y z]
theorem cut_strs (ws : List Str) : ∃ ms : List Str, Pl.cutD (ws.map PyData.str) none (some 2) = ms.map .str ∧ (∀ w ∈ ms, w ∈ ws) ∧ (ws ≠ [] → ms ≠ []) ∧ ms.length ≤ ws.length := by
  refine ⟨ws.take 2, ?_, fun w h => List.mem_of_mem_take h, fun h => by cases ws with | nil => exact absurd rfl h | cons a b => simp, by rw [List.length_take]; omega⟩
  match ws with
  | [] => rfl
  | [a] => rfl
  | a :: b :: ws =>
    unfold Pl.cutD
    have h1 : HT.sIx ((a :: b :: ws).map PyData.str).length 0 none = 0 := rfl
    have h2 : HT.sIx ((a :: b :: ws).map PyData.str).length ((a :: b :: ws).map PyData.str).length (some 2) = 2 := by
      simp only [HT.sIx, List.length_map, List.length_cons]
      rw [if_neg (by decide)]
      have : Int.toNat 2 = 2 := rfl
      omega
    rw [h1, h2]
    rfl
theorem ok_lpool (c : Al K mg base ds fr ts cs) (h__law_take : Ok P w K mg base 1 "_law_take" ["box", "many"] (spOf K T F_take)) (h__law_words : Ok P w K mg base 4 "_law_words" ["box", "many", "free"] (spOf K T F_words)) :
    Ok P w K mg base 5 "_law_pool" ["box"] (spOf K T F_pool) := by
  have nd := sc__law_pool.nd
  have kTOP := c.cs _ (.head _)
  have kBOTTOM := c.cs _ (.tail _ (.head _))
  have kRESERVED := c.cs _ (.tail _ (.tail _ (.tail _ (.tail _ (.tail _ (.head _))))))
  refine ok_of c (.tail _ (.tail _ (.tail _ (.tail _ (.tail _ (.tail _ (.tail _ (.tail _ (.tail _ (.tail _ (.tail _ (.tail _ (.tail _ (.tail _ (.tail _ (.tail _ (.tail _ (.tail _ (.tail _ (.tail _ (.tail _ (.tail _ (.tail _ (.tail _ (.tail _ (.tail _ (.tail _ (.tail _ (.tail _ (.head _)))))))))))))))))))))))))))))) (fun _ _ _ _ _ _ us hl => match us, hl with | [_], _ => rfl) sc__law_pool (fun as Q h => by first | (obtain ⟨_, rfl, _⟩ := h; rfl) | (obtain ⟨_, _, rfl, _⟩ := h; rfl) | (obtain ⟨_, _, _, rfl, _⟩ := h; rfl) | (obtain ⟨_, _, _, _, rfl, _⟩ := h; rfl) | (obtain ⟨_, _, _, _, _, rfl, _⟩ := h; rfl) | (obtain ⟨_, _, _, _, _, _, rfl, _⟩ := h; rfl) | (obtain ⟨_, _, _, _, _, _, _, rfl, _⟩ := h; rfl) | (obtain ⟨_, _, _, _, _, _, _, _, rfl, _⟩ := h; rfl) | (obtain ⟨_, _, _, _, _, _, _, _, _, rfl, _⟩ := h; rfl) | (obtain ⟨rfl, _⟩ := h; rfl)) fun f cdv A outer s H E hr as Q qs hF hq => ?_
  obtain ⟨x, y, z, rfl, hQ⟩ := hF
  obtain ⟨p, rfl⟩ := List.length_eq_one_iff.mp hq
  refine ⟨_, (pss_cons (ps_set (i := 1) nd rfl (Or.inl rfl) (pe_callTy call_int1 rfl (c.fr _ (.tail _ (.tail _ (.tail _ (.tail _ (.tail _ (.tail _ (.tail _ (.head _))))))))) PyProof.Rows.boot_int (pa_cons (pe_cmpR op_eq (pe_f h__law_take (hr.mono (by omega)) rfl (pa_cons (pv 0) (pa_cons pe_int pa_nil))) pe_int (nomark _)) pa_nil)))
    (pss_cons (ps_set (i := 2) nd rfl (Or.inl rfl) (pe_callTy call_int1 rfl (c.fr _ (.tail _ (.tail _ (.tail _ (.tail _ (.tail _ (.tail _ (.tail _ (.head _))))))))) PyProof.Rows.boot_int (pa_cons (pe_cmpR op_eq (pe_f h__law_take (hr.mono (by omega)) rfl (pa_cons (pv 0) (pa_cons pe_int pa_nil))) pe_int (nomark _)) pa_nil)))
    (pss_cons (ps_set (i := 3) nd rfl (Or.inl rfl) (pe_f h__law_words (hr.mono (by omega)) rfl (pa_cons (pv 0) (pa_cons (pe_op op_add pe_int (pe_f h__law_take (hr.mono (by omega)) rfl (pa_cons (pv 0) (pa_cons pe_int pa_nil)))) (pa_cons (pv 1) pa_nil)))))
    (pss_cons (ps_set (i := 4) nd rfl (Or.inl rfl) (pe_f h__law_words (hr.mono (by omega)) rfl (pa_cons (pv 0) (pa_cons (pe_op op_add pe_int (pe_f h__law_take (hr.mono (by omega)) rfl (pa_cons (pv 0) (pa_cons pe_int pa_nil)))) (pa_cons (pv 1) pa_nil)))))
    (pss_cons (ps_if (pt_cmpR op_eq (pe_f h__law_take (hr.mono (by omega)) rfl (pa_cons (pv 0) (pa_cons pe_int pa_nil))) pe_int (nomark _)) (pss_one (ps_set (i := 4) nd rfl (Or.inl rfl) (pe_slice (r := rSlL K) sl_list (pv 4) po_none (po_some pe_int)))) pss_nil)
    (pss_one (ps_ret (pe_lst (pa_cons (pv 3) (pa_cons (pv 4) (pa_cons (pv 2) pa_nil))))))))))), ?_⟩
  show Ss K T _ [.own p _, .no, .no, .no, .no] _
  k_search "go"
  k_search "take"
  rename_i n1 x y z h1 h2
  k_search "go"
  k_search "take"
  rename_i n2 x y z h3 h4
  k_search "go"
  k_search "take"
  rename_i n3 x y z h5 h6
  k_search "go"
  refine cx [.own _, .val _, .val _] [0] ⟨rfl, ⟨_, rfl⟩, rfl, rfl, trivial⟩ (by decide) ⟨_, _, _, _, _, rfl, by omega, by omega, fun ls x y z hl hw => ⟨rimL1 (imm_strs _) rfl, ?_⟩⟩
  k_search "nrm"
  k_search "go"
  k_search "take"
  rename_i n4 x y z h7 h8
  k_search "go"
  refine cx [.own _, .val _, .val _] [0] ⟨rfl, ⟨_, rfl⟩, rfl, rfl, trivial⟩ (by decide) ⟨_, _, _, _, _, rfl, by omega, by omega, fun ts x y z hl2 hw2 => ⟨rimL1 (imm_strs _) rfl, ?_⟩⟩
  k_search "nrm"
  k_search "go"
  k_search "take"
  rename_i n5 x y z h9 h10
  have ok0 : PoolOk ls ts := ⟨fun e => by subst e; simp at hl; omega, fun e => by subst e; simp at hl2; omega, by omega, by omega, hw, hw2⟩
  k_search "go"
  refine iteD (fun hc => ?_) fun hc => ?_
  · obtain ⟨ms, em, hm1, hm2, hm3⟩ := cut_strs ts
    k_search "go"
    rw [em]
    refine ⟨imm_strs ms, ?_⟩
    with_reducible apply st_n
    · k_search "len"
    · intro _; k_search "set"
    intro ad
    refine go_ret (ex_lst (exa_cons (ex_frzB ⟨_, _, rfl, ?_⟩)))
    k_search "nrm"
    refine exa_cons (ex_frzB ⟨_, _, rfl, ?_⟩)
    k_search "nrm"
    k_search "go"
    exact ⟨_, _, ⟨rfl, _, rfl, rfl⟩, rfl, hQ ls ms _ _ _ _ ⟨ok0.l1, hm2 ok0.l2, ok0.l3, Nat.le_trans hm3 ok0.l4, hw, fun w h => hw2 w (hm1 w h)⟩⟩
  · refine go_next ?_
    refine go_ret (ex_lst (exa_cons (ex_frzB ⟨_, _, rfl, ?_⟩)))
    k_search "nrm"
    refine exa_cons (ex_frzB ⟨_, _, rfl, ?_⟩)
    k_search "nrm"
    k_search "go"
    exact ⟨_, _, ⟨rfl, _, rfl, rfl⟩, rfl, hQ ls ts _ _ _ _ ok0⟩
set_option Elab.async false
set_option linter.all false
set_option maxRecDepth 100000
set_option maxHeartbeats 4000001
open PySem L2 LamX NdefX PyProof.Rows GenW Pl
variable {P : Program} {w : World} {K : PySem.W.Frag} {mg : Str → Option Value} {base : Heap} {T : List NTab} {ts : List Str}
theorem PoolOk.f {ls ties : List Str} (h : PoolOk ls ties) : (1 : Int) ≤ ((ls.map PyData.str).length : Nat) ∧ ((ls.map PyData.str).length : Int) ≤ 1000 ∧ (1 : Int) ≤ ((ties.map PyData.str).length : Nat) ∧ ((ties.map PyData.str).length : Int) ≤ 1000 := by
  have h1 := List.length_pos_iff.mpr h.l1
  have h2 := List.length_pos_iff.mpr h.l2
  have h3 := h.l3
  have h4 := h.l4
  rw [List.length_map, List.length_map]
  exact ⟨by omega, by omega, by omega, by omega⟩
def F_term (h : Nat) : FS := fun as Q => ∃ (x y z : Int) (ls ties : List Str) (e d l : Int), as = [.own (bx x y z), .val (pool ls ties e), .val (.int d), .own (.lst [.int l])] ∧ PoolOk ls ties ∧ 1 ≤ d ∧ d ≤ h ∧ 1 ≤ l ∧ l ≤ 500 ∧
  ∀ (t : Tm) (x y z l' : Int), t.good → ((t.ht : Nat) : Int) ≤ d → 0 ≤ l' → ((t.cnt : Nat) : Int) + l' ≤ l → Q (.val t.d) [bx x y z, .lst [.int l']]
theorem at6 {n : Int} (h1 : 0 ≤ n) (h2 : n < 6) : ∃ m : Nat, m ≤ 9 ∧ atI [PyData.int 2, .int 3, .int 1, .int 0, .int 4, .int 9] n = some (.int m) := by
  have : n = 0 ∨ n = 1 ∨ n = 2 ∨ n = 3 ∨ n = 4 ∨ n = 5 := by omega
  rcases this with rfl | rfl | rfl | rfl | rfl | rfl
  · exact ⟨2, by decide, rfl⟩
  · exact ⟨3, by decide, rfl⟩
  · exact ⟨1, by decide, rfl⟩
  · exact ⟨0, by decide, rfl⟩
  · exact ⟨4, by decide, rfl⟩
  · exact ⟨9, by decide, rfl⟩
theorem htL_snoc (ps : List Tm) (t : Tm) {n : Nat} (h : Tm.htL ps ≤ n) (k : t.ht ≤ n) : Tm.htL (ps ++ [t]) ≤ n := by
  induction ps with
  | nil => exact Nat.max_le.mpr ⟨k, Nat.zero_le _⟩
  | cons p ps ih =>
    have h : max p.ht (Tm.htL ps) ≤ n := h
    exact Nat.max_le.mpr ⟨by omega, ih (by omega)⟩
theorem goodL_snoc (ps : List Tm) (t : Tm) (h : Tm.goodL ps) (k : t.good) : Tm.goodL (ps ++ [t]) := Tm.goodL_iff.mpr fun x hx => (List.mem_append.mp hx).elim (Tm.goodL_iff.mp h x) fun q => by rw [List.mem_singleton.mp q]; exact k
theorem cntL_snoc (ps : List Tm) (t : Tm) : Tm.cntL (ps ++ [t]) = Tm.cntL ps + t.cnt := by rw [Pl.cntL_app]; show _ + (t.cnt + 0) = _; omega
theorem ok_lterm (c : Al K mg base ds fr ts cs) (h__law_take : Ok P w K mg base 1 "_law_take" ["box", "many"] (spOf K T F_take)) : ∀ h : Nat, Ok P w K mg base (h + 2) "_law_term" ["box", "pool", "deep", "left"] (spOf K T (F_term h))
  | 0 => by
    have nd := sc__law_term.nd
    have kTOP := c.cs _ (.head _)
    have kBOTTOM := c.cs _ (.tail _ (.head _))
    have kRESERVED := c.cs _ (.tail _ (.tail _ (.tail _ (.tail _ (.tail _ (.head _))))))
    refine ok_of c (.tail _ (.tail _ (.tail _ (.tail _ (.tail _ (.tail _ (.tail _ (.tail _ (.tail _ (.tail _ (.tail _ (.tail _ (.tail _ (.tail _ (.tail _ (.tail _ (.tail _ (.tail _ (.tail _ (.tail _ (.tail _ (.tail _ (.tail _ (.tail _ (.tail _ (.tail _ (.tail _ (.tail _ (.tail _ (.tail _ (.head _))))))))))))))))))))))))))))))) (fun _ _ _ _ _ _ us hl => match us, hl with | [_, _, _, _], _ => rfl) sc__law_term (fun as Q h => by first | (obtain ⟨_, rfl, _⟩ := h; rfl) | (obtain ⟨_, _, rfl, _⟩ := h; rfl) | (obtain ⟨_, _, _, rfl, _⟩ := h; rfl) | (obtain ⟨_, _, _, _, rfl, _⟩ := h; rfl) | (obtain ⟨_, _, _, _, _, rfl, _⟩ := h; rfl) | (obtain ⟨_, _, _, _, _, _, rfl, _⟩ := h; rfl) | (obtain ⟨_, _, _, _, _, _, _, rfl, _⟩ := h; rfl) | (obtain ⟨_, _, _, _, _, _, _, _, rfl, _⟩ := h; rfl) | (obtain ⟨_, _, _, _, _, _, _, _, _, rfl, _⟩ := h; rfl) | (obtain ⟨rfl, _⟩ := h; rfl)) fun f cdv A outer s H E hr as Q qs hF hq => ?_
    obtain ⟨x, y, z, ls, ties, e, d, l, rfl, _, h1, h2, _⟩ := hF
    omega
  | h + 1 => by
    have h__law_term := ok_lterm c h__law_take h
    have nd := sc__law_term.nd
    have kTOP := c.cs _ (.head _)
    have kBOTTOM := c.cs _ (.tail _ (.head _))
    have kRESERVED := c.cs _ (.tail _ (.tail _ (.tail _ (.tail _ (.tail _ (.head _))))))
    refine ok_of c (.tail _ (.tail _ (.tail _ (.tail _ (.tail _ (.tail _ (.tail _ (.tail _ (.tail _ (.tail _ (.tail _ (.tail _ (.tail _ (.tail _ (.tail _ (.tail _ (.tail _ (.tail _ (.tail _ (.tail _ (.tail _ (.tail _ (.tail _ (.tail _ (.tail _ (.tail _ (.tail _ (.tail _ (.tail _ (.tail _ (.head _))))))))))))))))))))))))))))))) (fun _ _ _ _ _ _ us hl => match us, hl with | [_, _, _, _], _ => rfl) sc__law_term (fun as Q h => by first | (obtain ⟨_, rfl, _⟩ := h; rfl) | (obtain ⟨_, _, rfl, _⟩ := h; rfl) | (obtain ⟨_, _, _, rfl, _⟩ := h; rfl) | (obtain ⟨_, _, _, _, rfl, _⟩ := h; rfl) | (obtain ⟨_, _, _, _, _, rfl, _⟩ := h; rfl) | (obtain ⟨_, _, _, _, _, _, rfl, _⟩ := h; rfl) | (obtain ⟨_, _, _, _, _, _, _, rfl, _⟩ := h; rfl) | (obtain ⟨_, _, _, _, _, _, _, _, rfl, _⟩ := h; rfl) | (obtain ⟨_, _, _, _, _, _, _, _, _, rfl, _⟩ := h; rfl) | (obtain ⟨rfl, _⟩ := h; rfl)) fun f cdv A outer s H E hr as Q qs hF hq => ?_
    obtain ⟨x, y, z, ls, ties, e, d, l, rfl, po, hd1, hd2, hl1, hl2, hQ⟩ := hF
    match qs, hq with
    | [p, q], _ =>
    refine ⟨_, (pss_cons (ps_asg (pe_op op_sub (pe_ix (r := rIxL K) ix_list (pv 3) pe_int (fun _ _ => rfl)) pe_int) (pg_sub (pv 3) pe_int set_list))
    (pss_cons (ps_set (i := 4) nd rfl (Or.inl rfl) (pe_f h__law_take (hr.mono (by omega)) rfl (pa_cons (pv 0) (pa_cons pe_int pa_nil))))
    (pss_cons (ps_if (pt_cmpR op_eq (pv 4) pe_int (nomark _)) (pss_cons (ps_if (PW.pt (pw_and (pt_cmpR op_eq (pe_ix (r := rIxL K) ix_list (pv 1) pe_int (fun _ _ => rfl)) pe_int (nomark _)) (pw_and1 (pt_cmpR op_eq (pe_f h__law_take (hr.mono (by omega)) rfl (pa_cons (pv 0) (pa_cons pe_int pa_nil))) pe_int (nomark _))))) (pss_one (ps_ret (pe_tup (pa_cons pe_str pa_nil)))) pss_nil)
    (pss_one (ps_ret (pe_tup (pa_cons pe_str pa_nil))))) pss_nil)
    (pss_cons (ps_if (PW.pt (pw_or (pt_cmpR op_eq (pv 2) pe_int (nomark _)) (pw_or (pt_cmpR op_eq (pe_ix (r := rIxL K) ix_list (pv 3) pe_int (fun _ _ => rfl)) pe_int (nomark _)) (pw_or1 (pt_cmpR op_lt (pv 4) pe_int (nomark _)))))) (pss_one (ps_ret (pe_tup (pa_cons pe_str (pa_cons (pe_ix (r := rIxL K) ix_list (pe_ix (r := rIxL K) ix_list (pv 1) pe_int (fun _ _ => rfl)) (pe_f h__law_take (hr.mono (by omega)) rfl (pa_cons (pv 0) (pa_cons (pe_callB (r := Pl.rLen K) call_len rfl (c.fr _ (.tail _ (.tail _ (.tail _ (.head _))))) PySem.boot_len (pa_cons (pe_ix (r := rIxL K) ix_list (pv 1) pe_int (fun _ _ => rfl)) pa_nil)) pa_nil))) (fun _ _ => rfl)) pa_nil))))) pss_nil)
    (pss_cons (ps_if (pt_cmpR op_lt (pv 4) pe_int (nomark _)) (pss_cons (ps_set (i := 7) nd rfl (Or.inl rfl) (pe_ix (r := rIxL K) ix_list (pe_ix (r := rIxL K) ix_list (pv 1) pe_int (fun _ _ => rfl)) (pe_f h__law_take (hr.mono (by omega)) rfl (pa_cons (pv 0) (pa_cons (pe_callB (r := Pl.rLen K) call_len rfl (c.fr _ (.tail _ (.tail _ (.tail _ (.head _))))) PySem.boot_len (pa_cons (pe_ix (r := rIxL K) ix_list (pv 1) pe_int (fun _ _ => rfl)) pa_nil)) pa_nil))) (fun _ _ => rfl)))
    (pss_one (ps_ret (pe_tup (pa_cons pe_str (pa_cons (pv 7) (pa_cons (pe_f h__law_term (hr.mono (by omega)) rfl (pa_cons (pv 0) (pa_cons (pv 1) (pa_cons (pe_op op_sub (pv 2) pe_int) (pa_cons (pv 3) pa_nil))))) pa_nil))))))) pss_nil)
    (pss_cons (ps_set (i := 5) nd rfl (Or.inl rfl) (pe_lst pa_nil))
    (pss_cons (ps_for PassesOwn.never rfl (pi_range1 rfl (c.fr _ (.tail _ (.tail _ (.tail _ (.tail _ (.tail _ (.tail _ (.tail _ (.tail _ (.tail _ (.tail _ (.head _)))))))))))) (pa_cons (pe_ix (r := rIxL K) ix_list (pe_lst (pa_cons pe_int (pa_cons pe_int (pa_cons pe_int (pa_cons pe_int (pa_cons pe_int (pa_cons pe_int pa_nil))))))) (pe_f h__law_take (hr.mono (by omega)) rfl (pa_cons (pv 0) (pa_cons pe_int pa_nil))) (fun _ _ => rfl)) pa_nil)) (pg_name (i := 6) nd rfl (Or.inl rfl)) (pss_one (ps_if (pt_cmpR op_gt (pe_ix (r := rIxL K) ix_list (pv 3) pe_int (fun _ _ => rfl)) pe_int (nomark _)) (pss_one (ps_expr (pe_bmK (K0 := K) PySem.F.plainAttrs_list PySem.F.slot_list_append PySem.F.type_list_append mt_append (pv 5) (pa_cons (pe_f h__law_term (hr.mono (by omega)) rfl (pa_cons (pv 0) (pa_cons (pv 1) (pa_cons (pe_op op_sub (pv 2) pe_int) (pa_cons (pv 3) pa_nil))))) pa_nil)))) pss_nil)))
    (pss_one (ps_ret (pe_tup (pa_cons pe_str (pa_cons (pe_callTy (r := rTupOf K) call_tuple_of rfl (c.fr _ (.tail _ (.tail _ (.tail _ (.tail _ (.head _)))))) PyProof.Rows.boot_tuple (pa_cons (pv 5) pa_nil)) pa_nil)))))))))))), ?_⟩
    show Ss K T _ [.own p _, .val _, .val _, .own q _, .no, .no, .no, .no] _
    obtain ⟨f1, f2, f3, f4⟩ := po.f
    have w1 := po.l5
    have w2 := po.l6
    unfold pool
    k_search "go"
    k_search "take"
    rename_i kd x y z h1 h2
    k_search "go"
    refine iteD (fun hk0 => ?_) fun hk0 => ?_
    · k_search "go"
      refine iteD (fun he => ?_) fun he => ?_
      · k_search "go"
        k_search "take"
        rename_i n x y z h3 h4
        k_search "go"
        refine iteD (fun hb => ?_) fun hb => ?_
        · k_search "go"
          exact ⟨_, _, ⟨rfl, _, rfl, rfl, _, rfl, rfl⟩, rfl, hQ .bot _ _ _ _ trivial hd1 (by omega) (by show ((1 : Nat) : Int) + _ ≤ _; omega)⟩
        · k_search "go"
          exact ⟨_, _, ⟨rfl, _, rfl, rfl, _, rfl, rfl⟩, rfl, hQ .top _ _ _ _ trivial hd1 (by omega) (by show ((1 : Nat) : Int) + _ ≤ _; omega)⟩
      · k_search "go"
        exact ⟨_, _, ⟨rfl, _, rfl, rfl, _, rfl, rfl⟩, rfl, hQ .top _ _ _ _ trivial hd1 (by omega) (by show ((1 : Nat) : Int) + _ ≤ _; omega)⟩
    · k_search "go"
      refine iteD (fun hd => ?_) fun hd => ?_
      · k_search "go"
        k_search "take"
        rename_i n x y z h3 h4
        obtain ⟨v, hv, hat⟩ := at_str h3 h4
        k_search "go"
        exact ⟨_, _, ⟨rfl, _, rfl, rfl, _, rfl, rfl⟩, rfl, hQ (.name v) _ _ _ _ (w1 v hv) hd1 (by omega) (by show ((1 : Nat) : Int) + _ ≤ _; omega)⟩
      k_search "go"
      refine iteD (fun hl0 => ?_) fun hl0 => ?_
      · k_search "go"
        k_search "take"
        rename_i n x y z h3 h4
        obtain ⟨v, hv, hat⟩ := at_str h3 h4
        k_search "go"
        exact ⟨_, _, ⟨rfl, _, rfl, rfl, _, rfl, rfl⟩, rfl, hQ (.name v) _ _ _ _ (w1 v hv) hd1 (by omega) (by show ((1 : Nat) : Int) + _ ≤ _; omega)⟩
      k_search "go"
      refine iteD (fun hk4 => ?_) fun hk4 => ?_
      · k_search "go"
        k_search "take"
        rename_i n x y z h3 h4
        obtain ⟨v, hv, hat⟩ := at_str h3 h4
        k_search "go"
        exact ⟨_, _, ⟨rfl, _, rfl, rfl, _, rfl, rfl⟩, rfl, hQ (.name v) _ _ _ _ (w1 v hv) hd1 (by omega) (by show ((1 : Nat) : Int) + _ ≤ _; omega)⟩
      k_search "go"
      refine iteD (fun hk8 => ?_) fun hk8 => ?_
      · k_search "go"
        k_search "take"
        rename_i n x y z h3 h4
        obtain ⟨r, hr1, hat⟩ := at_str h3 h4
        k_search "go"
        refine cx [.own _, .val _, .val _, .own _] [0, 3] ⟨rfl, ⟨_, rfl⟩, rfl, rfl, rfl, ⟨_, rfl⟩, trivial⟩ (by decide) ⟨_, _, _, ls, ties, e, d - 1, l - 1, rfl, po, by omega, by omega, by omega, by omega, fun t x y z l' g ht hl hc => ⟨rim2 (Tm.imm_d _) rfl rfl, ?_⟩⟩
        k_search "nrm"
        k_search "go"
        exact ⟨_, _, ⟨rfl, _, rfl, rfl, _, rfl, rfl⟩, rfl, hQ (.some r t) _ _ _ _ ⟨w2 r hr1, g⟩ (by show ((t.ht + 1 : Nat) : Int) ≤ d; omega) hl (by show ((t.cnt + 1 : Nat) : Int) + _ ≤ _; omega)⟩
      k_search "go"
      refine go_forRx ?_
      k_search "go"
      k_search "take"
      rename_i n x y z h3 h4
      obtain ⟨m, hm, hat⟩ := at6 h3 h4
      refine ⟨_, _, _, rfl, rfl, hat, .inl rfl, ?_⟩
      k_search "go"
      rename_i ad
      refine ⟨by omega, fun k δ => ∃ (x y z l' : Int) (a : Addr) (ps : List Tm) (s s2 : Sl), Tm.goodL ps ∧ ((Tm.htL ps : Nat) : Int) ≤ d - 1 ∧ 0 ≤ l' ∧ ((Tm.cntL ps : Nat) : Int) + l' ≤ l - 1 ∧
        δ = [.own p (bx x y z), .val (.list [.list (ls.map .str), .list (ties.map .str), .int e]), .val (.int d), .own q (.lst [.int l']), .val (.int kd), .own a (.lst (ps.map Tm.d)), s, s2],
        ⟨_, _, _, _, _, [], _, _, trivial, (by show ((0 : Nat) : Int) ≤ d - 1; omega), by omega, (by show ((0 : Nat) : Int) + _ ≤ _; omega), rfl⟩, ?_, ?_⟩
      · rintro k δ2 hk ⟨x, y, z, l', a, ps, s, s2, g, hh, hl0, hc, rfl⟩
        have lps := Tm.len_cntL ps
        have hlm : (ps.map Tm.d).length < 100000 := by rw [List.length_map]; omega
        k_search "nrm"
        k_search "go"
        refine iteD (fun hp => ?_) fun hp => ?_
        · k_search "go"
          refine cx [.own _, .val _, .val _, .own _] [0, 3] ⟨rfl, ⟨_, rfl⟩, rfl, rfl, rfl, ⟨_, rfl⟩, trivial⟩ (by decide) ⟨_, _, _, ls, ties, e, d - 1, l', rfl, po, by omega, by omega, by omega, by omega, fun t x y z l2 g2 ht hl hc2 => ⟨rim2 (Tm.imm_d _) rfl rfl, ?_⟩⟩
          k_search "nrm"
          k_search "go"
          refine ⟨_, _, _, _, _, ps ++ [t], _, _, goodL_snoc ps t g g2, ?_, hl, ?_, by rw [List.map_append]; rfl⟩
          · have := htL_snoc ps t (n := (d - 1).toNat) (by omega) (by omega)
            omega
          · rw [cntL_snoc]; omega
        · k_search "go"
          exact ⟨_, _, _, _, _, ps, _, _, g, hh, hl0, hc, rfl⟩
      · rintro δ2 ⟨x, y, z, l', a, ps, s, s2, g, hh, hl0, hc, rfl⟩
        k_search "go"
        refine cb_tupL tm_imm ?_
        k_search "go"
        refine ⟨_, _, ⟨rfl, _, rfl, rfl, _, rfl, rfl⟩, rfl, ?_⟩
        have e1 : PyData.tuple [.str "and", .tuple (ps.map Tm.d)] = (Tm.and ps).d := by rw [← Tm.dL_map]; rfl
        rw [e1]
        exact hQ (.and ps) _ _ _ _ g (by show ((Tm.htL ps + 1 : Nat) : Int) ≤ d; omega) hl0 (by show ((Tm.cntL ps + 1 : Nat) : Int) + _ ≤ _; omega)
set_option Elab.async false
set_option linter.all false
set_option maxRecDepth 100000
set_option maxHeartbeats 4000001
open PySem L2 LamX NdefX PyProof.Rows GenW Pl
variable {P : Program} {w : World} {K : PySem.W.Frag} {mg : Str → Option Value} {base : Heap} {T : List NTab} {ts : List Str}
def F_root (h : Nat) : FS := fun as Q => ∃ (x y z : Int) (ls ties : List Str) (e d r : Int), as = [.own (bx x y z), .val (pool ls ties e), .val (.int d), .val (.int r)] ∧ PoolOk ls ties ∧ 3 ≤ d ∧ d ≤ h ∧ 5 ≤ r ∧ r ≤ 100 ∧
  ∀ (t : Tm) (x y z : Int), t.good → ((t.ht : Nat) : Int) ≤ d → ((t.cnt : Nat) : Int) ≤ r → Q (.val t.d) [bx x y z]
def F_wide : FS := fun as Q => ∃ (x y z : Int) (ls ties : List Str) (e r : Int), as = [.own (bx x y z), .val (pool ls ties e), .val (.int r)] ∧ PoolOk ls ties ∧ 5 ≤ r ∧ r ≤ 100 ∧
  ∀ (t : Tm) (x y z : Int), t.good → t.ht ≤ 3 → ((t.cnt : Nat) : Int) ≤ r → Q (.val t.d) [bx x y z]
theorem ok_lchain (c : Al K mg base ds fr ts cs) (h__law_take : Ok P w K mg base 1 "_law_take" ["box", "many"] (spOf K T F_take)) : Ok P w K mg base 2 "_law_chain" ["box", "pool", "deep", "room"] (spOf K T (F_root 5)) := by
  have nd := sc__law_chain.nd
  have kTOP := c.cs _ (.head _)
  have kBOTTOM := c.cs _ (.tail _ (.head _))
  have kRESERVED := c.cs _ (.tail _ (.tail _ (.tail _ (.tail _ (.tail _ (.head _))))))
  refine ok_of c (.tail _ (.tail _ (.tail _ (.tail _ (.tail _ (.tail _ (.tail _ (.tail _ (.tail _ (.tail _ (.tail _ (.tail _ (.tail _ (.tail _ (.tail _ (.tail _ (.tail _ (.tail _ (.tail _ (.tail _ (.tail _ (.tail _ (.tail _ (.tail _ (.tail _ (.tail _ (.tail _ (.tail _ (.tail _ (.tail _ (.tail _ (.head _)))))))))))))))))))))))))))))))) (fun _ _ _ _ _ _ us hl => match us, hl with | [_, _, _, _], _ => rfl) sc__law_chain (fun as Q h => by first | (obtain ⟨_, rfl, _⟩ := h; rfl) | (obtain ⟨_, _, rfl, _⟩ := h; rfl) | (obtain ⟨_, _, _, rfl, _⟩ := h; rfl) | (obtain ⟨_, _, _, _, rfl, _⟩ := h; rfl) | (obtain ⟨_, _, _, _, _, rfl, _⟩ := h; rfl) | (obtain ⟨_, _, _, _, _, _, rfl, _⟩ := h; rfl) | (obtain ⟨_, _, _, _, _, _, _, rfl, _⟩ := h; rfl) | (obtain ⟨_, _, _, _, _, _, _, _, rfl, _⟩ := h; rfl) | (obtain ⟨_, _, _, _, _, _, _, _, _, rfl, _⟩ := h; rfl) | (obtain ⟨rfl, _⟩ := h; rfl)) fun f cdv A outer s H E hr as Q qs hF hq => ?_
  obtain ⟨x, y, z, ls, ties, e, d, r, rfl, po, hd1, hd2, hr1, hr2, hQ⟩ := hF
  obtain ⟨p, rfl⟩ := List.length_eq_one_iff.mp hq
  refine ⟨_, (pss_cons (ps_set (i := 4) nd rfl (Or.inl rfl) (pe_tup (pa_cons pe_str (pa_cons (pe_ix (r := rIxL K) ix_list (pe_ix (r := rIxL K) ix_list (pv 1) pe_int (fun _ _ => rfl)) (pe_f h__law_take (hr.mono (by omega)) rfl (pa_cons (pv 0) (pa_cons (pe_callB (r := Pl.rLen K) call_len rfl (c.fr _ (.tail _ (.tail _ (.tail _ (.head _))))) PySem.boot_len (pa_cons (pe_ix (r := rIxL K) ix_list (pv 1) pe_int (fun _ _ => rfl)) pa_nil)) pa_nil))) (fun _ _ => rfl)) pa_nil))))
    (pss_cons (ps_set (i := 5) nd rfl (Or.inl rfl) pe_int)
    (pss_cons (ps_set (i := 6) nd rfl (Or.inl rfl) pe_int)
    (pss_cons (ps_for PassesOwn.never rfl (pi_range1 rfl (c.fr _ (.tail _ (.tail _ (.tail _ (.tail _ (.tail _ (.tail _ (.tail _ (.tail _ (.tail _ (.tail _ (.head _)))))))))))) (pa_cons (pv 2) pa_nil)) (pg_name (i := 7) nd rfl (Or.inl rfl)) (pss_cons (ps_set (i := 8) nd rfl (Or.inl rfl) (pe_ix (r := rIxL K) ix_list (pe_ix (r := rIxL K) ix_list (pv 1) pe_int (fun _ _ => rfl)) (pe_f h__law_take (hr.mono (by omega)) rfl (pa_cons (pv 0) (pa_cons (pe_callB (r := Pl.rLen K) call_len rfl (c.fr _ (.tail _ (.tail _ (.tail _ (.head _))))) PySem.boot_len (pa_cons (pe_ix (r := rIxL K) ix_list (pv 1) pe_int (fun _ _ => rfl)) pa_nil)) pa_nil))) (fun _ _ => rfl)))
    (pss_one (ps_if (PW.pt (pw_and (pt_cmpR op_eq (pe_f h__law_take (hr.mono (by omega)) rfl (pa_cons (pv 0) (pa_cons pe_int pa_nil))) pe_int (nomark _)) (pw_and (pt_cmpR op_le (pe_op op_add (pv 5) pe_int) (pv 3) (nomark _)) (pw_and1 (pt_cmpR op_le (pe_op op_add (pv 6) pe_int) (pv 2) (nomark _)))))) (pss_cons (ps_set (i := 4) nd rfl (Or.inl rfl) (pe_tup (pa_cons pe_str (pa_cons (pe_tup (pa_cons (pe_tup (pa_cons pe_str (pa_cons (pv 8) (pa_cons (pv 4) pa_nil)))) (pa_cons (pe_tup (pa_cons pe_str (pa_cons (pe_ix (r := rIxL K) ix_list (pe_ix (r := rIxL K) ix_list (pv 1) pe_int (fun _ _ => rfl)) (pe_f h__law_take (hr.mono (by omega)) rfl (pa_cons (pv 0) (pa_cons (pe_callB (r := Pl.rLen K) call_len rfl (c.fr _ (.tail _ (.tail _ (.tail _ (.head _))))) PySem.boot_len (pa_cons (pe_ix (r := rIxL K) ix_list (pv 1) pe_int (fun _ _ => rfl)) pa_nil)) pa_nil))) (fun _ _ => rfl)) pa_nil))) pa_nil))) pa_nil))))
    (pss_cons (ps_set (i := 5) nd rfl (Or.inl rfl) (pe_op op_add (pv 5) pe_int))
    (pss_one (ps_set (i := 6) nd rfl (Or.inl rfl) (pe_op op_add (pv 6) pe_int))))) (pss_one (ps_if (PW.pt (pw_and (pt_cmpR op_le (pe_op op_add (pv 5) pe_int) (pv 3) (nomark _)) (pw_and1 (pt_cmpR op_le (pe_op op_add (pv 6) pe_int) (pv 2) (nomark _))))) (pss_cons (ps_set (i := 4) nd rfl (Or.inl rfl) (pe_tup (pa_cons pe_str (pa_cons (pv 8) (pa_cons (pv 4) pa_nil)))))
    (pss_cons (ps_set (i := 5) nd rfl (Or.inl rfl) (pe_op op_add (pv 5) pe_int))
    (pss_one (ps_set (i := 6) nd rfl (Or.inl rfl) (pe_op op_add (pv 6) pe_int))))) pss_nil))))))
    (pss_one (ps_ret (pv 4))))))), ?_⟩
  show Ss K T _ [.own p _, .val _, .val _, .val _, .no, .no, .no, .no, .no] _
  obtain ⟨f1, f2, f3, f4⟩ := po.f
  have w1 := po.l5
  have w2 := po.l6
  obtain ⟨D, rfl⟩ : ∃ k : Nat, d = k := ⟨d.toNat, by omega⟩
  unfold pool
  k_search "go"
  k_search "take"
  rename_i n x y z h1 h2
  obtain ⟨v, hv, hat⟩ := at_str h1 h2
  k_search "go"
  refine go_forR D (fun k δ => ∃ (x y z : Int) (t : Tm) (s1 s2 : Sl), t.good ∧ ((t.ht : Nat) : Int) ≤ D ∧ ((t.cnt : Nat) : Int) ≤ r ∧
    δ = [.own p (bx x y z), .val (.list [.list (ls.map .str), .list (ties.map .str), .int e]), .val (.int D), .val (.int r), .val t.d, .val (.int t.cnt), .val (.int t.ht), s1, s2]) (by omega) ?_ ?_ ?_
  · k_search "go"
    exact ⟨rfl, _, _, _, .name v, _, _, w1 v hv, (by show ((1 : Nat) : Int) ≤ _; omega), (by show ((1 : Nat) : Int) ≤ _; omega), rfl⟩
  · rintro k δ2 hk ⟨x, y, z, t, s1, s2, g, hh, hc, rfl⟩
    have tp := t.ht_pos
    have tc := t.cnt_pos
    k_search "nrm"
    k_search "go"
    k_search "take"
    rename_i n x y z h3 h4
    obtain ⟨q, hq1, hat2⟩ := at_str h3 h4
    k_search "go"
    k_search "take"
    rename_i n2 x y z h5 h6
    k_search "go"
    by_cases hA : n2 = 1 ∧ ((t.cnt : Nat) : Int) + 3 ≤ r ∧ ((t.ht : Nat) : Int) + 2 ≤ D
    · obtain ⟨a1, a2, a3⟩ := hA
      subst a1
      refine iteD (fun _ => ?_) fun z => absurd rfl z
      k_search "go"
      k_search "take"
      rename_i n3 x y z h7 h8
      obtain ⟨v2, hv2, hat3⟩ := at_str h7 h8
      k_search "go"
      refine ⟨x, y, z, .and [.some q t, .name v2], .val (.int k), .val (.str q), ⟨⟨w2 q hq1, g⟩, w1 v2 hv2, trivial⟩, ?_, ?_, ?_⟩
      · show ((max (t.ht + 1) (max 1 0) + 1 : Nat) : Int) ≤ D
        omega
      · show (((t.cnt + 1) + (1 + 0) + 1 : Nat) : Int) ≤ r
        omega
      · have e1 : ((t.cnt : Nat) : Int) + 3 = (((Tm.and [.some q t, .name v2]).cnt : Nat) : Int) := by
          show _ = (((t.cnt + 1) + (1 + 0) + 1 : Nat) : Int)
          omega
        have e2 : ((t.ht : Nat) : Int) + 2 = (((Tm.and [.some q t, .name v2]).ht : Nat) : Int) := by
          show _ = ((max (t.ht + 1) (max 1 0) + 1 : Nat) : Int)
          omega
        rw [← e1, ← e2]
        rfl
    · have hB : n2 ≠ 1 ∨ (n2 = 1 ∧ ¬ ((t.cnt : Nat) : Int) + 3 ≤ r) ∨ (n2 = 1 ∧ ((t.cnt : Nat) : Int) + 3 ≤ r ∧ ¬ ((t.ht : Nat) : Int) + 2 ≤ D) := by omega
      have e1 : ((t.cnt : Nat) : Int) + 1 = (((Tm.some q t).cnt : Nat) : Int) := by
        show _ = ((t.cnt + 1 : Nat) : Int)
        omega
      have e2 : ((t.ht : Nat) : Int) + 1 = (((Tm.some q t).ht : Nat) : Int) := by
        show _ = ((t.ht + 1 : Nat) : Int)
        omega
      rcases hB with a1 | ⟨a1, a2⟩ | ⟨a1, a2, a3⟩
      · refine iteD (fun z => absurd z a1) fun _ => ?_
        k_search "go"
        refine iteD (fun b1 => ?_) fun b1 => ?_
        · k_search "go"
          refine iteD (fun b2 => ?_) fun b2 => ?_
          · k_search "go"
            refine ⟨x, y, z, .some q t, .val (.int k), .val (.str q), ⟨w2 q hq1, g⟩, ?_, ?_, ?_⟩
            · rw [← e2]; exact b2
            · rw [← e1]; exact b1
            · rw [← e1, ← e2]; rfl
          · k_search "go"
            exact ⟨_, _, _, t, _, _, g, hh, hc, rfl⟩
        · k_search "go"
          exact ⟨_, _, _, t, _, _, g, hh, hc, rfl⟩
      · refine iteD (fun _ => ?_) fun z => absurd a1 z
        k_search "go"
        refine iteD (fun b1 => ?_) fun b1 => ?_
        · k_search "go"
          refine iteD (fun b2 => ?_) fun b2 => ?_
          · k_search "go"
            refine ⟨x, y, z, .some q t, .val (.int k), .val (.str q), ⟨w2 q hq1, g⟩, ?_, ?_, ?_⟩
            · rw [← e2]; exact b2
            · rw [← e1]; exact b1
            · rw [← e1, ← e2]; rfl
          · k_search "go"
            exact ⟨_, _, _, t, _, _, g, hh, hc, rfl⟩
        · k_search "go"
          exact ⟨_, _, _, t, _, _, g, hh, hc, rfl⟩
      · refine iteD (fun _ => ?_) fun z => absurd a1 z
        k_search "go"
        refine iteD (fun b1 => ?_) fun b1 => ?_
        · k_search "go"
          refine iteD (fun b2 => ?_) fun b2 => ?_
          · k_search "go"
            refine ⟨x, y, z, .some q t, .val (.int k), .val (.str q), ⟨w2 q hq1, g⟩, ?_, ?_, ?_⟩
            · rw [← e2]; exact b2
            · rw [← e1]; exact b1
            · rw [← e1, ← e2]; rfl
          · k_search "go"
            exact ⟨_, _, _, t, _, _, g, hh, hc, rfl⟩
        · k_search "go"
          exact ⟨_, _, _, t, _, _, g, hh, hc, rfl⟩
  · rintro δ2 ⟨x, y, z, t, s1, s2, g, hh, hc, rfl⟩
    k_search "go"
    exact ⟨_, _, ⟨rfl, _, rfl, rfl⟩, rfl, hQ t _ _ _ g hh hc⟩
theorem ok_lwide (c : Al K mg base ds fr ts cs) (h__law_take : Ok P w K mg base 1 "_law_take" ["box", "many"] (spOf K T F_take)) : Ok P w K mg base 2 "_law_wide" ["box", "pool", "room"] (spOf K T F_wide) := by
  have nd := sc__law_wide.nd
  have kTOP := c.cs _ (.head _)
  have kBOTTOM := c.cs _ (.tail _ (.head _))
  have kRESERVED := c.cs _ (.tail _ (.tail _ (.tail _ (.tail _ (.tail _ (.head _))))))
  refine ok_of c (.tail _ (.tail _ (.tail _ (.tail _ (.tail _ (.tail _ (.tail _ (.tail _ (.tail _ (.tail _ (.tail _ (.tail _ (.tail _ (.tail _ (.tail _ (.tail _ (.tail _ (.tail _ (.tail _ (.tail _ (.tail _ (.tail _ (.tail _ (.tail _ (.tail _ (.tail _ (.tail _ (.tail _ (.tail _ (.tail _ (.tail _ (.tail _ (.head _))))))))))))))))))))))))))))))))) (fun _ _ _ _ _ _ us hl => match us, hl with | [_, _, _], _ => rfl) sc__law_wide (fun as Q h => by first | (obtain ⟨_, rfl, _⟩ := h; rfl) | (obtain ⟨_, _, rfl, _⟩ := h; rfl) | (obtain ⟨_, _, _, rfl, _⟩ := h; rfl) | (obtain ⟨_, _, _, _, rfl, _⟩ := h; rfl) | (obtain ⟨_, _, _, _, _, rfl, _⟩ := h; rfl) | (obtain ⟨_, _, _, _, _, _, rfl, _⟩ := h; rfl) | (obtain ⟨_, _, _, _, _, _, _, rfl, _⟩ := h; rfl) | (obtain ⟨_, _, _, _, _, _, _, _, rfl, _⟩ := h; rfl) | (obtain ⟨_, _, _, _, _, _, _, _, _, rfl, _⟩ := h; rfl) | (obtain ⟨rfl, _⟩ := h; rfl)) fun f cdv A outer s H E hr as Q qs hF hq => ?_
  obtain ⟨x, y, z, ls, ties, e, r, rfl, po, hr1, hr2, hQ⟩ := hF
  obtain ⟨p, rfl⟩ := List.length_eq_one_iff.mp hq
  refine ⟨_, (pss_cons (ps_set (i := 3) nd rfl (Or.inl rfl) (pe_f h__law_take (hr.mono (by omega)) rfl (pa_cons (pv 0) (pa_cons pe_int pa_nil))))
    (pss_cons (ps_set (i := 4) nd rfl (Or.inl rfl) (pe_lst pa_nil))
    (pss_cons (ps_for PassesOwn.never rfl (pi_range1 rfl (c.fr _ (.tail _ (.tail _ (.tail _ (.tail _ (.tail _ (.tail _ (.tail _ (.tail _ (.tail _ (.tail _ (.head _)))))))))))) (pa_cons (pe_op op_fdivW (pe_op op_sub (pv 2) pe_int) pe_int) pa_nil)) (pg_name (i := 5) nd rfl (Or.inl rfl)) (pss_cons (ps_set (i := 6) nd rfl (Or.inl rfl) (pe_ix (r := rIxL K) ix_list (pe_ix (r := rIxL K) ix_list (pv 1) pe_int (fun _ _ => rfl)) (pe_op op_mod (pe_op op_add (pv 3) (pv 5)) (pe_callB (r := Pl.rLen K) call_len rfl (c.fr _ (.tail _ (.tail _ (.tail _ (.head _))))) PySem.boot_len (pa_cons (pe_ix (r := rIxL K) ix_list (pv 1) pe_int (fun _ _ => rfl)) pa_nil))) (fun _ _ => rfl)))
    (pss_cons (ps_set (i := 7) nd rfl (Or.inl rfl) (pe_ix (r := rIxL K) ix_list (pe_ix (r := rIxL K) ix_list (pv 1) pe_int (fun _ _ => rfl)) (pe_op op_mod (pe_op op_fdivW (pe_op op_add (pv 3) (pv 5)) (pe_callB (r := Pl.rLen K) call_len rfl (c.fr _ (.tail _ (.tail _ (.tail _ (.head _))))) PySem.boot_len (pa_cons (pe_ix (r := rIxL K) ix_list (pv 1) pe_int (fun _ _ => rfl)) pa_nil))) (pe_callB (r := Pl.rLen K) call_len rfl (c.fr _ (.tail _ (.tail _ (.tail _ (.head _))))) PySem.boot_len (pa_cons (pe_ix (r := rIxL K) ix_list (pv 1) pe_int (fun _ _ => rfl)) pa_nil))) (fun _ _ => rfl)))
    (pss_one (ps_expr (pe_bmK (K0 := K) PySem.F.plainAttrs_list PySem.F.slot_list_append PySem.F.type_list_append mt_append (pv 4) (pa_cons (pe_tup (pa_cons pe_str (pa_cons (pv 7) (pa_cons (pe_tup (pa_cons pe_str (pa_cons (pv 6) pa_nil))) pa_nil)))) pa_nil)))))))
    (pss_one (ps_ret (pe_tup (pa_cons pe_str (pa_cons (pe_callTy (r := rTupOf K) call_tuple_of rfl (c.fr _ (.tail _ (.tail _ (.tail _ (.tail _ (.head _)))))) PyProof.Rows.boot_tuple (pa_cons (pv 4) pa_nil)) pa_nil)))))))), ?_⟩
  show Ss K T _ [.own p _, .val _, .val _, .no, .no, .no, .no, .no] _
  obtain ⟨f1, f2, f3, f4⟩ := po.f
  have w1 := po.l5
  have w2 := po.l6
  have g1 : (0 : Int) < ((ls.map PyData.str).length : Nat) := by omega
  have g2 : (0 : Int) < ((ties.map PyData.str).length : Nat) := by omega
  have cml : ∀ a : Int, CDivW a ((ls.map PyData.str).length : Nat) := fun a => ⟨g1, by
    have h1 : (((ls.map PyData.str).length : Nat) : Int).natAbs < 2 ^ 60 := by
      have : (((ls.map PyData.str).length : Nat) : Int).natAbs ≤ 1000 := by omega
      exact Nat.lt_of_le_of_lt this (by decide)
    exact Nat.lt_of_lt_of_le (PySem.Flt.log2_lt_of (by decide) h1) (by decide)⟩
  unfold pool
  k_search "go"
  k_search "take"
  rename_i n x y z h1 h2
  k_search "go"
  obtain ⟨M, hM⟩ : ∃ k : Nat, (r - 1) / 2 = k := ⟨((r - 1) / 2).toNat, by omega⟩
  refine go_forRx ?_
  k_search "go"
  rw [hM]
  rename_i ad
  refine ⟨M, rfl, by omega, fun k δ => ∃ (x y z : Int) (a : Addr) (ps : List Tm) (s1 s2 s3 : Sl), Tm.goodL ps ∧ Tm.htL ps ≤ 2 ∧ Tm.cntL ps ≤ 2 * k ∧
    δ = [.own p (bx x y z), .val (.list [.list (ls.map .str), .list (ties.map .str), .int e]), .val (.int r), .val (.int n), .own a (.lst (ps.map Tm.d)), s1, s2, s3],
    ⟨_, _, _, _, [], _, _, _, trivial, (by decide), (by decide), rfl⟩, ?_, ?_⟩
  · rintro k δ2 hk ⟨x, y, z, a, ps, s1, s2, s3, g, hh, hc, rfl⟩
    have lps := Tm.len_cntL ps
    have hlm : (ps.map Tm.d).length < 100000 := by rw [List.length_map]; omega
    obtain ⟨v, hv, hat⟩ := at_str (ws := ls) (Int.emod_nonneg (n + (k : Int)) (by omega)) (Int.emod_lt_of_pos (n + (k : Int)) g1)
    obtain ⟨q, hq1, hat2⟩ := at_str (ws := ties) (Int.emod_nonneg ((n + (k : Int)) / ((ls.map PyData.str).length : Nat)) (by omega)) (Int.emod_lt_of_pos ((n + (k : Int)) / ((ls.map PyData.str).length : Nat)) g2)
    have cm0 := cml (n + (k : Int))
    k_search "nrm"
    k_search "go"
    refine ⟨_, _, _, _, ps ++ [.some q (.name v)], _, _, _, goodL_snoc ps (.some q (.name v)) g (show W q ∧ W v from ⟨w2 q hq1, w1 v hv⟩), htL_snoc ps (.some q (.name v)) hh (Nat.le_refl 2), ?_, by rw [List.map_append]; rfl⟩
    rw [cntL_snoc]
    show _ + 2 ≤ _
    omega
  · rintro δ2 ⟨x, y, z, a, ps, s1, s2, s3, g, hh, hc, rfl⟩
    k_search "go"
    refine cb_tupL tm_imm ?_
    k_search "go"
    refine ⟨_, _, ⟨rfl, _, rfl, rfl⟩, rfl, ?_⟩
    have e1 : PyData.tuple [.str "and", .tuple (ps.map Tm.d)] = (Tm.and ps).d := by rw [← Tm.dL_map]; rfl
    rw [e1]
    exact hQ (.and ps) _ _ _ g (by show Tm.htL ps + 1 ≤ 3; omega) (by show ((Tm.cntL ps + 1 : Nat) : Int) ≤ r; omega)
theorem ok_lroot (c : Al K mg base ds fr ts cs) (h__law_take : Ok P w K mg base 1 "_law_take" ["box", "many"] (spOf K T F_take)) (h__law_chain : Ok P w K mg base 2 "_law_chain" ["box", "pool", "deep", "room"] (spOf K T (F_root 5)))
    (h__law_wide : Ok P w K mg base 2 "_law_wide" ["box", "pool", "room"] (spOf K T F_wide)) (h__law_term : Ok P w K mg base 6 "_law_term" ["box", "pool", "deep", "left"] (spOf K T (F_term 4))) :
    Ok P w K mg base 7 "_law_root" ["box", "pool", "deep", "room"] (spOf K T (F_root 5)) := by
  have nd := sc__law_root.nd
  have kTOP := c.cs _ (.head _)
  have kBOTTOM := c.cs _ (.tail _ (.head _))
  have kRESERVED := c.cs _ (.tail _ (.tail _ (.tail _ (.tail _ (.tail _ (.head _))))))
  refine ok_of c (.tail _ (.tail _ (.tail _ (.tail _ (.tail _ (.tail _ (.tail _ (.tail _ (.tail _ (.tail _ (.tail _ (.tail _ (.tail _ (.tail _ (.tail _ (.tail _ (.tail _ (.tail _ (.tail _ (.tail _ (.tail _ (.tail _ (.tail _ (.tail _ (.tail _ (.tail _ (.tail _ (.tail _ (.tail _ (.tail _ (.tail _ (.tail _ (.tail _ (.head _)))))))))))))))))))))))))))))))))) (fun _ _ _ _ _ _ us hl => match us, hl with | [_, _, _, _], _ => rfl) sc__law_root (fun as Q h => by first | (obtain ⟨_, rfl, _⟩ := h; rfl) | (obtain ⟨_, _, rfl, _⟩ := h; rfl) | (obtain ⟨_, _, _, rfl, _⟩ := h; rfl) | (obtain ⟨_, _, _, _, rfl, _⟩ := h; rfl) | (obtain ⟨_, _, _, _, _, rfl, _⟩ := h; rfl) | (obtain ⟨_, _, _, _, _, _, rfl, _⟩ := h; rfl) | (obtain ⟨_, _, _, _, _, _, _, rfl, _⟩ := h; rfl) | (obtain ⟨_, _, _, _, _, _, _, _, rfl, _⟩ := h; rfl) | (obtain ⟨_, _, _, _, _, _, _, _, _, rfl, _⟩ := h; rfl) | (obtain ⟨rfl, _⟩ := h; rfl)) fun f cdv A outer s H E hr as Q qs hF hq => ?_
  obtain ⟨x, y, z, ls, ties, e, d, r, rfl, po, hd1, hd2, hr1, hr2, hQ⟩ := hF
  obtain ⟨p, rfl⟩ := List.length_eq_one_iff.mp hq
  refine ⟨_, (pss_cons (ps_set (i := 4) nd rfl (Or.inl rfl) (pe_f h__law_take (hr.mono (by omega)) rfl (pa_cons (pv 0) (pa_cons pe_int pa_nil))))
    (pss_cons (ps_if (pt_cmpR op_eq (pv 4) pe_int (nomark _)) (pss_one (ps_ret (pe_f h__law_chain (hr.mono (by omega)) rfl (pa_cons (pv 0) (pa_cons (pv 1) (pa_cons (pv 2) (pa_cons (pv 3) pa_nil))))))) pss_nil)
    (pss_cons (ps_if (PW.pt (pw_and (pt_cmpR op_eq (pv 4) pe_int (nomark _)) (pw_and1 (pt_cmpR op_gt (pv 2) pe_int (nomark _))))) (pss_one (ps_ret (pe_f h__law_wide (hr.mono (by omega)) rfl (pa_cons (pv 0) (pa_cons (pv 1) (pa_cons (pv 3) pa_nil)))))) pss_nil)
    (pss_cons (ps_set (i := 5) nd rfl (Or.inl rfl) (pe_lst (pa_cons (pe_op op_sub (pv 3) pe_int) pa_nil)))
    (pss_cons (ps_set (i := 6) nd rfl (Or.inl rfl) (pe_lst pa_nil))
    (pss_cons (ps_for PassesOwn.never rfl (pi_range1 rfl (c.fr _ (.tail _ (.tail _ (.tail _ (.tail _ (.tail _ (.tail _ (.tail _ (.tail _ (.tail _ (.tail _ (.head _)))))))))))) (pa_cons (pe_op op_add pe_int (pe_f h__law_take (hr.mono (by omega)) rfl (pa_cons (pv 0) (pa_cons pe_int pa_nil)))) pa_nil)) (pg_name (i := 7) nd rfl (Or.inl rfl)) (pss_one (ps_if (pt_cmpR op_gt (pe_ix (r := rIxL K) ix_list (pv 5) pe_int (fun _ _ => rfl)) pe_int (nomark _)) (pss_one (ps_expr (pe_bmK (K0 := K) PySem.F.plainAttrs_list PySem.F.slot_list_append PySem.F.type_list_append mt_append (pv 6) (pa_cons (pe_f h__law_term (hr.mono (by omega)) rfl (pa_cons (pv 0) (pa_cons (pv 1) (pa_cons (pe_op op_sub (pv 2) pe_int) (pa_cons (pv 5) pa_nil))))) pa_nil)))) pss_nil)))
    (pss_cons (ps_if (pt_cmpR op_eq (pv 4) pe_int (nomark _)) (pss_one (ps_ret (pe_ix (r := rIxL K) ix_list (pv 6) pe_int (fun _ _ => rfl)))) pss_nil)
    (pss_one (ps_ret (pe_tup (pa_cons pe_str (pa_cons (pe_callTy (r := rTupOf K) call_tuple_of rfl (c.fr _ (.tail _ (.tail _ (.tail _ (.tail _ (.head _)))))) PyProof.Rows.boot_tuple (pa_cons (pv 6) pa_nil)) pa_nil)))))))))))), ?_⟩
  show Ss K T _ [.own p _, .val _, .val _, .val _, .no, .no, .no, .no] _
  have hd5 : d ≤ 5 := hd2
  k_search "go"
  k_search "take"
  rename_i wy x y z h1 h2
  k_search "go"
  refine iteD (fun hw => ?_) fun hw => ?_
  · k_search "go"
    refine cx [.own _, .val _, .val _, .val _] [0] ⟨rfl, ⟨_, rfl⟩, rfl, rfl, rfl, trivial⟩ (by decide) ⟨_, _, _, ls, ties, e, d, r, rfl, po, hd1, hd2, hr1, hr2, fun t x y z g ht hc => ⟨rim1 (Tm.imm_d _) rfl, ?_⟩⟩
    k_search "nrm"
    k_search "go"
    exact ⟨_, _, ⟨rfl, _, rfl, rfl⟩, rfl, hQ t _ _ _ g ht hc⟩
  refine go_next ?_
  refine go_cut (fun δ => δ = [.own p (bx x y z), .val (pool ls ties e), .val (.int d), .val (.int r), .val (.int wy), .no, .no, .no]) ?_ ?_
  · k_search "go"
    refine iteD (fun hw7 => ?_) fun hw7 => ?_
    · k_search "go"
      refine iteD (fun hd2 => ?_) fun hd2 => ?_
      · k_search "go"
        refine cx [.own _, .val _, .val _] [0] ⟨rfl, ⟨_, rfl⟩, rfl, rfl, trivial⟩ (by decide) ⟨_, _, _, ls, ties, e, r, rfl, po, hr1, hr2, fun t x y z g ht hc => ⟨rim1 (Tm.imm_d _) rfl, ?_⟩⟩
        k_search "nrm"
        k_search "go"
        exact ⟨_, _, ⟨rfl, _, rfl, rfl⟩, rfl, hQ t _ _ _ g (by omega) hc⟩
      · k_search "go"
    · k_search "go"
  · rintro δ2 rfl
    k_search "go"
    refine go_forRx ?_
    k_search "go"
    k_search "take"
    rename_i n x y z h3 h4
    obtain ⟨N, rfl⟩ : ∃ k : Nat, n = k := ⟨n.toNat, by omega⟩
    k_search "go"
    rename_i ad1 ad2
    refine ⟨show 1 + N ≤ 1000000 by omega, fun k δ => ∃ (x y z l' : Int) (a b : Addr) (ps : List Tm) (s : Sl), Tm.goodL ps ∧ ((Tm.htL ps : Nat) : Int) ≤ d - 1 ∧ 0 ≤ l' ∧ ((Tm.cntL ps : Nat) : Int) + l' ≤ r - 1 ∧ (k = 0 → l' = r - 1) ∧ (1 ≤ k → ps ≠ []) ∧
      δ = [.own p (bx x y z), .val (pool ls ties e), .val (.int d), .val (.int r), .val (.int wy), .own a (.lst [.int l']), .own b (.lst (ps.map Tm.d)), s],
      ⟨_, _, _, _, _, _, [], _, trivial, (by show ((0 : Nat) : Int) ≤ d - 1; omega), (by omega), (by show ((0 : Nat) : Int) + _ ≤ _; omega), (fun _ => rfl), (fun h => absurd h (by decide)), rfl⟩, ?_, ?_⟩
    · rintro k δ2 hk ⟨x, y, z, l', a, b, ps, s, g, hh, hl0, hc, hk0, hk1, rfl⟩
      have lps := Tm.len_cntL ps
      have hlm : (ps.map Tm.d).length < 100000 := by rw [List.length_map]; omega
      k_search "nrm"
      k_search "go"
      refine iteD (fun hp => ?_) fun hp => ?_
      · k_search "go"
        refine cx [.own _, .val _, .val _, .own _] [0, 5] ⟨rfl, ⟨_, rfl⟩, rfl, rfl, rfl, ⟨_, rfl⟩, trivial⟩ (by decide) ⟨_, _, _, ls, ties, e, d - 1, l', rfl, po, by omega, by omega, by omega, by omega, fun t x y z l2 g2 ht hl hc2 => ⟨rim2 (Tm.imm_d _) rfl rfl, ?_⟩⟩
        k_search "nrm"
        k_search "go"
        refine ⟨_, _, _, _, _, _, ps ++ [t], _, goodL_snoc ps t g g2, ?_, hl, ?_, (fun h => absurd h (by omega)), (fun _ => by simp), by rw [List.map_append]; rfl⟩
        · have := htL_snoc ps t (n := (d - 1).toNat) (by omega) (by omega)
          omega
        · rw [cntL_snoc]; omega
      · k_search "go"
        have hk2 : 1 ≤ k := by
          rcases Nat.eq_zero_or_pos k with q | q
          · have := hk0 q
            omega
          · exact q
        exact ⟨_, _, _, _, _, _, ps, _, g, hh, hl0, hc, (fun h => absurd h (by omega)), (fun _ => hk1 hk2), rfl⟩
    · rintro δ2 ⟨x, y, z, l', a, b, ps, s, g, hh, hl0, hc, hk0, hk1, rfl⟩
      have hne := hk1 (show 1 ≤ 1 + N by omega)
      k_search "go"
      refine iteD (fun hw5 => ?_) fun hw5 => ?_
      · obtain ⟨u, us, rfl⟩ : ∃ u us, ps = u :: us := by
          cases ps with
          | nil => exact absurd rfl hne
          | cons u us => exact ⟨u, us, rfl⟩
        have hat : atI ((u :: us).map Tm.d) 0 = some u.d := atI_nat (j := 0) rfl
        have c1 : u.cnt + Tm.cntL us = Tm.cntL (u :: us) := rfl
        have c2 : max u.ht (Tm.htL us) = Tm.htL (u :: us) := rfl
        k_search "go"
        exact ⟨_, _, ⟨rfl, _, rfl, rfl⟩, rfl, hQ u _ _ _ g.1 (by omega) (by omega)⟩
      · k_search "go"
        refine cb_tupL tm_imm ?_
        k_search "go"
        refine ⟨_, _, ⟨rfl, _, rfl, rfl⟩, rfl, ?_⟩
        have e1 : PyData.tuple [.str "and", .tuple (ps.map Tm.d)] = (Tm.and ps).d := by rw [← Tm.dL_map]; rfl
        rw [e1]
        exact hQ (.and ps) _ _ _ g (by show ((Tm.htL ps + 1 : Nat) : Int) ≤ d; omega) (by show ((Tm.cntL ps + 1 : Nat) : Int) ≤ r; omega)
set_option Elab.async false
set_option linter.all false
set_option maxRecDepth 100000
set_option maxHeartbeats 4000001
open PySem L2 LamX NdefX PyProof.Rows GenW Pl
variable {P : Program} {w : World} {K : PySem.W.Frag} {mg : Str → Option Value} {base : Heap} {T : List NTab} {ts : List Str}
def F_weak (h : Nat) : FS := fun as Q => ∃ (x y z : Int) (t : Tm), as = [.own (bx x y z), .val t.d] ∧ Tb h t ∧ ∀ (u : Tm) (x y z : Int), u.good → Le t u → u.ht ≤ t.ht → u.cnt ≤ t.cnt → Q (.val u.d) [bx x y z]
theorem htL_mem {us : List Tm} {n : Nat} (h : ∀ u ∈ us, u.ht ≤ n) : Tm.htL us ≤ n := by
  induction us with
  | nil => exact Nat.zero_le _
  | cons u us ih => exact Nat.max_le.mpr ⟨h u List.mem_cons_self, ih fun x hx => h x (List.mem_cons_of_mem _ hx)⟩
theorem cntL_take {us : List Tm} {k : Nat} {t : Tm} (h : us[k]? = some t) : Tm.cntL (us.take (k + 1)) = Tm.cntL (us.take k) + t.cnt := by
  rw [List.take_add_one, h]
  exact cntL_snoc _ _
theorem ok_lweak (c : Al K mg base ds fr ts cs) (h__law_take : Ok P w K mg base 1 "_law_take" ["box", "many"] (spOf K T F_take)) : ∀ h : Nat, Ok P w K mg base (h + 2) "_law_weak" ["box", "term"] (spOf K T (F_weak h))
  | 0 => by
    have nd := sc__law_weak.nd
    have kTOP := c.cs _ (.head _)
    have kBOTTOM := c.cs _ (.tail _ (.head _))
    have kRESERVED := c.cs _ (.tail _ (.tail _ (.tail _ (.tail _ (.tail _ (.head _))))))
    refine ok_of c (.tail _ (.tail _ (.tail _ (.tail _ (.tail _ (.tail _ (.tail _ (.tail _ (.tail _ (.tail _ (.tail _ (.tail _ (.tail _ (.tail _ (.tail _ (.tail _ (.tail _ (.tail _ (.tail _ (.tail _ (.tail _ (.tail _ (.tail _ (.tail _ (.tail _ (.tail _ (.tail _ (.tail _ (.tail _ (.tail _ (.tail _ (.tail _ (.tail _ (.tail _ (.head _))))))))))))))))))))))))))))))))))) (fun _ _ _ _ _ _ us hl => match us, hl with | [_, _], _ => rfl) sc__law_weak (fun as Q h => by first | (obtain ⟨_, rfl, _⟩ := h; rfl) | (obtain ⟨_, _, rfl, _⟩ := h; rfl) | (obtain ⟨_, _, _, rfl, _⟩ := h; rfl) | (obtain ⟨_, _, _, _, rfl, _⟩ := h; rfl) | (obtain ⟨_, _, _, _, _, rfl, _⟩ := h; rfl) | (obtain ⟨_, _, _, _, _, _, rfl, _⟩ := h; rfl) | (obtain ⟨_, _, _, _, _, _, _, rfl, _⟩ := h; rfl) | (obtain ⟨_, _, _, _, _, _, _, _, rfl, _⟩ := h; rfl) | (obtain ⟨_, _, _, _, _, _, _, _, _, rfl, _⟩ := h; rfl) | (obtain ⟨rfl, _⟩ := h; rfl)) fun f cdv A outer s H E hr as Q qs hF hq => ?_
    obtain ⟨x, y, z, t, rfl, b, _⟩ := hF
    exact b.no.elim
  | h + 1 => by
    have h__law_weak := ok_lweak c h__law_take h
    have nd := sc__law_weak.nd
    have kTOP := c.cs _ (.head _)
    have kBOTTOM := c.cs _ (.tail _ (.head _))
    have kRESERVED := c.cs _ (.tail _ (.tail _ (.tail _ (.tail _ (.tail _ (.head _))))))
    refine ok_of c (.tail _ (.tail _ (.tail _ (.tail _ (.tail _ (.tail _ (.tail _ (.tail _ (.tail _ (.tail _ (.tail _ (.tail _ (.tail _ (.tail _ (.tail _ (.tail _ (.tail _ (.tail _ (.tail _ (.tail _ (.tail _ (.tail _ (.tail _ (.tail _ (.tail _ (.tail _ (.tail _ (.tail _ (.tail _ (.tail _ (.tail _ (.tail _ (.tail _ (.tail _ (.head _))))))))))))))))))))))))))))))))))) (fun _ _ _ _ _ _ us hl => match us, hl with | [_, _], _ => rfl) sc__law_weak (fun as Q h => by first | (obtain ⟨_, rfl, _⟩ := h; rfl) | (obtain ⟨_, _, rfl, _⟩ := h; rfl) | (obtain ⟨_, _, _, rfl, _⟩ := h; rfl) | (obtain ⟨_, _, _, _, rfl, _⟩ := h; rfl) | (obtain ⟨_, _, _, _, _, rfl, _⟩ := h; rfl) | (obtain ⟨_, _, _, _, _, _, rfl, _⟩ := h; rfl) | (obtain ⟨_, _, _, _, _, _, _, rfl, _⟩ := h; rfl) | (obtain ⟨_, _, _, _, _, _, _, _, rfl, _⟩ := h; rfl) | (obtain ⟨_, _, _, _, _, _, _, _, _, rfl, _⟩ := h; rfl) | (obtain ⟨rfl, _⟩ := h; rfl)) fun f cdv A outer s H E hr as Q qs hF hq => ?_
    obtain ⟨x, y, z, t, rfl, b, hQ⟩ := hF
    obtain ⟨p, rfl⟩ := List.length_eq_one_iff.mp hq
    refine ⟨_, (pss_cons (ps_set (i := 2) nd rfl (Or.inl rfl) (pe_f h__law_take (hr.mono (by omega)) rfl (pa_cons (pv 0) (pa_cons pe_int pa_nil))))
    (pss_cons (ps_if (pt_cmpR op_eq (pv 2) pe_int (nomark _)) (pss_one (ps_ret (pe_tup (pa_cons pe_str pa_nil)))) pss_nil)
    (pss_cons (ps_if (pt_cmpR op_eq (pe_ix (r := rIxT K) ix_tup (pv 1) pe_int (fun _ _ => rfl)) pe_str (nomark _)) (pss_one (ps_ret (pe_tup (pa_cons pe_str (pa_cons (pe_ix (r := rIxT K) ix_tup (pv 1) pe_int (fun _ _ => rfl)) (pa_cons (pe_f h__law_weak (hr.mono (by omega)) rfl (pa_cons (pv 0) (pa_cons (pe_ix (r := rIxT K) ix_tup (pv 1) pe_int (fun _ _ => rfl)) pa_nil))) pa_nil)))))) pss_nil)
    (pss_cons (ps_if (pt_cmpR op_ne (pe_ix (r := rIxT K) ix_tup (pv 1) pe_int (fun _ _ => rfl)) pe_str (nomark _)) (pss_one (ps_ret (pv 1))) pss_nil)
    (pss_cons (ps_set (i := 3) nd rfl (Or.inl rfl) (pe_lst pa_nil))
    (pss_cons (ps_for PassesOwn.never rfl (pi_tupK (K0 := K) (pe_ix (r := rIxT K) ix_tup (pv 1) pe_int (fun _ _ => rfl))) (pg_name (i := 4) nd rfl (Or.inl rfl)) (pss_one (ps_if (pt_cmpR op_gt (pe_f h__law_take (hr.mono (by omega)) rfl (pa_cons (pv 0) (pa_cons pe_int pa_nil))) pe_int (nomark _)) (pss_one (ps_expr (pe_bmK (K0 := K) PySem.F.plainAttrs_list PySem.F.slot_list_append PySem.F.type_list_append mt_append (pv 3) (pa_cons (pe_f h__law_weak (hr.mono (by omega)) rfl (pa_cons (pv 0) (pa_cons (pv 4) pa_nil))) pa_nil)))) pss_nil)))
    (pss_cons (ps_if (pt_cmpR op_eq (pv 2) pe_int (nomark _)) (pss_one (ps_set (i := 3) nd rfl (Or.inl rfl) (pe_listRev (K0 := K) rfl rfl (c.fr _ (.tail _ (.tail _ (.tail _ (.tail _ (.tail _ (.head _))))))) rfl (c.fr _ (.tail _ (.tail _ (.tail _ (.tail _ (.tail _ (.tail _ (.tail _ (.tail _ (.tail _ (.tail _ (.tail _ (.head _))))))))))))) (pv 3)))) pss_nil)
    (pss_one (ps_ret (pe_tup (pa_cons pe_str (pa_cons (pe_callTy (r := rTupOf K) call_tuple_of rfl (c.fr _ (.tail _ (.tail _ (.tail _ (.tail _ (.head _)))))) PyProof.Rows.boot_tuple (pa_cons (pv 3) pa_nil)) pa_nil)))))))))))), ?_⟩
    show Ss K T _ [.own p _, .val _, .no, .no, .no] _
    k_search "go"
    k_search "take"
    rename_i kd x y z h1 h2
    k_search "go"
    refine iteD (fun hk => ?_) fun hk => ?_
    · k_search "go"
      exact ⟨_, _, ⟨rfl, _, rfl, rfl⟩, rfl, hQ .top _ _ _ trivial (le_top t) t.ht_pos t.cnt_pos⟩
    cases t with
    | top =>
      k_search "go"
      exact ⟨_, _, ⟨rfl, _, rfl, rfl⟩, rfl, hQ _ _ _ _ b.good (le_refl _) (Nat.le_refl _) (Nat.le_refl _)⟩
    | bot =>
      k_search "go"
      exact ⟨_, _, ⟨rfl, _, rfl, rfl⟩, rfl, hQ _ _ _ _ b.good (le_refl _) (Nat.le_refl _) (Nat.le_refl _)⟩
    | name v =>
      k_search "go"
      exact ⟨_, _, ⟨rfl, _, rfl, rfl⟩, rfl, hQ _ _ _ _ b.good (le_refl _) (Nat.le_refl _) (Nat.le_refl _)⟩
    | some r v =>
      k_search "go"
      refine cx [.own _, .val _] [0] ⟨rfl, ⟨_, rfl⟩, rfl, trivial⟩ (by decide) ⟨_, _, _, v, rfl, b.some, fun u x y z g le ht hc => ⟨rim1 (Tm.imm_d _) rfl, ?_⟩⟩
      k_search "nrm"
      k_search "go"
      exact ⟨_, _, ⟨rfl, _, rfl, rfl⟩, rfl, hQ (.some r u) _ _ _ ⟨b.W, g⟩ (some_le.mpr le) (Nat.succ_le_succ ht) (Nat.succ_le_succ hc)⟩
    | and us =>
      have bl := b.len
      k_search "go"
      refine go_forT (Tm.dL us) (fun k δ => ∃ (x y z : Int) (a : Addr) (ps : List Tm) (s : Sl), Tm.goodL ps ∧ (∀ q ∈ ps, ∃ u ∈ us, Le u q ∧ q.ht ≤ u.ht) ∧ Tm.cntL ps ≤ Tm.cntL (us.take k) ∧ ps.length ≤ k ∧
        δ = [.own p (bx x y z), .val (Tm.and us).d, .val (.int kd), .own a (.lst (ps.map Tm.d)), s]) ?_ ?_ ?_
      · k_search "go"
        exact ⟨rfl, _, _, _, _, [], _, trivial, (fun q hq => by cases hq), Nat.le_refl _, Nat.le_refl _, rfl⟩
      · rintro k d δ2 hk ⟨x, y, z, a, ps, s, g, hm, hc, hl, rfl⟩
        rw [Tm.dL_map] at hk
        obtain ⟨u, hu, rfl⟩ := map_at hk
        have m := List.mem_of_getElem? hu
        have hk2 : k < us.length := (List.getElem?_eq_some_iff.mp hu).1
        have ct := cntL_take hu
        have hlm : (ps.map Tm.d).length < 100000 := by rw [List.length_map]; omega
        k_search "nrm"
        k_search "go"
        k_search "take"
        rename_i n x y z h3 h4
        k_search "go"
        refine iteD (fun hp => ?_) fun hp => ?_
        · k_search "go"
          refine cx [.own _, .val _] [0] ⟨rfl, ⟨_, rfl⟩, rfl, trivial⟩ (by decide) ⟨_, _, _, u, rfl, b.and m, fun v x y z g2 le ht hc2 => ⟨rim1 (Tm.imm_d _) rfl, ?_⟩⟩
          k_search "nrm"
          k_search "go"
          refine ⟨_, _, _, _, ps ++ [v], _, goodL_snoc ps v g g2, ?_, ?_, ?_, by rw [List.map_append]; rfl⟩
          · intro q hq
            rcases List.mem_append.mp hq with hq | hq
            · exact hm q hq
            · rw [List.mem_singleton.mp hq]; exact ⟨u, m, le, ht⟩
          · rw [cntL_snoc]; omega
          · rw [List.length_append]; simp; omega
        · k_search "go"
          exact ⟨_, _, _, _, ps, _, g, hm, by omega, by omega, rfl⟩
      · rintro δ2 ⟨x, y, z, a, ps, s, g, hm, hc, hl, rfl⟩
        rw [Tm.dL_map, List.length_map, List.take_length] at hc
        have fin : ∀ rs : List Tm, (∀ q ∈ rs, q ∈ ps) → Tm.cntL rs ≤ Tm.cntL ps → ∀ (x y z : Int), Q (.val (Tm.and rs).d) [bx x y z] := fun rs hr hcr x y z => hQ (.and rs) _ _ _
          (Tm.goodL_iff.mpr fun q hq => Tm.goodL_iff.mp g q (hr q hq))
          (le_and.mpr fun q hq => by
            obtain ⟨u, h1, h2, _⟩ := hm q (hr q hq)
            exact le_trans (and_le h1) h2)
          (Nat.succ_le_succ (htL_mem fun q hq => by
            obtain ⟨u, h1, _, h3⟩ := hm q (hr q hq)
            exact Nat.le_trans h3 (Tm.htL_le h1)))
          (Nat.succ_le_succ (Nat.le_trans hcr hc))
        have ed : ∀ rs : List Tm, PyData.tuple [.str "and", .tuple (rs.map Tm.d)] = (Tm.and rs).d := fun rs => by rw [← Tm.dL_map]; rfl
        k_search "go"
        refine iteD (fun hk4 => ?_) fun hk4 => ?_
        · k_search "go"
          refine ex_listRev (ex_bor rfl ⟨_, ⟨_, _, rfl, rfl⟩, tm_imm, ?_⟩)
          rw [← List.map_reverse]
          k_search "go"
          refine cb_tupL tm_imm ?_
          k_search "go"
          refine ⟨_, _, ⟨rfl, _, rfl, rfl⟩, rfl, ?_⟩
          rw [ed]
          exact fin ps.reverse (fun q hq => List.mem_reverse.mp hq) (Nat.le_of_eq (cntL_perm (List.reverse_perm ps))) _ _ _
        · k_search "go"
          refine cb_tupL tm_imm ?_
          k_search "go"
          refine ⟨_, _, ⟨rfl, _, rfl, rfl⟩, rfl, ?_⟩
          rw [ed]
          exact fin ps (fun q hq => hq) (Nat.le_refl _) _ _ _
set_option Elab.async false
set_option linter.all false
set_option maxRecDepth 100000
set_option maxHeartbeats 4000001
open PySem L2 LamX NdefX PyProof.Rows GenW Pl
variable {P : Program} {w : World} {K : PySem.W.Frag} {mg : Str → Option Value} {base : Heap} {T : List NTab} {ts : List Str}
def F_other : FS := fun as Q => ∃ (x y z : Int) (ls ties : List Str) (e : Int) (t : Tm), as = [.own (bx x y z), .val (pool ls ties e), .val t.d] ∧ PoolOk ls ties ∧ t.good ∧ ∀ (u : Tm) (x y z : Int), u.good → u.ht ≤ t.ht + 1 → u.cnt ≤ t.cnt + 2 → Q (.val u.d) [bx x y z]
def F_change (h : Nat) : FS := fun as Q => ∃ (x y z : Int) (ls ties : List Str) (e : Int) (t : Tm), as = [.own (bx x y z), .val (pool ls ties e), .val t.d] ∧ PoolOk ls ties ∧ Tb h t ∧ ∀ (u : Tm) (x y z : Int), u.good → u.ht ≤ t.ht + 1 → u.cnt ≤ t.cnt + 2 → Q (.val u.d) [bx x y z]
theorem at_tm {us : List Tm} {n : Int} (h1 : 0 ≤ n) (h2 : n < ((us.map Tm.d).length : Nat)) : ∃ (k : Nat) (u : Tm), n = k ∧ us[k]? = some u ∧ atI (us.map Tm.d) n = some u.d := by
  rw [List.length_map] at h2
  obtain ⟨k, rfl⟩ : ∃ k : Nat, n = k := ⟨n.toNat, by omega⟩
  have hk : k < us.length := by omega
  exact ⟨k, us[k], rfl, List.getElem?_eq_getElem hk, atI_nat (by rw [List.getElem?_map, List.getElem?_eq_getElem hk]; rfl)⟩
theorem ok_lother (c : Al K mg base ds fr ts cs) (h__law_take : Ok P w K mg base 1 "_law_take" ["box", "many"] (spOf K T F_take)) : Ok P w K mg base 2 "_law_other" ["box", "pool", "term"] (spOf K T F_other) := by
  have nd := sc__law_other.nd
  have kTOP := c.cs _ (.head _)
  have kBOTTOM := c.cs _ (.tail _ (.head _))
  have kRESERVED := c.cs _ (.tail _ (.tail _ (.tail _ (.tail _ (.tail _ (.head _))))))
  refine ok_of c (.tail _ (.tail _ (.tail _ (.tail _ (.tail _ (.tail _ (.tail _ (.tail _ (.tail _ (.tail _ (.tail _ (.tail _ (.tail _ (.tail _ (.tail _ (.tail _ (.tail _ (.tail _ (.tail _ (.tail _ (.tail _ (.tail _ (.tail _ (.tail _ (.tail _ (.tail _ (.tail _ (.tail _ (.tail _ (.tail _ (.tail _ (.tail _ (.tail _ (.tail _ (.tail _ (.head _)))))))))))))))))))))))))))))))))))) (fun _ _ _ _ _ _ us hl => match us, hl with | [_, _, _], _ => rfl) sc__law_other (fun as Q h => by first | (obtain ⟨_, rfl, _⟩ := h; rfl) | (obtain ⟨_, _, rfl, _⟩ := h; rfl) | (obtain ⟨_, _, _, rfl, _⟩ := h; rfl) | (obtain ⟨_, _, _, _, rfl, _⟩ := h; rfl) | (obtain ⟨_, _, _, _, _, rfl, _⟩ := h; rfl) | (obtain ⟨_, _, _, _, _, _, rfl, _⟩ := h; rfl) | (obtain ⟨_, _, _, _, _, _, _, rfl, _⟩ := h; rfl) | (obtain ⟨_, _, _, _, _, _, _, _, rfl, _⟩ := h; rfl) | (obtain ⟨_, _, _, _, _, _, _, _, _, rfl, _⟩ := h; rfl) | (obtain ⟨rfl, _⟩ := h; rfl)) fun f cdv A outer s H E hr as Q qs hF hq => ?_
  obtain ⟨x, y, z, ls, ties, e, t, rfl, po, g, hQ⟩ := hF
  obtain ⟨p, rfl⟩ := List.length_eq_one_iff.mp hq
  refine ⟨_, (pss_cons (ps_set (i := 3) nd rfl (Or.inl rfl) (pe_tup (pa_cons pe_str (pa_cons (pe_ix (r := rIxL K) ix_list (pe_ix (r := rIxL K) ix_list (pv 1) pe_int (fun _ _ => rfl)) (pe_f h__law_take (hr.mono (by omega)) rfl (pa_cons (pv 0) (pa_cons (pe_callB (r := Pl.rLen K) call_len rfl (c.fr _ (.tail _ (.tail _ (.tail _ (.head _))))) PySem.boot_len (pa_cons (pe_ix (r := rIxL K) ix_list (pv 1) pe_int (fun _ _ => rfl)) pa_nil)) pa_nil))) (fun _ _ => rfl)) pa_nil))))
    (pss_cons (ps_set (i := 4) nd rfl (Or.inl rfl) (pe_ix (r := rIxL K) ix_list (pe_ix (r := rIxL K) ix_list (pv 1) pe_int (fun _ _ => rfl)) (pe_f h__law_take (hr.mono (by omega)) rfl (pa_cons (pv 0) (pa_cons (pe_callB (r := Pl.rLen K) call_len rfl (c.fr _ (.tail _ (.tail _ (.tail _ (.head _))))) PySem.boot_len (pa_cons (pe_ix (r := rIxL K) ix_list (pv 1) pe_int (fun _ _ => rfl)) pa_nil)) pa_nil))) (fun _ _ => rfl)))
    (pss_cons (ps_set (i := 5) nd rfl (Or.inl rfl) (pe_lst (pa_cons (pv 3) (pa_cons (pe_tup (pa_cons pe_str (pa_cons (pv 4) (pa_cons (pe_tup (pa_cons pe_str pa_nil)) pa_nil)))) (pa_cons (pe_tup (pa_cons pe_str (pa_cons (pe_tup (pa_cons (pv 2) (pa_cons (pv 3) pa_nil))) pa_nil))) (pa_cons (pe_tup (pa_cons pe_str pa_nil)) (pa_cons (pe_tup (pa_cons pe_str (pa_cons (pe_tup (pa_cons (pv 2) (pa_cons (pe_tup (pa_cons pe_str pa_nil)) pa_nil))) pa_nil))) pa_nil)))))))
    (pss_cons (ps_if (pt_cmpR op_eq (pe_ix (r := rIxT K) ix_tup (pv 2) pe_int (fun _ _ => rfl)) pe_str (nomark _)) (pss_one (ps_set (i := 5) nd rfl (Or.inl rfl) (pe_op (r := rCatS K) op_catS (pv 5) (pe_lst (pa_cons (pe_tup (pa_cons pe_str (pa_cons (pv 4) (pa_cons (pe_ix (r := rIxT K) ix_tup (pv 2) pe_int (fun _ _ => rfl)) pa_nil)))) (pa_cons (pe_tup (pa_cons pe_str (pa_cons (pv 4) (pa_cons (pv 2) pa_nil)))) (pa_cons (pe_ix (r := rIxT K) ix_tup (pv 2) pe_int (fun _ _ => rfl)) pa_nil))))))) pss_nil)
    (pss_one (ps_ret (pe_ix (r := rIxL K) ix_list (pv 5) (pe_f h__law_take (hr.mono (by omega)) rfl (pa_cons (pv 0) (pa_cons (pe_callB (r := Pl.rLen K) call_len rfl (c.fr _ (.tail _ (.tail _ (.tail _ (.head _))))) PySem.boot_len (pa_cons (pv 5) pa_nil)) pa_nil))) (fun _ _ => rfl)))))))), ?_⟩
  show Ss K T _ [.own p _, .val _, .val _, .no, .no, .no] _
  obtain ⟨f1, f2, f3, f4⟩ := po.f
  have w1 := po.l5
  have w2 := po.l6
  have tp := t.ht_pos
  have tc := t.cnt_pos
  unfold pool
  k_search "go"
  k_search "take"
  rename_i n x y z h1 h2
  obtain ⟨v, hv, hat⟩ := at_str h1 h2
  k_search "go"
  k_search "take"
  rename_i n2 x y z h3 h4
  obtain ⟨r, hr1, hat2⟩ := at_str h3 h4
  have nm : ∀ u ∈ [Tm.name v, .some r .top, .and [t, .name v], .top, .and [t, .top]], u.good ∧ u.ht ≤ t.ht + 1 ∧ u.cnt ≤ t.cnt + 2 := by
    intro u hu
    simp only [List.mem_cons, List.mem_singleton, List.not_mem_nil, or_false] at hu
    rcases hu with rfl | rfl | rfl | rfl | rfl
    · exact ⟨w1 v hv, (by show 1 ≤ _; omega), (by show 1 ≤ _; omega)⟩
    · exact ⟨⟨w2 r hr1, trivial⟩, (by show 2 ≤ _; omega), (by show 2 ≤ _; omega)⟩
    · exact ⟨⟨g, w1 v hv, trivial⟩, (by show max t.ht (max 1 0) + 1 ≤ _; omega), (by show t.cnt + (1 + 0) + 1 ≤ _; omega)⟩
    · exact ⟨trivial, (by show 1 ≤ _; omega), (by show 1 ≤ _; omega)⟩
    · exact ⟨⟨g, trivial, trivial⟩, (by show max t.ht (max 1 0) + 1 ≤ _; omega), (by show t.cnt + (1 + 0) + 1 ≤ _; omega)⟩
  k_search "go"
  cases t with
  | some q s =>
    have nm2 : ∀ u ∈ [Tm.name v, .some r .top, .and [.some q s, .name v], .top, .and [.some q s, .top], .some r s, .some r (.some q s), s], u.good ∧ u.ht ≤ (Tm.some q s).ht + 1 ∧ u.cnt ≤ (Tm.some q s).cnt + 2 := by
      intro u hu
      simp only [List.mem_cons, List.mem_singleton, List.not_mem_nil, or_false] at hu
      have hs : (Tm.some q s).ht = s.ht + 1 := rfl
      have hc : (Tm.some q s).cnt = s.cnt + 1 := rfl
      rcases hu with rfl | rfl | rfl | rfl | rfl | rfl | rfl | rfl
      · exact nm _ (by simp)
      · exact nm _ (by simp)
      · exact nm _ (by simp)
      · exact nm _ (by simp)
      · exact nm _ (by simp)
      · exact ⟨⟨w2 r hr1, g.2⟩, (by show s.ht + 1 ≤ _; omega), (by show s.cnt + 1 ≤ _; omega)⟩
      · exact ⟨⟨w2 r hr1, g⟩, (by show s.ht + 1 + 1 ≤ _; omega), (by show s.cnt + 1 + 1 ≤ _; omega)⟩
      · exact ⟨g.2, (by omega), (by omega)⟩
    k_search "go"
    refine opd_catL (by k_search "imm") (by k_search "imm") (by simp) ?_
    k_search "go"
    refine cx [.own _, .val _] [0] ⟨rfl, ⟨_, rfl⟩, rfl, trivial⟩ (by decide) ⟨_, _, _, _, rfl, (by show (1 : Int) ≤ ((8 : Nat) : Int); decide), (by show ((8 : Nat) : Int) ≤ 1000; decide), fun n x y z h1 h2 => ⟨rim1 rfl rfl, ?_⟩⟩
    k_search "nrm"
    obtain ⟨k, u, _, hu, hat⟩ := at_tm (us := [Tm.name v, .some r .top, .and [.some q s, .name v], .top, .and [.some q s, .top], .some r s, .some r (.some q s), s]) h1 h2
    obtain ⟨q1, q2, q3⟩ := nm2 u (List.mem_of_getElem? hu)
    k_search "go"
    exact ⟨_, _, ⟨rfl, _, rfl, rfl⟩, rfl, hQ u _ _ _ q1 q2 q3⟩
  | top =>
    k_search "go"
    refine cx [.own _, .val _] [0] ⟨rfl, ⟨_, rfl⟩, rfl, trivial⟩ (by decide) ⟨_, _, _, _, rfl, (by show (1 : Int) ≤ ((5 : Nat) : Int); decide), (by show ((5 : Nat) : Int) ≤ 1000; decide), fun n x y z h1 h2 => ⟨rim1 rfl rfl, ?_⟩⟩
    k_search "nrm"
    obtain ⟨k, u, _, hu, hat⟩ := at_tm (us := [Tm.name v, .some r .top, .and [.top, .name v], .top, .and [.top, .top]]) h1 h2
    obtain ⟨q1, q2, q3⟩ := nm u (List.mem_of_getElem? hu)
    k_search "go"
    exact ⟨_, _, ⟨rfl, _, rfl, rfl⟩, rfl, hQ u _ _ _ q1 q2 q3⟩
  | bot =>
    k_search "go"
    refine cx [.own _, .val _] [0] ⟨rfl, ⟨_, rfl⟩, rfl, trivial⟩ (by decide) ⟨_, _, _, _, rfl, (by show (1 : Int) ≤ ((5 : Nat) : Int); decide), (by show ((5 : Nat) : Int) ≤ 1000; decide), fun n x y z h1 h2 => ⟨rim1 rfl rfl, ?_⟩⟩
    k_search "nrm"
    obtain ⟨k, u, _, hu, hat⟩ := at_tm (us := [Tm.name v, .some r .top, .and [.bot, .name v], .top, .and [.bot, .top]]) h1 h2
    obtain ⟨q1, q2, q3⟩ := nm u (List.mem_of_getElem? hu)
    k_search "go"
    exact ⟨_, _, ⟨rfl, _, rfl, rfl⟩, rfl, hQ u _ _ _ q1 q2 q3⟩
  | name w2 =>
    k_search "go"
    refine cx [.own _, .val _] [0] ⟨rfl, ⟨_, rfl⟩, rfl, trivial⟩ (by decide) ⟨_, _, _, _, rfl, (by show (1 : Int) ≤ ((5 : Nat) : Int); decide), (by show ((5 : Nat) : Int) ≤ 1000; decide), fun n x y z h1 h2 => ⟨rim1 rfl rfl, ?_⟩⟩
    k_search "nrm"
    obtain ⟨k, u, _, hu, hat⟩ := at_tm (us := [Tm.name v, .some r .top, .and [.name w2, .name v], .top, .and [.name w2, .top]]) h1 h2
    obtain ⟨q1, q2, q3⟩ := nm u (List.mem_of_getElem? hu)
    k_search "go"
    exact ⟨_, _, ⟨rfl, _, rfl, rfl⟩, rfl, hQ u _ _ _ q1 q2 q3⟩
  | and us =>
    k_search "go"
    refine cx [.own _, .val _] [0] ⟨rfl, ⟨_, rfl⟩, rfl, trivial⟩ (by decide) ⟨_, _, _, _, rfl, (by show (1 : Int) ≤ ((5 : Nat) : Int); decide), (by show ((5 : Nat) : Int) ≤ 1000; decide), fun n x y z h1 h2 => ⟨rim1 rfl rfl, ?_⟩⟩
    k_search "nrm"
    obtain ⟨k, u, _, hu, hat⟩ := at_tm (us := [Tm.name v, .some r .top, .and [.and us, .name v], .top, .and [.and us, .top]]) h1 h2
    obtain ⟨q1, q2, q3⟩ := nm u (List.mem_of_getElem? hu)
    k_search "go"
    exact ⟨_, _, ⟨rfl, _, rfl, rfl⟩, rfl, hQ u _ _ _ q1 q2 q3⟩
theorem cut_take {ds : List D} {k : Nat} (h : k ≤ ds.length) : Pl.cutD ds none (some (k : Int)) = ds.take k := by
  unfold Pl.cutD
  have h1 : HT.sIx ds.length 0 none = 0 := rfl
  have h2 : HT.sIx ds.length ds.length (some (k : Int)) = k := by
    simp only [HT.sIx]
    rw [if_neg (by omega)]
    omega
  rw [h1, h2]
  rfl
theorem cut_drop {ds : List D} {k : Nat} (h : k + 1 ≤ ds.length) : Pl.cutD ds (some ((k : Int) + 1)) none = ds.drop (k + 1) := by
  unfold Pl.cutD
  have h1 : HT.sIx ds.length 0 (some ((k : Int) + 1)) = k + 1 := by
    simp only [HT.sIx]
    rw [if_neg (by omega)]
    omega
  have h2 : HT.sIx ds.length ds.length none = ds.length := rfl
  rw [h1, h2]
  exact List.take_of_length_le (by rw [List.length_drop]; omega)
theorem cut_nw1 {n k : Nat} (h : k < n) : ¬ (HT.sIx n 0 none = 0 ∧ HT.sIx n n (some (k : Int)) = n) := fun ⟨_, z⟩ => by
  simp only [HT.sIx] at z
  rw [if_neg (by omega)] at z
  omega
theorem cut_nw2 {n k : Nat} (h : k < n) : ¬ (HT.sIx n 0 (some ((k : Int) + 1)) = 0 ∧ HT.sIx n n none = n) := fun ⟨z, _⟩ => by
  simp only [HT.sIx] at z
  rw [if_neg (by omega)] at z
  omega
theorem ok_lchange (c : Al K mg base ds fr ts cs) (h__law_take : Ok P w K mg base 1 "_law_take" ["box", "many"] (spOf K T F_take)) (h__law_other : Ok P w K mg base 2 "_law_other" ["box", "pool", "term"] (spOf K T F_other)) :
    ∀ h : Nat, Ok P w K mg base (h + 3) "_law_change" ["box", "pool", "term"] (spOf K T (F_change h))
  | 0 => by
    have nd := sc__law_change.nd
    have kTOP := c.cs _ (.head _)
    have kBOTTOM := c.cs _ (.tail _ (.head _))
    have kRESERVED := c.cs _ (.tail _ (.tail _ (.tail _ (.tail _ (.tail _ (.head _))))))
    refine ok_of c (.tail _ (.tail _ (.tail _ (.tail _ (.tail _ (.tail _ (.tail _ (.tail _ (.tail _ (.tail _ (.tail _ (.tail _ (.tail _ (.tail _ (.tail _ (.tail _ (.tail _ (.tail _ (.tail _ (.tail _ (.tail _ (.tail _ (.tail _ (.tail _ (.tail _ (.tail _ (.tail _ (.tail _ (.tail _ (.tail _ (.tail _ (.tail _ (.tail _ (.tail _ (.tail _ (.tail _ (.head _))))))))))))))))))))))))))))))))))))) (fun _ _ _ _ _ _ us hl => match us, hl with | [_, _, _], _ => rfl) sc__law_change (fun as Q h => by first | (obtain ⟨_, rfl, _⟩ := h; rfl) | (obtain ⟨_, _, rfl, _⟩ := h; rfl) | (obtain ⟨_, _, _, rfl, _⟩ := h; rfl) | (obtain ⟨_, _, _, _, rfl, _⟩ := h; rfl) | (obtain ⟨_, _, _, _, _, rfl, _⟩ := h; rfl) | (obtain ⟨_, _, _, _, _, _, rfl, _⟩ := h; rfl) | (obtain ⟨_, _, _, _, _, _, _, rfl, _⟩ := h; rfl) | (obtain ⟨_, _, _, _, _, _, _, _, rfl, _⟩ := h; rfl) | (obtain ⟨_, _, _, _, _, _, _, _, _, rfl, _⟩ := h; rfl) | (obtain ⟨rfl, _⟩ := h; rfl)) fun f cdv A outer s H E hr as Q qs hF hq => ?_
    obtain ⟨x, y, z, ls, ties, e, t, rfl, po, b, _⟩ := hF
    exact b.no.elim
  | h + 1 => by
    have h__law_change := ok_lchange c h__law_take h__law_other h
    have nd := sc__law_change.nd
    have kTOP := c.cs _ (.head _)
    have kBOTTOM := c.cs _ (.tail _ (.head _))
    have kRESERVED := c.cs _ (.tail _ (.tail _ (.tail _ (.tail _ (.tail _ (.head _))))))
    refine ok_of c (.tail _ (.tail _ (.tail _ (.tail _ (.tail _ (.tail _ (.tail _ (.tail _ (.tail _ (.tail _ (.tail _ (.tail _ (.tail _ (.tail _ (.tail _ (.tail _ (.tail _ (.tail _ (.tail _ (.tail _ (.tail _ (.tail _ (.tail _ (.tail _ (.tail _ (.tail _ (.tail _ (.tail _ (.tail _ (.tail _ (.tail _ (.tail _ (.tail _ (.tail _ (.tail _ (.tail _ (.head _))))))))))))))))))))))))))))))))))))) (fun _ _ _ _ _ _ us hl => match us, hl with | [_, _, _], _ => rfl) sc__law_change (fun as Q h => by first | (obtain ⟨_, rfl, _⟩ := h; rfl) | (obtain ⟨_, _, rfl, _⟩ := h; rfl) | (obtain ⟨_, _, _, rfl, _⟩ := h; rfl) | (obtain ⟨_, _, _, _, rfl, _⟩ := h; rfl) | (obtain ⟨_, _, _, _, _, rfl, _⟩ := h; rfl) | (obtain ⟨_, _, _, _, _, _, rfl, _⟩ := h; rfl) | (obtain ⟨_, _, _, _, _, _, _, rfl, _⟩ := h; rfl) | (obtain ⟨_, _, _, _, _, _, _, _, rfl, _⟩ := h; rfl) | (obtain ⟨_, _, _, _, _, _, _, _, _, rfl, _⟩ := h; rfl) | (obtain ⟨rfl, _⟩ := h; rfl)) fun f cdv A outer s H E hr as Q qs hF hq => ?_
    obtain ⟨x, y, z, ls, ties, e, t, rfl, po, b, hQ⟩ := hF
    obtain ⟨p, rfl⟩ := List.length_eq_one_iff.mp hq
    refine ⟨_, (pss_cons (ps_if (PW.pt (pw_and (pt_cmpR op_eq (pe_ix (r := rIxT K) ix_tup (pv 2) pe_int (fun _ _ => rfl)) pe_str (nomark _)) (pw_and1 (pt_cmpR op_gt (pe_f h__law_take (hr.mono (by omega)) rfl (pa_cons (pv 0) (pa_cons pe_int pa_nil))) pe_int (nomark _))))) (pss_one (ps_ret (pe_tup (pa_cons pe_str (pa_cons (pe_ix (r := rIxT K) ix_tup (pv 2) pe_int (fun _ _ => rfl)) (pa_cons (pe_f h__law_change (hr.mono (by omega)) rfl (pa_cons (pv 0) (pa_cons (pv 1) (pa_cons (pe_ix (r := rIxT K) ix_tup (pv 2) pe_int (fun _ _ => rfl)) pa_nil)))) pa_nil)))))) pss_nil)
    (pss_cons (ps_if (PW.pt (pw_and (pt_cmpR op_eq (pe_ix (r := rIxT K) ix_tup (pv 2) pe_int (fun _ _ => rfl)) pe_str (nomark _)) (pw_and (pt_cmpR op_gt (pe_callB (r := Pl.rLen K) call_len rfl (c.fr _ (.tail _ (.tail _ (.tail _ (.head _))))) PySem.boot_len (pa_cons (pe_ix (r := rIxT K) ix_tup (pv 2) pe_int (fun _ _ => rfl)) pa_nil)) pe_int (nomark _)) (pw_and1 (pt_cmpR op_gt (pe_f h__law_take (hr.mono (by omega)) rfl (pa_cons (pv 0) (pa_cons pe_int pa_nil))) pe_int (nomark _)))))) (pss_cons (ps_set (i := 3) nd rfl (Or.inl rfl) (pe_f h__law_take (hr.mono (by omega)) rfl (pa_cons (pv 0) (pa_cons (pe_callB (r := Pl.rLen K) call_len rfl (c.fr _ (.tail _ (.tail _ (.tail _ (.head _))))) PySem.boot_len (pa_cons (pe_ix (r := rIxT K) ix_tup (pv 2) pe_int (fun _ _ => rfl)) pa_nil)) pa_nil))))
    (pss_one (ps_ret (pe_tup (pa_cons pe_str (pa_cons (pe_op (r := rCatA K) op_catA (pe_op (r := rCatA K) op_catA (pe_slice (r := rSlT K) sl_tup (pe_ix (r := rIxT K) ix_tup (pv 2) pe_int (fun _ _ => rfl)) po_none (po_some (pv 3))) (pe_tup (pa_cons (pe_f h__law_change (hr.mono (by omega)) rfl (pa_cons (pv 0) (pa_cons (pv 1) (pa_cons (pe_ix (r := rIxT K) ix_tup (pe_ix (r := rIxT K) ix_tup (pv 2) pe_int (fun _ _ => rfl)) (pv 3) (fun _ _ => rfl)) pa_nil)))) pa_nil))) (pe_slice (r := rSlT K) sl_tup (pe_ix (r := rIxT K) ix_tup (pv 2) pe_int (fun _ _ => rfl)) (po_some (pe_op op_add (pv 3) pe_int)) po_none)) pa_nil)))))) pss_nil)
    (pss_one (ps_ret (pe_f h__law_other (hr.mono (by omega)) rfl (pa_cons (pv 0) (pa_cons (pv 1) (pa_cons (pv 2) pa_nil)))))))), ?_⟩
    show Ss K T _ [.own p _, .val _, .val _, .no] _
    cases t with
    | top =>
      k_search "go"
      refine cx [.own _, .val _, .val _] [0] ⟨rfl, ⟨_, rfl⟩, rfl, rfl, trivial⟩ (by decide) ⟨_, _, _, ls, ties, e, .top, rfl, po, b.good, fun u x y z q1 q2 q3 => ⟨rim1 (Tm.imm_d _) rfl, ?_⟩⟩
      k_search "nrm"
      k_search "go"
      exact ⟨_, _, ⟨rfl, _, rfl, rfl⟩, rfl, hQ u _ _ _ q1 q2 q3⟩
    | bot =>
      k_search "go"
      refine cx [.own _, .val _, .val _] [0] ⟨rfl, ⟨_, rfl⟩, rfl, rfl, trivial⟩ (by decide) ⟨_, _, _, ls, ties, e, .bot, rfl, po, b.good, fun u x y z q1 q2 q3 => ⟨rim1 (Tm.imm_d _) rfl, ?_⟩⟩
      k_search "nrm"
      k_search "go"
      exact ⟨_, _, ⟨rfl, _, rfl, rfl⟩, rfl, hQ u _ _ _ q1 q2 q3⟩
    | name v =>
      k_search "go"
      refine cx [.own _, .val _, .val _] [0] ⟨rfl, ⟨_, rfl⟩, rfl, rfl, trivial⟩ (by decide) ⟨_, _, _, ls, ties, e, .name v, rfl, po, b.good, fun u x y z q1 q2 q3 => ⟨rim1 (Tm.imm_d _) rfl, ?_⟩⟩
      k_search "nrm"
      k_search "go"
      exact ⟨_, _, ⟨rfl, _, rfl, rfl⟩, rfl, hQ u _ _ _ q1 q2 q3⟩
    | some r v =>
      k_search "go"
      k_search "take"
      rename_i n x y z h1 h2
      k_search "go"
      refine iteD (fun hk => ?_) fun hk => ?_
      · k_search "go"
        refine cx [.own _, .val _, .val _] [0] ⟨rfl, ⟨_, rfl⟩, rfl, rfl, trivial⟩ (by decide) ⟨_, _, _, ls, ties, e, v, rfl, po, b.some, fun u x y z q1 q2 q3 => ⟨rim1 (Tm.imm_d _) rfl, ?_⟩⟩
        k_search "nrm"
        k_search "go"
        exact ⟨_, _, ⟨rfl, _, rfl, rfl⟩, rfl, hQ (.some r u) _ _ _ ⟨b.W, q1⟩ (Nat.succ_le_succ q2) (Nat.succ_le_succ q3)⟩
      · k_search "go"
        refine cx [.own _, .val _, .val _] [0] ⟨rfl, ⟨_, rfl⟩, rfl, rfl, trivial⟩ (by decide) ⟨_, _, _, ls, ties, e, .some r v, rfl, po, b.good, fun u x y z q1 q2 q3 => ⟨rim1 (Tm.imm_d _) rfl, ?_⟩⟩
        k_search "nrm"
        k_search "go"
        exact ⟨_, _, ⟨rfl, _, rfl, rfl⟩, rfl, hQ u _ _ _ q1 q2 q3⟩
    | and us =>
      have bl := b.len
      have g2 : ((Tm.dL us).length : Int) ≤ 1000 := by rw [Tm.dL_map, List.length_map]; omega
      k_search "go"
      refine iteD (fun hp => ?_) fun hp => ?_
      · have g1 : (1 : Int) ≤ ((Tm.dL us).length : Nat) := by omega
        k_search "go"
        k_search "take"
        rename_i n x y z h1 h2
        k_search "go"
        refine iteD (fun hk => ?_) fun hk => ?_
        · k_search "go"
          k_search "take"
          rename_i n2 x y z h3 h4
          obtain ⟨k, u, rfl, hu, hat⟩ := at_tm (us := us) h3 (by rw [← Tm.dL_map]; exact h4)
          rw [← Tm.dL_map] at hat
          have hkl : k < us.length := (List.getElem?_eq_some_iff.mp hu).1
          have hdl : (Tm.dL us).length = us.length := by rw [Tm.dL_map, List.length_map]
          have bu := b.and (List.mem_of_getElem? hu)
          k_search "go"
          refine ex_slT ?_
          k_search "go"
          refine ⟨cut_nw1 (by omega), ?_⟩
          rw [cut_take (by omega)]
          k_search "go"
          refine cx [.own _, .val _, .val _] [0] ⟨rfl, ⟨_, rfl⟩, rfl, rfl, trivial⟩ (by decide) ⟨_, _, _, ls, ties, e, u, rfl, po, bu, fun v x y z q1 q2 q3 => ⟨rim1 (Tm.imm_d _) rfl, ?_⟩⟩
          k_search "nrm"
          have et : (Tm.dL us).take k = (us.take k).map Tm.d := by rw [Tm.dL_map, List.map_take]
          have ed : (Tm.dL us).drop (k + 1) = (us.drop (k + 1)).map Tm.d := by rw [Tm.dL_map, List.map_drop]
          rw [et]
          k_search "go"
          have lt := List.length_take_le k us
          have ld : (us.drop (k + 1)).length ≤ us.length := by rw [List.length_drop]; omega
          have es : us = us.take k ++ (u :: us.drop (k + 1)) := by
            have : us.drop k = u :: us.drop (k + 1) := by
              rw [List.drop_eq_getElem_cons hkl]
              congr 1
              exact (List.getElem?_eq_some_iff.mp hu).2
            rw [← this, List.take_append_drop]
          have iv : immAll [v.d] = true := by show (imm v.d && true) = true; rw [Tm.imm_d]; rfl
          have i1 : immAll ((us.take k).map Tm.d ++ [v.d]) = true := imm_app tm_imm iv
          refine opd_catA tm_imm iv (by rw [List.length_map]; show _ + 1 ≤ _; omega) ?_
          k_search "go"
          refine ex_slT ?_
          k_search "go"
          refine ⟨cut_nw2 (by omega), ?_⟩
          rw [cut_drop (by omega), ed]
          k_search "go"
          refine opd_catA i1 tm_imm (by rw [List.length_append, List.length_map, List.length_map]; show _ + 1 + _ ≤ _; omega) ?_
          k_search "go"
          refine ⟨_, _, ⟨rfl, _, rfl, rfl⟩, rfl, ?_⟩
          have ef : PyData.tuple [.str "and", .tuple ((us.take k).map Tm.d ++ [v.d] ++ (us.drop (k + 1)).map Tm.d)] = (Tm.and (us.take k ++ [v] ++ us.drop (k + 1))).d := by
            show _ = PyData.tuple [.str "and", .tuple (Tm.dL _)]
            rw [Tm.dL_map, List.map_append, List.map_append]
            rfl
          rw [ef]
          have gu : ∀ x ∈ us, x.good := Tm.goodL_iff.mp b.good
          refine hQ _ _ _ _ (Tm.goodL_iff.mpr fun x hx => ?_) ?_ ?_
          · rcases List.mem_append.mp hx with hx | hx
            · rcases List.mem_append.mp hx with hx | hx
              · exact gu x (List.mem_of_mem_take hx)
              · rw [List.mem_singleton.mp hx]; exact q1
            · exact gu x (List.mem_of_mem_drop hx)
          · show Tm.htL _ + 1 ≤ (Tm.htL us + 1) + 1
            refine Nat.succ_le_succ (htL_mem fun x hx => ?_)
            rcases List.mem_append.mp hx with hx | hx
            · rcases List.mem_append.mp hx with hx | hx
              · exact Nat.le_succ_of_le (Tm.htL_le (List.mem_of_mem_take hx))
              · rw [List.mem_singleton.mp hx]
                exact Nat.le_trans q2 (Nat.succ_le_succ (Tm.htL_le (List.mem_of_getElem? hu)))
            · exact Nat.le_succ_of_le (Tm.htL_le (List.mem_of_mem_drop hx))
          · show Tm.cntL _ + 1 ≤ (Tm.cntL us + 1) + 2
            have e1 : Tm.cntL us = Tm.cntL (us.take k) + (u.cnt + Tm.cntL (us.drop (k + 1))) := by
              conv => lhs; rw [es]
              rw [Pl.cntL_app]
              rfl
            rw [Pl.cntL_app, cntL_snoc]
            omega
        · k_search "go"
          refine cx [.own _, .val _, .val _] [0] ⟨rfl, ⟨_, rfl⟩, rfl, rfl, trivial⟩ (by decide) ⟨_, _, _, ls, ties, e, .and us, rfl, po, b.good, fun u x y z q1 q2 q3 => ⟨rim1 (Tm.imm_d _) rfl, ?_⟩⟩
          k_search "nrm"
          k_search "go"
          exact ⟨_, _, ⟨rfl, _, rfl, rfl⟩, rfl, hQ u _ _ _ q1 q2 q3⟩
      · k_search "go"
        refine cx [.own _, .val _, .val _] [0] ⟨rfl, ⟨_, rfl⟩, rfl, rfl, trivial⟩ (by decide) ⟨_, _, _, ls, ties, e, .and us, rfl, po, b.good, fun u x y z q1 q2 q3 => ⟨rim1 (Tm.imm_d _) rfl, ?_⟩⟩
        k_search "nrm"
        k_search "go"
        exact ⟨_, _, ⟨rfl, _, rfl, rfl⟩, rfl, hQ u _ _ _ q1 q2 q3⟩
set_option Elab.async false
set_option linter.all false
set_option maxRecDepth 100000
set_option maxHeartbeats 4000001
open PySem L2 LamX NdefX PyProof.Rows GenW Pl
variable {P : Program} {w : World} {K : PySem.W.Frag} {mg : Str → Option Value} {base : Heap} {T : List NTab} {ts : List Str}
def F_alike (h : Nat) : FS := fun as Q => ∃ (x y z : Int) (t : Tm), as = [.own (bx x y z), .val t.d] ∧ Tb h t ∧ ∀ (u : Tm) (x y z : Int), u.good → Eqt t u → u.ht ≤ 2 * t.ht → u.cnt ≤ t.cnt * (3 + 2 * t.ht) → Q (.val u.d) [bx x y z]
theorem bnd (n H : Nat) : (n + 1) * (3 + 2 * (H + 1)) = n * (3 + 2 * H) + 2 * n + 5 + 2 * H := by
  have e : 3 + 2 * (H + 1) = (3 + 2 * H) + 2 := by omega
  rw [e, Nat.add_mul, Nat.mul_add, Nat.one_mul]
  omega
theorem tup_and (rs : List Tm) : PyData.tuple [.str "and", .tuple (rs.map Tm.d)] = (Tm.and rs).d := by rw [← Tm.dL_map]; rfl
theorem cut_drop0 {ds : List D} {k : Nat} (h : k ≤ ds.length) : Pl.cutD ds (some (k : Int)) none = ds.drop k := by
  unfold Pl.cutD
  have h1 : HT.sIx ds.length 0 (some (k : Int)) = k := by
    simp only [HT.sIx]
    rw [if_neg (by omega)]
    omega
  have h2 : HT.sIx ds.length ds.length none = ds.length := rfl
  rw [h1, h2]
  exact List.take_of_length_le (by rw [List.length_drop]; omega)
theorem cutd_take {us : List Tm} {k : Nat} (h : k ≤ us.length) : Pl.cutD (us.map Tm.d) none (some (k : Int)) = (us.take k).map Tm.d := by
  rw [cut_take (by rw [List.length_map]; exact h), List.map_take]
theorem cutd_drop {us : List Tm} {k : Nat} (h : k ≤ us.length) : Pl.cutD (us.map Tm.d) (some (k : Int)) none = (us.drop k).map Tm.d := by
  rw [cut_drop0 (by rw [List.length_map]; exact h), List.map_drop]
/-- what alike makes of an and or a some -/
theorem fin_and {t : Tm} {n H X : Nat} {P : Tm → Prop} (hH : t.ht = H + 1) (hn : t.cnt = n + 1) (hX : X = n * (3 + 2 * H)) (hP : ∀ u : Tm, u.good → Eqt t u → u.ht ≤ 2 * t.ht → u.cnt ≤ t.cnt * (3 + 2 * t.ht) → P u)
    (qs : List Tm) (h1 : ∀ q ∈ qs, q.good ∧ q.ht ≤ 2 * H + 1 ∧ Le t q) (h2 : Le (.and qs) t) (h3 : Tm.cntL qs ≤ X + n + 4) : P (.and qs) := by
  refine hP _ (Tm.goodL_iff.mpr fun q hq => (h1 q hq).1) ⟨le_and.mpr fun q hq => (h1 q hq).2.2, h2⟩ ?_ ?_
  · rw [hH]
    have := htL_mem (us := qs) (n := 2 * H + 1) fun q hq => (h1 q hq).2.1
    show Tm.htL qs + 1 ≤ _
    omega
  · rw [hH, hn, bnd, ← hX]
    show Tm.cntL qs + 1 ≤ _
    omega
theorem ok_lalike (c : Al K mg base ds fr ts cs) (H0 n0 : Nat) (h__law_take : Ok P w K mg base 1 "_law_take" ["box", "many"] (spOf K T F_take)) (h__law_weak : Ok P w K mg base n0 "_law_weak" ["box", "term"] (spOf K T (F_weak H0))) :
    ∀ h : Nat, h ≤ H0 → Ok P w K mg base (n0 + h + 2) "_law_alike" ["box", "term"] (spOf K T (F_alike h))
  | 0, _ => by
    have nd := sc__law_alike.nd
    have kTOP := c.cs _ (.head _)
    have kBOTTOM := c.cs _ (.tail _ (.head _))
    have kRESERVED := c.cs _ (.tail _ (.tail _ (.tail _ (.tail _ (.tail _ (.head _))))))
    refine ok_of c (.tail _ (.tail _ (.tail _ (.tail _ (.tail _ (.tail _ (.tail _ (.tail _ (.tail _ (.tail _ (.tail _ (.tail _ (.tail _ (.tail _ (.tail _ (.tail _ (.tail _ (.tail _ (.tail _ (.tail _ (.tail _ (.tail _ (.tail _ (.tail _ (.tail _ (.tail _ (.tail _ (.tail _ (.tail _ (.tail _ (.tail _ (.tail _ (.tail _ (.tail _ (.tail _ (.tail _ (.tail _ (.head _)))))))))))))))))))))))))))))))))))))) (fun _ _ _ _ _ _ us hl => match us, hl with | [_, _], _ => rfl) sc__law_alike (fun as Q h => by first | (obtain ⟨_, rfl, _⟩ := h; rfl) | (obtain ⟨_, _, rfl, _⟩ := h; rfl) | (obtain ⟨_, _, _, rfl, _⟩ := h; rfl) | (obtain ⟨_, _, _, _, rfl, _⟩ := h; rfl) | (obtain ⟨_, _, _, _, _, rfl, _⟩ := h; rfl) | (obtain ⟨_, _, _, _, _, _, rfl, _⟩ := h; rfl) | (obtain ⟨_, _, _, _, _, _, _, rfl, _⟩ := h; rfl) | (obtain ⟨_, _, _, _, _, _, _, _, rfl, _⟩ := h; rfl) | (obtain ⟨_, _, _, _, _, _, _, _, _, rfl, _⟩ := h; rfl) | (obtain ⟨rfl, _⟩ := h; rfl)) fun f cdv A outer s H E hr as Q qs hF hq => ?_
    obtain ⟨x, y, z, t, rfl, b, _⟩ := hF
    exact b.no.elim
  | h + 1, hh => by
    have h__law_alike := ok_lalike c H0 n0 h__law_take h__law_weak h (by omega)
    have nd := sc__law_alike.nd
    have kTOP := c.cs _ (.head _)
    have kBOTTOM := c.cs _ (.tail _ (.head _))
    have kRESERVED := c.cs _ (.tail _ (.tail _ (.tail _ (.tail _ (.tail _ (.head _))))))
    refine ok_of c (.tail _ (.tail _ (.tail _ (.tail _ (.tail _ (.tail _ (.tail _ (.tail _ (.tail _ (.tail _ (.tail _ (.tail _ (.tail _ (.tail _ (.tail _ (.tail _ (.tail _ (.tail _ (.tail _ (.tail _ (.tail _ (.tail _ (.tail _ (.tail _ (.tail _ (.tail _ (.tail _ (.tail _ (.tail _ (.tail _ (.tail _ (.tail _ (.tail _ (.tail _ (.tail _ (.tail _ (.tail _ (.head _)))))))))))))))))))))))))))))))))))))) (fun _ _ _ _ _ _ us hl => match us, hl with | [_, _], _ => rfl) sc__law_alike (fun as Q h => by first | (obtain ⟨_, rfl, _⟩ := h; rfl) | (obtain ⟨_, _, rfl, _⟩ := h; rfl) | (obtain ⟨_, _, _, rfl, _⟩ := h; rfl) | (obtain ⟨_, _, _, _, rfl, _⟩ := h; rfl) | (obtain ⟨_, _, _, _, _, rfl, _⟩ := h; rfl) | (obtain ⟨_, _, _, _, _, _, rfl, _⟩ := h; rfl) | (obtain ⟨_, _, _, _, _, _, _, rfl, _⟩ := h; rfl) | (obtain ⟨_, _, _, _, _, _, _, _, rfl, _⟩ := h; rfl) | (obtain ⟨_, _, _, _, _, _, _, _, _, rfl, _⟩ := h; rfl) | (obtain ⟨rfl, _⟩ := h; rfl)) fun f cdv A outer s H E hr as Q qs hF hq => ?_
    obtain ⟨x, y, z, t, rfl, b, hQ⟩ := hF
    obtain ⟨p, rfl⟩ := List.length_eq_one_iff.mp hq
    refine ⟨_, (pss_cons (ps_set (i := 2) nd rfl (Or.inl rfl) (pe_f h__law_take (hr.mono (by omega)) rfl (pa_cons (pv 0) (pa_cons pe_int pa_nil))))
    (pss_cons (ps_set (i := 3) nd rfl (Or.inl rfl) (pv 1))
    (pss_cons (ps_if (pt_cmpR op_eq (pe_ix (r := rIxT K) ix_tup (pv 1) pe_int (fun _ _ => rfl)) pe_str (nomark _)) (pss_cons (ps_set (i := 3) nd rfl (Or.inl rfl) (pe_tup (pa_cons pe_str (pa_cons (pe_ix (r := rIxT K) ix_tup (pv 1) pe_int (fun _ _ => rfl)) (pa_cons (pe_f h__law_alike (hr.mono (by omega)) rfl (pa_cons (pv 0) (pa_cons (pe_ix (r := rIxT K) ix_tup (pv 1) pe_int (fun _ _ => rfl)) pa_nil))) pa_nil)))))
    (pss_cons (ps_if (pt_cmpR op_eq (pv 2) pe_int (nomark _)) (pss_one (ps_set (i := 3) nd rfl (Or.inl rfl) (pe_tup (pa_cons pe_str (pa_cons (pe_tup (pa_cons (pv 3) (pa_cons (pe_tup (pa_cons pe_str (pa_cons (pe_ix (r := rIxT K) ix_tup (pv 1) pe_int (fun _ _ => rfl)) (pa_cons (pe_f h__law_weak (hr.mono (by omega)) rfl (pa_cons (pv 0) (pa_cons (pe_ix (r := rIxT K) ix_tup (pv 1) pe_int (fun _ _ => rfl)) pa_nil))) pa_nil)))) pa_nil))) pa_nil))))) pss_nil)
    (pss_one (ps_if (pt_cmpR op_eq (pv 2) pe_int (nomark _)) (pss_one (ps_set (i := 3) nd rfl (Or.inl rfl) (pe_tup (pa_cons pe_str (pa_cons (pe_tup (pa_cons (pe_tup (pa_cons pe_str (pa_cons (pe_ix (r := rIxT K) ix_tup (pv 1) pe_int (fun _ _ => rfl)) (pa_cons (pe_f h__law_weak (hr.mono (by omega)) rfl (pa_cons (pv 0) (pa_cons (pe_ix (r := rIxT K) ix_tup (pv 1) pe_int (fun _ _ => rfl)) pa_nil))) pa_nil)))) (pa_cons (pv 3) pa_nil))) pa_nil))))) pss_nil)))) pss_nil)
    (pss_cons (ps_if (pt_cmpR op_eq (pe_ix (r := rIxT K) ix_tup (pv 1) pe_int (fun _ _ => rfl)) pe_str (nomark _)) (pss_cons (ps_setLc (i := 4) (own := [("part", 6)]) (g := gName 6) (tt := tYes) rfl nd rfl rfl (sw_true rfl rfl rfl (by decide +kernel)) (pi_tupK (K0 := K) (pe_ix (r := rIxT K) ix_tup (pv 1) pe_int (fun _ _ => rfl))) (blkOk_by (N := ["box", "term", "kind", "turned", "parts", "at", "part"]) (sc := defScope (top 48)) (by first | decide +kernel | rfl)) (fun _ _ _ _ _ => pg_name (i := 6) nd rfl (by first | exact Or.inl rfl | exact Or.inr rfl)) (fun _ _ _ _ _ => pts_nil) (fun _ _ _ _ _ => (pe_f h__law_alike (hr.mono (by omega)) rfl (pa_cons (pv 0) (pa_cons (pv 6) pa_nil)))))
    (pss_cons (ps_set (i := 5) nd rfl (Or.inl rfl) (pe_f h__law_take (hr.mono (by omega)) rfl (pa_cons (pv 0) (pa_cons (pe_op op_add (pe_callB (r := Pl.rLen K) call_len rfl (c.fr _ (.tail _ (.tail _ (.tail _ (.head _))))) PySem.boot_len (pa_cons (pv 4) pa_nil)) pe_int) pa_nil))))
    (pss_cons (ps_if (pt_cmpR op_eq (pv 2) pe_int (nomark _)) (pss_one (ps_set (i := 4) nd rfl (Or.inl rfl) (pe_listRev (K0 := K) rfl rfl (c.fr _ (.tail _ (.tail _ (.tail _ (.tail _ (.tail _ (.head _))))))) rfl (c.fr _ (.tail _ (.tail _ (.tail _ (.tail _ (.tail _ (.tail _ (.tail _ (.tail _ (.tail _ (.tail _ (.tail _ (.head _))))))))))))) (pv 4)))) pss_nil)
    (pss_cons (ps_if (pt_cmpR op_eq (pv 2) pe_int (nomark _)) (pss_one (ps_set (i := 4) nd rfl (Or.inl rfl) (pe_op (r := rCatS K) op_catS (pe_slice (r := rSlL K) sl_list (pv 4) (po_some (pv 5)) po_none) (pe_slice (r := rSlL K) sl_list (pv 4) po_none (po_some (pv 5)))))) pss_nil)
    (pss_cons (ps_if (pt_cmpR op_eq (pv 2) pe_int (nomark _)) (pss_one (ps_set (i := 4) nd rfl (Or.inl rfl) (pe_lst (pa_cons (pe_tup (pa_cons pe_str (pa_cons (pe_callTy (r := rTupOf K) call_tuple_of rfl (c.fr _ (.tail _ (.tail _ (.tail _ (.tail _ (.head _)))))) PyProof.Rows.boot_tuple (pa_cons (pe_slice (r := rSlL K) sl_list (pv 4) po_none (po_some (pv 5))) pa_nil)) pa_nil))) (pa_cons (pe_tup (pa_cons pe_str (pa_cons (pe_callTy (r := rTupOf K) call_tuple_of rfl (c.fr _ (.tail _ (.tail _ (.tail _ (.tail _ (.head _)))))) PyProof.Rows.boot_tuple (pa_cons (pe_slice (r := rSlL K) sl_list (pv 4) (po_some (pv 5)) po_none) pa_nil)) pa_nil))) pa_nil))))) pss_nil)
    (pss_cons (ps_if (pt_cmpR op_eq (pv 2) pe_int (nomark _)) (pss_one (ps_set (i := 4) nd rfl (Or.inl rfl) (pe_op (r := rCatS K) op_catS (pe_op (r := rCatS K) op_catS (pe_slice (r := rSlL K) sl_list (pv 4) po_none (po_some (pv 5))) (pe_lst (pa_cons (pe_tup (pa_cons pe_str pa_nil)) pa_nil))) (pe_slice (r := rSlL K) sl_list (pv 4) (po_some (pv 5)) po_none)))) pss_nil)
    (pss_cons (ps_if (PW.pt (pw_and (pt_cmpR op_eq (pv 2) pe_int (nomark _)) (pw_and1 (pt_cmpR op_gt (pe_callB (r := Pl.rLen K) call_len rfl (c.fr _ (.tail _ (.tail _ (.tail _ (.head _))))) PySem.boot_len (pa_cons (pv 4) pa_nil)) pe_int (nomark _))))) (pss_one (ps_set (i := 4) nd rfl (Or.inl rfl) (pe_op (r := rCatS K) op_catS (pe_op (r := rCatS K) op_catS (pe_slice (r := rSlL K) sl_list (pv 4) po_none (po_some (pv 5))) (pe_lst (pa_cons (pe_ix (r := rIxT K) ix_tup (pe_ix (r := rIxT K) ix_tup (pv 1) pe_int (fun _ _ => rfl)) (pe_f h__law_take (hr.mono (by omega)) rfl (pa_cons (pv 0) (pa_cons (pe_callB (r := Pl.rLen K) call_len rfl (c.fr _ (.tail _ (.tail _ (.tail _ (.head _))))) PySem.boot_len (pa_cons (pv 4) pa_nil)) pa_nil))) (fun _ _ => rfl)) pa_nil))) (pe_slice (r := rSlL K) sl_list (pv 4) (po_some (pv 5)) po_none)))) pss_nil)
    (pss_one (ps_set (i := 3) nd rfl (Or.inl rfl) (pe_tup (pa_cons pe_str (pa_cons (pe_callTy (r := rTupOf K) call_tuple_of rfl (c.fr _ (.tail _ (.tail _ (.tail _ (.tail _ (.head _)))))) PyProof.Rows.boot_tuple (pa_cons (pv 4) pa_nil)) pa_nil)))))))))))) pss_nil)
    (pss_cons (ps_if (pt_cmpR op_eq (pv 2) pe_int (nomark _)) (pss_one (ps_ret (pe_tup (pa_cons pe_str (pa_cons (pe_tup (pa_cons (pv 3) pa_nil)) pa_nil))))) pss_nil)
    (pss_cons (ps_if (pt_cmpR op_eq (pv 2) pe_int (nomark _)) (pss_one (ps_ret (pe_tup (pa_cons pe_str (pa_cons (pe_tup (pa_cons (pv 3) (pa_cons (pv 1) pa_nil))) pa_nil))))) pss_nil)
    (pss_one (ps_ret (pv 3))))))))), ?_⟩
    show Ss K T _ [.own p _, .val _, .no, .no, .no, .no, .no] _
    k_search "go"
    k_search "take"
    rename_i kd x y z h1 h2
    have k8 : kd = 0 ∨ kd = 1 ∨ kd = 2 ∨ kd = 3 ∨ kd = 4 ∨ kd = 5 ∨ kd = 6 ∨ kd = 7 := by omega
    clear h1 h2
    cases t with
    | top => 
      k_search "go"
      refine iteD (fun e => ?_) fun _ => ?_
      · k_search "go"
        exact ⟨_, _, ⟨rfl, _, rfl, rfl⟩, rfl, hQ (.and [_]) _ _ _ ⟨b.good, trivial⟩ ⟨le_and.mpr (by intro q hq; rw [List.mem_singleton.mp hq]; exact le_refl _), and_le (by simp)⟩ (Nat.le_of_ble_eq_true rfl) (Nat.le_of_ble_eq_true rfl)⟩
      k_search "go"
      refine iteD (fun e => ?_) fun _ => ?_
      · k_search "go"
        exact ⟨_, _, ⟨rfl, _, rfl, rfl⟩, rfl, hQ (.and [_, _]) _ _ _ ⟨b.good, b.good, trivial⟩ ⟨le_and.mpr (by intro q hq; simp only [List.mem_cons, List.not_mem_nil, or_false, or_self] at hq; rw [hq]; exact le_refl _), and_le (by simp)⟩ (Nat.le_of_ble_eq_true rfl) (Nat.le_of_ble_eq_true rfl)⟩
      k_search "go"
      exact ⟨_, _, ⟨rfl, _, rfl, rfl⟩, rfl, hQ _ _ _ _ b.good (Eqt.refl _) (Nat.le_of_ble_eq_true rfl) (Nat.le_of_ble_eq_true rfl)⟩
    | bot => 
      k_search "go"
      refine iteD (fun e => ?_) fun _ => ?_
      · k_search "go"
        exact ⟨_, _, ⟨rfl, _, rfl, rfl⟩, rfl, hQ (.and [_]) _ _ _ ⟨b.good, trivial⟩ ⟨le_and.mpr (by intro q hq; rw [List.mem_singleton.mp hq]; exact le_refl _), and_le (by simp)⟩ (Nat.le_of_ble_eq_true rfl) (Nat.le_of_ble_eq_true rfl)⟩
      k_search "go"
      refine iteD (fun e => ?_) fun _ => ?_
      · k_search "go"
        exact ⟨_, _, ⟨rfl, _, rfl, rfl⟩, rfl, hQ (.and [_, _]) _ _ _ ⟨b.good, b.good, trivial⟩ ⟨le_and.mpr (by intro q hq; simp only [List.mem_cons, List.not_mem_nil, or_false, or_self] at hq; rw [hq]; exact le_refl _), and_le (by simp)⟩ (Nat.le_of_ble_eq_true rfl) (Nat.le_of_ble_eq_true rfl)⟩
      k_search "go"
      exact ⟨_, _, ⟨rfl, _, rfl, rfl⟩, rfl, hQ _ _ _ _ b.good (Eqt.refl _) (Nat.le_of_ble_eq_true rfl) (Nat.le_of_ble_eq_true rfl)⟩
    | name v => 
      k_search "go"
      refine iteD (fun e => ?_) fun _ => ?_
      · k_search "go"
        exact ⟨_, _, ⟨rfl, _, rfl, rfl⟩, rfl, hQ (.and [_]) _ _ _ ⟨b.good, trivial⟩ ⟨le_and.mpr (by intro q hq; rw [List.mem_singleton.mp hq]; exact le_refl _), and_le (by simp)⟩ (Nat.le_of_ble_eq_true rfl) (Nat.le_of_ble_eq_true rfl)⟩
      k_search "go"
      refine iteD (fun e => ?_) fun _ => ?_
      · k_search "go"
        exact ⟨_, _, ⟨rfl, _, rfl, rfl⟩, rfl, hQ (.and [_, _]) _ _ _ ⟨b.good, b.good, trivial⟩ ⟨le_and.mpr (by intro q hq; simp only [List.mem_cons, List.not_mem_nil, or_false, or_self] at hq; rw [hq]; exact le_refl _), and_le (by simp)⟩ (Nat.le_of_ble_eq_true rfl) (Nat.le_of_ble_eq_true rfl)⟩
      k_search "go"
      exact ⟨_, _, ⟨rfl, _, rfl, rfl⟩, rfl, hQ _ _ _ _ b.good (Eqt.refl _) (Nat.le_of_ble_eq_true rfl) (Nat.le_of_ble_eq_true rfl)⟩
    | some r v =>
      have key := fin_and (t := .some r v) (n := v.cnt) (H := v.ht) rfl rfl rfl (P := fun u => ∀ x y z : Int, Q (.val u.d) [bx x y z]) (fun u q1 q2 q3 q4 x y z => hQ u x y z q1 q2 q3 q4)
      have bb := bnd v.cnt v.ht
      have et : (Tm.some r v).cnt * (3 + 2 * (Tm.some r v).ht) = (v.cnt + 1) * (3 + 2 * (v.ht + 1)) := rfl
      k_search "go"
      refine cx [.own _, .val _] [0] ⟨rfl, ⟨_, rfl⟩, rfl, trivial⟩ (by decide) ⟨_, _, _, v, rfl, b.some, fun a x y z g1 eq1 ht1 ct1 => ⟨rim1 (Tm.imm_d _) rfl, ?_⟩⟩
      k_search "nrm"
      have ga : (Tm.some r a).good ∧ (Tm.some r a).ht ≤ 2 * v.ht + 1 ∧ Le (.some r v) (.some r a) := ⟨⟨b.W, g1⟩, (by show a.ht + 1 ≤ _; omega), some_le.mpr eq1.1⟩
      have la : Le (.some r a) (.some r v) := some_le.mpr eq1.2
      k_search "go"
      refine iteD (fun e => ?_) fun e1 => ?_
      · subst e
        k_search "go"
        refine cx [.own _, .val _] [0] ⟨rfl, ⟨_, rfl⟩, rfl, trivial⟩ (by decide) ⟨_, _, _, v, rfl, b.some.mono (by omega), fun w2 x y z g2 le2 ht2 ct2 => ⟨rim1 (Tm.imm_d _) rfl, ?_⟩⟩
        k_search "nrm"
        k_search "go"
        exact ⟨_, _, ⟨rfl, _, rfl, rfl⟩, rfl, key [.some r a, .some r w2] (by
          intro q hq
          simp only [List.mem_cons, List.not_mem_nil, or_false] at hq
          rcases hq with rfl | rfl
          · exact ga
          · exact ⟨⟨b.W, g2⟩, (by show w2.ht + 1 ≤ _; omega), some_le.mpr le2⟩) (le_trans (and_le (t := .some r a) (by simp)) la) (by show a.cnt + 1 + (w2.cnt + 1 + 0) ≤ _; omega) _ _ _⟩
      k_search "go"
      refine iteD (fun e => ?_) fun e1 => ?_
      · subst e
        k_search "go"
        refine cx [.own _, .val _] [0] ⟨rfl, ⟨_, rfl⟩, rfl, trivial⟩ (by decide) ⟨_, _, _, v, rfl, b.some.mono (by omega), fun w2 x y z g2 le2 ht2 ct2 => ⟨rim1 (Tm.imm_d _) rfl, ?_⟩⟩
        k_search "nrm"
        k_search "go"
        exact ⟨_, _, ⟨rfl, _, rfl, rfl⟩, rfl, key [.some r w2, .some r a] (by
          intro q hq
          simp only [List.mem_cons, List.not_mem_nil, or_false] at hq
          rcases hq with rfl | rfl
          · exact ⟨⟨b.W, g2⟩, (by show w2.ht + 1 ≤ _; omega), some_le.mpr le2⟩
          · exact ga) (le_trans (and_le (t := .some r a) (by simp)) la) (by show w2.cnt + 1 + (a.cnt + 1 + 0) ≤ _; omega) _ _ _⟩
      k_search "go"
      refine iteD (fun e => ?_) fun _ => ?_
      · k_search "go"
        exact ⟨_, _, ⟨rfl, _, rfl, rfl⟩, rfl, key [.some r a] (by intro q hq; rw [List.mem_singleton.mp hq]; exact ga) (le_trans (and_le (by simp)) la) (by show a.cnt + 1 + 0 ≤ _; omega) _ _ _⟩
      k_search "go"
      refine iteD (fun e => ?_) fun _ => ?_
      · k_search "go"
        exact ⟨_, _, ⟨rfl, _, rfl, rfl⟩, rfl, key [.some r a, .some r v] (by
          intro q hq
          simp only [List.mem_cons, List.not_mem_nil, or_false] at hq
          rcases hq with rfl | rfl
          · exact ga
          · exact ⟨b.good, (by show v.ht + 1 ≤ _; omega), le_refl _⟩) (and_le (by simp)) (by show a.cnt + 1 + (v.cnt + 1 + 0) ≤ _; omega) _ _ _⟩
      k_search "go"
      exact ⟨_, _, ⟨rfl, _, rfl, rfl⟩, rfl, hQ (.some r a) _ _ _ ga.1 ⟨ga.2.2, la⟩ (by have e : (Tm.some r v).ht = v.ht + 1 := rfl; have := ga.2.1; omega) (by rw [et, bb]; show a.cnt + 1 ≤ _; omega)⟩
    | and us =>
      have bl := b.len
      have key := fin_and (t := .and us) (n := Tm.cntL us) (H := Tm.htL us) rfl rfl rfl (P := fun u => ∀ x y z : Int, Q (.val u.d) [bx x y z]) (fun u q1 q2 q3 q4 x y z => hQ u x y z q1 q2 q3 q4)
      k_search "go"
      refine ex_lcTW ?_
      k_search "go"
      refine ⟨fun k δ acc => ∃ (x y z : Int) (ps : List Tm), ps.length = k ∧ acc = ps.map Tm.d ∧ Tm.goodL ps ∧ (∀ q ∈ ps, ∃ u ∈ us, Eqt u q) ∧ (∀ u ∈ us.take k, ∃ q ∈ ps, Eqt u q) ∧ (∀ q ∈ ps, q.ht ≤ 2 * Tm.htL us) ∧ Tm.cntL ps ≤ Tm.cntL (us.take k) * (3 + 2 * Tm.htL us) ∧
        δ = [.own p (bx x y z), .val (Tm.and us).d, .val (.int kd), .val (Tm.and us).d, .no, .no, .no], ⟨_, _, _, [], rfl, rfl, trivial, (fun q hq => by cases hq), (fun q hq => by cases hq), (fun q hq => by cases hq), (Nat.zero_le _), rfl⟩, ?_, ?_⟩
      · rintro k d δ2 acc hk _ ⟨x, y, z, ps, hl, rfl, g, up, dn, hh, hc, rfl⟩
        rw [Tm.dL_map] at hk
        obtain ⟨u, hu, rfl⟩ := map_at hk
        have m := List.mem_of_getElem? hu
        have hk2 : k < us.length := (List.getElem?_eq_some_iff.mp hu).1
        refine turnW_yes ?_
        k_search "nrm"
        k_search "go"
        refine cx [.own _, .val _] [0] ⟨rfl, ⟨_, rfl⟩, rfl, trivial⟩ (by decide) ⟨_, _, _, u, rfl, b.and m, fun a x y z g1 eq1 ht1 ct1 => ⟨rim1 (Tm.imm_d _) rfl, ?_⟩⟩
        k_search "nrm"
        refine ⟨_, [.own p (bx x y z), .val (Tm.and us).d, .val (.int kd), .val (Tm.and us).d, .no, .no, .no], rfl, rfl, rfl, by rw [List.length_map]; omega, x, y, z, ps ++ [a], ?_, ?_, goodL_snoc ps a g g1, ?_, ?_, ?_, ?_, rfl⟩
        · rw [List.length_append, hl]; rfl
        · rw [List.map_append]; rfl
        · intro q hq
          rcases List.mem_append.mp hq with hq | hq
          · exact up q hq
          · rw [List.mem_singleton.mp hq]; exact ⟨u, m, eq1⟩
        · intro v hv
          rw [List.take_add_one, hu] at hv
          rcases List.mem_append.mp hv with hv | hv
          · obtain ⟨q, h3, h4⟩ := dn v hv
            exact ⟨q, List.mem_append_left _ h3, h4⟩
          · rw [List.mem_singleton.mp (show v ∈ [u] from hv)]
            exact ⟨a, List.mem_append_right _ (List.mem_singleton.mpr rfl), eq1⟩
        · intro q hq
          rcases List.mem_append.mp hq with hq | hq
          · exact hh q hq
          · rw [List.mem_singleton.mp hq]
            have := Tm.htL_le m
            omega
        · rw [cntL_snoc, cntL_take hu, Nat.add_mul]
          have q1 : u.cnt * (3 + 2 * u.ht) ≤ u.cnt * (3 + 2 * Tm.htL us) := Nat.mul_le_mul_left _ (by have := Tm.htL_le m; omega)
          omega
      · rintro δ2 acc ⟨x, y, z, ps, hl, rfl, g, up, dn, hh, hc, rfl⟩
        rw [Tm.dL_map, List.length_map] at hl
        rw [Tm.dL_map, List.length_map, List.take_length] at dn hc
        have B1 : ∀ q ∈ ps, q.good ∧ q.ht ≤ 2 * Tm.htL us + 1 ∧ Le (.and us) q := fun q hq => by
          obtain ⟨u, h3, h4⟩ := up q hq
          exact ⟨Tm.goodL_iff.mp g q hq, by have := hh q hq; omega, le_trans (and_le h3) h4.1⟩
        have L1 : ∀ qs : List Tm, (∀ q ∈ ps, Le (.and qs) q) → Le (.and qs) (.and us) := fun qs h => le_and.mpr fun u hu => by
          obtain ⟨q, h3, h4⟩ := dn u hu
          exact le_trans (h q h3) h4.2
        have g1 : ((ps.map Tm.d).length : Int) + 1 ≤ 1000 := by rw [List.length_map]; omega
        have g0 : (1 : Int) ≤ ((ps.map Tm.d).length : Int) + 1 := by omega
        k_search "go"
        k_search "take"
        rename_i n x y z h3 h4
        obtain ⟨a, rfl⟩ : ∃ k : Nat, n = k := ⟨n.toNat, by omega⟩
        have ha : a ≤ ps.length := by rw [List.length_map] at h4; omega
        have lt := List.length_take_le a ps
        have ld : (ps.drop a).length ≤ ps.length := by rw [List.length_drop]; omega
        have ctd : Tm.cntL (ps.take a) + Tm.cntL (ps.drop a) = Tm.cntL ps := by rw [← Pl.cntL_app, List.take_append_drop]
        have mtd : ∀ q, q ∈ ps ↔ q ∈ ps.take a ∨ q ∈ ps.drop a := fun q => by
          conv => lhs; rw [← List.take_append_drop a ps]
          exact List.mem_append
        have ins : ∀ u : Tm, (u.good ∧ u.ht ≤ 2 * Tm.htL us + 1 ∧ Le (.and us) u) → ∀ q ∈ ps.take a ++ [u] ++ ps.drop a, q.good ∧ q.ht ≤ 2 * Tm.htL us + 1 ∧ Le (.and us) q := fun u hu q hq => by
          rcases List.mem_append.mp hq with hq | hq
          · rcases List.mem_append.mp hq with hq | hq
            · exact B1 q ((mtd q).mpr (.inl hq))
            · rw [List.mem_singleton.mp hq]; exact hu
          · exact B1 q ((mtd q).mpr (.inr hq))
        have insl : ∀ (u : Tm) {q : Tm}, q ∈ ps → Le (.and (ps.take a ++ [u] ++ ps.drop a)) q := fun u q hq => and_le (by
          rcases (mtd q).mp hq with h | h
          · exact List.mem_append_left _ (List.mem_append_left _ h)
          · exact List.mem_append_right _ h)
        have plain := key ps B1 (L1 ps fun q hq => and_le hq) (by omega)
        k_search "go"
        refine iteD (fun e => ?_) fun _ => ?_
        · subst e
          k_search "go"
          refine ex_listRev (ex_bor rfl ⟨_, ⟨_, _, rfl, rfl⟩, tm_imm, ?_⟩)
          rw [← List.map_reverse]
          k_search "go"
          refine cb_tupL tm_imm ?_
          k_search "go"
          refine ⟨_, _, ⟨rfl, _, rfl, rfl⟩, rfl, ?_⟩
          rw [tup_and]
          exact key ps.reverse (fun q hq => B1 q (List.mem_reverse.mp hq)) (L1 _ fun q hq => and_le (List.mem_reverse.mpr hq)) (by rw [cntL_perm (List.reverse_perm ps)]; omega) _ _ _
        k_search "go"
        refine iteD (fun e => ?_) fun _ => ?_
        · subst e
          k_search "go"
          rw [cutd_drop ha]
          refine ⟨tm_imm, ?_⟩
          k_search "go"
          rw [cutd_take ha]
          refine ⟨tm_imm, ?_⟩
          k_search "go"
          refine opd_catL tm_imm tm_imm (by rw [List.length_map, List.length_map]; omega) ?_
          rw [← List.map_append]
          k_search "go"
          refine cb_tupL tm_imm ?_
          k_search "go"
          refine ⟨_, _, ⟨rfl, _, rfl, rfl⟩, rfl, ?_⟩
          rw [tup_and]
          exact key (ps.drop a ++ ps.take a) (fun q hq => B1 q ((mtd q).mpr ((List.mem_append.mp hq).symm))) (L1 _ fun q hq => and_le (List.mem_append.mpr ((mtd q).mp hq).symm)) (by rw [Pl.cntL_app]; omega) _ _ _
        k_search "go"
        refine iteD (fun e => ?_) fun _ => ?_
        · subst e
          k_search "go"
          rw [cutd_take ha]
          refine ⟨tm_imm, ?_⟩
          k_search "go"
          refine cb_tupL tm_imm ?_
          k_search "go"
          rw [cutd_drop ha]
          refine ⟨tm_imm, ?_⟩
          k_search "go"
          refine cb_tupL tm_imm ?_
          k_search "go"
          refine cb_tupL (by rw [tup_and, tup_and]; exact tm_imm (us := [.and (ps.take a), .and (ps.drop a)])) ?_
          k_search "go"
          refine ⟨_, _, ⟨rfl, _, rfl, rfl⟩, rfl, ?_⟩
          rw [tup_and, tup_and]
          exact key [.and (ps.take a), .and (ps.drop a)] (fun q hq => by
            simp only [List.mem_cons, List.not_mem_nil, or_false] at hq
            rcases hq with rfl | rfl
            · exact ⟨Tm.goodL_iff.mpr fun q hq => (B1 q ((mtd q).mpr (.inl hq))).1, (by show Tm.htL _ + 1 ≤ _; have := htL_mem (us := ps.take a) (n := 2 * Tm.htL us) fun q hq => hh q ((mtd q).mpr (.inl hq)); omega), le_and.mpr fun q hq => (B1 q ((mtd q).mpr (.inl hq))).2.2⟩
            · exact ⟨Tm.goodL_iff.mpr fun q hq => (B1 q ((mtd q).mpr (.inr hq))).1, (by show Tm.htL _ + 1 ≤ _; have := htL_mem (us := ps.drop a) (n := 2 * Tm.htL us) fun q hq => hh q ((mtd q).mpr (.inr hq)); omega), le_and.mpr fun q hq => (B1 q ((mtd q).mpr (.inr hq))).2.2⟩) (L1 _ fun q hq => by
              rcases (mtd q).mp hq with h | h
              · exact le_trans (and_le (t := .and (ps.take a)) (by simp)) (and_le h)
              · exact le_trans (and_le (t := .and (ps.drop a)) (by simp)) (and_le h)) (by show Tm.cntL (ps.take a) + 1 + (Tm.cntL (ps.drop a) + 1 + 0) ≤ _; omega) _ _ _
        k_search "go"
        refine iteD (fun e => ?_) fun _ => ?_
        · subst e
          k_search "go"
          rw [cutd_take ha]
          refine ⟨tm_imm, ?_⟩
          k_search "go"
          refine opd_catL tm_imm (by rfl) (by rw [List.length_map]; show _ + 1 ≤ _; omega) ?_
          k_search "go"
          rw [cutd_drop ha]
          refine ⟨tm_imm, ?_⟩
          k_search "go"
          refine opd_catL (imm_app tm_imm (by rfl)) tm_imm (by rw [List.length_append, List.length_map, List.length_map]; show _ + 1 + _ ≤ _; omega) ?_
          have e4 : (ps.take a).map Tm.d ++ [PyData.tuple [.str "top"]] ++ (ps.drop a).map Tm.d = (ps.take a ++ [Tm.top] ++ ps.drop a).map Tm.d := by rw [List.map_append, List.map_append]; rfl
          rw [e4]
          k_search "go"
          refine cb_tupL tm_imm ?_
          k_search "go"
          refine ⟨_, _, ⟨rfl, _, rfl, rfl⟩, rfl, ?_⟩
          rw [tup_and]
          exact key (ps.take a ++ [Tm.top] ++ ps.drop a) (ins .top ⟨trivial, (by show 1 ≤ _; omega), le_top _⟩) (L1 _ fun q hq => insl .top hq) (by rw [Pl.cntL_app, cntL_snoc]; show Tm.cntL (ps.take a) + 1 + Tm.cntL (ps.drop a) ≤ _; omega) _ _ _
        k_search "go"
        refine iteD (fun e => ?_) fun _ => ?_
        · subst e
          k_search "go"
          refine iteD (fun hp => ?_) fun hp => ?_
          · k_search "go"
            rw [cutd_take ha]
            refine ⟨tm_imm, ?_⟩
            have g5 : (1 : Int) ≤ ((ps.map Tm.d).length : Nat) := by omega
            have g6 : ((ps.map Tm.d).length : Int) ≤ 1000 := by omega
            k_search "go"
            k_search "take"
            rename_i j x y z h5 h6
            obtain ⟨jn, u, rfl, hu, hat⟩ := at_tm (us := us) h5 (by rw [List.length_map] at h6 ⊢; omega)
            rw [← Tm.dL_map] at hat
            have mu := List.mem_of_getElem? hu
            k_search "go"
            refine opd_catL tm_imm (tm_imm (us := [u])) (by rw [List.length_map]; show _ + 1 ≤ _; omega) ?_
            k_search "go"
            rw [cutd_drop ha]
            refine ⟨tm_imm, ?_⟩
            k_search "go"
            refine opd_catL (imm_app tm_imm (tm_imm (us := [u]))) tm_imm (by rw [List.length_append, List.length_map, List.length_map]; show _ + 1 + _ ≤ _; omega) ?_
            have e4 : (ps.take a).map Tm.d ++ [u.d] ++ (ps.drop a).map Tm.d = (ps.take a ++ [u] ++ ps.drop a).map Tm.d := by rw [List.map_append, List.map_append]; rfl
            rw [e4]
            k_search "go"
            refine cb_tupL tm_imm ?_
            k_search "go"
            refine ⟨_, _, ⟨rfl, _, rfl, rfl⟩, rfl, ?_⟩
            rw [tup_and]
            have ul := Tm.htL_le mu
            have uc := Tm.cntL_le mu
            exact key (ps.take a ++ [u] ++ ps.drop a) (ins u ⟨Tm.goodL_iff.mp b.good u mu, (by omega), and_le mu⟩) (L1 _ fun q hq => insl u hq) (by rw [Pl.cntL_app, cntL_snoc]; omega) _ _ _
          · k_search "go"
            refine cb_tupL tm_imm ?_
            k_search "go"
            refine ⟨_, _, ⟨rfl, _, rfl, rfl⟩, rfl, ?_⟩
            rw [tup_and]
            exact plain _ _ _
        k_search "go"
        refine cb_tupL tm_imm ?_
        k_search "go"
        refine iteD (fun e => ?_) fun _ => ?_
        · k_search "go"
          refine ⟨_, _, ⟨rfl, _, rfl, rfl⟩, rfl, ?_⟩
          rw [tup_and]
          exact key [.and ps] (fun q hq => by
            rw [List.mem_singleton.mp hq]
            exact ⟨g, (by show Tm.htL ps + 1 ≤ _; have := htL_mem hh; omega), le_and.mpr fun q hq => (B1 q hq).2.2⟩) (L1 _ fun q hq => le_trans (and_le (t := .and ps) (by simp)) (and_le hq)) (by show Tm.cntL ps + 1 + 0 ≤ _; omega) _ _ _
        k_search "go"
        refine iteD (fun e => ?_) fun _ => ?_
        · k_search "go"
          refine ⟨_, _, ⟨rfl, _, rfl, rfl⟩, rfl, ?_⟩
          rw [tup_and]
          exact key [.and ps, .and us] (fun q hq => by
            simp only [List.mem_cons, List.not_mem_nil, or_false] at hq
            rcases hq with rfl | rfl
            · exact ⟨g, (by show Tm.htL ps + 1 ≤ _; have := htL_mem hh; omega), le_and.mpr fun q hq => (B1 q hq).2.2⟩
            · exact ⟨b.good, (by show Tm.htL us + 1 ≤ _; omega), le_refl _⟩) (and_le (by simp)) (by show Tm.cntL ps + 1 + (Tm.cntL us + 1 + 0) ≤ _; omega) _ _ _
        k_search "go"
        refine ⟨_, _, ⟨rfl, _, rfl, rfl⟩, rfl, ?_⟩
        rw [tup_and]
        exact plain _ _ _
set_option Elab.async false
set_option linter.all false
set_option maxRecDepth 100000
set_option maxHeartbeats 4000001
namespace Pl
open PySem L2 LamX NdefX PyProof.Rows GenW Pl
variable {K : PySem.W.Frag} {T : List NTab} {δ : List Sl} {t : TS} {nx bk ct : List Sl → Prop} {rt : R → List Sl → Prop}
/-- over range(a, b) -/
theorem go_forR2 {ta : TA} {i : Nat} (h : ExA K T ta δ fun rs δ1 => ∃ a n : Nat, rs = [.val (.int a), .val (.int ((a + n : Nat) : Int))] ∧ a + n ≤ 1000000 ∧ ∃ W : Nat → List Sl → Prop, W 0 δ1 ∧
      (∀ (k : Nat) δ2, k < n → W k δ2 → Ss K T t (δ2.set i (.val (.int ((a + k : Nat) : Int)))) ⟨W (k + 1), rt, nx, W (k + 1)⟩) ∧ ∀ δ2, W n δ2 → nx δ2) : Ss K T (tFor (iRng2 ta) (gName i) t) δ ⟨nx, rt, bk, ct⟩ := fun B H σ s D kn kr kb kc =>
  h B H σ s _ fun vs H1 rs δ1 B1 R1 ⟨a, n, f, hn, W, w0, hs, hd⟩ => by
    subst f
    have e1 : B1 = B := vals0_bx (ds := [.int a, .int ((a + n : Nat) : Int)]) R1.bx ⟨rfl, rfl, trivial⟩
    subst e1
    have hv : DpAll K (dl H1 (ow δ1 B1)) vs [.int a, .int ((a + n : Nat) : Int)] := vals0_dp (ds := [.int a, .int ((a + n : Nat) : Int)]) R1.vr ⟨rfl, rfl, trivial⟩
    have s1 := R1.s
    have g1 := R1.go
    cases hv with
    | cons hv1 hv2 =>
      cases hv1
      cases hv2 with
      | cons hv3 hv4 =>
        cases hv3
        cases hv4
        have en : (((a + n : Nat) : Int) - (a : Int)).toNat = n := by omega
        refine ⟨a, ((a + n : Nat) : Int), rfl, ⟨by omega, by omega, by omega, by omega⟩, ?_⟩
        rw [en]
        have en2 : n = ((n : Nat) : Int).toNat := by omega
        rw [en2]
        refine for_range (fun k σ2 H2 => ∃ δ2, S K T B1 H2 σ2 δ2 ∧ Go (ow δ B1) (ow δ2 B1) H H2 ∧ W k δ2) ⟨δ1, s1, g1, w0⟩ (fun k σ2 H2 hk ⟨δ2, s2, g2, w2⟩ => ?_) (fun σ2 H2 ⟨δ2, s2, g2, w2⟩ => kn σ2 H2 δ2 s2 g2 (hd δ2 (by rw [Int.toNat_natCast] at w2; exact w2)))
        have ek : (a : Int) + (k : Int) = ((a + k : Nat) : Int) := by omega
        show t _ (σ2.set i (some (.int ((a : Int) + (k : Int))))) H2
        rw [ek]
        exact (hs k δ2 (by omega) w2).after (δ := δ) (H := H) (D := { D with nx := _, ct := _, bk := D.nx }) (s2.setv (Dp.int _)) (g2.trans (Go.set rfl)) (fun σ4 H4 δ4 s4 g4 n => ⟨δ4, s4, g4, n⟩) kr kn (fun σ4 H4 δ4 s4 g4 n => ⟨δ4, s4, g4, n⟩)
end Pl
open PySem L2 LamX NdefX PyProof.Rows GenW Pl
theorem within_ok {t p : Tm} (gt : t.good) (gp : p.good) (e : Eqt p t) (hp : p.ht ≤ 5) (cp : p.cnt ≤ 12) : (within t p).good ∧ Eqt p (within t p) ∧ (within t p).ht ≤ 11 ∧ (within t p).cnt ≤ 37 := by
  unfold within
  split
  · refine ⟨⟨trivial, gp, trivial⟩, ⟨le_and.mpr ?_, and_le (by simp)⟩, ?_, ?_⟩
    · intro q hq
      simp only [List.mem_cons, List.not_mem_nil, or_false] at hq
      rcases hq with rfl | rfl
      · exact le_top _
      · exact le_refl _
    · show max 1 (max p.ht 0) + 1 ≤ 11
      omega
    · show 1 + (p.cnt + 0) + 1 ≤ 37
      omega
  · exact ⟨gt, e, by omega, by omega⟩
theorem cut11_tl (v : Str) : (cutS v none (some 11)).cps.toList = v.cps.toList.take 11 := by
  have e : HT.sIx v.length v.length (some ((11 : Nat) : Int)) = min 11 v.length := HT.sIx_nat _ _ _
  show ((v.cps.toList.drop 0).take (HT.sIx v.length v.length (some ((11 : Nat) : Int)) - 0)) = _
  rw [e, List.drop_zero, Nat.sub_zero, len_tl]
  exact List.take_eq_take_min.symm
theorem res_len : ∀ x ∈ reserved, x.cps.toList.length ≤ 10 ∧ ∀ c ∈ x.cps.toList, c ≠ 48 := by decide +kernel
theorem cut11 {v : Str} (h : W v) : W (cutS v none (some 11)) ∧ (cutS v none (some 11)).length ≤ 11 ∧ W (cutS v none (some 11) ++ "0") := by
  have hl := h.lo
  have hh := h.hi
  rw [len_tl] at hl hh
  have e := cut11_tl v
  have el : (cutS v none (some 11)).cps.toList.length = min 11 v.cps.toList.length := by rw [e, List.length_take]
  obtain ⟨c, hc, hc2⟩ := h.first
  rw [← Array.getElem?_toList] at hc
  have ef : (cutS v none (some 11)).cps.toList[0]? = some c := by rw [e, List.getElem?_take]; simpa using hc
  have ea : ∀ c ∈ (cutS v none (some 11)).cps.toList, c ∈ signs.cps.toList := fun c hc => h.all c (by rw [e] at hc; exact List.mem_of_mem_take hc)
  have z : ("0" : Str).cps.toList = [48] := by decide +kernel
  refine ⟨⟨by rw [len_tl, el]; omega, by rw [len_tl, el]; omega, fun hr => ?_, ⟨c, by rw [← Array.getElem?_toList]; exact ef, hc2⟩, ea⟩, by rw [len_tl, el]; omega, ?_⟩
  · by_cases hlt : v.cps.toList.length ≤ 11
    · have : cutS v none (some 11) = v := by
        rw [str_eq e, List.take_of_length_le hlt]
      rw [this] at hr
      exact h.free hr
    · have := (res_len _ hr).1
      rw [el] at this
      omega
  · refine ⟨by rw [len_tl, tl_app, List.length_append, el]; omega, by rw [len_tl, tl_app, List.length_append, el, z]; show _ + 1 ≤ _; omega, fun hr => ?_, ⟨c, ?_, hc2⟩, fun x hx => ?_⟩
    · refine (res_len _ hr).2 48 ?_ rfl
      rw [tl_app, z]
      exact List.mem_append_right _ (List.mem_singleton.mpr rfl)
    · rw [← Array.getElem?_toList, tl_app, List.getElem?_append_left (by rw [el]; omega)]
      exact ef
    · rw [tl_app, z] at hx
      rcases List.mem_append.mp hx with hx | hx
      · exact ea x hx
      · rw [List.mem_singleton.mp hx]
        decide
set_option Elab.async false
set_option linter.all false
set_option maxRecDepth 100000
set_option maxHeartbeats 4000001
open PySem L2 LamX NdefX PyProof.Rows GenW Pl
variable {P : Program} {w : World} {K : PySem.W.Frag} {mg : Str → Option Value} {base : Heap} {T : List NTab} {ts : List Str}
def F_law : FS := fun as Q => ∃ ns : List Int, as = [.val (.list (ns.map .int))] ∧ ns.length ≤ 63 ∧ Q (.val (.bool true)) []
theorem pick3 {n : Int} (h1 : 0 ≤ n) (h2 : n < 3) : ∃ r : Int, atI [PyData.int 5, PyData.int 8, PyData.int 12] n = some (.int r) ∧ 5 ≤ r ∧ r ≤ 12 := by
  have : n = 0 ∨ n = 1 ∨ n = 2 := by omega
  rcases this with rfl | rfl | rfl
  · exact ⟨5, rfl, by decide, by decide⟩
  · exact ⟨8, rfl, by decide, by decide⟩
  · exact ⟨12, rfl, by decide, by decide⟩
theorem atL {α : Type} {f : α → D} {L : List α} {k : Nat} (h : k < L.length) : ∃ t, L[k]? = some t ∧ t ∈ L ∧ atI (L.map f) k = some (f t) :=
  ⟨L[k], List.getElem?_eq_getElem h, List.getElem_mem h, atI_nat (by rw [List.getElem?_map, List.getElem?_eq_getElem h]; rfl)⟩
theorem ok_law (c : Al K mg base ds fr ts cs) (N n1 n2 n3 n4 n5 n6 n7 n8 n9 n10 n11 n12 n13 n14 : Nat) (hN : n1 ≤ N ∧ n2 ≤ N ∧ n3 ≤ N ∧ n4 ≤ N ∧ n5 ≤ N ∧ n6 ≤ N ∧ n7 ≤ N ∧ n8 ≤ N ∧ n9 ≤ N ∧ n10 ≤ N ∧ n11 ≤ N ∧ n12 ≤ N ∧ n13 ≤ N ∧ n14 ≤ N)
    (h__law_pool : Ok P w K mg base n1 "_law_pool" ["box"] (spOf K T F_pool)) (h__law_open : Ok P w K mg base n2 "_law_open" ["script", "k"] (spOf K T F_open))
    (h__law_root : Ok P w K mg base n3 "_law_root" ["box", "pool", "deep", "room"] (spOf K T (F_root 5))) (h__law_take : Ok P w K mg base n4 "_law_take" ["box", "many"] (spOf K T F_take))
    (h__law_within : Ok P w K mg base n5 "_law_within" ["term", "plain"] (spOf K T (F_within 22))) (h__law_alike : Ok P w K mg base n6 "_law_alike" ["box", "term"] (spOf K T (F_alike 22)))
    (h__law_change : Ok P w K mg base n7 "_law_change" ["box", "pool", "term"] (spOf K T (F_change 22))) (h__law_weak : Ok P w K mg base n8 "_law_weak" ["box", "term"] (spOf K T (F_weak 22)))
    (h_normal : OkF P w K mg base T n9 "normal" ["term"] (F_nf 22)) (h__law_fine : OkF P w K mg base T n10 "_law_fine" ["term", "told"] F_fine)
    (h__law_under : OkF P w K mg base T n11 "_law_under" ["one", "other"] (F_below 22)) (h__law_meet : OkF P w K mg base T n12 "_law_meet" ["one", "other", "due", "told", "second"] F_meet)
    (h__law_within_terms : OkF P w K mg base T n13 "_law_within_terms" ["tie", "one", "other", "more", "due"] F_wt) (h__law_twins : OkF P w K mg base T n14 "_law_twins" ["tie", "one", "other", "more"] F_twins) :
    Ok P w K mg base (N + 1) "law" ["script"] (spOf K T F_law) := by
  have nd := sc_law.nd
  have kTOP := c.cs _ (.head _)
  have kBOTTOM := c.cs _ (.tail _ (.head _))
  have kRESERVED := c.cs _ (.tail _ (.tail _ (.tail _ (.tail _ (.tail _ (.head _))))))
  refine ok_of c (.tail _ (.tail _ (.tail _ (.tail _ (.tail _ (.tail _ (.tail _ (.tail _ (.tail _ (.tail _ (.tail _ (.tail _ (.tail _ (.tail _ (.tail _ (.tail _ (.tail _ (.tail _ (.tail _ (.tail _ (.tail _ (.tail _ (.tail _ (.tail _ (.tail _ (.tail _ (.tail _ (.tail _ (.tail _ (.tail _ (.tail _ (.tail _ (.tail _ (.tail _ (.tail _ (.tail _ (.tail _ (.tail _ (.tail _ (.tail _ (.tail _ (.tail _ (.tail _ (.tail _ (.tail _ (.tail _ (.tail _ (.tail _ (.tail _ (.tail _ (.tail _ (.tail _ (.tail _ (.tail _ (.tail _ (.head _)))))))))))))))))))))))))))))))))))))))))))))))))))))))) (fun _ _ _ _ _ _ us hl => match us, hl with | [_], _ => rfl) sc_law (fun as Q h => by first | (obtain ⟨_, rfl, _⟩ := h; rfl) | (obtain ⟨_, _, rfl, _⟩ := h; rfl) | (obtain ⟨_, _, _, rfl, _⟩ := h; rfl) | (obtain ⟨_, _, _, _, rfl, _⟩ := h; rfl) | (obtain ⟨_, _, _, _, _, rfl, _⟩ := h; rfl) | (obtain ⟨_, _, _, _, _, _, rfl, _⟩ := h; rfl) | (obtain ⟨_, _, _, _, _, _, _, rfl, _⟩ := h; rfl) | (obtain ⟨_, _, _, _, _, _, _, _, rfl, _⟩ := h; rfl) | (obtain ⟨_, _, _, _, _, _, _, _, _, rfl, _⟩ := h; rfl) | (obtain ⟨rfl, _⟩ := h; rfl)) fun f cdv A outer s H E hr as Q qs hF hq => ?_
  obtain ⟨ns, rfl, hns, hQ⟩ := hF
  obtain rfl : qs = [] := List.length_eq_zero_iff.mp hq
  refine ⟨_, (pss_cons (ps_set (i := 1) nd rfl (Or.inl rfl) (pe_f h__law_pool (hr.mono (by omega)) rfl (pa_cons (pe_f h__law_open (hr.mono (by omega)) rfl (pa_cons (pv 0) (pa_cons pe_int pa_nil))) pa_nil)))
    (pss_cons (ps_set (i := 2) nd rfl (Or.inl rfl) (pe_f h__law_open (hr.mono (by omega)) rfl (pa_cons (pv 0) (pa_cons pe_int pa_nil))))
    (pss_cons (ps_set (i := 3) nd rfl (Or.inl rfl) (pe_f h__law_root (hr.mono (by omega)) rfl (pa_cons (pv 2) (pa_cons (pv 1) (pa_cons pe_int (pa_cons (pe_ix (r := rIxL K) ix_list (pe_lst (pa_cons pe_int (pa_cons pe_int (pa_cons pe_int pa_nil)))) (pe_f h__law_take (hr.mono (by omega)) rfl (pa_cons (pv 2) (pa_cons pe_int pa_nil))) (fun _ _ => rfl)) pa_nil))))))
    (pss_cons (ps_set (i := 4) nd rfl (Or.inl rfl) (pe_f h__law_within (hr.mono (by omega)) rfl (pa_cons (pe_f h__law_alike (hr.mono (by omega)) rfl (pa_cons (pe_f h__law_open (hr.mono (by omega)) rfl (pa_cons (pv 0) (pa_cons pe_int pa_nil))) (pa_cons (pv 3) pa_nil))) (pa_cons (pv 3) pa_nil))))
    (pss_cons (ps_set (i := 5) nd rfl (Or.inl rfl) (pe_f h__law_change (hr.mono (by omega)) rfl (pa_cons (pe_f h__law_open (hr.mono (by omega)) rfl (pa_cons (pv 0) (pa_cons pe_int pa_nil))) (pa_cons (pv 1) (pa_cons (pv 4) pa_nil)))))
    (pss_cons (ps_set (i := 6) nd rfl (Or.inl rfl) (pe_f h__law_weak (hr.mono (by omega)) rfl (pa_cons (pe_f h__law_open (hr.mono (by omega)) rfl (pa_cons (pv 0) (pa_cons pe_int pa_nil))) (pa_cons (pv 4) pa_nil))))
    (pss_cons (ps_set (i := 7) nd rfl (Or.inl rfl) (pe_f h__law_root (hr.mono (by omega)) rfl (pa_cons (pe_f h__law_open (hr.mono (by omega)) rfl (pa_cons (pv 0) (pa_cons pe_int pa_nil))) (pa_cons (pv 1) (pa_cons pe_int (pa_cons pe_int pa_nil))))))
    (pss_cons (ps_set (i := 8) nd rfl (Or.inl rfl) (pe_lst (pa_cons (pv 3) (pa_cons (pv 4) (pa_cons (pv 5) (pa_cons (pv 6) (pa_cons (pv 7) (pa_cons (pe_f h__law_change (hr.mono (by omega)) rfl (pa_cons (pe_f h__law_open (hr.mono (by omega)) rfl (pa_cons (pv 0) (pa_cons pe_int pa_nil))) (pa_cons (pv 1) (pa_cons (pv 3) pa_nil)))) pa_nil))))))))
    (pss_cons (ps_setLc (i := 9) (own := [("one", 13)]) (g := gName 13) (tt := tYes) rfl nd rfl rfl (sw_true rfl rfl rfl (by decide +kernel)) (pi_listK (K0 := K) (pv 8)) (blkOk_by (N := ["script", "pool", "box", "plain", "alike", "bent", "weaker", "more", "listed", "told", "k", "tie", "small", "one", "j", "other", "due"]) (sc := defScope (top 66)) (by first | decide +kernel | rfl)) (fun _ _ _ _ _ => pg_name (i := 13) nd rfl (by first | exact Or.inl rfl | exact Or.inr rfl)) (fun _ _ _ _ _ => pts_nil) (fun _ _ _ _ _ => (pe_f h_normal (hr.mono (by omega)) rfl (pa_cons (pv 13) pa_nil))))
    (pss_cons (ps_for PassesOwn.never rfl (pi_range1 rfl (c.fr _ (.tail _ (.tail _ (.tail _ (.tail _ (.tail _ (.tail _ (.tail _ (.tail _ (.tail _ (.tail _ (.head _)))))))))))) (pa_cons pe_int pa_nil)) (pg_name (i := 10) nd rfl (Or.inl rfl)) (pss_one (ps_if (pt_not (pt_val (pe_f h__law_fine (hr.mono (by omega)) rfl (pa_cons (pe_ix (r := rIxL K) ix_list (pv 8) (pv 10) (fun _ _ => rfl)) (pa_cons (pe_ix (r := rIxL K) ix_list (pv 9) (pv 10) (fun _ _ => rfl)) pa_nil))))) (pss_one (ps_ret pe_bl)) pss_nil)))
    (pss_cons (ps_for PassesOwn.never rfl (pi_range1 rfl (c.fr _ (.tail _ (.tail _ (.tail _ (.tail _ (.tail _ (.tail _ (.tail _ (.tail _ (.tail _ (.tail _ (.head _)))))))))))) (pa_cons pe_int pa_nil)) (pg_name (i := 10) nd rfl (Or.inl rfl)) (pss_one (ps_for PassesOwn.never rfl (pi_range2 rfl (c.fr _ (.tail _ (.tail _ (.tail _ (.tail _ (.tail _ (.tail _ (.tail _ (.tail _ (.tail _ (.tail _ (.head _)))))))))))) (pa_cons (pv 10) (pa_cons pe_int pa_nil))) (pg_name (i := 14) nd rfl (Or.inl rfl)) (pss_cons (ps_set (i := 16) nd rfl (Or.inl rfl) (pe_lst (pa_cons (pe_f h__law_under (hr.mono (by omega)) rfl (pa_cons (pe_ix (r := rIxL K) ix_list (pv 8) (pv 10) (fun _ _ => rfl)) (pa_cons (pe_ix (r := rIxL K) ix_list (pv 8) (pv 14) (fun _ _ => rfl)) pa_nil))) (pa_cons (pe_f h__law_under (hr.mono (by omega)) rfl (pa_cons (pe_ix (r := rIxL K) ix_list (pv 8) (pv 14) (fun _ _ => rfl)) (pa_cons (pe_ix (r := rIxL K) ix_list (pv 8) (pv 10) (fun _ _ => rfl)) pa_nil))) pa_nil))))
    (pss_cons (ps_if (pt_cmpR op_eq (pe_op op_add (pv 10) (pv 14)) pe_int (nomark _)) (pss_one (ps_set (i := 16) nd rfl (Or.inl rfl) (pe_lst (pa_cons pe_bl (pa_cons pe_bl pa_nil))))) pss_nil)
    (pss_one (ps_if (pt_not (pt_val (pe_f h__law_meet (hr.mono (by omega)) rfl (pa_cons (pe_ix (r := rIxL K) ix_list (pv 8) (pv 10) (fun _ _ => rfl)) (pa_cons (pe_ix (r := rIxL K) ix_list (pv 8) (pv 14) (fun _ _ => rfl)) (pa_cons (pv 16) (pa_cons (pe_ix (r := rIxL K) ix_list (pv 9) (pv 10) (fun _ _ => rfl)) (pa_cons (pe_ix (r := rIxL K) ix_list (pv 9) (pv 14) (fun _ _ => rfl)) pa_nil)))))))) (pss_one (ps_ret pe_bl)) pss_nil)))))))
    (pss_cons (ps_set (i := 11) nd rfl (Or.inl rfl) (pe_slice (r := rSlS) sl_str (pe_ix (r := rIxL K) ix_list (pe_ix (r := rIxL K) ix_list (pv 1) pe_int (fun _ _ => rfl)) pe_int (fun _ _ => rfl)) po_none (po_some pe_int)))
    (pss_cons (ps_set (i := 12) nd rfl (Or.inl rfl) (pe_lst (pa_cons (pv 3) (pa_cons (pe_ix (r := rIxL K) ix_list (pv 8) pe_int (fun _ _ => rfl)) (pa_cons (pe_f h__law_weak (hr.mono (by omega)) rfl (pa_cons (pe_f h__law_open (hr.mono (by omega)) rfl (pa_cons (pv 0) (pa_cons pe_int pa_nil))) (pa_cons (pv 3) pa_nil))) pa_nil)))))
    (pss_cons (ps_for PassesOwn.never rfl (pi_listK (K0 := K) (pv 12)) (pg_name (i := 13) nd rfl (Or.inl rfl)) (pss_one (ps_for PassesOwn.never rfl (pi_listK (K0 := K) (pv 12)) (pg_name (i := 15) nd rfl (Or.inl rfl)) (pss_one (ps_if (pt_not (pt_val (pe_f h__law_within_terms (hr.mono (by omega)) rfl (pa_cons (pv 11) (pa_cons (pv 13) (pa_cons (pv 15) (pa_cons (pv 7) (pa_cons (pe_f h__law_under (hr.mono (by omega)) rfl (pa_cons (pv 13) (pa_cons (pv 15) pa_nil))) pa_nil)))))))) (pss_one (ps_ret pe_bl)) pss_nil)))))
    (pss_one (ps_ret (pe_f h__law_twins (hr.mono (by omega)) rfl (pa_cons (pv 11) (pa_cons (pv 3) (pa_cons (pv 4) (pa_cons (pv 7) pa_nil))))))))))))))))))))), ?_⟩
  show Ss K T _ [.val _, .no, .no, .no, .no, .no, .no, .no, .no, .no, .no, .no, .no, .no, .no, .no, .no] _
  refine go_seq (go_set (ex_callF (exa_cons ?_)))
  k_search "go"
  refine cv [.val _, .val _] ⟨rfl, rfl, trivial⟩ ⟨ns, 0, rfl, hns, by decide, fun x y z => ⟨rimL rfl, ?_⟩⟩
  k_search "go"
  refine ⟨[.own _], [none], ⟨rfl, rfl, trivial⟩, List.nodup_nil, ⟨x, y, z, rfl, fun ls ties e x y z po => ?_⟩⟩
  dsimp only [putOo]
  k_search "goe"
  refine ss_frz (i := 1) rfl ?_
  k_search "nrm"
  show Ss K T _ [.val _, .val (pool ls ties e), .no, .no, .no, .no, .no, .no, .no, .no, .no, .no, .no, .no, .no, .no, .no] _
  k_search "go"
  refine cv [.val _, .val _] ⟨rfl, rfl, trivial⟩ ⟨ns, 1, rfl, hns, by decide, fun x y z => ⟨rimL rfl, ?_⟩⟩
  k_search "go"
  refine cx [.own _, .val _] [2] ⟨rfl, ⟨_, rfl⟩, rfl, trivial⟩ (by decide) ⟨_, _, _, _, rfl, by decide, by decide, fun n x y z h1 h2 => ⟨rim1 rfl rfl, ?_⟩⟩
  k_search "nrm"
  obtain ⟨r, hr0, hr1, hr2⟩ := pick3 h1 h2
  k_search "go"
  refine ⟨Or.inl rfl, ?_⟩
  k_search "go"
  refine cx [.own _, .val _, .val _, .val _] [2] ⟨rfl, ⟨_, rfl⟩, rfl, rfl, rfl, trivial⟩ (by decide) ⟨_, _, _, ls, ties, e, 5, r, rfl, po, by decide, by decide, by omega, by omega, fun p x y z g1 h1 c1 => ⟨rim1 (Tm.imm_d _) rfl, ?_⟩⟩
  k_search "nrm"
  k_search "goe"
  have tp : Ts p := ⟨g1, by omega, by omega⟩
  refine go_seq (go_set (go_call (exa_cons (ex_callF (exa_cons ?_)))))
  k_search "go"
  refine cv [.val _, .val _] ⟨rfl, rfl, trivial⟩ ⟨ns, 2, rfl, hns, by decide, fun x y z => ⟨rimL rfl, ?_⟩⟩
  k_search "go"
  refine ⟨[.own _, .val _], [none], ⟨rfl, rfl, rfl, trivial⟩, List.nodup_nil, ⟨x, y, z, p, rfl, tp.tb, fun a x y z g2 e2 h2 c2 => ?_⟩⟩
  dsimp only [putOo]
  k_search "go"
  refine cv [.val _, .val _] ⟨rfl, rfl, trivial⟩ ⟨a, p, rfl, ⟨g2, by omega, by have : p.cnt * (3 + 2 * p.ht) ≤ 12 * 13 := Nat.mul_le_mul (by omega) (by omega); omega, by omega⟩, rim (Tm.imm_d _), ?_⟩
  obtain ⟨g3, e3, h3, c3⟩ := within_ok g2 g1 e2 (by omega) (by omega)
  generalize within a p = q at g3 e3 h3 c3 ⊢
  have tq : Ts q := ⟨g3, by omega, by omega⟩
  k_search "goe"
  refine go_seq (go_set (ex_callF (exa_cons ?_)))
  k_search "go"
  refine cv [.val _, .val _] ⟨rfl, rfl, trivial⟩ ⟨ns, 3, rfl, hns, by decide, fun x y z => ⟨rimL rfl, ?_⟩⟩
  k_search "go"
  refine ⟨[.own _, .val _, .val _], [none], ⟨rfl, rfl, rfl, rfl, trivial⟩, List.nodup_nil, ⟨x, y, z, ls, ties, e, q, rfl, po, tq.tb, fun b x y z g4 h4 c4 => ?_⟩⟩
  dsimp only [putOo]
  have tb : Ts b := ⟨g4, by omega, by omega⟩
  k_search "goe"
  refine go_seq (go_set (ex_callF (exa_cons ?_)))
  k_search "go"
  refine cv [.val _, .val _] ⟨rfl, rfl, trivial⟩ ⟨ns, 4, rfl, hns, by decide, fun x y z => ⟨rimL rfl, ?_⟩⟩
  k_search "go"
  refine ⟨[.own _, .val _], [none], ⟨rfl, rfl, rfl, trivial⟩, List.nodup_nil, ⟨x, y, z, q, rfl, tq.tb, fun v x y z g5 e5 h5 c5 => ?_⟩⟩
  dsimp only [putOo]
  have tv : Ts v := ⟨g5, by omega, by omega⟩
  k_search "goe"
  refine go_seq (go_set (ex_callF (exa_cons ?_)))
  k_search "go"
  refine cv [.val _, .val _] ⟨rfl, rfl, trivial⟩ ⟨ns, 5, rfl, hns, by decide, fun x y z => ⟨rimL rfl, ?_⟩⟩
  k_search "go"
  refine ⟨[.own _, .val _, .val _, .val _], [none], ⟨rfl, rfl, rfl, rfl, rfl, trivial⟩, List.nodup_nil, ⟨x, y, z, ls, ties, e, 3, 6, rfl, po, by decide, by decide, by decide, by decide, fun m x y z g6 h6 c6 => ?_⟩⟩
  dsimp only [putOo]
  have tm : Ts m := ⟨g6, by omega, by omega⟩
  k_search "goe"
  refine go_seq (go_set (ex_lst (exa_cons (ex_var rfl (exa_cons (ex_var rfl (exa_cons (ex_var rfl (exa_cons (ex_var rfl (exa_cons (ex_var rfl (exa_cons (ex_callF (exa_cons ?_)))))))))))))))
  k_search "go"
  refine cv [.val _, .val _] ⟨rfl, rfl, trivial⟩ ⟨ns, 6, rfl, hns, by decide, fun x y z => ⟨rimL rfl, ?_⟩⟩
  k_search "go"
  refine ⟨[.own _, .val _, .val _], [none], ⟨rfl, rfl, rfl, rfl, trivial⟩, List.nodup_nil, ⟨x, y, z, ls, ties, e, p, rfl, po, tp.tb, fun o x y z g7 h7 c7 => ?_⟩⟩
  dsimp only [putOo]
  have tob : Ts o := ⟨g7, by omega, by omega⟩
  k_search "goe"
  refine ss_frz (i := 8) rfl ?_
  k_search "nrm"
  have e8 : [p.d, q.d, b.d, v.d, m.d, o.d] = [p, q, b, v, m, o].map Tm.d := rfl
  rw [e8]
  have L6 : [p, q, b, v, m, o].length = 6 := rfl
  have LT : ∀ t ∈ [p, q, b, v, m, o], Ts t := by
    intro t ht
    simp only [List.mem_cons, List.not_mem_nil, or_false] at ht
    rcases ht with rfl | rfl | rfl | rfl | rfl | rfl <;> assumption
  have L01 : [p, q, b, v, m, o][0]? = some p ∧ [p, q, b, v, m, o][1]? = some q ∧ [p, q, b, v, m, o][5]? = some o := ⟨rfl, rfl, rfl⟩
  generalize [p, q, b, v, m, o] = L at L6 LT L01 ⊢
  refine go_seq (go_set (ex_mapL2 (ex_var rfl ⟨_, L.map fun t => t.nf.d, rfl, rfl, by rw [List.length_map, L6]; decide, by rw [List.length_map, List.length_map], fun k d e hd he => ?_, ?_⟩)))
  · obtain ⟨u, hu, rfl⟩ := map_at hd
    rw [List.getElem?_map, hu] at he
    cases he
    k_search "nrm"
    k_search "go"
    refine cv [.val _] ⟨rfl, trivial⟩ ⟨u, rfl, (LT u (List.mem_of_getElem? hu)).tb, rim (Tm.imm_d _), ?_⟩
    exact ⟨rfl, rfl⟩
  k_search "goe"
  refine ss_frz (i := 9) rfl ?_
  k_search "nrm"
  refine ss_no (i := 2) ?_
  k_search "nrm"
  refine go_seq (go_forR 6 (fun _ δ => ∃ s, δ = [.val (.list (ns.map .int)), .val (pool ls ties e), .no, .val p.d, .val q.d, .val b.d, .val v.d, .val m.d, .val (.list (L.map Tm.d)), .val (.list (L.map fun t => t.nf.d)), s, .no, .no, .no, .no, .no, .no]) (by decide) (exa_cons (ex_int (exa_nil ⟨rfl, _, rfl⟩))) ?_ ?_)
  · rintro k δ2 hk ⟨s, rfl⟩
    obtain ⟨t, ht, mt, at1⟩ := atL (f := Tm.d) (L := L) (k := k) (by omega)
    have at2 : atI (L.map fun t => t.nf.d) k = some t.nf.d := atI_nat (by rw [List.getElem?_map, ht]; rfl)
    k_search "nrm"
    k_search "go"
    refine cv [.val _, .val _] ⟨rfl, rfl, trivial⟩ ⟨t, rfl, LT t mt, rim rfl, ?_⟩
    k_search "go"
    exact ⟨_, rfl⟩
  rintro δ2 ⟨s0, rfl⟩
  refine go_seq (go_forR 6 (fun _ δ => ∃ s s14 s16, δ = [.val (.list (ns.map .int)), .val (pool ls ties e), .no, .val p.d, .val q.d, .val b.d, .val v.d, .val m.d, .val (.list (L.map Tm.d)), .val (.list (L.map fun t => t.nf.d)), s, .no, .no, .no, s14, .no, s16]) (by decide) (exa_cons (ex_int (exa_nil ⟨rfl, _, _, _, rfl⟩))) ?_ ?_)
  · rintro k δ2 hk ⟨s, s14, s16, rfl⟩
    obtain ⟨t, ht, mt, at1⟩ := atL (f := Tm.d) (L := L) (k := k) (by omega)
    have at2 : atI (L.map fun t => t.nf.d) k = some t.nf.d := atI_nat (by rw [List.getElem?_map, ht]; rfl)
    k_search "nrm"
    refine go_forR2 (exa_cons (ex_var rfl (exa_cons (ex_int (exa_nil ⟨k, 6 - k, by rw [show k + (6 - k) = 6 by omega]; rfl, by omega, fun _ δ => ∃ s14 s16, δ = [.val (.list (ns.map .int)), .val (pool ls ties e), .no, .val p.d, .val q.d, .val b.d, .val v.d, .val m.d, .val (.list (L.map Tm.d)), .val (.list (L.map fun t => t.nf.d)), .val (.int k), .no, .no, .no, s14, .no, s16], ⟨_, _, rfl⟩, ?_, fun δ2 ⟨a, b, w⟩ => ⟨_, a, b, w⟩⟩)))))
    rintro j0 δ2 hj ⟨s14, s16, rfl⟩
    obtain ⟨j, ej⟩ : ∃ j, j = k + j0 := ⟨_, rfl⟩
    rw [← ej]
    obtain ⟨u, hu, mu, bt1⟩ := atL (f := Tm.d) (L := L) (k := j) (by omega)
    have bt2 : atI (L.map fun t => t.nf.d) j = some u.nf.d := atI_nat (by rw [List.getElem?_map, hu]; rfl)
    k_search "nrm"
    k_search "go"
    refine cv [.val _, .val _] ⟨rfl, rfl, trivial⟩ ⟨t, u, rfl, (LT t mt).tb, (LT u mu).tb, rim rfl, ?_⟩
    k_search "go"
    refine cv [.val _, .val _] ⟨rfl, rfl, trivial⟩ ⟨u, t, rfl, (LT u mu).tb, (LT t mt).tb, rim rfl, ?_⟩
    k_search "goe"
    refine ss_frz (i := 16) rfl ?_
    k_search "nrm"
    k_search "go"
    refine iteD (fun he => ?_) fun _ => ?_
    · have hk0 : k = 0 := by omega
      have hj1 : j = 1 := by omega
      rw [hk0, L01.1] at ht
      rw [hj1, L01.2.1] at hu
      cases ht
      cases hu
      have u1 : p.under q = true := e3.1
      have u2 : q.under p = true := e3.2
      k_search "go"
      refine cv [.val _, .val _, .val _, .val _, .val _] ⟨rfl, rfl, ⟨_, _, rfl, rfl⟩, by decide, rfl, rfl, trivial⟩ ⟨p, q, by rw [u1, u2], tp, tq, rim rfl, ?_⟩
      k_search "go"
      exact ⟨_, _, rfl⟩
    · k_search "go"
      refine cv [.val _, .val _, .val _, .val _, .val _] ⟨rfl, rfl, rfl, rfl, rfl, trivial⟩ ⟨t, u, rfl, LT t mt, LT u mu, rim rfl, ?_⟩
      k_search "go"
      exact ⟨_, _, rfl⟩
  rintro δ2 ⟨s0, s14, s16, rfl⟩
  obtain ⟨r0, tl, et⟩ : ∃ r0 tl, ties = r0 :: tl := by
    cases ties with
    | nil => exact absurd rfl po.l2
    | cons a l => exact ⟨a, l, rfl⟩
  have wr0 : W r0 := po.l6 r0 (by rw [et]; exact List.mem_cons_self)
  have at1 : atI [PyData.list (ls.map .str), PyData.list (ties.map .str), PyData.int e] 1 = some (.list (ties.map .str)) := rfl
  have at0 : atI (ties.map PyData.str) 0 = some (.str r0) := by rw [et]; exact atI_nat (j := 0) rfl
  refine go_seq (go_set (ex_slS (ex_ixL (ex_ixL (ex_var rfl (ex_int ⟨_, _, _, rfl, rfl, at1, .inr ⟨_, rfl⟩, ex_int ⟨_, _, _, rfl, rfl, at0, .inr ⟨_, rfl⟩, ?_⟩⟩))))))
  k_search "go"
  refine ⟨W.lt wr0, ?_⟩
  obtain ⟨w1, w2, w3⟩ := cut11 wr0
  generalize cutS r0 none (some 11) = tie at w1 w2 w3 ⊢
  k_search "goe"
  have at5 : atI (L.map Tm.d) 5 = some o.d := atI_nat (j := 5) (by rw [List.getElem?_map, L01.2.2]; rfl)
  refine go_seq (go_set (ex_lst (exa_cons (ex_var rfl (exa_cons (ex_ixL (ex_var rfl (ex_int ⟨_, _, _, rfl, rfl, at5, .inr ⟨_, rfl⟩, exa_cons (ex_callF (exa_cons ?_))⟩))))))))
  k_search "go"
  refine cv [.val _, .val _] ⟨rfl, rfl, trivial⟩ ⟨ns, 7, rfl, hns, by decide, fun x y z => ⟨rimL rfl, ?_⟩⟩
  k_search "go"
  refine ⟨[.own _, .val _], [none], ⟨rfl, rfl, rfl, trivial⟩, List.nodup_nil, ⟨_, _, _, p, rfl, tp.tb, fun s x y z g9 e9 h9 c9 => ?_⟩⟩
  dsimp only [putOo]
  have ts9 : Ts s := ⟨g9, by omega, by omega⟩
  k_search "goe"
  refine ss_frz (i := 12) rfl ?_
  k_search "nrm"
  have e12 : [p.d, o.d, s.d] = [p, o, s].map Tm.d := rfl
  rw [e12]
  have MT : ∀ t ∈ [p, o, s], Ts t := by
    intro t ht
    simp only [List.mem_cons, List.not_mem_nil, or_false] at ht
    rcases ht with rfl | rfl | rfl <;> assumption
  generalize [p, o, s] = M at MT ⊢
  refine go_seq (go_forL (M.map Tm.d) (fun _ δ => ∃ s13 s15, δ = [.val (.list (ns.map .int)), .val (pool ls ties e), .no, .val p.d, .val q.d, .val b.d, .val v.d, .val m.d, .val (.list (L.map Tm.d)), .val (.list (L.map fun t => t.nf.d)), s0, .val (.str tie), .val (.list (M.map Tm.d)), s13, s14, s15, s16]) (ex_var rfl ⟨rfl, _, _, rfl⟩) ?_ ?_)
  · rintro k d δ2 hk ⟨s13, s15, rfl⟩
    obtain ⟨t, ht, rfl⟩ := map_at hk
    have mt := List.mem_of_getElem? ht
    k_search "nrm"
    refine go_forL (M.map Tm.d) (fun _ δ => ∃ s15, δ = [.val (.list (ns.map .int)), .val (pool ls ties e), .no, .val p.d, .val q.d, .val b.d, .val v.d, .val m.d, .val (.list (L.map Tm.d)), .val (.list (L.map fun t => t.nf.d)), s0, .val (.str tie), .val (.list (M.map Tm.d)), .val t.d, s14, s15, s16]) (ex_var rfl ⟨rfl, _, rfl⟩) ?_ (fun δ2 ⟨a, w⟩ => ⟨_, a, w⟩)
    rintro j d δ2 hj ⟨s15, rfl⟩
    obtain ⟨u, hu, rfl⟩ := map_at hj
    have mu := List.mem_of_getElem? hu
    k_search "nrm"
    k_search "go"
    refine cv [.val _, .val _] ⟨rfl, rfl, trivial⟩ ⟨t, u, rfl, (MT t mt).tb, (MT u mu).tb, rim rfl, ?_⟩
    k_search "go"
    refine cv [.val _, .val _, .val _, .val _, .val _] ⟨rfl, rfl, rfl, rfl, rfl, trivial⟩ ⟨tie, t, u, m, rfl, w1, w2, w3, MT t mt, MT u mu, tm, rim rfl, ?_⟩
    k_search "go"
    exact ⟨_, rfl⟩
  rintro δ2 ⟨s13, s15, rfl⟩
  k_search "go"
  refine cv [.val _, .val _, .val _, .val _] ⟨rfl, rfl, rfl, rfl, trivial⟩ ⟨tie, p, q, m, rfl, w1, e3, tp, tq, tm, rim rfl, ?_⟩
  exact ⟨[], _, rfl, rfl, hQ⟩
set_option Elab.async false
set_option linter.all false
set_option maxRecDepth 100000
set_option maxHeartbeats 0
open PySem L2 LamX NdefX PyProof.Rows GenW Pl
section
variable {P : Program} {w : World} {K : PySem.W.Frag} {mg : Str → Option Value} {base : Heap} {T : List NTab} {ts : List Str}
theorem ok_all' (c : Al K mg base ds fr ts cs) : Ok P w K mg base 200 "law" ["script"] (spOf K T F_law) := by
  have h_is_word := ok_is_word (P := P) (w := w) (T := T) c
  have h_direct_parts := ok_direct_parts c h_is_word
  have h_is_term := ok_is_term c h_direct_parts
  have h_check_term := ok_check_term c h_is_term
  have h_raw := ok_raw (P := P) (w := w) (T := T) c 22
  have h_is_void := ok_void c 22 h_raw 22 (Nat.le_refl _)
  have h_meets := ok_meets c 22 h_raw 22 (Nat.le_refl _)
  have h_plain_below := ok_below c 22 _ _ h_is_void h_meets.2
  have h_write := ok_write (P := P) (w := w) (T := T) c 22
  have h_key := ok_key c 22 _ h_write
  have h_impl := ok_impl c 22 _ h_meets.1
  have h_join := ok_join c 22 _ _ _ h_write h_impl h_key
  have h_nf := ok_nf c 22 _ _ h_raw h_join 22 (Nat.le_refl _)
  have h_normal := ok_normal c 22 _ h_check_term h_nf
  have h_conjuncts := ok_conjuncts c 22 _ _ h_check_term h_nf h_raw
  have h_shown := ok_shown c 22 _ _ h_check_term h_nf h_write
  have h_nsize := ok_nsize c 22 _ h_raw 22 (Nat.le_refl _)
  have h_size := ok_size c 22 _ _ h_check_term h_nf h_nsize
  have h_below := ok_below2 c 22 _ h_check_term h_plain_below
  have h_both := ok_both c 22 _ h_check_term h_nf
  have l_conj := ok_lconj (P := P) (w := w) (T := T) c 22
  have l_void := ok_lvoid c 22 l_conj 22 (Nat.le_refl _)
  have l_under := (ok_lunder c 22 _ l_conj l_void 22 (Nat.le_refl _)).2
  have l_written := ok_lwritten (P := P) (w := w) (T := T) c 22
  have l_size := ok_lsize (P := P) (w := w) (T := T) c 22
  have l_count := ok_lcount (P := P) (w := w) (T := T) c 22
  have l_height := ok_lheight (P := P) (w := w) (T := T) c 22
  have l_within := ok_lwithin c 22 _ _ l_count l_height
  have l_reserved := ok_lreserved (P := P) (w := w) (T := T) c
  have l_is_word := ok_lis_word c l_reserved
  have l_is_term := ok_lis_term c l_is_word 22
  have l_same := ok_same (P := P) (w := w) (T := T) c 64
  have l_isn := (ok_normal_law c 22 _ _ l_under l_written 22 (Nat.le_refl _)).2
  have l_judged := ok_judged c _ _ _ l_is_term l_isn l_under
  have l_fine := ok_fine c _ _ _ _ _ _ _ _ _ l_judged l_same h_normal h_shown l_written h_size l_size h_conjuncts l_conj
  have l_meet := ok_meet c _ _ l_same h_below
  have l_wt := ok_wt c _ _ _ _ _ l_same h_below l_void l_under h_both
  have l_twins := ok_twins c _ _ _ _ l_same l_judged h_normal h_both
  have l_cell := ok_lcell (P := P) (w := w) (T := T) c
  have l_open := ok_lopen c l_cell
  have l_take := ok_ltake (P := P) (w := w) (T := T) c
  have l_word := ok_lword c l_take l_is_word
  have l_words := ok_lwords c l_take l_word
  have l_pool := ok_lpool c l_take l_words
  have l_term := ok_lterm c l_take 4
  have l_chain := ok_lchain c l_take
  have l_wide := ok_lwide c l_take
  have l_root := ok_lroot c l_take l_chain l_wide l_term
  have l_weak := ok_lweak c l_take 22
  have l_other := ok_lother c l_take
  have l_change := ok_lchange c l_take l_other 22
  have l_alike := ok_lalike c 22 _ l_take l_weak 22 (Nat.le_refl _)
  exact ok_law c 199 _ _ _ _ _ _ _ _ _ _ _ _ _ _ (by decide) l_pool l_open l_root l_take l_within l_alike l_change l_weak h_normal l_fine l_under l_meet l_wt l_twins
end
end K02
open PySem PySem.W PySem.Calls PyProof.Rows
theorem PySem.Challenge.cw_notionary_k02_equal_terms_holds : PySem.Challenge.rw_notionary_k02_equal_terms.Holds := by
  w_on; o_law
  refine HandSHeadRun.head_any (r := OpenLaw.row PySem.Challenge.rw_notionary_k02_equal_terms) (q := view (OpenLaw.row PySem.Challenge.rw_notionary_k02_equal_terms).prog [66]) (H := K02.hk) (ob := K02.ob) (M := 4000) (loose := K02.names) (d := HandSHeadRun.topDef (OpenLaw.row PySem.Challenge.rw_notionary_k02_equal_terms).prog 66) (kwd := []) K02.ob_eq
    (by kernel_rfl) (fun s => by kernel_rfl) K02.run (by kernel_rfl) (by kernel_rfl) (by kernel_rfl) (by rfl) (by first | assumption | decide +kernel) (by decide +kernel) ⟨rfl, rfl, rfl, rfl, rfl, by decide +kernel⟩ ?hw ?hc
  case hw => w_witness2
  case hc =>
    refine Pl.walk_end (l := PySem.Challenge.rw_notionary_k02_equal_terms) (k := 200) (n := 63) (m := 2) (ds := K02.ds) (fr := K02.fr) (ts := []) (cs := K02.cs) (F := K02.F_law) (st := K02.top 66) rfl (by decide) (by kernel_rfl) ⟨rfl, by decide, by decide⟩ rfl (by kernel_rfl) (.tail _ (.tail _ (.tail _ (.tail _ (.tail _ (.tail _ (.tail _ (.tail _ (.tail _ (.tail _ (.tail _ (.tail _ (.tail _ (.tail _ (.tail _ (.tail _ (.tail _ (.tail _ (.tail _ (.tail _ (.tail _ (.tail _ (.tail _ (.tail _ (.tail _ (.tail _ (.tail _ (.tail _ (.tail _ (.tail _ (.tail _ (.tail _ (.tail _ (.tail _ (.tail _ (.tail _ (.tail _ (.tail _ (.tail _ (.tail _ (.tail _ (.tail _ (.tail _ (.tail _ (.tail _ (.tail _ (.tail _ (.tail _ (.tail _ (.tail _ (.tail _ (.tail _ (.tail _ (.tail _ (.tail _ (.head _)))))))))))))))))))))))))))))))))))))))))))))))))))))))) (fun _ _ _ _ _ _ us hl => match us, hl with | [_], _ => rfl) (fun w mg base K c glo => K02.ok_all' c) (fun ns hl _ => ⟨ns, rfl, hl, rfl⟩)
