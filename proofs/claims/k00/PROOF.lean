import PyProof.Rows.All
import Wide.All
import OpenK.AllK
import Wide.FinOn
import HandS.ForMost
import HandS.Deep
import HandS.Nested
import HandS.TupAny
import HandS.Style
import HandS.GenList
import HandS.IsInst
import HandS.WideMore
import HandS.WideBits
import HandS.Conv
import HandS.Strs
import HandS.SetFor
import KE.SortKeyHeap
import HandS.SortKw
import HandS.Head0
import HandS.Head1
import HandS.Head2
import HandS.HeadEnd
import HandS.HeadHook1
import HandS.HeadHook2
import HandS.HeadWalk
import HandS.EndTab
import HandS.Exc
import HandS.ExcOwn
import HandS.ExcIs
import KE.KNestM
import HandS.Text
import HandS.FStr
import HandS.TupLe
import HandS.Star
import HandS.Walk
import HandS.Iter
import HandS.Sort
import HandS.Rev
import KE.KDictList
import HandS.RevTup
import HandS.More
import KE.KSearch
import HandS.TryOnly
import HandS.TryMany
import HandS.WordsExc
import HandS.Set
import PyProof.StrOps2
import PySem.Challenge.RW_notionary_k00_normal_form
set_option Elab.async false
set_option linter.all false
set_option maxRecDepth 100000
set_option maxHeartbeats 1000001
namespace Pl
open PySem L2 LamX NdefX
abbrev D := PyData
/-- what an owned object holds -/
inductive OV where
  | lst (ds : List D)
  | dK (kvs : List (Key × D))
  | dT (kvs : List (List Key × D))
/-- what a name holds -/
inductive Sl where
  | no
  | val (d : D)
  | own (a : Addr) (u : OV)
  | raw (v : V)
/-- what an expression gives -/
inductive R where
  | val (d : D)
  | new (u : OV)
  | bor (i : Nat)
def dl (H : Hp) (A : List Addr) : Hp := fun a => if a ∈ A then none else H a
theorem dl_some {H : Hp} {A : List Addr} {a : Addr} {o : HO} (h : dl H A a = some o) : a ∉ A ∧ H a = some o := by
  unfold dl at h
  split at h
  · cases h
  · exact ⟨by assumption, h⟩
theorem dl_of {H : Hp} {A : List Addr} {a : Addr} {o : HO} (h : H a = some o) (n : a ∉ A) : dl H A a = some o := by
  unfold dl
  rw [if_neg n]
  exact h
def ow1 : Sl → List Addr
  | .own a _ => [a]
  | _ => []
def ow (δ : List Sl) (B : List (Addr × OV)) : List Addr := δ.flatMap ow1 ++ B.map (·.1)
/-- all that is read of data stays -/
def Rk (H H' : Hp) : Prop := ∀ a o, H a = some o → (∀ ps, o ≠ .tbl ps) → H' a = some o
theorem Rk.refl (H : Hp) : Rk H H := fun _ _ h _ => h
theorem Rk.trans {H H1 H2 : Hp} (a : Rk H H1) (b : Rk H1 H2) : Rk H H2 := fun c o h n => b c o (a c o h n) n
theorem Rk.rd {H H' : Hp} (e : Rk H H') {a : Addr} {u : HO} (hu : ∀ ps, u ≠ .tbl ps) (h : Rd H a u) : Rd H' a u := by
  rcases h with h | ⟨o, h⟩
  · exact .inl (e _ _ h hu)
  · exact .inr ⟨o, e _ _ h (fun _ z => by cases z)⟩
theorem Rk.sqL {K : PySem.W.Frag} {H H' : Hp} (e : Rk H H') {a : Addr} {xs : List V} (h : SqL K H a xs) : SqL K H' a xs := h.elim (fun h => .inl (e.rd (fun _ z => by cases z) h)) .inr
theorem Rk.sqT {K : PySem.W.Frag} {H H' : Hp} (e : Rk H H') {a : Addr} {xs : List V} (h : SqT K H a xs) : SqT K H' a xs := h.elim (fun h => .inl (e.rd (fun _ z => by cases z) h)) .inr
section
variable {K : PySem.W.Frag}
mutual
theorem dp_mono {H H' : Hp} (e : Rk H H') : ∀ (d : D) (v : V), Dp K H v d → Dp K H' v d
  | .none, _, h => by cases h; exact .non
  | .bool b, _, h => by cases h; exact .bl _
  | .int i, _, h => by cases h; exact .int _
  | .str x, _, h => by cases h; exact .str _
  | .list ds, _, h => by
    cases h with
    | lst hs ha => exact .lst (e.sqL hs) (da_mono e _ _ ha)
  | .tuple ds, _, h => by
    cases h with
    | tup hs ha => exact .tup (e.sqT hs) (da_mono e _ _ ha)
  | .dict _, _, h => by cases h
theorem da_mono {H H' : Hp} (e : Rk H H') : ∀ (ds : List D) (vs : List V), DpAll K H vs ds → DpAll K H' vs ds
  | [], _, h => by cases h; exact .nil
  | d :: ds, _, h => by
    cases h with
    | cons h1 h2 => exact .cons (dp_mono e _ _ h1) (da_mono e _ _ h2)
end
mutual
/-- no list within -/
def imm : D → Bool
  | .list _ => false
  | .tuple ds => immAll ds
  | .dict _ => false
  | _ => true
def immAll : List D → Bool
  | [] => true
  | d :: ds => imm d && immAll ds
end
/-- the tuples stay -/
def Tk (H H' : Hp) : Prop := ∀ a xs, Rd H a (.tup xs) → Rd H' a (.tup xs)
mutual
theorem dp_imm {H H' : Hp} (e : Tk H H') : ∀ (d : D) (v : V), Pl.imm d = true → Dp K H v d → Dp K H' v d
  | .none, _, _, h => by cases h; exact .non
  | .bool b, _, _, h => by cases h; exact .bl _
  | .int i, _, _, h => by cases h; exact .int _
  | .str x, _, _, h => by cases h; exact .str _
  | .list ds, _, hi, h => by simp [Pl.imm] at hi
  | .tuple ds, _, hi, h => by
    cases h with
    | tup hs ha => exact .tup (hs.elim (fun q => .inl (e _ _ q)) .inr) (da_imm e _ _ (by simpa [Pl.imm] using hi) ha)
  | .dict _, _, _, h => by cases h
theorem da_imm {H H' : Hp} (e : Tk H H') : ∀ (ds : List D) (vs : List V), immAll ds = true → DpAll K H vs ds → DpAll K H' vs ds
  | [], _, _, h => by cases h; exact .nil
  | d :: ds, _, hi, h => by
    cases h with
    | cons h1 h2 =>
      simp only [immAll, Bool.and_eq_true] at hi
      exact .cons (dp_imm e _ _ hi.1 h1) (da_imm e _ _ hi.2 h2)
end
theorem da_len {H : Hp} : ∀ {vs : List V} {ds : List D}, DpAll K H vs ds → vs.length = ds.length
  | _, _, .nil => rfl
  | _, _, .cons _ t => congrArg (· + 1) (da_len t)
theorem da_get {H : Hp} : ∀ {vs : List V} {ds : List D} {i : Nat} {d : D}, DpAll K H vs ds → ds[i]? = some d → ∃ v, vs[i]? = some v ∧ Dp K H v d
  | _, _, _, _, .nil, e => by simp at e
  | _, _, 0, _, .cons h _, e => by
    have e : _ = _ := Option.some.inj e
    exact ⟨_, rfl, e ▸ h⟩
  | _, _, i + 1, d, .cons _ t, e => da_get (i := i) t e
theorem da_get' {H : Hp} : ∀ {vs : List V} {ds : List D} {i : Nat} {v : V}, DpAll K H vs ds → vs[i]? = some v → ∃ d, ds[i]? = some d ∧ Dp K H v d
  | _, _, _, _, .nil, e => by simp at e
  | _, _, 0, _, .cons h _, e => by
    have e : _ = _ := Option.some.inj e
    exact ⟨_, rfl, e ▸ h⟩
  | _, _, i + 1, d, .cons _ t, e => da_get' (i := i) t e
theorem da_app {H : Hp} : ∀ {vs ws : List V} {ds es : List D}, DpAll K H vs ds → DpAll K H ws es → DpAll K H (vs ++ ws) (ds ++ es)
  | _, _, _, _, .nil, h => h
  | _, _, _, _, .cons a t, h => .cons a (da_app t h)
theorem da_one {H : Hp} {v : V} {d : D} (h : Dp K H v d) : DpAll K H [v] [d] := .cons h .nil
theorem da_rev {H : Hp} : ∀ {vs : List V} {ds : List D}, DpAll K H vs ds → DpAll K H vs.reverse ds.reverse
  | _, _, .nil => .nil
  | _, _, .cons a t => by
    rw [List.reverse_cons, List.reverse_cons]
    exact da_app (da_rev t) (da_one a)
theorem da_take {H : Hp} : ∀ {vs : List V} {ds : List D} (n : Nat), DpAll K H vs ds → DpAll K H (vs.take n) (ds.take n)
  | _, _, 0, _ => by simp only [List.take_zero]; exact .nil
  | _, _, _ + 1, .nil => by simp only [List.take_nil]; exact .nil
  | _, _, n + 1, .cons a t => by
    rw [List.take_succ_cons, List.take_succ_cons]
    exact .cons a (da_take n t)
theorem da_drop {H : Hp} : ∀ {vs : List V} {ds : List D} (n : Nat), DpAll K H vs ds → DpAll K H (vs.drop n) (ds.drop n)
  | _, _, 0, h => h
  | _, _, _ + 1, .nil => by simp only [List.drop_nil]; exact .nil
  | _, _, n + 1, .cons _ t => da_drop n t
theorem da_set {H : Hp} {v : V} {d : D} (h : Dp K H v d) : ∀ {vs : List V} {ds : List D} (i : Nat), DpAll K H vs ds → DpAll K H (vs.set i v) (ds.set i d)
  | _, _, _, .nil => .nil
  | _, _, 0, .cons _ t => .cons h t
  | _, _, i + 1, .cons a t => .cons a (da_set h i t)
theorem da_dropLast {H : Hp} {vs : List V} {ds : List D} (h : DpAll K H vs ds) : DpAll K H vs.dropLast ds.dropLast := by
  rw [List.dropLast_eq_take, List.dropLast_eq_take, da_len h]
  exact da_take _ h
end
/-- a dict's pairs -/
def KvAll (K : PySem.W.Frag) (H : Hp) {κ : Type} : List (κ × V) → List (κ × D) → Prop
  | [], [] => True
  | (k, v) :: r, (k', d) :: r' => k = k' ∧ Dp K H v d ∧ KvAll K H r r'
  | _, _ => False
theorem KvAll.mono {K : PySem.W.Frag} {H H' : Hp} (e : ∀ d v, Dp K H v d → Dp K H' v d) {κ : Type} : ∀ {a : List (κ × V)} {b : List (κ × D)}, KvAll K H a b → KvAll K H' a b
  | [], [], _ => trivial
  | (_, _) :: _, (_, _) :: _, ⟨h1, h2, h3⟩ => ⟨h1, e _ _ h2, KvAll.mono e h3⟩
  | [], _ :: _, h => h.elim
  | _ :: _, [], h => h.elim
/-- what stands at an owned address; L: the heap of its contents -/
def Holds (K : PySem.W.Frag) (L H : Hp) (a : Addr) : OV → Prop
  | .lst ds => ∃ xs, H a = some (.lst xs) ∧ DpAll K L xs ds
  | .dK kvs => ∃ xs, H a = some (.dK xs) ∧ KvAll K L xs kvs
  | .dT kvs => ∃ xs, H a = some (.dT xs) ∧ KvAll K L xs kvs
theorem Holds.mono {K : PySem.W.Frag} {L L' H H' : Hp} {a : Addr} {u : OV} (e : ∀ d v, Dp K L v d → Dp K L' v d) (ea : H' a = H a) (h : Holds K L H a u) : Holds K L' H' a u := by
  have all : ∀ {ds : List D} {vs : List V}, DpAll K L vs ds → DpAll K L' vs ds := by
    intro ds
    induction ds with
    | nil => intro vs h; cases h; exact .nil
    | cons d ds ih =>
      intro vs h
      cases h with
      | cons h1 h2 => exact .cons (e _ _ h1) (ih h2)
  cases u with
  | lst ds => obtain ⟨xs, h1, h2⟩ := h; exact ⟨xs, ea.trans h1, all h2⟩
  | dK ds => obtain ⟨xs, h1, h2⟩ := h; exact ⟨xs, ea.trans h1, h2.mono e⟩
  | dT ds => obtain ⟨xs, h1, h2⟩ := h; exact ⟨xs, ea.trans h1, h2.mono e⟩
theorem Holds.some {K : PySem.W.Frag} {L H : Hp} {a : Addr} {u : OV} (h : Holds K L H a u) : ∃ o, H a = some o ∧ (∀ ps, o ≠ .tbl ps) ∧ (∀ xs, o ≠ .tup xs) ∧ (∀ x y, o ≠ .frz x y) := by
  cases u with
  | lst ds => obtain ⟨xs, h1, h2⟩ := h; exact ⟨_, h1, (fun _ z => by cases z), (fun _ z => by cases z), (fun _ _ z => by cases z)⟩
  | dK ds => obtain ⟨xs, h1, h2⟩ := h; exact ⟨_, h1, (fun _ z => by cases z), (fun _ z => by cases z), (fun _ _ z => by cases z)⟩
  | dT ds => obtain ⟨xs, h1, h2⟩ := h; exact ⟨_, h1, (fun _ z => by cases z), (fun _ z => by cases z), (fun _ _ z => by cases z)⟩
/-- a slot -/
def SlOk (K : PySem.W.Frag) (A : List Addr) (H : Hp) (ov : Option (Option V)) : Sl → Prop
  | .no => True
  | .val d => ∃ v, ov = some (some v) ∧ Dp K (dl H A) v d
  | .own a u => ov = some (some (.ref a)) ∧ Holds K (dl H A) H a u
  | .raw v => ov = some (some v)
/-- the state: the slots σ hold δ; B: further owned objects -/
structure S (K : PySem.W.Frag) (T : List NTab) (B : List (Addr × OV)) (H : Hp) (σ : L2.St) (δ : List Sl) : Prop where
  len : σ.length = δ.length
  tab : TabsN T H
  ok : ∀ (i : Nat) (s : Sl), δ[i]? = some s → SlOk K (ow δ B) H σ[i]? s
  loose : ∀ p ∈ B, Holds K (dl H (ow δ B)) H p.1 p.2
  nd : (ow δ B).Nodup
/-- from a heap with owned A to one with owned A' -/
structure Go (A A' : List Addr) (H H' : Hp) : Prop where
  ext : ∀ a o, H a = some o → a ∉ A → (∀ ps, o ≠ .tbl ps) → H' a = some o
  dom : ∀ a, H' a = none → H a = none
  org : ∀ a ∈ A', a ∈ A ∨ H a = none
theorem Go.refl {A : List Addr} {H : Hp} : Go A A H H := ⟨fun _ _ h _ _ => h, fun _ h => h, fun _ h => .inl h⟩
theorem Go.trans {A A1 A2 : List Addr} {H H1 H2 : Hp} (a : Go A A1 H H1) (b : Go A1 A2 H1 H2) : Go A A2 H H2 where
  ext := fun c o h n t => b.ext c o (a.ext c o h n t) (fun m => (a.org c m).elim n fun z => by rw [h] at z; cases z) t
  dom := fun c h => a.dom c (b.dom c h)
  org := fun c m => (b.org c m).elim (a.org c) fun z => .inr (a.dom c z)
theorem Go.rk {A A' : List Addr} {H H' : Hp} (g : Go A A' H H') : Rk (dl H A) (dl H' A') := fun a o h t => by
  obtain ⟨n, e⟩ := dl_some h
  exact dl_of (g.ext a o e n t) fun m => (g.org a m).elim n fun z => by rw [e] at z; cases z
/-- fewer owned -/
theorem Go.less {A A1 A' : List Addr} {H H' : Hp} (g : Go A A' H H') (h : ∀ a ∈ A1, a ∈ A') : Go A A1 H H' := ⟨g.ext, g.dom, fun a m => g.org a (h a m)⟩
theorem Go.more {A A1 A' : List Addr} {H H' : Hp} (g : Go A A' H H') (h : ∀ a ∈ A, a ∈ A1) : Go A1 A' H H' := ⟨fun a o e n t => g.ext a o e (fun m => n (h a m)) t, g.dom, fun a m => (g.org a m).imp_left (h a)⟩
end Pl
set_option Elab.async false
set_option linter.all false
set_option maxRecDepth 100000
set_option maxHeartbeats 1000001
namespace Pl
open PySem L2 LamX NdefX
theorem mem_ow {a : Addr} {δ : List Sl} {B : List (Addr × OV)} : a ∈ ow δ B ↔ (∃ (i : Nat) (u : OV), δ[i]? = some (.own a u)) ∨ ∃ u, (a, u) ∈ B := by
  unfold ow
  rw [List.mem_append, List.mem_flatMap, List.mem_map]
  constructor
  · rintro (⟨s, hs, ha⟩ | ⟨p, hp, rfl⟩)
    · cases s with
      | no => cases ha
      | raw v => cases ha
      | val d => cases ha
      | own b u =>
        have e : a = b := by simpa [ow1] using ha
        subst e
        obtain ⟨i, hi⟩ := List.mem_iff_getElem?.mp hs
        exact .inl ⟨i, u, hi⟩
    · exact .inr ⟨p.2, hp⟩
  · rintro (⟨i, u, h⟩ | ⟨u, h⟩)
    · exact .inl ⟨_, List.mem_of_getElem? h, by simp [ow1]⟩
    · exact .inr ⟨_, h, rfl⟩
theorem ow_same {δ : List Sl} {i : Nat} {a : Addr} {u u' : OV} {B : List (Addr × OV)} (h : δ[i]? = some (.own a u)) : ow (δ.set i (.own a u')) B = ow δ B := by
  unfold ow
  congr 1
  induction δ generalizing i with
  | nil => simp at h
  | cons s r ih =>
    cases i with
    | zero =>
      have e : s = .own a u := Option.some.inj h
      subst e
      rfl
    | succ i =>
      rw [List.set_cons_succ, List.flatMap_cons, List.flatMap_cons, ih (by simpa using h)]
theorem ow_sub {δ : List Sl} {i : Nat} {s : Sl} {B : List (Addr × OV)} (hs : ow1 s = []) : (ow (δ.set i s) B).Sublist (ow δ B) := by
  unfold ow
  refine List.Sublist.append ?_ (List.Sublist.refl _)
  induction δ generalizing i with
  | nil => exact List.Sublist.refl _
  | cons t r ih =>
    cases i with
    | zero =>
      rw [List.set_cons_zero, List.flatMap_cons, List.flatMap_cons, hs]
      exact List.sublist_append_right _ _
    | succ i =>
      rw [List.set_cons_succ, List.flatMap_cons, List.flatMap_cons]
      exact (List.Sublist.refl _).append ih
theorem flat_own {δ : List Sl} {i : Nat} {p : Addr} {u : OV} (hi : i < δ.length) : ((δ.set i (.own p u)).flatMap ow1).Perm (p :: (δ.set i .no).flatMap ow1) := by
  induction δ generalizing i with
  | nil => exact absurd hi (Nat.not_lt_zero _)
  | cons t r ih =>
    cases i with
    | zero => exact List.Perm.refl _
    | succ i =>
      rw [List.set_cons_succ, List.set_cons_succ, List.flatMap_cons, List.flatMap_cons]
      exact ((ih (by simpa using hi)).append_left _).trans List.perm_middle
theorem ow_own {δ : List Sl} {i : Nat} {p : Addr} {u : OV} {B : List (Addr × OV)} (hi : i < δ.length) : (ow (δ.set i (.own p u)) B).Perm (p :: ow (δ.set i .no) B) := by
  unfold ow
  exact (flat_own hi).append_right _
theorem ow_loose {δ : List Sl} {p : Addr} {u : OV} {B : List (Addr × OV)} : (ow δ ((p, u) :: B)).Perm (p :: ow δ B) := by
  unfold ow
  exact List.perm_middle
theorem dl_less {H : Hp} {A A' : List Addr} (h : ∀ a ∈ A', a ∈ A) : Rk (dl H A) (dl H A') := fun a o e _ => by
  obtain ⟨n, e⟩ := dl_some e
  exact dl_of e fun m => n (h a m)
theorem dl_rk {H : Hp} {A : List Addr} : Rk (dl H A) H := fun a o e _ => (dl_some e).2
section
variable {K : PySem.W.Frag} {T : List NTab} {B : List (Addr × OV)} {H H' : Hp} {σ : L2.St} {δ : List Sl}
theorem dp_full {A : List Addr} {v : V} {d : D} (h : Dp K (dl H A) v d) : Dp K H v d := dp_mono dl_rk _ _ h
theorem S.at (s : S K T B H σ δ) {a : Addr} (m : a ∈ ow δ B) : ∃ u, Holds K (dl H (ow δ B)) H a u := by
  rcases mem_ow.mp m with ⟨i, u, h⟩ | ⟨u, h⟩
  · exact ⟨u, (s.ok i _ h).2⟩
  · exact ⟨u, s.loose _ h⟩
/-- frozen data stands against the owned: it has no list -/
theorem S.tk (s : S K T B H σ δ) : Tk H (dl H (ow δ B)) := fun a xs h => by
  rcases h with h | ⟨o, h⟩
  · refine .inl (dl_of h fun m => ?_)
    obtain ⟨u, hu⟩ := s.at m
    obtain ⟨o, e, _, n, _⟩ := hu.some
    rw [h] at e
    cases e
    exact n xs rfl
  · refine .inr ⟨o, dl_of h fun m => ?_⟩
    obtain ⟨u, hu⟩ := s.at m
    obtain ⟨o', e, _, _, n⟩ := hu.some
    rw [h] at e
    cases e
    exact n _ _ rfl
theorem S.imm (s : S K T B H σ δ) {v : V} {d : D} (hi : imm d = true) (h : Dp K H v d) : Dp K (dl H (ow δ B)) v d := dp_imm s.tk _ _ hi h
/-- fewer owned, the names elsewhere the same -/
theorem S.cut (s : S K T B H σ δ) {B' : List (Addr × OV)} {δ' : List Sl} {σ' : L2.St} (hsub : ∀ a ∈ ow δ' B', a ∈ ow δ B) (hlen : σ'.length = δ'.length) (nd : (ow δ' B').Nodup) (hB : ∀ p ∈ B', Holds K (dl H (ow δ' B')) H p.1 p.2)
    (hok : ∀ (i : Nat) (x : Sl), δ'[i]? = some x → (δ[i]? = some x ∧ σ'[i]? = σ[i]?) ∨ SlOk K (ow δ' B') H σ'[i]? x) : S K T B' H σ' δ' where
  len := hlen
  tab := s.tab
  nd := nd
  loose := hB
  ok := fun i x h => by
    have e := dl_less (H := H) hsub
    rcases hok i x h with ⟨h1, h2⟩ | q
    · have q := s.ok i x h1
      rw [h2]
      cases x with
      | no => trivial
      | raw v => exact q
      | val d => obtain ⟨v, q1, q2⟩ := q; exact ⟨v, q1, dp_mono e _ _ q2⟩
      | own a u => obtain ⟨q1, q2⟩ := q; exact ⟨q1, q2.mono (dp_mono e) rfl⟩
    · exact q
theorem ow_tail {p : Addr × OV} : ∀ a ∈ ow δ B, a ∈ ow δ (p :: B) := fun a m => (ow_loose (p := p.1) (u := p.2)).mem_iff.mpr (List.mem_cons_of_mem _ m)
theorem S.holds (s : S K T B H σ δ) {B' : List (Addr × OV)} {δ' : List Sl} (hsub : ∀ a ∈ ow δ' B', a ∈ ow δ B) {p : Addr × OV} (hp : p ∈ B) : Holds K (dl H (ow δ' B')) H p.1 p.2 := (s.loose p hp).mono (dp_mono (dl_less hsub)) rfl
theorem S.drop {p : Addr × OV} (s : S K T (p :: B) H σ δ) : S K T B H σ δ :=
  s.cut ow_tail s.len (((ow_loose (p := p.1) (u := p.2)).nodup_iff.mp s.nd).sublist (List.sublist_cons_self _ _)) (fun q hq => s.holds ow_tail (List.mem_cons_of_mem _ hq)) fun i x h => .inl ⟨h, rfl⟩
theorem S.cons_nd {p : Addr × OV} (s : S K T (p :: B) H σ δ) : p.1 ∉ ow δ B := (List.nodup_cons.mp ((ow_loose (p := p.1) (u := p.2)).nodup_iff.mp s.nd)).1
/-- the loose list as data -/
theorem S.frz {p : Addr} {ds : List D} (s : S K T ((p, .lst ds) :: B) H σ δ) : Dp K (dl H (ow δ B)) (.ref p) (.list ds) := by
  obtain ⟨xs, h1, h2⟩ := s.loose _ List.mem_cons_self
  exact .lst (.inl (.inl (dl_of h1 s.cons_nd))) (da_mono (dl_less ow_tail) _ _ h2)
theorem get_set {α : Type} {l : List α} {i j : Nat} {x y : α} (h : (l.set i x)[j]? = some y) : (i = j ∧ i < l.length ∧ y = x) ∨ (i ≠ j ∧ l[j]? = some y) := by
  by_cases e : i = j
  · subst e
    by_cases hl : i < l.length
    · rw [List.getElem?_set_self hl] at h
      exact .inl ⟨rfl, hl, (Option.some.inj h).symm⟩
    · rw [List.getElem?_eq_none_iff.mpr (by rw [List.length_set]; omega)] at h
      cases h
  · rw [List.getElem?_set_ne e] at h
    exact .inr ⟨e, h⟩
/-- a name gets data -/
theorem S.setv (s : S K T B H σ δ) {i : Nat} {v : V} {d : D} (hd : Dp K (dl H (ow δ B)) v d) : S K T B H (σ.set i (some v)) (δ.set i (.val d)) := by
  have hs : (ow (δ.set i (.val d)) B).Sublist (ow δ B) := ow_sub rfl
  refine s.cut (fun a m => hs.subset m) (by rw [List.length_set, List.length_set, s.len]) (s.nd.sublist hs) (fun p hp => s.holds (fun a m => hs.subset m) hp) fun j x h => ?_
  rcases get_set h with ⟨rfl, hl, rfl⟩ | ⟨hne, h⟩
  · refine .inr ⟨v, ?_, dp_mono (dl_less fun a m => hs.subset m) _ _ hd⟩
    rw [List.getElem?_set_self (by rw [s.len]; exact hl)]
  · exact .inl ⟨h, by rw [List.getElem?_set_ne hne]⟩
/-- a name gets what is loose -/
theorem S.setn {p : Addr} {u : OV} (s : S K T ((p, u) :: B) H σ δ) {i : Nat} (hi : i < δ.length) : S K T B H (σ.set i (some (.ref p))) (δ.set i (.own p u)) := by
  have hs : (ow (δ.set i .no) B).Sublist (ow δ B) := ow_sub rfl
  have hp := ow_own (p := p) (u := u) (B := B) hi
  have sub : ∀ a ∈ ow (δ.set i (.own p u)) B, a ∈ ow δ ((p, u) :: B) := fun a m => by
    refine ow_loose.mem_iff.mpr ?_
    rcases List.mem_cons.mp (hp.mem_iff.mp m) with z | z
    · rw [z]; exact List.mem_cons_self
    · exact List.mem_cons_of_mem _ (hs.subset z)
  refine s.cut sub (by rw [List.length_set, List.length_set, s.len]) ?_ (fun q hq => s.holds sub (List.mem_cons_of_mem _ hq)) fun j x h => ?_
  · exact hp.nodup_iff.mpr (((ow_loose (p := p) (u := u)).nodup_iff.mp s.nd).sublist (hs.cons₂ _))
  · rcases get_set h with ⟨rfl, hl, rfl⟩ | ⟨hne, h⟩
    · refine .inr ⟨?_, s.holds (p := (p, u)) sub List.mem_cons_self⟩
      rw [List.getElem?_set_self (by rw [s.len]; exact hl)]
    · exact .inl ⟨h, by rw [List.getElem?_set_ne hne]⟩
/-- a name's list becomes data -/
theorem S.frzAt (s : S K T B H σ δ) {i : Nat} {a : Addr} {ds : List D} (hi : δ[i]? = some (.own a (.lst ds))) : S K T B H σ (δ.set i (.val (.list ds))) := by
  have hs : (ow (δ.set i (.val (.list ds))) B).Sublist (ow δ B) := ow_sub rfl
  obtain ⟨h1, xs, h2, h3⟩ := s.ok i _ hi
  have hl : i < δ.length := (List.getElem?_eq_some_iff.mp hi).1
  have hn : a ∉ ow (δ.set i (.val (.list ds))) B := fun m => by
    have hp := ow_own (δ := δ) (p := a) (u := .lst ds) (B := B) hl
    rw [ow_same hi] at hp
    have e : ow (δ.set i (.val (.list ds))) B = ow (δ.set i .no) B := by
      unfold ow
      congr 1
      clear hs h1 h2 h3 m hp s
      induction δ generalizing i with
      | nil => rfl
      | cons t r ih =>
        cases i with
        | zero => rfl
        | succ i => rw [List.set_cons_succ, List.set_cons_succ, List.flatMap_cons, List.flatMap_cons, ih (by simpa using hi) (by simpa using hl)]
    rw [e] at m
    exact (List.nodup_cons.mp (hp.nodup_iff.mp s.nd)).1 m
  refine s.cut (fun a m => hs.subset m) (by rw [List.length_set, s.len]) (s.nd.sublist hs) (fun p hp => s.holds (fun a m => hs.subset m) hp) fun j x h => ?_
  rcases get_set h with ⟨rfl, hl, rfl⟩ | ⟨hne, h⟩
  · exact .inr ⟨_, h1, .lst (.inl (.inl (dl_of h2 hn))) (da_mono (dl_less fun a m => hs.subset m) _ _ h3)⟩
  · exact .inl ⟨h, rfl⟩
theorem S.no (s : S K T B H σ δ) {i : Nat} : S K T B H σ (δ.set i .no) := by
  have hs : (ow (δ.set i .no) B).Sublist (ow δ B) := ow_sub rfl
  refine s.cut (fun a m => hs.subset m) (by rw [List.length_set, s.len]) (s.nd.sublist hs) (fun p hp => s.holds (fun a m => hs.subset m) hp) fun j x h => ?_
  rcases get_set h with ⟨rfl, hl, rfl⟩ | ⟨hne, h⟩
  · exact .inr trivial
  · exact .inl ⟨h, rfl⟩
/-- the heap goes on, the owned as they stand -/
theorem S.on (s : S K T B H σ δ) (g : Go (ow δ B) (ow δ B) H H') (hT : TabsN T H') (ho : ∀ a ∈ ow δ B, H' a = H a) : S K T B H' σ δ where
  len := s.len
  tab := hT
  nd := s.nd
  loose := fun p hp => (s.loose p hp).mono (dp_mono g.rk) (ho _ (mem_ow.mpr (.inr ⟨p.2, hp⟩)))
  ok := fun i x h => by
    have q := s.ok i x h
    cases x with
    | no => trivial
    | raw v => exact q
    | val d => obtain ⟨v, q1, q2⟩ := q; exact ⟨v, q1, dp_mono g.rk _ _ q2⟩
    | own a u => obtain ⟨q1, q2⟩ := q; exact ⟨q1, q2.mono (dp_mono g.rk) (ho _ (mem_ow.mpr (.inl ⟨i, u, h⟩)))⟩
theorem go_upd {A : List Addr} {p : Addr} {o : HO} (hp : H p = none) : Go A A H (upd H p o) :=
  ⟨fun a o' h _ _ => by rw [upd_ne (ne_of_none h hp)]; exact h, fun a h => upd_none h, fun a m => .inl m⟩
theorem tab_new {p : Addr} {o : HO} (hp : H p = none) (t : TabsN T H) : TabsN T (upd H p o) := t.ext fun b u h => by rw [upd_ne (ne_of_none h hp)]; exact h
theorem S.free (s : S K T B H σ δ) {p : Addr} (hp : H p = none) : p ∉ ow δ B := fun m => by
  obtain ⟨u, hu⟩ := s.at m
  obtain ⟨o, e, _⟩ := hu.some
  rw [hp] at e
  cases e
/-- a new object, frozen -/
theorem S.laid (s : S K T B H σ δ) {p : Addr} {o : HO} (hp : H p = none) : S K T B (upd H p o) σ δ :=
  s.on (go_upd hp) (tab_new hp s.tab) fun a m => upd_ne fun e => s.free hp (e ▸ m)
/-- a new object, owned -/
theorem S.owned (s : S K T B H σ δ) {p : Addr} {o : HO} {u : OV} (hp : H p = none) (hh : Holds K (dl H (ow δ B)) (upd H p o) p u) : S K T ((p, u) :: B) (upd H p o) σ δ := by
  have s1 := s.laid (o := o) hp
  have np := s.free hp
  have e : ∀ d v, Dp K (dl H (ow δ B)) v d → Dp K (dl (upd H p o) (ow δ ((p, u) :: B))) v d := dp_mono fun a q h t => by
    obtain ⟨n, h⟩ := dl_some h
    refine dl_of (by rw [upd_ne (ne_of_none h hp)]; exact h) fun m => ?_
    rcases List.mem_cons.mp (ow_loose.mem_iff.mp m) with z | z
    · rw [z, hp] at h; cases h
    · exact n z
  refine ⟨s.len, s1.tab, fun i x h => ?_, fun q hq => ?_, ow_loose.nodup_iff.mpr (List.nodup_cons.mpr ⟨np, s.nd⟩)⟩
  · have q := s.ok i x h
    cases x with
    | no => trivial
    | raw v => exact q
    | val d => obtain ⟨v, q1, q2⟩ := q; exact ⟨v, q1, e _ _ q2⟩
    | own a w => obtain ⟨q1, q2⟩ := q; exact ⟨q1, q2.mono e (upd_ne fun z => np (z ▸ mem_ow.mpr (.inl ⟨i, w, h⟩)))⟩
  · rcases List.mem_cons.mp hq with z | z
    · rw [z]; exact hh.mono e rfl
    · exact (s.loose q z).mono e (upd_ne fun y => np (y ▸ mem_ow.mpr (.inr ⟨q.2, z⟩)))
theorem go_new {δ : List Sl} {B : List (Addr × OV)} {p : Addr} {o : HO} {u : OV} (hp : H p = none) : Go (ow δ B) (ow δ ((p, u) :: B)) H (upd H p o) :=
  ⟨(go_upd hp).ext, (go_upd (A := []) hp).dom, fun a m => (List.mem_cons.mp (ow_loose.mem_iff.mp m)).elim (fun z => .inr (z ▸ hp)) .inl⟩
theorem tab_upd {a : Addr} {o o' : HO} (ho : H a = some o) (h1 : ∀ ps, o ≠ .tbl ps) (h2 : ∀ φ, o ≠ .ext φ) (t : TabsN T H) : TabsN T (upd H a o') := fun p hp => by
  obtain ⟨ps, q1, q2, q3⟩ := t p hp
  refine ⟨ps, ?_, q2, fun pos cv hc => ?_⟩
  · rw [upd_ne fun e => by rw [e, ho] at q1; exact h1 _ (Option.some.inj q1)]
    exact q1
  · obtain ⟨c, e1, e2⟩ := q3 pos cv hc
    exact ⟨c, e1, by rw [upd_ne fun e => by rw [e, ho] at e2; exact h2 _ (Option.some.inj e2)]; exact e2⟩
theorem holds_obj {L : Hp} {a : Addr} {u : OV} (h : Holds K L H a u) : ∃ o, H a = some o ∧ (∀ ps, o ≠ .tbl ps) ∧ (∀ φ, o ≠ .ext φ) := by
  cases u with
  | lst ds => obtain ⟨xs, h1, h2⟩ := h; exact ⟨_, h1, (fun _ z => by cases z), (fun _ z => by cases z)⟩
  | dK ds => obtain ⟨xs, h1, h2⟩ := h; exact ⟨_, h1, (fun _ z => by cases z), (fun _ z => by cases z)⟩
  | dT ds => obtain ⟨xs, h1, h2⟩ := h; exact ⟨_, h1, (fun _ z => by cases z), (fun _ z => by cases z)⟩
theorem go_own {A : List Addr} {a : Addr} {o' : HO} (ha : a ∈ A) : Go A A H (upd H a o') :=
  ⟨fun b o h n _ => by rw [upd_ne fun e => n (by rw [e]; exact ha)]; exact h, fun b h => upd_none h, fun b m => .inl m⟩
/-- a name's object is changed -/
theorem S.write (s : S K T B H σ δ) {i : Nat} {a : Addr} {u u' : OV} {o' : HO} (hi : δ[i]? = some (.own a u)) (hh : Holds K (dl H (ow δ B)) (upd H a o') a u') : S K T B (upd H a o') σ (δ.set i (.own a u')) := by
  have ma : a ∈ ow δ B := mem_ow.mpr (.inl ⟨i, u, hi⟩)
  obtain ⟨o, q1, q2, q3⟩ := holds_obj (s.ok i _ hi).2
  have g : Go (ow δ B) (ow δ B) H (upd H a o') := go_own ma
  have hl : i < δ.length := (List.getElem?_eq_some_iff.mp hi).1
  have ndp : (a :: ow (δ.set i .no) B).Nodup := by
    have hp := ow_own (δ := δ) (p := a) (u := u) (B := B) hl
    rw [ow_same hi] at hp
    exact hp.nodup_iff.mp s.nd
  have apart : ∀ (j : Nat) (b : Addr) (w : OV), i ≠ j → δ[j]? = some (.own b w) → b ≠ a := fun j b w hne hj e => by
    refine (List.nodup_cons.mp ndp).1 (mem_ow.mpr (.inl ⟨j, w, ?_⟩))
    rw [List.getElem?_set_ne hne, hj, e]
  refine ⟨by rw [List.length_set]; exact s.len, tab_upd q1 q2 q3 s.tab, fun j x h => ?_, fun p hp => ?_, by rw [ow_same hi]; exact s.nd⟩
  · rw [ow_same hi]
    rcases get_set h with ⟨rfl, _, rfl⟩ | ⟨hne, h⟩
    · exact ⟨(s.ok i _ hi).1, hh.mono (dp_mono g.rk) rfl⟩
    · have q := s.ok j x h
      cases x with
      | no => trivial
      | raw v => exact q
      | val d => obtain ⟨v, q1, q2⟩ := q; exact ⟨v, q1, dp_mono g.rk _ _ q2⟩
      | own b w => obtain ⟨q1, q2⟩ := q; exact ⟨q1, q2.mono (dp_mono g.rk) (upd_ne (apart j b w hne h))⟩
  · rw [ow_same hi]
    refine (s.loose p hp).mono (dp_mono g.rk) (upd_ne fun e => ?_)
    refine (List.nodup_cons.mp ndp).1 (mem_ow.mpr (.inr ⟨p.2, ?_⟩))
    rw [← e]
    exact hp
end
end Pl
set_option Elab.async false
set_option linter.all false
set_option maxRecDepth 100000
set_option maxHeartbeats 1000001
namespace Pl
open PySem L2 LamX NdefX
abbrev N0 : Hp := fun _ => none
theorem rk_N0 {H : Hp} : Rk N0 H := fun _ _ h _ => nomatch h
abbrev Lo := List (Addr × OV)
section
variable (K : PySem.W.Frag) (T : List NTab)
/-- v is r -/
def Vr (B : Lo) (σ : L2.St) (δ : List Sl) (H : Hp) (v : V) : R → Prop
  | .val d => Dp K (dl H (ow δ B)) v d
  | .new u => ∃ p, v = .ref p ∧ (p, u) ∈ B
  | .bor i => σ[i]? = some (some v)
def Bx (B B' : Lo) (v : V) : R → Prop
  | .new u => ∃ p, v = .ref p ∧ B' = (p, u) :: B
  | _ => B' = B
structure RS (B B' : Lo) (A0 : List Addr) (H0 H' : Hp) (σ : L2.St) (δ' : List Sl) (v : V) (r : R) : Prop where
  s : S K T B' H' σ δ'
  go : Go A0 (ow δ' B') H0 H'
  vr : Vr K B' σ δ' H' v r
  bx : Bx B B' v r
def Vrs (B : Lo) (σ : L2.St) (δ : List Sl) (H : Hp) : List V → List R → Prop
  | [], [] => True
  | v :: vs, r :: rs => Vr K B σ δ H v r ∧ Vrs B σ δ H vs rs
  | _, _ => False
def Bxs (B B' : Lo) : List V → List R → Prop
  | v :: vs, r :: rs => ∃ B1, Bx B B1 v r ∧ Bxs B1 B' vs rs
  | _, _ => B' = B
structure RSs (B B' : Lo) (A0 : List Addr) (H0 H' : Hp) (σ : L2.St) (δ' : List Sl) (vs : List V) (rs : List R) : Prop where
  s : S K T B' H' σ δ'
  go : Go A0 (ow δ' B') H0 H'
  vr : Vrs K B' σ δ' H' vs rs
  bx : Bxs B B' vs rs
def Ex (te : TE) (δ : List Sl) (P : R → List Sl → Prop) : Prop := ∀ (B : Lo) (H : Hp) (σ : L2.St), S K T B H σ δ → ∀ Q : VK,
  (∀ v H' r δ' B', RS K T B B' (ow δ B) H H' σ δ' v r → P r δ' → Q v H') → te σ H Q
def ExA (ta : TA) (δ : List Sl) (P : List R → List Sl → Prop) : Prop := ∀ (B : Lo) (H : Hp) (σ : L2.St), S K T B H σ δ → ∀ Q : List V → Hp → Prop,
  (∀ vs H' rs δ' B', RSs K T B B' (ow δ B) H H' σ δ' vs rs → P rs δ' → Q vs H') → ta σ H Q
def ExT (tt : TT) (δ : List Sl) (P : Bool → List Sl → Prop) : Prop := ∀ (B : Lo) (H : Hp) (σ : L2.St), S K T B H σ δ → ∀ Q : Bool → Hp → Prop,
  (∀ b H' δ', S K T B H' σ δ' → Go (ow δ B) (ow δ' B) H H' → P b δ' → Q b H') → tt σ H Q
/-- read as data -/
def AsD (δ : List Sl) : R → D → Prop
  | .val d, x => x = d
  | .new (.lst ds), x => x = .list ds
  | .bor i, x => ∃ a ds, δ[i]? = some (.own a (.lst ds)) ∧ x = .list ds
  | _, _ => False
def AsDs (δ : List Sl) : List R → List D → Prop
  | [], [] => True
  | r :: rs, d :: ds => AsD δ r d ∧ AsDs δ rs ds
  | _, _ => False
/-- what an operation may give -/
structure Out (H : Hp) (P : R → Prop) (Q : VK) : Prop where
  val : ∀ u z, Dp K N0 u z → P (.val z) → Q u H
  old : ∀ u z, Dp K H u z → imm z = true → P (.val z) → Q u H
  lst : ∀ p xs es, H p = none → DpAll K H xs es → immAll es = true → P (.new (.lst es)) → Q (.ref p) (upd H p (.lst xs))
  tup : ∀ p xs es, H p = none → DpAll K H xs es → immAll es = true → P (.val (.tuple es)) → Q (.ref p) (upd H p (.tup xs))
  dK : ∀ p, H p = none → P (.new (.dK [])) → Q (.ref p) (upd H p (.dK []))
  dT : ∀ p, H p = none → P (.new (.dT [])) → Q (.ref p) (upd H p (.dT []))
def OpD (rr : R2) (x y : D) (P : R → Prop) : Prop := ∀ (H : Hp) (v w : V) (Q : VK), Dp K H v x → Dp K H w y → Out K H P Q → rr v w H Q
def UnD (rr : V → Hp → VK → Prop) (x : D) (P : R → Prop) : Prop := ∀ (H : Hp) (v : V) (Q : VK), Dp K H v x → Out K H P Q → rr v H Q
def CbD (rr : List V → Hp → VK → Prop) (ds : List D) (P : R → Prop) : Prop := ∀ (H : Hp) (vs : List V) (Q : VK), DpAll K H vs ds → Out K H P Q → rr vs H Q
end
section
variable {K : PySem.W.Frag} {T : List NTab} {B B' B1 : Lo} {A0 : List Addr} {H0 H H' : Hp} {σ : L2.St} {δ δ' : List Sl} {v : V} {r : R} {P : R → List Sl → Prop} {te ta tb : TE} {tt t1 t2 : TT}
theorem Bx.suf (h : Bx B B' v r) : ∃ C, B' = C ++ B := by
  cases r with
  | val d => exact ⟨[], h⟩
  | new u => obtain ⟨p, _, e⟩ := h; exact ⟨[(p, u)], e⟩
  | bor i => exact ⟨[], h⟩
theorem Bxs.suf : ∀ {vs : List V} {rs : List R} {B : Lo}, Bxs B B' vs rs → ∃ C, B' = C ++ B
  | [], _, _, h => ⟨[], h⟩
  | _ :: _, [], _, h => ⟨[], h⟩
  | v :: vs, r :: rs, B, ⟨B1, h1, h2⟩ => by
    obtain ⟨C, rfl⟩ := h1.suf
    obtain ⟨C', rfl⟩ := Bxs.suf h2
    exact ⟨C' ++ C, by rw [List.append_assoc]⟩
theorem S.dropAll : ∀ {C : Lo}, S K T (C ++ B) H σ δ → S K T B H σ δ
  | [], h => h
  | _ :: C, h => S.dropAll (C := C) h.drop
theorem ow_suf {C : Lo} : ∀ a ∈ ow δ B, a ∈ ow δ (C ++ B) := fun a m => by
  rcases mem_ow.mp m with h | ⟨u, h⟩
  · exact mem_ow.mpr (.inl h)
  · exact mem_ow.mpr (.inr ⟨u, List.mem_append_right _ h⟩)
theorem Vr.later {δ2 : List Sl} {H2 : Hp} {C : Lo} (h : Vr K B σ δ H v r) (g : Go (ow δ B) (ow δ2 (C ++ B)) H H2) : Vr K (C ++ B) σ δ2 H2 v r := by
  cases r with
  | val d => exact dp_mono g.rk _ _ h
  | new u => obtain ⟨p, e, m⟩ := h; exact ⟨p, e, List.mem_append_right _ m⟩
  | bor i => exact h
theorem Vr.dp (s : S K T B H σ δ) (h : Vr K B σ δ H v r) {x : D} (a : AsD δ r x) : Dp K H v x := by
  cases r with
  | val d => cases a; exact dp_full h
  | new u =>
    obtain ⟨p, rfl, m⟩ := h
    cases u with
    | lst ds =>
      cases a
      obtain ⟨xs, h1, h2⟩ := s.loose _ m
      exact .lst (.inl (.inl h1)) (da_mono dl_rk _ _ h2)
    | dK _ => exact a.elim
    | dT _ => exact a.elim
  | bor i =>
    obtain ⟨b, ds, h1, rfl⟩ := a
    obtain ⟨q1, xs, q2, q3⟩ := s.ok i _ h1
    have h : σ[i]? = some (some v) := h
    rw [h] at q1
    cases q1
    exact .lst (.inl (.inl q2)) (da_mono dl_rk _ _ q3)
theorem Vrs.dp (s : S K T B H σ δ) : ∀ {vs : List V} {rs : List R} {ds : List D}, Vrs K B σ δ H vs rs → AsDs δ rs ds → DpAll K H vs ds
  | [], [], [], _, _ => .nil
  | v :: vs, r :: rs, d :: ds, h, a => .cons (h.1.dp s a.1) (Vrs.dp s h.2 a.2)
  | [], _ :: _, _, h, _ => h.elim
  | _ :: _, [], _, h, _ => h.elim
  | [], [], _ :: _, _, a => a.elim
  | _ :: _, _ :: _, [], _, a => a.elim
/-- the ends of an operation at a state -/
theorem out_rs {Q : VK} (s : S K T B H σ δ) (g : Go A0 (ow δ B) H0 H) (k : ∀ v H' r δ' B', RS K T B B' A0 H0 H' σ δ' v r → P r δ' → Q v H') : Out K H (fun r => P r δ) Q where
  val := fun u z h p => k u H (.val z) δ B ⟨s, g, dp_mono rk_N0 _ _ h, rfl⟩ p
  old := fun u z h hi p => k u H (.val z) δ B ⟨s, g, s.imm hi h, rfl⟩ p
  lst := fun p xs es hp hx hi pr => k _ _ (.new (.lst es)) δ ((p, .lst es) :: B) ⟨s.owned hp ⟨xs, upd_same, da_imm s.tk _ _ hi hx⟩, g.trans (go_new hp), ⟨p, rfl, List.mem_cons_self⟩, ⟨p, rfl, rfl⟩⟩ pr
  tup := fun p xs es hp hx hi pr => k _ _ (.val (.tuple es)) δ B ⟨s.laid hp, g.trans (go_upd hp),
    .tup (.inl (.inl (dl_of upd_same (s.free hp)))) (da_mono (go_upd hp).rk _ _ (da_imm s.tk _ _ hi hx)), rfl⟩ pr
  dK := fun p hp pr => k _ _ (.new (.dK [])) δ ((p, .dK []) :: B) ⟨s.owned hp ⟨[], upd_same, trivial⟩, g.trans (go_new hp), ⟨p, rfl, List.mem_cons_self⟩, ⟨p, rfl, rfl⟩⟩ pr
  dT := fun p hp pr => k _ _ (.new (.dT [])) δ ((p, .dT []) :: B) ⟨s.owned hp ⟨[], upd_same, trivial⟩, g.trans (go_new hp), ⟨p, rfl, List.mem_cons_self⟩, ⟨p, rfl, rfl⟩⟩ pr
theorem out_suf {Q : VK} {C : Lo} (s : S K T (C ++ B) H σ δ) (g : Go A0 (ow δ (C ++ B)) H0 H) (k : ∀ v H' r δ' B', RS K T B B' A0 H0 H' σ δ' v r → P r δ' → Q v H') : Out K H (fun r => P r δ) Q :=
  out_rs s.dropAll (g.less ow_suf) k
theorem ex_var {i : Nat} {d : D} (h : δ[i]? = some (.val d)) (p : P (.val d) δ) : Ex K T (tVar i) δ P := fun B H σ s Q k => by
  obtain ⟨v, h1, h2⟩ := s.ok i _ h
  exact ⟨v, h1, k v H (.val d) δ B ⟨s, .refl, h2, rfl⟩ p⟩
theorem ex_bor {i : Nat} {a : Addr} {u : OV} (h : δ[i]? = some (.own a u)) (p : P (.bor i) δ) : Ex K T (tVar i) δ P := fun B H σ s Q k => by
  obtain ⟨h1, h2⟩ := s.ok i _ h
  exact ⟨.ref a, h1, k _ H (.bor i) δ B ⟨s, .refl, h1, rfl⟩ p⟩
theorem ex_c {c : V} {d : D} (h : Dp K N0 c d) (p : P (.val d) δ) : Ex K T (tC c) δ P := fun B H σ s Q k => k c H (.val d) δ B ⟨s, .refl, dp_mono rk_N0 _ _ h, rfl⟩ p
theorem ex_int {i : Int} (p : P (.val (.int i)) δ) : Ex K T (tC (.int i)) δ P := ex_c (.int _) p
theorem ex_bl {b : Bool} (p : P (.val (.bool b)) δ) : Ex K T (tC (.bl b)) δ P := ex_c (.bl _) p
theorem ex_str {x : Str} (p : P (.val (.str x)) δ) : Ex K T (tC (.str x)) δ P := ex_c (.str _) p
theorem ex_non (p : P (.val .none) δ) : Ex K T (tC .non) δ P := ex_c .non p
theorem Ex.imp {P' : R → List Sl → Prop} (h : Ex K T te δ P) (k : ∀ r δ', P r δ' → P' r δ') : Ex K T te δ P' := fun B H σ s Q q => h B H σ s Q fun v H' r δ' B' rs p => q v H' r δ' B' rs (k r δ' p)
theorem ExT.imp {P P' : Bool → List Sl → Prop} (h : ExT K T tt δ P) (k : ∀ r δ', P r δ' → P' r δ') : ExT K T tt δ P' := fun B H σ s Q q => h B H σ s Q fun v H' δ' rs g p => q v H' δ' rs g (k v δ' p)
theorem ex_op {rr : R2} (h : Ex K T ta δ fun r1 δ1 => Ex K T tb δ1 fun r2 δ2 => ∃ x y, AsD δ2 r1 x ∧ AsD δ2 r2 y ∧ OpD K rr x y fun z => P z δ2) : Ex K T (tOp rr ta tb) δ P := fun B H σ s Q k =>
  h B H σ s _ fun v H1 r1 δ1 B1 R1 h1 => h1 B1 H1 σ R1.s _ fun w H2 r2 δ2 B2 R2 ⟨x, y, a1, a2, o⟩ => by
    obtain ⟨C1, rfl⟩ := R1.bx.suf
    obtain ⟨C2, rfl⟩ := R2.bx.suf
    have s2 := R2.s
    have d1 := (R1.vr.later R2.go).dp s2 a1
    have d2 := R2.vr.dp s2 a2
    have g := R1.go.trans R2.go
    rw [← List.append_assoc] at s2 g
    exact o H2 v w Q d1 d2 (out_suf s2 g k)
theorem ex_un {rr : V → Hp → VK → Prop} (h : Ex K T ta δ fun r1 δ1 => ∃ x, AsD δ1 r1 x ∧ UnD K rr x fun z => P z δ1) : Ex K T (tUn rr ta) δ P := fun B H σ s Q k =>
  h B H σ s _ fun v H1 r1 δ1 B1 R1 ⟨x, a1, o⟩ => by
    obtain ⟨C1, rfl⟩ := R1.bx.suf
    exact o H1 v Q (R1.vr.dp R1.s a1) (out_suf R1.s R1.go k)
theorem opd_I0 {g : Int → Int → V} {i j : Int} {z : D} {P : R → Prop} (hz : Dp K N0 (g i j) z) (h : P (.val z)) : OpD K (rI0 g) (.int i) (.int j) P := fun H v w Q h1 h2 o => by
  cases h1
  cases h2
  exact ⟨i, j, rfl, rfl, o.val _ _ hz h⟩
theorem opd_I {C : Int → Int → Prop} {g : Int → Int → V} {i j : Int} {z : D} {P : R → Prop} (hc : C i j) (hz : Dp K N0 (g i j) z) (h : P (.val z)) : OpD K (rI C g) (.int i) (.int j) P := fun H v w Q h1 h2 o => by
  cases h1
  cases h2
  exact ⟨i, j, rfl, rfl, hc, o.val _ _ hz h⟩
theorem und_I {g : Int → V} {i : Int} {z : D} {P : R → Prop} (hz : Dp K N0 (g i) z) (h : P (.val z)) : UnD K (rU g) (.int i) P := fun H v Q h1 o => by
  cases h1
  exact ⟨i, rfl, o.val _ _ hz h⟩
theorem opd_eqD {x y : D} {P : R → Prop} (hx : SeqAt.shaped x = true) (hy : SeqAt.shaped y = true) (h : P (.val (.bool (PyData.eqv x y)))) : OpD K (rEqD K) x y P := fun H v w Q h1 h2 o => ⟨x, y, h1, h2, hx, hy, o.val _ _ (.bl _) h⟩
theorem opd_neD {x y : D} {P : R → Prop} (hx : SeqAt.shaped x = true) (hy : SeqAt.shaped y = true) (h : P (.val (.bool (!PyData.eqv x y)))) : OpD K (rNeD K) x y P := fun H v w Q h1 h2 o => ⟨x, y, h1, h2, hx, hy, o.val _ _ (.bl _) h⟩
theorem opd_inD {x : D} {ds : List D} {P : R → Prop} (hx : SeqAt.shaped x = true) (hy : SeqAt.shaped (.list ds) = true) (h : P (.val (.bool (ds.any fun z => PyData.eqv z x)))) : OpD K (rInD K) x (.list ds) P := fun H v w Q h1 h2 o => ⟨x, ds, h1, h2, hx, hy, o.val _ _ (.bl _) h⟩
theorem opd_notInD {x : D} {ds : List D} {P : R → Prop} (hx : SeqAt.shaped x = true) (hy : SeqAt.shaped (.list ds) = true) (h : P (.val (.bool (!ds.any fun z => PyData.eqv z x)))) : OpD K (rNotInD K) x (.list ds) P := fun H v w Q h1 h2 o => ⟨x, ds, h1, h2, hx, hy, o.val _ _ (.bl _) h⟩
/-- ints and bools compared -/
theorem opd_eqI {i j : Int} {P : R → Prop} (h : P (.val (.bool (decide (i = j))))) : OpD K rEq (.int i) (.int j) P := fun H v w Q h1 h2 o => by
  cases h1
  cases h2
  refine ⟨rfl, o.val _ _ (.bl _) ?_⟩
  have e : decide (V.int i = V.int j) = decide (i = j) := decide_eq_decide.mpr ⟨fun e => by cases e; rfl, fun e => by rw [e]⟩
  rw [e]
  exact h
theorem opd_neI {i j : Int} {P : R → Prop} (h : P (.val (.bool (!decide (i = j))))) : OpD K rNe (.int i) (.int j) P := fun H v w Q h1 h2 o => by
  cases h1
  cases h2
  refine ⟨rfl, o.val _ _ (.bl _) ?_⟩
  have e : decide (V.int i = V.int j) = decide (i = j) := decide_eq_decide.mpr ⟨fun e => by cases e; rfl, fun e => by rw [e]⟩
  rw [e]
  exact h
theorem exa_nil {P : List R → List Sl → Prop} (p : P [] δ) : ExA K T tNil δ P := fun B H σ s Q k => k [] H [] δ B ⟨s, .refl, trivial, rfl⟩ p
theorem Vrs.later {δ2 : List Sl} {H2 : Hp} {C : Lo} (g : Go (ow δ B) (ow δ2 (C ++ B)) H H2) : ∀ {vs : List V} {rs : List R}, Vrs K B σ δ H vs rs → Vrs K (C ++ B) σ δ2 H2 vs rs
  | [], [], _ => trivial
  | _ :: _, _ :: _, h => ⟨h.1.later g, Vrs.later g h.2⟩
  | [], _ :: _, h => h.elim
  | _ :: _, [], h => h.elim
theorem exa_cons {P : List R → List Sl → Prop} {tr : TA} (h : Ex K T te δ fun r δ1 => ExA K T tr δ1 fun rs δ2 => P (r :: rs) δ2) : ExA K T (tCons te tr) δ P := fun B H σ s Q k =>
  h B H σ s _ fun v H1 r δ1 B1 R1 h1 => h1 B1 H1 σ R1.s _ fun vs H2 rs δ2 B2 R2 p => by
    obtain ⟨C2, e2⟩ := R2.bx.suf
    refine k (v :: vs) H2 (r :: rs) δ2 B2 ⟨R2.s, R1.go.trans R2.go, ⟨?_, R2.vr⟩, B1, R1.bx, R2.bx⟩ p
    have q := R2.go
    rw [e2] at q ⊢
    exact R1.vr.later q
/-- all are data -/
def Vals0 : List R → List D → Prop
  | [], [] => True
  | .val d :: rs, e :: ds => e = d ∧ Vals0 rs ds
  | _, _ => False
theorem vals0_bx : ∀ {vs : List V} {rs : List R} {ds : List D} {B : Lo}, Bxs B B' vs rs → Vals0 rs ds → B' = B
  | [], [], [], _, h, _ => h
  | _ :: _, .val d :: rs, e :: ds, B, ⟨B1, h1, h2⟩, a => by
    have e1 : B1 = B := h1
    rw [← e1]
    exact vals0_bx h2 a.2
  | [], .val d :: rs, e :: ds, _, h, _ => h
  | _ :: _, [], [], _, h, _ => h
  | _, .new _ :: _, _, _, _, a => by cases a
  | _, .bor _ :: _, _, _, _, a => by cases a
  | _, [], _ :: _, _, _, a => a.elim
  | _, .val _ :: _, [], _, _, a => by cases a
theorem vals0_dp : ∀ {vs : List V} {rs : List R} {ds : List D}, Vrs K B σ δ H vs rs → Vals0 rs ds → DpAll K (dl H (ow δ B)) vs ds
  | [], [], [], _, _ => .nil
  | _ :: _, .val d :: rs, e :: ds, h, a => by
    obtain ⟨a1, a2⟩ := a
    subst a1
    exact .cons h.1 (vals0_dp h.2 a2)
  | [], .val d :: rs, e :: ds, h, _ => h.elim
  | _ :: _, [], [], h, _ => h.elim
  | _, .new _ :: _, _, _, a => by cases a
  | _, .bor _ :: _, _, _, a => by cases a
  | _, [], _ :: _, _, a => a.elim
  | _, .val _ :: _, [], _, a => by cases a
theorem ex_tup {ta : TA} (h : ExA K T ta δ fun rs δ1 => ∃ ds, Vals0 rs ds ∧ ds.length ≤ 100000 ∧ P (.val (.tuple ds)) δ1) : Ex K T (tTup ta) δ P := fun B H σ s Q k =>
  h B H σ s _ fun vs H1 rs δ1 B1 R1 ⟨ds, a, hl, p⟩ => by
    obtain rfl := vals0_bx R1.bx a
    have hd := vals0_dp R1.vr a
    refine ⟨by rw [da_len hd]; exact Nat.le_trans hl (by decide), fun q hq => k _ _ (.val (.tuple ds)) δ1 _ ⟨R1.s.laid hq, R1.go.trans (go_upd hq), ?_, rfl⟩ p⟩
    exact .tup (.inl (.inl (dl_of upd_same (R1.s.free hq)))) (da_mono (go_upd hq).rk _ _ hd)
theorem ex_lst {ta : TA} (h : ExA K T ta δ fun rs δ1 => ∃ ds, Vals0 rs ds ∧ ds.length ≤ 100000 ∧ P (.new (.lst ds)) δ1) : Ex K T (tLst ta) δ P := fun B H σ s Q k =>
  h B H σ s _ fun vs H1 rs δ1 B1 R1 ⟨ds, a, hl, p⟩ => by
    obtain rfl := vals0_bx R1.bx a
    have hd := vals0_dp R1.vr a
    exact ⟨by rw [da_len hd]; exact Nat.le_trans hl (by decide), fun q hq => k _ _ (.new (.lst ds)) δ1 _ ⟨R1.s.owned (u := .lst ds) hq ⟨vs, upd_same, hd⟩, R1.go.trans (go_new hq), ⟨q, rfl, List.mem_cons_self⟩, ⟨q, rfl, rfl⟩⟩ p⟩
theorem at_dp {xs : List V} {ds : List D} {i : Int} {d : D} (h : DpAll K H xs ds) (e : atI ds i = some d) : ∃ v, atI xs i = some v ∧ Dp K H v d := by
  unfold atI at e ⊢
  rw [da_len h]
  cases q : ixN ds.length i with
  | none => rw [q] at e; cases e
  | some j =>
    rw [q] at e
    exact da_get h e
theorem ex_ixL (h : Ex K T ta δ fun r1 δ1 => Ex K T tb δ1 fun r2 δ2 => ∃ ds i d, AsD δ2 r1 (.list ds) ∧ AsD δ2 r2 (.int i) ∧ atI ds i = some d ∧ (imm d = true ∨ ∃ e, r1 = .val e) ∧ P (.val d) δ2) : Ex K T (tOp (rIxL K) ta tb) δ P := fun B H σ s Q k =>
  h B H σ s _ fun v H1 r1 δ1 B1 R1 h1 => h1 B1 H1 σ R1.s _ fun w H2 r2 δ2 B2 R2 ⟨ds, i, d, a1, a2, e, hi, p⟩ => by
    obtain ⟨C1, rfl⟩ := R1.bx.suf
    obtain ⟨C2, rfl⟩ := R2.bx.suf
    have s2 := R2.s
    have v1 := R1.vr.later R2.go
    have d2 := R2.vr.dp s2 a2
    have g := R1.go.trans R2.go
    have s3 := s2
    have g3 := g
    rw [← List.append_assoc] at s3 g3
    have sB := s3.dropAll
    have gB := g3.less ow_suf
    cases d2
    rcases hi with hi | ⟨e1, rfl⟩
    · have d1 := v1.dp s2 a1
      cases d1 with
      | lst hs ha =>
        obtain ⟨u, e1, e2⟩ := at_dp ha e
        exact ⟨_, _, i, u, rfl, rfl, hs, e1, k u H2 (.val d) δ2 B ⟨sB, gB, sB.imm hi e2, rfl⟩ p⟩
    · cases a1
      have v1 : Dp K (dl H2 (ow δ2 (C2 ++ (C1 ++ B)))) v (.list ds) := v1
      cases v1 with
      | lst hs ha =>
        obtain ⟨u, e1, e2⟩ := at_dp ha e
        refine ⟨_, _, i, u, rfl, rfl, dl_rk.sqL hs, e1, k u H2 (.val d) δ2 B ⟨sB, gB, dp_mono (dl_less fun a m => ?_) _ _ e2, rfl⟩ p⟩
        rw [← List.append_assoc]
        exact ow_suf a m
theorem ex_ixT (h : Ex K T ta δ fun r1 δ1 => Ex K T tb δ1 fun r2 δ2 => ∃ ds i d, r1 = .val (.tuple ds) ∧ AsD δ2 r2 (.int i) ∧ atI ds i = some d ∧ P (.val d) δ2) : Ex K T (tOp (rIxT K) ta tb) δ P := fun B H σ s Q k =>
  h B H σ s _ fun v H1 r1 δ1 B1 R1 h1 => h1 B1 H1 σ R1.s _ fun w H2 r2 δ2 B2 R2 ⟨ds, i, d, a1, a2, e, p⟩ => by
    obtain ⟨C1, rfl⟩ := R1.bx.suf
    obtain ⟨C2, rfl⟩ := R2.bx.suf
    have s2 := R2.s
    have v1 := R1.vr.later R2.go
    have d2 := R2.vr.dp s2 a2
    have g := R1.go.trans R2.go
    have s3 := s2
    have g3 := g
    rw [← List.append_assoc] at s3 g3
    have sB := s3.dropAll
    have gB := g3.less ow_suf
    cases d2
    subst a1
    have v1 : Dp K (dl H2 (ow δ2 (C2 ++ (C1 ++ B)))) v (.tuple ds) := v1
    cases v1 with
    | tup hs ha =>
      obtain ⟨u, e1, e2⟩ := at_dp ha e
      refine ⟨_, _, i, u, rfl, rfl, dl_rk.sqT hs, e1, k u H2 (.val d) δ2 B ⟨sB, gB, dp_mono (dl_less fun a m => ?_) _ _ e2, rfl⟩ p⟩
      rw [← List.append_assoc]
      exact ow_suf a m
theorem et_B {P' : Bool → List Sl → Prop} (h : Ex K T te δ fun r δ' => ∃ b, r = .val (.bool b) ∧ P' b δ') : ExT K T (tB te) δ P' := fun B H σ s Q k =>
  h B H σ s _ fun v H1 r δ1 B1 R1 ⟨b, e, p⟩ => by
    subst e
    have hb : B1 = B := R1.bx
    subst hb
    have v1 : Dp K _ v (.bool b) := R1.vr
    cases v1
    exact ⟨b, rfl, k b H1 δ1 R1.s R1.go p⟩
theorem et_test {P' : Bool → List Sl → Prop} (h : Ex K T te δ fun r δ' => ∃ b, r = .val (.bool b) ∧ P' b δ') : ExT K T (tTest te) δ P' := fun B H σ s Q k =>
  h B H σ s _ fun v H1 r δ1 B1 R1 ⟨b, e, p⟩ => by
    subst e
    have hb : B1 = B := R1.bx
    subst hb
    have v1 : Dp K _ v (.bool b) := R1.vr
    cases v1
    exact ⟨b, rfl, k b H1 δ1 R1.s R1.go p⟩
theorem et_and {P' : Bool → List Sl → Prop} (h : ExT K T t1 δ fun b δ1 => if b = true then ExT K T t2 δ1 P' else P' false δ1) : ExT K T (tAnd t1 t2) δ P' := fun B H σ s Q k =>
  h B H σ s _ fun b H1 δ1 s1 g1 p => by
    cases b with
    | true =>
      show t2 σ H1 Q
      rw [if_pos rfl] at p
      exact p B H1 σ s1 Q fun b H2 δ2 s2 g2 p2 => k b H2 δ2 s2 (g1.trans g2) p2
    | false =>
      show Q false H1
      rw [if_neg Bool.false_ne_true] at p
      exact k false H1 δ1 s1 g1 p
theorem et_or {P' : Bool → List Sl → Prop} (h : ExT K T t1 δ fun b δ1 => if b = true then P' true δ1 else ExT K T t2 δ1 P') : ExT K T (tOr t1 t2) δ P' := fun B H σ s Q k =>
  h B H σ s _ fun b H1 δ1 s1 g1 p => by
    cases b with
    | true =>
      show Q true H1
      rw [if_pos rfl] at p
      exact k true H1 δ1 s1 g1 p
    | false =>
      show t2 σ H1 Q
      rw [if_neg Bool.false_ne_true] at p
      exact p B H1 σ s1 Q fun b H2 δ2 s2 g2 p2 => k b H2 δ2 s2 (g1.trans g2) p2
theorem ex_andV (h : Ex K T ta δ fun r δ1 => ∃ b, r = .val (.bool b) ∧ if b = true then Ex K T tb δ1 P else P (.val (.bool false)) δ1) : Ex K T (tAndV ta tb) δ P := fun B H σ s Q k =>
  h B H σ s _ fun v H1 r δ1 B1 R1 ⟨b, e, p⟩ => by
    subst e
    have hb : B1 = B := R1.bx
    subst hb
    have v1 : Dp K _ v (.bool b) := R1.vr
    cases v1
    refine ⟨b, rfl, ?_⟩
    cases b with
    | true =>
      rw [if_pos rfl] at p ⊢
      exact p B1 H1 σ R1.s Q fun v H2 r δ2 B2 R2 p2 => k v H2 r δ2 B2 ⟨R2.s, R1.go.trans R2.go, R2.vr, R2.bx⟩ p2
    | false =>
      rw [if_neg Bool.false_ne_true] at p ⊢
      exact k _ H1 (.val (.bool _)) δ1 B1 ⟨R1.s, R1.go, Dp.bl _, rfl⟩ p
theorem ex_orV (h : Ex K T ta δ fun r δ1 => ∃ b, r = .val (.bool b) ∧ if b = true then P (.val (.bool true)) δ1 else Ex K T tb δ1 P) : Ex K T (tOrV ta tb) δ P := fun B H σ s Q k =>
  h B H σ s _ fun v H1 r δ1 B1 R1 ⟨b, e, p⟩ => by
    subst e
    have hb : B1 = B := R1.bx
    subst hb
    have v1 : Dp K _ v (.bool b) := R1.vr
    cases v1
    refine ⟨b, rfl, ?_⟩
    cases b with
    | true =>
      rw [if_pos rfl] at p ⊢
      exact k _ H1 (.val (.bool _)) δ1 B1 ⟨R1.s, R1.go, Dp.bl _, rfl⟩ p
    | false =>
      rw [if_neg Bool.false_ne_true] at p ⊢
      exact p B1 H1 σ R1.s Q fun v H2 r δ2 B2 R2 p2 => k v H2 r δ2 B2 ⟨R2.s, R1.go.trans R2.go, R2.vr, R2.bx⟩ p2
theorem ex_notV (h : Ex K T ta δ fun r δ1 => ∃ b, r = .val (.bool b) ∧ P (.val (.bool (!b))) δ1) : Ex K T (tNotV ta) δ P := fun B H σ s Q k =>
  h B H σ s _ fun v H1 r δ1 B1 R1 ⟨b, e, p⟩ => by
    subst e
    have hb : B1 = B := R1.bx
    subst hb
    have v1 : Dp K _ v (.bool b) := R1.vr
    cases v1
    exact ⟨b, rfl, k _ H1 (.val (.bool _)) δ1 B1 ⟨R1.s, R1.go, Dp.bl _, rfl⟩ p⟩
theorem ex_if (h : ExT K T tt δ fun b δ1 => if b = true then Ex K T ta δ1 P else Ex K T tb δ1 P) : Ex K T (tIf tt ta tb) δ P := fun B H σ s Q k =>
  h B H σ s _ fun b H1 δ1 s1 g1 p => by
    cases b with
    | true =>
      rw [if_pos rfl] at p ⊢
      exact p B H1 σ s1 Q fun v H2 r δ2 B2 R2 p2 => k v H2 r δ2 B2 ⟨R2.s, g1.trans R2.go, R2.vr, R2.bx⟩ p2
    | false =>
      rw [if_neg Bool.false_ne_true] at p ⊢
      exact p B H1 σ s1 Q fun v H2 r δ2 B2 R2 p2 => k v H2 r δ2 B2 ⟨R2.s, g1.trans R2.go, R2.vr, R2.bx⟩ p2
end
end Pl
set_option Elab.async false
set_option linter.all false
set_option maxRecDepth 100000
set_option maxHeartbeats 1000001
namespace Pl
open PySem L2 LamX NdefX
structure Es where
  nx : List Sl → Prop
  rt : R → List Sl → Prop
  bk : List Sl → Prop := fun _ => False
  ct : List Sl → Prop := fun _ => False
section
variable (K : PySem.W.Frag) (T : List NTab)
def Ss (ts : TS) (δ : List Sl) (E : Es) : Prop := ∀ (B : Lo) (H : Hp) (σ : L2.St), S K T B H σ δ → ∀ D : Ends,
  (∀ σ' H' δ', S K T B H' σ' δ' → Go (ow δ B) (ow δ' B) H H' → E.nx δ' → D.nx σ' H') →
  (∀ v σ' H' r δ' B', RS K T B B' (ow δ B) H H' σ' δ' v r → E.rt r δ' → D.rt v H') →
  (∀ σ' H' δ', S K T B H' σ' δ' → Go (ow δ B) (ow δ' B) H H' → E.bk δ' → D.bk σ' H') →
  (∀ σ' H' δ', S K T B H' σ' δ' → Go (ow δ B) (ow δ' B) H H' → E.ct δ' → D.ct σ' H') → ts D σ H
/-- a target gets data -/
def Gt (g : TG) (d : D) (δ : List Sl) (N : List Sl → Prop) : Prop := ∀ (B : Lo) (H : Hp) (σ : L2.St) (v : V), S K T B H σ δ → Dp K (dl H (ow δ B)) v d → ∀ Q : L2.St → Hp → Prop,
  (∀ σ' δ', S K T B H σ' δ' → Go (ow δ B) (ow δ' B) H H → N δ' → Q σ' H) → g v σ H Q
def StoreR (i : Nat) (δ : List Sl) (N : List Sl → Prop) : R → Prop
  | .val d => N (δ.set i (.val d))
  | .new u => i < δ.length ∧ ∀ p, N (δ.set i (.own p u))
  | .bor _ => False
/-- frozen -/
def Fz : R → D → Prop
  | .val d, x => x = d
  | .new (.lst ds), x => x = .list ds
  | _, _ => False
end
section
variable {K : PySem.W.Frag} {T : List NTab} {B B' B1 : Lo} {A0 : List Addr} {H0 H H' : Hp} {σ : L2.St} {δ δ' : List Sl} {v : V} {r : R} {E : Es} {te ta tb : TE} {tt t1 t2 : TT} {ts t u : TS} {g : TG}
theorem Go.set {x : Sl} {i : Nat} (h : ow1 x = []) : Go (ow δ B) (ow (δ.set i x) B) H H := (Go.refl (A := ow δ B)).less fun a m => (ow_sub h).subset m
theorem rs_fz {d : D} (h : RS K T B B' A0 H0 H σ δ v r) (f : Fz r d) : S K T B H σ δ ∧ Go A0 (ow δ B) H0 H ∧ Dp K (dl H (ow δ B)) v d := by
  cases r with
  | val e =>
    cases f
    have e1 : B' = B := h.bx
    subst e1
    exact ⟨h.s, h.go, h.vr⟩
  | new u =>
    cases u with
    | lst ds =>
      cases f
      obtain ⟨p, rfl, e1⟩ := h.bx
      subst e1
      exact ⟨h.s.drop, h.go.less ow_tail, h.s.frz⟩
    | dK _ => exact f.elim
    | dT _ => exact f.elim
  | bor i => exact f.elim
theorem gt_name {i : Nat} {d : D} {N : List Sl → Prop} (h : N (δ.set i (.val d))) : Gt K T (gName i) d δ N := fun B H σ v s hd Q k => k _ _ (s.setv hd) (Go.set rfl) h
theorem ss_next (h : E.nx δ) : Ss K T tNext δ E := fun B H σ s D kn _ _ _ => kn σ H δ s .refl h
theorem ss_break (h : E.bk δ) : Ss K T tBreak δ E := fun B H σ s D _ _ kb _ => kb σ H δ s .refl h
theorem ss_cont (h : E.ct δ) : Ss K T tCont δ E := fun B H σ s D _ _ _ kc => kc σ H δ s .refl h
theorem RS.pre {A1 : List Addr} {H1 : Hp} (g : Go A0 A1 H0 H1) (h : RS K T B B' A1 H1 H σ δ v r) : RS K T B B' A0 H0 H σ δ v r := ⟨h.s, g.trans h.go, h.vr, h.bx⟩
theorem ss_seq (h : Ss K T t δ { E with nx := fun δ1 => Ss K T u δ1 E }) : Ss K T (tSeq t u) δ E := fun B H σ s D kn kr kb kc =>
  h B H σ s { D with nx := u D } (fun σ1 H1 δ1 s1 g1 q => q B H1 σ1 s1 D (fun σ2 H2 δ2 s2 g2 n => kn σ2 H2 δ2 s2 (g1.trans g2) n) (fun v σ2 H2 r δ2 B2 R2 n => kr v σ2 H2 r δ2 B2 (R2.pre g1) n)
    (fun σ2 H2 δ2 s2 g2 n => kb σ2 H2 δ2 s2 (g1.trans g2) n) (fun σ2 H2 δ2 s2 g2 n => kc σ2 H2 δ2 s2 (g1.trans g2) n)) kr kb kc
/-- from a state on, behind a step -/
theorem Ss.after {H1 : Hp} {σ1 : L2.St} {δ1 : List Sl} (q : Ss K T t δ1 E) (s1 : S K T B H1 σ1 δ1) (g1 : Go (ow δ B) (ow δ1 B) H H1) {D : Ends}
    (kn : ∀ σ' H' δ', S K T B H' σ' δ' → Go (ow δ B) (ow δ' B) H H' → E.nx δ' → D.nx σ' H')
    (kr : ∀ v σ' H' r δ' B', RS K T B B' (ow δ B) H H' σ' δ' v r → E.rt r δ' → D.rt v H')
    (kb : ∀ σ' H' δ', S K T B H' σ' δ' → Go (ow δ B) (ow δ' B) H H' → E.bk δ' → D.bk σ' H')
    (kc : ∀ σ' H' δ', S K T B H' σ' δ' → Go (ow δ B) (ow δ' B) H H' → E.ct δ' → D.ct σ' H') : t D σ1 H1 :=
  q B H1 σ1 s1 D (fun σ2 H2 δ2 s2 g2 n => kn σ2 H2 δ2 s2 (g1.trans g2) n) (fun v σ2 H2 r δ2 B2 R2 n => kr v σ2 H2 r δ2 B2 (R2.pre g1) n)
    (fun σ2 H2 δ2 s2 g2 n => kb σ2 H2 δ2 s2 (g1.trans g2) n) (fun σ2 H2 δ2 s2 g2 n => kc σ2 H2 δ2 s2 (g1.trans g2) n)
theorem Ss.imp {E' : Es} (h : Ss K T t δ E) (h1 : ∀ δ', E.nx δ' → E'.nx δ') (h2 : ∀ r δ', E.rt r δ' → E'.rt r δ') (h3 : ∀ δ', E.bk δ' → E'.bk δ') (h4 : ∀ δ', E.ct δ' → E'.ct δ') : Ss K T t δ E' := fun B H σ s D kn kr kb kc =>
  h B H σ s D (fun σ' H' δ' s' g' n => kn σ' H' δ' s' g' (h1 _ n)) (fun v σ' H' r δ' B' R n => kr v σ' H' r δ' B' R (h2 _ _ n)) (fun σ' H' δ' s' g' n => kb σ' H' δ' s' g' (h3 _ n)) (fun σ' H' δ' s' g' n => kc σ' H' δ' s' g' (h4 _ n))
theorem ow_setn {p : Addr} {u : OV} {i : Nat} : ∀ a ∈ ow (δ.set i (.own p u)) B, a ∈ ow δ ((p, u) :: B) := fun a m => by
  rcases mem_ow.mp m with ⟨j, w, h⟩ | ⟨w, h⟩
  · rcases get_set h with ⟨rfl, _, e⟩ | ⟨_, h⟩
    · cases e
      exact mem_ow.mpr (.inr ⟨u, List.mem_cons_self⟩)
    · exact mem_ow.mpr (.inl ⟨j, w, h⟩)
  · exact mem_ow.mpr (.inr ⟨w, List.mem_cons_of_mem _ h⟩)
theorem ss_set {i : Nat} (h : Ex K T te δ fun r δ1 => StoreR i δ1 E.nx r) : Ss K T (tAsg te (gName i)) δ E := fun B H σ s D kn _ _ _ =>
  h B H σ s _ fun v H1 r δ1 B1 R1 q => by
    show D.nx (σ.set i (some v)) H1
    cases r with
    | val d =>
      have e : B1 = B := R1.bx
      subst e
      exact kn _ H1 _ (R1.s.setv R1.vr) (R1.go.trans (Go.set rfl)) q
    | new u =>
      obtain ⟨p, rfl, e⟩ := R1.bx
      subst e
      exact kn _ H1 _ (R1.s.setn q.1) (R1.go.less ow_setn) (q.2 p)
    | bor j => exact q.elim
theorem ss_ret (h : Ex K T te δ E.rt) : Ss K T (tRet te) δ E := fun B H σ s D _ kr _ _ => h B H σ s _ fun v H1 r δ1 B1 R1 q => kr v σ H1 r δ1 B1 R1 q
theorem ss_retN (h : E.rt (.val .none) δ) : Ss K T tRetN δ E := fun B H σ s D _ kr _ _ => kr .non σ H (.val .none) δ B ⟨s, .refl, Dp.non, rfl⟩ h
theorem ss_drop (h : Ex K T te δ fun _ δ1 => E.nx δ1) : Ss K T (tDrop te) δ E := fun B H σ s D kn _ _ _ => h B H σ s _ fun v H1 r δ1 B1 R1 q => by
  obtain ⟨C, rfl⟩ := R1.bx.suf
  exact kn σ H1 δ1 R1.s.dropAll (R1.go.less ow_suf) q
theorem ss_if (h : ExT K T tt δ fun b δ1 => if b = true then Ss K T t δ1 E else Ss K T u δ1 E) : Ss K T (tIfS tt t u) δ E := fun B H σ s D kn kr kb kc =>
  h B H σ s _ fun b H1 δ1 s1 g1 q => by
    cases b with
    | true =>
      rw [if_pos rfl] at q ⊢
      exact q.after s1 g1 kn kr kb kc
    | false =>
      rw [if_neg Bool.false_ne_true] at q ⊢
      exact q.after s1 g1 kn kr kb kc
/-- a name's list is data from now on -/
theorem ss_frz {i : Nat} {a : Addr} {ds : List D} (hi : δ[i]? = some (.own a (.lst ds))) (h : Ss K T ts (δ.set i (.val (.list ds))) E) : Ss K T ts δ E := fun B H σ s D kn kr kb kc =>
  h.after (s.frzAt hi) (Go.set rfl) kn kr kb kc
theorem ss_no {i : Nat} (h : Ss K T ts (δ.set i .no) E) : Ss K T ts δ E := fun B H σ s D kn kr kb kc => h.after s.no (Go.set rfl) kn kr kb kc
theorem ss_while {W : Nat → List Sl → Prop} (h0 : ∃ m, W m δ) (h : ∀ m δ, W m δ → ExT K T tt δ fun b δ1 => if b = true then Ss K T t δ1 ⟨fun δ' => ∃ m', m' < m ∧ W m' δ', E.rt, E.nx, fun δ' => ∃ m', m' < m ∧ W m' δ'⟩ else E.nx δ1) :
    Ss K T (tWhile tt t) δ E := fun B H σ s D kn kr kb kc => by
  obtain ⟨m0, w0⟩ := h0
  refine ⟨fun m σ1 H1 => ∃ δ1, S K T B H1 σ1 δ1 ∧ Go (ow δ B) (ow δ1 B) H H1 ∧ W m δ1, ⟨m0, δ, s, .refl, w0⟩, ?_⟩
  rintro m σ1 H1 ⟨δ1, s1, g1, w1⟩
  refine h m δ1 w1 B H1 σ1 s1 _ fun b H2 δ2 s2 g2 q => ?_
  cases b with
  | true =>
    rw [if_pos rfl] at q ⊢
    refine ⟨fun σ3 H3 => ∃ δ3, S K T B H3 σ3 δ3 ∧ Go (ow δ B) (ow δ3 B) H H3 ∧ ∃ m', m' < m ∧ W m' δ3, fun σ3 H3 ⟨δ3, s3, g3, m', hm, w3⟩ => ⟨m', hm, δ3, s3, g3, w3⟩, ?_⟩
    exact q.after (δ := δ) (H := H) s2 (g1.trans g2) (fun σ3 H3 δ3 s3 g3 n => ⟨δ3, s3, g3, n⟩) kr kn (fun σ3 H3 δ3 s3 g3 n => ⟨δ3, s3, g3, n⟩)
  | false =>
    rw [if_neg Bool.false_ne_true] at q ⊢
    exact kn σ1 H2 δ2 s2 (g1.trans g2) q
/-- over a list -/
theorem ss_forL (h : Ex K T te δ fun r δ1 => ∃ ds, Fz r (.list ds) ∧ ∃ W : Nat → List Sl → Prop, W 0 δ1 ∧
      (∀ i d δ2, ds[i]? = some d → W i δ2 → Gt K T g d δ2 fun δ3 => Ss K T t δ3 ⟨W (i + 1), E.rt, E.nx, W (i + 1)⟩) ∧ ∀ δ2, W ds.length δ2 → E.nx δ2) : Ss K T (tFor (iList K te) g t) δ E := fun B H σ s D kn kr kb kc =>
  h B H σ s _ fun v H1 r δ1 B1 R1 ⟨ds, f, W, w0, hs, hd⟩ => by
    obtain ⟨s1, g1, hv⟩ := rs_fz R1 f
    cases hv with
    | lst hq ha =>
      refine ⟨_, rfl, ⟨_, dl_rk.sqL hq⟩, for_list (fun i σ2 H2 => ∃ δ2, S K T B H2 σ2 δ2 ∧ Go (ow δ B) (ow δ2 B) H H2 ∧ Go (ow δ1 B) (ow δ2 B) H1 H2 ∧ W i δ2) ⟨δ1, s1, g1, .refl, w0⟩
        (fun i σ2 H2 _ ⟨δ2, s2, g2, g12, _⟩ => dl_rk.sqL (g12.rk.sqL hq)) (fun i x σ2 H2 hx ⟨δ2, s2, g2, g12, w2⟩ => ?_) (fun σ2 H2 ⟨δ2, s2, g2, g12, w2⟩ => ?_)⟩
      · obtain ⟨d, e1, e2⟩ := da_get' ha hx
        refine hs i d δ2 e1 w2 B H2 σ2 x s2 (dp_mono g12.rk _ _ e2) _ fun σ3 δ3 s3 g3 q => ?_
        exact q B H2 σ3 s3 { D with nx := _, ct := _, bk := D.nx } (fun σ4 H4 δ4 s4 g4 n => ⟨δ4, s4, (g2.trans g3).trans g4, (g12.trans g3).trans g4, n⟩) (fun v σ4 H4 r δ4 B4 R4 n => kr v σ4 H4 r δ4 B4 (R4.pre (g2.trans g3)) n)
          (fun σ4 H4 δ4 s4 g4 n => kn σ4 H4 δ4 s4 ((g2.trans g3).trans g4) n) (fun σ4 H4 δ4 s4 g4 n => ⟨δ4, s4, (g2.trans g3).trans g4, (g12.trans g3).trans g4, n⟩)
      · rw [da_len ha] at w2
        exact kn σ2 H2 δ2 s2 g2 (hd δ2 w2)
/-- over a tuple -/
theorem ss_forT (h : Ex K T te δ fun r δ1 => ∃ ds, r = .val (.tuple ds) ∧ ∃ W : Nat → List Sl → Prop, W 0 δ1 ∧
      (∀ i d δ2, ds[i]? = some d → W i δ2 → Gt K T g d δ2 fun δ3 => Ss K T t δ3 ⟨W (i + 1), E.rt, E.nx, W (i + 1)⟩) ∧ ∀ δ2, W ds.length δ2 → E.nx δ2) : Ss K T (tFor (iTup K te) g t) δ E := fun B H σ s D kn kr kb kc =>
  h B H σ s _ fun v H1 r δ1 B1 R1 ⟨ds, f, W, w0, hs, hd⟩ => by
    subst f
    obtain ⟨s1, g1, hv⟩ := rs_fz R1 (d := .tuple ds) rfl
    cases hv with
    | tup hq ha =>
      refine ⟨_, rfl, ⟨_, dl_rk.sqT hq⟩, for_tup (fun i σ2 H2 => ∃ δ2, S K T B H2 σ2 δ2 ∧ Go (ow δ B) (ow δ2 B) H H2 ∧ Go (ow δ1 B) (ow δ2 B) H1 H2 ∧ W i δ2) ⟨δ1, s1, g1, .refl, w0⟩
        (fun i σ2 H2 _ ⟨δ2, s2, g2, g12, _⟩ => dl_rk.sqT (g12.rk.sqT hq)) (fun i x σ2 H2 hx ⟨δ2, s2, g2, g12, w2⟩ => ?_) (fun σ2 H2 ⟨δ2, s2, g2, g12, w2⟩ => ?_)⟩
      · obtain ⟨d, e1, e2⟩ := da_get' ha hx
        refine hs i d δ2 e1 w2 B H2 σ2 x s2 (dp_mono g12.rk _ _ e2) _ fun σ3 δ3 s3 g3 q => ?_
        exact q B H2 σ3 s3 { D with nx := _, ct := _, bk := D.nx } (fun σ4 H4 δ4 s4 g4 n => ⟨δ4, s4, (g2.trans g3).trans g4, (g12.trans g3).trans g4, n⟩) (fun v σ4 H4 r δ4 B4 R4 n => kr v σ4 H4 r δ4 B4 (R4.pre (g2.trans g3)) n)
          (fun σ4 H4 δ4 s4 g4 n => kn σ4 H4 δ4 s4 ((g2.trans g3).trans g4) n) (fun σ4 H4 δ4 s4 g4 n => ⟨δ4, s4, (g2.trans g3).trans g4, (g12.trans g3).trans g4, n⟩)
      · rw [da_len ha] at w2
        exact kn σ2 H2 δ2 s2 g2 (hd δ2 w2)
/-- over range(n) -/
theorem ss_forR {ta : TA} {i : Nat} (h : ExA K T ta δ fun rs δ1 => ∃ n : Int, rs = [.val (.int n)] ∧ -(2 ^ 62) ≤ n ∧ n < 2 ^ 62 ∧ ∃ W : Nat → List Sl → Prop, W 0 δ1 ∧
      (∀ (k : Nat) δ2, (k : Int) < n → W k δ2 → Ss K T t (δ2.set i (.val (.int k))) ⟨W (k + 1), E.rt, E.nx, W (k + 1)⟩) ∧ ∀ δ2, W n.toNat δ2 → E.nx δ2) : Ss K T (tFor (iRng1 ta) (gName i) t) δ E := fun B H σ s D kn kr kb kc =>
  h B H σ s _ fun vs H1 rs δ1 B1 R1 ⟨n, f, hn1, hn2, W, w0, hs, hd⟩ => by
    subst f
    have e1 : B1 = B := vals0_bx (ds := [.int n]) R1.bx ⟨rfl, trivial⟩
    subst e1
    have hv : DpAll K (dl H1 (ow δ1 B1)) vs [.int n] := vals0_dp (ds := [.int n]) R1.vr ⟨rfl, trivial⟩
    have s1 := R1.s
    have g1 := R1.go
    cases hv with
    | cons hv1 hv2 =>
      cases hv1
      cases hv2
      refine ⟨n, rfl, hn1, hn2, for_range (fun k σ2 H2 => ∃ δ2, S K T B1 H2 σ2 δ2 ∧ Go (ow δ B1) (ow δ2 B1) H H2 ∧ W k δ2) ⟨δ1, s1, g1, w0⟩ (fun k σ2 H2 hk ⟨δ2, s2, g2, w2⟩ => ?_) (fun σ2 H2 ⟨δ2, s2, g2, w2⟩ => kn σ2 H2 δ2 s2 g2 (hd δ2 w2))⟩
      have ek : (0 : Int) + (k : Int) = (k : Int) := Int.zero_add _
      show t _ (σ2.set i (some (.int ((0 : Int) + (k : Int))))) H2
      rw [ek]
      exact (hs k δ2 (by omega) w2).after (δ := δ) (H := H) (D := { D with nx := _, ct := _, bk := D.nx }) (s2.setv (Dp.int _)) (g2.trans (Go.set rfl)) (fun σ4 H4 δ4 s4 g4 n => ⟨δ4, s4, g4, n⟩) kr kn (fun σ4 H4 δ4 s4 g4 n => ⟨δ4, s4, g4, n⟩)
end
end Pl
set_option Elab.async false
set_option linter.all false
set_option maxRecDepth 100000
set_option maxHeartbeats 1000001
namespace Pl
open PySem L2 LamX NdefX
section
variable {K : PySem.W.Frag} {T : List NTab} {B B' B1 : Lo} {A0 : List Addr} {H0 H H' : Hp} {σ : L2.St} {δ δ' : List Sl} {v : V} {r : R} {E : Es} {te ta tb : TE} {tt t1 t2 : TT} {ts t u : TS} {g : TG} {P : R → List Sl → Prop}
theorem S.hp (s : S K T B H σ δ) {i : Nat} {a : Addr} {u : OV} (hi : δ[i]? = some (.own a u)) : σ[i]? = some (some (.ref a)) ∧ Holds K (dl H (ow δ B)) H a u := s.ok i _ hi
theorem rs_write {i : Nat} {a : Addr} {u u' : OV} {o' : HO} {z : D} {w : V} (s : S K T B H σ δ) (g : Go A0 (ow δ B) H0 H) (hi : δ[i]? = some (.own a u)) (hh : Holds K (dl H (ow δ B)) (upd H a o') a u') (hz : Dp K (dl H (ow δ B)) w z) :
    RS K T B B A0 H0 (upd H a o') σ (δ.set i (.own a u')) w (.val z) := by
  have ma : a ∈ ow δ B := mem_ow.mpr (.inl ⟨i, u, hi⟩)
  have g1 : Go (ow δ B) (ow (δ.set i (.own a u')) B) H (upd H a o') := by
    rw [ow_same hi]
    exact go_own ma
  exact ⟨s.write hi hh, g.trans g1, dp_mono g1.rk _ _ hz, rfl⟩
/-- a method of a list that a name owns: ds becomes es, z comes back -/
def LmD (K : PySem.W.Frag) (rr : V → List V → Hp → VK → Prop) (ds args : List D) (Pk : D → List D → Prop) : Prop := ∀ (L H : Hp) (a : Addr) (xs vs : List V) (Q : VK), H a = some (.lst xs) → DpAll K L xs ds → DpAll K L vs args →
  (∀ w z ys es, Dp K L w z → DpAll K L ys es → Pk z es → Q w (upd H a (.lst ys))) → rr (.ref a) vs H Q
theorem ex_lm {rr : V → List V → Hp → VK → Prop} {i : Nat} {t : TA} (h : (∃ a ds, δ[i]? = some (.own a (.lst ds))) ∧ ExA K T t δ fun rs δ1 => ∃ args a ds, Vals0 rs args ∧ δ1[i]? = some (.own a (.lst ds)) ∧ LmD K rr ds args fun z es => P (.val z) (δ1.set i (.own a (.lst es)))) :
    Ex K T (tBM K "list" rr (tVar i) t) δ P := fun B H σ s Q k => by
  obtain ⟨⟨a, ds, hi⟩, h⟩ := h
  obtain ⟨h1, xs, h2, h3⟩ := s.hp hi
  refine ⟨.ref a, h1, .inl ⟨rfl, xs, .inl (.inl h2)⟩, ?_⟩
  refine h B H σ s _ fun vs H1 rs δ1 B1 R1 ⟨args, a1, ds1, va, hi1, m⟩ => ?_
  have e1 : B1 = B := vals0_bx R1.bx va
  subst e1
  obtain ⟨q1, ys, q2, q3⟩ := R1.s.hp hi1
  rw [h1] at q1
  cases q1
  exact m _ H1 a ys vs Q q2 q3 (vals0_dp R1.vr va) fun w z ys' es hz hes p => k w _ (.val z) _ B1 (rs_write (u' := .lst es) R1.s R1.go hi1 ⟨ys', upd_same, hes⟩ hz) p
theorem ex_lm0 {rr : V → List V → Hp → VK → Prop} {i : Nat} (h : ∃ a ds, δ[i]? = some (.own a (.lst ds)) ∧ LmD K rr ds [] fun z es => P (.val z) (δ.set i (.own a (.lst es)))) :
    Ex K T (tBM0 K "list" rr (tVar i)) δ P := fun B H σ s Q k => by
  obtain ⟨a, ds, hi, m⟩ := h
  obtain ⟨h1, xs, h2, h3⟩ := s.hp hi
  refine ⟨.ref a, h1, .inl ⟨rfl, xs, .inl (.inl h2)⟩, ?_⟩
  exact m _ H a xs [] Q h2 h3 .nil fun w z ys' es hz hes p => k w _ (.val z) _ B (rs_write (u' := .lst es) s .refl hi ⟨ys', upd_same, hes⟩ hz) p
theorem lm_append {ds : List D} {d : D} {Pk : D → List D → Prop} (hl : ds.length < 100000) (p : Pk .none (ds ++ [d])) : LmD K rAppend ds [d] Pk := fun L H a xs vs Q h1 h2 h3 k => by
  cases h3 with
  | cons h3 h4 =>
    cases h4
    exact ⟨a, xs, _, rfl, rfl, h1, by rw [da_len h2]; exact Nat.lt_of_lt_of_le hl (by decide), k _ _ _ _ .non (da_app h2 (da_one h3)) p⟩
theorem lm_pop {ds : List D} {d : D} {Pk : D → List D → Prop} (p : Pk d ds) : LmD K rPop (ds ++ [d]) [] Pk := fun L H a xs vs Q h1 h2 h3 k => by
  cases h3
  have hl := da_len h2
  rw [List.length_append, List.length_singleton] at hl
  obtain ⟨w, e1, e2⟩ := da_get h2 (i := ds.length) (d := d) (by rw [List.getElem?_append_right (Nat.le_refl _), Nat.sub_self]; rfl)
  refine ⟨a, xs, w, rfl, rfl, h1, by rw [hl, Nat.add_sub_cancel]; exact e1, k _ _ _ _ e2 ?_ p⟩
  have q := da_dropLast h2
  rwa [List.dropLast_concat] at q
/-- xs.extend(a new list) -/
theorem ex_ext {i : Nat} {t : TE} (h : (∃ a ds, δ[i]? = some (.own a (.lst ds))) ∧ Ex K T t δ fun r δ1 => ∃ a ds es, r = .new (.lst es) ∧ δ1[i]? = some (.own a (.lst ds)) ∧ ds.length + es.length ≤ 100000 ∧ P (.val .none) (δ1.set i (.own a (.lst (ds ++ es))))) :
    Ex K T (tBM K "list" rExtend (tVar i) (tCons t tNil)) δ P := fun B H σ s Q k => by
  obtain ⟨⟨a, ds, hi⟩, h⟩ := h
  obtain ⟨h1, xs, h2, h3⟩ := s.hp hi
  refine ⟨.ref a, h1, .inl ⟨rfl, xs, .inl (.inl h2)⟩, ?_⟩
  refine h B H σ s _ fun v H1 r δ1 B1 R1 ⟨a1, ds1, es, e, hi1, hl, p⟩ => ?_
  subst e
  obtain ⟨b, rfl, e1⟩ := R1.bx
  subst e1
  obtain ⟨zs, m1, m2⟩ := R1.s.loose _ List.mem_cons_self
  obtain ⟨q1, ys, q2, q3⟩ := R1.s.hp hi1
  rw [h1] at q1
  cases q1
  refine ⟨a, b, ys, zs, rfl, rfl, q2, m1, by rw [da_len q3, da_len m2]; exact Nat.le_trans hl (by decide), ?_⟩
  have w := rs_write (z := .none) (w := .non) R1.s R1.go hi1 (u' := .lst (ds1 ++ es)) (o' := .lst (ys ++ zs)) ⟨_, upd_same, da_app q3 m2⟩ .non
  exact k _ _ (.val .none) _ B ⟨w.s.drop, w.go.less ow_tail, Dp.non, rfl⟩ p
/-- xs[j] = e -/
theorem ss_setL {i : Nat} {ti : TE} (h : Ex K T te δ fun r δ1 => ∃ d, r = .val d ∧ (∃ a u, δ1[i]? = some (.own a u)) ∧ Ex K T ti δ1 fun r2 δ2 => ∃ (j : Int) (k : Nat) (a : Addr) (ds : List D), r2 = .val (.int j) ∧ δ2[i]? = some (.own a (.lst ds)) ∧ ixN ds.length j = some k ∧ E.nx (δ2.set i (.own a (.lst (ds.set k d))))) :
    Ss K T (tAsg te (gSub (tVar i) ti rSetL)) δ E := fun B H σ s D kn _ _ _ =>
  h B H σ s _ fun v H1 r δ1 B1 R1 ⟨d, e, ⟨a, u, hi⟩, h1⟩ => by
    subst e
    have e1 : B1 = B := R1.bx
    subst e1
    refine ⟨.ref a, (R1.s.hp hi).1, ?_⟩
    refine h1 B1 H1 σ R1.s _ fun w H2 r2 δ2 B2 R2 ⟨j, k, a2, ds, e2, hi2, hk, p⟩ => ?_
    subst e2
    have e3 : B2 = B1 := R2.bx
    subst e3
    have hw : Dp K _ w (.int j) := R2.vr
    cases hw
    obtain ⟨q1, ys, q2, q3⟩ := R2.s.hp hi2
    rw [(R1.s.hp hi).1] at q1
    cases q1
    have hv : Dp K (dl H2 (ow δ2 B2)) v d := dp_mono R2.go.rk _ _ R1.vr
    refine ⟨a, ys, j, k, rfl, rfl, q2, by rw [da_len q3]; exact hk, ?_⟩
    have w := rs_write (z := .none) (w := .non) R2.s (R1.go.trans R2.go) hi2 (u' := .lst (ds.set k d)) (o' := .lst (ys.set k v)) ⟨_, upd_same, da_set hv k q3⟩ .non
    exact kn σ _ _ w.s w.go p
theorem S.writeL {p : Addr} {u u' : OV} {o' : HO} (s : S K T ((p, u) :: B) H σ δ) (hh : Holds K (dl H (ow δ ((p, u) :: B))) (upd H p o') p u') : S K T ((p, u') :: B) (upd H p o') σ δ := by
  have ma : p ∈ ow δ ((p, u) :: B) := mem_ow.mpr (.inr ⟨u, List.mem_cons_self⟩)
  obtain ⟨o, q1, q2, q3⟩ := holds_obj (s.loose _ List.mem_cons_self)
  have g : Go (ow δ ((p, u) :: B)) (ow δ ((p, u) :: B)) H (upd H p o') := go_own ma
  have np : p ∉ ow δ B := s.cons_nd
  refine ⟨s.len, tab_upd q1 q2 q3 s.tab, fun j x h => ?_, fun q hq => ?_, s.nd⟩
  · have q := s.ok j x h
    cases x with
    | no => trivial
    | raw v => exact q
    | val d => obtain ⟨v, q1, q2⟩ := q; exact ⟨v, q1, dp_mono g.rk _ _ q2⟩
    | own b w => obtain ⟨q1, q2⟩ := q; exact ⟨q1, q2.mono (dp_mono g.rk) (upd_ne fun e => np (e ▸ mem_ow.mpr (.inl ⟨j, w, h⟩)))⟩
  · rcases List.mem_cons.mp hq with z | z
    · rw [z]; exact hh.mono (dp_mono g.rk) rfl
    · exact (s.loose q (List.mem_cons_of_mem _ z)).mono (dp_mono g.rk) (upd_ne fun e => np (e ▸ mem_ow.mpr (.inr ⟨q.2, z⟩)))
/-- one turn of a comprehension whose own name is in slot i; acc: what is made so far -/
def Turn1 (K : PySem.W.Frag) (T : List NTab) (i : Nat) (tt : TT) (te : TE) (δ : List Sl) (d : D) (acc acc' : List D) : Prop :=
  ExT K T tt (δ.set i (.val d)) fun b δ2 => δ2 = δ.set i (.val d) ∧ if b = true then Ex K T te (δ.set i (.val d)) fun r δ3 => ∃ z, r = .val z ∧ δ3 = δ.set i (.val d) ∧ acc' = acc ++ [z] ∧ acc.length < 100000 else acc' = acc
theorem S.back {i : Nat} {d : D} {x : Option V} (s : S K T B H (σ.set i x) (δ.set i (.val d))) (hi : δ[i]? = some .no) : S K T B H σ δ := by
  have hl : i < δ.length := (List.getElem?_eq_some_iff.mp hi).1
  have e : δ = (δ.set i (.val d)).set i .no := by
    rw [List.set_set]
    refine List.ext_getElem? fun j => ?_
    by_cases h : i = j
    · subst h
      rw [hi, List.getElem?_set_self hl]
    · rw [List.getElem?_set_ne h]
  have s1 := s.no (i := i)
  rw [← e] at s1
  refine ⟨by have := s1.len; rw [List.length_set] at this; exact this, s1.tab, fun j y h => ?_, s1.loose, s1.nd⟩
  by_cases hj : i = j
  · subst hj
    rw [hi] at h
    cases h
    trivial
  · have q := s1.ok j y h
    rw [List.getElem?_set_ne hj] at q
    exact q
theorem lc_turn {i : Nat} {p : Addr} {d : D} {acc acc' : List D} {x : V} {Nx : Hp → Prop} (hi : δ[i]? = some .no) (s : S K T ((p, .lst acc) :: B) H σ δ) (hx : Dp K (dl H (ow δ ((p, .lst acc) :: B))) x d) (h : Turn1 K T i tt te δ d acc acc')
    (k : ∀ H', S K T ((p, .lst acc') :: B) H' σ δ → Go (ow δ ((p, .lst acc) :: B)) (ow δ ((p, .lst acc') :: B)) H H' → Nx H') :
    gName i x (wipe σ [i]) H fun σ2 H2 => wipe σ2 [i] = wipe σ [i] ∧ tt σ2 H2 fun b H3 => if b = true then te σ2 H3 fun y H4 => ∃ ac, H4 p = some (.lst ac) ∧ ac.length < sizeLine ∧ Nx (upd H4 p (.lst (ac ++ [y]))) else Nx H3 := by
  have ew : ((wipe σ [i]).set i (some x)) = σ.set i (some x) := by
    show (σ.set i none).set i (some x) = _
    rw [List.set_set]
  show wipe ((wipe σ [i]).set i (some x)) [i] = wipe σ [i] ∧ tt ((wipe σ [i]).set i (some x)) H _
  refine ⟨?_, ?_⟩
  · rw [ew]
    show (σ.set i (some x)).set i none = σ.set i none
    rw [List.set_set]
  rw [ew]
  have s1 := s.setv (i := i) hx
  have g0 : Go (ow δ ((p, .lst acc) :: B)) (ow (δ.set i (.val d)) ((p, .lst acc) :: B)) H H := Go.set rfl
  have ob : ow (δ.set i (.val d)) ((p, .lst acc) :: B) = ow δ ((p, .lst acc) :: B) := by
    unfold ow
    congr 1
    clear h hx s s1 k g0 ew
    induction δ generalizing i with
    | nil => rfl
    | cons t r ih =>
      cases i with
      | zero =>
        have e : t = .no := Option.some.inj hi
        subst e
        rfl
      | succ i => rw [List.set_cons_succ, List.flatMap_cons, List.flatMap_cons, ih (by simpa using hi)]
  refine h _ H _ s1 _ fun b H3 δ3 s3 g3 ⟨e3, q⟩ => ?_
  subst e3
  cases b with
  | true =>
    rw [if_pos rfl] at q ⊢
    refine q _ H3 _ s3 _ fun y H4 r δ4 B4 R4 ⟨z, er, e4, ea, hl⟩ => ?_
    subst er
    subst e4
    subst ea
    have eB : B4 = (p, .lst acc) :: B := R4.bx
    subst eB
    obtain ⟨ac, m1, m2⟩ := R4.s.loose _ List.mem_cons_self
    refine ⟨ac, m1, by rw [da_len m2]; exact Nat.lt_of_lt_of_le hl (by decide), ?_⟩
    have s5 := R4.s.writeL (u' := .lst (acc ++ [z])) (o' := .lst (ac ++ [y])) ⟨_, upd_same, da_app m2 (da_one R4.vr)⟩
    refine k _ (s5.back hi) ?_
    have g := (g0.trans g3).trans R4.go
    rw [ob] at g
    exact g.trans (go_own (mem_ow.mpr (.inr ⟨_, List.mem_cons_self⟩)))
  | false =>
    rw [if_neg Bool.false_ne_true] at q ⊢
    subst q
    refine k _ (s3.back hi) ?_
    have g := g0.trans g3
    rw [ob] at g
    exact g
/-- [e for x in xs if t], xs a list -/
theorem ex_lcL {i : Nat} (h : Ex K T ta δ fun r δ1 => ∃ ds, Fz r (.list ds) ∧ δ1[i]? = some .no ∧ ∃ acc : Nat → List D, acc 0 = [] ∧ (∀ k d, ds[k]? = some d → Turn1 K T i tt te δ1 d (acc k) (acc (k + 1))) ∧ P (.new (.lst (acc ds.length))) δ1) :
    Ex K T (tLc (iList K ta) (gName i) tt te [i]) δ P := fun B H σ s Q k =>
  h B H σ s _ fun v H1 r δ1 B1 R1 ⟨ds, f, hi, acc, a0, turn, p⟩ => by
    obtain ⟨s1, g1, hv⟩ := rs_fz R1 f
    cases hv with
    | lst hq ha =>
      refine ⟨_, rfl, ⟨_, dl_rk.sqL hq⟩, fun C hC => ?_⟩
      have hl := da_len ha
      refine lc_list (fun m H2 => S K T ((C, .lst (acc m)) :: B) H2 σ δ1 ∧ Go (ow δ1 B) (ow δ1 ((C, .lst (acc m)) :: B)) H1 H2) ⟨?_, go_new hC⟩ (fun m H2 _ ⟨_, g2⟩ => dl_rk.sqL (g2.rk.sqL hq)) (fun m x H2 hx ⟨s2, g2⟩ => ?_) fun H2 ⟨s2, g2⟩ => ?_
      · rw [a0]
        exact s1.owned hC ⟨_, upd_same, .nil⟩
      · obtain ⟨d, e1, e2⟩ := da_get' ha hx
        exact lc_turn hi s2 (dp_mono g2.rk _ _ e2) (turn m d e1) fun H' s' g' => ⟨s', g2.trans g'⟩
      · rw [hl] at s2 g2
        exact k _ H2 (.new (.lst (acc ds.length))) δ1 _ ⟨s2, g1.trans g2, ⟨C, rfl, List.mem_cons_self⟩, ⟨C, rfl, rfl⟩⟩ p
theorem ex_lcT {i : Nat} (h : Ex K T ta δ fun r δ1 => ∃ ds, r = .val (.tuple ds) ∧ δ1[i]? = some .no ∧ ∃ acc : Nat → List D, acc 0 = [] ∧ (∀ k d, ds[k]? = some d → Turn1 K T i tt te δ1 d (acc k) (acc (k + 1))) ∧ P (.new (.lst (acc ds.length))) δ1) :
    Ex K T (tLc (iTup K ta) (gName i) tt te [i]) δ P := fun B H σ s Q k =>
  h B H σ s _ fun v H1 r δ1 B1 R1 ⟨ds, f, hi, acc, a0, turn, p⟩ => by
    subst f
    obtain ⟨s1, g1, hv⟩ := rs_fz R1 (d := .tuple ds) rfl
    cases hv with
    | tup hq ha =>
      refine ⟨_, rfl, ⟨_, dl_rk.sqT hq⟩, fun C hC => ?_⟩
      have hl := da_len ha
      refine lc_tup (fun m H2 => S K T ((C, .lst (acc m)) :: B) H2 σ δ1 ∧ Go (ow δ1 B) (ow δ1 ((C, .lst (acc m)) :: B)) H1 H2) ⟨?_, go_new hC⟩ (fun m H2 _ ⟨_, g2⟩ => dl_rk.sqT (g2.rk.sqT hq)) (fun m x H2 hx ⟨s2, g2⟩ => ?_) fun H2 ⟨s2, g2⟩ => ?_
      · rw [a0]
        exact s1.owned hC ⟨_, upd_same, .nil⟩
      · obtain ⟨d, e1, e2⟩ := da_get' ha hx
        exact lc_turn hi s2 (dp_mono g2.rk _ _ e2) (turn m d e1) fun H' s' g' => ⟨s', g2.trans g'⟩
      · rw [hl] at s2 g2
        exact k _ H2 (.new (.lst (acc ds.length))) δ1 _ ⟨s2, g1.trans g2, ⟨C, rfl, List.mem_cons_self⟩, ⟨C, rfl, rfl⟩⟩ p
end
end Pl
set_option Elab.async false
set_option linter.all false
set_option maxRecDepth 100000
set_option maxHeartbeats 1000001
namespace Pl
open PySem L2 LamX NdefX PyProof.Rows
inductive Ar where
  | val (d : D)
  | own (u : OV)
/-- the arguments, what is wanted of the result and of the owned arguments behind -/
abbrev FS := List Ar → (R → List OV → Prop) → Prop
def OvImm : OV → Prop
  | .lst ds => immAll ds = true
  | .dK kvs => ∀ p ∈ kvs, imm p.2 = true
  | .dT kvs => ∀ p ∈ kvs, imm p.2 = true
section
variable (K : PySem.W.Frag) (T : List NTab)
def ArgsOk (L H : Hp) : List V → List Ar → List Addr → Prop
  | [], [], [] => True
  | v :: vs, .val d :: as, ps => Dp K L v d ∧ ArgsOk L H vs as ps
  | v :: vs, .own u :: as, p :: ps => v = .ref p ∧ Holds K L H p u ∧ ArgsOk L H vs as ps
  | _, _, _ => False
/-- the new address of a result -/
def nwA (v : V) : R → List Addr
  | .new _ => (match v with | .ref p => [p] | _ => [])
  | _ => []
/-- Z: what the caller owns besides; it stays out of sight -/
def RvOk (Z : List Addr) (H H' : Hp) (v : V) : R → Prop
  | .val d => Dp K (dl H' Z) v d
  | .new u => ∃ p, v = .ref p ∧ H p = none ∧ Holds K (dl H' (p :: Z)) H' p u
  | .bor _ => False
def Behind (L H' : Hp) : List Addr → List OV → Prop
  | [], [] => True
  | p :: ps, u :: us => Holds K L H' p u ∧ Behind L H' ps us
  | _, _ => False
abbrev al (A : List Addr) (Z : Lo) : List Addr := A ++ Z.map (·.1)
structure After (A : List Addr) (Z : Lo) (H H' : Hp) (v : V) (r : R) (us : List OV) : Prop where
  res : RvOk K (al A Z) H H' v r
  args : Behind K (dl H' (nwA v r ++ al A Z)) H' A us
  rest : ∀ q ∈ Z, Holds K (dl H' (nwA v r ++ al A Z)) H' q.1 q.2
def spOf (F : FS) : Sp := fun vs H Q _ => ∃ (A : List Addr) (Z : Lo) (as : List Ar) (P : R → List OV → Prop), (al A Z).Nodup ∧ TabsN T H ∧ ArgsOk K (dl H (al A Z)) H vs as A ∧ (∀ q ∈ Z, Holds K (dl H (al A Z)) H q.1 q.2) ∧ F as P ∧
  ∀ v H' r us, TabsN T H' → Go (al A Z) (al A Z) H H' → After K A Z H H' v r us → P r us → Q v H'
/-- no list within a result and the owned arguments behind -/
def RImm (r : R) (us : List OV) : Prop := (match r with | .val d => imm d = true | .new u => OvImm u | .bor _ => False) ∧ ∀ u ∈ us, OvImm u
end
section
variable {K : PySem.W.Frag} {T : List NTab} {B B' B1 : Lo} {A A0 : List Addr} {H0 H H' : Hp} {σ : L2.St} {δ δ' : List Sl} {v : V} {r : R} {E : Es} {te ta tb : TE} {tt t1 t2 : TT} {ts t u : TS} {g : TG} {P : R → List Sl → Prop}
theorem Holds.imm {L L' : Hp} {a : Addr} {u : OV} (e : Tk L L') (hi : OvImm u) (h : Holds K L H a u) : Holds K L' H a u := by
  have kv : ∀ {κ : Type} {xs : List (κ × V)} {kvs : List (κ × D)}, (∀ p ∈ kvs, Pl.imm p.2 = true) → KvAll K L xs kvs → KvAll K L' xs kvs := by
    intro κ xs
    induction xs with
    | nil => intro kvs _ h; cases kvs with | nil => trivial | cons _ _ => exact h.elim
    | cons x xs ih =>
      intro kvs hi h
      cases kvs with
      | nil => exact h.elim
      | cons y ys =>
        obtain ⟨h1, h2, h3⟩ := h
        exact ⟨h1, dp_imm e _ _ (hi y List.mem_cons_self) h2, ih (fun p hp => hi p (List.mem_cons_of_mem _ hp)) h3⟩
  cases u with
  | lst ds => obtain ⟨xs, h1, h2⟩ := h; exact ⟨xs, h1, da_imm e _ _ hi h2⟩
  | dK ds => obtain ⟨xs, h1, h2⟩ := h; exact ⟨xs, h1, kv hi h2⟩
  | dT ds => obtain ⟨xs, h1, h2⟩ := h; exact ⟨xs, h1, kv hi h2⟩
theorem tk_mut {A : List Addr} (h : ∀ a ∈ A, ∃ L u, Holds K L H a u) : Tk H (dl H A) := fun a xs q => by
  rcases q with q | ⟨o, q⟩
  · refine .inl (dl_of q fun m => ?_)
    obtain ⟨L, u, hu⟩ := h a m
    obtain ⟨o, e, _, n, _⟩ := hu.some
    rw [q] at e
    cases e
    exact n xs rfl
  · refine .inr ⟨o, dl_of q fun m => ?_⟩
    obtain ⟨L, u, hu⟩ := h a m
    obtain ⟨o', e, _, _, n⟩ := hu.some
    rw [q] at e
    cases e
    exact n _ _ rfl
/-- the owned A may have changed -/
theorem S.call (s : S K T B H σ δ) {A : List Addr} {δ2 : List Sl} {B2 : Lo} (g : Go A A H H') (hT : TabsN T H') (hA : ∀ a ∈ A, a ∈ ow δ B) (how : ∀ a ∈ ow δ2 B2, a ∈ ow δ B ∨ H a = none) (hnd : (ow δ2 B2).Nodup) (hlen : δ2.length = δ.length)
    (hs : ∀ (i : Nat) (x : Sl), δ2[i]? = some x → (δ[i]? = some x ∧ ∀ a u, x = .own a u → a ∉ A) ∨ ∃ a u u0, x = .own a u ∧ δ[i]? = some (.own a u0) ∧ OvImm u ∧ Holds K H' H' a u)
    (hB : ∀ q ∈ B2, (q ∈ B ∧ q.1 ∉ A) ∨ (OvImm q.2 ∧ Holds K H' H' q.1 q.2)) : S K T B2 H' σ δ2 := by
  have rk : Rk (dl H (ow δ B)) (dl H' (ow δ2 B2)) := fun a o h t => by
    obtain ⟨n, e⟩ := dl_some h
    exact dl_of (g.ext a o e (fun m => n (hA a m)) t) fun m => (how a m).elim n fun z => by rw [e] at z; cases z
  have stay : ∀ a u, Holds K (dl H (ow δ B)) H a u → a ∉ A → Holds K (dl H' (ow δ2 B2)) H' a u := fun a u h n => by
    obtain ⟨o, e, t, _⟩ := h.some
    exact h.mono (dp_mono rk) ((g.ext a o e n t).trans e.symm)
  have each : ∀ a ∈ ow δ2 B2, ∃ L u, Holds K L H' a u := fun a m => by
    rcases mem_ow.mp m with ⟨i, u, h⟩ | ⟨u, h⟩
    · rcases hs i _ h with ⟨h1, h2⟩ | ⟨b, w, u0, e, _, _, q⟩
      · exact ⟨_, u, stay a u (s.ok i _ h1).2 (h2 a u rfl)⟩
      · cases e
        exact ⟨_, u, q⟩
    · rcases hB _ h with ⟨h1, h2⟩ | ⟨_, q⟩
      · exact ⟨_, u, stay a u (s.loose _ h1) h2⟩
      · exact ⟨_, u, q⟩
  have tk := tk_mut each
  refine ⟨by rw [hlen]; exact s.len, hT, fun i x h => ?_, fun q hq => ?_, hnd⟩
  · rcases hs i x h with ⟨h1, h2⟩ | ⟨a, u, u0, e, h1, hi, q⟩
    · have q := s.ok i x h1
      cases x with
      | no => trivial
      | raw v => exact q
      | val d => obtain ⟨v, q1, q2⟩ := q; exact ⟨v, q1, dp_mono rk _ _ q2⟩
      | own a u => obtain ⟨q1, q2⟩ := q; exact ⟨q1, stay a u q2 (h2 a u rfl)⟩
    · subst e
      exact ⟨(s.ok i _ h1).1, q.imm tk hi⟩
  · rcases hB q hq with ⟨h1, h2⟩ | ⟨hi, q⟩
    · exact stay _ _ (s.loose _ h1) h2
    · exact q.imm tk hi
/-- I: the names whose objects are handed over -/
def ArgR (δ : List Sl) (I : List Nat) : List R → List Ar → List Nat → Prop
  | [], [], [] => True
  | .val d :: rs, .val e :: as, is => e = d ∧ ArgR δ I rs as is
  | .bor i :: rs, .own w :: as, j :: is => j = i ∧ (∃ a, δ[i]? = some (.own a w)) ∧ ArgR δ I rs as is
  | .bor i :: rs, .val e :: as, is => (∃ a ds, δ[i]? = some (.own a (.lst ds)) ∧ e = .list ds) ∧ i ∉ I ∧ ArgR δ I rs as is
  | _, _, _ => False
def putO (δ : List Sl) (i : Nat) (u : OV) : List Sl := match δ[i]? with
  | some (.own a _) => δ.set i (.own a u)
  | _ => δ
def putOs (δ : List Sl) : List Nat → List OV → List Sl
  | i :: is, u :: us => putOs (putO δ i u) is us
  | _, _ => δ
def plc (δ : List Sl) (i : Nat) : Addr := match δ[i]? with
  | some (.own a _) => a
  | _ => 0
theorem plc_of {i : Nat} {a : Addr} {u : OV} (h : δ[i]? = some (.own a u)) : plc δ i = a := by
  unfold plc
  rw [h]
theorem S.inj (s : S K T B H σ δ) {i j : Nat} {a b : Addr} {u w : OV} (h : δ[i]? = some (.own a u)) (h' : δ[j]? = some (.own b w)) (e : a = b) : i = j := by
  subst e
  by_cases hij : i = j
  · exact hij
  · exfalso
    have hl : i < δ.length := (List.getElem?_eq_some_iff.mp h).1
    have hp := ow_own (δ := δ) (p := a) (u := u) (B := B) hl
    rw [ow_same h] at hp
    refine (List.nodup_cons.mp (hp.nodup_iff.mp s.nd)).1 (mem_ow.mpr (.inl ⟨j, w, ?_⟩))
    rw [List.getElem?_set_ne hij]
    exact h'
theorem putO_ow {i : Nat} {u : OV} : ow (putO δ i u) B = ow δ B := by
  unfold putO
  split
  · rename_i a w h
    exact ow_same h
  · rfl
theorem putO_len {i : Nat} {u : OV} : (putO δ i u).length = δ.length := by
  unfold putO
  split
  · rw [List.length_set]
  · rfl
theorem putO_ne {i j : Nat} {u : OV} (h : i ≠ j) : (putO δ i u)[j]? = δ[j]? := by
  unfold putO
  split
  · rw [List.getElem?_set_ne h]
  · rfl
theorem putOs_ow : ∀ {is : List Nat} {us : List OV} {δ : List Sl}, ow (putOs δ is us) B = ow δ B
  | [], _, _ => rfl
  | _ :: _, [], _ => rfl
  | i :: is, u :: us, δ => by
    show ow (putOs (putO δ i u) is us) B = _
    rw [putOs_ow, putO_ow]
theorem putOs_len : ∀ {is : List Nat} {us : List OV} {δ : List Sl}, (putOs δ is us).length = δ.length
  | [], _, _ => rfl
  | _ :: _, [], _ => rfl
  | i :: is, u :: us, δ => by
    show (putOs (putO δ i u) is us).length = _
    rw [putOs_len, putO_len]
theorem putOs_ne : ∀ {is : List Nat} {us : List OV} {δ : List Sl} {j : Nat}, j ∉ is → (putOs δ is us)[j]? = δ[j]?
  | [], _, _, _, _ => rfl
  | _ :: _, [], _, _, _ => rfl
  | i :: is, u :: us, δ, j, h => by
    show (putOs (putO δ i u) is us)[j]? = _
    rw [putOs_ne fun m => h (List.mem_cons_of_mem _ m), putO_ne fun e => h (by rw [← e]; exact List.mem_cons_self)]
theorem putOs_at {L : Hp} : ∀ {is : List Nat} {us : List OV} {δ : List Sl} {j : Nat} {x : Sl}, is.Nodup → (∀ i ∈ is, ∃ a u, δ[i]? = some (.own a u)) → Behind K L H' (is.map (plc δ)) us → j ∈ is → (putOs δ is us)[j]? = some x →
    ∃ a u u0, x = .own a u ∧ δ[j]? = some (.own a u0) ∧ u ∈ us ∧ Holds K L H' a u
  | i :: is, u :: us, δ, j, x, nd, own, hb, hj, hx => by
    obtain ⟨nd1, nd2⟩ := List.nodup_cons.mp nd
    obtain ⟨b2, b3⟩ := hb
    have hx : (putOs (putO δ i u) is us)[j]? = some x := hx
    obtain ⟨a, w, hi⟩ := own i List.mem_cons_self
    by_cases hji : j = i
    · subst hji
      rw [putOs_ne nd1] at hx
      unfold putO at hx
      rw [hi] at hx
      rw [List.getElem?_set_self (List.getElem?_eq_some_iff.mp hi).1] at hx
      rw [plc_of hi] at b2
      exact ⟨a, u, w, (Option.some.inj hx).symm, hi, List.mem_cons_self, b2⟩
    · have hj' : j ∈ is := (List.mem_cons.mp hj).elim (fun e => absurd e hji) id
      have same : ∀ k ∈ is, (putO δ i u)[k]? = δ[k]? := fun k hk => putO_ne fun e => nd1 (e ▸ hk)
      have e : is.map (plc (putO δ i u)) = is.map (plc δ) := List.map_congr_left fun k hk => by
        unfold plc
        rw [same k hk]
      obtain ⟨a', u', u0, q1, q2, q3⟩ := putOs_at nd2 (fun k hk => by rw [same k hk]; exact own k (List.mem_cons_of_mem _ hk)) (by rw [e]; exact b3) hj' hx
      rw [same j hj'] at q2
      exact ⟨a', u', u0, q1, q2, List.mem_cons_of_mem _ q3.1, q3.2⟩
  | _ :: _, [], _, _, _, _, _, hb, _, _ => hb.elim
theorem plc_nd (s : S K T B H σ δ) : ∀ {is : List Nat}, is.Nodup → (∀ i ∈ is, ∃ a u, δ[i]? = some (.own a u)) → (is.map (plc δ)).Nodup
  | [], _, _ => List.nodup_nil
  | i :: is, nd, own => by
    obtain ⟨nd1, nd2⟩ := List.nodup_cons.mp nd
    rw [List.map_cons]
    refine List.nodup_cons.mpr ⟨fun m => ?_, plc_nd s nd2 fun k hk => own k (List.mem_cons_of_mem _ hk)⟩
    obtain ⟨k, hk, e⟩ := List.mem_map.mp m
    obtain ⟨a, u, hi⟩ := own i List.mem_cons_self
    obtain ⟨b, w, hk'⟩ := own k (List.mem_cons_of_mem _ hk)
    rw [plc_of hi, plc_of hk'] at e
    have q := s.inj hi hk' e.symm
    exact nd1 (q ▸ hk)
theorem plc_ow {is : List Nat} (own : ∀ i ∈ is, ∃ a u, δ[i]? = some (.own a u)) : ∀ a ∈ is.map (plc δ), a ∈ ow δ B := fun a m => by
  obtain ⟨k, hk, rfl⟩ := List.mem_map.mp m
  obtain ⟨b, w, h⟩ := own k hk
  rw [plc_of h]
  exact mem_ow.mpr (.inl ⟨k, w, h⟩)
theorem argr_own : ∀ {rs : List R} {as : List Ar} {is I : List Nat}, ArgR δ I rs as is → ∀ i ∈ is, ∃ a u, δ[i]? = some (.own a u)
  | [], [], [], _, _, i, hi => by cases hi
  | .val d :: rs, .val e :: as, is, I, h, i, hi => argr_own h.2 i hi
  | .bor k :: rs, .own w :: as, j :: is, I, h, i, hi => by
    obtain ⟨rfl, ⟨a, q⟩, h⟩ := h
    rcases List.mem_cons.mp hi with e | hi
    · exact ⟨a, w, e ▸ q⟩
    · exact argr_own h i hi
  | .bor k :: rs, .val e :: as, is, I, h, i, hi => argr_own h.2.2 i hi
  | [], _ :: _, _, _, h, _, _ => by simp [ArgR] at h
  | [], [], _ :: _, _, h, _, _ => by simp [ArgR] at h
  | .val _ :: _, [], _, _, h, _, _ => by simp [ArgR] at h
  | .val _ :: _, .own _ :: _, _, _, h, _, _ => by simp [ArgR] at h
  | .bor _ :: _, [], _, _, h, _, _ => by simp [ArgR] at h
  | .bor _ :: _, .own _ :: _, [], _, h, _, _ => by simp [ArgR] at h
  | .new _ :: _, _, _, _, h, _, _ => by simp [ArgR] at h
theorem argr_ok (s : S K T B H σ δ) {A : List Addr} {I : List Nat} (hI : ∀ i ∈ I, ∃ a u, δ[i]? = some (.own a u)) (hA : ∀ a ∈ A, a ∈ I.map (plc δ)) : ∀ {vs : List V} {rs : List R} {as : List Ar} {is : List Nat}, Vrs K B σ δ H vs rs → ArgR δ I rs as is →
    ArgsOk K (dl H A) H vs as (is.map (plc δ))
  | [], [], [], [], _, _ => trivial
  | v :: vs, .val d :: rs, .val e :: as, is, h, a => by
    obtain ⟨rfl, a⟩ := a
    exact ⟨dp_mono (dl_less fun a m => plc_ow hI a (hA a m)) _ _ h.1, argr_ok s hI hA h.2 a⟩
  | v :: vs, .bor k :: rs, .own w :: as, j :: is, h, a => by
    obtain ⟨rfl, ⟨b, q⟩, a⟩ := a
    obtain ⟨q1, q2⟩ := s.hp q
    have h1 : σ[j]? = some (some v) := h.1
    rw [h1] at q1
    cases q1
    refine ⟨?_, ?_, argr_ok s hI hA h.2 a⟩
    · rw [plc_of q]
    · rw [plc_of q]
      exact q2.mono (dp_mono (dl_less fun a m => plc_ow hI a (hA a m))) rfl
  | v :: vs, .bor k :: rs, .val e :: as, is, h, a => by
    obtain ⟨⟨b, ds, q, rfl⟩, nI, a⟩ := a
    obtain ⟨q1, xs, q2, q3⟩ := s.hp q
    have h1 : σ[k]? = some (some v) := h.1
    rw [h1] at q1
    cases q1
    refine ⟨.lst (.inl (.inl (dl_of q2 fun m => ?_))) (da_mono (dl_less fun a m => plc_ow hI a (hA a m)) _ _ q3), argr_ok s hI hA h.2 a⟩
    obtain ⟨j, hj, e⟩ := List.mem_map.mp (hA _ m)
    obtain ⟨c, w, hc⟩ := hI j hj
    rw [plc_of hc] at e
    exact nI (s.inj hc q e ▸ hj)
  | [], _ :: _, _, _, h, _ => h.elim
  | _ :: _, [], _, _, h, _ => h.elim
  | [], [], _ :: _, _, _, h => by simp [ArgR] at h
  | [], [], [], _ :: _, _, h => by simp [ArgR] at h
  | _ :: _, .val _ :: _, [], _, _, h => by simp [ArgR] at h
  | _ :: _, .val _ :: _, .own _ :: _, _, _, h => by simp [ArgR] at h
  | _ :: _, .bor _ :: _, [], _, _, h => by simp [ArgR] at h
  | _ :: _, .bor _ :: _, .own _ :: _, [], _, h => by simp [ArgR] at h
  | _ :: _, .new _ :: _, _, _, _, h => by simp [ArgR] at h
theorem argr_bx : ∀ {vs : List V} {rs : List R} {as : List Ar} {is I : List Nat} {B : Lo}, Bxs B B' vs rs → ArgR δ I rs as is → B' = B
  | [], _, _, _, _, _, h, _ => h
  | _ :: _, [], _, _, _, _, h, _ => h
  | v :: vs, .val d :: rs, .val e :: as, is, I, B, ⟨B1, h1, h2⟩, a => by
    have e1 : B1 = B := h1
    rw [← e1]
    exact argr_bx h2 a.2
  | v :: vs, .bor k :: rs, .own w :: as, j :: is, I, B, ⟨B1, h1, h2⟩, a => by
    have e1 : B1 = B := h1
    rw [← e1]
    exact argr_bx h2 a.2.2
  | v :: vs, .bor k :: rs, .val e :: as, is, I, B, ⟨B1, h1, h2⟩, a => by
    have e1 : B1 = B := h1
    rw [← e1]
    exact argr_bx h2 a.2.2
  | _ :: _, .val _ :: _, [], _, _, _, _, h => by simp [ArgR] at h
  | _ :: _, .val _ :: _, .own _ :: _, _, _, _, _, h => by simp [ArgR] at h
  | _ :: _, .bor _ :: _, [], _, _, _, _, h => by simp [ArgR] at h
  | _ :: _, .bor _ :: _, .own _ :: _, [], _, _, _, h => by simp [ArgR] at h
  | _ :: _, .new _ :: _, _, _, _, _, _, h => by simp [ArgR] at h
/-- behind a call that got the objects of the names is; results without lists -/
theorem rs_call {Q : VK} {is : List Nat} {us : List OV} (s : S K T B H σ δ) (g0 : Go A0 (ow δ B) H0 H) (nd : is.Nodup) (own : ∀ i ∈ is, ∃ a u, δ[i]? = some (.own a u)) (hT : TabsN T H') (g : Go (al (is.map (plc δ)) []) (al (is.map (plc δ)) []) H H') (af : After K (is.map (plc δ)) [] H H' v r us) (im : RImm r us)
    (k : ∀ v H' r δ' B', RS K T B B' A0 H0 H' σ δ' v r → P r δ' → Q v H') (p : P r (putOs δ is us)) : Q v H' := by
  have e0 : al (is.map (plc δ)) [] = is.map (plc δ) := List.append_nil _
  rw [e0] at g
  have how : ow (putOs δ is us) B = ow δ B := putOs_ow
  have hs : ∀ (i : Nat) (x : Sl), (putOs δ is us)[i]? = some x → (δ[i]? = some x ∧ ∀ a u, x = .own a u → a ∉ is.map (plc δ)) ∨ ∃ a u u0, x = .own a u ∧ δ[i]? = some (.own a u0) ∧ OvImm u ∧ Holds K H' H' a u := fun i x hx => by
    by_cases hi : i ∈ is
    · obtain ⟨a, u, u0, q1, q2, q3, q4⟩ := putOs_at nd own af.args hi hx
      exact .inr ⟨a, u, u0, q1, q2, im.2 u q3, q4.mono (dp_mono dl_rk) rfl⟩
    · rw [putOs_ne hi] at hx
      refine .inl ⟨hx, fun a u e m => ?_⟩
      subst e
      obtain ⟨j, hj, e⟩ := List.mem_map.mp m
      obtain ⟨b, w, hj'⟩ := own j hj
      rw [plc_of hj'] at e
      exact hi (s.inj hj' hx e ▸ hj)
  have nB : ∀ q ∈ B, q.1 ∉ is.map (plc δ) := fun q hq m => by
    obtain ⟨j, hj, e⟩ := List.mem_map.mp m
    obtain ⟨b, w, hj'⟩ := own j hj
    rw [plc_of hj'] at e
    have hl : j < δ.length := (List.getElem?_eq_some_iff.mp hj').1
    have hp := ow_own (δ := δ) (p := b) (u := w) (B := B) hl
    rw [ow_same hj'] at hp
    refine (List.nodup_cons.mp (hp.nodup_iff.mp s.nd)).1 (mem_ow.mpr (.inr ⟨q.2, ?_⟩))
    rw [e]
    exact hq
  have sub := plc_ow (B := B) own
  have g1 : Go (ow δ B) (ow δ B) H H' := ⟨(g.more sub).ext, g.dom, fun a m => .inl m⟩
  have h := af.res
  cases r with
  | val d =>
    have s1 : S K T B H' σ (putOs δ is us) := s.call g hT sub (fun a m => by rw [how] at m; exact .inl m) (by rw [how]; exact s.nd) putOs_len hs fun q hq => .inl ⟨hq, nB q hq⟩
    exact k v H' (.val d) _ B ⟨s1, by rw [how]; exact g0.trans g1, s1.imm im.1 (dp_full h), rfl⟩ p
  | new u =>
    obtain ⟨q, rfl, h1, h3⟩ := h
    have h2 : OvImm u := im.1
    have nq : q ∉ ow (putOs δ is us) B := fun m => by
      rw [how] at m
      exact s.free h1 m
    have s1 : S K T ((q, u) :: B) H' σ (putOs δ is us) := s.call g hT sub (fun a m => (List.mem_cons.mp (ow_loose.mem_iff.mp m)).elim (fun z => .inr (z ▸ h1)) fun z => by rw [how] at z; exact .inl z)
      (ow_loose.nodup_iff.mpr (List.nodup_cons.mpr ⟨nq, by rw [how]; exact s.nd⟩)) putOs_len hs fun x hx => (List.mem_cons.mp hx).elim (fun z => .inr (by rw [z]; exact ⟨h2, h3.mono (dp_mono dl_rk) rfl⟩)) fun z => .inl ⟨z, nB x z⟩
    refine k _ H' (.new u) _ ((q, u) :: B) ⟨s1, g0.trans ⟨g1.ext, g1.dom, fun a m => ?_⟩, ⟨q, rfl, List.mem_cons_self⟩, ⟨q, rfl, rfl⟩⟩ p
    rcases List.mem_cons.mp (ow_loose.mem_iff.mp m) with z | z
    · exact .inr (z ▸ h1)
    · rw [how] at z
      exact .inl z
  | bor i => exact h.elim
/-- f(..), names' objects handed over or read; what comes back holds no list -/
theorem ex_call {F : FS} {ta : TA} {X : XK} (h : ExA K T ta δ fun rs δ1 => ∃ as is, ArgR δ1 is rs as is ∧ is.Nodup ∧ F as fun r us => RImm r us ∧ P r (putOs δ1 is us)) : Ex K T (tCall (spOf K T F) [] X ta) δ P := fun B H σ s Q k =>
  h B H σ s _ fun vs H1 rs δ1 B1 R1 ⟨as, is, ar, nd, f⟩ => by
    have e1 : B1 = B := argr_bx R1.bx ar
    subst e1
    have own := argr_own ar
    show spOf K T F (vs ++ []) H1 Q X
    rw [List.append_nil]
    have e0 : al (is.map (plc δ1)) [] = is.map (plc δ1) := List.append_nil _
    refine ⟨is.map (plc δ1), [], as, _, by rw [e0]; exact plc_nd R1.s nd own, R1.s.tab, by rw [e0]; exact argr_ok R1.s own (fun a m => m) R1.vr ar, (fun q hq => by cases hq), f, fun v H' r us hT g af p => rs_call R1.s R1.go nd own hT g af p.1 k p.2⟩
/-- a new list as an argument that is only read -/
theorem ex_fz (h : Ex K T te δ fun r δ1 => ∃ d, Fz r d ∧ P (.val d) δ1) : Ex K T te δ P := fun B H σ s Q k =>
  h B H σ s _ fun v H1 r δ1 B1 R1 ⟨d, f, p⟩ => by
    obtain ⟨s1, g1, hv⟩ := rs_fz R1 f
    exact k v H1 (.val d) δ1 B ⟨s1, g1, hv, rfl⟩ p
def slotsOf : List Ar → List Addr → List Sl
  | .val d :: as, ps => .val d :: slotsOf as ps
  | .own u :: as, p :: ps => .own p u :: slotsOf as ps
  | _, _ => []
/-- what the owned parameters hold at the end -/
def Fin : List Ar → List Addr → List Sl → List OV → Prop
  | [], [], _, us => us = []
  | .val _ :: as, ps, _ :: δ, us => Fin as ps δ us
  | .own _ :: as, p :: ps, .own q u :: δ, us => q = p ∧ ∃ us', us = u :: us' ∧ Fin as ps δ us'
  | _, _, _, _ => False
def RetR (n : Nat) (δ : List Sl) : R → R → Prop
  | .val d, r => r = .val d
  | .new u, r => r = .new u
  | .bor i, r => n ≤ i ∧ ∃ a u, δ[i]? = some (.own a u) ∧ r = .new u
def owns : List Ar → Nat
  | [] => 0
  | .val _ :: as => owns as
  | .own _ :: as => owns as + 1
theorem argsOk_len {L : Hp} : ∀ {vs : List V} {as : List Ar} {ps : List Addr}, ArgsOk K L H vs as ps → vs.length = as.length ∧ ps.length = owns as ∧ (slotsOf as ps).length = as.length
  | [], [], [], _ => ⟨rfl, rfl, rfl⟩
  | _ :: vs, .val d :: as, ps, h => by
    obtain ⟨h1, h2, h3⟩ := argsOk_len h.2
    exact ⟨congrArg (· + 1) h1, h2, congrArg (· + 1) h3⟩
  | _ :: vs, .own u :: as, p :: ps, h => by
    obtain ⟨h1, h2, h3⟩ := argsOk_len h.2.2
    exact ⟨congrArg (· + 1) h1, congrArg (· + 1) h2, congrArg (· + 1) h3⟩
  | [], _ :: _, _, h => by simp [ArgsOk] at h
  | [], [], _ :: _, h => by simp [ArgsOk] at h
  | _ :: _, [], _, h => by simp [ArgsOk] at h
  | _ :: _, .own _ :: _, [], h => by simp [ArgsOk] at h
theorem argsOk_at {L : Hp} : ∀ {vs : List V} {as : List Ar} {ps : List Addr} {i : Nat} {x : Sl}, ArgsOk K L H vs as ps → (slotsOf as ps)[i]? = some x →
    ∃ v, vs[i]? = some v ∧ ((∃ d, x = .val d ∧ Dp K L v d) ∨ ∃ a u, x = .own a u ∧ v = .ref a ∧ Holds K L H a u)
  | [], [], [], i, x, _, e => by simp [slotsOf] at e
  | v :: vs, .val d :: as, ps, 0, x, h, e => ⟨v, rfl, .inl ⟨d, (Option.some.inj e).symm, h.1⟩⟩
  | v :: vs, .val d :: as, ps, i + 1, x, h, e => argsOk_at (i := i) h.2 e
  | v :: vs, .own u :: as, p :: ps, 0, x, h, e => ⟨v, rfl, .inr ⟨p, u, (Option.some.inj e).symm, h.1, h.2.1⟩⟩
  | v :: vs, .own u :: as, p :: ps, i + 1, x, h, e => argsOk_at (i := i) h.2.2 e
  | [], _ :: _, _, _, _, h, _ => by simp [ArgsOk] at h
  | [], [], _ :: _, _, _, h, _ => by simp [ArgsOk] at h
  | _ :: _, [], _, _, _, h, _ => by simp [ArgsOk] at h
  | _ :: _, .own _ :: _, [], _, _, h, _ => by simp [ArgsOk] at h
theorem slots_ow {L : Hp} : ∀ {vs : List V} {as : List Ar} {ps : List Addr}, ArgsOk K L H vs as ps → (slotsOf as ps).flatMap ow1 = ps
  | [], [], [], _ => rfl
  | _ :: vs, .val d :: as, ps, h => by
    show (Sl.val d :: slotsOf as ps).flatMap ow1 = ps
    rw [List.flatMap_cons, slots_ow h.2]
    rfl
  | _ :: vs, .own u :: as, p :: ps, h => by
    show (Sl.own p u :: slotsOf as ps).flatMap ow1 = p :: ps
    rw [List.flatMap_cons, slots_ow h.2.2]
    rfl
  | [], _ :: _, _, h => by simp [ArgsOk] at h
  | [], [], _ :: _, h => by simp [ArgsOk] at h
  | _ :: _, [], _, h => by simp [ArgsOk] at h
  | _ :: _, .own _ :: _, [], h => by simp [ArgsOk] at h
theorem rep_ow : ∀ n : Nat, (List.replicate n Sl.no).flatMap ow1 = []
  | 0 => rfl
  | n + 1 => by rw [List.replicate_succ, List.flatMap_cons, rep_ow n]; rfl
theorem entry_ow {L : Hp} {vs : List V} {as : List Ar} {n : Nat} {Z : Lo} (h : ArgsOk K L H vs as A) : ow (slotsOf as A ++ List.replicate n .no) Z = al A Z := by
  unfold ow
  rw [List.flatMap_append, slots_ow h, rep_ow, List.append_nil]
theorem entry {vs : List V} {as : List Ar} {N : List Str} {Z : Lo} (h : ArgsOk K (dl H (al A Z)) H vs as A) (hZ : ∀ q ∈ Z, Holds K (dl H (al A Z)) H q.1 q.2) (nd : (al A Z).Nodup) (hT : TabsN T H) : S K T Z H (L2.start N vs) (slotsOf as A ++ List.replicate (N.length - vs.length) .no) := by
  obtain ⟨l1, l2, l3⟩ := argsOk_len h
  have eo := entry_ow (n := N.length - vs.length) (Z := Z) h
  refine ⟨?_, hT, fun i x hx => ?_, (fun p hp => by rw [eo]; exact hZ p hp), by rw [eo]; exact nd⟩
  · unfold L2.start
    rw [List.length_append, List.length_append, List.length_map, List.length_replicate, List.length_replicate, l3, l1]
  · rw [eo]
    by_cases hi : i < as.length
    · rw [List.getElem?_append_left (by rw [l3]; exact hi)] at hx
      obtain ⟨v, e, q⟩ := argsOk_at h hx
      have es : (L2.start N vs)[i]? = some (some v) := by
        unfold L2.start
        rw [List.getElem?_append_left (by rw [List.length_map, l1]; exact hi), List.getElem?_map, e]
        rfl
      rw [es]
      rcases q with ⟨d, rfl, q⟩ | ⟨a, u, rfl, rfl, q⟩
      · exact ⟨v, rfl, q⟩
      · exact ⟨rfl, q⟩
    · rw [List.getElem?_append_right (by rw [l3]; omega), List.getElem?_replicate] at hx
      split at hx
      · cases hx
        trivial
      · cases hx
theorem fin_at : ∀ {as : List Ar} {ps : List Addr} {δ : List Sl} {us : List OV}, Fin as ps δ us → ∀ a ∈ ps, ∃ (i : Nat) (u : OV), i < as.length ∧ δ[i]? = some (.own a u)
  | [], [], _, _, _, a, m => by cases m
  | .val _ :: as, ps, _ :: δ, us, h, a, m => by
    obtain ⟨i, u, h1, h2⟩ := fin_at (δ := δ) h a m
    exact ⟨i + 1, u, Nat.succ_lt_succ h1, h2⟩
  | .own _ :: as, p :: ps, .own q u :: δ, us, h, a, m => by
    obtain ⟨rfl, us', _, h⟩ := h
    rcases List.mem_cons.mp m with e | m
    · exact ⟨0, u, Nat.succ_pos _, by rw [e]; rfl⟩
    · obtain ⟨i, u, h1, h2⟩ := fin_at (δ := δ) h a m
      exact ⟨i + 1, u, Nat.succ_lt_succ h1, h2⟩
  | [], _ :: _, _, _, h, _, _ => by simp [Fin] at h
  | .val _ :: _, _, [], _, h, _, _ => by simp [Fin] at h
  | .own _ :: _, [], _, _, h, _, _ => by simp [Fin] at h
  | .own _ :: _, _ :: _, [], _, h, _, _ => by simp [Fin] at h
  | .own _ :: _, _ :: _, .no :: _, _, h, _, _ => by simp [Fin] at h
  | .own _ :: _, _ :: _, .val _ :: _, _, h, _, _ => by simp [Fin] at h
  | .own _ :: _, _ :: _, .raw _ :: _, _, h, _, _ => by simp [Fin] at h
theorem fin_behind {L : Hp} (e : ∀ d v, Dp K (dl H' (ow δ B)) v d → Dp K L v d) (s : S K T B H' σ δ) : ∀ {as : List Ar} {ps : List Addr} {δ1 : List Sl} {us : List OV}, (∀ x ∈ δ1, x ∈ δ) → Fin as ps δ1 us → Behind K L H' ps us
  | [], [], _, us, _, h => by
    have e : us = [] := by simpa [Fin] using h
    subst e
    trivial
  | .val _ :: as, ps, _ :: δ1, us, m, h => fin_behind e s (δ1 := δ1) (fun x hx => m x (List.mem_cons_of_mem _ hx)) h
  | .own _ :: as, p :: ps, .own q u :: δ1, us, m, h => by
    obtain ⟨rfl, us', rfl, h⟩ := h
    obtain ⟨j, hj⟩ := List.mem_iff_getElem?.mp (m _ List.mem_cons_self)
    exact ⟨(s.hp hj).2.mono e rfl, fin_behind e s (δ1 := δ1) (fun x hx => m x (List.mem_cons_of_mem _ hx)) h⟩
  | [], _ :: _, _, _, _, h => by simp [Fin] at h
  | .val _ :: _, _, [], _, _, h => by simp [Fin] at h
  | .own _ :: _, [], _, _, _, h => by simp [Fin] at h
  | .own _ :: _, _ :: _, [], _, _, h => by simp [Fin] at h
  | .own _ :: _, _ :: _, .no :: _, _, _, h => by simp [Fin] at h
  | .own _ :: _, _ :: _, .val _ :: _, _, _, h => by simp [Fin] at h
  | .own _ :: _, _ :: _, .raw _ :: _, _, _, h => by simp [Fin] at h
theorem al_sub {Z : Lo} {as : List Ar} {us : List OV} (f : Fin as A δ us) (hZ : ∀ q ∈ Z, q ∈ B') : ∀ a ∈ al A Z, a ∈ ow δ B' := fun a m => by
  rcases List.mem_append.mp m with m | m
  · obtain ⟨i, u, _, h⟩ := fin_at f a m
    exact mem_ow.mpr (.inl ⟨i, u, h⟩)
  · obtain ⟨q, hq, rfl⟩ := List.mem_map.mp m
    exact mem_ow.mpr (.inr ⟨q.2, hZ q hq⟩)
/-- leaving by the end -/
theorem leave0 {Z : Lo} {as : List Ar} {us : List OV} (s : S K T Z H' σ δ) (f : Fin as A δ us) : After K A Z H H' .non (.val .none) us := by
  have e : ∀ d v, Dp K (dl H' (ow δ Z)) v d → Dp K (dl H' (al A Z)) v d := dp_mono (dl_less (al_sub f fun q hq => hq))
  exact ⟨.non, fin_behind e s (fun x hx => hx) f, fun q hq => (s.loose q hq).mono e rfl⟩
theorem leave {Z : Lo} {as : List Ar} {us : List OV} {r' : R} (R1 : RS K T Z B' (al A Z) H H' σ δ v r) (f : Fin as A δ us) (q : RetR as.length δ r r') : After K A Z H H' v r' us := by
  have sZ : ∀ x ∈ Z, x ∈ B' := fun x hx => by
    obtain ⟨C, e⟩ := R1.bx.suf
    rw [e]
    exact List.mem_append_right _ hx
  have sub := al_sub f sZ
  have apart : ∀ p, p ∈ ow δ B' → (∀ (i : Nat) (u : OV), i < as.length → δ[i]? = some (.own p u) → False) → (∀ x ∈ Z, x.1 ≠ p) → H p = none := fun p m n nz => by
    rcases R1.go.org p m with z | z
    · rcases List.mem_append.mp z with z | z
      · obtain ⟨i, u, h1, h2⟩ := fin_at f p z
        exact (n i u h1 h2).elim
      · obtain ⟨x, hx, e⟩ := List.mem_map.mp z
        exact (nz x hx e).elim
    · exact z
  have fin : ∀ N : List Addr, (∀ a ∈ N, a ∈ ow δ B') → Behind K (dl H' (N ++ al A Z)) H' A us ∧ ∀ q ∈ Z, Holds K (dl H' (N ++ al A Z)) H' q.1 q.2 := fun N hN => by
    have e : ∀ d v, Dp K (dl H' (ow δ B')) v d → Dp K (dl H' (N ++ al A Z)) v d := dp_mono (dl_less fun a m => (List.mem_append.mp m).elim (hN a) (sub a))
    exact ⟨fin_behind e R1.s (fun x hx => hx) f, fun q hq => (R1.s.loose q (sZ q hq)).mono e rfl⟩
  cases r with
  | val d =>
    have q : r' = .val d := q
    subst q
    obtain ⟨h1, h2⟩ := fin [] (fun a m => by cases m)
    exact ⟨dp_mono (dl_less sub) _ _ R1.vr, h1, h2⟩
  | new u =>
    have q : r' = .new u := q
    subst q
    obtain ⟨p, rfl, e⟩ := R1.bx
    subst e
    have mp : p ∈ ow δ ((p, u) :: Z) := mem_ow.mpr (.inr ⟨u, List.mem_cons_self⟩)
    have nd := List.nodup_cons.mp (ow_loose.nodup_iff.mp R1.s.nd)
    obtain ⟨h1, h2⟩ := fin [p] (fun a m => by rw [List.mem_singleton.mp m]; exact mp)
    refine ⟨⟨p, rfl, apart p mp (fun i w _ hi => nd.1 (mem_ow.mpr (.inl ⟨i, w, hi⟩))) (fun x hx e => nd.1 (mem_ow.mpr (.inr ⟨x.2, by rw [← e]; exact hx⟩))), ?_⟩, h1, h2⟩
    refine (R1.s.loose _ List.mem_cons_self).mono (dp_mono (dl_less fun a m => ?_)) rfl
    rcases List.mem_cons.mp m with z | z
    · rw [z]; exact mp
    · exact sub a z
  | bor j =>
    obtain ⟨hj, a, u, h1, rfl⟩ := q
    obtain ⟨q1, q2⟩ := R1.s.hp h1
    have hv : σ[j]? = some (some v) := R1.vr
    rw [hv] at q1
    cases q1
    have eB : B' = Z := R1.bx
    subst eB
    have ma : a ∈ ow δ B' := mem_ow.mpr (.inl ⟨j, u, h1⟩)
    obtain ⟨h3, h4⟩ := fin [a] (fun b m => by rw [List.mem_singleton.mp m]; exact ma)
    refine ⟨⟨a, rfl, apart a ma (fun i w hi e => ?_) (fun x hx e => ?_), ?_⟩, h3, h4⟩
    · have := R1.s.inj h1 e rfl
      omega
    · have hl : j < δ.length := (List.getElem?_eq_some_iff.mp h1).1
      have hp := ow_own (δ := δ) (p := a) (u := u) (B := B') hl
      rw [ow_same h1] at hp
      refine (List.nodup_cons.mp (hp.nodup_iff.mp R1.s.nd)).1 (mem_ow.mpr (.inr ⟨x.2, ?_⟩))
      rw [← e]
      exact hx
    · refine q2.mono (dp_mono (dl_less fun b m => ?_)) rfl
      rcases List.mem_cons.mp m with z | z
      · rw [z]; exact ma
      · exact sub b z
/-- THE RULE: a def keeps its promise in data -/
theorem fs_ok {P : Program} {w : World} {mg : Str → Option Value} {base : Heap} {x qual : Str} {st : Stmt} {f : Addr} {fd : FuncData} {N ps : List Str} {k : Nat} {F : FS} (Fn : Fun K x qual st f fd) (Sc : FnScope N ps (defScope st)) (len : ∀ as Q, F as Q → as.length = ps.length)
    (body : ∀ (cdv : Value) (A : Around) (outer : List Env) (s : Shared) (H : Hp) (E : XK), Room k (A.deeper (envOfC qual (defScope st) s.heap.objs.size f cdv)) → ∀ (as : List Ar) (Q : R → List OV → Prop) (qs : List Addr), F as Q → qs.length = owns as →
      ∃ t, PSs (cxOf CX0 P w K mg base N qual (defScope st) f cdv A outer s H E).nox (defBody st) t ∧
        Ss K T t (slotsOf as qs ++ List.replicate (N.length - as.length) .no) { nx := fun δ' => ∃ us, Fin as qs δ' us ∧ Q (.val .none) us, rt := fun r δ' => ∃ us r', Fin as qs δ' us ∧ RetR as.length δ' r r' ∧ Q r' us }) :
    FnOk P w K mg base CX0 (k + 1) f fd ps (spOf K T F) := by
  refine Fn.ok Sc (fun vs H Q E h => ?_) (fun cdv Ar outer s H vs Q E hr h => ?_)
  · obtain ⟨A, Z, as, P, nd, hT, ha, hZ, f, _⟩ := h
    rw [(argsOk_len ha).1]
    exact len as P f
  · obtain ⟨A, Z, as, P, nd, hT, ha, hZ, f, fin⟩ := h
    obtain ⟨t, ht, hs⟩ := body cdv Ar outer s H E hr as P A f (argsOk_len ha).2.1
    have s0 := entry (N := N) ha hZ nd hT
    have eo := entry_ow (n := N.length - vs.length) (Z := Z) ha
    rw [(argsOk_len ha).1] at s0 eo
    refine ⟨t, ht, hs Z H _ s0 _ (fun σ' H' δ' s' g' ⟨us, q1, q2⟩ => ?_) (fun v σ' H' r δ' B' R1 ⟨us, r', q1, q2, q3⟩ => ?_) (fun _ _ _ _ _ z => z.elim) (fun _ _ _ _ _ z => z.elim)⟩
    · rw [eo] at g'
      exact fin .non H' (.val .none) us s'.tab ⟨g'.ext, g'.dom, fun a m => .inl m⟩ (leave0 s' q1) q2
    · have R2 := R1
      rw [eo] at R2
      have g' := R2.go
      exact fin v H' r' us R2.s.tab ⟨g'.ext, g'.dom, fun a m => .inl m⟩ (leave R2 q1 q2) q3
end
end Pl
set_option Elab.async false
set_option linter.all false
set_option maxRecDepth 100000
set_option maxHeartbeats 1000001
namespace Pl
open PySem L2 LamX NdefX PyProof.Rows
def lo1 : Sl → Lo
  | .own a u => [(a, u)]
  | _ => []
theorem lo1_map : ∀ δ : List Sl, (δ.flatMap lo1).map (·.1) = δ.flatMap ow1
  | [] => rfl
  | s :: δ => by
    rw [List.flatMap_cons, List.flatMap_cons, List.map_append, lo1_map δ]
    cases s <;> rfl
theorem mem_lo {δ : List Sl} {q : Addr × OV} (h : q ∈ δ.flatMap lo1) : ∃ i : Nat, δ[i]? = some (.own q.1 q.2) := by
  obtain ⟨s, hs, m⟩ := List.mem_flatMap.mp h
  obtain ⟨i, hi⟩ := List.mem_iff_getElem?.mp hs
  cases s with
  | no => cases m
  | raw v => cases m
  | val d => cases m
  | own a u =>
    have e : q = (a, u) := by simpa [lo1] using m
    subst e
    exact ⟨i, hi⟩
theorem lo_mem {δ : List Sl} {i : Nat} {a : Addr} {u : OV} (h : δ[i]? = some (.own a u)) : (a, u) ∈ δ.flatMap lo1 :=
  List.mem_flatMap.mpr ⟨_, List.mem_of_getElem? h, List.mem_cons_self⟩
def clr (δ : List Sl) : List Nat → List Sl
  | [] => δ
  | i :: is => (clr δ is).set i .no
theorem clr_ne {δ : List Sl} {j : Nat} : ∀ {is : List Nat}, j ∉ is → (clr δ is)[j]? = δ[j]?
  | [], _ => rfl
  | i :: is, h => by
    show ((clr δ is).set i .no)[j]? = _
    rw [List.getElem?_set_ne fun e => h (by rw [← e]; exact List.mem_cons_self), clr_ne fun m => h (List.mem_cons_of_mem _ m)]
theorem clr_own {δ : List Sl} {j : Nat} {a : Addr} {u : OV} : ∀ {is : List Nat}, (clr δ is)[j]? = some (.own a u) → δ[j]? = some (.own a u) ∧ j ∉ is
  | [], h => ⟨h, by simp⟩
  | i :: is, h => by
    have h : ((clr δ is).set i .no)[j]? = some (.own a u) := h
    rcases get_set h with ⟨_, _, e⟩ | ⟨ne, h⟩
    · cases e
    · obtain ⟨h1, h2⟩ := clr_own h
      exact ⟨h1, fun m => (List.mem_cons.mp m).elim (fun e => ne e.symm) h2⟩
theorem clr_perm {δ : List Sl} {B : Lo} : ∀ {is : List Nat}, is.Nodup → (∀ i ∈ is, ∃ a u, δ[i]? = some (.own a u)) → (ow δ B).Perm (is.map (plc δ) ++ ow (clr δ is) B)
  | [], _, _ => List.Perm.refl _
  | i :: is, nd, own => by
    obtain ⟨nd1, nd2⟩ := List.nodup_cons.mp nd
    obtain ⟨a, u, h⟩ := own i List.mem_cons_self
    have h' : (clr δ is)[i]? = some (.own a u) := by rw [clr_ne nd1]; exact h
    have hp := ow_own (δ := clr δ is) (p := a) (u := u) (B := B) (List.getElem?_eq_some_iff.mp h').1
    rw [ow_same h'] at hp
    refine (clr_perm nd2 fun k hk => own k (List.mem_cons_of_mem _ hk)).trans ?_
    rw [List.map_cons, plc_of h]
    exact (hp.append_left _).trans List.perm_middle
def nms : List (Option Nat) → List Nat
  | [] => []
  | some i :: os => i :: nms os
  | none :: os => nms os
def ArgF (δ : List Sl) : List R → List Ar → List (Option Nat) → Prop
  | [], [], [] => True
  | .val d :: rs, .val e :: as, os => e = d ∧ ArgF δ rs as os
  | .bor i :: rs, .own w :: as, o :: os => o = some i ∧ (∃ a, δ[i]? = some (.own a w)) ∧ ArgF δ rs as os
  | .new u :: rs, .own w :: as, o :: os => o = none ∧ w = u ∧ ArgF δ rs as os
  | .new u :: rs, .val e :: as, os => (∃ ds, u = .lst ds ∧ e = .list ds) ∧ ArgF δ rs as os
  | _, _, _ => False
def putOo (δ : List Sl) : List (Option Nat) → List OV → List Sl
  | some i :: os, u :: us => putOo (putO δ i u) os us
  | none :: os, _ :: us => putOo δ os us
  | _, _ => δ
def PosO (δ : List Sl) : List (Option Nat) → List Addr → Prop
  | [], [] => True
  | some i :: os, a :: A => a = plc δ i ∧ PosO δ os A
  | none :: os, _ :: A => PosO δ os A
  | _, _ => False
section
variable {K : PySem.W.Frag} {T : List NTab} {B B' B1 : Lo} {A A0 : List Addr} {H0 H H' : Hp} {σ : L2.St} {δ δ' : List Sl} {v : V} {r : R} {P : R → List Sl → Prop} {te : TE}
theorem putOo_ow : ∀ {os : List (Option Nat)} {us : List OV} {δ : List Sl}, ow (putOo δ os us) B = ow δ B
  | [], _, _ => rfl
  | some _ :: _, [], _ => rfl
  | none :: _, [], _ => rfl
  | some i :: os, u :: us, δ => by
    show ow (putOo (putO δ i u) os us) B = _
    rw [putOo_ow, putO_ow]
  | none :: os, u :: us, δ => putOo_ow (os := os) (us := us)
theorem putOo_len : ∀ {os : List (Option Nat)} {us : List OV} {δ : List Sl}, (putOo δ os us).length = δ.length
  | [], _, _ => rfl
  | some _ :: _, [], _ => rfl
  | none :: _, [], _ => rfl
  | some i :: os, u :: us, δ => by
    show (putOo (putO δ i u) os us).length = _
    rw [putOo_len, putO_len]
  | none :: os, u :: us, δ => putOo_len (os := os) (us := us)
theorem putOo_ne : ∀ {os : List (Option Nat)} {us : List OV} {δ : List Sl} {j : Nat}, j ∉ nms os → (putOo δ os us)[j]? = δ[j]?
  | [], _, _, _, _ => rfl
  | some _ :: _, [], _, _, _ => rfl
  | none :: _, [], _, _, _ => rfl
  | some i :: os, u :: us, δ, j, h => by
    show (putOo (putO δ i u) os us)[j]? = _
    rw [putOo_ne fun m => h (List.mem_cons_of_mem _ m), putO_ne fun e => h (by rw [← e]; exact List.mem_cons_self)]
  | none :: os, u :: us, δ, j, h => putOo_ne (os := os) (us := us) (δ := δ) h
theorem pos_same : ∀ {os : List (Option Nat)} {A : List Addr} {δ δ' : List Sl}, (∀ i ∈ nms os, plc δ' i = plc δ i) → PosO δ os A → PosO δ' os A
  | [], [], _, _, _, _ => trivial
  | some i :: os, a :: A, δ, δ', h, p => ⟨by rw [h i List.mem_cons_self]; exact p.1, pos_same (fun j hj => h j (List.mem_cons_of_mem _ hj)) p.2⟩
  | none :: os, a :: A, δ, δ', h, p => pos_same (os := os) (A := A) (fun j hj => h j hj) p
  | [], _ :: _, _, _, _, p => p.elim
  | some _ :: _, [], _, _, _, p => p.elim
  | none :: _, [], _, _, _, p => p.elim
theorem putOo_at {L : Hp} : ∀ {os : List (Option Nat)} {A : List Addr} {us : List OV} {δ : List Sl} {j : Nat} {x : Sl}, (nms os).Nodup → (∀ i ∈ nms os, ∃ a u, δ[i]? = some (.own a u)) → PosO δ os A → Behind K L H' A us → j ∈ nms os → (putOo δ os us)[j]? = some x →
    ∃ a u u0, x = .own a u ∧ δ[j]? = some (.own a u0) ∧ Holds K L H' a u
  | some i :: os, a0 :: A, u :: us, δ, j, x, nd, own, hp, hb, hj, hx => by
    obtain ⟨nd1, nd2⟩ := List.nodup_cons.mp nd
    obtain ⟨b2, b3⟩ := hb
    obtain ⟨p1, p2⟩ := hp
    have hx : (putOo (putO δ i u) os us)[j]? = some x := hx
    obtain ⟨a, w, hi⟩ := own i List.mem_cons_self
    by_cases hji : j = i
    · subst hji
      rw [putOo_ne nd1] at hx
      unfold putO at hx
      rw [hi] at hx
      rw [List.getElem?_set_self (List.getElem?_eq_some_iff.mp hi).1] at hx
      rw [p1, plc_of hi] at b2
      exact ⟨a, u, w, (Option.some.inj hx).symm, hi, b2⟩
    · have hj' : j ∈ nms os := (List.mem_cons.mp hj).elim (fun e => absurd e hji) id
      have same : ∀ k ∈ nms os, (putO δ i u)[k]? = δ[k]? := fun k hk => putO_ne fun e => nd1 (e ▸ hk)
      obtain ⟨a', u', u0, q1, q2, q3⟩ := putOo_at nd2 (fun k hk => by rw [same k hk]; exact own k (List.mem_cons_of_mem _ hk)) (pos_same (fun k hk => by unfold plc; rw [same k hk]) p2) b3 hj' hx
      rw [same j hj'] at q2
      exact ⟨a', u', u0, q1, q2, q3⟩
  | none :: os, a0 :: A, u :: us, δ, j, x, nd, own, hp, hb, hj, hx => putOo_at (os := os) (A := A) (us := us) nd own hp hb.2 hj hx
  | [], _, _, _, _, _, _, _, _, _, hj, _ => by cases hj
  | some _ :: _, [], _, _, _, _, _, _, p, _, _, _ => p.elim
  | none :: _, [], _, _, _, _, _, _, p, _, _, _ => p.elim
  | some _ :: _, _ :: _, [], _, _, _, _, _, _, h, _, _ => h.elim
  | none :: _, _ :: _, [], _, _, _, _, _, _, h, _, _ => h.elim
theorem argf_own : ∀ {rs : List R} {as : List Ar} {os : List (Option Nat)}, ArgF δ rs as os → ∀ i ∈ nms os, ∃ a u, δ[i]? = some (.own a u)
  | [], [], [], _, i, hi => by cases hi
  | .val d :: rs, .val e :: as, os, h, i, hi => argf_own h.2 i hi
  | .bor k :: rs, .own w :: as, o :: os, h, i, hi => by
    obtain ⟨rfl, ⟨a, q⟩, h⟩ := h
    rcases List.mem_cons.mp hi with e | hi
    · exact ⟨a, w, e ▸ q⟩
    · exact argf_own h i hi
  | .new u :: rs, .own w :: as, o :: os, h, i, hi => by
    obtain ⟨rfl, rfl, h⟩ := h
    exact argf_own h i hi
  | .new u :: rs, .val e :: as, os, h, i, hi => argf_own h.2 i hi
  | [], _ :: _, _, h, _, _ => by simp [ArgF] at h
  | [], [], _ :: _, h, _, _ => by simp [ArgF] at h
  | _ :: _, [], _, h, _, _ => by simp [ArgF] at h
  | .val _ :: _, .own _ :: _, _, h, _, _ => by simp [ArgF] at h
  | .bor _ :: _, .val _ :: _, _, h, _, _ => by simp [ArgF] at h
  | .bor _ :: _, .own _ :: _, [], h, _, _ => by simp [ArgF] at h
  | .new _ :: _, .own _ :: _, [], h, _, _ => by simp [ArgF] at h
theorem argf_ok (s : S K T B1 H σ δ) : ∀ {vs : List V} {rs : List R} {as : List Ar} {os : List (Option Nat)} {B : Lo}, Vrs K B1 σ δ H vs rs → Bxs B B1 vs rs → ArgF δ rs as os →
    ∃ A N : List Addr, A.Perm (N ++ (nms os).map (plc δ)) ∧ (N ++ ow δ B).Nodup ∧ (∀ a ∈ N ++ ow δ B, a ∈ ow δ B1) ∧ PosO δ os A ∧ (∀ q ∈ B, q ∈ B1) ∧
      ∀ L : Hp, (∀ d v, Dp K (dl H (N ++ ow δ B)) v d → Dp K L v d) → ArgsOk K L H vs as A
  | [], [], [], [], B, _, hb, _ => by
    have e : B1 = B := hb
    subst e
    exact ⟨[], [], .refl _, s.nd, fun a m => m, trivial, fun q h => h, fun _ _ => trivial⟩
  | v :: vs, .val d :: rs, .val e :: as, os, B, h, ⟨Bm, b1, b2⟩, a => by
    obtain ⟨rfl, a⟩ := a
    have e1 : Bm = B := b1
    subst e1
    obtain ⟨A, N, h1, h2, h3, h4, h5, h6⟩ := argf_ok s h.2 b2 a
    exact ⟨A, N, h1, h2, h3, h4, h5, fun L q => ⟨q _ _ (dp_mono (dl_less h3) _ _ h.1), h6 L q⟩⟩
  | v :: vs, .bor k :: rs, .own w :: as, o :: os, B, h, ⟨Bm, b1, b2⟩, a => by
    obtain ⟨rfl, ⟨b, q⟩, a⟩ := a
    have e1 : Bm = B := b1
    subst e1
    obtain ⟨A, N, h1, h2, h3, h4, h5, h6⟩ := argf_ok s h.2 b2 a
    obtain ⟨q1, q2⟩ := s.hp q
    have hv : σ[k]? = some (some v) := h.1
    rw [hv] at q1
    cases q1
    exact ⟨b :: A, N, (h1.cons b).trans (by show List.Perm _ (N ++ plc δ k :: (nms os).map (plc δ)); rw [plc_of q]; exact List.perm_middle.symm), h2, h3, ⟨(plc_of q).symm, h4⟩, h5,
      fun L m => ⟨rfl, q2.mono (fun d v z => m _ _ (dp_mono (dl_less h3) _ _ z)) rfl, h6 L m⟩⟩
  | v :: vs, .new u :: rs, .own w :: as, o :: os, B, h, ⟨Bm, b1, b2⟩, a => by
    obtain ⟨rfl, rfl, a⟩ := a
    obtain ⟨p, rfl, e1⟩ := b1
    subst e1
    obtain ⟨A, N, h1, h2, h3, h4, h5, h6⟩ := argf_ok s h.2 b2 a
    have pp : (N ++ ow δ ((p, w) :: B)).Perm (p :: N ++ ow δ B) := (ow_loose.append_left N).trans List.perm_middle
    refine ⟨p :: A, p :: N, h1.cons p, pp.nodup_iff.mp h2, fun a m => h3 a (pp.mem_iff.mpr m), h4, fun q m => h5 q (List.mem_cons_of_mem _ m), fun L m => ?_⟩
    have m' : ∀ d v, Dp K (dl H (N ++ ow δ ((p, w) :: B))) v d → Dp K L v d := fun d v z => m _ _ (dp_mono (dl_less fun a q => pp.mem_iff.mpr q) _ _ z)
    exact ⟨rfl, (s.loose _ (h5 _ List.mem_cons_self)).mono (fun d v z => m' _ _ (dp_mono (dl_less h3) _ _ z)) rfl, h6 L m'⟩
  | v :: vs, .new u :: rs, .val e :: as, os, B, h, ⟨Bm, b1, b2⟩, a => by
    obtain ⟨⟨ds, rfl, rfl⟩, a⟩ := a
    obtain ⟨p, rfl, e1⟩ := b1
    subst e1
    obtain ⟨A, N, h1, h2, h3, h4, h5, h6⟩ := argf_ok s h.2 b2 a
    have pp : (N ++ ow δ ((p, .lst ds) :: B)).Perm (p :: N ++ ow δ B) := (ow_loose.append_left N).trans List.perm_middle
    have nd := List.nodup_cons.mp (pp.nodup_iff.mp h2)
    have sub : ∀ a ∈ N ++ ow δ B, a ∈ N ++ ow δ ((p, .lst ds) :: B) := fun a m => pp.mem_iff.mpr (List.mem_cons_of_mem _ m)
    refine ⟨A, N, h1, nd.2, fun a m => h3 a (sub a m), h4, fun q m => h5 q (List.mem_cons_of_mem _ m), fun L m => ?_⟩
    obtain ⟨xs, q1, q2⟩ := s.loose _ (h5 _ List.mem_cons_self)
    refine ⟨m _ _ (.lst (.inl (.inl (dl_of q1 nd.1))) (da_mono (dl_less fun a m => h3 a (sub a m)) _ _ q2)), h6 L fun d v z => m _ _ (dp_mono (dl_less sub) _ _ z)⟩
  | [], _ :: _, _, _, _, h, _, _ => h.elim
  | _ :: _, [], _, _, _, h, _, _ => h.elim
  | [], [], _ :: _, _, _, _, _, h => by simp [ArgF] at h
  | [], [], [], _ :: _, _, _, _, h => by simp [ArgF] at h
  | _ :: _, .val _ :: _, [], _, _, _, _, h => by simp [ArgF] at h
  | _ :: _, .val _ :: _, .own _ :: _, _, _, _, _, h => by simp [ArgF] at h
  | _ :: _, .bor _ :: _, [], _, _, _, _, h => by simp [ArgF] at h
  | _ :: _, .bor _ :: _, .val _ :: _, _, _, _, _, h => by simp [ArgF] at h
  | _ :: _, .bor _ :: _, .own _ :: _, [], _, _, _, h => by simp [ArgF] at h
  | _ :: _, .new _ :: _, [], _, _, _, _, h => by simp [ArgF] at h
  | _ :: _, .new _ :: _, .own _ :: _, [], _, _, _, h => by simp [ArgF] at h
/-- f(..), nothing that is read alone is a name's own object: any result -/
theorem ex_callF {F : FS} {ta : TA} {X : XK} (h : ExA K T ta δ fun rs δ1 => ∃ as os, ArgF δ1 rs as os ∧ (nms os).Nodup ∧ F as fun r us => P r (putOo δ1 os us)) : Ex K T (tCall (spOf K T F) [] X ta) δ P := fun B H σ s Q k =>
  h B H σ s _ fun vs H1 rs δ1 B1 R1 ⟨as, os, ar, nd, f⟩ => by
    have own := argf_own ar
    obtain ⟨A, N, h1, h2, h3, h4, h5, h6⟩ := argf_ok R1.s R1.vr R1.bx ar
    have cp := clr_perm (B := B) nd own
    have key : ∀ Z : Lo, Z.map (·.1) = ow (clr δ1 (nms os)) B → (al A Z).Perm (N ++ ow δ1 B) := fun Z e => by
      show (A ++ Z.map (·.1)).Perm _
      rw [e]
      refine (h1.append_right _).trans ?_
      rw [List.append_assoc]
      exact cp.symm.append_left N
    have eZ : ((clr δ1 (nms os)).flatMap lo1 ++ B).map (·.1) = ow (clr δ1 (nms os)) B := by
      rw [List.map_append, lo1_map]
      rfl
    generalize hZd : (clr δ1 (nms os)).flatMap lo1 ++ B = Z at eZ
    have pz := key Z eZ
    have sub : ∀ a ∈ al A Z, a ∈ ow δ1 B1 := fun a m => h3 a (pz.mem_iff.mp m)
    have up : ∀ d v, Dp K (dl H1 (ow δ1 B1)) v d → Dp K (dl H1 (al A Z)) v d := dp_mono (dl_less sub)
    have inZ : ∀ (i : Nat) (a : Addr) (u : OV), i ∉ nms os → δ1[i]? = some (.own a u) → (a, u) ∈ Z := fun i a u n e => by
      rw [← hZd]
      exact List.mem_append_left _ (lo_mem (i := i) (by rw [clr_ne n]; exact e))
    have inB : ∀ q ∈ B, q ∈ Z := fun q m => by rw [← hZd]; exact List.mem_append_right _ m
    show spOf K T F (vs ++ []) H1 Q X
    rw [List.append_nil]
    refine ⟨A, Z, as, _, pz.nodup_iff.mpr h2, R1.s.tab, h6 _ (dp_mono (dl_less fun a m => pz.mem_iff.mp m)), fun q m => ?_, f, fun v H' r us hT g af p => ?_⟩
    · rw [← hZd] at m
      rcases List.mem_append.mp m with m | m
      · obtain ⟨i, e⟩ := mem_lo m
        exact (R1.s.hp (clr_own e).1).2.mono up rfl
      · exact (R1.s.loose q (h5 q m)).mono up rfl
    · have low : ∀ a ∈ ow δ1 B, a ∈ al A Z := fun a m => pz.mem_iff.mpr (List.mem_append_right _ m)
      have go : ∀ B2 : Lo, (∀ a ∈ ow (putOo δ1 os us) B2, a ∈ ow δ1 B ∨ H1 a = none) → Go (ow δ1 B1) (ow (putOo δ1 os us) B2) H1 H' := fun B2 hB2 =>
        ⟨(g.more sub).ext, g.dom, fun a m => (hB2 a m).imp_left fun z => sub a (low a z)⟩
      have st : ∀ B2 : Lo, (∀ a ∈ ow (putOo δ1 os us) B2, a ∈ ow δ1 B ∨ H1 a = none) → (∀ a ∈ ow (putOo δ1 os us) B2, a ∈ nwA v r ++ al A Z) → (ow (putOo δ1 os us) B2).Nodup →
          (∀ q ∈ B2, q ∈ B ∨ Holds K (dl H' (nwA v r ++ al A Z)) H' q.1 q.2) → S K T B2 H' σ (putOo δ1 os us) := fun B2 hB2 hin hnd hl => by
        have dn : ∀ d v', Dp K (dl H' (nwA v r ++ al A Z)) v' d → Dp K (dl H' (ow (putOo δ1 os us) B2)) v' d := dp_mono (dl_less hin)
        refine ⟨by rw [putOo_len]; exact R1.s.len, hT, fun i x hx => ?_, fun q hq => ?_, hnd⟩
        · by_cases hi : i ∈ nms os
          · obtain ⟨a, u, u0, rfl, q2, q3⟩ := putOo_at nd own h4 af.args hi hx
            exact ⟨(R1.s.hp q2).1, q3.mono dn rfl⟩
          · rw [putOo_ne hi] at hx
            cases x with
            | no => trivial
            | raw v => exact R1.s.ok i _ hx
            | val d =>
              obtain ⟨w, q1, q2⟩ := R1.s.ok i _ hx
              exact ⟨w, q1, dp_mono (go B2 hB2).rk _ _ q2⟩
            | own a u => exact ⟨(R1.s.hp hx).1, (af.rest _ (inZ i a u hi hx)).mono dn rfl⟩
        · rcases hl q hq with m | m
          · exact (af.rest q (inB q m)).mono dn rfl
          · exact m.mono dn rfl
      have nd0 : (ow (putOo δ1 os us) B).Nodup := by
        rw [putOo_ow]
        exact (List.nodup_append.mp h2).2.1
      have hr := af.res
      cases r with
      | val d =>
        have b0 : ∀ a ∈ ow (putOo δ1 os us) B, a ∈ ow δ1 B ∨ H1 a = none := fun a m => by rw [putOo_ow] at m; exact .inl m
        have b1 : ∀ a ∈ ow (putOo δ1 os us) B, a ∈ al A Z := fun a m => by rw [putOo_ow] at m; exact low a m
        exact k v H' (.val d) _ B ⟨st B b0 (fun a m => List.mem_append_right _ (b1 a m)) nd0 fun q m => .inl m, R1.go.trans (go B b0), dp_mono (dl_less b1) _ _ hr, rfl⟩ p
      | new u =>
        obtain ⟨q, rfl, q1, q2⟩ := hr
        have nq : q ∉ ow (putOo δ1 os us) B := fun m => by
          rw [putOo_ow] at m
          exact R1.s.free q1 (sub q (low q m))
        have b0 : ∀ a ∈ ow (putOo δ1 os us) ((q, u) :: B), a ∈ ow δ1 B ∨ H1 a = none := fun a m => by
          rcases List.mem_cons.mp (ow_loose.mem_iff.mp m) with z | z
          · exact .inr (z ▸ q1)
          · rw [putOo_ow] at z
            exact .inl z
        have b1 : ∀ a ∈ ow (putOo δ1 os us) ((q, u) :: B), a ∈ q :: al A Z := fun a m => by
          rcases List.mem_cons.mp (ow_loose.mem_iff.mp m) with z | z
          · rw [z]; exact List.mem_cons_self
          · rw [putOo_ow] at z
            exact List.mem_cons_of_mem _ (low a z)
        exact k _ H' (.new u) _ ((q, u) :: B) ⟨st _ b0 b1 (ow_loose.nodup_iff.mpr (List.nodup_cons.mpr ⟨nq, nd0⟩)) fun x m => (List.mem_cons.mp m).elim (fun e => .inr (by rw [e]; exact q2)) .inl,
          R1.go.trans (go _ b0), ⟨q, rfl, List.mem_cons_self⟩, ⟨q, rfl, rfl⟩⟩ p
      | bor i => exact hr.elim
end
end Pl
set_option Elab.async false
set_option linter.all false
set_option maxRecDepth 100000
set_option maxHeartbeats 1000001
namespace Pl
open PySem L2 LamX NdefX PyProof.Rows
section
variable {K : PySem.W.Frag} {T : List NTab} {B B' B1 : Lo} {A A0 : List Addr} {H0 H H' : Hp} {σ : L2.St} {δ δ' : List Sl} {v : V} {r : R} {E : Es} {te ta tb : TE} {tt t1 t2 : TT} {ts t u : TS} {g : TG} {P : R → List Sl → Prop}
theorem ex_cb {rr : List V → Hp → VK → Prop} {t : TA} (h : ExA K T t δ fun rs δ1 => ∃ ds, AsDs δ1 rs ds ∧ CbD K rr ds fun z => P z δ1) : Ex K T (tCB rr t) δ P := fun B H σ s Q k =>
  h B H σ s _ fun vs H1 rs δ1 B1 R1 ⟨ds, a, o⟩ => by
    obtain ⟨C, rfl⟩ := R1.bx.suf
    exact o H1 vs Q (R1.vr.dp R1.s a) (out_suf R1.s R1.go k)
theorem dp_l {v : V} {ds : List D} (h : Dp K H v (.list ds)) : ∃ a xs, v = .ref a ∧ SqL K H a xs ∧ DpAll K H xs ds := by
  cases h with
  | lst hs ha => exact ⟨_, _, rfl, hs, ha⟩
theorem dp_t {v : V} {ds : List D} (h : Dp K H v (.tuple ds)) : ∃ a xs, v = .ref a ∧ SqT K H a xs ∧ DpAll K H xs ds := by
  cases h with
  | tup hs ha => exact ⟨_, _, rfl, hs, ha⟩
theorem da_1 {vs : List V} {d : D} (h : DpAll K H vs [d]) : ∃ v, vs = [v] ∧ Dp K H v d := by
  cases h with
  | cons h1 h2 =>
    cases h2
    exact ⟨_, rfl, h1⟩
theorem da_ints : ∀ {vs : List V} {ns : List Int}, DpAll K H vs (ns.map .int) → vs = ns.map V.int
  | _, [], h => by cases h; rfl
  | _, n :: ns, h => by
    have h : DpAll K H _ (.int n :: ns.map .int) := h
    cases h with
    | cons h1 h2 =>
      cases h1
      rw [da_ints h2]
      rfl
theorem da_bools : ∀ {vs : List V} {ns : List Bool}, DpAll K H vs (ns.map .bool) → vs = ns.map V.bl
  | _, [], h => by cases h; rfl
  | _, n :: ns, h => by
    have h : DpAll K H _ (.bool n :: ns.map .bool) := h
    cases h with
    | cons h1 h2 =>
      cases h1
      rw [da_bools h2]
      rfl
theorem da_ofInts : ∀ {ns : List Int}, DpAll K H (ns.map V.int) (ns.map .int)
  | [] => .nil
  | n :: ns => .cons (.int n) da_ofInts
theorem imm_ints : ∀ ns : List Int, immAll (ns.map .int) = true
  | [] => rfl
  | n :: ns => by
    show (imm (.int n) && immAll (ns.map .int)) = true
    rw [imm_ints ns]
    rfl
abbrev rLen (K : PySem.W.Frag) : List V → Hp → VK → Prop := fun xs H Q => ∃ x n, xs = [x] ∧ LenV K x H n ∧ Q (.int n) H
theorem cb_lenL {ds : List D} {P : R → Prop} (p : P (.val (.int ds.length))) : CbD K (rLen K) [.list ds] P := fun H vs Q h o => by
  obtain ⟨v, rfl, h1⟩ := da_1 h
  obtain ⟨a, xs, rfl, hs, ha⟩ := dp_l h1
  exact ⟨_, xs.length, rfl, .inl ⟨xs, hs, rfl⟩, by rw [da_len ha]; exact o.val _ _ (.int _) p⟩
theorem cb_lenT {ds : List D} {P : R → Prop} (p : P (.val (.int ds.length))) : CbD K (rLen K) [.tuple ds] P := fun H vs Q h o => by
  obtain ⟨v, rfl, h1⟩ := da_1 h
  obtain ⟨a, xs, rfl, hs, ha⟩ := dp_t h1
  exact ⟨_, xs.length, rfl, .inr ⟨xs, hs, rfl⟩, by rw [da_len ha]; exact o.val _ _ (.int _) p⟩
abbrev rInt1 : List V → Hp → VK → Prop := fun xs H Q => (∃ i, xs = [.int i] ∧ Q (.int i) H) ∨ ∃ k, xs = [.bl k] ∧ Q (.int (if k then 1 else 0)) H
theorem cb_int {i : Int} {P : R → Prop} (p : P (.val (.int i))) : CbD K rInt1 [.int i] P := fun H vs Q h o => by
  obtain ⟨v, rfl, h1⟩ := da_1 h
  cases h1
  exact .inl ⟨i, rfl, o.val _ _ (.int _) p⟩
theorem cb_intB {b : Bool} {P : R → Prop} (p : P (.val (.int (if b then 1 else 0)))) : CbD K rInt1 [.bool b] P := fun H vs Q h o => by
  obtain ⟨v, rfl, h1⟩ := da_1 h
  cases h1
  exact .inr ⟨b, rfl, o.val _ _ (.int _) p⟩
theorem cb_sum {ns : List Int} {P : R → Prop} (p : P (.val (.int ns.sum))) : CbD K (rSum K) [.list (ns.map .int)] P := fun H vs Q h o => by
  obtain ⟨v, rfl, h1⟩ := da_1 h
  obtain ⟨a, xs, rfl, hs, ha⟩ := dp_l h1
  rw [da_ints ha] at hs
  exact ⟨a, ns, rfl, hs, o.val _ _ (.int _) p⟩
abbrev rListOf (K : PySem.W.Frag) : List V → Hp → VK → Prop := fun xs H Q => ∃ p ys, xs = [.ref p] ∧ (SqL K H p ys ∨ SqT K H p ys) ∧ ∀ l, H l = none → Q (.ref l) (upd H l (.lst ys))
abbrev rTupOf (K : PySem.W.Frag) : List V → Hp → VK → Prop := fun xs H Q => ∃ p ys, xs = [.ref p] ∧ ((SqL K H p ys ∧ ∀ l, H l = none → Q (.ref l) (upd H l (.tup ys))) ∨ (SqT K H p ys ∧ Q (.ref p) H))
theorem cb_listL {ds : List D} {P : R → Prop} (hi : immAll ds = true) (p : P (.new (.lst ds))) : CbD K (rListOf K) [.list ds] P := fun H vs Q h o => by
  obtain ⟨v, rfl, h1⟩ := da_1 h
  obtain ⟨a, xs, rfl, hs, ha⟩ := dp_l h1
  exact ⟨a, xs, rfl, .inl hs, fun l hl => o.lst l xs ds hl ha hi p⟩
theorem cb_listT {ds : List D} {P : R → Prop} (hi : immAll ds = true) (p : P (.new (.lst ds))) : CbD K (rListOf K) [.tuple ds] P := fun H vs Q h o => by
  obtain ⟨v, rfl, h1⟩ := da_1 h
  obtain ⟨a, xs, rfl, hs, ha⟩ := dp_t h1
  exact ⟨a, xs, rfl, .inr hs, fun l hl => o.lst l xs ds hl ha hi p⟩
theorem cb_tupL {ds : List D} {P : R → Prop} (hi : immAll ds = true) (p : P (.val (.tuple ds))) : CbD K (rTupOf K) [.list ds] P := fun H vs Q h o => by
  obtain ⟨v, rfl, h1⟩ := da_1 h
  obtain ⟨a, xs, rfl, hs, ha⟩ := dp_l h1
  exact ⟨a, xs, rfl, .inl ⟨hs, fun l hl => o.tup l xs ds hl ha hi p⟩⟩
theorem cb_tupT {ds : List D} {P : R → Prop} (hi : immAll ds = true) (p : P (.val (.tuple ds))) : CbD K (rTupOf K) [.tuple ds] P := fun H vs Q h o => by
  obtain ⟨v, rfl, h1⟩ := da_1 h
  obtain ⟨a, xs, rfl, hs, ha⟩ := dp_t h1
  refine ⟨a, xs, rfl, .inr ⟨hs, o.old _ (.tuple ds) (.tup hs ha) ?_ p⟩⟩
  simpa [imm] using hi
/-- t + u -/
theorem opd_catA {ds es : List D} {P : R → Prop} (hi : immAll ds = true) (hj : immAll es = true) (hl : ds.length + es.length ≤ 100000) (p : P (.val (.tuple (ds ++ es)))) : OpD K (rCatA K) (.tuple ds) (.tuple es) P := fun H v w Q h1 h2 o => by
  obtain ⟨a, xs, rfl, hs, ha⟩ := dp_t h1
  obtain ⟨b, ys, rfl, hs2, ha2⟩ := dp_t h2
  have both : ∀ l : List D, immAll l = true → immAll (l ++ es) = true := by
    intro l
    induction l with
    | nil => intro _; exact hj
    | cons d l ih =>
      intro h
      simp only [immAll, Bool.and_eq_true] at h
      simp only [List.cons_append, immAll, Bool.and_eq_true]
      exact ⟨h.1, ih h.2⟩
  refine ⟨a, b, xs, ys, rfl, rfl, hs, hs2, by rw [da_len ha, da_len ha2]; exact Nat.le_trans hl (by decide), fun e => ?_, fun _ e => ?_, fun _ _ q hq => ?_⟩
  · subst e
    cases ha
    exact o.old _ (.tuple es) (.tup hs2 ha2) (by simpa [imm] using hj) p
  · subst e
    cases ha2
    rw [List.append_nil] at p
    exact o.old _ (.tuple ds) (.tup hs ha) (by simpa [imm] using hi) p
  · exact o.tup q _ _ hq (da_app ha ha2) (both ds hi) p
def ExO (K : PySem.W.Frag) (T : List NTab) (to : TO) (δ : List Sl) (P : Option Int → List Sl → Prop) : Prop := ∀ (B : Lo) (H : Hp) (σ : L2.St), S K T B H σ δ → ∀ Q : Option Int → Hp → Prop,
  (∀ o H' δ', S K T B H' σ δ' → Go (ow δ B) (ow δ' B) H H' → P o δ' → Q o H') → to σ H Q
theorem exo_none {P : Option Int → List Sl → Prop} (p : P none δ) : ExO K T tNoPart δ P := fun B H σ s Q k => k none H δ s .refl p
theorem exo_some {P : Option Int → List Sl → Prop} (h : Ex K T te δ fun r δ1 => ∃ i, r = .val (.int i) ∧ P (some i) δ1) : ExO K T (tPart te) δ P := fun B H σ s Q k =>
  h B H σ s _ fun v H1 r δ1 B1 R1 ⟨i, e, p⟩ => by
    subst e
    have hb : B1 = B := R1.bx
    subst hb
    have v1 : Dp K _ v (.int i) := R1.vr
    cases v1
    exact ⟨i, rfl, k _ H1 δ1 R1.s R1.go p⟩
def cutD (ds : List D) (lo hi : Option Int) : List D := (ds.drop (HT.sIx ds.length 0 lo)).take (HT.sIx ds.length ds.length hi - HT.sIx ds.length 0 lo)
theorem da_cut {xs : List V} {ds : List D} {lo hi : Option Int} (h : DpAll K H xs ds) : DpAll K H (cutV xs lo hi) (cutD ds lo hi) := by
  unfold cutV cutD
  rw [da_len h]
  exact da_take _ (da_drop _ h)
theorem ex_slL {tl th : TO} (h : Ex K T te δ fun r δ1 => ExO K T tl δ1 fun lo δ2 => ExO K T th δ2 fun hi δ3 => ∃ ds, AsD δ3 r (.list ds) ∧ immAll (cutD ds lo hi) = true ∧ P (.new (.lst (cutD ds lo hi))) δ3) : Ex K T (tSl (rSlL K) te tl th) δ P := fun B H σ s Q k =>
  h B H σ s _ fun v H1 r δ1 B1 R1 h1 => h1 B1 H1 σ R1.s _ fun lo H2 δ2 s2 g2 h2 => h2 B1 H2 σ s2 _ fun hi H3 δ3 s3 g3 ⟨ds, a, hi', p⟩ => by
    obtain ⟨C, rfl⟩ := R1.bx.suf
    have v3 : Vr K (C ++ B) σ δ3 H3 v r := Vr.later (C := []) R1.vr (g2.trans g3)
    obtain ⟨b, xs, rfl, hs, ha⟩ := dp_l (v3.dp s3 a)
    exact ⟨b, xs, rfl, hs, fun q hq => (out_suf (P := P) s3 ((R1.go.trans g2).trans g3) k).lst q _ _ hq (da_cut ha) hi' p⟩
theorem immAll_mem {ds : List D} : immAll ds = true ↔ ∀ d ∈ ds, imm d = true := by
  induction ds with
  | nil => simp [immAll]
  | cons d ds ih => simp [immAll, ih]
theorem imm_rev {ds : List D} (h : immAll ds = true) : immAll ds.reverse = true := immAll_mem.mpr fun d m => immAll_mem.mp h d (List.mem_reverse.mp m)
theorem ty_of {d : D} {v : V} (h : Dp K H v d) : ∃ t, TyX K H v t ∧ t = (match d with | .none => .type "NoneType" | .bool _ => .type "bool" | .int _ => .type "int" | .str _ => .type "str" | .list _ => .type "list" | .tuple _ => .type "tuple" | .dict _ => .type "dict") := by
  cases h with
  | non => exact ⟨_, .base .non, rfl⟩
  | bl b => exact ⟨_, .base (.bl b), rfl⟩
  | int i => exact ⟨_, .base (.int i), rfl⟩
  | str x => exact ⟨_, .base (.str x), rfl⟩
  | lst hs ha =>
    rcases hs with (hs | ⟨o, hs⟩) | ⟨o, _, _, e, c, _⟩
    · exact ⟨_, .base (.lst hs), rfl⟩
    · exact ⟨_, .base (.frz hs), rfl⟩
    · exact ⟨_, .kList e c, rfl⟩
  | tup hs ha =>
    rcases hs with (hs | ⟨o, hs⟩) | ⟨o, _, _, e, c, _⟩
    · exact ⟨_, .base (.tup hs), rfl⟩
    · exact ⟨_, .fTuple hs, rfl⟩
    · exact ⟨_, .kTuple e c, rfl⟩
def tyD : D → Value
  | .none => .type "NoneType" | .bool _ => .type "bool" | .int _ => .type "int" | .str _ => .type "str" | .list _ => .type "list" | .tuple _ => .type "tuple" | .dict _ => .type "dict"
/-- isinstance(x, T), T a built-in type -/
theorem ex_isi {n : String} {b : Bool} (h : Ex K T te δ fun r δ1 => ∃ d, AsD δ1 r d ∧ PySem.W.kitOne K (tyD d) (.type n) = some b ∧ P (.val (.bool b)) δ1) : Ex K T (tCB (rIsi K) (tCons te (tCons (tC (.ty n)) tNil))) δ P := fun B H σ s Q k =>
  h B H σ s _ fun v H1 r δ1 B1 R1 ⟨d, a, e, p⟩ => by
    obtain ⟨C, rfl⟩ := R1.bx.suf
    obtain ⟨t, h1, h2⟩ := ty_of (R1.vr.dp R1.s a)
    have h2 : t = tyD d := by rw [h2]; cases d <;> rfl
    subst h2
    exact ⟨v, .ty n, _, .type n, b, rfl, .ty n, h1, e, (out_suf (P := P) R1.s R1.go k).val _ _ (.bl _) p⟩
section
variable {κ : Type} [DecidableEq κ]
def valD (kvs : List (κ × D)) (k : κ) : Option D := (kvs.find? fun kv => decide (kv.1 = k)).map (·.2)
def putD (kvs : List (κ × D)) (k : κ) (v : D) : List (κ × D) :=
  if (kvs.any fun kv => decide (kv.1 = k)) = true then kvs.map (fun kv => if kv.1 = k then (kv.1, v) else kv) else kvs ++ [(k, v)]
theorem kv_any {k : κ} : ∀ {a : List (κ × V)} {b : List (κ × D)}, KvAll K H a b → (a.any fun kv => decide (kv.1 = k)) = (b.any fun kv => decide (kv.1 = k))
  | [], [], _ => rfl
  | (k1, v) :: a, (k2, d) :: b, ⟨e, h1, h2⟩ => by
    subst e
    rw [List.any_cons, List.any_cons, kv_any h2]
  | [], _ :: _, h => h.elim
  | _ :: _, [], h => h.elim
theorem kv_map {k : κ} {w : V} {e : D} (hw : Dp K H w e) : ∀ {a : List (κ × V)} {b : List (κ × D)}, KvAll K H a b → KvAll K H (a.map fun kv => if kv.1 = k then (kv.1, w) else kv) (b.map fun kv => if kv.1 = k then (kv.1, e) else kv)
  | [], [], _ => trivial
  | (k1, v) :: a, (k2, d) :: b, ⟨e1, h1, h2⟩ => by
    subst e1
    rw [List.map_cons, List.map_cons]
    by_cases hk : k1 = k
    · rw [if_pos hk, if_pos hk]
      exact ⟨rfl, hw, kv_map hw h2⟩
    · rw [if_neg hk, if_neg hk]
      exact ⟨rfl, h1, kv_map hw h2⟩
  | [], _ :: _, h => h.elim
  | _ :: _, [], h => h.elim
theorem kv_snoc {k : κ} {w : V} {e : D} (hw : Dp K H w e) : ∀ {a : List (κ × V)} {b : List (κ × D)}, KvAll K H a b → KvAll K H (a ++ [(k, w)]) (b ++ [(k, e)])
  | [], [], _ => ⟨rfl, hw, trivial⟩
  | (k1, v) :: a, (k2, d) :: b, ⟨e1, h1, h2⟩ => ⟨e1, h1, kv_snoc hw h2⟩
  | [], _ :: _, h => h.elim
  | _ :: _, [], h => h.elim
theorem kv_put {k : κ} {w : V} {e : D} {a : List (κ × V)} {b : List (κ × D)} (hw : Dp K H w e) (h : KvAll K H a b) : KvAll K H (putK a k w) (putD b k e) := by
  unfold putK putD
  rw [kv_any h]
  split
  · exact kv_map hw h
  · exact kv_snoc hw h
theorem kv_len : ∀ {a : List (κ × V)} {b : List (κ × D)}, KvAll K H a b → a.length = b.length
  | [], [], _ => rfl
  | (_, _) :: _, (_, _) :: _, ⟨_, _, h⟩ => congrArg (· + 1) (kv_len h)
  | [], _ :: _, h => h.elim
  | _ :: _, [], h => h.elim
end
end
end Pl
set_option Elab.async false
set_option linter.all false
set_option maxRecDepth 100000
set_option maxHeartbeats 1000001
namespace Pl
open PySem L2 LamX NdefX PyProof.Rows GenW
section
variable {K : PySem.W.Frag} {T : List NTab} {B B' B1 : Lo} {A A0 : List Addr} {H0 H H' : Hp} {σ : L2.St} {δ δ' : List Sl} {v : V} {r : R} {E : Es} {te ta tb ty tv : TE} {tt t1 t2 : TT} {ts t u : TS} {g : TG} {P : R → List Sl → Prop}
def keyD : Key → D
  | .inl i => .int i
  | .inr x => .str x
theorem key_dp {k : Key} {v : V} (h : Dp K H v (keyD k)) : v = kV k := by
  cases k <;> cases h <;> rfl
/-- d[k] = v, d a name's dict of ints and texts -/
theorem ss_dputK {i : Nat} (h : Ex K T tv δ fun r δ1 => ∃ d, r = .val d ∧ (∃ a u, δ1[i]? = some (.own a u)) ∧ Ex K T ty δ1 fun r2 δ2 => ∃ (k : Key) (a : Addr) (kvs : List (Key × D)), r2 = .val (keyD k) ∧ δ2[i]? = some (.own a (.dK kvs)) ∧ kvs.length < 100000 ∧ E.nx (δ2.set i (.own a (.dK (putD kvs k d))))) :
    Ss K T (sDPut (tVar i) ty tv) δ E := fun B H σ s D kn _ _ _ =>
  h B H σ s _ fun v H1 r δ1 B1 R1 ⟨d, e, ⟨a, u, hi⟩, h1⟩ => by
    subst e
    have e1 : B1 = B := R1.bx
    subst e1
    refine ⟨.ref a, (R1.s.hp hi).1, ?_⟩
    refine h1 B1 H1 σ R1.s _ fun w H2 r2 δ2 B2 R2 ⟨k, a2, kvs, e2, hi2, hl, p⟩ => ?_
    subst e2
    have e3 : B2 = B1 := R2.bx
    subst e3
    have hw : w = kV k := key_dp R2.vr
    subst hw
    obtain ⟨q1, ys, q2, q3⟩ := R2.s.hp hi2
    rw [(R1.s.hp hi).1] at q1
    cases q1
    have hv : Dp K (dl H2 (ow δ2 B2)) v d := dp_mono R2.go.rk _ _ R1.vr
    refine ⟨a, _, rfl, DPut.k q2 (by rw [kv_len q3]; exact Nat.lt_of_lt_of_le hl (by decide)), ?_⟩
    have w := rs_write (z := .none) (w := .non) R2.s (R1.go.trans R2.go) hi2 (u' := .dK (putD kvs k d)) (o' := .dK (putK ys k v)) ⟨_, upd_same, kv_put hv q3⟩ .non
    exact kn σ _ _ w.s w.go p
theorem ex_dnewK (p : P (.new (.dK [])) δ) : Ex K T tDNewK δ P := fun B H σ s Q k => fun q hq => (out_rs (P := P) s .refl k).dK q hq p
end
end Pl
set_option Elab.async false
set_option linter.all false
set_option maxRecDepth 100000
set_option maxHeartbeats 1000001
namespace Pl
open PySem L2 LamX NdefX PyProof.Rows GenW
structure EsG where
  nx : List D → List Sl → Prop
  bk : List D → List Sl → Prop := fun _ _ => False
  ct : List D → List Sl → Prop := fun _ _ => False
section
variable (K : PySem.W.Frag) (T : List NTab)
/-- zs: what is out -/
def Sg (tg : TGn) (δ : List Sl) (zs : List D) (E : EsG) : Prop := ∀ (B : Lo) (H : Hp) (σ : L2.St) (ys : List V), S K T B H σ δ → DpAll K (dl H (ow δ B)) ys zs → ∀ D : GEnds,
  (∀ ys' zs' σ' H' δ', S K T B H' σ' δ' → Go (ow δ B) (ow δ' B) H H' → DpAll K (dl H' (ow δ' B)) ys' zs' → E.nx zs' δ' → D.nx ys' σ' H') →
  (∀ ys' zs' σ' H' δ', S K T B H' σ' δ' → Go (ow δ B) (ow δ' B) H H' → DpAll K (dl H' (ow δ' B)) ys' zs' → E.bk zs' δ' → D.bk ys' σ' H') →
  (∀ ys' zs' σ' H' δ', S K T B H' σ' δ' → Go (ow δ B) (ow δ' B) H H' → DpAll K (dl H' (ow δ' B)) ys' zs' → E.ct zs' δ' → D.ct ys' σ' H') → tg D ys σ H
end
section
variable {K : PySem.W.Frag} {T : List NTab} {B B' B1 : Lo} {A A0 : List Addr} {H0 H H' : Hp} {σ : L2.St} {δ δ' : List Sl} {v : V} {r : R} {E : EsG} {te ta tb ty tv : TE} {tt t1 t2 : TT} {ts t u : TS} {tg ug : TGn} {zs : List D} {P : R → List Sl → Prop}
theorem Sg.after {H1 : Hp} {σ1 : L2.St} {δ1 : List Sl} {ys1 : List V} {zs1 : List D} (q : Sg K T tg δ1 zs1 E) (s1 : S K T B H1 σ1 δ1) (h1 : DpAll K (dl H1 (ow δ1 B)) ys1 zs1) (g1 : Go (ow δ B) (ow δ1 B) H H1) {D : GEnds}
    (kn : ∀ ys' zs' σ' H' δ', S K T B H' σ' δ' → Go (ow δ B) (ow δ' B) H H' → DpAll K (dl H' (ow δ' B)) ys' zs' → E.nx zs' δ' → D.nx ys' σ' H')
    (kb : ∀ ys' zs' σ' H' δ', S K T B H' σ' δ' → Go (ow δ B) (ow δ' B) H H' → DpAll K (dl H' (ow δ' B)) ys' zs' → E.bk zs' δ' → D.bk ys' σ' H')
    (kc : ∀ ys' zs' σ' H' δ', S K T B H' σ' δ' → Go (ow δ B) (ow δ' B) H H' → DpAll K (dl H' (ow δ' B)) ys' zs' → E.ct zs' δ' → D.ct ys' σ' H') : tg D ys1 σ1 H1 :=
  q B H1 σ1 ys1 s1 h1 D (fun ys' zs' σ2 H2 δ2 s2 g2 h2 n => kn ys' zs' σ2 H2 δ2 s2 (g1.trans g2) h2 n) (fun ys' zs' σ2 H2 δ2 s2 g2 h2 n => kb ys' zs' σ2 H2 δ2 s2 (g1.trans g2) h2 n) (fun ys' zs' σ2 H2 δ2 s2 g2 h2 n => kc ys' zs' σ2 H2 δ2 s2 (g1.trans g2) h2 n)
end
end Pl
set_option Elab.async false
set_option linter.all false
set_option maxRecDepth 100000
set_option maxHeartbeats 2000001
namespace Pl
open PySem L2 LamX NdefX PyProof.Rows GenW PySem.W PySem.Calls
section
variable {X : Cx} {pins : List (Addr × Obj)} {σ : L2.St} {H : Hp} {s : Shared}
/-- a value that stands for data -/
def DV (K : PySem.W.Frag) (H : Hp) (u : Value) (d : PyData) : Prop := ∃ x : V, L2.RelV x u ∧ Dp K H x d
theorem each_dv {K : PySem.W.Frag} : ∀ {xs : List V} {ds : List PyData} {us : List Value}, DpAll K H xs ds → L2.Vals xs us → EachIs (DV K H) us ds
  | _, _, _, .nil, .nil => .nil
  | _, _, _, .cons h t, .cons r rs => .cons ⟨_, r, h⟩ (each_dv t rs)
theorem of_each {K : PySem.W.Frag} : ∀ {us : List Value} {ds : List PyData}, EachIs (DV K H) us ds → ∃ xs, L2.Vals xs us ∧ DpAll K H xs ds
  | _, _, .nil => ⟨[], .nil, .nil⟩
  | _, _, .cons ⟨x, r, h⟩ t => by
    obtain ⟨xs, q1, q2⟩ := of_each t
    exact ⟨x :: xs, .cons r q1, .cons h q2⟩
end
end Pl
set_option Elab.async false
set_option linter.all false
set_option maxRecDepth 100000
set_option maxHeartbeats 2000001
namespace Pl
open PySem L2 LamX NdefX PyProof.Rows GenW PySem.W PySem.Calls
section
variable {X : Cx} {pins : List (Addr × Obj)} {σ : L2.St} {H : Hp} {s : Shared}
def srtH (H : Hp) (a kS : Addr) (zs : List V) : Hp := fun b => if b = a then some (.lst zs) else if b = kS then none else H b
theorem srt_at {a kS : Addr} {zs : List V} {b : Addr} (h1 : b ≠ a) (h2 : b ≠ kS) : srtH H a kS zs b = H b := by
  unfold srtH
  rw [if_neg h1, if_neg h2]
theorem srt_a {a kS : Addr} {zs : List V} : srtH H a kS zs a = some (.lst zs) := by
  unfold srtH
  rw [if_pos rfl]
theorem srt_k {a kS : Addr} {zs : List V} (h : kS ≠ a) : srtH H a kS zs kS = none := by
  unfold srtH
  rw [if_neg h, if_pos rfl]
/-- the state is left as it was but for the heap, which lost the pin a and the list kS; a is tracked now -/
theorem inv_sorted {a kS : Addr} {oa : Obj} {ks zs : List V} {h' : Heap} {t' : Nat} (I : L2.Inv X (pins ++ [(a, oa)]) σ H s) (hk : H kS = some (.lst ks)) (ea : X.s_0.heap.objs.size ≤ a) (ec : ∀ x c, X.env.cells.lookup x = some c → c ≠ a) (ep : ∀ p ∈ X.pn ++ pins, p.1 ≠ a)
    (ek : (X.s_0.heap.objs.size ≤ kS) ∧ kS ≠ X.env.locals ∧ (∀ x c, X.env.cells.lookup x = some c → c ≠ kS) ∧ ∀ p ∈ X.pn ++ pins, p.1 ≠ kS)
    (k : ∀ b o, b ≠ a → b ≠ kS → s.heap.get? b = some o → h'.get? b = some o) (new : ObjOk X.prog X.w (srtH H a kS zs) h' a (.lst zs)) :
    L2.Inv X pins σ (srtH H a kS zs) { s with heap := h', toks := t' } := by
  obtain ⟨p1, p2, p3, p4, p5⟩ := I.pin (a, oa) (List.mem_append_right _ (List.mem_append_right _ List.mem_cons_self))
  have I0 : L2.Inv X pins σ H s := I.pins_of fun p hp => I.pin p (List.mem_append_right _ (List.mem_append_left _ hp))
  have nk : kS ≠ a := fun e => by rw [e, p2] at hk; cases hk
  have na : ∀ b u, H b = some u → b ≠ a := fun b u e z => by rw [z, p2] at e; cases e
  have nkk : ∀ b u, H b = some u → (∀ l, u ≠ .lst l) → b ≠ kS := fun b u e n z => by rw [z, hk] at e; exact n ks (Option.some.inj e).symm
  have nn : ∀ b, H b = none → b ≠ kS := fun b e z => by rw [z, hk] at e; cases e
  have c1 : ∀ {b : Addr}, b ∉ [a, kS] → b ≠ a := fun h z => h (by simp [z])
  have c2 : ∀ {b : Addr}, b ∉ [a, kS] → b ≠ kS := fun h z => h (by simp [z])
  refine I0.step (g' := s.gens) (d' := s.drawn) (ch := [a, kS]) (fun b hb => ?_) (fun b o _ _ hc e n => k b o (c1 hc) (c2 hc) e) (fun b o _ _ hc e n => ⟨o.slots, k b o (c1 hc) (c2 hc) e⟩)
    (fun b o hc e n => by rw [srt_at (c1 hc) (c2 hc)]; exact n) (fun b o hc e => ⟨o, k b o (c1 hc) (c2 hc) e⟩) (fun b xs e => by rw [srt_at (na b _ e) (nkk b _ e fun l z => by cases z)]; exact e) (fun b o u e => by rw [srt_at (na b _ e) (nkk b _ e fun l z => by cases z)]; exact e)
    (fun b ps e => ⟨#[], by rw [srt_at (na b _ e) (nkk b _ e fun l z => by cases z), e]; simp⟩) (fun m hm => ?_) (fun b u e => ?_) I0.bare
  · have e : b = a ∨ b = kS := by simpa using hb
    rcases e with e | e
    · rw [e]
      exact ⟨.inr ea, p3, ec, ep⟩
    · rw [e]
      exact ⟨.inr ek.1, ek.2.1, ek.2.2.1, ek.2.2.2⟩
  · obtain ⟨ob, es, ep, ho, r⟩ := hm
    exact ⟨ob, es, ep, k _ ob p3.symm (nn _ I0.free) ho, r⟩
  · by_cases hb : b = a
    · subst hb
      rw [srt_a] at e
      cases e
      exact new
    · by_cases hbk : b = kS
      · subst hbk
        rw [srt_k hb] at e
        cases e
      · rw [srt_at hb hbk] at e
        refine (I0.hok b u e).stay (fun c v hc q => ?_) (fun c q => by rw [srt_at (na c _ q) (nkk c _ q fun l z => by cases z)]; exact q) fun c xs q => by rw [srt_at (na c _ q) (nkk c _ q fun l z => by cases z)]; exact q
        rcases hc with z | z
        · rw [z] at q ⊢
          exact k b v hb hbk q
        · exact k c v (na c _ z) (nkk c _ z fun l y => by cases y) q
end
/-- the call of a key function that stands at fa -/
def KeyCall (X : Cx) (kk : Nat) (kr : Addr → V → Hp → VK → Prop) : Prop := ∀ (A' : Around) (pins : List (Addr × Obj)) (s : Shared) (σ : L2.St) (H : Hp) (fa : Addr) (w : V) (u : Value) (Q : VK) (E : Value → Shared → Prop), Room kk A' → A'.frames = some X.stack → L2.Inv X pins σ H s → L2.RelV w u → kr fa w H Q →
  wpAny (model X.prog X.w) A' (call (.ref fa) [u]) (EP X pins σ Q) E s
def rSortKey (K : PySem.W.Frag) (T : List NTab) (kr : Addr → V → Hp → VK → Prop) : List V → List V → Hp → VK → Prop := fun vs zs H Q => ∃ (v : V) (fa : Addr) (ds : List PyData) (kd : PyData → PyData), vs = [v] ∧ zs = [.ref fa] ∧ Dp K H v (.list ds) ∧ TabsN T H ∧
  AllAlike (ds.map kd) ∧ Sortable (ds.map kd) ∧ (∀ d ∈ ds, (kd d).depth ≤ 60 ∧ imm (kd d) = true) ∧
  (∀ d ∈ ds, ∀ H2, Go [] [] H H2 → TabsN T H2 → ∀ w, Dp K H2 w d → ∀ Q' : VK, (∀ y H3, Go [] [] H2 H3 → TabsN T H3 → Dp K H3 y (kd d) → Q' y H3) → kr fa w H2 Q') ∧
  ∀ (p : Addr) (ys : List V) (H3 : Hp), Go [] [] H H3 → TabsN T H3 → H p = none → H3 p = some (.lst ys) → DpAll K H3 ys (ds.mergeSort (dataLe false kd)) → Q (.ref p) H3
theorem crk_sortKey {X : Cx} {T : List NTab} {kk : Nat} {kr : Addr → V → Hp → VK → Prop} (hr : Room (kk + 1) X.A) (kc : KeyCall X kk kr) : CallRK X (.builtin "sorted") [Str.ofString "key"] (rSortKey X.K T kr) := by
  intro pins s σ H vs zs us ws Q I r rz h
  obtain ⟨v, fa, ds, kd, rfl, rfl, hv, hT, hal, hsk, hdep, key, q⟩ := h
  have hfr : X.A.frames = some X.stack := I.ok.frames
  obtain ⟨u, rfl, rv⟩ := vals1 r
  obtain ⟨w1, rfl, e1⟩ := vals1 rz
  obtain rfl : w1 = Value.ref fa := e1
  obtain ⟨l, xs, rfl, hs, ha⟩ := (by cases hv with | lst hs ha => exact ⟨_, _, rfl, hs, ha⟩ : ∃ a xs, v = .ref a ∧ SqL X.K H a xs ∧ DpAll X.K H xs ds)
  cases rv
  obtain ⟨its, rv, hl, hz⟩ := I.list hs
  have hn : its.length = ds.length := rv.length.symm.trans (da_len ha)
  have hzz : its.length ≤ sizeLine := by rw [← rv.length]; exact hz
  have hu : X.A.units + 64 < cLine := hr.units
  refine sorted_of_sort hl.isList hzz (ksk_s1 _ _) (fun _ => ksk_l1 _ _) fun E' => ?_
  rw [show Builtin.«list.sort» ⟨[.ref (s.heap.objs.size + 1)], [Str.ofString "key"].zip [Value.ref fa]⟩ = ksk_tree (s.heap.objs.size + 1) (.ref fa) false from ksk_t1 fa _]
  generalize ea : s.heap.objs.size + 1 = a
  have ea2 : @Eq Nat (s.heap.objs.size + 1) a := ea
  have ho : (copyHeap s.heap its).get? a = some (seqObj "list" its.toArray 0) := by rw [← ea]; exact copyHeap_at s.heap its
  obtain ⟨e1, ho1⟩ : ∃ e1, ((copyHeap s.heap its).update a (Obj.mapSeq fun _ => (#[] : Array Value))).get? a = some (seqObj "list" #[] e1) := ⟨_, get?_update_seq ho fun _ => #[]⟩
  unfold ksk_tree
  refine wpAny_bind (listItems_at ho rfl ?_)
  refine wpAny_bind (listUpdate_at ho rfl ?_ (by rw [List.size_toArray]; exact hzz) (Nat.zero_le _))
  refine wpAny_bind (seqEpoch_at ho1 rfl ?_)
  refine wpAny_bind (wpAny_newTuple ?_ (by show its.length ≤ _; exact hzz))
  refine wpAny_bind (wpAny_newList ?_ (Nat.zero_le _))
  refine wpAny_holding ?_
  generalize eh : (((copyHeap s.heap its).update a (Obj.mapSeq fun _ => (#[] : Array Value))).push (seqObj "tuple" its.toArray 0)) = h1
  have old : ∀ b o, s.heap.get? b = some o → h1.get? b = some o := fun b o q => by
    rw [← eh]
    refine Heap.get?_push_of_some _ ?_
    have hlt : b < s.heap.objs.size := Heap.lt_size q
    rw [Heap.get?_update_ne _ _ _ _ (Nat.ne_of_lt (show @LT.lt Nat _ b a by have : @LT.lt Nat _ b s.heap.objs.size := hlt; omega))]
    exact copyHeap_old q
  have ha1 : h1.get? a = some (seqObj "list" #[] e1) := by rw [← eh]; exact Heap.get?_push_of_some _ ho1
  have hsz : s.heap.objs.size ≤ h1.objs.size := by
    have := (show @LT.lt Nat _ a h1.objs.size from Heap.lt_size ha1)
    omega
  have halt : a < h1.objs.size := Heap.lt_size ha1
  generalize ek : h1.objs.size = kS
  have ek2 : @Eq Nat h1.objs.size kS := ek
  have halt2 : @LT.lt Nat _ a h1.objs.size := halt
  have I1 : L2.Inv X pins σ H { s with heap := h1.push (seqObj "list" #[] 0) } := I.kept (t' := s.toks) fun b o q => Heap.get?_push_of_some _ (old b o q)
  have nH : ∀ b, s.heap.objs.size ≤ b → H b = none := fun b hb => I.hok.fresh hb
  have I2 : L2.Inv X pins σ (upd H kS (.lst [])) { s with heap := h1.push (seqObj "list" #[] 0) } := I.laid (t' := s.toks) (fun b o q => Heap.get?_push_of_some _ (old b o q)) (by rw [← ek]; exact hsz) ⟨Nat.zero_le _, [], 0, .nil, by rw [← ek]; exact Heap.get?_push_size _ rfl⟩
  have nak : a ≠ kS := by rw [← ek]; exact Nat.ne_of_lt halt
  have nl : @LT.lt Nat _ X.env.locals s.heap.objs.size := I.lt
  have I3 : L2.Inv X (pins ++ [(a, seqObj "list" #[] e1)]) σ (upd H kS (.lst [])) { s with heap := h1.push (seqObj "list" #[] 0) } := I2.pins_of fun p hp => by
    rcases List.mem_append.mp hp with hp | hp
    · exact I2.pin p (List.mem_append_right _ hp)
    · have e : p = (a, seqObj "list" #[] e1) := by simpa using hp
      subst e
      refine ⟨Heap.get?_push_of_some _ ha1, by rw [upd_ne nak]; exact nH a (show @LE.le Nat _ _ _ by omega), Nat.ne_of_gt (show @LT.lt Nat _ X.env.locals a by omega), I.nofs (show @LE.le Nat _ s.heap.objs.size a by omega), fun v z => by cases z⟩
  have nk : H kS = none := nH kS (show @LE.le Nat _ _ _ by omega)
  have g0 : Go [] [] H (upd H kS (.lst [])) := go_upd nk
  have fixc : ∀ x c, X.env.cells.lookup x = some c → c ≠ a := fun x c e z => by
    obtain ⟨v, q⟩ := I.cell x c e
    have h1 : @LT.lt Nat _ c s.heap.objs.size := q.lt
    have h2 : @Eq Nat c a := z
    omega
  have fixp : ∀ p ∈ X.pn ++ pins, p.1 ≠ a := fun p hp z => by
    have h1 : @LT.lt Nat _ p.1 s.heap.objs.size := Heap.lt_size (I.pin p hp).1
    have h2 : @Eq Nat p.1 a := z
    omega
  have efr : X.A.in1.in1.frames = some X.stack := hfr
  have hr2 : Room kk X.A.in1.in1 := ⟨hr.hd, by have := hr.dp; show X.A.depth + 3 * kk + 5 < _; omega, by have := hr.un; show X.A.units + 1 + 1 + 16 * kk + 200 < _; omega⟩
  show wpAny (model X.prog X.w) X.A.in1.in1 (ksk_rest a (.ref fa) false its.toArray e1 (.ref kS)) _ E' _
  unfold ksk_rest
  refine wpAny_bind (wpAny_rule ?_)
  first
    | rw [List.forIn_toArray]
    | (rw [← Array.forIn_toList]; simp only [List.toList_toArray])
    | rw [← Array.forIn_toList]
  refine wpAny_bind (ksk_fold (fun i s' => ∃ H' ys, L2.Inv X (pins ++ [(a, seqObj "list" #[] e1)]) σ H' s' ∧ Go [] [] H H' ∧ TabsN T H' ∧ H' kS = some (.lst ys) ∧ DpAll X.K H' ys ((ds.map kd).take i)) its 0 _
    ⟨_, [], I3, g0, tab_new nk hT, upd_same, by rw [List.take_zero]; exact .nil⟩ ?step ?done)
  case step =>
    rintro j x s' hx ⟨H', ys, J, g, hT', hks, hys⟩
    rw [Nat.zero_add] at hys ⊢
    have hj : j < its.length := (List.getElem?_eq_some_iff.mp hx).1
    obtain ⟨d, hd⟩ : ∃ d, ds[j]? = some d := ⟨_, List.getElem?_eq_getElem (by omega)⟩
    obtain ⟨xv, hxv, rxv⟩ : ∃ xv, xs[j]? = some xv ∧ L2.RelV xv x := by
      have hjl : j < xs.length := by rw [rv.length]; exact hj
      obtain ⟨u', e', r'⟩ := rv.get (List.getElem?_eq_getElem hjl)
      rw [hx] at e'
      cases e'
      exact ⟨_, List.getElem?_eq_getElem hjl, r'⟩
    obtain ⟨d', ed, hxd⟩ := da_get' ha hxv
    rw [hd] at ed
    cases ed
    have rk : Rk H H' := fun b o e t => g.ext b o e (by simp) t
    have dm : d ∈ ds := List.mem_of_getElem? hd
    refine wpAny_bind (wpAny_attempt (wpAny_mono (kc X.A.in1.in1 _ s' σ H' fa xv x (fun y H3 => Go [] [] H' H3 ∧ TabsN T H3 ∧ Dp X.K H3 y (kd d)) (fun _ _ => False) hr2 efr J rxv (key d dm H' g hT' xv (dp_mono rk _ _ hxd) _ fun y H3 h1 h2 h3 => ⟨h1, h2, h3⟩)) (fun r s2 he => ?_) fun _ _ hF => ?_))
    · obtain ⟨y, H3, J3, ry, g3, hT3, hy⟩ := he
      have hk3 : H3 kS = some (.lst ys) := g3.ext kS _ hks (by simp) (fun _ z => by cases z)
      obtain ⟨kits, n, rk2, hko, hkz⟩ := J3.lst hk3
      have yl : ys.length = j := by
        have := da_len hys
        rw [List.length_take, List.length_map] at this
        omega
      have hsmall : ys.length + 1 ≤ sizeLine := by omega
      try dsimp only
      refine wpAny_bind (listUpdate_at hko rfl ?_ (by rw [List.size_toArray, ← rk2.length]; omega) (by rw [Array.size_push, List.size_toArray, ← rk2.length]; omega))
      obtain ⟨c2, hc2⟩ : ∃ c2, (s2.heap.update kS (Obj.mapSeq (·.push r))).get? kS = some (seqObj "list" (kits.toArray.push r) c2) := ⟨_, get?_update_seq hko (·.push r)⟩
      have J4 : L2.Inv X (pins ++ [(a, seqObj "list" #[] e1)]) σ (upd H3 kS (.lst (ys ++ [y]))) { s2 with heap := s2.heap.update kS (Obj.mapSeq (·.push r)) } := by
        refine J3.write (x := kS) (e := kS) (t' := s2.toks) (by rw [hk3]; trivial) (.inl rfl) (fun b u hb q => (Heap.get?_update_other _ _ (Ne.symm hb)).trans q) ⟨_, hc2⟩ ?_
        refine ⟨by rw [List.length_append, List.length_singleton]; exact hsmall, kits ++ [r], c2, rk2.append (.cons ry .nil), ?_⟩
        rw [hc2]
        simp
      have g4 : Go [] [] H (upd H3 kS (.lst (ys ++ [y]))) := ⟨fun b o e n t => by rw [upd_ne fun z => by rw [z, nk] at e; cases e]; exact g3.ext b o (g.ext b o e n t) n t, fun b e => g.dom b (g3.dom b (upd_none e)), fun b m => .inl m⟩
      have tk : Tk H3 (upd H3 kS (.lst (ys ++ [y]))) := fun b l h => by
        rcases h with h | ⟨o, h⟩
        · exact .inl (by rw [upd_ne fun z => by rw [z, hk3] at h; cases h]; exact h)
        · exact .inr ⟨o, by rw [upd_ne fun z => by rw [z, hk3] at h; cases h]; exact h⟩
      have immK : ∀ l : List PyData, (∀ d ∈ l, d ∈ ds) → immAll (l.map kd) = true := fun l hl => immAll_mem.mpr fun k hk => by
        obtain ⟨d, hd, rfl⟩ := List.mem_map.mp hk
        exact (hdep d (hl d hd)).2
      refine wpAny_pure ⟨rfl, _, ys ++ [y], J4, g4, tab_upd hk3 (fun _ z => by cases z) (fun _ z => by cases z) hT3, upd_same, ?_⟩
      rw [List.take_add_one, List.getElem?_map, hd]
      refine da_app ?_ (da_one (dp_imm tk _ _ (hdep d dm).2 hy))
      refine da_imm tk _ _ ?_ (da_mono (fun b o e t => g3.ext b o e (by simp) t) _ _ hys)
      rw [← List.map_take]
      exact immK _ fun d hd => List.mem_of_mem_take hd
    · exact hF.elim
  case done =>
    rintro s' ⟨H', ys, J, g, hT', hks, hys⟩
    rw [Nat.zero_add, List.take_of_length_le (by rw [List.length_map]; omega)] at hys
    obtain ⟨kits, n, rk2, hko, hkz⟩ := J.lst hks
    have yl : ys.length = ds.length := by
      have := da_len hys
      rw [List.length_map] at this
      exact this
    have hpin := J.pin (a, seqObj "list" #[] e1) (List.mem_append_right _ (List.mem_append_right _ List.mem_cons_self))
    try dsimp only
    refine wpAny_bind (listItems_at hko rfl ?_)
    have eks : EachIs (fun v k => ∃ as, Reads s'.heap v k as) kits (ds.map kd) := (each_dv hys rk2).mono fun v d ⟨x, r, h⟩ => Dp.reads J d x v h r
    have kp : KeepsBut a (hideAll s'.heap [kS]) s'.heap := fun b o _ e => of_hideAll _ e
    have dpt : ∀ k ∈ ds.map kd, X.A.in1.in1.units + k.depth < cLine := fun k hk => by
      obtain ⟨d, hd, rfl⟩ := List.mem_map.mp hk
      have := (hdep d hd).1
      show X.A.units + 1 + 1 + (kd d).depth < cLine
      omega
    refine keyH_end (κ := dataKind s'.heap (ds.map kd)) (h₁ := hideAll s'.heap [kS]) kp (hideAll_none _ List.mem_cons_self) hko hpin.1 nak.symm (SortsAt.data (s := s') (by simpa using eks) hal hsk dpt) (by rw [List.size_toArray, ← rk2.length, yl, hn]) hzz fun h3 tk3 c k3 n3 => ⟨rfl, ?_⟩
    have ko : KeyedOut false (ds.map kd) its (sortVals (dataKind s'.heap (ds.map kd)) false kits.toArray.toList its) := ⟨s'.heap, kits, hal, by simp, eks⟩
    have rkH : Rk H H' := fun b o e t => g.ext b o e (by simp) t
    have eI : EachIs (DV X.K H) its ds := each_dv ha rv
    have eo := keyedOut_each kd ko eI
    obtain ⟨zs, q1, q2⟩ := of_each eo
    have zl : zs.length = ds.length := by
      have h1 := da_len q2
      rw [List.length_mergeSort] at h1
      exact h1
    have nkS : H' a = none := hpin.2.1
    have keep : ∀ b o, b ≠ a → b ≠ kS → s'.heap.get? b = some o → h3.get? b = some o := fun b o h1 h2 e => k3 b o h1 (hideAll_get _ e (by simpa using h2))
    have n0 : X.s_0.heap.objs.size ≤ s.heap.objs.size := I.sz
    have fixk : (X.s_0.heap.objs.size ≤ kS) ∧ kS ≠ X.env.locals ∧ (∀ x c, X.env.cells.lookup x = some c → c ≠ kS) ∧ ∀ p ∈ X.pn ++ pins, p.1 ≠ kS := by
      have n1 : @LE.le Nat _ X.s_0.heap.objs.size s.heap.objs.size := n0
      refine ⟨show @LE.le Nat _ X.s_0.heap.objs.size kS by omega, Nat.ne_of_gt (show @LT.lt Nat _ X.env.locals kS by omega), fun x c e z => ?_, fun p hp z => ?_⟩
      · obtain ⟨v, q⟩ := I.cell x c e
        have h1 : @LT.lt Nat _ c s.heap.objs.size := q.lt
        have h2 : @Eq Nat c kS := z
        omega
      · have h1 : @LT.lt Nat _ p.1 s.heap.objs.size := Heap.lt_size (I.pin p hp).1
        have h2 : @Eq Nat p.1 kS := z
        omega
    have J1 := inv_sorted (zs := zs) (t' := tk3) J hks (show @LE.le Nat _ X.s_0.heap.objs.size a by have n1 : @LE.le Nat _ X.s_0.heap.objs.size s.heap.objs.size := n0; omega) fixc fixp fixk keep ⟨by omega, _, c, q1, n3⟩
    have nH' : ∀ b, s.heap.objs.size ≤ b → H b = none := nH
    have nz : ∀ b u, H b = some u → b ≠ a ∧ b ≠ kS := fun b u e => ⟨(fun z => by rw [z, nH a (show @LE.le Nat _ _ _ by omega)] at e; cases e), (fun z => by rw [z, nk] at e; cases e)⟩
    have gx : Go [] [] H (srtH H' a kS zs) := by
      refine ⟨fun b o e n t => ?_, fun b e => ?_, fun b m => .inl m⟩
      · rw [srt_at (nz b o e).1 (nz b o e).2]
        exact g.ext b o e n t
      · by_cases hb : b = a
        · rw [hb]; exact nH a (show @LE.le Nat _ _ _ by omega)
        · by_cases hbk : b = kS
          · rw [hbk]; exact nk
          · rw [srt_at hb hbk] at e
            exact g.dom b e
    refine ⟨.ref a, _, J1, rfl, q a zs _ gx ?_ (nH a (show @LE.le Nat _ _ _ by omega)) srt_a (da_mono (fun b o e t => gx.ext b o e (by simp) t) _ _ q2)⟩
    refine fun p hp => ?_
    obtain ⟨ps, q1, q2, q3⟩ := hT' p hp
    refine ⟨ps, ?_, q2, fun pos cv hc => ?_⟩
    · rw [srt_at (fun z => by rw [z, nkS] at q1; cases q1) (fun z => by rw [z, hks] at q1; cases q1)]
      exact q1
    · obtain ⟨c, e1, e2⟩ := q3 pos cv hc
      refine ⟨c, e1, ?_⟩
      rw [srt_at (fun z => by rw [z, nkS] at e2; cases e2) (fun z => by rw [z, hks] at e2; cases e2)]
      exact e2
end Pl
set_option Elab.async false
set_option linter.all false
set_option maxRecDepth 100000
set_option maxHeartbeats 2000001
namespace Pl
open PySem L2 LamX NdefX PyProof.Rows GenW PySem.Calls
structure LF where
  qual : Str
  params : Arguments
  body : Expr
  scope : Scope
  c : Addr
abbrev LF.fd (F : LF) (pm ctv : Value) : FuncData := PySem.W.kla_fn "<lambda>" F.qual F.params F.body F.scope [] pm (.ref F.c) ctv
def LamO (f : Addr) (F : LF) : HO := .ext fun h => ∃ (od : Option Addr) (sl : Array (Option Value)) (pm ctv : Value), h.get? f = some (⟨.type "function", od, .func (F.fd pm ctv), sl⟩ : Obj)
theorem lamO_at {P : Program} {w : World} {H : Hp} {h : Heap} {f : Addr} {F : LF} (hok : HOk P w H h) (e : H f = some (LamO f F)) : ∃ (od : Option Addr) (sl : Array (Option Value)) (pm ctv : Value), h.get? f = some (⟨.type "function", od, .func (F.fd pm ctv), sl⟩ : Obj) := by
  obtain ⟨z, _, _⟩ := hok f _ e
  exact z
section
variable {X : Cx} {pins : List (Addr × Obj)} {σ : L2.St} {H : Hp} {s : Shared}
theorem inv_lam {F : LF} {o : Obj} {t' : Nat} {pm ctv : Value} (I : L2.Inv X pins σ H s) (ho : o = { cls := .type "function", data := .func (F.fd pm ctv) }) :
    L2.Inv X pins σ (upd H s.heap.objs.size (LamO s.heap.objs.size F)) { s with heap := s.heap.push o, toks := t' } := by
  subst ho
  refine I.laid (a := s.heap.objs.size) (fun b u e => Heap.get?_push_of_some _ e) (Nat.le_refl _) ?_
  have e : (s.heap.push ({ cls := .type "function", data := .func (F.fd pm ctv) } : Obj)).get? s.heap.objs.size = some ({ cls := .type "function", data := .func (F.fd pm ctv) } : Obj) := Heap.get?_push_size _ rfl
  exact ⟨⟨_, _, pm, ctv, e⟩, ⟨_, e⟩, fun h1 h2 ⟨od, sl, p, t, z⟩ st => ⟨od, sl, p, t, st _ z⟩⟩
theorem lam_make {T : List NTab} {nm : Nat → Nat → Str} {c P : Addr} {params : Arguments} {body : Expr} {scope : Scope} {pos : Pos} {E : Value → Shared → Prop} {Q : Value → Shared → Prop} (I : L2.Inv X pins σ H s) (TB : TabB X.base X.mg c P) (hcode : X.env.code = .ref c)
    (hm : (P, nm) ∈ T) (hn : nm pos.line pos.col = X.env.qual ++ "<lambda>") (hu : ∀ p ∈ T, p.1 = P → p.2 = nm) (hT : TabsN T H) (hdef : defaultsOf params X.env = ([], [])) (hfree : ∀ y ∈ scope.names, y.2 ≠ .free) (hcl : cloFrom X.env.cells scope.names [] = [])
    (h : ∀ (f c' : Addr) (H1 : Hp) (s' : Shared), L2.Inv X pins σ H1 s' → ExtN H H1 → (∀ b, H1 b = Option.none → H b = Option.none) → TabsN T H1 → H1 f = some (LamO f ⟨X.env.qual ++ "<lambda>", params, body, scope, c'⟩) → H1 c' = some (CodeO c' (X.env.qual ++ "<lambda>")) → Q (.ref f) s') :
    wpAny (model X.prog X.w) X.A (eval (.Lambda params body scope pos) X.env) Q E s := by
  obtain ⟨ps, hP, ht, ha⟩ := (show TabN H P nm from hT _ hm)
  refine PySem.W.kla_eval hdef ?_
  have bP : s.heap.BuiltinsAt X.mg P := TB.bm.keeps I.bk
  have hP' : s.heap.get? P = some { cls := .none, data := .fields ps } := I.hok P _ hP
  have hfr : ∀ y ∈ scope.names, y.2 = .free → ∃ c, X.env.cells.lookup y.1 = some c := fun y hy e => absurd e (hfree y hy)
  cases hc : codeAmong pos ps.toList with
  | none =>
    refine PySem.W.kla_makeFunction (mg := X.mg) (c := c) (P := P) (ps := ps) (closure_ok hfr) I.ok.glob (I.mod.glob.keeps I.bk) hcode (TB.code.keeps I.bk) hP' ht hc TB.gP bP fun c' ctv h' tk hx hge hlt hrec htb => ?_
    obtain ⟨c2, oc, vs, t, e2, hoc, hd, hv⟩ := hrec
    cases e2
    have nC : H c' = none := I.hok.fresh hge
    have I1 := inv_table (t' := tk) (more := #[rawInt pos.line, rawInt pos.col, .ref c']) (h' := h') I hP (fun b o hb e => hx b o hb e) htb hge ⟨oc, vs, t, hoc, hd, hv⟩
    have hE : ExtN H (upd (upd H P (.tbl (ps ++ #[rawInt pos.line, rawInt pos.col, .ref c']))) c' (CodeO c' (X.env.qual ++ "<lambda>"))) := fun b o e n => by
      rw [upd_ne (ne_of_none e nC), upd_ne (fun z => n ps (Option.some.inj (e.symm.trans (by rw [z]; exact hP))))]
      exact e
    have eL : (ps ++ #[rawInt pos.line, rawInt pos.col, .ref c']).toList = ps.toList ++ [rawInt pos.line, rawInt pos.col, .ref c'] := by simp
    have T1 : TabsN T (upd (upd H P (.tbl (ps ++ #[rawInt pos.line, rawInt pos.col, .ref c']))) c' (CodeO c' (X.env.qual ++ "<lambda>"))) := fun p hp => by
      by_cases hb : p.1 = P
      · rw [hu p hp hb, hb]
        refine ⟨_, by rw [upd_ne (ne_of_none hP nC), upd_same], by rw [eL]; exact PySem.TriplesOk_snoc _ _ _ _ ht, fun p' cv hcv => ?_⟩
        rw [eL] at hcv
        rcases among_app2 _ ht hcv with z | ⟨z, z1, z2⟩
        · obtain ⟨c0, e1, e2⟩ := ha p' cv z
          exact ⟨c0, e1, hE _ _ e2 codeO_ne⟩
        · refine ⟨c', z, ?_⟩
          rw [← z1, ← z2, hn]
          exact upd_same
      · obtain ⟨ps', a1, a2, a3⟩ := hT p hp
        refine ⟨ps', by rw [upd_ne (ne_of_none a1 nC), upd_ne hb]; exact a1, a2, fun p' cv hcv => ?_⟩
        obtain ⟨c0, e1, e2⟩ := a3 p' cv hcv
        exact ⟨c0, e1, hE _ _ e2 codeO_ne⟩
    have nF := I1.hok.fresh (Nat.le_refl _)
    have I2 := inv_lam (F := ⟨X.env.qual ++ "<lambda>", params, body, scope, c'⟩) (o := PySem.W.kla_obj "<lambda>" (X.env.qual ++ "<lambda>") params body scope (cloFrom X.env.cells scope.names []) ((X.mg "__name__").getD .none) c' ctv) (t' := tk) (pm := (X.mg "__name__").getD .none) (ctv := ctv) I1 (by rw [hcl])
    refine h h'.objs.size c' _ _ I2 (fun b o e n => ?_) (fun b e => upd_none (upd_none (upd_none e))) (T1.ext fun b o e => ?_) upd_same ?_
    · have e1 := hE b o e n
      exact (upd_ne (ne_of_none e1 nF)).trans e1
    · exact (upd_ne (ne_of_none e nF)).trans e
    · exact (upd_ne (Nat.ne_of_lt hlt)).trans upd_same
  | some cv =>
    obtain ⟨c', e, hco⟩ := ha pos cv hc
    subst e
    rw [hn] at hco
    refine PySem.W.kla_makeFunctionHit (mg := X.mg) (c := c) (P := P) (ps := ps) (closure_ok hfr) I.ok.glob (I.mod.glob.keeps I.bk) hcode (TB.code.keeps I.bk) hP' ht hc bP fun ctv h' tk hx hsz => ?_
    have I1 : L2.Inv X pins σ H { s with heap := h', toks := tk } := I.kept hx
    have nF : H h'.objs.size = none := I1.hok.fresh (Nat.le_refl _)
    have I2 := inv_lam (F := ⟨X.env.qual ++ "<lambda>", params, body, scope, c'⟩) (o := PySem.W.kla_obj "<lambda>" (X.env.qual ++ "<lambda>") params body scope (cloFrom X.env.cells scope.names []) ((X.mg "__name__").getD .none) c' ctv) (t' := tk) (pm := (X.mg "__name__").getD .none) (ctv := ctv) I1 (by rw [hcl])
    refine h h'.objs.size c' _ _ I2 (fun b o e n => ?_) (fun b e => upd_none e) (hT.ext fun b o e => ?_) upd_same ?_
    · exact (upd_ne (ne_of_none e nF)).trans e
    · exact (upd_ne (ne_of_none e nF)).trans e
    · exact (upd_ne (ne_of_none hco nF)).trans hco
end
def tLamE (T : List NTab) (mk : Addr → LF) : TE := fun σ H Q => TabsN T H ∧ ∀ (f c' : Addr) (H1 : Hp), Go [] [] H H1 → TabsN T H1 → H1 f = some (LamO f (mk c')) → H1 c' = some (CodeO c' (mk c').qual) → Q (.ref f) H1
section
variable {X : Cx}
theorem pe_lam {T : List NTab} {nm : Nat → Nat → Str} {c P : Addr} {params : Arguments} {body : Expr} {scope : Scope} {pos : Pos} (TB : TabB X.base X.mg c P) (hcode : X.env.code = .ref c) (hm : (P, nm) ∈ T) (hn : nm pos.line pos.col = X.env.qual ++ "<lambda>") (hu : ∀ p ∈ T, p.1 = P → p.2 = nm)
    (hfree : ∀ y ∈ scope.names, y.2 ≠ .free) (hcl : cloFrom X.env.cells scope.names [] = [] := by rfl) (hdef : defaultsOf params X.env = ([], []) := by rfl) :
    PE X (.Lambda params body scope pos) (tLamE T fun c' => ⟨X.env.qual ++ "<lambda>", params, body, scope, c'⟩) := by
  refine ⟨fun pins s σ H Q I h => ?_⟩
  obtain ⟨hT, h⟩ := h
  exact lam_make I TB hcode hm hn hu hT hdef hfree hcl fun f c' H1 s' I1 e d T1 h1 h2 => ⟨.ref f, H1, I1, rfl, h f c' H1 ⟨fun a o e0 _ t => e a o e0 t, d, fun a m => .inl m⟩ T1 h1 h2⟩
/-- the lambda's own context: one name -/
abbrev NF.lam (F : LF) : NF := ⟨"<lambda>", F.qual, F.params, [], F.scope, [], F.c⟩
theorem kc_lam {k : Nat} {a : Str} {params : Arguments} {body : Expr} {scope : Scope} {qual : Str} {te : TE} (Sc : NScope [a] [a] [] scope)
    (hb : ∀ (q : Str) (pm cv ctv u : Value), bindArgs (PySem.W.kla_fn "<lambda>" q params body scope [] pm cv ctv) ⟨[u], []⟩ = pure [(a, u)])
    (hbody : ∀ (A : Around) (outer : List Env) (s : Shared) (H : Hp) (f c' : Addr), Room k (A.deeper (envF (NF.lam ⟨qual, params, body, scope, c'⟩) f s.heap.objs.size)) → PE (ncx CX0 X.prog X.w X.K X.mg X.base [a] (NF.lam ⟨qual, params, body, scope, c'⟩) f A outer s H E0).nox body te) :
    KeyCall X (k + 1) (fun fa w H Q => ∃ c', H fa = some (LamO fa ⟨qual, params, body, scope, c'⟩) ∧ H c' = some (CodeO c' qual) ∧ te [some w] H Q) := by
  intro A' pins s σ H fa w u Q E hr hfr I rw' h
  obtain ⟨c', hf, hc, ht⟩ := h
  have e0 : Env0 X.prog X.w X.K X.mg X.base A' X.stack s H := ⟨hfr, I.env0.mod, I.env0.bs, I.env0.bsz, I.env0.funs, I.env0.frf, I.env0.hok, I.env0.bare⟩
  have lim : s.heap.NoLimit := e0.mod.nolimit.keeps fun b o e => (e0.bs b o e).1
  have rc : codeAny (model X.prog X.w) A' (.call (.ref fa) ⟨[u], []⟩) (CR CX0 X.stack X.prog X.w H s Q E0) s := by
    obtain ⟨od, sl, pm, ctv, ho⟩ := lamO_at e0.hok hf
    refine PySem.W.kla_callFunE hr.depth ho rfl Sc.co Sc.gen rfl (codeO_at e0.hok hc) ?_
    rw [hb _ pm _ ctv u]
    refine wpAny_pure (wpAny_newFunctionEnv Sc.nocell (fun y hy => ?_) (fun h₁ hns hsb => ⟨lim.fresh _ hsb, ?_⟩) Sc.kind)
    · have e : y = (a, u) := by simpa using hy
      subst e
      exact Sc.par a List.mem_cons_self
    show codeAny _ _ (.expr body (envF (NF.lam ⟨qual, params, body, scope, c'⟩) fa s.heap.objs.size)) _ _
    have kp : ∀ b o, s.heap.get? b = some o → h₁.get? b = some o := fun b o e => hsb.extBut b o (Nat.ne_of_lt (Heap.lt_size e)) (Heap.get?_push_of_some _ e)
    have C : CellsAt (NF.lam ⟨qual, params, body, scope, c'⟩).cl [] [] s.heap H := ⟨rfl, (fun y c e => by cases e), (fun x y c e => by cases e), fun i y e => by simp at e⟩
    have J : L2.Inv (ncx CX0 X.prog X.w X.K X.mg X.base [a] (NF.lam ⟨qual, params, body, scope, c'⟩) fa A' X.stack s H E0) [] (startF [a] [w] []) H { s with heap := h₁, toks := s.toks + ([a].zip [u]).length } :=
      inv_startN Sc hr.hd e0 rfl (.cons rw' .nil) C hns kp
    refine PySem.W.kla_codeExpr (wpAny_mono ((hbody A' X.stack s H fa c' (hr.deeper _)).nox.run [] _ _ H Q J ht) (fun v s' hq => ?_) fun e s' hq => hq)
    obtain ⟨w', H', J', rv, q⟩ := hq
    exact ⟨w', H', J'.os, J'.bare, J'.base, J'.hok, rv, q⟩
  refine wpAny_call (codeAny_mono rc fun r s' hq => ?_)
  cases r with
  | error e => exact (show False from hq).elim
  | ok fl =>
    cases fl with
    | ret u => exact I.after hq
    | next => exact False.elim hq
    | brk => exact False.elim hq
    | cont => exact False.elim hq
end
end Pl
set_option Elab.async false
set_option linter.all false
set_option maxRecDepth 100000
set_option maxHeartbeats 1000001
namespace Pl
open PySem L2 LamX NdefX PyProof.Rows GenW PySem.W PySem.Calls
section
variable {K : PySem.W.Frag} {T : List NTab} {w : World} {B B' B1 : Lo} {A A0 : List Addr} {H0 H H' : Hp} {σ : L2.St} {δ δ' : List Sl} {v : V} {r : R} {E : Es} {te ta tb ty tv : TE} {tt t1 t2 : TT} {ts t u : TS} {g : TG} {P : R → List Sl → Prop}
theorem imm_sort {f : D → D} {ds : List D} (h : immAll ds = true) : immAll (ds.mergeSort (dataLe false f)) = true := immAll_mem.mpr fun d m => immAll_mem.mp h d ((List.mergeSort_perm _ _).mem_iff.mp m)
theorem et_truL {P' : Bool → List Sl → Prop} (h : Ex K T te δ fun r δ' => ∃ ds, AsD δ' r (.list ds) ∧ P' (!ds.isEmpty) δ') : ExT K T (fun σ H Q => te σ H fun x H' => ∃ k, TruV K x H' k ∧ Q k H') δ P' := fun B H σ s Q k =>
  h B H σ s _ fun v H1 r δ1 B1 R1 ⟨ds, a, p⟩ => by
    obtain ⟨C, rfl⟩ := R1.bx.suf
    obtain ⟨b, xs, rfl, hs, ha⟩ := dp_l (R1.vr.dp R1.s a)
    have e : xs.isEmpty = ds.isEmpty := by cases ha <;> rfl
    exact ⟨_, .inl ⟨xs, hs, rfl⟩, by rw [e]; exact k _ H1 δ1 R1.s.dropAll (R1.go.less ow_suf) p⟩
theorem et_truT {P' : Bool → List Sl → Prop} (h : Ex K T te δ fun r δ' => ∃ ds, AsD δ' r (.tuple ds) ∧ P' (!ds.isEmpty) δ') : ExT K T (fun σ H Q => te σ H fun x H' => ∃ k, TruV K x H' k ∧ Q k H') δ P' := fun B H σ s Q k =>
  h B H σ s _ fun v H1 r δ1 B1 R1 ⟨ds, a, p⟩ => by
    obtain ⟨C, rfl⟩ := R1.bx.suf
    obtain ⟨b, xs, rfl, hs, ha⟩ := dp_t (R1.vr.dp R1.s a)
    have e : xs.isEmpty = ds.isEmpty := by cases ha <;> rfl
    exact ⟨_, .inr (.inl ⟨xs, hs, rfl⟩), by rw [e]; exact k _ H1 δ1 R1.s.dropAll (R1.go.less ow_suf) p⟩
abbrev krLam (mk : Addr → LF) (tb : TE) : Addr → V → Hp → VK → Prop := fun fa w H Q => ∃ c', H fa = some (LamO fa (mk c')) ∧ H c' = some (CodeO c' (mk c').qual) ∧ tb [some w] H Q
theorem ex_sortLam {mk : Addr → LF} (h : Ex K T te δ fun r δ1 => ∃ (ds : List D) (kd : D → D), AsD δ1 r (.list ds) ∧ immAll ds = true ∧ AllAlike (ds.map kd) ∧ Sortable (ds.map kd) ∧ (∀ d ∈ ds, (kd d).depth ≤ 60 ∧ imm (kd d) = true) ∧
      (∀ d ∈ ds, Ex K T tb [.val d] fun r _ => r = .val (kd d)) ∧ P (.new (.lst (ds.mergeSort (dataLe false kd)))) δ1) :
    Ex K T (tCKw (rSortKey K T (krLam mk tb)) (tCons te tNil) (tCons (tLamE T mk) tNil)) δ P := fun B H σ s Q k =>
  h B H σ s _ fun v H1 r δ1 B1 R1 ⟨ds, kd, a, hi, hal, hk, hd, body, p⟩ => by
    obtain ⟨C, rfl⟩ := R1.bx.suf
    have hv := R1.vr.dp R1.s a
    have s1 := R1.s.dropAll
    have g1 := R1.go.less (ow_suf (C := C))
    refine ⟨s1.tab, fun f c' H2 g2 T2 hf hc => ?_⟩
    have rk2 : Rk H1 H2 := fun b o e t => g2.ext b o e (by simp) t
    refine ⟨v, f, ds, kd, rfl, rfl, dp_mono rk2 _ _ hv, T2, hal, hk, hd, fun d hd3 H3 g3 T3 w hw Q' kq => ?_, fun q ys H3 g3 T3 hq hq3 hy => ?_⟩
    · refine ⟨c', g3.ext f _ hf (by simp) (fun _ z => by cases z), g3.ext c' _ hc (by simp) (fun _ z => by cases z), ?_⟩
      have S0 : S K T [] H3 [some w] [.val d] := ⟨rfl, T3, fun i x hx => by
        cases i with
        | zero =>
          cases hx
          exact ⟨w, rfl, dp_mono (fun b o e t => dl_of e (by simp [ow, ow1])) _ _ hw⟩
        | succ i => simp at hx, (fun p hp => by cases hp), by simp [ow, ow1]⟩
      refine body d hd3 [] H3 _ S0 Q' fun y H4 r4 δ4 B4 R4 e => ?_
      subst e
      have g4 := R4.go
      refine kq y H4 ⟨fun b o e n t => g4.ext b o e (by simp [ow, ow1]) t, g4.dom, fun b m => .inl m⟩ R4.s.tab (dp_full R4.vr)
    · have g13 := g2.trans g3
      have hq1 : H1 q = none := g2.dom q hq
      have hiS := imm_sort (f := kd) hi
      have nq := s1.free hq1
      have s3 : S K T ((q, .lst (ds.mergeSort (dataLe false kd))) :: B) H3 σ δ1 := s1.call g13 T3 (fun b m => by cases m) (fun b m => (List.mem_cons.mp (ow_loose.mem_iff.mp m)).elim (fun z => .inr (z ▸ hq1)) .inl)
        (ow_loose.nodup_iff.mpr (List.nodup_cons.mpr ⟨nq, s1.nd⟩)) rfl (fun i x hx => .inl ⟨hx, fun _ _ _ m => by cases m⟩) fun x hx => (List.mem_cons.mp hx).elim (fun z => .inr (by rw [z]; exact ⟨hiS, ys, hq3, hy⟩)) fun z => .inl ⟨z, fun m => by cases m⟩
      refine k _ H3 (.new (.lst _)) δ1 _ ⟨s3, g1.trans ⟨fun b o e n t => g13.ext b o e (by simp) t, g13.dom, fun b m => ?_⟩, ⟨q, rfl, List.mem_cons_self⟩, ⟨q, rfl, rfl⟩⟩ p
      rcases List.mem_cons.mp (ow_loose.mem_iff.mp m) with z | z
      · exact .inr (z ▸ hq1)
      · exact .inl z
end
end Pl
set_option Elab.async false
set_option linter.all false
set_option maxRecDepth 100000
set_option maxHeartbeats 1000001
namespace Pl
open PySem L2 LamX NdefX PyProof.Rows GenW
/-- a def of the top by its name and its statement -/
abbrev DI := Str × Stmt
def DI.d (x : DI) : He.DefD := ⟨(x.1, none), x.1, x.1, defArgs x.2, defBody x.2, defScope x.2, [], []⟩
def isTab : Option Obj → Bool
  | some ⟨.none, none, .fields vs, sl⟩ => vs.isEmpty && sl.isEmpty
  | _ => false
theorem isTab_ok {o : Option Obj} (h : isTab o = true) : o = some (PySem.W.tabObj #[]) := by
  unfold isTab at h
  split at h
  · rename_i vs sl
    simp only [Bool.and_eq_true, Array.isEmpty_iff] at h
    obtain ⟨h1, h2⟩ := h
    subst h1 h2
    rfl
  · cases h
def tabOk (g : Addr → Option Obj) (K : PySem.W.Frag) (x : Str) : Bool := match PySem.W.tabIn K x with
  | some (c, P) => PySem.W.codeHdIn K c P && ((K.lookup P).isNone && (isTab (g P) && decide (P ≠ mainGlobals)))
  | none => false
def TabAt (K : PySem.W.Frag) (h : Heap) (x : Str) : Prop := ∃ c P, PySem.W.tabIn K x = some (c, P) ∧ PySem.W.CodeHd h c P ∧ K.lookup P = none ∧ h.get? P = some (PySem.W.tabObj #[]) ∧ P ≠ mainGlobals
theorem tabOk_ok {K : PySem.W.Frag} {h : Heap} {x : Str} (X : K.In h) (e : tabOk h.get? K x = true) : TabAt K h x := by
  unfold tabOk at e
  split at e
  · rename_i c P q
    simp only [Bool.and_eq_true, decide_eq_true_eq, Option.isNone_iff_eq_none] at e
    exact ⟨c, P, q, PySem.W.codeHd_of_K X e.1, e.2.1, isTab_ok e.2.2.1, e.2.2.2⟩
  · cases e
/-- a constant of the module -/
inductive Kc where
  | tup (x : Str) (zs : List Str)
  | str (x z : Str)
  | int (x : Str) (i : Int)
  | exc (x : Str)
  | sub (x y : Str) (b : Bool)
  | subT (x : Str) (n : String) (b : Bool)
def Kc.fa : Kc → He.Fa
  | .tup x _ => .glo x
  | .str x z => .str x z
  | .int x i => .int x i
  | .exc x => .glo x
  | .sub x _ _ => .glo x
  | .subT x _ _ => .glo x
/-- isinstance asks instances of this exception class rightly -/
def excCB (K : PySem.W.Frag) (D : Addr) : Bool := decide (PySem.W.findIn K (.ref D) "__getattribute__" = some (some (.builtin "BaseException.__getattribute__"))) && (decide (PySem.W.findIn K (.ref D) "__getattr__" = some none) &&
  (decide (PySem.W.subIn K (.ref D) (.type "BaseException") = some true) && (PySem.W.hasDictIn K D && (decide (PySem.W.findIn K (.ref D) "__class__" = some (some (.builtin "object.__class__"))) &&
  (decide (PySem.W.specialIn K (.builtin "object.__class__") "__get__" = some (some (.builtin "getset_descriptor.__get__"))) && (decide (PySem.W.takesIn K (.builtin "object.__class__") = some true) && decide (PySem.W.mroIn K D (.type "object") = some true)))))))
theorem excCB_ok {K : PySem.W.Frag} {D : Addr} (h : excCB K D = true) : ExcC K D := by
  unfold excCB at h
  simp only [Bool.and_eq_true, decide_eq_true_eq] at h
  obtain ⟨h1, h2, h3, h4, h5, h6, h7, h8⟩ := h
  exact ⟨h1, h2, h3, h4, h5, h6, h7, h8⟩
def Kc.chk (K : PySem.W.Frag) : Kc → Bool
  | .tup x zs => He.tupB K x (zs.map .str)
  | .exc x => (He.Fa.exc x).ok K && excCB K (He.ga K x)
  | .sub x y b => decide (PySem.W.exmOne K (.ref (He.ga K x)) (.ref (He.ga K y)) = some b) && decide (PySem.W.kitOne K (.ref (He.ga K x)) (.ref (He.ga K y)) = some b)
  | .subT x n b => decide (PySem.W.kitOne K (.ref (He.ga K x)) (.type n) = some b)
  | _ => true
def Kc.ok (K : PySem.W.Frag) (mg : Str → Option Value) : Kc → Prop
  | .tup x zs => mg x = some (.ref (He.ga K x)) ∧ Dp K N0 (.ref (He.ga K x)) (.tuple (zs.map .str))
  | .str x z => ∃ t, mg x = some (.str z t)
  | .int x i => ∃ t, mg x = some (.int i t)
  | .exc x => mg x = some (.ref (He.ga K x)) ∧ (He.Fa.exc x).ok K = true ∧ ExcC K (He.ga K x)
  | .sub x y b => PySem.W.exmOne K (.ref (He.ga K x)) (.ref (He.ga K y)) = some b ∧ PySem.W.kitOne K (.ref (He.ga K x)) (.ref (He.ga K y)) = some b
  | .subT x n b => PySem.W.kitOne K (.ref (He.ga K x)) (.type n) = some b
theorem dv_strs {K : PySem.W.Frag} {H : Hp} : ∀ zs : List Str, DpAll K H ((zs.map He.Dv.str).map (He.Dv.v K)) (zs.map .str)
  | [] => .nil
  | z :: zs => .cons (.str z) (dv_strs zs)
def obsT (n : Nat) (fa : List He.Fa) (fn : List He.DefD) (ts : List Str) (cs : List Kc) (g : Addr → Option Obj) : He.AlD × Bool :=
  (He.obsD fa fn (He.frG g (He.asD g n)), ts.all (tabOk g (He.frG g (He.asD g n))) && cs.all (Kc.chk (He.frG g (He.asD g n))))
def hookT (n : Nat) (fa : List He.Fa) (fn : List He.DefD) (ts : List Str) (cs : List Kc) : PySem.W.Hook where
  α := He.AlD × Bool
  obs := fun s => obsT n fa fn ts cs s.heap.get?
  val := fun _ => (He.valD fn, true)
  says := fun _ h => ∃ K : PySem.W.Frag, K.In h ∧ He.SaysD fa fn K ∧ (∀ x ∈ ts, TabAt K h x) ∧ ∀ c ∈ cs, Kc.chk K c = true
  of := fun _ _ e => ⟨_, He.frG_in, (Prod.mk.inj e).1, fun x hx => tabOk_ok He.frG_in (List.all_eq_true.mp (He.ba (Prod.mk.inj e).2).1 x hx), fun c hc => List.all_eq_true.mp (He.ba (Prod.mk.inj e).2).2 c hc⟩
  keeps := fun _ _ _ ⟨K, hK, c, t, q⟩ k => ⟨K, PySem.W.Frag.In.keeps hK k, c, fun x hx => by
    obtain ⟨c, P, h1, h2, h3, h4, h5⟩ := t x hx
    exact ⟨c, P, h1, h2.keeps k, h3, k _ _ h4, h5⟩, q⟩
theorem obsT_eq {n : Nat} {fa : List He.Fa} {fn : List He.DefD} {ts : List Str} {cs : List Kc} {g : Addr → Option Obj} {s : Shared} (h : ∀ a, g a = s.heap.get? a) : obsT n fa fn ts cs g = (hookT n fa fn ts cs).obs s := by
  have e : g = s.heap.get? := funext h
  rw [e]
  rfl
theorem fun_of {K : PySem.W.Frag} {x q : Str} {st : Stmt} {f : Addr} {fd : FuncData} (F : FunD K x q (defArgs st) (defBody st) (defScope st) [] [] f fd) : Fun K x q st f fd := by
  obtain ⟨⟨oc, od, dV, kV, doc, pm, an, cdv, ct, osl, e, lk, hcd, hD, hK⟩, kp⟩ := F
  rcases hD with ⟨_, e2⟩ | ⟨e2, _⟩
  · rw [e2] at e
    exact ⟨⟨oc, od, kV, doc, pm, an, cdv, ct, osl, e, lk, hcd⟩, kp⟩
  · exact absurd rfl e2
/-- what a def's proof may lean on -/
structure Al (K : PySem.W.Frag) (mg : Str → Option Value) (base : Heap) (ds : List DI) (fr : List Str) (ts : List Str) (cs : List Kc) : Prop where
  df : ∀ d ∈ ds, mg d.1 = some (.ref (He.ga K d.1)) ∧ ∃ fd, Fun K d.1 d.1 d.2 (He.ga K d.1) fd
  fr : ∀ x ∈ fr, mg x = none
  tb : ∀ x ∈ ts, ∃ c P, PySem.W.tabIn K x = some (c, P) ∧ TabB base mg c P
  cs : ∀ c ∈ cs, c.ok K mg
/-- a def that keeps its promise -/
def Ok (P : Program) (w : World) (K : PySem.W.Frag) (mg : Str → Option Value) (base : Heap) (k : Nat) (x : Str) (ps : List Str) (sp : Sp) : Prop :=
  ∃ fd, (∃ st, Fun K x x st (He.ga K x) fd) ∧ FnOk P w K mg base CX0 k (He.ga K x) fd ps sp ∧ mg x = some (.ref (He.ga K x)) ∧ PySem.W.keepIn K (.ref (He.ga K x)) = true ∧ Binds K fd ps []
section
variable {P : Program} {w : World} {K : PySem.W.Frag} {mg : Str → Option Value} {base : Heap} {T : List NTab} {ds : List DI} {fr ts : List Str} {cs : List Kc}
abbrev BindsBy (st : Stmt) (x : Str) (ps : List Str) : Prop := ∀ (kV doc pm : Value) (an : Option Addr) (cdv ct : Value) (us : List Value), us.length = ps.length → bindArgs (PySem.W.fnOf x x (defArgs st) (defBody st) (defScope st) .none kV doc pm an cdv ct) ⟨us, []⟩ = pure (ps.zip us)
/-- THE RULE for a def of the top -/
theorem ok_of (c : Al K mg base ds fr ts cs) {x : Str} {st : Stmt} {N ps : List Str} {k : Nat} {F : FS} (hm : (x, st) ∈ ds) (bd : BindsBy st x ps) (Sc : FnScope N ps (defScope st)) (len : ∀ as Q, F as Q → as.length = ps.length)
    (body : ∀ (f : Addr) (cdv : Value) (A : Around) (outer : List Env) (s : Shared) (H : Hp) (E : XK), Room k (A.deeper (envOfC x (defScope st) s.heap.objs.size f cdv)) → ∀ (as : List Ar) (Q : R → List OV → Prop) (qs : List Addr), F as Q → qs.length = owns as →
      ∃ t, PSs (cxOf CX0 P w K mg base N x (defScope st) f cdv A outer s H E).nox (defBody st) t ∧
        Ss K T t (slotsOf as qs ++ List.replicate (N.length - as.length) .no) { nx := fun δ' => ∃ us, Fin as qs δ' us ∧ Q (.val .none) us, rt := fun r δ' => ∃ us r', Fin as qs δ' us ∧ RetR as.length δ' r r' ∧ Q r' us }) :
    Ok P w K mg base (k + 1) x ps (spOf K T F) := by
  obtain ⟨g, fd, Fn⟩ := c.df (x, st) hm
  exact ⟨fd, ⟨st, Fn⟩, fs_ok Fn Sc len (fun cdv A outer s H E hr => body _ cdv A outer s H E hr), g, Fn.kp, Fn.binds bd⟩
/-- the same where the body's code object is needed -/
theorem ok_ofC (c : Al K mg base ds fr ts cs) {x : Str} {st : Stmt} {N ps : List Str} {k : Nat} {F : FS} (hm : (x, st) ∈ ds) (ht : x ∈ ts) (bd : BindsBy st x ps) (Sc : FnScope N ps (defScope st)) (len : ∀ as Q, F as Q → as.length = ps.length)
    (hX : PySem.W.nsIn K mainGlobals x = some (some (.ref (He.ga K x))))
    (body : ∀ (f : Addr) (cc PP : Addr) (A : Around) (outer : List Env) (s : Shared) (H : Hp) (E : XK), PySem.W.tabIn K x = some (cc, PP) → TabB base mg cc PP → Room k (A.deeper (envOfC x (defScope st) s.heap.objs.size f (.ref cc))) → ∀ (as : List Ar) (Q : R → List OV → Prop) (qs : List Addr), F as Q → qs.length = owns as →
      ∃ t, PSs (cxOf CX0 P w K mg base N x (defScope st) f (.ref cc) A outer s H E).nox (defBody st) t ∧
        Ss K T t (slotsOf as qs ++ List.replicate (N.length - as.length) .no) { nx := fun δ' => ∃ us, Fin as qs δ' us ∧ Q (.val .none) us, rt := fun r δ' => ∃ us r', Fin as qs δ' us ∧ RetR as.length δ' r r' ∧ Q r' us }) :
    Ok P w K mg base (k + 1) x ps (spOf K T F) := by
  obtain ⟨g, fd, Fn⟩ := c.df (x, st) hm
  obtain ⟨cc, PP, ht, hB⟩ := c.tb x ht
  refine ⟨fd, ⟨st, Fn⟩, ?_, g, Fn.kp, Fn.binds bd⟩
  obtain ⟨oc, od, kV, doc, pm, an, cdv, ct, osl, rfl, lk, hcd⟩ := Fn.ex
  have ec : cdv = .ref cc := by
    have ht2 := ht
    unfold PySem.W.tabIn at ht2
    rw [hX] at ht2
    simp only [lk] at ht2
    cases cdv with
    | ref c₂ =>
      simp only at ht2
      split at ht2
      · split at ht2
        · cases ht2
          rfl
        · cases ht2
      · cases ht2
    | _ => cases ht2
  subst ec
  refine fn_of lk hcd Sc (fun vs H Q E h => ?_) fun A outer s H vs Q E hr h => ?_
  · obtain ⟨A, Z, as, P, nd, hT, ha, hZ, f, _⟩ := h
    rw [(argsOk_len ha).1]
    exact len as P f
  · obtain ⟨Ad, Z, as, P, nd, hT, ha, hZ, f, fin⟩ := h
    obtain ⟨t, ht3, hs⟩ := body _ cc PP A outer s H E ht hB hr as P Ad f (argsOk_len ha).2.1
    have s0 := entry (N := N) ha hZ nd hT
    have eo := entry_ow (n := N.length - vs.length) (Z := Z) ha
    rw [(argsOk_len ha).1] at s0 eo
    refine ⟨t, PSs.nox ht3, hs Z H _ s0 _ (fun σ' H' δ' s' g' ⟨us, q1, q2⟩ => ?_) (fun v σ' H' r δ' B' R1 ⟨us, r', q1, q2, q3⟩ => ?_) (fun _ _ _ _ _ z => z.elim) (fun _ _ _ _ _ z => z.elim)⟩
    · rw [eo] at g'
      exact fin .non H' (.val .none) us s'.tab ⟨g'.ext, g'.dom, fun a m => .inl m⟩ (leave0 s' q1) q2
    · have R2 := R1
      rw [eo] at R2
      have g' := R2.go
      exact fin v H' r' us R2.s.tab ⟨g'.ext, g'.dom, fun a m => .inl m⟩ (leave R2 q1 q2) q3
variable {X : Cx} {x : Str} {ps : List Str} {k : Nat} {sp : Sp} {sg : SpG} {p pos : Pos} {e : Expr} {es : List Expr} {t : TA}
theorem pe_f (h : Ok X.prog X.w X.K X.mg X.base k x ps sp) (hr : Room k X.A) (hg : Gl X x) (ha : PA X (e :: es) t) (hdb : (x == ("__debug__" : Str)) = false := by decide) (he : starEach (e :: es) X.env = (false, eval e X.env) :: starEach es X.env := by rfl) (hpl : (backTo pos (starEach es X.env)).any (·.1) = false := by rfl) :
    PE X (.Call (.Name x p) (e :: es) [] pos) (tCall sp [] E0 t) := by
  obtain ⟨fd, _, h1, h2, h3, h4⟩ := h
  exact pe_call h1 hr hg h2 h3 h4 .nil pass0 ha hdb he hpl
theorem pe_f0 (h : Ok X.prog X.w X.K X.mg X.base k x ps sp) (hr : Room k X.A) (hg : Gl X x) (hdb : (x == ("__debug__" : Str)) = false := by decide) :
    PE X (.Call (.Name x p) [] [] pos) (tCall sp [] E0 tNil) := by
  obtain ⟨fd, _, h1, h2, h3, h4⟩ := h
  exact pe_call0 h1 hr hg h2 h3 h4 .nil pass0 hdb
end
theorem tabs_new {K : PySem.W.Frag} {H : Hp} {T : List NTab} (h : ∀ p ∈ T, H p.1 = some (.tbl #[])) : TabsN T H := fun p hp =>
  ⟨#[], h p hp, trivial, fun pos cv hc => by cases hc⟩
/-- the tables of these defs -/
def tabsOf (K : PySem.W.Frag) (ts : List (Str × (Nat → Nat → Str))) : List NTab := ts.map fun x => (((PySem.W.tabIn K x.1).getD (0, 0)).2, x.2)
theorem sp_law {K : PySem.W.Frag} {T : List NTab} {F : FS} {ns : List Int} {a : Addr} {H : Hp} (hT : TabsN T H) (hS : SqL K H a (ns.map V.int)) (hF : F [.val (.list (ns.map .int))] fun r _ => r = .val (.bool true)) :
    spOf K T F [.ref a] H (fun v _ => v = .bl true) fun _ _ _ => False := by
  refine ⟨[], [], [.val (.list (ns.map .int))], _, List.nodup_nil, hT, ⟨.lst ?_ da_ofInts, trivial⟩, (fun q hq => by cases hq), hF, fun v H' r us _ _ af e => ?_⟩
  · rcases hS with (h | ⟨o, h⟩) | h
    · exact .inl (.inl (dl_of h (by simp)))
    · exact .inl (.inr ⟨o, dl_of h (by simp)⟩)
    · exact .inr h
  · subst e
    have h : Dp K _ v _ := af.res
    cases h
    rfl
theorem walk_end {l : PySem.W.OpenLaw} {k n m : Nat} {q : Program} {loose : List Str} {XP : (Str → Option Value) → Heap → Prop} {d : DefRec} {fr : List Str} {ds : List DI} {fa : List He.Fa} {ts : List (Str × (Nat → Nat → Str))} {cs : List Kc} {F : FS} {st : Stmt}
    (hn : l.most = some n) (hn2 : n ≤ sizeLine) (hdf : d.params.defaults = []) (hr : Room k callerA) (hfa : fa = ds.map (fun x => .glo x.1) ++ fr.map .free ++ cs.map Kc.fa) (hdn : d.name = ("law" : Str)) (hl : (("law" : Str), st) ∈ ds) (bd : BindsBy st "law" ["script"])
    (ok : ∀ (w : World) (mg : Str → Option Value) (base : Heap) (K : PySem.W.Frag), Al K mg base ds fr (ts.map (·.1)) cs → (∀ x ∈ ds, PySem.W.nsIn K mainGlobals x.1 = some (some (.ref (He.ga K x.1)))) → Ok l.prog w K mg base k "law" ["script"] (spOf K (tabsOf K ts) F))
    (hF : ∀ ns : List Int, ns.length ≤ n → (∀ z ∈ ns, Builtin.Int.intBits z ≤ 1048576) → F [.val (.list (ns.map .int))] fun r _ => r = .val (.bool true)) :
    PySem.W.WalkO q loose XP (hookT m fa (ds.map DI.d) (ts.map (·.1)) cs).says l.row.toRowW d [] (fun f vs => PySem.call f vs) := by
  refine walk_ofTsE (k := k) (x := "script") (CX := fun _ => CX0) hn hn2 hdf hr (fun w mg f h Y G hmg => ?_) (fun _ _ _ _ _ z => z)
  obtain ⟨K, KX, c, tb, kc⟩ := Y
  have glo : ∀ x ∈ ds, PySem.W.nsIn K mainGlobals x.1 = some (some (.ref (He.ga K x.1))) := fun x hx => by
    have hm : He.Fa.glo x.1 ∈ fa := by rw [hfa]; exact List.mem_append_left _ (List.mem_append_left _ (List.mem_map.mpr ⟨x, hx, rfl⟩))
    obtain ⟨i, hi⟩ := List.mem_iff_getElem?.mp hm
    exact He.eqO_ok (c.fact i hi)
  have free : ∀ x ∈ fr, PySem.W.nsIn K mainGlobals x = some none := fun x hx => by
    have hm : He.Fa.free x ∈ fa := by rw [hfa]; exact List.mem_append_left _ (List.mem_append_right _ (List.mem_map.mpr ⟨x, hx, rfl⟩))
    obtain ⟨i, hi⟩ := List.mem_iff_getElem?.mp hm
    exact He.eqO_ok (c.fact i hi)
  have consts : ∀ (mg2 : Str → Option Value) (base : Heap), K.In base → base.Ns mainGlobals mg2 → ∀ y ∈ cs, y.ok K mg2 := fun mg2 base KB GB y hy => by
    have hm : y.fa ∈ fa := by rw [hfa]; exact List.mem_append_right _ (List.mem_map.mpr ⟨y, hy, rfl⟩)
    obtain ⟨i, hi⟩ := List.mem_iff_getElem?.mp hm
    have q := c.fact i hi
    cases y with
    | tup x zs => exact ⟨He.glo_ok KB GB q, .tup (He.tupB_ok (kc _ hy) N0) (dv_strs zs)⟩
    | str x z => exact He.str_ok KB GB q
    | int x j => exact He.int_ok KB GB q
    | exc x =>
      have z := He.ba (kc _ hy)
      exact ⟨He.glo_ok KB GB q, z.1, excCB_ok z.2⟩
    | sub x y b =>
      have z := He.ba (kc _ hy)
      exact ⟨of_decide_eq_true z.1, of_decide_eq_true z.2⟩
    | subT x n b =>
      have z : decide (PySem.W.kitOne K (.ref (He.ga K x)) (.type n) = some b) = true := kc _ hy
      have z2 : PySem.W.kitOne K (.ref (He.ga K x)) (.type n) = some b := of_decide_eq_true z
      exact z2
  have funs : ∀ x ∈ ds, ∃ fd, Fun K x.1 x.1 x.2 (He.ga K x.1) fd := fun x hx => by
    have hm : x.d ∈ ds.map DI.d := List.mem_map.mpr ⟨x, hx, rfl⟩
    obtain ⟨i, hi⟩ := List.mem_iff_getElem?.mp hm
    obtain ⟨fd, F⟩ := c.def_ i hi
    exact ⟨fd, fun_of F⟩
  have eL := PySem.W.mg_of KX G (glo _ hl)
  rw [hdn] at hmg
  have ef : f = He.ga K "law" := by
    have e := hmg.symm.trans eL
    cases e
    rfl
  subst ef
  obtain ⟨fd, FL⟩ := funs _ hl
  have tabs : ∀ p ∈ tabsOf K ts, ∃ x ∈ ts, ∃ c, PySem.W.tabIn K x.1 = some (c, p.1) ∧ PySem.W.CodeHd h c p.1 ∧ K.lookup p.1 = none ∧ h.get? p.1 = some (PySem.W.tabObj #[]) ∧ p.1 ≠ mainGlobals := fun p hp => by
    obtain ⟨x, hx, e⟩ := List.mem_map.mp hp
    obtain ⟨c, P, h1, h2⟩ := tb x.1 (List.mem_map.mpr ⟨x, hx, rfl⟩)
    subst e
    refine ⟨x, hx, c, ?_⟩
    simp only [h1, Option.getD_some]
    exact ⟨trivial, h2⟩
  refine ⟨K, KX, fd, ts.map (fun x => (PySem.W.tabIn K x.1).getD (0, 0)), spOf K (tabsOf K ts) F, ?_, ?_, ?_, fun s u => ?_, fun H a ns hlen hb hT hS => ?_, fun base KB GB TB => ?_⟩
  · intro p hp
    obtain ⟨x, hx, rfl⟩ := List.mem_map.mp hp
    obtain ⟨c, P, h1, h2, h3, h4, h5⟩ := tb x.1 (List.mem_map.mpr ⟨x, hx, rfl⟩)
    simp only [h1, Option.getD_some]
    exact h4
  · intro p hp
    obtain ⟨x, hx, rfl⟩ := List.mem_map.mp hp
    obtain ⟨c, P, h1, h2, h3, h4, h5⟩ := tb x.1 (List.mem_map.mpr ⟨x, hx, rfl⟩)
    simp only [h1, Option.getD_some]
    exact h3
  · intro p hp
    obtain ⟨x, hx, rfl⟩ := List.mem_map.mp hp
    obtain ⟨c, P, h1, h2, h3, h4, h5⟩ := tb x.1 (List.mem_map.mpr ⟨x, hx, rfl⟩)
    simp only [h1, Option.getD_some]
    exact h2
  · obtain ⟨oc, od, kV, doc, pm, an, cdv, ct, osl, rfl, lk, hcd⟩ := FL.ex
    exact .of_eq (bd kV doc pm an cdv ct [u] rfl)
  · refine sp_law (tabs_new (K := K) fun p hp => ?_) hS (hF ns hlen hb)
    obtain ⟨x, hx, rfl⟩ := List.mem_map.mp hp
    exact hT _ (List.mem_map.mpr ⟨x, hx, rfl⟩)
  · obtain ⟨fd2, ⟨st2, FL2⟩, h1, h2, h3, h4⟩ := ok w mg base K ⟨fun x hx => ⟨PySem.W.mg_of KB GB (glo x hx), funs x hx⟩, fun x hx => PySem.W.mg_none_of KB GB (free x hx), fun x hx => by
      obtain ⟨y, hy, rfl⟩ := List.mem_map.mp hx
      obtain ⟨c, P, q1, q2⟩ := tb y.1 hx
      refine ⟨c, P, q1, ?_⟩
      have := TB _ (List.mem_map.mpr ⟨y, hy, rfl⟩)
      simpa only [q1, Option.getD_some] using this, fun y hy => consts mg base KB GB y hy⟩ glo
    obtain ⟨oc, od, kV, doc, pm, an, cdv, ct, osl, e1, lk, hcd⟩ := FL.ex
    obtain ⟨oc2, od2, kV2, doc2, pm2, an2, cdv2, ct2, osl2, e12, lk2, hcd2⟩ := FL2.ex
    rw [lk] at lk2
    cases lk2
    exact h1
end Pl
set_option Elab.async false
set_option linter.all false
set_option maxRecDepth 100000
set_option maxHeartbeats 1000001
namespace Pl
open PySem L2 LamX NdefX PyProof.Rows GenW
section
variable {K : PySem.W.Frag} {T : List NTab} {w : World} {B B' B1 : Lo} {A A0 : List Addr} {H0 H H' : Hp} {σ : L2.St} {δ δ' : List Sl} {v : V} {r : R} {E : Es} {te ta tb ty tv : TE} {tt t1 t2 : TT} {ts t u : TS} {g : TG} {P : R → List Sl → Prop}
theorem st_v {i : Nat} {d : D} {N : List Sl → Prop} (e : δ.set i (.val d) = δ') (h : N δ') : StoreR i δ N (.val d) := by
  subst e
  exact h
theorem st_n {i : Nat} {u : OV} {N : List Sl → Prop} {f : Addr → List Sl} (hl : i < δ.length) (e : ∀ p, δ.set i (.own p u) = f p) (h : ∀ p, N (f p)) : StoreR i δ N (.new u) :=
  ⟨hl, fun p => by rw [e p]; exact h p⟩
theorem et_not' {P' : Bool → List Sl → Prop} (h : ExT K T t1 δ fun b δ1 => P' (!b) δ1) : ExT K T (tNot t1) δ P' := fun B H σ s Q k => h B H σ s _ fun b H1 δ1 s1 g1 p => k _ H1 δ1 s1 g1 p
end
end Pl
set_option Elab.async false
set_option linter.all false
set_option maxRecDepth 100000
set_option maxHeartbeats 1000001
namespace Pl
open PySem L2 LamX NdefX PyProof.Rows GenW PySem.W
end Pl
set_option Elab.async false
set_option linter.all false
set_option maxRecDepth 100000
set_option maxHeartbeats 1000001
namespace Pl
open PySem L2 LamX NdefX PyProof.Rows GenW PySem.W
/-- the lowest place that is set -/
theorem low_ex : ∀ n : Nat, 0 < n → ∃ k, n.testBit k = true ∧ ∀ j < k, n.testBit j = false := by
  intro n
  induction n using Nat.strongRecOn with
  | ind n ih =>
    intro hn
    by_cases h : n % 2 = 1
    · exact ⟨0, by simp [Nat.testBit_zero, h], fun j hj => absurd hj (Nat.not_lt_zero _)⟩
    · obtain ⟨k, h1, h2⟩ := ih (n / 2) (by omega) (by omega)
      refine ⟨k + 1, by rw [Nat.testBit_succ]; exact h1, fun j hj => ?_⟩
      cases j with
      | zero => simp [Nat.testBit_zero, h]
      | succ j => rw [Nat.testBit_succ]; exact h2 j (by omega)
noncomputable def low (n : Nat) : Nat := if h : 0 < n then (low_ex n h).choose else 0
end Pl
set_option Elab.async false
set_option linter.all false
set_option maxRecDepth 100000
set_option maxHeartbeats 1000001
namespace Pl
open PySem L2 LamX NdefX PyProof.Rows GenW
section
variable {X : Cx} {K0 : PySem.W.Frag}
theorem pi_listK {tg l : Expr} {tl : TE} (hl : PE X l tl) (e : X.K = K0 := by rfl) : PI X tg l (iList K0 tl) := e ▸ pi_list hl
theorem pi_tupK {tg l : Expr} {tl : TE} (hl : PE X l tl) (e : X.K = K0 := by rfl) : PI X tg l (iTup K0 tl) := e ▸ pi_tup hl
theorem pe_bmK {o e : Expr} {es : List Expr} {to : TE} {t : TA} {name : Str} {apos cpos : Pos} {T id : String} {r : V → List V → Hp → VK → Prop} (pa : PlainAttrs T) (slot : Slot T name id) (hty : typeOf (.builtin id) = pure (.type "method_descriptor")) (hm : MtR X id r) (ho : PE X o to) (ha : PA X (e :: es) t)
    (ek : X.K = K0 := by rfl) (h1 : attributeBase o name X.env (eval o X.env) = eval o X.env := by rfl)
    (h2 : ((backTo cpos (starEach (e :: es) X.env)).all (fun x => !x.1) && (backToKw cpos (keywordEach [] X.env)).all (fun x => x.1.isSome) && decide ((e :: es).length + ([] : List Keyword).length + (if ([] : List Keyword).isEmpty then 0 else 1) < 30)) = true := by rfl) (h3 : (apos.endLine == cpos.line) = true := by rfl)
    (h4 : starEach (e :: es) X.env = (false, eval e X.env) :: starEach es X.env := by rfl) (h5 : (backTo cpos (starEach es X.env)).any (·.1) = false := by rfl) : PE X (.Call (.Attribute o name apos) (e :: es) [] cpos) (tBM K0 T r to t) := ek ▸ pe_bm pa slot hty hm ho ha h1 h2 h3 h4 h5
theorem pe_bm0K {o : Expr} {to : TE} {name : Str} {apos cpos : Pos} {T id : String} {r : V → List V → Hp → VK → Prop} (pa : PlainAttrs T) (slot : Slot T name id) (hty : typeOf (.builtin id) = pure (.type "method_descriptor")) (hm : MtR X id r) (ho : PE X o to)
    (ek : X.K = K0 := by rfl) (h1 : attributeBase o name X.env (eval o X.env) = eval o X.env := by rfl) (h3 : (apos.endLine == cpos.line) = true := by rfl) : PE X (.Call (.Attribute o name apos) [] [] cpos) (tBM0 K0 T r to) := ek ▸ pe_bm0 pa slot hty hm ho h1 h3
theorem pt_truthK {a : Expr} {ta : TE} (ha : PE X a ta) (he : ∀ whole, isTrue a X.env whole = (do let v ← whole; standAt a.pos; holding [v] (truthy v))) (ek : X.K = K0 := by rfl) : PT X a (fun σ H Q => ta σ H fun x H' => ∃ k, TruV K0 x H' k ∧ Q k H') := ek ▸ pt_truth ha he
end
end Pl
set_option Elab.async false
set_option linter.all false
set_option maxRecDepth 100000
set_option maxHeartbeats 1000001
namespace Pl
open PySem L2 LamX NdefX PyProof.Rows GenW
section
variable {K : PySem.W.Frag} {T : List NTab} {w : World} {B B' B1 : Lo} {A A0 : List Addr} {H0 H H' : Hp} {σ : L2.St} {δ δ' : List Sl} {v : V} {r : R} {E : Es} {te ta tb tc ty tv : TE} {tt t1 t2 : TT} {ts t u : TS} {g : TG} {P : R → List Sl → Prop}
abbrev rAddT : R2 := fun x y H Q => ∃ i j, x = .str i ∧ y = .str j ∧ i.length + j.length ≤ sizeLine ∧ Q (.str (i ++ j)) H
theorem opd_addS {x y : Str} {P : R → Prop} (hl : x.length + y.length ≤ 100000) (p : P (.val (.str (x ++ y)))) : OpD K rAddT (.str x) (.str y) P := fun H v w Q h1 h2 o => by
  cases h1; cases h2
  exact ⟨x, y, rfl, rfl, Nat.le_trans hl (by decide), o.val _ _ (.str _) p⟩
abbrev rInSg : R2 := fun x y H Q => ∃ (c : Nat) (z : Str), x = .str ⟨#[c]⟩ ∧ y = .str z ∧ Q (.bl (decide (c ∈ z.cps.toList))) H
abbrev rNiSg : R2 := fun x y H Q => ∃ (c : Nat) (z : Str), x = .str ⟨#[c]⟩ ∧ y = .str z ∧ Q (.bl (!decide (c ∈ z.cps.toList))) H
theorem opd_inSg {c : Nat} {z : Str} {P : R → Prop} (p : P (.val (.bool (decide (c ∈ z.cps.toList))))) : OpD K rInSg (.str ⟨#[c]⟩) (.str z) P := fun H v w Q h1 h2 o => by
  cases h1; cases h2
  exact ⟨c, z, rfl, rfl, o.val _ _ (.bl _) p⟩
theorem opd_niSg {c : Nat} {z : Str} {P : R → Prop} (p : P (.val (.bool (!decide (c ∈ z.cps.toList))))) : OpD K rNiSg (.str ⟨#[c]⟩) (.str z) P := fun H v w Q h1 h2 o => by
  cases h1; cases h2
  exact ⟨c, z, rfl, rfl, o.val _ _ (.bl _) p⟩
theorem opd_eqS {x y : Str} {P : R → Prop} (p : P (.val (.bool (decide (x = y))))) : OpD K rEq (.str x) (.str y) P := fun H v w Q h1 h2 o => by
  cases h1; cases h2
  refine ⟨rfl, ?_⟩
  have e : decide (V.str x = V.str y) = decide (x = y) := by
    by_cases h : x = y
    · subst h; simp
    · simp [h]
  rw [e]
  exact o.val _ _ (.bl _) p
theorem opd_neS {x y : Str} {P : R → Prop} (p : P (.val (.bool (!decide (x = y))))) : OpD K rNe (.str x) (.str y) P := fun H v w Q h1 h2 o => by
  cases h1; cases h2
  refine ⟨rfl, ?_⟩
  have e : decide (V.str x = V.str y) = decide (x = y) := by
    by_cases h : x = y
    · subst h; simp
    · simp [h]
  rw [e]
  exact o.val _ _ (.bl _) p
theorem opd_eqB {x y : Bool} {P : R → Prop} (p : P (.val (.bool (decide (x = y))))) : OpD K rEq (.bool x) (.bool y) P := fun H v w Q h1 h2 o => by
  cases h1; cases h2
  refine ⟨rfl, ?_⟩
  have e : decide (V.bl x = V.bl y) = decide (x = y) := by
    cases x <;> cases y <;> rfl
  rw [e]
  exact o.val _ _ (.bl _) p
theorem da_strs : ∀ {vs : List V} {ns : List Str}, DpAll K H vs (ns.map .str) → vs = ns.map V.str
  | _, [], h => by cases h; rfl
  | _, n :: ns, h => by
    have h : DpAll K H _ (.str n :: ns.map .str) := h
    cases h with
    | cons h1 h2 =>
      cases h1
      rw [da_strs h2]
      rfl
theorem imm_strs : ∀ ns : List Str, immAll (ns.map .str) = true
  | [] => rfl
  | n :: ns => by
    show (imm (.str n) && immAll (ns.map .str)) = true
    rw [imm_strs ns]
    rfl
theorem inV_strs {x : Str} : ∀ ns : List Str, inV (.str x) (ns.map V.str) = decide (x ∈ ns)
  | [] => by simp [inV]
  | n :: ns => by
    show (eqV (.str n) (.str x) || inV (.str x) (ns.map V.str)) = _
    rw [inV_strs ns]
    show ((n == x) || decide (x ∈ ns)) = _
    by_cases hx : x = n
    · subst hx; simp
    · have : ¬ n = x := fun z => hx z.symm
      simp [hx, this]
theorem flat_strs : ∀ ns : List Str, (ns.map V.str).all flatV = true
  | [] => rfl
  | _ :: ns => flat_strs ns
theorem opd_inSL {x : Str} {ns : List Str} {P : R → Prop} (p : P (.val (.bool (decide (x ∈ ns))))) : OpD K (rIn K false) (.str x) (.list (ns.map .str)) P := fun H v w Q h1 h2 o => by
  cases h1
  obtain ⟨a, xs, rfl, hs, ha⟩ := dp_l h2
  rw [da_strs ha] at hs
  refine ⟨a, _, rfl, .inl hs, rfl, flat_strs ns, ?_⟩
  rw [if_neg Bool.false_ne_true, inV_strs]
  exact o.val _ _ (.bl _) p
theorem opd_inST {x : Str} {ns : List Str} {P : R → Prop} (p : P (.val (.bool (decide (x ∈ ns))))) : OpD K (rIn K false) (.str x) (.tuple (ns.map .str)) P := fun H v w Q h1 h2 o => by
  cases h1
  obtain ⟨a, xs, rfl, hs, ha⟩ := dp_t h2
  rw [da_strs ha] at hs
  refine ⟨a, _, rfl, .inr hs, rfl, flat_strs ns, ?_⟩
  rw [if_neg Bool.false_ne_true, inV_strs]
  exact o.val _ _ (.bl _) p
theorem cb_lenS {x : Str} {P : R → Prop} (hl : x.length ≤ 1000000) (p : P (.val (.int x.length))) : CbD K (rLen K) [.str x] P := fun H vs Q h o => by
  obtain ⟨v, rfl, h1⟩ := da_1 h
  cases h1
  exact ⟨_, x.length, rfl, ⟨Nat.le_trans hl (by decide), rfl⟩, o.val _ _ (.int _) p⟩
theorem cb_all {bs : List Bool} {P : R → Prop} (p : P (.val (.bool (bs.all id)))) : CbD K (rAll K) [.list (bs.map .bool)] P := fun H vs Q h o => by
  obtain ⟨v, rfl, h1⟩ := da_1 h
  obtain ⟨a, xs, rfl, hs, ha⟩ := dp_l h1
  rw [da_bools ha] at hs
  exact ⟨a, bs, rfl, hs, o.val _ _ (.bl _) p⟩
/-- s[i] -/
theorem ex_ixS (h : Ex K T ta δ fun r1 δ1 => Ex K T tb δ1 fun r2 δ2 => ∃ (x : Str) (i : Int) (c : Nat), r1 = .val (.str x) ∧ AsD δ2 r2 (.int i) ∧ x.length ≤ 1000000 ∧ atI x.cps.toList i = some c ∧ P (.val (.str ⟨#[c]⟩)) δ2) : Ex K T (tOp rIxS ta tb) δ P := ex_op (h.imp fun r1 δ1 h => h.imp fun r2 δ2 ⟨x, i, c, e1, a, hl, e, p⟩ =>
  ⟨.str x, .int i, by subst e1; rfl, a, fun H v w Q h1 h2 o => by
    cases h1; cases h2
    exact ⟨x, i, c, rfl, rfl, Nat.le_trans hl (by decide), e, o.val _ _ (.str _) p⟩⟩)
def noneD : D → Bool
  | .none => true
  | _ => false
theorem none_v {d : D} (h : Dp K H v d) : decide (v = V.non) = noneD d := by
  cases h <;> simp [noneD]
/-- x is None, x is not None -/
theorem ex_isN (h : Ex K T te δ fun r δ1 => ∃ d, AsD δ1 r d ∧ P (.val (.bool (noneD d))) δ1) : Ex K T (tIsN te) δ P := fun B H σ s Q k =>
  h B H σ s _ fun v H1 r δ1 B1 R1 ⟨d, e, p⟩ => by
    obtain ⟨C, rfl⟩ := R1.bx.suf
    show Q (.bl (decide (v = .non))) H1
    rw [none_v (R1.vr.dp R1.s e)]
    exact (out_suf (P := P) R1.s R1.go k).val _ _ (.bl _) p
/-- a op b op c of ints -/
theorem ex_chI {g g' : Int → Int → V} (h : Ex K T ta δ fun r1 δ1 => Ex K T tb δ1 fun r2 δ2 => ∃ (i j : Int) (b : Bool), r1 = .val (.int i) ∧ r2 = .val (.int j) ∧ g i j = .bl b ∧
      if b = true then Ex K T tc δ2 fun r3 δ3 => ∃ (m : Int) (b2 : Bool), r3 = .val (.int m) ∧ g' j m = .bl b2 ∧ P (.val (.bool b2)) δ3 else P (.val (.bool false)) δ2) : Ex K T (tChain (rI0 g) (rI0 g') ta tb tc) δ P := fun B H σ s Q k =>
  h B H σ s _ fun v H1 r1 δ1 B1 R1 h1 => h1 B1 H1 σ R1.s _ fun w H2 r2 δ2 B2 R2 ⟨i, j, b, e1, e2, e3, q⟩ => by
    subst e1 e2
    have b1 : B1 = B := R1.bx
    subst b1
    have b2 : B2 = B1 := R2.bx
    subst b2
    have hv : Dp K _ v (.int i) := R1.vr
    have hw : Dp K _ w (.int j) := R2.vr
    cases hv; cases hw
    refine ⟨i, j, rfl, rfl, b, e3, ?_⟩
    cases b with
    | true =>
      rw [if_pos rfl] at q ⊢
      refine q _ H2 σ R2.s _ fun u H3 r3 δ3 B3 R3 ⟨m, c, e4, e5, p⟩ => ?_
      subst e4
      have b3 : B3 = B2 := R3.bx
      subst b3
      have hu : Dp K _ u (.int m) := R3.vr
      cases hu
      refine ⟨j, m, rfl, rfl, ?_⟩
      rw [e5]
      exact k _ H3 (.val (.bool c)) δ3 _ ⟨R3.s, (R1.go.trans R2.go).trans R3.go, .bl _, rfl⟩ p
    | false =>
      rw [if_neg Bool.false_ne_true] at q ⊢
      exact k _ H2 (.val (.bool false)) δ2 _ ⟨R2.s, R1.go.trans R2.go, .bl _, rfl⟩ q
/-- f'..' -/
def ExJ (K : PySem.W.Frag) (T : List NTab) : List TE → Str → List Sl → (R → List Sl → Prop) → Prop
  | [], acc, δ, P => P (.val (.str acc)) δ
  | t :: ts, acc, δ, P => Ex K T t δ fun r δ1 => ∃ y, r = .val (.str y) ∧ (acc ++ y).length ≤ 1000000 ∧ ExJ K T ts (acc ++ y) δ1 P
theorem exj_run : ∀ {l : List TE} {acc : Str} {δ : List Sl} {A0 : List Addr} {H0 : Hp}, ExJ K T l acc δ P → ∀ (B : Lo) (H : Hp) (σ : L2.St), S K T B H σ δ → Go A0 (ow δ B) H0 H → ∀ Q : Str → Hp → Prop,
    (∀ x H' δ', S K T B H' σ δ' → Go A0 (ow δ' B) H0 H' → P (.val (.str x)) δ' → Q x H') → tJs l acc σ H Q
  | [], acc, δ, A0, H0, h, B, H, σ, s, g, Q, k => k acc H δ s g h
  | t :: ts, acc, δ, A0, H0, h, B, H, σ, s, g, Q, k => h B H σ s _ fun v H1 r δ1 B1 R1 ⟨y, e, hl, h1⟩ => by
    subst e
    have b1 : B1 = B := R1.bx
    subst b1
    have hv : Dp K _ v (.str y) := R1.vr
    cases hv
    exact ⟨y, rfl, Nat.le_trans hl (by decide), exj_run h1 _ H1 σ R1.s (g.trans R1.go) Q k⟩
theorem ex_joined {l : List TE} (h : ExJ K T l Str.empty δ P) : Ex K T (fun σ H Q => tJs l Str.empty σ H fun out H1 => Q (.str out) H1) δ P := fun B H σ s Q k =>
  exj_run h B H σ s .refl _ fun x H' δ' s' g' p => k _ H' (.val (.str x)) δ' B ⟨s', g', .str _, rfl⟩ p
theorem ex_fmt (h : Ex K T te δ fun r δ1 => ∃ y, r = .val (.str y) ∧ y.length ≤ 1000000 ∧ P r δ1) : Ex K T (tFmt te) δ P := fun B H σ s Q k =>
  h B H σ s _ fun v H1 r δ1 B1 R1 ⟨y, e, hl, p⟩ => by
    subst e
    have hv : Dp K _ v (.str y) := R1.vr
    have R2 := R1
    cases hv
    exact .inl ⟨y, rfl, Nat.le_trans hl (by decide), k _ H1 _ δ1 B1 R2 p⟩
/-- s.join(xs) -/
abbrev rJoin (K : PySem.W.Frag) : V → List V → Hp → VK → Prop := fun x xs H Q => ∃ a p, ∃ ys : List Str, x = .str a ∧ xs = [.ref p] ∧ (SqL K H p (ys.map V.str) ∨ SqT K H p (ys.map V.str)) ∧
      (ys.map (·.length)).sum + ys.length * a.length ≤ 16777216 ∧ Q (.str (Txt.join a ys)) H
theorem ex_join (h : Ex K T ta δ fun r1 δ1 => ∃ a, r1 = .val (.str a) ∧ Ex K T tb δ1 fun r2 δ2 => ∃ ys : List Str, AsD δ2 r2 (.list (ys.map .str)) ∧ (ys.map (·.length)).sum + ys.length * a.length ≤ 16777216 ∧ P (.val (.str (Txt.join a ys))) δ2) :
    Ex K T (tM1 (rJoin K) ta tb) δ P := fun B H σ s Q k =>
  h B H σ s _ fun v H1 r1 δ1 B1 R1 ⟨a, e, h1⟩ => by
    subst e
    have b1 : B1 = B := R1.bx
    subst b1
    have hv : Dp K _ v (.str a) := R1.vr
    cases hv
    refine ⟨⟨a, rfl⟩, h1 _ H1 σ R1.s _ fun w H2 r2 δ2 B2 R2 ⟨ys, a2, hl, p⟩ => ?_⟩
    obtain ⟨C, rfl⟩ := R2.bx.suf
    obtain ⟨b, xs, rfl, hs, ha⟩ := dp_l (R2.vr.dp R2.s a2)
    rw [da_strs ha] at hs
    exact ⟨a, b, ys, rfl, rfl, .inl hs, hl, (out_suf (P := P) R2.s (R1.go.trans R2.go) k).val _ _ (.str _) p⟩
/-- s[lo:hi] -/
theorem ex_slS {tl th : TO} (h : Ex K T te δ fun r δ1 => ExO K T tl δ1 fun lo δ2 => ExO K T th δ2 fun hi δ3 => ∃ x, r = .val (.str x) ∧ x.length ≤ 1000000 ∧ P (.val (.str (cutS x lo hi))) δ3) : Ex K T (tSl rSlS te tl th) δ P := fun B H σ s Q k =>
  h B H σ s _ fun v H1 r δ1 B1 R1 h1 => h1 B1 H1 σ R1.s _ fun lo H2 δ2 s2 g2 h2 => h2 B1 H2 σ s2 _ fun hi H3 δ3 s3 g3 ⟨x, e, hl, p⟩ => by
    subst e
    have b1 : B1 = B := R1.bx
    subst b1
    have hv : Dp K _ v (.str x) := R1.vr
    cases hv
    exact ⟨x, rfl, Nat.le_trans hl (by decide), k _ H3 (.val (.str _)) δ3 _ ⟨s3, (R1.go.trans g2).trans g3, .str _, rfl⟩ p⟩
/-- t[lo:hi], t a tuple, not the whole -/
theorem ex_slT {tl th : TO} (h : Ex K T te δ fun r δ1 => ExO K T tl δ1 fun lo δ2 => ExO K T th δ2 fun hi δ3 => ∃ ds, r = .val (.tuple ds) ∧ ¬ (HT.sIx ds.length 0 lo = 0 ∧ HT.sIx ds.length ds.length hi = ds.length) ∧ P (.val (.tuple (cutD ds lo hi))) δ3) : Ex K T (tSl (rSlT K) te tl th) δ P := fun B H σ s Q k =>
  h B H σ s _ fun v H1 r δ1 B1 R1 h1 => h1 B1 H1 σ R1.s _ fun lo H2 δ2 s2 g2 h2 => h2 B1 H2 σ s2 _ fun hi H3 δ3 s3 g3 ⟨ds, e, hn, p⟩ => by
    subst e
    have b1 : B1 = B := R1.bx
    subst b1
    have hv : Dp K _ v (.tuple ds) := R1.vr
    obtain ⟨b, xs, rfl, hs, ha⟩ := dp_t (dp_mono (g2.trans g3).rk _ _ hv)
    refine ⟨b, xs, rfl, dl_rk.sqT hs, by rw [da_len ha]; exact hn, fun q hq => ?_⟩
    refine k _ _ (.val (.tuple (cutD ds lo hi))) δ3 _ ⟨s3.laid hq, ((R1.go.trans g2).trans g3).trans (go_upd hq), ?_, rfl⟩ p
    exact .tup (.inl (.inl (dl_of upd_same (s3.free hq)))) (da_mono (go_upd hq).rk _ _ (da_cut ha))
theorem ow_no {i : Nat} {d : D} (hi : δ[i]? = some .no) : ow (δ.set i (.val d)) B = ow δ B := by
  unfold ow
  congr 1
  induction δ generalizing i with
  | nil => rfl
  | cons t r ih =>
    cases i with
    | zero =>
      have e : t = .no := Option.some.inj hi
      subst e
      rfl
    | succ i => rw [List.set_cons_succ, List.flatMap_cons, List.flatMap_cons, ih (by simpa using hi)]
/-- one turn: from δ, acc to what W wants -/
def TurnW (K : PySem.W.Frag) (T : List NTab) (i : Nat) (tt : TT) (te : TE) (δ : List Sl) (d : D) (acc : List D) (W : List Sl → List D → Prop) : Prop :=
  ExT K T tt (δ.set i (.val d)) fun b δ2 => if b = true then Ex K T te δ2 fun r δ3 => ∃ z δ4, r = .val z ∧ δ3 = δ4.set i (.val d) ∧ δ4[i]? = some .no ∧ acc.length < 100000 ∧ W δ4 (acc ++ [z]) else ∃ δ4, δ2 = δ4.set i (.val d) ∧ δ4[i]? = some .no ∧ W δ4 acc
theorem lc_turnW {i : Nat} {p : Addr} {d : D} {acc : List D} {x : V} {Nx : Hp → Prop} {W : List Sl → List D → Prop} (hi : δ[i]? = some .no) (s : S K T ((p, .lst acc) :: B) H σ δ) (hx : Dp K (dl H (ow δ ((p, .lst acc) :: B))) x d) (h : TurnW K T i tt te δ d acc W)
    (k : ∀ H' δ4 acc', W δ4 acc' → δ4[i]? = some .no → S K T ((p, .lst acc') :: B) H' σ δ4 → Go (ow δ ((p, .lst acc) :: B)) (ow δ4 ((p, .lst acc') :: B)) H H' → Nx H') :
    gName i x (wipe σ [i]) H fun σ2 H2 => wipe σ2 [i] = wipe σ [i] ∧ tt σ2 H2 fun b H3 => if b = true then te σ2 H3 fun y H4 => ∃ ac, H4 p = some (.lst ac) ∧ ac.length < sizeLine ∧ Nx (upd H4 p (.lst (ac ++ [y]))) else Nx H3 := by
  have ew : ((wipe σ [i]).set i (some x)) = σ.set i (some x) := by
    show (σ.set i none).set i (some x) = _
    rw [List.set_set]
  show wipe ((wipe σ [i]).set i (some x)) [i] = wipe σ [i] ∧ tt ((wipe σ [i]).set i (some x)) H _
  refine ⟨?_, ?_⟩
  · rw [ew]
    show (σ.set i (some x)).set i none = σ.set i none
    rw [List.set_set]
  rw [ew]
  have s1 := s.setv (i := i) hx
  have g0 : Go (ow δ ((p, .lst acc) :: B)) (ow (δ.set i (.val d)) ((p, .lst acc) :: B)) H H := Go.set rfl
  refine h _ H _ s1 _ fun b H3 δ3 s3 g3 q => ?_
  cases b with
  | true =>
    rw [if_pos rfl] at q ⊢
    refine q _ H3 _ s3 _ fun y H4 r δ5 B4 R4 ⟨z, δ4, er, e4, hn, hl, w⟩ => ?_
    subst er
    subst e4
    have eB : B4 = (p, .lst acc) :: B := R4.bx
    subst eB
    obtain ⟨ac, m1, m2⟩ := R4.s.loose _ List.mem_cons_self
    refine ⟨ac, m1, by rw [da_len m2]; exact Nat.lt_of_lt_of_le hl (by decide), ?_⟩
    have s5 := R4.s.writeL (u' := .lst (acc ++ [z])) (o' := .lst (ac ++ [y])) ⟨_, upd_same, da_app m2 (da_one R4.vr)⟩
    refine k _ δ4 _ w hn (s5.back hn) ?_
    have g := (g0.trans g3).trans R4.go
    rw [ow_no hn] at g
    exact g.trans (go_own (mem_ow.mpr (.inr ⟨_, List.mem_cons_self⟩)))
  | false =>
    rw [if_neg Bool.false_ne_true] at q ⊢
    obtain ⟨δ4, e4, hn, w⟩ := q
    subst e4
    refine k _ δ4 _ w hn (s3.back hn) ?_
    have g := g0.trans g3
    rw [ow_no hn] at g
    exact g
end
end Pl
set_option Elab.async false
set_option linter.all false
set_option maxRecDepth 100000
set_option maxHeartbeats 1000001
namespace Pl
open PySem L2 LamX NdefX PyProof.Rows GenW PySem.W PySem.Calls
theorem kc_def {X : Cx} {k : Nat} {f : Addr} {sp : Sp} (F : FnR X.prog X.w X.K X.mg X.base CX0 k f sp) : KeyCall X k (fun fa w H Q => fa = f ∧ sp [w] H Q E0) := by
  intro A' pins s σ H fa w u Q E hr hfr I rw' h
  obtain ⟨rfl, h⟩ := h
  have e0 : Env0 X.prog X.w X.K X.mg X.base A' X.stack s H := ⟨hfr, I.env0.mod, I.env0.bs, I.env0.bsz, I.env0.funs, I.env0.frf, I.env0.hok, I.env0.bare⟩
  refine wpAny_call (codeAny_mono (F A' X.stack s H [u] [w] Q E0 hr e0 (.cons rw' .nil) h) fun r s' hq => ?_)
  cases r with
  | error e => exact (show False from hq).elim
  | ok fl =>
    cases fl with
    | ret u => exact I.after hq
    | next => exact False.elim hq
    | brk => exact False.elim hq
    | cont => exact False.elim hq
section
variable {K : PySem.W.Frag} {T : List NTab} {w : World} {B B' B1 : Lo} {A A0 : List Addr} {H0 H H' : Hp} {σ : L2.St} {δ δ' : List Sl} {v : V} {r : R} {E : Es} {te ta tb tc ty tv : TE} {tt t1 t2 : TT} {ts t u : TS} {g : TG} {P : R → List Sl → Prop}
theorem ex_sortDef {f : Addr} {F : FS} (h : Ex K T te δ fun r δ1 => ∃ (ds : List D) (kd : D → D), AsD δ1 r (.list ds) ∧ immAll ds = true ∧ AllAlike (ds.map kd) ∧ Sortable (ds.map kd) ∧ (∀ d ∈ ds, (kd d).depth ≤ 60 ∧ imm (kd d) = true) ∧
      (∀ d ∈ ds, F [.val d] fun r _ => r = .val (kd d)) ∧ P (.new (.lst (ds.mergeSort (dataLe false kd)))) δ1) :
    Ex K T (tCKw (rSortKey K T (fun fa w H Q => fa = f ∧ spOf K T F [w] H Q E0)) (tCons te tNil) (tCons (tC (.ref f)) tNil)) δ P := fun B H σ s Q k =>
  h B H σ s _ fun v H1 r δ1 B1 R1 ⟨ds, kd, a, hi, hal, hk, hd, body, p⟩ => by
    obtain ⟨C, rfl⟩ := R1.bx.suf
    have hv := R1.vr.dp R1.s a
    have s1 := R1.s.dropAll
    have g1 := R1.go.less (ow_suf (C := C))
    refine ⟨v, f, ds, kd, rfl, rfl, hv, s1.tab, hal, hk, hd, fun d hd3 H3 g3 T3 w hw Q' kq => ?_, fun q ys H3 g3 T3 hq hq3 hy => ?_⟩
    · refine ⟨rfl, [], [], [.val d], _, List.nodup_nil, T3, ⟨dp_mono (fun a o q _ => dl_of q (by simp)) _ _ hw, trivial⟩, (fun q hq => by cases hq), body d hd3, fun y H4 r4 us T4 g4 af e => ?_⟩
      subst e
      exact kq y H4 g4 T4 (dp_full af.res)
    · have hiS := imm_sort (f := kd) hi
      have nq := s1.free hq
      have s3 : S K T ((q, .lst (ds.mergeSort (dataLe false kd))) :: B) H3 σ δ1 := s1.call g3 T3 (fun b m => by cases m) (fun b m => (List.mem_cons.mp (ow_loose.mem_iff.mp m)).elim (fun z => .inr (z ▸ hq)) .inl)
        (ow_loose.nodup_iff.mpr (List.nodup_cons.mpr ⟨nq, s1.nd⟩)) rfl (fun i x hx => .inl ⟨hx, fun _ _ _ m => by cases m⟩) fun x hx => (List.mem_cons.mp hx).elim (fun z => .inr (by rw [z]; exact ⟨hiS, ys, hq3, hy⟩)) fun z => .inl ⟨z, fun m => by cases m⟩
      refine k _ H3 (.new (.lst _)) δ1 _ ⟨s3, g1.trans ⟨fun b o e n t => g3.ext b o e (by simp) t, g3.dom, fun b m => ?_⟩, ⟨q, rfl, List.mem_cons_self⟩, ⟨q, rfl, rfl⟩⟩ p
      rcases List.mem_cons.mp (ow_loose.mem_iff.mp m) with z | z
      · exact .inr (z ▸ hq)
      · exact .inl z
theorem cb_max {ns : List Int} {m : Int} {P : R → Prop} (hm : m ∈ ns) (hle : ∀ y ∈ ns, y ≤ m) (p : P (.val (.int m))) : CbD K (rMax K) [.list (ns.map .int)] P := fun H vs Q h o => by
  obtain ⟨v, rfl, h1⟩ := da_1 h
  obtain ⟨a, xs, rfl, hs, ha⟩ := dp_l h1
  rw [da_ints ha] at hs
  refine ⟨a, ns, rfl, hs, List.length_pos_of_mem hm, fun n hn hmax => ?_⟩
  have e : n = m := Int.le_antisymm (hle n hn) (hmax m hm)
  subst e
  exact o.val _ _ (.int _) p
theorem ex_lcSW {i : Nat} (h : Ex K T te δ fun r δ1 => ∃ x : Str, r = .val (.str x) ∧ δ1[i]? = some .no ∧ ∃ W : Nat → List Sl → List D → Prop, W 0 δ1 [] ∧ (∀ k c δ2 acc, x.cps[k]? = some c → δ2[i]? = some .no → W k δ2 acc → TurnW K T i tt ta δ2 (.str ⟨#[c]⟩) acc (W (k + 1))) ∧ ∀ δ2 acc, W x.cps.size δ2 acc → P (.new (.lst acc)) δ2) :
    Ex K T (tLc (iStr te) (gName i) tt ta [i]) δ P := fun B H σ s Q k =>
  h B H σ s _ fun v H1 r δ1 B1 R1 ⟨x, f, hi, W, a0, turn, p⟩ => by
    subst f
    obtain ⟨s1, g1, hv⟩ := rs_fz R1 (d := .str x) rfl
    cases hv
    refine ⟨x, rfl, fun C hC => ?_⟩
    refine lc_it walk_str (fun m H2 => ∃ δ2 acc, S K T ((C, .lst acc) :: B) H2 σ δ2 ∧ Go (ow δ1 B) (ow δ2 ((C, .lst acc) :: B)) H1 H2 ∧ δ2[i]? = some .no ∧ W m δ2 acc) ⟨δ1, [], s1.owned hC ⟨_, upd_same, .nil⟩, go_new hC, hi, a0⟩ (fun _ _ _ _ => trivial) (fun m z H2 H3 _ ⟨δ2, acc, s2, g2, hn, w⟩ ⟨eH, c, ec, ez⟩ => ?_) fun H2 ⟨δ2, acc, s2, g2, hn, w⟩ => ?_
    · subst eH ez
      exact lc_turnW hn s2 (.str _) (turn m c δ2 acc ec hn w) fun H' δ4 acc' w' hn' s' g' => ⟨δ4, acc', s', g2.trans g', hn', w'⟩
    · exact k _ H2 (.new (.lst acc)) δ2 _ ⟨s2, g1.trans g2, ⟨C, rfl, List.mem_cons_self⟩, ⟨C, rfl, rfl⟩⟩ (p δ2 acc w)
/-- for c in s -/
theorem ss_forS (h : Ex K T te δ fun r δ1 => ∃ x : Str, r = .val (.str x) ∧ ∃ W : Nat → List Sl → Prop, W 0 δ1 ∧
      (∀ i c δ2, x.cps[i]? = some c → W i δ2 → Gt K T g (.str ⟨#[c]⟩) δ2 fun δ3 => Ss K T t δ3 ⟨W (i + 1), E.rt, E.nx, W (i + 1)⟩) ∧ ∀ δ2, W x.cps.size δ2 → E.nx δ2) : Ss K T (tFor (iStr te) g t) δ E := fun B H σ s D kn kr kb kc =>
  h B H σ s _ fun v H1 r δ1 B1 R1 ⟨x, f, W, w0, hs, hd⟩ => by
    subst f
    obtain ⟨s1, g1, hv⟩ := rs_fz R1 (d := .str x) rfl
    cases hv
    refine ⟨x, rfl, for_it walk_str (fun i σ2 H2 => ∃ δ2, S K T B H2 σ2 δ2 ∧ Go (ow δ B) (ow δ2 B) H H2 ∧ W i δ2) ⟨δ1, s1, g1, w0⟩
        (fun _ _ _ _ _ => trivial) (fun i z σ2 H2 H3 _ ⟨δ2, s2, g2, w2⟩ ⟨eH, c, ec, ez⟩ => ?_) (fun σ2 H2 ⟨δ2, s2, g2, w2⟩ => ?_)⟩
    · subst eH ez
      refine hs i c δ2 ec w2 B _ σ2 _ s2 (.str _) _ fun σ3 δ3 s3 g3 q => ?_
      exact q B _ σ3 s3 { D with nx := _, ct := _, bk := D.nx } (fun σ4 H4 δ4 s4 g4 n => ⟨δ4, s4, (g2.trans g3).trans g4, n⟩) (fun v σ4 H4 r δ4 B4 R4 n => kr v σ4 H4 r δ4 B4 (R4.pre (g2.trans g3)) n)
        (fun σ4 H4 δ4 s4 g4 n => kn σ4 H4 δ4 s4 ((g2.trans g3).trans g4) n) (fun σ4 H4 δ4 s4 g4 n => ⟨δ4, s4, (g2.trans g3).trans g4, n⟩)
    · exact kn σ2 H2 δ2 s2 g2 (hd δ2 w2)
end
end Pl
set_option Elab.async false
set_option linter.all false
set_option maxRecDepth 100000
set_option maxHeartbeats 1000001
namespace Pl
open PySem L2 LamX NdefX PyProof.Rows GenW PySem.W PySem.Calls
def tListVals (td : TE) : TE := fun σ H Q => td σ H fun x H1 => ∃ a kvs, x = .ref a ∧ H1 a = some (.dK kvs) ∧ ∀ q, H1 q = none → Q (.ref q) (upd H1 q (.lst (kvs.map (·.2))))
section
variable {X : Cx} {o e : Expr} {td te : TE} {p pos apos mpos : Pos}
theorem pe_listVals (hc : X.calm = true) (hg : Gl X "list") (hm : X.mg "list" = none) (hd : PE X o td) (hbase : attributeBase o "values" X.env (eval o X.env) = eval o X.env := by rfl) (hline : (apos.endLine == mpos.line) = true := by rfl)
    (hse : starEach [Expr.Call (.Attribute o "values" apos) [] [] mpos] X.env = (false, eval (Expr.Call (.Attribute o "values" apos) [] [] mpos) X.env) :: starEach [] X.env := by rfl) :
    PE X (.Call (.Name "list" p) [.Call (.Attribute o "values" apos) [] [] mpos] [] pos) (tListVals td) := by
  refine ⟨fun pins s σ H Q I h => ?_⟩
  refine Call_ (ld_blt I hg hm boot_list (PyProof.Rows.callWith_type1 (args_cons (wpAny_Call_method (T := "dict") (id := "dict.values") hbase rfl hline F.plainAttrs_dict F.slot_dict_values F.type_dict_values (thn (hd.run pins s σ H _ I h) fun v s1 ⟨x, H1, I1, r1, a, kvs, ex, ha, q⟩ => ?_)) hse) hse rfl))
  subst ex
  obtain rfl : v = Value.ref a := r1
  obtain ⟨hz, hsys, vs, rel, dof⟩ := (show ObjOk X.prog X.w H1 s1.heap a (.dK kvs) from I1.hok a _ ha)
  obtain ⟨ep, dat⟩ := dof.dictAt
  refine ⟨dof.typeIs, dof.mapOf.noDict, ?_⟩
  have k1 : ∀ b u, s1.heap.get? b = some u → (s1.heap.push { cls := .type "dict_values", data := .fields #[.ref a] }).get? b = some u := fun b u e => Heap.get?_push_of_some _ e
  have I2 : Inv X pins σ H1 { s1 with heap := s1.heap.push { cls := .type "dict_values", data := .fields #[.ref a] } } := I1.kept (t' := s1.toks) k1
  have hl : kvs.length = vs.length := Paired.length rel
  refine method_meetsIn F.slot_dict_values F.entry_dict_values rfl (PySem.evalArgs_none ⟨rfl, dof.typeIs, F.args_dict_values_1 _, _, meets_dict_values (mixKind X.prog X.w) a hsys, ⟨vs, dof⟩, args_nil ?_⟩)
  refine PySem.W.kdl_call (PySem.W.kdl_values (knd := mixKind X.prog X.w) (kvs := vs) (ep := ep) (d := a)) (I2.ok.hd hc) ⟨⟨_, Heap.get?_push_size _ rfl, rfl, rfl⟩, dat.keep k1⟩ (by rw [← hl]; exact hz) fun h' tk acc' c' hkeep hS hacc => ?_
  refine ⟨.ref (s1.heap.push { cls := .type "dict_values", data := .fields #[.ref a] }).objs.size, upd H1 (s1.heap.push { cls := .type "dict_values", data := .fields #[.ref a] }).objs.size (.lst (kvs.map (·.2))),
    I2.laid hkeep (Nat.le_refl _) (show ObjOk X.prog X.w _ _ _ (.lst (kvs.map (·.2))) from ⟨by rw [List.length_map]; exact hz, acc'.toList, c', ?_, by rw [Array.toArray_toList]; exact hS⟩), rfl, q _ (I2.hok.fresh (Nat.le_refl _))⟩
  have el : acc'.toList.length = acc'.size := by simp
  refine vals_of_at (by rw [List.length_map, el, hacc.1, hl]) fun j x u h1 h2 => ?_
  obtain ⟨k, hk⟩ := hacc.2 j u (by rw [← Array.getElem?_toList]; exact h2)
  obtain ⟨x', e1, e2⟩ := KV.at' rel hk
  rw [List.getElem?_map, e1] at h1
  cases h1
  exact e2
end
section
variable {K : PySem.W.Frag} {T : List NTab} {w : World} {B B' B1 : Lo} {A A0 : List Addr} {H0 H H' : Hp} {σ : L2.St} {δ δ' : List Sl} {v : V} {r : R} {E : Es} {te ta tb tc ty tv : TE} {tt t1 t2 : TT} {ts t u : TS} {g : TG} {P : R → List Sl → Prop}
theorem kv_vals {K : PySem.W.Frag} {H : Hp} {κ : Type} : ∀ {a : List (κ × V)} {b : List (κ × D)}, KvAll K H a b → DpAll K H (a.map (·.2)) (b.map (·.2))
  | [], [], _ => .nil
  | (_, _) :: _, (_, _) :: _, ⟨_, h2, h3⟩ => .cons h2 (kv_vals h3)
  | [], _ :: _, h => h.elim
  | _ :: _, [], h => h.elim
/-- list(d.values()), d a name's dict -/
theorem ex_listVals {i : Nat} (h : ∃ a kvs, δ[i]? = some (.own a (.dK kvs)) ∧ immAll (kvs.map (·.2)) = true ∧ P (.new (.lst (kvs.map (·.2)))) δ) : Ex K T (tListVals (tVar i)) δ P := fun B H σ s Q k => by
  obtain ⟨a, kvs, hi, him, p⟩ := h
  obtain ⟨q1, xs, q2, q3⟩ := s.hp hi
  refine ⟨.ref a, q1, a, xs, rfl, q2, fun q hq => ?_⟩
  exact (out_rs (P := P) s .refl k).lst q _ _ hq (da_mono dl_rk _ _ (kv_vals q3)) him p
end
end Pl
set_option Elab.async false
set_option linter.all false
set_option maxRecDepth 100000
set_option maxHeartbeats 1000001
namespace Pl
open PySem PySem.Spec PyProof.Rows RT
section
variable {prog : Program} {w : World} {A : Around} {E : Value → Shared → Prop} {s : Shared}
theorem init_rev {R : Result → Shared → Prop} {it l : Addr} {items : Array Value} (hh : A.handled = none) (S : Addr) (hSi : S ≠ it) (hSl : S ≠ l) (hit : s.heap.IsRevIter it l ((items.size : Int) - 1)) (hl : s.heap.IsList l items) (hne : l ≠ it) (hn : items.size ≤ sizeLine)
    (hS : s.heap.get? S = some { cls := .type "list", data := .seq #[] })
    (hR : ∀ (h' : Heap) (tk : Nat) (acc : Array Value) (c' : Nat), (∀ b o, b ≠ S → b ≠ it → s.heap.get? b = some o → h'.get? b = some o) → h'.get? S = some { cls := .type "list", dict := none, data := .seq acc c', slots := #[] } → ItemsOf (fun i v => items[items.size - 1 - i]? = some v) acc items.size → R (.ok (.ret .none)) { s with heap := h', toks := tk }) :
    wpAny (model prog w) A.in1 (Builtin.«list.__init__» ⟨[.ref S, .ref it], []⟩)
      (fun fin s' => match fin with | .done f => R (.ok f) s' | .again c' => c'.quiet = true ∧ codeAny (model prog w) A c' R s') (fun e s' => R (.error e) s') s := by
  have W := (Walks.listRev (prog := prog) (w := w) (A := A.in1) hh it l hne items).toS
  have hSf : S ∉ [it, l] := by simp only [List.mem_cons, List.not_mem_nil, or_false, not_or]; exact ⟨hSi, hSl⟩
  show wpAny _ A.in1 (do let old ← Builtin.List.listItems (.ref S); Builtin.List.listUpdate (.ref S) (fun _ => #[]); letGo old.toList.reverse; Builtin.List.listExtendWith (.ref S) (.ref it) .none) _ _ s
  refine wpAny_bind ?_
  unfold Builtin.List.listItems
  refine wpAny_bind (wpAny_seqItems hS rfl (wpAny_pure ?_))
  show wpAny _ A.in1 (updateSeq S (fun _ => #[]) >>= fun _ => letGo (#[] : Array Value).toList.reverse >>= fun _ => Builtin.List.listExtendWith (.ref S) (.ref it) .none) _ _ s
  refine wpAny_bind (wpAny_updateSeq hS rfl ?_)
  have hS₁ := Heap.get?_update_self (Obj.mapSeq (fun _ => (#[] : Array Value))) hS rfl
  have oth : ∀ b o, b ≠ S → s.heap.get? b = some o → (s.heap.update S (Obj.mapSeq (fun _ => (#[] : Array Value)))).get? b = some o :=
    fun b o hb e => (Heap.get?_update_other _ _ (Ne.symm hb)).trans e
  refine wpAny_bind (wpAny_letGo ?_)
  have hit1 : (s.heap.update S (Obj.mapSeq (fun _ => (#[] : Array Value)))).IsRevIter it l ((items.size : Int) - 1) := hit.at fun o e => oth it o hSi.symm e
  have hl1 : (s.heap.update S (Obj.mapSeq (fun _ => (#[] : Array Value)))).IsList l items := by
    obtain ⟨o, ho, x⟩ := hl
    exact ⟨o, oth l o hSl.symm ho, x⟩
  have hT : ({ s with heap := s.heap.update S (Obj.mapSeq (fun _ => (#[] : Array Value))) } : Shared).TypeIs (.ref it) "list_reverseiterator" := Heap.IsRevIter.typeIs (s := { s with heap := s.heap.update S (Obj.mapSeq (fun _ => (#[] : Array Value))) }) hit1
  have h1 : Builtin.List.listSameRef (.ref S) (.ref it) = false := by simp [Builtin.List.listSameRef, hSi]
  unfold Builtin.List.listExtendWith
  refine wpAny_bind (wpAny_typeOf hT ?_)
  rw [if_neg (by rw [h1]; decide)]
  refine wpAny_bind (wpAny_pyIter_revIter (s := { s with heap := s.heap.update S (Obj.mapSeq (fun _ => (#[] : Array Value))) }) hit1 ?_)
  refine wpAny_bind (wpAny_holding ?_)
  unfold Builtin.List.listLengthHint
  refine wpAny_bind (wpAny_specialOf hT nolen_lri ?_)
  show wpAny _ A.in1 (specialOf (Value.ref it) (Str.ofString "__length_hint__") >>= _) _ _ _
  refine wpAny_bind (wpAny_specialOf hT hint_lri ?_)
  generalize hid : ("list_reverseiterator.__length_hint__" : String) = id0
  wp_delta
  rw [show splitId id0 = some ("list_reverseiterator", "__length_hint__") from by subst hid; decide +kernel]
  subst hid
  refine wpAny_bind (wpAny_isInstance (b := true) hT (by rw [isSubtype_type]; kernel_rfl) ?_)
  refine wpAny_pure ?_
  rw [if_neg (by decide)]
  have e0 : ((items.size : Nat) : Int) - 1 - ((0 : Nat) : Int) = (items.size : Int) - 1 := by omega
  refine wpAny_pure ⟨plainId_quiet F.plain_extend_loop _, codeAny_extend_loopS W hn _ hSf _ items.size 0 _ _ _ rfl (Nat.zero_le _) ⟨Nat.zero_le _, by rw [e0]; exact hit1, hl1⟩ hS₁ (ItemsOf.nil _) fun s' acc' c' hm hS' hacc => ?_⟩
  rw [Moved.eq_with hm]
  refine hR s'.heap s'.toks acc' c' (fun b o hb hb2 e => hm.heap b o (fun hmem => ?_) (oth b o hb e)) hS' hacc
  rcases List.mem_cons.mp hmem with e' | hmem
  · exact hb e'
  · exact hb2 (List.mem_singleton.mp hmem)
theorem call_list_rev {it l : Addr} {items : Array Value} {Q : Value → Shared → Prop} (hh : A.handled = none) (hit : s.heap.IsRevIter it l ((items.size : Int) - 1)) (hl : s.heap.IsList l items) (hne : l ≠ it) (hn : items.size ≤ sizeLine)
    (hQ : ∀ (h' : Heap) (tk : Nat) (acc : Array Value) (c' : Nat), (∀ b o, b ≠ it → s.heap.get? b = some o → h'.get? b = some o) → h'.get? s.heap.objs.size = some { cls := .type "list", dict := none, data := .seq acc c', slots := #[] } → ItemsOf (fun i v => items[items.size - 1 - i]? = some v) acc items.size →
      Q (.ref s.heap.objs.size) { s with heap := h', toks := tk }) :
    wpAny (model prog w) A (call (.type "list") [.ref it]) Q E s := by
  obtain ⟨oi, hoi, _⟩ := id hit
  obtain ⟨ol, hol, _⟩ := id hl
  have hSi : s.heap.objs.size ≠ it := Nat.ne_of_gt (Heap.lt_size hoi)
  have hSl : s.heap.objs.size ≠ l := Nat.ne_of_gt (Heap.lt_size hol)
  refine callType_codes (Q₁ := fun obj s₁ => obj = .ref s.heap.objs.size ∧ s₁ = { s with heap := s.heap.push { cls := .type "list", data := .seq #[] } }) F.called_list (F.typeCall_list_1 _) F.entry_list_init
    (code_list_new _ ⟨rfl, rfl⟩) fun obj s₁ h₁ => ?_
  obtain ⟨rfl, rfl⟩ := h₁
  have hS : (s.heap.push { cls := .type "list", data := .seq #[] }).get? s.heap.objs.size = some { cls := .type "list", data := .seq #[] } := Heap.get?_push_size _ rfl
  refine ⟨⟨_, hS, rfl⟩, F.args_list_init_2 _ _, init_rev (A := A.in1) (s := { s with heap := s.heap.push { cls := .type "list", data := .seq #[] } }) hh _ hSi hSl (hit.at fun o e => Heap.get?_push_of_some _ e) (hl.push _) hne hn hS fun h' tk acc c' hk hS' hacc => ?_⟩
  exact ⟨rfl, hQ h' tk acc c' (fun b o hb e => hk b o (Nat.ne_of_lt (Heap.lt_size e)) hb (Heap.get?_push_of_some _ e)) hS' hacc⟩
end
end Pl
namespace Pl
open PySem L2 LamX NdefX PyProof.Rows GenW PySem.W PySem.Calls
def tListRev (K : PySem.W.Frag) (te : TE) : TE := fun σ H Q => te σ H fun v H1 => ∃ (a : Addr) (xs : List V), v = .ref a ∧ SqL K H1 a xs ∧ ∀ q, H1 q = none → Q (.ref q) (upd H1 q (.lst xs.reverse))
section
variable {X : Cx}
theorem pe_listRev {K0 : PySem.W.Frag} {e : Expr} {te : TE} {p p2 pos pos2 : Pos} (hc : X.calm = true) (hg : Gl X "list") (hm : X.mg "list" = none) (hg2 : Gl X "reversed") (hm2 : X.mg "reversed" = none) (he : PE X e te) (ek : X.K = K0 := by rfl)
    (hs : starEach [e] X.env = (false, eval e X.env) :: starEach [] X.env := by rfl)
    (hs2 : starEach [.Call (.Name "reversed" p2) [e] [] pos2] X.env = (false, eval (.Call (.Name "reversed" p2) [e] [] pos2) X.env) :: starEach [] X.env := by rfl) :
    PE X (.Call (.Name "list" p) [.Call (.Name "reversed" p2) [e] [] pos2] [] pos) (tListRev K0 te) := by
  subst ek
  refine ⟨fun pins s σ H Q I h => ?_⟩
  refine Call_ (ld_blt I hg hm boot_list (PyProof.Rows.callWith_type1 (args_cons (Call_ (ld_blt I hg2 hm2 PyProof.Rows.boot_reversed (PyProof.Rows.callWith_type1 (args_cons (thn (he.run pins s σ H _ I h) fun u s1 ⟨v, H1, I1, r1, q1⟩ => args_nil ?_) hs) hs rfl))) hs2) hs2 rfl))
  obtain ⟨a, xs, ev, hq, q⟩ := q1
  subst ev
  obtain rfl : u = Value.ref a := r1
  obtain ⟨its, rv, p', hz⟩ := I1.list hq
  refine call_reversed_list p'.isList (args_nil ?_)
  have k0 : ∀ b o, s1.heap.get? b = some o → (s1.heap.push (revObj a ((its.toArray.size : Int) - 1))).get? b = some o := fun b o e => Heap.get?_push_of_some _ e
  have I2 : Inv X pins σ H1 { s1 with heap := s1.heap.push (revObj a ((its.toArray.size : Int) - 1)) } := I1.kept (t' := s1.toks) k0
  obtain ⟨f0, f1, f2, f3, f4, f5⟩ := I1.fpOk (H' := H1) (b := s1.heap.objs.size) (Nat.le_refl _) (I1.hok.fresh (Nat.le_refl _))
  have hl := p'.isList
  obtain ⟨ol, hol, _⟩ := id hl
  have hne : a ≠ s1.heap.objs.size := Nat.ne_of_lt (Heap.lt_size hol)
  have hn : its.toArray.size ≤ sizeLine := by rw [List.size_toArray, ← rv.length]; exact hz
  refine call_list_rev (s := { s1 with heap := s1.heap.push (revObj a ((its.toArray.size : Int) - 1)) }) (I1.ok.hd hc) ⟨_, Heap.get?_push_size _ rfl, rfl, rfl⟩ (hl.push _) hne hn fun h' tk acc c' hk hS hi => ?_
  have hsz : (s1.heap.push (revObj a ((its.toArray.size : Int) - 1))).objs.size = s1.heap.objs.size + 1 := Heap.size_push _ _
  have hle : s1.heap.objs.size ≤ (s1.heap.push (revObj a ((its.toArray.size : Int) - 1))).objs.size := by rw [hsz]; exact Nat.le_succ _
  have hl2 : xs.length = its.length := rv.length
  refine ⟨.ref (s1.heap.push (revObj a ((its.toArray.size : Int) - 1))).objs.size, upd H1 (s1.heap.push (revObj a ((its.toArray.size : Int) - 1))).objs.size (.lst xs.reverse),
    I1.laid (t' := tk) (fun b u e => hk b u (Nat.ne_of_lt (Heap.lt_size e)) (k0 b u e)) hle (show ObjOk X.prog X.w _ _ _ (.lst xs.reverse) from ⟨by rw [List.length_reverse]; exact hz, acc.toList, c', RT.vals_rev rv hi, by rw [Array.toArray_toList]; exact hS⟩), rfl, q _ (I1.hok.fresh hle)⟩
end
section
variable {K : PySem.W.Frag} {T : List NTab} {w : World} {B B' B1 : Lo} {A A0 : List Addr} {H0 H H' : Hp} {σ : L2.St} {δ δ' : List Sl} {v : V} {r : R} {E : Es} {te ta tb tc ty tv : TE} {tt t1 t2 : TT} {ts t u : TS} {g : TG} {P : R → List Sl → Prop}
theorem ex_listRev (h : Ex K T te δ fun r δ1 => ∃ ds, AsD δ1 r (.list ds) ∧ immAll ds = true ∧ P (.new (.lst ds.reverse)) δ1) : Ex K T (tListRev K te) δ P := fun B H σ s Q k =>
  h B H σ s _ fun v H1 r δ1 B1 R1 ⟨ds, a, hi, p⟩ => by
    obtain ⟨C, rfl⟩ := R1.bx.suf
    obtain ⟨b, xs, rfl, hs, ha⟩ := dp_l (R1.vr.dp R1.s a)
    exact ⟨b, xs, rfl, hs, fun q hq => (out_suf (P := P) R1.s R1.go k).lst q _ _ hq (da_rev ha) (imm_rev hi) p⟩
end
end Pl
set_option Elab.async false
set_option linter.all false
set_option maxRecDepth 100000
set_option maxHeartbeats 1000001
namespace Pl
open PySem L2 LamX NdefX PyProof.Rows GenW PySem.W PySem.Calls
/-- the promise of f( *r ): its body's, of the one tuple -/
def spV (nmax : Nat) (sp : Sp) : Sp := fun vs H Q E => vs.length ≤ nmax ∧ ∀ p, H p = none → sp [.ref p] (upd H p (.tup vs)) Q E
theorem fn_ofV0 {CX : CXT} (hCX : CXNew CX) {P : Program} {w : World} {K : PySem.W.Frag} {mg : Str → Option Value} {base : Heap} {k : Nat} {f : Addr} {name qual : Str} {params : Arguments} {body : List Stmt} {scope : Scope} {dV kV doc pm cdv ct oc : Value} {an od : Option Addr}
    {osl : Array (Option Value)} {N : List Str} {pv : Str} {nmax : Nat} {sp : Sp} (lk : K.lookup f = some ⟨oc, od, .func (PySem.W.fnOf name qual params body scope dV kV doc pm an cdv ct), osl⟩) (hcd : PySem.W.codeIn K cdv qual = true) (S : FnScope N [pv] scope)
    (hz : nmax ≤ sizeLine) (hb : ∀ (rest : List Value), rest.length ≤ nmax → bindArgs (PySem.W.fnOf name qual params body scope dV kV doc pm an cdv ct) ⟨rest, []⟩ = (newTuple rest >>= fun t => pure [(pv, t)]))
    (hbody : ∀ (A : Around) (outer : List Env) (s : Shared) (H : Hp) (vs : List V) (Q : VK) (E : XK), Room k (A.deeper (envOfC qual scope s.heap.objs.size f cdv)) → sp vs H Q E →
      ∃ t, PSs (cxOf CX P w K mg base N qual scope f cdv A outer s H E) body t ∧ t { nx := fun _ H' => Q .non H', rt := Q } (start N vs) H) :
    FnR P w K mg base CX (k + 1) f (spV nmax sp) := by
  intro A outer s H us rest Q E hr e0 rr hsp
  obtain ⟨hl, hq⟩ := hsp
  have hl' : us.length ≤ nmax := by rw [← rr.length]; exact hl
  have KX : K.In s.heap := e0.mod.kin.keeps fun b o e => (e0.bs b o e).1
  have hn : H s.heap.objs.size = none := e0.hok.fresh (Nat.le_refl _)
  have hp := hq s.heap.objs.size hn
  have kp : ∀ b o, s.heap.get? b = some o → (s.heap.push ({ cls := .type "tuple", data := .seq us.toArray } : Obj)).get? b = some o := fun b o e => Heap.get?_push_of_some _ e
  have new : ObjOk P w (upd H s.heap.objs.size (.tup rest)) (s.heap.push ({ cls := .type "tuple", data := .seq us.toArray } : Obj)) s.heap.objs.size (.tup rest) :=
    ⟨Nat.le_trans hl hz, us, rr, ⟨_, Heap.get?_push_size _ rfl, rfl, _, rfl⟩⟩
  have hok2 := e0.hok.laid kp (Nat.le_refl _) new
  have un : Un (frs outer) [] H (upd H s.heap.objs.size (.tup rest)) s.heap (s.heap.push ({ cls := .type "tuple", data := .seq us.toArray } : Obj)) := Un.laid kp (Nat.le_refl _) hn
  have e2 : Env0 P w K mg base A outer { s with heap := s.heap.push ({ cls := .type "tuple", data := .seq us.toArray } : Obj) } (upd H s.heap.objs.size (.tup rest)) := by
    refine ⟨e0.frames, e0.mod, fun b o e => ⟨kp b o (e0.bs b o e).1, ?_⟩, ?_, Heap.FunFrames.of_keeps (fun b o e _ => ⟨o, kp b o e, rfl⟩) e0.funs, fun b hb' => ?_, hok2, e0.bare⟩
    · rw [upd_ne (Nat.ne_of_lt (Heap.lt_size (e0.bs b o e).1))]
      exact (e0.bs b o e).2
    · show base.objs.size ≤ (s.heap.push _).objs.size
      rw [Heap.size_push]
      exact Nat.le_succ_of_le e0.bsz
    · obtain ⟨_, o, ho, _⟩ := e0.funs.mem hb'
      rw [upd_ne (Nat.ne_of_lt (Heap.lt_size ho))]
      exact e0.frf b hb'
  have lim : (s.heap.push ({ cls := .type "tuple", data := .seq us.toArray } : Obj)).NoLimit := e0.mod.nolimit.keeps fun b o e => (e2.bs b o e).1
  have hkind : ∀ y ∈ [pv].zip [Value.ref s.heap.objs.size], scope.names.lookup y.1 = some .local ∨
      (scope.names.lookup y.1 = some .cell ∧ ((cellsFrom ((s.heap.push ({ cls := .type "tuple", data := .seq us.toArray } : Obj)).objs.size + 1) scope.names []).lookup y.1).isSome = true) := fun y hy => by
    rcases S.par y.1 (List.of_mem_zip hy).1 with q | q
    · exact .inl q
    · exact .inr ⟨q, PySem.W.cellsFrom_some _ _ _ (.inl q)⟩
  refine codeAny_call_function hr.depth (KX _ _ lk) rfl S.co S.gen rfl (PySem.W.codeRec_of KX hcd) ?_
  rw [hb us hl']
  refine wpAny_bind (wpAny_newTuple (wpAny_pure ?_) (Nat.le_trans hl' hz))
  refine wpAny_newFunctionEnv_cells (s := { s with heap := s.heap.push ({ cls := .type "tuple", data := .seq us.toArray } : Obj) }) S.kind hkind fun env he s1 x => ?_
  subst he
  refine ⟨lim.keeps x.toInCall.keep, codeAny_func ?_⟩
  obtain ⟨t, ht, hq'⟩ := hbody A outer { s with heap := s.heap.push ({ cls := .type "tuple", data := .seq us.toArray } : Obj) } (upd H s.heap.objs.size (.tup rest)) [.ref s.heap.objs.size] Q E (hr.deeper _) hp
  have r2 : Vals [V.ref s.heap.objs.size] [Value.ref s.heap.objs.size] := .cons rfl .nil
  have I : Inv (cxOf CX P w K mg base N qual scope f cdv A outer { s with heap := s.heap.push ({ cls := .type "tuple", data := .seq us.toArray } : Obj) } (upd H s.heap.objs.size (.tup rest)) E) [] (start N [.ref s.heap.objs.size]) (upd H s.heap.objs.size (.tup rest)) s1 :=
    inv_start S hr.hd e2 rfl r2 x
  refine wpAny_mono (ht.run [] s1 _ _ _ I hq') (fun fl s' hs => ?_) fun e s' hs => ?_
  · have fin : ∀ {σ' : L2.St} {H' : Hp} {v' : V} {u' : Value}, Inv (cxOf CX P w K mg base N qual scope f cdv A outer { s with heap := s.heap.push ({ cls := .type "tuple", data := .seq us.toArray } : Obj) } (upd H s.heap.objs.size (.tup rest)) E) [] σ' H' s' → RelV v' u' → Q v' H' →
        CE outer P w H s Q u' s' := fun {σ' H' v' u'} J rv' q => ⟨v', H', J.os, J.bare, un.trans J.base, J.hok, rv', q⟩
    cases fl with
    | ret u' =>
      obtain ⟨v', σ', H', J, rv', q⟩ := hs
      exact fin J rv' q
    | next =>
      obtain ⟨σ', H', J, q⟩ := hs
      exact fin (v' := V.non) (u' := Value.none) J rfl q
    | brk =>
      obtain ⟨_, _, _, q⟩ := hs
      exact False.elim q
    | cont =>
      obtain ⟨_, _, _, q⟩ := hs
      exact False.elim q
  · exact wpAny_mono hs (fun _ s'' z => hCX outer s H _ _ rest E e s'' kp (Nat.le_refl _) hn z) fun e' s'' z => hCX outer s H _ _ rest E e' s'' kp (Nat.le_refl _) hn z
section
variable {K : PySem.W.Frag} {T : List NTab} {B B' B1 : Lo} {A A0 : List Addr} {H0 H H' : Hp} {σ : L2.St} {δ δ' : List Sl} {v : V} {r : R} {P : R → List Sl → Prop}
/-- f(a, b, ..) of data; what comes back holds no list -/
theorem ex_callV {F : FS} {nmax : Nat} {ta : TA} {X : XK} (h : ExA K T ta δ fun rs δ1 => ∃ ds, Vals0 rs ds ∧ ds.length ≤ nmax ∧ F [.val (.tuple ds)] fun r us => RImm r us ∧ P r δ1) : Ex K T (tCall (spV nmax (spOf K T F)) [] X ta) δ P := fun B H σ s Q k =>
  h B H σ s _ fun vs H1 rs δ1 B1 R1 ⟨ds, a, hl, f⟩ => by
    obtain rfl := vals0_bx R1.bx a
    have hd := vals0_dp R1.vr a
    show spV nmax (spOf K T F) (vs ++ []) H1 Q X
    rw [List.append_nil]
    refine ⟨by rw [da_len hd]; exact hl, fun p hp => ?_⟩
    have s1 := R1.s.laid (o := .tup vs) hp
    have g1 : Go (ow δ1 B1) (ow δ1 B1) H1 (upd H1 p (.tup vs)) := go_upd hp
    have g2 := R1.go.trans g1
    have dp : Dp K (dl (upd H1 p (.tup vs)) []) (.ref p) (.tuple ds) := .tup (.inl (.inl (dl_of upd_same (by simp)))) (da_mono (dl_less fun a m => by cases m) _ _ (da_mono g1.rk _ _ hd))
    exact ⟨[], [], [.val (.tuple ds)], _, List.nodup_nil, s1.tab, ⟨dp, trivial⟩, (fun q hq => by cases hq), f, fun v H' r us hT g af p => rs_call (is := []) s1 g2 List.nodup_nil (fun i m => by cases m) hT g af p.1 k p.2⟩
end
section
variable {X : Cx} {K : PySem.W.Frag} {mg : Str → Option Value} {x z : Str} {zs : List Str} {i : Int} {p : Pos}
theorem pe_kT (h : (Kc.tup x zs).ok K X.mg) (hg : Gl X x) (hd : (x == ("__debug__" : Str)) = false := by decide) : PE X (.Name x p) (tC (.ref (He.ga K x))) := pe_glob hg h.1 rfl hd
theorem pe_kS (h : (Kc.str x z).ok K X.mg) (hg : Gl X x) (hd : (x == ("__debug__" : Str)) = false := by decide) : PE X (.Name x p) (tC (.str z)) := by
  obtain ⟨t, h⟩ := h
  exact pe_glob hg h ⟨t, rfl⟩ hd
theorem pe_kI (h : (Kc.int x i).ok K X.mg) (hg : Gl X x) (hd : (x == ("__debug__" : Str)) = false := by decide) : PE X (.Name x p) (tC (.int i)) := by
  obtain ⟨t, h⟩ := h
  exact pe_glob hg h ⟨t, rfl⟩ hd
end
section
variable {K : PySem.W.Frag} {T : List NTab} {δ : List Sl} {P : R → List Sl → Prop} {mg : Str → Option Value} {x : Str} {zs : List Str}
theorem ex_kT (h : (Kc.tup x zs).ok K mg) (p : P (.val (.tuple (zs.map .str))) δ) : Ex K T (tC (.ref (He.ga K x))) δ P := ex_c h.2 p
end
theorem Ok.fnR {P : Program} {w : World} {K : PySem.W.Frag} {mg : Str → Option Value} {base : Heap} {k : Nat} {x : Str} {ps : List Str} {sp : Sp} (h : Ok P w K mg base k x ps sp) : FnR P w K mg base CX0 k (He.ga K x) sp := by
  obtain ⟨fd, _, h1, h2, h3, h4⟩ := h
  exact (h1.raw h4 .nil).imp fun vs H Q E q => by rw [List.append_nil]; exact q
theorem pe_fn {X : Cx} {k : Nat} {x : Str} {ps : List Str} {sp : Sp} {p : Pos} (h : Ok X.prog X.w X.K X.mg X.base k x ps sp) (hg : Gl X x) (hd : (x == ("__debug__" : Str)) = false := by decide) : PE X (.Name x p) (tC (.ref (He.ga X.K x))) := by
  obtain ⟨fd, _, h1, h2, h3, h4⟩ := h
  exact pe_glob hg h2 rfl hd
end Pl
set_option Elab.async false
set_option linter.all false
set_option maxRecDepth 100000
set_option maxHeartbeats 1000001
namespace Pl
open PySem L2 LamX NdefX PyProof.Rows GenW PySem.W PySem.Calls
section
variable {K : PySem.W.Frag} {T : List NTab} {w : World} {B B' B1 : Lo} {A A0 : List Addr} {H0 H H' : Hp} {σ : L2.St} {δ δ' : List Sl} {v : V} {r : R} {E : Es} {te ta tb tc ty tv : TE} {tt t1 t2 : TT} {ts t u : TS} {g : TG} {P : R → List Sl → Prop}
/-- a name's list, from here on data -/
theorem ex_frzB {i : Nat} (h : ∃ a ds, δ[i]? = some (.own a (.lst ds)) ∧ P (.val (.list ds)) (δ.set i (.val (.list ds)))) : Ex K T (tVar i) δ P := fun B H σ s Q k => by
  obtain ⟨a, ds, hi, p⟩ := h
  have s1 := s.frzAt hi
  have hl : i < δ.length := (List.getElem?_eq_some_iff.mp hi).1
  obtain ⟨v, q1, q2⟩ := s1.ok i _ (List.getElem?_set_self hl)
  have sub : (ow (δ.set i (.val (.list ds))) B).Sublist (ow δ B) := ow_sub rfl
  exact ⟨v, q1, k v H (.val (.list ds)) _ B ⟨s1, Go.refl.less fun a m => sub.subset m, q2, rfl⟩ p⟩
theorem cb_abs {i : Int} {P : R → Prop} (p : P (.val (.int i.natAbs))) : CbD K (fun xs H Q => ∃ i, xs = [.int i] ∧ Q (.int (if i < 0 then -i else i)) H) [.int i] P := fun H vs Q h o => by
  obtain ⟨v, rfl, h1⟩ := da_1 h
  cases h1
  refine ⟨i, rfl, ?_⟩
  have e : (if i < 0 then -i else i) = (i.natAbs : Int) := by split <;> omega
  rw [e]
  exact o.val _ _ (.int _) p
end
theorem turnW_yes {K : PySem.W.Frag} {T : List NTab} {i : Nat} {te : TE} {δ : List Sl} {d : D} {acc : List D} {W : List Sl → List D → Prop} (h : Ex K T te (δ.set i (.val d)) fun r δ3 => ∃ z δ4, r = .val z ∧ δ3 = δ4.set i (.val d) ∧ δ4[i]? = some .no ∧ acc.length < 100000 ∧ W δ4 (acc ++ [z])) :
    TurnW K T i tYes te δ d acc W := fun B H σ s Q q => q true H _ s .refl (by
  show if true = true then _ else _
  rw [if_pos rfl]
  exact h)
def rCatS (K : PySem.W.Frag) : R2 := fun x y H Q => ∃ a b xs zs, x = .ref a ∧ y = .ref b ∧ SqL K H a xs ∧ SqL K H b zs ∧ xs.length + zs.length ≤ sizeLine ∧ ∀ p, H p = none → Q (.ref p) (upd H p (.lst (xs ++ zs)))
theorem op_catS {X : Cx} : OpR X (binaryOp .Add) (rCatS X.K) := by
  intro pins s σ H x y v u Q I rx ry h
  obtain ⟨l, b, xs, zs, rfl, rfl, hH, hB, hz, q⟩ := h
  cases rx
  cases ry
  obtain ⟨its, r, hl, z1⟩ := I.list hH
  obtain ⟨its2, r2, hb, z2⟩ := I.list hB
  obtain ⟨⟨cls, dd, data, sl⟩, ho, hc, n, hd⟩ := hl.isList
  obtain ⟨⟨cls2, dd2, data2, sl2⟩, ho2, hc2, n2, hd2⟩ := hb.isList
  simp only at hc hd hc2 hd2
  subst hc hd hc2 hd2
  have e : its.toArray ++ its2.toArray = (its ++ its2).toArray := by simp
  refine concat_meets ⟨_, ho, rfl⟩ ⟨_, ho2, rfl⟩ noFill_list_add seq_list_add PySem.F.slot_list_add PySem.F.entry_list_add (PySem.F.args_list_add_2 _ _) (list_addW l b its.toArray its2.toArray n n2 dd dd2 sl sl2 (by rw [List.size_toArray, List.size_toArray, ← r.length, ← r2.length]; exact hz)) ⟨ho, ho2, ?_⟩
  rw [e]
  exact ⟨.ref _, _, I.lnew (t' := s.toks) (r.append r2) (by rw [List.length_append]; omega), rfl, q _ I.fresh⟩
section
variable {K : PySem.W.Frag}
theorem imm_app {ds es : List D} (h1 : immAll ds = true) (h2 : immAll es = true) : immAll (ds ++ es) = true := immAll_mem.mpr fun d m => (List.mem_append.mp m).elim (immAll_mem.mp h1 d) (immAll_mem.mp h2 d)
theorem opd_catL {ds es : List D} {P : R → Prop} (hi : immAll ds = true) (hj : immAll es = true) (hl : ds.length + es.length ≤ 100000) (p : P (.new (.lst (ds ++ es)))) : OpD K (rCatS K) (.list ds) (.list es) P := fun H v w Q h1 h2 o => by
  obtain ⟨a, xs, rfl, hs, ha⟩ := dp_l h1
  obtain ⟨b, ys, rfl, hs2, ha2⟩ := dp_l h2
  exact ⟨a, b, xs, ys, rfl, rfl, hs, hs2, by rw [da_len ha, da_len ha2]; exact Nat.le_trans hl (by decide), fun q hq => o.lst q _ _ hq (da_app ha ha2) (imm_app hi hj) p⟩
end
end Pl
set_option Elab.async false
set_option linter.all false
set_option maxRecDepth 100000
set_option maxHeartbeats 1000001
namespace Pl
open PySem L2 LamX NdefX PyProof.Rows GenW PySem.W PySem.Calls
theorem iteT {b : Prop} [Decidable b] {P Q : Prop} (h : b) (p : P) : if b then P else Q := by rw [if_pos h]; exact p
theorem iteF {b : Prop} [Decidable b] {P Q : Prop} (h : ¬ b) (q : Q) : if b then P else Q := by rw [if_neg h]; exact q
theorem iteC {b : Prop} [Decidable b] {P Q : Prop} (p : b → P) (q : ¬ b → Q) : if b then P else Q := by
  by_cases h : b
  · rw [if_pos h]; exact p h
  · rw [if_neg h]; exact q h
/-- a test by what it decides -/
theorem iteD {c : Prop} [Decidable c] {P Q : Prop} (p : c → P) (q : ¬ c → Q) : if decide c = true then P else Q := iteC (fun h => p (of_decide_eq_true h)) (fun h => q (of_decide_eq_false (Bool.eq_false_iff.mpr h)))
theorem iteN {c : Prop} [Decidable c] {P Q : Prop} (p : ¬ c → P) (q : c → Q) : if (!decide c) = true then P else Q := by
  by_cases h : c
  · rw [decide_eq_true h]; exact q h
  · rw [decide_eq_false h]; exact p h
theorem iteB {b : Bool} {P Q : Prop} (p : b = true → P) (q : b = false → Q) : if b = true then P else Q := by
  cases b
  · exact q rfl
  · exact p rfl
section
variable {K : PySem.W.Frag} {T : List NTab} {δ δ' : List Sl} {te ta tb tv ty : TE} {tt t1 t2 : TT} {ts t u : TS} {g : TG} {P : R → List Sl → Prop} {nx bk ct : List Sl → Prop} {rt : R → List Sl → Prop}
theorem go_seq (h : Ss K T t δ ⟨fun δ1 => Ss K T u δ1 ⟨nx, rt, bk, ct⟩, rt, bk, ct⟩) : Ss K T (tSeq t u) δ ⟨nx, rt, bk, ct⟩ := ss_seq h
/-- what holds in between -/
theorem go_cut (N : List Sl → Prop) (h : Ss K T t δ ⟨N, rt, bk, ct⟩) (k : ∀ δ', N δ' → Ss K T u δ' ⟨nx, rt, bk, ct⟩) : Ss K T (tSeq t u) δ ⟨nx, rt, bk, ct⟩ := ss_seq (h.imp k (fun _ _ q => q) (fun _ q => q) (fun _ q => q))
theorem go_next (h : nx δ) : Ss K T tNext δ ⟨nx, rt, bk, ct⟩ := ss_next h
theorem go_break (h : bk δ) : Ss K T tBreak δ ⟨nx, rt, bk, ct⟩ := ss_break h
theorem go_cont (h : ct δ) : Ss K T tCont δ ⟨nx, rt, bk, ct⟩ := ss_cont h
theorem go_set {i : Nat} (h : Ex K T te δ fun r δ1 => StoreR i δ1 nx r) : Ss K T (tAsg te (gName i)) δ ⟨nx, rt, bk, ct⟩ := ss_set h
theorem go_ret (h : Ex K T te δ rt) : Ss K T (tRet te) δ ⟨nx, rt, bk, ct⟩ := ss_ret h
theorem go_retN (h : rt (.val .none) δ) : Ss K T tRetN δ ⟨nx, rt, bk, ct⟩ := ss_retN h
theorem go_drop (h : Ex K T te δ fun _ δ1 => nx δ1) : Ss K T (tDrop te) δ ⟨nx, rt, bk, ct⟩ := ss_drop h
theorem go_if (h : ExT K T tt δ fun b δ1 => if b = true then Ss K T t δ1 ⟨nx, rt, bk, ct⟩ else Ss K T u δ1 ⟨nx, rt, bk, ct⟩) : Ss K T (tIfS tt t u) δ ⟨nx, rt, bk, ct⟩ := ss_if h
theorem go_setL {i : Nat} {ti : TE} (h : Ex K T te δ fun r δ1 => ∃ d, r = .val d ∧ (∃ a u, δ1[i]? = some (.own a u)) ∧ Ex K T ti δ1 fun r2 δ2 => ∃ (j : Int) (k : Nat) (a : Addr) (ds : List D), r2 = .val (.int j) ∧ δ2[i]? = some (.own a (.lst ds)) ∧ ixN ds.length j = some k ∧ nx (δ2.set i (.own a (.lst (ds.set k d))))) :
    Ss K T (tAsg te (gSub (tVar i) ti rSetL)) δ ⟨nx, rt, bk, ct⟩ := ss_setL h
/-- a loop over a tuple: W turns-done slots -/
theorem go_forT (ds : List D) (W : Nat → List Sl → Prop) {i : Nat} (h : Ex K T te δ fun r δ1 => r = .val (.tuple ds) ∧ W 0 δ1)
    (s : ∀ k d δ2, ds[k]? = some d → W k δ2 → Ss K T t (δ2.set i (.val d)) ⟨W (k + 1), rt, nx, W (k + 1)⟩) (e : ∀ δ2, W ds.length δ2 → nx δ2) : Ss K T (tFor (iTup K te) (gName i) t) δ ⟨nx, rt, bk, ct⟩ :=
  ss_forT (h.imp fun r δ1 ⟨e1, w⟩ => ⟨ds, e1, W, w, fun k d δ2 hk w => gt_name (s k d δ2 hk w), e⟩)
theorem go_forL (ds : List D) (W : Nat → List Sl → Prop) {i : Nat} (h : Ex K T te δ fun r δ1 => Fz r (.list ds) ∧ W 0 δ1)
    (s : ∀ k d δ2, ds[k]? = some d → W k δ2 → Ss K T t (δ2.set i (.val d)) ⟨W (k + 1), rt, nx, W (k + 1)⟩) (e : ∀ δ2, W ds.length δ2 → nx δ2) : Ss K T (tFor (iList K te) (gName i) t) δ ⟨nx, rt, bk, ct⟩ :=
  ss_forL (h.imp fun r δ1 ⟨e1, w⟩ => ⟨ds, e1, W, w, fun k d δ2 hk w => gt_name (s k d δ2 hk w), e⟩)
theorem go_forR (n : Nat) (W : Nat → List Sl → Prop) {ta : TA} {i : Nat} (hn : n ≤ 1000000) (h : ExA K T ta δ fun rs δ1 => rs = [.val (.int n)] ∧ W 0 δ1)
    (s : ∀ k δ2, k < n → W k δ2 → Ss K T t (δ2.set i (.val (.int k))) ⟨W (k + 1), rt, nx, W (k + 1)⟩) (e : ∀ δ2, W n δ2 → nx δ2) : Ss K T (tFor (iRng1 ta) (gName i) t) δ ⟨nx, rt, bk, ct⟩ :=
  ss_forR fun B H σ S1 Q k => h B H σ S1 Q fun vs H1 rs δ1 B1 R1 ⟨e1, w⟩ => k vs H1 rs δ1 B1 R1 ⟨n, e1, by omega, by omega, W, w, fun k δ2 hk w => s k δ2 (by omega) w, fun δ2 w => e δ2 (by rw [Int.toNat_natCast] at w; exact w)⟩
theorem go_while {W : Nat → List Sl → Prop} (m : Nat) (h0 : W m δ) (h : ∀ m δ, W m δ → ExT K T tt δ fun b δ1 => if b = true then Ss K T t δ1 ⟨fun δ' => ∃ m', m' < m ∧ W m' δ', rt, nx, fun δ' => ∃ m', m' < m ∧ W m' δ'⟩ else nx δ1) :
    Ss K T (tWhile tt t) δ ⟨nx, rt, bk, ct⟩ := ss_while ⟨m, h0⟩ h
theorem rim {d : D} (h : imm d = true) : RImm (.val d) [] := ⟨h, fun _ h => nomatch h⟩
theorem rimL {ds : List D} (h : immAll ds = true) : RImm (.new (.lst ds)) [] := ⟨h, fun _ h => nomatch h⟩
theorem rim1 {d : D} {ds : List D} (h : imm d = true) (k : immAll ds = true) : RImm (.val d) [.lst ds] := ⟨h, fun u m => by rw [List.mem_singleton.mp m]; exact k⟩
theorem rimL1 {es ds : List D} (h : immAll es = true) (k : immAll ds = true) : RImm (.new (.lst es)) [.lst ds] := ⟨h, fun u m => by rw [List.mem_singleton.mp m]; exact k⟩
theorem rim2 {d : D} {ds es : List D} (h : imm d = true) (k : immAll ds = true) (l : immAll es = true) : RImm (.val d) [.lst ds, .lst es] := ⟨h, fun u m => by
  rcases List.mem_cons.mp m with e | m
  · rw [e]; exact k
  · rw [List.mem_singleton.mp m]; exact l⟩
end
end Pl
set_option Elab.async false
set_option linter.all false
set_option maxRecDepth 100000
set_option maxHeartbeats 1000001
namespace L2
open PySem PySem.Spec PyProof.Rows
abbrev Cl := Value × Option Nat × (Addr → Value → Option Addr → TS)
def wM (K : PySem.W.Frag) (Wout : WX) (D : Ends) : List Cl → WX
  | [] => Wout
  | (c, none, ts) :: r => fun cls d σ H => ∃ b, PySem.W.exmOne K cls c = some b ∧ (b = true → ∀ a, H a = none → ts a cls d D σ H) ∧ (b = false → wM K Wout D r cls d σ H)
  | (c, some i, ts) :: r => fun cls d σ H => ∃ b, PySem.W.exmOne K cls c = some b ∧
      (b = true → ∀ a, H a = none → ts a cls d { nx := fun σ' H' => D.nx (σ'.set i none) H', rt := D.rt, bk := fun σ' H' => D.bk (σ'.set i none) H', ct := fun σ' H' => D.ct (σ'.set i none) H' } (σ.set i (some (.ref a))) H) ∧
      (b = false → wM K Wout D r cls d σ H)
inductive HdsM (X : Cx) : List ExceptHandler → List Cl → Prop
  | nil : HdsM X [] []
  | cons {x : Str} {c : Value} {ts : Addr → Value → Option Addr → TS} {b₀ : Stmt} {suite : List Stmt} {np pos' : Pos} {hds : List ExceptHandler} {l : List Cl} (hc : Names X x c)
      (hsu : ∀ (a : Addr) (oe : Obj) (cls : Value) (d : Option Addr) (pn : List (Addr × Obj)), Zc cls d oe → (∃ vs, oe.data = .fields vs) → PSs (X.suite a ((a, oe) :: pn)) (b₀ :: suite) (ts a cls d)) (r : HdsM X hds l) :
      HdsM X (.ExceptHandler (some (.Name x np)) none (b₀ :: suite) pos' :: hds) ((c, none, ts) :: l)
  | consA {x n : Str} {i : Nat} {c : Value} {ts : Addr → Value → Option Addr → TS} {b₀ : Stmt} {suite : List Stmt} {np pos' : Pos} {hds : List ExceptHandler} {l : List Cl} (hN : X.N.Nodup) (hi : X.N[i]? = some n) (hln : X.env.kindOf n = some .local) (hc : Names X x c)
      (hsu : ∀ (a : Addr) (oe : Obj) (cls : Value) (d : Option Addr) (pn : List (Addr × Obj)), Zc cls d oe → (∃ vs, oe.data = .fields vs) → PSs (X.suite a ((a, oe) :: pn)) (b₀ :: suite) (ts a cls d)) (r : HdsM X hds l) :
      HdsM X (.ExceptHandler (some (.Name x np)) (some n) (b₀ :: suite) pos' :: hds) ((c, some i, ts) :: l)
section
variable {X : Cx} {body : List Stmt} {h₀ : ExceptHandler} {hds : List ExceptHandler} {l : List Cl} {pos : Pos} {tb : WX → TS} {Wout : WX}
def tTry (K : PySem.W.Frag) (Wout : WX) (l : List Cl) (tb : WX → TS) : TS := fun D σ H => tb (wM K Wout D l) D σ H
theorem ps_try_m (hs : X.stack = X.env :: X.outer) (hf : X.env.frame = some X.env.locals) (tk : Takes X Wout)
    (hb : ∀ (W : WX) (pn : List (Addr × Obj)) (xe : Value → Shared → Prop), Takes (X.tr pn xe) W → PassesOwn (model X.prog X.w) X.A X.env xe → PSs (X.tr pn xe) body (tb W))
    (hh : HdsM X (h₀ :: hds) l) : PS X (.Try body (h₀ :: hds) [] [] pos) (tTry X.K Wout l tb) := by
  refine ⟨fun pins s σ H D I h => ?_⟩
  have ok := I.ok
  have hfr : X.A.frames = some (X.env :: X.outer) := by rw [ok.frames, hs]
  refine wpAny_Try_except ?_
  refine wpAny_mono ((hb (wM X.K Wout D l) (X.pn ++ pins) (fun e s₁ => wpAny (model X.prog X.w) X.A (noteFrame e X.env) (fun _ s₂ => wpAny (model X.prog X.w) X.A (setFlight e none) (fun _ s₃ =>
    wpAny (model X.prog X.w) X.A (handleBy e X.env (h₀ :: hds)) (SP X pins D) X.xe s₃) X.xe s₂) X.xe s₁) (fun u s' xx => ?_) PassesOwn.looking).run [] s σ H D (I.toTry _) h) (fun f s1 hsp => ?_) (fun e s1 he => he)
  · obtain ⟨a, B, sI, pins', σ', H', cls, d, rfl, J', nb, up, sky, na, os, ag, w⟩ := xx
    have J : Inv X pins σ' H' sI := J'.ofTry ok
    have sky' : Sky B (X.env :: X.outer) a (Zc cls d) X.env.locals s'.heap := by rw [← hs]; exact sky
    show wpAny (model X.prog X.w) X.A (noteFrame (.ref a) X.env) _ _ _
    refine Sky.land Zc.steady hfr hf sky' fun h3 fl3 up3 => ?_
    have J3 : Inv X pins σ' H' { s' with heap := h3 } := J.landed nb fl3.1 (up.trans up3) os ag
    obtain ⟨oe3, vs3, he3, hz3, hd3⟩ := fl3.there
    have notFr : ∀ {h : Heap} {o : Obj} {vs : Array Value}, h.FunFrames B (X.env :: X.outer) → h.get? a = some o → o.data = .fields vs → a ∉ frs (X.env :: X.outer) := fun {h o vs} ff e dd hm => by
      obtain ⟨_, o', e', hnf⟩ := ff.mem hm
      rw [e] at e'; cases e'
      exact hnf _ dd
    have nfr := notFr fl3.2.2.1 he3 hd3
    have nL : a ≠ X.env.locals := fun z => nfr (List.mem_filterMap.mpr ⟨X.env, List.mem_cons_self, by rw [hf, z]⟩)
    have nF : a ∉ X.fs := fun hm => by
      obtain ⟨e, he, q⟩ := List.mem_filterMap.mp hm
      exact nfr (List.mem_filterMap.mpr ⟨e, List.mem_cons_of_mem _ he, q⟩)
    have S3 := J3.suite he3 hd3 na nL nF
    have LT : PySem.W.Looks (model X.prog X.w) h3 (typeOf (.ref a)) cls := fun A Q E s k q => wpAny_typeOf_ref (k _ _ he3) (by rw [hz3.1]; exact q)
    have test : ∀ {x : Str} {c : Value} {np : Pos} (_ : Names X x c) {Q : Value → Shared → Prop} {E : Value → Shared → Prop}, Q c { s' with heap := h3 } → wpAny (model X.prog X.w) (X.A.mark (some (.ref a))) (eval (.Name x np) X.env) Q E { s' with heap := h3 } := fun {x c np} hc {Q E} q => by
      obtain ⟨hg, hdbg, hm | ⟨hm, hv, hnn⟩⟩ := hc
      · exact ld_glob (X := X.suite a ((a, oe3) :: (X.pn ++ pins))) S3 hg hm q hdbg
      · exact ld_blt (X := X.suite a ((a, oe3) :: (X.pn ++ pins))) S3 hg hm hv q hnn hdbg
    have go : ∀ {hds' : List ExceptHandler} {l' : List Cl}, HdsM X hds' l' → wM X.K Wout D l' cls d σ' H' →
        wpAny (model X.prog X.w) X.A (handleBy (.ref a) X.env hds') (SP X pins D) X.xe { s' with heap := h3 } := by
      intro hds' l' hk
      induction hk with
      | nil =>
        intro w
        refine wpAny_handleBy_nil ?_
        obtain ⟨k1, k2, k3, oe, vs, T, oT, ts', he, hz, hd, h1, hr⟩ := id fl3
        unfold PySem.passOn
        refine wpAny_bind (wpAny_field he hd h1 ?_)
        rw [if_neg (show ¬ ((Value.ref T == Value.none) = true) from by simp)]
        have fin : wpAny (model X.prog X.w) X.A (setFlight (.ref a) X.env.frame) (fun _ s4 => wpAny (model X.prog X.w) X.A (throw (.ref a) : Sem Flow) (SP X pins D) X.xe s4) X.xe { s' with heap := h3 } := by
          rw [hf]
          refine HandSPX.setFlight_upZ fl3 fun h4 hh4 up4 => wpAny_throw (tk _ _ ?_)
          exact ⟨a, B, sI, pins, σ', H', cls, d, rfl, J, nb, (up.trans up3).trans up4, .inr (.inr (by rw [hs]; exact hh4)), na, os, ag, w⟩
        first
          | exact wpAny_bind (wpAny_pure (wpAny_bind fin))
          | exact wpAny_bind fin
      | @cons x c ts b₀ suite np pos' hds2 l2 hc hsu r ih =>
        intro w
        obtain ⟨b, hb1, hyes, hno⟩ := w
        refine wpAny_handleBy_cons (codeAny_handlers_test ?_) (by intro q; cases q)
        have LM := PySem.W.exm_one (M := model X.prog X.w) (J3.kIn) LT hb1
        refine test hc (LM.here ?_)
        cases b with
        | true =>
          refine codeAny_handlers_suite ?_
          refine HandSPX.lands_againZ fl3 fun h4 fl4 up4 => ?_
          have J4 : Inv X pins σ' H' { s' with heap := h4 } := J.landed nb fl4.1 ((up.trans up3).trans up4) os ag
          obtain ⟨oe4, vs4, he4, hz4, hd4⟩ := fl4.there
          have S4 := J4.suite he4 hd4 na nL nF
          refine wpAny_mono ((hsu a oe4 cls d (X.pn ++ pins) hz4 ⟨_, hd4⟩).run [] _ _ H' _ S4 (hyes rfl a na)) (fun f s6 hsp => ?_) (fun _ _ z => False.elim z)
          cases f with
          | next =>
            obtain ⟨σ6, H6, S6, q6⟩ := hsp
            exact ⟨_, _, S6.unsuite ok, q6⟩
          | brk =>
            obtain ⟨σ6, H6, S6, q6⟩ := hsp
            exact ⟨_, _, S6.unsuite ok, q6⟩
          | cont =>
            obtain ⟨σ6, H6, S6, q6⟩ := hsp
            exact ⟨_, _, S6.unsuite ok, q6⟩
          | ret u =>
            obtain ⟨v6, σ6, H6, S6, r6, q6⟩ := hsp
            exact ⟨_, _, _, S6.unsuite ok, r6, q6⟩
        | false =>
          show wpAny _ X.A (handleBy (.ref a) X.env hds2) _ _ _
          exact ih (hno rfl)
      | @consA x n i c ts b₀ suite np pos' hds2 l2 hN hi hln hc hsu r ih =>
        intro w
        obtain ⟨b, hb1, hyes, hno⟩ := w
        refine wpAny_handleBy_cons (codeAny_handlers_test ?_) (by intro q; cases q)
        have LM := PySem.W.exm_one (M := model X.prog X.w) (J3.kIn) LT hb1
        have hloc : Loc X.env.scope n := .inl hln
        refine test hc (LM.here ?_)
        cases b with
        | true =>
          refine codeAny_handlers_suite_as ?_
          refine HandSPX.lands_againZ fl3 fun h4 fl4 up4 => ?_
          have J4 : Inv X pins σ' H' { s' with heap := h4 } := J.landed nb fl4.1 ((up.trans up3).trans up4) os ag
          obtain ⟨oe4, vs4, he4, hz4, hd4⟩ := fl4.there
          have S4 := J4.suite he4 hd4 na nL nF
          refine store_ok (X := X.suite a ((a, oe4) :: (X.pn ++ pins))) (v := .ref a) S4 hN hi hloc rfl (fun s5 S5 => ?_) (.inr hln)
          refine wpAny_mono ((hsu a oe4 cls d (X.pn ++ pins) hz4 ⟨_, hd4⟩).run [] s5 _ H' _ S5 (hyes rfl a na)) (fun f s6 hsp => ?_) (fun _ _ z => False.elim z)
          have end_ : ∀ {σ6 : St} {H6 : Hp} {Q : Shared → Prop}, Inv (X.suite a ((a, oe4) :: (X.pn ++ pins))) [] σ6 H6 s6 → (∀ s7, Inv X pins (σ6.set i none) H6 s7 → Q s7) →
              wpAny (model X.prog X.w) X.A (do bindName X.env n .none; unbindBehindTheSuite X.env n pos') (fun _ s7 => Q s7) X.xe s6 := fun {σ6 H6 Q} S6 hq => gone_ok (S6.unsuite ok) hN hi hln hq
          cases f with
          | next =>
            obtain ⟨σ6, H6, S6, q6⟩ := hsp
            exact end_ S6 fun s7 J7 => ⟨_, _, J7, q6⟩
          | brk =>
            obtain ⟨σ6, H6, S6, q6⟩ := hsp
            exact end_ S6 fun s7 J7 => ⟨_, _, J7, q6⟩
          | cont =>
            obtain ⟨σ6, H6, S6, q6⟩ := hsp
            exact end_ S6 fun s7 J7 => ⟨_, _, J7, q6⟩
          | ret u =>
            obtain ⟨v6, σ6, H6, S6, r6, q6⟩ := hsp
            exact end_ S6 fun s7 J7 => ⟨_, _, _, J7, r6, q6⟩
        | false =>
          show wpAny _ X.A (handleBy (.ref a) X.env hds2) _ _ _
          exact ih (hno rfl)
    exact go hh w
  · cases f with
    | next =>
      obtain ⟨σ', H', J', q⟩ := hsp
      exact wpAny_execs_nil ⟨σ', H', J'.ofTry ok, q⟩
    | brk =>
      obtain ⟨σ', H', J', q⟩ := hsp
      exact ⟨σ', H', J'.ofTry ok, q⟩
    | cont =>
      obtain ⟨σ', H', J', q⟩ := hsp
      exact ⟨σ', H', J'.ofTry ok, q⟩
    | ret u =>
      obtain ⟨v, σ', H', J', r, q⟩ := hsp
      exact ⟨v, σ', H', J'.ofTry ok, r, q⟩
end
section
variable {X : Cx} {C : Addr} {bmB : List Value} {B newId initId : String}
theorem pmk_own0 {x : Str} {p pos : Pos} (F : ExcBaseFacts B newId initId bmB) (q : PySem.W.excIn X.K C bmB newId = true) (gC : X.mg x = some (.ref C)) (kC : PySem.W.keepIn X.K (.ref C) = true) (r : Raises X (.ref C)) (hg : Gl X x)
    (hdb : (x == ("__debug__" : Str)) = false := by decide) : PMk X (.Call (.Name x p) [] [] pos) (fun _ H Q => Q (.ref C) none H) := by
  intro pins s σ H Q I h
  refine wpAny_Call_Name_kw (ld_glob I hg gC ?_ hdb)
  refine PySem.W.callWith_K0 I.kIn kC ?_
  obtain ⟨bm, N, nm, qn, bs, hdct, sn, sub, ab, col, dd, k0, k1, k2, k3, k5, mN, hC, hN, hni, T⟩ := exc_obj I.kIn q
  refine wpAny_call_exc_subT F T hC hN hni (fun h' e hm => ?_) (Nat.zero_le _)
  exact mk_of I hm r h (I.hok.gone hm.new)
def tRaise (c : Value) (W : WX) : TS := fun _ σ H => W c none σ H
theorem ps_raise0 {W : WX} {x : Str} {p pos pos' : Pos} (hc : X.calm = true) (tk : Takes X W) (F : ExcBaseFacts B newId initId bmB) (q : PySem.W.excIn X.K C bmB newId = true) (gC : X.mg x = some (.ref C)) (kC : PySem.W.keepIn X.K (.ref C) = true) (r : Raises X (.ref C)) (hg : Gl X x)
    (hdb : (x == ("__debug__" : Str)) = false := by decide) : PS X (.Raise (some (.Call (.Name x p) [] [] pos)) none pos') (tRaise (.ref C) W) := ps_raise hc tk (pmk_own0 F q gC kC r hg hdb)
end
end L2
set_option Elab.async false
set_option linter.all false
set_option maxRecDepth 100000
set_option maxHeartbeats 1000001
namespace Pl
open PySem L2 LamX NdefX PyProof.Rows GenW
section
variable {K : PySem.W.Frag} {T : List NTab} {B B' B1 : Lo} {A A0 : List Addr} {H0 H H' H1 : Hp} {σ : L2.St} {δ δ' δ1 : List Sl} {v : V} {r : R} {P : R → List Sl → Prop} {te : TE}
/-- what a call may lean on, and what its outcomes leave -/
theorem argf_run {vs : List V} {rs : List R} {as : List Ar} {os : List (Option Nat)} (R1 : RSs K T B B1 (ow δ B) H H1 σ δ1 vs rs) (ar : ArgF δ1 rs as os) (nd : (nms os).Nodup) :
    ∃ (A : List Addr) (Z : Lo), (al A Z).Nodup ∧ TabsN T H1 ∧ ArgsOk K (dl H1 (al A Z)) H1 vs as A ∧ (∀ q ∈ Z, Holds K (dl H1 (al A Z)) H1 q.1 q.2) ∧
      ∀ (v : V) (H' : Hp) (r : R) (us : List OV), TabsN T H' → Go (al A Z) (al A Z) H1 H' → After K A Z H1 H' v r us → ∃ B', RS K T B B' (ow δ B) H H' σ (putOo δ1 os us) v r := by
  have own := argf_own ar
  obtain ⟨A, N, h1, h2, h3, h4, h5, h6⟩ := argf_ok R1.s R1.vr R1.bx ar
  have cp := clr_perm (B := B) nd own
  have key : ∀ Z : Lo, Z.map (·.1) = ow (clr δ1 (nms os)) B → (al A Z).Perm (N ++ ow δ1 B) := fun Z e => by
    show (A ++ Z.map (·.1)).Perm _
    rw [e]
    refine (h1.append_right _).trans ?_
    rw [List.append_assoc]
    exact cp.symm.append_left N
  have eZ : ((clr δ1 (nms os)).flatMap lo1 ++ B).map (·.1) = ow (clr δ1 (nms os)) B := by
    rw [List.map_append, lo1_map]
    rfl
  generalize hZd : (clr δ1 (nms os)).flatMap lo1 ++ B = Z at eZ
  have pz := key Z eZ
  have sub : ∀ a ∈ al A Z, a ∈ ow δ1 B1 := fun a m => h3 a (pz.mem_iff.mp m)
  have up : ∀ d v, Dp K (dl H1 (ow δ1 B1)) v d → Dp K (dl H1 (al A Z)) v d := dp_mono (dl_less sub)
  have inZ : ∀ (i : Nat) (a : Addr) (u : OV), i ∉ nms os → δ1[i]? = some (.own a u) → (a, u) ∈ Z := fun i a u n e => by
    rw [← hZd]
    exact List.mem_append_left _ (lo_mem (i := i) (by rw [clr_ne n]; exact e))
  have inB : ∀ q ∈ B, q ∈ Z := fun q m => by rw [← hZd]; exact List.mem_append_right _ m
  refine ⟨A, Z, pz.nodup_iff.mpr h2, R1.s.tab, h6 _ (dp_mono (dl_less fun a m => pz.mem_iff.mp m)), fun q m => ?_, fun v H' r us hT g af => ?_⟩
  · rw [← hZd] at m
    rcases List.mem_append.mp m with m | m
    · obtain ⟨i, e⟩ := mem_lo m
      exact (R1.s.hp (clr_own e).1).2.mono up rfl
    · exact (R1.s.loose q (h5 q m)).mono up rfl
  · have low : ∀ a ∈ ow δ1 B, a ∈ al A Z := fun a m => pz.mem_iff.mpr (List.mem_append_right _ m)
    have go : ∀ B2 : Lo, (∀ a ∈ ow (putOo δ1 os us) B2, a ∈ ow δ1 B ∨ H1 a = none) → Go (ow δ1 B1) (ow (putOo δ1 os us) B2) H1 H' := fun B2 hB2 =>
      ⟨(g.more sub).ext, g.dom, fun a m => (hB2 a m).imp_left fun z => sub a (low a z)⟩
    have st : ∀ B2 : Lo, (∀ a ∈ ow (putOo δ1 os us) B2, a ∈ ow δ1 B ∨ H1 a = none) → (∀ a ∈ ow (putOo δ1 os us) B2, a ∈ nwA v r ++ al A Z) → (ow (putOo δ1 os us) B2).Nodup →
        (∀ q ∈ B2, q ∈ B ∨ Holds K (dl H' (nwA v r ++ al A Z)) H' q.1 q.2) → S K T B2 H' σ (putOo δ1 os us) := fun B2 hB2 hin hnd hl => by
      have dn : ∀ d v', Dp K (dl H' (nwA v r ++ al A Z)) v' d → Dp K (dl H' (ow (putOo δ1 os us) B2)) v' d := dp_mono (dl_less hin)
      refine ⟨by rw [putOo_len]; exact R1.s.len, hT, fun i x hx => ?_, fun q hq => ?_, hnd⟩
      · by_cases hi : i ∈ nms os
        · obtain ⟨a, u, u0, rfl, q2, q3⟩ := putOo_at nd own h4 af.args hi hx
          exact ⟨(R1.s.hp q2).1, q3.mono dn rfl⟩
        · rw [putOo_ne hi] at hx
          cases x with
          | no => trivial
          | raw v => exact R1.s.ok i _ hx
          | val d =>
            obtain ⟨w, q1, q2⟩ := R1.s.ok i _ hx
            exact ⟨w, q1, dp_mono (go B2 hB2).rk _ _ q2⟩
          | own a u => exact ⟨(R1.s.hp hx).1, (af.rest _ (inZ i a u hi hx)).mono dn rfl⟩
      · rcases hl q hq with m | m
        · exact (af.rest q (inB q m)).mono dn rfl
        · exact m.mono dn rfl
    have nd0 : (ow (putOo δ1 os us) B).Nodup := by
      rw [putOo_ow]
      exact (List.nodup_append.mp h2).2.1
    have hr := af.res
    cases r with
    | val d =>
      have b0 : ∀ a ∈ ow (putOo δ1 os us) B, a ∈ ow δ1 B ∨ H1 a = none := fun a m => by rw [putOo_ow] at m; exact .inl m
      have b1 : ∀ a ∈ ow (putOo δ1 os us) B, a ∈ al A Z := fun a m => by rw [putOo_ow] at m; exact low a m
      exact ⟨B, ⟨st B b0 (fun a m => List.mem_append_right _ (b1 a m)) nd0 fun q m => .inl m, R1.go.trans (go B b0), dp_mono (dl_less b1) _ _ hr, rfl⟩⟩
    | new u =>
      obtain ⟨q, rfl, q1, q2⟩ := hr
      have nq : q ∉ ow (putOo δ1 os us) B := fun m => by
        rw [putOo_ow] at m
        exact R1.s.free q1 (sub q (low q m))
      have b0 : ∀ a ∈ ow (putOo δ1 os us) ((q, u) :: B), a ∈ ow δ1 B ∨ H1 a = none := fun a m => by
        rcases List.mem_cons.mp (ow_loose.mem_iff.mp m) with z | z
        · exact .inr (z ▸ q1)
        · rw [putOo_ow] at z
          exact .inl z
      have b1 : ∀ a ∈ ow (putOo δ1 os us) ((q, u) :: B), a ∈ q :: al A Z := fun a m => by
        rcases List.mem_cons.mp (ow_loose.mem_iff.mp m) with z | z
        · rw [z]; exact List.mem_cons_self
        · rw [putOo_ow] at z
          exact List.mem_cons_of_mem _ (low a z)
      exact ⟨(q, u) :: B, ⟨st _ b0 b1 (ow_loose.nodup_iff.mpr (List.nodup_cons.mpr ⟨nq, nd0⟩)) fun x m => (List.mem_cons.mp m).elim (fun e => .inr (by rw [e]; exact q2)) .inl,
        R1.go.trans (go _ b0), ⟨q, rfl, List.mem_cons_self⟩, ⟨q, rfl, rfl⟩⟩⟩
    | bor i => exact hr.elim
end
/-- the arguments, what is wanted of the result, what of an exception (by its class) and of the owned arguments behind -/
abbrev FSX := List Ar → (R → List OV → Prop) → (Value → List OV → Prop) → Prop
def spXOf (K : PySem.W.Frag) (T : List NTab) (F : FSX) : Sp := fun vs H Q E => ∃ (A : List Addr) (Z : Lo) (as : List Ar) (P : R → List OV → Prop) (PX : Value → List OV → Prop), (al A Z).Nodup ∧ TabsN T H ∧ ArgsOk K (dl H (al A Z)) H vs as A ∧
  (∀ q ∈ Z, Holds K (dl H (al A Z)) H q.1 q.2) ∧ F as P PX ∧ (∀ v H' r us, TabsN T H' → Go (al A Z) (al A Z) H H' → After K A Z H H' v r us → P r us → Q v H') ∧
  ∀ cls H' us, TabsN T H' → Go (al A Z) (al A Z) H H' → After K A Z H H' .non (.val .none) us → PX cls us → E cls none H'
/-- the promise where nothing is raised -/
def FSX.nx (F : FSX) : FS := fun as Q => F as Q fun _ _ => False
theorem spX_nx {K : PySem.W.Frag} {T : List NTab} {F : FSX} {vs : List V} {H : Hp} {Q : VK} {E : XK} (h : spOf K T F.nx vs H Q E) : spXOf K T F vs H Q E := by
  obtain ⟨A, Z, as, P, h1, h2, h3, h4, h5, h6⟩ := h
  exact ⟨A, Z, as, P, _, h1, h2, h3, h4, h5, h6, fun _ _ _ _ _ _ z => z.elim⟩
section
variable (K : PySem.W.Frag) (T : List NTab)
/-- a statement that may raise -/
def SsX (ts : WX → TS) (δ : List Sl) (E : Es) (PX : Value → List Sl → Prop) : Prop := ∀ (B : Lo) (H : Hp) (σ : L2.St), S K T B H σ δ → ∀ (D : Ends) (W : WX),
  (∀ σ' H' δ', S K T B H' σ' δ' → Go (ow δ B) (ow δ' B) H H' → E.nx δ' → D.nx σ' H') →
  (∀ v σ' H' r δ' B', RS K T B B' (ow δ B) H H' σ' δ' v r → E.rt r δ' → D.rt v H') →
  (∀ σ' H' δ', S K T B H' σ' δ' → Go (ow δ B) (ow δ' B) H H' → E.bk δ' → D.bk σ' H') →
  (∀ σ' H' δ', S K T B H' σ' δ' → Go (ow δ B) (ow δ' B) H H' → E.ct δ' → D.ct σ' H') →
  (∀ cls σ' H' δ', S K T B H' σ' δ' → Go (ow δ B) (ow δ' B) H H' → PX cls δ' → W cls none σ' H') → ts W D σ H
/-- an expression that may raise -/
def ExX (te : WX → TE) (δ : List Sl) (P : R → List Sl → Prop) (PX : Value → List Sl → Prop) : Prop := ∀ (B : Lo) (H : Hp) (σ : L2.St), S K T B H σ δ → ∀ (Q : VK) (W : WX),
  (∀ v H' r δ' B', RS K T B B' (ow δ B) H H' σ δ' v r → P r δ' → Q v H') →
  (∀ cls H' δ', S K T B H' σ δ' → Go (ow δ B) (ow δ' B) H H' → PX cls δ' → W cls none σ H') → te W σ H Q
end
section
variable {K : PySem.W.Frag} {T : List NTab} {B B' B1 : Lo} {A A0 : List Addr} {H0 H H' H1 : Hp} {σ : L2.St} {δ δ' δ1 : List Sl} {v : V} {r : R} {E : Es} {PX : Value → List Sl → Prop} {P : R → List Sl → Prop} {te : WX → TE} {t u : WX → TS} {tt : TT} {ts : TS}
theorem ssx_of (h : Ss K T ts δ E) : SsX K T (fun _ => ts) δ E PX := fun B H σ s D W kn kr kb kc _ => h B H σ s D kn kr kb kc
theorem exx_of {te : TE} (h : Ex K T te δ P) : ExX K T (fun _ => te) δ P PX := fun B H σ s Q W k _ => h B H σ s Q k
theorem SsX.after {H1 : Hp} {σ1 : L2.St} {δ1 : List Sl} (q : SsX K T t δ1 E PX) (s1 : S K T B H1 σ1 δ1) (g1 : Go (ow δ B) (ow δ1 B) H H1) {D : Ends} {W : WX}
    (kn : ∀ σ' H' δ', S K T B H' σ' δ' → Go (ow δ B) (ow δ' B) H H' → E.nx δ' → D.nx σ' H')
    (kr : ∀ v σ' H' r δ' B', RS K T B B' (ow δ B) H H' σ' δ' v r → E.rt r δ' → D.rt v H')
    (kb : ∀ σ' H' δ', S K T B H' σ' δ' → Go (ow δ B) (ow δ' B) H H' → E.bk δ' → D.bk σ' H')
    (kc : ∀ σ' H' δ', S K T B H' σ' δ' → Go (ow δ B) (ow δ' B) H H' → E.ct δ' → D.ct σ' H')
    (kx : ∀ cls σ' H' δ', S K T B H' σ' δ' → Go (ow δ B) (ow δ' B) H H' → PX cls δ' → W cls none σ' H') : t W D σ1 H1 :=
  q B H1 σ1 s1 D W (fun σ2 H2 δ2 s2 g2 n => kn σ2 H2 δ2 s2 (g1.trans g2) n) (fun v σ2 H2 r δ2 B2 R2 n => kr v σ2 H2 r δ2 B2 (R2.pre g1) n)
    (fun σ2 H2 δ2 s2 g2 n => kb σ2 H2 δ2 s2 (g1.trans g2) n) (fun σ2 H2 δ2 s2 g2 n => kc σ2 H2 δ2 s2 (g1.trans g2) n) fun cls σ2 H2 δ2 s2 g2 n => kx cls σ2 H2 δ2 s2 (g1.trans g2) n
theorem SsX.imp {E' : Es} {PX' : Value → List Sl → Prop} (h : SsX K T t δ E PX) (h1 : ∀ δ', E.nx δ' → E'.nx δ') (h2 : ∀ r δ', E.rt r δ' → E'.rt r δ') (h3 : ∀ δ', E.bk δ' → E'.bk δ') (h4 : ∀ δ', E.ct δ' → E'.ct δ') (h5 : ∀ c δ', PX c δ' → PX' c δ') : SsX K T t δ E' PX' := fun B H σ s D W kn kr kb kc kx =>
  h B H σ s D W (fun σ' H' δ' s' g' n => kn σ' H' δ' s' g' (h1 _ n)) (fun v σ' H' r δ' B' R n => kr v σ' H' r δ' B' R (h2 _ _ n)) (fun σ' H' δ' s' g' n => kb σ' H' δ' s' g' (h3 _ n)) (fun σ' H' δ' s' g' n => kc σ' H' δ' s' g' (h4 _ n))
    fun cls σ' H' δ' s' g' n => kx cls σ' H' δ' s' g' (h5 _ _ n)
theorem ssx_seq (h : SsX K T t δ { E with nx := fun δ1 => SsX K T u δ1 E PX } PX) : SsX K T (fun W => tSeq (t W) (u W)) δ E PX := fun B H σ s D W kn kr kb kc kx =>
  h B H σ s { D with nx := u W D } W (fun σ1 H1 δ1 s1 g1 q => q.after s1 g1 kn kr kb kc kx) kr kb kc kx
theorem ssx_if (h : ExT K T tt δ fun b δ1 => if b = true then SsX K T t δ1 E PX else SsX K T u δ1 E PX) : SsX K T (fun W => tIfS tt (t W) (u W)) δ E PX := fun B H σ s D W kn kr kb kc kx =>
  h B H σ s _ fun b H1 δ1 s1 g1 q => by
    cases b with
    | true =>
      rw [if_pos rfl] at q ⊢
      exact q.after s1 g1 kn kr kb kc kx
    | false =>
      rw [if_neg Bool.false_ne_true] at q ⊢
      exact q.after s1 g1 kn kr kb kc kx
theorem ssx_raise {c : Value} (h : PX c δ) : SsX K T (tRaise c) δ E PX := fun B H σ s D W _ _ _ _ kx => kx c σ H δ s .refl h
theorem ssx_drop (h : ExX K T te δ (fun _ δ1 => E.nx δ1) PX) : SsX K T (fun W => tDrop (te W)) δ E PX := fun B H σ s D W kn _ _ _ kx => h B H σ s _ W (fun v H1 r δ1 B1 R1 q => by
  obtain ⟨C, rfl⟩ := R1.bx.suf
  exact kn σ H1 δ1 R1.s.dropAll (R1.go.less ow_suf) q) fun cls H1 δ1 s1 g1 q => kx cls σ H1 δ1 s1 g1 q
theorem ssx_ret (h : ExX K T te δ E.rt PX) : SsX K T (fun W => tRet (te W)) δ E PX := fun B H σ s D W _ kr _ _ kx => h B H σ s _ W (fun v H1 r δ1 B1 R1 q => kr v σ H1 r δ1 B1 R1 q) fun cls H1 δ1 s1 g1 q => kx cls σ H1 δ1 s1 g1 q
theorem ssx_set {i : Nat} (h : ExX K T te δ (fun r δ1 => StoreR i δ1 E.nx r) PX) : SsX K T (fun W => tAsg (te W) (gName i)) δ E PX := fun B H σ s D W kn _ _ _ kx =>
  h B H σ s _ W (fun v H1 r δ1 B1 R1 q => by
    show D.nx (σ.set i (some v)) H1
    cases r with
    | val d =>
      have e : B1 = B := R1.bx
      subst e
      exact kn _ H1 _ (R1.s.setv R1.vr) (R1.go.trans (Go.set rfl)) q
    | new u =>
      obtain ⟨p, rfl, e⟩ := R1.bx
      subst e
      exact kn _ H1 _ (R1.s.setn q.1) (R1.go.less ow_setn) (q.2 p)
    | bor j => exact q.elim) fun cls H1 δ1 s1 g1 q => kx cls σ H1 δ1 s1 g1 q
/-- f(..), which may raise -/
theorem exx_call {F : FSX} {ta : TA} (h : ExA K T ta δ fun rs δ1 => ∃ as os, ArgF δ1 rs as os ∧ (nms os).Nodup ∧ F as (fun r us => P r (putOo δ1 os us)) fun c us => PX c (putOo δ1 os us)) : ExX K T (fun W => tCallS (spXOf K T F) (WE W) ta) δ P PX := fun B H σ s Q W k kx =>
  h B H σ s _ fun vs H1 rs δ1 B1 R1 ⟨as, os, ar, nd, f⟩ => by
    obtain ⟨A, Z, h1, h2, h3, h4, h5⟩ := argf_run R1 ar nd
    refine ⟨A, Z, as, _, _, h1, h2, h3, h4, f, fun v H' r us hT g af p => ?_, fun cls H' us hT g af p => ?_⟩
    · obtain ⟨B', R2⟩ := h5 v H' r us hT g af
      exact k v H' r _ B' R2 p
    · obtain ⟨B', R2⟩ := h5 _ H' _ us hT g af
      have e : B' = B := R2.bx
      subst e
      exact kx cls H' _ R2.s R2.go p
/-- over a tuple, a body that may raise -/
theorem ssx_forT {te : TE} {g : TG} (h : Ex K T te δ fun r δ1 => ∃ ds, r = .val (.tuple ds) ∧ ∃ W : Nat → List Sl → Prop, W 0 δ1 ∧
      (∀ i d δ2, ds[i]? = some d → W i δ2 → Gt K T g d δ2 fun δ3 => SsX K T t δ3 ⟨W (i + 1), E.rt, E.nx, W (i + 1)⟩ PX) ∧ ∀ δ2, W ds.length δ2 → E.nx δ2) : SsX K T (fun W => tFor (iTup K te) g (t W)) δ E PX := fun B H σ s D WW kn kr kb kc kx =>
  h B H σ s _ fun v H1 r δ1 B1 R1 ⟨ds, f, W, w0, hs, hd⟩ => by
    subst f
    obtain ⟨s1, g1, hv⟩ := rs_fz R1 (d := .tuple ds) rfl
    cases hv with
    | tup hq ha =>
      refine ⟨_, rfl, ⟨_, dl_rk.sqT hq⟩, for_tup (fun i σ2 H2 => ∃ δ2, S K T B H2 σ2 δ2 ∧ Go (ow δ B) (ow δ2 B) H H2 ∧ Go (ow δ1 B) (ow δ2 B) H1 H2 ∧ W i δ2) ⟨δ1, s1, g1, .refl, w0⟩
        (fun i σ2 H2 _ ⟨δ2, s2, g2, g12, _⟩ => dl_rk.sqT (g12.rk.sqT hq)) (fun i x σ2 H2 hx ⟨δ2, s2, g2, g12, w2⟩ => ?_) (fun σ2 H2 ⟨δ2, s2, g2, g12, w2⟩ => ?_)⟩
      · obtain ⟨d, e1, e2⟩ := da_get' ha hx
        refine hs i d δ2 e1 w2 B H2 σ2 x s2 (dp_mono g12.rk _ _ e2) _ fun σ3 δ3 s3 g3 q => ?_
        exact q B H2 σ3 s3 { D with nx := _, ct := _, bk := D.nx } WW (fun σ4 H4 δ4 s4 g4 n => ⟨δ4, s4, (g2.trans g3).trans g4, (g12.trans g3).trans g4, n⟩) (fun v σ4 H4 r δ4 B4 R4 n => kr v σ4 H4 r δ4 B4 (R4.pre (g2.trans g3)) n)
          (fun σ4 H4 δ4 s4 g4 n => kn σ4 H4 δ4 s4 ((g2.trans g3).trans g4) n) (fun σ4 H4 δ4 s4 g4 n => ⟨δ4, s4, (g2.trans g3).trans g4, (g12.trans g3).trans g4, n⟩) fun cls σ4 H4 δ4 s4 g4 n => kx cls σ4 H4 δ4 s4 ((g2.trans g3).trans g4) n
      · rw [da_len ha] at w2
        exact kn σ2 H2 δ2 s2 g2 (hd δ2 w2)
theorem ssx_forL {te : TE} {g : TG} (h : Ex K T te δ fun r δ1 => ∃ ds, Fz r (.list ds) ∧ ∃ W : Nat → List Sl → Prop, W 0 δ1 ∧
      (∀ i d δ2, ds[i]? = some d → W i δ2 → Gt K T g d δ2 fun δ3 => SsX K T t δ3 ⟨W (i + 1), E.rt, E.nx, W (i + 1)⟩ PX) ∧ ∀ δ2, W ds.length δ2 → E.nx δ2) : SsX K T (fun W => tFor (iList K te) g (t W)) δ E PX := fun B H σ s D WW kn kr kb kc kx =>
  h B H σ s _ fun v H1 r δ1 B1 R1 ⟨ds, f, W, w0, hs, hd⟩ => by
    obtain ⟨s1, g1, hv⟩ := rs_fz R1 f
    cases hv with
    | lst hq ha =>
      refine ⟨_, rfl, ⟨_, dl_rk.sqL hq⟩, for_list (fun i σ2 H2 => ∃ δ2, S K T B H2 σ2 δ2 ∧ Go (ow δ B) (ow δ2 B) H H2 ∧ Go (ow δ1 B) (ow δ2 B) H1 H2 ∧ W i δ2) ⟨δ1, s1, g1, .refl, w0⟩
        (fun i σ2 H2 _ ⟨δ2, s2, g2, g12, _⟩ => dl_rk.sqL (g12.rk.sqL hq)) (fun i x σ2 H2 hx ⟨δ2, s2, g2, g12, w2⟩ => ?_) (fun σ2 H2 ⟨δ2, s2, g2, g12, w2⟩ => ?_)⟩
      · obtain ⟨d, e1, e2⟩ := da_get' ha hx
        refine hs i d δ2 e1 w2 B H2 σ2 x s2 (dp_mono g12.rk _ _ e2) _ fun σ3 δ3 s3 g3 q => ?_
        exact q B H2 σ3 s3 { D with nx := _, ct := _, bk := D.nx } WW (fun σ4 H4 δ4 s4 g4 n => ⟨δ4, s4, (g2.trans g3).trans g4, (g12.trans g3).trans g4, n⟩) (fun v σ4 H4 r δ4 B4 R4 n => kr v σ4 H4 r δ4 B4 (R4.pre (g2.trans g3)) n)
          (fun σ4 H4 δ4 s4 g4 n => kn σ4 H4 δ4 s4 ((g2.trans g3).trans g4) n) (fun σ4 H4 δ4 s4 g4 n => ⟨δ4, s4, (g2.trans g3).trans g4, (g12.trans g3).trans g4, n⟩) fun cls σ4 H4 δ4 s4 g4 n => kx cls σ4 H4 δ4 s4 ((g2.trans g3).trans g4) n
      · rw [da_len ha] at w2
        exact kn σ2 H2 δ2 s2 g2 (hd δ2 w2)
theorem fsx_ok {P : Program} {w : World} {mg : Str → Option Value} {base : Heap} {x qual : Str} {st : Stmt} {f : Addr} {fd : FuncData} {N ps : List Str} {k : Nat} {F : FSX} (Fn : Fun K x qual st f fd) (Sc : FnScope N ps (defScope st)) (len : ∀ as Q X, F as Q X → as.length = ps.length)
    (body : ∀ (cdv : Value) (A : Around) (outer : List Env) (s : Shared) (H : Hp) (E : XK), Room k (A.deeper (envOfC qual (defScope st) s.heap.objs.size f cdv)) → ∀ (as : List Ar) (Q : R → List OV → Prop) (QX : Value → List OV → Prop) (qs : List Addr), F as Q QX → qs.length = owns as →
      ∃ t : WX → TS, (∀ W : WX, Takes (cxOf (L2.CX P w) P w K mg base N qual (defScope st) f cdv A outer s H E) W → PSs (cxOf (L2.CX P w) P w K mg base N qual (defScope st) f cdv A outer s H E) (defBody st) (t W)) ∧
        SsX K T t (slotsOf as qs ++ List.replicate (N.length - as.length) .no) { nx := fun δ' => ∃ us, Fin as qs δ' us ∧ Q (.val .none) us, rt := fun r δ' => ∃ us r', Fin as qs δ' us ∧ RetR as.length δ' r r' ∧ Q r' us } fun c δ' => ∃ us, Fin as qs δ' us ∧ QX c us) :
    FnOk P w K mg base (L2.CX P w) (k + 1) f fd ps (spXOf K T F) := by
  refine Fn.okX Sc (fun vs H Q E h => ?_) (fun cdv Ar outer s H vs Q E hr h => ?_)
  · obtain ⟨A, Z, as, P, PX, nd, hT, ha, hZ, f, _⟩ := h
    rw [(argsOk_len ha).1]
    exact len as P PX f
  · obtain ⟨A, Z, as, P, PX, nd, hT, ha, hZ, f, fin, finX⟩ := h
    obtain ⟨t, ht, hs⟩ := body cdv Ar outer s H E hr as P PX A f (argsOk_len ha).2.1
    have s0 := entry (N := N) ha hZ nd hT
    have eo := entry_ow (n := N.length - vs.length) (Z := Z) ha
    rw [(argsOk_len ha).1] at s0 eo
    refine ⟨_, ht _ (takes_of rfl rfl rfl rfl), hs Z H _ s0 _ _ (fun σ' H' δ' s' g' ⟨us, q1, q2⟩ => ?_) (fun v σ' H' r δ' B' R1 ⟨us, r', q1, q2, q3⟩ => ?_) (fun _ _ _ _ _ z => z.elim) (fun _ _ _ _ _ z => z.elim) (fun cls σ' H' δ' s' g' ⟨us, q1, q2⟩ => ?_)⟩
    · rw [eo] at g'
      exact fin .non H' (.val .none) us s'.tab ⟨g'.ext, g'.dom, fun a m => .inl m⟩ (leave0 s' q1) q2
    · have R2 := R1
      rw [eo] at R2
      have g' := R2.go
      exact fin v H' r' us R2.s.tab ⟨g'.ext, g'.dom, fun a m => .inl m⟩ (leave R2 q1 q2) q3
    · rw [eo] at g'
      exact finX cls H' us s'.tab ⟨g'.ext, g'.dom, fun a m => .inl m⟩ (leave0 s' q1) q2
theorem S.setr (s : S K T B H σ δ) {i : Nat} {v : V} (hi : i < δ.length) : S K T B H (σ.set i (some v)) (δ.set i (.raw v)) := by
  have hs : (ow (δ.set i (.raw v)) B).Sublist (ow δ B) := ow_sub rfl
  refine s.cut (fun a m => hs.subset m) (by rw [List.length_set, List.length_set, s.len]) (s.nd.sublist hs) (fun p hp => s.holds (fun a m => hs.subset m) hp) fun j x h => ?_
  rcases get_set h with ⟨rfl, hl, rfl⟩ | ⟨hne, h⟩
  · exact .inr (by show _ = _; rw [List.getElem?_set_self (by rw [s.len]; exact hl)])
  · exact .inl ⟨h, by rw [List.getElem?_set_ne hne]⟩
theorem S.unset (s : S K T B H σ δ) {i : Nat} : S K T B H (σ.set i none) (δ.set i .no) := by
  have hs : (ow (δ.set i .no) B).Sublist (ow δ B) := ow_sub rfl
  refine s.cut (fun a m => hs.subset m) (by rw [List.length_set, List.length_set, s.len]) (s.nd.sublist hs) (fun p hp => s.holds (fun a m => hs.subset m) hp) fun j x h => ?_
  rcases get_set h with ⟨rfl, hl, rfl⟩ | ⟨hne, h⟩
  · exact .inr trivial
  · exact .inl ⟨h, by rw [List.getElem?_set_ne hne]⟩
/-- what an exception of the class c meets -/
def Meets (K : PySem.W.Frag) (T : List NTab) (E : Es) (c : Value) (δ : List Sl) : List Cl → Prop
  | [] => False
  | (x, none, ts) :: r => ∃ b, PySem.W.exmOne K c x = some b ∧ if b = true then ∀ a, Ss K T (ts a c none) δ E else Meets K T E c δ r
  | (x, some i, ts) :: r => ∃ b, PySem.W.exmOne K c x = some b ∧ if b = true then i < δ.length ∧ ∀ a, Ss K T (ts a c none) (δ.set i (.raw (.ref a))) { nx := fun δ' => E.nx (δ'.set i .no), rt := E.rt, bk := fun δ' => E.bk (δ'.set i .no), ct := fun δ' => E.ct (δ'.set i .no) } else Meets K T E c δ r
theorem meets_wM {D : Ends} {c : Value} (s1 : S K T B H1 σ δ1) (g1 : Go (ow δ B) (ow δ1 B) H H1)
    (kn : ∀ σ' H' δ', S K T B H' σ' δ' → Go (ow δ B) (ow δ' B) H H' → E.nx δ' → D.nx σ' H')
    (kr : ∀ v σ' H' r δ' B', RS K T B B' (ow δ B) H H' σ' δ' v r → E.rt r δ' → D.rt v H')
    (kb : ∀ σ' H' δ', S K T B H' σ' δ' → Go (ow δ B) (ow δ' B) H H' → E.bk δ' → D.bk σ' H')
    (kc : ∀ σ' H' δ', S K T B H' σ' δ' → Go (ow δ B) (ow δ' B) H H' → E.ct δ' → D.ct σ' H') : ∀ l : List Cl, Meets K T E c δ1 l → wM K (fun _ _ _ _ => False) D l c none σ H1
  | [], h => h
  | (x, none, ts) :: r, h => by
    obtain ⟨b, e, h⟩ := h
    refine ⟨b, e, fun eb a _ => ?_, fun eb => ?_⟩
    · rw [if_pos eb] at h
      exact (h a).after s1 g1 kn kr kb kc
    · rw [if_neg (by rw [eb]; exact Bool.false_ne_true)] at h
      exact meets_wM s1 g1 kn kr kb kc r h
  | (x, some i, ts) :: r, h => by
    obtain ⟨b, e, h⟩ := h
    refine ⟨b, e, fun eb a _ => ?_, fun eb => ?_⟩
    · rw [if_pos eb] at h
      obtain ⟨hi, h⟩ := h
      have un : ∀ {δ'' : List Sl}, ∀ a ∈ ow (δ''.set i .no) B, a ∈ ow δ'' B := fun a m => (ow_sub (i := i) (s := .no) rfl).subset m
      exact (h a).after (δ := δ) (H := H) (s1.setr hi) (g1.trans (Go.set rfl)) (fun σ' H' δ' s' g' n => kn _ H' _ s'.unset (g'.less un) n) kr (fun σ' H' δ' s' g' n => kb _ H' _ s'.unset (g'.less un) n) (fun σ' H' δ' s' g' n => kc _ H' _ s'.unset (g'.less un) n)
    · rw [if_neg (by rw [eb]; exact Bool.false_ne_true)] at h
      exact meets_wM s1 g1 kn kr kb kc r h
/-- try: body; except ..: suites: what the body may raise is met -/
theorem ss_try {tb : WX → TS} {l : List Cl} (h : SsX K T tb δ E fun c δ' => Meets K T E c δ' l) : Ss K T (tTry K (fun _ _ _ _ => False) l tb) δ E := fun B H σ s D kn kr kb kc =>
  h B H σ s D _ kn kr kb kc fun cls σ' H' δ' s' g' m => meets_wM s' g' kn kr kb kc l m
end
end Pl
set_option Elab.async false
set_option linter.all false
set_option maxRecDepth 100000
set_option maxHeartbeats 1000001
namespace Pl
open PySem L2 LamX NdefX PyProof.Rows GenW
def OkX (P : Program) (w : World) (K : PySem.W.Frag) (mg : Str → Option Value) (base : Heap) (k : Nat) (x : Str) (ps : List Str) (sp : Sp) : Prop :=
  ∃ fd, (∃ st, Fun K x x st (He.ga K x) fd) ∧ FnOk P w K mg base (L2.CX P w) k (He.ga K x) fd ps sp ∧ mg x = some (.ref (He.ga K x)) ∧ PySem.W.keepIn K (.ref (He.ga K x)) = true ∧ Binds K fd ps []
section
variable {P : Program} {w : World} {K : PySem.W.Frag} {mg : Str → Option Value} {base : Heap} {T : List NTab} {ds : List DI} {fr ts : List Str} {cs : List Kc}
/-- THE RULE for a def of the top that may raise -/
theorem ok_ofX (c : Al K mg base ds fr ts cs) {x : Str} {st : Stmt} {N ps : List Str} {k : Nat} {F : FSX} (hm : (x, st) ∈ ds) (bd : BindsBy st x ps) (Sc : FnScope N ps (defScope st)) (len : ∀ as Q X, F as Q X → as.length = ps.length)
    (body : ∀ (f : Addr) (cdv : Value) (A : Around) (outer : List Env) (s : Shared) (H : Hp) (E : XK), Room k (A.deeper (envOfC x (defScope st) s.heap.objs.size f cdv)) → ∀ (as : List Ar) (Q : R → List OV → Prop) (QX : Value → List OV → Prop) (qs : List Addr), F as Q QX → qs.length = owns as →
      ∃ t : WX → TS, (∀ W : WX, Takes (cxOf (L2.CX P w) P w K mg base N x (defScope st) f cdv A outer s H E) W → PSs (cxOf (L2.CX P w) P w K mg base N x (defScope st) f cdv A outer s H E) (defBody st) (t W)) ∧
        SsX K T t (slotsOf as qs ++ List.replicate (N.length - as.length) .no) { nx := fun δ' => ∃ us, Fin as qs δ' us ∧ Q (.val .none) us, rt := fun r δ' => ∃ us r', Fin as qs δ' us ∧ RetR as.length δ' r r' ∧ Q r' us } fun c δ' => ∃ us, Fin as qs δ' us ∧ QX c us) :
    OkX P w K mg base (k + 1) x ps (spXOf K T F) := by
  obtain ⟨g, fd, Fn⟩ := c.df (x, st) hm
  exact ⟨fd, ⟨st, Fn⟩, fsx_ok Fn Sc len (fun cdv A outer s H E hr => body _ cdv A outer s H E hr), g, Fn.kp, Fn.binds bd⟩
variable {X : Cx} {x : Str} {ps : List Str} {k : Nat} {F : FSX} {p pos : Pos} {e : Expr} {es : List Expr} {t : TA} {W : WX}
/-- a call that raises nothing -/
theorem pe_fx (h : OkX X.prog X.w X.K X.mg X.base k x ps (spXOf K T F)) (hr : Room k X.A) (hg : Gl X x) (ha : PA X (e :: es) t) (hdb : (x == ("__debug__" : Str)) = false := by decide) (he : starEach (e :: es) X.env = (false, eval e X.env) :: starEach es X.env := by rfl) (hpl : (backTo pos (starEach es X.env)).any (·.1) = false := by rfl) :
    PE X (.Call (.Name x p) (e :: es) [] pos) (tCall (spOf K T F.nx) [] E0 t) := by
  obtain ⟨fd, _, h1, h2, h3, h4⟩ := h
  exact pe_call (h1.imp (sp' := spOf K T F.nx) fun vs H Q E q => spX_nx q) hr hg h2 h3 h4 .nil passL ha hdb he hpl
/-- a call that may raise -/
theorem pe_fxS (h : OkX X.prog X.w X.K X.mg X.base k x ps (spXOf K T F)) (tk : Takes X W) (hr : Room k X.A) (hg : Gl X x) (ha : PA X (e :: es) t) (hdb : (x == ("__debug__" : Str)) = false := by decide) (he : starEach (e :: es) X.env = (false, eval e X.env) :: starEach es X.env := by rfl) (hpl : (backTo pos (starEach es X.env)).any (·.1) = false := by rfl) :
    PE X (.Call (.Name x p) (e :: es) [] pos) (tCallS (spXOf K T F) (WE W) t) := by
  obtain ⟨fd, _, h1, h2, h3, h4⟩ := h
  exact pe_callS h1 hr hg h2 h3 h4 (passAt tk) ha hdb he hpl
/-- raise X() -/
theorem ps_rz {y : Str} {p pos pos' : Pos} (h : (Kc.exc y).ok X.K X.mg) (hc : X.calm = true) (tk : Takes X W) (hg : Gl X y) (hdb : (y == ("__debug__" : Str)) = false := by decide) :
    PS X (.Raise (some (.Call (.Name y p) [] [] pos)) none pos') (tRaise (.ref (He.ga X.K y)) W) := by
  obtain ⟨h1, h2, h3, h4⟩ := He.exc_ok h.2.1
  exact ps_raise0 hc tk PySem.F.excBase_ValueError h1 h.1 h2 (raises_own h3 h4) hg hdb
/-- the class that an except clause names -/
theorem names_of {y : Str} (h : (Kc.exc y).ok X.K X.mg) (hg : Gl X y) (hd : (y == ("__debug__" : Str)) = false := by decide) : Names X y (.ref (He.ga X.K y)) := ⟨hg, hd, .inl h.1⟩
def rIsG (K : PySem.W.Frag) (a : Addr) (cls : Value) (d : Option Addr) : List V → Hp → VK → Prop := fun xs H Q => ∃ D, cls = .ref D ∧ d = none ∧ ExcC K D ∧ rIsE K D a xs H Q
theorem call_isG {a : Addr} {cls : Value} {d : Option Addr} {oe : Obj} {pn : List (Addr × Obj)} (hz : Zc cls d oe) (hf : ∃ vs, oe.data = .fields vs) : CallR (X.suite a ((a, oe) :: pn)) (.builtin "isinstance") (rIsG X.K a cls d) := by
  intro pins s σ H xs us Q I r h
  obtain ⟨D, rfl, rfl, C, h⟩ := h
  exact call_isE C hz hf pins s σ H xs us Q I r h
end
section
variable {K : PySem.W.Frag} {T : List NTab} {δ : List Sl} {P : R → List Sl → Prop}
/-- an own class as a value -/
theorem ex_isE {i : Nat} {a D C : Addr} {b : Bool} (hi : δ[i]? = some (.raw (.ref a))) (hC : ExcC K D) (hk : PySem.W.kitOne K (.ref D) (.ref C) = some b) (p : P (.val (.bool b)) δ) : Ex K T (tCB (rIsG K a (.ref D) none) (tCons (tVar i) (tCons (tC (.ref C)) tNil))) δ P := fun B H σ s Q k => by
  have h1 : σ[i]? = some (some (.ref a)) := s.ok i _ hi
  refine ⟨.ref a, h1, D, rfl, rfl, hC, .ref C, .ref C, b, rfl, (fun u r => by cases r; rfl), hk, ?_⟩
  exact k (.bl b) H (.val (.bool b)) δ B ⟨s, .refl, .bl _, rfl⟩ p
/-- a built-in class -/
theorem ex_isET {i : Nat} {a D : Addr} {n : String} {b : Bool} (hi : δ[i]? = some (.raw (.ref a))) (hC : ExcC K D) (hk : PySem.W.kitOne K (.ref D) (.type n) = some b) (p : P (.val (.bool b)) δ) : Ex K T (tCB (rIsG K a (.ref D) none) (tCons (tVar i) (tCons (tC (.ty n)) tNil))) δ P := fun B H σ s Q k => by
  have h1 : σ[i]? = some (some (.ref a)) := s.ok i _ hi
  refine ⟨.ref a, h1, D, rfl, rfl, hC, .ty n, .type n, b, rfl, (fun u r => by cases r; rfl), hk, ?_⟩
  exact k (.bl b) H (.val (.bool b)) δ B ⟨s, .refl, .bl _, rfl⟩ p
end
end Pl
set_option Elab.async false
set_option linter.all false
set_option maxRecDepth 100000
set_option maxHeartbeats 1000001
namespace Pl
open PySem L2 LamX NdefX PyProof.Rows GenW
theorem cxNewX {P : Program} {w : World} : CXNew (L2.CX P w) := fun outer s H h2 p rest E e s' k hp hn ⟨a, B, H', cls, d, e1, fl, hok, ub, na, os, ag, hE⟩ => by
  have un : ∀ b o, s.heap.get? b = some o → (upd H p (.tup rest)) b = H b := fun b o q => upd_ne (Nat.ne_of_lt (Nat.lt_of_lt_of_le (Heap.lt_size q) hp))
  have st : ∀ b u, H b = some u → (upd H p (.tup rest)) b = some u := fun b u q => by rw [upd_ne (ne_of_none q hn)]; exact q
  exact ⟨a, B, H', cls, d, e1, fl, hok, ⟨fun b o q n hb => ub.keep b o (k b o q) (by rw [un b o q]; exact n) hb, fun b o q hb => ub.slot b o (k b o q) hb, fun b o q n => ub.free b o (k b o q) (by rw [un b o q]; exact n),
    fun b o q hb => ub.there b o (k b o q) hb, fun b xs q => ub.tups b xs (st b _ q), fun b o xs q => ub.frzs b o xs (st b _ q), fun b ps q => ub.tbls b ps (st b _ q)⟩, na, os, ag, hE⟩
def OkVX (P : Program) (w : World) (K : PySem.W.Frag) (mg : Str → Option Value) (base : Heap) (k : Nat) (x : Str) (sp : Sp) : Prop :=
  FnR P w K mg base (L2.CX P w) k (He.ga K x) sp ∧ mg x = some (.ref (He.ga K x)) ∧ PySem.W.keepIn K (.ref (He.ga K x)) = true
section
variable {P : Program} {w : World} {K : PySem.W.Frag} {mg : Str → Option Value} {base : Heap} {T : List NTab} {ds : List DI} {fr ts : List Str} {cs : List Kc}
theorem okVX_of (c : Al K mg base ds fr ts cs) {x : Str} {st : Stmt} {N : List Str} {pv : Str} {k nmax : Nat} {F : FSX} (hm : (x, st) ∈ ds) (hz : nmax ≤ sizeLine)
    (bd : ∀ (kV doc pm : Value) (an : Option Addr) (cdv ct : Value) (rest : List Value), rest.length ≤ nmax → bindArgs (PySem.W.fnOf x x (defArgs st) (defBody st) (defScope st) .none kV doc pm an cdv ct) ⟨rest, []⟩ = (newTuple rest >>= fun t => pure [(pv, t)]))
    (Sc : FnScope N [pv] (defScope st)) (len : ∀ as Q X, F as Q X → as.length = 1)
    (body : ∀ (f : Addr) (cdv : Value) (A : Around) (outer : List Env) (s : Shared) (H : Hp) (E : XK), Room k (A.deeper (envOfC x (defScope st) s.heap.objs.size f cdv)) → ∀ (as : List Ar) (Q : R → List OV → Prop) (QX : Value → List OV → Prop) (qs : List Addr), F as Q QX → qs.length = owns as →
      ∃ t : WX → TS, (∀ W : WX, Takes (cxOf (L2.CX P w) P w K mg base N x (defScope st) f cdv A outer s H E) W → PSs (cxOf (L2.CX P w) P w K mg base N x (defScope st) f cdv A outer s H E) (defBody st) (t W)) ∧
        SsX K T t (slotsOf as qs ++ List.replicate (N.length - as.length) .no) { nx := fun δ' => ∃ us, Fin as qs δ' us ∧ Q (.val .none) us, rt := fun r δ' => ∃ us r', Fin as qs δ' us ∧ RetR as.length δ' r r' ∧ Q r' us } fun c δ' => ∃ us, Fin as qs δ' us ∧ QX c us) :
    OkVX P w K mg base (k + 1) x (spV nmax (spXOf K T F)) := by
  obtain ⟨g, fd, Fn⟩ := c.df (x, st) hm
  refine ⟨?_, g, Fn.kp⟩
  obtain ⟨oc, od, kV, doc, pm, an, cdv, ct, osl, rfl, lk, hcd⟩ := Fn.ex
  refine fn_ofV0 cxNewX lk hcd Sc hz (bd kV doc pm an cdv ct) fun A outer s H vs Q E hr h => ?_
  obtain ⟨Ad, Z, as, P, PX, nd, hT, ha, hZ, f, fin, finX⟩ := h
  obtain ⟨t, ht3, hs⟩ := body _ cdv A outer s H E hr as P PX Ad f (argsOk_len ha).2.1
  have s0 := entry (N := N) ha hZ nd hT
  have eo := entry_ow (n := N.length - vs.length) (Z := Z) ha
  rw [(argsOk_len ha).1] at s0 eo
  refine ⟨_, ht3 _ (takes_of rfl rfl rfl rfl), hs Z H _ s0 _ _ (fun σ' H' δ' s' g' ⟨us, q1, q2⟩ => ?_) (fun v σ' H' r δ' B' R1 ⟨us, r', q1, q2, q3⟩ => ?_) (fun _ _ _ _ _ z => z.elim) (fun _ _ _ _ _ z => z.elim) (fun cls σ' H' δ' s' g' ⟨us, q1, q2⟩ => ?_)⟩
  · rw [eo] at g'
    exact fin .non H' (.val .none) us s'.tab ⟨g'.ext, g'.dom, fun a m => .inl m⟩ (leave0 s' q1) q2
  · have R2 := R1
    rw [eo] at R2
    have g' := R2.go
    exact fin v H' r' us R2.s.tab ⟨g'.ext, g'.dom, fun a m => .inl m⟩ (leave R2 q1 q2) q3
  · rw [eo] at g'
    exact finX cls H' us s'.tab ⟨g'.ext, g'.dom, fun a m => .inl m⟩ (leave0 s' q1) q2
variable {X : Cx} {x : Str} {k nmax : Nat} {F : FSX} {sp : Sp} {p pos : Pos} {e : Expr} {es : List Expr} {t : TA} {W : WX} {CX : CXT} {f : Addr} {E : XK}
theorem pe_callRg (F : FnR X.prog X.w X.K X.mg X.base CX k f sp) (hr : Room k X.A) (hx : Passes CX X E) (hg : Gl X x) (hm : X.mg x = some (.ref f)) (hk : PySem.W.keepIn X.K (.ref f) = true) (ha : PA X (e :: es) t)
    (hdb : (x == ("__debug__" : Str)) = false := by decide) (he : starEach (e :: es) X.env = (false, eval e X.env) :: starEach es X.env := by rfl) (hpl : (backTo pos (starEach es X.env)).any (·.1) = false := by rfl) :
    PE X (.Call (.Name x p) (e :: es) [] pos) (tCall sp [] E t) := by
  refine ⟨fun pins s σ H Q I h => ?_⟩
  refine wpAny_Call_Name_kw (ld_glob I hg hm ?_ hdb)
  refine PySem.W.callWith_K (h₀ := X.base) I.ok.mod.kin hk (thn (ha.run pos pins s σ H _ I h) fun us s1 ⟨vs, H1, I1, r, q⟩ => ⟨I1.kIn, ?_⟩) he hpl
  have q2 : sp (vs ++ []) H1 Q E := q
  rw [List.append_nil] at q2
  exact wpAny_call (run_fnR F hr hx I1 r q2)
theorem pe_callRg0 (F : FnR X.prog X.w X.K X.mg X.base CX k f sp) (hr : Room k X.A) (hx : Passes CX X E) (hg : Gl X x) (hm : X.mg x = some (.ref f)) (hk : PySem.W.keepIn X.K (.ref f) = true)
    (hdb : (x == ("__debug__" : Str)) = false := by decide) : PE X (.Call (.Name x p) [] [] pos) (tCall sp [] E tNil) := by
  refine ⟨fun pins s σ H Q I h => ?_⟩
  refine wpAny_Call_Name_kw (ld_glob I hg hm ?_ hdb)
  exact PySem.W.callWith_K0 I.kIn hk (wpAny_call (run_fnR F hr hx I .nil h))
theorem pe_callRS (F : FnR X.prog X.w X.K X.mg X.base (L2.CX X.prog X.w) k f sp) (hr : Room k X.A) (tk : Takes X W) (hg : Gl X x) (hm : X.mg x = some (.ref f)) (hk : PySem.W.keepIn X.K (.ref f) = true) (ha : PA X (e :: es) t)
    (hdb : (x == ("__debug__" : Str)) = false := by decide) (he : starEach (e :: es) X.env = (false, eval e X.env) :: starEach es X.env := by rfl) (hpl : (backTo pos (starEach es X.env)).any (·.1) = false := by rfl) :
    PE X (.Call (.Name x p) (e :: es) [] pos) (tCallS sp (WE W) t) := by
  refine ⟨fun pins s σ H Q I h => ?_⟩
  refine wpAny_Call_Name_kw (ld_glob I hg hm ?_ hdb)
  refine PySem.W.callWith_K (h₀ := X.base) I.ok.mod.kin hk (thn (ha.run pos pins s σ H _ I h) fun us s1 ⟨vs, H1, I1, r, q⟩ => ⟨I1.kIn, ?_⟩) he hpl
  refine wpAny_call (codeAny_mono (F X.A X.stack s1 H1 us vs Q _ hr I1.env0 r q) fun r s' hq => ?_)
  cases r with
  | error e => exact passAt tk σ pins H1 s1 e s' I1 hq
  | ok fl =>
    cases fl with
    | ret u => exact I1.after hq
    | next => exact False.elim hq
    | brk => exact False.elim hq
    | cont => exact False.elim hq
theorem fnr_nx {K0 : PySem.W.Frag} (h : FnR P w K mg base CX k f (spV nmax (spXOf K0 T F))) : FnR P w K mg base CX k f (spV nmax (spOf K0 T F.nx)) := h.imp fun vs H Q E q => ⟨q.1, fun p hp => spX_nx (q.2 p hp)⟩
/-- f(a, b, ..), nothing is raised -/
theorem pe_fVX (h : OkVX X.prog X.w X.K X.mg X.base k x (spV nmax (spXOf K T F))) (hr : Room k X.A) (hg : Gl X x) (ha : PA X (e :: es) t)
    (hdb : (x == ("__debug__" : Str)) = false := by decide) (he : starEach (e :: es) X.env = (false, eval e X.env) :: starEach es X.env := by rfl) (hpl : (backTo pos (starEach es X.env)).any (·.1) = false := by rfl) :
    PE X (.Call (.Name x p) (e :: es) [] pos) (tCall (spV nmax (spOf K T F.nx)) [] E0 t) := pe_callRg (fnr_nx h.1) hr passL hg h.2.1 h.2.2 ha hdb he hpl
theorem pe_fVX0 (h : OkVX X.prog X.w X.K X.mg X.base k x (spV nmax (spXOf K T F))) (hr : Room k X.A) (hg : Gl X x)
    (hdb : (x == ("__debug__" : Str)) = false := by decide) : PE X (.Call (.Name x p) [] [] pos) (tCall (spV nmax (spOf K T F.nx)) [] E0 tNil) := pe_callRg0 (fnr_nx h.1) hr passL hg h.2.1 h.2.2 hdb
/-- f(a, b, ..), which may raise -/
theorem pe_fVXS (h : OkVX X.prog X.w X.K X.mg X.base k x (spV nmax (spXOf K T F))) (tk : Takes X W) (hr : Room k X.A) (hg : Gl X x) (ha : PA X (e :: es) t)
    (hdb : (x == ("__debug__" : Str)) = false := by decide) (he : starEach (e :: es) X.env = (false, eval e X.env) :: starEach es X.env := by rfl) (hpl : (backTo pos (starEach es X.env)).any (·.1) = false := by rfl) :
    PE X (.Call (.Name x p) (e :: es) [] pos) (tCallS (spV nmax (spXOf K T F)) (WE W) t) := pe_callRS h.1 hr tk hg h.2.1 h.2.2 ha hdb he hpl
end
section
variable {K : PySem.W.Frag} {T : List NTab} {δ : List Sl} {P : R → List Sl → Prop} {PX : Value → List Sl → Prop}
theorem exx_callV {F : FSX} {nmax : Nat} {ta : TA} (h : ExA K T ta δ fun rs δ1 => ∃ ds, Vals0 rs ds ∧ ds.length ≤ nmax ∧ F [.val (.tuple ds)] (fun r us => P r δ1) fun c us => PX c δ1) : ExX K T (fun W => tCallS (spV nmax (spXOf K T F)) (WE W) ta) δ P PX := fun B H σ s Q W k kx =>
  h B H σ s _ fun vs H1 rs δ1 B1 R1 ⟨ds, a, hl, f⟩ => by
    obtain rfl := vals0_bx R1.bx a
    have hd := vals0_dp R1.vr a
    refine ⟨by rw [da_len hd]; exact hl, fun p hp => ?_⟩
    have R2 : RSs K T B1 B1 (ow δ B1) H (upd H1 p (.tup vs)) σ δ1 [.ref p] [.val (.tuple ds)] :=
      ⟨R1.s.laid hp, R1.go.trans (go_upd hp), ⟨.tup (.inl (.inl (dl_of upd_same (R1.s.free hp)))) (da_mono (go_upd hp).rk _ _ hd), trivial⟩, B1, rfl, rfl⟩
    obtain ⟨A, Z, h1, h2, h3, h4, h5⟩ := argf_run R2 (as := [.val (.tuple ds)]) (os := []) ⟨rfl, trivial⟩ List.nodup_nil
    refine ⟨A, Z, _, _, _, h1, h2, h3, h4, f, fun v H' r us hT g af p => ?_, fun cls H' us hT g af p => ?_⟩
    · obtain ⟨B', R3⟩ := h5 v H' r us hT g af
      exact k v H' r _ B' R3 p
    · obtain ⟨B', R3⟩ := h5 _ H' _ us hT g af
      have e : B' = B1 := R3.bx
      subst e
      exact kx cls H' _ R3.s R3.go p
end
end Pl
set_option Elab.async false
set_option linter.all false
set_option maxRecDepth 100000
set_option maxHeartbeats 4000001
namespace L2
open PySem PySem.Spec PyProof.Rows
section
variable {P : Program} {w : World} {K : Type} [DecidableEq K]
inductive KsOf (knd : KeyKind P w K) : List (Int × Value) → List K → Prop
  | nil : KsOf knd [] []
  | cons {e : Int × Value} {k : K} {es : List (Int × Value)} {ks : List K} : knd.is k e.2 = true → e.1 = knd.hash k → e.2.scannable = true → KsOf knd es ks → KsOf knd (e :: es) (k :: ks)
variable {knd : KeyKind P w K}
theorem KsOf.perm {es es' : List (Int × Value)} (p : es.Perm es') : ∀ {ks : List K}, KsOf knd es ks → ∃ ks', KsOf knd es' ks' ∧ ks.Perm ks' := by
  induction p with
  | nil => intro ks h; exact ⟨ks, h, .refl _⟩
  | cons x _ ih =>
    intro ks h
    cases h with
    | cons h1 h2 h3 t =>
      obtain ⟨ks', q, p⟩ := ih t
      exact ⟨_, .cons h1 h2 h3 q, p.cons _⟩
  | swap x y l =>
    intro ks h
    cases h with
    | cons a1 a2 a3 t =>
      cases t with
      | cons b1 b2 b3 t => exact ⟨_, .cons b1 b2 b3 (.cons a1 a2 a3 t), .swap ..⟩
  | trans _ _ ih1 ih2 =>
    intro ks h
    obtain ⟨k1, q1, p1⟩ := ih1 h
    obtain ⟨k2, q2, p2⟩ := ih2 q1
    exact ⟨k2, q2, p1.trans p2⟩
theorem KsOf.elems {es : List (Int × Value)} {ks : List K} (h : KsOf knd es ks) : ElemsOf knd es := by
  induction h with
  | nil => intro e m; cases m
  | cons h1 h2 h3 _ ih =>
    intro e m
    rcases List.mem_cons.mp m with z | m
    · rw [z]; exact ⟨⟨_, h1, h2⟩, h3⟩
    · exact ih e m
theorem KsOf.mem {es : List (Int × Value)} {ks : List K} (h : KsOf knd es ks) (k : K) : k ∈ ks ↔ ∃ e ∈ es, knd.is k e.2 = true := by
  induction h with
  | nil => simp
  | @cons e0 k0 es ks h1 h2 h3 _ ih =>
    rw [List.mem_cons]
    constructor
    · rintro (rfl | m)
      · exact ⟨e0, List.mem_cons_self, h1⟩
      · obtain ⟨e, he, q⟩ := ih.mp m
        exact ⟨e, List.mem_cons_of_mem _ he, q⟩
    · rintro ⟨e, he, q⟩
      rcases List.mem_cons.mp he with z | he
      · subst z
        exact .inl (knd.inj _ _ _ q h1)
      · exact .inr (ih.mpr ⟨e, he, q⟩)
theorem KsOf.len {es : List (Int × Value)} {ks : List K} (h : KsOf knd es ks) : ks.length = es.length := by
  induction h with
  | nil => rfl
  | cons _ _ _ _ ih => exact congrArg (· + 1) ih
theorem KsOf.vals {es : List (Int × Value)} {ks : List K} (h : KsOf knd es ks) : PySem.W.EachIs (fun v k => knd.is k v = true) (es.map (·.2)) ks := by
  induction h with
  | nil => exact .nil
  | cons h1 _ _ _ ih => exact .cons h1 ih
/-- the set at a of the keys L -/
def SetG (knd : KeyKind P w K) (h : Heap) (a : Addr) (L : List K) : Prop :=
  ∃ o es ep t ks, h.get? a = some o ∧ o.ExactSet ∧ o.data = .set es ep t ∧ KsOf knd es.toList ks ∧ ks.Perm L ∧ L.Nodup ∧ es.size < scanBound ∧ t.fits es.size = true ∧ Ris t.place.toList ∧ (w.params.followText "set-order" = true ∨ t.led = true)
theorem SetG.at {h h' : Heap} {a : Addr} {L : List K} (R : SetG knd h a L) (k : ∀ o, h.get? a = some o → h'.get? a = some o) : SetG knd h' a L := by
  obtain ⟨o, es, ep, t, ks, ho, r⟩ := R
  exact ⟨o, es, ep, t, ks, k o ho, r⟩
variable {A : Around} {E : Value → Shared → Prop} {s : Shared} {a : Addr} {L : List K}
theorem setG_add_tail {g : Bool → Sem Unit} (hg : ∀ (b : Bool) (s₁ : Shared) (Q' : Unit → Shared → Prop), Q' () s₁ → wpAny (model P w) A (g b) Q' E s₁)
    {o : Obj} {es : Array (Int × Value)} {ep : Nat} {t : SetTable} (ho : s.heap.get? a = some o) (hex : o.ExactSet) (hd : o.data = .set es ep t)
    {es1 : Array (Int × Value)} {t2 : SetTable} {ks1 : List K} (g1 : KsOf knd es1.toList ks1) (p1 : ks1.Perm L) (nd1 : L.Nodup)
    (hb1 : es1.size < scanBound) (hf2 : t2.fits es1.size = true) (hr : Ris t2.place.toList) (hl : w.params.followText "set-order" = true ∨ t2.led = true) {wasDummy : Bool} {R : Option Bool → Shared → Prop}
    (hR : ∀ h', Heap.SameBut a s.heap h' → SetG knd h' a L → R (some true) { s with heap := h' }) :
    wpAny (model P w) A (do
        storeSet a es1 t2
        if (!wasDummy && t2.tooFull) = true then do
            g (relayAll t2 es1 (SetTable.grown es1.size)).2.2
            storeSet a (relayAll t2 es1 (SetTable.grown es1.size)).1 (relayAll t2 es1 (SetTable.grown es1.size)).2.1
            pure (some true)
          else pure (some true)) R E s := by
  refine wpAny_bind (wpAny_storeSet_of ho hd ?_ (fits_of_scanBound hb1))
  have ho1 := store_at (es' := es1) (t' := t2) ho hd
  have sb1 := Heap.SameBut.update s.heap a (Obj.putSet es1 t2)
  split
  · have pm := relayAll_perm t2 es1 (SetTable.grown es1.size)
    have hf3 := relayAll_fits t2 es1 (SetTable.grown es1.size)
    have hr3 := relayAll_ris t2 es1 (SetTable.grown es1.size)
    have hl3 := relayAll_led t2 es1 (SetTable.grown es1.size)
    generalize relayAll t2 es1 (SetTable.grown es1.size) = Z at pm hf3 hr3 hl3 ⊢
    obtain ⟨es2, t3, gave⟩ := Z
    dsimp only at pm hf3 hr3 hl3 ⊢
    have hsz : es2.size = es1.size := by rw [← Array.length_toList, pm.length_eq, Array.length_toList]
    have hb2 : es2.size < scanBound := by rw [hsz]; exact hb1
    refine wpAny_bind (hg _ _ _ ?_)
    refine wpAny_bind (wpAny_storeSet_of ho1 rfl ?_ (fits_of_scanBound hb2))
    have ho2 := store_at (es' := es2) (t' := t3) ho1 rfl
    obtain ⟨ks2, q2, p2⟩ := g1.perm pm.symm
    refine wpAny_pure (hR _ (sb1.trans (Heap.SameBut.update _ a _)) ?_)
    exact ⟨_, es2, _, t3, ks2, ho2, hex, rfl, q2, p2.symm.trans p1, nd1, hb2, hf3, hr3, hl.imp id fun z => by rw [hl3]; exact z⟩
  · exact wpAny_pure (hR _ sb1 ⟨_, es1, _, t2, ks1, ho1, hex, rfl, g1, p1, nd1, hb1, hf2, hr, hl⟩)
theorem setG_add_hashed {k : K} {x : Value} {Q : Bool → Shared → Prop} (hkey : knd.is k x = true) (hsc : x.scannable = true) (R : SetG knd s.heap a L) (room : L.length + 1 < scanBound)
    (hQ : ∀ b h', Heap.SameBut a s.heap h' → SetG knd h' a (if k ∈ L then L else k :: L) → Q b { s with heap := h' }) :
    wpAny (model P w) A (setAddHashed a x (knd.hash k)) Q E s := by
  obtain ⟨o, es, ep, t, ks, ho, hex, hd, g, pL, nd, hb, hf, hr, hl⟩ := R
  have hel : ElemsOf knd es.toList := g.elems
  unfold setAddHashed setAddHashedIn
  refine wpAny_holding (wpAny_bind (wpAny_setState_of ho hd hf ?_))
  dsimp only
  rw [byScan_of hsc hb hel]
  simp only [↓reduceIte]
  unfold setAddByScan
  refine wpAny_bind ?_
  refine wpAny_bind (wpAny_rule ?_)
  refine wpAny_bind (wpAny_setScan_of hkey ho hd hf hel ?_)
  cases hfi : List.findIdx? (fun e => knd.is k e.2) es.toList with
  | some j =>
    dsimp only
    obtain ⟨hj, pj, _⟩ := List.findIdx?_eq_some_iff_getElem.mp hfi
    have hk : k ∈ L := pL.mem_iff.mp ((g.mem k).mpr ⟨es.toList[j], List.getElem_mem hj, pj⟩)
    refine wpAny_pure (wpAny_pure ?_)
    refine hQ _ s.heap (Heap.SameBut.refl a s.heap) ?_
    rw [if_pos hk]
    exact ⟨o, es, ep, t, ks, ho, hex, hd, g, pL, nd, hb, hf, hr, hl⟩
  | none =>
    dsimp only
    have hnk : k ∉ L := fun z => by
      obtain ⟨e, he, q⟩ := (g.mem k).mp (pL.mem_iff.mpr z)
      have c := List.findIdx?_eq_none_iff.mp hfi e he
      rw [q] at c
      cases c
    have hgw : ∀ (b : Bool) {s₁ : Shared} {Q' : Unit → Shared → Prop}, Q' () s₁ → wpAny (model P w) A (match b with | true => rule "set.scan.the-table-gave-way" | false => pure ()) Q' E s₁ :=
      fun b s₁ Q' q => by cases b <;> first | exact wpAny_pure q | exact wpAny_rule q
    have pm := layNew_perm t es (knd.hash k) x
    have hf1 := layNew_fits t es (knd.hash k) x
    have hr1 := layNew_ris t es (knd.hash k) x hr
    have hl1 := layNew_led t es (knd.hash k) x
    generalize layNew t es (knd.hash k) x = Z at pm hf1 hr1 hl1 ⊢
    obtain ⟨es1, t1, wasDummy, gave⟩ := Z
    dsimp only at pm hf1 hr1 hl1 ⊢
    rw [Array.toList_push] at pm
    have pc : es1.toList.Perm ((knd.hash k, x) :: es.toList) := pm.trans (List.perm_append_singleton _ _)
    obtain ⟨ks1, g1, pk⟩ := KsOf.perm pc.symm (KsOf.cons (knd := knd) (e := (knd.hash k, x)) hkey rfl hsc g)
    have p1 : ks1.Perm (k :: L) := pk.symm.trans (pL.cons k)
    have nd1 : (k :: L).Nodup := List.nodup_cons.mpr ⟨hnk, nd⟩
    have hsz : es1.size = L.length + 1 := by rw [← Array.length_toList, ← g1.len, p1.length_eq, List.length_cons]
    have hb1 : es1.size < scanBound := by rw [hsz]; exact room
    have hled : w.params.followText "set-order" = true ∨ t1.led = true := hl.imp id fun z => by rw [hl1]; exact z
    have fin : ∀ b h', Heap.SameBut a s.heap h' → SetG knd h' a (k :: L) → Q b { s with heap := h' } := fun b h' sb r => hQ b h' sb (by rw [if_neg hnk]; exact r)
    refine wpAny_bind (hgw _ ?_)
    split
    · refine wpAny_bind ?_
      rw [hashByValue_scannable 8 hsc]
      refine wpAny_pure ?_
      refine setG_add_tail ?_ ho hex hd g1 p1 nd1 hb1 ?_ ?_ ?_ ?_
      · intro b s₁ Q' q; cases b <;> first | exact wpAny_pure q | exact wpAny_rule q
      · first | (split <;> first | exact hf1 | exact SetTable.fits_plain_off hf1) | exact hf1
      · first | (split <;> exact hr1) | exact hr1
      · first | (split <;> exact hled) | exact hled
      · intro h' sb r; dsimp only; exact wpAny_pure (fin _ h' sb r)
    · refine wpAny_bind (wpAny_pure ?_)
      simp only [↓reduceIte]
      refine setG_add_tail ?_ ho hex hd g1 p1 nd1 hb1 hf1 hr1 hled ?_
      · intro b s₁ Q' q; cases b <;> first | exact wpAny_pure q | exact wpAny_rule q
      · intro h' sb r; dsimp only; exact wpAny_pure (fin _ h' sb r)
theorem setG_new_at {h : Heap} (ho : h.get? a = some { cls := .type "set", dict := none, data := .set #[] 0 (.fresh 0 0 (!w.params.followText "set-order")) }) : SetG knd h a [] :=
  ⟨_, #[], 0, _, [], ho, ⟨rfl, rfl, rfl⟩, rfl, .nil, .refl _, List.nodup_nil, (by decide), (by rfl), List.Pairwise.nil, by
    show _ ∨ (!w.params.followText "set-order") = true
    cases w.params.followText "set-order"
    · exact .inr rfl
    · exact .inl rfl⟩
theorem set_update_keys {I : Addr} {fp wr : List Addr} {G : Array GenState → Array GenState → Prop} {n : Nat} {Pv : Nat → Value → Prop} {St : Nat → Shared → Prop} {R : Result → Shared → Prop}
    (W : WalksS P w A.in1 I fp wr G n Pv St) (S : Addr) (hSf : S ∉ fp) (ns : List K) (hn : n = ns.length) (hb : ns.length + 1 < scanBound) (hval : ∀ i v, Pv i v → ∃ k, ns[i]? = some k ∧ knd.is k v = true ∧ v.scannable = true) :
    ∀ (k i : Nat) (s : Shared), n - i = k → i ≤ n → St i s → (∃ L, SetG knd s.heap S L ∧ (∀ z, z ∈ L ↔ z ∈ ns.take i) ∧ L.length ≤ i) →
      (∀ s' L, Moved (S :: wr) G s s' → (∀ z, z ∈ L ↔ z ∈ ns) → SetG knd s'.heap S L → R (.ok (.ret .none)) s') →
      codeAny (model P w) A (.builtin "set.update.loop" ⟨[.ref S, .ref I], []⟩) R s := by
  have hSw : S ∉ wr := fun h => hSf (W.sub _ h)
  have hsub : ∀ b ∈ wr, b ∈ S :: wr := fun b hb => List.mem_cons_of_mem _ hb
  intro k
  induction k with
  | zero =>
    intro i s hk' hi hst ⟨L, hS, hm, hl⟩ hR
    have hin : i = n := by omega
    subst hin
    refine codeAny_builtin F.entry_set_update_loop ?_
    rw [Around.under_plainId F.plain_set_update_loop _]
    show wpAny _ A.in1 (pyNext (.ref I) >>= _) _ _ s
    refine wpAny_bind (W.done s _ _ hst fun s' hmv => ?_)
    show wpAny _ A.in1 (ret Value.none) _ _ s'
    have e : ns.take i = ns := List.take_of_length_le (by omega)
    rw [e] at hm
    exact wpAny_pure (hR s' L (hmv.mono hsub) hm (hS.at fun o e => hmv.heap S o hSw e))
  | succ k ih =>
    intro i s hk' hi hst ⟨L, hS, hm, hl⟩ hR
    have hlt : i < n := by omega
    refine codeAny_builtin F.entry_set_update_loop ?_
    rw [Around.under_plainId F.plain_set_update_loop _]
    show wpAny _ A.in1 (pyNext (.ref I) >>= _) _ _ s
    refine wpAny_bind (W.item i s _ _ hlt hst fun v s' hP hst' hmv => ?_)
    obtain ⟨z, hz, hkey, hsc⟩ := hval i v hP
    have hS' : SetG knd s'.heap S L := hS.at fun o e => hmv.heap S o hSw e
    show wpAny _ A.in1 (holding [v] (setAdd S v) >>= _) _ _ s'
    refine wpAny_bind (wpAny_holding ?_)
    unfold setAdd
    refine wpAny_holding ?_
    refine wpAny_bind (knd.pyHash (k := z) hkey ?_)
    refine setG_add_hashed (s := { s' with toks := s'.toks + 1 }) hkey hsc hS' (by omega) fun b h' hsb hS2 => ?_
    have hm2 : ∀ y, y ∈ (if z ∈ L then L else z :: L) ↔ y ∈ ns.take (i + 1) := fun y => by
      rw [List.take_add_one, hz, List.mem_append, ← hm y]
      have ez : y ∈ (some z).toList ↔ y = z := by simp
      rw [ez]
      by_cases c : z ∈ L
      · rw [if_pos c]
        exact ⟨.inl, fun q => q.elim id fun e => e ▸ c⟩
      · rw [if_neg c, List.mem_cons]
        exact Or.comm
    have hl2 : (if z ∈ L then L else z :: L).length ≤ i + 1 := by
      split
      · omega
      · rw [List.length_cons]; omega
    refine wpAny_pure ⟨plainId_quiet F.plain_set_update_loop _, ih (i + 1) _ (by omega) hlt (W.frame _ s' _ _ hst' (Nat.le_succ _) fun b hb o e => ?_) ⟨_, hS2, hm2, hl2⟩ fun s'' L2 hm'' hc'' hS'' => ?_⟩
    · rw [hsb.2 b (fun h : b = S => hSf (by rw [← h]; exact hb))]; exact e
    · refine hR s'' L2 (Moved.trans W.gtrans ((hmv.mono hsub).then_heap (Nat.le_succ _) fun b o hb e => ?_) hm'') hc'' hS''
      rw [hsb.2 b (fun h : b = S => hb (by rw [h]; exact List.mem_cons_self))]; exact e
end
end L2
set_option Elab.async false
set_option linter.all false
set_option maxRecDepth 100000
set_option maxHeartbeats 4000001
namespace L2
open PySem PySem.Spec PyProof.Rows
theorem each_get {α β : Type} {R : α → β → Prop} : ∀ {l : List α} {m : List β} {i : Nat} {v : α}, PySem.W.EachIs R l m → l[i]? = some v → ∃ k, m[i]? = some k ∧ R v k
  | _, _, _, _, .nil, e => by simp at e
  | _, _, 0, _, .cons h _, e => by
    have e : _ = _ := Option.some.inj e
    exact ⟨_, rfl, e ▸ h⟩
  | _, _, i + 1, _, .cons _ t, e => each_get (i := i) t e
section
variable {P : Program} {w : World} {K : Type} [DecidableEq K] {knd : KeyKind P w K} {A : Around} {E : Value → Shared → Prop} {s : Shared}
set_option maxRecDepth 100000 in
set_option maxHeartbeats 3200000 in
theorem call_set_tupG {l : Addr} {items : Array Value} (ns : List K) {Q : Value → Shared → Prop} (hh : A.handled = none) (hl : s.heap.IsTuple l items) (hit : PySem.W.EachIs (fun v k => knd.is k v = true ∧ v.scannable = true) items.toList ns) (hb : ns.length + 1 < scanBound)
    (h : ∀ (h' : Heap) (tk : Nat) (L : List K), SetG knd h' s.heap.objs.size L → (∀ z, z ∈ L ↔ z ∈ ns) → (∀ b o, s.heap.get? b = some o → h'.get? b = some o) → Q (.ref s.heap.objs.size) { s with heap := h', toks := tk }) :
    wpAny (model P w) A (call (.type "set") [.ref l]) Q E s := by
  have hisz : items.size = ns.length := by
    have q := PySem.W.EachIs.length hit
    rw [Array.length_toList] at q
    exact q
  obtain ⟨c, tl, hmro⟩ := F.called_set.mro
  have hmade := F.called_set.made
  have hsub := F.called_set.sub
  refine wpAny_call (codeAny_of_tree ?_)
  show wpAny _ _ (callAny (.type "set") _) _ _ _
  refine wpAny_pure ⟨Code.quiet_builtin _ (by decide +kernel), codeAny_builtin F.entry_type_call ?_⟩
  rw [Around.under_plain (weight_type_call_type "set" [.ref l] []) rfl]
  have h1 := F.called_set.notType
  have h2 := F.called_set.canCreate
  have hct := F.typeCall_set_1 (.ref l)
  repeat (any_goals (first | assumption | wp_step))

  refine codeAny_mono (code_set_led1 (.ref l) (E := E) (Q₁ := fun obj s₁ => obj = .ref s.heap.objs.size ∧ s₁ = { s with heap := s.heap.push { cls := .type "set", dict := none, data := .set #[] 0 (.fresh 0 0 (!w.params.followText "set-order")) } }) ⟨rfl, rfl⟩) fun r s₁ hr => ?_
  cases r with
  | error e => exact hr
  | ok fl =>
    cases fl with
    | ret obj =>
      obtain ⟨rfl, rfl⟩ := hr
      have hS : (s.heap.push { cls := .type "set", dict := none, data := .set #[] 0 (.fresh 0 0 (!w.params.followText "set-order")) }).get? s.heap.objs.size = some { cls := .type "set", dict := none, data := .set #[] 0 (.fresh 0 0 (!w.params.followText "set-order")) } := Heap.get?_push_size _ rfl
      have hT : Shared.TypeIs { s with heap := s.heap.push { cls := .type "set", dict := none, data := .set #[] 0 (.fresh 0 0 (!w.params.followText "set-order")) } } (.ref s.heap.objs.size) "set" := ⟨_, hS, rfl⟩
      have hli := F.called_set.init.lookup
      have hbi := F.called_set.init.bind (.ref s.heap.objs.size)
      repeat (any_goals (first | assumption | wp_step))

      refine codeAny_mono (codeAny_call_builtin (R := wants (fun r s₂ => r = .none ∧ ∃ h' tk, ∃ L : List K, s₂ = { s with heap := h', toks := tk } ∧ SetG knd h' s.heap.objs.size L ∧ (∀ z, z ∈ L ↔ z ∈ ns) ∧
          (∀ b o, s.heap.get? b = some o → h'.get? b = some o)) E) F.called_set.init.plain F.entry_set_init (check_set_init_1 hT ?_)) fun r₂ s₂ hr₂ => ?_
      · obtain ⟨ol, hol, hcl, nl, hdl⟩ := hl
        obtain ⟨ocls, odict, odata, oslots⟩ := ol
        simp only at hcl hdl
        subst hcl; subst hdl
        have hol' : (s.heap.push { cls := .type "set", dict := none, data := .set #[] 0 (.fresh 0 0 (!w.params.followText "set-order")) }).get? l = some { cls := .type "tuple", dict := odict, data := .seq items nl, slots := oslots } := Heap.get?_push_of_some _ hol
        have hsls := F.sub_tuple_set
        have hslf := F.sub_tuple_frozenset
        have hne : (Value.type "tuple" == Value.type "dict") = false := by decide
        have hl1 : (s.heap.push { cls := .type "set", dict := none, data := .set #[] 0 (.fresh 0 0 (!w.params.followText "set-order")) }).IsTuple l items := ⟨_, hol', rfl, nl, rfl⟩
        unfold Builtin.«set.__init__» noKeywords Builtin.Frozenset.updateFrom
        generalize hPI : pyIter = PI
        wp_walk
        subst hPI

        refine wpAny_pyIter_tuple hl1 ?_
        refine wpAny_bind (wpAny_runValue ?_)
        have hlS : l < s.heap.objs.size := Heap.lt_size hol
        have hh3 : A.in1.in1.in1.handled = none := by simp [hh]
        have hz1 : (s.heap.push { cls := .type "set", dict := none, data := .set #[] 0 (.fresh 0 0 (!w.params.followText "set-order")) }).objs.size = s.heap.objs.size + 1 := Heap.size_push ..
        have hneI : l ≠ (s.heap.push { cls := .type "set", dict := none, data := .set #[] 0 (.fresh 0 0 (!w.params.followText "set-order")) }).objs.size := by
          rw [Heap.size_push]; exact Nat.ne_of_lt (Nat.lt_succ_of_lt hlS)
        have hSf : s.heap.objs.size ∉ [(s.heap.push { cls := .type "set", dict := none, data := .set #[] 0 (.fresh 0 0 (!w.params.followText "set-order")) }).objs.size, l] := by
          rw [Heap.size_push]; simp only [List.mem_cons, List.mem_singleton, List.not_mem_nil, or_false, not_or]
          exact ⟨Nat.ne_of_lt (Nat.lt_succ_self _), Nat.ne_of_gt hlS⟩
        have hval : ∀ (i : Nat) (v : Value), items[i]? = some v → ∃ k, ns[i]? = some k ∧ knd.is k v = true ∧ v.scannable = true := fun i v hv => by
          obtain ⟨k, e, q⟩ := each_get hit (by rw [Array.getElem?_toList]; exact hv)
          exact ⟨k, e, q⟩
        refine set_update_keys ((Walks.tuple hh3 _ l hneI items).toS) s.heap.objs.size
          hSf ns hisz hb hval (items.size - 0) 0 _ (by omega) (Nat.zero_le _)
          ⟨⟨_, Heap.get?_push_size _ rfl, rfl, rfl⟩, (hl1.push _)⟩ ?hS0 ?hR
        case hS0 =>
          have hget : ((s.heap.push { cls := .type "set", dict := none, data := .set #[] 0 (.fresh 0 0 (!w.params.followText "set-order")) }).push { cls := .type "tuple_iterator", data := .fields #[.ref l, .int 0 0] }).get? s.heap.objs.size
              = some { cls := .type "set", dict := none, data := .set #[] 0 (.fresh 0 0 (!w.params.followText "set-order")) } := Heap.get?_push_of_some _ hS
          exact ⟨[], setG_new_at hget, (fun z => by simp), Nat.le_refl 0⟩
        case hR =>
          intro s' L' hm hc' hS'
          obtain ⟨h', g2, d', tk', os'⟩ := s'
          have eg : g2 = s.gens := hm.gens
          have ed : d' = s.drawn := hm.drawn
          have eo : os' = s.os := hm.os
          subst eg; subst ed; subst eo
          show wpAny _ _ _ _ _ _
          refine wpAny_pure ?_
          show wpAny _ _ (ret Value.none) _ _ _
          refine wpAny_pure ⟨rfl, h', tk', L', rfl, hS', hc', fun b o e => ?_⟩
          have hb0 : b < s.heap.objs.size := Heap.lt_size e
          have hb1 : b ≠ s.heap.objs.size := Nat.ne_of_lt hb0
          have hb2 : b ≠ (s.heap.push { cls := .type "set", dict := none, data := .set #[] 0 (.fresh 0 0 (!w.params.followText "set-order")) }).objs.size := by
            rw [Heap.size_push]; exact Nat.ne_of_lt (Nat.lt_succ_of_lt hb0)
          exact hm.heap b o (by simp only [List.mem_cons, List.mem_singleton, List.not_mem_nil, or_false, not_or]; exact ⟨hb1, hb2⟩) (Heap.get?_push_of_some _ (Heap.get?_push_of_some _ e))

      · cases r₂ with
        | error e => exact hr₂
        | ok fl₂ =>
          cases fl₂ with
          | ret r =>
            obtain ⟨rfl, h', tk, L', rfl, hS', hc', hk'⟩ := hr₂
            repeat (any_goals (first | assumption | wp_step))
            exact h _ _ _ hS' hc' hk'
          | _ => exact hr₂.elim
    | _ => exact hr.elim
set_option maxRecDepth 100000 in
set_option maxHeartbeats 3200000 in
theorem call_set_lstG {l : Addr} {items : Array Value} (ns : List K) {Q : Value → Shared → Prop} (hh : A.handled = none) (hl : s.heap.IsList l items) (hit : PySem.W.EachIs (fun v k => knd.is k v = true ∧ v.scannable = true) items.toList ns) (hb : ns.length + 1 < scanBound)
    (h : ∀ (h' : Heap) (tk : Nat) (L : List K), SetG knd h' s.heap.objs.size L → (∀ z, z ∈ L ↔ z ∈ ns) → (∀ b o, s.heap.get? b = some o → h'.get? b = some o) → Q (.ref s.heap.objs.size) { s with heap := h', toks := tk }) :
    wpAny (model P w) A (call (.type "set") [.ref l]) Q E s := by
  have hisz : items.size = ns.length := by
    have q := PySem.W.EachIs.length hit
    rw [Array.length_toList] at q
    exact q
  obtain ⟨c, tl, hmro⟩ := F.called_set.mro
  have hmade := F.called_set.made
  have hsub := F.called_set.sub
  refine wpAny_call (codeAny_of_tree ?_)
  show wpAny _ _ (callAny (.type "set") _) _ _ _
  refine wpAny_pure ⟨Code.quiet_builtin _ (by decide +kernel), codeAny_builtin F.entry_type_call ?_⟩
  rw [Around.under_plain (weight_type_call_type "set" [.ref l] []) rfl]
  have h1 := F.called_set.notType
  have h2 := F.called_set.canCreate
  have hct := F.typeCall_set_1 (.ref l)
  repeat (any_goals (first | assumption | wp_step))

  refine codeAny_mono (code_set_led1 (.ref l) (E := E) (Q₁ := fun obj s₁ => obj = .ref s.heap.objs.size ∧ s₁ = { s with heap := s.heap.push { cls := .type "set", dict := none, data := .set #[] 0 (.fresh 0 0 (!w.params.followText "set-order")) } }) ⟨rfl, rfl⟩) fun r s₁ hr => ?_
  cases r with
  | error e => exact hr
  | ok fl =>
    cases fl with
    | ret obj =>
      obtain ⟨rfl, rfl⟩ := hr
      have hS : (s.heap.push { cls := .type "set", dict := none, data := .set #[] 0 (.fresh 0 0 (!w.params.followText "set-order")) }).get? s.heap.objs.size = some { cls := .type "set", dict := none, data := .set #[] 0 (.fresh 0 0 (!w.params.followText "set-order")) } := Heap.get?_push_size _ rfl
      have hT : Shared.TypeIs { s with heap := s.heap.push { cls := .type "set", dict := none, data := .set #[] 0 (.fresh 0 0 (!w.params.followText "set-order")) } } (.ref s.heap.objs.size) "set" := ⟨_, hS, rfl⟩
      have hli := F.called_set.init.lookup
      have hbi := F.called_set.init.bind (.ref s.heap.objs.size)
      repeat (any_goals (first | assumption | wp_step))

      refine codeAny_mono (codeAny_call_builtin (R := wants (fun r s₂ => r = .none ∧ ∃ h' tk, ∃ L : List K, s₂ = { s with heap := h', toks := tk } ∧ SetG knd h' s.heap.objs.size L ∧ (∀ z, z ∈ L ↔ z ∈ ns) ∧
          (∀ b o, s.heap.get? b = some o → h'.get? b = some o)) E) F.called_set.init.plain F.entry_set_init (check_set_init_1 hT ?_)) fun r₂ s₂ hr₂ => ?_
      · obtain ⟨ol, hol, hcl, nl, hdl⟩ := hl
        obtain ⟨ocls, odict, odata, oslots⟩ := ol
        simp only at hcl hdl
        subst hcl; subst hdl
        have hol' : (s.heap.push { cls := .type "set", dict := none, data := .set #[] 0 (.fresh 0 0 (!w.params.followText "set-order")) }).get? l = some { cls := .type "list", dict := odict, data := .seq items nl, slots := oslots } := Heap.get?_push_of_some _ hol
        have hsls := F.sub_list_set
        have hslf := F.sub_list_frozenset
        have hne : (Value.type "list" == Value.type "dict") = false := by decide
        have hl1 : (s.heap.push { cls := .type "set", dict := none, data := .set #[] 0 (.fresh 0 0 (!w.params.followText "set-order")) }).IsList l items := ⟨_, hol', rfl, nl, rfl⟩
        unfold Builtin.«set.__init__» noKeywords Builtin.Frozenset.updateFrom
        generalize hPI : pyIter = PI
        wp_walk
        subst hPI

        refine wpAny_pyIter_list hl1 ?_
        refine wpAny_bind (wpAny_runValue ?_)
        have hlS : l < s.heap.objs.size := Heap.lt_size hol
        have hh3 : A.in1.in1.in1.handled = none := by simp [hh]
        have hz1 : (s.heap.push { cls := .type "set", dict := none, data := .set #[] 0 (.fresh 0 0 (!w.params.followText "set-order")) }).objs.size = s.heap.objs.size + 1 := Heap.size_push ..
        have hneI : l ≠ (s.heap.push { cls := .type "set", dict := none, data := .set #[] 0 (.fresh 0 0 (!w.params.followText "set-order")) }).objs.size := by
          rw [Heap.size_push]; exact Nat.ne_of_lt (Nat.lt_succ_of_lt hlS)
        have hSf : s.heap.objs.size ∉ [(s.heap.push { cls := .type "set", dict := none, data := .set #[] 0 (.fresh 0 0 (!w.params.followText "set-order")) }).objs.size, l] := by
          rw [Heap.size_push]; simp only [List.mem_cons, List.mem_singleton, List.not_mem_nil, or_false, not_or]
          exact ⟨Nat.ne_of_lt (Nat.lt_succ_self _), Nat.ne_of_gt hlS⟩
        have hval : ∀ (i : Nat) (v : Value), items[i]? = some v → ∃ k, ns[i]? = some k ∧ knd.is k v = true ∧ v.scannable = true := fun i v hv => by
          obtain ⟨k, e, q⟩ := each_get hit (by rw [Array.getElem?_toList]; exact hv)
          exact ⟨k, e, q⟩
        refine set_update_keys ((Walks.list hh3 _ l hneI items).toS) s.heap.objs.size
          hSf ns hisz hb hval (items.size - 0) 0 _ (by omega) (Nat.zero_le _)
          ⟨⟨_, Heap.get?_push_size _ rfl, rfl, rfl⟩, (hl1.push _)⟩ ?hS0 ?hR
        case hS0 =>
          have hget : ((s.heap.push { cls := .type "set", dict := none, data := .set #[] 0 (.fresh 0 0 (!w.params.followText "set-order")) }).push { cls := .type "list_iterator", data := .fields #[.ref l, .int 0 0] }).get? s.heap.objs.size
              = some { cls := .type "set", dict := none, data := .set #[] 0 (.fresh 0 0 (!w.params.followText "set-order")) } := Heap.get?_push_of_some _ hS
          exact ⟨[], setG_new_at hget, (fun z => by simp), Nat.le_refl 0⟩
        case hR =>
          intro s' L' hm hc' hS'
          obtain ⟨h', g2, d', tk', os'⟩ := s'
          have eg : g2 = s.gens := hm.gens
          have ed : d' = s.drawn := hm.drawn
          have eo : os' = s.os := hm.os
          subst eg; subst ed; subst eo
          show wpAny _ _ _ _ _ _
          refine wpAny_pure ?_
          show wpAny _ _ (ret Value.none) _ _ _
          refine wpAny_pure ⟨rfl, h', tk', L', rfl, hS', hc', fun b o e => ?_⟩
          have hb0 : b < s.heap.objs.size := Heap.lt_size e
          have hb1 : b ≠ s.heap.objs.size := Nat.ne_of_lt hb0
          have hb2 : b ≠ (s.heap.push { cls := .type "set", dict := none, data := .set #[] 0 (.fresh 0 0 (!w.params.followText "set-order")) }).objs.size := by
            rw [Heap.size_push]; exact Nat.ne_of_lt (Nat.lt_succ_of_lt hb0)
          exact hm.heap b o (by simp only [List.mem_cons, List.mem_singleton, List.not_mem_nil, or_false, not_or]; exact ⟨hb1, hb2⟩) (Heap.get?_push_of_some _ (Heap.get?_push_of_some _ e))

      · cases r₂ with
        | error e => exact hr₂
        | ok fl₂ =>
          cases fl₂ with
          | ret r =>
            obtain ⟨rfl, h', tk, L', rfl, hS', hc', hk'⟩ := hr₂
            repeat (any_goals (first | assumption | wp_step))
            exact h _ _ _ hS' hc' hk'
          | _ => exact hr₂.elim
    | _ => exact hr.elim
end
end L2
set_option Elab.async false
set_option linter.all false
set_option maxRecDepth 100000
set_option maxHeartbeats 2000001
namespace Pl
open PySem L2 LamX NdefX PyProof.Rows GenW PySem.W PySem.Calls
section
variable {P : Program} {w : World} {A : Around} {E : Value → Shared → Prop} {s : Shared} {a : Addr} {L : List Str}
theorem nodup_len {α : Type} [DecidableEq α] : ∀ {l m : List α}, l.Nodup → (∀ z ∈ l, z ∈ m) → l.length ≤ m.length
  | [], _, _, _ => Nat.zero_le _
  | x :: l, m, nd, h => by
    obtain ⟨n1, n2⟩ := List.nodup_cons.mp nd
    have hx := h x List.mem_cons_self
    have := nodup_len n2 (m := m.erase x) fun z hz => (List.mem_erase_of_ne (fun e => by subst e; exact n1 hz)).mpr (h z (List.mem_cons_of_mem _ hz))
    rw [List.length_erase_of_mem hx] at this
    have := List.length_pos_of_mem hx
    rw [List.length_cons]
    omega
theorem each_strs : ∀ {vs : List Value} {ks : List Str}, EachIs (fun v k => (strKind P w).is k v = true) vs ks → EachIs (fun v k => ∃ t, v = Value.str k t) vs ks
  | _, _, .nil => .nil
  | _, _, .cons h t => .cons (Value.isStrOf_shape h) (each_strs t)
theorem each_perm {α β : Type} {R : α → β → Prop} {l l' : List α} (p : l.Perm l') : ∀ {m : List β}, EachIs R l m → ∃ m', EachIs R l' m' ∧ m.Perm m' := by
  induction p with
  | nil => intro m h; exact ⟨m, h, .refl _⟩
  | cons x _ ih =>
    intro m h
    cases h with
    | cons h1 t =>
      obtain ⟨m', q, p⟩ := ih t
      exact ⟨_, .cons h1 q, p.cons _⟩
  | swap x y l =>
    intro m h
    cases h with
    | cons h1 t =>
      cases t with
      | cons h2 t => exact ⟨_, .cons h2 (.cons h1 t), .swap ..⟩
  | trans _ _ ih1 ih2 =>
    intro m h
    obtain ⟨m1, q1, p1⟩ := ih1 h
    obtain ⟨m2, q2, p2⟩ := ih2 q1
    exact ⟨m2, q2, p1.trans p2⟩
theorem strs_alike (ks : List Str) : AllAlike (ks.map PyData.str) := fun d hd d' hd' => by
  obtain ⟨x, _, rfl⟩ := List.mem_map.mp hd
  obtain ⟨y, _, rfl⟩ := List.mem_map.mp hd'
  trivial
/-- sorted of a set of texts -/
theorem sorted_setS (R : SetG (strKind P w) s.heap a L) (hh : A.handled = none) (hL : L.length ≤ 1000) (hu : A.units + 64 < cLine)
    (hQ : ∀ s' p (out : Array Value) (c : Nat) (ks : List Str), (∀ b o, s.heap.get? b = some o → s'.heap.get? b = some o) → s'.gens = s.gens → s'.os = s.os → s.heap.objs.size ≤ p →
      s'.heap.get? p = some (seqObj "list" out c) → ks.Perm L → EachIs (fun v k => ∃ t, v = Value.str k t) out.toList (ks.mergeSort (dataLe false PyData.str)) → Q (.ref p) s') :
    wpAny (model P w) A (call (.builtin "sorted") [.ref a]) Q E s := by
  obtain ⟨o, es, ep, t, ks0, ho, hex, hd, g, pL, nd, hb, hf, hr, hl⟩ := R
  refine Calls.call_function_entry kind_sorted plain_sorted entry_sorted (args_sorted1 _) ?_
  unfold Builtin.«sorted»
  refine wpAny_bind (m := checkCount "sorted" 1 1 _) (wpAny_pure ?_)
  refine wpAny_bind (collect_set (A := A.in1) hh ⟨o, ho, hex.1, hd⟩ hf hb hr hl fun s1 vs k1 hz g1 o1 pm => ?_)
  obtain ⟨ks, e0, pk⟩ := each_perm pm.symm g.vals
  have e := each_strs e0
  have hkl : ks.length = L.length := (pk.symm.trans pL).length_eq
  have hvl : vs.length = L.length := by rw [e.length]; exact hkl
  refine wpAny_bind (wpAny_newList ?_ (by rw [hvl, sizeLine_eq]; omega))
  have hoL : (s1.heap.push (seqObj "list" vs.toArray 0)).get? s1.heap.objs.size = some (seqObj "list" vs.toArray 0) := Heap.get?_push_size _ rfl
  have er : EachIs (fun v b => ∃ as, Reads (sortingHeap (s1.heap.push (seqObj "list" vs.toArray 0)) s1.heap.objs.size vs) v (PyData.str b) as) vs ks := e.mono fun v k ⟨t, q⟩ => ⟨[], by rw [q]; exact .str _ _⟩
  refine wpAny_bind (wpAny_holding (wpAny_call_entry slot_list_sort ⟨_, hoL, rfl⟩ entry_list_sort (list_sort_vals (s := { s1 with heap := s1.heap.push (seqObj "list" vs.toArray 0) }) hoL
    (SortsAt.data (s := { s1 with heap := sortingHeap (s1.heap.push (seqObj "list" vs.toArray 0)) s1.heap.objs.size vs }) (each_map (R := fun v d => ∃ as, Reads (sortingHeap (s1.heap.push (seqObj "list" vs.toArray 0)) s1.heap.objs.size vs) v d as) PyData.str er) (strs_alike ks) (.inr fun d hd => ?_) (fun d hd => ?_)) (by rw [hvl, sizeLine_eq]; omega) ⟨_, rfl, ?_⟩) (args_list_sort _)))
  · obtain ⟨x, _, rfl⟩ := List.mem_map.mp hd
    exact ⟨fun z => by (cases z), fun _ z => by (cases z)⟩
  · obtain ⟨x, _, rfl⟩ := List.mem_map.mp hd
    show A.units + 2 + 0 < cLine
    omega
  · obtain ⟨c, hc⟩ := sortedHeap_at (vs := vs) (out := (sortVals (dataKind (sortingHeap (s1.heap.push (seqObj "list" vs.toArray 0)) s1.heap.objs.size vs) (ks.map PyData.str)) false vs vs).toArray) hoL
    refine wpAny_pure ⟨_, rfl, hQ _ s1.heap.objs.size _ c ks (fun b u e => ?_) g1 o1 hz hc (pk.symm.trans pL) (sortVals_data false e er (strs_alike ks))⟩
    have q := k1 b u e
    have hlt := Heap.lt_size q
    show (sortedHeap (s1.heap.push (seqObj "list" vs.toArray 0)) s1.heap.objs.size vs _).get? b = some u
    rw [sortedHeap_old (Nat.ne_of_lt hlt) (by rw [size_push']; exact Nat.lt_succ_of_lt hlt)]
    exact Heap.get?_push_of_some _ q
end
def SetSO (P : Program) (w : World) (a : Addr) (L : List Str) : HO := .ext fun h => SetG (strKind P w) h a L
theorem setSO_new {P : Program} {w : World} {H : Hp} {h : Heap} {a : Addr} {L : List Str} (R : SetG (strKind P w) h a L) : ObjOk P w H h a (SetSO P w a L) := by
  have ⟨o, _, _, _, _, ho, _⟩ := R
  exact ⟨R, ⟨o, ho⟩, fun h1 h2 p k => SetG.at p k⟩
section
variable {X : Cx} {pins : List (Addr × Obj)} {σ : L2.St} {H : Hp} {s : Shared}
theorem setSO_get {a : Addr} {L : List Str} (I : Inv X pins σ H s) (ha : H a = some (SetSO X.prog X.w a L)) : SetG (strKind X.prog X.w) s.heap a L := (I.hok a _ ha).1
theorem each_sk {P : Program} {w : World} : ∀ {ks : List Str} {us : List Value}, Vals (ks.map V.str) us → EachIs (fun v k => (strKind P w).is k v = true ∧ v.scannable = true) us ks
  | [], _, .nil => .nil
  | k :: ks, _, .cons r t => by
    obtain ⟨x, rfl⟩ := r
    exact .cons ⟨strKind_is _ _ _ _, rfl⟩ (each_sk t)
/-- set(x), x a list or a tuple of texts -/
def rSetS (K : PySem.W.Frag) (P : Program) (w : World) : List V → Hp → VK → Prop := fun vs H Q => ∃ (v : V) (ns : List Str), vs = [v] ∧ (Dp K H v (.list (ns.map .str)) ∨ Dp K H v (.tuple (ns.map .str))) ∧ ns.length ≤ 1000 ∧
  ∀ (p : Addr) (L : List Str), L.Nodup → (∀ z, z ∈ L ↔ z ∈ ns) → H p = none → Q (.ref p) (upd H p (SetSO P w p L))
theorem setG_nd {P : Program} {w : World} {h : Heap} {a : Addr} {L : List Str} (R : SetG (strKind P w) h a L) : L.Nodup := by
  obtain ⟨_, _, _, _, _, _, _, _, _, _, nd, _⟩ := R
  exact nd
theorem cr_setS (hc : X.calm = true) : CallR X (.type "set") (rSetS X.K X.prog X.w) := by
  intro pins s σ H xs us Q I r h
  obtain ⟨v, ns, rfl, hv, hn, q⟩ := h
  obtain ⟨u, rfl, rv⟩ := vals1 r
  have fin : ∀ (h' : Heap) (tk : Nat) (L : List Str), SetG (strKind X.prog X.w) h' s.heap.objs.size L → (∀ z, z ∈ L ↔ z ∈ ns) → (∀ b o, s.heap.get? b = some o → h'.get? b = some o) → EP X pins σ Q (.ref s.heap.objs.size) { s with heap := h', toks := tk } := fun h' tk L R1 hm k =>
    ⟨.ref _, _, I.laid (t' := tk) k (Nat.le_refl _) (setSO_new R1), rfl, q _ L (setG_nd R1) hm (I.hok.fresh (Nat.le_refl _))⟩
  rcases hv with hv | hv
  · obtain ⟨a, xs, rfl, hs, ha⟩ := (by cases hv with | lst hs ha => exact ⟨_, _, rfl, hs, ha⟩ : ∃ a xs, v = .ref a ∧ SqL X.K H a xs ∧ DpAll X.K H xs (ns.map .str))
    rw [da_strs ha] at hs
    cases rv
    obtain ⟨its, rv, pt, hz⟩ := I.list hs
    exact call_set_lstG (knd := strKind X.prog X.w) ns (I.ok.hd hc) pt.isList (each_sk rv) (by unfold scanBound; omega) fin
  · obtain ⟨a, xs, rfl, hs, ha⟩ := (by cases hv with | tup hs ha => exact ⟨_, _, rfl, hs, ha⟩ : ∃ a xs, v = .ref a ∧ SqT X.K H a xs ∧ DpAll X.K H xs (ns.map .str))
    rw [da_strs ha] at hs
    cases rv
    obtain ⟨its, rv, pt, hz⟩ := I.tuple hs
    exact call_set_tupG (knd := strKind X.prog X.w) ns (I.ok.hd hc) (show s.heap.IsTuple a its.toArray from pt) (each_sk rv) (by unfold scanBound; omega) fin
/-- len of a set of texts -/
def rLenS (P : Program) (w : World) : List V → Hp → VK → Prop := fun vs H Q => ∃ (a : Addr) (L : List Str), vs = [.ref a] ∧ H a = some (SetSO P w a L) ∧ Q (.int L.length) H
theorem cr_lenS : CallR X (.builtin "len") (rLenS X.prog X.w) := by
  intro pins s σ H xs us Q I r h
  obtain ⟨a, L, rfl, ha, q⟩ := h
  obtain ⟨o, es, ep, t, ks, ho, hex, hd, g, pL, nd, hb, hf, _⟩ := setSO_get I ha
  rw [Vals.ref1 r]
  have hl : es.size = L.length := by rw [← Array.length_toList, ← g.len, pL.length_eq]
  refine call_len_set ho hex hd hf (by unfold scanBound at hb; omega) ⟨.int L.length, H, I.tok _, ⟨_, by rw [hl]⟩, q⟩
/-- sorted of a set of texts -/
def rSortedS (K : PySem.W.Frag) (P : Program) (w : World) : List V → Hp → VK → Prop := fun vs H Q => ∃ (a : Addr) (L : List Str), vs = [V.ref a] ∧ H a = some (SetSO P w a L) ∧ L.length ≤ 1000 ∧
  ∀ (p : Addr) (ks : List Str), ks.Perm L → H p = none → Q (.ref p) (upd H p (.lst ((ks.mergeSort (dataLe false PyData.str)).map V.str)))
theorem vals_strs : ∀ {ks : List Str} {us : List Value}, EachIs (fun v k => ∃ t, v = Value.str k t) us ks → Vals (ks.map V.str) us
  | _, _, .nil => .nil
  | _, _, .cons ⟨t, h⟩ r => .cons ⟨t, h⟩ (vals_strs r)
theorem cr_sortedS (hc : X.calm = true) (hu : X.A.units + 64 < cLine) : CallR X (.builtin "sorted") (rSortedS X.K X.prog X.w) := by
  intro pins s σ H vs us Q I r h
  obtain ⟨a, L, rfl, ha, hn, q⟩ := h
  have R := setSO_get I ha
  rw [Vals.ref1 r]
  refine sorted_setS R (I.ok.hd hc) hn hu fun s' p out c ks k g o hp hg pk he => ?_
  have hlen : ((ks.mergeSort (dataLe false PyData.str)).map V.str).length ≤ sizeLine := by rw [List.length_map, (List.mergeSort_perm _ _).length_eq, pk.length_eq, sizeLine_eq]; omega
  have J : Inv X pins σ (upd H p (.lst ((ks.mergeSort (dataLe false PyData.str)).map V.str))) { s with heap := s'.heap, gens := s'.gens, drawn := s'.drawn, toks := s'.toks } :=
    I.call (ch := []) (Un.laid k hp (I.hok.fresh hp)) (I.hok.laid k hp ⟨hlen, out.toList, c, vals_strs he, hg⟩) (by rw [g]; exact I.bare) (fun _ z => nomatch z)
  have e : s' = { s with heap := s'.heap, gens := s'.gens, drawn := s'.drawn, toks := s'.toks } := by
    cases s'
    cases s
    cases o
    rfl
  rw [e]
  exact ⟨.ref p, _, J, rfl, q p ks pk (I.hok.fresh hp)⟩
end
section
variable {K : PySem.W.Frag} {T : List NTab} {PP : Program} {w : World} {δ : List Sl} {te : TE} {P : R → List Sl → Prop}
theorem dp_strs {H : Hp} : ∀ ks : List Str, DpAll K H (ks.map V.str) (ks.map .str)
  | [] => .nil
  | k :: ks => .cons (.str k) (dp_strs ks)
theorem imm_strl (ks : List Str) : immAll (ks.map PyData.str) = true := by
  induction ks with
  | nil => rfl
  | cons k ks ih => exact ih
/-- sorted(set(x)) -/
theorem ex_sortSetS (h : Ex K T te δ fun r δ1 => ∃ ns : List Str, (AsD δ1 r (.list (ns.map .str)) ∨ AsD δ1 r (.tuple (ns.map .str))) ∧ ns.length ≤ 1000 ∧
      ∀ L ks : List Str, L.Nodup → (∀ z, z ∈ L ↔ z ∈ ns) → ks.Perm L → P (.new (.lst ((ks.mergeSort (dataLe false PyData.str)).map .str))) δ1) :
    Ex K T (tCB (rSortedS K PP w) (tCons (tCB (rSetS K PP w) (tCons te tNil)) tNil)) δ P := fun B H σ s Q k =>
  h B H σ s _ fun v H1 r δ1 B1 R1 ⟨ns, a, hl, p⟩ => by
    obtain ⟨C, rfl⟩ := R1.bx.suf
    refine ⟨v, ns, rfl, a.imp (fun a => R1.vr.dp R1.s a) (fun a => R1.vr.dp R1.s a), hl, fun q L nd hm hq => ?_⟩
    have hle : L.length ≤ ns.length := nodup_len nd fun z m => (hm z).mp m
    refine ⟨q, L, rfl, upd_same, by omega, fun q2 ks pk hq2 => ?_⟩
    have s1 := R1.s.dropAll
    have g1 := R1.go.less ow_suf
    have s2 := s1.laid (o := SetSO PP w q L) hq
    have g2 := g1.trans (go_upd (A := ow δ1 B) (o := SetSO PP w q L) hq)
    exact (out_rs (P := P) s2 g2 k).lst q2 _ _ hq2 (dp_strs _) (imm_strl _) (p L ks nd hm pk)
/-- len(set(x)) -/
theorem ex_lenSetS (h : Ex K T te δ fun r δ1 => ∃ ns : List Str, (AsD δ1 r (.list (ns.map .str)) ∨ AsD δ1 r (.tuple (ns.map .str))) ∧ ns.length ≤ 1000 ∧
      ∀ L : List Str, L.Nodup → (∀ z, z ∈ L ↔ z ∈ ns) → P (.val (.int L.length)) δ1) :
    Ex K T (tCB (rLenS PP w) (tCons (tCB (rSetS K PP w) (tCons te tNil)) tNil)) δ P := fun B H σ s Q k =>
  h B H σ s _ fun v H1 r δ1 B1 R1 ⟨ns, a, hl, p⟩ => by
    obtain ⟨C, rfl⟩ := R1.bx.suf
    refine ⟨v, ns, rfl, a.imp (fun a => R1.vr.dp R1.s a) (fun a => R1.vr.dp R1.s a), hl, fun q L nd hm hq => ?_⟩
    refine ⟨q, L, rfl, upd_same, ?_⟩
    have s1 := R1.s.dropAll
    have g1 := R1.go.less ow_suf
    have s2 := s1.laid (o := SetSO PP w q L) hq
    have g2 := g1.trans (go_upd (A := ow δ1 B) (o := SetSO PP w q L) hq)
    exact (out_rs (P := P) s2 g2 k).val (.int L.length) _ (.int _) (p L nd hm)
end
end Pl
set_option Elab.async false
set_option linter.all false
set_option maxRecDepth 100000
set_option maxHeartbeats 1000001
namespace Pl
open PySem L2 LamX NdefX PyProof.Rows GenW PySem.W PySem.Calls
def repS (x : Str) (k : Nat) : Str := ⟨(List.replicate k x.cps).foldl (· ++ ·) #[]⟩
theorem rep_fold (a : Array Nat) : ∀ (k : Nat) (b : Array Nat), ((List.replicate k a).foldl (· ++ ·) b).toList = b.toList ++ (List.replicate k a.toList).flatten
  | 0, b => by simp
  | k + 1, b => by
    rw [List.replicate_succ, List.foldl_cons, rep_fold a k, Array.toList_append, List.append_assoc, List.replicate_succ, List.flatten_cons]
theorem repS_tl (x : Str) (k : Nat) : (repS x k).cps.toList = (List.replicate k x.cps.toList).flatten := by
  show ((List.replicate k x.cps).foldl (· ++ ·) #[]).toList = _
  rw [rep_fold]
  rfl
theorem str_tl {x y : Str} (h : x.cps.toList = y.cps.toList) : x = y := by
  cases x with
  | mk a =>
    cases y with
    | mk b =>
      have e : a = b := by
        have h : a.toList = b.toList := h
        rw [← Array.toArray_toList (xs := a), h, Array.toArray_toList]
      rw [e]
def rMulS : R2 := fun x y H Q => ∃ (a : Str) (n : Int), x = .str a ∧ y = .int n ∧ n < 1000000 ∧ -1000000 < n ∧ a.length * n.toNat ≤ 1000000 ∧ Q (.str (repS a n.toNat)) H
theorem op_mulS {X : Cx} : OpR X (binaryOp .Mult) rMulS := by
  intro pins s σ H x y v u Q I rx ry h
  obtain ⟨a, n, rfl, rfl, h1, h2, hl, q⟩ := h
  obtain ⟨t, rfl⟩ := rx
  obtain ⟨t', rfl⟩ := ry
  refine P.mul_str ?_ (fun hn hx => ?_) (fun hn hx => ?_) ?_
  · have e1 : decide (n < -(2 ^ 63 : Int)) = false := decide_eq_false (by omega)
    have e2 : decide (n ≥ 2 ^ 63) = false := decide_eq_false (by omega)
    rw [e1, e2]
    rfl
  · have hz : (a.length : Int) ≤ 1000000 := by
      have : 1 ≤ n.toNat := by omega
      have : a.length * 1 ≤ a.length * n.toNat := Nat.mul_le_mul_left _ this
      omega
    have hd : (1000000 : Int) ≤ (2 ^ 63 - 1) / n := by
      refine Int.le_ediv_of_mul_le (by omega) ?_
      have : (1000000 : Int) * n ≤ 1000000 * 1000000 := Int.mul_le_mul_of_nonneg_left (by omega) (by omega)
      omega
    omega
  · show decide (_ > sizeLine) = false
    have : (1000000 : Nat) < sizeLine := by decide
    exact decide_eq_false (by omega)
  · split
    · rename_i hn
      have e : repS a n.toNat = Str.empty := by
        have z : n.toNat = 0 := by omega
        rw [z]
        rfl
      rw [e] at q
      exact ⟨Nat.zero_le _, .str Str.empty, H, I.tok _, ⟨_, rfl⟩, q⟩
    · split
      · rename_i hn hx
        have e : repS a n.toNat = a := by
          refine str_tl ?_
          rw [repS_tl]
          rcases Bool.or_eq_true _ _ ▸ hx with h | h
          · have z : n = 1 := beq_iff_eq.mp h
            subst z
            simp
          · have z : a.cps.toList = [] := List.length_eq_zero_iff.mp (by rw [Array.length_toList]; exact beq_iff_eq.mp h)
            rw [z]
            simp
        rw [e] at q
        exact ⟨.str a, H, I, ⟨_, rfl⟩, q⟩
      · have hz : (repS a n.toNat).length ≤ sizeLine := by
          show (repS a n.toNat).cps.size ≤ _
          have h5 : (1000000 : Nat) ≤ sizeLine := by decide
          rw [← Array.length_toList, repS_tl, List.length_flatten, List.map_replicate, List.sum_replicate_nat, Array.length_toList, Nat.mul_comm]
          exact Nat.le_trans hl h5
        exact ⟨hz, .str (repS a n.toNat), H, I.tok _, ⟨_, rfl⟩, q⟩
section
variable {K : PySem.W.Frag} {T : List NTab} {δ : List Sl} {to te : TE} {P : R → List Sl → Prop}
theorem opd_mulS {a : Str} {n : Int} {P : R → Prop} (h1 : n < 1000000) (h2 : -1000000 < n) (hl : a.length * n.toNat ≤ 1000000) (p : P (.val (.str (repS a n.toNat)))) : OpD K rMulS (.str a) (.int n) P := fun H v w Q h3 h4 o => by
  cases h3
  cases h4
  exact ⟨a, n, rfl, rfl, h1, h2, hl, o.val _ _ (.str _) p⟩
def rUp : V → List V → Hp → VK → Prop := fun x xs H Q => ∃ a, x = .str a ∧ xs = [] ∧ a.length ≤ 5592405 ∧ Q (.str (Txt.upper a)) H
theorem ex_up (h : Ex K T to δ fun r δ1 => ∃ a : Str, r = .val (.str a) ∧ a.length ≤ 1000000 ∧ P (.val (.str (Txt.upper a))) δ1) : Ex K T (tM0 rUp to) δ P := fun B H σ s Q k =>
  h B H σ s _ fun v H1 r δ1 B1 R1 ⟨a, e, hl, p⟩ => by
    subst e
    have hb : B1 = B := R1.bx
    subst hb
    have v1 : Dp K _ v (.str a) := R1.vr
    cases v1
    exact ⟨⟨a, rfl⟩, a, rfl, rfl, by omega, k _ H1 (.val (.str _)) δ1 B1 ⟨R1.s, R1.go, Dp.str _, rfl⟩ p⟩
end
theorem pe_up {X : Cx} {o : Expr} {to : TE} {apos pos : Pos} (ho : PE X o to) (hbase : attributeBase o "upper" X.env (eval o X.env) = eval o X.env := by rfl) (hline : (apos.endLine == pos.line) = true := by rfl) :
    PE X (.Call (.Attribute o "upper" apos) [] [] pos) (tM0 rUp to) := pe_upper ho hbase hline
def rSortedDK : List V → Hp → VK → Prop := fun vs H Q => ∃ (a : Addr) (kvs : List (Key × V)) (ks : List Str), vs = [.ref a] ∧ Rd H a (.dK kvs) ∧ kvs.map (·.1) = ks.map Sum.inr ∧ ks.length ≤ 1000 ∧
  ∀ p, H p = none → Q (.ref p) (upd H p (.lst ((ks.mergeSort (dataLe false PyData.str)).map V.str)))
theorem each_of {α β : Type} {R : α → β → Prop} : ∀ {l : List α} {m : List β}, l.length = m.length → (∀ (i : Nat) x, l[i]? = some x → ∃ y, m[i]? = some y ∧ R x y) → EachIs R l m
  | [], [], _, _ => .nil
  | x :: l, y :: m, e, h => by
    obtain ⟨z, e1, e2⟩ := h 0 x rfl
    have e1 : y = z := Option.some.inj e1
    exact .cons (e1 ▸ e2) (each_of (Nat.succ.inj e) fun i x hx => h (i + 1) x hx)
  | [], _ :: _, e, _ => by simp at e
  | _ :: _, [], e, _ => by simp at e
theorem cr_sortedDK {X : Cx} (hc : X.calm = true) (hu : X.A.units + 64 < cLine) : CallR X (.builtin "sorted") rSortedDK := by
  intro pins s σ H xs us Q I r h
  obtain ⟨a, kvs, ks, rfl, hd, hks, hn, q⟩ := h
  obtain ⟨z, lo, vs, rel, dd⟩ := dk_rd I.hok hd
  obtain ⟨ep, hat⟩ := dd.dictAt
  have hkeys : vs.map (·.1) = ks.map Sum.inr := rel.keys.symm.trans hks
  have hl : vs.length = ks.length := by
    have e := congrArg List.length hkeys
    rwa [List.length_map, List.length_map] at e
  rw [Vals.ref1 r]
  refine Calls.call_function_entry kind_sorted plain_sorted entry_sorted (args_sorted1 _) ?_
  unfold Builtin.«sorted»
  refine wpAny_bind (m := checkCount "sorted" 1 1 _) (wpAny_pure ?_)
  refine wpAny_bind (kdu_collect (A := X.A.in1) (kdl_dict (knd := mixKind X.prog X.w) (kvs := vs) (ep := ep) lo) (I.ok.hd hc) hat (by rw [hl, sizeLine_eq]; omega) fun h' tk acc hk hacc => ?_)
  have hal : acc.toList.length = ks.length := by rw [Array.length_toList, hacc.1, hl]
  have e : EachIs (fun v k => ∃ t, v = Value.str k t) acc.toList ks := each_of hal fun j v e => by
    obtain ⟨k, x, e1, e2⟩ := hacc.2 j v (by rw [← Array.getElem?_toList]; exact e)
    have e3 : (ks.map Sum.inr)[j]? = some k := by rw [← hkeys, List.getElem?_map, e1]; rfl
    rw [List.getElem?_map] at e3
    obtain ⟨y, e4, e5⟩ := Option.map_eq_some_iff.mp e3
    subst e5
    obtain ⟨t, ev⟩ := Value.isStrOf_shape (x := y) (v := v) e2
    exact ⟨y, e4, t, ev⟩
  generalize acc.toList = ys at hal e
  have I1 : Inv X pins σ H { s with heap := h', toks := tk } := I.kept hk
  refine wpAny_bind (wpAny_newList ?_ (by rw [hal, sizeLine_eq]; omega))
  have hoL : (h'.push (seqObj "list" ys.toArray 0)).get? h'.objs.size = some (seqObj "list" ys.toArray 0) := Heap.get?_push_size _ rfl
  have er : EachIs (fun v b => ∃ as, Reads (sortingHeap (h'.push (seqObj "list" ys.toArray 0)) h'.objs.size ys) v (PyData.str b) as) ys ks := e.mono fun v k ⟨t, q⟩ => ⟨[], by rw [q]; exact .str _ _⟩
  show wpAny _ _ _ _ _ { s with heap := h'.push (seqObj "list" ys.toArray 0), toks := tk }
  refine wpAny_bind (wpAny_holding (wpAny_call_entry slot_list_sort ⟨_, hoL, rfl⟩ entry_list_sort (list_sort_vals (s := { s with heap := h'.push (seqObj "list" ys.toArray 0), toks := tk }) hoL
    (SortsAt.data (s := { s with heap := sortingHeap (h'.push (seqObj "list" ys.toArray 0)) h'.objs.size ys, toks := tk }) (each_map (R := fun v d => ∃ as, Reads (sortingHeap (h'.push (seqObj "list" ys.toArray 0)) h'.objs.size ys) v d as) PyData.str er) (strs_alike ks) (.inr fun d hd => ?_) (fun d hd => ?_)) (by rw [hal, sizeLine_eq]; omega) ⟨_, rfl, ?_⟩) (args_list_sort _)))
  · obtain ⟨x, _, rfl⟩ := List.mem_map.mp hd
    exact ⟨fun z => by (cases z), fun _ z => by (cases z)⟩
  · obtain ⟨x, _, rfl⟩ := List.mem_map.mp hd
    show X.A.units + 2 + 0 < cLine
    omega
  · obtain ⟨c, hc⟩ := sortedHeap_at (vs := ys) (out := (sortVals (dataKind (sortingHeap (h'.push (seqObj "list" ys.toArray 0)) h'.objs.size ys) (ks.map PyData.str)) false ys ys).toArray) hoL
    have hlen : ((ks.mergeSort (dataLe false PyData.str)).map V.str).length ≤ sizeLine := by rw [List.length_map, (List.mergeSort_perm _ _).length_eq, sizeLine_eq]; omega
    refine wpAny_pure ⟨_, rfl, .ref h'.objs.size, upd H h'.objs.size (.lst ((ks.mergeSort (dataLe false PyData.str)).map V.str)), I1.laid (t' := tk) (fun b u e => ?_) (Nat.le_refl _)
      (show ObjOk X.prog X.w _ _ _ (.lst _) from ⟨hlen, _, c, vals_strs (sortVals_data false e er (strs_alike ks)), hc⟩), rfl, q _ (I1.hok.fresh (Nat.le_refl _))⟩
    have hb : b < h'.objs.size := Heap.lt_size e
    rw [sortedHeap_old (Nat.ne_of_lt hb) (by rw [size_push']; exact Nat.lt_succ_of_lt hb)]
    exact Heap.get?_push_of_some _ e
section
variable {K : PySem.W.Frag} {T : List NTab} {δ : List Sl} {P : R → List Sl → Prop}
theorem kv_keys {κ : Type} {H : Hp} : ∀ {xs : List (κ × V)} {kvs : List (κ × D)}, KvAll K H xs kvs → xs.map (·.1) = kvs.map (·.1)
  | [], [], _ => rfl
  | (_, _) :: _, (_, _) :: _, ⟨h1, _, h3⟩ => by rw [List.map_cons, List.map_cons, kv_keys h3, h1]
  | [], _ :: _, h => h.elim
  | _ :: _, [], h => h.elim
/-- sorted(d), d a name's own dict -/
theorem ex_sortDK {i : Nat} (h : ∃ (a : Addr) (kvs : List (Key × D)) (ks : List Str), δ[i]? = some (.own a (.dK kvs)) ∧ kvs.map (·.1) = ks.map Sum.inr ∧ ks.length ≤ 1000 ∧ P (.new (.lst ((ks.mergeSort (dataLe false PyData.str)).map .str))) δ) :
    Ex K T (tCB rSortedDK (tCons (tVar i) tNil)) δ P := fun B H σ s Q k => by
  obtain ⟨a, kvs, ks, hi, hk, hn, p⟩ := h
  obtain ⟨h1, xs, h2, h3⟩ := s.hp hi
  refine ⟨.ref a, h1, a, xs, ks, rfl, .inl h2, (kv_keys h3).trans hk, hn, fun q hq => ?_⟩
  exact (out_rs (P := P) s .refl k).lst q _ _ hq (dp_strs _) (imm_strl _) p
end
end Pl
set_option Elab.async false
set_option linter.all false
set_option maxRecDepth 100000
set_option maxHeartbeats 1000001
namespace Pl
open PySem L2 LamX NdefX PyProof.Rows GenW PySem.W PySem.Calls
section
variable {K : PySem.W.Frag} {T : List NTab} {w : World} {B B' B1 : Lo} {A A0 : List Addr} {H0 H H' : Hp} {σ : L2.St} {δ δ' : List Sl} {te : TE} {P : R → List Sl → Prop}
/-- list(t), t a tuple of any data -/
theorem ex_listT (h : Ex K T te δ fun r δ1 => ∃ ds, r = .val (.tuple ds) ∧ P (.new (.lst ds)) δ1) : Ex K T (tCB (rListOf K) (tCons te tNil)) δ P := fun B H σ s Q k =>
  h B H σ s _ fun v H1 r δ1 B1 R1 ⟨ds, e, p⟩ => by
    obtain ⟨C, rfl⟩ := R1.bx.suf
    subst e
    have v1 : Dp K (dl H1 (ow δ1 (C ++ B))) v (.tuple ds) := R1.vr
    cases v1 with
    | tup hs ha =>
      refine ⟨_, _, rfl, .inr (dl_rk.sqT hs), fun l hl => ?_⟩
      have s1 := R1.s.dropAll
      have g1 := R1.go.less ow_suf
      exact k _ _ (.new (.lst ds)) δ1 _ ⟨s1.owned (u := .lst ds) hl ⟨_, upd_same, da_mono (dl_less fun a m => ow_suf a m) _ _ ha⟩, g1.trans (go_new hl), ⟨l, rfl, List.mem_cons_self⟩, ⟨l, rfl, rfl⟩⟩ p
end
end Pl
set_option Elab.async false
set_option linter.all false
set_option maxRecDepth 100000
set_option maxHeartbeats 1000001
namespace Pl
open PySem L2 LamX NdefX PyProof.Rows GenW PySem.W PySem.Calls
section
variable {K : PySem.W.Frag} {T : List NTab} {w : World} {B B' B1 : Lo} {A A0 : List Addr} {H0 H H' : Hp} {σ : L2.St} {δ δ' : List Sl} {te ta tb : TE} {P : R → List Sl → Prop} {v : V} {r : R}
/-- what is read as a list, by its row -/
theorem Vr.seeL (s : S K T B H σ δ) (h : Vr K B σ δ H v r) {ds : List D} (a : AsD δ r (.list ds)) : ∃ p xs, v = .ref p ∧ SqL K H p xs ∧ DpAll K (dl H (ow δ B)) xs ds := by
  cases r with
  | val d =>
    cases a
    have h : Dp K (dl H (ow δ B)) v (.list ds) := h
    cases h with
    | lst hs ha => exact ⟨_, _, rfl, dl_rk.sqL hs, ha⟩
  | new u =>
    obtain ⟨p, rfl, m⟩ := h
    cases u with
    | lst es =>
      cases a
      obtain ⟨xs, h1, h2⟩ := s.loose _ m
      exact ⟨p, xs, rfl, .inl (.inl h1), h2⟩
    | dK _ => exact a.elim
    | dT _ => exact a.elim
  | bor i =>
    obtain ⟨b, es, h1, e⟩ := a
    cases e
    obtain ⟨q1, xs, q2, q3⟩ := s.ok i _ h1
    have h : σ[i]? = some (some v) := h
    rw [h] at q1
    cases q1
    exact ⟨b, xs, rfl, .inl (.inl q2), q3⟩
/-- xs + ys, lists of any data -/
theorem ex_catLX (h : Ex K T ta δ fun r1 δ1 => Ex K T tb δ1 fun r2 δ2 => ∃ ds es, AsD δ2 r1 (.list ds) ∧ AsD δ2 r2 (.list es) ∧ ds.length + es.length ≤ 100000 ∧ P (.new (.lst (ds ++ es))) δ2) : Ex K T (tOp (rCatS K) ta tb) δ P := fun B H σ s Q k =>
  h B H σ s _ fun v H1 r1 δ1 B1 R1 h1 => h1 B1 H1 σ R1.s _ fun w H2 r2 δ2 B2 R2 ⟨ds, es, a1, a2, hl, p⟩ => by
    obtain ⟨C1, rfl⟩ := R1.bx.suf
    obtain ⟨C2, rfl⟩ := R2.bx.suf
    have s2 := R2.s
    have v1 := R1.vr.later R2.go
    obtain ⟨p1, xs, rfl, q1, d1⟩ := v1.seeL s2 a1
    obtain ⟨p2, ys, rfl, q2, d2⟩ := R2.vr.seeL s2 a2
    have g := R1.go.trans R2.go
    rw [← List.append_assoc] at s2 g d1 d2
    have sB := s2.dropAll
    have gB := g.less ow_suf
    refine ⟨p1, p2, xs, ys, rfl, rfl, q1, q2, by rw [da_len d1, da_len d2]; exact Nat.le_trans hl (by decide), fun q hq => ?_⟩
    exact k _ _ (.new (.lst (ds ++ es))) δ2 _ ⟨sB.owned (u := .lst (ds ++ es)) hq ⟨_, upd_same, da_mono (dl_less fun a m => ow_suf a m) _ _ (da_app d1 d2)⟩, gB.trans (go_new hq), ⟨q, rfl, List.mem_cons_self⟩, ⟨q, rfl, rfl⟩⟩ p
/-- max(i, j) -/
theorem cb_max2 {i j : Int} {P : R → Prop} (p : P (.val (.int (max i j)))) : CbD K (fun xs H Q => ∃ i j, xs = [.int i, .int j] ∧ Q (.int (if j > i then j else i)) H) [.int i, .int j] P := fun H vs Q h o => by
  cases h with
  | cons h1 h2 =>
    cases h2 with
    | cons h2 h3 =>
      cases h3
      cases h1
      cases h2
      refine ⟨i, j, rfl, ?_⟩
      have e : (if j > i then j else i) = max i j := by split <;> omega
      rw [e]
      exact o.val _ _ (.int _) p
end
section
variable {K : PySem.W.Frag} {T : List NTab} {δ δ' : List Sl} {ta : TA} {tt : TT} {ts : TS} {te : WX → TE} {t u : WX → TS} {P : R → List Sl → Prop} {PX : Value → List Sl → Prop} {nx bk ct : List Sl → Prop} {rt : R → List Sl → Prop}
theorem gx_of (h : Ss K T ts δ ⟨nx, rt, bk, ct⟩) : SsX K T (fun _ => ts) δ ⟨nx, rt, bk, ct⟩ PX := ssx_of h
theorem gx_seq (h : SsX K T t δ ⟨fun δ1 => SsX K T u δ1 ⟨nx, rt, bk, ct⟩ PX, rt, bk, ct⟩ PX) : SsX K T (fun W => tSeq (t W) (u W)) δ ⟨nx, rt, bk, ct⟩ PX := ssx_seq h
theorem gx_if (h : ExT K T tt δ fun b δ1 => if b = true then SsX K T t δ1 ⟨nx, rt, bk, ct⟩ PX else SsX K T u δ1 ⟨nx, rt, bk, ct⟩ PX) : SsX K T (fun W => tIfS tt (t W) (u W)) δ ⟨nx, rt, bk, ct⟩ PX := ssx_if h
theorem gx_raise {c : Value} (h : PX c δ) : SsX K T (fun W => tRaise c W) δ ⟨nx, rt, bk, ct⟩ PX := ssx_raise h
theorem gx_drop (h : ExX K T te δ (fun _ δ1 => nx δ1) PX) : SsX K T (fun W => tDrop (te W)) δ ⟨nx, rt, bk, ct⟩ PX := ssx_drop h
theorem gx_ret (h : ExX K T te δ rt PX) : SsX K T (fun W => tRet (te W)) δ ⟨nx, rt, bk, ct⟩ PX := ssx_ret h
theorem gx_set {i : Nat} (h : ExX K T te δ (fun r δ1 => StoreR i δ1 nx r) PX) : SsX K T (fun W => tAsg (te W) (gName i)) δ ⟨nx, rt, bk, ct⟩ PX := ssx_set h
def CallX (F : FSX) (P : R → List Sl → Prop) (PX : Value → List Sl → Prop) (rs : List R) (δ1 : List Sl) : Prop := ∃ as os, ArgF δ1 rs as os ∧ (nms os).Nodup ∧ F as (fun r us => P r (putOo δ1 os us)) fun c us => PX c (putOo δ1 os us)
theorem gx_call {F : FSX} (h : ExA K T ta δ (CallX F P PX)) : ExX K T (fun W => tCallS (spXOf K T F) (WE W) ta) δ P PX := exx_call h
theorem xv {F : FSX} {rs : List R} (as : List Ar) (h : ArgF δ rs as []) (f : F as (fun r _ => P r δ) fun c _ => PX c δ) : CallX F P PX rs δ := ⟨as, [], h, List.nodup_nil, f⟩
def CallVX (n : Nat) (F : FSX) (P : R → List Sl → Prop) (PX : Value → List Sl → Prop) (rs : List R) (δ1 : List Sl) : Prop := ∃ ds, Vals0 rs ds ∧ ds.length ≤ n ∧ F [.val (.tuple ds)] (fun r _ => P r δ1) fun c _ => PX c δ1
theorem gx_callV {n : Nat} {F : FSX} (h : ExA K T ta δ (CallVX n F P PX)) : ExX K T (fun W => tCallS (spV n (spXOf K T F)) (WE W) ta) δ P PX := exx_callV h
theorem gx_forT (ds : List D) (W : Nat → List Sl → Prop) {i : Nat} {te : TE} (h : Ex K T te δ fun r δ1 => r = .val (.tuple ds) ∧ W 0 δ1)
    (s : ∀ k d δ2, ds[k]? = some d → W k δ2 → SsX K T t (δ2.set i (.val d)) ⟨W (k + 1), rt, nx, W (k + 1)⟩ PX) (e : ∀ δ2, W ds.length δ2 → nx δ2) : SsX K T (fun X => tFor (iTup K te) (gName i) (t X)) δ ⟨nx, rt, bk, ct⟩ PX :=
  ssx_forT (h.imp fun r δ1 ⟨e1, w⟩ => ⟨ds, e1, W, w, fun k d δ2 hk w => gt_name (s k d δ2 hk w), e⟩)
theorem gx_forL (ds : List D) (W : Nat → List Sl → Prop) {i : Nat} {te : TE} (h : Ex K T te δ fun r δ1 => Fz r (.list ds) ∧ W 0 δ1)
    (s : ∀ k d δ2, ds[k]? = some d → W k δ2 → SsX K T t (δ2.set i (.val d)) ⟨W (k + 1), rt, nx, W (k + 1)⟩ PX) (e : ∀ δ2, W ds.length δ2 → nx δ2) : SsX K T (fun X => tFor (iList K te) (gName i) (t X)) δ ⟨nx, rt, bk, ct⟩ PX :=
  ssx_forL (h.imp fun r δ1 ⟨e1, w⟩ => ⟨ds, e1, W, w, fun k d δ2 hk w => gt_name (s k d δ2 hk w), e⟩)
theorem go_try {l : List Cl} (h : SsX K T t δ ⟨nx, rt, bk, ct⟩ fun c δ' => Meets K T ⟨nx, rt, bk, ct⟩ c δ' l) : Ss K T (tTry K (fun _ _ _ _ => False) l t) δ ⟨nx, rt, bk, ct⟩ := ss_try h
end
end Pl
set_option Elab.async false
set_option linter.all false
set_option maxRecDepth 100000
set_option maxHeartbeats 1000001
namespace Pl
open PySem L2 LamX NdefX PyProof.Rows GenW PySem.W PySem.Calls
section
variable {K : PySem.W.Frag} {T : List NTab} {B B' B1 : Lo} {H H' : Hp} {σ : L2.St} {δ δ' : List Sl} {te ta tb : TE} {P : R → List Sl → Prop} {v : V} {r : R}
/-- t + u, tuples of any data -/
theorem ex_catTX (h : Ex K T ta δ fun r1 δ1 => Ex K T tb δ1 fun r2 δ2 => ∃ ds es, r1 = .val (.tuple ds) ∧ r2 = .val (.tuple es) ∧ ds.length + es.length ≤ 100000 ∧ P (.val (.tuple (ds ++ es))) δ2) : Ex K T (tOp (rCatA K) ta tb) δ P := fun B H σ s Q k =>
  h B H σ s _ fun v H1 r1 δ1 B1 R1 h1 => h1 B1 H1 σ R1.s _ fun w H2 r2 δ2 B2 R2 ⟨ds, es, a1, a2, hl, p⟩ => by
    subst a1
    subst a2
    have b1 : B1 = B := R1.bx
    subst b1
    have b2 : B2 = B1 := R2.bx
    subst b2
    have hv : Dp K _ v (.tuple ds) := R1.vr
    have hw : Dp K _ w (.tuple es) := R2.vr
    have hv2 := dp_mono R2.go.rk _ _ hv
    obtain ⟨p1, xs, rfl, q1, d1⟩ := dp_t hv2
    obtain ⟨p2, ys, rfl, q2, d2⟩ := dp_t hw
    refine ⟨p1, p2, xs, ys, rfl, rfl, dl_rk.sqT q1, dl_rk.sqT q2, by rw [da_len d1, da_len d2]; exact Nat.le_trans hl (by decide), fun e => ?_, fun _ e => ?_, fun _ _ q hq => ?_⟩
    · subst e
      have e0 : ds = [] := List.length_eq_zero_iff.mp (da_len d1).symm
      subst e0
      exact k _ _ (.val (.tuple es)) δ2 _ ⟨R2.s, R1.go.trans R2.go, hw, rfl⟩ p
    · subst e
      have e0 : es = [] := List.length_eq_zero_iff.mp (da_len d2).symm
      subst e0
      rw [List.append_nil] at p
      exact k _ _ (.val (.tuple ds)) δ2 _ ⟨R2.s, R1.go.trans R2.go, hv2, rfl⟩ p
    refine k _ _ (.val (.tuple (ds ++ es))) δ2 _ ⟨R2.s.laid hq, (R1.go.trans R2.go).trans (go_upd hq), ?_, rfl⟩ p
    exact .tup (.inl (.inl (dl_of upd_same (R2.s.free hq)))) (da_mono (go_upd hq).rk _ _ (da_app d1 d2))
end
section
variable {K : PySem.W.Frag} {T : List NTab} {δ : List Sl} {ta : TA} {P : R → List Sl → Prop}
def CallF (F : FS) (P : R → List Sl → Prop) (rs : List R) (δ1 : List Sl) : Prop := ∃ as os, ArgF δ1 rs as os ∧ (nms os).Nodup ∧ F as fun r us => P r (putOo δ1 os us)
theorem go_callF {F : FS} {X : XK} (h : ExA K T ta δ (CallF F P)) : Ex K T (tCall (spOf K T F) [] X ta) δ P := ex_callF h
theorem cfx {F : FS} {rs : List R} (as : List Ar) (os : List (Option Nat)) (h : ArgF δ rs as os) (nd : (nms os).Nodup) (f : F as fun r us => P r (putOo δ os us)) : CallF F P rs δ := ⟨as, os, h, nd, f⟩
end
end Pl
set_option Elab.async false
set_option linter.all false
set_option maxRecDepth 100000
set_option maxHeartbeats 1000001
namespace Pl
open PySem L2
inductive Tm where
  | top
  | bot
  | name (w : Str)
  | some (r : Str) (t : Tm)
  | and (ts : List Tm)
mutual
def Tm.d : Tm → D
  | .top => .tuple [.str "top"]
  | .bot => .tuple [.str "bottom"]
  | .name w => .tuple [.str "name", .str w]
  | .some r t => .tuple [.str "some", .str r, t.d]
  | .and ts => .tuple [.str "and", .tuple (Tm.dL ts)]
def Tm.dL : List Tm → List D
  | [] => []
  | t :: ts => t.d :: Tm.dL ts
end
theorem Tm.dL_map : ∀ ts : List Tm, Tm.dL ts = ts.map Tm.d
  | [] => rfl
  | t :: ts => by rw [Tm.dL, Tm.dL_map ts]; rfl
mutual
/-- the height, 1 for a leaf -/
def Tm.ht : Tm → Nat
  | .some _ t => t.ht + 1
  | .and ts => Tm.htL ts + 1
  | _ => 1
def Tm.htL : List Tm → Nat
  | [] => 0
  | t :: ts => max t.ht (Tm.htL ts)
end
mutual
/-- how many tuples -/
def Tm.cnt : Tm → Nat
  | .some _ t => t.cnt + 1
  | .and ts => Tm.cntL ts + 1
  | _ => 1
def Tm.cntL : List Tm → Nat
  | [] => 0
  | t :: ts => t.cnt + Tm.cntL ts
end
mutual
theorem Tm.imm_d : ∀ t : Tm, imm t.d = true
  | .top => rfl
  | .bot => rfl
  | .name _ => rfl
  | .some r t => by
    show (true && (true && (imm t.d && true))) = true
    rw [Tm.imm_d t]
    rfl
  | .and ts => by
    show (true && (immAll (Tm.dL ts) && true)) = true
    rw [Tm.imm_dL ts]
    rfl
theorem Tm.imm_dL : ∀ ts : List Tm, immAll (Tm.dL ts) = true
  | [] => rfl
  | t :: ts => by
    show (imm t.d && immAll (Tm.dL ts)) = true
    rw [Tm.imm_d t, Tm.imm_dL ts]
    rfl
end
mutual
/-- the parts of and within and -/
def Tm.raw : Tm → List Tm
  | .top => []
  | .bot => [.bot]
  | .name w => [.name w]
  | .some r t => [.some r t]
  | .and ts => Tm.rawL ts
def Tm.rawL : List Tm → List Tm
  | [] => []
  | t :: ts => t.raw ++ Tm.rawL ts
end
theorem Tm.htL_le : ∀ {ts : List Tm} {t : Tm}, t ∈ ts → t.ht ≤ Tm.htL ts
  | u :: ts, t, h => by
    rcases List.mem_cons.mp h with e | h
    · rw [e]; exact Nat.le_max_left _ _
    · exact Nat.le_trans (Tm.htL_le h) (Nat.le_max_right _ _)
theorem Tm.cntL_le : ∀ {ts : List Tm} {t : Tm}, t ∈ ts → t.cnt ≤ Tm.cntL ts
  | u :: ts, t, h => by
    rcases List.mem_cons.mp h with e | h
    · rw [e]; exact Nat.le_add_right _ _
    · exact Nat.le_trans (Tm.cntL_le h) (Nat.le_add_left _ _)
theorem Tm.cnt_pos : ∀ t : Tm, 1 ≤ t.cnt
  | .top => Nat.le_refl _
  | .bot => Nat.le_refl _
  | .name _ => Nat.le_refl _
  | .some _ _ => Nat.le_add_left _ _
  | .and _ => Nat.le_add_left _ _
theorem Tm.ht_pos : ∀ t : Tm, 1 ≤ t.ht
  | .top => Nat.le_refl _
  | .bot => Nat.le_refl _
  | .name _ => Nat.le_refl _
  | .some _ _ => Nat.le_add_left _ _
  | .and _ => Nat.le_add_left _ _
theorem Tm.len_cntL : ∀ ts : List Tm, ts.length ≤ Tm.cntL ts
  | [] => Nat.le_refl _
  | t :: ts => by
    have h1 := Tm.cnt_pos t
    have h2 := Tm.len_cntL ts
    show ts.length + 1 ≤ t.cnt + Tm.cntL ts
    omega
theorem Tm.rawL_flat : ∀ ts : List Tm, Tm.rawL ts = ts.flatMap Tm.raw
  | [] => rfl
  | t :: ts => by rw [Tm.rawL, Tm.rawL_flat ts]; rfl
mutual
theorem Tm.raw_len : ∀ t : Tm, t.raw.length ≤ t.cnt
  | .top => Nat.zero_le _
  | .bot => Nat.le_refl _
  | .name _ => Nat.le_refl _
  | .some _ t => Nat.le_add_left _ _
  | .and ts => Nat.le_succ_of_le (Tm.rawL_len ts)
theorem Tm.rawL_len : ∀ ts : List Tm, (Tm.rawL ts).length ≤ Tm.cntL ts
  | [] => Nat.le_refl _
  | t :: ts => by
    show (t.raw ++ Tm.rawL ts).length ≤ _
    rw [List.length_append]
    exact Nat.add_le_add (Tm.raw_len t) (Tm.rawL_len ts)
end
end Pl
set_option Elab.async false
set_option linter.all false
set_option maxRecDepth 100000
set_option maxHeartbeats 4000001
namespace K00
open PySem L2 LamX NdefX PyProof.Rows GenW Pl
def top (i : Nat) : Stmt := PySem.Challenge.pw_notionary_k00_normal_form.main.body.getD i (.Pass ⟨0, 0, 0, 0⟩)
def ds : List DI := [(("is_word" : Str), top 12), (("direct_parts" : Str), top 13), (("is_term" : Str), top 14), (("check_term" : Str), top 15), (("check_name" : Str), top 16), (("check_names" : Str), top 17), (("raw_conjuncts" : Str), top 18), (("is_met" : Str), top 19), (("meets_all" : Str), top 20), (("write" : Str), top 21), (("atom_key" : Str), top 22), (("join_atoms" : Str), top 23), (("is_implied" : Str), top 24), (("make_normal" : Str), top 25), (("normal" : Str), top 26), (("conjuncts" : Str), top 27), (("both" : Str), top 28), (("normal_size" : Str), top 29), (("normal_depth" : Str), top 30), (("size_of" : Str), top 31), (("depth_of" : Str), top 32), (("words" : Str), top 33), (("is_over" : Str), top 34), (("_law_cell" : Str), top 36), (("_law_open" : Str), top 37), (("_law_take" : Str), top 38), (("_law_reserved" : Str), top 39), (("_law_is_word" : Str), top 40), (("_law_is_term" : Str), top 41), (("_law_word" : Str), top 42), (("_law_words" : Str), top 43), (("_law_pool" : Str), top 44), (("_law_term" : Str), top 45), (("_law_chain" : Str), top 46), (("_law_wide" : Str), top 47), (("_law_root" : Str), top 48), (("_law_conjuncts" : Str), top 49), (("_law_void" : Str), top 50), (("_law_met" : Str), top 51), (("_law_under" : Str), top 52), (("_law_written" : Str), top 53), (("_law_stays" : Str), top 54), (("_law_normal" : Str), top 55), (("_law_same" : Str), top 56), (("_law_size" : Str), top 57), (("_law_depth" : Str), top 58), (("_law_gather" : Str), top 59), (("_law_odd" : Str), top 60), (("_law_bend" : Str), top 61), (("_law_ask" : Str), top 62), (("_law_refused" : Str), top 63), (("_law_list_refused" : Str), top 64), (("_law_joined" : Str), top 65), (("_law_over" : Str), top 66), (("_law_plain" : Str), top 67), (("_law_values" : Str), top 68), (("_law_good_ones" : Str), top 69), (("law" : Str), top 70)]
def cs : List Kc := [.tup "TOP" ["top"], .tup "BOTTOM" ["bottom"], .str "LETTERS" "abcdefghijklmnopqrstuvwxyz", .str "WORD_SIGNS" "abcdefghijklmnopqrstuvwxyz0123456789", .int "WORD_LENGTH" 12, .tup "RESERVED" ["and", "apart", "bottom", "clash", "eq", "is", "link", "range", "role", "some", "sub", "then", "thing", "top"], .exc "NotionError", .exc "InvalidTerm", .exc "InvalidName", .exc "InvalidNumber", .sub "InvalidTerm" "InvalidTerm" true, .sub "InvalidTerm" "NotionError" true, .sub "InvalidTerm" "InvalidName" false, .sub "InvalidName" "InvalidName" true, .sub "InvalidName" "NotionError" true, .sub "InvalidName" "InvalidTerm" false, .sub "InvalidName" "InvalidNumber" false, .subT "InvalidTerm" "ValueError" true, .subT "InvalidName" "ValueError" true]
def fr : List Str := ["all", "isinstance", "str", "len", "tuple", "list", "set", "sorted", "max", "int", "sum", "abs", "range", "bool", "ValueError", "reversed"]
theorem sc_is_word : FnScope ["value", "sign"] ["value"] (defScope (top 12)) := ⟨rfl, rfl, rfl, by decide +kernel, rfl, by decide +kernel, by decide +kernel⟩
theorem sc_direct_parts : FnScope ["value"] ["value"] (defScope (top 13)) := ⟨rfl, rfl, rfl, by decide +kernel, rfl, by decide +kernel, by decide +kernel⟩
theorem sc_is_term : FnScope ["value", "waiting", "parts"] ["value"] (defScope (top 14)) := ⟨rfl, rfl, rfl, by decide +kernel, rfl, by decide +kernel, by decide +kernel⟩
theorem sc_check_term : FnScope ["value"] ["value"] (defScope (top 15)) := ⟨rfl, rfl, rfl, by decide +kernel, rfl, by decide +kernel, by decide +kernel⟩
theorem sc_check_name : FnScope ["value"] ["value"] (defScope (top 16)) := ⟨rfl, rfl, rfl, by decide +kernel, rfl, by decide +kernel, by decide +kernel⟩
theorem sc_check_names : FnScope ["values", "value"] ["values"] (defScope (top 17)) := ⟨rfl, rfl, rfl, by decide +kernel, rfl, by decide +kernel, by decide +kernel⟩
theorem sc_raw_conjuncts : FnScope ["term", "found", "part"] ["term"] (defScope (top 18)) := ⟨rfl, rfl, rfl, by decide +kernel, rfl, by decide +kernel, by decide +kernel⟩
theorem sc_is_met : FnScope ["atom", "others", "other"] ["atom", "others"] (defScope (top 19)) := ⟨rfl, rfl, rfl, by decide +kernel, rfl, by decide +kernel, by decide +kernel⟩
theorem sc_meets_all : FnScope ["one", "other", "atoms", "atom"] ["one", "other"] (defScope (top 20)) := ⟨rfl, rfl, rfl, by decide +kernel, rfl, by decide +kernel, by decide +kernel⟩
theorem sc_write : FnScope ["term", "inner", "part"] ["term"] (defScope (top 21)) := ⟨rfl, rfl, rfl, by decide +kernel, rfl, by decide +kernel, by decide +kernel⟩
theorem sc_atom_key : FnScope ["atom"] ["atom"] (defScope (top 22)) := ⟨rfl, rfl, rfl, by decide +kernel, rfl, by decide +kernel, by decide +kernel⟩
theorem sc_join_atoms : FnScope ["atoms", "found", "atom", "different", "kept"] ["atoms"] (defScope (top 23)) := ⟨rfl, rfl, rfl, by decide +kernel, rfl, by decide +kernel, by decide +kernel⟩
theorem sc_is_implied : FnScope ["atom", "atoms", "other"] ["atom", "atoms"] (defScope (top 24)) := ⟨rfl, rfl, rfl, by decide +kernel, rfl, by decide +kernel, by decide +kernel⟩
theorem sc_make_normal : FnScope ["term", "found", "atom", "inner"] ["term"] (defScope (top 25)) := ⟨rfl, rfl, rfl, by decide +kernel, rfl, by decide +kernel, by decide +kernel⟩
theorem sc_normal : FnScope ["term"] ["term"] (defScope (top 26)) := ⟨rfl, rfl, rfl, by decide +kernel, rfl, by decide +kernel, by decide +kernel⟩
theorem sc_conjuncts : FnScope ["term"] ["term"] (defScope (top 27)) := ⟨rfl, rfl, rfl, by decide +kernel, rfl, by decide +kernel, by decide +kernel⟩
theorem sc_both : FnScope ["terms", "term"] ["terms"] (defScope (top 28)) := ⟨rfl, rfl, rfl, by decide +kernel, rfl, by decide +kernel, by decide +kernel⟩
theorem sc_normal_size : FnScope ["term", "count", "atom"] ["term"] (defScope (top 29)) := ⟨rfl, rfl, rfl, by decide +kernel, rfl, by decide +kernel, by decide +kernel⟩
theorem sc_normal_depth : FnScope ["term", "deepest", "atom"] ["term"] (defScope (top 30)) := ⟨rfl, rfl, rfl, by decide +kernel, rfl, by decide +kernel, by decide +kernel⟩
theorem sc_size_of : FnScope ["term"] ["term"] (defScope (top 31)) := ⟨rfl, rfl, rfl, by decide +kernel, rfl, by decide +kernel, by decide +kernel⟩
theorem sc_depth_of : FnScope ["term"] ["term"] (defScope (top 32)) := ⟨rfl, rfl, rfl, by decide +kernel, rfl, by decide +kernel, by decide +kernel⟩
theorem sc_words : FnScope ["term", "found_names", "found_roles", "waiting", "atoms", "atom"] ["term"] (defScope (top 33)) := ⟨rfl, rfl, rfl, by decide +kernel, rfl, by decide +kernel, by decide +kernel⟩
theorem sc_is_over : FnScope ["term", "names", "listed", "name"] ["term", "names"] (defScope (top 34)) := ⟨rfl, rfl, rfl, by decide +kernel, rfl, by decide +kernel, by decide +kernel⟩
theorem sc__law_cell : FnScope ["script", "k", "one"] ["script", "k"] (defScope (top 36)) := ⟨rfl, rfl, rfl, by decide +kernel, rfl, by decide +kernel, by decide +kernel⟩
theorem sc__law_open : FnScope ["script", "k", "cell"] ["script", "k"] (defScope (top 37)) := ⟨rfl, rfl, rfl, by decide +kernel, rfl, by decide +kernel, by decide +kernel⟩
theorem sc__law_take : FnScope ["box", "many", "mixed", "digit"] ["box", "many"] (defScope (top 38)) := ⟨rfl, rfl, rfl, by decide +kernel, rfl, by decide +kernel, by decide +kernel⟩
theorem sc__law_reserved : FnScope ["found"] [] (defScope (top 39)) := ⟨rfl, rfl, rfl, by decide +kernel, rfl, by decide +kernel, by decide +kernel⟩
theorem sc__law_is_word : FnScope ["value", "letters", "sign"] ["value"] (defScope (top 40)) := ⟨rfl, rfl, rfl, by decide +kernel, rfl, by decide +kernel, by decide +kernel⟩
theorem sc__law_is_term : FnScope ["value", "part"] ["value"] (defScope (top 41)) := ⟨rfl, rfl, rfl, by decide +kernel, rfl, by decide +kernel, by decide +kernel⟩
theorem sc__law_word : FnScope ["box", "letters", "word", "k"] ["box"] (defScope (top 42)) := ⟨rfl, rfl, rfl, by decide +kernel, rfl, by decide +kernel, by decide +kernel⟩
theorem sc__law_words : FnScope ["box", "many", "free", "menu", "start", "step", "found", "k"] ["box", "many", "free"] (defScope (top 43)) := ⟨rfl, rfl, rfl, by decide +kernel, rfl, by decide +kernel, by decide +kernel⟩
theorem sc__law_pool : FnScope ["box", "free", "empty", "labels", "ties"] ["box"] (defScope (top 44)) := ⟨rfl, rfl, rfl, by decide +kernel, rfl, by decide +kernel, by decide +kernel⟩
theorem sc__law_term : FnScope ["box", "pool", "deep", "left", "kind", "parts", "k", "tie"] ["box", "pool", "deep", "left"] (defScope (top 45)) := ⟨rfl, rfl, rfl, by decide +kernel, rfl, by decide +kernel, by decide +kernel⟩
theorem sc__law_chain : FnScope ["box", "pool", "deep", "room", "term", "size", "high", "k", "tie"] ["box", "pool", "deep", "room"] (defScope (top 46)) := ⟨rfl, rfl, rfl, by decide +kernel, rfl, by decide +kernel, by decide +kernel⟩
theorem sc__law_wide : FnScope ["box", "pool", "room", "start", "parts", "k", "label", "tie"] ["box", "pool", "room"] (defScope (top 47)) := ⟨rfl, rfl, rfl, by decide +kernel, rfl, by decide +kernel, by decide +kernel⟩
theorem sc__law_root : FnScope ["box", "pool", "deep", "room", "way", "left", "parts", "k"] ["box", "pool", "deep", "room"] (defScope (top 48)) := ⟨rfl, rfl, rfl, by decide +kernel, rfl, by decide +kernel, by decide +kernel⟩
theorem sc__law_conjuncts : FnScope ["term", "found", "part"] ["term"] (defScope (top 49)) := ⟨rfl, rfl, rfl, by decide +kernel, rfl, by decide +kernel, by decide +kernel⟩
theorem sc__law_void : FnScope ["term", "one"] ["term"] (defScope (top 50)) := ⟨rfl, rfl, rfl, by decide +kernel, rfl, by decide +kernel, by decide +kernel⟩
theorem sc__law_met : FnScope ["want", "have", "one"] ["want", "have"] (defScope (top 51)) := ⟨rfl, rfl, rfl, by decide +kernel, rfl, by decide +kernel, by decide +kernel⟩
theorem sc__law_under : FnScope ["one", "other", "have", "want"] ["one", "other"] (defScope (top 52)) := ⟨rfl, rfl, rfl, by decide +kernel, rfl, by decide +kernel, by decide +kernel⟩
theorem sc__law_written : FnScope ["term", "inner", "part"] ["term"] (defScope (top 53)) := ⟨rfl, rfl, rfl, by decide +kernel, rfl, by decide +kernel, by decide +kernel⟩
theorem sc__law_stays : FnScope ["one", "found", "other"] ["one", "found"] (defScope (top 54)) := ⟨rfl, rfl, rfl, by decide +kernel, rfl, by decide +kernel, by decide +kernel⟩
theorem sc__law_normal : FnScope ["term", "plain", "found", "one", "parts", "inner"] ["term"] (defScope (top 55)) := ⟨rfl, rfl, rfl, by decide +kernel, rfl, by decide +kernel, by decide +kernel⟩
theorem sc__law_same : FnScope ["actual", "due", "k"] ["actual", "due"] (defScope (top 56)) := ⟨rfl, rfl, rfl, by decide +kernel, rfl, by decide +kernel, by decide +kernel⟩
theorem sc__law_size : FnScope ["term", "part"] ["term"] (defScope (top 57)) := ⟨rfl, rfl, rfl, by decide +kernel, rfl, by decide +kernel, by decide +kernel⟩
theorem sc__law_depth : FnScope ["term", "part"] ["term"] (defScope (top 58)) := ⟨rfl, rfl, rfl, by decide +kernel, rfl, by decide +kernel, by decide +kernel⟩
theorem sc__law_gather : FnScope ["term", "labels", "ties", "part"] ["term", "labels", "ties"] (defScope (top 59)) := ⟨rfl, rfl, rfl, by decide +kernel, rfl, by decide +kernel, by decide +kernel⟩
theorem sc__law_odd : FnScope ["box", "term", "held", "menu"] ["box", "term"] (defScope (top 60)) := ⟨rfl, rfl, rfl, by decide +kernel, rfl, by decide +kernel, by decide +kernel⟩
theorem sc__law_bend : FnScope ["box", "term", "at"] ["box", "term"] (defScope (top 61)) := ⟨rfl, rfl, rfl, by decide +kernel, rfl, by decide +kernel, by decide +kernel⟩
theorem sc__law_ask : FnScope ["way", "value", "good"] ["way", "value", "good"] (defScope (top 62)) := ⟨rfl, rfl, rfl, by decide +kernel, rfl, by decide +kernel, by decide +kernel⟩
theorem sc__law_refused : FnScope ["way", "value", "good", "e"] ["way", "value", "good"] (defScope (top 63)) := ⟨rfl, rfl, rfl, by decide +kernel, rfl, by decide +kernel, by decide +kernel⟩
theorem sc__law_list_refused : FnScope ["term", "value", "e"] ["term", "value"] (defScope (top 64)) := ⟨rfl, rfl, rfl, by decide +kernel, rfl, by decide +kernel, by decide +kernel⟩
theorem sc__law_joined : FnScope ["parts"] ["parts"] (defScope (top 65)) := ⟨rfl, rfl, rfl, by decide +kernel, rfl, by decide +kernel, by decide +kernel⟩
theorem sc__law_over : FnScope ["box", "term", "listed", "handed", "more", "few", "held", "odd", "at"] ["box", "term", "listed"] (defScope (top 66)) := ⟨rfl, rfl, rfl, by decide +kernel, rfl, by decide +kernel, by decide +kernel⟩
theorem sc__law_plain : FnScope ["box", "term", "due", "parts", "labels", "ties", "listed"] ["box", "term"] (defScope (top 67)) := ⟨rfl, rfl, rfl, by decide +kernel, rfl, by decide +kernel, by decide +kernel⟩
theorem sc__law_values : FnScope ["box", "word", "held", "found"] ["box"] (defScope (top 68)) := ⟨rfl, rfl, rfl, by decide +kernel, rfl, by decide +kernel, by decide +kernel⟩
theorem sc__law_good_ones : FnScope ["script", "pool", "box", "term", "parts", "k", "count", "one"] ["script", "pool", "box", "term"] (defScope (top 69)) := ⟨rfl, rfl, rfl, by decide +kernel, rfl, by decide +kernel, by decide +kernel⟩
theorem sc_law : FnScope ["script", "pool", "box", "deep", "term", "bent", "value", "good", "way"] ["script"] (defScope (top 70)) := ⟨rfl, rfl, rfl, by decide +kernel, rfl, by decide +kernel, by decide +kernel⟩
end K00
set_option Elab.async false
set_option linter.all false
set_option maxRecDepth 100000
set_option maxHeartbeats 0
namespace K00
open PySem L2 LamX NdefX PyProof.Rows GenW Pl
abbrev theLaw : PySem.W.OpenLaw := PySem.Challenge.rw_notionary_k00_normal_form
abbrev theRow : PySem.W.OpenRow := PySem.W.OpenLaw.row theLaw
def fa : List He.Fa := ds.map (fun x => .glo x.1) ++ fr.map .free ++ cs.map Kc.fa
def fn : List He.DefD := ds.map DI.d
def tn : List Str := [("_law_normal" : Str)]
abbrev hk : PySem.W.Hook := hookT 2 fa fn tn cs
def ob (s : PySem.W.SharedT) : He.AlD × Bool := obsT 2 fa fn tn cs (HandSHeadRun.getT s)
theorem ob_eq (s : PySem.W.SharedT) : ob s = hk.obs s.abs := obsT_eq (HandSHeadRun.getT_eq s)
def names : List Str := [("is_word" : Str), ("direct_parts" : Str), ("is_term" : Str), ("check_term" : Str), ("check_name" : Str), ("check_names" : Str), ("raw_conjuncts" : Str), ("is_met" : Str), ("meets_all" : Str), ("write" : Str), ("atom_key" : Str), ("join_atoms" : Str), ("is_implied" : Str), ("make_normal" : Str), ("normal" : Str), ("conjuncts" : Str), ("both" : Str), ("normal_size" : Str), ("normal_depth" : Str), ("size_of" : Str), ("depth_of" : Str), ("words" : Str), ("is_over" : Str), ("_law_cell" : Str), ("_law_open" : Str), ("_law_take" : Str), ("_law_reserved" : Str), ("_law_is_word" : Str), ("_law_is_term" : Str), ("_law_word" : Str), ("_law_words" : Str), ("_law_pool" : Str), ("_law_term" : Str), ("_law_chain" : Str), ("_law_wide" : Str), ("_law_root" : Str), ("_law_conjuncts" : Str), ("_law_void" : Str), ("_law_met" : Str), ("_law_under" : Str), ("_law_written" : Str), ("_law_stays" : Str), ("_law_normal" : Str), ("_law_same" : Str), ("_law_size" : Str), ("_law_depth" : Str), ("_law_gather" : Str), ("_law_odd" : Str), ("_law_bend" : Str), ("_law_ask" : Str), ("_law_refused" : Str), ("_law_list_refused" : Str), ("_law_joined" : Str), ("_law_over" : Str), ("_law_plain" : Str), ("_law_values" : Str), ("_law_good_ones" : Str), ("law" : Str), ("TOP" : Str), ("BOTTOM" : Str), ("LETTERS" : Str), ("WORD_SIGNS" : Str), ("WORD_LENGTH" : Str), ("RESERVED" : Str), ("NotionError" : Str), ("InvalidTerm" : Str), ("InvalidName" : Str), ("InvalidNumber" : Str)]
theorem run (w : World) : HandSHeadRun.RunEq theRow (PySem.W.view theRow.prog [70]) hk ob 6000 names w := by
  intro os
  kernel_rfl
end K00
set_option Elab.async false
set_option linter.all false
set_option maxRecDepth 100000
set_option maxHeartbeats 1000001
namespace Pl
open PySem
noncomputable instance : DecidableEq Tm := fun _ _ => Classical.propDecidable _
mutual
def Tm.void : Tm → Bool
  | .top => false
  | .bot => true
  | .name _ => false
  | .some _ t => t.void
  | .and ts => Tm.voidL ts
def Tm.voidL : List Tm → Bool
  | [] => false
  | t :: ts => t.void || Tm.voidL ts
end
mutual
/-- the conjuncts `as` meet every conjunct of the term -/
noncomputable def Tm.meets : Tm → List Tm → Bool
  | .top, _ => true
  | .bot, _ => false
  | .name w, as => as.any fun a => decide (a = .name w)
  | .some r t, as => as.any fun a => match a with
    | .some r' t' => decide (r' = r) && t.meets t'.raw
    | _ => false
  | .and ts, as => Tm.meetsL ts as
noncomputable def Tm.meetsL : List Tm → List Tm → Bool
  | [], _ => true
  | t :: ts, as => t.meets as && Tm.meetsL ts as
end
noncomputable def Tm.under (a b : Tm) : Bool := a.void || b.meets a.raw
mutual
theorem Tm.meets_raw : ∀ (t : Tm) (as : List Tm), t.meets as = t.raw.all fun u => u.meets as
  | .top, _ => by simp [Tm.meets, Tm.raw]
  | .bot, _ => by simp [Tm.meets, Tm.raw]
  | .name w, as => by simp [Tm.raw]
  | .some r t, as => by simp [Tm.raw]
  | .and ts, as => by rw [Tm.meets, Tm.raw]; exact Tm.meetsL_raw ts as
theorem Tm.meetsL_raw : ∀ (ts as : List Tm), Tm.meetsL ts as = (Tm.rawL ts).all fun u => u.meets as
  | [], _ => rfl
  | t :: ts, as => by rw [Tm.meetsL, Tm.rawL, List.all_append, Tm.meets_raw t as, Tm.meetsL_raw ts as]
end
mutual
theorem Tm.void_raw : ∀ t : Tm, t.void = t.raw.any Tm.void
  | .top => rfl
  | .bot => rfl
  | .name _ => rfl
  | .some r t => by simp [Tm.raw]
  | .and ts => by rw [Tm.void, Tm.raw]; exact Tm.voidL_raw ts
theorem Tm.voidL_raw : ∀ ts : List Tm, Tm.voidL ts = (Tm.rawL ts).any Tm.void
  | [] => rfl
  | t :: ts => by rw [Tm.voidL, Tm.rawL, List.any_append, Tm.void_raw t, Tm.voidL_raw ts]
end
/-- an atom: a name, a some, bottom -/
def Tm.atom : Tm → Bool
  | .bot => true
  | .name _ => true
  | .some _ _ => true
  | _ => false
mutual
theorem Tm.raw_atom : ∀ (t u : Tm), u ∈ t.raw → u.atom = true
  | .top, _, h => by cases h
  | .bot, _, h => by rw [List.mem_singleton.mp h]; rfl
  | .name _, _, h => by rw [List.mem_singleton.mp h]; rfl
  | .some _ _, _, h => by rw [List.mem_singleton.mp h]; rfl
  | .and ts, u, h => Tm.rawL_atom ts u h
theorem Tm.rawL_atom : ∀ (ts : List Tm) (u : Tm), u ∈ Tm.rawL ts → u.atom = true
  | [], _, h => by cases h
  | t :: ts, u, h => by
    rcases List.mem_append.mp h with h | h
    · exact Tm.raw_atom t u h
    · exact Tm.rawL_atom ts u h
end
theorem Tm.atom_raw {t : Tm} (h : t.atom = true) : t.raw = [t] := by
  cases t <;> simp [Tm.atom] at h <;> rfl
mutual
theorem Tm.raw_ht : ∀ (t u : Tm), u ∈ t.raw → u.ht ≤ t.ht
  | .top, _, h => by cases h
  | .bot, _, h => by rw [List.mem_singleton.mp h]; exact Nat.le_refl _
  | .name _, _, h => by rw [List.mem_singleton.mp h]; exact Nat.le_refl _
  | .some _ _, _, h => by rw [List.mem_singleton.mp h]; exact Nat.le_refl _
  | .and ts, u, h => Nat.le_succ_of_le (Tm.rawL_ht ts u h)
theorem Tm.rawL_ht : ∀ (ts : List Tm) (u : Tm), u ∈ Tm.rawL ts → u.ht ≤ Tm.htL ts
  | [], _, h => by cases h
  | t :: ts, u, h => by
    rcases List.mem_append.mp h with h | h
    · exact Nat.le_trans (Tm.raw_ht t u h) (Nat.le_max_left _ _)
    · exact Nat.le_trans (Tm.rawL_ht ts u h) (Nat.le_max_right _ _)
end
theorem some_met {r : Str} {t : Tm} {as : List Tm} : (Tm.some r t).meets as = true ↔ ∃ t', Tm.some r t' ∈ as ∧ t.meets t'.raw = true := by
  rw [Tm.meets, List.any_eq_true]
  constructor
  · rintro ⟨a, h1, h2⟩
    cases a with
    | some r' t' =>
      simp only [Bool.and_eq_true, decide_eq_true_eq] at h2
      obtain ⟨rfl, h2⟩ := h2
      exact ⟨t', h1, h2⟩
    | _ => simp at h2
  · rintro ⟨t', h1, h2⟩
    exact ⟨_, h1, by simp [h2]⟩
theorem name_met {w : Str} {as : List Tm} : (Tm.name w).meets as = true ↔ Tm.name w ∈ as := by
  rw [Tm.meets, List.any_eq_true]
  constructor
  · rintro ⟨a, h1, h2⟩
    rw [of_decide_eq_true h2] at h1
    exact h1
  · intro h
    exact ⟨_, h, by simp⟩
/-- every conjunct of bs is met by as -/
def Met (as bs : List Tm) : Prop := ∀ b ∈ bs, b.meets as = true
theorem meets_iff {t : Tm} {as : List Tm} : t.meets as = true ↔ Met as t.raw := by
  rw [Tm.meets_raw, List.all_eq_true]; rfl
mutual
theorem meets_trans : ∀ (c : Tm) {as bs : List Tm}, Met as bs → c.meets bs = true → c.meets as = true
  | .top, _, _, _, _ => rfl
  | .bot, _, _, _, h => by simp [Tm.meets] at h
  | .name w, as, bs, m, h => m _ (name_met.mp h)
  | .some r c, as, bs, m, h => by
    obtain ⟨b, h1, h2⟩ := some_met.mp h
    obtain ⟨a, h3, h4⟩ := some_met.mp (m _ h1)
    exact some_met.mpr ⟨a, h3, meets_trans c (meets_iff.mp h4) h2⟩
  | .and ts, as, bs, m, h => by
    rw [Tm.meets] at h ⊢
    exact meetsL_trans ts m h
theorem meetsL_trans : ∀ (ts : List Tm) {as bs : List Tm}, Met as bs → Tm.meetsL ts bs = true → Tm.meetsL ts as = true
  | [], _, _, _, _ => rfl
  | t :: ts, as, bs, m, h => by
    simp only [Tm.meetsL, Bool.and_eq_true] at h ⊢
    exact ⟨meets_trans t m h.1, meetsL_trans ts m h.2⟩
end
theorem Met.trans {as bs cs : List Tm} (h1 : Met as bs) (h2 : Met bs cs) : Met as cs := fun c hc => meets_trans c h1 (h2 c hc)
mutual
theorem meets_refl : ∀ (t : Tm) {as : List Tm}, t.void = false → (∀ u ∈ t.raw, u ∈ as) → t.meets as = true
  | .top, _, _, _ => rfl
  | .bot, _, h, _ => by simp [Tm.void] at h
  | .name w, as, _, h => name_met.mpr (h _ (List.mem_singleton.mpr rfl))
  | .some r t, as, hv, h => some_met.mpr ⟨t, h _ (List.mem_singleton.mpr rfl), meets_refl t hv fun _ h => h⟩
  | .and ts, as, hv, h => by
    rw [Tm.meets]
    exact meetsL_refl ts hv h
theorem meetsL_refl : ∀ (ts : List Tm) {as : List Tm}, Tm.voidL ts = false → (∀ u ∈ Tm.rawL ts, u ∈ as) → Tm.meetsL ts as = true
  | [], _, _, _ => rfl
  | t :: ts, as, hv, h => by
    simp only [Tm.voidL, Bool.or_eq_false_iff] at hv
    simp only [Tm.meetsL, Bool.and_eq_true]
    exact ⟨meets_refl t hv.1 fun u m => h u (List.mem_append_left _ m), meetsL_refl ts hv.2 fun u m => h u (List.mem_append_right _ m)⟩
end
mutual
theorem void_meets : ∀ (t : Tm) {as : List Tm}, t.void = true → t.meets as = false
  | .top, _, h => by simp [Tm.void] at h
  | .bot, _, _ => rfl
  | .name _, _, h => by simp [Tm.void] at h
  | .some r t, as, h => by
    cases e : (Tm.some r t).meets as with
    | false => rfl
    | true =>
      obtain ⟨a, _, h2⟩ := some_met.mp e
      rw [void_meets t h] at h2
      cases h2
  | .and ts, as, h => by
    rw [Tm.meets]
    exact voidL_meets ts h
theorem voidL_meets : ∀ (ts : List Tm) {as : List Tm}, Tm.voidL ts = true → Tm.meetsL ts as = false
  | [], _, h => by simp [Tm.voidL] at h
  | t :: ts, as, h => by
    simp only [Tm.voidL, Bool.or_eq_true] at h
    rw [Tm.meetsL]
    rcases h with h | h
    · rw [void_meets t h]; rfl
    · rw [voidL_meets ts h, Bool.and_false]
end
theorem meets_nv {t : Tm} {as : List Tm} (h : t.meets as = true) : t.void = false := by
  cases e : t.void with
  | false => rfl
  | true => rw [void_meets t e] at h; cases h
abbrev Le (a b : Tm) : Prop := a.under b = true
theorem le_iff {a b : Tm} : Le a b ↔ a.void = true ∨ b.meets a.raw = true := by
  unfold Le Tm.under
  rw [Bool.or_eq_true]
theorem le_refl (a : Tm) : Le a a := by
  rw [le_iff]
  cases h : a.void with
  | true => exact .inl rfl
  | false => exact .inr (meets_refl a h fun _ m => m)
theorem le_trans {a b c : Tm} (h1 : Le a b) (h2 : Le b c) : Le a c := by
  rw [le_iff] at h1 h2 ⊢
  rcases h1 with h1 | h1
  · exact .inl h1
  · rcases h2 with h2 | h2
    · rw [meets_nv h1] at h2; cases h2
    · exact .inr (meets_trans c (meets_iff.mp h1) h2)
def Eqt (a b : Tm) : Prop := Le a b ∧ Le b a
theorem Eqt.refl (a : Tm) : Eqt a a := ⟨le_refl a, le_refl a⟩
theorem Eqt.symm {a b : Tm} (h : Eqt a b) : Eqt b a := ⟨h.2, h.1⟩
theorem Eqt.trans {a b c : Tm} (h1 : Eqt a b) (h2 : Eqt b c) : Eqt a c := ⟨le_trans h1.1 h2.1, le_trans h2.2 h1.2⟩
theorem Eqt.void {a b : Tm} (h : Eqt a b) : a.void = b.void := by
  have one : ∀ {a b : Tm}, Le a b → b.void = true → a.void = true := by
    intro a b h hb
    rcases le_iff.mp h with q | q
    · exact q
    · rw [meets_nv q] at hb; cases hb
  cases ha : a.void with
  | true => exact (one h.2 ha).symm
  | false =>
    cases hb : b.void with
    | false => rfl
    | true => rw [one h.1 hb] at ha; cases ha
theorem Eqt.under {a b c d : Tm} (h : Eqt a b) (k : Eqt c d) : a.under c = b.under d := by
  cases e : a.under c with
  | true => exact (le_trans h.2 (le_trans e k.1)).symm
  | false =>
    cases e2 : b.under d with
    | false => rfl
    | true => rw [← e, ← (le_trans h.1 (le_trans e2 k.2) : Le a c)]
end Pl
set_option Elab.async false
set_option linter.all false
set_option maxRecDepth 100000
set_option maxHeartbeats 1000001
namespace Pl
open PySem
abbrev letters : Str := "abcdefghijklmnopqrstuvwxyz"
abbrev signs : Str := "abcdefghijklmnopqrstuvwxyz0123456789"
abbrev reserved : List Str := ["and", "apart", "bottom", "clash", "eq", "is", "link", "range", "role", "some", "sub", "then", "thing", "top"]
/-- a good word -/
structure W (x : Str) : Prop where
  lo : 1 ≤ x.length
  hi : x.length ≤ 12
  free : x ∉ reserved
  first : ∃ c, x.cps[0]? = some c ∧ c ∈ letters.cps.toList
  all : ∀ c ∈ x.cps.toList, c ∈ signs.cps.toList
end Pl
namespace Pl
open PySem
def isW (c : Nat) : Bool := (decide (97 ≤ c) && decide (c ≤ 122)) || (decide (48 ≤ c) && decide (c ≤ 57))
def cTop : List Nat := [116, 111, 112]
def cBot : List Nat := [98, 111, 116, 116, 111, 109]
def cSome : List Nat := [115, 111, 109, 101]
def cAnd : List Nat := [32, 97, 110, 100, 32]
def Tm.isAnd : Tm → Bool
  | .and _ => true
  | _ => false
def Tm.isAt : Tm → Bool
  | .name _ => true
  | .some _ _ => true
  | _ => false
mutual
def Tm.wl : Tm → List Nat
  | .top => cTop
  | .bot => cBot
  | .name w => w.cps.toList
  | .some r t => cSome ++ (32 :: (r.cps.toList ++ (32 :: (if t.isAnd = true then 40 :: (t.wl ++ [41]) else t.wl))))
  | .and ts => Tm.wlL ts
def Tm.wlL : List Tm → List Nat
  | [] => []
  | t :: ts => t.wl ++ (match ts with | [] => [] | u :: us => cAnd ++ Tm.wlL (u :: us))
end
def Tm.wlI (t : Tm) : List Nat := if t.isAnd = true then 40 :: (t.wl ++ [41]) else t.wl
mutual
/-- what stands within a some of a normal form -/
def Tm.sh : Tm → Prop
  | .top => True
  | .bot => False
  | .name w => W w
  | .some r t => W r ∧ t.sh
  | .and ts => ts ≠ [] ∧ Tm.shL ts
def Tm.shL : List Tm → Prop
  | [] => True
  | t :: ts => (t.sh ∧ t.isAt = true) ∧ Tm.shL ts
end
theorem Tm.shL_iff : ∀ {ts : List Tm}, Tm.shL ts ↔ ∀ t ∈ ts, t.sh ∧ t.isAt = true
  | [] => by simp [Tm.shL]
  | t :: ts => by rw [Tm.shL, Tm.shL_iff (ts := ts)]; simp
def Stop (x : List Nat) : Prop := x = [] ∨ ∃ c y, x = c :: y ∧ isW c = false
theorem word_cut : ∀ {w v x y : List Nat}, (∀ c ∈ w, isW c = true) → (∀ c ∈ v, isW c = true) → Stop x → Stop y → w ++ x = v ++ y → w = v ∧ x = y
  | [], [], _, _, _, _, _, _, e => ⟨rfl, e⟩
  | [], c :: v, x, y, _, hv, hx, _, e => by
    exfalso
    have hc := hv c List.mem_cons_self
    rcases hx with rfl | ⟨d, z, rfl, hd⟩
    · simp at e
    · simp only [List.nil_append, List.cons_append, List.cons.injEq] at e
      rw [e.1, hc] at hd
      cases hd
  | c :: w, [], x, y, hw, _, _, hy, e => by
    exfalso
    have hc := hw c List.mem_cons_self
    rcases hy with rfl | ⟨d, z, rfl, hd⟩
    · simp at e
    · simp only [List.nil_append, List.cons_append, List.cons.injEq] at e
      rw [← e.1, hc] at hd
      cases hd
  | c :: w, d :: v, x, y, hw, hv, hx, hy, e => by
    simp only [List.cons_append, List.cons.injEq] at e
    obtain ⟨h1, h2⟩ := word_cut (fun c h => hw c (List.mem_cons_of_mem _ h)) (fun c h => hv c (List.mem_cons_of_mem _ h)) hx hy e.2
    exact ⟨by rw [e.1, h1], h2⟩
theorem W.w {x : Str} (h : W x) : ∀ c ∈ x.cps.toList, isW c = true := fun c hc => by
  have q := h.all c hc
  have : ∀ c ∈ signs.cps.toList, isW c = true := by decide
  exact this c q
theorem str_eq {x : Str} {l : List Nat} (h : x.cps.toList = l) : x = ⟨l.toArray⟩ := by
  cases x with
  | mk a =>
    subst h
    simp
theorem W.ne {x : Str} (h : W x) {y : Str} (hy : y ∈ reserved) {l : List Nat} (e : y.cps.toList = l) : x.cps.toList ≠ l := fun q => h.free (by rw [str_eq q, ← str_eq e]; exact hy)
theorem stop_sp {x : List Nat} : Stop (32 :: x) := .inr ⟨32, x, rfl, by decide⟩
theorem stop_rp {x : List Nat} : Stop (41 :: x) := .inr ⟨41, x, rfl, by decide⟩
/-- the first word -/
def Tm.hw : Tm → List Nat
  | .top => cTop
  | .bot => cBot
  | .name w => w.cps.toList
  | .some _ _ => cSome
  | .and _ => []
def Tm.tl : Tm → List Nat
  | .some r t => 32 :: (r.cps.toList ++ (32 :: t.wlI))
  | _ => []
theorem wlI_hd {t : Tm} (h : t.isAnd = false) : t.wlI = t.hw ++ t.tl := by
  unfold Tm.wlI
  cases t with
  | and ts => cases h
  | some r t =>
    rw [if_neg (by rw [h]; exact Bool.false_ne_true)]
    show cSome ++ _ = cSome ++ _
    rfl
  | _ => simp [Tm.isAnd, Tm.wl, Tm.hw, Tm.tl]
theorem hw_w {t : Tm} (h : t.sh) : ∀ c ∈ t.hw, isW c = true := by
  cases t with
  | top => decide
  | bot => decide
  | name w => exact W.w h
  | some r t => show ∀ c ∈ cSome, isW c = true; decide
  | and ts => intro c hc; cases hc
theorem stop_tl {t : Tm} {x : List Nat} (h : Stop x) : Stop (t.tl ++ x) := by
  cases t with
  | some r t => exact stop_sp
  | _ => exact h
theorem hw_ne {t : Tm} (h : t.sh) (ha : t.isAnd = false) : ∃ c y, t.hw = c :: y ∧ isW c = true := by
  cases t with
  | top => exact ⟨_, _, rfl, by decide⟩
  | bot => exact h.elim
  | name w =>
    have h : W w := h
    cases e : w.cps.toList with
    | nil =>
      have := h.lo
      have q : w.cps.toList.length = 0 := by rw [e]; rfl
      rw [Array.length_toList] at q
      have : 1 ≤ w.cps.size := this
      omega
    | cons c y => exact ⟨c, y, e, h.w c (by rw [e]; exact List.mem_cons_self)⟩
  | some r t => exact ⟨_, _, rfl, by decide⟩
  | and ts => cases ha
theorem hw_inj {t u : Tm} (ht : t.sh) (hu : u.sh) (at1 : t.isAnd = false) (au : u.isAnd = false) (e : t.hw = u.hw) : t = u ∨ ∃ r a s b, t = .some r a ∧ u = .some s b := by
  have top_in : ("top" : Str) ∈ reserved := by decide
  have some_in : ("some" : Str) ∈ reserved := by decide
  cases t with
  | and ts => cases at1
  | bot => exact ht.elim
  | top =>
    cases u with
    | and ts => cases au
    | bot => exact hu.elim
    | top => exact .inl rfl
    | name w => exact absurd e.symm (W.ne hu top_in rfl)
    | some s b => exact absurd (show cTop = cSome from e) (by decide)
  | name w =>
    cases u with
    | and ts => cases au
    | bot => exact hu.elim
    | top => exact absurd e (W.ne ht top_in rfl)
    | name v => 
      have e : w.cps.toList = v.cps.toList := e
      left
      rw [str_eq e, ← str_eq (x := v) rfl]
    | some s b => exact absurd e (W.ne ht some_in rfl)
  | some r a =>
    cases u with
    | and ts => cases au
    | bot => exact hu.elim
    | top => exact absurd (show cSome = cTop from e) (by decide)
    | name v => exact absurd e.symm (W.ne hu some_in rfl)
    | some s b => exact .inr ⟨r, a, s, b, rfl, rfl⟩
theorem isAt_and {t : Tm} (h : t.isAt = true) : t.isAnd = false := by
  cases t <;> simp [Tm.isAt] at h <;> rfl
theorem wlI_at {t : Tm} (h : t.isAnd = false) : t.wlI = t.wl := by
  unfold Tm.wlI
  rw [if_neg (by rw [h]; exact Bool.false_ne_true)]
theorem wlI_and {ts : List Tm} : (Tm.and ts).wlI = 40 :: (Tm.wlL ts ++ [41]) := by
  simp [Tm.wlI, Tm.isAnd, Tm.wl]
theorem winj0 {t u : Tm} {x y : List Nat} (ht : t.sh) (hu : u.sh) (at1 : t.isAnd = false) (ns : ∀ r a, t ≠ .some r a) (hx : Stop x) (hy : Stop y) (e : t.wlI ++ x = u.wlI ++ y) : t = u ∧ x = y := by
  by_cases ha : u.isAnd = true
  · exfalso
    cases u with
    | and us =>
      obtain ⟨c, z, h1, h2⟩ := hw_ne ht at1
      rw [wlI_and, wlI_hd at1, h1] at e
      simp only [List.cons_append, List.cons.injEq] at e
      rw [e.1] at h2
      exact absurd h2 (by decide)
    | _ => cases ha
  · have ha : u.isAnd = false := Bool.eq_false_iff.mpr ha
    rw [wlI_hd at1, wlI_hd ha, List.append_assoc, List.append_assoc] at e
    obtain ⟨h1, h2⟩ := word_cut (hw_w ht) (hw_w hu) (stop_tl hx) (stop_tl hy) e
    rcases hw_inj ht hu at1 ha h1 with q | ⟨r, a, s, b, q1, q2⟩
    · subst q
      exact ⟨rfl, List.append_cancel_left h2⟩
    · exact absurd q1 (ns r a)
mutual
theorem winjI : ∀ (t u : Tm) (x y : List Nat), t.sh → u.sh → Stop x → Stop y → t.wlI ++ x = u.wlI ++ y → t = u ∧ x = y
  | .and ts, .and us, x, y, ht, hu, hx, hy, e => by
    rw [wlI_and, wlI_and] at e
    simp only [List.cons_append, List.cons.injEq, true_and, List.append_assoc, List.nil_append] at e
    obtain ⟨h1, h2⟩ := winjL ts us x y ht.1 hu.1 ht.2 hu.2 e
    exact ⟨by rw [h1], h2⟩
  | .and ts, .top, x, y, _, _, _, _, e => by
    exfalso
    rw [wlI_and, wlI_at (t := .top) rfl, Tm.wl] at e
    simp [cTop] at e
  | .and ts, .bot, x, y, _, hu, _, _, e => hu.elim
  | .and ts, .name w, x, y, _, hu, _, _, e => by
    exfalso
    obtain ⟨c, z, h1, h2⟩ := hw_ne hu rfl
    rw [wlI_and, wlI_hd (t := .name w) rfl, h1] at e
    simp only [List.cons_append, List.cons.injEq] at e
    rw [← e.1] at h2
    exact absurd h2 (by decide)
  | .and ts, .some r t, x, y, _, _, _, _, e => by
    exfalso
    rw [wlI_and, wlI_hd (t := .some r t) rfl] at e
    simp [Tm.hw, cSome] at e
  | .top, u, x, y, ht, hu, hx, hy, e => winj0 (t := .top) (u := u) ht hu rfl (fun _ _ h => by cases h) hx hy e
  | .bot, u, x, y, ht, hu, hx, hy, e => ht.elim
  | .name w, u, x, y, ht, hu, hx, hy, e => winj0 (t := .name w) (u := u) ht hu rfl (fun _ _ h => by cases h) hx hy e
  | .some r t, u, x, y, ht, hu, hx, hy, e => by
    by_cases ha : u.isAnd = true
    · exfalso
      cases u with
      | and us =>
        rw [wlI_and, wlI_hd (t := .some r t) rfl] at e
        simp [Tm.hw, cSome] at e
      | _ => cases ha
    · have ha : u.isAnd = false := Bool.eq_false_iff.mpr ha
      rw [wlI_hd (t := .some r t) rfl, wlI_hd ha, List.append_assoc, List.append_assoc] at e
      obtain ⟨h1, h2⟩ := word_cut (hw_w (t := .some r t) ht) (hw_w hu) (stop_tl (t := .some r t) hx) (stop_tl hy) e
      rcases hw_inj (t := .some r t) ht hu rfl ha h1 with q | ⟨_, _, s, b, q1, q2⟩
      · subst q
        exact ⟨rfl, List.append_cancel_left h2⟩
      · cases q1
        subst q2
        have h2 : 32 :: (r.cps.toList ++ (32 :: t.wlI)) ++ x = 32 :: (s.cps.toList ++ (32 :: b.wlI)) ++ y := h2
        simp only [List.cons_append, List.cons.injEq, true_and, List.append_assoc] at h2
        obtain ⟨h3, h4⟩ := word_cut (W.w ht.1) (W.w hu.1) stop_sp stop_sp h2
        simp only [List.cons.injEq, true_and] at h4
        obtain ⟨h5, h6⟩ := winjI t b x y ht.2 hu.2 hx hy h4
        refine ⟨?_, h6⟩
        rw [h5, str_eq h3, ← str_eq (x := s) rfl]
theorem winjL : ∀ (ts us : List Tm) (x y : List Nat), ts ≠ [] → us ≠ [] → Tm.shL ts → Tm.shL us → Tm.wlL ts ++ 41 :: x = Tm.wlL us ++ 41 :: y → ts = us ∧ x = y
  | [], _, _, _, h, _, _, _, _ => absurd rfl h
  | _, [], _, _, _, h, _, _, _ => absurd rfl h
  | [t], [u], x, y, _, _, ht, hu, e => by
    simp only [Tm.wlL, List.append_nil] at e
    rw [← wlI_at (isAt_and ht.1.2), ← wlI_at (isAt_and hu.1.2)] at e
    obtain ⟨h1, h2⟩ := winjI t u _ _ ht.1.1 hu.1.1 stop_rp stop_rp e
    rw [h1]
    simp only [List.cons.injEq, true_and] at h2
    exact ⟨rfl, h2⟩
  | [t], u :: v :: us, x, y, _, _, ht, hu, e => by
    exfalso
    rw [Tm.wlL, Tm.wlL] at e
    simp only [List.append_nil, List.append_assoc] at e
    rw [← wlI_at (isAt_and ht.1.2), ← wlI_at (isAt_and hu.1.2)] at e
    obtain ⟨h1, h2⟩ := winjI t u _ _ ht.1.1 hu.1.1 stop_rp stop_sp e
    simp [cAnd] at h2
  | t :: v :: ts, [u], x, y, _, _, ht, hu, e => by
    exfalso
    rw [Tm.wlL, Tm.wlL] at e
    simp only [List.append_nil, List.append_assoc] at e
    rw [← wlI_at (isAt_and ht.1.2), ← wlI_at (isAt_and hu.1.2)] at e
    obtain ⟨h1, h2⟩ := winjI t u _ _ ht.1.1 hu.1.1 stop_sp stop_rp e
    simp [cAnd] at h2
  | t :: t2 :: ts, u :: u2 :: us, x, y, _, _, ht, hu, e => by
    rw [Tm.wlL, Tm.wlL] at e
    simp only [List.append_assoc] at e
    rw [← wlI_at (isAt_and ht.1.2), ← wlI_at (isAt_and hu.1.2)] at e
    obtain ⟨h1, h2⟩ := winjI t u _ _ ht.1.1 hu.1.1 stop_sp stop_sp e
    have h2 : 32 :: 97 :: 110 :: 100 :: 32 :: (Tm.wlL (t2 :: ts) ++ 41 :: x) = 32 :: 97 :: 110 :: 100 :: 32 :: (Tm.wlL (u2 :: us) ++ 41 :: y) := h2
    simp only [List.cons.injEq, true_and] at h2
    obtain ⟨h3, h4⟩ := winjL (t2 :: ts) (u2 :: us) x y (by simp) (by simp) ht.2 hu.2 h2
    exact ⟨by rw [h1, h3], h4⟩
end
end Pl
set_option Elab.async false
set_option linter.all false
set_option maxRecDepth 100000
set_option maxHeartbeats 1000001
namespace Pl
open PySem PySem.W
def Tm.wr (t : Tm) : Str := ⟨t.wl.toArray⟩
/-- the key by which a row is sorted -/
def Tm.keyD : Tm → D
  | .bot => .tuple [.int (-1), .str "bottom"]
  | .name w => .tuple [.int 0, .str w]
  | t => .tuple [.int 1, .str t.wr]
noncomputable def srt (l : List Tm) : List Tm := l.mergeSort (dataLe false Tm.keyD)
theorem srt_perm (l : List Tm) : (srt l).Perm l := List.mergeSort_perm _ _
end Pl
namespace Pl
open PySem
mutual
/-- the words are good -/
def Tm.good : Tm → Prop
  | .name w => W w
  | .some r t => W r ∧ t.good
  | .and ts => Tm.goodL ts
  | _ => True
def Tm.goodL : List Tm → Prop
  | [] => True
  | t :: ts => t.good ∧ Tm.goodL ts
end
theorem Tm.goodL_iff : ∀ {ts : List Tm}, Tm.goodL ts ↔ ∀ t ∈ ts, t.good
  | [] => by simp [Tm.goodL]
  | t :: ts => by rw [Tm.goodL, Tm.goodL_iff (ts := ts)]; simp
noncomputable def impl1 (a : Tm) (as : List Tm) : Bool := match a with
  | .some r t => (Tm.some r t).meets (as.filter fun b => !decide (b = .some r t))
  | _ => false
noncomputable def ddp : List Tm → List Tm → List Tm
  | acc, [] => acc
  | acc, a :: as => ddp (if a ∈ acc then acc else acc ++ [a]) as
noncomputable def kpt (ds : List Tm) : List Tm := ds.filter fun a => !impl1 a ds
def shp : List Tm → Tm
  | [] => .top
  | [k] => k
  | k :: l :: ks => .and (k :: l :: ks)
noncomputable def jn (as : List Tm) : Tm := if Tm.bot ∈ as then .bot else shp (srt (kpt (ddp [] as)))
mutual
noncomputable def Tm.pre : Tm → List Tm
  | .top => []
  | .bot => [.bot]
  | .name w => [.name w]
  | .some r t => [if jn t.pre = .bot then .bot else .some r (jn t.pre)]
  | .and ts => Tm.preL ts
noncomputable def Tm.preL : List Tm → List Tm
  | [] => []
  | t :: ts => t.pre ++ Tm.preL ts
end
noncomputable def Tm.nf (t : Tm) : Tm := jn t.pre
theorem ddp_mem : ∀ {as acc : List Tm} {a : Tm}, a ∈ ddp acc as ↔ a ∈ acc ∨ a ∈ as
  | [], acc, a => by simp [ddp]
  | b :: as, acc, a => by
    rw [ddp, ddp_mem (as := as)]
    by_cases h : b ∈ acc
    · rw [if_pos h, List.mem_cons]
      constructor
      · rintro (q | q)
        · exact .inl q
        · exact .inr (.inr q)
      · rintro (q | rfl | q)
        · exact .inl q
        · exact .inl h
        · exact .inr q
    · rw [if_neg h, List.mem_append, List.mem_singleton, List.mem_cons, or_assoc]
theorem ddp_nodup : ∀ {as acc : List Tm}, acc.Nodup → (ddp acc as).Nodup
  | [], acc, h => h
  | b :: as, acc, h => by
    rw [ddp]
    refine ddp_nodup ?_
    by_cases q : b ∈ acc
    · rw [if_pos q]; exact h
    · rw [if_neg q, List.nodup_append]
      refine ⟨h, by simp, fun x hx y hy e => ?_⟩
      rw [List.mem_singleton.mp hy] at e
      exact q (e ▸ hx)
theorem mem_kept {ds : List Tm} {a : Tm} : a ∈ kpt ds ↔ a ∈ ds ∧ impl1 a ds = false := by
  unfold kpt
  rw [List.mem_filter, Bool.not_eq_true']
theorem shp_raw : ∀ {ks : List Tm}, (∀ k ∈ ks, k.atom = true) → (shp ks).raw = ks
  | [], _ => rfl
  | [k], h => Tm.atom_raw (h k List.mem_cons_self)
  | k :: l :: ks, h => by
    have all : ∀ {xs : List Tm}, (∀ k ∈ xs, k.atom = true) → Tm.rawL xs = xs := by
      intro xs
      induction xs with
      | nil => intro _; rfl
      | cons x xs ih =>
        intro h
        rw [Tm.rawL, Tm.atom_raw (h x List.mem_cons_self), ih fun k hk => h k (List.mem_cons_of_mem _ hk)]
        rfl
    exact all h
theorem pre_atom_aux {r : Str} {t : Tm} : ((if jn t.pre = .bot then Tm.bot else .some r (jn t.pre)) : Tm).atom = true := by
  by_cases h : jn t.pre = .bot
  · rw [if_pos h]; rfl
  · rw [if_neg h]; rfl
mutual
theorem pre_atom : ∀ (t a : Tm), a ∈ t.pre → a.atom = true
  | .top, _, h => by simp [Tm.pre] at h
  | .bot, _, h => by simp only [Tm.pre, List.mem_singleton] at h; rw [h]; rfl
  | .name _, _, h => by simp only [Tm.pre, List.mem_singleton] at h; rw [h]; rfl
  | .some r t, _, h => by simp only [Tm.pre, List.mem_singleton] at h; rw [h]; exact pre_atom_aux
  | .and ts, a, h => by rw [Tm.pre] at h; exact preL_atom ts a h
theorem preL_atom : ∀ (ts : List Tm) (a : Tm), a ∈ Tm.preL ts → a.atom = true
  | [], _, h => by simp [Tm.preL] at h
  | t :: ts, a, h => by
    rw [Tm.preL] at h
    rcases List.mem_append.mp h with h | h
    · exact pre_atom t a h
    · exact preL_atom ts a h
end
theorem jn_bot {as : List Tm} : jn as = .bot ↔ Tm.bot ∈ as := by
  unfold jn
  by_cases h : Tm.bot ∈ as
  · rw [if_pos h]; exact ⟨fun _ => h, fun _ => rfl⟩
  · rw [if_neg h]
    refine ⟨fun e => ?_, fun q => absurd q h⟩
    exfalso
    have sub : ∀ k ∈ srt (kpt (ddp [] as)), k ∈ as := fun k hk => by
      have q := (mem_kept.mp ((srt_perm _).mem_iff.mp hk)).1
      exact (ddp_mem.mp q).resolve_left (by simp)
    generalize srt (kpt (ddp [] as)) = ks at e sub
    match ks, e, sub with
    | [], e, _ => cases e
    | [k], e, sub =>
      have e : k = .bot := e
      exact h (e ▸ sub k List.mem_cons_self)
    | _ :: _ :: _, e, _ => cases e
mutual
theorem pre_bot : ∀ t : Tm, Tm.bot ∈ t.pre ↔ t.void = true
  | .top => by simp [Tm.pre, Tm.void]
  | .bot => by simp [Tm.pre, Tm.void]
  | .name w => by simp [Tm.pre, Tm.void]
  | .some r t => by
    rw [Tm.pre, Tm.void, List.mem_singleton, ← pre_bot t]
    by_cases h : jn t.pre = .bot
    · rw [if_pos h]; exact ⟨fun _ => jn_bot.mp h, fun _ => rfl⟩
    · rw [if_neg h]; exact ⟨(fun q => by cases q), fun q => absurd (jn_bot.mpr q) h⟩
  | .and ts => by rw [Tm.pre, Tm.void]; exact preL_bot ts
theorem preL_bot : ∀ ts : List Tm, Tm.bot ∈ Tm.preL ts ↔ Tm.voidL ts = true
  | [] => by simp [Tm.preL, Tm.voidL]
  | t :: ts => by rw [Tm.preL, Tm.voidL, List.mem_append, Bool.or_eq_true, pre_bot t, preL_bot ts]
end
theorem nf_bot {t : Tm} : t.nf = .bot ↔ t.void = true := jn_bot.trans (pre_bot t)
theorem pre_some {r : Str} {t : Tm} : (Tm.some r t).pre = [if t.void = true then .bot else .some r t.nf] := by
  rw [Tm.pre]
  have e : (jn t.pre = .bot) ↔ t.void = true := nf_bot
  by_cases h : t.void = true
  · rw [if_pos h, if_pos (e.mpr h)]
  · rw [if_neg h, if_neg (fun q => h (e.mp q))]; rfl
/-- what a term's parts become -/
def PreA (n : Nat) (a : Tm) : Prop := a = .bot ∨ (∃ w, a = .name w ∧ W w) ∨ ∃ (r : Str) (u : Tm), a = .some r u.nf ∧ W r ∧ u.good ∧ u.ht < n ∧ u.void = false
theorem PreA.mono {n m : Nat} {a : Tm} (h : n ≤ m) (p : PreA n a) : PreA m a := by
  rcases p with p | p | ⟨r, u, h1, h2, h3, h4, h5⟩
  · exact .inl p
  · exact .inr (.inl p)
  · exact .inr (.inr ⟨r, u, h1, h2, h3, by omega, h5⟩)
mutual
theorem pre_is : ∀ (t : Tm), t.good → ∀ a ∈ t.pre, PreA t.ht a
  | .top, _, _, h => by simp [Tm.pre] at h
  | .bot, _, _, h => by simp only [Tm.pre, List.mem_singleton] at h; exact .inl h
  | .name w, g, _, h => by simp only [Tm.pre, List.mem_singleton] at h; exact .inr (.inl ⟨w, h, g⟩)
  | .some r t, g, a, h => by
    rw [pre_some, List.mem_singleton] at h
    by_cases hv : t.void = true
    · rw [if_pos hv] at h; exact .inl h
    · rw [if_neg hv] at h
      exact .inr (.inr ⟨r, t, h, g.1, g.2, Nat.lt_succ_self _, Bool.eq_false_iff.mpr hv⟩)
  | .and ts, g, a, h => by
    rw [Tm.pre] at h
    exact (preL_is ts g a h).mono (Nat.le_succ _)
theorem preL_is : ∀ (ts : List Tm), Tm.goodL ts → ∀ a ∈ Tm.preL ts, PreA (Tm.htL ts) a
  | [], _, _, h => by simp [Tm.preL] at h
  | t :: ts, g, a, h => by
    rw [Tm.preL] at h
    rcases List.mem_append.mp h with h | h
    · exact (pre_is t g.1 a h).mono (Nat.le_max_left _ _)
    · exact (preL_is ts g.2 a h).mono (Nat.le_max_right _ _)
end
theorem met_self {a : Tm} {bs : List Tm} (hb : a ∈ bs) (hv : a.void = false) (at1 : a.atom = true) : a.meets bs = true :=
  meets_refl a hv fun u m => by rw [Tm.atom_raw at1, List.mem_singleton] at m; rw [m]; exact hb
end Pl
set_option Elab.async false
set_option linter.all false
set_option maxRecDepth 100000
set_option maxHeartbeats 1000001
namespace Pl
open PySem
/-- what the rows of normal forms hold -/
def KA (a : Tm) : Prop := (∃ w, a = .name w ∧ W w) ∨ ∃ (r : Str) (u : Tm), a = .some r u.nf ∧ W r ∧ u.good ∧ u.void = false
end Pl
namespace Pl
open PySem
theorem PreA.ka {n : Nat} {a : Tm} (h : PreA n a) (hb : a ≠ .bot) : KA a := by
  rcases h with h | h | ⟨r, u, h1, h2, h3, _, h5⟩
  · exact absurd h hb
  · exact .inl h
  · exact .inr ⟨r, u, h1, h2, h3, h5⟩
/-- the row of a normal form -/
noncomputable def Tm.row (t : Tm) : List Tm := srt (kpt (ddp [] t.pre))
theorem row_mem {t a : Tm} : a ∈ t.row ↔ a ∈ t.pre ∧ impl1 a (ddp [] t.pre) = false := by
  unfold Tm.row
  rw [(srt_perm _).mem_iff, mem_kept, ddp_mem]
  simp
theorem nf_row {t : Tm} (hv : t.void = false) : t.nf = shp t.row := by
  unfold Tm.nf jn
  rw [if_neg (fun h => by rw [(pre_bot t).mp h] at hv; cases hv)]
  rfl
theorem nf_raw {t : Tm} (hv : t.void = false) : t.nf.raw = t.row := by
  rw [nf_row hv]
  exact shp_raw fun k hk => pre_atom t k (row_mem.mp hk).1
theorem nf_void (t : Tm) : t.nf.void = t.void := by
  cases hv : t.void with
  | true => rw [nf_bot.mpr hv]; rfl
  | false =>
    cases h : t.nf.void with
    | false => rfl
    | true =>
      exfalso
      rw [Tm.void_raw, nf_raw hv, List.any_eq_true] at h
      obtain ⟨a, h1, h2⟩ := h
      have h1 := (row_mem.mp h1).1
      have nv : ∀ (n : Nat) (t : Tm), t.ht ≤ n → t.void = false → ∀ a ∈ t.pre, a.void = false := by
        intro n
        induction n with
        | zero =>
          intro t h
          have : 1 ≤ t.ht := by cases t <;> simp [Tm.ht]
          omega
        | succ n ih =>
          have one : ∀ t : Tm, t.ht ≤ n → t.void = false → t.nf.void = false := fun t ht hv => by
            cases h : t.nf.void with
            | false => rfl
            | true =>
              rw [Tm.void_raw, nf_raw hv, List.any_eq_true] at h
              obtain ⟨a, h1, h2⟩ := h
              rw [ih t ht hv a (row_mem.mp h1).1] at h2
              cases h2
          have go : ∀ t : Tm, t.ht ≤ n + 1 → t.void = false → ∀ a ∈ t.pre, a.void = false := by
            intro t
            induction t using Tm.rec (motive_2 := fun ts => Tm.htL ts ≤ n + 1 → Tm.voidL ts = false → ∀ a ∈ Tm.preL ts, a.void = false) with
            | top => intro _ _ a h; simp [Tm.pre] at h
            | bot => intro _ h; simp [Tm.void] at h
            | name w => intro _ _ a h; simp only [Tm.pre, List.mem_singleton] at h; rw [h]; rfl
            | some r t _ =>
              intro ht hv a h
              have hv : t.void = false := hv
              rw [pre_some, List.mem_singleton, hv, if_neg Bool.false_ne_true] at h
              rw [h]
              exact one t (by have : t.ht + 1 ≤ n + 1 := ht; omega) hv
            | and ts ih =>
              intro ht hv a h
              rw [Tm.pre] at h
              exact ih (by have : Tm.htL ts + 1 ≤ n + 1 := ht; omega) hv a h
            | nil => rename_i _ _ a h; simp [Tm.preL] at h
            | cons t ts h1 h2 =>
              rename_i ht hv a h
              have ht : max t.ht (Tm.htL ts) ≤ n + 1 := ht
              simp only [Tm.voidL, Bool.or_eq_false_iff] at hv
              rw [Tm.preL] at h
              rcases List.mem_append.mp h with h | h
              · exact h1 (by omega) hv.1 a h
              · exact h2 (by omega) hv.2 a h
          exact go
      rw [nv t.ht t (Nat.le_refl _) hv a h1] at h2
      cases h2
theorem pre_nv {t : Tm} (hv : t.void = false) (g : t.good) : ∀ a ∈ t.pre, a.void = false := fun a h => by
  rcases pre_is t g a h with e | ⟨w, e, _⟩ | ⟨r, u, e, _, _, _, h5⟩
  · rw [e] at h
    rw [(pre_bot t).mp h] at hv
    cases hv
  · rw [e]; rfl
  · rw [e]
    show u.nf.void = false
    rw [nf_void]; exact h5
end Pl
namespace Pl
open PySem PySem.W
theorem ka_of_row {t : Tm} (g : t.good) (hv : t.void = false) {a : Tm} (h : a ∈ t.row) : KA a := by
  have h := (row_mem.mp h).1
  exact (pre_is t g a h).ka fun e => by rw [e, pre_bot, hv] at h; cases h
theorem nf_sh : ∀ (n : Nat) (t : Tm), t.good → t.ht ≤ n → t.void = false → t.nf.sh
  | 0, t, _, h, _ => by have := t.ht_pos; omega
  | n + 1, t, g, ht, hv => by
    rw [nf_row hv]
    have all : ∀ a ∈ t.row, a.sh ∧ a.isAt = true := fun a ha => by
      have h := (row_mem.mp ha).1
      rcases pre_is t g a h with e | ⟨w, e, hw⟩ | ⟨r, u, e, hr, gu, hu, hv2⟩
      · rw [e, pre_bot, hv] at h; cases h
      · rw [e]; exact ⟨hw, rfl⟩
      · rw [e]; exact ⟨⟨hr, nf_sh n u gu (by omega) hv2⟩, rfl⟩
    match t.row, all with
    | [], _ => trivial
    | [k], all => exact (all k List.mem_cons_self).1
    | k :: l :: ks, all => exact ⟨by simp, Tm.shL_iff.mpr all⟩
theorem KA.sh {a : Tm} (h : KA a) : a.sh ∧ a.isAt = true := by
  rcases h with ⟨w, e, hw⟩ | ⟨r, u, e, hr, g, hv⟩
  · rw [e]; exact ⟨hw, rfl⟩
  · rw [e]; exact ⟨⟨hr, nf_sh _ u g (Nat.le_refl _) hv⟩, rfl⟩
theorem wl_inj {a b : Tm} (ha : a.sh) (hb : b.sh) (at1 : a.isAt = true) (at2 : b.isAt = true) (e : a.wl = b.wl) : a = b := by
  refine (winjI a b [] [] ha hb (.inl rfl) (.inl rfl) ?_).1
  rw [wlI_at (isAt_and at1), wlI_at (isAt_and at2), e]
theorem keyD_name {w : Str} : (Tm.name w).keyD = .tuple [.int 0, .str w] := rfl
theorem keyD_some {r : Str} {t : Tm} : (Tm.some r t).keyD = .tuple [.int 1, .str (Tm.some r t).wr] := rfl
theorem toks2 {i j : Int} {x y : Str} (h : keyToks (.tuple [.int i, .str x]) = keyToks (.tuple [.int j, .str y])) : i = j ∧ x = y := by
  simp only [keyToks, keyToksAll, List.cons_append, List.nil_append, List.cons.injEq, Sum.inl.injEq, Sum.inr.injEq, true_and, and_true] at h
  exact ⟨h.1, str_of_cps h.2⟩
theorem keyD_inj {a b : Tm} (ha : a.sh) (hb : b.sh) (at1 : a.isAt = true) (at2 : b.isAt = true) (e : keyToks a.keyD = keyToks b.keyD) : a = b := by
  cases a with
  | name w =>
    cases b with
    | name v => rw [keyD_name, keyD_name] at e; rw [(toks2 e).2]
    | some s u => rw [keyD_name, keyD_some] at e; exact absurd (toks2 e).1 (by decide)
    | _ => cases at2
  | some r t =>
    cases b with
    | name v => rw [keyD_name, keyD_some] at e; exact absurd (toks2 e).1 (by decide)
    | some s u =>
      rw [keyD_some, keyD_some] at e
      have e := (toks2 e).2
      refine wl_inj ha hb rfl rfl ?_
      unfold Tm.wr at e
      have e := congrArg (fun x : Str => x.cps.toList) e
      simpa using e
    | _ => cases at2
  | _ => cases at1
theorem keyLe_anti {a b : Tm} (ha : a.sh) (hb : b.sh) (at1 : a.isAt = true) (at2 : b.isAt = true) (h1 : dataLe false Tm.keyD a b = true) (h2 : dataLe false Tm.keyD b a = true) : a = b := by
  have h1 : (!(PyProof.Rows.listOrd PyProof.Rows.itemOrd).blt (keyToks b.keyD) (keyToks a.keyD)) = true := h1
  have h2 : (!(PyProof.Rows.listOrd PyProof.Rows.itemOrd).blt (keyToks a.keyD) (keyToks b.keyD)) = true := h2
  rw [Bool.not_eq_true'] at h1 h2
  exact keyD_inj ha hb at1 at2 ((PyProof.Rows.listOrd PyProof.Rows.itemOrd).total _ _ h2 h1)
theorem key_total : TotalLe (dataLe false Tm.keyD) := sortLe_total (PyProof.Rows.listOrd PyProof.Rows.itemOrd) false _
end Pl
namespace Pl
open PySem
theorem Met.sub {as bs : List Tm} (h : ∀ b ∈ bs, b ∈ as) (hv : ∀ a ∈ bs, a.void = false) (ha : ∀ a ∈ bs, a.atom = true) : Met as bs := fun a m => met_self (h a m) (hv a m) (ha a m)
theorem Met.app {as bs cs ds : List Tm} (h1 : Met as bs) (h2 : Met cs ds) : Met (as ++ cs) (bs ++ ds) := by
  have mono : ∀ (t : Tm) {as bs : List Tm}, (∀ a ∈ as, a ∈ bs) → t.meets as = true → t.meets bs = true := by
    intro t
    induction t using Tm.rec (motive_2 := fun ts => ∀ {as bs : List Tm}, (∀ a ∈ as, a ∈ bs) → Tm.meetsL ts as = true → Tm.meetsL ts bs = true) with
    | top => intros; rfl
    | bot => intro as bs _ h; simp [Tm.meets] at h
    | name w => intro as bs s h; exact name_met.mpr (s _ (name_met.mp h))
    | some r t _ =>
      intro as bs s h
      obtain ⟨u, h1, h2⟩ := some_met.mp h
      exact some_met.mpr ⟨u, s _ h1, h2⟩
    | and ts ih => intro as bs s h; rw [Tm.meets] at h ⊢; exact ih s h
    | nil => rfl
    | cons t ts h1 h2 =>
      rename_i as bs s h
      simp only [Tm.meetsL, Bool.and_eq_true] at h ⊢
      exact ⟨h1 s h.1, h2 s h.2⟩
  intro b hb
  rcases List.mem_append.mp hb with h | h
  · exact mono b (fun a => List.mem_append_left _) (h1 b h)
  · exact mono b (fun a => List.mem_append_right _) (h2 b h)
end Pl
set_option Elab.async false
set_option linter.all false
set_option maxRecDepth 100000
set_option maxHeartbeats 1000001
namespace Pl
open PySem L2 LamX NdefX PyProof.Rows GenW PySem.W PySem.Calls
section
variable {K : PySem.W.Frag} {T : List NTab} {w : World} {B B' B1 : Lo} {A A0 : List Addr} {H0 H H' : Hp} {σ : L2.St} {δ δ' : List Sl} {te : TE} {P : R → List Sl → Prop}
/-- xs.extend(ys), ys another name's list -/
theorem ex_extB {i j : Nat} (h : ∃ a ds b es, δ[i]? = some (.own a (.lst ds)) ∧ δ[j]? = some (.own b (.lst es)) ∧ i ≠ j ∧ ds.length + es.length ≤ 100000 ∧ P (.val .none) (δ.set i (.own a (.lst (ds ++ es))))) :
    Ex K T (tBM K "list" rExtend (tVar i) (tCons (tVar j) tNil)) δ P := fun B H σ s Q k => by
  obtain ⟨a, ds, b, es, hi, hj, hne, hl, p⟩ := h
  obtain ⟨h1, xs, h2, h3⟩ := s.hp hi
  obtain ⟨k1, zs, k2, k3⟩ := s.hp hj
  refine ⟨.ref a, h1, .inl ⟨rfl, xs, .inl (.inl h2)⟩, .ref b, k1, ?_⟩
  refine ⟨a, b, xs, zs, rfl, rfl, h2, k2, by rw [da_len h3, da_len k3]; exact Nat.le_trans hl (by decide), ?_⟩
  have w := rs_write (z := .none) (w := .non) s .refl hi (u' := .lst (ds ++ es)) (o' := .lst (xs ++ zs)) ⟨_, upd_same, da_app h3 k3⟩ .non
  exact k _ _ (.val .none) _ B ⟨w.s, w.go, Dp.non, rfl⟩ p
theorem pe_joinK {X : Cx} {K0 : PySem.W.Frag} {o e : Expr} {to te : TE} {apos pos : Pos} (ho : PE X o to) (he : PE X e te) (ek : X.K = K0 := by rfl) (hs : starEach [e] X.env = [(false, eval e X.env)] := by rfl) (hbase : attributeBase o "join" X.env (eval o X.env) = eval o X.env := by rfl) (hline : (apos.endLine == pos.line) = true := by rfl) :
    PE X (.Call (.Attribute o "join" apos) [e] [] pos) (tM1 (rJoin K0) to te) := ek ▸ pe_join ho he hs hbase hline
section
variable {ta tb : TE}
theorem ex_ixQL (h : Ex K T ta δ fun r1 δ1 => Ex K T tb δ1 fun r2 δ2 => ∃ ds i d, AsD δ2 r1 (.list ds) ∧ AsD δ2 r2 (.int i) ∧ atI ds i = some d ∧ (imm d = true ∨ ∃ e, r1 = .val e) ∧ P (.val d) δ2) : Ex K T (tOp (rIx K) ta tb) δ P := fun B H σ s Q k =>
  h B H σ s _ fun v H1 r1 δ1 B1 R1 h1 => h1 B1 H1 σ R1.s _ fun w H2 r2 δ2 B2 R2 ⟨ds, i, d, a1, a2, e, hi, p⟩ => by
    obtain ⟨C1, rfl⟩ := R1.bx.suf
    obtain ⟨C2, rfl⟩ := R2.bx.suf
    have s2 := R2.s
    have v1 := R1.vr.later R2.go
    have d2 := R2.vr.dp s2 a2
    have g := R1.go.trans R2.go
    have s3 := s2
    have g3 := g
    rw [← List.append_assoc] at s3 g3
    have sB := s3.dropAll
    have gB := g3.less ow_suf
    cases d2
    rcases hi with hi | ⟨e1, rfl⟩
    · have d1 := v1.dp s2 a1
      cases d1 with
      | lst hs ha =>
        obtain ⟨u, e1, e2⟩ := at_dp ha e
        exact .inl ⟨_, _, i, u, rfl, rfl, hs, e1, k u H2 (.val d) δ2 B ⟨sB, gB, sB.imm hi e2, rfl⟩ p⟩
    · cases a1
      have v1 : Dp K (dl H2 (ow δ2 (C2 ++ (C1 ++ B)))) v (.list ds) := v1
      cases v1 with
      | lst hs ha =>
        obtain ⟨u, e1, e2⟩ := at_dp ha e
        refine .inl ⟨_, _, i, u, rfl, rfl, dl_rk.sqL hs, e1, k u H2 (.val d) δ2 B ⟨sB, gB, dp_mono (dl_less fun a m => ?_) _ _ e2, rfl⟩ p⟩
        rw [← List.append_assoc]
        exact ow_suf a m
theorem ex_ixQT (h : Ex K T ta δ fun r1 δ1 => Ex K T tb δ1 fun r2 δ2 => ∃ ds i d, r1 = .val (.tuple ds) ∧ AsD δ2 r2 (.int i) ∧ atI ds i = some d ∧ P (.val d) δ2) : Ex K T (tOp (rIx K) ta tb) δ P := fun B H σ s Q k =>
  h B H σ s _ fun v H1 r1 δ1 B1 R1 h1 => h1 B1 H1 σ R1.s _ fun w H2 r2 δ2 B2 R2 ⟨ds, i, d, a1, a2, e, p⟩ => by
    obtain ⟨C1, rfl⟩ := R1.bx.suf
    obtain ⟨C2, rfl⟩ := R2.bx.suf
    have s2 := R2.s
    have v1 := R1.vr.later R2.go
    have d2 := R2.vr.dp s2 a2
    have g := R1.go.trans R2.go
    have s3 := s2
    have g3 := g
    rw [← List.append_assoc] at s3 g3
    have sB := s3.dropAll
    have gB := g3.less ow_suf
    cases d2
    subst a1
    have v1 : Dp K (dl H2 (ow δ2 (C2 ++ (C1 ++ B)))) v (.tuple ds) := v1
    cases v1 with
    | tup hs ha =>
      obtain ⟨u, e1, e2⟩ := at_dp ha e
      refine .inr <| .inl ⟨_, _, i, u, rfl, rfl, dl_rk.sqT hs, e1, k u H2 (.val d) δ2 B ⟨sB, gB, dp_mono (dl_less fun a m => ?_) _ _ e2, rfl⟩ p⟩
      rw [← List.append_assoc]
      exact ow_suf a m
end
theorem opd_neB {x y : Bool} {P : R → Prop} (p : P (.val (.bool (!decide (x = y))))) : OpD K rNe (.bool x) (.bool y) P := fun H v w Q h1 h2 o => by
  cases h1; cases h2
  refine ⟨rfl, ?_⟩
  have e : decide (V.bl x = V.bl y) = decide (x = y) := by
    cases x <;> cases y <;> rfl
  rw [e]
  exact o.val _ _ (.bl _) p
theorem ex_isi3 {n : String} (h : Ex K T te δ fun r δ1 => ∃ d, AsD δ1 r d ∧ ∃ tn b, tyD d = .type tn ∧ kitB tn n = some b ∧ P (.val (.bool b)) δ1) : Ex K T (tCB (rIsi K) (tCons te (tCons (tC (.ty n)) tNil))) δ P := fun B H σ s Q k =>
  h B H σ s _ fun v H1 r δ1 B1 R1 ⟨d, a, tn, b, e1, e2, p⟩ => by
    obtain ⟨C, rfl⟩ := R1.bx.suf
    obtain ⟨t, h1, h2⟩ := ty_of (R1.vr.dp R1.s a)
    have h2 : t = tyD d := by rw [h2]; cases d <;> rfl
    subst h2
    exact ⟨v, .ty n, _, .type n, b, rfl, .ty n, h1, by rw [e1]; exact kit_ty e2, (out_suf (P := P) R1.s R1.go k).val _ _ (.bl _) p⟩
theorem kitAny2 {tn n m : String} {b1 b2 : Bool} (e2 : kitB tn n = some b1) (e3 : kitB tn m = some b2) : PySem.W.kitAny K (.type tn) [.type n, .type m] = some (b1 || b2) := by
  refine kitAny_cons (kit_ty e2) (fun h => ?_) (fun h => by rw [h]; rfl)
  subst h
  refine kitAny_cons (kit_ty e3) (fun h => ?_) (fun h => by rw [h]; rfl)
  subst h
  exact kitAny_nil
theorem ex_isi4 {n m : String} (h : Ex K T te δ fun r δ1 => ∃ d, AsD δ1 r d ∧ ∃ tn b1 b2, tyD d = .type tn ∧ kitB tn n = some b1 ∧ kitB tn m = some b2 ∧ P (.val (.bool (b1 || b2))) δ1) :
    Ex K T (tCB (rIsiT K) (tCons te (tCons (tTup (tCons (tC (.ty n)) (tCons (tC (.ty m)) tNil))) tNil))) δ P := fun B H σ s Q k =>
  h B H σ s _ fun v H1 r δ1 B1 R1 ⟨d, a, tn, b1, b2, e1, e2, e3, p⟩ => by
    have e : PySem.W.kitAny K (tyD d) [.type n, .type m] = some (b1 || b2) := by rw [e1]; exact kitAny2 e2 e3
    obtain ⟨C, rfl⟩ := R1.bx.suf
    refine ⟨by show 2 ≤ sizeLine; decide, fun q hq => ?_⟩
    have d1 := R1.vr.dp R1.s a
    obtain ⟨t, h3, h4⟩ := ty_of (dp_mono (go_upd (A := []) (o := .tup [.ty n, .ty m]) hq).rk _ _ (dp_mono (fun a o q _ => dl_of q (by simp)) _ _ d1) : Dp K (dl (upd H1 q (.tup [.ty n, .ty m])) []) v d)
    have h4 : t = tyD d := by rw [h4]; cases d <;> rfl
    subst h4
    have h5 : TyX K (upd H1 q (.tup [.ty n, .ty m])) v (tyD d) := by
      have e : dl (upd H1 q (.tup [.ty n, .ty m])) [] = upd H1 q (.tup [.ty n, .ty m]) := funext fun a => by simp [dl]
      rw [e] at h3
      exact h3
    refine ⟨v, q, [.ty n, .ty m], _, [.type n, .type m], b1 || b2, rfl, upd_same, .cons (.ty n) (.cons (.ty m) .nil), h5, e, ?_⟩
    exact k _ _ (.val (.bool (b1 || b2))) δ1 B ⟨R1.s.dropAll.laid hq, (R1.go.less (ow_suf (C := C))).trans (go_upd hq), .bl _, rfl⟩ p
theorem go_forRx {ta : TA} {i : Nat} {t : TS} {nx bk ct : List Sl → Prop} {rt : R → List Sl → Prop} (h : ExA K T ta δ fun rs δ1 => ∃ n : Nat, rs = [.val (.int n)] ∧ n ≤ 1000000 ∧ ∃ W : Nat → List Sl → Prop, W 0 δ1 ∧
    (∀ k δ2, k < n → W k δ2 → Ss K T t (δ2.set i (.val (.int k))) ⟨W (k + 1), rt, nx, W (k + 1)⟩) ∧ ∀ δ2, W n δ2 → nx δ2) : Ss K T (tFor (iRng1 ta) (gName i) t) δ ⟨nx, rt, bk, ct⟩ :=
  ss_forR fun B H σ S1 Q k => h B H σ S1 Q fun vs H1 rs δ1 B1 R1 ⟨n, e1, hn, W, w, s, e⟩ => k vs H1 rs δ1 B1 R1 ⟨n, e1, by omega, by omega, W, w, fun k δ2 hk w => s k δ2 (by omega) w, fun δ2 w => e δ2 (by rw [Int.toNat_natCast] at w; exact w)⟩
/-- what a call asks behind its arguments -/
def CallG (F : FS) (P : R → List Sl → Prop) (rs : List R) (δ1 : List Sl) : Prop := ∃ as is, ArgR δ1 is rs as is ∧ is.Nodup ∧ F as fun r us => RImm r us ∧ P r (putOs δ1 is us)
theorem go_call {F : FS} {ta : TA} {X : XK} (h : ExA K T ta δ (CallG F P)) : Ex K T (tCall (spOf K T F) [] X ta) δ P := ex_call h
theorem cv {F : FS} {rs : List R} (as : List Ar) (h : ArgR δ [] rs as []) (f : F as fun r us => RImm r us ∧ P r δ) : CallG F P rs δ := ⟨as, [], h, List.nodup_nil, f⟩
theorem cx {F : FS} {rs : List R} (as : List Ar) (is : List Nat) (h : ArgR δ is rs as is) (nd : is.Nodup) (f : F as fun r us => RImm r us ∧ P r (putOs δ is us)) : CallG F P rs δ := ⟨as, is, h, nd, f⟩
theorem exj_cons {t : TE} {l : List TE} {acc : Str} (h : Ex K T t δ fun r δ1 => ∃ y, r = .val (.str y) ∧ (acc ++ y).length ≤ 1000000 ∧ ExJ K T l (acc ++ y) δ1 P) : ExJ K T (t :: l) acc δ P := h
theorem exj_nil {acc : Str} (h : P (.val (.str acc)) δ) : ExJ K T [] acc δ P := h
/-- [e for x in xs], the results told -/
theorem turn_yes {i : Nat} {d z : D} {acc : List D} (hl : acc.length < 100000) (h : Ex K T te (δ.set i (.val d)) fun r δ3 => r = .val z ∧ δ3 = δ.set i (.val d)) : Turn1 K T i tYes te δ d acc (acc ++ [z]) := fun B H σ s Q q =>
  q true H _ s .refl ⟨rfl, by rw [if_pos rfl]; exact h.imp fun r δ3 ⟨e1, e2⟩ => ⟨z, e1, e2, rfl, hl⟩⟩
theorem ex_mapT2 {i : Nat} {ta : TE} (h : Ex K T ta δ fun r δ1 => ∃ (ds es : List D), r = .val (.tuple ds) ∧ δ1[i]? = some .no ∧ ds.length ≤ 100000 ∧ es.length = ds.length ∧ (∀ (k : Nat) (d e : D), ds[k]? = some d → es[k]? = some e → Ex K T te (δ1.set i (.val d)) fun r δ3 => r = .val e ∧ δ3 = δ1.set i (.val d)) ∧ P (.new (.lst es)) δ1) :
    Ex K T (tLc (iTup K ta) (gName i) tYes te [i]) δ P :=
  ex_lcT (h.imp fun r δ1 ⟨ds, es, e1, e2, hl, he, hs, p⟩ => ⟨ds, e1, e2, fun k => es.take k, rfl, fun k d hd => by
    have hk : k < es.length := by rw [he]; exact (List.getElem?_eq_some_iff.mp hd).1
    have hz : es[k]? = some es[k] := List.getElem?_eq_getElem hk
    show Turn1 K T i tYes te δ1 d (es.take k) (es.take (k + 1))
    rw [List.take_add_one, hz]
    exact turn_yes (by rw [List.length_take]; omega) (hs k d _ hd hz), by show P (.new (.lst (es.take ds.length))) δ1; rw [← he, List.take_length]; exact p⟩)
theorem ex_mapL2 {i : Nat} {ta : TE} (h : Ex K T ta δ fun r δ1 => ∃ (ds es : List D), Fz r (.list ds) ∧ δ1[i]? = some .no ∧ ds.length ≤ 100000 ∧ es.length = ds.length ∧ (∀ (k : Nat) (d e : D), ds[k]? = some d → es[k]? = some e → Ex K T te (δ1.set i (.val d)) fun r δ3 => r = .val e ∧ δ3 = δ1.set i (.val d)) ∧ P (.new (.lst es)) δ1) :
    Ex K T (tLc (iList K ta) (gName i) tYes te [i]) δ P :=
  ex_lcL (h.imp fun r δ1 ⟨ds, es, e1, e2, hl, he, hs, p⟩ => ⟨ds, e1, e2, fun k => es.take k, rfl, fun k d hd => by
    have hk : k < es.length := by rw [he]; exact (List.getElem?_eq_some_iff.mp hd).1
    have hz : es[k]? = some es[k] := List.getElem?_eq_getElem hk
    show Turn1 K T i tYes te δ1 d (es.take k) (es.take (k + 1))
    rw [List.take_add_one, hz]
    exact turn_yes (by rw [List.length_take]; omega) (hs k d _ hd hz), by show P (.new (.lst (es.take ds.length))) δ1; rw [← he, List.take_length]; exact p⟩)
/-- [x for x in xs if t] -/
theorem ex_filL2 {i : Nat} {ta : TE} {tt : TT} (p : D → Bool) (h : Ex K T ta δ fun r δ1 => ∃ ds, Fz r (.list ds) ∧ δ1[i]? = some .no ∧ ds.length ≤ 100000 ∧ (∀ d ∈ ds, ExT K T tt (δ1.set i (.val d)) fun b δ3 => b = p d ∧ δ3 = δ1.set i (.val d)) ∧ P (.new (.lst (ds.filter p))) δ1) :
    Ex K T (tLc (iList K ta) (gName i) tt (tVar i) [i]) δ P :=
  ex_lcL (h.imp fun r δ1 ⟨ds, e1, e2, hl, hs, q⟩ => ⟨ds, e1, e2, fun k => (ds.take k).filter p, rfl, fun k d hd => by
    have hm : d ∈ ds := List.mem_of_getElem? hd
    have hk : k < ds.length := (List.getElem?_eq_some_iff.mp hd).1
    have hi : i < δ1.length := (List.getElem?_eq_some_iff.mp e2).1
    refine (hs d hm).imp fun b δ3 ⟨q1, q2⟩ => ⟨q2, ?_⟩
    subst q1
    show if p d = true then _ else (ds.take (k + 1)).filter p = (ds.take k).filter p
    have e : (ds.take (k + 1)).filter p = (ds.take k).filter p ++ [d].filter p := by
      rw [List.take_add_one, hd, List.filter_append]
      rfl
    cases hp : p d with
    | true =>
      rw [if_pos rfl]
      refine ex_var (by rw [List.getElem?_set_self hi]) ⟨d, rfl, rfl, ?_, ?_⟩
      · show (ds.take (k + 1)).filter p = (ds.take k).filter p ++ [d]
        rw [e, List.filter_cons_of_pos hp]; rfl
      · have := List.length_filter_le p (ds.take k)
        rw [List.length_take] at this
        show ((ds.take k).filter p).length < 100000
        omega
    | false =>
      rw [if_neg Bool.false_ne_true, e, List.filter_cons_of_neg (by rw [hp]; exact Bool.false_ne_true)]
      simp, by
    show P (.new (.lst ((ds.take ds.length).filter p))) δ1
    rw [List.take_length]; exact q⟩)
theorem putOs_nil {us : List OV} : putOs δ [] us = δ := rfl
theorem id_len {ds : List D} {P : R → Prop} (h : CbD K (Pl.rLen K) ds P) : CbD K (Pl.rLen K) ds P := h
theorem id_list {ds : List D} {P : R → Prop} (h : CbD K (rListOf K) ds P) : CbD K (rListOf K) ds P := h
end
mutual
theorem eqv_tm : ∀ t u : Tm, PyData.eqv t.d u.d = decide (t = u)
  | .top, u => by cases u <;> simp [Tm.d, PyData.eqv, PyData.eqvAll] <;> decide
  | .bot, u => by cases u <;> simp [Tm.d, PyData.eqv, PyData.eqvAll] <;> decide
  | .name w, u => by
    cases u with
    | name v => simp [Tm.d, PyData.eqv, PyData.eqvAll, Bool.beq_eq_decide_eq]
    | and ts => simp [Tm.d, PyData.eqv, PyData.eqvAll]
    | _ => simp [Tm.d, PyData.eqv, PyData.eqvAll]
  | .some r t, u => by
    cases u with
    | some s v =>
      simp only [Tm.d, PyData.eqv, PyData.eqvAll, eqv_tm t v, Bool.and_true]
      simp [Bool.beq_eq_decide_eq]
    | _ => simp [Tm.d, PyData.eqv, PyData.eqvAll]
  | .and ts, u => by
    cases u with
    | and us =>
      simp only [Tm.d, PyData.eqv, PyData.eqvAll, eqv_tmL ts us, Bool.and_true]
      simp
    | _ => simp [Tm.d, PyData.eqv, PyData.eqvAll]
theorem eqv_tmL : ∀ ts us : List Tm, PyData.eqvAll (Tm.dL ts) (Tm.dL us) = decide (ts = us)
  | [], [] => by simp [Tm.dL, PyData.eqvAll]
  | [], _ :: _ => by simp [Tm.dL, PyData.eqvAll]
  | _ :: _, [] => by simp [Tm.dL, PyData.eqvAll]
  | t :: ts, u :: us => by
    simp only [Tm.dL, PyData.eqvAll, eqv_tm t u, eqv_tmL ts us]
    simp
end
theorem Tm.d_inj {t u : Tm} (h : t.d = u.d) : t = u := by
  have e := eqv_tm t u
  have e2 := eqv_tm u u
  rw [h, e2] at e
  simpa using e.symm
theorem W.ok {x : Str} (h : W x) : PyData.strOk x = true := by
  unfold PyData.strOk
  rw [Array.all_eq_true]
  intro i hi
  have hm : x.cps[i] ∈ x.cps.toList := Array.mem_toList_iff.mpr (Array.getElem_mem hi)
  have q := h.w _ hm
  unfold isW at q
  simp only [Bool.or_eq_true, Bool.and_eq_true, decide_eq_true_eq] at q
  rw [decide_eq_true_eq]
  omega
mutual
theorem lay_tm : ∀ t : Tm, t.good → PyData.canLay0 t.d = true
  | .top, _ => by decide +kernel
  | .bot, _ => by decide +kernel
  | .name w, g => by
    show (PyData.strOk "name" && (PyData.strOk w && true)) = true
    rw [W.ok g]
    decide +kernel
  | .some r t, g => by
    show (PyData.strOk "some" && (PyData.strOk r && (PyData.canLay0 t.d && true))) = true
    rw [W.ok g.1, lay_tm t g.2]
    decide +kernel
  | .and ts, g => by
    show (PyData.strOk "and" && (PyData.canLayAll0 (Tm.dL ts) && true)) = true
    rw [lay_tmL ts g]
    decide +kernel
theorem lay_tmL : ∀ ts : List Tm, Tm.goodL ts → PyData.canLayAll0 (Tm.dL ts) = true
  | [], _ => rfl
  | t :: ts, g => by
    show (PyData.canLay0 t.d && PyData.canLayAll0 (Tm.dL ts)) = true
    rw [lay_tm t g.1, lay_tmL ts g.2]
    rfl
end
mutual
theorem depth_tm : ∀ t : Tm, PyData.depth t.d ≤ 2 * t.ht
  | .top => by decide
  | .bot => by decide
  | .name w => by
    show max 0 (max 0 0) + 1 ≤ 2 * 1
    decide +kernel
  | .some r t => by
    show max 0 (max 0 (max (PyData.depth t.d) 0)) + 1 ≤ 2 * (t.ht + 1)
    have := depth_tm t
    omega
  | .and ts => by
    show max 0 (max (PyData.depthAll (Tm.dL ts) + 1) 0) + 1 ≤ 2 * (Tm.htL ts + 1)
    have := depth_tmL ts
    omega
theorem depth_tmL : ∀ ts : List Tm, PyData.depthAll (Tm.dL ts) ≤ 2 * Tm.htL ts
  | [] => Nat.le_refl _
  | t :: ts => by
    show max (PyData.depth t.d) (PyData.depthAll (Tm.dL ts)) ≤ 2 * max t.ht (Tm.htL ts)
    have := depth_tm t
    have := depth_tmL ts
    omega
end
theorem shaped_tm {t : Tm} (g : t.good) (h : t.ht ≤ 31) : SeqAt.shaped t.d = true := by
  unfold SeqAt.shaped
  rw [Bool.and_eq_true]
  refine ⟨lay_tm t g, decide_eq_true ?_⟩
  have := depth_tm t
  omega
theorem shaped_tmL {ts : List Tm} (g : ∀ t ∈ ts, t.good ∧ t.ht ≤ 31) : SeqAt.shaped (.list (ts.map Tm.d)) = true := by
  unfold SeqAt.shaped
  rw [Bool.and_eq_true]
  rw [← Tm.dL_map]
  refine ⟨lay_tmL ts (Tm.goodL_iff.mpr fun t m => (g t m).1), decide_eq_true ?_⟩
  show PyData.depthAll (Tm.dL ts) + 1 ≤ 64
  have h1 := depth_tmL ts
  have h2 : Tm.htL ts ≤ 31 := by
    clear h1
    induction ts with
    | nil => exact Nat.zero_le _
    | cons t ts ih => exact Nat.max_le.mpr ⟨(g t List.mem_cons_self).2, ih fun u m => g u (List.mem_cons_of_mem _ m)⟩
  omega
theorem shaped_W {x : Str} (h : W x) : SeqAt.shaped (.str x) = true := by
  unfold SeqAt.shaped
  rw [Bool.and_eq_true]
  exact ⟨h.ok, decide_eq_true (Nat.zero_le _)⟩
theorem eqv_str {x y : Str} : PyData.eqv (.str x) (.str y) = decide (x = y) := by
  simp [PyData.eqv, Bool.beq_eq_decide_eq]
theorem any_tm {ts : List Tm} {t : Tm} : ((ts.map Tm.d).any fun z => PyData.eqv z t.d) = decide (t ∈ ts) := by
  rw [List.any_map]
  have e : ((fun z => PyData.eqv z t.d) ∘ Tm.d) = fun u => decide (u = t) := by
    funext u
    exact eqv_tm u t
  rw [e]
  by_cases h : t ∈ ts
  · rw [decide_eq_true h, List.any_eq_true]
    exact ⟨t, h, by simp⟩
  · rw [decide_eq_false h, Bool.eq_false_iff]
    intro q
    obtain ⟨u, h1, h2⟩ := List.any_eq_true.mp q
    rw [of_decide_eq_true h2] at h1
    exact h h1
/-- a term within bounds -/
structure Tb (h : Nat) (t : Tm) : Prop where
  good : t.good
  ht : t.ht ≤ h
  cnt : t.cnt ≤ 1000
  low : t.ht ≤ 25
theorem Tb.some {h : Nat} {r : Str} {t : Tm} (b : Tb (h + 1) (.some r t)) : Tb h t := ⟨b.good.2, Nat.le_of_succ_le_succ b.ht, by have : t.cnt + 1 ≤ 1000 := b.cnt; omega, by have : t.ht + 1 ≤ 25 := b.low; omega⟩
theorem Tb.some' {h : Nat} {r : Str} {t : Tm} (b : Tb h (.some r t)) : Tb h t := ⟨b.good.2, by have : t.ht + 1 ≤ h := b.ht; omega, by have : t.cnt + 1 ≤ 1000 := b.cnt; omega, by have : t.ht + 1 ≤ 25 := b.low; omega⟩
theorem Tb.W {h : Nat} {r : Str} {t : Tm} (b : Tb h (.some r t)) : W r := b.good.1
theorem Tb.and {h : Nat} {us : List Tm} (b : Tb (h + 1) (.and us)) {t : Tm} (m : t ∈ us) : Tb h t :=
  ⟨Tm.goodL_iff.mp b.good t m, Nat.le_trans (Tm.htL_le m) (Nat.le_of_succ_le_succ b.ht), by have : Tm.cntL us + 1 ≤ 1000 := b.cnt; have := Tm.cntL_le m; omega, by have : Tm.htL us + 1 ≤ 25 := b.low; have := Tm.htL_le m; omega⟩
theorem Tb.len {h : Nat} {us : List Tm} (b : Tb h (.and us)) : us.length < 1000 := by have : Tm.cntL us + 1 ≤ 1000 := b.cnt; have := Tm.len_cntL us; omega
theorem Tb.no {t : Tm} (b : Tb 0 t) : False := by have := b.ht; have := t.ht_pos; omega
theorem Tb.mono {h k : Nat} {t : Tm} (b : Tb h t) (e : h ≤ k) : Tb k t := ⟨b.good, Nat.le_trans b.ht e, b.cnt, b.low⟩
theorem Tb.shaped {h : Nat} {t : Tm} (b : Tb h t) : SeqAt.shaped t.d = true := shaped_tm b.good (by have := b.low; omega)
theorem shaped_tb {h : Nat} {ts : List Tm} (b : ∀ t ∈ ts, Tb h t) : SeqAt.shaped (.list (ts.map Tm.d)) = true := shaped_tmL fun t m => ⟨(b t m).good, by have := (b t m).low; omega⟩
mutual
theorem good_raw : ∀ (t : Tm), t.good → ∀ u ∈ t.raw, u.good ∧ u.cnt ≤ t.cnt
  | .top, _, _, h => by cases h
  | .bot, _, _, h => by rw [List.mem_singleton.mp h]; exact ⟨trivial, Nat.le_refl _⟩
  | .name _, g, _, h => by rw [List.mem_singleton.mp h]; exact ⟨g, Nat.le_refl _⟩
  | .some _ _, g, _, h => by rw [List.mem_singleton.mp h]; exact ⟨g, Nat.le_refl _⟩
  | .and us, g, u, h => by
    have := goodL_raw us g u h
    exact ⟨this.1, Nat.le_succ_of_le this.2⟩
theorem goodL_raw : ∀ (ts : List Tm), Tm.goodL ts → ∀ u ∈ Tm.rawL ts, u.good ∧ u.cnt ≤ Tm.cntL ts
  | [], _, _, h => by cases h
  | t :: ts, g, u, h => by
    rcases List.mem_append.mp h with h | h
    · have := good_raw t g.1 u h
      exact ⟨this.1, Nat.le_trans this.2 (Nat.le_add_right _ _)⟩
    · have := goodL_raw ts g.2 u h
      exact ⟨this.1, Nat.le_trans this.2 (Nat.le_add_left _ _)⟩
end
theorem Tb.raw {h : Nat} {t u : Tm} (b : Tb h t) (m : u ∈ t.raw) : Tb h u := by
  have := good_raw t b.good u m
  have q := Tm.raw_ht t u m
  exact ⟨this.1, Nat.le_trans q b.ht, Nat.le_trans this.2 b.cnt, Nat.le_trans q b.low⟩
theorem Tb.rlen {h : Nat} {t : Tm} (b : Tb h t) : t.raw.length ≤ 1000 := Nat.le_trans (Tm.raw_len t) b.cnt
theorem tm_imm {us : List Tm} : immAll (us.map Tm.d) = true := by rw [← Tm.dL_map]; exact Tm.imm_dL us
theorem rawL_take {us : List Tm} {k : Nat} {t : Tm} (h : us[k]? = some t) : Tm.rawL (us.take (k + 1)) = Tm.rawL (us.take k) ++ t.raw := by
  rw [List.take_add_one, h, Tm.rawL_flat, Tm.rawL_flat, List.flatMap_append]
  simp
theorem rawL_len {us : List Tm} {k : Nat} (b : Tm.cntL us < 1000) : (Tm.rawL (us.take k)).length ≤ 1000 := by
  have h1 : (Tm.rawL (us.take k)).length ≤ (Tm.rawL us).length := by
    have e : Tm.rawL us = Tm.rawL (us.take k) ++ Tm.rawL (us.drop k) := by
      rw [Tm.rawL_flat, Tm.rawL_flat, Tm.rawL_flat, ← List.flatMap_append, List.take_append_drop]
    rw [e, List.length_append]
    exact Nat.le_add_right _ _
  have := Tm.rawL_len us
  omega
theorem map_at {us : List Tm} {k : Nat} {d : D} (h : (us.map Tm.d)[k]? = some d) : ∃ t, us[k]? = some t ∧ d = t.d := by
  rw [List.getElem?_map] at h
  cases e : us[k]? with
  | none => rw [e] at h; cases h
  | some t => rw [e] at h; exact ⟨t, rfl, (Option.some.inj h).symm⟩
section
variable {K : PySem.W.Frag} {T : List NTab} {P : R → Prop}
theorem opd_eqBot {t : Tm} (h : SeqAt.shaped t.d = true) (p : P (.val (.bool (decide (t = .bot))))) : OpD K (rEqD K) t.d (.tuple [.str "bottom"]) P :=
  opd_eqD h (by decide +kernel) (by have e := eqv_tm t .bot; rw [show PyData.tuple [.str "bottom"] = Tm.bot.d from rfl, e]; exact p)
theorem opd_neTm {t u : Tm} (h : SeqAt.shaped t.d = true) (k : SeqAt.shaped u.d = true) (p : P (.val (.bool (!decide (t = u))))) : OpD K (rNeD K) t.d u.d P :=
  opd_neD h k (by rw [eqv_tm]; exact p)
theorem opd_eqW {x y : Str} (h : W x) (k : W y) (p : P (.val (.bool (decide (x = y))))) : OpD K (rEqD K) (.str x) (.str y) P :=
  opd_eqD (shaped_W h) (shaped_W k) (by rw [eqv_str]; exact p)
theorem opd_inTm {t : Tm} {us : List Tm} (h : SeqAt.shaped t.d = true) (k : SeqAt.shaped (.list (us.map Tm.d)) = true) (p : P (.val (.bool (decide (t ∈ us))))) : OpD K (rInD K) t.d (.list (us.map Tm.d)) P :=
  opd_inD h k (by rw [any_tm]; exact p)
theorem opd_niTm {t : Tm} {us : List Tm} (h : SeqAt.shaped t.d = true) (k : SeqAt.shaped (.list (us.map Tm.d)) = true) (p : P (.val (.bool (!decide (t ∈ us))))) : OpD K (rNotInD K) t.d (.list (us.map Tm.d)) P :=
  opd_notInD h k (by rw [any_tm]; exact p)
theorem opd_inBot {us : List Tm} (k : SeqAt.shaped (.list (us.map Tm.d)) = true) (p : P (.val (.bool (decide (Tm.bot ∈ us))))) : OpD K (rInD K) (.tuple [.str "bottom"]) (.list (us.map Tm.d)) P :=
  opd_inTm (t := .bot) (by decide +kernel) k p
end
theorem str_ext {x y : Str} (h : x.cps.toList = y.cps.toList) : x = y := str_of_cps h
theorem tl_app (x y : Str) : (x ++ y).cps.toList = x.cps.toList ++ y.cps.toList := by
  show (x.cps ++ y.cps).toList = _
  rw [Array.toList_append]
theorem tl_wr (t : Tm) : t.wr.cps.toList = t.wl := by simp [Tm.wr]
theorem len_tl (x : Str) : x.length = x.cps.toList.length := by simp [Str.length]
mutual
theorem wl_len : ∀ t : Tm, t.good → t.wl.length + 5 ≤ 25 * t.cnt
  | .top, _ => by show 3 + 5 ≤ 25 * 1; decide
  | .bot, _ => by show 6 + 5 ≤ 25 * 1; decide
  | .name w, g => by
    have g : W w := g
    have h := g.hi
    rw [len_tl] at h
    show w.cps.toList.length + 5 ≤ 25 * 1
    omega
  | .some r t, g => by
    have h := g.1.hi
    have h2 := wl_len t g.2
    rw [len_tl] at h
    rw [Tm.wl]
    show _ ≤ 25 * (t.cnt + 1)
    by_cases ha : t.isAnd = true
    · rw [if_pos ha]
      simp only [cSome, List.length_append, List.length_cons, List.length_nil]
      omega
    · rw [if_neg ha]
      simp only [cSome, List.length_append, List.length_cons, List.length_nil]
      omega
  | .and ts, g => by
    rw [Tm.wl]
    show _ ≤ 25 * (Tm.cntL ts + 1)
    have := wlL_len ts g
    omega
theorem wlL_len : ∀ ts : List Tm, Tm.goodL ts → (Tm.wlL ts).length ≤ 25 * Tm.cntL ts
  | [], _ => by simp [Tm.wlL]
  | [t], g => by
    rw [Tm.wlL]
    have := wl_len t g.1
    show _ ≤ 25 * (t.cnt + 0)
    simp only [List.length_append, List.length_nil]
    omega
  | t :: u :: ts, g => by
    rw [Tm.wlL]
    have h1 := wl_len t g.1
    have h2 := wlL_len (u :: ts) g.2
    have h3 := t.cnt_pos
    show _ ≤ 25 * (t.cnt + Tm.cntL (u :: ts))
    simp only [cAnd, List.length_append, List.length_cons, List.length_nil]
    omega
end
theorem Tb.wlen {h : Nat} {t : Tm} (b : Tb h t) : t.wr.length ≤ 25000 := by
  have h1 := wl_len t b.good
  have h2 := b.cnt
  rw [len_tl, tl_wr]
  omega
theorem join_tl (y : Str) : ∀ ts : List Tm, y.cps.toList = cAnd → (Txt.join y (ts.map Tm.wr)).cps.toList = Tm.wlL ts := by
  intro ts hy
  have e : Txt.join y (ts.map Tm.wr) = Str.join y (ts.map Tm.wr) := StrLaws.glued_eq_join _ _
  rw [e]
  clear e
  induction ts with
  | nil => rfl
  | cons t ts ih =>
    cases ts with
    | nil =>
      show t.wr.cps.toList = _
      rw [tl_wr, Tm.wlL]
      simp
    | cons u us =>
      show (t.wr ++ y ++ Str.join y ((u :: us).map Tm.wr)).cps.toList = _
      rw [tl_app, tl_app, tl_wr, hy, ih, Tm.wlL, List.append_assoc]
theorem sum_wr : ∀ {ts : List Tm}, Tm.goodL ts → ((ts.map Tm.wr).map (·.length)).sum ≤ 25 * Tm.cntL ts
  | [], _ => by simp
  | t :: ts, g => by
    have h1 := wl_len t g.1
    have h2 := sum_wr (ts := ts) g.2
    show t.wr.length + ((ts.map Tm.wr).map (·.length)).sum ≤ 25 * (t.cnt + Tm.cntL ts)
    rw [len_tl, tl_wr]
    omega
end Pl
set_option Elab.async false
set_option linter.all false
set_option maxRecDepth 100000
set_option maxHeartbeats 1000001
namespace Pl
open PySem PySem.W
theorem cntL_app : ∀ (us vs : List Tm), Tm.cntL (us ++ vs) = Tm.cntL us + Tm.cntL vs
  | [], vs => by simp [Tm.cntL]
  | u :: us, vs => by rw [List.cons_append, Tm.cntL, Tm.cntL, cntL_app us vs]; omega
theorem cntL_sub {us vs : List Tm} (h : us.Sublist vs) : Tm.cntL us ≤ Tm.cntL vs := by
  induction h with
  | slnil => exact Nat.le_refl _
  | cons a _ ih => show _ ≤ a.cnt + _; omega
  | cons_cons a _ ih => show a.cnt + _ ≤ a.cnt + _; omega
theorem cntL_perm {us vs : List Tm} (h : us.Perm vs) : Tm.cntL us = Tm.cntL vs := by
  induction h with
  | nil => rfl
  | cons a _ ih => show a.cnt + _ = a.cnt + _; omega
  | swap a b l => show b.cnt + (a.cnt + _) = a.cnt + (b.cnt + _); omega
  | trans _ _ h1 h2 => omega
theorem cntL_ddp : ∀ (as acc : List Tm), Tm.cntL (ddp acc as) ≤ Tm.cntL acc + Tm.cntL as
  | [], acc => by simp [ddp, Tm.cntL]
  | a :: as, acc => by
    rw [ddp]
    have := cntL_ddp as (if a ∈ acc then acc else acc ++ [a])
    by_cases h : a ∈ acc
    · rw [if_pos h] at this ⊢
      show _ ≤ _ + (a.cnt + _)
      omega
    · rw [if_neg h] at this ⊢
      rw [cntL_app] at this
      have e : Tm.cntL [a] = a.cnt := by simp [Tm.cntL]
      show _ ≤ _ + (a.cnt + _)
      omega
theorem cntL_row (t : Tm) : Tm.cntL t.row ≤ Tm.cntL t.pre := by
  unfold Tm.row
  rw [cntL_perm (srt_perm _)]
  have h1 := cntL_sub (us := kpt (ddp [] t.pre)) (List.filter_sublist)
  have h2 := cntL_ddp t.pre []
  have e : Tm.cntL [] = 0 := rfl
  omega
theorem len_row (t : Tm) : t.row.length ≤ t.pre.length := by
  unfold Tm.row
  rw [(srt_perm _).length_eq]
  refine Nat.le_trans (List.length_filter_le _ _) ?_
  have : ∀ (as acc : List Tm), (ddp acc as).length ≤ acc.length + as.length := by
    intro as
    induction as with
    | nil => intro acc; simp [ddp]
    | cons a as ih =>
      intro acc
      rw [ddp]
      have := ih (if a ∈ acc then acc else acc ++ [a])
      by_cases h : a ∈ acc
      · rw [if_pos h] at this ⊢; simp; omega
      · rw [if_neg h] at this ⊢; simp at this ⊢; omega
  have := this t.pre []
  simpa using this
/-- what the parts are held to -/
structure Bd (t : Tm) : Prop where
  good : t.nf.good
  ht : t.nf.ht ≤ t.ht
  cnt : t.nf.cnt ≤ t.cnt
theorem shp_bd {ks : List Tm} {g : Prop} {n m : Nat} (h1 : ∀ k ∈ ks, k.good ∧ k.ht ≤ n) (h2 : Tm.cntL ks ≤ m) (hn : 1 ≤ n) (hm : 1 ≤ m) (hl : ks.length ≤ 1) : (shp ks).good ∧ (shp ks).ht ≤ n ∧ (shp ks).cnt ≤ m := by
  match ks, hl with
  | [], _ => exact ⟨trivial, hn, hm⟩
  | [k], _ => exact ⟨(h1 k List.mem_cons_self).1, (h1 k List.mem_cons_self).2, by have : k.cnt + 0 ≤ m := h2; exact this⟩
theorem shp_bd2 {ks : List Tm} {n m : Nat} (h1 : ∀ k ∈ ks, k.good ∧ k.ht ≤ n) (h2 : Tm.cntL ks ≤ m) : (shp ks).good ∧ (shp ks).ht ≤ n + 1 ∧ (shp ks).cnt ≤ m + 1 := by
  match ks, h1, h2 with
  | [], _, _ => exact ⟨trivial, Nat.le_add_left _ _, Nat.le_add_left _ _⟩
  | [k], h1, h2 => exact ⟨(h1 k List.mem_cons_self).1, Nat.le_succ_of_le (h1 k List.mem_cons_self).2, by have : k.cnt + 0 ≤ m := h2; show k.cnt ≤ m + 1; omega⟩
  | k :: l :: ks, h1, h2 =>
    refine ⟨Tm.goodL_iff.mpr fun x hx => (h1 x hx).1, ?_, Nat.succ_le_succ h2⟩
    show Tm.htL (k :: l :: ks) + 1 ≤ n + 1
    have all : ∀ xs : List Tm, (∀ x ∈ xs, x.ht ≤ n) → Tm.htL xs ≤ n := by
      intro xs
      induction xs with
      | nil => intro _; exact Nat.zero_le _
      | cons x xs ih => intro h; exact Nat.max_le.mpr ⟨h x List.mem_cons_self, ih fun y hy => h y (List.mem_cons_of_mem _ hy)⟩
    exact Nat.succ_le_succ (all _ fun x hx => (h1 x hx).2)
mutual
theorem pre_bd : ∀ t : Tm, t.good → (∀ a ∈ t.pre, a.good ∧ a.ht ≤ t.ht) ∧ Tm.cntL t.pre ≤ t.cnt
  | .top, _ => by simp [Tm.pre, Tm.cntL]
  | .bot, _ => by simp [Tm.pre, Tm.cntL, Tm.good, Tm.cnt]
  | .name w, g => by
    rw [Tm.pre]
    exact ⟨fun a h => by rw [List.mem_singleton.mp h]; exact ⟨g, Nat.le_refl _⟩, Nat.le_refl _⟩
  | .some r t, g => by
    have b := nf_bd t g.2
    rw [pre_some]
    by_cases hv : t.void = true
    · rw [if_pos hv]
      refine ⟨fun a h => by rw [List.mem_singleton.mp h]; exact ⟨trivial, Nat.le_add_left _ _⟩, ?_⟩
      show 1 + 0 ≤ t.cnt + 1
      omega
    · rw [if_neg hv]
      refine ⟨fun a h => by rw [List.mem_singleton.mp h]; exact ⟨⟨g.1, b.good⟩, Nat.succ_le_succ b.ht⟩, ?_⟩
      show t.nf.cnt + 1 + 0 ≤ t.cnt + 1
      have := b.cnt
      omega
  | .and ts, g => by
    rw [Tm.pre]
    obtain ⟨h1, h2⟩ := preL_bd ts g
    exact ⟨fun a h => ⟨(h1 a h).1, Nat.le_succ_of_le (h1 a h).2⟩, Nat.le_succ_of_le h2⟩
theorem preL_bd : ∀ ts : List Tm, Tm.goodL ts → (∀ a ∈ Tm.preL ts, a.good ∧ a.ht ≤ Tm.htL ts) ∧ Tm.cntL (Tm.preL ts) ≤ Tm.cntL ts
  | [], _ => by simp [Tm.preL, Tm.cntL]
  | t :: ts, g => by
    obtain ⟨h1, h2⟩ := pre_bd t g.1
    obtain ⟨h3, h4⟩ := preL_bd ts g.2
    rw [Tm.preL]
    refine ⟨fun a h => ?_, ?_⟩
    · rcases List.mem_append.mp h with h | h
      · exact ⟨(h1 a h).1, Nat.le_trans (h1 a h).2 (Nat.le_max_left _ _)⟩
      · exact ⟨(h3 a h).1, Nat.le_trans (h3 a h).2 (Nat.le_max_right _ _)⟩
    · rw [cntL_app]
      show _ ≤ t.cnt + Tm.cntL ts
      omega
theorem nf_bd : ∀ t : Tm, t.good → Bd t
  | .top, g => by
    have : Tm.top.nf = .top := by
      rw [nf_row rfl]
      have : Tm.top.row = [] := List.eq_nil_of_length_eq_zero (by have := len_row .top; simpa [Tm.pre] using this)
      rw [this]; rfl
    exact ⟨by rw [this]; exact trivial, by rw [this]; exact Nat.le_refl _, by rw [this]; exact Nat.le_refl _⟩
  | .bot, g => by
    have : Tm.bot.nf = .bot := nf_bot.mpr rfl
    exact ⟨by rw [this]; exact trivial, by rw [this]; exact Nat.le_refl _, by rw [this]; exact Nat.le_refl _⟩
  | .name w, g => by
    have h1 : (Tm.name w).row.length ≤ 1 := by have := len_row (.name w); rw [Tm.pre] at this; exact this
    have h2 : Tm.cntL (Tm.name w).row ≤ 1 := by have := cntL_row (.name w); rw [Tm.pre] at this; exact this
    have h3 : ∀ k ∈ (Tm.name w).row, k.good ∧ k.ht ≤ 1 := fun k hk => by
      have := (row_mem.mp hk).1
      rw [Tm.pre] at this
      rw [List.mem_singleton.mp this]
      exact ⟨g, Nat.le_refl _⟩
    obtain ⟨q1, q2, q3⟩ := shp_bd (g := True) h3 h2 (Nat.le_refl _) (Nat.le_refl _) h1
    rw [← nf_row rfl] at q1 q2 q3
    exact ⟨q1, q2, q3⟩
  | .some r t, g => by
    by_cases hv : t.void = true
    · have : (Tm.some r t).nf = .bot := nf_bot.mpr hv
      exact ⟨by rw [this]; exact trivial, by rw [this]; exact Nat.le_add_left _ _, by rw [this]; exact Nat.le_add_left _ _⟩
    · have b := nf_bd t g.2
      have hv : (Tm.some r t).void = false := Bool.eq_false_iff.mpr hv
      have hv2 : t.void = false := hv
      have ep : (Tm.some r t).pre = [.some r t.nf] := by rw [pre_some, hv2, if_neg Bool.false_ne_true]
      have h1 : (Tm.some r t).row.length ≤ 1 := by have := len_row (.some r t); rw [ep] at this; exact this
      have h2 : Tm.cntL (Tm.some r t).row ≤ (Tm.some r t).cnt := by
        have := cntL_row (.some r t)
        rw [ep] at this
        have e : Tm.cntL [Tm.some r t.nf] = t.nf.cnt + 1 := by simp [Tm.cntL, Tm.cnt]
        have := b.cnt
        show _ ≤ t.cnt + 1
        omega
      have h3 : ∀ k ∈ (Tm.some r t).row, k.good ∧ k.ht ≤ (Tm.some r t).ht := fun k hk => by
        have := (row_mem.mp hk).1
        rw [ep] at this
        rw [List.mem_singleton.mp this]
        exact ⟨⟨g.1, b.good⟩, Nat.succ_le_succ b.ht⟩
      obtain ⟨q1, q2, q3⟩ := shp_bd (g := True) h3 h2 (Nat.le_add_left _ _) (Nat.le_add_left _ _) h1
      rw [← nf_row hv] at q1 q2 q3
      exact ⟨q1, q2, q3⟩
  | .and ts, g => by
    by_cases hv : (Tm.and ts).void = true
    · have : (Tm.and ts).nf = .bot := nf_bot.mpr hv
      exact ⟨by rw [this]; exact trivial, by rw [this]; exact Nat.le_add_left _ _, by rw [this]; exact Nat.le_add_left _ _⟩
    · have hv : (Tm.and ts).void = false := Bool.eq_false_iff.mpr hv
      obtain ⟨h1, h2⟩ := preL_bd ts g
      have h3 : ∀ k ∈ (Tm.and ts).row, k.good ∧ k.ht ≤ Tm.htL ts := fun k hk => by
        have := (row_mem.mp hk).1
        rw [Tm.pre] at this
        exact h1 k this
      have h4 : Tm.cntL (Tm.and ts).row ≤ Tm.cntL ts := by
        have := cntL_row (.and ts)
        rw [Tm.pre] at this
        omega
      obtain ⟨q1, q2, q3⟩ := shp_bd2 h3 h4
      rw [← nf_row hv] at q1 q2 q3
      exact ⟨q1, q2, q3⟩
end
theorem Tb.nf {h : Nat} {t : Tm} (b : Tb h t) : Tb h t.nf := by
  have q := nf_bd t b.good
  exact ⟨q.good, Nat.le_trans q.ht b.ht, Nat.le_trans q.cnt b.cnt, Nat.le_trans q.ht b.low⟩
/-- what make_normal makes of a conjunct -/
noncomputable def stp : Tm → Tm
  | .some r v => if v.nf = .bot then .bot else .some r v.nf
  | x => x
mutual
theorem pre_raw : ∀ t : Tm, t.pre = t.raw.map stp
  | .top => by simp [Tm.pre, Tm.raw]
  | .bot => by simp [Tm.pre, Tm.raw, stp]
  | .name w => by simp [Tm.pre, Tm.raw, stp]
  | .some r t => by rw [Tm.pre]; rfl
  | .and ts => by rw [Tm.pre, Tm.raw]; exact preL_raw ts
theorem preL_raw : ∀ ts : List Tm, Tm.preL ts = (Tm.rawL ts).map stp
  | [] => by simp [Tm.preL, Tm.rawL]
  | t :: ts => by rw [Tm.preL, Tm.rawL, List.map_append, pre_raw t, preL_raw ts]
end
theorem ddp_snoc : ∀ (xs acc : List Tm) (a : Tm), ddp acc (xs ++ [a]) = if a ∈ ddp acc xs then ddp acc xs else ddp acc xs ++ [a]
  | [], acc, a => by rw [List.nil_append, ddp, ddp, ddp]
  | x :: xs, acc, a => by
    rw [List.cons_append, ddp, ddp, ddp_snoc xs]
theorem wr_inj {a b : Tm} (ha : KA a) (hb : KA b) (e : a.wr = b.wr) : a = b := by
  refine wl_inj ha.sh.1 hb.sh.1 ha.sh.2 hb.sh.2 ?_
  have := congrArg (fun x : Str => x.cps.toList) e
  simpa [Tm.wr] using this
def kvOf (ds : List Tm) : List (L2.Key × D) := ds.map fun a => (.inr a.wr, a.d)
theorem put_kv {ds : List Tm} {a : Tm} (h : ∀ x ∈ ds, KA x) (ha : KA a) : putD (kvOf ds) (.inr a.wr) a.d = kvOf (if a ∈ ds then ds else ds ++ [a]) := by
  unfold putD
  by_cases m : a ∈ ds
  · rw [if_pos m]
    have e : ((kvOf ds).any fun kv => decide (kv.1 = .inr a.wr)) = true := List.any_eq_true.mpr ⟨(.inr a.wr, a.d), List.mem_map.mpr ⟨a, m, rfl⟩, by simp⟩
    rw [if_pos e]
    unfold kvOf
    rw [List.map_map]
    refine List.map_congr_left fun x hx => ?_
    show (if (Sum.inr x.wr : L2.Key) = .inr a.wr then ((Sum.inr x.wr : L2.Key), a.d) else (.inr x.wr, x.d)) = (.inr x.wr, x.d)
    by_cases q : x.wr = a.wr
    · rw [if_pos (by rw [q]), wr_inj (h x hx) ha q]
    · rw [if_neg (fun z => q (by injection z))]
  · rw [if_neg m]
    have e : ((kvOf ds).any fun kv => decide (kv.1 = .inr a.wr)) = false := by
      rw [Bool.eq_false_iff]
      intro z
      obtain ⟨kv, h1, h2⟩ := List.any_eq_true.mp z
      obtain ⟨x, hx, rfl⟩ := List.mem_map.mp h1
      have h2 : (Sum.inr x.wr : L2.Key) = .inr a.wr := of_decide_eq_true h2
      exact m (wr_inj (h x hx) ha (by injection h2) ▸ hx)
    rw [if_neg (by rw [e]; exact Bool.false_ne_true)]
    simp [kvOf]
theorem kvOf_vals (ds : List Tm) : (kvOf ds).map (·.2) = ds.map Tm.d := by simp [kvOf]
noncomputable def Tm.of (d : D) : Tm := open Classical in if h : ∃ t : Tm, t.d = d then h.choose else .top
theorem Tm.of_d (t : Tm) : Tm.of t.d = t := by
  unfold Tm.of
  have h : ∃ u : Tm, u.d = t.d := ⟨t, rfl⟩
  rw [dif_pos h]
  exact Tm.d_inj h.choose_spec
theorem srt_d (ks : List Tm) : (ks.map Tm.d).mergeSort (dataLe false fun d => (Tm.of d).keyD) = (srt ks).map Tm.d := by
  refine (sort_maps Tm.d fun a _ b _ => ?_).symm
  show dataLe false Tm.keyD a b = dataLe false (fun d => (Tm.of d).keyD) a.d b.d
  unfold dataLe sortLe
  simp only [Tm.of_d]
theorem keyD_form (t : Tm) : ∃ i x, t.keyD = .tuple [.int i, .str x] := by
  cases t <;> exact ⟨_, _, rfl⟩
theorem keys_alike (ks : List Tm) : AllAlike ((ks.map Tm.d).map fun d => (Tm.of d).keyD) := fun d hd d' hd' => by
  obtain ⟨x, hx, rfl⟩ := List.mem_map.mp hd
  obtain ⟨y, hy, rfl⟩ := List.mem_map.mp hd'
  obtain ⟨i, s, e⟩ := keyD_form (Tm.of x)
  obtain ⟨j, s', e'⟩ := keyD_form (Tm.of y)
  rw [e, e']
  rfl
theorem keys_sortable (ks : List Tm) : Sortable ((ks.map Tm.d).map fun d => (Tm.of d).keyD) := .inl fun d hd => by
  obtain ⟨x, hx, rfl⟩ := List.mem_map.mp hd
  obtain ⟨i, s, e⟩ := keyD_form (Tm.of x)
  exact ⟨_, _, e⟩
theorem keyD_dep (t : Tm) : t.keyD.depth ≤ 60 ∧ imm t.keyD = true := by
  obtain ⟨i, s, e⟩ := keyD_form t
  rw [e]
  exact ⟨by show max 0 (max 0 0) + 1 ≤ 60; decide, rfl⟩
theorem srt_nil : srt [] = [] := List.Perm.eq_nil (srt_perm [])
theorem srt_one (k : Tm) : srt [k] = [k] := List.perm_singleton.mp (srt_perm [k])
mutual
def Tm.sz : Tm → Nat
  | .name _ => 1
  | .some _ t => t.sz + 1
  | .and ts => Tm.szL ts
  | _ => 0
def Tm.szL : List Tm → Nat
  | [] => 0
  | t :: ts => t.sz + Tm.szL ts
end
theorem szL_app : ∀ (us vs : List Tm), Tm.szL (us ++ vs) = Tm.szL us + Tm.szL vs
  | [], vs => by simp [Tm.szL]
  | u :: us, vs => by rw [List.cons_append, Tm.szL, Tm.szL, szL_app us vs]; omega
mutual
theorem sz_raw : ∀ t : Tm, t.sz = Tm.szL t.raw
  | .top => rfl
  | .bot => rfl
  | .name _ => rfl
  | .some r t => rfl
  | .and ts => by rw [Tm.sz, Tm.raw]; exact szL_raw ts
theorem szL_raw : ∀ ts : List Tm, Tm.szL ts = Tm.szL (Tm.rawL ts)
  | [] => rfl
  | t :: ts => by rw [Tm.szL, Tm.rawL, szL_app, ← sz_raw t, ← szL_raw ts]
end
theorem szL_take {us : List Tm} {k : Nat} {t : Tm} (h : us[k]? = some t) : Tm.szL (us.take (k + 1)) = Tm.szL (us.take k) + t.sz := by
  rw [List.take_add_one, h, szL_app]
  show _ + (t.sz + 0) = _
  omega
end Pl
set_option Elab.async false
set_option linter.all false
set_option maxRecDepth 100000
set_option maxHeartbeats 1000001
namespace Pl
open PySem PySem.W
def Tm.isN : Tm → Bool
  | .name _ => true
  | _ => false
def Tm.isS : Tm → Bool
  | .some _ _ => true
  | _ => false
noncomputable def srtW (l : List Tm) : List Tm := l.mergeSort (dataLe false fun a => .str a.wr)
theorem srtW_perm (l : List Tm) : (srtW l).Perm l := List.mergeSort_perm _ _
/-- no other one is below -/
noncomputable def stays (a : Tm) (as : List Tm) : Bool := as.all fun o => decide (o = a) || !o.under a
noncomputable def lrow (t : Tm) : List Tm := srtW (ddp [] (t.pre.filter Tm.isN)) ++ srtW ((ddp [] (t.pre.filter Tm.isS)).filter fun a => stays a (ddp [] (t.pre.filter Tm.isS)))
theorem wr_name {x : Str} : (Tm.name x).wr = x := by
  refine str_of_cps ?_
  show (Tm.name x).wl.toArray.toList = _
  rw [List.toList_toArray]
  rfl
theorem keyD_N {a : Tm} (h : a.isN = true) : a.keyD = .tuple [.int 0, .str a.wr] := by
  cases a with
  | name x => rw [wr_name]; rfl
  | _ => cases h
theorem keyD_S {a : Tm} (h : a.isS = true) : a.keyD = .tuple [.int 1, .str a.wr] := by
  cases a with
  | some r t => rfl
  | _ => cases h
theorem toks_p (i : Int) (x : Str) : keyToks (.tuple [.int i, .str x]) = .inl 1 :: .inl i :: .inl 1 :: .inr x.cps.toList :: [.inl 0] := by simp [keyToks, keyToksAll]
theorem toks_s (x : Str) : keyToks (.str x) = [.inr x.cps.toList] := by simp [keyToks]
theorem le_key {a b : Tm} {i : Int} (ha : a.keyD = .tuple [.int i, .str a.wr]) (hb : b.keyD = .tuple [.int i, .str b.wr]) (h : dataLe false (fun a : Tm => PyData.str a.wr) a b = true) : dataLe false Tm.keyD a b = true := by
  have h : (!PyProof.Rows.lexLt PyProof.Rows.itemOrd (keyToks (.str b.wr)) (keyToks (.str a.wr))) = true := h
  show (!PyProof.Rows.lexLt PyProof.Rows.itemOrd (keyToks b.keyD) (keyToks a.keyD)) = true
  rw [Bool.not_eq_true'] at h ⊢
  rw [ha, hb, toks_p, toks_p, PyProof.Rows.lex_self (O := PyProof.Rows.itemOrd), PyProof.Rows.lex_self (O := PyProof.Rows.itemOrd), PyProof.Rows.lex_self (O := PyProof.Rows.itemOrd)]
  rw [toks_s, toks_s] at h
  by_cases e : b.wr.cps.toList = a.wr.cps.toList
  · rw [e, PyProof.Rows.lex_self (O := PyProof.Rows.itemOrd), PyProof.Rows.lex_self (O := PyProof.Rows.itemOrd)]
    rfl
  · rw [PyProof.Rows.lex_diff (O := PyProof.Rows.itemOrd) (fun q => e (by injection q))] at h ⊢
    exact h
theorem le_NS {a b : Tm} (ha : a.isN = true) (hb : b.isS = true) : dataLe false Tm.keyD a b = true := by
  show (!PyProof.Rows.lexLt PyProof.Rows.itemOrd (keyToks b.keyD) (keyToks a.keyD)) = true
  rw [keyD_N ha, keyD_S hb, toks_p, toks_p, PyProof.Rows.lex_self (O := PyProof.Rows.itemOrd), PyProof.Rows.lex_diff (O := PyProof.Rows.itemOrd) (fun q => by injection q with q; exact absurd q (by decide))]
  rfl
theorem atom_under {o a : Tm} (ho : o.isS = true) (hv : o.void = false) : o.under a = a.meets [o] := by
  cases o with
  | some r t =>
    unfold Tm.under
    rw [hv, Bool.false_or]
    rfl
  | _ => cases ho
theorem mem_ddf {l : List Tm} {p : Tm → Bool} {a : Tm} : a ∈ ddp [] (l.filter p) ↔ a ∈ l ∧ p a = true := by
  rw [ddp_mem, List.mem_filter]
  simp
theorem impl_stays {ds : List Tm} {a : Tm} (ha : a.isS = true) (hv : ∀ x ∈ ds, x.void = false) : impl1 a (ddp [] ds) = !stays a (ddp [] (ds.filter Tm.isS)) := by
  cases a with
  | some r v =>
    rw [Bool.eq_iff_iff, Bool.not_eq_true']
    show (Tm.some r v).meets ((ddp [] ds).filter fun b => !decide (b = .some r v)) = true ↔ _
    rw [some_met]
    constructor
    · rintro ⟨t', h1, h2⟩
      obtain ⟨h3, h4⟩ := List.mem_filter.mp h1
      have h3 : Tm.some r t' ∈ ds := (ddp_mem.mp h3).resolve_left (by simp)
      refine Bool.eq_false_iff.mpr fun q => ?_
      have q := List.all_eq_true.mp q (.some r t') (mem_ddf.mpr ⟨h3, rfl⟩)
      rw [Bool.or_eq_true] at q
      rcases q with q | q
      · rw [of_decide_eq_true q] at h4
        simp at h4
      · rw [atom_under rfl (hv _ h3), Bool.not_eq_true'] at q
        have : (Tm.some r v).meets [.some r t'] = true := some_met.mpr ⟨t', List.mem_singleton.mpr rfl, h2⟩
        rw [q] at this
        cases this
    · intro q
      have q := Bool.eq_false_iff.mp q
      apply Classical.byContradiction
      intro n
      refine q (List.all_eq_true.mpr fun o ho => ?_)
      obtain ⟨h1, h2⟩ := mem_ddf.mp ho
      rw [Bool.or_eq_true]
      by_cases e : o = .some r v
      · exact .inl (decide_eq_true e)
      · refine .inr ?_
        rw [atom_under h2 (hv _ h1), Bool.not_eq_true']
        refine Bool.eq_false_iff.mpr fun m => ?_
        obtain ⟨t', m1, m2⟩ := some_met.mp m
        refine n ⟨t', List.mem_filter.mpr ⟨ddp_mem.mpr (.inr ?_), ?_⟩, m2⟩
        · rw [List.mem_singleton.mp m1]; exact h1
        · rw [List.mem_singleton.mp m1, decide_eq_false e]; rfl
  | _ => cases ha
theorem KA.cls {a : Tm} (h : KA a) : a.isN = true ∨ a.isS = true := by
  rcases h with ⟨w, rfl, _⟩ | ⟨r, u, rfl, _⟩
  · exact .inl rfl
  · exact .inr rfl
theorem NS_no {a : Tm} (h : a.isN = true) (k : a.isS = true) : False := by
  cases a with
  | name x => cases k
  | _ => cases h
theorem lrow_row {t : Tm} (g : t.good) (hv : t.void = false) : lrow t = t.row := by
  have nv := pre_nv hv g
  have ka : ∀ a ∈ t.pre, KA a := fun a m => (pre_is t g a m).ka fun e => by rw [e, pre_bot, hv] at m; cases m
  have mN : ∀ {a}, a ∈ ddp [] (t.pre.filter Tm.isN) ↔ a ∈ t.pre ∧ a.isN = true := mem_ddf
  have mS : ∀ {a}, a ∈ (ddp [] (t.pre.filter Tm.isS)).filter (fun a => stays a (ddp [] (t.pre.filter Tm.isS))) ↔ (a ∈ t.pre ∧ a.isS = true) ∧ stays a (ddp [] (t.pre.filter Tm.isS)) = true := by
    intro a
    rw [List.mem_filter, mem_ddf]
  have perm : (lrow t).Perm (kpt (ddp [] t.pre)) := by
    unfold lrow
    refine ((srtW_perm _).append (srtW_perm _)).trans ?_
    refine (List.perm_ext_iff_of_nodup ?_ ((ddp_nodup List.nodup_nil).sublist List.filter_sublist)).mpr fun a => ?_
    · rw [List.nodup_append]
      refine ⟨ddp_nodup List.nodup_nil, (ddp_nodup List.nodup_nil).sublist List.filter_sublist, fun x hx y hy e => ?_⟩
      subst e
      exact NS_no (mN.mp hx).2 (mS.mp hy).1.2
    · show _ ↔ a ∈ kpt (ddp [] t.pre)
      rw [List.mem_append, mN, mS, mem_kept, ddp_mem]
      constructor
      · rintro (⟨h1, h2⟩ | ⟨⟨h1, h2⟩, h3⟩)
        · refine ⟨.inr h1, ?_⟩
          cases a with
          | name x => rfl
          | _ => cases h2
        · exact ⟨.inr h1, by rw [impl_stays h2 nv, h3]; rfl⟩
      · rintro ⟨h1, h2⟩
        have h1 := h1.resolve_left (by simp)
        rcases (ka a h1).cls with q | q
        · exact .inl ⟨h1, q⟩
        · rw [impl_stays q nv, Bool.not_eq_false'] at h2
          exact .inr ⟨⟨h1, q⟩, h2⟩
  have memr : ∀ a ∈ t.row, KA a := fun a m => ka_of_row g hv m
  have meml : ∀ a ∈ lrow t, KA a := fun a m => by
    have m := perm.mem_iff.mp m
    exact ka a ((ddp_mem.mp (mem_kept.mp m).1).resolve_left (by simp))
  have tot : TotalLe (dataLe false fun a : Tm => PyData.str a.wr) := sortLe_total (PyProof.Rows.listOrd PyProof.Rows.itemOrd) false _
  refine List.Perm.eq_of_pairwise (le := fun x y => dataLe false Tm.keyD x y = true) (fun x y hx hy h1 h2 => keyLe_anti (meml x hx).sh.1 (memr y hy).sh.1 (meml x hx).sh.2 (memr y hy).sh.2 h1 h2) ?_ (sort_pairwise key_total _) (perm.trans (srt_perm _).symm)
  unfold lrow
  rw [List.pairwise_append]
  refine ⟨?_, ?_, fun a ha b hb => ?_⟩
  · refine (List.Pairwise.imp_of_mem (fun {a b} ha hb h => ?_) (sort_pairwise tot _))
    exact le_key (keyD_N (mN.mp ((srtW_perm _).mem_iff.mp ha)).2) (keyD_N (mN.mp ((srtW_perm _).mem_iff.mp hb)).2) h
  · refine (List.Pairwise.imp_of_mem (fun {a b} ha hb h => ?_) (sort_pairwise tot _))
    exact le_key (keyD_S (mS.mp ((srtW_perm _).mem_iff.mp ha)).1.2) (keyD_S (mS.mp ((srtW_perm _).mem_iff.mp hb)).1.2) h
  · exact le_NS (mN.mp ((srtW_perm _).mem_iff.mp ha)).2 (mS.mp ((srtW_perm _).mem_iff.mp hb)).1.2
mutual
def Tm.dp : Tm → Nat
  | .some _ t => Tm.dp t + 1
  | .and ts => Tm.dpL ts
  | _ => 0
def Tm.dpL : List Tm → Nat
  | [] => 0
  | t :: ts => max (Tm.dp t) (Tm.dpL ts)
end
theorem dpL_app : ∀ (us vs : List Tm), Tm.dpL (us ++ vs) = max (Tm.dpL us) (Tm.dpL vs)
  | [], vs => by simp [Tm.dpL]
  | u :: us, vs => by rw [List.cons_append, Tm.dpL, Tm.dpL, dpL_app us vs]; omega
mutual
theorem dp_raw : ∀ t : Tm, t.dp = Tm.dpL t.raw
  | .top => rfl
  | .bot => rfl
  | .name _ => rfl
  | .some r t => by simp [Tm.dp, Tm.raw, Tm.dpL]
  | .and ts => by rw [Tm.dp, Tm.raw]; exact dpL_raw ts
theorem dpL_raw : ∀ ts : List Tm, Tm.dpL ts = Tm.dpL (Tm.rawL ts)
  | [] => rfl
  | t :: ts => by rw [Tm.dpL, Tm.rawL, dpL_app, ← dp_raw t, ← dpL_raw ts]
end
theorem dpL_take {us : List Tm} {k : Nat} {t : Tm} (h : us[k]? = some t) : Tm.dpL (us.take (k + 1)) = max (Tm.dpL (us.take k)) t.dp := by
  rw [List.take_add_one, h, dpL_app]
  simp [Tm.dpL]
end Pl
set_option Elab.async false
set_option linter.all false
set_option maxRecDepth 100000
set_option maxHeartbeats 1000001
namespace Pl
open PySem PySem.W L2
mutual
def Tm.nms : Tm → List Str
  | .name x => [x]
  | .some _ t => t.nms
  | .and ts => Tm.nmsL ts
  | _ => []
def Tm.nmsL : List Tm → List Str
  | [] => []
  | t :: ts => t.nms ++ Tm.nmsL ts
end
mutual
def Tm.rls : Tm → List Str
  | .some r t => r :: t.rls
  | .and ts => Tm.rlsL ts
  | _ => []
def Tm.rlsL : List Tm → List Str
  | [] => []
  | t :: ts => t.rls ++ Tm.rlsL ts
end
theorem nmsL_app : ∀ us vs : List Tm, Tm.nmsL (us ++ vs) = Tm.nmsL us ++ Tm.nmsL vs
  | [], _ => rfl
  | u :: us, vs => by rw [List.cons_append, Tm.nmsL, Tm.nmsL, nmsL_app us vs, List.append_assoc]
theorem rlsL_app : ∀ us vs : List Tm, Tm.rlsL (us ++ vs) = Tm.rlsL us ++ Tm.rlsL vs
  | [], _ => rfl
  | u :: us, vs => by rw [List.cons_append, Tm.rlsL, Tm.rlsL, rlsL_app us vs, List.append_assoc]
mutual
theorem nms_raw : ∀ t : Tm, t.nms = Tm.nmsL t.raw
  | .top => rfl
  | .bot => rfl
  | .name _ => rfl
  | .some r t => by rw [Tm.raw, Tm.nmsL, Tm.nmsL, List.append_nil]
  | .and ts => by rw [Tm.nms, Tm.raw]; exact nmsL_raw ts
theorem nmsL_raw : ∀ ts : List Tm, Tm.nmsL ts = Tm.nmsL (Tm.rawL ts)
  | [] => rfl
  | t :: ts => by rw [Tm.nmsL, Tm.rawL, nmsL_app, ← nms_raw t, ← nmsL_raw ts]
end
mutual
theorem rls_raw : ∀ t : Tm, t.rls = Tm.rlsL t.raw
  | .top => rfl
  | .bot => rfl
  | .name _ => rfl
  | .some r t => by rw [Tm.raw, Tm.rlsL, Tm.rlsL, List.append_nil]
  | .and ts => by rw [Tm.rls, Tm.raw]; exact rlsL_raw ts
theorem rlsL_raw : ∀ ts : List Tm, Tm.rlsL ts = Tm.rlsL (Tm.rawL ts)
  | [] => rfl
  | t :: ts => by rw [Tm.rlsL, Tm.rawL, rlsL_app, ← rls_raw t, ← rlsL_raw ts]
end
mutual
theorem nms_len : ∀ t : Tm, t.nms.length ≤ t.cnt
  | .top => Nat.zero_le _
  | .bot => Nat.zero_le _
  | .name _ => Nat.le_refl _
  | .some r t => Nat.le_succ_of_le (nms_len t)
  | .and ts => Nat.le_succ_of_le (nmsL_len ts)
theorem nmsL_len : ∀ ts : List Tm, (Tm.nmsL ts).length ≤ Tm.cntL ts
  | [] => Nat.zero_le _
  | t :: ts => by rw [Tm.nmsL, List.length_append]; exact Nat.add_le_add (nms_len t) (nmsL_len ts)
end
mutual
theorem rls_len : ∀ t : Tm, t.rls.length ≤ t.cnt
  | .top => Nat.zero_le _
  | .bot => Nat.zero_le _
  | .name _ => Nat.zero_le _
  | .some r t => Nat.succ_le_succ (rls_len t)
  | .and ts => Nat.le_succ_of_le (rlsL_len ts)
theorem rlsL_len : ∀ ts : List Tm, (Tm.rlsL ts).length ≤ Tm.cntL ts
  | [] => Nat.zero_le _
  | t :: ts => by rw [Tm.rlsL, List.length_append]; exact Nat.add_le_add (rls_len t) (rlsL_len ts)
end
mutual
theorem nms_W : ∀ t : Tm, t.good → ∀ x ∈ t.nms, W x
  | .name y, g, x, m => by rw [List.mem_singleton.mp m]; exact g
  | .some r t, g, x, m => nms_W t g.2 x m
  | .and ts, g, x, m => nmsL_W ts g x m
theorem nmsL_W : ∀ ts : List Tm, Tm.goodL ts → ∀ x ∈ Tm.nmsL ts, W x
  | t :: ts, g, x, m => by
    rw [Tm.nmsL] at m
    rcases List.mem_append.mp m with m | m
    · exact nms_W t g.1 x m
    · exact nmsL_W ts g.2 x m
end
mutual
theorem rls_W : ∀ t : Tm, t.good → ∀ x ∈ t.rls, W x
  | .some r t, g, x, m => by
    rcases List.mem_cons.mp m with e | m
    · rw [e]; exact g.1
    · exact rls_W t g.2 x m
  | .and ts, g, x, m => rlsL_W ts g x m
theorem rlsL_W : ∀ ts : List Tm, Tm.goodL ts → ∀ x ∈ Tm.rlsL ts, W x
  | t :: ts, g, x, m => by
    rw [Tm.rlsL] at m
    rcases List.mem_append.mp m with m | m
    · exact rls_W t g.1 x m
    · exact rlsL_W ts g.2 x m
end
/-- the term within -/
def inn : Tm → Option Tm
  | .some _ t => Option.some t
  | _ => none
mutual
theorem inn_cnt : ∀ t : Tm, Tm.cntL (t.raw.filterMap inn) + 1 ≤ t.cnt
  | .top => Nat.le_refl _
  | .bot => Nat.le_refl _
  | .name _ => Nat.le_refl _
  | .some r t => Nat.le_refl _
  | .and ts => Nat.succ_le_succ (innL_cnt ts)
theorem innL_cnt : ∀ ts : List Tm, Tm.cntL ((Tm.rawL ts).filterMap inn) ≤ Tm.cntL ts
  | [] => Nat.le_refl _
  | t :: ts => by
    have h1 := inn_cnt t
    have h2 := innL_cnt ts
    rw [Tm.rawL, List.filterMap_append, cntL_app, Tm.cntL]
    omega
end
noncomputable def ssort (l : List Str) : List Str := l.mergeSort (dataLe false PyData.str)
theorem ssort_perm (l : List Str) : (ssort l).Perm l := List.mergeSort_perm _ _
theorem sle_tot : TotalLe (dataLe false PyData.str) := sortLe_total (PyProof.Rows.listOrd PyProof.Rows.itemOrd) false _
theorem sle_anti {x y : Str} (h1 : dataLe false PyData.str x y = true) (h2 : dataLe false PyData.str y x = true) : x = y := by
  have h1 : (!(PyProof.Rows.listOrd PyProof.Rows.itemOrd).blt (keyToks (.str y)) (keyToks (.str x))) = true := h1
  have h2 : (!(PyProof.Rows.listOrd PyProof.Rows.itemOrd).blt (keyToks (.str x)) (keyToks (.str y))) = true := h2
  rw [Bool.not_eq_true'] at h1 h2
  have e := (PyProof.Rows.listOrd PyProof.Rows.itemOrd).total _ _ h2 h1
  rw [toks_s, toks_s] at e
  injection e with e
  injection e with e
  exact str_of_cps e
theorem ssort_can {l m : List Str} (h : l.Perm m) : ssort l = ssort m :=
  List.Perm.eq_of_pairwise (le := fun x y => dataLe false PyData.str x y = true) (fun x y _ _ h1 h2 => sle_anti h1 h2) (sort_pairwise sle_tot l) (sort_pairwise sle_tot m) (((ssort_perm l).trans h).trans (ssort_perm m).symm)
/-- each text once -/
def dd : List Str → List Str
  | [] => []
  | x :: xs => if x ∈ xs then dd xs else x :: dd xs
theorem mem_dd : ∀ {l : List Str} {z : Str}, z ∈ dd l ↔ z ∈ l
  | [], z => Iff.rfl
  | x :: xs, z => by
    unfold dd
    by_cases h : x ∈ xs
    · rw [if_pos h, mem_dd, List.mem_cons]
      exact ⟨.inr, fun q => q.elim (fun e => e ▸ h) id⟩
    · rw [if_neg h, List.mem_cons, List.mem_cons, mem_dd]
theorem dd_nodup : ∀ l : List Str, (dd l).Nodup
  | [] => List.nodup_nil
  | x :: xs => by
    unfold dd
    by_cases h : x ∈ xs
    · rw [if_pos h]; exact dd_nodup xs
    · rw [if_neg h, List.nodup_cons]; exact ⟨fun m => h (mem_dd.mp m), dd_nodup xs⟩
theorem dd_len : ∀ l : List Str, (dd l).length ≤ l.length
  | [] => Nat.le_refl _
  | x :: xs => by
    have := dd_len xs
    unfold dd
    by_cases h : x ∈ xs
    · rw [if_pos h]; exact Nat.le_succ_of_le this
    · rw [if_neg h]; exact Nat.succ_le_succ this
noncomputable def wsort (l : List Str) : List Str := ssort (dd l)
theorem wsort_of {l ks : List Str} (nd : ks.Nodup) (h : ∀ z, z ∈ ks ↔ z ∈ l) : ssort ks = wsort l :=
  ssort_can ((List.perm_ext_iff_of_nodup nd (dd_nodup l)).mpr fun z => (h z).trans mem_dd.symm)
theorem mem_wsort {l : List Str} {z : Str} : z ∈ wsort l ↔ z ∈ l := (ssort_perm _).mem_iff.trans mem_dd
theorem wsort_nodup (l : List Str) : (wsort l).Nodup := (ssort_perm _).nodup_iff.mpr (dd_nodup l)
theorem wsort_len (l : List Str) : (wsort l).length ≤ l.length := by unfold wsort; rw [(ssort_perm _).length_eq]; exact dd_len l
/-- a dict of texts -/
def kT (ks : List Str) : List (L2.Key × D) := ks.map fun k => (.inr k, .bool true)
theorem put_kT {ks : List Str} {x : Str} : putD (kT ks) (.inr x) (.bool true) = kT (if x ∈ ks then ks else ks ++ [x]) := by
  unfold putD
  by_cases m : x ∈ ks
  · rw [if_pos m]
    have e : ((kT ks).any fun kv => decide (kv.1 = .inr x)) = true := List.any_eq_true.mpr ⟨(.inr x, .bool true), List.mem_map.mpr ⟨x, m, rfl⟩, by simp⟩
    rw [if_pos e]
    unfold kT
    rw [List.map_map]
    refine List.map_congr_left fun y hy => ?_
    show (if (Sum.inr y : L2.Key) = .inr x then ((Sum.inr y : L2.Key), PyData.bool true) else (.inr y, .bool true)) = (.inr y, .bool true)
    split <;> rfl
  · rw [if_neg m]
    have e : ((kT ks).any fun kv => decide (kv.1 = .inr x)) = false := by
      rw [Bool.eq_false_iff]
      intro z
      obtain ⟨kv, h1, h2⟩ := List.any_eq_true.mp z
      obtain ⟨y, hy, rfl⟩ := List.mem_map.mp h1
      have h2 : (Sum.inr y : L2.Key) = .inr x := of_decide_eq_true h2
      exact m ((by injection h2 : y = x) ▸ hy)
    rw [if_neg (by rw [e]; exact Bool.false_ne_true)]
    simp [kT]
theorem kT_keys (ks : List Str) : (kT ks).map (·.1) = ks.map Sum.inr := by simp [kT]
theorem add_nodup {ks : List Str} {x : Str} (h : ks.Nodup) : (if x ∈ ks then ks else ks ++ [x]).Nodup := by
  by_cases m : x ∈ ks
  · rw [if_pos m]; exact h
  · rw [if_neg m, List.nodup_append]
    exact ⟨h, by simp, fun a ha b hb e => m (by rw [← List.mem_singleton.mp hb, ← e]; exact ha)⟩
theorem mem_add {ks : List Str} {x z : Str} : z ∈ (if x ∈ ks then ks else ks ++ [x]) ↔ z ∈ ks ∨ z = x := by
  by_cases m : x ∈ ks
  · rw [if_pos m]; exact ⟨.inl, fun q => q.elim id (fun e => e ▸ m)⟩
  · rw [if_neg m, List.mem_append, List.mem_singleton]
end Pl
set_option Elab.async false
set_option linter.all false
set_option maxRecDepth 100000
set_option maxHeartbeats 4000001
namespace K00
open PySem L2 LamX NdefX PyProof.Rows GenW Pl
local macro_rules | `(tactic| k_search "nrm") => `(tactic| try dsimp only [Int.reduceToNat, putOs_nil, putOs, putO, List.getElem?_cons_zero, List.getElem?_cons_succ, List.set_cons_zero, List.set_cons_succ])
local macro_rules | `(tactic| k_search "take") => `(tactic| ((refine cx [.own _, .val _] [0] ⟨rfl, ⟨_, rfl⟩, rfl, trivial⟩ (by decide) ⟨_, _, _, _, rfl, by k_search "cnd", by k_search "cnd", fun n x y z h1 h2 => ⟨rim1 rfl rfl, ?_⟩⟩); k_search "nrm"))
local macro_rules | `(tactic| k_search "slen0") => `(tactic| (simp only [len_tl, tl_app, List.length_append] at *; omega))
local macro_rules | `(tactic| k_search "slen0") => `(tactic| omega)
local macro_rules | `(tactic| k_search "imm0") => `(tactic| (simp only [imm, immAll, Tm.imm_d, Tm.imm_dL, tm_imm, Bool.and_self]; done))
local macro_rules | `(tactic| k_search "imm0") => `(tactic| assumption)
local macro_rules | `(tactic| k_search "imm0") => `(tactic| exact tm_imm)
local macro_rules | `(tactic| k_search "imm0") => `(tactic| exact Tm.imm_dL _)
local macro_rules | `(tactic| k_search "imm0") => `(tactic| exact Tm.imm_d _)
local macro_rules | `(tactic| k_search "imm0") => `(tactic| rfl)
local macro_rules | `(tactic| k_search "hyp0") => `(tactic| omega)
local macro_rules | `(tactic| k_search "hyp0") => `(tactic| (simp only [*, decide_eq_true_eq, Bool.not_eq_true', decide_eq_false_iff_not, reduceCtorEq, not_false_eq_true]; done))
local macro_rules | `(tactic| k_search "hyp0") => `(tactic| assumption)
local macro_rules | `(tactic| k_search "hyp0") => `(tactic| decide)
local macro_rules | `(tactic| k_search "hyp0") => `(tactic| rfl)
local macro_rules | `(tactic| k_search "len0") => `(tactic| omega)
local macro_rules | `(tactic| k_search "len0") => `(tactic| (simp; done))
local macro_rules | `(tactic| k_search "len0") => `(tactic| exact Nat.le_of_ble_eq_true rfl)
local macro_rules | `(tactic| k_search "cnd0") => `(tactic| exact ⟨by decide, by decide, by decide⟩)
local macro_rules | `(tactic| k_search "cnd0") => `(tactic| exact Or.inl ⟨by omega, by omega⟩)
local macro_rules | `(tactic| k_search "cnd0") => `(tactic| exact Or.inl ⟨by decide, by decide⟩)
local macro_rules | `(tactic| k_search "cnd0") => `(tactic| exact Or.inr ⟨by decide, by decide⟩)
local macro_rules | `(tactic| k_search "cnd0") => `(tactic| exact ⟨by omega, by decide⟩)
local macro_rules | `(tactic| k_search "cnd0") => `(tactic| decide)
local macro_rules | `(tactic| k_search "cnd0") => `(tactic| omega)
local macro_rules | `(tactic| k_search "cnd0") => `(tactic| assumption)
local macro_rules | `(tactic| k_search "set0") => `(tactic| exact rfl)
local macro_rules | `(tactic| k_search "set0") => `(tactic| (dsimp only [Int.reduceToNat, putOs_nil, putOs, putO, List.getElem?_cons_zero, List.getElem?_cons_succ, List.set_cons_zero, List.set_cons_succ]; exact rfl))
local macro_rules | `(tactic| k_search "set0") => `(tactic| (dsimp only [Int.reduceToNat, putOs_nil, putOs, putO, List.getElem?_cons_zero, List.getElem?_cons_succ, List.set_cons_zero, List.set_cons_succ]; done))
local macro_rules | `(tactic| k_search "g1") => `(tactic| with_reducible refine go_cont ?_)
local macro_rules | `(tactic| k_search "g1") => `(tactic| with_reducible refine go_break ?_)
local macro_rules | `(tactic| k_search "g1") => `(tactic| with_reducible refine go_setL ?_)
local macro_rules | `(tactic| k_search "g1") => `(tactic| with_reducible refine go_drop ?_)
local macro_rules | `(tactic| k_search "g1") => `(tactic| with_reducible refine go_retN ?_)
local macro_rules | `(tactic| k_search "g1") => `(tactic| with_reducible refine go_ret ?_)
local macro_rules | `(tactic| k_search "g1") => `(tactic| with_reducible refine go_set ?_)
local macro_rules | `(tactic| k_search "g1") => `(tactic| with_reducible refine go_next ?_)
local macro_rules | `(tactic| k_search "g1") => `(tactic| with_reducible refine go_if ?_)
local macro_rules | `(tactic| k_search "g1") => `(tactic| with_reducible refine go_seq ?_)
local macro_rules | `(tactic| k_search "g2") => `(tactic| with_reducible refine ex_join ?_)
local macro_rules | `(tactic| k_search "g2") => `(tactic| with_reducible refine ex_joined ?_)
local macro_rules | `(tactic| k_search "g2") => `(tactic| with_reducible refine ex_lm ⟨⟨_, _, rfl⟩, ?_⟩)
local macro_rules | `(tactic| k_search "g2") => `(tactic| with_reducible refine ex_ext ⟨⟨_, _, rfl⟩, ?_⟩)
local macro_rules | `(tactic| k_search "g2") => `(tactic| ((with_reducible apply ex_extB); refine ⟨_, _, _, _, rfl, rfl, by decide, ?_, ?_⟩))
local macro_rules | `(tactic| k_search "g2") => `(tactic| with_reducible refine ex_un ?_)
local macro_rules | `(tactic| k_search "g2") => `(tactic| with_reducible refine ex_fmt ?_)
local macro_rules | `(tactic| k_search "g2") => `(tactic| with_reducible refine ex_callV ?_)
local macro_rules | `(tactic| k_search "g2") => `(tactic| with_reducible refine go_call ?_)
local macro_rules | `(tactic| k_search "g2") => `(tactic| with_reducible refine ex_notV ?_)
local macro_rules | `(tactic| k_search "g2") => `(tactic| with_reducible refine ex_andV ?_)
local macro_rules | `(tactic| k_search "g2") => `(tactic| with_reducible refine ex_orV ?_)
local macro_rules | `(tactic| k_search "g2") => `(tactic| with_reducible refine ex_if ?_)
local macro_rules | `(tactic| k_search "g2") => `(tactic| with_reducible refine ex_cb ?_)
local macro_rules | `(tactic| k_search "g2") => `(tactic| with_reducible refine ex_lst ?_)
local macro_rules | `(tactic| k_search "g2") => `(tactic| with_reducible refine ex_tup ?_)
local macro_rules | `(tactic| k_search "g2") => `(tactic| ((with_reducible apply ex_kT); assumption))
local macro_rules | `(tactic| k_search "g2") => `(tactic| with_reducible refine ex_dnewK ?_)
local macro_rules | `(tactic| k_search "g2") => `(tactic| with_reducible refine ex_isN ?_)
local macro_rules | `(tactic| k_search "g2") => `(tactic| with_reducible refine ex_isi4 ?_)
local macro_rules | `(tactic| k_search "g2") => `(tactic| with_reducible refine ex_slL ?_)
local macro_rules | `(tactic| k_search "g2") => `(tactic| with_reducible refine ex_isi3 ?_)
local macro_rules | `(tactic| k_search "g2") => `(tactic| with_reducible refine ex_op ?_)
local macro_rules | `(tactic| k_search "g2") => `(tactic| with_reducible refine ex_ixS ?_)
local macro_rules | `(tactic| k_search "g2") => `(tactic| with_reducible refine ex_ixL ?_)
local macro_rules | `(tactic| k_search "g2") => `(tactic| with_reducible refine ex_ixT ?_)
local macro_rules | `(tactic| k_search "g2") => `(tactic| with_reducible refine ex_non ?_)
local macro_rules | `(tactic| k_search "g2") => `(tactic| with_reducible refine ex_bl ?_)
local macro_rules | `(tactic| k_search "g2") => `(tactic| with_reducible refine ex_str ?_)
local macro_rules | `(tactic| k_search "g2") => `(tactic| with_reducible refine ex_int ?_)
local macro_rules | `(tactic| k_search "g2") => `(tactic| ((with_reducible apply ex_bor); exact rfl))
local macro_rules | `(tactic| k_search "g2") => `(tactic| ((with_reducible apply ex_var); exact rfl))
local macro_rules | `(tactic| k_search "g3") => `(tactic| with_reducible refine exa_nil ?_)
local macro_rules | `(tactic| k_search "g3") => `(tactic| with_reducible refine exa_cons ?_)
local macro_rules | `(tactic| k_search "g3") => `(tactic| with_reducible refine exa_cons (ex_fz (te := tSl (rSlL _) _ _ _) ?_))
local macro_rules | `(tactic| k_search "g3") => `(tactic| with_reducible refine exa_cons (ex_fz (te := tLst _) ?_))
local macro_rules | `(tactic| k_search "g3") => `(tactic| with_reducible refine exa_cons (ex_fz (te := tCB (rListOf _) _) ?_))
local macro_rules | `(tactic| k_search "g3") => `(tactic| with_reducible refine exa_cons (ex_fz (te := tLc _ _ _ _ _) ?_))
local macro_rules | `(tactic| k_search "g4") => `(tactic| with_reducible refine et_not' ?_)
local macro_rules | `(tactic| k_search "g4") => `(tactic| with_reducible refine et_and ?_)
local macro_rules | `(tactic| k_search "g4") => `(tactic| with_reducible refine et_or ?_)
local macro_rules | `(tactic| k_search "g4") => `(tactic| with_reducible refine et_B ?_)
local macro_rules | `(tactic| k_search "g4") => `(tactic| with_reducible refine et_test ?_)
local macro_rules | `(tactic| k_search "g4") => `(tactic| ((with_reducible refine et_truL ?_); ((with_reducible apply ex_bor); exact rfl); refine ⟨_, ⟨_, _, rfl, rfl⟩, ?_⟩))
local macro_rules | `(tactic| k_search "g4") => `(tactic| ((with_reducible refine et_truL ?_); ((with_reducible apply ex_var); exact rfl); refine ⟨_, rfl, ?_⟩))
local macro_rules | `(tactic| k_search "g4") => `(tactic| ((with_reducible refine et_truT ?_); ((with_reducible apply ex_var); exact rfl); refine ⟨_, rfl, ?_⟩))
local macro_rules | `(tactic| k_search "g5") => `(tactic| ((with_reducible apply st_n); (focus k_search "len"); (focus (intro _; k_search "set")); intro ad))
local macro_rules | `(tactic| k_search "g5") => `(tactic| ((with_reducible apply st_v); (focus k_search "set")))
local macro_rules | `(tactic| k_search "g6") => `(tactic| ((with_reducible refine opd_mulS (by decide) (by decide) ?_ ?_); (focus decide +kernel)))
local macro_rules | `(tactic| k_search "g6") => `(tactic| ((with_reducible refine opd_addS ?_ ?_); (focus k_search "slen")))
local macro_rules | `(tactic| k_search "g6") => `(tactic| ((with_reducible refine opd_I ?_ (.int _) ?_); (focus k_search "cnd")))
local macro_rules | `(tactic| k_search "g6") => `(tactic| with_reducible refine opd_I0 (.bl _) ?_)
local macro_rules | `(tactic| k_search "g6") => `(tactic| with_reducible refine opd_I0 (.int _) ?_)
local macro_rules | `(tactic| k_search "g6") => `(tactic| with_reducible refine opd_neB ?_)
local macro_rules | `(tactic| k_search "g6") => `(tactic| with_reducible refine opd_eqB ?_)
local macro_rules | `(tactic| k_search "g6") => `(tactic| with_reducible refine opd_neI ?_)
local macro_rules | `(tactic| k_search "g6") => `(tactic| with_reducible refine opd_eqI ?_)
local macro_rules | `(tactic| k_search "g6") => `(tactic| with_reducible refine opd_neS ?_)
local macro_rules | `(tactic| k_search "g6") => `(tactic| with_reducible refine opd_eqS ?_)
local macro_rules | `(tactic| k_search "g7") => `(tactic| with_reducible refine cb_intB ?_)
local macro_rules | `(tactic| k_search "g7") => `(tactic| with_reducible refine cb_int ?_)
local macro_rules | `(tactic| k_search "g7") => `(tactic| with_reducible refine cb_lenL ?_)
local macro_rules | `(tactic| k_search "g7") => `(tactic| with_reducible refine cb_lenT ?_)
local macro_rules | `(tactic| k_search "g8") => `(tactic| with_reducible refine und_I (.int _) ?_)
local macro_rules | `(tactic| k_search "g9") => `(tactic| (refine ⟨_, _, _, rfl, rfl, by assumption, ?_⟩))
local macro_rules | `(tactic| k_search "g9") => `(tactic| (refine ⟨[_], ⟨⟨_, _, rfl, rfl⟩, trivial⟩, ?_⟩))
local macro_rules | `(tactic| k_search "g9") => `(tactic| (refine ⟨[_], ⟨rfl, trivial⟩, ?_⟩))
local macro_rules | `(tactic| k_search "g9") => `(tactic| (refine ⟨_, _, _, ⟨_, _, rfl, rfl⟩, rfl, rfl, .inl (by k_search "imm"), ?_⟩))
local macro_rules | `(tactic| k_search "g9") => `(tactic| (refine ⟨_, _, _, rfl, rfl, rfl, ?_⟩))
local macro_rules | `(tactic| k_search "g9") => `(tactic| (refine ⟨_, ⟨_, _, rfl, rfl⟩, ?_⟩))
local macro_rules | `(tactic| k_search "g9") => `(tactic| (refine ⟨_, _, ⟨_, _, rfl, rfl⟩, rfl, ?_⟩))
local macro_rules | `(tactic| k_search "g9") => `(tactic| (refine ⟨_, _, rfl, rfl, ?_⟩))
local macro_rules | `(tactic| k_search "g9") => `(tactic| (refine ⟨_, rfl, ?_⟩))
local macro_rules | `(tactic| k_search "g9") => `(tactic| (refine ⟨_, rfl, rfl, ?_⟩))
local macro_rules | `(tactic| k_search "g9") => `(tactic| (refine ⟨_, _, _, rfl, rfl, rfl, .inr ⟨_, rfl⟩, ?_⟩))
local macro_rules | `(tactic| k_search "g9") => `(tactic| ((refine ⟨_, _, _, _, rfl, rfl, rfl, ?_⟩); k_search "nrm"))
local macro_rules | `(tactic| k_search "g9") => `(tactic| (refine ⟨_, rfl, ⟨_, _, rfl⟩, ?_⟩))
local macro_rules | `(tactic| k_search "g9") => `(tactic| (refine ⟨_, rfl, _, false, false, rfl, by decide +kernel, by decide +kernel, ?_⟩))
local macro_rules | `(tactic| k_search "g9") => `(tactic| (refine ⟨_, rfl, _, false, true, rfl, by decide +kernel, by decide +kernel, ?_⟩))
local macro_rules | `(tactic| k_search "g9") => `(tactic| (refine ⟨_, rfl, _, true, false, rfl, by decide +kernel, by decide +kernel, ?_⟩))
local macro_rules | `(tactic| k_search "g9") => `(tactic| (refine ⟨_, ⟨_, _, rfl, rfl⟩, _, true, rfl, by decide +kernel, ?_⟩))
local macro_rules | `(tactic| k_search "g9") => `(tactic| (refine ⟨_, rfl, _, false, rfl, by decide +kernel, ?_⟩))
local macro_rules | `(tactic| k_search "g9") => `(tactic| (refine ⟨_, rfl, _, true, rfl, by decide +kernel, ?_⟩))
local macro_rules | `(tactic| k_search "g9") => `(tactic| (refine ⟨[], _, rfl, ⟨Nat.le_of_ble_eq_true rfl, _, _, rfl, rfl⟩, ?_⟩))
local macro_rules | `(tactic| k_search "g9") => `(tactic| (refine ⟨[], _, rfl, rfl, ?_⟩))
local macro_rules | `(tactic| k_search "g9") => `(tactic| ((refine ⟨_, _, _, rfl, rfl, by k_search "len", ?_⟩); k_search "nrm"))
local macro_rules | `(tactic| k_search "g9") => `(tactic| ((refine ⟨[_], _, _, ⟨rfl, trivial⟩, rfl, lm_append (by k_search "len") ?_⟩); k_search "nrm"))
local macro_rules | `(tactic| k_search "g9") => `(tactic| refine ⟨[_, _, _, _, _, _], ⟨rfl, rfl, rfl, rfl, rfl, rfl, trivial⟩, by k_search "len", ?_⟩)
local macro_rules | `(tactic| k_search "g9") => `(tactic| refine ⟨[_, _, _, _, _], ⟨rfl, rfl, rfl, rfl, rfl, trivial⟩, by k_search "len", ?_⟩)
local macro_rules | `(tactic| k_search "g9") => `(tactic| refine ⟨[_, _, _, _], ⟨rfl, rfl, rfl, rfl, trivial⟩, by k_search "len", ?_⟩)
local macro_rules | `(tactic| k_search "g9") => `(tactic| refine ⟨[_, _, _], ⟨rfl, rfl, rfl, trivial⟩, by k_search "len", ?_⟩)
local macro_rules | `(tactic| k_search "g9") => `(tactic| refine ⟨[_, _], ⟨rfl, rfl, trivial⟩, by k_search "len", ?_⟩)
local macro_rules | `(tactic| k_search "g9") => `(tactic| refine ⟨[_], ⟨rfl, trivial⟩, by k_search "len", ?_⟩)
local macro_rules | `(tactic| k_search "g9") => `(tactic| refine ⟨[], trivial, by k_search "len", ?_⟩)
local macro_rules | `(tactic| k_search "g9") => `(tactic| (refine ⟨_, _, _, ⟨_, _, rfl, rfl⟩, rfl, by assumption, .inl (by k_search "imm"), ?_⟩))
local macro_rules | `(tactic| k_search "g9") => `(tactic| (refine ⟨_, _, _, rfl, rfl, by assumption, .inr ⟨_, rfl⟩, ?_⟩))
local macro_rules | `(tactic| k_search "st") => `(tactic| with_reducible rfl)
local macro_rules | `(tactic| k_search "st") => `(tactic| ((with_reducible refine id_list ?_); refine cb_listT (by k_search "imm") ?_))
local macro_rules | `(tactic| k_search "st") => `(tactic| ((with_reducible refine id_len ?_); refine cb_lenT ?_))
local macro_rules | `(tactic| k_search "st") => `(tactic| with_reducible refine exj_nil ?_)
local macro_rules | `(tactic| k_search "st") => `(tactic| with_reducible refine exj_cons ?_)
local macro_rules | `(tactic| k_search "st") => `(tactic| with_reducible refine exo_some ?_)
local macro_rules | `(tactic| k_search "st") => `(tactic| with_reducible refine exo_none ?_)
local macro_rules | `(tactic| k_search "st") => `(tactic| (((with_reducible first | show Exists _ | show And _ _)); k_search "g9"))
local macro_rules | `(tactic| k_search "st") => `(tactic| ((with_reducible refine iteF ?_ ?_); (focus k_search "hyp")))
local macro_rules | `(tactic| k_search "st") => `(tactic| ((with_reducible refine iteT ?_ ?_); (focus k_search "hyp")))
local macro_rules | `(tactic| k_search "st") => `(tactic| ((with_reducible refine iteF ?_ ?_); (focus decide)))
local macro_rules | `(tactic| k_search "st") => `(tactic| ((with_reducible refine iteT ?_ ?_); (focus decide)))
local macro_rules | `(tactic| k_search "st") => `(tactic| ((with_reducible refine iteF ?_ ?_); (focus exact Bool.false_ne_true)))
local macro_rules | `(tactic| k_search "st") => `(tactic| ((with_reducible refine iteT ?_ ?_); (focus exact rfl)))
local macro_rules | `(tactic| k_search "st") => `(tactic| ((with_reducible show UnD _ _ _ _); k_search "g8"))
local macro_rules | `(tactic| k_search "st") => `(tactic| ((with_reducible show CbD _ _ _ _); k_search "g7"))
local macro_rules | `(tactic| k_search "st") => `(tactic| ((with_reducible show OpD _ _ _ _ _); k_search "g6"))
local macro_rules | `(tactic| k_search "st") => `(tactic| ((with_reducible show StoreR _ _ _ _); k_search "g5"))
local macro_rules | `(tactic| k_search "st") => `(tactic| ((with_reducible show ExT _ _ _ _ _); k_search "g4"))
local macro_rules | `(tactic| k_search "st") => `(tactic| ((with_reducible show ExA _ _ _ _ _); k_search "g3"))
local macro_rules | `(tactic| k_search "st") => `(tactic| ((with_reducible show Ex _ _ _ _ _); k_search "g2"))
local macro_rules | `(tactic| k_search "st") => `(tactic| ((with_reducible show Ss _ _ _ _ _); k_search "g1"))
local macro_rules | `(tactic| k_search "gx") => `(tactic| with_reducible refine gx_if ?_)
local macro_rules | `(tactic| k_search "gx") => `(tactic| with_reducible refine gx_set ?_)
local macro_rules | `(tactic| k_search "gx") => `(tactic| with_reducible refine gx_ret ?_)
local macro_rules | `(tactic| k_search "gx") => `(tactic| with_reducible refine gx_drop ?_)
local macro_rules | `(tactic| k_search "gx") => `(tactic| with_reducible refine gx_raise ?_)
local macro_rules | `(tactic| k_search "gx") => `(tactic| with_reducible refine gx_seq ?_)
local macro_rules | `(tactic| k_search "gx") => `(tactic| with_reducible refine gx_of ?_)
local macro_rules | `(tactic| k_search "gy") => `(tactic| with_reducible refine exx_of ?_)
local macro_rules | `(tactic| k_search "gy") => `(tactic| with_reducible refine gx_callV ?_)
local macro_rules | `(tactic| k_search "gy") => `(tactic| with_reducible refine gx_call ?_)
local macro_rules | `(tactic| k_search "st") => `(tactic| ((with_reducible show SsX _ _ _ _ _ _); k_search "gx"))
local macro_rules | `(tactic| k_search "st") => `(tactic| ((with_reducible show ExX _ _ _ _ _ _); k_search "gy"))
local macro_rules | `(tactic| k_search "g1e") => `(tactic| with_reducible refine go_cont ?_)
local macro_rules | `(tactic| k_search "g1e") => `(tactic| with_reducible refine go_break ?_)
local macro_rules | `(tactic| k_search "g1e") => `(tactic| with_reducible refine go_setL ?_)
local macro_rules | `(tactic| k_search "g1e") => `(tactic| with_reducible refine go_drop ?_)
local macro_rules | `(tactic| k_search "g1e") => `(tactic| with_reducible refine go_retN ?_)
local macro_rules | `(tactic| k_search "g1e") => `(tactic| with_reducible refine go_ret ?_)
local macro_rules | `(tactic| k_search "g1e") => `(tactic| with_reducible refine go_set ?_)
local macro_rules | `(tactic| k_search "g1e") => `(tactic| with_reducible refine go_next ?_)
local macro_rules | `(tactic| k_search "g1e") => `(tactic| with_reducible refine go_if ?_)
local macro_rules | `(tactic| k_search "ste") => `(tactic| with_reducible rfl)
local macro_rules | `(tactic| k_search "ste") => `(tactic| ((with_reducible refine id_list ?_); refine cb_listT (by k_search "imm") ?_))
local macro_rules | `(tactic| k_search "ste") => `(tactic| ((with_reducible refine id_len ?_); refine cb_lenT ?_))
local macro_rules | `(tactic| k_search "ste") => `(tactic| with_reducible refine exj_nil ?_)
local macro_rules | `(tactic| k_search "ste") => `(tactic| with_reducible refine exj_cons ?_)
local macro_rules | `(tactic| k_search "ste") => `(tactic| with_reducible refine exo_some ?_)
local macro_rules | `(tactic| k_search "ste") => `(tactic| with_reducible refine exo_none ?_)
local macro_rules | `(tactic| k_search "ste") => `(tactic| (((with_reducible first | show Exists _ | show And _ _)); k_search "g9"))
local macro_rules | `(tactic| k_search "ste") => `(tactic| ((with_reducible refine iteF ?_ ?_); (focus k_search "hyp")))
local macro_rules | `(tactic| k_search "ste") => `(tactic| ((with_reducible refine iteT ?_ ?_); (focus k_search "hyp")))
local macro_rules | `(tactic| k_search "ste") => `(tactic| ((with_reducible refine iteF ?_ ?_); (focus decide)))
local macro_rules | `(tactic| k_search "ste") => `(tactic| ((with_reducible refine iteT ?_ ?_); (focus decide)))
local macro_rules | `(tactic| k_search "ste") => `(tactic| ((with_reducible refine iteF ?_ ?_); (focus exact Bool.false_ne_true)))
local macro_rules | `(tactic| k_search "ste") => `(tactic| ((with_reducible refine iteT ?_ ?_); (focus exact rfl)))
local macro_rules | `(tactic| k_search "ste") => `(tactic| ((with_reducible show UnD _ _ _ _); k_search "g8"))
local macro_rules | `(tactic| k_search "ste") => `(tactic| ((with_reducible show CbD _ _ _ _); k_search "g7"))
local macro_rules | `(tactic| k_search "ste") => `(tactic| ((with_reducible show OpD _ _ _ _ _); k_search "g6"))
local macro_rules | `(tactic| k_search "ste") => `(tactic| ((with_reducible show StoreR _ _ _ _); k_search "g5"))
local macro_rules | `(tactic| k_search "ste") => `(tactic| ((with_reducible show ExT _ _ _ _ _); k_search "g4"))
local macro_rules | `(tactic| k_search "ste") => `(tactic| ((with_reducible show ExA _ _ _ _ _); k_search "g3"))
local macro_rules | `(tactic| k_search "ste") => `(tactic| ((with_reducible show Ex _ _ _ _ _); k_search "g2"))
local macro_rules | `(tactic| k_search "ste") => `(tactic| ((with_reducible show Ss _ _ _ _ _); k_search "g1e"))
local macro_rules | `(tactic| k_search "go") => `(tactic| repeat' (first | k_search "st" | fail))
local macro_rules | `(tactic| k_search "goe") => `(tactic| repeat' (first | k_search "ste" | fail))
local macro_rules | `(tactic| k_search "set") => `(tactic| first | k_search "set0" | fail)
local macro_rules | `(tactic| k_search "cnd") => `(tactic| first | k_search "cnd0" | fail)
local macro_rules | `(tactic| k_search "len") => `(tactic| first | k_search "len0" | fail)
local macro_rules | `(tactic| k_search "hyp") => `(tactic| first | k_search "hyp0" | fail)
local macro_rules | `(tactic| k_search "imm") => `(tactic| first | k_search "imm0" | fail)
local macro_rules | `(tactic| k_search "slen") => `(tactic| first | k_search "slen0" | fail)
variable {P : Program} {w : World} {K : PySem.W.Frag} {mg : Str → Option Value} {base : Heap} {T : List NTab} {ts : List Str}
def F_raw (h : Nat) : FS := fun as Q => ∃ t : Tm, as = [.val t.d] ∧ Tb h t ∧ Q (.new (.lst (t.raw.map Tm.d))) []
theorem ok_raw (c : Al K mg base ds fr ts cs) : ∀ h : Nat, Ok P w K mg base (h + 1) "raw_conjuncts" ["term"] (spOf K T (F_raw h))
  | 0 => by
    have nd := sc_raw_conjuncts.nd
    have kTOP := c.cs _ (.head _)
    have kBOTTOM := c.cs _ (.tail _ (.head _))
    have kRESERVED := c.cs _ (.tail _ (.tail _ (.tail _ (.tail _ (.tail _ (.head _))))))
    refine ok_of c (.tail _ (.tail _ (.tail _ (.tail _ (.tail _ (.tail _ (.head _))))))) (fun _ _ _ _ _ _ us hl => match us, hl with | [_], _ => rfl) sc_raw_conjuncts (fun as Q h => by first | (obtain ⟨_, rfl, _⟩ := h; rfl) | (obtain ⟨_, _, rfl, _⟩ := h; rfl) | (obtain ⟨_, _, _, rfl, _⟩ := h; rfl) | (obtain ⟨_, _, _, _, rfl, _⟩ := h; rfl) | (obtain ⟨_, _, _, _, _, rfl, _⟩ := h; rfl) | (obtain ⟨_, _, _, _, _, _, rfl, _⟩ := h; rfl) | (obtain ⟨_, _, _, _, _, _, _, rfl, _⟩ := h; rfl) | (obtain ⟨_, _, _, _, _, _, _, _, rfl, _⟩ := h; rfl) | (obtain ⟨_, _, _, _, _, _, _, _, _, rfl, _⟩ := h; rfl) | (obtain ⟨rfl, _⟩ := h; rfl)) fun f cdv A outer s H E hr as Q qs hF hq => ?_
    obtain ⟨t, rfl, b, _⟩ := hF
    exact b.no.elim
  | h + 1 => by
    have h_raw_conjuncts := ok_raw c h
    have nd := sc_raw_conjuncts.nd
    have kTOP := c.cs _ (.head _)
    have kBOTTOM := c.cs _ (.tail _ (.head _))
    have kRESERVED := c.cs _ (.tail _ (.tail _ (.tail _ (.tail _ (.tail _ (.head _))))))
    refine ok_of c (.tail _ (.tail _ (.tail _ (.tail _ (.tail _ (.tail _ (.head _))))))) (fun _ _ _ _ _ _ us hl => match us, hl with | [_], _ => rfl) sc_raw_conjuncts (fun as Q h => by first | (obtain ⟨_, rfl, _⟩ := h; rfl) | (obtain ⟨_, _, rfl, _⟩ := h; rfl) | (obtain ⟨_, _, _, rfl, _⟩ := h; rfl) | (obtain ⟨_, _, _, _, rfl, _⟩ := h; rfl) | (obtain ⟨_, _, _, _, _, rfl, _⟩ := h; rfl) | (obtain ⟨_, _, _, _, _, _, rfl, _⟩ := h; rfl) | (obtain ⟨_, _, _, _, _, _, _, rfl, _⟩ := h; rfl) | (obtain ⟨_, _, _, _, _, _, _, _, rfl, _⟩ := h; rfl) | (obtain ⟨_, _, _, _, _, _, _, _, _, rfl, _⟩ := h; rfl) | (obtain ⟨rfl, _⟩ := h; rfl)) fun f cdv A outer s H E hr as Q qs hF hq => ?_
    obtain ⟨t, rfl, b, hQ⟩ := hF
    obtain rfl : qs = [] := List.length_eq_zero_iff.mp hq
    refine ⟨_, (pss_cons (ps_if (pt_cmpR op_eq (pe_ix (r := rIxT K) ix_tup (pv 0) pe_int (fun _ _ => rfl)) pe_str (nomark _)) (pss_one (ps_ret (pe_lst pa_nil))) pss_nil)
    (pss_cons (ps_if (pt_cmpR op_ne (pe_ix (r := rIxT K) ix_tup (pv 0) pe_int (fun _ _ => rfl)) pe_str (nomark _)) (pss_one (ps_ret (pe_lst (pa_cons (pv 0) pa_nil)))) pss_nil)
    (pss_cons (ps_set (i := 1) nd rfl (Or.inl rfl) (pe_lst pa_nil))
    (pss_cons (ps_for PassesOwn.never rfl (pi_tupK (K0 := K) (pe_ix (r := rIxT K) ix_tup (pv 0) pe_int (fun _ _ => rfl))) (pg_name (i := 2) nd rfl (Or.inl rfl)) (pss_one (ps_expr (pe_bmK (K0 := K) PySem.F.plainAttrs_list PySem.F.slot_list_extend PySem.F.type_list_extend mt_extend (pv 1) (pa_cons (pe_f h_raw_conjuncts (hr.mono (by omega)) rfl (pa_cons (pv 2) pa_nil)) pa_nil)))))
    (pss_one (ps_ret (pv 1))))))), ?_⟩
    show Ss K T _ [.val _, .no, .no] _
    cases t with
    | top =>
      k_search "go"
      exact hQ
    | bot =>
      k_search "go"
      exact hQ
    | name x =>
      k_search "go"
      exact hQ
    | some r t =>
      k_search "go"
      exact hQ
    | and us =>
      have bl : Tm.cntL us + 1 ≤ 1000 := b.cnt
      k_search "go"
      refine go_forT (Tm.dL us) (fun k δ => ∃ a s, δ = [.val (Tm.and us).d, .own a (.lst ((Tm.rawL (us.take k)).map Tm.d)), s]) ?_ ?_ ?_
      · k_search "go"
        exact ⟨rfl, _, _, rfl⟩
      · rintro k d δ2 hk ⟨a, s, rfl⟩
        rw [Tm.dL_map] at hk
        obtain ⟨t, ht, rfl⟩ := map_at hk
        have bt := b.and (List.mem_of_getElem? ht)
        k_search "nrm"
        k_search "go"
        refine cv [.val _] ⟨rfl, trivial⟩ ⟨t, rfl, bt, rimL tm_imm, ?_⟩
        have l1 := rawL_len (us := us) (k := k) (by omega)
        have l2 := bt.rlen
        refine ⟨_, _, _, rfl, rfl, by simp; omega, ?_⟩
        k_search "nrm"
        refine ⟨a, .val t.d, ?_⟩
        rw [rawL_take ht, List.map_append]
      · rintro δ2 ⟨a, s, rfl⟩
        k_search "go"
        rw [Tm.dL_map, List.length_map, List.take_length]
        exact hQ
set_option Elab.async false
set_option linter.all false
set_option maxRecDepth 100000
set_option maxHeartbeats 4000001
open PySem L2 LamX NdefX PyProof.Rows GenW Pl
variable {P : Program} {w : World} {K : PySem.W.Frag} {mg : Str → Option Value} {base : Heap} {T : List NTab} {ts : List Str}
mutual
/-- data without dicts, None -/
def okD : D → Bool
  | .bool _ => true
  | .int _ => true
  | .str x => PyData.strOk x
  | .list ds => decide (ds.length ≤ 1000) && okDs ds
  | .tuple ds => decide (ds.length ≤ 1000) && okDs ds
  | _ => false
def okDs : List D → Bool
  | [] => true
  | d :: ds => okD d && okDs ds
end
theorem okDs_all : ∀ {ds : List D} {h : Nat}, okDs ds = true → PyData.depthAll ds < h → ∀ d ∈ ds, okD d = true ∧ d.depth < h
  | [], _, _, _, d, m => by cases m
  | e :: ds, h, o, b, d, m => by
    simp only [okDs, Bool.and_eq_true] at o
    have b : max e.depth (PyData.depthAll ds) < h := b
    rcases List.mem_cons.mp m with q | q
    · rw [q]; exact ⟨o.1, by omega⟩
    · exact okDs_all o.2 (by omega) d q
/-- _law_same(d, d) is True -/
def F_same (h : Nat) : FS := fun as Q => ∃ d : D, as = [.val d, .val d] ∧ okD d = true ∧ d.depth < h ∧ Q (.val (.bool true)) []
theorem ok_same (c : Al K mg base ds fr ts cs) : ∀ h : Nat, Ok P w K mg base (h + 1) "_law_same" ["actual", "due"] (spOf K T (F_same h))
  | 0 => by
    have nd := sc__law_same.nd
    have kTOP := c.cs _ (.head _)
    have kBOTTOM := c.cs _ (.tail _ (.head _))
    have kRESERVED := c.cs _ (.tail _ (.tail _ (.tail _ (.tail _ (.tail _ (.head _))))))
    refine ok_of c (.tail _ (.tail _ (.tail _ (.tail _ (.tail _ (.tail _ (.tail _ (.tail _ (.tail _ (.tail _ (.tail _ (.tail _ (.tail _ (.tail _ (.tail _ (.tail _ (.tail _ (.tail _ (.tail _ (.tail _ (.tail _ (.tail _ (.tail _ (.tail _ (.tail _ (.tail _ (.tail _ (.tail _ (.tail _ (.tail _ (.tail _ (.tail _ (.tail _ (.tail _ (.tail _ (.tail _ (.tail _ (.tail _ (.tail _ (.tail _ (.tail _ (.tail _ (.tail _ (.head _)))))))))))))))))))))))))))))))))))))))))))) (fun _ _ _ _ _ _ us hl => match us, hl with | [_, _], _ => rfl) sc__law_same (fun as Q h => by first | (obtain ⟨_, rfl, _⟩ := h; rfl) | (obtain ⟨_, _, rfl, _⟩ := h; rfl) | (obtain ⟨_, _, _, rfl, _⟩ := h; rfl) | (obtain ⟨_, _, _, _, rfl, _⟩ := h; rfl) | (obtain ⟨_, _, _, _, _, rfl, _⟩ := h; rfl) | (obtain ⟨_, _, _, _, _, _, rfl, _⟩ := h; rfl) | (obtain ⟨_, _, _, _, _, _, _, rfl, _⟩ := h; rfl) | (obtain ⟨_, _, _, _, _, _, _, _, rfl, _⟩ := h; rfl) | (obtain ⟨_, _, _, _, _, _, _, _, _, rfl, _⟩ := h; rfl) | (obtain ⟨rfl, _⟩ := h; rfl)) fun f cdv A outer s H E hr as Q qs hF hq => ?_
    obtain ⟨d, rfl, _, b, _⟩ := hF
    omega
  | h + 1 => by
    have h__law_same := ok_same c h
    have nd := sc__law_same.nd
    have kTOP := c.cs _ (.head _)
    have kBOTTOM := c.cs _ (.tail _ (.head _))
    have kRESERVED := c.cs _ (.tail _ (.tail _ (.tail _ (.tail _ (.tail _ (.head _))))))
    refine ok_of c (.tail _ (.tail _ (.tail _ (.tail _ (.tail _ (.tail _ (.tail _ (.tail _ (.tail _ (.tail _ (.tail _ (.tail _ (.tail _ (.tail _ (.tail _ (.tail _ (.tail _ (.tail _ (.tail _ (.tail _ (.tail _ (.tail _ (.tail _ (.tail _ (.tail _ (.tail _ (.tail _ (.tail _ (.tail _ (.tail _ (.tail _ (.tail _ (.tail _ (.tail _ (.tail _ (.tail _ (.tail _ (.tail _ (.tail _ (.tail _ (.tail _ (.tail _ (.tail _ (.head _)))))))))))))))))))))))))))))))))))))))))))) (fun _ _ _ _ _ _ us hl => match us, hl with | [_, _], _ => rfl) sc__law_same (fun as Q h => by first | (obtain ⟨_, rfl, _⟩ := h; rfl) | (obtain ⟨_, _, rfl, _⟩ := h; rfl) | (obtain ⟨_, _, _, rfl, _⟩ := h; rfl) | (obtain ⟨_, _, _, _, rfl, _⟩ := h; rfl) | (obtain ⟨_, _, _, _, _, rfl, _⟩ := h; rfl) | (obtain ⟨_, _, _, _, _, _, rfl, _⟩ := h; rfl) | (obtain ⟨_, _, _, _, _, _, _, rfl, _⟩ := h; rfl) | (obtain ⟨_, _, _, _, _, _, _, _, rfl, _⟩ := h; rfl) | (obtain ⟨_, _, _, _, _, _, _, _, _, rfl, _⟩ := h; rfl) | (obtain ⟨rfl, _⟩ := h; rfl)) fun f cdv A outer s H E hr as Q qs hF hq => ?_
    obtain ⟨d, rfl, o, b, hQ⟩ := hF
    obtain rfl : qs = [] := List.length_eq_zero_iff.mp hq
    refine ⟨_, (pss_cons (ps_if (pt_val (pe_callB (r := rIsiT K) call_isiT rfl (c.fr _ (.tail _ (.head _))) PyProof.Rows.boot_isinstance (pa_cons (pv 1) (pa_cons (pe_tup (pa_cons (pe_bltn (v := .ty "tuple") rfl (c.fr _ (.tail _ (.tail _ (.tail _ (.tail _ (.head _)))))) PyProof.Rows.boot_tuple rfl) (pa_cons (pe_bltn (v := .ty "list") rfl (c.fr _ (.tail _ (.tail _ (.tail _ (.tail _ (.tail _ (.head _))))))) PyProof.Rows.boot_list rfl) pa_nil))) pa_nil)))) (pss_cons (ps_if (pt_cmpR op_ne (pe_callB (r := rIsi K) call_isi rfl (c.fr _ (.tail _ (.head _))) PyProof.Rows.boot_isinstance (pa_cons (pv 0) (pa_cons (pe_bltn (v := .ty "tuple") rfl (c.fr _ (.tail _ (.tail _ (.tail _ (.tail _ (.head _)))))) PyProof.Rows.boot_tuple rfl) pa_nil))) (pe_callB (r := rIsi K) call_isi rfl (c.fr _ (.tail _ (.head _))) PyProof.Rows.boot_isinstance (pa_cons (pv 1) (pa_cons (pe_bltn (v := .ty "tuple") rfl (c.fr _ (.tail _ (.tail _ (.tail _ (.tail _ (.head _)))))) PyProof.Rows.boot_tuple rfl) pa_nil))) (nomark _)) (pss_one (ps_ret pe_bl)) pss_nil)
    (pss_cons (ps_if (PW.pt (pw_or (pt_cmpR op_ne (pe_callB (r := rIsi K) call_isi rfl (c.fr _ (.tail _ (.head _))) PyProof.Rows.boot_isinstance (pa_cons (pv 0) (pa_cons (pe_bltn (v := .ty "list") rfl (c.fr _ (.tail _ (.tail _ (.tail _ (.tail _ (.tail _ (.head _))))))) PyProof.Rows.boot_list rfl) pa_nil))) (pe_callB (r := rIsi K) call_isi rfl (c.fr _ (.tail _ (.head _))) PyProof.Rows.boot_isinstance (pa_cons (pv 1) (pa_cons (pe_bltn (v := .ty "list") rfl (c.fr _ (.tail _ (.tail _ (.tail _ (.tail _ (.tail _ (.head _))))))) PyProof.Rows.boot_list rfl) pa_nil))) (nomark _)) (pw_or1 (pt_cmpR op_ne (pe_callB (r := Pl.rLen K) call_len rfl (c.fr _ (.tail _ (.tail _ (.tail _ (.head _))))) PySem.boot_len (pa_cons (pv 0) pa_nil)) (pe_callB (r := Pl.rLen K) call_len rfl (c.fr _ (.tail _ (.tail _ (.tail _ (.head _))))) PySem.boot_len (pa_cons (pv 1) pa_nil)) (nomark _))))) (pss_one (ps_ret pe_bl)) pss_nil)
    (pss_cons (ps_for PassesOwn.never rfl (pi_range1 rfl (c.fr _ (.tail _ (.tail _ (.tail _ (.tail _ (.tail _ (.tail _ (.tail _ (.tail _ (.tail _ (.tail _ (.tail _ (.tail _ (.head _)))))))))))))) (pa_cons (pe_callB (r := Pl.rLen K) call_len rfl (c.fr _ (.tail _ (.tail _ (.tail _ (.head _))))) PySem.boot_len (pa_cons (pv 1) pa_nil)) pa_nil)) (pg_name (i := 2) nd rfl (Or.inl rfl)) (pss_one (ps_if (pt_not (pt_val (pe_f h__law_same (hr.mono (by omega)) rfl (pa_cons (pe_ix (r := rIx K) ix_seq (pv 0) (pv 2) (fun _ _ => rfl)) (pa_cons (pe_ix (r := rIx K) ix_seq (pv 1) (pv 2) (fun _ _ => rfl)) pa_nil))))) (pss_one (ps_ret pe_bl)) pss_nil)))
    (pss_one (ps_ret pe_bl))))) pss_nil)
    (pss_cons (ps_if (pt_cmp (pc_isN (pv 1))) (pss_one (ps_ret (pe_cmp (pc_isN (pv 0))))) pss_nil)
    (pss_cons (ps_if (pt_val (pe_callB (r := rIsi K) call_isi rfl (c.fr _ (.tail _ (.head _))) PyProof.Rows.boot_isinstance (pa_cons (pv 1) (pa_cons (pe_bltn (v := .ty "bool") rfl (c.fr _ (.tail _ (.tail _ (.tail _ (.tail _ (.tail _ (.tail _ (.tail _ (.tail _ (.tail _ (.tail _ (.tail _ (.tail _ (.tail _ (.head _))))))))))))))) PyProof.Rows.boot_bool rfl) pa_nil)))) (pss_one (ps_ret (pe_and (pe_callB (r := rIsi K) call_isi rfl (c.fr _ (.tail _ (.head _))) PyProof.Rows.boot_isinstance (pa_cons (pv 0) (pa_cons (pe_bltn (v := .ty "bool") rfl (c.fr _ (.tail _ (.tail _ (.tail _ (.tail _ (.tail _ (.tail _ (.tail _ (.tail _ (.tail _ (.tail _ (.tail _ (.tail _ (.tail _ (.head _))))))))))))))) PyProof.Rows.boot_bool rfl) pa_nil))) (pe_one (pe_cmpR (r := rEqD K) (op_eqD hr.units) (pv 0) (pv 1) (nomark _)))))) pss_nil)
    (pss_cons (ps_if (pt_val (pe_callB (r := rIsi K) call_isi rfl (c.fr _ (.tail _ (.head _))) PyProof.Rows.boot_isinstance (pa_cons (pv 1) (pa_cons (pe_bltn (v := .ty "int") rfl (c.fr _ (.tail _ (.tail _ (.tail _ (.tail _ (.tail _ (.tail _ (.tail _ (.tail _ (.tail _ (.head _))))))))))) PyProof.Rows.boot_int rfl) pa_nil)))) (pss_one (ps_ret (pe_and (pe_callB (r := rIsi K) call_isi rfl (c.fr _ (.tail _ (.head _))) PyProof.Rows.boot_isinstance (pa_cons (pv 0) (pa_cons (pe_bltn (v := .ty "int") rfl (c.fr _ (.tail _ (.tail _ (.tail _ (.tail _ (.tail _ (.tail _ (.tail _ (.tail _ (.tail _ (.head _))))))))))) PyProof.Rows.boot_int rfl) pa_nil))) (pe_and (pe_not (pe_callB (r := rIsi K) call_isi rfl (c.fr _ (.tail _ (.head _))) PyProof.Rows.boot_isinstance (pa_cons (pv 0) (pa_cons (pe_bltn (v := .ty "bool") rfl (c.fr _ (.tail _ (.tail _ (.tail _ (.tail _ (.tail _ (.tail _ (.tail _ (.tail _ (.tail _ (.tail _ (.tail _ (.tail _ (.tail _ (.head _))))))))))))))) PyProof.Rows.boot_bool rfl) pa_nil)))) (pe_one (pe_cmpR (r := rEqD K) (op_eqD hr.units) (pv 0) (pv 1) (nomark _))))))) pss_nil)
    (pss_one (ps_ret (pe_and (pe_callB (r := rIsi K) call_isi rfl (c.fr _ (.tail _ (.head _))) PyProof.Rows.boot_isinstance (pa_cons (pv 0) (pa_cons (pe_bltn (v := .ty "str") rfl (c.fr _ (.tail _ (.tail _ (.head _)))) PyProof.Rows.boot_str rfl) pa_nil))) (pe_one (pe_cmpR (r := rEqD K) (op_eqD hr.units) (pv 0) (pv 1) (nomark _)))))))))), ?_⟩
    show Ss K T _ [.val _, .val _, .no] _
    cases d with
    | none => cases o
    | dict _ => cases o
    | bool x =>
      k_search "go"
      refine opd_eqD (by rfl) (by rfl) ?_
      k_search "go"
      have e : PyData.eqv (.bool x) (.bool x) = true := by simp [PyData.eqv]
      rw [e]
      exact hQ
    | int x =>
      k_search "go"
      refine opd_eqD (by rfl) (by rfl) ?_
      k_search "go"
      have e : PyData.eqv (.int x) (.int x) = true := by simp [PyData.eqv]
      rw [e]
      exact hQ
    | str x =>
      have sh : SeqAt.shaped (.str x) = true := by
        unfold SeqAt.shaped
        rw [Bool.and_eq_true]
        exact ⟨o, decide_eq_true (Nat.zero_le _)⟩
      k_search "go"
      refine opd_eqD sh sh ?_
      k_search "go"
      have e : PyData.eqv (.str x) (.str x) = true := by simp [PyData.eqv]
      rw [e]
      exact hQ
    | list ds =>
      simp only [okD, Bool.and_eq_true, decide_eq_true_eq] at o
      have hd : ∀ d ∈ ds, okD d = true ∧ d.depth < h := okDs_all o.2 (by have : PyData.depthAll ds + 1 < h + 1 := b; omega)
      have hl := o.1
      k_search "go"
      refine iteN (fun z => absurd rfl z) fun _ => ?_
      k_search "go"
      refine go_forR ds.length (fun k δ => ∃ s, δ = [.val (.list ds), .val (.list ds), s]) (by omega) ?_ ?_ ?_
      · k_search "go"
        exact ⟨rfl, _, rfl⟩
      · rintro k δ2 hk ⟨s, rfl⟩
        have hm : ds[k] ∈ ds := List.getElem_mem hk
        have hat : atI ds (k : Int) = some ds[k] := atI_nat (List.getElem?_eq_getElem hk)
        k_search "nrm"
        refine go_if (et_not' (et_B (go_call (exa_cons (ex_ixQL (ex_var rfl (ex_var rfl ⟨ds, k, ds[k], rfl, rfl, hat, .inr ⟨_, rfl⟩, exa_cons (ex_ixQL (ex_var rfl (ex_var rfl ⟨ds, k, ds[k], rfl, rfl, hat, .inr ⟨_, rfl⟩, exa_nil ?_⟩)))⟩)))))))
        refine cv [.val _, .val _] ⟨rfl, rfl, trivial⟩ ⟨ds[k], rfl, (hd _ hm).1, (hd _ hm).2, rim rfl, ?_⟩
        k_search "go"
        exact ⟨_, rfl⟩
      · rintro δ2 ⟨s, rfl⟩
        k_search "go"
        exact hQ
    | tuple ds =>
      simp only [okD, Bool.and_eq_true, decide_eq_true_eq] at o
      have hd : ∀ d ∈ ds, okD d = true ∧ d.depth < h := okDs_all o.2 (by have : PyData.depthAll ds + 1 < h + 1 := b; omega)
      have hl := o.1
      k_search "go"
      refine iteN (fun z => absurd rfl z) fun _ => ?_
      k_search "go"
      refine go_forR ds.length (fun k δ => ∃ s, δ = [.val (.tuple ds), .val (.tuple ds), s]) (by omega) ?_ ?_ ?_
      · k_search "go"
        exact ⟨rfl, _, rfl⟩
      · rintro k δ2 hk ⟨s, rfl⟩
        have hm : ds[k] ∈ ds := List.getElem_mem hk
        have hat : atI ds (k : Int) = some ds[k] := atI_nat (List.getElem?_eq_getElem hk)
        k_search "nrm"
        refine go_if (et_not' (et_B (go_call (exa_cons (ex_ixQT (ex_var rfl (ex_var rfl ⟨ds, k, ds[k], rfl, rfl, hat, exa_cons (ex_ixQT (ex_var rfl (ex_var rfl ⟨ds, k, ds[k], rfl, rfl, hat, exa_nil ?_⟩)))⟩)))))))
        refine cv [.val _, .val _] ⟨rfl, rfl, trivial⟩ ⟨ds[k], rfl, (hd _ hm).1, (hd _ hm).2, rim rfl, ?_⟩
        k_search "go"
        exact ⟨_, rfl⟩
      · rintro δ2 ⟨s, rfl⟩
        k_search "go"
        exact hQ
set_option Elab.async false
set_option linter.all false
set_option maxRecDepth 100000
set_option maxHeartbeats 4000001
open PySem L2 LamX NdefX PyProof.Rows GenW Pl
variable {P : Program} {w : World} {K : PySem.W.Frag} {mg : Str → Option Value} {base : Heap} {T : List NTab} {ts : List Str}
def F_void (h : Nat) : FS := fun as Q => ∃ t : Tm, as = [.val t.d] ∧ Tb h t ∧ Q (.val (.bool t.void)) []
def F_met (h : Nat) : FS := fun as Q => ∃ (t : Tm) (us : List Tm), as = [.val t.d, .val (.list (us.map Tm.d))] ∧ t.atom = true ∧ Tb h t ∧ (∀ u ∈ us, Tb h u ∧ u.atom = true) ∧ Q (.val (.bool (t.meets us))) []
def F_meets (h : Nat) : FS := fun as Q => ∃ (t u : Tm), as = [.val t.d, .val u.d] ∧ Tb h t ∧ Tb h u ∧ Q (.val (.bool (u.meets t.raw))) []
def F_below (h : Nat) : FS := fun as Q => ∃ (t u : Tm), as = [.val t.d, .val u.d] ∧ Tb h t ∧ Tb h u ∧ Q (.val (.bool (t.under u))) []
theorem any_take {α : Type} {us : List α} {p : α → Bool} {k : Nat} {x : α} (h : us[k]? = some x) : (us.take (k + 1)).any p = ((us.take k).any p || p x) := by
  rw [List.take_add_one, h, List.any_append]
  simp
theorem all_take {α : Type} {us : List α} {p : α → Bool} {k : Nat} {x : α} (h : us[k]? = some x) : (us.take (k + 1)).all p = ((us.take k).all p && p x) := by
  rw [List.take_add_one, h, List.all_append]
  simp
theorem any_in {α : Type} {us : List α} {p : α → Bool} {k : Nat} {x : α} (h : us[k]? = some x) (hp : p x = true) : us.any p = true := List.any_eq_true.mpr ⟨x, List.mem_of_getElem? h, hp⟩
theorem all_in {α : Type} {us : List α} {p : α → Bool} {k : Nat} {x : α} (h : us[k]? = some x) (hp : p x = false) : us.all p = false := by
  rw [Bool.eq_false_iff]
  intro q
  rw [List.all_eq_true.mp q x (List.mem_of_getElem? h)] at hp
  cases hp
noncomputable def mtc (r : Str) (v : Tm) : Tm → Bool := fun a => match a with
  | .some r' t' => decide (r' = r) && v.meets t'.raw
  | _ => false
theorem some_mtc {r : Str} {v : Tm} {us : List Tm} : (Tm.some r v).meets us = us.any (mtc r v) := by rw [Tm.meets]; rfl
theorem ok_meets (c : Al K mg base ds fr ts cs) (H0 : Nat) (h_raw_conjuncts : Ok P w K mg base (H0 + 1) "raw_conjuncts" ["term"] (spOf K T (F_raw H0))) : ∀ h : Nat, h ≤ H0 →
    Ok P w K mg base (H0 + 1 + 2 * h + 1) "is_met" ["atom", "others"] (spOf K T (F_met h)) ∧ Ok P w K mg base (H0 + 1 + 2 * h + 1 + 1) "meets_all" ["one", "other"] (spOf K T (F_meets h))
  | 0, _ => by
    refine ⟨?_, ?_⟩
    next =>
      have nd := sc_is_met.nd
      have kTOP := c.cs _ (.head _)
      have kBOTTOM := c.cs _ (.tail _ (.head _))
      have kRESERVED := c.cs _ (.tail _ (.tail _ (.tail _ (.tail _ (.tail _ (.head _))))))
      refine ok_of c (.tail _ (.tail _ (.tail _ (.tail _ (.tail _ (.tail _ (.tail _ (.head _)))))))) (fun _ _ _ _ _ _ us hl => match us, hl with | [_, _], _ => rfl) sc_is_met (fun as Q h => by first | (obtain ⟨_, rfl, _⟩ := h; rfl) | (obtain ⟨_, _, rfl, _⟩ := h; rfl) | (obtain ⟨_, _, _, rfl, _⟩ := h; rfl) | (obtain ⟨_, _, _, _, rfl, _⟩ := h; rfl) | (obtain ⟨_, _, _, _, _, rfl, _⟩ := h; rfl) | (obtain ⟨_, _, _, _, _, _, rfl, _⟩ := h; rfl) | (obtain ⟨_, _, _, _, _, _, _, rfl, _⟩ := h; rfl) | (obtain ⟨_, _, _, _, _, _, _, _, rfl, _⟩ := h; rfl) | (obtain ⟨_, _, _, _, _, _, _, _, _, rfl, _⟩ := h; rfl) | (obtain ⟨rfl, _⟩ := h; rfl)) fun f cdv A outer s H E hr as Q qs hF hq => ?_
      obtain ⟨t, us, rfl, _, b, _⟩ := hF
      exact b.no.elim
    next =>
      have nd := sc_meets_all.nd
      have kTOP := c.cs _ (.head _)
      have kBOTTOM := c.cs _ (.tail _ (.head _))
      have kRESERVED := c.cs _ (.tail _ (.tail _ (.tail _ (.tail _ (.tail _ (.head _))))))
      refine ok_of c (.tail _ (.tail _ (.tail _ (.tail _ (.tail _ (.tail _ (.tail _ (.tail _ (.head _))))))))) (fun _ _ _ _ _ _ us hl => match us, hl with | [_, _], _ => rfl) sc_meets_all (fun as Q h => by first | (obtain ⟨_, rfl, _⟩ := h; rfl) | (obtain ⟨_, _, rfl, _⟩ := h; rfl) | (obtain ⟨_, _, _, rfl, _⟩ := h; rfl) | (obtain ⟨_, _, _, _, rfl, _⟩ := h; rfl) | (obtain ⟨_, _, _, _, _, rfl, _⟩ := h; rfl) | (obtain ⟨_, _, _, _, _, _, rfl, _⟩ := h; rfl) | (obtain ⟨_, _, _, _, _, _, _, rfl, _⟩ := h; rfl) | (obtain ⟨_, _, _, _, _, _, _, _, rfl, _⟩ := h; rfl) | (obtain ⟨_, _, _, _, _, _, _, _, _, rfl, _⟩ := h; rfl) | (obtain ⟨rfl, _⟩ := h; rfl)) fun f cdv A outer s H E hr as Q qs hF hq => ?_
      obtain ⟨t, u, rfl, b, _⟩ := hF
      exact b.no.elim
  | h + 1, hh => by
    have h_meets_all := (ok_meets c H0 h_raw_conjuncts h (by omega)).2
    have h_is_met : Ok P w K mg base (H0 + 1 + 2 * (h + 1) + 1) "is_met" ["atom", "others"] (spOf K T (F_met (h + 1))) := by
      have nd := sc_is_met.nd
      have kTOP := c.cs _ (.head _)
      have kBOTTOM := c.cs _ (.tail _ (.head _))
      have kRESERVED := c.cs _ (.tail _ (.tail _ (.tail _ (.tail _ (.tail _ (.head _))))))
      refine ok_of c (.tail _ (.tail _ (.tail _ (.tail _ (.tail _ (.tail _ (.tail _ (.head _)))))))) (fun _ _ _ _ _ _ us hl => match us, hl with | [_, _], _ => rfl) sc_is_met (fun as Q h => by first | (obtain ⟨_, rfl, _⟩ := h; rfl) | (obtain ⟨_, _, rfl, _⟩ := h; rfl) | (obtain ⟨_, _, _, rfl, _⟩ := h; rfl) | (obtain ⟨_, _, _, _, rfl, _⟩ := h; rfl) | (obtain ⟨_, _, _, _, _, rfl, _⟩ := h; rfl) | (obtain ⟨_, _, _, _, _, _, rfl, _⟩ := h; rfl) | (obtain ⟨_, _, _, _, _, _, _, rfl, _⟩ := h; rfl) | (obtain ⟨_, _, _, _, _, _, _, _, rfl, _⟩ := h; rfl) | (obtain ⟨_, _, _, _, _, _, _, _, _, rfl, _⟩ := h; rfl) | (obtain ⟨rfl, _⟩ := h; rfl)) fun f cdv A outer s H E hr as Q qs hF hq => ?_
      obtain ⟨t, us, rfl, ha, b, hu, hQ⟩ := hF
      obtain rfl : qs = [] := List.length_eq_zero_iff.mp hq
      refine ⟨_, (pss_cons (ps_if (pt_cmpR op_eq (pe_ix (r := rIxT K) ix_tup (pv 0) pe_int (fun _ _ => rfl)) pe_str (nomark _)) (pss_one (ps_ret (pe_cmpR (r := rInD K) (op_inD (Nat.lt_of_le_of_lt (Nat.add_le_add (Nat.le_add_right _ _) (by decide)) hr.un)) (pv 0) (pv 1) rfl))) pss_nil)
    (pss_cons (ps_if (pt_cmpR op_eq (pe_ix (r := rIxT K) ix_tup (pv 0) pe_int (fun _ _ => rfl)) pe_str (nomark _)) (pss_one (ps_for PassesOwn.never rfl (pi_listK (K0 := K) (pv 1)) (pg_name (i := 2) nd rfl (Or.inl rfl)) (pss_one (ps_if (PW.pt (pw_and (pt_cmpR op_eq (pe_ix (r := rIxT K) ix_tup (pv 2) pe_int (fun _ _ => rfl)) pe_str (nomark _)) (pw_and (pt_cmpR (r := rEqD K) (op_eqD hr.units) (pe_ix (r := rIxT K) ix_tup (pv 2) pe_int (fun _ _ => rfl)) (pe_ix (r := rIxT K) ix_tup (pv 0) pe_int (fun _ _ => rfl)) (nomark _)) (pw_and1 (pt_val (pe_f h_meets_all (hr.mono (by omega)) rfl (pa_cons (pe_ix (r := rIxT K) ix_tup (pv 2) pe_int (fun _ _ => rfl)) (pa_cons (pe_ix (r := rIxT K) ix_tup (pv 0) pe_int (fun _ _ => rfl)) pa_nil)))))))) (pss_one (ps_ret pe_bl)) pss_nil)))) pss_nil)
    (pss_one (ps_ret pe_bl)))), ?_⟩
      show Ss K T _ [.val _, .val _, .no] _
      cases t with
      | top => cases ha
      | and us => cases ha
      | bot =>
        k_search "go"
        exact hQ
      | name x =>
        k_search "go"
        refine opd_inTm b.shaped (shaped_tb fun u m => (hu u m).1) ?_
        k_search "go"
        have e : (Tm.name x).meets us = decide (Tm.name x ∈ us) := by
          rw [Bool.eq_iff_iff, name_met, decide_eq_true_eq]
        rw [e] at hQ
        exact hQ
      | some r v =>
        k_search "go"
        refine go_forL (us.map Tm.d) (fun k δ => (us.take k).any (mtc r v) = false ∧ ∃ s, δ = [.val (Tm.some r v).d, .val (.list (us.map Tm.d)), s]) ?_ ?_ ?_
        · k_search "go"
          exact ⟨rfl, rfl, _, rfl⟩
        · rintro k d δ2 hk ⟨hv, s, rfl⟩
          obtain ⟨u, hu1, rfl⟩ := map_at hk
          have m := List.mem_of_getElem? hu1
          obtain ⟨bu, hau⟩ := hu u m
          k_search "nrm"
          cases u with
          | top => cases hau
          | and us => cases hau
          | bot =>
            k_search "go"
            exact ⟨by rw [any_take hu1, hv]; rfl, _, rfl⟩
          | name x =>
            k_search "go"
            exact ⟨by rw [any_take hu1, hv]; rfl, _, rfl⟩
          | some q u =>
            k_search "go"
            refine opd_eqW bu.W b.W ?_
            refine ⟨_, rfl, iteD (fun e => ?_) fun e => ?_⟩
            · k_search "go"
              refine cv [.val _, .val _] ⟨rfl, rfl, trivial⟩ ⟨u, v, rfl, bu.some, b.some, rim rfl, ?_⟩
              refine ⟨_, rfl, iteB (fun e2 => ?_) fun e2 => ?_⟩
              · k_search "go"
                have e3 : (Tm.some r v).meets us = true := by rw [some_mtc]; exact any_in hu1 (by simp [mtc, e, e2])
                rw [e3] at hQ
                exact hQ
              · k_search "go"
                exact ⟨by rw [any_take hu1, hv]; simp [mtc, e2], _, rfl⟩
            · k_search "go"
              exact ⟨by rw [any_take hu1, hv]; simp [mtc, e], _, rfl⟩
        · rintro δ2 ⟨hv, s, rfl⟩
          k_search "go"
          rw [List.length_map, List.take_length, ← some_mtc] at hv
          rw [hv] at hQ
          exact hQ
    refine ⟨h_is_met, ?_⟩
    have nd := sc_meets_all.nd
    have kTOP := c.cs _ (.head _)
    have kBOTTOM := c.cs _ (.tail _ (.head _))
    have kRESERVED := c.cs _ (.tail _ (.tail _ (.tail _ (.tail _ (.tail _ (.head _))))))
    refine ok_of c (.tail _ (.tail _ (.tail _ (.tail _ (.tail _ (.tail _ (.tail _ (.tail _ (.head _))))))))) (fun _ _ _ _ _ _ us hl => match us, hl with | [_, _], _ => rfl) sc_meets_all (fun as Q h => by first | (obtain ⟨_, rfl, _⟩ := h; rfl) | (obtain ⟨_, _, rfl, _⟩ := h; rfl) | (obtain ⟨_, _, _, rfl, _⟩ := h; rfl) | (obtain ⟨_, _, _, _, rfl, _⟩ := h; rfl) | (obtain ⟨_, _, _, _, _, rfl, _⟩ := h; rfl) | (obtain ⟨_, _, _, _, _, _, rfl, _⟩ := h; rfl) | (obtain ⟨_, _, _, _, _, _, _, rfl, _⟩ := h; rfl) | (obtain ⟨_, _, _, _, _, _, _, _, rfl, _⟩ := h; rfl) | (obtain ⟨_, _, _, _, _, _, _, _, _, rfl, _⟩ := h; rfl) | (obtain ⟨rfl, _⟩ := h; rfl)) fun f cdv A outer s H E hr as Q qs hF hq => ?_
    obtain ⟨t, u, rfl, b, b2, hQ⟩ := hF
    obtain rfl : qs = [] := List.length_eq_zero_iff.mp hq
    refine ⟨_, (pss_cons (ps_set (i := 2) nd rfl (Or.inl rfl) (pe_f h_raw_conjuncts (hr.mono (by omega)) rfl (pa_cons (pv 0) pa_nil)))
    (pss_cons (ps_for PassesOwn.never rfl (pi_listK (K0 := K) (pe_f h_raw_conjuncts (hr.mono (by omega)) rfl (pa_cons (pv 1) pa_nil))) (pg_name (i := 3) nd rfl (Or.inl rfl)) (pss_one (ps_if (pt_not (pt_val (pe_f h_is_met (hr.mono (by omega)) rfl (pa_cons (pv 3) (pa_cons (pv 2) pa_nil))))) (pss_one (ps_ret pe_bl)) pss_nil)))
    (pss_one (ps_ret pe_bl)))), ?_⟩
    show Ss K T _ [.val _, .val _, .no, .no] _
    k_search "go"
    refine cv [.val _] ⟨rfl, trivial⟩ ⟨t, rfl, b.mono hh, rimL tm_imm, ?_⟩
    k_search "go"
    refine go_forL (u.raw.map Tm.d) (fun k δ => (u.raw.take k).all (fun x => x.meets t.raw) = true ∧ ∃ a s, δ = [.val t.d, .val u.d, .own a (.lst (t.raw.map Tm.d)), s]) ?_ ?_ ?_
    · k_search "go"
      refine cv [.val _] ⟨rfl, trivial⟩ ⟨u, rfl, b2.mono hh, rimL tm_imm, rfl, rfl, _, _, rfl⟩
    · rintro k d δ2 hk ⟨hv, a, s, rfl⟩
      obtain ⟨x, hx, rfl⟩ := map_at hk
      have m := List.mem_of_getElem? hx
      k_search "nrm"
      k_search "go"
      refine cv [.val _, .val _] ⟨rfl, ⟨_, _, rfl, rfl⟩, by decide, trivial⟩ ⟨x, t.raw, rfl, Tm.raw_atom u x m, b2.raw m, fun y hy => ⟨b.raw hy, Tm.raw_atom t y hy⟩, rim rfl, ?_⟩
      refine ⟨_, rfl, ?_⟩
      cases e : x.meets t.raw with
      | true =>
        k_search "go"
        exact ⟨by rw [all_take hx, hv, e]; rfl, _, _, rfl⟩
      | false =>
        k_search "go"
        have e2 : u.meets t.raw = false := by rw [Tm.meets_raw]; exact all_in hx e
        rw [e2] at hQ
        exact hQ
    · rintro δ2 ⟨hv, a, s, rfl⟩
      k_search "go"
      rw [List.length_map, List.take_length, ← Tm.meets_raw] at hv
      rw [hv] at hQ
      exact hQ
set_option Elab.async false
set_option linter.all false
set_option maxRecDepth 100000
set_option maxHeartbeats 4000001
open PySem L2 LamX NdefX PyProof.Rows GenW Pl
variable {P : Program} {w : World} {K : PySem.W.Frag} {mg : Str → Option Value} {base : Heap} {T : List NTab} {ts : List Str}
def F_write (h : Nat) : FS := fun as Q => ∃ t : Tm, as = [.val t.d] ∧ Tb h t ∧ Q (.val (.str t.wr)) []
theorem ok_write (c : Al K mg base ds fr ts cs) : ∀ h : Nat, Ok P w K mg base (h + 1) "write" ["term"] (spOf K T (F_write h))
  | 0 => by
    have nd := sc_write.nd
    have kTOP := c.cs _ (.head _)
    have kBOTTOM := c.cs _ (.tail _ (.head _))
    have kRESERVED := c.cs _ (.tail _ (.tail _ (.tail _ (.tail _ (.tail _ (.head _))))))
    refine ok_of c (.tail _ (.tail _ (.tail _ (.tail _ (.tail _ (.tail _ (.tail _ (.tail _ (.tail _ (.head _)))))))))) (fun _ _ _ _ _ _ us hl => match us, hl with | [_], _ => rfl) sc_write (fun as Q h => by first | (obtain ⟨_, rfl, _⟩ := h; rfl) | (obtain ⟨_, _, rfl, _⟩ := h; rfl) | (obtain ⟨_, _, _, rfl, _⟩ := h; rfl) | (obtain ⟨_, _, _, _, rfl, _⟩ := h; rfl) | (obtain ⟨_, _, _, _, _, rfl, _⟩ := h; rfl) | (obtain ⟨_, _, _, _, _, _, rfl, _⟩ := h; rfl) | (obtain ⟨_, _, _, _, _, _, _, rfl, _⟩ := h; rfl) | (obtain ⟨_, _, _, _, _, _, _, _, rfl, _⟩ := h; rfl) | (obtain ⟨_, _, _, _, _, _, _, _, _, rfl, _⟩ := h; rfl) | (obtain ⟨rfl, _⟩ := h; rfl)) fun f cdv A outer s H E hr as Q qs hF hq => ?_
    obtain ⟨t, rfl, b, _⟩ := hF
    exact b.no.elim
  | h + 1 => by
    have h_write := ok_write c h
    have nd := sc_write.nd
    have kTOP := c.cs _ (.head _)
    have kBOTTOM := c.cs _ (.tail _ (.head _))
    have kRESERVED := c.cs _ (.tail _ (.tail _ (.tail _ (.tail _ (.tail _ (.head _))))))
    refine ok_of c (.tail _ (.tail _ (.tail _ (.tail _ (.tail _ (.tail _ (.tail _ (.tail _ (.tail _ (.head _)))))))))) (fun _ _ _ _ _ _ us hl => match us, hl with | [_], _ => rfl) sc_write (fun as Q h => by first | (obtain ⟨_, rfl, _⟩ := h; rfl) | (obtain ⟨_, _, rfl, _⟩ := h; rfl) | (obtain ⟨_, _, _, rfl, _⟩ := h; rfl) | (obtain ⟨_, _, _, _, rfl, _⟩ := h; rfl) | (obtain ⟨_, _, _, _, _, rfl, _⟩ := h; rfl) | (obtain ⟨_, _, _, _, _, _, rfl, _⟩ := h; rfl) | (obtain ⟨_, _, _, _, _, _, _, rfl, _⟩ := h; rfl) | (obtain ⟨_, _, _, _, _, _, _, _, rfl, _⟩ := h; rfl) | (obtain ⟨_, _, _, _, _, _, _, _, _, rfl, _⟩ := h; rfl) | (obtain ⟨rfl, _⟩ := h; rfl)) fun f cdv A outer s H E hr as Q qs hF hq => ?_
    obtain ⟨t, rfl, b, hQ⟩ := hF
    obtain rfl : qs = [] := List.length_eq_zero_iff.mp hq
    refine ⟨_, (pss_cons (ps_if (PW.pt (pw_or (pt_cmpR op_eq (pe_ix (r := rIxT K) ix_tup (pv 0) pe_int (fun _ _ => rfl)) pe_str (nomark _)) (pw_or1 (pt_cmpR op_eq (pe_ix (r := rIxT K) ix_tup (pv 0) pe_int (fun _ _ => rfl)) pe_str (nomark _))))) (pss_one (ps_ret (pe_ix (r := rIxT K) ix_tup (pv 0) pe_int (fun _ _ => rfl)))) pss_nil)
    (pss_cons (ps_if (pt_cmpR op_eq (pe_ix (r := rIxT K) ix_tup (pv 0) pe_int (fun _ _ => rfl)) pe_str (nomark _)) (pss_one (ps_ret (pe_ix (r := rIxT K) ix_tup (pv 0) pe_int (fun _ _ => rfl)))) pss_nil)
    (pss_cons (ps_if (pt_cmpR op_eq (pe_ix (r := rIxT K) ix_tup (pv 0) pe_int (fun _ _ => rfl)) pe_str (nomark _)) (pss_one (ps_ret (pe_joinK (K0 := K) pe_str (pe_lc (own := [("part", 2)]) (g := gName 2) (tt := tYes) rfl nd (pi_tupK (K0 := K) (pe_ix (r := rIxT K) ix_tup (pv 0) pe_int (fun _ _ => rfl))) (blkOk_by (N := ["term", "inner", "part"]) (sc := defScope (top 21)) (by first | decide +kernel | rfl)) (fun _ _ _ _ _ => pg_name (i := 2) nd rfl (by first | exact Or.inl rfl | exact Or.inr rfl)) (fun _ _ _ _ _ => pts_nil) (fun _ _ _ _ _ => (pe_f h_write (hr.mono (by omega)) rfl (pa_cons (pv 2) pa_nil))))))) pss_nil)
    (pss_cons (ps_set (i := 1) nd rfl (Or.inl rfl) (pe_f h_write (hr.mono (by omega)) rfl (pa_cons (pe_ix (r := rIxT K) ix_tup (pv 0) pe_int (fun _ _ => rfl)) pa_nil)))
    (pss_cons (ps_if (pt_cmpR op_eq (pe_ix (r := rIxT K) ix_tup (pe_ix (r := rIxT K) ix_tup (pv 0) pe_int (fun _ _ => rfl)) pe_int (fun _ _ => rfl)) pe_str (nomark _)) (pss_one (ps_set (i := 1) nd rfl (Or.inl rfl) (pe_joined (PJ.cons pe_str (PJ.cons (pe_fmt (pv 1)) (PJ.cons pe_str PJ.nil)))))) pss_nil)
    (pss_one (ps_ret (pe_joined (PJ.cons pe_str (PJ.cons (pe_fmt (pe_ix (r := rIxT K) ix_tup (pv 0) pe_int (fun _ _ => rfl))) (PJ.cons pe_str (PJ.cons (pe_fmt (pv 1)) PJ.nil)))))))))))), ?_⟩
    show Ss K T _ [.val _, .no, .no] _
    cases t with
    | top =>
      k_search "go"
      exact hQ
    | bot =>
      k_search "go"
      exact hQ
    | name x =>
      k_search "go"
      have e : (Tm.name x).wr = x := str_ext (by rw [tl_wr]; rfl)
      rw [e] at hQ
      exact hQ
    | some r t =>
      k_search "go"
      refine cv [.val _] ⟨rfl, trivial⟩ ⟨t, rfl, b.some, rim rfl, ?_⟩
      have hl := b.some.wlen
      have hr12 := b.W.hi
      have fin : ∀ (x : Str), x.cps.toList = t.wlI → (Str.empty ++ "some " ++ r ++ " " ++ x : Str) = (Tm.some r t).wr := fun x hx => str_ext (by
        rw [tl_app, tl_app, tl_app, tl_app, tl_wr, hx, Tm.wl]
        show ((([] ++ [115, 111, 109, 101, 32]) ++ r.cps.toList) ++ [32]) ++ t.wlI = _
        simp [cSome, Tm.wlI])
      have len4 : ∀ (x : Str), x.length ≤ 25100 → (Str.empty ++ "some " ++ r ++ " " ++ x : Str).length ≤ 1000000 ∧ (Str.empty ++ "some " ++ r ++ " " : Str).length ≤ 1000000 ∧ (Str.empty ++ "some " ++ r : Str).length ≤ 1000000 := fun x hx => by
        have z0 : Str.empty.cps.toList.length = 0 := rfl
        have z1 : ("some " : Str).cps.toList.length = 5 := by decide +kernel
        have z2 : (" " : Str).cps.toList.length = 1 := by decide +kernel
        rw [len_tl] at hx hr12
        refine ⟨?_, ?_, ?_⟩ <;> rw [len_tl] <;> simp only [tl_app, List.length_append] <;> omega
      have done : ∀ (x : Str), x.cps.toList = t.wlI → x.length ≤ 25100 → ExJ K T [tFmt (tOp (rIxT K) (tVar 0) (tC (.int 1))), tC (.str " "), tFmt (tVar 1)] (Str.empty ++ "some ") [.val (Tm.some r t).d, .val (.str x), .no]
          (fun r_1 δ' => ∃ us r', Fin [.val (Tm.some r t).d] [] δ' us ∧ RetR [Ar.val (Tm.some r t).d].length δ' r_1 r' ∧ Q r' us) := fun x hx hxl => by
        obtain ⟨l4, l3, l2⟩ := len4 x hxl
        k_search "go"
        refine ⟨by omega, _, rfl, l2, ?_⟩
        k_search "go"
        refine ⟨l3, ?_⟩
        k_search "go"
        refine ⟨by omega, _, rfl, l4, ?_⟩
        k_search "go"
        rw [← fin x hx] at hQ
        exact hQ
      cases t with
      | and us =>
        k_search "go"
        have z1 : ("(" : Str).cps.toList.length = 1 := by decide +kernel
        have z2 : (")" : Str).cps.toList.length = 1 := by decide +kernel
        have z0 : Str.empty.cps.toList.length = 0 := rfl
        have hl2 := hl
        rw [len_tl] at hl2
        refine ⟨by decide +kernel, ?_⟩
        k_search "go"
        refine ⟨by omega, _, rfl, by rw [len_tl]; simp only [tl_app, List.length_append]; omega, ?_⟩
        k_search "go"
        refine ⟨by rw [len_tl]; simp only [tl_app, List.length_append]; omega, ?_⟩
        k_search "go"
        refine ⟨by decide +kernel, done _ ?_ (by rw [len_tl]; simp only [tl_app, List.length_append]; omega)⟩
        rw [tl_app, tl_app, tl_app, tl_wr]
        show (([] ++ [40]) ++ (Tm.and us).wl) ++ [41] = _
        simp [Tm.wlI, Tm.isAnd]
      | _ => 
        k_search "go"
        exact ⟨by decide +kernel, done _ (by rw [tl_wr]; rfl) (by omega)⟩
    | and us =>
      have gl : Tm.goodL us := b.good
      have hc : Tm.cntL us + 1 ≤ 1000 := b.cnt
      have e1 := sum_wr gl
      have e2 := b.len
      k_search "go"
      refine ex_mapT2 ?_
      k_search "go"
      refine ⟨Tm.dL us, us.map (fun t => .str t.wr), rfl, rfl, by rw [Tm.dL_map, List.length_map]; omega, by rw [Tm.dL_map, List.length_map, List.length_map], fun k d e hd he => ?_, us.map Tm.wr, ?_, ?_, ?_⟩
      · rw [Tm.dL_map] at hd
        obtain ⟨t, ht, rfl⟩ := map_at hd
        rw [List.getElem?_map, ht] at he
        cases he
        k_search "nrm"
        k_search "go"
        exact cv [.val _] ⟨rfl, trivial⟩ ⟨t, rfl, b.and (List.mem_of_getElem? ht), rim rfl, rfl, rfl⟩
      · simp [AsD]
      · have z : (" and " : Str).length = 5 := by decide +kernel
        rw [z, List.length_map]
        omega
      · k_search "go"
        have e : (Tm.and us).wr = Txt.join " and " (us.map Tm.wr) := str_ext (by
          rw [tl_wr, Tm.wl, join_tl _ us (by decide +kernel)])
        rw [e] at hQ
        exact hQ
def F_key (h : Nat) : FS := fun as Q => ∃ t : Tm, as = [.val t.d] ∧ Tb h t ∧ t.atom = true ∧ Q (.val t.keyD) []
theorem ok_key (c : Al K mg base ds fr ts cs) (h n : Nat) (h_write : Ok P w K mg base n "write" ["term"] (spOf K T (F_write h))) : Ok P w K mg base (n + 1) "atom_key" ["atom"] (spOf K T (F_key h)) := by
  have nd := sc_atom_key.nd
  have kTOP := c.cs _ (.head _)
  have kBOTTOM := c.cs _ (.tail _ (.head _))
  have kRESERVED := c.cs _ (.tail _ (.tail _ (.tail _ (.tail _ (.tail _ (.head _))))))
  refine ok_of c (.tail _ (.tail _ (.tail _ (.tail _ (.tail _ (.tail _ (.tail _ (.tail _ (.tail _ (.tail _ (.head _))))))))))) (fun _ _ _ _ _ _ us hl => match us, hl with | [_], _ => rfl) sc_atom_key (fun as Q h => by first | (obtain ⟨_, rfl, _⟩ := h; rfl) | (obtain ⟨_, _, rfl, _⟩ := h; rfl) | (obtain ⟨_, _, _, rfl, _⟩ := h; rfl) | (obtain ⟨_, _, _, _, rfl, _⟩ := h; rfl) | (obtain ⟨_, _, _, _, _, rfl, _⟩ := h; rfl) | (obtain ⟨_, _, _, _, _, _, rfl, _⟩ := h; rfl) | (obtain ⟨_, _, _, _, _, _, _, rfl, _⟩ := h; rfl) | (obtain ⟨_, _, _, _, _, _, _, _, rfl, _⟩ := h; rfl) | (obtain ⟨_, _, _, _, _, _, _, _, _, rfl, _⟩ := h; rfl) | (obtain ⟨rfl, _⟩ := h; rfl)) fun f cdv A outer s H E hr as Q qs hF hq => ?_
  obtain ⟨t, rfl, b, ha, hQ⟩ := hF
  obtain rfl : qs = [] := List.length_eq_zero_iff.mp hq
  refine ⟨_, (pss_cons (ps_if (pt_cmpR op_eq (pe_ix (r := rIxT K) ix_tup (pv 0) pe_int (fun _ _ => rfl)) pe_str (nomark _)) (pss_one (ps_ret (pe_tup (pa_cons (pe_un un_neg pe_int) (pa_cons pe_str pa_nil))))) pss_nil)
    (pss_cons (ps_if (pt_cmpR op_eq (pe_ix (r := rIxT K) ix_tup (pv 0) pe_int (fun _ _ => rfl)) pe_str (nomark _)) (pss_one (ps_ret (pe_tup (pa_cons pe_int (pa_cons (pe_ix (r := rIxT K) ix_tup (pv 0) pe_int (fun _ _ => rfl)) pa_nil))))) pss_nil)
    (pss_one (ps_ret (pe_tup (pa_cons pe_int (pa_cons (pe_f h_write (hr.mono (by omega)) rfl (pa_cons (pv 0) pa_nil)) pa_nil))))))), ?_⟩
  show Ss K T _ [.val _] _
  cases t with
  | top => cases ha
  | and us => cases ha
  | bot =>
    k_search "go"
    exact hQ
  | name x =>
    k_search "go"
    exact hQ
  | some r t =>
    k_search "go"
    refine cv [.val _] ⟨rfl, trivial⟩ ⟨_, rfl, b, rim rfl, ?_⟩
    k_search "go"
    exact hQ
set_option Elab.async false
set_option linter.all false
set_option maxRecDepth 100000
set_option maxHeartbeats 4000001
open PySem L2 LamX NdefX PyProof.Rows GenW Pl
variable {P : Program} {w : World} {K : PySem.W.Frag} {mg : Str → Option Value} {base : Heap} {T : List NTab} {ts : List Str}
def F_impl (h : Nat) : FS := fun as Q => ∃ (t : Tm) (us : List Tm), as = [.val t.d, .val (.list (us.map Tm.d))] ∧ t.atom = true ∧ Tb h t ∧ (∀ u ∈ us, Tb h u ∧ u.atom = true) ∧ us.length ≤ 1000 ∧ Q (.val (.bool (impl1 t us))) []
theorem ok_impl (c : Al K mg base ds fr ts cs) (h n : Nat) (h_is_met : Ok P w K mg base n "is_met" ["atom", "others"] (spOf K T (F_met h))) : Ok P w K mg base (n + 1) "is_implied" ["atom", "atoms"] (spOf K T (F_impl h)) := by
  have nd := sc_is_implied.nd
  have kTOP := c.cs _ (.head _)
  have kBOTTOM := c.cs _ (.tail _ (.head _))
  have kRESERVED := c.cs _ (.tail _ (.tail _ (.tail _ (.tail _ (.tail _ (.head _))))))
  refine ok_of c (.tail _ (.tail _ (.tail _ (.tail _ (.tail _ (.tail _ (.tail _ (.tail _ (.tail _ (.tail _ (.tail _ (.tail _ (.head _))))))))))))) (fun _ _ _ _ _ _ us hl => match us, hl with | [_, _], _ => rfl) sc_is_implied (fun as Q h => by first | (obtain ⟨_, rfl, _⟩ := h; rfl) | (obtain ⟨_, _, rfl, _⟩ := h; rfl) | (obtain ⟨_, _, _, rfl, _⟩ := h; rfl) | (obtain ⟨_, _, _, _, rfl, _⟩ := h; rfl) | (obtain ⟨_, _, _, _, _, rfl, _⟩ := h; rfl) | (obtain ⟨_, _, _, _, _, _, rfl, _⟩ := h; rfl) | (obtain ⟨_, _, _, _, _, _, _, rfl, _⟩ := h; rfl) | (obtain ⟨_, _, _, _, _, _, _, _, rfl, _⟩ := h; rfl) | (obtain ⟨_, _, _, _, _, _, _, _, _, rfl, _⟩ := h; rfl) | (obtain ⟨rfl, _⟩ := h; rfl)) fun f cdv A outer s H E hr as Q qs hF hq => ?_
  obtain ⟨t, us, rfl, ha, b, hu, hl, hQ⟩ := hF
  obtain rfl : qs = [] := List.length_eq_zero_iff.mp hq
  refine ⟨_, (pss_one (ps_ret (pe_and (pe_cmpR op_eq (pe_ix (r := rIxT K) ix_tup (pv 0) pe_int (fun _ _ => rfl)) pe_str (nomark _)) (pe_one (pe_f h_is_met (hr.mono (by omega)) rfl (pa_cons (pv 0) (pa_cons (pe_lc (own := [("other", 2)]) (g := gName 2) rfl nd (pi_listK (K0 := K) (pv 1)) (blkOk_by (N := ["atom", "atoms", "other"]) (sc := defScope (top 24)) (by first | decide +kernel | rfl)) (fun _ _ _ _ _ => pg_name (i := 2) nd rfl (by first | exact Or.inl rfl | exact Or.inr rfl)) (fun _ _ _ _ _ => (pts_one (pt_cmpR (r := rNeD K) (op_neD hr.units) (pv 2) (pv 0) (nomark _)))) (fun _ _ _ _ _ => (pv 2))) pa_nil))))))), ?_⟩
  show Ss K T _ [.val _, .val _, .no] _
  cases t with
  | top => cases ha
  | and us => cases ha
  | bot =>
    k_search "go"
    exact hQ
  | name x =>
    k_search "go"
    exact hQ
  | some r t =>
    k_search "go"
    refine ex_filL2 (fun d => !PyData.eqv d (Tm.some r t).d) ?_
    k_search "go"
    refine ⟨by rw [List.length_map]; omega, fun d hd => ?_, ?_⟩
    · obtain ⟨u, hu2, rfl⟩ := List.mem_map.mp hd
      k_search "nrm"
      k_search "go"
      refine opd_neTm (hu u hu2).1.shaped b.shaped ?_
      rw [eqv_tm]
      k_search "go"
    · have e : (us.map Tm.d).filter (fun d => !PyData.eqv d (Tm.some r t).d) = (us.filter fun b => !decide (b = .some r t)).map Tm.d := by
        rw [List.filter_map]
        congr 1
        refine List.filter_congr fun u _ => ?_
        show (!PyData.eqv u.d (Tm.some r t).d) = _
        rw [eqv_tm]
      rw [e]
      refine ⟨_, rfl, ?_⟩
      k_search "go"
      refine cv [.val _, .val _] ⟨rfl, rfl, trivial⟩ ⟨_, _, rfl, ha, b, fun u m => hu u (List.mem_filter.mp m).1, rim rfl, ?_⟩
      k_search "go"
      exact hQ
def F_join (h : Nat) : FS := fun as Q => ∃ us : List Tm, as = [.val (.list (us.map Tm.d))] ∧ (∀ u ∈ us, Tb h u ∧ (u = .bot ∨ KA u)) ∧ us.length ≤ 1000 ∧ Q (.val (jn us).d) []
theorem ka_atom {u : Tm} (h : KA u) : u.atom = true := by
  rcases h with ⟨w, e, _⟩ | ⟨r, v, e, _⟩ <;> rw [e] <;> rfl
theorem ddp_len : ∀ (as acc : List Tm), (ddp acc as).length ≤ acc.length + as.length
  | [], acc => by simp [ddp]
  | a :: as, acc => by
    rw [ddp]
    have := ddp_len as (if a ∈ acc then acc else acc ++ [a])
    by_cases h : a ∈ acc
    · rw [if_pos h] at this ⊢; simp; omega
    · rw [if_neg h] at this ⊢; simp at this ⊢; omega
theorem ok_join (c : Al K mg base ds fr ts cs) (h n m k : Nat) (h_write : Ok P w K mg base n "write" ["term"] (spOf K T (F_write h))) (h_is_implied : Ok P w K mg base m "is_implied" ["atom", "atoms"] (spOf K T (F_impl h)))
    (h_atom_key : Ok P w K mg base k "atom_key" ["atom"] (spOf K T (F_key h))) : Ok P w K mg base (max (max n m) k + 3) "join_atoms" ["atoms"] (spOf K T (F_join h)) := by
  have nd := sc_join_atoms.nd
  have kTOP := c.cs _ (.head _)
  have kBOTTOM := c.cs _ (.tail _ (.head _))
  have kRESERVED := c.cs _ (.tail _ (.tail _ (.tail _ (.tail _ (.tail _ (.head _))))))
  refine ok_of c (.tail _ (.tail _ (.tail _ (.tail _ (.tail _ (.tail _ (.tail _ (.tail _ (.tail _ (.tail _ (.tail _ (.head _)))))))))))) (fun _ _ _ _ _ _ us hl => match us, hl with | [_], _ => rfl) sc_join_atoms (fun as Q h => by first | (obtain ⟨_, rfl, _⟩ := h; rfl) | (obtain ⟨_, _, rfl, _⟩ := h; rfl) | (obtain ⟨_, _, _, rfl, _⟩ := h; rfl) | (obtain ⟨_, _, _, _, rfl, _⟩ := h; rfl) | (obtain ⟨_, _, _, _, _, rfl, _⟩ := h; rfl) | (obtain ⟨_, _, _, _, _, _, rfl, _⟩ := h; rfl) | (obtain ⟨_, _, _, _, _, _, _, rfl, _⟩ := h; rfl) | (obtain ⟨_, _, _, _, _, _, _, _, rfl, _⟩ := h; rfl) | (obtain ⟨_, _, _, _, _, _, _, _, _, rfl, _⟩ := h; rfl) | (obtain ⟨rfl, _⟩ := h; rfl)) fun f cdv A outer s H E hr as Q qs hF hq => ?_
  obtain ⟨us, rfl, hu, hl, hQ⟩ := hF
  obtain rfl : qs = [] := List.length_eq_zero_iff.mp hq
  refine ⟨_, (pss_cons (ps_if (pt_cmpR (r := rInD K) (op_inD (Nat.lt_of_le_of_lt (Nat.add_le_add (Nat.le_add_right _ _) (by decide)) hr.un)) (pe_kT (c.cs _ (.tail _ (.head _))) rfl) (pv 0) rfl) (pss_one (ps_ret (pe_kT (c.cs _ (.tail _ (.head _))) rfl))) pss_nil)
    (pss_cons (ps_set (i := 1) nd rfl (Or.inl rfl) pe_dnewK)
    (pss_cons (ps_for PassesOwn.never rfl (pi_listK (K0 := K) (pv 0)) (pg_name (i := 2) nd rfl (Or.inl rfl)) (pss_one (ps_dput (hu_of hr) (pv 1) (pe_f h_write (hr.mono (by omega)) rfl (pa_cons (pv 2) pa_nil)) (pv 2) rfl)))
    (pss_cons (ps_set (i := 3) nd rfl (Or.inr rfl) (pe_listVals rfl rfl (c.fr _ (.tail _ (.tail _ (.tail _ (.tail _ (.tail _ (.head _))))))) (pv 1)))
    (pss_cons (ps_setLc (i := 4) (own := [("atom", 2)]) (g := gName 2) rfl nd rfl rfl (sw_true rfl rfl rfl (by decide +kernel)) (pi_listK (K0 := K) (pv 3)) (blkOk_by (N := ["atoms", "found", "atom", "different", "kept"]) (sc := defScope (top 23)) (by first | decide +kernel | rfl)) (fun _ _ _ _ _ => pg_name (i := 2) nd rfl (by first | exact Or.inl rfl | exact Or.inr rfl)) (fun _ _ _ _ _ => (pts_one (pt_not (pt_val (pe_f h_is_implied (hr.mono (by omega)) rfl (pa_cons (pv 2) (pa_cons (pv 3) pa_nil))))))) (fun _ _ _ _ _ => (pv 2)))
    (pss_cons (ps_if (pt_not (pt_truthK (K0 := K) (pv 4) (fun _ => rfl))) (pss_one (ps_ret (pe_kT (c.cs _ (.head _)) rfl))) pss_nil)
    (pss_cons (ps_if (pt_cmpR op_eq (pe_callB (r := Pl.rLen K) call_len rfl (c.fr _ (.tail _ (.tail _ (.tail _ (.head _))))) PySem.boot_len (pa_cons (pv 4) pa_nil)) pe_int (nomark _)) (pss_one (ps_ret (pe_ix (r := rIxL K) ix_list (pv 4) pe_int (fun _ _ => rfl)))) pss_nil)
    (pss_one (ps_ret (pe_tup (pa_cons pe_str (pa_cons (pe_callTy (r := rTupOf K) call_tuple_of rfl (c.fr _ (.tail _ (.tail _ (.tail _ (.tail _ (.head _)))))) PyProof.Rows.boot_tuple (pa_cons (pe_callBK (crk_sortKey (T := T) (hr.mono (by omega)) (kc_def h_atom_key.fnR)) rfl (c.fr _ (.tail _ (.tail _ (.tail _ (.tail _ (.tail _ (.tail _ (.tail _ (.head _))))))))) PyProof.Rows.boot_sorted (pa_cons (pv 4) pa_nil) (pk_cons (pe_fn h_atom_key rfl) pk_nil)) pa_nil)) pa_nil)))))))))))), ?_⟩
  show Ss K T _ [.val _, .no, .no, .no, .no] _
  k_search "go"
  refine opd_inBot (shaped_tb fun u m => (hu u m).1) ?_
  refine ⟨_, rfl, iteD (fun hb => ?_) fun hb => ?_⟩
  · k_search "go"
    have e : jn us = .bot := jn_bot.mpr hb
    rw [e] at hQ
    exact hQ
  · have ka : ∀ u ∈ us, KA u := fun u m => (hu u m).2.resolve_left fun e => hb (e ▸ m)
    have kad : ∀ x ∈ ddp [] us, KA x ∧ Tb h x := fun x hx => by
      have := (ddp_mem.mp hx).resolve_left (by simp)
      exact ⟨ka x this, (hu x this).1⟩
    have ld : (ddp [] us).length ≤ 1000 := by have := ddp_len us []; simp at this; omega
    have ej : jn us = shp (srt (kpt (ddp [] us))) := by unfold jn; rw [if_neg hb]
    rw [ej] at hQ
    k_search "go"
    refine go_forL (us.map Tm.d) (fun k δ => ∃ a s, δ = [.val (.list (us.map Tm.d)), .own a (.dK (kvOf (ddp [] (us.take k)))), s, .no, .no]) ?_ ?_ ?_
    · k_search "go"
      exact ⟨rfl, _, _, rfl⟩
    · rintro k d δ2 hk ⟨a, s, rfl⟩
      obtain ⟨u, hu1, rfl⟩ := map_at hk
      have m := List.mem_of_getElem? hu1
      have kat : ∀ x ∈ ddp [] (us.take k), KA x := fun x hx => ka x (List.mem_of_mem_take ((ddp_mem.mp hx).resolve_left (by simp)))
      k_search "nrm"
      refine ss_dputK ?_
      refine ex_var rfl ⟨_, rfl, ⟨_, _, rfl⟩, ?_⟩
      k_search "go"
      refine cv [.val _] ⟨rfl, trivial⟩ ⟨u, rfl, (hu u m).1, rim rfl, ?_⟩
      refine ⟨.inr u.wr, _, _, rfl, rfl, ?_, ?_⟩
      · have := ddp_len (us.take k) []
        rw [List.length_take] at this
        simp only [kvOf, List.length_map]
        simp at this
        omega
      · k_search "nrm"
        refine ⟨a, .val u.d, ?_⟩
        rw [put_kv kat (ka u m), List.take_add_one, hu1]
        show _ = [_, Sl.own a (.dK (kvOf (ddp [] (us.take k ++ [u])))), _, _, _]
        rw [ddp_snoc]
    · rintro δ2 ⟨a, s, rfl⟩
      rw [List.length_map, List.take_length]
      k_search "go"
      refine ex_listVals ⟨_, _, rfl, by rw [kvOf_vals]; exact tm_imm, ?_⟩
      rw [kvOf_vals]
      with_reducible apply st_n
      · k_search "len"
      · intro _; k_search "set"
      intro ad
      refine ss_no (i := 2) ?_
      k_search "nrm"
      refine ss_frz (i := 3) rfl ?_
      k_search "nrm"
      k_search "go"
      refine ex_filL2 (fun d => !impl1 (Tm.of d) (ddp [] us)) ?_
      k_search "go"
      refine ⟨by rw [List.length_map]; omega, fun d hd => ?_, ?_⟩
      · obtain ⟨u, hu2, rfl⟩ := List.mem_map.mp hd
        k_search "nrm"
        k_search "go"
        refine cv [.val _, .val _] ⟨rfl, rfl, trivial⟩ ⟨u, ddp [] us, rfl, ka_atom (kad u hu2).1, (kad u hu2).2, fun x hx => ⟨(kad x hx).2, ka_atom (kad x hx).1⟩, ld, rim rfl, ?_⟩
        rw [Tm.of_d]
        k_search "go"
      · have e : ((ddp [] us).map Tm.d).filter (fun d => !impl1 (Tm.of d) (ddp [] us)) = (kpt (ddp [] us)).map Tm.d := by
          rw [List.filter_map]
          unfold kpt
          congr 1
          refine List.filter_congr fun u _ => ?_
          show (!impl1 (Tm.of u.d) (ddp [] us)) = _
          rw [Tm.of_d]
        rw [e]
        have kk : ∀ x ∈ kpt (ddp [] us), KA x ∧ Tb h x := fun x hx => kad x (mem_kept.mp hx).1
        have lk : (kpt (ddp [] us)).length ≤ 1000 := Nat.le_trans (List.length_filter_le _ _) ld
        generalize kpt (ddp [] us) = ks at kk lk hQ
        k_search "nrm"
        match ks, kk, lk, hQ with
        | [], kk, lk, hQ =>
          k_search "go"
          rw [srt_nil] at hQ
          exact hQ
        | [x], kk, lk, hQ =>
          k_search "go"
          rw [srt_one] at hQ
          exact hQ
        | x :: y :: zs, kk, lk, hQ =>
          k_search "go"
          show Ex K T (tCKw (rSortKey K T fun fa w H Q => fa = He.ga K "atom_key" ∧ spOf K T (F_key h) [w] H Q E0) (tCons (tVar 4) tNil) (tCons (tC (.ref (He.ga K "atom_key"))) tNil)) _ _
          refine ex_sortDef (F := F_key h) (ex_bor rfl ⟨(x :: y :: zs).map Tm.d, fun d => (Tm.of d).keyD, ⟨_, _, rfl, rfl⟩, tm_imm, keys_alike _, keys_sortable _, fun d _ => keyD_dep _, fun d hd => ?_, ?_⟩)
          · obtain ⟨t, ht, rfl⟩ := List.mem_map.mp hd
            exact ⟨t, rfl, (kk t ht).2, ka_atom (kk t ht).1, by show R.val t.keyD = R.val (Tm.of t.d).keyD; rw [Tm.of_d]⟩
          · rw [srt_d]
            have hp := srt_perm (x :: y :: zs)
            generalize srt (x :: y :: zs) = rs at hp hQ
            match rs, hp, hQ with
            | [], hp, _ => exact absurd hp.length_eq (by simp)
            | [_], hp, _ => exact absurd hp.length_eq (by simp)
            | p :: q :: rs, hp, hQ =>
              k_search "go"
              refine cb_tupL tm_imm ?_
              k_search "go"
              have e : (shp (p :: q :: rs)).d = .tuple [.str "and", .tuple ((p :: q :: rs).map Tm.d)] := by
                rw [← Tm.dL_map]; rfl
              rw [e] at hQ
              exact hQ
def F_nf (h : Nat) : FS := fun as Q => ∃ t : Tm, as = [.val t.d] ∧ Tb h t ∧ Q (.val t.nf.d) []
theorem ok_nf (c : Al K mg base ds fr ts cs) (H0 n m : Nat) (h_raw_conjuncts : Ok P w K mg base n "raw_conjuncts" ["term"] (spOf K T (F_raw H0))) (h_join_atoms : Ok P w K mg base m "join_atoms" ["atoms"] (spOf K T (F_join H0))) :
    ∀ h : Nat, h ≤ H0 → Ok P w K mg base (max n m + h + 1) "make_normal" ["term"] (spOf K T (F_nf h))
  | 0, _ => by
    have nd := sc_make_normal.nd
    have kTOP := c.cs _ (.head _)
    have kBOTTOM := c.cs _ (.tail _ (.head _))
    have kRESERVED := c.cs _ (.tail _ (.tail _ (.tail _ (.tail _ (.tail _ (.head _))))))
    refine ok_of c (.tail _ (.tail _ (.tail _ (.tail _ (.tail _ (.tail _ (.tail _ (.tail _ (.tail _ (.tail _ (.tail _ (.tail _ (.tail _ (.head _)))))))))))))) (fun _ _ _ _ _ _ us hl => match us, hl with | [_], _ => rfl) sc_make_normal (fun as Q h => by first | (obtain ⟨_, rfl, _⟩ := h; rfl) | (obtain ⟨_, _, rfl, _⟩ := h; rfl) | (obtain ⟨_, _, _, rfl, _⟩ := h; rfl) | (obtain ⟨_, _, _, _, rfl, _⟩ := h; rfl) | (obtain ⟨_, _, _, _, _, rfl, _⟩ := h; rfl) | (obtain ⟨_, _, _, _, _, _, rfl, _⟩ := h; rfl) | (obtain ⟨_, _, _, _, _, _, _, rfl, _⟩ := h; rfl) | (obtain ⟨_, _, _, _, _, _, _, _, rfl, _⟩ := h; rfl) | (obtain ⟨_, _, _, _, _, _, _, _, _, rfl, _⟩ := h; rfl) | (obtain ⟨rfl, _⟩ := h; rfl)) fun f cdv A outer s H E hr as Q qs hF hq => ?_
    obtain ⟨t, rfl, b, _⟩ := hF
    exact b.no.elim
  | h + 1, hh => by
    have h_make_normal := ok_nf c H0 n m h_raw_conjuncts h_join_atoms h (by omega)
    have nd := sc_make_normal.nd
    have kTOP := c.cs _ (.head _)
    have kBOTTOM := c.cs _ (.tail _ (.head _))
    have kRESERVED := c.cs _ (.tail _ (.tail _ (.tail _ (.tail _ (.tail _ (.head _))))))
    refine ok_of c (.tail _ (.tail _ (.tail _ (.tail _ (.tail _ (.tail _ (.tail _ (.tail _ (.tail _ (.tail _ (.tail _ (.tail _ (.tail _ (.head _)))))))))))))) (fun _ _ _ _ _ _ us hl => match us, hl with | [_], _ => rfl) sc_make_normal (fun as Q h => by first | (obtain ⟨_, rfl, _⟩ := h; rfl) | (obtain ⟨_, _, rfl, _⟩ := h; rfl) | (obtain ⟨_, _, _, rfl, _⟩ := h; rfl) | (obtain ⟨_, _, _, _, rfl, _⟩ := h; rfl) | (obtain ⟨_, _, _, _, _, rfl, _⟩ := h; rfl) | (obtain ⟨_, _, _, _, _, _, rfl, _⟩ := h; rfl) | (obtain ⟨_, _, _, _, _, _, _, rfl, _⟩ := h; rfl) | (obtain ⟨_, _, _, _, _, _, _, _, rfl, _⟩ := h; rfl) | (obtain ⟨_, _, _, _, _, _, _, _, _, rfl, _⟩ := h; rfl) | (obtain ⟨rfl, _⟩ := h; rfl)) fun f cdv A outer s H E hr as Q qs hF hq => ?_
    obtain ⟨t, rfl, b, hQ⟩ := hF
    obtain rfl : qs = [] := List.length_eq_zero_iff.mp hq
    refine ⟨_, (pss_cons (ps_set (i := 1) nd rfl (Or.inl rfl) (pe_lst pa_nil))
    (pss_cons (ps_for PassesOwn.never rfl (pi_listK (K0 := K) (pe_f h_raw_conjuncts (hr.mono (by omega)) rfl (pa_cons (pv 0) pa_nil))) (pg_name (i := 2) nd rfl (Or.inl rfl)) (pss_one (ps_if (pt_cmpR op_eq (pe_ix (r := rIxT K) ix_tup (pv 2) pe_int (fun _ _ => rfl)) pe_str (nomark _)) (pss_cons (ps_set (i := 3) nd rfl (Or.inl rfl) (pe_f h_make_normal (hr.mono (by omega)) rfl (pa_cons (pe_ix (r := rIxT K) ix_tup (pv 2) pe_int (fun _ _ => rfl)) pa_nil)))
    (pss_one (ps_expr (pe_bmK (K0 := K) PySem.F.plainAttrs_list PySem.F.slot_list_append PySem.F.type_list_append mt_append (pv 1) (pa_cons (pe_ifExp (pt_cmpR (r := rEqD K) (op_eqD hr.units) (pv 3) (pe_kT (c.cs _ (.tail _ (.head _))) rfl) (nomark _)) (pe_kT (c.cs _ (.tail _ (.head _))) rfl) (pe_tup (pa_cons pe_str (pa_cons (pe_ix (r := rIxT K) ix_tup (pv 2) pe_int (fun _ _ => rfl)) (pa_cons (pv 3) pa_nil))))) pa_nil))))) (pss_one (ps_expr (pe_bmK (K0 := K) PySem.F.plainAttrs_list PySem.F.slot_list_append PySem.F.type_list_append mt_append (pv 1) (pa_cons (pv 2) pa_nil)))))))
    (pss_one (ps_ret (pe_f h_join_atoms (hr.mono (by omega)) rfl (pa_cons (pv 1) pa_nil)))))), ?_⟩
    show Ss K T _ [.val _, .no, .no, .no] _
    have lr := b.rlen
    k_search "go"
    refine go_forL (t.raw.map Tm.d) (fun k δ => ∃ a s s2, δ = [.val t.d, .own a (.lst (((t.raw.take k).map stp).map Tm.d)), s, s2]) ?_ ?_ ?_
    · k_search "go"
      exact cv [.val _] ⟨rfl, trivial⟩ ⟨t, rfl, b.mono hh, rimL tm_imm, rfl, _, _, _, rfl⟩
    · rintro k d δ2 hk ⟨a, s, s2, rfl⟩
      obtain ⟨u, hu, rfl⟩ := map_at hk
      have m := List.mem_of_getElem? hu
      have ha := Tm.raw_atom t u m
      have bu := b.raw m
      have hkl : k < t.raw.length := (List.getElem?_eq_some_iff.mp hu).1
      have ll : (((t.raw.take k).map stp).map Tm.d).length < 100000 := by
        rw [List.length_map, List.length_map, List.length_take]; omega
      have et : ((t.raw.take (k + 1)).map stp).map Tm.d = ((t.raw.take k).map stp).map Tm.d ++ [(stp u).d] := by
        rw [List.take_add_one, hu, List.map_append, List.map_append]; rfl
      k_search "nrm"
      cases u with
      | top => cases ha
      | and us => cases ha
      | bot =>
        k_search "go"
        exact ⟨a, _, _, by rw [et]; rfl⟩
      | name x =>
        k_search "go"
        exact ⟨a, _, _, by rw [et]; rfl⟩
      | some r v =>
        k_search "go"
        refine cv [.val _] ⟨rfl, trivial⟩ ⟨v, rfl, bu.some, rim (Tm.imm_d _), ?_⟩
        k_search "go"
        refine opd_eqBot bu.some.nf.shaped ?_
        refine ⟨_, rfl, iteD (fun e => ?_) fun e => ?_⟩
        · k_search "go"
          have et := et
          have : stp (Tm.some r v) = .bot := by show (if v.nf = .bot then Tm.bot else .some r v.nf) = _; rw [if_pos e]
          exact ⟨a, _, _, by rw [et, this]; rfl⟩
        · k_search "go"
          have et := et
          have : stp (Tm.some r v) = .some r v.nf := by show (if v.nf = .bot then Tm.bot else .some r v.nf) = _; rw [if_neg e]
          exact ⟨a, _, _, by rw [et, this]; rfl⟩
    · rintro δ2 ⟨a, s, s2, rfl⟩
      rw [List.length_map, List.take_length, ← pre_raw]
      k_search "go"
      have pb := pre_bd t b.good
      have pc : ∀ u ∈ t.pre, u.cnt ≤ t.cnt := fun u m => Nat.le_trans (Tm.cntL_le m) pb.2
      refine cv [.val _] ⟨⟨_, _, rfl, rfl⟩, by decide, trivial⟩ ⟨t.pre, rfl, fun u m => ⟨⟨(pb.1 u m).1, Nat.le_trans (pb.1 u m).2 (Nat.le_trans b.ht hh), Nat.le_trans (pc u m) b.cnt, Nat.le_trans (pb.1 u m).2 b.low⟩, ?_⟩, ?_, rim (Tm.imm_d _), ?_⟩
      · by_cases e : u = .bot
        · exact .inl e
        · exact .inr ((pre_is t b.good u m).ka e)
      · have := Tm.len_cntL t.pre
        have := pb.2
        have := b.cnt
        omega
      k_search "go"
      exact hQ
set_option Elab.async false
set_option linter.all false
set_option maxRecDepth 100000
set_option maxHeartbeats 4000001
open PySem L2 LamX NdefX PyProof.Rows GenW Pl
variable {P : Program} {w : World} {K : PySem.W.Frag} {mg : Str → Option Value} {base : Heap} {T : List NTab} {ts : List Str}
theorem ok_lconj (c : Al K mg base ds fr ts cs) : ∀ h : Nat, Ok P w K mg base (h + 1) "_law_conjuncts" ["term"] (spOf K T (F_raw h))
  | 0 => by
    have nd := sc__law_conjuncts.nd
    have kTOP := c.cs _ (.head _)
    have kBOTTOM := c.cs _ (.tail _ (.head _))
    have kRESERVED := c.cs _ (.tail _ (.tail _ (.tail _ (.tail _ (.tail _ (.head _))))))
    refine ok_of c (.tail _ (.tail _ (.tail _ (.tail _ (.tail _ (.tail _ (.tail _ (.tail _ (.tail _ (.tail _ (.tail _ (.tail _ (.tail _ (.tail _ (.tail _ (.tail _ (.tail _ (.tail _ (.tail _ (.tail _ (.tail _ (.tail _ (.tail _ (.tail _ (.tail _ (.tail _ (.tail _ (.tail _ (.tail _ (.tail _ (.tail _ (.tail _ (.tail _ (.tail _ (.tail _ (.tail _ (.head _))))))))))))))))))))))))))))))))))))) (fun _ _ _ _ _ _ us hl => match us, hl with | [_], _ => rfl) sc__law_conjuncts (fun as Q h => by first | (obtain ⟨_, rfl, _⟩ := h; rfl) | (obtain ⟨_, _, rfl, _⟩ := h; rfl) | (obtain ⟨_, _, _, rfl, _⟩ := h; rfl) | (obtain ⟨_, _, _, _, rfl, _⟩ := h; rfl) | (obtain ⟨_, _, _, _, _, rfl, _⟩ := h; rfl) | (obtain ⟨_, _, _, _, _, _, rfl, _⟩ := h; rfl) | (obtain ⟨_, _, _, _, _, _, _, rfl, _⟩ := h; rfl) | (obtain ⟨_, _, _, _, _, _, _, _, rfl, _⟩ := h; rfl) | (obtain ⟨_, _, _, _, _, _, _, _, _, rfl, _⟩ := h; rfl) | (obtain ⟨rfl, _⟩ := h; rfl)) fun f cdv A outer s H E hr as Q qs hF hq => ?_
    obtain ⟨t, rfl, b, _⟩ := hF
    exact b.no.elim
  | h + 1 => by
    have h__law_conjuncts := ok_lconj c h
    have nd := sc__law_conjuncts.nd
    have kTOP := c.cs _ (.head _)
    have kBOTTOM := c.cs _ (.tail _ (.head _))
    have kRESERVED := c.cs _ (.tail _ (.tail _ (.tail _ (.tail _ (.tail _ (.head _))))))
    refine ok_of c (.tail _ (.tail _ (.tail _ (.tail _ (.tail _ (.tail _ (.tail _ (.tail _ (.tail _ (.tail _ (.tail _ (.tail _ (.tail _ (.tail _ (.tail _ (.tail _ (.tail _ (.tail _ (.tail _ (.tail _ (.tail _ (.tail _ (.tail _ (.tail _ (.tail _ (.tail _ (.tail _ (.tail _ (.tail _ (.tail _ (.tail _ (.tail _ (.tail _ (.tail _ (.tail _ (.tail _ (.head _))))))))))))))))))))))))))))))))))))) (fun _ _ _ _ _ _ us hl => match us, hl with | [_], _ => rfl) sc__law_conjuncts (fun as Q h => by first | (obtain ⟨_, rfl, _⟩ := h; rfl) | (obtain ⟨_, _, rfl, _⟩ := h; rfl) | (obtain ⟨_, _, _, rfl, _⟩ := h; rfl) | (obtain ⟨_, _, _, _, rfl, _⟩ := h; rfl) | (obtain ⟨_, _, _, _, _, rfl, _⟩ := h; rfl) | (obtain ⟨_, _, _, _, _, _, rfl, _⟩ := h; rfl) | (obtain ⟨_, _, _, _, _, _, _, rfl, _⟩ := h; rfl) | (obtain ⟨_, _, _, _, _, _, _, _, rfl, _⟩ := h; rfl) | (obtain ⟨_, _, _, _, _, _, _, _, _, rfl, _⟩ := h; rfl) | (obtain ⟨rfl, _⟩ := h; rfl)) fun f cdv A outer s H E hr as Q qs hF hq => ?_
    obtain ⟨t, rfl, b, hQ⟩ := hF
    obtain rfl : qs = [] := List.length_eq_zero_iff.mp hq
    refine ⟨_, (pss_cons (ps_if (pt_cmpR op_eq (pe_ix (r := rIxT K) ix_tup (pv 0) pe_int (fun _ _ => rfl)) pe_str (nomark _)) (pss_one (ps_ret (pe_lst pa_nil))) pss_nil)
    (pss_cons (ps_if (pt_cmpR op_ne (pe_ix (r := rIxT K) ix_tup (pv 0) pe_int (fun _ _ => rfl)) pe_str (nomark _)) (pss_one (ps_ret (pe_lst (pa_cons (pv 0) pa_nil)))) pss_nil)
    (pss_cons (ps_set (i := 1) nd rfl (Or.inl rfl) (pe_lst pa_nil))
    (pss_cons (ps_for PassesOwn.never rfl (pi_tupK (K0 := K) (pe_ix (r := rIxT K) ix_tup (pv 0) pe_int (fun _ _ => rfl))) (pg_name (i := 2) nd rfl (Or.inl rfl)) (pss_one (ps_set (i := 1) nd rfl (Or.inl rfl) (pe_op (r := rCatS K) op_catS (pv 1) (pe_f h__law_conjuncts (hr.mono (by omega)) rfl (pa_cons (pv 2) pa_nil))))))
    (pss_one (ps_ret (pv 1))))))), ?_⟩
    show Ss K T _ [.val _, .no, .no] _
    cases t with
    | top =>
      k_search "go"
      exact hQ
    | bot =>
      k_search "go"
      exact hQ
    | name x =>
      k_search "go"
      exact hQ
    | some r t =>
      k_search "go"
      exact hQ
    | and us =>
      have bl : Tm.cntL us + 1 ≤ 1000 := b.cnt
      k_search "go"
      refine go_forT (Tm.dL us) (fun k δ => ∃ a s, δ = [.val (Tm.and us).d, .own a (.lst ((Tm.rawL (us.take k)).map Tm.d)), s]) ?_ ?_ ?_
      · k_search "go"
        exact ⟨rfl, _, _, rfl⟩
      · rintro k d δ2 hk ⟨a, s, rfl⟩
        rw [Tm.dL_map] at hk
        obtain ⟨t, ht, rfl⟩ := map_at hk
        have bt := b.and (List.mem_of_getElem? ht)
        have l1 := rawL_len (us := us) (k := k) (by omega)
        have l2 := bt.rlen
        k_search "nrm"
        k_search "go"
        refine cv [.val _] ⟨rfl, trivial⟩ ⟨t, rfl, bt, rimL tm_imm, ?_⟩
        refine ⟨_, _, ⟨_, _, rfl, rfl⟩, rfl, opd_catL tm_imm tm_imm (by rw [List.length_map, List.length_map]; omega) ?_⟩
        k_search "go"
        rename_i a2
        refine ⟨a2, .val t.d, ?_⟩
        rw [rawL_take ht, List.map_append]
      · rintro δ2 ⟨a, s, rfl⟩
        k_search "go"
        rw [Tm.dL_map, List.length_map, List.take_length]
        exact hQ
theorem ok_lvoid (c : Al K mg base ds fr ts cs) (H0 : Nat) (h__law_conjuncts : Ok P w K mg base (H0 + 1) "_law_conjuncts" ["term"] (spOf K T (F_raw H0))) : ∀ h : Nat, h ≤ H0 → Ok P w K mg base (H0 + 1 + h + 1) "_law_void" ["term"] (spOf K T (F_void h))
  | 0, _ => by
    have nd := sc__law_void.nd
    have kTOP := c.cs _ (.head _)
    have kBOTTOM := c.cs _ (.tail _ (.head _))
    have kRESERVED := c.cs _ (.tail _ (.tail _ (.tail _ (.tail _ (.tail _ (.head _))))))
    refine ok_of c (.tail _ (.tail _ (.tail _ (.tail _ (.tail _ (.tail _ (.tail _ (.tail _ (.tail _ (.tail _ (.tail _ (.tail _ (.tail _ (.tail _ (.tail _ (.tail _ (.tail _ (.tail _ (.tail _ (.tail _ (.tail _ (.tail _ (.tail _ (.tail _ (.tail _ (.tail _ (.tail _ (.tail _ (.tail _ (.tail _ (.tail _ (.tail _ (.tail _ (.tail _ (.tail _ (.tail _ (.tail _ (.head _)))))))))))))))))))))))))))))))))))))) (fun _ _ _ _ _ _ us hl => match us, hl with | [_], _ => rfl) sc__law_void (fun as Q h => by first | (obtain ⟨_, rfl, _⟩ := h; rfl) | (obtain ⟨_, _, rfl, _⟩ := h; rfl) | (obtain ⟨_, _, _, rfl, _⟩ := h; rfl) | (obtain ⟨_, _, _, _, rfl, _⟩ := h; rfl) | (obtain ⟨_, _, _, _, _, rfl, _⟩ := h; rfl) | (obtain ⟨_, _, _, _, _, _, rfl, _⟩ := h; rfl) | (obtain ⟨_, _, _, _, _, _, _, rfl, _⟩ := h; rfl) | (obtain ⟨_, _, _, _, _, _, _, _, rfl, _⟩ := h; rfl) | (obtain ⟨_, _, _, _, _, _, _, _, _, rfl, _⟩ := h; rfl) | (obtain ⟨rfl, _⟩ := h; rfl)) fun f cdv A outer s H E hr as Q qs hF hq => ?_
    obtain ⟨t, rfl, b, _⟩ := hF
    exact b.no.elim
  | h + 1, hh => by
    have h__law_void := ok_lvoid c H0 h__law_conjuncts h (by omega)
    have nd := sc__law_void.nd
    have kTOP := c.cs _ (.head _)
    have kBOTTOM := c.cs _ (.tail _ (.head _))
    have kRESERVED := c.cs _ (.tail _ (.tail _ (.tail _ (.tail _ (.tail _ (.head _))))))
    refine ok_of c (.tail _ (.tail _ (.tail _ (.tail _ (.tail _ (.tail _ (.tail _ (.tail _ (.tail _ (.tail _ (.tail _ (.tail _ (.tail _ (.tail _ (.tail _ (.tail _ (.tail _ (.tail _ (.tail _ (.tail _ (.tail _ (.tail _ (.tail _ (.tail _ (.tail _ (.tail _ (.tail _ (.tail _ (.tail _ (.tail _ (.tail _ (.tail _ (.tail _ (.tail _ (.tail _ (.tail _ (.tail _ (.head _)))))))))))))))))))))))))))))))))))))) (fun _ _ _ _ _ _ us hl => match us, hl with | [_], _ => rfl) sc__law_void (fun as Q h => by first | (obtain ⟨_, rfl, _⟩ := h; rfl) | (obtain ⟨_, _, rfl, _⟩ := h; rfl) | (obtain ⟨_, _, _, rfl, _⟩ := h; rfl) | (obtain ⟨_, _, _, _, rfl, _⟩ := h; rfl) | (obtain ⟨_, _, _, _, _, rfl, _⟩ := h; rfl) | (obtain ⟨_, _, _, _, _, _, rfl, _⟩ := h; rfl) | (obtain ⟨_, _, _, _, _, _, _, rfl, _⟩ := h; rfl) | (obtain ⟨_, _, _, _, _, _, _, _, rfl, _⟩ := h; rfl) | (obtain ⟨_, _, _, _, _, _, _, _, _, rfl, _⟩ := h; rfl) | (obtain ⟨rfl, _⟩ := h; rfl)) fun f cdv A outer s H E hr as Q qs hF hq => ?_
    obtain ⟨t, rfl, b, hQ⟩ := hF
    obtain rfl : qs = [] := List.length_eq_zero_iff.mp hq
    refine ⟨_, (pss_cons (ps_for PassesOwn.never rfl (pi_listK (K0 := K) (pe_f h__law_conjuncts (hr.mono (by omega)) rfl (pa_cons (pv 0) pa_nil))) (pg_name (i := 1) nd rfl (Or.inl rfl)) (pss_one (ps_if (PW.pt (pw_or (pt_cmpR op_eq (pe_ix (r := rIxT K) ix_tup (pv 1) pe_int (fun _ _ => rfl)) pe_str (nomark _)) (pw_or1 (PW.pt (pw_and (pt_cmpR op_eq (pe_ix (r := rIxT K) ix_tup (pv 1) pe_int (fun _ _ => rfl)) pe_str (nomark _)) (pw_and1 (pt_val (pe_f h__law_void (hr.mono (by omega)) rfl (pa_cons (pe_ix (r := rIxT K) ix_tup (pv 1) pe_int (fun _ _ => rfl)) pa_nil))))))))) (pss_one (ps_ret pe_bl)) pss_nil)))
    (pss_one (ps_ret pe_bl))), ?_⟩
    show Ss K T _ [.val _, .no] _
    refine go_seq (go_forL (t.raw.map Tm.d) (fun k δ => (t.raw.take k).any Tm.void = false ∧ ∃ s, δ = [.val t.d, s]) ?_ ?_ ?_)
    · k_search "go"
      refine cv [.val _] ⟨rfl, trivial⟩ ⟨t, rfl, b.mono hh, rimL tm_imm, rfl, rfl, _, rfl⟩
    · rintro k d δ2 hk ⟨hv, s, rfl⟩
      obtain ⟨u, hu, rfl⟩ := map_at hk
      have m := List.mem_of_getElem? hu
      have bu := b.raw m
      have ha := Tm.raw_atom t u m
      k_search "nrm"
      cases u with
      | top => cases ha
      | and us => cases ha
      | bot =>
        k_search "go"
        have e : t.void = true := by rw [Tm.void_raw]; exact any_in hu rfl
        rw [e] at hQ
        exact hQ
      | name x =>
        k_search "go"
        exact ⟨by rw [any_take hu, hv]; rfl, _, rfl⟩
      | some r v =>
        k_search "go"
        refine cv [.val _] ⟨rfl, trivial⟩ ⟨v, rfl, bu.some, rim rfl, ?_⟩
        refine ⟨_, rfl, ?_⟩
        refine iteB (fun e => ?_) fun e => ?_
        · k_search "go"
          have e : t.void = true := by rw [Tm.void_raw]; exact any_in hu e
          rw [e] at hQ
          exact hQ
        · k_search "go"
          exact ⟨by rw [any_take hu, hv]; exact e, _, rfl⟩
    · rintro δ2 ⟨hv, s, rfl⟩
      k_search "go"
      rw [List.length_map, List.take_length, ← Tm.void_raw] at hv
      rw [hv] at hQ
      exact hQ
noncomputable def lmt (r : Str) (v : Tm) : Tm → Bool := fun a => match a with
  | .some r' t' => decide (r' = r) && t'.under v
  | _ => false
theorem lmt_eq {r : Str} {v : Tm} {us : List Tm} (h : ∀ u ∈ us, u.void = false) : us.any (lmt r v) = (Tm.some r v).meets us := by
  rw [some_mtc]
  induction us with
  | nil => rfl
  | cons u us ih =>
    rw [List.any_cons, List.any_cons, ih fun x hx => h x (List.mem_cons_of_mem _ hx)]
    congr 1
    have hu := h u List.mem_cons_self
    cases u with
    | some q t =>
      have hu : t.void = false := hu
      show (decide (q = r) && t.under v) = (decide (q = r) && v.meets t.raw)
      rw [Tm.under, hu]
      rfl
    | _ => rfl
def F_lmet (h : Nat) : FS := fun as Q => ∃ (r : Str) (v : Tm) (us : List Tm), as = [.val (Tm.some r v).d, .val (.list (us.map Tm.d))] ∧ Tb h (.some r v) ∧ (∀ u ∈ us, Tb h u ∧ u.atom = true) ∧ Q (.val (.bool (us.any (lmt r v)))) []
theorem raw_nv {t : Tm} (h : t.void = false) : ∀ u ∈ t.raw, u.void = false := fun u m => by
  cases e : u.void with
  | false => rfl
  | true =>
    rw [Tm.void_raw] at h
    rw [List.any_eq_true.mpr ⟨u, m, e⟩] at h
    cases h
theorem ok_lunder (c : Al K mg base ds fr ts cs) (H0 n1 : Nat) (h__law_conjuncts : Ok P w K mg base (H0 + 1) "_law_conjuncts" ["term"] (spOf K T (F_raw H0))) (h__law_void : Ok P w K mg base n1 "_law_void" ["term"] (spOf K T (F_void H0))) : ∀ h : Nat, h ≤ H0 →
    Ok P w K mg base (max (H0 + 1) n1 + 2 * h + 1) "_law_met" ["want", "have"] (spOf K T (F_lmet h)) ∧ Ok P w K mg base (max (H0 + 1) n1 + 2 * h + 1 + 1) "_law_under" ["one", "other"] (spOf K T (F_below h))
  | 0, _ => by
    refine ⟨?_, ?_⟩
    next =>
      have nd := sc__law_met.nd
      have kTOP := c.cs _ (.head _)
      have kBOTTOM := c.cs _ (.tail _ (.head _))
      have kRESERVED := c.cs _ (.tail _ (.tail _ (.tail _ (.tail _ (.tail _ (.head _))))))
      refine ok_of c (.tail _ (.tail _ (.tail _ (.tail _ (.tail _ (.tail _ (.tail _ (.tail _ (.tail _ (.tail _ (.tail _ (.tail _ (.tail _ (.tail _ (.tail _ (.tail _ (.tail _ (.tail _ (.tail _ (.tail _ (.tail _ (.tail _ (.tail _ (.tail _ (.tail _ (.tail _ (.tail _ (.tail _ (.tail _ (.tail _ (.tail _ (.tail _ (.tail _ (.tail _ (.tail _ (.tail _ (.tail _ (.tail _ (.head _))))))))))))))))))))))))))))))))))))))) (fun _ _ _ _ _ _ us hl => match us, hl with | [_, _], _ => rfl) sc__law_met (fun as Q h => by first | (obtain ⟨_, rfl, _⟩ := h; rfl) | (obtain ⟨_, _, rfl, _⟩ := h; rfl) | (obtain ⟨_, _, _, rfl, _⟩ := h; rfl) | (obtain ⟨_, _, _, _, rfl, _⟩ := h; rfl) | (obtain ⟨_, _, _, _, _, rfl, _⟩ := h; rfl) | (obtain ⟨_, _, _, _, _, _, rfl, _⟩ := h; rfl) | (obtain ⟨_, _, _, _, _, _, _, rfl, _⟩ := h; rfl) | (obtain ⟨_, _, _, _, _, _, _, _, rfl, _⟩ := h; rfl) | (obtain ⟨_, _, _, _, _, _, _, _, _, rfl, _⟩ := h; rfl) | (obtain ⟨rfl, _⟩ := h; rfl)) fun f cdv A outer s H E hr as Q qs hF hq => ?_
      obtain ⟨r, v, us, rfl, b, _⟩ := hF
      exact b.no.elim
    next =>
      have nd := sc__law_under.nd
      have kTOP := c.cs _ (.head _)
      have kBOTTOM := c.cs _ (.tail _ (.head _))
      have kRESERVED := c.cs _ (.tail _ (.tail _ (.tail _ (.tail _ (.tail _ (.head _))))))
      refine ok_of c (.tail _ (.tail _ (.tail _ (.tail _ (.tail _ (.tail _ (.tail _ (.tail _ (.tail _ (.tail _ (.tail _ (.tail _ (.tail _ (.tail _ (.tail _ (.tail _ (.tail _ (.tail _ (.tail _ (.tail _ (.tail _ (.tail _ (.tail _ (.tail _ (.tail _ (.tail _ (.tail _ (.tail _ (.tail _ (.tail _ (.tail _ (.tail _ (.tail _ (.tail _ (.tail _ (.tail _ (.tail _ (.tail _ (.tail _ (.head _)))))))))))))))))))))))))))))))))))))))) (fun _ _ _ _ _ _ us hl => match us, hl with | [_, _], _ => rfl) sc__law_under (fun as Q h => by first | (obtain ⟨_, rfl, _⟩ := h; rfl) | (obtain ⟨_, _, rfl, _⟩ := h; rfl) | (obtain ⟨_, _, _, rfl, _⟩ := h; rfl) | (obtain ⟨_, _, _, _, rfl, _⟩ := h; rfl) | (obtain ⟨_, _, _, _, _, rfl, _⟩ := h; rfl) | (obtain ⟨_, _, _, _, _, _, rfl, _⟩ := h; rfl) | (obtain ⟨_, _, _, _, _, _, _, rfl, _⟩ := h; rfl) | (obtain ⟨_, _, _, _, _, _, _, _, rfl, _⟩ := h; rfl) | (obtain ⟨_, _, _, _, _, _, _, _, _, rfl, _⟩ := h; rfl) | (obtain ⟨rfl, _⟩ := h; rfl)) fun f cdv A outer s H E hr as Q qs hF hq => ?_
      obtain ⟨t, u, rfl, b, _⟩ := hF
      exact b.no.elim
  | h + 1, hh => by
    have h__law_under := (ok_lunder c H0 n1 h__law_conjuncts h__law_void h (by omega)).2
    have h__law_met : Ok P w K mg base (max (H0 + 1) n1 + 2 * (h + 1) + 1) "_law_met" ["want", "have"] (spOf K T (F_lmet (h + 1))) := by
      have nd := sc__law_met.nd
      have kTOP := c.cs _ (.head _)
      have kBOTTOM := c.cs _ (.tail _ (.head _))
      have kRESERVED := c.cs _ (.tail _ (.tail _ (.tail _ (.tail _ (.tail _ (.head _))))))
      refine ok_of c (.tail _ (.tail _ (.tail _ (.tail _ (.tail _ (.tail _ (.tail _ (.tail _ (.tail _ (.tail _ (.tail _ (.tail _ (.tail _ (.tail _ (.tail _ (.tail _ (.tail _ (.tail _ (.tail _ (.tail _ (.tail _ (.tail _ (.tail _ (.tail _ (.tail _ (.tail _ (.tail _ (.tail _ (.tail _ (.tail _ (.tail _ (.tail _ (.tail _ (.tail _ (.tail _ (.tail _ (.tail _ (.tail _ (.head _))))))))))))))))))))))))))))))))))))))) (fun _ _ _ _ _ _ us hl => match us, hl with | [_, _], _ => rfl) sc__law_met (fun as Q h => by first | (obtain ⟨_, rfl, _⟩ := h; rfl) | (obtain ⟨_, _, rfl, _⟩ := h; rfl) | (obtain ⟨_, _, _, rfl, _⟩ := h; rfl) | (obtain ⟨_, _, _, _, rfl, _⟩ := h; rfl) | (obtain ⟨_, _, _, _, _, rfl, _⟩ := h; rfl) | (obtain ⟨_, _, _, _, _, _, rfl, _⟩ := h; rfl) | (obtain ⟨_, _, _, _, _, _, _, rfl, _⟩ := h; rfl) | (obtain ⟨_, _, _, _, _, _, _, _, rfl, _⟩ := h; rfl) | (obtain ⟨_, _, _, _, _, _, _, _, _, rfl, _⟩ := h; rfl) | (obtain ⟨rfl, _⟩ := h; rfl)) fun f cdv A outer s H E hr as Q qs hF hq => ?_
      obtain ⟨r, v, us, rfl, b, hu, hQ⟩ := hF
      obtain rfl : qs = [] := List.length_eq_zero_iff.mp hq
      refine ⟨_, (pss_cons (ps_for PassesOwn.never rfl (pi_listK (K0 := K) (pv 1)) (pg_name (i := 2) nd rfl (Or.inl rfl)) (pss_one (ps_if (PW.pt (pw_and (pt_cmpR op_eq (pe_ix (r := rIxT K) ix_tup (pv 2) pe_int (fun _ _ => rfl)) pe_str (nomark _)) (pw_and (pt_cmpR (r := rEqD K) (op_eqD hr.units) (pe_ix (r := rIxT K) ix_tup (pv 2) pe_int (fun _ _ => rfl)) (pe_ix (r := rIxT K) ix_tup (pv 0) pe_int (fun _ _ => rfl)) (nomark _)) (pw_and1 (pt_val (pe_f h__law_under (hr.mono (by omega)) rfl (pa_cons (pe_ix (r := rIxT K) ix_tup (pv 2) pe_int (fun _ _ => rfl)) (pa_cons (pe_ix (r := rIxT K) ix_tup (pv 0) pe_int (fun _ _ => rfl)) pa_nil)))))))) (pss_one (ps_ret pe_bl)) pss_nil)))
    (pss_one (ps_ret pe_bl))), ?_⟩
      show Ss K T _ [.val _, .val _, .no] _
      k_search "go"
      refine go_forL (us.map Tm.d) (fun k δ => (us.take k).any (lmt r v) = false ∧ ∃ s, δ = [.val (Tm.some r v).d, .val (.list (us.map Tm.d)), s]) ?_ ?_ ?_
      · k_search "go"
        exact ⟨rfl, rfl, _, rfl⟩
      · rintro k d δ2 hk ⟨hv, s, rfl⟩
        obtain ⟨u, hu1, rfl⟩ := map_at hk
        have m := List.mem_of_getElem? hu1
        obtain ⟨bu, hau⟩ := hu u m
        k_search "nrm"
        cases u with
        | top => cases hau
        | and us => cases hau
        | bot =>
          k_search "go"
          exact ⟨by rw [any_take hu1, hv]; rfl, _, rfl⟩
        | name x =>
          k_search "go"
          exact ⟨by rw [any_take hu1, hv]; rfl, _, rfl⟩
        | some q u =>
          k_search "go"
          refine opd_eqW bu.W b.W ?_
          refine ⟨_, rfl, iteD (fun e => ?_) fun e => ?_⟩
          · k_search "go"
            refine cv [.val _, .val _] ⟨rfl, rfl, trivial⟩ ⟨u, v, rfl, bu.some, b.some, rim rfl, ?_⟩
            refine ⟨_, rfl, iteB (fun e2 => ?_) fun e2 => ?_⟩
            · k_search "go"
              have e3 : us.any (lmt r v) = true := any_in hu1 (by simp [lmt, e, e2])
              rw [e3] at hQ
              exact hQ
            · k_search "go"
              exact ⟨by rw [any_take hu1, hv]; simp [lmt, e2], _, rfl⟩
          · k_search "go"
            exact ⟨by rw [any_take hu1, hv]; simp [lmt, e], _, rfl⟩
      · rintro δ2 ⟨hv, s, rfl⟩
        k_search "go"
        rw [List.length_map, List.take_length] at hv
        rw [hv] at hQ
        exact hQ
    refine ⟨h__law_met, ?_⟩
    have nd := sc__law_under.nd
    have kTOP := c.cs _ (.head _)
    have kBOTTOM := c.cs _ (.tail _ (.head _))
    have kRESERVED := c.cs _ (.tail _ (.tail _ (.tail _ (.tail _ (.tail _ (.head _))))))
    refine ok_of c (.tail _ (.tail _ (.tail _ (.tail _ (.tail _ (.tail _ (.tail _ (.tail _ (.tail _ (.tail _ (.tail _ (.tail _ (.tail _ (.tail _ (.tail _ (.tail _ (.tail _ (.tail _ (.tail _ (.tail _ (.tail _ (.tail _ (.tail _ (.tail _ (.tail _ (.tail _ (.tail _ (.tail _ (.tail _ (.tail _ (.tail _ (.tail _ (.tail _ (.tail _ (.tail _ (.tail _ (.tail _ (.tail _ (.tail _ (.head _)))))))))))))))))))))))))))))))))))))))) (fun _ _ _ _ _ _ us hl => match us, hl with | [_, _], _ => rfl) sc__law_under (fun as Q h => by first | (obtain ⟨_, rfl, _⟩ := h; rfl) | (obtain ⟨_, _, rfl, _⟩ := h; rfl) | (obtain ⟨_, _, _, rfl, _⟩ := h; rfl) | (obtain ⟨_, _, _, _, rfl, _⟩ := h; rfl) | (obtain ⟨_, _, _, _, _, rfl, _⟩ := h; rfl) | (obtain ⟨_, _, _, _, _, _, rfl, _⟩ := h; rfl) | (obtain ⟨_, _, _, _, _, _, _, rfl, _⟩ := h; rfl) | (obtain ⟨_, _, _, _, _, _, _, _, rfl, _⟩ := h; rfl) | (obtain ⟨_, _, _, _, _, _, _, _, _, rfl, _⟩ := h; rfl) | (obtain ⟨rfl, _⟩ := h; rfl)) fun f cdv A outer s H E hr as Q qs hF hq => ?_
    obtain ⟨t, u, rfl, b, b2, hQ⟩ := hF
    obtain rfl : qs = [] := List.length_eq_zero_iff.mp hq
    refine ⟨_, (pss_cons (ps_if (pt_val (pe_f h__law_void (hr.mono (by omega)) rfl (pa_cons (pv 0) pa_nil))) (pss_one (ps_ret pe_bl)) pss_nil)
    (pss_cons (ps_set (i := 2) nd rfl (Or.inl rfl) (pe_f h__law_conjuncts (hr.mono (by omega)) rfl (pa_cons (pv 0) pa_nil)))
    (pss_cons (ps_for PassesOwn.never rfl (pi_listK (K0 := K) (pe_f h__law_conjuncts (hr.mono (by omega)) rfl (pa_cons (pv 1) pa_nil))) (pg_name (i := 3) nd rfl (Or.inl rfl)) (pss_cons (ps_if (PW.pt (pw_or (pt_cmpR op_eq (pe_ix (r := rIxT K) ix_tup (pv 3) pe_int (fun _ _ => rfl)) pe_str (nomark _)) (pw_or1 (PW.pt (pw_and (pt_cmpR op_eq (pe_ix (r := rIxT K) ix_tup (pv 3) pe_int (fun _ _ => rfl)) pe_str (nomark _)) (pw_and1 (pt_cmpR (r := rNotInD K) (op_notInD (Nat.lt_of_le_of_lt (Nat.add_le_add (Nat.le_add_right _ _) (by decide)) hr.un)) (pv 3) (pv 2) rfl))))))) (pss_one (ps_ret pe_bl)) pss_nil)
    (pss_one (ps_if (PW.pt (pw_and (pt_cmpR op_eq (pe_ix (r := rIxT K) ix_tup (pv 3) pe_int (fun _ _ => rfl)) pe_str (nomark _)) (pw_and1 (pt_not (pt_val (pe_f h__law_met (hr.mono (by omega)) rfl (pa_cons (pv 3) (pa_cons (pv 2) pa_nil)))))))) (pss_one (ps_ret pe_bl)) pss_nil))))
    (pss_one (ps_ret pe_bl))))), ?_⟩
    show Ss K T _ [.val _, .val _, .no, .no] _
    k_search "go"
    refine cv [.val _] ⟨rfl, trivial⟩ ⟨t, rfl, b.mono hh, rim rfl, ?_⟩
    refine ⟨_, rfl, iteB (fun e => ?_) fun e => ?_⟩
    · k_search "go"
      have e3 : t.under u = true := by simp [Tm.under, e]
      rw [e3] at hQ
      exact hQ
    have eu : t.under u = u.meets t.raw := by simp [Tm.under, e]
    rw [eu] at hQ
    k_search "go"
    refine cv [.val _] ⟨rfl, trivial⟩ ⟨t, rfl, b.mono hh, rimL tm_imm, ?_⟩
    k_search "go"
    refine go_forL (u.raw.map Tm.d) (fun k δ => (u.raw.take k).all (fun x => x.meets t.raw) = true ∧ ∃ a s, δ = [.val t.d, .val u.d, .own a (.lst (t.raw.map Tm.d)), s]) ?_ ?_ ?_
    · k_search "go"
      refine cv [.val _] ⟨rfl, trivial⟩ ⟨u, rfl, b2.mono hh, rimL tm_imm, rfl, rfl, _, _, rfl⟩
    · rintro k d δ2 hk ⟨hv, a, s, rfl⟩
      obtain ⟨x, hx, rfl⟩ := map_at hk
      have m := List.mem_of_getElem? hx
      have ha := Tm.raw_atom u x m
      have bx := b2.raw m
      have bad : x.meets t.raw = false → Q (.val (.bool false)) [] := fun z => by
        have e2 : u.meets t.raw = false := by rw [Tm.meets_raw]; exact all_in hx z
        rw [e2] at hQ
        exact hQ
      have good : x.meets t.raw = true → (u.raw.take (k + 1)).all (fun x => x.meets t.raw) = true := fun z => by rw [all_take hx, hv, z]; rfl
      k_search "nrm"
      cases x with
      | top => cases ha
      | and us => cases ha
      | bot =>
        k_search "go"
        exact bad rfl
      | name x =>
        k_search "go"
        refine ⟨_, _, rfl, ⟨_, _, rfl, rfl⟩, opd_niTm bx.shaped (shaped_tb fun y hy => b.raw hy) ?_⟩
        refine ⟨_, rfl, ?_⟩
        have e : (Tm.name x).meets t.raw = decide (Tm.name x ∈ t.raw) := by
          rw [Bool.eq_iff_iff, name_met, decide_eq_true_eq]
        rw [e] at bad good
        refine iteN (fun z => ?_) fun z => ?_
        · k_search "go"
          exact bad (decide_eq_false z)
        · k_search "go"
          exact ⟨good (decide_eq_true z), _, _, rfl⟩
      | some r v =>
        k_search "go"
        refine cv [.val _, .val _] ⟨rfl, ⟨_, _, rfl, rfl⟩, by decide, trivial⟩ ⟨r, v, t.raw, rfl, bx, fun y hy => ⟨b.raw hy, Tm.raw_atom t y hy⟩, rim rfl, ?_⟩
        rw [lmt_eq (raw_nv e)]
        refine ⟨_, rfl, ?_⟩
        cases z : (Tm.some r v).meets t.raw with
        | true =>
          k_search "go"
          exact ⟨good z, _, _, rfl⟩
        | false =>
          k_search "go"
          exact bad z
    · rintro δ2 ⟨hv, a, s, rfl⟩
      k_search "go"
      rw [List.length_map, List.take_length, ← Tm.meets_raw] at hv
      rw [hv] at hQ
      exact hQ
set_option Elab.async false
set_option linter.all false
set_option maxRecDepth 100000
set_option maxHeartbeats 4000001
open PySem L2 LamX NdefX PyProof.Rows GenW Pl
variable {P : Program} {w : World} {K : PySem.W.Frag} {mg : Str → Option Value} {base : Heap} {T : List NTab} {ts : List Str}
theorem ok_lwritten (c : Al K mg base ds fr ts cs) : ∀ h : Nat, Ok P w K mg base (h + 1) "_law_written" ["term"] (spOf K T (F_write h))
  | 0 => by
    have nd := sc__law_written.nd
    have kTOP := c.cs _ (.head _)
    have kBOTTOM := c.cs _ (.tail _ (.head _))
    have kRESERVED := c.cs _ (.tail _ (.tail _ (.tail _ (.tail _ (.tail _ (.head _))))))
    refine ok_of c (.tail _ (.tail _ (.tail _ (.tail _ (.tail _ (.tail _ (.tail _ (.tail _ (.tail _ (.tail _ (.tail _ (.tail _ (.tail _ (.tail _ (.tail _ (.tail _ (.tail _ (.tail _ (.tail _ (.tail _ (.tail _ (.tail _ (.tail _ (.tail _ (.tail _ (.tail _ (.tail _ (.tail _ (.tail _ (.tail _ (.tail _ (.tail _ (.tail _ (.tail _ (.tail _ (.tail _ (.tail _ (.tail _ (.tail _ (.tail _ (.head _))))))))))))))))))))))))))))))))))))))))) (fun _ _ _ _ _ _ us hl => match us, hl with | [_], _ => rfl) sc__law_written (fun as Q h => by first | (obtain ⟨_, rfl, _⟩ := h; rfl) | (obtain ⟨_, _, rfl, _⟩ := h; rfl) | (obtain ⟨_, _, _, rfl, _⟩ := h; rfl) | (obtain ⟨_, _, _, _, rfl, _⟩ := h; rfl) | (obtain ⟨_, _, _, _, _, rfl, _⟩ := h; rfl) | (obtain ⟨_, _, _, _, _, _, rfl, _⟩ := h; rfl) | (obtain ⟨_, _, _, _, _, _, _, rfl, _⟩ := h; rfl) | (obtain ⟨_, _, _, _, _, _, _, _, rfl, _⟩ := h; rfl) | (obtain ⟨_, _, _, _, _, _, _, _, _, rfl, _⟩ := h; rfl) | (obtain ⟨rfl, _⟩ := h; rfl)) fun f cdv A outer s H E hr as Q qs hF hq => ?_
    obtain ⟨t, rfl, b, _⟩ := hF
    exact b.no.elim
  | h + 1 => by
    have h__law_written := ok_lwritten c h
    have nd := sc__law_written.nd
    have kTOP := c.cs _ (.head _)
    have kBOTTOM := c.cs _ (.tail _ (.head _))
    have kRESERVED := c.cs _ (.tail _ (.tail _ (.tail _ (.tail _ (.tail _ (.head _))))))
    refine ok_of c (.tail _ (.tail _ (.tail _ (.tail _ (.tail _ (.tail _ (.tail _ (.tail _ (.tail _ (.tail _ (.tail _ (.tail _ (.tail _ (.tail _ (.tail _ (.tail _ (.tail _ (.tail _ (.tail _ (.tail _ (.tail _ (.tail _ (.tail _ (.tail _ (.tail _ (.tail _ (.tail _ (.tail _ (.tail _ (.tail _ (.tail _ (.tail _ (.tail _ (.tail _ (.tail _ (.tail _ (.tail _ (.tail _ (.tail _ (.tail _ (.head _))))))))))))))))))))))))))))))))))))))))) (fun _ _ _ _ _ _ us hl => match us, hl with | [_], _ => rfl) sc__law_written (fun as Q h => by first | (obtain ⟨_, rfl, _⟩ := h; rfl) | (obtain ⟨_, _, rfl, _⟩ := h; rfl) | (obtain ⟨_, _, _, rfl, _⟩ := h; rfl) | (obtain ⟨_, _, _, _, rfl, _⟩ := h; rfl) | (obtain ⟨_, _, _, _, _, rfl, _⟩ := h; rfl) | (obtain ⟨_, _, _, _, _, _, rfl, _⟩ := h; rfl) | (obtain ⟨_, _, _, _, _, _, _, rfl, _⟩ := h; rfl) | (obtain ⟨_, _, _, _, _, _, _, _, rfl, _⟩ := h; rfl) | (obtain ⟨_, _, _, _, _, _, _, _, _, rfl, _⟩ := h; rfl) | (obtain ⟨rfl, _⟩ := h; rfl)) fun f cdv A outer s H E hr as Q qs hF hq => ?_
    obtain ⟨t, rfl, b, hQ⟩ := hF
    obtain rfl : qs = [] := List.length_eq_zero_iff.mp hq
    refine ⟨_, (pss_cons (ps_if (PW.pt (pw_or (pt_cmpR op_eq (pe_ix (r := rIxT K) ix_tup (pv 0) pe_int (fun _ _ => rfl)) pe_str (nomark _)) (pw_or1 (pt_cmpR op_eq (pe_ix (r := rIxT K) ix_tup (pv 0) pe_int (fun _ _ => rfl)) pe_str (nomark _))))) (pss_one (ps_ret (pe_ix (r := rIxT K) ix_tup (pv 0) pe_int (fun _ _ => rfl)))) pss_nil)
    (pss_cons (ps_if (pt_cmpR op_eq (pe_ix (r := rIxT K) ix_tup (pv 0) pe_int (fun _ _ => rfl)) pe_str (nomark _)) (pss_one (ps_ret (pe_ix (r := rIxT K) ix_tup (pv 0) pe_int (fun _ _ => rfl)))) pss_nil)
    (pss_cons (ps_if (pt_cmpR op_eq (pe_ix (r := rIxT K) ix_tup (pv 0) pe_int (fun _ _ => rfl)) pe_str (nomark _)) (pss_one (ps_ret (pe_joinK (K0 := K) pe_str (pe_lc (own := [("part", 2)]) (g := gName 2) (tt := tYes) rfl nd (pi_tupK (K0 := K) (pe_ix (r := rIxT K) ix_tup (pv 0) pe_int (fun _ _ => rfl))) (blkOk_by (N := ["term", "inner", "part"]) (sc := defScope (top 53)) (by first | decide +kernel | rfl)) (fun _ _ _ _ _ => pg_name (i := 2) nd rfl (by first | exact Or.inl rfl | exact Or.inr rfl)) (fun _ _ _ _ _ => pts_nil) (fun _ _ _ _ _ => (pe_f h__law_written (hr.mono (by omega)) rfl (pa_cons (pv 2) pa_nil))))))) pss_nil)
    (pss_cons (ps_set (i := 1) nd rfl (Or.inl rfl) (pe_f h__law_written (hr.mono (by omega)) rfl (pa_cons (pe_ix (r := rIxT K) ix_tup (pv 0) pe_int (fun _ _ => rfl)) pa_nil)))
    (pss_cons (ps_if (pt_cmpR op_eq (pe_ix (r := rIxT K) ix_tup (pe_ix (r := rIxT K) ix_tup (pv 0) pe_int (fun _ _ => rfl)) pe_int (fun _ _ => rfl)) pe_str (nomark _)) (pss_one (ps_set (i := 1) nd rfl (Or.inl rfl) (pe_op op_add_str (pe_op op_add_str pe_str (pv 1)) pe_str))) pss_nil)
    (pss_one (ps_ret (pe_op op_add_str (pe_op op_add_str (pe_op op_add_str pe_str (pe_ix (r := rIxT K) ix_tup (pv 0) pe_int (fun _ _ => rfl))) pe_str) (pv 1))))))))), ?_⟩
    show Ss K T _ [.val _, .no, .no] _
    cases t with
    | top =>
      k_search "go"
      exact hQ
    | bot =>
      k_search "go"
      exact hQ
    | name x =>
      k_search "go"
      have e : (Tm.name x).wr = x := str_ext (by rw [tl_wr]; rfl)
      rw [e] at hQ
      exact hQ
    | some r t =>
      k_search "go"
      refine cv [.val _] ⟨rfl, trivial⟩ ⟨t, rfl, b.some, rim rfl, ?_⟩
      have hl := b.some.wlen
      have hr12 := b.W.hi
      have fin : ∀ (x : Str), x.cps.toList = t.wlI → (Str.empty ++ "some " ++ r ++ " " ++ x : Str) = (Tm.some r t).wr := fun x hx => str_ext (by
        rw [tl_app, tl_app, tl_app, tl_app, tl_wr, hx, Tm.wl]
        show ((([] ++ [115, 111, 109, 101, 32]) ++ r.cps.toList) ++ [32]) ++ t.wlI = _
        simp [cSome, Tm.wlI])
      have fin2 : ∀ (x : Str), x.cps.toList = t.wlI → ("some " ++ r ++ " " ++ x : Str) = (Tm.some r t).wr := fun x hx => str_ext (by
        rw [tl_app, tl_app, tl_app, tl_wr, hx, Tm.wl]
        show (([115, 111, 109, 101, 32] ++ r.cps.toList) ++ [32]) ++ t.wlI = _
        simp [cSome, Tm.wlI])
      have z1 : ("some " : Str).cps.toList.length = 5 := by decide +kernel
      have z2 : (" " : Str).cps.toList.length = 1 := by decide +kernel
      have z3 : ("(" : Str).cps.toList.length = 1 := by decide +kernel
      have z4 : (")" : Str).cps.toList.length = 1 := by decide +kernel
      cases t with
      | and us =>
        k_search "go"
        rw [← fin2 _ (show ("(" ++ (Tm.and us).wr ++ ")" : Str).cps.toList = _ by
          rw [tl_app, tl_app, tl_wr]
          show ([40] ++ (Tm.and us).wl) ++ [41] = _
          simp [Tm.wlI, Tm.isAnd])] at hQ
        exact hQ
      | _ =>
        k_search "go"
        rw [← fin2 _ (show _ from by rw [tl_wr]; rfl)] at hQ
        exact hQ
    | and us =>
      have gl : Tm.goodL us := b.good
      have hc : Tm.cntL us + 1 ≤ 1000 := b.cnt
      have e1 := sum_wr gl
      have e2 := b.len
      k_search "go"
      refine ex_mapT2 ?_
      k_search "go"
      refine ⟨Tm.dL us, us.map (fun t => .str t.wr), rfl, rfl, by rw [Tm.dL_map, List.length_map]; omega, by rw [Tm.dL_map, List.length_map, List.length_map], fun k d e hd he => ?_, us.map Tm.wr, ?_, ?_, ?_⟩
      · rw [Tm.dL_map] at hd
        obtain ⟨t, ht, rfl⟩ := map_at hd
        rw [List.getElem?_map, ht] at he
        cases he
        k_search "nrm"
        k_search "go"
        exact cv [.val _] ⟨rfl, trivial⟩ ⟨t, rfl, b.and (List.mem_of_getElem? ht), rim rfl, rfl, rfl⟩
      · simp [AsD]
      · have z : (" and " : Str).length = 5 := by decide +kernel
        rw [z, List.length_map]
        omega
      · k_search "go"
        have e : (Tm.and us).wr = Txt.join " and " (us.map Tm.wr) := str_ext (by
          rw [tl_wr, Tm.wl, join_tl _ us (by decide +kernel)])
        rw [e] at hQ
        exact hQ
set_option Elab.async false
set_option linter.all false
set_option maxRecDepth 100000
set_option maxHeartbeats 4000001
open PySem L2 LamX NdefX PyProof.Rows GenW Pl
variable {P : Program} {w : World} {K : PySem.W.Frag} {mg : Str → Option Value} {base : Heap} {T : List NTab} {ts : List Str}
/-- a word, for any text -/
def wB (x : Str) : Bool := decide (1 ≤ x.length) && (decide (x.length ≤ 12) && (!decide (x ∈ reserved) && ((match x.cps[0]? with | some c => decide (c ∈ letters.cps.toList) | none => false) && x.cps.toList.all fun c => decide (c ∈ Pl.signs.cps.toList))))
def wordB : D → Bool
  | .str x => wB x
  | _ => false
/-- short texts -/
def shortD : D → Prop
  | .str x => x.length ≤ 100000
  | _ => True
/-- the shape of a word -/
structure WS (x : Str) : Prop where
  lo : 1 ≤ x.length
  hi : x.length ≤ 12
  first : ∃ c, x.cps[0]? = some c ∧ c ∈ letters.cps.toList
  all : ∀ c ∈ x.cps.toList, c ∈ Pl.signs.cps.toList
theorem WS.toW {x : Str} (h : WS x) (f : x ∉ reserved) : W x := ⟨h.lo, h.hi, f, h.first, h.all⟩
theorem WS.wB {x : Str} (h : WS x) : wB x = !decide (x ∈ reserved) := by
  obtain ⟨c, h1, h2⟩ := h.first
  have ha : (x.cps.toList.all fun c => decide (c ∈ Pl.signs.cps.toList)) = true := List.all_eq_true.mpr fun c hc => decide_eq_true (h.all c hc)
  unfold K00.wB
  rw [decide_eq_true h.lo, decide_eq_true h.hi, h1, ha]
  simp only [decide_eq_true h2, Bool.true_and, Bool.and_true]
theorem wB_W {x : Str} : wB x = true ↔ W x := by
  constructor
  · intro h
    unfold wB at h
    simp only [Bool.and_eq_true, decide_eq_true_eq, Bool.not_eq_true', decide_eq_false_iff_not, List.all_eq_true] at h
    obtain ⟨h1, h2, h3, h4, h5⟩ := h
    refine ⟨h1, h2, h3, ?_, h5⟩
    cases e : x.cps[0]? with
    | none => rw [e] at h4; cases h4
    | some c => rw [e] at h4; exact ⟨c, rfl, of_decide_eq_true h4⟩
  · intro h
    have s : WS x := ⟨h.lo, h.hi, h.first, h.all⟩
    rw [s.wB, decide_eq_false h.free]
    rfl
def F_reserved : FS := fun as Q => as = [] ∧ Q (.new (.lst (reserved.map .str))) []
def F_isw : FS := fun as Q => ∃ d : D, as = [.val d] ∧ shortD d ∧ Q (.val (.bool (wordB d))) []
theorem atS0 {x : Str} {c : Nat} (h : x.cps[0]? = some c) : atI x.cps.toList 0 = some c := by
  have e : x.cps.toList[0]? = some c := by rw [Array.getElem?_toList]; exact h
  exact atI_nat (j := 0) e
theorem ok_lreserved (c : Al K mg base ds fr ts cs) : Ok P w K mg base 1 "_law_reserved" [] (spOf K T F_reserved) := by
  have nd := sc__law_reserved.nd
  have kTOP := c.cs _ (.head _)
  have kBOTTOM := c.cs _ (.tail _ (.head _))
  have kRESERVED := c.cs _ (.tail _ (.tail _ (.tail _ (.tail _ (.tail _ (.head _))))))
  refine ok_of c (.tail _ (.tail _ (.tail _ (.tail _ (.tail _ (.tail _ (.tail _ (.tail _ (.tail _ (.tail _ (.tail _ (.tail _ (.tail _ (.tail _ (.tail _ (.tail _ (.tail _ (.tail _ (.tail _ (.tail _ (.tail _ (.tail _ (.tail _ (.tail _ (.tail _ (.tail _ (.head _))))))))))))))))))))))))))) (fun _ _ _ _ _ _ us hl => match us, hl with | [], _ => rfl) sc__law_reserved (fun as Q h => by first | (obtain ⟨_, rfl, _⟩ := h; rfl) | (obtain ⟨_, _, rfl, _⟩ := h; rfl) | (obtain ⟨_, _, _, rfl, _⟩ := h; rfl) | (obtain ⟨_, _, _, _, rfl, _⟩ := h; rfl) | (obtain ⟨_, _, _, _, _, rfl, _⟩ := h; rfl) | (obtain ⟨_, _, _, _, _, _, rfl, _⟩ := h; rfl) | (obtain ⟨_, _, _, _, _, _, _, rfl, _⟩ := h; rfl) | (obtain ⟨_, _, _, _, _, _, _, _, rfl, _⟩ := h; rfl) | (obtain ⟨_, _, _, _, _, _, _, _, _, rfl, _⟩ := h; rfl) | (obtain ⟨rfl, _⟩ := h; rfl)) fun f cdv A outer s H E hr as Q qs hF hq => ?_
  obtain ⟨rfl, hQ⟩ := hF
  obtain rfl : qs = [] := List.length_eq_zero_iff.mp hq
  refine ⟨_, (pss_cons (ps_set (i := 0) nd rfl (Or.inl rfl) (pe_lst (pa_cons pe_str (pa_cons pe_str (pa_cons pe_str (pa_cons pe_str (pa_cons pe_str (pa_cons pe_str (pa_cons pe_str (pa_cons pe_str (pa_cons pe_str (pa_cons pe_str (pa_cons pe_str (pa_cons pe_str pa_nil))))))))))))))
    (pss_one (ps_ret (pe_op (r := rCatS K) op_catS (pv 0) (pe_lst (pa_cons pe_str (pa_cons pe_str pa_nil))))))), ?_⟩
  show Ss K T _ [.no] _
  k_search "go"
  refine ⟨[_, _, _, _, _, _, _, _, _, _, _, _], ⟨rfl, rfl, rfl, rfl, rfl, rfl, rfl, rfl, rfl, rfl, rfl, rfl, trivial⟩, by k_search "len", ?_⟩
  k_search "go"
  refine opd_catL (by rfl) (by rfl) (by k_search "len") ?_
  k_search "go"
  exact hQ
theorem wB_len {x : Str} (h : ¬ (1 ≤ x.length ∧ x.length ≤ 12)) : wB x = false := by
  unfold wB
  by_cases h1 : 1 ≤ x.length
  · have h2 : ¬ x.length ≤ 12 := fun z => h ⟨h1, z⟩
    rw [decide_eq_false h2]
    simp
  · rw [decide_eq_false h1]
    simp
theorem first_at {x : Str} (h : 1 ≤ x.length) : ∃ c, x.cps[0]? = some c := ⟨x.cps[0], Array.getElem?_eq_getElem h⟩
theorem ok_is_word (c : Al K mg base ds fr ts cs) : Ok P w K mg base 1 "is_word" ["value"] (spOf K T F_isw) := by
  have nd := sc_is_word.nd
  have kTOP := c.cs _ (.head _)
  have kBOTTOM := c.cs _ (.tail _ (.head _))
  have kRESERVED := c.cs _ (.tail _ (.tail _ (.tail _ (.tail _ (.tail _ (.head _))))))
  refine ok_of c (.head _) (fun _ _ _ _ _ _ us hl => match us, hl with | [_], _ => rfl) sc_is_word (fun as Q h => by first | (obtain ⟨_, rfl, _⟩ := h; rfl) | (obtain ⟨_, _, rfl, _⟩ := h; rfl) | (obtain ⟨_, _, _, rfl, _⟩ := h; rfl) | (obtain ⟨_, _, _, _, rfl, _⟩ := h; rfl) | (obtain ⟨_, _, _, _, _, rfl, _⟩ := h; rfl) | (obtain ⟨_, _, _, _, _, _, rfl, _⟩ := h; rfl) | (obtain ⟨_, _, _, _, _, _, _, rfl, _⟩ := h; rfl) | (obtain ⟨_, _, _, _, _, _, _, _, rfl, _⟩ := h; rfl) | (obtain ⟨_, _, _, _, _, _, _, _, _, rfl, _⟩ := h; rfl) | (obtain ⟨rfl, _⟩ := h; rfl)) fun f cdv A outer s H E hr as Q qs hF hq => ?_
  obtain ⟨d, rfl, hs, hQ⟩ := hF
  obtain rfl : qs = [] := List.length_eq_zero_iff.mp hq
  refine ⟨_, (pss_cons (ps_if (PW.pt (pw_or (pt_not (pt_val (pe_callB (r := rIsi K) call_isi rfl (c.fr _ (.tail _ (.head _))) PyProof.Rows.boot_isinstance (pa_cons (pv 0) (pa_cons (pe_bltn (v := .ty "str") rfl (c.fr _ (.tail _ (.tail _ (.head _)))) PyProof.Rows.boot_str rfl) pa_nil))))) (pw_or1 (pt_not (pt_chain op_le op_le pe_int (pe_callB (r := Pl.rLen K) call_len rfl (c.fr _ (.tail _ (.tail _ (.tail _ (.head _))))) PySem.boot_len (pa_cons (pv 0) pa_nil)) (pe_kI (c.cs _ (.tail _ (.tail _ (.tail _ (.tail _ (.head _)))))) rfl)))))) (pss_one (ps_ret pe_bl)) pss_nil)
    (pss_cons (ps_if (PW.pt (pw_or (pt_cmpR (r := rIn K false) op_in_seq (pv 0) (pe_kT (c.cs _ (.tail _ (.tail _ (.tail _ (.tail _ (.tail _ (.head _))))))) rfl) rfl) (pw_or1 (pt_cmpR (r := rNiSg) op_notIn_sign (pe_ix (r := rIxS) ix_str (pv 0) pe_int (fun _ _ => rfl)) (pe_kS (c.cs _ (.tail _ (.tail _ (.head _)))) rfl) rfl)))) (pss_one (ps_ret pe_bl)) pss_nil)
    (pss_one (ps_ret (pe_callB (r := rAll K) (cr_all rfl) rfl (c.fr _ (.head _)) PyProof.Rows.boot_all (pa_cons (pe_lc (own := [("sign", 1)]) (g := gName 1) (tt := tYes) rfl nd (pi_str (pv 0)) (blkOk_by (N := ["value", "sign"]) (sc := defScope (top 12)) (by first | decide +kernel | rfl)) (fun _ _ _ _ _ => pg_name (i := 1) nd rfl (by first | exact Or.inl rfl | exact Or.inr rfl)) (fun _ _ _ _ _ => pts_nil) (fun _ _ _ _ _ => (pe_cmpR (r := rInSg) op_in_sign (pv 1) (pe_kS (c.cs _ (.tail _ (.tail _ (.tail _ (.head _))))) rfl) rfl))) pa_nil)))))), ?_⟩
  show Ss K T _ [.val _, .no] _
  cases d with
  | str x =>
    have hl1 : x.length ≤ 1000000 := Nat.le_trans hs (by decide)
    have hQ : Q (.val (.bool (wB x))) [] := hQ
    refine go_seq (go_if (et_or (et_not' (et_B (ex_isi (n := "str") (b := true) (ex_var rfl ⟨_, rfl, rfl, ⟨_, rfl, iteF (by decide) (et_not' (et_test (ex_chI (ex_int (ex_cb (exa_cons (ex_var rfl (exa_nil ⟨[_], ⟨rfl, trivial⟩, cb_lenS hl1 ⟨_, _, decide ((1 : Int) ≤ (x.length : Int)), rfl, rfl, rfl, ?_⟩⟩))))))))⟩⟩))))))
    refine iteD (fun g1 => ?_) fun g1 => ?_
    · refine ex_int ⟨_, _, rfl, rfl, _, rfl, iteN (fun g2 => ?_) fun g2 => ?_⟩
      · k_search "go"
        rw [wB_len (by omega)] at hQ
        exact hQ
      · have w1 : 1 ≤ x.length := by omega
        have w2 : x.length ≤ 12 := by omega
        obtain ⟨c0, hc0⟩ := first_at w1
        refine go_next (go_seq (go_if (et_or (et_test (ex_op (ex_var rfl (ex_kT (c.cs _ (.tail _ (.tail _ (.tail _ (.tail _ (.tail _ (.head _))))))) ⟨_, _, rfl, rfl, opd_inST (ns := reserved) ⟨_, rfl, iteD (fun hr => ?_) fun hr => ?_⟩⟩)))))))
        · k_search "go"
          have e : wB x = false := Bool.eq_false_iff.mpr fun q => (wB_W.mp q).free hr
          rw [e] at hQ
          exact hQ
        · refine et_test (ex_op (ex_ixS (ex_var rfl (ex_int ⟨_, _, _, rfl, rfl, hl1, atS0 hc0, (ex_str ⟨_, _, rfl, rfl, opd_niSg ⟨_, rfl, iteN (fun hf => ?_) fun hf => ?_⟩⟩)⟩))))
          · k_search "go"
            have e : wB x = false := Bool.eq_false_iff.mpr fun q => by
              obtain ⟨c1, h1, h2⟩ := (wB_W.mp q).first
              rw [hc0] at h1
              cases h1
              exact hf h2
            rw [e] at hQ
            exact hQ
          · refine go_next (go_ret (ex_cb (exa_cons (ex_lcSW (ex_var rfl ⟨_, rfl, rfl, fun k δ2 acc => δ2 = [.val (.str x), .no] ∧ acc = ((x.cps.toList.take k).map fun c => decide (c ∈ Pl.signs.cps.toList)).map .bool ∧ k ≤ 12, ⟨rfl, rfl, Nat.zero_le _⟩, fun k ch δ2 acc hk hn hW => ?_, fun δ2 acc hW => ?_⟩)))))
            · obtain ⟨rfl, rfl, hk2⟩ := hW
              have hlt : k < x.cps.size := (Array.getElem?_eq_some_iff.mp hk).1
              have hx12 : x.cps.size ≤ 12 := w2
              have ha : ((x.cps.toList.take k).map fun c => decide (c ∈ Pl.signs.cps.toList)).map PyData.bool ++ [PyData.bool (decide (ch ∈ Pl.signs.cps.toList))] = ((x.cps.toList.take (k + 1)).map fun c => decide (c ∈ Pl.signs.cps.toList)).map PyData.bool := by
                rw [List.take_add_one, Array.getElem?_toList, hk, List.map_append, List.map_append]
                rfl
              have hk3 : (((x.cps.toList.take k).map fun c => decide (c ∈ Pl.signs.cps.toList)).map PyData.bool).length < 100000 := by rw [List.length_map, List.length_map, List.length_take]; omega
              have hk4 : k + 1 ≤ 12 := by omega
              exact turnW_yes (ex_op (ex_var rfl (ex_str ⟨_, _, rfl, rfl, opd_inSg ⟨_, [.val (.str x), .no], rfl, rfl, rfl, hk3, rfl, ha, hk4⟩⟩)))
            · obtain ⟨rfl, rfl, hk2⟩ := hW
              have e0 : x.cps.toList.take x.cps.size = x.cps.toList := by rw [← Array.length_toList, List.take_length]
              refine exa_nil ⟨[_], ⟨rfl, trivial⟩, cb_all ⟨[], _, rfl, rfl, ?_⟩⟩
              rw [e0]
              have e : ((x.cps.toList.map fun c => decide (c ∈ Pl.signs.cps.toList)).all id) = wB x := by
                unfold wB
                rw [decide_eq_true w1, decide_eq_true w2, decide_eq_false hr, hc0]
                simp only [decide_eq_true hf, Bool.true_and, Bool.not_false, List.all_map]
                rfl
              rw [e]
              exact hQ
    · refine ⟨_, rfl, iteT rfl ?_⟩
      k_search "go"
      rw [wB_len (by omega)] at hQ
      exact hQ
  | none => k_search "go"; exact hQ
  | bool b => k_search "go"; exact hQ
  | int i => k_search "go"; exact hQ
  | list l => k_search "go"; exact hQ
  | tuple l => k_search "go"; exact hQ
  | dict l => k_search "go"; exact hQ
theorem ok_lis_word (c : Al K mg base ds fr ts cs) (h__law_reserved : Ok P w K mg base 1 "_law_reserved" [] (spOf K T F_reserved)) : Ok P w K mg base 2 "_law_is_word" ["value"] (spOf K T F_isw) := by
  have nd := sc__law_is_word.nd
  have kTOP := c.cs _ (.head _)
  have kBOTTOM := c.cs _ (.tail _ (.head _))
  have kRESERVED := c.cs _ (.tail _ (.tail _ (.tail _ (.tail _ (.tail _ (.head _))))))
  refine ok_of c (.tail _ (.tail _ (.tail _ (.tail _ (.tail _ (.tail _ (.tail _ (.tail _ (.tail _ (.tail _ (.tail _ (.tail _ (.tail _ (.tail _ (.tail _ (.tail _ (.tail _ (.tail _ (.tail _ (.tail _ (.tail _ (.tail _ (.tail _ (.tail _ (.tail _ (.tail _ (.tail _ (.head _)))))))))))))))))))))))))))) (fun _ _ _ _ _ _ us hl => match us, hl with | [_], _ => rfl) sc__law_is_word (fun as Q h => by first | (obtain ⟨_, rfl, _⟩ := h; rfl) | (obtain ⟨_, _, rfl, _⟩ := h; rfl) | (obtain ⟨_, _, _, rfl, _⟩ := h; rfl) | (obtain ⟨_, _, _, _, rfl, _⟩ := h; rfl) | (obtain ⟨_, _, _, _, _, rfl, _⟩ := h; rfl) | (obtain ⟨_, _, _, _, _, _, rfl, _⟩ := h; rfl) | (obtain ⟨_, _, _, _, _, _, _, rfl, _⟩ := h; rfl) | (obtain ⟨_, _, _, _, _, _, _, _, rfl, _⟩ := h; rfl) | (obtain ⟨_, _, _, _, _, _, _, _, _, rfl, _⟩ := h; rfl) | (obtain ⟨rfl, _⟩ := h; rfl)) fun f cdv A outer s H E hr as Q qs hF hq => ?_
  obtain ⟨d, rfl, hs, hQ⟩ := hF
  obtain rfl : qs = [] := List.length_eq_zero_iff.mp hq
  refine ⟨_, (pss_cons (ps_if (PW.pt (pw_or (pt_not (pt_val (pe_callB (r := rIsi K) call_isi rfl (c.fr _ (.tail _ (.head _))) PyProof.Rows.boot_isinstance (pa_cons (pv 0) (pa_cons (pe_bltn (v := .ty "str") rfl (c.fr _ (.tail _ (.tail _ (.head _)))) PyProof.Rows.boot_str rfl) pa_nil))))) (pw_or (pt_not (pt_chain op_le op_le pe_int (pe_callB (r := Pl.rLen K) call_len rfl (c.fr _ (.tail _ (.tail _ (.tail _ (.head _))))) PySem.boot_len (pa_cons (pv 0) pa_nil)) pe_int)) (pw_or1 (pt_cmpR (r := rIn K false) op_in_seq (pv 0) (pe_f0 h__law_reserved (hr.mono (by omega)) rfl) rfl))))) (pss_one (ps_ret pe_bl)) pss_nil)
    (pss_cons (ps_set (i := 1) nd rfl (Or.inl rfl) pe_str)
    (pss_cons (ps_for PassesOwn.never rfl (pi_str (pv 0)) (pg_name (i := 2) nd rfl (Or.inl rfl)) (pss_one (ps_if (pt_cmpR (r := rNiSg) op_notIn_sign (pv 2) (pe_op op_add_str (pv 1) pe_str) rfl) (pss_one (ps_ret pe_bl)) pss_nil)))
    (pss_one (ps_ret (pe_cmpR (r := rInSg) op_in_sign (pe_ix (r := rIxS) ix_str (pv 0) pe_int (fun _ _ => rfl)) (pv 1) rfl)))))), ?_⟩
  show Ss K T _ [.val _, .no, .no] _
  cases d with
  | str x =>
    have hl1 : x.length ≤ 1000000 := Nat.le_trans hs (by decide)
    have hQ : Q (.val (.bool (wB x))) [] := hQ
    k_search "go"
    refine ex_chI (ex_int (ex_cb (exa_cons (ex_var rfl (exa_nil ⟨[_], ⟨rfl, trivial⟩, cb_lenS hl1 ⟨_, _, decide ((1 : Int) ≤ (x.length : Int)), rfl, rfl, rfl, ?_⟩⟩)))))
    refine iteD (fun g1 => ?_) fun g1 => ?_
    · refine ex_int ⟨_, _, rfl, rfl, ?_⟩
      refine ⟨_, rfl, iteN (fun g2 => ?_) fun g2 => ?_⟩
      · k_search "go"
        rw [wB_len (by omega)] at hQ
        exact hQ
      · have w1 : 1 ≤ x.length := by omega
        have w2 : x.length ≤ 12 := by omega
        obtain ⟨c0, hc0⟩ := first_at w1
        k_search "go"
        refine cv [] trivial ⟨rfl, rimL (imm_strs _), ?_⟩
        refine ⟨_, _, rfl, rfl, opd_inSL (ns := reserved) ⟨_, rfl, iteD (fun hr => ?_) fun hr => ?_⟩⟩
        · have e : wB x = false := Bool.eq_false_iff.mpr fun q => (wB_W.mp q).free hr
          rw [e] at hQ
          k_search "go"
          exact hQ
        · k_search "go"
          refine ss_forS (ex_var rfl ⟨x, rfl, fun k δ => (∃ s, δ = [.val (.str x), .val (.str letters), s]) ∧ ∀ c ∈ x.cps.toList.take k, c ∈ Pl.signs.cps.toList, ⟨⟨_, rfl⟩, fun c m => by simp at m⟩, fun k ch δ2 hk hW => ?_, fun δ2 hW => ?_⟩)
          · obtain ⟨⟨s, rfl⟩, hall⟩ := hW
            refine gt_name ?_
            k_search "nrm"
            have hm : ch ∈ x.cps.toList := Array.mem_toList_iff.mpr (Array.mem_of_getElem? hk)
            have hs : (letters ++ "0123456789" : Str) = Pl.signs := by decide +kernel
            k_search "go"
            refine opd_addS (by decide +kernel) ?_
            rw [hs]
            refine ⟨_, _, rfl, rfl, opd_niSg ⟨_, rfl, iteN (fun hf => ?_) fun hf => ?_⟩⟩
            · have e : wB x = false := Bool.eq_false_iff.mpr fun q => hf ((wB_W.mp q).all ch hm)
              rw [e] at hQ
              k_search "go"
              exact hQ
            · k_search "go"
              refine ⟨⟨_, rfl⟩, fun c m => ?_⟩
              rw [List.take_add_one, Array.getElem?_toList, hk, List.mem_append] at m
              rcases m with m | m
              · exact hall c m
              · have e : c = ch := by simpa using m
                rw [e]
                exact hf
          · obtain ⟨⟨s, rfl⟩, hall⟩ := hW
            have e0 : x.cps.toList.take x.cps.size = x.cps.toList := by rw [← Array.length_toList, List.take_length]
            rw [e0] at hall
            k_search "go"
            refine ⟨_, _, _, rfl, rfl, hl1, atS0 hc0, ?_⟩
            k_search "go"
            refine opd_inSg ?_
            have ha : (x.cps.toList.all fun c => decide (c ∈ Pl.signs.cps.toList)) = true := List.all_eq_true.mpr fun c hc => decide_eq_true (hall c hc)
            have e : decide (c0 ∈ letters.cps.toList) = wB x := by
              unfold wB
              rw [decide_eq_true w1, decide_eq_true w2, decide_eq_false hr, hc0, ha]
              simp
            rw [e]
            k_search "go"
            exact hQ
    · refine ⟨_, rfl, iteT rfl ?_⟩
      k_search "go"
      rw [wB_len (by omega)] at hQ
      exact hQ
  | none => k_search "go"; exact hQ
  | bool b => k_search "go"; exact hQ
  | int i => k_search "go"; exact hQ
  | list l => k_search "go"; exact hQ
  | tuple l => k_search "go"; exact hQ
  | dict l => k_search "go"; exact hQ
set_option Elab.async false
set_option linter.all false
set_option maxRecDepth 100000
set_option maxHeartbeats 4000001
open PySem L2 LamX NdefX PyProof.Rows GenW Pl
variable {P : Program} {w : World} {K : PySem.W.Frag} {mg : Str → Option Value} {base : Heap} {T : List NTab} {ts : List Str}
abbrev bx (x y z : Int) : OV := .lst [.int x, .int y, .int z]
def F_cell : FS := fun as Q => ∃ (ns : List Int) (k : Nat), as = [.val (.list (ns.map .int)), .val (.int k)] ∧ ns.length ≤ 63 ∧ k ≤ 100 ∧ ∀ z : Int, Q (.val (.int z)) []
def F_open : FS := fun as Q => ∃ (ns : List Int) (k : Nat), as = [.val (.list (ns.map .int)), .val (.int k)] ∧ ns.length ≤ 63 ∧ k ≤ 100 ∧ ∀ x y z : Int, Q (.new (bx x y z)) []
def F_take : FS := fun as Q => ∃ (x y z : Int) (m : Int), as = [.own (bx x y z), .val (.int m)] ∧ 1 ≤ m ∧ m ≤ 1000 ∧ ∀ n x y z : Int, 0 ≤ n → n < m → Q (.val (.int n)) [bx x y z]
theorem cut_ints (ns : List Int) (lo hi : Option Int) : ∃ ms : List Int, Pl.cutD (ns.map .int) lo hi = ms.map .int ∧ ms.length ≤ ns.length := by
  unfold Pl.cutD
  rw [← List.map_drop, ← List.map_take]
  refine ⟨_, rfl, ?_⟩
  rw [List.length_take, List.length_drop]
  omega
theorem ok_lcell (c : Al K mg base ds fr ts cs) : Ok P w K mg base 1 "_law_cell" ["script", "k"] (spOf K T F_cell) := by
  have nd := sc__law_cell.nd
  have kTOP := c.cs _ (.head _)
  have kBOTTOM := c.cs _ (.tail _ (.head _))
  have kRESERVED := c.cs _ (.tail _ (.tail _ (.tail _ (.tail _ (.tail _ (.head _))))))
  refine ok_of c (.tail _ (.tail _ (.tail _ (.tail _ (.tail _ (.tail _ (.tail _ (.tail _ (.tail _ (.tail _ (.tail _ (.tail _ (.tail _ (.tail _ (.tail _ (.tail _ (.tail _ (.tail _ (.tail _ (.tail _ (.tail _ (.tail _ (.tail _ (.head _)))))))))))))))))))))))) (fun _ _ _ _ _ _ us hl => match us, hl with | [_, _], _ => rfl) sc__law_cell (fun as Q h => by first | (obtain ⟨_, rfl, _⟩ := h; rfl) | (obtain ⟨_, _, rfl, _⟩ := h; rfl) | (obtain ⟨_, _, _, rfl, _⟩ := h; rfl) | (obtain ⟨_, _, _, _, rfl, _⟩ := h; rfl) | (obtain ⟨_, _, _, _, _, rfl, _⟩ := h; rfl) | (obtain ⟨_, _, _, _, _, _, rfl, _⟩ := h; rfl) | (obtain ⟨_, _, _, _, _, _, _, rfl, _⟩ := h; rfl) | (obtain ⟨_, _, _, _, _, _, _, _, rfl, _⟩ := h; rfl) | (obtain ⟨_, _, _, _, _, _, _, _, _, rfl, _⟩ := h; rfl) | (obtain ⟨rfl, _⟩ := h; rfl)) fun f cdv A outer s H E hr as Q qs hF hq => ?_
  obtain ⟨ns, k, rfl, hl, hk, hQ⟩ := hF
  obtain rfl : qs = [] := List.length_eq_zero_iff.mp hq
  refine ⟨_, (pss_cons (ps_if (pt_cmpR op_lt (pv 1) (pe_callB (r := Pl.rLen K) call_len rfl (c.fr _ (.tail _ (.tail _ (.tail _ (.head _))))) PySem.boot_len (pa_cons (pv 0) pa_nil)) (nomark _)) (pss_one (ps_ret (pe_ix (r := rIxL K) ix_list (pv 0) (pv 1) (fun _ _ => rfl)))) pss_nil)
    (pss_one (ps_ret (pe_op op_mod (pe_callTy call_int1 rfl (c.fr _ (.tail _ (.tail _ (.tail _ (.tail _ (.tail _ (.tail _ (.tail _ (.tail _ (.tail _ (.head _))))))))))) PyProof.Rows.boot_int (pa_cons (pe_op op_add (pe_op op_add (pe_op op_mul (pe_callB (r := rSum K) (cr_sum rfl) rfl (c.fr _ (.tail _ (.tail _ (.tail _ (.tail _ (.tail _ (.tail _ (.tail _ (.tail _ (.tail _ (.tail _ (.head _)))))))))))) PyProof.Rows.boot_sum (pa_cons (pe_lc (own := [("one", 2)]) (g := gName 2) (tt := tYes) rfl nd (pi_listK (K0 := K) (pe_slice (r := rSlL K) sl_list (pv 0) po_none (po_some pe_int))) (blkOk_by (N := ["script", "k", "one"]) (sc := defScope (top 36)) (by first | decide +kernel | rfl)) (fun _ _ _ _ _ => pg_name (i := 2) nd rfl (by first | exact Or.inl rfl | exact Or.inr rfl)) (fun _ _ _ _ _ => pts_nil) (fun _ _ _ _ _ => (pe_op op_mod (pe_callTy call_int1 rfl (c.fr _ (.tail _ (.tail _ (.tail _ (.tail _ (.tail _ (.tail _ (.tail _ (.tail _ (.tail _ (.head _))))))))))) PyProof.Rows.boot_int (pa_cons (pe_callB call_abs rfl (c.fr _ (.tail _ (.tail _ (.tail _ (.tail _ (.tail _ (.tail _ (.tail _ (.tail _ (.tail _ (.tail _ (.tail _ (.head _))))))))))))) PyProof.Rows.boot_abs (pa_cons (pv 2) pa_nil)) pa_nil)) pe_int))) pa_nil)) pe_int) (pe_op op_mul (pv 1) pe_int)) pe_int) pa_nil)) pe_int)))), ?_⟩
  show Ss K T _ [.val _, .val _, .no] _
  k_search "go"
  refine iteD (fun hc => ?_) fun hc => ?_
  · have hk2 : k < ns.length := by rw [List.length_map] at hc; omega
    have hat : atI (ns.map PyData.int) (k : Int) = some (.int ns[k]) := atI_nat (by rw [List.getElem?_map, List.getElem?_eq_getElem hk2]; rfl)
    k_search "go"
    exact hQ _
  · k_search "go"
    refine ex_mapL2 ?_
    k_search "go"
    obtain ⟨ms, em, lm⟩ := cut_ints ns none (some 9)
    rw [em]
    refine ⟨imm_ints ms, ms.map PyData.int, (ms.map fun i => ((i.natAbs : Nat) : Int) % 1000003).map PyData.int, rfl, rfl, by rw [List.length_map]; omega, by rw [List.length_map, List.length_map, List.length_map], fun j d e hd he => ?_, ?_⟩
    · rw [List.getElem?_map] at hd
      cases hj : ms[j]? with
      | none => rw [hj] at hd; cases hd
      | some v =>
        rw [hj] at hd
        cases hd
        rw [List.map_map, List.getElem?_map, hj] at he
        cases he
        k_search "nrm"
        k_search "go"
        refine cb_abs ?_
        k_search "go"
        exact ⟨rfl, rfl⟩
    · k_search "go"
      refine cb_sum ?_
      k_search "go"
      exact hQ _
theorem ok_lopen (c : Al K mg base ds fr ts cs) (h__law_cell : Ok P w K mg base 1 "_law_cell" ["script", "k"] (spOf K T F_cell)) : Ok P w K mg base 2 "_law_open" ["script", "k"] (spOf K T F_open) := by
  have nd := sc__law_open.nd
  have kTOP := c.cs _ (.head _)
  have kBOTTOM := c.cs _ (.tail _ (.head _))
  have kRESERVED := c.cs _ (.tail _ (.tail _ (.tail _ (.tail _ (.tail _ (.head _))))))
  refine ok_of c (.tail _ (.tail _ (.tail _ (.tail _ (.tail _ (.tail _ (.tail _ (.tail _ (.tail _ (.tail _ (.tail _ (.tail _ (.tail _ (.tail _ (.tail _ (.tail _ (.tail _ (.tail _ (.tail _ (.tail _ (.tail _ (.tail _ (.tail _ (.tail _ (.head _))))))))))))))))))))))))) (fun _ _ _ _ _ _ us hl => match us, hl with | [_, _], _ => rfl) sc__law_open (fun as Q h => by first | (obtain ⟨_, rfl, _⟩ := h; rfl) | (obtain ⟨_, _, rfl, _⟩ := h; rfl) | (obtain ⟨_, _, _, rfl, _⟩ := h; rfl) | (obtain ⟨_, _, _, _, rfl, _⟩ := h; rfl) | (obtain ⟨_, _, _, _, _, rfl, _⟩ := h; rfl) | (obtain ⟨_, _, _, _, _, _, rfl, _⟩ := h; rfl) | (obtain ⟨_, _, _, _, _, _, _, rfl, _⟩ := h; rfl) | (obtain ⟨_, _, _, _, _, _, _, _, rfl, _⟩ := h; rfl) | (obtain ⟨_, _, _, _, _, _, _, _, _, rfl, _⟩ := h; rfl) | (obtain ⟨rfl, _⟩ := h; rfl)) fun f cdv A outer s H E hr as Q qs hF hq => ?_
  obtain ⟨ns, k, rfl, hl, hk, hQ⟩ := hF
  obtain rfl : qs = [] := List.length_eq_zero_iff.mp hq
  refine ⟨_, (pss_cons (ps_set (i := 2) nd rfl (Or.inl rfl) (pe_f h__law_cell (hr.mono (by omega)) rfl (pa_cons (pv 0) (pa_cons (pv 1) pa_nil))))
    (pss_one (ps_ret (pe_lst (pa_cons (pv 2) (pa_cons pe_int (pa_cons (pe_callTy call_int1 rfl (c.fr _ (.tail _ (.tail _ (.tail _ (.tail _ (.tail _ (.tail _ (.tail _ (.tail _ (.tail _ (.head _))))))))))) PyProof.Rows.boot_int (pa_cons (pe_cmpR op_ge (pv 2) (pe_op op_pow pe_int pe_int) (nomark _)) pa_nil)) pa_nil))))))), ?_⟩
  show Ss K T _ [.val _, .val _, .no] _
  k_search "go"
  refine cv [.val _, .val _] ⟨rfl, rfl, trivial⟩ ⟨ns, k, rfl, hl, hk, fun z => ⟨rim rfl, ?_⟩⟩
  k_search "go"
  exact hQ _ _ _
theorem ok_ltake (c : Al K mg base ds fr ts cs) : Ok P w K mg base 1 "_law_take" ["box", "many"] (spOf K T F_take) := by
  have nd := sc__law_take.nd
  have kTOP := c.cs _ (.head _)
  have kBOTTOM := c.cs _ (.tail _ (.head _))
  have kRESERVED := c.cs _ (.tail _ (.tail _ (.tail _ (.tail _ (.tail _ (.head _))))))
  refine ok_of c (.tail _ (.tail _ (.tail _ (.tail _ (.tail _ (.tail _ (.tail _ (.tail _ (.tail _ (.tail _ (.tail _ (.tail _ (.tail _ (.tail _ (.tail _ (.tail _ (.tail _ (.tail _ (.tail _ (.tail _ (.tail _ (.tail _ (.tail _ (.tail _ (.tail _ (.head _)))))))))))))))))))))))))) (fun _ _ _ _ _ _ us hl => match us, hl with | [_, _], _ => rfl) sc__law_take (fun as Q h => by first | (obtain ⟨_, rfl, _⟩ := h; rfl) | (obtain ⟨_, _, rfl, _⟩ := h; rfl) | (obtain ⟨_, _, _, rfl, _⟩ := h; rfl) | (obtain ⟨_, _, _, _, rfl, _⟩ := h; rfl) | (obtain ⟨_, _, _, _, _, rfl, _⟩ := h; rfl) | (obtain ⟨_, _, _, _, _, _, rfl, _⟩ := h; rfl) | (obtain ⟨_, _, _, _, _, _, _, rfl, _⟩ := h; rfl) | (obtain ⟨_, _, _, _, _, _, _, _, rfl, _⟩ := h; rfl) | (obtain ⟨_, _, _, _, _, _, _, _, _, rfl, _⟩ := h; rfl) | (obtain ⟨rfl, _⟩ := h; rfl)) fun f cdv A outer s H E hr as Q qs hF hq => ?_
  obtain ⟨x, y, z, m, rfl, hm1, hm2, hQ⟩ := hF
  obtain ⟨p, rfl⟩ := List.length_eq_one_iff.mp hq
  refine ⟨_, (pss_cons (ps_asg (pe_op op_add (pe_ix (r := rIxL K) ix_list (pv 0) pe_int (fun _ _ => rfl)) pe_int) (pg_sub (pv 0) pe_int set_list))
    (pss_cons (ps_if (pt_cmpR op_eq (pe_ix (r := rIxL K) ix_list (pv 0) pe_int (fun _ _ => rfl)) pe_int (nomark _)) (pss_cons (ps_set (i := 3) nd rfl (Or.inl rfl) (pe_op op_mod (pe_callTy call_int1 rfl (c.fr _ (.tail _ (.tail _ (.tail _ (.tail _ (.tail _ (.tail _ (.tail _ (.tail _ (.tail _ (.head _))))))))))) PyProof.Rows.boot_int (pa_cons (pe_ix (r := rIxL K) ix_list (pv 0) pe_int (fun _ _ => rfl)) pa_nil)) (pv 1)))
    (pss_cons (ps_asg (pe_op op_fdivW (pe_ix (r := rIxL K) ix_list (pv 0) pe_int (fun _ _ => rfl)) (pv 1)) (pg_sub (pv 0) pe_int set_list))
    (pss_one (ps_ret (pv 3))))) pss_nil)
    (pss_cons (ps_set (i := 2) nd rfl (Or.inl rfl) (pe_op op_mod (pe_callTy call_int1 rfl (c.fr _ (.tail _ (.tail _ (.tail _ (.tail _ (.tail _ (.tail _ (.tail _ (.tail _ (.tail _ (.head _))))))))))) PyProof.Rows.boot_int (pa_cons (pe_op op_add (pe_op op_mul (pe_ix (r := rIxL K) ix_list (pv 0) pe_int (fun _ _ => rfl)) pe_int) (pe_op op_mul (pe_ix (r := rIxL K) ix_list (pv 0) pe_int (fun _ _ => rfl)) pe_int)) pa_nil)) pe_int))
    (pss_cons (ps_set (i := 2) nd rfl (Or.inl rfl) (pe_op op_mod (pe_callTy call_int1 rfl (c.fr _ (.tail _ (.tail _ (.tail _ (.tail _ (.tail _ (.tail _ (.tail _ (.tail _ (.tail _ (.head _))))))))))) PyProof.Rows.boot_int (pa_cons (pe_op op_add (pe_op op_add (pe_op op_mul (pv 2) (pv 2)) (pe_op op_mul (pe_ix (r := rIxL K) ix_list (pv 0) pe_int (fun _ _ => rfl)) pe_int)) pe_int) pa_nil)) pe_int))
    (pss_one (ps_ret (pe_op op_mod (pe_callTy call_int1 rfl (c.fr _ (.tail _ (.tail _ (.tail _ (.tail _ (.tail _ (.tail _ (.tail _ (.tail _ (.tail _ (.head _))))))))))) PyProof.Rows.boot_int (pa_cons (pe_op op_fdivW (pv 2) pe_int) pa_nil)) (pv 1)))))))), ?_⟩
  show Ss K T _ [.own p _, .val _, .no, .no] _
  have hm : (0 : Int) < m := by omega
  have cm : ∀ a : Int, CDivW a m := fun a => ⟨hm, by
    have h1 : m.natAbs < 2 ^ 60 := by
      have : m.natAbs ≤ 1000 := by omega
      exact Nat.lt_of_le_of_lt this (by decide)
    exact Nat.lt_of_lt_of_le (PySem.Flt.log2_lt_of (by decide) h1) (by decide)⟩
  have cm0 := cm x
  k_search "go"
  refine iteD (fun hc => ?_) fun hc => ?_
  · k_search "go"
    exact ⟨_, _, ⟨rfl, _, rfl, rfl⟩, rfl, hQ _ _ _ _ (Int.emod_nonneg _ (by omega)) (Int.emod_lt_of_pos _ hm)⟩
  · k_search "go"
    exact ⟨_, _, ⟨rfl, _, rfl, rfl⟩, rfl, hQ _ _ _ _ (Int.emod_nonneg _ (by omega)) (Int.emod_lt_of_pos _ hm)⟩
set_option Elab.async false
set_option linter.all false
set_option maxRecDepth 100000
set_option maxHeartbeats 4000001
open PySem L2 LamX NdefX PyProof.Rows GenW Pl
variable {P : Program} {w : World} {K : PySem.W.Frag} {mg : Str → Option Value} {base : Heap} {T : List NTab} {ts : List Str}
/-- a new word by a letter -/
theorem at_str {ws : List Str} {n : Int} (h1 : 0 ≤ n) (h2 : n < ((ws.map PyData.str).length : Nat)) : ∃ x, x ∈ ws ∧ atI (ws.map PyData.str) n = some (.str x) := by
  rw [List.length_map] at h2
  obtain ⟨k, rfl⟩ : ∃ k : Nat, n = k := ⟨n.toNat, by omega⟩
  have hk : k < ws.length := by omega
  exact ⟨ws[k], List.getElem_mem hk, atI_nat (by rw [List.getElem?_map, List.getElem?_eq_getElem hk]; rfl)⟩
theorem at_cps {x : Str} {n : Int} (h1 : 0 ≤ n) (h2 : n < (x.cps.toList.length : Nat)) : ∃ c, c ∈ x.cps.toList ∧ atI x.cps.toList n = some c := by
  obtain ⟨k, rfl⟩ : ∃ k : Nat, n = k := ⟨n.toNat, by omega⟩
  have hk : k < x.cps.toList.length := by omega
  exact ⟨x.cps.toList[k], List.getElem_mem hk, atI_nat (List.getElem?_eq_getElem hk)⟩
def F_word : FS := fun as Q => ∃ x y z : Int, as = [.own (bx x y z)] ∧ ∀ (v : Str) (x y z : Int), W v → Q (.val (.str v)) [bx x y z]
/-- a word under way -/
structure WP (v : Str) (k : Nat) : Prop where
  len : v.cps.toList.length = k + 1
  first : ∃ c r, v.cps.toList = c :: r ∧ c ∈ letters.cps.toList
  all : ∀ c ∈ v.cps.toList, c ∈ Pl.signs.cps.toList
theorem letters_signs : ∀ c ∈ letters.cps.toList, c ∈ Pl.signs.cps.toList := by decide
theorem WP.ws {v : Str} {k : Nat} (h : WP v k) (hk : k ≤ 11) : WS v where
  lo := by rw [len_tl, h.len]; omega
  hi := by rw [len_tl, h.len]; omega
  first := by
    obtain ⟨c, r, e, hc⟩ := h.first
    refine ⟨c, ?_, hc⟩
    rw [← Array.getElem?_toList, e]
    rfl
  all := h.all
theorem WP.cut {v : Str} {k : Nat} (h : WP v k) (hr : v ∈ reserved) : W (cutS v none (some 11) ++ "0") := by
  have : ∀ v ∈ reserved, W (cutS v none (some 11) ++ "0") := by
    intro v hv
    have hall : ∀ v ∈ reserved, (decide (1 ≤ (cutS v none (some 11) ++ "0" : Str).length) && decide ((cutS v none (some 11) ++ "0" : Str).length ≤ 12) && decide ((cutS v none (some 11) ++ "0" : Str) ∉ reserved) &&
      (match (cutS v none (some 11) ++ "0" : Str).cps[0]? with | some c => decide (c ∈ letters.cps.toList) | none => false) && ((cutS v none (some 11) ++ "0" : Str).cps.toList.all fun c => decide (c ∈ Pl.signs.cps.toList))) = true := by decide +kernel
    have q := hall v hv
    simp only [Bool.and_eq_true, decide_eq_true_eq, List.all_eq_true] at q
    obtain ⟨⟨⟨⟨q1, q2⟩, q3⟩, q4⟩, q5⟩ := q
    refine ⟨q1, q2, q3, ?_, q5⟩
    cases e : (cutS v none (some 11) ++ "0" : Str).cps[0]? with
    | none => rw [e] at q4; cases q4
    | some c => rw [e] at q4; exact ⟨c, rfl, of_decide_eq_true q4⟩
  exact this v hr
theorem ok_lword (c : Al K mg base ds fr ts cs) (h__law_take : Ok P w K mg base 1 "_law_take" ["box", "many"] (spOf K T F_take)) (h__law_is_word : Ok P w K mg base 2 "_law_is_word" ["value"] (spOf K T F_isw)) :
    Ok P w K mg base 3 "_law_word" ["box"] (spOf K T F_word) := by
  have nd := sc__law_word.nd
  have kTOP := c.cs _ (.head _)
  have kBOTTOM := c.cs _ (.tail _ (.head _))
  have kRESERVED := c.cs _ (.tail _ (.tail _ (.tail _ (.tail _ (.tail _ (.head _))))))
  refine ok_of c (.tail _ (.tail _ (.tail _ (.tail _ (.tail _ (.tail _ (.tail _ (.tail _ (.tail _ (.tail _ (.tail _ (.tail _ (.tail _ (.tail _ (.tail _ (.tail _ (.tail _ (.tail _ (.tail _ (.tail _ (.tail _ (.tail _ (.tail _ (.tail _ (.tail _ (.tail _ (.tail _ (.tail _ (.tail _ (.head _)))))))))))))))))))))))))))))) (fun _ _ _ _ _ _ us hl => match us, hl with | [_], _ => rfl) sc__law_word (fun as Q h => by first | (obtain ⟨_, rfl, _⟩ := h; rfl) | (obtain ⟨_, _, rfl, _⟩ := h; rfl) | (obtain ⟨_, _, _, rfl, _⟩ := h; rfl) | (obtain ⟨_, _, _, _, rfl, _⟩ := h; rfl) | (obtain ⟨_, _, _, _, _, rfl, _⟩ := h; rfl) | (obtain ⟨_, _, _, _, _, _, rfl, _⟩ := h; rfl) | (obtain ⟨_, _, _, _, _, _, _, rfl, _⟩ := h; rfl) | (obtain ⟨_, _, _, _, _, _, _, _, rfl, _⟩ := h; rfl) | (obtain ⟨_, _, _, _, _, _, _, _, _, rfl, _⟩ := h; rfl) | (obtain ⟨rfl, _⟩ := h; rfl)) fun f cdv A outer s H E hr as Q qs hF hq => ?_
  obtain ⟨x, y, z, rfl, hQ⟩ := hF
  obtain ⟨p, rfl⟩ := List.length_eq_one_iff.mp hq
  refine ⟨_, (pss_cons (ps_set (i := 1) nd rfl (Or.inl rfl) pe_str)
    (pss_cons (ps_set (i := 2) nd rfl (Or.inl rfl) (pe_ix (r := rIxS) ix_str (pv 1) (pe_f h__law_take (hr.mono (by omega)) rfl (pa_cons (pv 0) (pa_cons pe_int pa_nil))) (fun _ _ => rfl)))
    (pss_cons (ps_for PassesOwn.never rfl (pi_range1 rfl (c.fr _ (.tail _ (.tail _ (.tail _ (.tail _ (.tail _ (.tail _ (.tail _ (.tail _ (.tail _ (.tail _ (.tail _ (.tail _ (.head _)))))))))))))) (pa_cons (pe_f h__law_take (hr.mono (by omega)) rfl (pa_cons (pv 0) (pa_cons pe_int pa_nil))) pa_nil)) (pg_name (i := 3) nd rfl (Or.inl rfl)) (pss_one (ps_set (i := 2) nd rfl (Or.inl rfl) (pe_op op_add_str (pv 2) (pe_ix (r := rIxS) ix_str (pe_op op_add_str (pv 1) pe_str) (pe_f h__law_take (hr.mono (by omega)) rfl (pa_cons (pv 0) (pa_cons pe_int pa_nil))) (fun _ _ => rfl))))))
    (pss_cons (ps_if (pt_not (pt_val (pe_f h__law_is_word (hr.mono (by omega)) rfl (pa_cons (pv 2) pa_nil)))) (pss_one (ps_set (i := 2) nd rfl (Or.inl rfl) (pe_op op_add_str (pe_slice (r := rSlS) sl_str (pv 2) po_none (po_some pe_int)) pe_str))) pss_nil)
    (pss_one (ps_ret (pv 2))))))), ?_⟩
  show Ss K T _ [.own p _, .no, .no, .no] _
  have ls : (letters ++ "0123456789" : Str) = Pl.signs := by decide +kernel
  have l26 : letters.cps.toList.length = 26 := by decide +kernel
  have l36 : Pl.signs.cps.toList.length = 36 := by decide +kernel
  k_search "go"
  k_search "take"
  rename_i n x y z h1 h2
  obtain ⟨c0, hc0, hat0⟩ := at_cps (x := letters) h1 (by rw [l26]; exact h2)
  refine ⟨_, _, _, rfl, rfl, by decide +kernel, hat0, ?_⟩
  have w0 : WP ⟨#[c0]⟩ 0 := ⟨rfl, ⟨c0, [], rfl, hc0⟩, fun c hc => by rw [List.mem_singleton.mp (show c ∈ [c0] from hc)]; exact letters_signs c0 hc0⟩
  k_search "go"
  refine go_forRx ?_
  k_search "go"
  k_search "take"
  rename_i m x y z h3 h4
  obtain ⟨m, rfl⟩ : ∃ k : Nat, m = k := ⟨m.toNat, by omega⟩
  k_search "go"
  refine ⟨by omega, fun k δ => ∃ (v : Str) (x y z : Int) (s : Sl), WP v k ∧ δ = [.own p (bx x y z), .val (.str letters), .val (.str v), s], ⟨_, _, _, _, _, w0, rfl⟩, ?_, ?_⟩
  · rintro k δ2 hk ⟨v, x, y, z, s, wp, rfl⟩
    k_search "nrm"
    k_search "go"
    refine opd_addS (by decide +kernel) ?_
    rw [ls]
    k_search "go"
    k_search "take"
    rename_i n x y z h5 h6
    obtain ⟨c1, hc1, hat1⟩ := at_cps (x := Pl.signs) h5 (by rw [l36]; exact h6)
    refine ⟨_, _, _, rfl, rfl, by decide +kernel, hat1, ?_⟩
    have vl := wp.len
    k_search "go"
    refine opd_addS (by rw [len_tl, len_tl, vl]; show k + 1 + 1 ≤ 100000; omega) ?_
    k_search "go"
    refine ⟨_, _, _, _, _, ⟨?_, ?_, ?_⟩, rfl⟩
    · rw [tl_app, List.length_append, vl]; rfl
    · obtain ⟨c, r, e, hc⟩ := wp.first
      exact ⟨c, r ++ [c1], by rw [tl_app, e]; rfl, hc⟩
    · intro c hc
      rw [tl_app] at hc
      rcases List.mem_append.mp hc with h | h
      · exact wp.all c h
      · rw [List.mem_singleton.mp (show c ∈ [c1] from h)]; exact hc1
  · rintro δ2 ⟨v, x, y, z, s, wp, rfl⟩
    have hws := wp.ws (by omega)
    k_search "go"
    refine cv [.val _] ⟨rfl, trivial⟩ ⟨.str v, rfl, Nat.le_trans hws.hi (by decide), rim rfl, ?_⟩
    rw [show wordB (.str v) = !decide (v ∈ reserved) from hws.wB]
    refine ⟨_, rfl, ?_⟩
    by_cases hr : v ∈ reserved
    · rw [decide_eq_true hr]
      have hl : v.length ≤ 1000000 := Nat.le_trans hws.hi (by decide)
      refine iteT rfl (go_set (ex_op (ex_slS ?_)))
      k_search "go"
      have w2 := wp.cut hr
      have w3 := w2.hi
      rw [len_tl, tl_app, List.length_append] at w3
      refine ⟨hl, ?_⟩
      k_search "go"
      exact ⟨_, _, ⟨rfl, _, rfl, rfl⟩, rfl, hQ _ _ _ _ w2⟩
    · rw [decide_eq_false hr]
      k_search "go"
      exact ⟨_, _, ⟨rfl, _, rfl, rfl⟩, rfl, hQ _ _ _ _ (hws.toW hr)⟩
def F_words : FS := fun as Q => ∃ (x y z m f : Int), as = [.own (bx x y z), .val (.int m), .val (.int f)] ∧ 1 ≤ m ∧ m ≤ 6 ∧ ∀ (ws : List Str) (x y z : Int), ((ws.length : Nat) : Int) = m → (∀ w ∈ ws, W w) → Q (.new (.lst (ws.map .str))) [bx x y z]
abbrev menu0 : List Str := ["a", "b", "a0", "ab", "top1", "so", "r", "b1", "andy", "thing2", "c"]
theorem menu_W : ∀ v ∈ menu0, W v := by
  intro v hv
  have hall : ∀ v ∈ menu0, (decide (1 ≤ v.length) && decide (v.length ≤ 12) && decide (v ∉ reserved) && (match v.cps[0]? with | some c => decide (c ∈ letters.cps.toList) | none => false) && (v.cps.toList.all fun c => decide (c ∈ Pl.signs.cps.toList))) = true := by decide +kernel
  have q := hall v hv
  simp only [Bool.and_eq_true, decide_eq_true_eq, List.all_eq_true] at q
  obtain ⟨⟨⟨⟨q1, q2⟩, q3⟩, q4⟩, q5⟩ := q
  refine ⟨q1, q2, q3, ?_, q5⟩
  cases e : v.cps[0]? with
  | none => rw [e] at q4; cases q4
  | some c => rw [e] at q4; exact ⟨c, rfl, of_decide_eq_true q4⟩
theorem ok_lwords (c : Al K mg base ds fr ts cs) (h__law_take : Ok P w K mg base 1 "_law_take" ["box", "many"] (spOf K T F_take)) (h__law_word : Ok P w K mg base 3 "_law_word" ["box"] (spOf K T F_word)) :
    Ok P w K mg base 4 "_law_words" ["box", "many", "free"] (spOf K T F_words) := by
  have nd := sc__law_words.nd
  have kTOP := c.cs _ (.head _)
  have kBOTTOM := c.cs _ (.tail _ (.head _))
  have kRESERVED := c.cs _ (.tail _ (.tail _ (.tail _ (.tail _ (.tail _ (.head _))))))
  refine ok_of c (.tail _ (.tail _ (.tail _ (.tail _ (.tail _ (.tail _ (.tail _ (.tail _ (.tail _ (.tail _ (.tail _ (.tail _ (.tail _ (.tail _ (.tail _ (.tail _ (.tail _ (.tail _ (.tail _ (.tail _ (.tail _ (.tail _ (.tail _ (.tail _ (.tail _ (.tail _ (.tail _ (.tail _ (.tail _ (.tail _ (.head _))))))))))))))))))))))))))))))) (fun _ _ _ _ _ _ us hl => match us, hl with | [_, _, _], _ => rfl) sc__law_words (fun as Q h => by first | (obtain ⟨_, rfl, _⟩ := h; rfl) | (obtain ⟨_, _, rfl, _⟩ := h; rfl) | (obtain ⟨_, _, _, rfl, _⟩ := h; rfl) | (obtain ⟨_, _, _, _, rfl, _⟩ := h; rfl) | (obtain ⟨_, _, _, _, _, rfl, _⟩ := h; rfl) | (obtain ⟨_, _, _, _, _, _, rfl, _⟩ := h; rfl) | (obtain ⟨_, _, _, _, _, _, _, rfl, _⟩ := h; rfl) | (obtain ⟨_, _, _, _, _, _, _, _, rfl, _⟩ := h; rfl) | (obtain ⟨_, _, _, _, _, _, _, _, _, rfl, _⟩ := h; rfl) | (obtain ⟨rfl, _⟩ := h; rfl)) fun f cdv A outer s H E hr as Q qs hF hq => ?_
  obtain ⟨x, y, z, m, f, rfl, hm1, hm2, hQ⟩ := hF
  obtain ⟨p, rfl⟩ := List.length_eq_one_iff.mp hq
  refine ⟨_, (pss_cons (ps_set (i := 3) nd rfl (Or.inl rfl) (pe_lst (pa_cons pe_str (pa_cons pe_str (pa_cons pe_str (pa_cons pe_str (pa_cons pe_str (pa_cons pe_str (pa_cons pe_str (pa_cons pe_str (pa_cons pe_str (pa_cons pe_str (pa_cons pe_str pa_nil)))))))))))))
    (pss_cons (ps_set (i := 4) nd rfl (Or.inl rfl) (pe_f h__law_take (hr.mono (by omega)) rfl (pa_cons (pv 0) (pa_cons pe_int pa_nil))))
    (pss_cons (ps_set (i := 5) nd rfl (Or.inl rfl) (pe_op op_add pe_int (pe_f h__law_take (hr.mono (by omega)) rfl (pa_cons (pv 0) (pa_cons pe_int pa_nil)))))
    (pss_cons (ps_set (i := 6) nd rfl (Or.inl rfl) (pe_lst pa_nil))
    (pss_cons (ps_for PassesOwn.never rfl (pi_range1 rfl (c.fr _ (.tail _ (.tail _ (.tail _ (.tail _ (.tail _ (.tail _ (.tail _ (.tail _ (.tail _ (.tail _ (.tail _ (.tail _ (.head _)))))))))))))) (pa_cons (pv 1) pa_nil)) (pg_name (i := 7) nd rfl (Or.inl rfl)) (pss_one (ps_if (pt_cmpR op_eq (pv 2) pe_int (nomark _)) (pss_one (ps_expr (pe_bmK (K0 := K) PySem.F.plainAttrs_list PySem.F.slot_list_append PySem.F.type_list_append mt_append (pv 6) (pa_cons (pe_f h__law_word (hr.mono (by omega)) rfl (pa_cons (pv 0) pa_nil)) pa_nil)))) (pss_one (ps_expr (pe_bmK (K0 := K) PySem.F.plainAttrs_list PySem.F.slot_list_append PySem.F.type_list_append mt_append (pv 6) (pa_cons (pe_ix (r := rIxL K) ix_list (pv 3) (pe_op op_mod (pe_op op_add (pv 4) (pe_op op_mul (pv 7) (pv 5))) pe_int) (fun _ _ => rfl)) pa_nil)))))))
    (pss_one (ps_ret (pv 6)))))))), ?_⟩
  show Ss K T _ [.own p _, .val _, .val _, .no, .no, .no, .no, .no] _
  obtain ⟨M, rfl⟩ : ∃ k : Nat, m = k := ⟨m.toNat, by omega⟩
  k_search "go"
  refine ⟨[_, _, _, _, _, _, _, _, _, _, _], ⟨rfl, rfl, rfl, rfl, rfl, rfl, rfl, rfl, rfl, rfl, rfl, trivial⟩, by k_search "len", ?_⟩
  k_search "go"
  k_search "take"
  rename_i n x y z h1 h2
  k_search "go"
  k_search "take"
  rename_i n2 x y z h3 h4
  k_search "go"
  refine go_forR M (fun k δ => ∃ (x y z : Int) (a b : Addr) (ws : List Str) (s : Sl), ws.length = k ∧ (∀ w ∈ ws, W w) ∧
    δ = [.own p (bx x y z), .val (.int M), .val (.int f), .own a (.lst (menu0.map .str)), .val (.int n), .val (.int (1 + n2)), .own b (.lst (ws.map .str)), s]) (by omega) ?_ ?_ ?_
  · k_search "go"
    exact ⟨rfl, _, _, _, _, _, [], _, rfl, (fun w hw => by cases hw), rfl⟩
  · rintro k δ2 hk ⟨x, y, z, a, b, ws, s, hl, hw, rfl⟩
    have hlm : (ws.map PyData.str).length < 100000 := by rw [List.length_map]; omega
    k_search "nrm"
    k_search "go"
    refine iteD (fun hc => ?_) fun hc => ?_
    · k_search "go"
      refine cx [.own _] [0] ⟨rfl, ⟨_, rfl⟩, trivial⟩ (by decide) ⟨_, _, _, rfl, fun v x y z hv => ⟨rim1 rfl rfl, ?_⟩⟩
      k_search "nrm"
      k_search "go"
      exact ⟨_, _, _, _, _, ws ++ [v], _, by rw [List.length_append, hl]; rfl, (fun w hx => (List.mem_append.mp hx).elim (hw w) fun q => by rw [List.mem_singleton.mp q]; exact hv), by rw [List.map_append]; rfl⟩
    · have e1 := Int.emod_nonneg (n + (k : Int) * (1 + n2)) (show (11 : Int) ≠ 0 by decide)
      have e2 := Int.emod_lt_of_pos (n + (k : Int) * (1 + n2)) (show (0 : Int) < 11 by decide)
      obtain ⟨v, hv, hat⟩ := at_str (ws := menu0) e1 e2
      k_search "go"
      exact ⟨_, _, _, _, _, ws ++ [v], _, by rw [List.length_append, hl]; rfl, (fun w hx => (List.mem_append.mp hx).elim (hw w) fun q => by rw [List.mem_singleton.mp q]; exact menu_W v hv), by rw [List.map_append]; rfl⟩
  · rintro δ2 ⟨x, y, z, a, b, ws, s, hl, hw, rfl⟩
    k_search "go"
    exact ⟨_, _, ⟨rfl, _, rfl, rfl⟩, ⟨Nat.le_of_ble_eq_true rfl, _, _, rfl, rfl⟩, hQ ws _ _ _ (by rw [hl]) hw⟩
def pool (ls ties : List Str) (e : Int) : D := .list [.list (ls.map .str), .list (ties.map .str), .int e]
structure PoolOk (ls ties : List Str) : Prop where
  l1 : ls ≠ []
  l2 : ties ≠ []
  l3 : ls.length ≤ 6
  l4 : ties.length ≤ 6
  l5 : ∀ w ∈ ls, W w
  l6 : ∀ w ∈ ties, W w
def F_pool : FS := fun as Q => ∃ x y z : Int, as = [.own (bx x y z)] ∧ ∀ (ls ties : List Str) (e x y z : Int), PoolOk ls ties → Q (.new (.lst [.list (ls.map .str), .list (ties.map .str), .int e])) [bx x y z]
theorem cut_strs (ws : List Str) : ∃ ms : List Str, Pl.cutD (ws.map PyData.str) none (some 2) = ms.map .str ∧ (∀ w ∈ ms, w ∈ ws) ∧ (ws ≠ [] → ms ≠ []) ∧ ms.length ≤ ws.length := by
  refine ⟨ws.take 2, ?_, fun w h => List.mem_of_mem_take h, fun h => by cases ws with | nil => exact absurd rfl h | cons a b => simp, by rw [List.length_take]; omega⟩
  match ws with
  | [] => rfl
  | [a] => rfl
  | a :: b :: ws =>
    unfold Pl.cutD
    have h1 : HT.sIx ((a :: b :: ws).map PyData.str).length 0 none = 0 := rfl
    have h2 : HT.sIx ((a :: b :: ws).map PyData.str).length ((a :: b :: ws).map PyData.str).length (some 2) = 2 := by
      simp only [HT.sIx, List.length_map, List.length_cons]
      rw [if_neg (by decide)]
      have : Int.toNat 2 = 2 := rfl
      omega
    rw [h1, h2]
    rfl
theorem ok_lpool (c : Al K mg base ds fr ts cs) (h__law_take : Ok P w K mg base 1 "_law_take" ["box", "many"] (spOf K T F_take)) (h__law_words : Ok P w K mg base 4 "_law_words" ["box", "many", "free"] (spOf K T F_words)) :
    Ok P w K mg base 5 "_law_pool" ["box"] (spOf K T F_pool) := by
  have nd := sc__law_pool.nd
  have kTOP := c.cs _ (.head _)
  have kBOTTOM := c.cs _ (.tail _ (.head _))
  have kRESERVED := c.cs _ (.tail _ (.tail _ (.tail _ (.tail _ (.tail _ (.head _))))))
  refine ok_of c (.tail _ (.tail _ (.tail _ (.tail _ (.tail _ (.tail _ (.tail _ (.tail _ (.tail _ (.tail _ (.tail _ (.tail _ (.tail _ (.tail _ (.tail _ (.tail _ (.tail _ (.tail _ (.tail _ (.tail _ (.tail _ (.tail _ (.tail _ (.tail _ (.tail _ (.tail _ (.tail _ (.tail _ (.tail _ (.tail _ (.tail _ (.head _)))))))))))))))))))))))))))))))) (fun _ _ _ _ _ _ us hl => match us, hl with | [_], _ => rfl) sc__law_pool (fun as Q h => by first | (obtain ⟨_, rfl, _⟩ := h; rfl) | (obtain ⟨_, _, rfl, _⟩ := h; rfl) | (obtain ⟨_, _, _, rfl, _⟩ := h; rfl) | (obtain ⟨_, _, _, _, rfl, _⟩ := h; rfl) | (obtain ⟨_, _, _, _, _, rfl, _⟩ := h; rfl) | (obtain ⟨_, _, _, _, _, _, rfl, _⟩ := h; rfl) | (obtain ⟨_, _, _, _, _, _, _, rfl, _⟩ := h; rfl) | (obtain ⟨_, _, _, _, _, _, _, _, rfl, _⟩ := h; rfl) | (obtain ⟨_, _, _, _, _, _, _, _, _, rfl, _⟩ := h; rfl) | (obtain ⟨rfl, _⟩ := h; rfl)) fun f cdv A outer s H E hr as Q qs hF hq => ?_
  obtain ⟨x, y, z, rfl, hQ⟩ := hF
  obtain ⟨p, rfl⟩ := List.length_eq_one_iff.mp hq
  refine ⟨_, (pss_cons (ps_set (i := 1) nd rfl (Or.inl rfl) (pe_callTy call_int1 rfl (c.fr _ (.tail _ (.tail _ (.tail _ (.tail _ (.tail _ (.tail _ (.tail _ (.tail _ (.tail _ (.head _))))))))))) PyProof.Rows.boot_int (pa_cons (pe_cmpR op_eq (pe_f h__law_take (hr.mono (by omega)) rfl (pa_cons (pv 0) (pa_cons pe_int pa_nil))) pe_int (nomark _)) pa_nil)))
    (pss_cons (ps_set (i := 2) nd rfl (Or.inl rfl) (pe_callTy call_int1 rfl (c.fr _ (.tail _ (.tail _ (.tail _ (.tail _ (.tail _ (.tail _ (.tail _ (.tail _ (.tail _ (.head _))))))))))) PyProof.Rows.boot_int (pa_cons (pe_cmpR op_eq (pe_f h__law_take (hr.mono (by omega)) rfl (pa_cons (pv 0) (pa_cons pe_int pa_nil))) pe_int (nomark _)) pa_nil)))
    (pss_cons (ps_set (i := 3) nd rfl (Or.inl rfl) (pe_f h__law_words (hr.mono (by omega)) rfl (pa_cons (pv 0) (pa_cons (pe_op op_add pe_int (pe_f h__law_take (hr.mono (by omega)) rfl (pa_cons (pv 0) (pa_cons pe_int pa_nil)))) (pa_cons (pv 1) pa_nil)))))
    (pss_cons (ps_set (i := 4) nd rfl (Or.inl rfl) (pe_f h__law_words (hr.mono (by omega)) rfl (pa_cons (pv 0) (pa_cons (pe_op op_add pe_int (pe_f h__law_take (hr.mono (by omega)) rfl (pa_cons (pv 0) (pa_cons pe_int pa_nil)))) (pa_cons (pv 1) pa_nil)))))
    (pss_cons (ps_if (pt_cmpR op_eq (pe_f h__law_take (hr.mono (by omega)) rfl (pa_cons (pv 0) (pa_cons pe_int pa_nil))) pe_int (nomark _)) (pss_one (ps_set (i := 4) nd rfl (Or.inl rfl) (pe_slice (r := rSlL K) sl_list (pv 4) po_none (po_some pe_int)))) pss_nil)
    (pss_one (ps_ret (pe_lst (pa_cons (pv 3) (pa_cons (pv 4) (pa_cons (pv 2) pa_nil))))))))))), ?_⟩
  show Ss K T _ [.own p _, .no, .no, .no, .no] _
  k_search "go"
  k_search "take"
  rename_i n1 x y z h1 h2
  k_search "go"
  k_search "take"
  rename_i n2 x y z h3 h4
  k_search "go"
  k_search "take"
  rename_i n3 x y z h5 h6
  k_search "go"
  refine cx [.own _, .val _, .val _] [0] ⟨rfl, ⟨_, rfl⟩, rfl, rfl, trivial⟩ (by decide) ⟨_, _, _, _, _, rfl, by omega, by omega, fun ls x y z hl hw => ⟨rimL1 (imm_strs _) rfl, ?_⟩⟩
  k_search "nrm"
  k_search "go"
  k_search "take"
  rename_i n4 x y z h7 h8
  k_search "go"
  refine cx [.own _, .val _, .val _] [0] ⟨rfl, ⟨_, rfl⟩, rfl, rfl, trivial⟩ (by decide) ⟨_, _, _, _, _, rfl, by omega, by omega, fun ts x y z hl2 hw2 => ⟨rimL1 (imm_strs _) rfl, ?_⟩⟩
  k_search "nrm"
  k_search "go"
  k_search "take"
  rename_i n5 x y z h9 h10
  have ok0 : PoolOk ls ts := ⟨fun e => by subst e; simp at hl; omega, fun e => by subst e; simp at hl2; omega, by omega, by omega, hw, hw2⟩
  k_search "go"
  refine iteD (fun hc => ?_) fun hc => ?_
  · obtain ⟨ms, em, hm1, hm2, hm3⟩ := cut_strs ts
    k_search "go"
    rw [em]
    refine ⟨imm_strs ms, ?_⟩
    with_reducible apply st_n
    · k_search "len"
    · intro _; k_search "set"
    intro ad
    refine go_ret (ex_lst (exa_cons (ex_frzB ⟨_, _, rfl, ?_⟩)))
    k_search "nrm"
    refine exa_cons (ex_frzB ⟨_, _, rfl, ?_⟩)
    k_search "nrm"
    k_search "go"
    exact ⟨_, _, ⟨rfl, _, rfl, rfl⟩, rfl, hQ ls ms _ _ _ _ ⟨ok0.l1, hm2 ok0.l2, ok0.l3, Nat.le_trans hm3 ok0.l4, hw, fun w h => hw2 w (hm1 w h)⟩⟩
  · refine go_next ?_
    refine go_ret (ex_lst (exa_cons (ex_frzB ⟨_, _, rfl, ?_⟩)))
    k_search "nrm"
    refine exa_cons (ex_frzB ⟨_, _, rfl, ?_⟩)
    k_search "nrm"
    k_search "go"
    exact ⟨_, _, ⟨rfl, _, rfl, rfl⟩, rfl, hQ ls ts _ _ _ _ ok0⟩
set_option Elab.async false
set_option linter.all false
set_option maxRecDepth 100000
set_option maxHeartbeats 4000001
open PySem L2 LamX NdefX PyProof.Rows GenW Pl
variable {P : Program} {w : World} {K : PySem.W.Frag} {mg : Str → Option Value} {base : Heap} {T : List NTab} {ts : List Str}
theorem PoolOk.f {ls ties : List Str} (h : PoolOk ls ties) : (1 : Int) ≤ ((ls.map PyData.str).length : Nat) ∧ ((ls.map PyData.str).length : Int) ≤ 1000 ∧ (1 : Int) ≤ ((ties.map PyData.str).length : Nat) ∧ ((ties.map PyData.str).length : Int) ≤ 1000 := by
  have h1 := List.length_pos_iff.mpr h.l1
  have h2 := List.length_pos_iff.mpr h.l2
  have h3 := h.l3
  have h4 := h.l4
  rw [List.length_map, List.length_map]
  exact ⟨by omega, by omega, by omega, by omega⟩
def F_term (h : Nat) : FS := fun as Q => ∃ (x y z : Int) (ls ties : List Str) (e d l : Int), as = [.own (bx x y z), .val (pool ls ties e), .val (.int d), .own (.lst [.int l])] ∧ PoolOk ls ties ∧ 1 ≤ d ∧ d ≤ h ∧ 1 ≤ l ∧ l ≤ 500 ∧
  ∀ (t : Tm) (x y z l' : Int), t.good → ((t.ht : Nat) : Int) ≤ d → 0 ≤ l' → ((t.cnt : Nat) : Int) + l' ≤ l → Q (.val t.d) [bx x y z, .lst [.int l']]
theorem at6 {n : Int} (h1 : 0 ≤ n) (h2 : n < 6) : ∃ m : Nat, m ≤ 9 ∧ atI [PyData.int 2, .int 3, .int 1, .int 0, .int 4, .int 9] n = some (.int m) := by
  have : n = 0 ∨ n = 1 ∨ n = 2 ∨ n = 3 ∨ n = 4 ∨ n = 5 := by omega
  rcases this with rfl | rfl | rfl | rfl | rfl | rfl
  · exact ⟨2, by decide, rfl⟩
  · exact ⟨3, by decide, rfl⟩
  · exact ⟨1, by decide, rfl⟩
  · exact ⟨0, by decide, rfl⟩
  · exact ⟨4, by decide, rfl⟩
  · exact ⟨9, by decide, rfl⟩
theorem htL_snoc (ps : List Tm) (t : Tm) {n : Nat} (h : Tm.htL ps ≤ n) (k : t.ht ≤ n) : Tm.htL (ps ++ [t]) ≤ n := by
  induction ps with
  | nil => exact Nat.max_le.mpr ⟨k, Nat.zero_le _⟩
  | cons p ps ih =>
    have h : max p.ht (Tm.htL ps) ≤ n := h
    exact Nat.max_le.mpr ⟨by omega, ih (by omega)⟩
theorem goodL_snoc (ps : List Tm) (t : Tm) (h : Tm.goodL ps) (k : t.good) : Tm.goodL (ps ++ [t]) := Tm.goodL_iff.mpr fun x hx => (List.mem_append.mp hx).elim (Tm.goodL_iff.mp h x) fun q => by rw [List.mem_singleton.mp q]; exact k
theorem cntL_snoc (ps : List Tm) (t : Tm) : Tm.cntL (ps ++ [t]) = Tm.cntL ps + t.cnt := by rw [Pl.cntL_app]; show _ + (t.cnt + 0) = _; omega
theorem ok_lterm (c : Al K mg base ds fr ts cs) (h__law_take : Ok P w K mg base 1 "_law_take" ["box", "many"] (spOf K T F_take)) : ∀ h : Nat, Ok P w K mg base (h + 2) "_law_term" ["box", "pool", "deep", "left"] (spOf K T (F_term h))
  | 0 => by
    have nd := sc__law_term.nd
    have kTOP := c.cs _ (.head _)
    have kBOTTOM := c.cs _ (.tail _ (.head _))
    have kRESERVED := c.cs _ (.tail _ (.tail _ (.tail _ (.tail _ (.tail _ (.head _))))))
    refine ok_of c (.tail _ (.tail _ (.tail _ (.tail _ (.tail _ (.tail _ (.tail _ (.tail _ (.tail _ (.tail _ (.tail _ (.tail _ (.tail _ (.tail _ (.tail _ (.tail _ (.tail _ (.tail _ (.tail _ (.tail _ (.tail _ (.tail _ (.tail _ (.tail _ (.tail _ (.tail _ (.tail _ (.tail _ (.tail _ (.tail _ (.tail _ (.tail _ (.head _))))))))))))))))))))))))))))))))) (fun _ _ _ _ _ _ us hl => match us, hl with | [_, _, _, _], _ => rfl) sc__law_term (fun as Q h => by first | (obtain ⟨_, rfl, _⟩ := h; rfl) | (obtain ⟨_, _, rfl, _⟩ := h; rfl) | (obtain ⟨_, _, _, rfl, _⟩ := h; rfl) | (obtain ⟨_, _, _, _, rfl, _⟩ := h; rfl) | (obtain ⟨_, _, _, _, _, rfl, _⟩ := h; rfl) | (obtain ⟨_, _, _, _, _, _, rfl, _⟩ := h; rfl) | (obtain ⟨_, _, _, _, _, _, _, rfl, _⟩ := h; rfl) | (obtain ⟨_, _, _, _, _, _, _, _, rfl, _⟩ := h; rfl) | (obtain ⟨_, _, _, _, _, _, _, _, _, rfl, _⟩ := h; rfl) | (obtain ⟨rfl, _⟩ := h; rfl)) fun f cdv A outer s H E hr as Q qs hF hq => ?_
    obtain ⟨x, y, z, ls, ties, e, d, l, rfl, _, h1, h2, _⟩ := hF
    omega
  | h + 1 => by
    have h__law_term := ok_lterm c h__law_take h
    have nd := sc__law_term.nd
    have kTOP := c.cs _ (.head _)
    have kBOTTOM := c.cs _ (.tail _ (.head _))
    have kRESERVED := c.cs _ (.tail _ (.tail _ (.tail _ (.tail _ (.tail _ (.head _))))))
    refine ok_of c (.tail _ (.tail _ (.tail _ (.tail _ (.tail _ (.tail _ (.tail _ (.tail _ (.tail _ (.tail _ (.tail _ (.tail _ (.tail _ (.tail _ (.tail _ (.tail _ (.tail _ (.tail _ (.tail _ (.tail _ (.tail _ (.tail _ (.tail _ (.tail _ (.tail _ (.tail _ (.tail _ (.tail _ (.tail _ (.tail _ (.tail _ (.tail _ (.head _))))))))))))))))))))))))))))))))) (fun _ _ _ _ _ _ us hl => match us, hl with | [_, _, _, _], _ => rfl) sc__law_term (fun as Q h => by first | (obtain ⟨_, rfl, _⟩ := h; rfl) | (obtain ⟨_, _, rfl, _⟩ := h; rfl) | (obtain ⟨_, _, _, rfl, _⟩ := h; rfl) | (obtain ⟨_, _, _, _, rfl, _⟩ := h; rfl) | (obtain ⟨_, _, _, _, _, rfl, _⟩ := h; rfl) | (obtain ⟨_, _, _, _, _, _, rfl, _⟩ := h; rfl) | (obtain ⟨_, _, _, _, _, _, _, rfl, _⟩ := h; rfl) | (obtain ⟨_, _, _, _, _, _, _, _, rfl, _⟩ := h; rfl) | (obtain ⟨_, _, _, _, _, _, _, _, _, rfl, _⟩ := h; rfl) | (obtain ⟨rfl, _⟩ := h; rfl)) fun f cdv A outer s H E hr as Q qs hF hq => ?_
    obtain ⟨x, y, z, ls, ties, e, d, l, rfl, po, hd1, hd2, hl1, hl2, hQ⟩ := hF
    match qs, hq with
    | [p, q], _ =>
    refine ⟨_, (pss_cons (ps_asg (pe_op op_sub (pe_ix (r := rIxL K) ix_list (pv 3) pe_int (fun _ _ => rfl)) pe_int) (pg_sub (pv 3) pe_int set_list))
    (pss_cons (ps_set (i := 4) nd rfl (Or.inl rfl) (pe_f h__law_take (hr.mono (by omega)) rfl (pa_cons (pv 0) (pa_cons pe_int pa_nil))))
    (pss_cons (ps_if (pt_cmpR op_eq (pv 4) pe_int (nomark _)) (pss_cons (ps_if (PW.pt (pw_and (pt_cmpR op_eq (pe_ix (r := rIxL K) ix_list (pv 1) pe_int (fun _ _ => rfl)) pe_int (nomark _)) (pw_and1 (pt_cmpR op_eq (pe_f h__law_take (hr.mono (by omega)) rfl (pa_cons (pv 0) (pa_cons pe_int pa_nil))) pe_int (nomark _))))) (pss_one (ps_ret (pe_tup (pa_cons pe_str pa_nil)))) pss_nil)
    (pss_one (ps_ret (pe_tup (pa_cons pe_str pa_nil))))) pss_nil)
    (pss_cons (ps_if (PW.pt (pw_or (pt_cmpR op_eq (pv 2) pe_int (nomark _)) (pw_or (pt_cmpR op_eq (pe_ix (r := rIxL K) ix_list (pv 3) pe_int (fun _ _ => rfl)) pe_int (nomark _)) (pw_or1 (pt_cmpR op_lt (pv 4) pe_int (nomark _)))))) (pss_one (ps_ret (pe_tup (pa_cons pe_str (pa_cons (pe_ix (r := rIxL K) ix_list (pe_ix (r := rIxL K) ix_list (pv 1) pe_int (fun _ _ => rfl)) (pe_f h__law_take (hr.mono (by omega)) rfl (pa_cons (pv 0) (pa_cons (pe_callB (r := Pl.rLen K) call_len rfl (c.fr _ (.tail _ (.tail _ (.tail _ (.head _))))) PySem.boot_len (pa_cons (pe_ix (r := rIxL K) ix_list (pv 1) pe_int (fun _ _ => rfl)) pa_nil)) pa_nil))) (fun _ _ => rfl)) pa_nil))))) pss_nil)
    (pss_cons (ps_if (pt_cmpR op_lt (pv 4) pe_int (nomark _)) (pss_cons (ps_set (i := 7) nd rfl (Or.inl rfl) (pe_ix (r := rIxL K) ix_list (pe_ix (r := rIxL K) ix_list (pv 1) pe_int (fun _ _ => rfl)) (pe_f h__law_take (hr.mono (by omega)) rfl (pa_cons (pv 0) (pa_cons (pe_callB (r := Pl.rLen K) call_len rfl (c.fr _ (.tail _ (.tail _ (.tail _ (.head _))))) PySem.boot_len (pa_cons (pe_ix (r := rIxL K) ix_list (pv 1) pe_int (fun _ _ => rfl)) pa_nil)) pa_nil))) (fun _ _ => rfl)))
    (pss_one (ps_ret (pe_tup (pa_cons pe_str (pa_cons (pv 7) (pa_cons (pe_f h__law_term (hr.mono (by omega)) rfl (pa_cons (pv 0) (pa_cons (pv 1) (pa_cons (pe_op op_sub (pv 2) pe_int) (pa_cons (pv 3) pa_nil))))) pa_nil))))))) pss_nil)
    (pss_cons (ps_set (i := 5) nd rfl (Or.inl rfl) (pe_lst pa_nil))
    (pss_cons (ps_for PassesOwn.never rfl (pi_range1 rfl (c.fr _ (.tail _ (.tail _ (.tail _ (.tail _ (.tail _ (.tail _ (.tail _ (.tail _ (.tail _ (.tail _ (.tail _ (.tail _ (.head _)))))))))))))) (pa_cons (pe_ix (r := rIxL K) ix_list (pe_lst (pa_cons pe_int (pa_cons pe_int (pa_cons pe_int (pa_cons pe_int (pa_cons pe_int (pa_cons pe_int pa_nil))))))) (pe_f h__law_take (hr.mono (by omega)) rfl (pa_cons (pv 0) (pa_cons pe_int pa_nil))) (fun _ _ => rfl)) pa_nil)) (pg_name (i := 6) nd rfl (Or.inl rfl)) (pss_one (ps_if (pt_cmpR op_gt (pe_ix (r := rIxL K) ix_list (pv 3) pe_int (fun _ _ => rfl)) pe_int (nomark _)) (pss_one (ps_expr (pe_bmK (K0 := K) PySem.F.plainAttrs_list PySem.F.slot_list_append PySem.F.type_list_append mt_append (pv 5) (pa_cons (pe_f h__law_term (hr.mono (by omega)) rfl (pa_cons (pv 0) (pa_cons (pv 1) (pa_cons (pe_op op_sub (pv 2) pe_int) (pa_cons (pv 3) pa_nil))))) pa_nil)))) pss_nil)))
    (pss_one (ps_ret (pe_tup (pa_cons pe_str (pa_cons (pe_callTy (r := rTupOf K) call_tuple_of rfl (c.fr _ (.tail _ (.tail _ (.tail _ (.tail _ (.head _)))))) PyProof.Rows.boot_tuple (pa_cons (pv 5) pa_nil)) pa_nil)))))))))))), ?_⟩
    show Ss K T _ [.own p _, .val _, .val _, .own q _, .no, .no, .no, .no] _
    obtain ⟨f1, f2, f3, f4⟩ := po.f
    have w1 := po.l5
    have w2 := po.l6
    unfold pool
    k_search "go"
    k_search "take"
    rename_i kd x y z h1 h2
    k_search "go"
    refine iteD (fun hk0 => ?_) fun hk0 => ?_
    · k_search "go"
      refine iteD (fun he => ?_) fun he => ?_
      · k_search "go"
        k_search "take"
        rename_i n x y z h3 h4
        k_search "go"
        refine iteD (fun hb => ?_) fun hb => ?_
        · k_search "go"
          exact ⟨_, _, ⟨rfl, _, rfl, rfl, _, rfl, rfl⟩, rfl, hQ .bot _ _ _ _ trivial hd1 (by omega) (by show ((1 : Nat) : Int) + _ ≤ _; omega)⟩
        · k_search "go"
          exact ⟨_, _, ⟨rfl, _, rfl, rfl, _, rfl, rfl⟩, rfl, hQ .top _ _ _ _ trivial hd1 (by omega) (by show ((1 : Nat) : Int) + _ ≤ _; omega)⟩
      · k_search "go"
        exact ⟨_, _, ⟨rfl, _, rfl, rfl, _, rfl, rfl⟩, rfl, hQ .top _ _ _ _ trivial hd1 (by omega) (by show ((1 : Nat) : Int) + _ ≤ _; omega)⟩
    · k_search "go"
      refine iteD (fun hd => ?_) fun hd => ?_
      · k_search "go"
        k_search "take"
        rename_i n x y z h3 h4
        obtain ⟨v, hv, hat⟩ := at_str h3 h4
        k_search "go"
        exact ⟨_, _, ⟨rfl, _, rfl, rfl, _, rfl, rfl⟩, rfl, hQ (.name v) _ _ _ _ (w1 v hv) hd1 (by omega) (by show ((1 : Nat) : Int) + _ ≤ _; omega)⟩
      k_search "go"
      refine iteD (fun hl0 => ?_) fun hl0 => ?_
      · k_search "go"
        k_search "take"
        rename_i n x y z h3 h4
        obtain ⟨v, hv, hat⟩ := at_str h3 h4
        k_search "go"
        exact ⟨_, _, ⟨rfl, _, rfl, rfl, _, rfl, rfl⟩, rfl, hQ (.name v) _ _ _ _ (w1 v hv) hd1 (by omega) (by show ((1 : Nat) : Int) + _ ≤ _; omega)⟩
      k_search "go"
      refine iteD (fun hk4 => ?_) fun hk4 => ?_
      · k_search "go"
        k_search "take"
        rename_i n x y z h3 h4
        obtain ⟨v, hv, hat⟩ := at_str h3 h4
        k_search "go"
        exact ⟨_, _, ⟨rfl, _, rfl, rfl, _, rfl, rfl⟩, rfl, hQ (.name v) _ _ _ _ (w1 v hv) hd1 (by omega) (by show ((1 : Nat) : Int) + _ ≤ _; omega)⟩
      k_search "go"
      refine iteD (fun hk8 => ?_) fun hk8 => ?_
      · k_search "go"
        k_search "take"
        rename_i n x y z h3 h4
        obtain ⟨r, hr1, hat⟩ := at_str h3 h4
        k_search "go"
        refine cx [.own _, .val _, .val _, .own _] [0, 3] ⟨rfl, ⟨_, rfl⟩, rfl, rfl, rfl, ⟨_, rfl⟩, trivial⟩ (by decide) ⟨_, _, _, ls, ties, e, d - 1, l - 1, rfl, po, by omega, by omega, by omega, by omega, fun t x y z l' g ht hl hc => ⟨rim2 (Tm.imm_d _) rfl rfl, ?_⟩⟩
        k_search "nrm"
        k_search "go"
        exact ⟨_, _, ⟨rfl, _, rfl, rfl, _, rfl, rfl⟩, rfl, hQ (.some r t) _ _ _ _ ⟨w2 r hr1, g⟩ (by show ((t.ht + 1 : Nat) : Int) ≤ d; omega) hl (by show ((t.cnt + 1 : Nat) : Int) + _ ≤ _; omega)⟩
      k_search "go"
      refine go_forRx ?_
      k_search "go"
      k_search "take"
      rename_i n x y z h3 h4
      obtain ⟨m, hm, hat⟩ := at6 h3 h4
      refine ⟨_, _, _, rfl, rfl, hat, .inl rfl, ?_⟩
      k_search "go"
      rename_i ad
      refine ⟨by omega, fun k δ => ∃ (x y z l' : Int) (a : Addr) (ps : List Tm) (s s2 : Sl), Tm.goodL ps ∧ ((Tm.htL ps : Nat) : Int) ≤ d - 1 ∧ 0 ≤ l' ∧ ((Tm.cntL ps : Nat) : Int) + l' ≤ l - 1 ∧
        δ = [.own p (bx x y z), .val (.list [.list (ls.map .str), .list (ties.map .str), .int e]), .val (.int d), .own q (.lst [.int l']), .val (.int kd), .own a (.lst (ps.map Tm.d)), s, s2],
        ⟨_, _, _, _, _, [], _, _, trivial, (by show ((0 : Nat) : Int) ≤ d - 1; omega), by omega, (by show ((0 : Nat) : Int) + _ ≤ _; omega), rfl⟩, ?_, ?_⟩
      · rintro k δ2 hk ⟨x, y, z, l', a, ps, s, s2, g, hh, hl0, hc, rfl⟩
        have lps := Tm.len_cntL ps
        have hlm : (ps.map Tm.d).length < 100000 := by rw [List.length_map]; omega
        k_search "nrm"
        k_search "go"
        refine iteD (fun hp => ?_) fun hp => ?_
        · k_search "go"
          refine cx [.own _, .val _, .val _, .own _] [0, 3] ⟨rfl, ⟨_, rfl⟩, rfl, rfl, rfl, ⟨_, rfl⟩, trivial⟩ (by decide) ⟨_, _, _, ls, ties, e, d - 1, l', rfl, po, by omega, by omega, by omega, by omega, fun t x y z l2 g2 ht hl hc2 => ⟨rim2 (Tm.imm_d _) rfl rfl, ?_⟩⟩
          k_search "nrm"
          k_search "go"
          refine ⟨_, _, _, _, _, ps ++ [t], _, _, goodL_snoc ps t g g2, ?_, hl, ?_, by rw [List.map_append]; rfl⟩
          · have := htL_snoc ps t (n := (d - 1).toNat) (by omega) (by omega)
            omega
          · rw [cntL_snoc]; omega
        · k_search "go"
          exact ⟨_, _, _, _, _, ps, _, _, g, hh, hl0, hc, rfl⟩
      · rintro δ2 ⟨x, y, z, l', a, ps, s, s2, g, hh, hl0, hc, rfl⟩
        k_search "go"
        refine cb_tupL tm_imm ?_
        k_search "go"
        refine ⟨_, _, ⟨rfl, _, rfl, rfl, _, rfl, rfl⟩, rfl, ?_⟩
        have e1 : PyData.tuple [.str "and", .tuple (ps.map Tm.d)] = (Tm.and ps).d := by rw [← Tm.dL_map]; rfl
        rw [e1]
        exact hQ (.and ps) _ _ _ _ g (by show ((Tm.htL ps + 1 : Nat) : Int) ≤ d; omega) hl0 (by show ((Tm.cntL ps + 1 : Nat) : Int) + _ ≤ _; omega)
set_option Elab.async false
set_option linter.all false
set_option maxRecDepth 100000
set_option maxHeartbeats 4000001
open PySem L2 LamX NdefX PyProof.Rows GenW Pl
variable {P : Program} {w : World} {K : PySem.W.Frag} {mg : Str → Option Value} {base : Heap} {T : List NTab} {ts : List Str}
def F_root (h : Nat) : FS := fun as Q => ∃ (x y z : Int) (ls ties : List Str) (e d r : Int), as = [.own (bx x y z), .val (pool ls ties e), .val (.int d), .val (.int r)] ∧ PoolOk ls ties ∧ 3 ≤ d ∧ d ≤ h ∧ 5 ≤ r ∧ r ≤ 100 ∧
  ∀ (t : Tm) (x y z : Int), t.good → ((t.ht : Nat) : Int) ≤ d → ((t.cnt : Nat) : Int) ≤ r → Q (.val t.d) [bx x y z]
def F_wide : FS := fun as Q => ∃ (x y z : Int) (ls ties : List Str) (e r : Int), as = [.own (bx x y z), .val (pool ls ties e), .val (.int r)] ∧ PoolOk ls ties ∧ 5 ≤ r ∧ r ≤ 100 ∧
  ∀ (t : Tm) (x y z : Int), t.good → t.ht ≤ 3 → ((t.cnt : Nat) : Int) ≤ r → Q (.val t.d) [bx x y z]
theorem ok_lchain (c : Al K mg base ds fr ts cs) (h__law_take : Ok P w K mg base 1 "_law_take" ["box", "many"] (spOf K T F_take)) : Ok P w K mg base 2 "_law_chain" ["box", "pool", "deep", "room"] (spOf K T (F_root 12)) := by
  have nd := sc__law_chain.nd
  have kTOP := c.cs _ (.head _)
  have kBOTTOM := c.cs _ (.tail _ (.head _))
  have kRESERVED := c.cs _ (.tail _ (.tail _ (.tail _ (.tail _ (.tail _ (.head _))))))
  refine ok_of c (.tail _ (.tail _ (.tail _ (.tail _ (.tail _ (.tail _ (.tail _ (.tail _ (.tail _ (.tail _ (.tail _ (.tail _ (.tail _ (.tail _ (.tail _ (.tail _ (.tail _ (.tail _ (.tail _ (.tail _ (.tail _ (.tail _ (.tail _ (.tail _ (.tail _ (.tail _ (.tail _ (.tail _ (.tail _ (.tail _ (.tail _ (.tail _ (.tail _ (.head _)))))))))))))))))))))))))))))))))) (fun _ _ _ _ _ _ us hl => match us, hl with | [_, _, _, _], _ => rfl) sc__law_chain (fun as Q h => by first | (obtain ⟨_, rfl, _⟩ := h; rfl) | (obtain ⟨_, _, rfl, _⟩ := h; rfl) | (obtain ⟨_, _, _, rfl, _⟩ := h; rfl) | (obtain ⟨_, _, _, _, rfl, _⟩ := h; rfl) | (obtain ⟨_, _, _, _, _, rfl, _⟩ := h; rfl) | (obtain ⟨_, _, _, _, _, _, rfl, _⟩ := h; rfl) | (obtain ⟨_, _, _, _, _, _, _, rfl, _⟩ := h; rfl) | (obtain ⟨_, _, _, _, _, _, _, _, rfl, _⟩ := h; rfl) | (obtain ⟨_, _, _, _, _, _, _, _, _, rfl, _⟩ := h; rfl) | (obtain ⟨rfl, _⟩ := h; rfl)) fun f cdv A outer s H E hr as Q qs hF hq => ?_
  obtain ⟨x, y, z, ls, ties, e, d, r, rfl, po, hd1, hd2, hr1, hr2, hQ⟩ := hF
  obtain ⟨p, rfl⟩ := List.length_eq_one_iff.mp hq
  refine ⟨_, (pss_cons (ps_set (i := 4) nd rfl (Or.inl rfl) (pe_tup (pa_cons pe_str (pa_cons (pe_ix (r := rIxL K) ix_list (pe_ix (r := rIxL K) ix_list (pv 1) pe_int (fun _ _ => rfl)) (pe_f h__law_take (hr.mono (by omega)) rfl (pa_cons (pv 0) (pa_cons (pe_callB (r := Pl.rLen K) call_len rfl (c.fr _ (.tail _ (.tail _ (.tail _ (.head _))))) PySem.boot_len (pa_cons (pe_ix (r := rIxL K) ix_list (pv 1) pe_int (fun _ _ => rfl)) pa_nil)) pa_nil))) (fun _ _ => rfl)) pa_nil))))
    (pss_cons (ps_set (i := 5) nd rfl (Or.inl rfl) pe_int)
    (pss_cons (ps_set (i := 6) nd rfl (Or.inl rfl) pe_int)
    (pss_cons (ps_for PassesOwn.never rfl (pi_range1 rfl (c.fr _ (.tail _ (.tail _ (.tail _ (.tail _ (.tail _ (.tail _ (.tail _ (.tail _ (.tail _ (.tail _ (.tail _ (.tail _ (.head _)))))))))))))) (pa_cons (pv 2) pa_nil)) (pg_name (i := 7) nd rfl (Or.inl rfl)) (pss_cons (ps_set (i := 8) nd rfl (Or.inl rfl) (pe_ix (r := rIxL K) ix_list (pe_ix (r := rIxL K) ix_list (pv 1) pe_int (fun _ _ => rfl)) (pe_f h__law_take (hr.mono (by omega)) rfl (pa_cons (pv 0) (pa_cons (pe_callB (r := Pl.rLen K) call_len rfl (c.fr _ (.tail _ (.tail _ (.tail _ (.head _))))) PySem.boot_len (pa_cons (pe_ix (r := rIxL K) ix_list (pv 1) pe_int (fun _ _ => rfl)) pa_nil)) pa_nil))) (fun _ _ => rfl)))
    (pss_one (ps_if (PW.pt (pw_and (pt_cmpR op_eq (pe_f h__law_take (hr.mono (by omega)) rfl (pa_cons (pv 0) (pa_cons pe_int pa_nil))) pe_int (nomark _)) (pw_and (pt_cmpR op_le (pe_op op_add (pv 5) pe_int) (pv 3) (nomark _)) (pw_and1 (pt_cmpR op_le (pe_op op_add (pv 6) pe_int) (pv 2) (nomark _)))))) (pss_cons (ps_set (i := 4) nd rfl (Or.inl rfl) (pe_tup (pa_cons pe_str (pa_cons (pe_tup (pa_cons (pe_tup (pa_cons pe_str (pa_cons (pv 8) (pa_cons (pv 4) pa_nil)))) (pa_cons (pe_tup (pa_cons pe_str (pa_cons (pe_ix (r := rIxL K) ix_list (pe_ix (r := rIxL K) ix_list (pv 1) pe_int (fun _ _ => rfl)) (pe_f h__law_take (hr.mono (by omega)) rfl (pa_cons (pv 0) (pa_cons (pe_callB (r := Pl.rLen K) call_len rfl (c.fr _ (.tail _ (.tail _ (.tail _ (.head _))))) PySem.boot_len (pa_cons (pe_ix (r := rIxL K) ix_list (pv 1) pe_int (fun _ _ => rfl)) pa_nil)) pa_nil))) (fun _ _ => rfl)) pa_nil))) pa_nil))) pa_nil))))
    (pss_cons (ps_set (i := 5) nd rfl (Or.inl rfl) (pe_op op_add (pv 5) pe_int))
    (pss_one (ps_set (i := 6) nd rfl (Or.inl rfl) (pe_op op_add (pv 6) pe_int))))) (pss_one (ps_if (PW.pt (pw_and (pt_cmpR op_le (pe_op op_add (pv 5) pe_int) (pv 3) (nomark _)) (pw_and1 (pt_cmpR op_le (pe_op op_add (pv 6) pe_int) (pv 2) (nomark _))))) (pss_cons (ps_set (i := 4) nd rfl (Or.inl rfl) (pe_tup (pa_cons pe_str (pa_cons (pv 8) (pa_cons (pv 4) pa_nil)))))
    (pss_cons (ps_set (i := 5) nd rfl (Or.inl rfl) (pe_op op_add (pv 5) pe_int))
    (pss_one (ps_set (i := 6) nd rfl (Or.inl rfl) (pe_op op_add (pv 6) pe_int))))) pss_nil))))))
    (pss_one (ps_ret (pv 4))))))), ?_⟩
  show Ss K T _ [.own p _, .val _, .val _, .val _, .no, .no, .no, .no, .no] _
  obtain ⟨f1, f2, f3, f4⟩ := po.f
  have w1 := po.l5
  have w2 := po.l6
  obtain ⟨D, rfl⟩ : ∃ k : Nat, d = k := ⟨d.toNat, by omega⟩
  unfold pool
  k_search "go"
  k_search "take"
  rename_i n x y z h1 h2
  obtain ⟨v, hv, hat⟩ := at_str h1 h2
  k_search "go"
  refine go_forR D (fun k δ => ∃ (x y z : Int) (t : Tm) (s1 s2 : Sl), t.good ∧ ((t.ht : Nat) : Int) ≤ D ∧ ((t.cnt : Nat) : Int) ≤ r ∧
    δ = [.own p (bx x y z), .val (.list [.list (ls.map .str), .list (ties.map .str), .int e]), .val (.int D), .val (.int r), .val t.d, .val (.int t.cnt), .val (.int t.ht), s1, s2]) (by omega) ?_ ?_ ?_
  · k_search "go"
    exact ⟨rfl, _, _, _, .name v, _, _, w1 v hv, (by show ((1 : Nat) : Int) ≤ _; omega), (by show ((1 : Nat) : Int) ≤ _; omega), rfl⟩
  · rintro k δ2 hk ⟨x, y, z, t, s1, s2, g, hh, hc, rfl⟩
    have tp := t.ht_pos
    have tc := t.cnt_pos
    k_search "nrm"
    k_search "go"
    k_search "take"
    rename_i n x y z h3 h4
    obtain ⟨q, hq1, hat2⟩ := at_str h3 h4
    k_search "go"
    k_search "take"
    rename_i n2 x y z h5 h6
    k_search "go"
    by_cases hA : n2 = 1 ∧ ((t.cnt : Nat) : Int) + 3 ≤ r ∧ ((t.ht : Nat) : Int) + 2 ≤ D
    · obtain ⟨a1, a2, a3⟩ := hA
      subst a1
      refine iteD (fun _ => ?_) fun z => absurd rfl z
      k_search "go"
      k_search "take"
      rename_i n3 x y z h7 h8
      obtain ⟨v2, hv2, hat3⟩ := at_str h7 h8
      k_search "go"
      refine ⟨x, y, z, .and [.some q t, .name v2], .val (.int k), .val (.str q), ⟨⟨w2 q hq1, g⟩, w1 v2 hv2, trivial⟩, ?_, ?_, ?_⟩
      · show ((max (t.ht + 1) (max 1 0) + 1 : Nat) : Int) ≤ D
        omega
      · show (((t.cnt + 1) + (1 + 0) + 1 : Nat) : Int) ≤ r
        omega
      · have e1 : ((t.cnt : Nat) : Int) + 3 = (((Tm.and [.some q t, .name v2]).cnt : Nat) : Int) := by
          show _ = (((t.cnt + 1) + (1 + 0) + 1 : Nat) : Int)
          omega
        have e2 : ((t.ht : Nat) : Int) + 2 = (((Tm.and [.some q t, .name v2]).ht : Nat) : Int) := by
          show _ = ((max (t.ht + 1) (max 1 0) + 1 : Nat) : Int)
          omega
        rw [← e1, ← e2]
        rfl
    · have hB : n2 ≠ 1 ∨ (n2 = 1 ∧ ¬ ((t.cnt : Nat) : Int) + 3 ≤ r) ∨ (n2 = 1 ∧ ((t.cnt : Nat) : Int) + 3 ≤ r ∧ ¬ ((t.ht : Nat) : Int) + 2 ≤ D) := by omega
      have e1 : ((t.cnt : Nat) : Int) + 1 = (((Tm.some q t).cnt : Nat) : Int) := by
        show _ = ((t.cnt + 1 : Nat) : Int)
        omega
      have e2 : ((t.ht : Nat) : Int) + 1 = (((Tm.some q t).ht : Nat) : Int) := by
        show _ = ((t.ht + 1 : Nat) : Int)
        omega
      rcases hB with a1 | ⟨a1, a2⟩ | ⟨a1, a2, a3⟩
      · refine iteD (fun z => absurd z a1) fun _ => ?_
        k_search "go"
        refine iteD (fun b1 => ?_) fun b1 => ?_
        · k_search "go"
          refine iteD (fun b2 => ?_) fun b2 => ?_
          · k_search "go"
            refine ⟨x, y, z, .some q t, .val (.int k), .val (.str q), ⟨w2 q hq1, g⟩, ?_, ?_, ?_⟩
            · rw [← e2]; exact b2
            · rw [← e1]; exact b1
            · rw [← e1, ← e2]; rfl
          · k_search "go"
            exact ⟨_, _, _, t, _, _, g, hh, hc, rfl⟩
        · k_search "go"
          exact ⟨_, _, _, t, _, _, g, hh, hc, rfl⟩
      · refine iteD (fun _ => ?_) fun z => absurd a1 z
        k_search "go"
        refine iteD (fun b1 => ?_) fun b1 => ?_
        · k_search "go"
          refine iteD (fun b2 => ?_) fun b2 => ?_
          · k_search "go"
            refine ⟨x, y, z, .some q t, .val (.int k), .val (.str q), ⟨w2 q hq1, g⟩, ?_, ?_, ?_⟩
            · rw [← e2]; exact b2
            · rw [← e1]; exact b1
            · rw [← e1, ← e2]; rfl
          · k_search "go"
            exact ⟨_, _, _, t, _, _, g, hh, hc, rfl⟩
        · k_search "go"
          exact ⟨_, _, _, t, _, _, g, hh, hc, rfl⟩
      · refine iteD (fun _ => ?_) fun z => absurd a1 z
        k_search "go"
        refine iteD (fun b1 => ?_) fun b1 => ?_
        · k_search "go"
          refine iteD (fun b2 => ?_) fun b2 => ?_
          · k_search "go"
            refine ⟨x, y, z, .some q t, .val (.int k), .val (.str q), ⟨w2 q hq1, g⟩, ?_, ?_, ?_⟩
            · rw [← e2]; exact b2
            · rw [← e1]; exact b1
            · rw [← e1, ← e2]; rfl
          · k_search "go"
            exact ⟨_, _, _, t, _, _, g, hh, hc, rfl⟩
        · k_search "go"
          exact ⟨_, _, _, t, _, _, g, hh, hc, rfl⟩
  · rintro δ2 ⟨x, y, z, t, s1, s2, g, hh, hc, rfl⟩
    k_search "go"
    exact ⟨_, _, ⟨rfl, _, rfl, rfl⟩, rfl, hQ t _ _ _ g hh hc⟩
theorem ok_lwide (c : Al K mg base ds fr ts cs) (h__law_take : Ok P w K mg base 1 "_law_take" ["box", "many"] (spOf K T F_take)) : Ok P w K mg base 2 "_law_wide" ["box", "pool", "room"] (spOf K T F_wide) := by
  have nd := sc__law_wide.nd
  have kTOP := c.cs _ (.head _)
  have kBOTTOM := c.cs _ (.tail _ (.head _))
  have kRESERVED := c.cs _ (.tail _ (.tail _ (.tail _ (.tail _ (.tail _ (.head _))))))
  refine ok_of c (.tail _ (.tail _ (.tail _ (.tail _ (.tail _ (.tail _ (.tail _ (.tail _ (.tail _ (.tail _ (.tail _ (.tail _ (.tail _ (.tail _ (.tail _ (.tail _ (.tail _ (.tail _ (.tail _ (.tail _ (.tail _ (.tail _ (.tail _ (.tail _ (.tail _ (.tail _ (.tail _ (.tail _ (.tail _ (.tail _ (.tail _ (.tail _ (.tail _ (.tail _ (.head _))))))))))))))))))))))))))))))))))) (fun _ _ _ _ _ _ us hl => match us, hl with | [_, _, _], _ => rfl) sc__law_wide (fun as Q h => by first | (obtain ⟨_, rfl, _⟩ := h; rfl) | (obtain ⟨_, _, rfl, _⟩ := h; rfl) | (obtain ⟨_, _, _, rfl, _⟩ := h; rfl) | (obtain ⟨_, _, _, _, rfl, _⟩ := h; rfl) | (obtain ⟨_, _, _, _, _, rfl, _⟩ := h; rfl) | (obtain ⟨_, _, _, _, _, _, rfl, _⟩ := h; rfl) | (obtain ⟨_, _, _, _, _, _, _, rfl, _⟩ := h; rfl) | (obtain ⟨_, _, _, _, _, _, _, _, rfl, _⟩ := h; rfl) | (obtain ⟨_, _, _, _, _, _, _, _, _, rfl, _⟩ := h; rfl) | (obtain ⟨rfl, _⟩ := h; rfl)) fun f cdv A outer s H E hr as Q qs hF hq => ?_
  obtain ⟨x, y, z, ls, ties, e, r, rfl, po, hr1, hr2, hQ⟩ := hF
  obtain ⟨p, rfl⟩ := List.length_eq_one_iff.mp hq
  refine ⟨_, (pss_cons (ps_set (i := 3) nd rfl (Or.inl rfl) (pe_f h__law_take (hr.mono (by omega)) rfl (pa_cons (pv 0) (pa_cons pe_int pa_nil))))
    (pss_cons (ps_set (i := 4) nd rfl (Or.inl rfl) (pe_lst pa_nil))
    (pss_cons (ps_for PassesOwn.never rfl (pi_range1 rfl (c.fr _ (.tail _ (.tail _ (.tail _ (.tail _ (.tail _ (.tail _ (.tail _ (.tail _ (.tail _ (.tail _ (.tail _ (.tail _ (.head _)))))))))))))) (pa_cons (pe_op op_fdivW (pe_op op_sub (pv 2) pe_int) pe_int) pa_nil)) (pg_name (i := 5) nd rfl (Or.inl rfl)) (pss_cons (ps_set (i := 6) nd rfl (Or.inl rfl) (pe_ix (r := rIxL K) ix_list (pe_ix (r := rIxL K) ix_list (pv 1) pe_int (fun _ _ => rfl)) (pe_op op_mod (pe_op op_add (pv 3) (pv 5)) (pe_callB (r := Pl.rLen K) call_len rfl (c.fr _ (.tail _ (.tail _ (.tail _ (.head _))))) PySem.boot_len (pa_cons (pe_ix (r := rIxL K) ix_list (pv 1) pe_int (fun _ _ => rfl)) pa_nil))) (fun _ _ => rfl)))
    (pss_cons (ps_set (i := 7) nd rfl (Or.inl rfl) (pe_ix (r := rIxL K) ix_list (pe_ix (r := rIxL K) ix_list (pv 1) pe_int (fun _ _ => rfl)) (pe_op op_mod (pe_op op_fdivW (pe_op op_add (pv 3) (pv 5)) (pe_callB (r := Pl.rLen K) call_len rfl (c.fr _ (.tail _ (.tail _ (.tail _ (.head _))))) PySem.boot_len (pa_cons (pe_ix (r := rIxL K) ix_list (pv 1) pe_int (fun _ _ => rfl)) pa_nil))) (pe_callB (r := Pl.rLen K) call_len rfl (c.fr _ (.tail _ (.tail _ (.tail _ (.head _))))) PySem.boot_len (pa_cons (pe_ix (r := rIxL K) ix_list (pv 1) pe_int (fun _ _ => rfl)) pa_nil))) (fun _ _ => rfl)))
    (pss_one (ps_expr (pe_bmK (K0 := K) PySem.F.plainAttrs_list PySem.F.slot_list_append PySem.F.type_list_append mt_append (pv 4) (pa_cons (pe_tup (pa_cons pe_str (pa_cons (pv 7) (pa_cons (pe_tup (pa_cons pe_str (pa_cons (pv 6) pa_nil))) pa_nil)))) pa_nil)))))))
    (pss_one (ps_ret (pe_tup (pa_cons pe_str (pa_cons (pe_callTy (r := rTupOf K) call_tuple_of rfl (c.fr _ (.tail _ (.tail _ (.tail _ (.tail _ (.head _)))))) PyProof.Rows.boot_tuple (pa_cons (pv 4) pa_nil)) pa_nil)))))))), ?_⟩
  show Ss K T _ [.own p _, .val _, .val _, .no, .no, .no, .no, .no] _
  obtain ⟨f1, f2, f3, f4⟩ := po.f
  have w1 := po.l5
  have w2 := po.l6
  have g1 : (0 : Int) < ((ls.map PyData.str).length : Nat) := by omega
  have g2 : (0 : Int) < ((ties.map PyData.str).length : Nat) := by omega
  have cml : ∀ a : Int, CDivW a ((ls.map PyData.str).length : Nat) := fun a => ⟨g1, by
    have h1 : (((ls.map PyData.str).length : Nat) : Int).natAbs < 2 ^ 60 := by
      have : (((ls.map PyData.str).length : Nat) : Int).natAbs ≤ 1000 := by omega
      exact Nat.lt_of_le_of_lt this (by decide)
    exact Nat.lt_of_lt_of_le (PySem.Flt.log2_lt_of (by decide) h1) (by decide)⟩
  unfold pool
  k_search "go"
  k_search "take"
  rename_i n x y z h1 h2
  k_search "go"
  obtain ⟨M, hM⟩ : ∃ k : Nat, (r - 1) / 2 = k := ⟨((r - 1) / 2).toNat, by omega⟩
  refine go_forRx ?_
  k_search "go"
  rw [hM]
  rename_i ad
  refine ⟨M, rfl, by omega, fun k δ => ∃ (x y z : Int) (a : Addr) (ps : List Tm) (s1 s2 s3 : Sl), Tm.goodL ps ∧ Tm.htL ps ≤ 2 ∧ Tm.cntL ps ≤ 2 * k ∧
    δ = [.own p (bx x y z), .val (.list [.list (ls.map .str), .list (ties.map .str), .int e]), .val (.int r), .val (.int n), .own a (.lst (ps.map Tm.d)), s1, s2, s3],
    ⟨_, _, _, _, [], _, _, _, trivial, (by decide), (by decide), rfl⟩, ?_, ?_⟩
  · rintro k δ2 hk ⟨x, y, z, a, ps, s1, s2, s3, g, hh, hc, rfl⟩
    have lps := Tm.len_cntL ps
    have hlm : (ps.map Tm.d).length < 100000 := by rw [List.length_map]; omega
    obtain ⟨v, hv, hat⟩ := at_str (ws := ls) (Int.emod_nonneg (n + (k : Int)) (by omega)) (Int.emod_lt_of_pos (n + (k : Int)) g1)
    obtain ⟨q, hq1, hat2⟩ := at_str (ws := ties) (Int.emod_nonneg ((n + (k : Int)) / ((ls.map PyData.str).length : Nat)) (by omega)) (Int.emod_lt_of_pos ((n + (k : Int)) / ((ls.map PyData.str).length : Nat)) g2)
    have cm0 := cml (n + (k : Int))
    k_search "nrm"
    k_search "go"
    refine ⟨_, _, _, _, ps ++ [.some q (.name v)], _, _, _, goodL_snoc ps (.some q (.name v)) g (show W q ∧ W v from ⟨w2 q hq1, w1 v hv⟩), htL_snoc ps (.some q (.name v)) hh (Nat.le_refl 2), ?_, by rw [List.map_append]; rfl⟩
    rw [cntL_snoc]
    show _ + 2 ≤ _
    omega
  · rintro δ2 ⟨x, y, z, a, ps, s1, s2, s3, g, hh, hc, rfl⟩
    k_search "go"
    refine cb_tupL tm_imm ?_
    k_search "go"
    refine ⟨_, _, ⟨rfl, _, rfl, rfl⟩, rfl, ?_⟩
    have e1 : PyData.tuple [.str "and", .tuple (ps.map Tm.d)] = (Tm.and ps).d := by rw [← Tm.dL_map]; rfl
    rw [e1]
    exact hQ (.and ps) _ _ _ g (by show Tm.htL ps + 1 ≤ 3; omega) (by show ((Tm.cntL ps + 1 : Nat) : Int) ≤ r; omega)
theorem ok_lroot (c : Al K mg base ds fr ts cs) (h__law_take : Ok P w K mg base 1 "_law_take" ["box", "many"] (spOf K T F_take)) (h__law_chain : Ok P w K mg base 2 "_law_chain" ["box", "pool", "deep", "room"] (spOf K T (F_root 12)))
    (h__law_wide : Ok P w K mg base 2 "_law_wide" ["box", "pool", "room"] (spOf K T F_wide)) (h__law_term : Ok P w K mg base 13 "_law_term" ["box", "pool", "deep", "left"] (spOf K T (F_term 11))) :
    Ok P w K mg base 14 "_law_root" ["box", "pool", "deep", "room"] (spOf K T (F_root 12)) := by
  have nd := sc__law_root.nd
  have kTOP := c.cs _ (.head _)
  have kBOTTOM := c.cs _ (.tail _ (.head _))
  have kRESERVED := c.cs _ (.tail _ (.tail _ (.tail _ (.tail _ (.tail _ (.head _))))))
  refine ok_of c (.tail _ (.tail _ (.tail _ (.tail _ (.tail _ (.tail _ (.tail _ (.tail _ (.tail _ (.tail _ (.tail _ (.tail _ (.tail _ (.tail _ (.tail _ (.tail _ (.tail _ (.tail _ (.tail _ (.tail _ (.tail _ (.tail _ (.tail _ (.tail _ (.tail _ (.tail _ (.tail _ (.tail _ (.tail _ (.tail _ (.tail _ (.tail _ (.tail _ (.tail _ (.tail _ (.head _)))))))))))))))))))))))))))))))))))) (fun _ _ _ _ _ _ us hl => match us, hl with | [_, _, _, _], _ => rfl) sc__law_root (fun as Q h => by first | (obtain ⟨_, rfl, _⟩ := h; rfl) | (obtain ⟨_, _, rfl, _⟩ := h; rfl) | (obtain ⟨_, _, _, rfl, _⟩ := h; rfl) | (obtain ⟨_, _, _, _, rfl, _⟩ := h; rfl) | (obtain ⟨_, _, _, _, _, rfl, _⟩ := h; rfl) | (obtain ⟨_, _, _, _, _, _, rfl, _⟩ := h; rfl) | (obtain ⟨_, _, _, _, _, _, _, rfl, _⟩ := h; rfl) | (obtain ⟨_, _, _, _, _, _, _, _, rfl, _⟩ := h; rfl) | (obtain ⟨_, _, _, _, _, _, _, _, _, rfl, _⟩ := h; rfl) | (obtain ⟨rfl, _⟩ := h; rfl)) fun f cdv A outer s H E hr as Q qs hF hq => ?_
  obtain ⟨x, y, z, ls, ties, e, d, r, rfl, po, hd1, hd2, hr1, hr2, hQ⟩ := hF
  obtain ⟨p, rfl⟩ := List.length_eq_one_iff.mp hq
  refine ⟨_, (pss_cons (ps_set (i := 4) nd rfl (Or.inl rfl) (pe_f h__law_take (hr.mono (by omega)) rfl (pa_cons (pv 0) (pa_cons pe_int pa_nil))))
    (pss_cons (ps_if (pt_cmpR op_eq (pv 4) pe_int (nomark _)) (pss_one (ps_ret (pe_f h__law_chain (hr.mono (by omega)) rfl (pa_cons (pv 0) (pa_cons (pv 1) (pa_cons (pv 2) (pa_cons (pv 3) pa_nil))))))) pss_nil)
    (pss_cons (ps_if (PW.pt (pw_and (pt_cmpR op_eq (pv 4) pe_int (nomark _)) (pw_and1 (pt_cmpR op_gt (pv 2) pe_int (nomark _))))) (pss_one (ps_ret (pe_f h__law_wide (hr.mono (by omega)) rfl (pa_cons (pv 0) (pa_cons (pv 1) (pa_cons (pv 3) pa_nil)))))) pss_nil)
    (pss_cons (ps_set (i := 5) nd rfl (Or.inl rfl) (pe_lst (pa_cons (pe_op op_sub (pv 3) pe_int) pa_nil)))
    (pss_cons (ps_set (i := 6) nd rfl (Or.inl rfl) (pe_lst pa_nil))
    (pss_cons (ps_for PassesOwn.never rfl (pi_range1 rfl (c.fr _ (.tail _ (.tail _ (.tail _ (.tail _ (.tail _ (.tail _ (.tail _ (.tail _ (.tail _ (.tail _ (.tail _ (.tail _ (.head _)))))))))))))) (pa_cons (pe_op op_add pe_int (pe_f h__law_take (hr.mono (by omega)) rfl (pa_cons (pv 0) (pa_cons pe_int pa_nil)))) pa_nil)) (pg_name (i := 7) nd rfl (Or.inl rfl)) (pss_one (ps_if (pt_cmpR op_gt (pe_ix (r := rIxL K) ix_list (pv 5) pe_int (fun _ _ => rfl)) pe_int (nomark _)) (pss_one (ps_expr (pe_bmK (K0 := K) PySem.F.plainAttrs_list PySem.F.slot_list_append PySem.F.type_list_append mt_append (pv 6) (pa_cons (pe_f h__law_term (hr.mono (by omega)) rfl (pa_cons (pv 0) (pa_cons (pv 1) (pa_cons (pe_op op_sub (pv 2) pe_int) (pa_cons (pv 5) pa_nil))))) pa_nil)))) pss_nil)))
    (pss_cons (ps_if (pt_cmpR op_eq (pv 4) pe_int (nomark _)) (pss_one (ps_ret (pe_ix (r := rIxL K) ix_list (pv 6) pe_int (fun _ _ => rfl)))) pss_nil)
    (pss_one (ps_ret (pe_tup (pa_cons pe_str (pa_cons (pe_callTy (r := rTupOf K) call_tuple_of rfl (c.fr _ (.tail _ (.tail _ (.tail _ (.tail _ (.head _)))))) PyProof.Rows.boot_tuple (pa_cons (pv 6) pa_nil)) pa_nil)))))))))))), ?_⟩
  show Ss K T _ [.own p _, .val _, .val _, .val _, .no, .no, .no, .no] _
  have hd5 : d ≤ 12 := hd2
  k_search "go"
  k_search "take"
  rename_i wy x y z h1 h2
  k_search "go"
  refine iteD (fun hw => ?_) fun hw => ?_
  · k_search "go"
    refine cx [.own _, .val _, .val _, .val _] [0] ⟨rfl, ⟨_, rfl⟩, rfl, rfl, rfl, trivial⟩ (by decide) ⟨_, _, _, ls, ties, e, d, r, rfl, po, hd1, hd2, hr1, hr2, fun t x y z g ht hc => ⟨rim1 (Tm.imm_d _) rfl, ?_⟩⟩
    k_search "nrm"
    k_search "go"
    exact ⟨_, _, ⟨rfl, _, rfl, rfl⟩, rfl, hQ t _ _ _ g ht hc⟩
  refine go_next ?_
  refine go_cut (fun δ => δ = [.own p (bx x y z), .val (pool ls ties e), .val (.int d), .val (.int r), .val (.int wy), .no, .no, .no]) ?_ ?_
  · k_search "go"
    refine iteD (fun hw7 => ?_) fun hw7 => ?_
    · k_search "go"
      refine iteD (fun hd2 => ?_) fun hd2 => ?_
      · k_search "go"
        refine cx [.own _, .val _, .val _] [0] ⟨rfl, ⟨_, rfl⟩, rfl, rfl, trivial⟩ (by decide) ⟨_, _, _, ls, ties, e, r, rfl, po, hr1, hr2, fun t x y z g ht hc => ⟨rim1 (Tm.imm_d _) rfl, ?_⟩⟩
        k_search "nrm"
        k_search "go"
        exact ⟨_, _, ⟨rfl, _, rfl, rfl⟩, rfl, hQ t _ _ _ g (by omega) hc⟩
      · k_search "go"
    · k_search "go"
  · rintro δ2 rfl
    k_search "go"
    refine go_forRx ?_
    k_search "go"
    k_search "take"
    rename_i n x y z h3 h4
    obtain ⟨N, rfl⟩ : ∃ k : Nat, n = k := ⟨n.toNat, by omega⟩
    k_search "go"
    rename_i ad1 ad2
    refine ⟨show 1 + N ≤ 1000000 by omega, fun k δ => ∃ (x y z l' : Int) (a b : Addr) (ps : List Tm) (s : Sl), Tm.goodL ps ∧ ((Tm.htL ps : Nat) : Int) ≤ d - 1 ∧ 0 ≤ l' ∧ ((Tm.cntL ps : Nat) : Int) + l' ≤ r - 1 ∧ (k = 0 → l' = r - 1) ∧ (1 ≤ k → ps ≠ []) ∧
      δ = [.own p (bx x y z), .val (pool ls ties e), .val (.int d), .val (.int r), .val (.int wy), .own a (.lst [.int l']), .own b (.lst (ps.map Tm.d)), s],
      ⟨_, _, _, _, _, _, [], _, trivial, (by show ((0 : Nat) : Int) ≤ d - 1; omega), (by omega), (by show ((0 : Nat) : Int) + _ ≤ _; omega), (fun _ => rfl), (fun h => absurd h (by decide)), rfl⟩, ?_, ?_⟩
    · rintro k δ2 hk ⟨x, y, z, l', a, b, ps, s, g, hh, hl0, hc, hk0, hk1, rfl⟩
      have lps := Tm.len_cntL ps
      have hlm : (ps.map Tm.d).length < 100000 := by rw [List.length_map]; omega
      k_search "nrm"
      k_search "go"
      refine iteD (fun hp => ?_) fun hp => ?_
      · k_search "go"
        refine cx [.own _, .val _, .val _, .own _] [0, 5] ⟨rfl, ⟨_, rfl⟩, rfl, rfl, rfl, ⟨_, rfl⟩, trivial⟩ (by decide) ⟨_, _, _, ls, ties, e, d - 1, l', rfl, po, by omega, by omega, by omega, by omega, fun t x y z l2 g2 ht hl hc2 => ⟨rim2 (Tm.imm_d _) rfl rfl, ?_⟩⟩
        k_search "nrm"
        k_search "go"
        refine ⟨_, _, _, _, _, _, ps ++ [t], _, goodL_snoc ps t g g2, ?_, hl, ?_, (fun h => absurd h (by omega)), (fun _ => by simp), by rw [List.map_append]; rfl⟩
        · have := htL_snoc ps t (n := (d - 1).toNat) (by omega) (by omega)
          omega
        · rw [cntL_snoc]; omega
      · k_search "go"
        have hk2 : 1 ≤ k := by
          rcases Nat.eq_zero_or_pos k with q | q
          · have := hk0 q
            omega
          · exact q
        exact ⟨_, _, _, _, _, _, ps, _, g, hh, hl0, hc, (fun h => absurd h (by omega)), (fun _ => hk1 hk2), rfl⟩
    · rintro δ2 ⟨x, y, z, l', a, b, ps, s, g, hh, hl0, hc, hk0, hk1, rfl⟩
      have hne := hk1 (show 1 ≤ 1 + N by omega)
      k_search "go"
      refine iteD (fun hw5 => ?_) fun hw5 => ?_
      · obtain ⟨u, us, rfl⟩ : ∃ u us, ps = u :: us := by
          cases ps with
          | nil => exact absurd rfl hne
          | cons u us => exact ⟨u, us, rfl⟩
        have hat : atI ((u :: us).map Tm.d) 0 = some u.d := atI_nat (j := 0) rfl
        have c1 : u.cnt + Tm.cntL us = Tm.cntL (u :: us) := rfl
        have c2 : max u.ht (Tm.htL us) = Tm.htL (u :: us) := rfl
        k_search "go"
        exact ⟨_, _, ⟨rfl, _, rfl, rfl⟩, rfl, hQ u _ _ _ g.1 (by omega) (by omega)⟩
      · k_search "go"
        refine cb_tupL tm_imm ?_
        k_search "go"
        refine ⟨_, _, ⟨rfl, _, rfl, rfl⟩, rfl, ?_⟩
        have e1 : PyData.tuple [.str "and", .tuple (ps.map Tm.d)] = (Tm.and ps).d := by rw [← Tm.dL_map]; rfl
        rw [e1]
        exact hQ (.and ps) _ _ _ g (by show ((Tm.htL ps + 1 : Nat) : Int) ≤ d; omega) (by show ((Tm.cntL ps + 1 : Nat) : Int) ≤ r; omega)
set_option Elab.async false
set_option linter.all false
set_option maxRecDepth 100000
set_option maxHeartbeats 4000001
open PySem L2 LamX NdefX PyProof.Rows GenW Pl
mutual
def okO : D → Bool
  | .none => true
  | .bool _ => true
  | .int _ => true
  | .str x => PyData.strOk x && decide (x.length ≤ 100000)
  | .list ds => decide (ds.length ≤ 1000) && okOs ds
  | .tuple ds => decide (ds.length ≤ 1000) && okOs ds
  | .dict _ => false
def okOs : List D → Bool
  | [] => true
  | d :: ds => okO d && okOs ds
end
mutual
/-- how many nodes -/
def nod : D → Nat
  | .list ds => nods ds + 1
  | .tuple ds => nods ds + 1
  | _ => 1
def nods : List D → Nat
  | [] => 0
  | d :: ds => nod d + nods ds
end
/-- is the text s -/
def isS (d : D) (s : Str) : Bool := PyData.eqv d (.str s)
/-- the parts that must be terms -/
def dparts : D → Option (List D)
  | .tuple [a] => if isS a "top" || isS a "bottom" then some [] else none
  | .tuple [a, b] => if isS a "name" then (if wordB b then some [] else none) else if isS a "and" then (match b with | .tuple us => some us | _ => none) else none
  | .tuple [a, b, c] => if isS a "some" && wordB b then some [c] else none
  | _ => none
def termN : Nat → D → Bool
  | 0, _ => false
  | n + 1, d => match dparts d with
    | none => false
    | some ps => ps.all (termN n)
def termB (d : D) : Bool := termN (d.depth + 1) d
theorem isS_eq {d : D} {s : Str} (h : isS d s = true) : d = .str s := by
  cases d with
  | str x => simp [isS, PyData.eqv] at h; rw [h]
  | _ => simp [isS, PyData.eqv] at h
theorem depthAll_le : ∀ {ds : List D} {d : D}, d ∈ ds → d.depth ≤ PyData.depthAll ds
  | e :: ds, d, h => by
    show d.depth ≤ max e.depth (PyData.depthAll ds)
    rcases List.mem_cons.mp h with q | q
    · rw [q]; exact Nat.le_max_left _ _
    · exact Nat.le_trans (depthAll_le q) (Nat.le_max_right _ _)
theorem dparts_depth {d : D} {ps : List D} (h : dparts d = some ps) : ∀ p ∈ ps, p.depth < d.depth := by
  unfold dparts at h
  split at h
  · split at h
    · cases h; intro p m; cases m
    · cases h
  · split at h
    · split at h
      · cases h; intro p m; cases m
      · cases h
    · split at h
      · split at h
        · cases h
          intro p m
          have h1 := depthAll_le m
          refine Nat.lt_of_le_of_lt h1 ?_
          refine Nat.lt_of_lt_of_le (Nat.lt_succ_self _) (Nat.le_succ_of_le ?_)
          exact depthAll_le (d := .tuple ps) (.tail _ (.head _))
        · cases h
      · cases h
  · split at h
    · cases h
      intro p m
      rw [List.mem_singleton.mp m]
      exact Nat.lt_succ_of_le (depthAll_le (.tail _ (.tail _ (.head _))))
    · cases h
  · cases h
theorem termN_mono : ∀ {n m : Nat} {d : D}, d.depth < n → d.depth < m → termN n d = termN m d
  | 0, _, _, h, _ => absurd h (Nat.not_lt_zero _)
  | _ + 1, 0, _, _, h => absurd h (Nat.not_lt_zero _)
  | n + 1, m + 1, d, h1, h2 => by
    unfold termN
    cases e : dparts d with
    | none => rfl
    | some ps =>
      show ps.all (termN n) = ps.all (termN m)
      have hd := dparts_depth e
      have : ∀ p ∈ ps, termN n p = termN m p := fun p hp => termN_mono (by have := hd p hp; omega) (by have := hd p hp; omega)
      clear e hd
      induction ps with
      | nil => rfl
      | cons q ps ih =>
        rw [List.all_cons, List.all_cons, this q (.head _), ih fun p hp => this p (.tail _ hp)]
theorem termN_eq {n : Nat} {d : D} (h : d.depth < n) : termN n d = termB d := termN_mono h (Nat.lt_succ_self _)
theorem termB_none {d : D} (h : dparts d = none) : termB d = false := by unfold termB termN; rw [h]
theorem termB_some {d : D} {ps : List D} (h : dparts d = some ps) : termB d = ps.all termB := by
  unfold termB termN
  rw [h]
  show ps.all (termN d.depth) = ps.all termB
  have hd := dparts_depth h
  have : ∀ p ∈ ps, termN d.depth p = termB p := fun p hp => termN_eq (hd p hp)
  clear h hd
  induction ps with
  | nil => rfl
  | cons q ps ih => rw [List.all_cons, List.all_cons, this q (.head _), ih fun p hp => this p (.tail _ hp)]
theorem nod_pos (d : D) : 1 ≤ nod d := by cases d <;> simp [nod]
theorem nods_app : ∀ (a b : List D), nods (a ++ b) = nods a + nods b
  | [], b => by simp [nods]
  | d :: a, b => by rw [List.cons_append, nods, nods, nods_app a b]; omega
theorem nods_len : ∀ ds : List D, ds.length ≤ nods ds
  | [] => Nat.le_refl _
  | d :: ds => by
    have h1 := nod_pos d
    have h2 := nods_len ds
    show ds.length + 1 ≤ nod d + nods ds
    omega
theorem dparts_nod {d : D} {ps : List D} (h : dparts d = some ps) : nods ps + 1 ≤ nod d := by
  unfold dparts at h
  split at h
  · split at h
    · cases h; exact nod_pos _
    · cases h
  · split at h
    · split at h
      · cases h; exact nod_pos _
      · cases h
    · split at h
      · split at h
        · cases h
          simp only [nod, nods]
          omega
        · cases h
      · cases h
  · split at h
    · cases h
      simp only [nod, nods]
      omega
    · cases h
  · cases h
theorem okOs_mem : ∀ {ds : List D} {d : D}, okOs ds = true → d ∈ ds → okO d = true
  | e :: ds, d, h, m => by
    simp only [okOs, Bool.and_eq_true] at h
    rcases List.mem_cons.mp m with q | q
    · rw [q]; exact h.1
    · exact okOs_mem h.2 q
theorem dparts_ok {d : D} {ps : List D} (h : dparts d = some ps) (o : okO d = true) : ∀ p ∈ ps, okO p = true := by
  unfold dparts at h
  split at h
  · split at h
    · cases h; intro p m; cases m
    · cases h
  · split at h
    · split at h
      · cases h; intro p m; cases m
      · cases h
    · split at h
      · split at h
        · cases h
          intro p m
          simp only [okO, okOs, Bool.and_eq_true, decide_eq_true_eq] at o
          exact okOs_mem o.2.2.1.2 m
        · cases h
      · cases h
  · split at h
    · cases h
      intro p m
      rw [List.mem_singleton.mp m]
      simp only [okO, okOs, Bool.and_eq_true, decide_eq_true_eq] at o
      exact o.2.2.2.1
    · cases h
  · cases h
mutual
theorem okO_lay : ∀ {d : D}, okO d = true → d.canLay0 = true
  | .none, _ => rfl
  | .bool _, _ => rfl
  | .int _, _ => rfl
  | .str x, h => by simp only [okO, Bool.and_eq_true] at h; simpa [PyData.canLay0] using h.1
  | .list ds, h => by simp only [okO, Bool.and_eq_true] at h; simpa [PyData.canLay0] using okOs_lay h.2
  | .tuple ds, h => by simp only [okO, Bool.and_eq_true] at h; simpa [PyData.canLay0] using okOs_lay h.2
  | .dict _, h => by cases h
theorem okOs_lay : ∀ {ds : List D}, okOs ds = true → PyData.canLayAll0 ds = true
  | [], _ => rfl
  | d :: ds, h => by
    simp only [okOs, Bool.and_eq_true] at h
    simp only [PyData.canLayAll0, Bool.and_eq_true]
    exact ⟨okO_lay h.1, okOs_lay h.2⟩
end
theorem okO_sh {d : D} (h : okO d = true) (b : d.depth ≤ 64) : SeqAt.shaped d = true := by
  unfold SeqAt.shaped
  rw [okO_lay h, decide_eq_true b]
  rfl
theorem okO_short {d : D} (h : okO d = true) : shortD d := by
  cases d with
  | str x => simp only [okO, Bool.and_eq_true, decide_eq_true_eq] at h; exact h.2
  | _ => trivial
set_option Elab.async false
set_option linter.all false
set_option maxRecDepth 100000
set_option maxHeartbeats 4000001
open PySem L2 LamX NdefX PyProof.Rows GenW Pl
section
local macro_rules | `(tactic| k_search "g2") => `(tactic| with_reducible refine ex_listT (te := tOp _ _ _) ?_)
variable {P : Program} {w : World} {K : PySem.W.Frag} {mg : Str → Option Value} {base : Heap} {T : List NTab} {ts : List Str}
theorem sh_top : SeqAt.shaped (.tuple (List.map PyData.str ["top"])) = true := by decide +kernel
theorem sh_bot : SeqAt.shaped (.tuple (List.map PyData.str ["bottom"])) = true := by decide +kernel
theorem eqv_t1 {a : D} {s : Str} : PyData.eqv (.tuple [a]) (.tuple (List.map PyData.str [s])) = isS a s := by simp [PyData.eqv, PyData.eqvAll, isS]
theorem eqv_t2 {a b : D} {us : List D} {s : Str} : PyData.eqv (.tuple (a :: b :: us)) (.tuple (List.map PyData.str [s])) = false := by simp [PyData.eqv, PyData.eqvAll]
theorem shaped_part {ds : List D} {d : D} (o : okO (.tuple ds) = true) (hb : (PyData.tuple ds).depth ≤ 60) (m : d ∈ ds) : SeqAt.shaped d = true := by
  simp only [okO, Bool.and_eq_true] at o
  have h1 := depthAll_le m
  have h2 : (PyData.tuple ds).depth = PyData.depthAll ds + 1 := rfl
  exact okO_sh (okOs_mem o.2 m) (by omega)
theorem opd_isS {K : PySem.W.Frag} {a : D} {s : Str} {P : R → Prop} (h : SeqAt.shaped a = true) (hs : SeqAt.shaped (.str s) = true) (p : P (.val (.bool (isS a s)))) : OpD K (rEqD K) a (.str s) P := opd_eqD h hs p
theorem opd_nTop {K : PySem.W.Frag} {a b : D} {us : List D} {s : Str} {P : R → Prop} (h : SeqAt.shaped (.tuple (a :: b :: us)) = true) (hs : SeqAt.shaped (.tuple (List.map PyData.str [s])) = true) (p : P (.val (.bool false))) : OpD K (rEqD K) (.tuple (a :: b :: us)) (.tuple (List.map PyData.str [s])) P := opd_eqD h hs (by rw [eqv_t2]; exact p)
theorem opd_1Top {K : PySem.W.Frag} {a : D} {s : Str} {P : R → Prop} (h : SeqAt.shaped (.tuple [a]) = true) (hs : SeqAt.shaped (.tuple (List.map PyData.str [s])) = true) (p : P (.val (.bool (isS a s)))) : OpD K (rEqD K) (.tuple [a]) (.tuple (List.map PyData.str [s])) P := opd_eqD h hs (by rw [eqv_t1]; exact p)
def tupOf : D → Option (List D)
  | .tuple us => some us
  | _ => none
theorem dparts2 {a b : D} : dparts (.tuple [a, b]) = if isS a "name" then (if wordB b then some [] else none) else if isS a "and" then tupOf b else none := by cases b <;> rfl
theorem okO_len {us : List D} (h : okO (.tuple us) = true) : us.length ≤ 1000 := by simp only [okO, Bool.and_eq_true, decide_eq_true_eq] at h; exact h.1
def rParts : Option (List D) → R
  | none => .val .none
  | some ps => .new (.lst ps)
def F_dp : FS := fun as Q => ∃ d : D, as = [.val d] ∧ okO d = true ∧ d.depth ≤ 60 ∧ Q (rParts (dparts d)) []
theorem ok_direct_parts (c : Al K mg base ds fr ts cs) (h_is_word : Ok P w K mg base 1 "is_word" ["value"] (spOf K T F_isw)) : Ok P w K mg base 2 "direct_parts" ["value"] (spOf K T F_dp) := by
  have nd := sc_direct_parts.nd
  have kTOP := c.cs _ (.head _)
  have kBOTTOM := c.cs _ (.tail _ (.head _))
  have kRESERVED := c.cs _ (.tail _ (.tail _ (.tail _ (.tail _ (.tail _ (.head _))))))
  refine ok_of c (.tail _ (.head _)) (fun _ _ _ _ _ _ us hl => match us, hl with | [_], _ => rfl) sc_direct_parts (fun as Q h => by first | (obtain ⟨_, rfl, _⟩ := h; rfl) | (obtain ⟨_, _, rfl, _⟩ := h; rfl) | (obtain ⟨_, _, _, rfl, _⟩ := h; rfl) | (obtain ⟨_, _, _, _, rfl, _⟩ := h; rfl) | (obtain ⟨_, _, _, _, _, rfl, _⟩ := h; rfl) | (obtain ⟨_, _, _, _, _, _, rfl, _⟩ := h; rfl) | (obtain ⟨_, _, _, _, _, _, _, rfl, _⟩ := h; rfl) | (obtain ⟨_, _, _, _, _, _, _, _, rfl, _⟩ := h; rfl) | (obtain ⟨_, _, _, _, _, _, _, _, _, rfl, _⟩ := h; rfl) | (obtain ⟨rfl, _⟩ := h; rfl)) fun f cdv A outer s H E hr as Q qs hF hq => ?_
  obtain ⟨d, rfl, o, hb, hQ⟩ := hF
  obtain rfl : qs = [] := List.length_eq_zero_iff.mp hq
  refine ⟨_, (pss_cons (ps_if (PW.pt (pw_or (pt_not (pt_val (pe_callB (r := rIsi K) call_isi rfl (c.fr _ (.tail _ (.head _))) PyProof.Rows.boot_isinstance (pa_cons (pv 0) (pa_cons (pe_bltn (v := .ty "tuple") rfl (c.fr _ (.tail _ (.tail _ (.tail _ (.tail _ (.head _)))))) PyProof.Rows.boot_tuple rfl) pa_nil))))) (pw_or1 (pt_not (pt_truthK (K0 := K) (pv 0) (fun _ => rfl)))))) (pss_one (ps_ret pe_non)) pss_nil)
    (pss_cons (ps_if (PW.pt (pw_or (pt_cmpR (r := rEqD K) (op_eqD hr.units) (pv 0) (pe_kT (c.cs _ (.head _)) rfl) (nomark _)) (pw_or1 (pt_cmpR (r := rEqD K) (op_eqD hr.units) (pv 0) (pe_kT (c.cs _ (.tail _ (.head _))) rfl) (nomark _))))) (pss_one (ps_ret (pe_lst pa_nil))) pss_nil)
    (pss_cons (ps_if (PW.pt (pw_and (pt_cmpR op_eq (pe_callB (r := Pl.rLen K) call_len rfl (c.fr _ (.tail _ (.tail _ (.tail _ (.head _))))) PySem.boot_len (pa_cons (pv 0) pa_nil)) pe_int (nomark _)) (pw_and1 (pt_cmpR (r := rEqD K) (op_eqD hr.units) (pe_ix (r := rIxT K) ix_tup (pv 0) pe_int (fun _ _ => rfl)) pe_str (nomark _))))) (pss_one (ps_ret (pe_ifExp (pt_val (pe_f h_is_word (hr.mono (by omega)) rfl (pa_cons (pe_ix (r := rIxT K) ix_tup (pv 0) pe_int (fun _ _ => rfl)) pa_nil))) (pe_lst pa_nil) pe_non))) pss_nil)
    (pss_cons (ps_if (PW.pt (pw_and (pt_cmpR op_eq (pe_callB (r := Pl.rLen K) call_len rfl (c.fr _ (.tail _ (.tail _ (.tail _ (.head _))))) PySem.boot_len (pa_cons (pv 0) pa_nil)) pe_int (nomark _)) (pw_and1 (pt_cmpR (r := rEqD K) (op_eqD hr.units) (pe_ix (r := rIxT K) ix_tup (pv 0) pe_int (fun _ _ => rfl)) pe_str (nomark _))))) (pss_one (ps_ret (pe_ifExp (pt_val (pe_callB (r := rIsi K) call_isi rfl (c.fr _ (.tail _ (.head _))) PyProof.Rows.boot_isinstance (pa_cons (pe_ix (r := rIxT K) ix_tup (pv 0) pe_int (fun _ _ => rfl)) (pa_cons (pe_bltn (v := .ty "tuple") rfl (c.fr _ (.tail _ (.tail _ (.tail _ (.tail _ (.head _)))))) PyProof.Rows.boot_tuple rfl) pa_nil)))) (pe_callTy (r := rListOf K) call_list_of rfl (c.fr _ (.tail _ (.tail _ (.tail _ (.tail _ (.tail _ (.head _))))))) PyProof.Rows.boot_list (pa_cons (pe_ix (r := rIxT K) ix_tup (pv 0) pe_int (fun _ _ => rfl)) pa_nil)) pe_non))) pss_nil)
    (pss_cons (ps_if (PW.pt (pw_and (pt_cmpR op_eq (pe_callB (r := Pl.rLen K) call_len rfl (c.fr _ (.tail _ (.tail _ (.tail _ (.head _))))) PySem.boot_len (pa_cons (pv 0) pa_nil)) pe_int (nomark _)) (pw_and (pt_cmpR (r := rEqD K) (op_eqD hr.units) (pe_ix (r := rIxT K) ix_tup (pv 0) pe_int (fun _ _ => rfl)) pe_str (nomark _)) (pw_and1 (pt_val (pe_f h_is_word (hr.mono (by omega)) rfl (pa_cons (pe_ix (r := rIxT K) ix_tup (pv 0) pe_int (fun _ _ => rfl)) pa_nil))))))) (pss_one (ps_ret (pe_lst (pa_cons (pe_ix (r := rIxT K) ix_tup (pv 0) pe_int (fun _ _ => rfl)) pa_nil)))) pss_nil)
    (pss_one (ps_ret pe_non))))))), ?_⟩
  show Ss K T _ [.val _] _
  have sh := okO_sh o (by omega)
  cases d with
  | tuple us =>
    match us, hQ, o, hb, sh with
    | [], hQ, o, hb, sh => k_search "go"; exact hQ
    | [a], hQ, o, hb, sh =>
      have hQ : Q (rParts (if isS a "top" || isS a "bottom" then some [] else none)) [] := hQ
      k_search "go"
      refine opd_1Top sh sh_top ?_
      cases h1 : isS a "top"
      · rw [h1] at hQ
        k_search "go"
        refine opd_1Top sh sh_bot ?_
        cases h2 : isS a "bottom"
        · rw [h2] at hQ
          k_search "go"
          exact hQ
        · rw [h2] at hQ
          k_search "go"
          exact hQ
      · rw [h1] at hQ
        k_search "go"
        exact hQ
    | [a, b], hQ, o, hb, sh =>
      have sa : SeqAt.shaped a = true := shaped_part o hb (.head _)
      have ob : okO b = true := by simp only [okO, okOs, Bool.and_eq_true] at o; exact o.2.2.1
      k_search "go"
      refine opd_nTop sh sh_top ?_
      k_search "go"
      refine opd_nTop sh sh_bot ?_
      k_search "go"
      refine opd_isS sa (by decide +kernel) ?_
      rw [dparts2] at hQ
      cases h1 : isS a "name"
      · rw [h1] at hQ
        k_search "go"
        refine opd_isS sa (by decide +kernel) ?_
        cases h2 : isS a "and"
        · rw [h2] at hQ
          k_search "go"
          exact hQ
        · rw [h2] at hQ
          cases b with
          | tuple vs =>
            have hl := okO_len ob
            k_search "go"
            exact hQ
          | _ => k_search "go"; exact hQ
      · rw [h1] at hQ
        k_search "go"
        refine cv [.val _] ⟨rfl, trivial⟩ ⟨b, rfl, okO_short ob, rim rfl, ?_⟩
        cases h2 : wordB b
        · rw [h2] at hQ
          k_search "go"
          exact hQ
        · rw [h2] at hQ
          k_search "go"
          exact hQ
    | [a, b, e], hQ, o, hb, sh =>
      have sa : SeqAt.shaped a = true := shaped_part o hb (.head _)
      have ob : okO b = true := by simp only [okO, okOs, Bool.and_eq_true] at o; exact o.2.2.1
      have hQ : Q (rParts (if isS a "some" && wordB b then some [e] else none)) [] := hQ
      k_search "go"
      refine opd_nTop sh sh_top ?_
      k_search "go"
      refine opd_nTop sh sh_bot ?_
      k_search "go"
      refine opd_isS sa (by decide +kernel) ?_
      cases h1 : isS a "some"
      · rw [h1] at hQ
        k_search "go"
        exact hQ
      · rw [h1] at hQ
        k_search "go"
        refine cv [.val _] ⟨rfl, trivial⟩ ⟨b, rfl, okO_short ob, rim rfl, ?_⟩
        cases h2 : wordB b
        · rw [h2] at hQ
          k_search "go"
          exact hQ
        · rw [h2] at hQ
          k_search "go"
          exact hQ
    | a :: b :: e :: g :: us, hQ, o, hb, sh =>
      k_search "go"
      refine opd_nTop sh sh_top ?_
      k_search "go"
      refine opd_nTop sh sh_bot ?_
      k_search "go"
      exact hQ
  | none => k_search "go"; exact hQ
  | bool b => k_search "go"; exact hQ
  | int i => k_search "go"; exact hQ
  | str x => k_search "go"; exact hQ
  | list l => k_search "go"; exact hQ
  | dict l => k_search "go"; exact hQ
end
set_option Elab.async false
set_option linter.all false
set_option maxRecDepth 100000
set_option maxHeartbeats 4000001
open PySem L2 LamX NdefX PyProof.Rows GenW Pl
variable {P : Program} {w : World} {K : PySem.W.Frag} {mg : Str → Option Value} {base : Heap} {T : List NTab} {ts : List Str}
/-- an odd value -/
structure Od (d : D) : Prop where
  ok : okO d = true
  dp : d.depth ≤ 60
  nd : nod d ≤ 50000
def F_ist : FS := fun as Q => ∃ d : D, as = [.val d] ∧ Od d ∧ Q (.val (.bool (termB d))) []
theorem ok_is_term (c : Al K mg base ds fr ts cs) (h_direct_parts : Ok P w K mg base 2 "direct_parts" ["value"] (spOf K T F_dp)) : Ok P w K mg base 3 "is_term" ["value"] (spOf K T F_ist) := by
  have nd := sc_is_term.nd
  have kTOP := c.cs _ (.head _)
  have kBOTTOM := c.cs _ (.tail _ (.head _))
  have kRESERVED := c.cs _ (.tail _ (.tail _ (.tail _ (.tail _ (.tail _ (.head _))))))
  refine ok_of c (.tail _ (.tail _ (.head _))) (fun _ _ _ _ _ _ us hl => match us, hl with | [_], _ => rfl) sc_is_term (fun as Q h => by first | (obtain ⟨_, rfl, _⟩ := h; rfl) | (obtain ⟨_, _, rfl, _⟩ := h; rfl) | (obtain ⟨_, _, _, rfl, _⟩ := h; rfl) | (obtain ⟨_, _, _, _, rfl, _⟩ := h; rfl) | (obtain ⟨_, _, _, _, _, rfl, _⟩ := h; rfl) | (obtain ⟨_, _, _, _, _, _, rfl, _⟩ := h; rfl) | (obtain ⟨_, _, _, _, _, _, _, rfl, _⟩ := h; rfl) | (obtain ⟨_, _, _, _, _, _, _, _, rfl, _⟩ := h; rfl) | (obtain ⟨_, _, _, _, _, _, _, _, _, rfl, _⟩ := h; rfl) | (obtain ⟨rfl, _⟩ := h; rfl)) fun f cdv A outer s H E hr as Q qs hF hq => ?_
  obtain ⟨d, rfl, b, hQ⟩ := hF
  obtain rfl : qs = [] := List.length_eq_zero_iff.mp hq
  refine ⟨_, (pss_cons (ps_set (i := 1) nd rfl (Or.inl rfl) (pe_lst (pa_cons (pv 0) pa_nil)))
    (pss_cons (ps_while PassesOwn.never (pt_truthK (K0 := K) (pv 1) (fun _ => rfl)) (pss_cons (ps_set (i := 2) nd rfl (Or.inl rfl) (pe_f h_direct_parts (hr.mono (by omega)) rfl (pa_cons (pe_bm0K (K0 := K) PySem.F.plainAttrs_list PySem.F.slot_list_pop PySem.F.type_list_pop mt_pop (pv 1)) pa_nil)))
    (pss_cons (ps_if (pt_cmp (pc_isN (pv 2))) (pss_one (ps_ret pe_bl)) pss_nil)
    (pss_one (ps_expr (pe_bmK (K0 := K) PySem.F.plainAttrs_list PySem.F.slot_list_extend PySem.F.type_list_extend mt_extend (pv 1) (pa_cons (pv 2) pa_nil)))))))
    (pss_one (ps_ret pe_bl)))), ?_⟩
  show Ss K T _ [.val _, .no, .no] _
  k_search "go"
  refine go_while (W := fun m δ => ∃ (us : List D) (a : Addr) (s : Sl), δ = [.val d, .own a (.lst us), s] ∧ (∀ u ∈ us, okO u = true ∧ u.depth ≤ 60) ∧ nods us = m ∧ m ≤ 50000 ∧ termB d = us.all termB) (nod d) ⟨[d], _, _, rfl, fun u m => by rw [List.mem_singleton.mp m]; exact ⟨b.ok, b.dp⟩, rfl, b.nd, by simp⟩ ?_
  rintro m δ2 ⟨us, a, s, rfl, hu, hm, hm2, ht⟩
  refine et_truL (ex_bor rfl ⟨_, ⟨_, _, rfl, rfl⟩, ?_⟩)
  rcases List.eq_nil_or_concat us with rfl | ⟨vs, u, rfl⟩
  · k_search "go"
    rw [ht] at hQ
    exact hQ
  · rw [List.concat_eq_append] at hu hm ht
    have bu := hu u (List.mem_append_right _ (List.mem_singleton.mpr rfl))
    have e : (!(vs.concat u).isEmpty) = true := by simp
    rw [e]
    refine iteT rfl ?_
    refine go_seq (go_set (ex_callF (exa_cons (ex_lm0 ⟨a, vs ++ [u], by simp, lm_pop (exa_nil ⟨[.val u], [], ⟨rfl, trivial⟩, List.nodup_nil, u, rfl, bu.1, bu.2, ?_⟩)⟩))))
    k_search "nrm"
    rw [nods_app] at hm
    have hm : nods vs + (nod u + 0) = m := hm
    rw [List.all_append] at ht
    have ht : termB d = (vs.all termB && (termB u && true)) := ht
    cases hp : dparts u with
    | none =>
      rw [termB_none hp] at ht
      show StoreR _ [_, _, _] _ (.val .none)
      k_search "go"
      rw [ht, Bool.false_and, Bool.and_false] at hQ
      exact hQ
    | some ps =>
      rw [termB_some hp] at ht
      have hc := dparts_nod hp
      have ho := dparts_ok hp bu.1
      have hdp := dparts_depth hp
      have l1 := nods_len vs
      have l2 := nods_len ps
      show StoreR _ [_, _, _] _ (.new (.lst ps))
      k_search "go"
      · show vs.length + ps.length ≤ 100000
        omega
      k_search "nrm"
      refine ⟨nods (vs ++ ps), by rw [nods_app]; omega, vs ++ ps, a, _, rfl, ?_, rfl, by rw [nods_app]; omega, by rw [ht, List.all_append, Bool.and_true]⟩
      intro x hx
      rcases List.mem_append.mp hx with hx | hx
      · exact hu x (List.mem_append_left _ hx)
      · exact ⟨ho x hx, by have := hdp x hx; have := bu.2; omega⟩
set_option Elab.async false
set_option linter.all false
set_option maxRecDepth 100000
set_option maxHeartbeats 4000001
open PySem L2 LamX NdefX PyProof.Rows GenW Pl
variable {P : Program} {w : World} {K : PySem.W.Frag} {mg : Str → Option Value} {base : Heap} {T : List NTab} {ts : List Str}
def F_lt (h : Nat) : FS := fun as Q => ∃ d : D, as = [.val d] ∧ okO d = true ∧ d.depth ≤ 60 ∧ d.depth < h ∧ Q (.val (.bool (termB d))) []
theorem termB1 {a : D} : termB (.tuple [a]) = (isS a "top" || isS a "bottom") := by
  cases h : (isS a "top" || isS a "bottom")
  · exact termB_none (by show (if (isS a "top" || isS a "bottom") then some [] else none) = none; rw [h]; rfl)
  · exact termB_some (ps := []) (by show (if (isS a "top" || isS a "bottom") then some [] else none) = some []; rw [h]; rfl)
theorem termB2 {a b : D} : termB (.tuple [a, b]) = if isS a "name" then wordB b else if isS a "and" then (match tupOf b with | some us => us.all termB | none => false) else false := by
  cases h : isS a "name"
  · cases h2 : isS a "and"
    · exact termB_none (by rw [dparts2, h, h2]; rfl)
    · cases h3 : tupOf b with
      | none => exact termB_none (by rw [dparts2, h, h2, h3]; rfl)
      | some us => exact termB_some (by rw [dparts2, h, h2, h3]; rfl)
  · cases h2 : wordB b
    · exact termB_none (by rw [dparts2, h, h2]; rfl)
    · exact termB_some (ps := []) (by rw [dparts2, h, h2]; rfl)
theorem termB3 {a b e : D} : termB (.tuple [a, b, e]) = (isS a "some" && (wordB b && termB e)) := by
  cases h : isS a "some" && wordB b
  · rw [termB_none (d := .tuple [a, b, e]) (by show (if (isS a "some" && wordB b) then some [e] else none) = none; rw [h]; rfl), ← Bool.and_assoc, h]; rfl
  · rw [termB_some (d := .tuple [a, b, e]) (ps := [e]) (by show (if (isS a "some" && wordB b) then some [e] else none) = some [e]; rw [h]; rfl), ← Bool.and_assoc, h, List.all_cons, List.all_nil, Bool.and_true, Bool.true_and]
theorem termB4 {a b e g : D} {us : List D} : termB (.tuple (a :: b :: e :: g :: us)) = false := termB_none rfl
theorem isS_ss {x y : Str} : isS (.str x) y = decide (x = y) := by unfold isS; exact eqv_str
/-- the test of the first part -/
theorem opd_nisS {K : PySem.W.Frag} {a : D} {s : Str} {P : R → Prop} (h : SeqAt.shaped a = true) (hs : SeqAt.shaped (.str s) = true) (p : P (.val (.bool (!isS a s)))) : OpD K (rNeD K) a (.str s) P := opd_neD h hs p
theorem lt_top {rest : List D} : termB (.tuple (.str "top" :: rest)) = decide (((rest.length + 1 : Nat) : Int) = 1) := by
  have e1 : isS (.str "top") "name" = false := by rw [isS_ss]; decide
  have e2 : isS (.str "top") "and" = false := by rw [isS_ss]; decide
  have e3 : isS (.str "top") "some" = false := by rw [isS_ss]; decide
  have e4 : isS (.str "top") "top" = true := by rw [isS_ss]; decide
  match rest with
  | [] => rw [termB1, e4]; rfl
  | [b] => rw [termB2, e1, e2]; rfl
  | [b, c] => rw [termB3, e3]; rfl
  | _ :: _ :: _ :: r => rw [termB4]; exact (decide_eq_false (by simp only [List.length_cons]; omega)).symm
theorem lt_bot {rest : List D} : termB (.tuple (.str "bottom" :: rest)) = decide (((rest.length + 1 : Nat) : Int) = 1) := by
  have e1 : isS (.str "bottom") "name" = false := by rw [isS_ss]; decide
  have e2 : isS (.str "bottom") "and" = false := by rw [isS_ss]; decide
  have e3 : isS (.str "bottom") "some" = false := by rw [isS_ss]; decide
  have e4 : isS (.str "bottom") "bottom" = true := by rw [isS_ss]; decide
  match rest with
  | [] => rw [termB1, e4, Bool.or_true]; rfl
  | [b] => rw [termB2, e1, e2]; rfl
  | [b, c] => rw [termB3, e3]; rfl
  | _ :: _ :: _ :: r => rw [termB4]; exact (decide_eq_false (by simp only [List.length_cons]; omega)).symm
theorem lt_none {a : D} {rest : List D} (h1 : isS a "top" = false) (h2 : isS a "bottom" = false) (h3 : isS a "name" = false) (h4 : isS a "some" = false) (h5 : isS a "and" = false) : termB (.tuple (a :: rest)) = false := by
  match rest with
  | [] => rw [termB1, h1, h2]; rfl
  | [b] => rw [termB2, h3, h5]; rfl
  | [b, c] => rw [termB3, h4]; rfl
  | _ :: _ :: _ :: r => exact termB4
theorem lt_len {a : D} {rest : List D} {n : Nat} (h1 : isS a "top" = false) (h2 : isS a "bottom" = false) (hn : (isS a "name" = true ∧ n = 1) ∨ (isS a "some" = true ∧ n = 2) ∨ (isS a "and" = true ∧ n = 1)) (hl : rest.length ≠ n) : termB (.tuple (a :: rest)) = false := by
  match rest, hl with
  | [], hl => rw [termB1, h1, h2]; rfl
  | [b], hl =>
    rcases hn with ⟨_, rfl⟩ | ⟨q, rfl⟩ | ⟨_, rfl⟩
    · exact absurd rfl hl
    · cases isS_eq q
      rw [termB2, isS_ss, isS_ss]
      rfl
    · exact absurd rfl hl
  | [b, c], hl =>
    rcases hn with ⟨q, rfl⟩ | ⟨_, rfl⟩ | ⟨q, rfl⟩
    · cases isS_eq q
      rw [termB3, isS_ss]
      rfl
    · exact absurd rfl hl
    · cases isS_eq q
      rw [termB3, isS_ss]
      rfl
  | _ :: _ :: _ :: r, _ => exact termB4
theorem ok_lis_term (c : Al K mg base ds fr ts cs) (h__law_is_word : Ok P w K mg base 2 "_law_is_word" ["value"] (spOf K T F_isw)) : ∀ h : Nat, Ok P w K mg base (h + 3) "_law_is_term" ["value"] (spOf K T (F_lt h))
  | 0 => by
    have nd := sc__law_is_term.nd
    have kTOP := c.cs _ (.head _)
    have kBOTTOM := c.cs _ (.tail _ (.head _))
    have kRESERVED := c.cs _ (.tail _ (.tail _ (.tail _ (.tail _ (.tail _ (.head _))))))
    refine ok_of c (.tail _ (.tail _ (.tail _ (.tail _ (.tail _ (.tail _ (.tail _ (.tail _ (.tail _ (.tail _ (.tail _ (.tail _ (.tail _ (.tail _ (.tail _ (.tail _ (.tail _ (.tail _ (.tail _ (.tail _ (.tail _ (.tail _ (.tail _ (.tail _ (.tail _ (.tail _ (.tail _ (.tail _ (.head _))))))))))))))))))))))))))))) (fun _ _ _ _ _ _ us hl => match us, hl with | [_], _ => rfl) sc__law_is_term (fun as Q h => by first | (obtain ⟨_, rfl, _⟩ := h; rfl) | (obtain ⟨_, _, rfl, _⟩ := h; rfl) | (obtain ⟨_, _, _, rfl, _⟩ := h; rfl) | (obtain ⟨_, _, _, _, rfl, _⟩ := h; rfl) | (obtain ⟨_, _, _, _, _, rfl, _⟩ := h; rfl) | (obtain ⟨_, _, _, _, _, _, rfl, _⟩ := h; rfl) | (obtain ⟨_, _, _, _, _, _, _, rfl, _⟩ := h; rfl) | (obtain ⟨_, _, _, _, _, _, _, _, rfl, _⟩ := h; rfl) | (obtain ⟨_, _, _, _, _, _, _, _, _, rfl, _⟩ := h; rfl) | (obtain ⟨rfl, _⟩ := h; rfl)) fun f cdv A outer s H E hr as Q qs hF hq => ?_
    obtain ⟨t, rfl, _, _, b, _⟩ := hF
    exact absurd b (Nat.not_lt_zero _)
  | h + 1 => by
    have h__law_is_term := ok_lis_term c h__law_is_word h
    have nd := sc__law_is_term.nd
    have kTOP := c.cs _ (.head _)
    have kBOTTOM := c.cs _ (.tail _ (.head _))
    have kRESERVED := c.cs _ (.tail _ (.tail _ (.tail _ (.tail _ (.tail _ (.head _))))))
    refine ok_of c (.tail _ (.tail _ (.tail _ (.tail _ (.tail _ (.tail _ (.tail _ (.tail _ (.tail _ (.tail _ (.tail _ (.tail _ (.tail _ (.tail _ (.tail _ (.tail _ (.tail _ (.tail _ (.tail _ (.tail _ (.tail _ (.tail _ (.tail _ (.tail _ (.tail _ (.tail _ (.tail _ (.tail _ (.head _))))))))))))))))))))))))))))) (fun _ _ _ _ _ _ us hl => match us, hl with | [_], _ => rfl) sc__law_is_term (fun as Q h => by first | (obtain ⟨_, rfl, _⟩ := h; rfl) | (obtain ⟨_, _, rfl, _⟩ := h; rfl) | (obtain ⟨_, _, _, rfl, _⟩ := h; rfl) | (obtain ⟨_, _, _, _, rfl, _⟩ := h; rfl) | (obtain ⟨_, _, _, _, _, rfl, _⟩ := h; rfl) | (obtain ⟨_, _, _, _, _, _, rfl, _⟩ := h; rfl) | (obtain ⟨_, _, _, _, _, _, _, rfl, _⟩ := h; rfl) | (obtain ⟨_, _, _, _, _, _, _, _, rfl, _⟩ := h; rfl) | (obtain ⟨_, _, _, _, _, _, _, _, _, rfl, _⟩ := h; rfl) | (obtain ⟨rfl, _⟩ := h; rfl)) fun f cdv A outer s H E hr as Q qs hF hq => ?_
    obtain ⟨d, rfl, o, hb, hh, hQ⟩ := hF
    obtain rfl : qs = [] := List.length_eq_zero_iff.mp hq
    refine ⟨_, (pss_cons (ps_if (PW.pt (pw_or (pt_not (pt_val (pe_callB (r := rIsi K) call_isi rfl (c.fr _ (.tail _ (.head _))) PyProof.Rows.boot_isinstance (pa_cons (pv 0) (pa_cons (pe_bltn (v := .ty "tuple") rfl (c.fr _ (.tail _ (.tail _ (.tail _ (.tail _ (.head _)))))) PyProof.Rows.boot_tuple rfl) pa_nil))))) (pw_or1 (pt_cmpR op_eq (pe_callB (r := Pl.rLen K) call_len rfl (c.fr _ (.tail _ (.tail _ (.tail _ (.head _))))) PySem.boot_len (pa_cons (pv 0) pa_nil)) pe_int (nomark _))))) (pss_one (ps_ret pe_bl)) pss_nil)
    (pss_cons (ps_if (PW.pt (pw_or (pt_cmpR (r := rEqD K) (op_eqD hr.units) (pe_ix (r := rIxT K) ix_tup (pv 0) pe_int (fun _ _ => rfl)) pe_str (nomark _)) (pw_or1 (pt_cmpR (r := rEqD K) (op_eqD hr.units) (pe_ix (r := rIxT K) ix_tup (pv 0) pe_int (fun _ _ => rfl)) pe_str (nomark _))))) (pss_one (ps_ret (pe_cmpR op_eq (pe_callB (r := Pl.rLen K) call_len rfl (c.fr _ (.tail _ (.tail _ (.tail _ (.head _))))) PySem.boot_len (pa_cons (pv 0) pa_nil)) pe_int (nomark _)))) pss_nil)
    (pss_cons (ps_if (pt_cmpR (r := rEqD K) (op_eqD hr.units) (pe_ix (r := rIxT K) ix_tup (pv 0) pe_int (fun _ _ => rfl)) pe_str (nomark _)) (pss_one (ps_ret (pe_and (pe_cmpR op_eq (pe_callB (r := Pl.rLen K) call_len rfl (c.fr _ (.tail _ (.tail _ (.tail _ (.head _))))) PySem.boot_len (pa_cons (pv 0) pa_nil)) pe_int (nomark _)) (pe_one (pe_f h__law_is_word (hr.mono (by omega)) rfl (pa_cons (pe_ix (r := rIxT K) ix_tup (pv 0) pe_int (fun _ _ => rfl)) pa_nil)))))) pss_nil)
    (pss_cons (ps_if (pt_cmpR (r := rEqD K) (op_eqD hr.units) (pe_ix (r := rIxT K) ix_tup (pv 0) pe_int (fun _ _ => rfl)) pe_str (nomark _)) (pss_one (ps_ret (pe_and (pe_cmpR op_eq (pe_callB (r := Pl.rLen K) call_len rfl (c.fr _ (.tail _ (.tail _ (.tail _ (.head _))))) PySem.boot_len (pa_cons (pv 0) pa_nil)) pe_int (nomark _)) (pe_and (pe_f h__law_is_word (hr.mono (by omega)) rfl (pa_cons (pe_ix (r := rIxT K) ix_tup (pv 0) pe_int (fun _ _ => rfl)) pa_nil)) (pe_one (pe_f h__law_is_term (hr.mono (by omega)) rfl (pa_cons (pe_ix (r := rIxT K) ix_tup (pv 0) pe_int (fun _ _ => rfl)) pa_nil))))))) pss_nil)
    (pss_cons (ps_if (PW.pt (pw_or (pt_cmpR (r := rNeD K) (op_neD hr.units) (pe_ix (r := rIxT K) ix_tup (pv 0) pe_int (fun _ _ => rfl)) pe_str (nomark _)) (pw_or (pt_cmpR op_ne (pe_callB (r := Pl.rLen K) call_len rfl (c.fr _ (.tail _ (.tail _ (.tail _ (.head _))))) PySem.boot_len (pa_cons (pv 0) pa_nil)) pe_int (nomark _)) (pw_or1 (pt_not (pt_val (pe_callB (r := rIsi K) call_isi rfl (c.fr _ (.tail _ (.head _))) PyProof.Rows.boot_isinstance (pa_cons (pe_ix (r := rIxT K) ix_tup (pv 0) pe_int (fun _ _ => rfl)) (pa_cons (pe_bltn (v := .ty "tuple") rfl (c.fr _ (.tail _ (.tail _ (.tail _ (.tail _ (.head _)))))) PyProof.Rows.boot_tuple rfl) pa_nil))))))))) (pss_one (ps_ret pe_bl)) pss_nil)
    (pss_cons (ps_for PassesOwn.never rfl (pi_tupK (K0 := K) (pe_ix (r := rIxT K) ix_tup (pv 0) pe_int (fun _ _ => rfl))) (pg_name (i := 1) nd rfl (Or.inl rfl)) (pss_one (ps_if (pt_not (pt_val (pe_f h__law_is_term (hr.mono (by omega)) rfl (pa_cons (pv 1) pa_nil)))) (pss_one (ps_ret pe_bl)) pss_nil)))
    (pss_one (ps_ret pe_bl)))))))), ?_⟩
    show Ss K T _ [.val _, .no] _
    cases d with
    | tuple us =>
      cases us with
      | nil => k_search "go"; exact hQ
      | cons a rest =>
        have sa : SeqAt.shaped a = true := shaped_part o hb (.head _)
        have h0 : atI (a :: rest) 0 = some a := atI_nat (j := 0) rfl
        have hz : ((a :: rest).length : Int) ≠ 0 := by simp only [List.length_cons]; omega
        k_search "go"
        refine opd_isS sa (by decide +kernel) ?_
        cases h1 : isS a "top"
        case true =>
          cases isS_eq h1
          rw [lt_top] at hQ
          k_search "go"
          exact hQ
        k_search "go"
        refine opd_isS sa (by decide +kernel) ?_
        cases h2 : isS a "bottom"
        case true =>
          cases isS_eq h2
          rw [lt_bot] at hQ
          k_search "go"
          exact hQ
        k_search "go"
        refine opd_isS sa (by decide +kernel) ?_
        cases h3 : isS a "name"
        case true =>
          have ea := isS_eq h3
          k_search "go"
          refine iteD (fun hl => ?_) fun hl => ?_
          · match rest, hl with
            | [b], _ =>
              have ob : okO b = true := by simp only [okO, okOs, Bool.and_eq_true] at o; exact o.2.2.1
              rw [termB2, h3] at hQ
              k_search "go"
              refine cv [.val _] ⟨rfl, trivial⟩ ⟨b, rfl, okO_short ob, rim rfl, ?_⟩
              k_search "go"
              exact hQ
            | [], hl => exact absurd hl (by simp)
            | _ :: _ :: r, hl => simp only [List.length_cons] at hl; omega
          · rw [lt_len h1 h2 (n := 1) (.inl ⟨h3, rfl⟩) (fun q => hl (by rw [List.length_cons, q]; rfl))] at hQ
            k_search "go"
            exact hQ
        k_search "go"
        refine opd_isS sa (by decide +kernel) ?_
        cases h4 : isS a "some"
        case true =>
          have ea := isS_eq h4
          k_search "go"
          refine iteD (fun hl => ?_) fun hl => ?_
          · match rest, hl with
            | [b, e], _ =>
              have ob : okO b = true := by simp only [okO, okOs, Bool.and_eq_true] at o; exact o.2.2.1
              have oe : okO e = true := by simp only [okO, okOs, Bool.and_eq_true] at o; exact o.2.2.2.1
              have de : e.depth < (PyData.tuple [a, b, e]).depth := Nat.lt_succ_of_le (depthAll_le (.tail _ (.tail _ (.head _))))
              rw [termB3, h4] at hQ
              k_search "go"
              refine cv [.val _] ⟨rfl, trivial⟩ ⟨b, rfl, okO_short ob, rim rfl, ?_⟩
              cases hb2 : wordB b
              · rw [hb2] at hQ
                k_search "go"
                exact hQ
              · rw [hb2] at hQ
                k_search "go"
                refine cv [.val _] ⟨rfl, trivial⟩ ⟨e, rfl, oe, by omega, by omega, rim rfl, ?_⟩
                k_search "go"
                exact hQ
            | [], hl => exact absurd hl (by simp)
            | [_], hl => exact absurd hl (by simp)
            | _ :: _ :: _ :: r, hl => simp only [List.length_cons] at hl; omega
          · rw [lt_len h1 h2 (n := 2) (.inr (.inl ⟨h4, rfl⟩)) (fun q => hl (by rw [List.length_cons, q]; rfl))] at hQ
            k_search "go"
            exact hQ
        k_search "go"
        refine opd_nisS sa (by decide +kernel) ?_
        cases h5 : isS a "and"
        case false =>
          rw [lt_none h1 h2 h3 h4 h5] at hQ
          k_search "go"
          exact hQ
        have ea := isS_eq h5
        k_search "go"
        refine iteN (fun hl => ?_) fun hl => ?_
        · rw [lt_len h1 h2 (n := 1) (.inr (.inr ⟨h5, rfl⟩)) (fun q => hl (by rw [List.length_cons, q]; rfl))] at hQ
          k_search "go"
          exact hQ
        match rest, hl with
        | [], hl => exact absurd hl (by simp)
        | _ :: _ :: r, hl => simp only [List.length_cons] at hl; omega
        | [b], _ =>
          have ob : okO b = true := by simp only [okO, okOs, Bool.and_eq_true] at o; exact o.2.2.1
          rw [termB2, h3, h5] at hQ
          cases b with
          | tuple vs =>
            have hQ : Q (.val (.bool (vs.all termB))) [] := hQ
            have ov : okOs vs = true := by simp only [okO, Bool.and_eq_true] at ob; exact ob.2
            have dv : PyData.depthAll vs + 1 < (PyData.tuple [a, .tuple vs]).depth := Nat.lt_succ_of_le (depthAll_le (d := .tuple vs) (.tail _ (.head _)))
            k_search "go"
            refine go_forT vs (fun k δ => ∃ s, δ = [.val (.tuple [a, .tuple vs]), s] ∧ (vs.take k).all termB = true) ?_ ?_ ?_
            · k_search "go"
              exact ⟨rfl, _, rfl, rfl⟩
            · rintro k d δ2 hk ⟨s, rfl, ha⟩
              have m := List.mem_of_getElem? hk
              have od := okOs_mem ov m
              have dd := depthAll_le m
              k_search "nrm"
              k_search "go"
              refine cv [.val _] ⟨rfl, trivial⟩ ⟨d, rfl, od, by omega, by omega, rim rfl, ?_⟩
              cases hd : termB d
              · have e : vs.all termB = false := by
                  rw [List.all_eq_false]
                  exact ⟨d, m, by rw [hd]; exact Bool.false_ne_true⟩
                rw [e] at hQ
                k_search "go"
                exact hQ
              · k_search "go"
                rw [List.take_add_one, hk, List.all_append, ha]
                show (termB d && true) = true
                rw [hd]
                rfl
            · rintro δ2 ⟨s, rfl, ha⟩
              rw [List.take_length] at ha
              rw [ha] at hQ
              k_search "go"
              exact hQ
          | _ =>
            k_search "go"
            exact hQ
    | none => k_search "go"; exact hQ
    | bool b => k_search "go"; exact hQ
    | int i => k_search "go"; exact hQ
    | str x => k_search "go"; exact hQ
    | list l => k_search "go"; exact hQ
    | dict l => k_search "go"; exact hQ
set_option Elab.async false
set_option linter.all false
set_option maxRecDepth 100000
set_option maxHeartbeats 4000001
open PySem L2 LamX NdefX PyProof.Rows GenW Pl
variable {P : Program} {w : World} {K : PySem.W.Frag} {mg : Str → Option Value} {base : Heap} {T : List NTab} {ts : List Str}
theorem w_len5 {x : Str} (h : W x) : x.length ≤ 100000 := Nat.le_trans h.hi (by decide)
mutual
theorem okO_tm : ∀ t : Tm, t.good → t.cnt ≤ 1000 → okO t.d = true
  | .top, _, _ => by decide +kernel
  | .bot, _, _ => by decide +kernel
  | .name w, g, _ => by
    have e : okO (Tm.name w).d = (decide (2 ≤ 1000) && ((PyData.strOk "name" && decide (("name" : Str).length ≤ 100000)) && ((PyData.strOk w && decide (w.length ≤ 100000)) && true))) := rfl
    rw [e, W.ok g, decide_eq_true (w_len5 g)]
    decide +kernel
  | .some r t, g, h => by
    have e : okO (Tm.some r t).d = (decide (3 ≤ 1000) && ((PyData.strOk "some" && decide (("some" : Str).length ≤ 100000)) && ((PyData.strOk r && decide (r.length ≤ 100000)) && (okO t.d && true)))) := rfl
    rw [e, W.ok g.1, okO_tm t g.2 (by have : t.cnt + 1 ≤ 1000 := h; omega), decide_eq_true (w_len5 g.1)]
    decide +kernel
  | .and ts, g, h => by
    have e : okO (Tm.and ts).d = (decide (2 ≤ 1000) && ((PyData.strOk "and" && decide (("and" : Str).length ≤ 100000)) && ((decide ((Tm.dL ts).length ≤ 1000) && okOs (Tm.dL ts)) && true))) := rfl
    have h : Tm.cntL ts + 1 ≤ 1000 := h
    have l := Tm.len_cntL ts
    have dl : decide ((Tm.dL ts).length ≤ 1000) = true := decide_eq_true (by rw [Tm.dL_map, List.length_map]; omega)
    rw [e, okO_tmL ts g (by omega), dl]
    decide +kernel
theorem okO_tmL : ∀ ts : List Tm, Tm.goodL ts → Tm.cntL ts ≤ 1000 → okOs (Tm.dL ts) = true
  | [], _, _ => rfl
  | t :: ts, g, h => by
    have h : t.cnt + Tm.cntL ts ≤ 1000 := h
    show (okO t.d && okOs (Tm.dL ts)) = true
    rw [okO_tm t g.1 (by omega), okO_tmL ts g.2 (by omega)]
    rfl
end
mutual
theorem nod_tm : ∀ t : Tm, nod t.d ≤ 4 * t.cnt
  | .top => by decide
  | .bot => by decide
  | .name w => by show 3 ≤ 4; decide
  | .some r t => by
    have := nod_tm t
    show 1 + (1 + (nod t.d + 0)) + 1 ≤ 4 * (t.cnt + 1)
    omega
  | .and ts => by
    have := nod_tmL ts
    show 1 + (nods (Tm.dL ts) + 1 + 0) + 1 ≤ 4 * (Tm.cntL ts + 1)
    omega
theorem nod_tmL : ∀ ts : List Tm, nods (Tm.dL ts) ≤ 4 * Tm.cntL ts
  | [] => Nat.zero_le _
  | t :: ts => by
    have h1 := nod_tm t
    have h2 := nod_tmL ts
    show nod t.d + nods (Tm.dL ts) ≤ 4 * (t.cnt + Tm.cntL ts)
    omega
end
mutual
theorem term_tm : ∀ t : Tm, t.good → termB t.d = true
  | .top, _ => by show termB (.tuple [.str "top"]) = true; rw [termB1, isS_ss, isS_ss]; rfl
  | .bot, _ => by show termB (.tuple [.str "bottom"]) = true; rw [termB1, isS_ss, isS_ss]; rfl
  | .name w, g => by
    show termB (.tuple [.str "name", .str w]) = true
    rw [termB2, isS_ss]
    exact wB_W.mpr g
  | .some r t, g => by
    show termB (.tuple [.str "some", .str r, t.d]) = true
    rw [termB3, isS_ss, term_tm t g.2, Bool.and_true]
    exact wB_W.mpr g.1
  | .and ts, g => by
    show termB (.tuple [.str "and", .tuple (Tm.dL ts)]) = true
    rw [termB2, isS_ss, isS_ss]
    exact term_tmL ts g
theorem term_tmL : ∀ ts : List Tm, Tm.goodL ts → (Tm.dL ts).all termB = true
  | [], _ => rfl
  | t :: ts, g => by
    show (termB t.d && (Tm.dL ts).all termB) = true
    rw [term_tm t g.1, term_tmL ts g.2]
    rfl
end
theorem tb_od {h : Nat} {t : Tm} (b : Tb h t) : Od t.d := ⟨okO_tm t b.good b.cnt, by have := depth_tm t; have := b.low; omega, by have := nod_tm t; have := b.cnt; omega⟩
theorem tb_term {h : Nat} {t : Tm} (b : Tb h t) : termB t.d = true := term_tm t b.good
abbrev ITm (K : PySem.W.Frag) : Value := .ref (He.ga K "InvalidTerm")
abbrev INm (K : PySem.W.Frag) : Value := .ref (He.ga K "InvalidName")
abbrev OkF (P : Program) (w : World) (K : PySem.W.Frag) (mg : Str → Option Value) (base : Heap) (T : List NTab) (k : Nat) (x : Str) (ps : List Str) (F : FS) := Ok P w K mg base k x ps (spOf K T F)
abbrev OkXF (P : Program) (w : World) (K : PySem.W.Frag) (mg : Str → Option Value) (base : Heap) (T : List NTab) (k : Nat) (x : Str) (ps : List Str) (F : FSX) := OkX P w K mg base k x ps (spXOf K T F)
def F_chk (K : PySem.W.Frag) : FSX := fun as Q QX => ∃ d : D, as = [.val d] ∧ Od d ∧ if termB d = true then Q (.val .none) [] else QX (ITm K) []
/-- of a term, or an odd value that is none -/
def F_t (K : PySem.W.Frag) (h : Nat) (f : Tm → R) : FSX := fun as Q QX => (∃ t : Tm, as = [.val t.d] ∧ Tb h t ∧ Q (f t) []) ∨ ∃ d : D, as = [.val d] ∧ Od d ∧ termB d = false ∧ QX (ITm K) []
theorem ok_check_term (c : Al K mg base ds fr ts cs) (h_is_term : OkF P w K mg base T 3 "is_term" ["value"] F_ist) : OkXF P w K mg base T 4 "check_term" ["value"] (F_chk K) := by
  have nd := sc_check_term.nd
  have kTOP := c.cs _ (.head _)
  have kBOTTOM := c.cs _ (.tail _ (.head _))
  have kRESERVED := c.cs _ (.tail _ (.tail _ (.tail _ (.tail _ (.tail _ (.head _))))))
  refine ok_ofX c (.tail _ (.tail _ (.tail _ (.head _)))) (fun _ _ _ _ _ _ us hl => match us, hl with | [_], _ => rfl) sc_check_term (fun as Q X h => by first | (rcases h with ⟨_, rfl, _⟩ | ⟨_, rfl, _⟩ <;> rfl) | (rcases h with ⟨_, _, rfl, _⟩ | ⟨_, _, rfl, _⟩ <;> rfl) | (rcases h with ⟨_, _, rfl, _⟩ | ⟨_, _, rfl, _⟩ | ⟨_, _, rfl, _⟩ <;> rfl) | (obtain ⟨_, rfl, _⟩ := h; rfl) | (obtain ⟨_, _, rfl, _⟩ := h; rfl) | (obtain ⟨_, _, _, rfl, _⟩ := h; rfl) | (obtain ⟨_, _, _, _, rfl, _⟩ := h; rfl) | (obtain ⟨_, _, _, _, _, rfl, _⟩ := h; rfl)) fun f cdv A outer s H E hr as Q QX qs hF hq => ?_
  obtain ⟨d, rfl, b, hQ⟩ := hF
  obtain rfl : qs = [] := List.length_eq_zero_iff.mp hq
  refine ⟨_, fun W tk => (pss_one (ps_if (pt_not (pt_val (pe_f h_is_term (hr.mono (by omega)) rfl (pa_cons (pv 0) pa_nil)))) (pss_one (ps_rz (c.cs _ (.tail _ (.tail _ (.tail _ (.tail _ (.tail _ (.tail _ (.tail _ (.head _))))))))) rfl tk rfl)) pss_nil)), ?_⟩
  show SsX K T _ [.val _] _ _
  k_search "go"
  refine cv [.val _] ⟨rfl, trivial⟩ ⟨d, rfl, b, rim rfl, ?_⟩
  cases ht : termB d
  · rw [ht] at hQ
    k_search "go"
    exact hQ
  · rw [ht] at hQ
    k_search "go"
    exact hQ
theorem ok_normal (c : Al K mg base ds fr ts cs) (h n : Nat) (h_check_term : OkXF P w K mg base T 4 "check_term" ["value"] (F_chk K)) (h_make_normal : OkF P w K mg base T n "make_normal" ["term"] (F_nf h)) : OkXF P w K mg base T (max 4 n + 1) "normal" ["term"] (F_t K h fun t => .val t.nf.d) := by
  have nd := sc_normal.nd
  have kTOP := c.cs _ (.head _)
  have kBOTTOM := c.cs _ (.tail _ (.head _))
  have kRESERVED := c.cs _ (.tail _ (.tail _ (.tail _ (.tail _ (.tail _ (.head _))))))
  refine ok_ofX c (.tail _ (.tail _ (.tail _ (.tail _ (.tail _ (.tail _ (.tail _ (.tail _ (.tail _ (.tail _ (.tail _ (.tail _ (.tail _ (.tail _ (.head _))))))))))))))) (fun _ _ _ _ _ _ us hl => match us, hl with | [_], _ => rfl) sc_normal (fun as Q X h => by first | (rcases h with ⟨_, rfl, _⟩ | ⟨_, rfl, _⟩ <;> rfl) | (rcases h with ⟨_, _, rfl, _⟩ | ⟨_, _, rfl, _⟩ <;> rfl) | (rcases h with ⟨_, _, rfl, _⟩ | ⟨_, _, rfl, _⟩ | ⟨_, _, rfl, _⟩ <;> rfl) | (obtain ⟨_, rfl, _⟩ := h; rfl) | (obtain ⟨_, _, rfl, _⟩ := h; rfl) | (obtain ⟨_, _, _, rfl, _⟩ := h; rfl) | (obtain ⟨_, _, _, _, rfl, _⟩ := h; rfl) | (obtain ⟨_, _, _, _, _, rfl, _⟩ := h; rfl)) fun f cdv A outer s H E hr as Q QX qs hF hq => ?_
  refine ⟨_, fun W tk => (pss_cons (ps_expr (pe_fxS h_check_term tk (hr.mono (by omega)) rfl (pa_cons (pv 0) pa_nil)))
    (pss_one (ps_ret (pe_f h_make_normal (hr.mono (by omega)) rfl (pa_cons (pv 0) pa_nil))))), ?_⟩
  rcases hF with ⟨t, rfl, b, hQ⟩ | ⟨d, rfl, o, ht, hX⟩
  · obtain rfl : qs = [] := List.length_eq_zero_iff.mp hq
    show SsX K T _ [.val _] _ _
    k_search "go"
    refine xv [.val _] ⟨rfl, trivial⟩ ⟨t.d, rfl, tb_od b, ?_⟩
    rw [if_pos (tb_term b)]
    k_search "go"
    refine cv [.val _] ⟨rfl, trivial⟩ ⟨t, rfl, b, rim (Tm.imm_d _), ?_⟩
    k_search "go"
    exact hQ
  · obtain rfl : qs = [] := List.length_eq_zero_iff.mp hq
    show SsX K T _ [.val _] _ _
    k_search "go"
    refine xv [.val _] ⟨rfl, trivial⟩ ⟨d, rfl, o, ?_⟩
    rw [if_neg (by rw [ht]; exact Bool.false_ne_true)]
    k_search "go"
    exact hX
def F_nsize (h : Nat) : FS := fun as Q => ∃ t : Tm, as = [.val t.d] ∧ Tb h t ∧ Q (.val (.int t.sz)) []
def F_ndepth (h : Nat) : FS := fun as Q => ∃ t : Tm, as = [.val t.d] ∧ Tb h t ∧ Q (.val (.int t.dp)) []
theorem ok_nsize (c : Al K mg base ds fr ts cs) (H0 n : Nat) (h_raw_conjuncts : OkF P w K mg base T n "raw_conjuncts" ["term"] (F_raw H0)) : ∀ h : Nat, h ≤ H0 → OkF P w K mg base T (n + h + 1) "normal_size" ["term"] (F_nsize h)
  | 0, _ => by
    have nd := sc_normal_size.nd
    have kTOP := c.cs _ (.head _)
    have kBOTTOM := c.cs _ (.tail _ (.head _))
    have kRESERVED := c.cs _ (.tail _ (.tail _ (.tail _ (.tail _ (.tail _ (.head _))))))
    refine ok_of c (.tail _ (.tail _ (.tail _ (.tail _ (.tail _ (.tail _ (.tail _ (.tail _ (.tail _ (.tail _ (.tail _ (.tail _ (.tail _ (.tail _ (.tail _ (.tail _ (.tail _ (.head _)))))))))))))))))) (fun _ _ _ _ _ _ us hl => match us, hl with | [_], _ => rfl) sc_normal_size (fun as Q h => by first | (obtain ⟨_, rfl, _⟩ := h; rfl) | (obtain ⟨_, _, rfl, _⟩ := h; rfl) | (obtain ⟨_, _, _, rfl, _⟩ := h; rfl) | (obtain ⟨_, _, _, _, rfl, _⟩ := h; rfl) | (obtain ⟨_, _, _, _, _, rfl, _⟩ := h; rfl) | (obtain ⟨_, _, _, _, _, _, rfl, _⟩ := h; rfl) | (obtain ⟨_, _, _, _, _, _, _, rfl, _⟩ := h; rfl) | (obtain ⟨_, _, _, _, _, _, _, _, rfl, _⟩ := h; rfl) | (obtain ⟨_, _, _, _, _, _, _, _, _, rfl, _⟩ := h; rfl) | (obtain ⟨rfl, _⟩ := h; rfl)) fun f cdv A outer s H E hr as Q qs hF hq => ?_
    obtain ⟨t, rfl, b, _⟩ := hF
    exact b.no.elim
  | h + 1, hh => by
    have h_normal_size := ok_nsize c H0 n h_raw_conjuncts h (by omega)
    have nd := sc_normal_size.nd
    have kTOP := c.cs _ (.head _)
    have kBOTTOM := c.cs _ (.tail _ (.head _))
    have kRESERVED := c.cs _ (.tail _ (.tail _ (.tail _ (.tail _ (.tail _ (.head _))))))
    refine ok_of c (.tail _ (.tail _ (.tail _ (.tail _ (.tail _ (.tail _ (.tail _ (.tail _ (.tail _ (.tail _ (.tail _ (.tail _ (.tail _ (.tail _ (.tail _ (.tail _ (.tail _ (.head _)))))))))))))))))) (fun _ _ _ _ _ _ us hl => match us, hl with | [_], _ => rfl) sc_normal_size (fun as Q h => by first | (obtain ⟨_, rfl, _⟩ := h; rfl) | (obtain ⟨_, _, rfl, _⟩ := h; rfl) | (obtain ⟨_, _, _, rfl, _⟩ := h; rfl) | (obtain ⟨_, _, _, _, rfl, _⟩ := h; rfl) | (obtain ⟨_, _, _, _, _, rfl, _⟩ := h; rfl) | (obtain ⟨_, _, _, _, _, _, rfl, _⟩ := h; rfl) | (obtain ⟨_, _, _, _, _, _, _, rfl, _⟩ := h; rfl) | (obtain ⟨_, _, _, _, _, _, _, _, rfl, _⟩ := h; rfl) | (obtain ⟨_, _, _, _, _, _, _, _, _, rfl, _⟩ := h; rfl) | (obtain ⟨rfl, _⟩ := h; rfl)) fun f cdv A outer s H E hr as Q qs hF hq => ?_
    obtain ⟨t, rfl, b, hQ⟩ := hF
    obtain rfl : qs = [] := List.length_eq_zero_iff.mp hq
    refine ⟨_, (pss_cons (ps_set (i := 1) nd rfl (Or.inl rfl) pe_int)
    (pss_cons (ps_for PassesOwn.never rfl (pi_listK (K0 := K) (pe_f h_raw_conjuncts (hr.mono (by omega)) rfl (pa_cons (pv 0) pa_nil))) (pg_name (i := 2) nd rfl (Or.inl rfl)) (pss_one (ps_if (pt_cmpR op_eq (pe_ix (r := rIxT K) ix_tup (pv 2) pe_int (fun _ _ => rfl)) pe_str (nomark _)) (pss_one (ps_set (i := 1) nd rfl (Or.inl rfl) (pe_op op_add (pv 1) pe_int))) (pss_one (ps_if (pt_cmpR op_eq (pe_ix (r := rIxT K) ix_tup (pv 2) pe_int (fun _ _ => rfl)) pe_str (nomark _)) (pss_one (ps_set (i := 1) nd rfl (Or.inl rfl) (pe_op op_add (pe_op op_add (pv 1) pe_int) (pe_f h_normal_size (hr.mono (by omega)) rfl (pa_cons (pe_ix (r := rIxT K) ix_tup (pv 2) pe_int (fun _ _ => rfl)) pa_nil))))) pss_nil)))))
    (pss_one (ps_ret (pv 1))))), ?_⟩
    show Ss K T _ [.val _, .no, .no] _
    k_search "go"
    refine go_forL (t.raw.map Tm.d) (fun k δ => ∃ s, δ = [.val t.d, .val (.int (Tm.szL (t.raw.take k))), s]) ?_ ?_ ?_
    · k_search "go"
      exact cv [.val _] ⟨rfl, trivial⟩ ⟨t, rfl, b.mono hh, rimL tm_imm, rfl, _, rfl⟩
    · rintro k d δ2 hk ⟨s, rfl⟩
      obtain ⟨u, hu, rfl⟩ := map_at hk
      have m := List.mem_of_getElem? hu
      have ha := Tm.raw_atom t u m
      have bu := b.raw m
      have et := szL_take hu
      k_search "nrm"
      cases u with
      | top => cases ha
      | and us => cases ha
      | bot =>
        k_search "go"
        exact ⟨_, by rw [et]; rfl⟩
      | name x =>
        k_search "go"
        exact ⟨_, by rw [et]; rfl⟩
      | some r v =>
        k_search "go"
        refine cv [.val _] ⟨rfl, trivial⟩ ⟨v, rfl, bu.some, rim rfl, ?_⟩
        k_search "go"
        refine ⟨.val (Tm.some r v).d, ?_⟩
        rw [et]
        have e : ((Tm.szL (t.raw.take k) : Nat) : Int) + 1 + (v.sz : Nat) = ((Tm.szL (t.raw.take k) + (Tm.some r v).sz : Nat) : Int) := by
          show _ = ((Tm.szL (t.raw.take k) + (v.sz + 1) : Nat) : Int)
          omega
        rw [e]
    · rintro δ2 ⟨s, rfl⟩
      rw [List.length_map, List.take_length, ← sz_raw]
      k_search "go"
      exact hQ
theorem ok_ndepth (c : Al K mg base ds fr ts cs) (H0 n : Nat) (h_raw_conjuncts : OkF P w K mg base T n "raw_conjuncts" ["term"] (F_raw H0)) : ∀ h : Nat, h ≤ H0 → OkF P w K mg base T (n + h + 1) "normal_depth" ["term"] (F_ndepth h)
  | 0, _ => by
    have nd := sc_normal_depth.nd
    have kTOP := c.cs _ (.head _)
    have kBOTTOM := c.cs _ (.tail _ (.head _))
    have kRESERVED := c.cs _ (.tail _ (.tail _ (.tail _ (.tail _ (.tail _ (.head _))))))
    refine ok_of c (.tail _ (.tail _ (.tail _ (.tail _ (.tail _ (.tail _ (.tail _ (.tail _ (.tail _ (.tail _ (.tail _ (.tail _ (.tail _ (.tail _ (.tail _ (.tail _ (.tail _ (.tail _ (.head _))))))))))))))))))) (fun _ _ _ _ _ _ us hl => match us, hl with | [_], _ => rfl) sc_normal_depth (fun as Q h => by first | (obtain ⟨_, rfl, _⟩ := h; rfl) | (obtain ⟨_, _, rfl, _⟩ := h; rfl) | (obtain ⟨_, _, _, rfl, _⟩ := h; rfl) | (obtain ⟨_, _, _, _, rfl, _⟩ := h; rfl) | (obtain ⟨_, _, _, _, _, rfl, _⟩ := h; rfl) | (obtain ⟨_, _, _, _, _, _, rfl, _⟩ := h; rfl) | (obtain ⟨_, _, _, _, _, _, _, rfl, _⟩ := h; rfl) | (obtain ⟨_, _, _, _, _, _, _, _, rfl, _⟩ := h; rfl) | (obtain ⟨_, _, _, _, _, _, _, _, _, rfl, _⟩ := h; rfl) | (obtain ⟨rfl, _⟩ := h; rfl)) fun f cdv A outer s H E hr as Q qs hF hq => ?_
    obtain ⟨t, rfl, b, _⟩ := hF
    exact b.no.elim
  | h + 1, hh => by
    have h_normal_depth := ok_ndepth c H0 n h_raw_conjuncts h (by omega)
    have nd := sc_normal_depth.nd
    have kTOP := c.cs _ (.head _)
    have kBOTTOM := c.cs _ (.tail _ (.head _))
    have kRESERVED := c.cs _ (.tail _ (.tail _ (.tail _ (.tail _ (.tail _ (.head _))))))
    refine ok_of c (.tail _ (.tail _ (.tail _ (.tail _ (.tail _ (.tail _ (.tail _ (.tail _ (.tail _ (.tail _ (.tail _ (.tail _ (.tail _ (.tail _ (.tail _ (.tail _ (.tail _ (.tail _ (.head _))))))))))))))))))) (fun _ _ _ _ _ _ us hl => match us, hl with | [_], _ => rfl) sc_normal_depth (fun as Q h => by first | (obtain ⟨_, rfl, _⟩ := h; rfl) | (obtain ⟨_, _, rfl, _⟩ := h; rfl) | (obtain ⟨_, _, _, rfl, _⟩ := h; rfl) | (obtain ⟨_, _, _, _, rfl, _⟩ := h; rfl) | (obtain ⟨_, _, _, _, _, rfl, _⟩ := h; rfl) | (obtain ⟨_, _, _, _, _, _, rfl, _⟩ := h; rfl) | (obtain ⟨_, _, _, _, _, _, _, rfl, _⟩ := h; rfl) | (obtain ⟨_, _, _, _, _, _, _, _, rfl, _⟩ := h; rfl) | (obtain ⟨_, _, _, _, _, _, _, _, _, rfl, _⟩ := h; rfl) | (obtain ⟨rfl, _⟩ := h; rfl)) fun f cdv A outer s H E hr as Q qs hF hq => ?_
    obtain ⟨t, rfl, b, hQ⟩ := hF
    obtain rfl : qs = [] := List.length_eq_zero_iff.mp hq
    refine ⟨_, (pss_cons (ps_set (i := 1) nd rfl (Or.inl rfl) pe_int)
    (pss_cons (ps_for PassesOwn.never rfl (pi_listK (K0 := K) (pe_f h_raw_conjuncts (hr.mono (by omega)) rfl (pa_cons (pv 0) pa_nil))) (pg_name (i := 2) nd rfl (Or.inl rfl)) (pss_one (ps_if (pt_cmpR op_eq (pe_ix (r := rIxT K) ix_tup (pv 2) pe_int (fun _ _ => rfl)) pe_str (nomark _)) (pss_one (ps_set (i := 1) nd rfl (Or.inl rfl) (pe_callB (call_max2 rfl) rfl (c.fr _ (.tail _ (.tail _ (.tail _ (.tail _ (.tail _ (.tail _ (.tail _ (.tail _ (.head _)))))))))) PyProof.Rows.boot_max (pa_cons (pv 1) (pa_cons (pe_op op_add pe_int (pe_f h_normal_depth (hr.mono (by omega)) rfl (pa_cons (pe_ix (r := rIxT K) ix_tup (pv 2) pe_int (fun _ _ => rfl)) pa_nil))) pa_nil))))) pss_nil)))
    (pss_one (ps_ret (pv 1))))), ?_⟩
    show Ss K T _ [.val _, .no, .no] _
    k_search "go"
    refine go_forL (t.raw.map Tm.d) (fun k δ => ∃ s, δ = [.val t.d, .val (.int (Tm.dpL (t.raw.take k))), s]) ?_ ?_ ?_
    · k_search "go"
      exact cv [.val _] ⟨rfl, trivial⟩ ⟨t, rfl, b.mono hh, rimL tm_imm, rfl, _, rfl⟩
    · rintro k d δ2 hk ⟨s, rfl⟩
      obtain ⟨u, hu, rfl⟩ := map_at hk
      have m := List.mem_of_getElem? hu
      have ha := Tm.raw_atom t u m
      have bu := b.raw m
      have et := dpL_take hu
      k_search "nrm"
      cases u with
      | top => cases ha
      | and us => cases ha
      | bot =>
        k_search "go"
        exact ⟨_, by rw [et, show Tm.dp .bot = 0 from rfl, Nat.max_zero]⟩
      | name x =>
        k_search "go"
        exact ⟨_, by rw [et, show Tm.dp (.name x) = 0 from rfl, Nat.max_zero]⟩
      | some r v =>
        k_search "go"
        refine cv [.val _] ⟨rfl, trivial⟩ ⟨v, rfl, bu.some, rim rfl, ?_⟩
        k_search "go"
        refine ⟨[_, _], ⟨rfl, rfl, trivial⟩, cb_max2 ?_⟩
        k_search "go"
        refine ⟨.val (Tm.some r v).d, ?_⟩
        rw [et]
        have e : max ((Tm.dpL (t.raw.take k) : Nat) : Int) (1 + (v.dp : Nat)) = ((max (Tm.dpL (t.raw.take k)) (Tm.some r v).dp : Nat) : Int) := by
          show _ = ((max (Tm.dpL (t.raw.take k)) (v.dp + 1) : Nat) : Int)
          omega
        rw [e]
    · rintro δ2 ⟨s, rfl⟩
      rw [List.length_map, List.take_length, ← dp_raw]
      k_search "go"
      exact hQ
theorem ok_conjuncts (c : Al K mg base ds fr ts cs) (h n m : Nat) (h_check_term : OkXF P w K mg base T 4 "check_term" ["value"] (F_chk K)) (h_make_normal : OkF P w K mg base T n "make_normal" ["term"] (F_nf h))
    (h_raw_conjuncts : OkF P w K mg base T m "raw_conjuncts" ["term"] (F_raw h)) : OkXF P w K mg base T (max 4 (max n m) + 1) "conjuncts" ["term"] (F_t K h fun t => .new (.lst (t.nf.raw.map Tm.d))) := by
  have nd := sc_conjuncts.nd
  have kTOP := c.cs _ (.head _)
  have kBOTTOM := c.cs _ (.tail _ (.head _))
  have kRESERVED := c.cs _ (.tail _ (.tail _ (.tail _ (.tail _ (.tail _ (.head _))))))
  refine ok_ofX c (.tail _ (.tail _ (.tail _ (.tail _ (.tail _ (.tail _ (.tail _ (.tail _ (.tail _ (.tail _ (.tail _ (.tail _ (.tail _ (.tail _ (.tail _ (.head _)))))))))))))))) (fun _ _ _ _ _ _ us hl => match us, hl with | [_], _ => rfl) sc_conjuncts (fun as Q X h => by first | (rcases h with ⟨_, rfl, _⟩ | ⟨_, rfl, _⟩ <;> rfl) | (rcases h with ⟨_, _, rfl, _⟩ | ⟨_, _, rfl, _⟩ <;> rfl) | (rcases h with ⟨_, _, rfl, _⟩ | ⟨_, _, rfl, _⟩ | ⟨_, _, rfl, _⟩ <;> rfl) | (obtain ⟨_, rfl, _⟩ := h; rfl) | (obtain ⟨_, _, rfl, _⟩ := h; rfl) | (obtain ⟨_, _, _, rfl, _⟩ := h; rfl) | (obtain ⟨_, _, _, _, rfl, _⟩ := h; rfl) | (obtain ⟨_, _, _, _, _, rfl, _⟩ := h; rfl)) fun f cdv A outer s H E hr as Q QX qs hF hq => ?_
  refine ⟨_, fun W tk => (pss_cons (ps_expr (pe_fxS h_check_term tk (hr.mono (by omega)) rfl (pa_cons (pv 0) pa_nil)))
    (pss_one (ps_ret (pe_f h_raw_conjuncts (hr.mono (by omega)) rfl (pa_cons (pe_f h_make_normal (hr.mono (by omega)) rfl (pa_cons (pv 0) pa_nil)) pa_nil))))), ?_⟩
  rcases hF with ⟨t, rfl, b, hQ⟩ | ⟨d, rfl, o, ht, hX⟩
  · obtain rfl : qs = [] := List.length_eq_zero_iff.mp hq
    show SsX K T _ [.val _] _ _
    k_search "go"
    refine xv [.val _] ⟨rfl, trivial⟩ ⟨t.d, rfl, tb_od b, ?_⟩
    rw [if_pos (tb_term b)]
    k_search "go"
    refine cv [.val _] ⟨rfl, trivial⟩ ⟨t, rfl, b, rim (Tm.imm_d _), ?_⟩
    k_search "go"
    refine cv [.val _] ⟨rfl, trivial⟩ ⟨t.nf, rfl, b.nf, rimL tm_imm, ?_⟩
    k_search "go"
    exact hQ
  · obtain rfl : qs = [] := List.length_eq_zero_iff.mp hq
    show SsX K T _ [.val _] _ _
    k_search "go"
    refine xv [.val _] ⟨rfl, trivial⟩ ⟨d, rfl, o, ?_⟩
    rw [if_neg (by rw [ht]; exact Bool.false_ne_true)]
    k_search "go"
    exact hX
theorem ok_size (c : Al K mg base ds fr ts cs) (h n m : Nat) (h_check_term : OkXF P w K mg base T 4 "check_term" ["value"] (F_chk K)) (h_make_normal : OkF P w K mg base T n "make_normal" ["term"] (F_nf h))
    (h_normal_size : OkF P w K mg base T m "normal_size" ["term"] (F_nsize h)) : OkXF P w K mg base T (max 4 (max n m) + 1) "size_of" ["term"] (F_t K h fun t => .val (.int t.nf.sz)) := by
  have nd := sc_size_of.nd
  have kTOP := c.cs _ (.head _)
  have kBOTTOM := c.cs _ (.tail _ (.head _))
  have kRESERVED := c.cs _ (.tail _ (.tail _ (.tail _ (.tail _ (.tail _ (.head _))))))
  refine ok_ofX c (.tail _ (.tail _ (.tail _ (.tail _ (.tail _ (.tail _ (.tail _ (.tail _ (.tail _ (.tail _ (.tail _ (.tail _ (.tail _ (.tail _ (.tail _ (.tail _ (.tail _ (.tail _ (.tail _ (.head _)))))))))))))))))))) (fun _ _ _ _ _ _ us hl => match us, hl with | [_], _ => rfl) sc_size_of (fun as Q X h => by first | (rcases h with ⟨_, rfl, _⟩ | ⟨_, rfl, _⟩ <;> rfl) | (rcases h with ⟨_, _, rfl, _⟩ | ⟨_, _, rfl, _⟩ <;> rfl) | (rcases h with ⟨_, _, rfl, _⟩ | ⟨_, _, rfl, _⟩ | ⟨_, _, rfl, _⟩ <;> rfl) | (obtain ⟨_, rfl, _⟩ := h; rfl) | (obtain ⟨_, _, rfl, _⟩ := h; rfl) | (obtain ⟨_, _, _, rfl, _⟩ := h; rfl) | (obtain ⟨_, _, _, _, rfl, _⟩ := h; rfl) | (obtain ⟨_, _, _, _, _, rfl, _⟩ := h; rfl)) fun f cdv A outer s H E hr as Q QX qs hF hq => ?_
  refine ⟨_, fun W tk => (pss_cons (ps_expr (pe_fxS h_check_term tk (hr.mono (by omega)) rfl (pa_cons (pv 0) pa_nil)))
    (pss_one (ps_ret (pe_f h_normal_size (hr.mono (by omega)) rfl (pa_cons (pe_f h_make_normal (hr.mono (by omega)) rfl (pa_cons (pv 0) pa_nil)) pa_nil))))), ?_⟩
  rcases hF with ⟨t, rfl, b, hQ⟩ | ⟨d, rfl, o, ht, hX⟩
  · obtain rfl : qs = [] := List.length_eq_zero_iff.mp hq
    show SsX K T _ [.val _] _ _
    k_search "go"
    refine xv [.val _] ⟨rfl, trivial⟩ ⟨t.d, rfl, tb_od b, ?_⟩
    rw [if_pos (tb_term b)]
    k_search "go"
    refine cv [.val _] ⟨rfl, trivial⟩ ⟨t, rfl, b, rim (Tm.imm_d _), ?_⟩
    k_search "go"
    refine cv [.val _] ⟨rfl, trivial⟩ ⟨t.nf, rfl, b.nf, rim rfl, ?_⟩
    k_search "go"
    exact hQ
  · obtain rfl : qs = [] := List.length_eq_zero_iff.mp hq
    show SsX K T _ [.val _] _ _
    k_search "go"
    refine xv [.val _] ⟨rfl, trivial⟩ ⟨d, rfl, o, ?_⟩
    rw [if_neg (by rw [ht]; exact Bool.false_ne_true)]
    k_search "go"
    exact hX
theorem ok_depth (c : Al K mg base ds fr ts cs) (h n m : Nat) (h_check_term : OkXF P w K mg base T 4 "check_term" ["value"] (F_chk K)) (h_make_normal : OkF P w K mg base T n "make_normal" ["term"] (F_nf h))
    (h_normal_depth : OkF P w K mg base T m "normal_depth" ["term"] (F_ndepth h)) : OkXF P w K mg base T (max 4 (max n m) + 1) "depth_of" ["term"] (F_t K h fun t => .val (.int t.nf.dp)) := by
  have nd := sc_depth_of.nd
  have kTOP := c.cs _ (.head _)
  have kBOTTOM := c.cs _ (.tail _ (.head _))
  have kRESERVED := c.cs _ (.tail _ (.tail _ (.tail _ (.tail _ (.tail _ (.head _))))))
  refine ok_ofX c (.tail _ (.tail _ (.tail _ (.tail _ (.tail _ (.tail _ (.tail _ (.tail _ (.tail _ (.tail _ (.tail _ (.tail _ (.tail _ (.tail _ (.tail _ (.tail _ (.tail _ (.tail _ (.tail _ (.tail _ (.head _))))))))))))))))))))) (fun _ _ _ _ _ _ us hl => match us, hl with | [_], _ => rfl) sc_depth_of (fun as Q X h => by first | (rcases h with ⟨_, rfl, _⟩ | ⟨_, rfl, _⟩ <;> rfl) | (rcases h with ⟨_, _, rfl, _⟩ | ⟨_, _, rfl, _⟩ <;> rfl) | (rcases h with ⟨_, _, rfl, _⟩ | ⟨_, _, rfl, _⟩ | ⟨_, _, rfl, _⟩ <;> rfl) | (obtain ⟨_, rfl, _⟩ := h; rfl) | (obtain ⟨_, _, rfl, _⟩ := h; rfl) | (obtain ⟨_, _, _, rfl, _⟩ := h; rfl) | (obtain ⟨_, _, _, _, rfl, _⟩ := h; rfl) | (obtain ⟨_, _, _, _, _, rfl, _⟩ := h; rfl)) fun f cdv A outer s H E hr as Q QX qs hF hq => ?_
  refine ⟨_, fun W tk => (pss_cons (ps_expr (pe_fxS h_check_term tk (hr.mono (by omega)) rfl (pa_cons (pv 0) pa_nil)))
    (pss_one (ps_ret (pe_f h_normal_depth (hr.mono (by omega)) rfl (pa_cons (pe_f h_make_normal (hr.mono (by omega)) rfl (pa_cons (pv 0) pa_nil)) pa_nil))))), ?_⟩
  rcases hF with ⟨t, rfl, b, hQ⟩ | ⟨d, rfl, o, ht, hX⟩
  · obtain rfl : qs = [] := List.length_eq_zero_iff.mp hq
    show SsX K T _ [.val _] _ _
    k_search "go"
    refine xv [.val _] ⟨rfl, trivial⟩ ⟨t.d, rfl, tb_od b, ?_⟩
    rw [if_pos (tb_term b)]
    k_search "go"
    refine cv [.val _] ⟨rfl, trivial⟩ ⟨t, rfl, b, rim (Tm.imm_d _), ?_⟩
    k_search "go"
    refine cv [.val _] ⟨rfl, trivial⟩ ⟨t.nf, rfl, b.nf, rim rfl, ?_⟩
    k_search "go"
    exact hQ
  · obtain rfl : qs = [] := List.length_eq_zero_iff.mp hq
    show SsX K T _ [.val _] _ _
    k_search "go"
    refine xv [.val _] ⟨rfl, trivial⟩ ⟨d, rfl, o, ?_⟩
    rw [if_neg (by rw [ht]; exact Bool.false_ne_true)]
    k_search "go"
    exact hX
set_option Elab.async false
set_option linter.all false
set_option maxRecDepth 100000
set_option maxHeartbeats 4000001
open PySem L2 LamX NdefX PyProof.Rows GenW Pl
variable {P : Program} {w : World} {K : PySem.W.Frag} {mg : Str → Option Value} {base : Heap} {T : List NTab} {ts : List Str}
noncomputable def wordsD (t : Tm) : D := .tuple [.list ((wsort t.nf.nms).map .str), .list ((wsort t.nf.rls).map .str)]
/-- what is found, what waits, what is left -/
structure WI (h : Nat) (N Rr : List Str) (ns rs : List Str) (us vs : List Tm) : Prop where
  n1 : ns.Nodup
  n2 : rs.Nodup
  b : ∀ u ∈ us, Tb h u
  m1 : ∀ z, z ∈ N ↔ z ∈ ns ∨ z ∈ Tm.nmsL us ∨ z ∈ Tm.nmsL vs
  m2 : ∀ z, z ∈ Rr ↔ z ∈ rs ∨ z ∈ Tm.rlsL us ∨ z ∈ Tm.rlsL vs
theorem WI.l1 {h : Nat} {N Rr ns rs : List Str} {us vs : List Tm} (i : WI h N Rr ns rs us vs) : ns.length ≤ N.length := nodup_len i.n1 fun z m => (i.m1 z).mpr (.inl m)
theorem WI.l2 {h : Nat} {N Rr ns rs : List Str} {us vs : List Tm} (i : WI h N Rr ns rs us vs) : rs.length ≤ Rr.length := nodup_len i.n2 fun z m => (i.m2 z).mpr (.inl m)
theorem WI.pop {h : Nat} {N Rr ns rs : List Str} {us : List Tm} {u : Tm} (i : WI h N Rr ns rs (us ++ [u]) []) : WI h N Rr ns rs us u.raw where
  n1 := i.n1
  n2 := i.n2
  b := fun x m => i.b x (List.mem_append_left _ m)
  m1 := fun z => by
    rw [i.m1 z, nmsL_app, List.mem_append, nms_raw u |>.symm]
    simp [Tm.nmsL]
  m2 := fun z => by
    rw [i.m2 z, rlsL_app, List.mem_append, rls_raw u |>.symm]
    simp [Tm.rlsL]
theorem WI.name {h : Nat} {N Rr ns rs : List Str} {us vs : List Tm} {x : Str} (i : WI h N Rr ns rs us (.name x :: vs)) : WI h N Rr (if x ∈ ns then ns else ns ++ [x]) rs us vs where
  n1 := add_nodup i.n1
  n2 := i.n2
  b := i.b
  m1 := fun z => by
    rw [i.m1 z, mem_add, Tm.nmsL]
    simp only [Tm.nms, List.mem_append, List.mem_singleton]
    constructor
    · rintro (h | h | h | h) <;> simp [h]
    · rintro ((h | h) | h | h) <;> simp [h]
  m2 := fun z => by rw [i.m2 z, Tm.rlsL]; simp [Tm.rls]
theorem WI.some {h : Nat} {N Rr ns rs : List Str} {us vs : List Tm} {r : Str} {t : Tm} (i : WI h N Rr ns rs us (.some r t :: vs)) (b : Tb h t) : WI h N Rr ns (if r ∈ rs then rs else rs ++ [r]) (us ++ [t]) vs where
  n1 := i.n1
  n2 := add_nodup i.n2
  b := fun x m => (List.mem_append.mp m).elim (i.b x) fun q => by rw [List.mem_singleton.mp q]; exact b
  m1 := fun z => by
    rw [i.m1 z, Tm.nmsL, nmsL_app]
    simp only [Tm.nms, Tm.nmsL, List.mem_append, List.append_nil]
    constructor
    · rintro (h | h | h | h) <;> simp [h]
    · rintro (h | (h | h) | h) <;> simp [h]
  m2 := fun z => by
    rw [i.m2 z, mem_add, Tm.rlsL, rlsL_app]
    simp only [Tm.rls, Tm.rlsL, List.mem_append, List.append_nil, List.mem_cons]
    constructor
    · rintro (h | h | (h | h) | h) <;> simp [h]
    · rintro ((h | h) | (h | h) | h) <;> simp [h]
theorem WI.bot {h : Nat} {N Rr ns rs : List Str} {us vs : List Tm} (i : WI h N Rr ns rs us (.bot :: vs)) : WI h N Rr ns rs us vs where
  n1 := i.n1
  n2 := i.n2
  b := i.b
  m1 := fun z => by rw [i.m1 z, Tm.nmsL]; simp [Tm.nms]
  m2 := fun z => by rw [i.m2 z, Tm.rlsL]; simp [Tm.rls]
theorem ok_words (c : Al K mg base ds fr ts cs) (h n m : Nat) (h_check_term : OkXF P w K mg base T 4 "check_term" ["value"] (F_chk K)) (h_make_normal : OkF P w K mg base T n "make_normal" ["term"] (F_nf h))
    (h_raw_conjuncts : OkF P w K mg base T m "raw_conjuncts" ["term"] (F_raw h)) : OkXF P w K mg base T (max 4 (max n m) + 3) "words" ["term"] (F_t K h fun t => .val (wordsD t)) := by
  have nd := sc_words.nd
  have kTOP := c.cs _ (.head _)
  have kBOTTOM := c.cs _ (.tail _ (.head _))
  have kRESERVED := c.cs _ (.tail _ (.tail _ (.tail _ (.tail _ (.tail _ (.head _))))))
  refine ok_ofX c (.tail _ (.tail _ (.tail _ (.tail _ (.tail _ (.tail _ (.tail _ (.tail _ (.tail _ (.tail _ (.tail _ (.tail _ (.tail _ (.tail _ (.tail _ (.tail _ (.tail _ (.tail _ (.tail _ (.tail _ (.tail _ (.head _)))))))))))))))))))))) (fun _ _ _ _ _ _ us hl => match us, hl with | [_], _ => rfl) sc_words (fun as Q X h => by first | (rcases h with ⟨_, rfl, _⟩ | ⟨_, rfl, _⟩ <;> rfl) | (rcases h with ⟨_, _, rfl, _⟩ | ⟨_, _, rfl, _⟩ <;> rfl) | (rcases h with ⟨_, _, rfl, _⟩ | ⟨_, _, rfl, _⟩ | ⟨_, _, rfl, _⟩ <;> rfl) | (obtain ⟨_, rfl, _⟩ := h; rfl) | (obtain ⟨_, _, rfl, _⟩ := h; rfl) | (obtain ⟨_, _, _, rfl, _⟩ := h; rfl) | (obtain ⟨_, _, _, _, rfl, _⟩ := h; rfl) | (obtain ⟨_, _, _, _, _, rfl, _⟩ := h; rfl)) fun f cdv A outer s H E hr as Q QX qs hF hq => ?_
  refine ⟨_, fun W tk => (pss_cons (ps_expr (pe_fxS h_check_term tk (hr.mono (by omega)) rfl (pa_cons (pv 0) pa_nil)))
    (pss_cons (ps_set (i := 1) nd rfl (Or.inl rfl) pe_dnewK)
    (pss_cons (ps_set (i := 2) nd rfl (Or.inl rfl) pe_dnewK)
    (pss_cons (ps_set (i := 3) nd rfl (Or.inl rfl) (pe_lst (pa_cons (pe_f h_make_normal (hr.mono (by omega)) rfl (pa_cons (pv 0) pa_nil)) pa_nil)))
    (pss_cons (ps_while (passes_of rfl) (pt_truthK (K0 := K) (pv 3) (fun _ => rfl)) (pss_cons (ps_set (i := 4) nd rfl (Or.inl rfl) (pe_f h_raw_conjuncts (hr.mono (by omega)) rfl (pa_cons (pe_bm0K (K0 := K) PySem.F.plainAttrs_list PySem.F.slot_list_pop PySem.F.type_list_pop mt_pop (pv 3)) pa_nil)))
    (pss_one (ps_for (passes_of rfl) rfl (pi_listK (K0 := K) (pv 4)) (pg_name (i := 5) nd rfl (Or.inl rfl)) (pss_one (ps_if (pt_cmpR op_eq (pe_ix (r := rIxT K) ix_tup (pv 5) pe_int (fun _ _ => rfl)) pe_str (nomark _)) (pss_one (ps_dput (hu_of hr) (pv 1) (pe_ix (r := rIxT K) ix_tup (pv 5) pe_int (fun _ _ => rfl)) pe_bl rfl)) (pss_one (ps_if (pt_cmpR op_eq (pe_ix (r := rIxT K) ix_tup (pv 5) pe_int (fun _ _ => rfl)) pe_str (nomark _)) (pss_cons (ps_dput (hu_of hr) (pv 2) (pe_ix (r := rIxT K) ix_tup (pv 5) pe_int (fun _ _ => rfl)) pe_bl rfl)
    (pss_one (ps_expr (pe_bmK (K0 := K) PySem.F.plainAttrs_list PySem.F.slot_list_append PySem.F.type_list_append mt_append (pv 3) (pa_cons (pe_ix (r := rIxT K) ix_tup (pv 5) pe_int (fun _ _ => rfl)) pa_nil))))) pss_nil))))))))
    (pss_one (ps_ret (pe_tup (pa_cons (pe_callB (r := rSortedDK) (cr_sortedDK rfl hr.units) rfl (c.fr _ (.tail _ (.tail _ (.tail _ (.tail _ (.tail _ (.tail _ (.tail _ (.head _))))))))) PyProof.Rows.boot_sorted (pa_cons (pv 1) pa_nil)) (pa_cons (pe_callB (r := rSortedDK) (cr_sortedDK rfl hr.units) rfl (c.fr _ (.tail _ (.tail _ (.tail _ (.tail _ (.tail _ (.tail _ (.tail _ (.head _))))))))) PyProof.Rows.boot_sorted (pa_cons (pv 2) pa_nil)) pa_nil)))))))))), ?_⟩
  rcases hF with ⟨t, rfl, b, hQ⟩ | ⟨d, rfl, o, ht, hX⟩
  · obtain rfl : qs = [] := List.length_eq_zero_iff.mp hq
    show SsX K T _ [.val _, .no, .no, .no, .no, .no] _ _
    have ln : t.nf.nms.length ≤ 1000 := Nat.le_trans (nms_len _) b.nf.cnt
    have lr : t.nf.rls.length ≤ 1000 := Nat.le_trans (rls_len _) b.nf.cnt
    k_search "go"
    refine xv [.val _] ⟨rfl, trivial⟩ ⟨t.d, rfl, tb_od b, ?_⟩
    rw [if_pos (tb_term b)]
    k_search "go"
    refine cv [.val _] ⟨rfl, trivial⟩ ⟨t, rfl, b, rim (Tm.imm_d _), ?_⟩
    k_search "go"
    refine go_while (W := fun m δ => ∃ (us : List Tm) (ns rs : List Str) (a1 a2 a3 : Addr) (s4 s5 : Sl), δ = [.val t.d, .own a1 (.dK (kT ns)), .own a2 (.dK (kT rs)), .own a3 (.lst (us.map Tm.d)), s4, s5] ∧ WI h t.nf.nms t.nf.rls ns rs us [] ∧ Tm.cntL us = m ∧ m ≤ 1000) t.nf.cnt ⟨[t.nf], [], [], _, _, _, _, _, rfl, ⟨List.nodup_nil, List.nodup_nil, fun u m => by rw [List.mem_singleton.mp m]; exact b.nf, fun z => by simp [Tm.nmsL], fun z => by simp [Tm.rlsL]⟩, rfl, b.nf.cnt⟩ ?_
    rintro m δ2 ⟨us, ns, rs, a1, a2, a3, s4, s5, rfl, wi, hm, hm2⟩
    refine et_truL (ex_bor rfl ⟨_, ⟨_, _, rfl, rfl⟩, ?_⟩)
    rcases List.eq_nil_or_concat us with rfl | ⟨vs, u, rfl⟩
    · have e1 : wsort t.nf.nms = ssort ns := (wsort_of wi.n1 fun z => by rw [wi.m1 z]; simp [Tm.nmsL]).symm
      have e2 : wsort t.nf.rls = ssort rs := (wsort_of wi.n2 fun z => by rw [wi.m2 z]; simp [Tm.rlsL]).symm
      have hQ : Q (.val (.tuple [.list ((wsort t.nf.nms).map .str), .list ((wsort t.nf.rls).map .str)])) [] := hQ
      rw [e1, e2] at hQ
      have l1 := wi.l1
      have l2 := wi.l2
      refine iteF (by simp) ?_
      refine go_ret (ex_tup (exa_cons (ex_fz (ex_sortDK ⟨_, _, ns, rfl, kT_keys ns, by omega, _, rfl, exa_cons (ex_fz (ex_sortDK ⟨_, _, rs, rfl, kT_keys rs, by omega, _, rfl, ?_⟩))⟩))))
      k_search "go"
      exact hQ
    · rw [List.concat_eq_append] at wi hm
      have bu : Tb h u := wi.b u (List.mem_append_right _ (List.mem_singleton.mpr rfl))
      have e : (!(List.map Tm.d (vs.concat u)).isEmpty) = true := by simp
      rw [e]
      refine iteT rfl ?_
      refine go_seq (go_set (go_call (exa_cons (ex_lm0 ⟨a3, List.map Tm.d vs ++ [u.d], by simp, lm_pop (exa_nil ?_)⟩))))
      k_search "nrm"
      refine cv [.val _] ⟨rfl, trivial⟩ ⟨u, rfl, bu, rimL tm_imm, ?_⟩
      k_search "go"
      refine ss_frz (i := 4) rfl ?_
      k_search "nrm"
      have wi2 := wi.pop
      have hc := inn_cnt u
      rw [cntL_app] at hm
      have hm : Tm.cntL vs + (u.cnt + 0) = m := hm
      refine go_forL (u.raw.map Tm.d) (fun k δ => ∃ (ns rs : List Str) (a1 a2 a3 : Addr) (s : Sl), δ = [.val t.d, .own a1 (.dK (kT ns)), .own a2 (.dK (kT rs)), .own a3 (.lst ((vs ++ (u.raw.take k).filterMap inn).map Tm.d)), .val (.list (u.raw.map Tm.d)), s] ∧ WI h t.nf.nms t.nf.rls ns rs (vs ++ (u.raw.take k).filterMap inn) (u.raw.drop k)) ?_ ?_ ?_
      · k_search "go"
        exact ⟨rfl, ns, rs, a1, a2, a3, s5, by simp, by simpa using wi2⟩
      · rintro k d δ2 hk ⟨ns, rs, a1, a2, a3, s, rfl, wi⟩
        obtain ⟨x, hx, rfl⟩ := map_at hk
        have mx := List.mem_of_getElem? hx
        have at1 := Tm.raw_atom u x mx
        have bx := bu.raw mx
        have ed : u.raw.drop k = x :: u.raw.drop (k + 1) := by rw [List.drop_eq_getElem_cons (List.getElem?_eq_some_iff.mp hx).1, (List.getElem?_eq_some_iff.mp hx).2]
        have et : u.raw.take (k + 1) = u.raw.take k ++ [x] := by rw [List.take_add_one, hx]; rfl
        rw [ed] at wi
        have l1 := wi.l1
        have l2 := wi.l2
        k_search "nrm"
        cases x with
        | top => cases at1
        | and us => cases at1
        | bot =>
          have ef : (u.raw.take (k + 1)).filterMap inn = (u.raw.take k).filterMap inn := by rw [et, List.filterMap_append]; exact List.append_nil _
          rw [ef]
          k_search "go"
          exact ⟨ns, rs, a1, a2, a3, _, rfl, wi.bot⟩
        | name y =>
          have ef : (u.raw.take (k + 1)).filterMap inn = (u.raw.take k).filterMap inn := by rw [et, List.filterMap_append]; exact List.append_nil _
          rw [ef]
          k_search "go"
          refine ss_dputK ?_
          refine ex_bl ⟨_, rfl, ⟨_, _, rfl⟩, ?_⟩
          k_search "go"
          refine ⟨.inr y, _, _, rfl, rfl, by simp [kT]; omega, ?_⟩
          rw [put_kT]
          k_search "nrm"
          exact ⟨_, rs, a1, a2, a3, _, rfl, wi.name⟩
        | some r v =>
          have ef : (u.raw.take (k + 1)).filterMap inn = (u.raw.take k).filterMap inn ++ [v] := by rw [et, List.filterMap_append]; rfl
          have lk : ((u.raw.take k).filterMap inn).length ≤ 1000 := Nat.le_trans (List.length_filterMap_le _ _) (by rw [List.length_take]; have := bu.rlen; omega)
          have lv := Tm.len_cntL vs
          rw [ef, ← List.append_assoc]
          k_search "go"
          refine ss_dputK ?_
          refine ex_bl ⟨_, rfl, ⟨_, _, rfl⟩, ?_⟩
          k_search "go"
          refine ⟨.inr r, _, _, rfl, rfl, by simp [kT]; omega, ?_⟩
          rw [put_kT]
          k_search "nrm"
          have ll : (List.map Tm.d (vs ++ List.filterMap inn (List.take k u.raw))).length < 100000 := by rw [List.length_map, List.length_append]; omega
          k_search "go"
          exact ⟨ns, _, a1, a2, a3, .val (Tm.some r v).d, by rw [List.map_append (l₂ := [v])]; rfl, wi.some bx.some'⟩
      · rintro δ2 ⟨ns, rs, a1, a2, a3, s, rfl, wi⟩
        rw [List.length_map, List.take_length, List.drop_length] at wi
        rw [List.length_map, List.take_length]
        exact ⟨_, by rw [cntL_app]; omega, _, ns, rs, a1, a2, a3, _, _, rfl, wi, rfl, by rw [cntL_app]; omega⟩
  · obtain rfl : qs = [] := List.length_eq_zero_iff.mp hq
    show SsX K T _ [.val _, .no, .no, .no, .no, .no] _ _
    k_search "go"
    refine xv [.val _] ⟨rfl, trivial⟩ ⟨d, rfl, o, ?_⟩
    rw [if_neg (by rw [ht]; exact Bool.false_ne_true)]
    k_search "go"
    exact hX
set_option Elab.async false
set_option linter.all false
set_option maxRecDepth 100000
set_option maxHeartbeats 4000001
open PySem L2 LamX NdefX PyProof.Rows GenW Pl
variable {P : Program} {w : World} {K : PySem.W.Frag} {mg : Str → Option Value} {base : Heap} {T : List NTab} {ts : List Str}
theorem sum_sz : ∀ us : List Tm, (us.map fun t => ((t.sz : Nat) : Int)).sum = ((Tm.szL us : Nat) : Int)
  | [] => rfl
  | t :: ts => by rw [List.map_cons, List.sum_cons, sum_sz ts, Tm.szL]; omega
theorem dpL_le : ∀ {ts : List Tm} {t : Tm}, t ∈ ts → t.dp ≤ Tm.dpL ts
  | u :: ts, t, h => by
    rcases List.mem_cons.mp h with e | h
    · rw [e]; exact Nat.le_max_left _ _
    · exact Nat.le_trans (dpL_le h) (Nat.le_max_right _ _)
theorem max_dp : ∀ us : List Tm, ((Tm.dpL us : Nat) : Int) ∈ (0 : Int) :: us.map (fun t => ((t.dp : Nat) : Int))
  | [] => by simp [Tm.dpL]
  | t :: ts => by
    have h := max_dp ts
    rw [Tm.dpL]
    rcases Nat.le_total t.dp (Tm.dpL ts) with q | q
    · rw [Nat.max_eq_right q]
      rcases List.mem_cons.mp h with e | e
      · rw [e]; exact List.mem_cons_self
      · exact List.mem_cons_of_mem _ (List.mem_cons_of_mem _ e)
    · rw [Nat.max_eq_left q]
      exact List.mem_cons_of_mem _ List.mem_cons_self
theorem ok_lsize (c : Al K mg base ds fr ts cs) : ∀ h : Nat, Ok P w K mg base (h + 1) "_law_size" ["term"] (spOf K T (F_nsize h))
  | 0 => by
    have nd := sc__law_size.nd
    have kTOP := c.cs _ (.head _)
    have kBOTTOM := c.cs _ (.tail _ (.head _))
    have kRESERVED := c.cs _ (.tail _ (.tail _ (.tail _ (.tail _ (.tail _ (.head _))))))
    refine ok_of c (.tail _ (.tail _ (.tail _ (.tail _ (.tail _ (.tail _ (.tail _ (.tail _ (.tail _ (.tail _ (.tail _ (.tail _ (.tail _ (.tail _ (.tail _ (.tail _ (.tail _ (.tail _ (.tail _ (.tail _ (.tail _ (.tail _ (.tail _ (.tail _ (.tail _ (.tail _ (.tail _ (.tail _ (.tail _ (.tail _ (.tail _ (.tail _ (.tail _ (.tail _ (.tail _ (.tail _ (.tail _ (.tail _ (.tail _ (.tail _ (.tail _ (.tail _ (.tail _ (.tail _ (.head _))))))))))))))))))))))))))))))))))))))))))))) (fun _ _ _ _ _ _ us hl => match us, hl with | [_], _ => rfl) sc__law_size (fun as Q h => by first | (obtain ⟨_, rfl, _⟩ := h; rfl) | (obtain ⟨_, _, rfl, _⟩ := h; rfl) | (obtain ⟨_, _, _, rfl, _⟩ := h; rfl) | (obtain ⟨_, _, _, _, rfl, _⟩ := h; rfl) | (obtain ⟨_, _, _, _, _, rfl, _⟩ := h; rfl) | (obtain ⟨_, _, _, _, _, _, rfl, _⟩ := h; rfl) | (obtain ⟨_, _, _, _, _, _, _, rfl, _⟩ := h; rfl) | (obtain ⟨_, _, _, _, _, _, _, _, rfl, _⟩ := h; rfl) | (obtain ⟨_, _, _, _, _, _, _, _, _, rfl, _⟩ := h; rfl) | (obtain ⟨rfl, _⟩ := h; rfl)) fun f cdv A outer s H E hr as Q qs hF hq => ?_
    obtain ⟨t, rfl, b, _⟩ := hF
    exact b.no.elim
  | h + 1 => by
    have h__law_size := ok_lsize c h
    have nd := sc__law_size.nd
    have kTOP := c.cs _ (.head _)
    have kBOTTOM := c.cs _ (.tail _ (.head _))
    have kRESERVED := c.cs _ (.tail _ (.tail _ (.tail _ (.tail _ (.tail _ (.head _))))))
    refine ok_of c (.tail _ (.tail _ (.tail _ (.tail _ (.tail _ (.tail _ (.tail _ (.tail _ (.tail _ (.tail _ (.tail _ (.tail _ (.tail _ (.tail _ (.tail _ (.tail _ (.tail _ (.tail _ (.tail _ (.tail _ (.tail _ (.tail _ (.tail _ (.tail _ (.tail _ (.tail _ (.tail _ (.tail _ (.tail _ (.tail _ (.tail _ (.tail _ (.tail _ (.tail _ (.tail _ (.tail _ (.tail _ (.tail _ (.tail _ (.tail _ (.tail _ (.tail _ (.tail _ (.tail _ (.head _))))))))))))))))))))))))))))))))))))))))))))) (fun _ _ _ _ _ _ us hl => match us, hl with | [_], _ => rfl) sc__law_size (fun as Q h => by first | (obtain ⟨_, rfl, _⟩ := h; rfl) | (obtain ⟨_, _, rfl, _⟩ := h; rfl) | (obtain ⟨_, _, _, rfl, _⟩ := h; rfl) | (obtain ⟨_, _, _, _, rfl, _⟩ := h; rfl) | (obtain ⟨_, _, _, _, _, rfl, _⟩ := h; rfl) | (obtain ⟨_, _, _, _, _, _, rfl, _⟩ := h; rfl) | (obtain ⟨_, _, _, _, _, _, _, rfl, _⟩ := h; rfl) | (obtain ⟨_, _, _, _, _, _, _, _, rfl, _⟩ := h; rfl) | (obtain ⟨_, _, _, _, _, _, _, _, _, rfl, _⟩ := h; rfl) | (obtain ⟨rfl, _⟩ := h; rfl)) fun f cdv A outer s H E hr as Q qs hF hq => ?_
    obtain ⟨t, rfl, b, hQ⟩ := hF
    obtain rfl : qs = [] := List.length_eq_zero_iff.mp hq
    refine ⟨_, (pss_cons (ps_if (pt_cmpR op_eq (pe_ix (r := rIxT K) ix_tup (pv 0) pe_int (fun _ _ => rfl)) pe_str (nomark _)) (pss_one (ps_ret (pe_callB (r := rSum K) (cr_sum rfl) rfl (c.fr _ (.tail _ (.tail _ (.tail _ (.tail _ (.tail _ (.tail _ (.tail _ (.tail _ (.tail _ (.tail _ (.head _)))))))))))) PyProof.Rows.boot_sum (pa_cons (pe_lc (own := [("part", 1)]) (g := gName 1) (tt := tYes) rfl nd (pi_tupK (K0 := K) (pe_ix (r := rIxT K) ix_tup (pv 0) pe_int (fun _ _ => rfl))) (blkOk_by (N := ["term", "part"]) (sc := defScope (top 57)) (by first | decide +kernel | rfl)) (fun _ _ _ _ _ => pg_name (i := 1) nd rfl (by first | exact Or.inl rfl | exact Or.inr rfl)) (fun _ _ _ _ _ => pts_nil) (fun _ _ _ _ _ => (pe_f h__law_size (hr.mono (by omega)) rfl (pa_cons (pv 1) pa_nil)))) pa_nil)))) pss_nil)
    (pss_cons (ps_if (pt_cmpR op_eq (pe_ix (r := rIxT K) ix_tup (pv 0) pe_int (fun _ _ => rfl)) pe_str (nomark _)) (pss_one (ps_ret (pe_op op_add pe_int (pe_f h__law_size (hr.mono (by omega)) rfl (pa_cons (pe_ix (r := rIxT K) ix_tup (pv 0) pe_int (fun _ _ => rfl)) pa_nil))))) pss_nil)
    (pss_one (ps_ret (pe_callTy call_int1 rfl (c.fr _ (.tail _ (.tail _ (.tail _ (.tail _ (.tail _ (.tail _ (.tail _ (.tail _ (.tail _ (.head _))))))))))) PyProof.Rows.boot_int (pa_cons (pe_cmpR op_eq (pe_ix (r := rIxT K) ix_tup (pv 0) pe_int (fun _ _ => rfl)) pe_str (nomark _)) pa_nil)))))), ?_⟩
    show Ss K T _ [.val _, .no] _
    cases t with
    | some r t =>
      k_search "go"
      refine cv [.val _] ⟨rfl, trivial⟩ ⟨t, rfl, b.some, rim rfl, ?_⟩
      k_search "go"
      have e : (1 : Int) + ((t.sz : Nat) : Int) = (((Tm.some r t).sz : Nat) : Int) := by show _ = ((t.sz + 1 : Nat) : Int); omega
      rw [e]
      exact hQ
    | and us =>
      have hl := b.len
      k_search "go"
      refine ex_mapT2 ?_
      k_search "go"
      refine ⟨Tm.dL us, (us.map fun t => ((t.sz : Nat) : Int)).map .int, rfl, rfl, by rw [Tm.dL_map, List.length_map]; omega, by rw [Tm.dL_map, List.length_map, List.length_map, List.length_map], fun k d e hd he => ?_, ?_⟩
      · rw [Tm.dL_map] at hd
        obtain ⟨t, ht, rfl⟩ := map_at hd
        rw [List.map_map, List.getElem?_map, ht] at he
        cases he
        k_search "nrm"
        k_search "go"
        exact cv [.val _] ⟨rfl, trivial⟩ ⟨t, rfl, b.and (List.mem_of_getElem? ht), rim rfl, rfl, rfl⟩
      k_search "go"
      refine cb_sum ?_
      k_search "go"
      rw [sum_sz]
      exact hQ
    | _ =>
      k_search "go"
      exact hQ
theorem ok_ldepth (c : Al K mg base ds fr ts cs) : ∀ h : Nat, Ok P w K mg base (h + 1) "_law_depth" ["term"] (spOf K T (F_ndepth h))
  | 0 => by
    have nd := sc__law_depth.nd
    have kTOP := c.cs _ (.head _)
    have kBOTTOM := c.cs _ (.tail _ (.head _))
    have kRESERVED := c.cs _ (.tail _ (.tail _ (.tail _ (.tail _ (.tail _ (.head _))))))
    refine ok_of c (.tail _ (.tail _ (.tail _ (.tail _ (.tail _ (.tail _ (.tail _ (.tail _ (.tail _ (.tail _ (.tail _ (.tail _ (.tail _ (.tail _ (.tail _ (.tail _ (.tail _ (.tail _ (.tail _ (.tail _ (.tail _ (.tail _ (.tail _ (.tail _ (.tail _ (.tail _ (.tail _ (.tail _ (.tail _ (.tail _ (.tail _ (.tail _ (.tail _ (.tail _ (.tail _ (.tail _ (.tail _ (.tail _ (.tail _ (.tail _ (.tail _ (.tail _ (.tail _ (.tail _ (.tail _ (.head _)))))))))))))))))))))))))))))))))))))))))))))) (fun _ _ _ _ _ _ us hl => match us, hl with | [_], _ => rfl) sc__law_depth (fun as Q h => by first | (obtain ⟨_, rfl, _⟩ := h; rfl) | (obtain ⟨_, _, rfl, _⟩ := h; rfl) | (obtain ⟨_, _, _, rfl, _⟩ := h; rfl) | (obtain ⟨_, _, _, _, rfl, _⟩ := h; rfl) | (obtain ⟨_, _, _, _, _, rfl, _⟩ := h; rfl) | (obtain ⟨_, _, _, _, _, _, rfl, _⟩ := h; rfl) | (obtain ⟨_, _, _, _, _, _, _, rfl, _⟩ := h; rfl) | (obtain ⟨_, _, _, _, _, _, _, _, rfl, _⟩ := h; rfl) | (obtain ⟨_, _, _, _, _, _, _, _, _, rfl, _⟩ := h; rfl) | (obtain ⟨rfl, _⟩ := h; rfl)) fun f cdv A outer s H E hr as Q qs hF hq => ?_
    obtain ⟨t, rfl, b, _⟩ := hF
    exact b.no.elim
  | h + 1 => by
    have h__law_depth := ok_ldepth c h
    have nd := sc__law_depth.nd
    have kTOP := c.cs _ (.head _)
    have kBOTTOM := c.cs _ (.tail _ (.head _))
    have kRESERVED := c.cs _ (.tail _ (.tail _ (.tail _ (.tail _ (.tail _ (.head _))))))
    refine ok_of c (.tail _ (.tail _ (.tail _ (.tail _ (.tail _ (.tail _ (.tail _ (.tail _ (.tail _ (.tail _ (.tail _ (.tail _ (.tail _ (.tail _ (.tail _ (.tail _ (.tail _ (.tail _ (.tail _ (.tail _ (.tail _ (.tail _ (.tail _ (.tail _ (.tail _ (.tail _ (.tail _ (.tail _ (.tail _ (.tail _ (.tail _ (.tail _ (.tail _ (.tail _ (.tail _ (.tail _ (.tail _ (.tail _ (.tail _ (.tail _ (.tail _ (.tail _ (.tail _ (.tail _ (.tail _ (.head _)))))))))))))))))))))))))))))))))))))))))))))) (fun _ _ _ _ _ _ us hl => match us, hl with | [_], _ => rfl) sc__law_depth (fun as Q h => by first | (obtain ⟨_, rfl, _⟩ := h; rfl) | (obtain ⟨_, _, rfl, _⟩ := h; rfl) | (obtain ⟨_, _, _, rfl, _⟩ := h; rfl) | (obtain ⟨_, _, _, _, rfl, _⟩ := h; rfl) | (obtain ⟨_, _, _, _, _, rfl, _⟩ := h; rfl) | (obtain ⟨_, _, _, _, _, _, rfl, _⟩ := h; rfl) | (obtain ⟨_, _, _, _, _, _, _, rfl, _⟩ := h; rfl) | (obtain ⟨_, _, _, _, _, _, _, _, rfl, _⟩ := h; rfl) | (obtain ⟨_, _, _, _, _, _, _, _, _, rfl, _⟩ := h; rfl) | (obtain ⟨rfl, _⟩ := h; rfl)) fun f cdv A outer s H E hr as Q qs hF hq => ?_
    obtain ⟨t, rfl, b, hQ⟩ := hF
    obtain rfl : qs = [] := List.length_eq_zero_iff.mp hq
    refine ⟨_, (pss_cons (ps_if (pt_cmpR op_eq (pe_ix (r := rIxT K) ix_tup (pv 0) pe_int (fun _ _ => rfl)) pe_str (nomark _)) (pss_one (ps_ret (pe_callB (r := rMax K) (cr_max rfl) rfl (c.fr _ (.tail _ (.tail _ (.tail _ (.tail _ (.tail _ (.tail _ (.tail _ (.tail _ (.head _)))))))))) PyProof.Rows.boot_max (pa_cons (pe_op (r := rCatS K) op_catS (pe_lst (pa_cons pe_int pa_nil)) (pe_lc (own := [("part", 1)]) (g := gName 1) (tt := tYes) rfl nd (pi_tupK (K0 := K) (pe_ix (r := rIxT K) ix_tup (pv 0) pe_int (fun _ _ => rfl))) (blkOk_by (N := ["term", "part"]) (sc := defScope (top 58)) (by first | decide +kernel | rfl)) (fun _ _ _ _ _ => pg_name (i := 1) nd rfl (by first | exact Or.inl rfl | exact Or.inr rfl)) (fun _ _ _ _ _ => pts_nil) (fun _ _ _ _ _ => (pe_f h__law_depth (hr.mono (by omega)) rfl (pa_cons (pv 1) pa_nil))))) pa_nil)))) pss_nil)
    (pss_cons (ps_if (pt_cmpR op_eq (pe_ix (r := rIxT K) ix_tup (pv 0) pe_int (fun _ _ => rfl)) pe_str (nomark _)) (pss_one (ps_ret (pe_op op_add pe_int (pe_f h__law_depth (hr.mono (by omega)) rfl (pa_cons (pe_ix (r := rIxT K) ix_tup (pv 0) pe_int (fun _ _ => rfl)) pa_nil))))) pss_nil)
    (pss_one (ps_ret pe_int)))), ?_⟩
    show Ss K T _ [.val _, .no] _
    cases t with
    | some r t =>
      k_search "go"
      refine cv [.val _] ⟨rfl, trivial⟩ ⟨t, rfl, b.some, rim rfl, ?_⟩
      k_search "go"
      have e : (1 : Int) + ((t.dp : Nat) : Int) = (((Tm.some r t).dp : Nat) : Int) := by show _ = ((t.dp + 1 : Nat) : Int); omega
      rw [e]
      exact hQ
    | and us =>
      have hl := b.len
      k_search "go"
      refine ex_mapT2 ?_
      k_search "go"
      refine ⟨Tm.dL us, (us.map fun t => ((t.dp : Nat) : Int)).map .int, rfl, rfl, by rw [Tm.dL_map, List.length_map]; omega, by rw [Tm.dL_map, List.length_map, List.length_map, List.length_map], fun k d e hd he => ?_, ?_⟩
      · rw [Tm.dL_map] at hd
        obtain ⟨t, ht, rfl⟩ := map_at hd
        rw [List.map_map, List.getElem?_map, ht] at he
        cases he
        k_search "nrm"
        k_search "go"
        exact cv [.val _] ⟨rfl, trivial⟩ ⟨t, rfl, b.and (List.mem_of_getElem? ht), rim rfl, rfl, rfl⟩
      k_search "go"
      refine opd_catL (by rfl) (imm_ints _) (by rw [List.length_map, List.length_map]; show 1 + _ ≤ _; omega) ?_
      k_search "go"
      show CbD K (rMax K) [.list (((0 : Int) :: us.map (fun t => ((t.dp : Nat) : Int))).map .int)] _
      refine cb_max (m := ((Tm.dpL us : Nat) : Int)) (max_dp us) (fun y hy => ?_) ?_
      · rcases List.mem_cons.mp hy with e | e
        · rw [e]; omega
        · obtain ⟨t, ht, rfl⟩ := List.mem_map.mp e
          have := dpL_le ht
          omega
      k_search "go"
      exact hQ
    | _ =>
      k_search "go"
      exact hQ
def F_gather (h : Nat) : FS := fun as Q => ∃ (t : Tm) (xs ys : List Str), as = [.val t.d, .own (.lst (xs.map .str)), .own (.lst (ys.map .str))] ∧ Tb h t ∧ xs.length + t.cnt ≤ 5000 ∧ ys.length + t.cnt ≤ 5000 ∧
  Q (.val .none) [.lst ((xs ++ t.nms).map .str), .lst ((ys ++ t.rls).map .str)]
theorem imm_strs (xs : List Str) : immAll (xs.map PyData.str) = true := by
  induction xs with
  | nil => rfl
  | cons x xs ih => exact ih
theorem ok_gather (c : Al K mg base ds fr ts cs) : ∀ h : Nat, OkF P w K mg base T (h + 1) "_law_gather" ["term", "labels", "ties"] (F_gather h)
  | 0 => by
    have nd := sc__law_gather.nd
    have kTOP := c.cs _ (.head _)
    have kBOTTOM := c.cs _ (.tail _ (.head _))
    have kRESERVED := c.cs _ (.tail _ (.tail _ (.tail _ (.tail _ (.tail _ (.head _))))))
    refine ok_of c (.tail _ (.tail _ (.tail _ (.tail _ (.tail _ (.tail _ (.tail _ (.tail _ (.tail _ (.tail _ (.tail _ (.tail _ (.tail _ (.tail _ (.tail _ (.tail _ (.tail _ (.tail _ (.tail _ (.tail _ (.tail _ (.tail _ (.tail _ (.tail _ (.tail _ (.tail _ (.tail _ (.tail _ (.tail _ (.tail _ (.tail _ (.tail _ (.tail _ (.tail _ (.tail _ (.tail _ (.tail _ (.tail _ (.tail _ (.tail _ (.tail _ (.tail _ (.tail _ (.tail _ (.tail _ (.tail _ (.head _))))))))))))))))))))))))))))))))))))))))))))))) (fun _ _ _ _ _ _ us hl => match us, hl with | [_, _, _], _ => rfl) sc__law_gather (fun as Q h => by first | (obtain ⟨_, rfl, _⟩ := h; rfl) | (obtain ⟨_, _, rfl, _⟩ := h; rfl) | (obtain ⟨_, _, _, rfl, _⟩ := h; rfl) | (obtain ⟨_, _, _, _, rfl, _⟩ := h; rfl) | (obtain ⟨_, _, _, _, _, rfl, _⟩ := h; rfl) | (obtain ⟨_, _, _, _, _, _, rfl, _⟩ := h; rfl) | (obtain ⟨_, _, _, _, _, _, _, rfl, _⟩ := h; rfl) | (obtain ⟨_, _, _, _, _, _, _, _, rfl, _⟩ := h; rfl) | (obtain ⟨_, _, _, _, _, _, _, _, _, rfl, _⟩ := h; rfl) | (obtain ⟨rfl, _⟩ := h; rfl)) fun f cdv A outer s H E hr as Q qs hF hq => ?_
    obtain ⟨t, xs, ys, rfl, b, _⟩ := hF
    exact b.no.elim
  | h + 1 => by
    have h__law_gather := ok_gather c h
    have nd := sc__law_gather.nd
    have kTOP := c.cs _ (.head _)
    have kBOTTOM := c.cs _ (.tail _ (.head _))
    have kRESERVED := c.cs _ (.tail _ (.tail _ (.tail _ (.tail _ (.tail _ (.head _))))))
    refine ok_of c (.tail _ (.tail _ (.tail _ (.tail _ (.tail _ (.tail _ (.tail _ (.tail _ (.tail _ (.tail _ (.tail _ (.tail _ (.tail _ (.tail _ (.tail _ (.tail _ (.tail _ (.tail _ (.tail _ (.tail _ (.tail _ (.tail _ (.tail _ (.tail _ (.tail _ (.tail _ (.tail _ (.tail _ (.tail _ (.tail _ (.tail _ (.tail _ (.tail _ (.tail _ (.tail _ (.tail _ (.tail _ (.tail _ (.tail _ (.tail _ (.tail _ (.tail _ (.tail _ (.tail _ (.tail _ (.tail _ (.head _))))))))))))))))))))))))))))))))))))))))))))))) (fun _ _ _ _ _ _ us hl => match us, hl with | [_, _, _], _ => rfl) sc__law_gather (fun as Q h => by first | (obtain ⟨_, rfl, _⟩ := h; rfl) | (obtain ⟨_, _, rfl, _⟩ := h; rfl) | (obtain ⟨_, _, _, rfl, _⟩ := h; rfl) | (obtain ⟨_, _, _, _, rfl, _⟩ := h; rfl) | (obtain ⟨_, _, _, _, _, rfl, _⟩ := h; rfl) | (obtain ⟨_, _, _, _, _, _, rfl, _⟩ := h; rfl) | (obtain ⟨_, _, _, _, _, _, _, rfl, _⟩ := h; rfl) | (obtain ⟨_, _, _, _, _, _, _, _, rfl, _⟩ := h; rfl) | (obtain ⟨_, _, _, _, _, _, _, _, _, rfl, _⟩ := h; rfl) | (obtain ⟨rfl, _⟩ := h; rfl)) fun f cdv A outer s H E hr as Q qs hF hq => ?_
    obtain ⟨t, xs, ys, rfl, b, hx, hy, hQ⟩ := hF
    obtain ⟨p, q, rfl⟩ : ∃ p q, qs = [p, q] := match qs, hq with | [p, q], _ => ⟨p, q, rfl⟩
    refine ⟨_, (pss_cons (ps_if (pt_cmpR op_eq (pe_ix (r := rIxT K) ix_tup (pv 0) pe_int (fun _ _ => rfl)) pe_str (nomark _)) (pss_one (ps_expr (pe_bmK (K0 := K) PySem.F.plainAttrs_list PySem.F.slot_list_append PySem.F.type_list_append mt_append (pv 1) (pa_cons (pe_ix (r := rIxT K) ix_tup (pv 0) pe_int (fun _ _ => rfl)) pa_nil)))) pss_nil)
    (pss_cons (ps_if (pt_cmpR op_eq (pe_ix (r := rIxT K) ix_tup (pv 0) pe_int (fun _ _ => rfl)) pe_str (nomark _)) (pss_cons (ps_expr (pe_bmK (K0 := K) PySem.F.plainAttrs_list PySem.F.slot_list_append PySem.F.type_list_append mt_append (pv 2) (pa_cons (pe_ix (r := rIxT K) ix_tup (pv 0) pe_int (fun _ _ => rfl)) pa_nil)))
    (pss_one (ps_expr (pe_f h__law_gather (hr.mono (by omega)) rfl (pa_cons (pe_ix (r := rIxT K) ix_tup (pv 0) pe_int (fun _ _ => rfl)) (pa_cons (pv 1) (pa_cons (pv 2) pa_nil))))))) pss_nil)
    (pss_one (ps_if (pt_cmpR op_eq (pe_ix (r := rIxT K) ix_tup (pv 0) pe_int (fun _ _ => rfl)) pe_str (nomark _)) (pss_one (ps_for PassesOwn.never rfl (pi_tupK (K0 := K) (pe_ix (r := rIxT K) ix_tup (pv 0) pe_int (fun _ _ => rfl))) (pg_name (i := 3) nd rfl (Or.inl rfl)) (pss_one (ps_expr (pe_f h__law_gather (hr.mono (by omega)) rfl (pa_cons (pv 3) (pa_cons (pv 1) (pa_cons (pv 2) pa_nil)))))))) pss_nil)))), ?_⟩
    show Ss K T _ [.val _, .own p _, .own q _, .no] _
    have l1 : (xs.map PyData.str).length < 100000 := by rw [List.length_map]; have := t.cnt_pos; omega
    have l2 : (ys.map PyData.str).length < 100000 := by rw [List.length_map]; have := t.cnt_pos; omega
    cases t with
    | name x =>
      have hQ : Q (.val .none) [.lst ((xs ++ [x]).map .str), .lst ((ys ++ []).map .str)] := hQ
      rw [List.append_nil, List.map_append] at hQ
      k_search "go"
      exact ⟨_, ⟨rfl, _, rfl, rfl, _, rfl, rfl⟩, hQ⟩
    | some r t =>
      have hQ : Q (.val .none) [.lst ((xs ++ t.nms).map .str), .lst ((ys ++ r :: t.rls).map .str)] := hQ
      have hx : xs.length + (t.cnt + 1) ≤ 5000 := hx
      have hy : ys.length + (t.cnt + 1) ≤ 5000 := hy
      have e : ys.map PyData.str ++ [PyData.str r] = (ys ++ [r]).map PyData.str := by rw [List.map_append]; rfl
      rw [show ys ++ r :: t.rls = (ys ++ [r]) ++ t.rls by simp] at hQ
      k_search "go"
      rw [e]
      refine cx [.val _, .own _, .own _] [1, 2] ⟨rfl, rfl, ⟨_, rfl⟩, rfl, ⟨_, rfl⟩, trivial⟩ (by decide) ⟨t, xs, ys ++ [r], rfl, b.some, by omega, by rw [List.length_append]; simp; omega, rim2 rfl (imm_strs _) (imm_strs _), ?_⟩
      k_search "nrm"
      k_search "go"
      exact ⟨_, ⟨rfl, _, rfl, rfl, _, rfl, rfl⟩, hQ⟩
    | and us =>
      have hQ : Q (.val .none) [.lst ((xs ++ Tm.nmsL us).map .str), .lst ((ys ++ Tm.rlsL us).map .str)] := hQ
      have hx : xs.length + (Tm.cntL us + 1) ≤ 5000 := hx
      have hy : ys.length + (Tm.cntL us + 1) ≤ 5000 := hy
      k_search "go"
      refine go_forT (us.map Tm.d) (fun k δ => ∃ s, δ = [.val (Tm.and us).d, .own p (.lst ((xs ++ Tm.nmsL (us.take k)).map .str)), .own q (.lst ((ys ++ Tm.rlsL (us.take k)).map .str)), s]) ?_ ?_ ?_
      · k_search "go"
        exact ⟨by rw [Tm.dL_map], .no, by simp [Tm.nmsL, Tm.rlsL]⟩
      · rintro k d δ2 hk ⟨s, rfl⟩
        obtain ⟨u, hu, rfl⟩ := map_at hk
        have m := List.mem_of_getElem? hu
        have et : us.take (k + 1) = us.take k ++ [u] := by rw [List.take_add_one, hu]; rfl
        have cb : Tm.cntL (us.take (k + 1)) ≤ Tm.cntL us := cntL_sub (List.take_sublist _ _)
        have z1 := nmsL_len (us.take k)
        have z2 := rlsL_len (us.take k)
        rw [et, cntL_app] at cb
        have cb : Tm.cntL (us.take k) + (u.cnt + 0) ≤ Tm.cntL us := cb
        have e1 : xs ++ Tm.nmsL (us.take (k + 1)) = (xs ++ Tm.nmsL (us.take k)) ++ u.nms := by rw [et, nmsL_app]; simp [Tm.nmsL]
        have e2 : ys ++ Tm.rlsL (us.take (k + 1)) = (ys ++ Tm.rlsL (us.take k)) ++ u.rls := by rw [et, rlsL_app]; simp [Tm.rlsL]
        rw [e1, e2]
        k_search "nrm"
        k_search "go"
        refine cx [.val _, .own _, .own _] [1, 2] ⟨rfl, rfl, ⟨_, rfl⟩, rfl, ⟨_, rfl⟩, trivial⟩ (by decide) ⟨u, _, _, rfl, b.and m, by rw [List.length_append]; omega, by rw [List.length_append]; omega, rim2 rfl (imm_strs _) (imm_strs _), ?_⟩
        k_search "nrm"
        exact ⟨_, rfl⟩
      · rintro δ2 ⟨s, rfl⟩
        rw [List.length_map, List.take_length]
        exact ⟨_, ⟨rfl, _, rfl, rfl, _, rfl, rfl⟩, hQ⟩
    | top =>
      have hQ : Q (.val .none) [.lst ((xs ++ []).map .str), .lst ((ys ++ []).map .str)] := hQ
      rw [List.append_nil, List.append_nil] at hQ
      k_search "go"
      exact ⟨_, ⟨rfl, _, rfl, rfl, _, rfl, rfl⟩, hQ⟩
    | bot =>
      have hQ : Q (.val .none) [.lst ((xs ++ []).map .str), .lst ((ys ++ []).map .str)] := hQ
      rw [List.append_nil, List.append_nil] at hQ
      k_search "go"
      exact ⟨_, ⟨rfl, _, rfl, rfl, _, rfl, rfl⟩, hQ⟩
set_option Elab.async false
set_option linter.all false
set_option maxRecDepth 100000
set_option maxHeartbeats 4000001
open PySem L2 LamX NdefX PyProof.Rows GenW Pl
section
open PySem.W
variable {P : Program} {w : World} {K : PySem.W.Frag} {mg : Str → Option Value} {base : Heap} {T : List NTab} {ts : List Str}
theorem srtW_d (ks : List Tm) : (ks.map Tm.d).mergeSort (dataLe false fun d => .str (Tm.of d).wr) = (srtW ks).map Tm.d := by
  refine (sort_maps Tm.d fun a _ b _ => ?_).symm
  show dataLe false (fun a : Tm => PyData.str a.wr) a b = dataLe false (fun d => .str (Tm.of d).wr) a.d b.d
  unfold dataLe sortLe
  simp only [Tm.of_d]
theorem wkeys_alike (ks : List D) : AllAlike (ks.map fun d => PyData.str (Tm.of d).wr) := by
  rw [show (fun d => PyData.str (Tm.of d).wr) = PyData.str ∘ fun d => (Tm.of d).wr from rfl, ← List.map_map]
  exact strs_alike _
theorem wkeys_sortable (ks : List D) : Sortable (ks.map fun d => PyData.str (Tm.of d).wr) := .inr fun d hd => by
  obtain ⟨x, _, rfl⟩ := List.mem_map.mp hd
  exact ⟨fun z => by (cases z), fun _ z => by (cases z)⟩
theorem srtW_len (l : List Tm) : (srtW l).length = l.length := (srtW_perm l).length_eq
def F_stays (h : Nat) : FS := fun as Q => ∃ (t : Tm) (us : List Tm), as = [.val t.d, .val (.list (us.map Tm.d))] ∧ Tb h t ∧ (∀ u ∈ us, Tb h u) ∧ Q (.val (.bool (stays t us))) []
theorem ok_stays (c : Al K mg base ds fr ts cs) (h n : Nat) (h__law_under : Ok P w K mg base n "_law_under" ["one", "other"] (spOf K T (F_below h))) : Ok P w K mg base (n + 1) "_law_stays" ["one", "found"] (spOf K T (F_stays h)) := by
  have nd := sc__law_stays.nd
  have kTOP := c.cs _ (.head _)
  have kBOTTOM := c.cs _ (.tail _ (.head _))
  have kRESERVED := c.cs _ (.tail _ (.tail _ (.tail _ (.tail _ (.tail _ (.head _))))))
  refine ok_of c (.tail _ (.tail _ (.tail _ (.tail _ (.tail _ (.tail _ (.tail _ (.tail _ (.tail _ (.tail _ (.tail _ (.tail _ (.tail _ (.tail _ (.tail _ (.tail _ (.tail _ (.tail _ (.tail _ (.tail _ (.tail _ (.tail _ (.tail _ (.tail _ (.tail _ (.tail _ (.tail _ (.tail _ (.tail _ (.tail _ (.tail _ (.tail _ (.tail _ (.tail _ (.tail _ (.tail _ (.tail _ (.tail _ (.tail _ (.tail _ (.tail _ (.head _)))))))))))))))))))))))))))))))))))))))))) (fun _ _ _ _ _ _ us hl => match us, hl with | [_, _], _ => rfl) sc__law_stays (fun as Q h => by first | (obtain ⟨_, rfl, _⟩ := h; rfl) | (obtain ⟨_, _, rfl, _⟩ := h; rfl) | (obtain ⟨_, _, _, rfl, _⟩ := h; rfl) | (obtain ⟨_, _, _, _, rfl, _⟩ := h; rfl) | (obtain ⟨_, _, _, _, _, rfl, _⟩ := h; rfl) | (obtain ⟨_, _, _, _, _, _, rfl, _⟩ := h; rfl) | (obtain ⟨_, _, _, _, _, _, _, rfl, _⟩ := h; rfl) | (obtain ⟨_, _, _, _, _, _, _, _, rfl, _⟩ := h; rfl) | (obtain ⟨_, _, _, _, _, _, _, _, _, rfl, _⟩ := h; rfl) | (obtain ⟨rfl, _⟩ := h; rfl)) fun f cdv A outer s H E hr as Q qs hF hq => ?_
  obtain ⟨t, us, rfl, b, hu, hQ⟩ := hF
  obtain rfl : qs = [] := List.length_eq_zero_iff.mp hq
  refine ⟨_, (pss_cons (ps_for PassesOwn.never rfl (pi_listK (K0 := K) (pv 1)) (pg_name (i := 2) nd rfl (Or.inl rfl)) (pss_one (ps_if (PW.pt (pw_and (pt_cmpR (r := rNeD K) (op_neD hr.units) (pv 2) (pv 0) (nomark _)) (pw_and1 (pt_val (pe_f h__law_under (hr.mono (by omega)) rfl (pa_cons (pv 2) (pa_cons (pv 0) pa_nil))))))) (pss_one (ps_ret pe_bl)) pss_nil)))
    (pss_one (ps_ret pe_bl))), ?_⟩
  show Ss K T _ [.val _, .val _, .no] _
  k_search "go"
  refine go_forL (us.map Tm.d) (fun k δ => ∃ s, δ = [.val t.d, .val (.list (us.map Tm.d)), s] ∧ stays t (us.take k) = true) ?_ ?_ ?_
  · k_search "go"
    exact ⟨rfl, .no, rfl, rfl⟩
  · rintro k d δ2 hk ⟨s, rfl, hs⟩
    obtain ⟨u, hu1, rfl⟩ := map_at hk
    have m := List.mem_of_getElem? hu1
    have et : stays t (us.take (k + 1)) = (stays t (us.take k) && (decide (u = t) || !u.under t)) := by
      unfold stays
      rw [List.take_add_one, hu1, List.all_append]
      simp
    rw [hs, Bool.true_and] at et
    have ef : (decide (u = t) || !u.under t) = false → stays t us = false := fun q => List.all_eq_false.mpr ⟨u, m, by rw [q]; exact Bool.false_ne_true⟩
    k_search "nrm"
    k_search "go"
    refine opd_neTm (hu u m).shaped b.shaped ?_
    k_search "go"
    refine iteN (fun hne => ?_) fun he => ?_
    · k_search "go"
      refine cv [.val _, .val _] ⟨rfl, rfl, trivial⟩ ⟨u, t, rfl, hu u m, b, rim rfl, ?_⟩
      rw [decide_eq_false hne, Bool.false_or] at ef et
      cases hb : u.under t
      · rw [hb] at et
        k_search "go"
        exact et
      · rw [hb] at ef
        rw [ef rfl] at hQ
        k_search "go"
        exact hQ
    · rw [decide_eq_true he, Bool.true_or] at et
      k_search "go"
      exact et
  · rintro δ2 ⟨s, rfl, hs⟩
    rw [List.length_map, List.take_length] at hs
    rw [hs] at hQ
    k_search "go"
    exact hQ
/-- the lambdas -/
def lamE : Stmt → Arguments × Expr × Scope
  | .Assign _ (.Call _ _ [⟨_, .Lambda p b sc _, _⟩] _) _ => (p, b, sc)
  | .Assign _ (.BinOp _ _ (.Call _ _ [⟨_, .Lambda p b sc _, _⟩] _) _) _ => (p, b, sc)
  | _ => (⟨[], [], none, [], [], none, []⟩, .Constant .none 0 ⟨0, 0, 0, 0⟩, ⟨.function, [], false, false, []⟩)
def lam1 : Arguments × Expr × Scope := lamE ((defBody (top 55)).getD 5 (.Pass ⟨0, 0, 0, 0⟩))
def lam2 : Arguments × Expr × Scope := lamE ((defBody (top 55)).getD 6 (.Pass ⟨0, 0, 0, 0⟩))
def tsv : List (Str × (Nat → Nat → Str)) := [(("_law_normal" : Str), fun _ _ => ("_law_normal.<locals>.<lambda>" : Str))]
theorem pre_tb {h : Nat} {t : Tm} (b : Tb h t) : ∀ a ∈ t.pre, Tb h a := fun a m => by
  have q := pre_bd t b.good
  have c := Tm.cntL_le m
  obtain ⟨g, hh⟩ := q.1 a m
  exact ⟨g, Nat.le_trans hh b.ht, by have := b.cnt; omega, Nat.le_trans hh b.low⟩
theorem ok_lnormal (c : Al K mg base ds fr (tsv.map (·.1)) cs) (glo : PySem.W.nsIn K mainGlobals "_law_normal" = some (some (.ref (He.ga K "_law_normal")))) (H0 n1 n2 n3 n4 : Nat)
    (h__law_conjuncts : Ok P w K mg base n1 "_law_conjuncts" ["term"] (spOf K (tabsOf K tsv) (F_raw H0))) (h__law_void : Ok P w K mg base n2 "_law_void" ["term"] (spOf K (tabsOf K tsv) (F_void H0)))
    (h__law_stays : Ok P w K mg base n3 "_law_stays" ["one", "found"] (spOf K (tabsOf K tsv) (F_stays H0))) (h__law_written : Ok P w K mg base n4 "_law_written" ["term"] (spOf K (tabsOf K tsv) (F_write H0))) :
    ∀ h : Nat, h ≤ H0 → Ok P w K mg base (max (max n1 n2) (max n3 n4) + h + 3 + 1) "_law_normal" ["term"] (spOf K (tabsOf K tsv) (F_nf h))
  | 0, _ => by
    have nd := sc__law_normal.nd
    have kTOP := c.cs _ (.head _)
    have kBOTTOM := c.cs _ (.tail _ (.head _))
    have kRESERVED := c.cs _ (.tail _ (.tail _ (.tail _ (.tail _ (.tail _ (.head _))))))
    refine ok_of c (.tail _ (.tail _ (.tail _ (.tail _ (.tail _ (.tail _ (.tail _ (.tail _ (.tail _ (.tail _ (.tail _ (.tail _ (.tail _ (.tail _ (.tail _ (.tail _ (.tail _ (.tail _ (.tail _ (.tail _ (.tail _ (.tail _ (.tail _ (.tail _ (.tail _ (.tail _ (.tail _ (.tail _ (.tail _ (.tail _ (.tail _ (.tail _ (.tail _ (.tail _ (.tail _ (.tail _ (.tail _ (.tail _ (.tail _ (.tail _ (.tail _ (.tail _ (.head _))))))))))))))))))))))))))))))))))))))))))) (fun _ _ _ _ _ _ us hl => match us, hl with | [_], _ => rfl) sc__law_normal (fun as Q h => by first | (obtain ⟨_, rfl, _⟩ := h; rfl) | (obtain ⟨_, _, rfl, _⟩ := h; rfl) | (obtain ⟨_, _, _, rfl, _⟩ := h; rfl) | (obtain ⟨_, _, _, _, rfl, _⟩ := h; rfl) | (obtain ⟨_, _, _, _, _, rfl, _⟩ := h; rfl) | (obtain ⟨_, _, _, _, _, _, rfl, _⟩ := h; rfl) | (obtain ⟨_, _, _, _, _, _, _, rfl, _⟩ := h; rfl) | (obtain ⟨_, _, _, _, _, _, _, _, rfl, _⟩ := h; rfl) | (obtain ⟨_, _, _, _, _, _, _, _, _, rfl, _⟩ := h; rfl) | (obtain ⟨rfl, _⟩ := h; rfl)) fun f cdv A outer s H E hr as Q qs hF hq => ?_
    obtain ⟨t, rfl, b, _⟩ := hF
    exact b.no.elim
  | h + 1, hh => by
    have h__law_normal := ok_lnormal c glo H0 n1 n2 n3 n4 h__law_conjuncts h__law_void h__law_stays h__law_written h (by omega)
    have nd := sc__law_normal.nd
    refine ok_ofC c (by simp only [ds]; exact (.tail _ (.tail _ (.tail _ (.tail _ (.tail _ (.tail _ (.tail _ (.tail _ (.tail _ (.tail _ (.tail _ (.tail _ (.tail _ (.tail _ (.tail _ (.tail _ (.tail _ (.tail _ (.tail _ (.tail _ (.tail _ (.tail _ (.tail _ (.tail _ (.tail _ (.tail _ (.tail _ (.tail _ (.tail _ (.tail _ (.tail _ (.tail _ (.tail _ (.tail _ (.tail _ (.tail _ (.tail _ (.tail _ (.tail _ (.tail _ (.tail _ (.tail _ (.head _)))))))))))))))))))))))))))))))))))))))))))) (.head _) (fun _ _ _ _ _ _ us hl => match us, hl with | [_], _ => rfl) sc__law_normal (fun as Q h => by obtain ⟨_, rfl, _⟩ := h; rfl) glo fun f cc PP A outer s H E htab hB hr as Q qs hF hq => ?_
    have eT : tabsOf K tsv = [(PP, fun (_ _ : Nat) => ("_law_normal.<locals>.<lambda>" : Str))] := by
      show [(((PySem.W.tabIn K "_law_normal").getD (0, 0)).2, fun (_ _ : Nat) => ("_law_normal.<locals>.<lambda>" : Str))] = _
      rw [htab]
      rfl
    have hT : (PP, fun (_ _ : Nat) => ("_law_normal.<locals>.<lambda>" : Str)) ∈ tabsOf K tsv := by rw [eT]; exact .head _
    have hTu : ∀ p ∈ tabsOf K tsv, p.1 = PP → p.2 = fun (_ _ : Nat) => ("_law_normal.<locals>.<lambda>" : Str) := fun p hp _ => by
      rw [eT] at hp
      have : p = (PP, fun (_ _ : Nat) => ("_law_normal.<locals>.<lambda>" : Str)) := by simpa using hp
      rw [this]
    obtain ⟨t, rfl, b, hQ⟩ := hF
    obtain rfl : qs = [] := List.length_eq_zero_iff.mp hq
    refine ⟨_, (pss_cons (ps_if (pt_val (pe_f h__law_void (hr.mono (by omega)) rfl (pa_cons (pv 0) pa_nil))) (pss_one (ps_ret (pe_tup (pa_cons pe_str pa_nil)))) pss_nil)
    (pss_cons (ps_set (i := 1) nd rfl (Or.inl rfl) (pe_lst pa_nil))
    (pss_cons (ps_set (i := 2) nd rfl (Or.inr rfl) (pe_lst pa_nil))
    (pss_cons (ps_for PassesOwn.never rfl (pi_listK (K0 := K) (pe_f h__law_conjuncts (hr.mono (by omega)) rfl (pa_cons (pv 0) pa_nil))) (pg_name (i := 3) nd rfl (Or.inl rfl)) (pss_one (ps_if (pt_cmpR op_eq (pe_ix (r := rIxT K) ix_tup (pv 3) pe_int (fun _ _ => rfl)) pe_str (nomark _)) (pss_one (ps_if (pt_cmpR (r := rNotInD K) (op_notInD (Nat.lt_of_le_of_lt (Nat.add_le_add (Nat.le_add_right _ _) (by decide)) hr.un)) (pv 3) (pv 1) rfl) (pss_one (ps_expr (pe_bmK (K0 := K) PySem.F.plainAttrs_list PySem.F.slot_list_append PySem.F.type_list_append mt_append (pv 1) (pa_cons (pv 3) pa_nil)))) pss_nil)) (pss_cons (ps_set (i := 5) nd rfl (Or.inl rfl) (pe_tup (pa_cons pe_str (pa_cons (pe_ix (r := rIxT K) ix_tup (pv 3) pe_int (fun _ _ => rfl)) (pa_cons (pe_f h__law_normal (hr.mono (by omega)) rfl (pa_cons (pe_ix (r := rIxT K) ix_tup (pv 3) pe_int (fun _ _ => rfl)) pa_nil)) pa_nil)))))
    (pss_one (ps_if (pt_cmpR (r := rNotInD K) (op_notInD (Nat.lt_of_le_of_lt (Nat.add_le_add (Nat.le_add_right _ _) (by decide)) hr.un)) (pv 5) (pv 2) rfl) (pss_one (ps_expr (pe_bmK (K0 := K) PySem.F.plainAttrs_list PySem.F.slot_list_append PySem.F.type_list_append mt_append (pv 2) (pa_cons (pv 5) pa_nil)))) pss_nil))))))
    (pss_cons (ps_set (i := 2) nd rfl (Or.inr rfl) (pe_lc (own := [("one", 3)]) (g := gName 3) rfl nd (pi_listK (K0 := K) (pv 2)) (blkOk_by (N := ["term", "plain", "found", "one", "parts", "inner"]) (sc := defScope (top 55)) (by first | decide +kernel | rfl)) (fun _ _ _ _ _ => pg_name (i := 3) nd rfl (by first | exact Or.inl rfl | exact Or.inr rfl)) (fun _ _ _ _ _ => (pts_one (pt_val (pe_f h__law_stays (hr.mono (by omega)) rfl (pa_cons (pv 3) (pa_cons (pv 2) pa_nil)))))) (fun _ _ _ _ _ => (pv 3))))
    (pss_cons (ps_set (i := 4) nd rfl (Or.inl rfl) (pe_callBK (crk_sortKey (T := tabsOf K tsv) hr (kc_lam (a := "one") (qual := "_law_normal.<locals>.<lambda>") (params := lam1.1) (body := lam1.2.1) (scope := lam1.2.2) (nscope_by (by decide +kernel)) (fun _ _ _ _ _ => rfl) fun A outer s H f c' hr => (by exact (pe_ix (r := rIxT K) ix_tup (pv 0) pe_int (fun _ _ => rfl))))) rfl (c.fr _ (.tail _ (.tail _ (.tail _ (.tail _ (.tail _ (.tail _ (.tail _ (.head _))))))))) PyProof.Rows.boot_sorted (pa_cons (pv 1) pa_nil) (pk_cons (pe_lam hB rfl hT rfl hTu (by decide +kernel)) pk_nil)))
    (pss_cons (ps_set (i := 4) nd rfl (Or.inl rfl) (pe_op (r := rCatS K) op_catS (pv 4) (pe_callBK (crk_sortKey (T := tabsOf K tsv) hr (kc_lam (a := "one") (qual := "_law_normal.<locals>.<lambda>") (params := lam2.1) (body := lam2.2.1) (scope := lam2.2.2) (nscope_by (by decide +kernel)) (fun _ _ _ _ _ => rfl) fun A outer s H f c' hr => (by exact (pe_f h__law_written (hr.mono (by omega)) rfl (pa_cons (pv 0) pa_nil))))) rfl (c.fr _ (.tail _ (.tail _ (.tail _ (.tail _ (.tail _ (.tail _ (.tail _ (.head _))))))))) PyProof.Rows.boot_sorted (pa_cons (pv 2) pa_nil) (pk_cons (pe_lam hB rfl hT rfl hTu (by decide +kernel)) pk_nil))))
    (pss_cons (ps_if (pt_cmpR op_eq (pe_callB (r := Pl.rLen K) call_len rfl (c.fr _ (.tail _ (.tail _ (.tail _ (.head _))))) PySem.boot_len (pa_cons (pv 4) pa_nil)) pe_int (nomark _)) (pss_one (ps_ret (pe_tup (pa_cons pe_str pa_nil)))) pss_nil)
    (pss_cons (ps_if (pt_cmpR op_eq (pe_callB (r := Pl.rLen K) call_len rfl (c.fr _ (.tail _ (.tail _ (.tail _ (.head _))))) PySem.boot_len (pa_cons (pv 4) pa_nil)) pe_int (nomark _)) (pss_one (ps_ret (pe_ix (r := rIxL K) ix_list (pv 4) pe_int (fun _ _ => rfl)))) pss_nil)
    (pss_one (ps_ret (pe_tup (pa_cons pe_str (pa_cons (pe_callTy (r := rTupOf K) call_tuple_of rfl (c.fr _ (.tail _ (.tail _ (.tail _ (.tail _ (.head _)))))) PyProof.Rows.boot_tuple (pa_cons (pv 4) pa_nil)) pa_nil)))))))))))))), ?_⟩
    show Ss K _ _ [.val _, .no, .no, .no, .no, .no] _
    k_search "go"
    refine cv [.val _] ⟨rfl, trivial⟩ ⟨t, rfl, b.mono hh, rim rfl, ?_⟩
    cases hv : t.void
    case true =>
      rw [nf_bot.mpr hv] at hQ
      k_search "go"
      exact hQ
    have ptb := pre_tb b
    have pka : ∀ a ∈ t.pre, KA a := fun a m => (pre_is t b.good a m).ka fun e => by rw [e, pre_bot, hv] at m; cases m
    have pr := pre_raw t
    have pl : t.pre.length = t.raw.length := by rw [pr, List.length_map]
    have rl := b.rlen
    have sub : ∀ (k : Nat) (p : Tm → Bool), ∀ a ∈ ddp [] ((t.pre.take k).filter p), a ∈ t.pre ∧ p a = true := fun k p a m => by
      have := mem_ddf.mp m
      exact ⟨List.mem_of_mem_take this.1, this.2⟩
    have stb : ∀ (k : Nat) (p : Tm → Bool), ∀ a ∈ ddp [] ((t.pre.take k).filter p), Tb (h + 1) a := fun k p a m => ptb a (sub k p a m).1
    have sln : ∀ (k : Nat) (p : Tm → Bool), (ddp [] ((t.pre.take k).filter p)).length ≤ 1000 := fun k p => by
      have h1 := ddp_len ((t.pre.take k).filter p) []
      have h2 := List.length_filter_le p (t.pre.take k)
      rw [List.length_take] at h2
      simp only [List.length_nil] at h1
      omega
    k_search "go"
    refine go_forL (t.raw.map Tm.d) (fun k δ => ∃ (a1 a2 : Addr) (s3 s5 : Sl), δ = [.val t.d, .own a1 (.lst ((ddp [] ((t.pre.take k).filter Tm.isN)).map Tm.d)), .own a2 (.lst ((ddp [] ((t.pre.take k).filter Tm.isS)).map Tm.d)), s3, .no, s5]) ?_ ?_ ?_
    · k_search "go"
      exact cv [.val _] ⟨rfl, trivial⟩ ⟨t, rfl, b.mono hh, rimL tm_imm, rfl, _, _, .no, .no, rfl⟩
    · rintro k d δ2 hk ⟨a1, a2, s3, s5, rfl⟩
      obtain ⟨u, hu, rfl⟩ := map_at hk
      have m := List.mem_of_getElem? hu
      have ha := Tm.raw_atom t u m
      have bu := b.raw m
      have nv := raw_nv hv u m
      have hp : t.pre[k]? = some (stp u) := by rw [pr, List.getElem?_map, hu]; rfl
      have mp := List.mem_of_getElem? hp
      have et : t.pre.take (k + 1) = t.pre.take k ++ [stp u] := by rw [List.take_add_one, hp]; rfl
      have fN := stb k Tm.isN
      have fS := stb k Tm.isS
      have lN := sln k Tm.isN
      have lS := sln k Tm.isS
      k_search "nrm"
      cases u with
      | top => cases ha
      | and us => cases ha
      | bot => cases nv
      | name x =>
        have e1 : (t.pre.take (k + 1)).filter Tm.isN = (t.pre.take k).filter Tm.isN ++ [.name x] := by rw [et, List.filter_append]; rfl
        have e2 : (t.pre.take (k + 1)).filter Tm.isS = (t.pre.take k).filter Tm.isS := by rw [et, List.filter_append]; exact List.append_nil _
        rw [e1, e2, ddp_snoc]
        have ll : (List.map Tm.d (ddp [] (List.filter Tm.isN (t.pre.take k)))).length < 100000 := by rw [List.length_map]; omega
        k_search "go"
        refine ⟨_, _, rfl, ⟨_, _, rfl, rfl⟩, opd_niTm bu.shaped (shaped_tb fN) ?_⟩
        refine ⟨_, rfl, iteN (fun hn => ?_) fun hy => ?_⟩
        · rw [if_neg hn, List.map_append]
          k_search "go"
          exact ⟨_, _, _, _, rfl⟩
        · rw [if_pos hy]
          k_search "go"
          exact ⟨_, _, _, _, rfl⟩
      | some r v =>
        have vv : v.void = false := nv
        have es : stp (.some r v) = .some r v.nf := by
          show (if v.nf = .bot then Tm.bot else .some r v.nf) = _
          rw [if_neg (fun q => by rw [nf_bot.mp q] at vv; cases vv)]
        rw [es] at et mp
        have bs := ptb _ mp
        have e1 : (t.pre.take (k + 1)).filter Tm.isN = (t.pre.take k).filter Tm.isN := by rw [et, List.filter_append]; exact List.append_nil _
        have e2 : (t.pre.take (k + 1)).filter Tm.isS = (t.pre.take k).filter Tm.isS ++ [.some r v.nf] := by rw [et, List.filter_append]; rfl
        rw [e1, e2, ddp_snoc]
        have ll : (List.map Tm.d (ddp [] (List.filter Tm.isS (t.pre.take k)))).length < 100000 := by rw [List.length_map]; omega
        k_search "go"
        refine cv [.val _] ⟨rfl, trivial⟩ ⟨v, rfl, bu.some, rim (Tm.imm_d _), ?_⟩
        k_search "go"
        refine ⟨(Tm.some r v.nf).d, _, rfl, ⟨_, _, rfl, rfl⟩, opd_niTm bs.shaped (shaped_tb fS) ?_⟩
        refine ⟨_, rfl, iteN (fun hn => ?_) fun hy => ?_⟩
        · rw [if_neg hn, List.map_append]
          k_search "go"
          exact ⟨_, _, _, _, rfl⟩
        · rw [if_pos hy]
          k_search "go"
          exact ⟨_, _, _, _, rfl⟩
    · rintro δ2 ⟨a1, a2, s3, s5, rfl⟩
      have tk : t.pre.take (List.map Tm.d t.raw).length = t.pre := by rw [List.length_map, ← pl, List.take_length]
      have fN := stb (List.map Tm.d t.raw).length Tm.isN
      have fS := stb (List.map Tm.d t.raw).length Tm.isS
      have lN := sln (List.map Tm.d t.raw).length Tm.isN
      have lS := sln (List.map Tm.d t.raw).length Tm.isS
      rw [tk] at fN fS lN lS ⊢
      have er := lrow_row b.good hv
      rw [nf_row hv, ← er] at hQ
      unfold lrow at hQ
      have rka : ∀ x ∈ lrow t, KA x := fun x hx => ka_of_row b.good hv (er ▸ hx)
      have nN : ∀ a ∈ ddp [] (t.pre.filter Tm.isN), a.isN = true := fun a m => (mem_ddf.mp m).2
      generalize ddp [] (t.pre.filter Tm.isN) = ns at fN lN nN hQ
      generalize ddp [] (t.pre.filter Tm.isS) = ss at fS lS hQ
      refine ss_frz (i := 2) rfl ?_
      refine ss_no (i := 3) ?_
      k_search "nrm"
      refine go_seq ?_
      refine go_set ?_
      refine ex_filL2 (fun d => stays (Tm.of d) ss) (ex_var rfl ⟨ss.map Tm.d, rfl, rfl, by rw [List.length_map]; omega, fun d hd => ?_, ?_⟩)
      · obtain ⟨u, hu2, rfl⟩ := List.mem_map.mp hd
        k_search "nrm"
        k_search "go"
        refine cv [.val _, .val _] ⟨rfl, rfl, trivial⟩ ⟨u, ss, rfl, (fS u hu2).mono hh, fun x hx => (fS x hx).mono hh, rim rfl, ?_⟩
        rw [Tm.of_d]
        k_search "go"
      have e : (ss.map Tm.d).filter (fun d => stays (Tm.of d) ss) = (ss.filter fun a => stays a ss).map Tm.d := by
        rw [List.filter_map]
        congr 1
        refine List.filter_congr fun u _ => ?_
        show stays (Tm.of u.d) ss = _
        rw [Tm.of_d]
      rw [e]
      have fF : ∀ a ∈ ss.filter (fun a => stays a ss), Tb (h + 1) a := fun a m => fS a (List.mem_filter.mp m).1
      have lF : (ss.filter fun a => stays a ss).length ≤ 1000 := Nat.le_trans (List.length_filter_le _ _) lS
      generalize ss.filter (fun a => stays a ss) = fs at fF lF hQ
      k_search "goe"
      refine go_seq (go_set (ex_sortLam (ex_bor rfl ⟨ns.map Tm.d, fun d => .str (Tm.of d).wr, ⟨_, _, rfl, rfl⟩, tm_imm, wkeys_alike _, wkeys_sortable _, fun d hd => ?_, fun d hd => ?_, ?_⟩)))
      · exact ⟨by show (0 : Nat) ≤ 60; decide, rfl⟩
      · obtain ⟨u, hu2, rfl⟩ := List.mem_map.mp hd
        have hn := nN u hu2
        cases u with
        | name x =>
          show Ex _ _ _ _ fun r _ => r = R.val (PyData.str (Tm.of (Tm.name x).d).wr)
          rw [Tm.of_d, wr_name]
          k_search "go"
        | _ => cases hn
      rw [srtW_d]
      have lw : (srtW ns).length ≤ 1000 := by rw [srtW_len]; exact lN
      generalize srtW ns = ws at lw hQ
      k_search "goe"
      refine go_seq (go_set (ex_op (ex_bor rfl (ex_sortLam (ex_bor rfl ⟨fs.map Tm.d, fun d => .str (Tm.of d).wr, ⟨_, _, rfl, rfl⟩, tm_imm, wkeys_alike _, wkeys_sortable _, fun d hd => ?_, fun d hd => ?_, ?_⟩)))))
      · exact ⟨by show (0 : Nat) ≤ 60; decide, rfl⟩
      · obtain ⟨u, hu2, rfl⟩ := List.mem_map.mp hd
        show Ex _ _ _ _ fun r _ => r = R.val (PyData.str (Tm.of u.d).wr)
        rw [Tm.of_d]
        k_search "go"
        exact cv [.val _] ⟨rfl, trivial⟩ ⟨u, rfl, (fF u hu2).mono hh, rim rfl, rfl⟩
      rw [srtW_d]
      have lv : (srtW fs).length ≤ 1000 := by rw [srtW_len]; exact lF
      generalize srtW fs = vs at lv hQ
      refine ⟨_, _, ⟨_, _, rfl, rfl⟩, rfl, opd_catL tm_imm tm_imm (by rw [List.length_map, List.length_map]; omega) ?_⟩
      rw [← List.map_append]
      have lx : (ws ++ vs).length ≤ 2000 := by rw [List.length_append]; omega
      generalize ws ++ vs = xs at lx hQ
      k_search "goe"
      match xs, lx, hQ with
      | [], lx, hQ =>
        k_search "go"
        exact hQ
      | [x], lx, hQ =>
        k_search "go"
        exact hQ
      | x :: y :: zs, lx, hQ =>
        k_search "go"
        refine cb_tupL tm_imm ?_
        k_search "go"
        have e : (shp (x :: y :: zs)).d = .tuple [.str "and", .tuple ((x :: y :: zs).map Tm.d)] := by
          rw [← Tm.dL_map]; rfl
        rw [e] at hQ
        exact hQ
end
set_option Elab.async false
set_option linter.all false
set_option maxRecDepth 100000
set_option maxHeartbeats 4000001
open PySem L2 LamX NdefX PyProof.Rows GenW Pl
variable {P : Program} {w : World} {K : PySem.W.Frag} {mg : Str → Option Value} {base : Heap} {T : List NTab} {ts : List Str}
/-- of terms, or of values of which one is no term -/
def F_bothX (K : PySem.W.Frag) (h : Nat) : FSX := fun as Q QX => (∃ us : List Tm, as = [.val (.tuple (us.map Tm.d))] ∧ Tb h (.and us) ∧ Q (.val (Tm.and us).nf.d) []) ∨
  ∃ ds : List D, as = [.val (.tuple ds)] ∧ (∀ d ∈ ds, Od d) ∧ (∃ d ∈ ds, termB d = false) ∧ QX (ITm K) []
abbrev OkVXF (P : Program) (w : World) (K : PySem.W.Frag) (mg : Str → Option Value) (base : Heap) (T : List NTab) (k : Nat) (x : Str) (n : Nat) (F : FSX) := OkVX P w K mg base k x (spV n (spXOf K T F))
theorem ok_both (c : Al K mg base ds fr ts cs) (h n : Nat) (h_check_term : OkXF P w K mg base T 4 "check_term" ["value"] (F_chk K)) (h_make_normal : OkF P w K mg base T n "make_normal" ["term"] (F_nf h)) :
    OkVXF P w K mg base T (max 4 n + 1) "both" 6 (F_bothX K h) := by
  have nd := sc_both.nd
  refine okVX_of c (pv := "terms") (st := top 28) (by simp only [ds]; exact (.tail _ (.tail _ (.tail _ (.tail _ (.tail _ (.tail _ (.tail _ (.tail _ (.tail _ (.tail _ (.tail _ (.tail _ (.tail _ (.tail _ (.tail _ (.tail _ (.head _)))))))))))))))))) (by decide) (fun _ _ _ _ _ _ rest hl => ?_) sc_both (fun as Q X h => by rcases h with ⟨_, rfl, _⟩ | ⟨_, rfl, _⟩ <;> rfl) fun f cdv A outer s H E hr as Q QX qs hF hq => ?_
  · match rest, hl with
    | [], _ => rfl
    | [_], _ => rfl
    | [_, _], _ => rfl
    | [_, _, _], _ => rfl
    | [_, _, _, _], _ => rfl
    | [_, _, _, _, _], _ => rfl
    | [_, _, _, _, _, _], _ => rfl
    | _ :: _ :: _ :: _ :: _ :: _ :: _ :: _, hl => exact absurd hl (by simp)
  refine ⟨_, fun W tk => (pss_cons (ps_for (passes_of rfl) rfl (pi_tupK (K0 := K) (pv 0)) (pg_name (i := 1) nd rfl (Or.inl rfl)) (pss_one (ps_expr (pe_fxS h_check_term tk (hr.mono (by omega)) rfl (pa_cons (pv 1) pa_nil)))))
    (pss_one (ps_ret (pe_f h_make_normal (hr.mono (by omega)) rfl (pa_cons (pe_tup (pa_cons pe_str (pa_cons (pe_callTy (r := rTupOf K) call_tuple_of rfl (c.fr _ (.tail _ (.tail _ (.tail _ (.tail _ (.head _)))))) PyProof.Rows.boot_tuple (pa_cons (pv 0) pa_nil)) pa_nil))) pa_nil))))), ?_⟩
  rcases hF with ⟨us, rfl, b, hQ⟩ | ⟨ds, rfl, ho, ⟨d0, hd0, hb0⟩, hX⟩
  · obtain rfl : qs = [] := List.length_eq_zero_iff.mp hq
    show SsX K T _ [.val _, .no] _ _
    have sub : ∀ t ∈ us, Tb h t := fun t m => by
      cases h with
      | zero => exact b.no.elim
      | succ h => exact (b.and m).mono (Nat.le_succ h)
    k_search "go"
    refine gx_forT (us.map Tm.d) (fun k δ => ∃ s, δ = [.val (.tuple (us.map Tm.d)), s]) ?_ ?_ ?_
    · k_search "go"
      exact ⟨rfl, .no, rfl⟩
    · rintro k d δ2 hk ⟨s, rfl⟩
      obtain ⟨u, hu, rfl⟩ := map_at hk
      have m := List.mem_of_getElem? hu
      k_search "nrm"
      k_search "go"
      refine xv [.val _] ⟨rfl, trivial⟩ ⟨u.d, rfl, tb_od (sub u m), ?_⟩
      rw [if_pos (tb_term (sub u m))]
      exact ⟨_, rfl⟩
    · rintro δ2 ⟨s, rfl⟩
      k_search "go"
      refine cb_tupT tm_imm ?_
      k_search "go"
      refine cv [.val _] ⟨rfl, trivial⟩ ⟨.and us, ?_, b, rim (Tm.imm_d _), ?_⟩
      · rw [← Tm.dL_map]; rfl
      k_search "go"
      exact hQ
  · obtain rfl : qs = [] := List.length_eq_zero_iff.mp hq
    show SsX K T _ [.val _, .no] _ _
    k_search "go"
    refine gx_forT ds (fun k δ => ∃ s, δ = [.val (.tuple ds), s] ∧ (ds.take k).all termB = true) ?_ ?_ ?_
    · k_search "go"
      exact ⟨rfl, .no, rfl, rfl⟩
    · rintro k d δ2 hk ⟨s, rfl, ha⟩
      have m := List.mem_of_getElem? hk
      k_search "nrm"
      k_search "go"
      refine xv [.val _] ⟨rfl, trivial⟩ ⟨d, rfl, ho d m, ?_⟩
      cases hd : termB d
      · rw [if_neg Bool.false_ne_true]
        k_search "go"
        exact hX
      · rw [if_pos rfl]
        refine ⟨_, rfl, ?_⟩
        rw [List.take_add_one, hk, List.all_append, ha]
        show (termB d && true) = true
        rw [hd]
        rfl
    · rintro δ2 ⟨s, rfl, ha⟩
      rw [List.take_length] at ha
      rw [List.all_eq_true.mp ha d0 hd0] at hb0
      cases hb0
def F_cname (K : PySem.W.Frag) : FSX := fun as Q QX => ∃ d : D, as = [.val d] ∧ shortD d ∧ if wordB d = true then Q (.val .none) [] else QX (INm K) []
theorem ok_check_name (c : Al K mg base ds fr ts cs) (h_is_word : OkF P w K mg base T 1 "is_word" ["value"] F_isw) : OkXF P w K mg base T 2 "check_name" ["value"] (F_cname K) := by
  have nd := sc_check_name.nd
  have kTOP := c.cs _ (.head _)
  have kBOTTOM := c.cs _ (.tail _ (.head _))
  have kRESERVED := c.cs _ (.tail _ (.tail _ (.tail _ (.tail _ (.tail _ (.head _))))))
  refine ok_ofX c (.tail _ (.tail _ (.tail _ (.tail _ (.head _))))) (fun _ _ _ _ _ _ us hl => match us, hl with | [_], _ => rfl) sc_check_name (fun as Q X h => by first | (rcases h with ⟨_, rfl, _⟩ | ⟨_, rfl, _⟩ <;> rfl) | (rcases h with ⟨_, _, rfl, _⟩ | ⟨_, _, rfl, _⟩ <;> rfl) | (rcases h with ⟨_, _, rfl, _⟩ | ⟨_, _, rfl, _⟩ | ⟨_, _, rfl, _⟩ <;> rfl) | (obtain ⟨_, rfl, _⟩ := h; rfl) | (obtain ⟨_, _, rfl, _⟩ := h; rfl) | (obtain ⟨_, _, _, rfl, _⟩ := h; rfl) | (obtain ⟨_, _, _, _, rfl, _⟩ := h; rfl) | (obtain ⟨_, _, _, _, _, rfl, _⟩ := h; rfl)) fun f cdv A outer s H E hr as Q QX qs hF hq => ?_
  obtain ⟨d, rfl, b, hQ⟩ := hF
  obtain rfl : qs = [] := List.length_eq_zero_iff.mp hq
  refine ⟨_, fun W tk => (pss_one (ps_if (pt_not (pt_val (pe_f h_is_word (hr.mono (by omega)) rfl (pa_cons (pv 0) pa_nil)))) (pss_one (ps_rz (c.cs _ (.tail _ (.tail _ (.tail _ (.tail _ (.tail _ (.tail _ (.tail _ (.tail _ (.head _)))))))))) rfl tk rfl)) pss_nil)), ?_⟩
  show SsX K T _ [.val _] _ _
  k_search "go"
  refine cv [.val _] ⟨rfl, trivial⟩ ⟨d, rfl, b, rim rfl, ?_⟩
  cases ht : wordB d
  · rw [ht] at hQ
    k_search "go"
    exact hQ
  · rw [ht] at hQ
    k_search "go"
    exact hQ
def strOf : D → Str
  | .str x => x
  | _ => ""
/-- the different words of a list or tuple -/
def wds (ds : List D) : Option (List Str) := if ds.all wordB = true ∧ (ds.map strOf).Nodup then some (ds.map strOf) else none
def namesB : D → Option (List Str)
  | .list ds => wds ds
  | .tuple ds => wds ds
  | _ => none
def rNames (K : PySem.W.Frag) (Q : R → List OV → Prop) (QX : Value → List OV → Prop) : Option (List Str) → Prop
  | some ws => Q (.new (.lst (ws.map .str))) []
  | none => QX (INm K) []
def F_cnames (K : PySem.W.Frag) : FSX := fun as Q QX => ∃ d : D, as = [.val d] ∧ okO d = true ∧ rNames K Q QX (namesB d)
theorem words_str {ds : List D} (h : ds.all wordB = true) : ∃ ws : List Str, ds = ws.map .str ∧ ∀ x ∈ ws, W x := by
  induction ds with
  | nil => exact ⟨[], rfl, fun _ h => nomatch h⟩
  | cons d ds ih =>
    rw [List.all_cons, Bool.and_eq_true] at h
    obtain ⟨ws, rfl, hw⟩ := ih h.2
    cases d with
    | str x => exact ⟨x :: ws, rfl, fun y m => (List.mem_cons.mp m).elim (fun e => e ▸ wB_W.mp h.1) (hw y)⟩
    | _ => exact absurd h.1 Bool.false_ne_true
theorem wds_strs {ws : List Str} (h : ∀ x ∈ ws, W x) : wds (ws.map .str) = if ws.Nodup then some ws else none := by
  have e : (ws.map PyData.str).map strOf = ws := by
    rw [List.map_map]
    exact List.map_id' ws
  have a : (ws.map PyData.str).all wordB = true := List.all_eq_true.mpr fun d hd => by
    obtain ⟨x, hx, rfl⟩ := List.mem_map.mp hd
    exact wB_W.mpr (h x hx)
  unfold wds
  rw [e, a]
  simp
theorem okO_list {ds : List D} (o : okO (.list ds) = true) : ds.length ≤ 1000 ∧ okOs ds = true := by simpa only [okO, Bool.and_eq_true, decide_eq_true_eq] using o
theorem okO_tup {ds : List D} (o : okO (.tuple ds) = true) : ds.length ≤ 1000 ∧ okOs ds = true := by simpa only [okO, Bool.and_eq_true, decide_eq_true_eq] using o
theorem wds_none {ds : List D} {d : D} (m : d ∈ ds) (h : wordB d = false) : wds ds = none := by
  unfold wds
  rw [if_neg]
  rintro ⟨q, _⟩
  rw [List.all_eq_true.mp q d m] at h
  cases h
theorem nodup_iff_len {ws L : List Str} (nd : L.Nodup) (hm : ∀ z, z ∈ L ↔ z ∈ ws) : (L.length = ws.length) ↔ ws.Nodup := by
  constructor
  · intro e
    have p : L.Perm (dd ws) := (List.perm_ext_iff_of_nodup nd (dd_nodup ws)).mpr fun z => (hm z).trans mem_dd.symm
    have l := p.length_eq
    rw [e] at l
    clear e p nd hm
    have : ∀ ws : List Str, ws.length = (dd ws).length → ws.Nodup := by
      intro ws
      induction ws with
      | nil => intro _; exact List.nodup_nil
      | cons x xs ih =>
        intro h
        have := dd_len xs
        unfold dd at h
        by_cases m : x ∈ xs
        · rw [if_pos m] at h
          simp only [List.length_cons] at h
          omega
        · rw [if_neg m] at h
          simp only [List.length_cons] at h
          exact List.nodup_cons.mpr ⟨m, ih (by omega)⟩
    exact this ws l
  · intro n
    exact ((List.perm_ext_iff_of_nodup nd n).mpr hm).length_eq
theorem ok_check_names (c : Al K mg base ds fr ts cs) (h_check_name : OkXF P w K mg base T 2 "check_name" ["value"] (F_cname K)) : OkXF P w K mg base T 3 "check_names" ["values"] (F_cnames K) := by
  have nd := sc_check_names.nd
  have kTOP := c.cs _ (.head _)
  have kBOTTOM := c.cs _ (.tail _ (.head _))
  have kRESERVED := c.cs _ (.tail _ (.tail _ (.tail _ (.tail _ (.tail _ (.head _))))))
  refine ok_ofX c (.tail _ (.tail _ (.tail _ (.tail _ (.tail _ (.head _)))))) (fun _ _ _ _ _ _ us hl => match us, hl with | [_], _ => rfl) sc_check_names (fun as Q X h => by first | (rcases h with ⟨_, rfl, _⟩ | ⟨_, rfl, _⟩ <;> rfl) | (rcases h with ⟨_, _, rfl, _⟩ | ⟨_, _, rfl, _⟩ <;> rfl) | (rcases h with ⟨_, _, rfl, _⟩ | ⟨_, _, rfl, _⟩ | ⟨_, _, rfl, _⟩ <;> rfl) | (obtain ⟨_, rfl, _⟩ := h; rfl) | (obtain ⟨_, _, rfl, _⟩ := h; rfl) | (obtain ⟨_, _, _, rfl, _⟩ := h; rfl) | (obtain ⟨_, _, _, _, rfl, _⟩ := h; rfl) | (obtain ⟨_, _, _, _, _, rfl, _⟩ := h; rfl)) fun f cdv A outer s H E hr as Q QX qs hF hq => ?_
  obtain ⟨d, rfl, o, hQ⟩ := hF
  obtain rfl : qs = [] := List.length_eq_zero_iff.mp hq
  cases d with
  | tuple us =>
    obtain ⟨hl, ou⟩ := okO_tup o
    refine ⟨_, fun W tk => (pss_cons (ps_if (pt_not (pt_val (pe_callB (r := rIsiT K) call_isiT rfl (c.fr _ (.tail _ (.head _))) PyProof.Rows.boot_isinstance (pa_cons (pv 0) (pa_cons (pe_tup (pa_cons (pe_bltn (v := .ty "list") rfl (c.fr _ (.tail _ (.tail _ (.tail _ (.tail _ (.tail _ (.head _))))))) PyProof.Rows.boot_list rfl) (pa_cons (pe_bltn (v := .ty "tuple") rfl (c.fr _ (.tail _ (.tail _ (.tail _ (.tail _ (.head _)))))) PyProof.Rows.boot_tuple rfl) pa_nil))) pa_nil))))) (pss_one (ps_rz (c.cs _ (.tail _ (.tail _ (.tail _ (.tail _ (.tail _ (.tail _ (.tail _ (.tail _ (.head _)))))))))) rfl tk rfl)) pss_nil)
    (pss_cons (ps_for (passes_of rfl) rfl (pi_tupK (K0 := K) (pv 0)) (pg_name (i := 1) nd rfl (Or.inl rfl)) (pss_one (ps_expr (pe_fxS h_check_name tk (hr.mono (by omega)) rfl (pa_cons (pv 1) pa_nil)))))
    (pss_cons (ps_if (pt_cmpR op_ne (pe_callB (r := rLenS P w) cr_lenS rfl (c.fr _ (.tail _ (.tail _ (.tail _ (.head _))))) PySem.boot_len (pa_cons (pe_callTy (r := rSetS K P w) (cr_setS rfl) rfl (c.fr _ (.tail _ (.tail _ (.tail _ (.tail _ (.tail _ (.tail _ (.head _)))))))) PyProof.Rows.boot_set (pa_cons (pv 0) pa_nil)) pa_nil)) (pe_callB (r := Pl.rLen K) call_len rfl (c.fr _ (.tail _ (.tail _ (.tail _ (.head _))))) PySem.boot_len (pa_cons (pv 0) pa_nil)) (nomark _)) (pss_one (ps_rz (c.cs _ (.tail _ (.tail _ (.tail _ (.tail _ (.tail _ (.tail _ (.tail _ (.tail _ (.head _)))))))))) rfl tk rfl)) pss_nil)
    (pss_one (ps_ret (pe_callTy (r := rListOf K) call_list_of rfl (c.fr _ (.tail _ (.tail _ (.tail _ (.tail _ (.tail _ (.head _))))))) PyProof.Rows.boot_list (pa_cons (pv 0) pa_nil))))))), ?_⟩
    show SsX K T _ [.val _, .no] _ _
    k_search "go"
    refine gx_forT us (fun k δ => ∃ s, δ = [.val (.tuple us), s] ∧ (us.take k).all wordB = true) ?_ ?_ ?_
    · k_search "go"
      exact ⟨rfl, .no, rfl, rfl⟩
    · rintro k d δ2 hk ⟨s, rfl, ha⟩
      have m := List.mem_of_getElem? hk
      k_search "nrm"
      k_search "go"
      refine xv [.val _] ⟨rfl, trivial⟩ ⟨d, rfl, okO_short (okOs_mem ou m), ?_⟩
      cases hd : wordB d
      · rw [if_neg Bool.false_ne_true]
        have hQ : rNames K Q QX (wds us) := hQ
        rw [wds_none m hd] at hQ
        k_search "go"
        exact hQ
      · rw [if_pos rfl]
        refine ⟨_, rfl, ?_⟩
        rw [List.take_add_one, hk, List.all_append, ha]
        show (wordB d && true) = true
        rw [hd]
        rfl
    · rintro δ2 ⟨s, rfl, ha⟩
      rw [List.take_length] at ha
      obtain ⟨ws, rfl, hw⟩ := words_str ha
      have hQ : rNames K Q QX (wds (ws.map .str)) := hQ
      rw [wds_strs hw] at hQ
      rw [List.length_map] at hl
      refine gx_seq (gx_if (et_test (ex_op (ex_lenSetS (ex_var rfl ⟨ws, .inr rfl, hl, fun L nd hm => ?_⟩)))))
      have key := nodup_iff_len nd hm
      k_search "go"
      refine iteN (fun hn => ?_) fun hn => ?_
      · rw [if_neg (fun q => hn (by rw [List.length_map, key.mpr q]))] at hQ
        k_search "go"
        exact hQ
      · rw [if_pos (key.mp (by rw [List.length_map] at hn; omega))] at hQ
        k_search "go"
        refine cb_listT (imm_strs _) ?_
        k_search "go"
        exact hQ
  | list us =>
    obtain ⟨hl, ou⟩ := okO_list o
    refine ⟨_, fun W tk => (pss_cons (ps_if (pt_not (pt_val (pe_callB (r := rIsiT K) call_isiT rfl (c.fr _ (.tail _ (.head _))) PyProof.Rows.boot_isinstance (pa_cons (pv 0) (pa_cons (pe_tup (pa_cons (pe_bltn (v := .ty "list") rfl (c.fr _ (.tail _ (.tail _ (.tail _ (.tail _ (.tail _ (.head _))))))) PyProof.Rows.boot_list rfl) (pa_cons (pe_bltn (v := .ty "tuple") rfl (c.fr _ (.tail _ (.tail _ (.tail _ (.tail _ (.head _)))))) PyProof.Rows.boot_tuple rfl) pa_nil))) pa_nil))))) (pss_one (ps_rz (c.cs _ (.tail _ (.tail _ (.tail _ (.tail _ (.tail _ (.tail _ (.tail _ (.tail _ (.head _)))))))))) rfl tk rfl)) pss_nil)
    (pss_cons (ps_for (passes_of rfl) rfl (pi_listK (K0 := K) (pv 0)) (pg_name (i := 1) nd rfl (Or.inl rfl)) (pss_one (ps_expr (pe_fxS h_check_name tk (hr.mono (by omega)) rfl (pa_cons (pv 1) pa_nil)))))
    (pss_cons (ps_if (pt_cmpR op_ne (pe_callB (r := rLenS P w) cr_lenS rfl (c.fr _ (.tail _ (.tail _ (.tail _ (.head _))))) PySem.boot_len (pa_cons (pe_callTy (r := rSetS K P w) (cr_setS rfl) rfl (c.fr _ (.tail _ (.tail _ (.tail _ (.tail _ (.tail _ (.tail _ (.head _)))))))) PyProof.Rows.boot_set (pa_cons (pv 0) pa_nil)) pa_nil)) (pe_callB (r := Pl.rLen K) call_len rfl (c.fr _ (.tail _ (.tail _ (.tail _ (.head _))))) PySem.boot_len (pa_cons (pv 0) pa_nil)) (nomark _)) (pss_one (ps_rz (c.cs _ (.tail _ (.tail _ (.tail _ (.tail _ (.tail _ (.tail _ (.tail _ (.tail _ (.head _)))))))))) rfl tk rfl)) pss_nil)
    (pss_one (ps_ret (pe_callTy (r := rListOf K) call_list_of rfl (c.fr _ (.tail _ (.tail _ (.tail _ (.tail _ (.tail _ (.head _))))))) PyProof.Rows.boot_list (pa_cons (pv 0) pa_nil))))))), ?_⟩
    show SsX K T _ [.val _, .no] _ _
    k_search "go"
    refine gx_forL us (fun k δ => ∃ s, δ = [.val (.list us), s] ∧ (us.take k).all wordB = true) ?_ ?_ ?_
    · k_search "go"
      exact ⟨rfl, .no, rfl, rfl⟩
    · rintro k d δ2 hk ⟨s, rfl, ha⟩
      have m := List.mem_of_getElem? hk
      k_search "nrm"
      k_search "go"
      refine xv [.val _] ⟨rfl, trivial⟩ ⟨d, rfl, okO_short (okOs_mem ou m), ?_⟩
      cases hd : wordB d
      · rw [if_neg Bool.false_ne_true]
        have hQ : rNames K Q QX (wds us) := hQ
        rw [wds_none m hd] at hQ
        k_search "go"
        exact hQ
      · rw [if_pos rfl]
        refine ⟨_, rfl, ?_⟩
        rw [List.take_add_one, hk, List.all_append, ha]
        show (wordB d && true) = true
        rw [hd]
        rfl
    · rintro δ2 ⟨s, rfl, ha⟩
      rw [List.take_length] at ha
      obtain ⟨ws, rfl, hw⟩ := words_str ha
      have hQ : rNames K Q QX (wds (ws.map .str)) := hQ
      rw [wds_strs hw] at hQ
      rw [List.length_map] at hl
      refine gx_seq (gx_if (et_test (ex_op (ex_lenSetS (ex_var rfl ⟨ws, .inl rfl, hl, fun L nd hm => ?_⟩)))))
      have key := nodup_iff_len nd hm
      k_search "go"
      refine iteN (fun hn => ?_) fun hn => ?_
      · rw [if_neg (fun q => hn (by rw [List.length_map, key.mpr q]))] at hQ
        k_search "go"
        exact hQ
      · rw [if_pos (key.mp (by rw [List.length_map] at hn; omega))] at hQ
        k_search "go"
        refine cb_listL (imm_strs _) ?_
        k_search "go"
        exact hQ
  | _ =>
    refine ⟨_, fun W tk => (pss_cons (ps_if (pt_not (pt_val (pe_callB (r := rIsiT K) call_isiT rfl (c.fr _ (.tail _ (.head _))) PyProof.Rows.boot_isinstance (pa_cons (pv 0) (pa_cons (pe_tup (pa_cons (pe_bltn (v := .ty "list") rfl (c.fr _ (.tail _ (.tail _ (.tail _ (.tail _ (.tail _ (.head _))))))) PyProof.Rows.boot_list rfl) (pa_cons (pe_bltn (v := .ty "tuple") rfl (c.fr _ (.tail _ (.tail _ (.tail _ (.tail _ (.head _)))))) PyProof.Rows.boot_tuple rfl) pa_nil))) pa_nil))))) (pss_one (ps_rz (c.cs _ (.tail _ (.tail _ (.tail _ (.tail _ (.tail _ (.tail _ (.tail _ (.tail _ (.head _)))))))))) rfl tk rfl)) pss_nil)
    (pss_cons (ps_for (passes_of rfl) rfl (pi_listK (K0 := K) (pv 0)) (pg_name (i := 1) nd rfl (Or.inl rfl)) (pss_one (ps_expr (pe_fxS h_check_name tk (hr.mono (by omega)) rfl (pa_cons (pv 1) pa_nil)))))
    (pss_cons (ps_if (pt_cmpR op_ne (pe_callB (r := rLenS P w) cr_lenS rfl (c.fr _ (.tail _ (.tail _ (.tail _ (.head _))))) PySem.boot_len (pa_cons (pe_callTy (r := rSetS K P w) (cr_setS rfl) rfl (c.fr _ (.tail _ (.tail _ (.tail _ (.tail _ (.tail _ (.tail _ (.head _)))))))) PyProof.Rows.boot_set (pa_cons (pv 0) pa_nil)) pa_nil)) (pe_callB (r := Pl.rLen K) call_len rfl (c.fr _ (.tail _ (.tail _ (.tail _ (.head _))))) PySem.boot_len (pa_cons (pv 0) pa_nil)) (nomark _)) (pss_one (ps_rz (c.cs _ (.tail _ (.tail _ (.tail _ (.tail _ (.tail _ (.tail _ (.tail _ (.tail _ (.head _)))))))))) rfl tk rfl)) pss_nil)
    (pss_one (ps_ret (pe_callTy (r := rListOf K) call_list_of rfl (c.fr _ (.tail _ (.tail _ (.tail _ (.tail _ (.tail _ (.head _))))))) PyProof.Rows.boot_list (pa_cons (pv 0) pa_nil))))))), ?_⟩
    show SsX K T _ [.val _, .no] _ _
    k_search "go"
    exact hQ
set_option Elab.async false
set_option linter.all false
set_option maxRecDepth 100000
set_option maxHeartbeats 4000001
open PySem L2 LamX NdefX PyProof.Rows GenW Pl
variable {P : Program} {w : World} {K : PySem.W.Frag} {mg : Str → Option Value} {base : Heap} {T : List NTab} {ts : List Str}
noncomputable def over (t : Tm) (ws : List Str) : Bool := (wsort t.nf.nms).all fun x => decide (x ∈ ws)
def rOver (K : PySem.W.Frag) (t : Tm) (Q : R → List OV → Prop) (QX : Value → List OV → Prop) : Option (List Str) → Prop
  | some ws => Q (.val (.bool (over t ws))) []
  | none => QX (INm K) []
def F_over (K : PySem.W.Frag) (h : Nat) : FSX := fun as Q QX => (∃ (t : Tm) (e : D), as = [.val t.d, .val e] ∧ Tb h t ∧ okO e = true ∧ rOver K t Q QX (namesB e)) ∨
  ∃ d e : D, as = [.val d, .val e] ∧ Od d ∧ termB d = false ∧ QX (ITm K) []
theorem ok_over (c : Al K mg base ds fr ts cs) (h n : Nat) (h_check_term : OkXF P w K mg base T 4 "check_term" ["value"] (F_chk K)) (h_check_names : OkXF P w K mg base T 3 "check_names" ["values"] (F_cnames K))
    (h_words : OkXF P w K mg base T n "words" ["term"] (F_t K h fun t => .val (wordsD t))) : OkXF P w K mg base T (max 4 n + 2) "is_over" ["term", "names"] (F_over K h) := by
  have nd := sc_is_over.nd
  have kTOP := c.cs _ (.head _)
  have kBOTTOM := c.cs _ (.tail _ (.head _))
  have kRESERVED := c.cs _ (.tail _ (.tail _ (.tail _ (.tail _ (.tail _ (.head _))))))
  refine ok_ofX c (.tail _ (.tail _ (.tail _ (.tail _ (.tail _ (.tail _ (.tail _ (.tail _ (.tail _ (.tail _ (.tail _ (.tail _ (.tail _ (.tail _ (.tail _ (.tail _ (.tail _ (.tail _ (.tail _ (.tail _ (.tail _ (.tail _ (.head _))))))))))))))))))))))) (fun _ _ _ _ _ _ us hl => match us, hl with | [_, _], _ => rfl) sc_is_over (fun as Q X h => by first | (rcases h with ⟨_, rfl, _⟩ | ⟨_, rfl, _⟩ <;> rfl) | (rcases h with ⟨_, _, rfl, _⟩ | ⟨_, _, rfl, _⟩ <;> rfl) | (rcases h with ⟨_, _, rfl, _⟩ | ⟨_, _, rfl, _⟩ | ⟨_, _, rfl, _⟩ <;> rfl) | (obtain ⟨_, rfl, _⟩ := h; rfl) | (obtain ⟨_, _, rfl, _⟩ := h; rfl) | (obtain ⟨_, _, _, rfl, _⟩ := h; rfl) | (obtain ⟨_, _, _, _, rfl, _⟩ := h; rfl) | (obtain ⟨_, _, _, _, _, rfl, _⟩ := h; rfl)) fun f cdv A outer s H E hr as Q QX qs hF hq => ?_
  refine ⟨_, fun W tk => (pss_cons (ps_expr (pe_fxS h_check_term tk (hr.mono (by omega)) rfl (pa_cons (pv 0) pa_nil)))
    (pss_cons (ps_set (i := 2) nd rfl (Or.inr rfl) (pe_fxS h_check_names tk (hr.mono (by omega)) rfl (pa_cons (pv 1) pa_nil)))
    (pss_one (ps_ret (pe_callB (r := rAll K) (cr_all rfl) rfl (c.fr _ (.head _)) PyProof.Rows.boot_all (pa_cons (pe_lc (own := [("name", 3)]) (g := gName 3) (tt := tYes) rfl nd (pi_listK (K0 := K) (pe_ix (r := rIxT K) ix_tup (pe_fx h_words (hr.mono (by omega)) rfl (pa_cons (pv 0) pa_nil)) pe_int (fun _ _ => rfl))) (blkOk_by (N := ["term", "names", "listed", "name"]) (sc := defScope (top 34)) (by first | decide +kernel | rfl)) (fun _ _ _ _ _ => pg_name (i := 3) nd rfl (by first | exact Or.inl rfl | exact Or.inr rfl)) (fun _ _ _ _ _ => pts_nil) (fun _ _ _ _ _ => (pe_cmpR (r := rIn K false) op_in_seq (pv 3) (pv 2) rfl))) pa_nil)))))), ?_⟩
  rcases hF with ⟨t, e, rfl, b, o, hQ⟩ | ⟨d, e, rfl, o, ht, hX⟩
  · obtain rfl : qs = [] := List.length_eq_zero_iff.mp hq
    show SsX K T _ [.val _, .val _, .no, .no] _ _
    k_search "go"
    refine xv [.val _] ⟨rfl, trivial⟩ ⟨t.d, rfl, tb_od b, ?_⟩
    rw [if_pos (tb_term b)]
    k_search "go"
    refine xv [.val _] ⟨rfl, trivial⟩ ⟨e, rfl, o, ?_⟩
    cases hn : namesB e with
    | none =>
      rw [hn] at hQ
      exact ⟨[], rfl, hQ⟩
    | some ws =>
      rw [hn] at hQ
      have hQ : Q (.val (.bool (over t ws))) [] := hQ
      dsimp only [rNames]
      k_search "goe"
      have ln : (wsort t.nf.nms).length ≤ 1000 := Nat.le_trans (wsort_len _) (Nat.le_trans (nms_len _) b.nf.cnt)
      refine gx_of (go_ret (ex_cb (exa_cons (ex_mapL2 (ex_ixT (ex_callF (exa_cons (ex_var rfl (exa_nil ⟨[.val t.d], [], ⟨rfl, trivial⟩, List.nodup_nil, .inl ⟨t, rfl, b, ex_int ⟨[.list ((wsort t.nf.nms).map .str), .list ((wsort t.nf.rls).map .str)], 0, _, rfl, rfl, rfl, (wsort t.nf.nms).map .str, ((wsort t.nf.nms).map fun x => decide (x ∈ ws)).map .bool, rfl, rfl, by rw [List.length_map]; omega, by rw [List.length_map, List.length_map, List.length_map], fun k d e hd he => ?_, ?_⟩⟩⟩)))))))))
      · rw [List.getElem?_map] at hd
        cases hj : (wsort t.nf.nms)[k]? with
        | none => rw [hj] at hd; cases hd
        | some v =>
          rw [hj] at hd
          cases hd
          rw [List.map_map, List.getElem?_map, hj] at he
          cases he
          k_search "nrm"
          k_search "go"
          exact ⟨_, _, rfl, ⟨_, _, rfl, rfl⟩, opd_inSL ⟨rfl, rfl⟩⟩
      · k_search "go"
        have e : over t ws = ((wsort t.nf.nms).map fun x => decide (x ∈ ws)).all id := by unfold over; rw [List.all_map]; rfl
        rw [e] at hQ
        exact cb_all ⟨[], _, rfl, rfl, hQ⟩
  · obtain rfl : qs = [] := List.length_eq_zero_iff.mp hq
    show SsX K T _ [.val _, .val _, .no, .no] _ _
    k_search "go"
    refine xv [.val _] ⟨rfl, trivial⟩ ⟨d, rfl, o, ?_⟩
    rw [if_neg (by rw [ht]; exact Bool.false_ne_true)]
    k_search "go"
    exact hX
set_option Elab.async false
set_option linter.all false
set_option maxRecDepth 100000
set_option maxHeartbeats 4000001
open PySem L2 LamX NdefX PyProof.Rows GenW Pl
variable {P : Program} {w : World} {K : PySem.W.Frag} {mg : Str → Option Value} {base : Heap} {T : List NTab} {ts : List Str}
theorem cs_IT_IT (c : Al K mg base ds fr ts cs) : (Kc.sub "InvalidTerm" "InvalidTerm" true).ok K mg := c.cs _ (.tail _ (.tail _ (.tail _ (.tail _ (.tail _ (.tail _ (.tail _ (.tail _ (.tail _ (.tail _ (.head _)))))))))))
theorem cs_IT_NE (c : Al K mg base ds fr ts cs) : (Kc.sub "InvalidTerm" "NotionError" true).ok K mg := c.cs _ (.tail _ (.tail _ (.tail _ (.tail _ (.tail _ (.tail _ (.tail _ (.tail _ (.tail _ (.tail _ (.tail _ (.head _))))))))))))
theorem cs_IT_IN (c : Al K mg base ds fr ts cs) : (Kc.sub "InvalidTerm" "InvalidName" false).ok K mg := c.cs _ (.tail _ (.tail _ (.tail _ (.tail _ (.tail _ (.tail _ (.tail _ (.tail _ (.tail _ (.tail _ (.tail _ (.tail _ (.head _)))))))))))))
theorem cs_IN_IN (c : Al K mg base ds fr ts cs) : (Kc.sub "InvalidName" "InvalidName" true).ok K mg := c.cs _ (.tail _ (.tail _ (.tail _ (.tail _ (.tail _ (.tail _ (.tail _ (.tail _ (.tail _ (.tail _ (.tail _ (.tail _ (.tail _ (.head _))))))))))))))
theorem cs_IN_NE (c : Al K mg base ds fr ts cs) : (Kc.sub "InvalidName" "NotionError" true).ok K mg := c.cs _ (.tail _ (.tail _ (.tail _ (.tail _ (.tail _ (.tail _ (.tail _ (.tail _ (.tail _ (.tail _ (.tail _ (.tail _ (.tail _ (.tail _ (.head _)))))))))))))))
theorem cs_IN_IT (c : Al K mg base ds fr ts cs) : (Kc.sub "InvalidName" "InvalidTerm" false).ok K mg := c.cs _ (.tail _ (.tail _ (.tail _ (.tail _ (.tail _ (.tail _ (.tail _ (.tail _ (.tail _ (.tail _ (.tail _ (.tail _ (.tail _ (.tail _ (.tail _ (.head _))))))))))))))))
theorem cs_IN_IK (c : Al K mg base ds fr ts cs) : (Kc.sub "InvalidName" "InvalidNumber" false).ok K mg := c.cs _ (.tail _ (.tail _ (.tail _ (.tail _ (.tail _ (.tail _ (.tail _ (.tail _ (.tail _ (.tail _ (.tail _ (.tail _ (.tail _ (.tail _ (.tail _ (.tail _ (.head _)))))))))))))))))
theorem cs_IT_VE (c : Al K mg base ds fr ts cs) : (Kc.subT "InvalidTerm" "ValueError" true).ok K mg := c.cs _ (.tail _ (.tail _ (.tail _ (.tail _ (.tail _ (.tail _ (.tail _ (.tail _ (.tail _ (.tail _ (.tail _ (.tail _ (.tail _ (.tail _ (.tail _ (.tail _ (.tail _ (.head _))))))))))))))))))
theorem cs_IN_VE (c : Al K mg base ds fr ts cs) : (Kc.subT "InvalidName" "ValueError" true).ok K mg := c.cs _ (.tail _ (.tail _ (.tail _ (.tail _ (.tail _ (.tail _ (.tail _ (.tail _ (.tail _ (.tail _ (.tail _ (.tail _ (.tail _ (.tail _ (.tail _ (.tail _ (.tail _ (.tail _ (.head _)))))))))))))))))))
theorem cs_IT (c : Al K mg base ds fr ts cs) : (Kc.exc "InvalidTerm").ok K mg := c.cs _ (.tail _ (.tail _ (.tail _ (.tail _ (.tail _ (.tail _ (.tail _ (.head _))))))))
theorem cs_IN (c : Al K mg base ds fr ts cs) : (Kc.exc "InvalidName").ok K mg := c.cs _ (.tail _ (.tail _ (.tail _ (.tail _ (.tail _ (.tail _ (.tail _ (.tail _ (.head _)))))))))
def F_joined (h : Nat) : FS := fun as Q => ∃ us : List Tm, as = [.val (.list (us.map Tm.d))] ∧ us.length ≤ 6 ∧ Tb h (.and us) ∧ Q (.val (Tm.and us).nf.d) []
theorem ok_joined (c : Al K mg base ds fr ts cs) (h n : Nat) (h_both : OkVXF P w K mg base T n "both" 6 (F_bothX K h)) : OkF P w K mg base T (n + 1) "_law_joined" ["parts"] (F_joined h) := by
  have nd := sc__law_joined.nd
  have kTOP := c.cs _ (.head _)
  have kBOTTOM := c.cs _ (.tail _ (.head _))
  have kRESERVED := c.cs _ (.tail _ (.tail _ (.tail _ (.tail _ (.tail _ (.head _))))))
  refine ok_of c (.tail _ (.tail _ (.tail _ (.tail _ (.tail _ (.tail _ (.tail _ (.tail _ (.tail _ (.tail _ (.tail _ (.tail _ (.tail _ (.tail _ (.tail _ (.tail _ (.tail _ (.tail _ (.tail _ (.tail _ (.tail _ (.tail _ (.tail _ (.tail _ (.tail _ (.tail _ (.tail _ (.tail _ (.tail _ (.tail _ (.tail _ (.tail _ (.tail _ (.tail _ (.tail _ (.tail _ (.tail _ (.tail _ (.tail _ (.tail _ (.tail _ (.tail _ (.tail _ (.tail _ (.tail _ (.tail _ (.tail _ (.tail _ (.tail _ (.tail _ (.tail _ (.tail _ (.head _))))))))))))))))))))))))))))))))))))))))))))))))))))) (fun _ _ _ _ _ _ us hl => match us, hl with | [_], _ => rfl) sc__law_joined (fun as Q h => by first | (obtain ⟨_, rfl, _⟩ := h; rfl) | (obtain ⟨_, _, rfl, _⟩ := h; rfl) | (obtain ⟨_, _, _, rfl, _⟩ := h; rfl) | (obtain ⟨_, _, _, _, rfl, _⟩ := h; rfl) | (obtain ⟨_, _, _, _, _, rfl, _⟩ := h; rfl) | (obtain ⟨_, _, _, _, _, _, rfl, _⟩ := h; rfl) | (obtain ⟨_, _, _, _, _, _, _, rfl, _⟩ := h; rfl) | (obtain ⟨_, _, _, _, _, _, _, _, rfl, _⟩ := h; rfl) | (obtain ⟨_, _, _, _, _, _, _, _, _, rfl, _⟩ := h; rfl) | (obtain ⟨rfl, _⟩ := h; rfl)) fun f cdv A outer s H E hr as Q qs hF hq => ?_
  obtain ⟨us, rfl, hl, b, hQ⟩ := hF
  obtain rfl : qs = [] := List.length_eq_zero_iff.mp hq
  refine ⟨_, (pss_cons (ps_if (pt_cmpR op_eq (pe_callB (r := Pl.rLen K) call_len rfl (c.fr _ (.tail _ (.tail _ (.tail _ (.head _))))) PySem.boot_len (pa_cons (pv 0) pa_nil)) pe_int (nomark _)) (pss_one (ps_ret (pe_fVX0 h_both (hr.mono (by omega)) rfl))) pss_nil)
    (pss_cons (ps_if (pt_cmpR op_eq (pe_callB (r := Pl.rLen K) call_len rfl (c.fr _ (.tail _ (.tail _ (.tail _ (.head _))))) PySem.boot_len (pa_cons (pv 0) pa_nil)) pe_int (nomark _)) (pss_one (ps_ret (pe_fVX h_both (hr.mono (by omega)) rfl (pa_cons (pe_ix (r := rIxL K) ix_list (pv 0) pe_int (fun _ _ => rfl)) pa_nil)))) pss_nil)
    (pss_cons (ps_if (pt_cmpR op_eq (pe_callB (r := Pl.rLen K) call_len rfl (c.fr _ (.tail _ (.tail _ (.tail _ (.head _))))) PySem.boot_len (pa_cons (pv 0) pa_nil)) pe_int (nomark _)) (pss_one (ps_ret (pe_fVX h_both (hr.mono (by omega)) rfl (pa_cons (pe_ix (r := rIxL K) ix_list (pv 0) pe_int (fun _ _ => rfl)) (pa_cons (pe_ix (r := rIxL K) ix_list (pv 0) pe_int (fun _ _ => rfl)) pa_nil))))) pss_nil)
    (pss_cons (ps_if (pt_cmpR op_eq (pe_callB (r := Pl.rLen K) call_len rfl (c.fr _ (.tail _ (.tail _ (.tail _ (.head _))))) PySem.boot_len (pa_cons (pv 0) pa_nil)) pe_int (nomark _)) (pss_one (ps_ret (pe_fVX h_both (hr.mono (by omega)) rfl (pa_cons (pe_ix (r := rIxL K) ix_list (pv 0) pe_int (fun _ _ => rfl)) (pa_cons (pe_ix (r := rIxL K) ix_list (pv 0) pe_int (fun _ _ => rfl)) (pa_cons (pe_ix (r := rIxL K) ix_list (pv 0) pe_int (fun _ _ => rfl)) pa_nil)))))) pss_nil)
    (pss_cons (ps_if (pt_cmpR op_eq (pe_callB (r := Pl.rLen K) call_len rfl (c.fr _ (.tail _ (.tail _ (.tail _ (.head _))))) PySem.boot_len (pa_cons (pv 0) pa_nil)) pe_int (nomark _)) (pss_one (ps_ret (pe_fVX h_both (hr.mono (by omega)) rfl (pa_cons (pe_ix (r := rIxL K) ix_list (pv 0) pe_int (fun _ _ => rfl)) (pa_cons (pe_ix (r := rIxL K) ix_list (pv 0) pe_int (fun _ _ => rfl)) (pa_cons (pe_ix (r := rIxL K) ix_list (pv 0) pe_int (fun _ _ => rfl)) (pa_cons (pe_ix (r := rIxL K) ix_list (pv 0) pe_int (fun _ _ => rfl)) pa_nil))))))) pss_nil)
    (pss_cons (ps_if (pt_cmpR op_eq (pe_callB (r := Pl.rLen K) call_len rfl (c.fr _ (.tail _ (.tail _ (.tail _ (.head _))))) PySem.boot_len (pa_cons (pv 0) pa_nil)) pe_int (nomark _)) (pss_one (ps_ret (pe_fVX h_both (hr.mono (by omega)) rfl (pa_cons (pe_ix (r := rIxL K) ix_list (pv 0) pe_int (fun _ _ => rfl)) (pa_cons (pe_ix (r := rIxL K) ix_list (pv 0) pe_int (fun _ _ => rfl)) (pa_cons (pe_ix (r := rIxL K) ix_list (pv 0) pe_int (fun _ _ => rfl)) (pa_cons (pe_ix (r := rIxL K) ix_list (pv 0) pe_int (fun _ _ => rfl)) (pa_cons (pe_ix (r := rIxL K) ix_list (pv 0) pe_int (fun _ _ => rfl)) pa_nil)))))))) pss_nil)
    (pss_one (ps_ret (pe_fVX h_both (hr.mono (by omega)) rfl (pa_cons (pe_ix (r := rIxL K) ix_list (pv 0) pe_int (fun _ _ => rfl)) (pa_cons (pe_ix (r := rIxL K) ix_list (pv 0) pe_int (fun _ _ => rfl)) (pa_cons (pe_ix (r := rIxL K) ix_list (pv 0) pe_int (fun _ _ => rfl)) (pa_cons (pe_ix (r := rIxL K) ix_list (pv 0) pe_int (fun _ _ => rfl)) (pa_cons (pe_ix (r := rIxL K) ix_list (pv 0) pe_int (fun _ _ => rfl)) (pa_cons (pe_ix (r := rIxL K) ix_list (pv 0) pe_int (fun _ _ => rfl)) pa_nil))))))))))))))), ?_⟩
  show Ss K T _ [.val _] _
  match us, hl, b, hQ with
  | [], hl, b, hQ =>
    k_search "go"
    refine .inl ⟨[], rfl, b, rim (Tm.imm_d _), ?_⟩
    k_search "go"
    exact hQ
  | [x1], hl, b, hQ =>
    k_search "go"
    refine .inl ⟨[x1], rfl, b, rim (Tm.imm_d _), ?_⟩
    k_search "go"
    exact hQ
  | [x1, x2], hl, b, hQ =>
    k_search "go"
    refine .inl ⟨[x1, x2], rfl, b, rim (Tm.imm_d _), ?_⟩
    k_search "go"
    exact hQ
  | [x1, x2, x3], hl, b, hQ =>
    k_search "go"
    refine .inl ⟨[x1, x2, x3], rfl, b, rim (Tm.imm_d _), ?_⟩
    k_search "go"
    exact hQ
  | [x1, x2, x3, x4], hl, b, hQ =>
    k_search "go"
    refine .inl ⟨[x1, x2, x3, x4], rfl, b, rim (Tm.imm_d _), ?_⟩
    k_search "go"
    exact hQ
  | [x1, x2, x3, x4, x5], hl, b, hQ =>
    k_search "go"
    refine .inl ⟨[x1, x2, x3, x4, x5], rfl, b, rim (Tm.imm_d _), ?_⟩
    k_search "go"
    exact hQ
  | [x1, x2, x3, x4, x5, x6], hl, b, hQ =>
    k_search "go"
    refine .inl ⟨[x1, x2, x3, x4, x5, x6], rfl, b, rim (Tm.imm_d _), ?_⟩
    k_search "go"
    exact hQ
  | _ :: _ :: _ :: _ :: _ :: _ :: _ :: _, hl, _, _ => exact absurd hl (by simp)
def F_ask (K : PySem.W.Frag) : FSX := fun as Q QX => ∃ (i : Nat) (d : D) (g : Tm), as = [.val (.int i), .val d, .val g.d] ∧ i < 10 ∧ Od d ∧ termB d = false ∧ Tb 22 g ∧ QX (ITm K) []
theorem ok_ask (c : Al K mg base ds fr ts cs) (n1 n2 n3 n4 n5 n6 n7 : Nat) (h_normal : OkXF P w K mg base T n1 "normal" ["term"] (F_t K 22 fun t => .val t.nf.d)) (h_conjuncts : OkXF P w K mg base T n2 "conjuncts" ["term"] (F_t K 22 fun t => .new (.lst (t.nf.raw.map Tm.d))))
    (h_both : OkVXF P w K mg base T n3 "both" 6 (F_bothX K 22)) (h_size_of : OkXF P w K mg base T n4 "size_of" ["term"] (F_t K 22 fun t => .val (.int t.nf.sz))) (h_depth_of : OkXF P w K mg base T n5 "depth_of" ["term"] (F_t K 22 fun t => .val (.int t.nf.dp)))
    (h_words : OkXF P w K mg base T n6 "words" ["term"] (F_t K 22 fun t => .val (wordsD t))) (h_is_over : OkXF P w K mg base T n7 "is_over" ["term", "names"] (F_over K 22)) :
    OkXF P w K mg base T (max n1 (max n2 (max n3 (max n4 (max n5 (max n6 n7))))) + 1) "_law_ask" ["way", "value", "good"] (F_ask K) := by
  have nd := sc__law_ask.nd
  have kTOP := c.cs _ (.head _)
  have kBOTTOM := c.cs _ (.tail _ (.head _))
  have kRESERVED := c.cs _ (.tail _ (.tail _ (.tail _ (.tail _ (.tail _ (.head _))))))
  refine ok_ofX c (.tail _ (.tail _ (.tail _ (.tail _ (.tail _ (.tail _ (.tail _ (.tail _ (.tail _ (.tail _ (.tail _ (.tail _ (.tail _ (.tail _ (.tail _ (.tail _ (.tail _ (.tail _ (.tail _ (.tail _ (.tail _ (.tail _ (.tail _ (.tail _ (.tail _ (.tail _ (.tail _ (.tail _ (.tail _ (.tail _ (.tail _ (.tail _ (.tail _ (.tail _ (.tail _ (.tail _ (.tail _ (.tail _ (.tail _ (.tail _ (.tail _ (.tail _ (.tail _ (.tail _ (.tail _ (.tail _ (.tail _ (.tail _ (.tail _ (.head _)))))))))))))))))))))))))))))))))))))))))))))))))) (fun _ _ _ _ _ _ us hl => match us, hl with | [_, _, _], _ => rfl) sc__law_ask (fun as Q X h => by first | (rcases h with ⟨_, rfl, _⟩ | ⟨_, rfl, _⟩ <;> rfl) | (rcases h with ⟨_, _, rfl, _⟩ | ⟨_, _, rfl, _⟩ <;> rfl) | (rcases h with ⟨_, _, rfl, _⟩ | ⟨_, _, rfl, _⟩ | ⟨_, _, rfl, _⟩ <;> rfl) | (obtain ⟨_, rfl, _⟩ := h; rfl) | (obtain ⟨_, _, rfl, _⟩ := h; rfl) | (obtain ⟨_, _, _, rfl, _⟩ := h; rfl) | (obtain ⟨_, _, _, _, rfl, _⟩ := h; rfl) | (obtain ⟨_, _, _, _, _, rfl, _⟩ := h; rfl)) fun f cdv A outer s H E hr as Q QX qs hF hq => ?_
  obtain ⟨i, d, g, rfl, hi, o, ht, b, hX⟩ := hF
  obtain rfl : qs = [] := List.length_eq_zero_iff.mp hq
  refine ⟨_, fun W tk => (pss_cons (ps_if (pt_cmpR op_eq (pv 0) pe_int (nomark _)) (pss_one (ps_ret (pe_fxS h_normal tk (hr.mono (by omega)) rfl (pa_cons (pv 1) pa_nil)))) pss_nil)
    (pss_cons (ps_if (pt_cmpR op_eq (pv 0) pe_int (nomark _)) (pss_one (ps_ret (pe_fxS h_conjuncts tk (hr.mono (by omega)) rfl (pa_cons (pv 1) pa_nil)))) pss_nil)
    (pss_cons (ps_if (pt_cmpR op_eq (pv 0) pe_int (nomark _)) (pss_one (ps_ret (pe_fVXS h_both tk (hr.mono (by omega)) rfl (pa_cons (pv 1) pa_nil)))) pss_nil)
    (pss_cons (ps_if (pt_cmpR op_eq (pv 0) pe_int (nomark _)) (pss_one (ps_ret (pe_fVXS h_both tk (hr.mono (by omega)) rfl (pa_cons (pv 2) (pa_cons (pv 1) pa_nil))))) pss_nil)
    (pss_cons (ps_if (pt_cmpR op_eq (pv 0) pe_int (nomark _)) (pss_one (ps_ret (pe_fVXS h_both tk (hr.mono (by omega)) rfl (pa_cons (pv 1) (pa_cons (pv 2) (pa_cons (pv 2) pa_nil)))))) pss_nil)
    (pss_cons (ps_if (pt_cmpR op_eq (pv 0) pe_int (nomark _)) (pss_one (ps_ret (pe_fxS h_size_of tk (hr.mono (by omega)) rfl (pa_cons (pv 1) pa_nil)))) pss_nil)
    (pss_cons (ps_if (pt_cmpR op_eq (pv 0) pe_int (nomark _)) (pss_one (ps_ret (pe_fxS h_depth_of tk (hr.mono (by omega)) rfl (pa_cons (pv 1) pa_nil)))) pss_nil)
    (pss_cons (ps_if (pt_cmpR op_eq (pv 0) pe_int (nomark _)) (pss_one (ps_ret (pe_fxS h_words tk (hr.mono (by omega)) rfl (pa_cons (pv 1) pa_nil)))) pss_nil)
    (pss_cons (ps_if (pt_cmpR op_eq (pv 0) pe_int (nomark _)) (pss_one (ps_ret (pe_fxS h_is_over tk (hr.mono (by omega)) rfl (pa_cons (pv 1) (pa_cons (pe_lst (pa_cons pe_str pa_nil)) pa_nil))))) pss_nil)
    (pss_one (ps_ret (pe_fxS h_is_over tk (hr.mono (by omega)) rfl (pa_cons (pv 1) (pa_cons (pe_lst (pa_cons pe_str (pa_cons pe_str pa_nil))) pa_nil)))))))))))))), ?_⟩
  show SsX K T _ [.val _, .val _, .val _] _ _
  have hb : ∀ us : List D, (∀ u ∈ us, u = d ∨ u = g.d) → ∀ u ∈ us, Od u := fun us h u m => (h u m).elim (fun e => e ▸ o) (fun e => e ▸ tb_od b)
  match i, hi with
  | 0, _ => k_search "go"; exact xv [.val _] ⟨rfl, trivial⟩ (.inr ⟨d, rfl, o, ht, [], rfl, hX⟩)
  | 1, _ => k_search "go"; exact xv [.val _] ⟨rfl, trivial⟩ (.inr ⟨d, rfl, o, ht, [], rfl, hX⟩)
  | 2, _ => k_search "go"; exact ⟨[d], ⟨rfl, trivial⟩, by simp, .inr ⟨_, rfl, hb _ (by simp), ⟨d, by simp, ht⟩, [], rfl, hX⟩⟩
  | 3, _ => k_search "go"; exact ⟨[g.d, d], ⟨rfl, rfl, trivial⟩, by simp, .inr ⟨_, rfl, hb _ (by simp), ⟨d, by simp, ht⟩, [], rfl, hX⟩⟩
  | 4, _ => k_search "go"; exact ⟨[d, g.d, g.d], ⟨rfl, rfl, rfl, trivial⟩, by simp, .inr ⟨_, rfl, hb _ (by simp), ⟨d, by simp, ht⟩, [], rfl, hX⟩⟩
  | 5, _ => k_search "go"; exact xv [.val _] ⟨rfl, trivial⟩ (.inr ⟨d, rfl, o, ht, [], rfl, hX⟩)
  | 6, _ => k_search "go"; exact xv [.val _] ⟨rfl, trivial⟩ (.inr ⟨d, rfl, o, ht, [], rfl, hX⟩)
  | 7, _ => k_search "go"; exact xv [.val _] ⟨rfl, trivial⟩ (.inr ⟨d, rfl, o, ht, [], rfl, hX⟩)
  | 8, _ => k_search "go"; exact xv [.val _, .val _] ⟨rfl, rfl, trivial⟩ (.inr ⟨d, _, rfl, o, ht, [], rfl, hX⟩)
  | 9, _ => k_search "go"; exact xv [.val _, .val _] ⟨rfl, rfl, trivial⟩ (.inr ⟨d, _, rfl, o, ht, [], rfl, hX⟩)
def F_refused (K : PySem.W.Frag) : FS := fun as Q => ∃ (i : Nat) (d : D) (g : Tm), as = [.val (.int i), .val d, .val g.d] ∧ i < 10 ∧ Od d ∧ termB d = false ∧ Tb 22 g ∧ Q (.val (.bool true)) []
theorem ok_refused (c : Al K mg base ds fr ts cs) (n : Nat) (h__law_ask : OkXF P w K mg base T n "_law_ask" ["way", "value", "good"] (F_ask K)) : OkF P w K mg base T (n + 1) "_law_refused" ["way", "value", "good"] (F_refused K) := by
  have nd := sc__law_refused.nd
  have kTOP := c.cs _ (.head _)
  have kBOTTOM := c.cs _ (.tail _ (.head _))
  have kRESERVED := c.cs _ (.tail _ (.tail _ (.tail _ (.tail _ (.tail _ (.head _))))))
  refine ok_of c (.tail _ (.tail _ (.tail _ (.tail _ (.tail _ (.tail _ (.tail _ (.tail _ (.tail _ (.tail _ (.tail _ (.tail _ (.tail _ (.tail _ (.tail _ (.tail _ (.tail _ (.tail _ (.tail _ (.tail _ (.tail _ (.tail _ (.tail _ (.tail _ (.tail _ (.tail _ (.tail _ (.tail _ (.tail _ (.tail _ (.tail _ (.tail _ (.tail _ (.tail _ (.tail _ (.tail _ (.tail _ (.tail _ (.tail _ (.tail _ (.tail _ (.tail _ (.tail _ (.tail _ (.tail _ (.tail _ (.tail _ (.tail _ (.tail _ (.tail _ (.head _))))))))))))))))))))))))))))))))))))))))))))))))))) (fun _ _ _ _ _ _ us hl => match us, hl with | [_, _, _], _ => rfl) sc__law_refused (fun as Q h => by first | (obtain ⟨_, rfl, _⟩ := h; rfl) | (obtain ⟨_, _, rfl, _⟩ := h; rfl) | (obtain ⟨_, _, _, rfl, _⟩ := h; rfl) | (obtain ⟨_, _, _, _, rfl, _⟩ := h; rfl) | (obtain ⟨_, _, _, _, _, rfl, _⟩ := h; rfl) | (obtain ⟨_, _, _, _, _, _, rfl, _⟩ := h; rfl) | (obtain ⟨_, _, _, _, _, _, _, rfl, _⟩ := h; rfl) | (obtain ⟨_, _, _, _, _, _, _, _, rfl, _⟩ := h; rfl) | (obtain ⟨_, _, _, _, _, _, _, _, _, rfl, _⟩ := h; rfl) | (obtain ⟨rfl, _⟩ := h; rfl)) fun f cdv A outer s H E hr as Q qs hF hq => ?_
  obtain ⟨i, d, g, rfl, hi, o, ht, b, hQ⟩ := hF
  obtain rfl : qs = [] := List.length_eq_zero_iff.mp hq
  refine ⟨_, (pss_cons (ps_try_m rfl rfl L2.takes0 (fun W pn xe tk pon => (pss_one (ps_expr (pe_fxS h__law_ask tk (hr.mono (by omega)) rfl (pa_cons (pv 0) (pa_cons (pv 1) (pa_cons (pv 2) pa_nil))))))) (HdsM.consA (i := 3) nd rfl rfl (names_of (c.cs _ (.tail _ (.tail _ (.tail _ (.tail _ (.tail _ (.tail _ (.tail _ (.head _))))))))) rfl) (fun a oe cls d pn hz hf => (pss_one (ps_ret (pe_and (pe_callB (r := rIsG K a cls d) (call_isG hz hf) rfl (c.fr _ (.tail _ (.head _))) PyProof.Rows.boot_isinstance (pa_cons (pv 3) (pa_cons (pe_glob (v := .ref (He.ga K "NotionError")) rfl (c.cs _ (.tail _ (.tail _ (.tail _ (.tail _ (.tail _ (.tail _ (.head _)))))))).1 rfl) pa_nil))) (pe_and (pe_callB (r := rIsG K a cls d) (call_isG hz hf) rfl (c.fr _ (.tail _ (.head _))) PyProof.Rows.boot_isinstance (pa_cons (pv 3) (pa_cons (pe_bltn (v := .ty "ValueError") rfl (c.fr _ (.tail _ (.tail _ (.tail _ (.tail _ (.tail _ (.tail _ (.tail _ (.tail _ (.tail _ (.tail _ (.tail _ (.tail _ (.tail _ (.tail _ (.head _)))))))))))))))) (by decide +kernel) rfl) pa_nil))) (pe_one (pe_not (pe_callB (r := rIsG K a cls d) (call_isG hz hf) rfl (c.fr _ (.tail _ (.head _))) PyProof.Rows.boot_isinstance (pa_cons (pv 3) (pa_cons (pe_glob (v := .ref (He.ga K "InvalidName")) rfl (c.cs _ (.tail _ (.tail _ (.tail _ (.tail _ (.tail _ (.tail _ (.tail _ (.tail _ (.head _)))))))))).1 rfl) pa_nil)))))))))) (HdsM.cons (names_of (c.cs _ (.tail _ (.tail _ (.tail _ (.tail _ (.tail _ (.tail _ (.head _)))))))) rfl) (fun a oe cls d pn hz hf => (pss_one (ps_ret pe_bl))) HdsM.nil)))
    (pss_one (ps_ret pe_bl))), ?_⟩
  show Ss K T _ [.val _, .val _, .val _, .no] _
  refine go_seq (go_try ?_)
  k_search "go"
  refine xv [.val _, .val _, .val _] ⟨rfl, rfl, rfl, trivial⟩ ⟨i, d, g, rfl, hi, o, ht, b, ?_⟩
  refine ⟨true, (cs_IT_IT c).1, ?_⟩
  rw [if_pos rfl]
  refine ⟨by simp, fun a => ?_⟩
  k_search "nrm"
  refine go_ret (ex_andV (ex_isE rfl (cs_IT c).2.2 (cs_IT_NE c).2 ⟨true, rfl, iteT rfl (ex_andV (ex_isET rfl (cs_IT c).2.2 (cs_IT_VE c) ⟨true, rfl, iteT rfl (ex_notV (ex_isE rfl (cs_IT c).2.2 (cs_IT_IN c).2 ⟨false, rfl, ?_⟩))⟩))⟩))
  exact ⟨[], _, rfl, rfl, hQ⟩
def F_lrefused : FS := fun as Q => ∃ (t : Tm) (e : D), as = [.val t.d, .val e] ∧ Tb 22 t ∧ okO e = true ∧ namesB e = none ∧ Q (.val (.bool true)) []
theorem ok_lrefused (c : Al K mg base ds fr ts cs) (n : Nat) (h_is_over : OkXF P w K mg base T n "is_over" ["term", "names"] (F_over K 22)) : OkF P w K mg base T (n + 1) "_law_list_refused" ["term", "value"] F_lrefused := by
  have nd := sc__law_list_refused.nd
  have kTOP := c.cs _ (.head _)
  have kBOTTOM := c.cs _ (.tail _ (.head _))
  have kRESERVED := c.cs _ (.tail _ (.tail _ (.tail _ (.tail _ (.tail _ (.head _))))))
  refine ok_of c (.tail _ (.tail _ (.tail _ (.tail _ (.tail _ (.tail _ (.tail _ (.tail _ (.tail _ (.tail _ (.tail _ (.tail _ (.tail _ (.tail _ (.tail _ (.tail _ (.tail _ (.tail _ (.tail _ (.tail _ (.tail _ (.tail _ (.tail _ (.tail _ (.tail _ (.tail _ (.tail _ (.tail _ (.tail _ (.tail _ (.tail _ (.tail _ (.tail _ (.tail _ (.tail _ (.tail _ (.tail _ (.tail _ (.tail _ (.tail _ (.tail _ (.tail _ (.tail _ (.tail _ (.tail _ (.tail _ (.tail _ (.tail _ (.tail _ (.tail _ (.tail _ (.head _)))))))))))))))))))))))))))))))))))))))))))))))))))) (fun _ _ _ _ _ _ us hl => match us, hl with | [_, _], _ => rfl) sc__law_list_refused (fun as Q h => by first | (obtain ⟨_, rfl, _⟩ := h; rfl) | (obtain ⟨_, _, rfl, _⟩ := h; rfl) | (obtain ⟨_, _, _, rfl, _⟩ := h; rfl) | (obtain ⟨_, _, _, _, rfl, _⟩ := h; rfl) | (obtain ⟨_, _, _, _, _, rfl, _⟩ := h; rfl) | (obtain ⟨_, _, _, _, _, _, rfl, _⟩ := h; rfl) | (obtain ⟨_, _, _, _, _, _, _, rfl, _⟩ := h; rfl) | (obtain ⟨_, _, _, _, _, _, _, _, rfl, _⟩ := h; rfl) | (obtain ⟨_, _, _, _, _, _, _, _, _, rfl, _⟩ := h; rfl) | (obtain ⟨rfl, _⟩ := h; rfl)) fun f cdv A outer s H E hr as Q qs hF hq => ?_
  obtain ⟨t, e, rfl, b, o, hn, hQ⟩ := hF
  obtain rfl : qs = [] := List.length_eq_zero_iff.mp hq
  refine ⟨_, (pss_cons (ps_try_m rfl rfl L2.takes0 (fun W pn xe tk pon => (pss_one (ps_expr (pe_fxS h_is_over tk (hr.mono (by omega)) rfl (pa_cons (pv 0) (pa_cons (pv 1) pa_nil)))))) (HdsM.consA (i := 2) nd rfl rfl (names_of (c.cs _ (.tail _ (.tail _ (.tail _ (.tail _ (.tail _ (.tail _ (.tail _ (.tail _ (.head _)))))))))) rfl) (fun a oe cls d pn hz hf => (pss_cons (ps_if (PW.pt (pw_or (pt_val (pe_callB (r := rIsG K a cls d) (call_isG hz hf) rfl (c.fr _ (.tail _ (.head _))) PyProof.Rows.boot_isinstance (pa_cons (pv 2) (pa_cons (pe_glob (v := .ref (He.ga K "InvalidTerm")) rfl (c.cs _ (.tail _ (.tail _ (.tail _ (.tail _ (.tail _ (.tail _ (.tail _ (.head _))))))))).1 rfl) pa_nil)))) (pw_or1 (pt_val (pe_callB (r := rIsG K a cls d) (call_isG hz hf) rfl (c.fr _ (.tail _ (.head _))) PyProof.Rows.boot_isinstance (pa_cons (pv 2) (pa_cons (pe_glob (v := .ref (He.ga K "InvalidNumber")) rfl (c.cs _ (.tail _ (.tail _ (.tail _ (.tail _ (.tail _ (.tail _ (.tail _ (.tail _ (.tail _ (.head _))))))))))).1 rfl) pa_nil))))))) (pss_one (ps_ret pe_bl)) pss_nil)
    (pss_one (ps_ret (pe_and (pe_callB (r := rIsG K a cls d) (call_isG hz hf) rfl (c.fr _ (.tail _ (.head _))) PyProof.Rows.boot_isinstance (pa_cons (pv 2) (pa_cons (pe_glob (v := .ref (He.ga K "NotionError")) rfl (c.cs _ (.tail _ (.tail _ (.tail _ (.tail _ (.tail _ (.tail _ (.head _)))))))).1 rfl) pa_nil))) (pe_one (pe_callB (r := rIsG K a cls d) (call_isG hz hf) rfl (c.fr _ (.tail _ (.head _))) PyProof.Rows.boot_isinstance (pa_cons (pv 2) (pa_cons (pe_bltn (v := .ty "ValueError") rfl (c.fr _ (.tail _ (.tail _ (.tail _ (.tail _ (.tail _ (.tail _ (.tail _ (.tail _ (.tail _ (.tail _ (.tail _ (.tail _ (.tail _ (.tail _ (.head _)))))))))))))))) (by decide +kernel) rfl) pa_nil))))))))) (HdsM.cons (names_of (c.cs _ (.tail _ (.tail _ (.tail _ (.tail _ (.tail _ (.tail _ (.head _)))))))) rfl) (fun a oe cls d pn hz hf => (pss_one (ps_ret pe_bl))) HdsM.nil)))
    (pss_one (ps_ret pe_bl))), ?_⟩
  show Ss K T _ [.val _, .val _, .no] _
  refine go_seq (go_try ?_)
  k_search "go"
  refine xv [.val _, .val _] ⟨rfl, rfl, trivial⟩ (.inl ⟨t, e, rfl, b, o, ?_⟩)
  rw [hn]
  refine ⟨true, (cs_IN_IN c).1, ?_⟩
  rw [if_pos rfl]
  refine ⟨by simp, fun a => ?_⟩
  k_search "nrm"
  refine go_seq (go_if (et_or (et_B (ex_isE rfl (cs_IN c).2.2 (cs_IN_IT c).2 ⟨false, rfl, iteF Bool.false_ne_true (et_B (ex_isE rfl (cs_IN c).2.2 (cs_IN_IK c).2 ⟨false, rfl, iteF Bool.false_ne_true (go_next ?_)⟩))⟩))))
  refine go_ret (ex_andV (ex_isE rfl (cs_IN c).2.2 (cs_IN_NE c).2 ⟨true, rfl, iteT rfl (ex_isET rfl (cs_IN c).2.2 (cs_IN_VE c) ?_)⟩))
  exact ⟨[], _, rfl, rfl, hQ⟩
set_option Elab.async false
set_option linter.all false
set_option maxRecDepth 100000
set_option maxHeartbeats 4000001
open PySem L2 LamX NdefX PyProof.Rows GenW Pl
mutual
/-- a hole stands as a dict -/
def okP : D → Bool
  | .str x => PyData.strOk x && decide (x.length ≤ 100000)
  | .list ds => decide (ds.length ≤ 1000) && okPs ds
  | .tuple ds => decide (ds.length ≤ 1000) && okPs ds
  | _ => true
def okPs : List D → Bool
  | [] => true
  | d :: ds => okP d && okPs ds
end
mutual
def hol : D → Nat
  | .list ds => hols ds
  | .tuple ds => hols ds
  | .dict _ => 1
  | _ => 0
def hols : List D → Nat
  | [] => 0
  | d :: ds => hol d + hols ds
end
mutual
def fill (e : D) : D → D
  | .list ds => .list (fills e ds)
  | .tuple ds => .tuple (fills e ds)
  | .dict _ => e
  | .none => .none
  | .bool b => .bool b
  | .int i => .int i
  | .str s => .str s
def fills (e : D) : List D → List D
  | [] => []
  | d :: ds => fill e d :: fills e ds
end
theorem fills_len (e : D) : ∀ ds, (fills e ds).length = ds.length
  | [] => rfl
  | d :: ds => by rw [fills, List.length_cons, fills_len e ds, List.length_cons]
mutual
theorem ok_fill {e : D} (he : okO e = true) : ∀ p : D, okP p = true → okO (fill e p) = true
  | .none, _ => rfl
  | .bool _, _ => rfl
  | .int _, _ => rfl
  | .str x, h => h
  | .dict _, _ => he
  | .list ds, h => by
    simp only [okP, Bool.and_eq_true, decide_eq_true_eq] at h
    simp only [fill, okO, Bool.and_eq_true, decide_eq_true_eq, fills_len]
    exact ⟨h.1, ok_fills he ds h.2⟩
  | .tuple ds, h => by
    simp only [okP, Bool.and_eq_true, decide_eq_true_eq] at h
    simp only [fill, okO, Bool.and_eq_true, decide_eq_true_eq, fills_len]
    exact ⟨h.1, ok_fills he ds h.2⟩
theorem ok_fills {e : D} (he : okO e = true) : ∀ ps : List D, okPs ps = true → okOs (fills e ps) = true
  | [], _ => rfl
  | p :: ps, h => by
    simp only [okPs, Bool.and_eq_true] at h
    simp only [fills, okOs, Bool.and_eq_true]
    exact ⟨ok_fill he p h.1, ok_fills he ps h.2⟩
end
mutual
theorem dep_fill {e : D} : ∀ p : D, (fill e p).depth ≤ p.depth + e.depth
  | .none => Nat.zero_le _
  | .bool _ => Nat.zero_le _
  | .int _ => Nat.zero_le _
  | .str x => Nat.zero_le _
  | .dict _ => Nat.le_add_left _ _
  | .list ds => by
    have := dep_fills (e := e) ds
    show PyData.depthAll (fills e ds) + 1 ≤ PyData.depthAll ds + 1 + e.depth
    omega
  | .tuple ds => by
    have := dep_fills (e := e) ds
    show PyData.depthAll (fills e ds) + 1 ≤ PyData.depthAll ds + 1 + e.depth
    omega
theorem dep_fills {e : D} : ∀ ps : List D, PyData.depthAll (fills e ps) ≤ PyData.depthAll ps + e.depth
  | [] => Nat.zero_le _
  | p :: ps => by
    have h1 := dep_fill (e := e) p
    have h2 := dep_fills (e := e) ps
    show max (fill e p).depth (PyData.depthAll (fills e ps)) ≤ max p.depth (PyData.depthAll ps) + e.depth
    omega
end
mutual
theorem nod_fill {e : D} : ∀ p : D, nod (fill e p) ≤ nod p + hol p * nod e
  | .none => Nat.le_add_right _ _
  | .bool _ => Nat.le_add_right _ _
  | .int _ => Nat.le_add_right _ _
  | .str x => Nat.le_add_right _ _
  | .dict _ => by show nod e ≤ 1 + 1 * nod e; omega
  | .list ds => by
    have := nod_fills (e := e) ds
    show nods (fills e ds) + 1 ≤ nods ds + 1 + hols ds * nod e
    omega
  | .tuple ds => by
    have := nod_fills (e := e) ds
    show nods (fills e ds) + 1 ≤ nods ds + 1 + hols ds * nod e
    omega
theorem nod_fills {e : D} : ∀ ps : List D, nods (fills e ps) ≤ nods ps + hols ps * nod e
  | [] => Nat.zero_le _
  | p :: ps => by
    have h1 := nod_fill (e := e) p
    have h2 := nod_fills (e := e) ps
    show nod (fill e p) + nods (fills e ps) ≤ nod p + nods ps + (hol p + hols ps) * nod e
    rw [Nat.add_mul]
    omega
end
structure OU (us : List D) : Prop where
  ok : okO (.tuple us) = true
  im : immAll us = true
  ne : us ≠ []
  ln : us.length ≤ 10
structure GO (us : List D) (d : D) : Prop where
  ok : okO d = true
  dp : d.depth ≤ (PyData.tuple us).depth + 3
  nd : nod d ≤ 3 * nod (.tuple us) + 100
def patB (p : D) : Bool := okP p && (decide (p.depth ≤ 3) && (decide (nod p ≤ 50) && decide (hol p ≤ 2)))
theorem g_fill {us : List D} (p : D) (h : patB p = true) (ho : OU us) : GO us (fill (.tuple us) p) := by
  unfold patB at h
  simp only [Bool.and_eq_true, decide_eq_true_eq] at h
  obtain ⟨h1, h2, h3, h4⟩ := h
  have z1 := dep_fill (e := .tuple us) p
  have z2 := nod_fill (e := .tuple us) p
  have z3 : hol p * nod (.tuple us) ≤ 2 * nod (.tuple us) := Nat.mul_le_mul_right _ h4
  exact ⟨ok_fill ho.ok p h1, by omega, by omega⟩
def oddMenu (us : List D) (x : Str) : List D := [.list us, .tuple (us ++ [.tuple [.str "top"]]), .tuple (Pl.cutD us Option.none (Option.some (-1))), .none, .int 7, .bool true, .str "top", .str "a", .tuple [], .list [], .tuple [.str "Top"], .tuple [.str "top", .str "top"], .tuple [.str "name", .str x], .tuple [.str "name", .str (repS "b" 13)], .tuple [.str "name", .str ""], .tuple [.str "name", .str "1a"], .tuple [.str "name", .str "aB"], .tuple [.str "name", .none], .tuple [.str "name", .list [.str "a"]], .tuple [.str "name", .tuple [.str "a"]], .tuple [.str "name", .str "a\n"], .tuple [.str "name", .str "a b"], .tuple [.str "name", .str "a", .str "b"], .tuple [.str "name", .int 0], .tuple [.str "and", .list [.tuple us]], .tuple [.str "and", .tuple us], .tuple [.str "and", .str "ab"], .tuple [.str "and", .str ""], .tuple [.str "and", .list []], .tuple [.str "and", .none], .tuple [.str "and"], .tuple [.str "and", .tuple [], .tuple []], .tuple [.str "some", .str x, .tuple us], .tuple [.str "some", .str "r", .str "a"], .tuple [.str "some", .str "r", .list [.str "top"]], .tuple [.str "some", .str "r"], .tuple [.str "some", .tuple [.str "name", .str "r"], .tuple us], .tuple [.str "some", .str "R", .tuple us], .tuple [.str "some", .str "", .tuple us], .tuple [.str "or", .tuple []], .tuple [.str "some", .int 1, .tuple us], .tuple [.str "some", .str "r", .none], .tuple [.str "some", .list [.str "r"], .tuple us], .tuple [.str "some", .str "r", .tuple us, .tuple us], .tuple [.list [.str "name"], .str "a"], .tuple [.tuple [.str "top"]], .tuple [.str "bottom", .tuple []], .tuple [.str "some", .str (repS "c" 13), .tuple us], .tuple [.str "some", .str "r_", .tuple us], .tuple [.str "sub", .tuple us, .tuple us], .tuple [.tuple [.str "and"], .tuple []], .tuple [.str "top", .none]]
theorem odd_ok {us : List D} {x : Str} (ho : OU us) (h0 : GO us (.list us)) (h1 : GO us (.tuple (us ++ [.tuple [.str "top"]]))) (h2 : GO us (.tuple (Pl.cutD us none (some (-1))))) (hn : GO us (.tuple [.str "name", .str x])) (hs : GO us (.tuple [.str "some", .str x, .tuple us])) : ∀ d ∈ oddMenu us x, GO us d :=
  List.forall_mem_cons.mpr ⟨h0,
  List.forall_mem_cons.mpr ⟨h1,
  List.forall_mem_cons.mpr ⟨h2,
  List.forall_mem_cons.mpr ⟨(g_fill (us := us) (.none) (by decide +kernel) ho : GO us (.none)),
  List.forall_mem_cons.mpr ⟨(g_fill (us := us) (.int 7) (by decide +kernel) ho : GO us (.int 7)),
  List.forall_mem_cons.mpr ⟨(g_fill (us := us) (.bool true) (by decide +kernel) ho : GO us (.bool true)),
  List.forall_mem_cons.mpr ⟨(g_fill (us := us) (.str "top") (by decide +kernel) ho : GO us (.str "top")),
  List.forall_mem_cons.mpr ⟨(g_fill (us := us) (.str "a") (by decide +kernel) ho : GO us (.str "a")),
  List.forall_mem_cons.mpr ⟨(g_fill (us := us) (.tuple []) (by decide +kernel) ho : GO us (.tuple [])),
  List.forall_mem_cons.mpr ⟨(g_fill (us := us) (.list []) (by decide +kernel) ho : GO us (.list [])),
  List.forall_mem_cons.mpr ⟨(g_fill (us := us) (.tuple [.str "Top"]) (by decide +kernel) ho : GO us (.tuple [.str "Top"])),
  List.forall_mem_cons.mpr ⟨(g_fill (us := us) (.tuple [.str "top", .str "top"]) (by decide +kernel) ho : GO us (.tuple [.str "top", .str "top"])),
  List.forall_mem_cons.mpr ⟨hn,
  List.forall_mem_cons.mpr ⟨(g_fill (us := us) (.tuple [.str "name", .str (repS "b" 13)]) (by decide +kernel) ho : GO us (.tuple [.str "name", .str (repS "b" 13)])),
  List.forall_mem_cons.mpr ⟨(g_fill (us := us) (.tuple [.str "name", .str ""]) (by decide +kernel) ho : GO us (.tuple [.str "name", .str ""])),
  List.forall_mem_cons.mpr ⟨(g_fill (us := us) (.tuple [.str "name", .str "1a"]) (by decide +kernel) ho : GO us (.tuple [.str "name", .str "1a"])),
  List.forall_mem_cons.mpr ⟨(g_fill (us := us) (.tuple [.str "name", .str "aB"]) (by decide +kernel) ho : GO us (.tuple [.str "name", .str "aB"])),
  List.forall_mem_cons.mpr ⟨(g_fill (us := us) (.tuple [.str "name", .none]) (by decide +kernel) ho : GO us (.tuple [.str "name", .none])),
  List.forall_mem_cons.mpr ⟨(g_fill (us := us) (.tuple [.str "name", .list [.str "a"]]) (by decide +kernel) ho : GO us (.tuple [.str "name", .list [.str "a"]])),
  List.forall_mem_cons.mpr ⟨(g_fill (us := us) (.tuple [.str "name", .tuple [.str "a"]]) (by decide +kernel) ho : GO us (.tuple [.str "name", .tuple [.str "a"]])),
  List.forall_mem_cons.mpr ⟨(g_fill (us := us) (.tuple [.str "name", .str "a\n"]) (by decide +kernel) ho : GO us (.tuple [.str "name", .str "a\n"])),
  List.forall_mem_cons.mpr ⟨(g_fill (us := us) (.tuple [.str "name", .str "a b"]) (by decide +kernel) ho : GO us (.tuple [.str "name", .str "a b"])),
  List.forall_mem_cons.mpr ⟨(g_fill (us := us) (.tuple [.str "name", .str "a", .str "b"]) (by decide +kernel) ho : GO us (.tuple [.str "name", .str "a", .str "b"])),
  List.forall_mem_cons.mpr ⟨(g_fill (us := us) (.tuple [.str "name", .int 0]) (by decide +kernel) ho : GO us (.tuple [.str "name", .int 0])),
  List.forall_mem_cons.mpr ⟨(g_fill (us := us) (.tuple [.str "and", .list [.dict []]]) (by decide +kernel) ho : GO us (.tuple [.str "and", .list [.tuple us]])),
  List.forall_mem_cons.mpr ⟨(g_fill (us := us) (.tuple [.str "and", .dict []]) (by decide +kernel) ho : GO us (.tuple [.str "and", .tuple us])),
  List.forall_mem_cons.mpr ⟨(g_fill (us := us) (.tuple [.str "and", .str "ab"]) (by decide +kernel) ho : GO us (.tuple [.str "and", .str "ab"])),
  List.forall_mem_cons.mpr ⟨(g_fill (us := us) (.tuple [.str "and", .str ""]) (by decide +kernel) ho : GO us (.tuple [.str "and", .str ""])),
  List.forall_mem_cons.mpr ⟨(g_fill (us := us) (.tuple [.str "and", .list []]) (by decide +kernel) ho : GO us (.tuple [.str "and", .list []])),
  List.forall_mem_cons.mpr ⟨(g_fill (us := us) (.tuple [.str "and", .none]) (by decide +kernel) ho : GO us (.tuple [.str "and", .none])),
  List.forall_mem_cons.mpr ⟨(g_fill (us := us) (.tuple [.str "and"]) (by decide +kernel) ho : GO us (.tuple [.str "and"])),
  List.forall_mem_cons.mpr ⟨(g_fill (us := us) (.tuple [.str "and", .tuple [], .tuple []]) (by decide +kernel) ho : GO us (.tuple [.str "and", .tuple [], .tuple []])),
  List.forall_mem_cons.mpr ⟨hs,
  List.forall_mem_cons.mpr ⟨(g_fill (us := us) (.tuple [.str "some", .str "r", .str "a"]) (by decide +kernel) ho : GO us (.tuple [.str "some", .str "r", .str "a"])),
  List.forall_mem_cons.mpr ⟨(g_fill (us := us) (.tuple [.str "some", .str "r", .list [.str "top"]]) (by decide +kernel) ho : GO us (.tuple [.str "some", .str "r", .list [.str "top"]])),
  List.forall_mem_cons.mpr ⟨(g_fill (us := us) (.tuple [.str "some", .str "r"]) (by decide +kernel) ho : GO us (.tuple [.str "some", .str "r"])),
  List.forall_mem_cons.mpr ⟨(g_fill (us := us) (.tuple [.str "some", .tuple [.str "name", .str "r"], .dict []]) (by decide +kernel) ho : GO us (.tuple [.str "some", .tuple [.str "name", .str "r"], .tuple us])),
  List.forall_mem_cons.mpr ⟨(g_fill (us := us) (.tuple [.str "some", .str "R", .dict []]) (by decide +kernel) ho : GO us (.tuple [.str "some", .str "R", .tuple us])),
  List.forall_mem_cons.mpr ⟨(g_fill (us := us) (.tuple [.str "some", .str "", .dict []]) (by decide +kernel) ho : GO us (.tuple [.str "some", .str "", .tuple us])),
  List.forall_mem_cons.mpr ⟨(g_fill (us := us) (.tuple [.str "or", .tuple []]) (by decide +kernel) ho : GO us (.tuple [.str "or", .tuple []])),
  List.forall_mem_cons.mpr ⟨(g_fill (us := us) (.tuple [.str "some", .int 1, .dict []]) (by decide +kernel) ho : GO us (.tuple [.str "some", .int 1, .tuple us])),
  List.forall_mem_cons.mpr ⟨(g_fill (us := us) (.tuple [.str "some", .str "r", .none]) (by decide +kernel) ho : GO us (.tuple [.str "some", .str "r", .none])),
  List.forall_mem_cons.mpr ⟨(g_fill (us := us) (.tuple [.str "some", .list [.str "r"], .dict []]) (by decide +kernel) ho : GO us (.tuple [.str "some", .list [.str "r"], .tuple us])),
  List.forall_mem_cons.mpr ⟨(g_fill (us := us) (.tuple [.str "some", .str "r", .dict [], .dict []]) (by decide +kernel) ho : GO us (.tuple [.str "some", .str "r", .tuple us, .tuple us])),
  List.forall_mem_cons.mpr ⟨(g_fill (us := us) (.tuple [.list [.str "name"], .str "a"]) (by decide +kernel) ho : GO us (.tuple [.list [.str "name"], .str "a"])),
  List.forall_mem_cons.mpr ⟨(g_fill (us := us) (.tuple [.tuple [.str "top"]]) (by decide +kernel) ho : GO us (.tuple [.tuple [.str "top"]])),
  List.forall_mem_cons.mpr ⟨(g_fill (us := us) (.tuple [.str "bottom", .tuple []]) (by decide +kernel) ho : GO us (.tuple [.str "bottom", .tuple []])),
  List.forall_mem_cons.mpr ⟨(g_fill (us := us) (.tuple [.str "some", .str (repS "c" 13), .dict []]) (by decide +kernel) ho : GO us (.tuple [.str "some", .str (repS "c" 13), .tuple us])),
  List.forall_mem_cons.mpr ⟨(g_fill (us := us) (.tuple [.str "some", .str "r_", .dict []]) (by decide +kernel) ho : GO us (.tuple [.str "some", .str "r_", .tuple us])),
  List.forall_mem_cons.mpr ⟨(g_fill (us := us) (.tuple [.str "sub", .dict [], .dict []]) (by decide +kernel) ho : GO us (.tuple [.str "sub", .tuple us, .tuple us])),
  List.forall_mem_cons.mpr ⟨(g_fill (us := us) (.tuple [.tuple [.str "and"], .tuple []]) (by decide +kernel) ho : GO us (.tuple [.tuple [.str "and"], .tuple []])),
  List.forall_mem_cons.mpr ⟨(g_fill (us := us) (.tuple [.str "top", .none]) (by decide +kernel) ho : GO us (.tuple [.str "top", .none])),
  fun _ m => nomatch m⟩⟩⟩⟩⟩⟩⟩⟩⟩⟩⟩⟩⟩⟩⟩⟩⟩⟩⟩⟩⟩⟩⟩⟩⟩⟩⟩⟩⟩⟩⟩⟩⟩⟩⟩⟩⟩⟩⟩⟩⟩⟩⟩⟩⟩⟩⟩⟩⟩⟩⟩⟩
theorem depthAll_app : ∀ as bs : List D, PyData.depthAll (as ++ bs) = max (PyData.depthAll as) (PyData.depthAll bs)
  | [], bs => by rw [List.nil_append]; exact (Nat.zero_max _).symm
  | a :: as, bs => by
    show max a.depth (PyData.depthAll (as ++ bs)) = max (max a.depth (PyData.depthAll as)) (PyData.depthAll bs)
    rw [depthAll_app as bs]; omega
theorem okOs_app : ∀ {as bs : List D}, okOs as = true → okOs bs = true → okOs (as ++ bs) = true
  | [], bs, _, h => h
  | a :: as, bs, h, k => by
    simp only [okOs, Bool.and_eq_true] at h
    simp only [List.cons_append, okOs, Bool.and_eq_true]
    exact ⟨h.1, okOs_app h.2 k⟩
theorem okOs_all {as : List D} (h : ∀ a ∈ as, okO a = true) : okOs as = true := by
  induction as with
  | nil => rfl
  | cons a as ih =>
    simp only [okOs, Bool.and_eq_true]
    exact ⟨h a (.head _), ih fun x m => h x (.tail _ m)⟩
theorem depthAll_sub {as bs : List D} (h : ∀ a ∈ as, a ∈ bs) : PyData.depthAll as ≤ PyData.depthAll bs := by
  induction as with
  | nil => exact Nat.zero_le _
  | cons a as ih =>
    show max a.depth (PyData.depthAll as) ≤ _
    have h1 := depthAll_le (h a (.head _))
    have h2 := ih fun x m => h x (.tail _ m)
    omega
theorem nods_sub {as bs : List D} (h : as.Sublist bs) : nods as ≤ nods bs := by
  induction h with
  | slnil => exact Nat.le_refl _
  | cons a _ ih => show _ ≤ nod a + nods _; omega
  | cons_cons a _ ih => show nod a + nods _ ≤ nod a + nods _; omega
theorem cut_sub (us : List D) (lo hi : Option Int) : (Pl.cutD us lo hi).Sublist us := by
  unfold Pl.cutD
  first
  | exact (List.take_sublist _ _).trans (List.drop_sublist _ _)
  | exact (List.drop_sublist _ _).trans (List.take_sublist _ _)
/-- every odd value -/
theorem odd_all {us : List D} (ho : OU us) {x : Str} (hx : okO (.str x) = true) : ∀ d ∈ oddMenu us x, GO us d := by
  have o := ho.ok
  simp only [okO, Bool.and_eq_true, decide_eq_true_eq] at o hx
  have ol := ho.ln
  refine odd_ok ho ⟨by simp only [okO, Bool.and_eq_true, decide_eq_true_eq]; exact o, by show _ + 1 ≤ _ + 1 + 3; omega, by show nods us + 1 ≤ 3 * (nods us + 1) + 100; omega⟩ ?_ ?_ ?_ ?_
  · refine ⟨?_, ?_, ?_⟩
    · simp only [okO, Bool.and_eq_true, decide_eq_true_eq]
      exact ⟨by rw [List.length_append]; simp; omega, okOs_app o.2 (by decide +kernel)⟩
    · show PyData.depthAll _ + 1 ≤ PyData.depthAll us + 1 + 3
      rw [depthAll_app]
      have : PyData.depthAll [PyData.tuple [.str "top"]] = 1 := by decide +kernel
      omega
    · show nods _ + 1 ≤ 3 * (nods us + 1) + 100
      rw [nods_app]
      have : nods [PyData.tuple [.str "top"]] = 2 := by decide +kernel
      omega
  · have q := cut_sub us none (some (-1))
    refine ⟨?_, ?_, ?_⟩
    · simp only [okO, Bool.and_eq_true, decide_eq_true_eq]
      exact ⟨by have := q.length_le; omega, okOs_all fun a m => okOs_mem o.2 (q.subset m)⟩
    · show PyData.depthAll _ + 1 ≤ PyData.depthAll us + 1 + 3
      have := depthAll_sub (as := Pl.cutD us none (some (-1))) (bs := us) fun a m => q.subset m
      omega
    · show nods _ + 1 ≤ 3 * (nods us + 1) + 100
      have := nods_sub q
      omega
  · refine ⟨?_, by show max 0 (max 0 0) + 1 ≤ _ + 1 + 3; omega, by show 1 + (1 + 0) + 1 ≤ 3 * (nods us + 1) + 100; omega⟩
    simp only [okO, okOs, Bool.and_eq_true, decide_eq_true_eq, hx, and_true, List.length_cons, List.length_nil]
    decide +kernel
  · refine ⟨?_, by show max 0 (max 0 (max (PyData.depthAll us + 1) 0)) + 1 ≤ PyData.depthAll us + 1 + 3; omega, by show 1 + (1 + (nods us + 1 + 0)) + 1 ≤ 3 * (nods us + 1) + 100; omega⟩
    simp only [okO, okOs, Bool.and_eq_true, decide_eq_true_eq, hx, and_true, List.length_cons, List.length_nil]
    exact ⟨by decide, by decide +kernel, trivial, o⟩
theorem tm_us (t : Tm) : ∃ us, t.d = .tuple us ∧ us ≠ [] ∧ us.length ≤ 10 := by
  cases t with
  | top => exact ⟨_, rfl, by simp, by simp⟩
  | bot => exact ⟨_, rfl, by simp, by simp⟩
  | name x => exact ⟨_, rfl, by simp, by simp⟩
  | some r t => exact ⟨_, rfl, by simp, by simp⟩
  | and ts => exact ⟨_, rfl, by simp, by simp⟩
set_option Elab.async false
set_option linter.all false
set_option maxRecDepth 100000
set_option maxHeartbeats 4000001
open PySem L2 LamX NdefX PyProof.Rows GenW Pl
variable {P : Program} {w : World} {K : PySem.W.Frag} {mg : Str → Option Value} {base : Heap} {T : List NTab} {ts : List Str}
def F_odd : FS := fun as Q => ∃ (us : List D) (x y z : Int), as = [.own (bx x y z), .val (.tuple us)] ∧ OU us ∧ ∀ d x y z, GO us d → Q (.val d) [bx x y z]
theorem res_okO : ∀ x ∈ reserved, okO (.str x) = true := by decide +kernel
theorem ok_odd (c : Al K mg base ds fr ts cs) (h__law_reserved : OkF P w K mg base T 1 "_law_reserved" [] F_reserved) (h__law_take : OkF P w K mg base T 1 "_law_take" ["box", "many"] F_take) : OkF P w K mg base T 2 "_law_odd" ["box", "term"] F_odd := by
  have nd := sc__law_odd.nd
  have kTOP := c.cs _ (.head _)
  have kBOTTOM := c.cs _ (.tail _ (.head _))
  have kRESERVED := c.cs _ (.tail _ (.tail _ (.tail _ (.tail _ (.tail _ (.head _))))))
  refine ok_of c (.tail _ (.tail _ (.tail _ (.tail _ (.tail _ (.tail _ (.tail _ (.tail _ (.tail _ (.tail _ (.tail _ (.tail _ (.tail _ (.tail _ (.tail _ (.tail _ (.tail _ (.tail _ (.tail _ (.tail _ (.tail _ (.tail _ (.tail _ (.tail _ (.tail _ (.tail _ (.tail _ (.tail _ (.tail _ (.tail _ (.tail _ (.tail _ (.tail _ (.tail _ (.tail _ (.tail _ (.tail _ (.tail _ (.tail _ (.tail _ (.tail _ (.tail _ (.tail _ (.tail _ (.tail _ (.tail _ (.tail _ (.head _)))))))))))))))))))))))))))))))))))))))))))))))) (fun _ _ _ _ _ _ us hl => match us, hl with | [_, _], _ => rfl) sc__law_odd (fun as Q h => by first | (obtain ⟨_, rfl, _⟩ := h; rfl) | (obtain ⟨_, _, rfl, _⟩ := h; rfl) | (obtain ⟨_, _, _, rfl, _⟩ := h; rfl) | (obtain ⟨_, _, _, _, rfl, _⟩ := h; rfl) | (obtain ⟨_, _, _, _, _, rfl, _⟩ := h; rfl) | (obtain ⟨_, _, _, _, _, _, rfl, _⟩ := h; rfl) | (obtain ⟨_, _, _, _, _, _, _, rfl, _⟩ := h; rfl) | (obtain ⟨_, _, _, _, _, _, _, _, rfl, _⟩ := h; rfl) | (obtain ⟨_, _, _, _, _, _, _, _, _, rfl, _⟩ := h; rfl) | (obtain ⟨rfl, _⟩ := h; rfl)) fun f cdv A outer s H E hr as Q qs hF hq => ?_
  obtain ⟨us, x, y, z, rfl, ho, hQ⟩ := hF
  obtain ⟨p, rfl⟩ := List.length_eq_one_iff.mp hq
  refine ⟨_, (pss_cons (ps_set (i := 2) nd rfl (Or.inl rfl) (pe_ix (r := rIxL K) ix_list (pe_f0 h__law_reserved (hr.mono (by omega)) rfl) (pe_f h__law_take (hr.mono (by omega)) rfl (pa_cons (pv 0) (pa_cons pe_int pa_nil))) (fun _ _ => rfl)))
    (pss_cons (ps_set (i := 3) nd rfl (Or.inl rfl) (pe_lst (pa_cons (pe_callTy (r := rListOf K) call_list_of rfl (c.fr _ (.tail _ (.tail _ (.tail _ (.tail _ (.tail _ (.head _))))))) PyProof.Rows.boot_list (pa_cons (pv 1) pa_nil)) (pa_cons (pe_op (r := rCatA K) op_catA (pv 1) (pe_tup (pa_cons (pe_tup (pa_cons pe_str pa_nil)) pa_nil))) (pa_cons (pe_slice (r := rSlT K) sl_tup (pv 1) po_none (po_some (pe_un un_neg pe_int))) (pa_cons pe_non (pa_cons pe_int (pa_cons pe_bl (pa_cons pe_str (pa_cons pe_str (pa_cons (pe_tup pa_nil) (pa_cons (pe_lst pa_nil) (pa_cons (pe_tup (pa_cons pe_str pa_nil)) pa_nil)))))))))))))
    (pss_cons (ps_set (i := 3) nd rfl (Or.inl rfl) (pe_op (r := rCatS K) op_catS (pv 3) (pe_lst (pa_cons (pe_tup (pa_cons pe_str (pa_cons pe_str pa_nil))) (pa_cons (pe_tup (pa_cons pe_str (pa_cons (pv 2) pa_nil))) (pa_cons (pe_tup (pa_cons pe_str (pa_cons (pe_op op_mulS pe_str pe_int) pa_nil))) (pa_cons (pe_tup (pa_cons pe_str (pa_cons pe_str pa_nil))) (pa_cons (pe_tup (pa_cons pe_str (pa_cons pe_str pa_nil))) pa_nil))))))))
    (pss_cons (ps_set (i := 3) nd rfl (Or.inl rfl) (pe_op (r := rCatS K) op_catS (pv 3) (pe_lst (pa_cons (pe_tup (pa_cons pe_str (pa_cons pe_str pa_nil))) (pa_cons (pe_tup (pa_cons pe_str (pa_cons pe_non pa_nil))) (pa_cons (pe_tup (pa_cons pe_str (pa_cons (pe_lst (pa_cons pe_str pa_nil)) pa_nil))) (pa_cons (pe_tup (pa_cons pe_str (pa_cons (pe_tup (pa_cons pe_str pa_nil)) pa_nil))) (pa_cons (pe_tup (pa_cons pe_str (pa_cons pe_str pa_nil))) pa_nil))))))))
    (pss_cons (ps_set (i := 3) nd rfl (Or.inl rfl) (pe_op (r := rCatS K) op_catS (pv 3) (pe_lst (pa_cons (pe_tup (pa_cons pe_str (pa_cons pe_str pa_nil))) (pa_cons (pe_tup (pa_cons pe_str (pa_cons pe_str (pa_cons pe_str pa_nil)))) (pa_cons (pe_tup (pa_cons pe_str (pa_cons pe_int pa_nil))) (pa_cons (pe_tup (pa_cons pe_str (pa_cons (pe_lst (pa_cons (pv 1) pa_nil)) pa_nil))) (pa_cons (pe_tup (pa_cons pe_str (pa_cons (pv 1) pa_nil))) pa_nil))))))))
    (pss_cons (ps_set (i := 3) nd rfl (Or.inl rfl) (pe_op (r := rCatS K) op_catS (pv 3) (pe_lst (pa_cons (pe_tup (pa_cons pe_str (pa_cons pe_str pa_nil))) (pa_cons (pe_tup (pa_cons pe_str (pa_cons pe_str pa_nil))) (pa_cons (pe_tup (pa_cons pe_str (pa_cons (pe_lst pa_nil) pa_nil))) (pa_cons (pe_tup (pa_cons pe_str (pa_cons pe_non pa_nil))) (pa_cons (pe_tup (pa_cons pe_str pa_nil)) (pa_cons (pe_tup (pa_cons pe_str (pa_cons (pe_tup pa_nil) (pa_cons (pe_tup pa_nil) pa_nil)))) pa_nil)))))))))
    (pss_cons (ps_set (i := 3) nd rfl (Or.inl rfl) (pe_op (r := rCatS K) op_catS (pv 3) (pe_lst (pa_cons (pe_tup (pa_cons pe_str (pa_cons (pv 2) (pa_cons (pv 1) pa_nil)))) (pa_cons (pe_tup (pa_cons pe_str (pa_cons pe_str (pa_cons pe_str pa_nil)))) (pa_cons (pe_tup (pa_cons pe_str (pa_cons pe_str (pa_cons (pe_lst (pa_cons pe_str pa_nil)) pa_nil)))) (pa_cons (pe_tup (pa_cons pe_str (pa_cons pe_str pa_nil))) pa_nil)))))))
    (pss_cons (ps_set (i := 3) nd rfl (Or.inl rfl) (pe_op (r := rCatS K) op_catS (pv 3) (pe_lst (pa_cons (pe_tup (pa_cons pe_str (pa_cons (pe_tup (pa_cons pe_str (pa_cons pe_str pa_nil))) (pa_cons (pv 1) pa_nil)))) (pa_cons (pe_tup (pa_cons pe_str (pa_cons pe_str (pa_cons (pv 1) pa_nil)))) (pa_cons (pe_tup (pa_cons pe_str (pa_cons pe_str (pa_cons (pv 1) pa_nil)))) (pa_cons (pe_tup (pa_cons pe_str (pa_cons (pe_tup pa_nil) pa_nil))) pa_nil)))))))
    (pss_cons (ps_set (i := 3) nd rfl (Or.inl rfl) (pe_op (r := rCatS K) op_catS (pv 3) (pe_lst (pa_cons (pe_tup (pa_cons pe_str (pa_cons pe_int (pa_cons (pv 1) pa_nil)))) (pa_cons (pe_tup (pa_cons pe_str (pa_cons pe_str (pa_cons pe_non pa_nil)))) (pa_cons (pe_tup (pa_cons pe_str (pa_cons (pe_lst (pa_cons pe_str pa_nil)) (pa_cons (pv 1) pa_nil)))) (pa_cons (pe_tup (pa_cons pe_str (pa_cons pe_str (pa_cons (pv 1) (pa_cons (pv 1) pa_nil))))) pa_nil)))))))
    (pss_cons (ps_set (i := 3) nd rfl (Or.inl rfl) (pe_op (r := rCatS K) op_catS (pv 3) (pe_lst (pa_cons (pe_tup (pa_cons (pe_lst (pa_cons pe_str pa_nil)) (pa_cons pe_str pa_nil))) (pa_cons (pe_tup (pa_cons (pe_tup (pa_cons pe_str pa_nil)) pa_nil)) (pa_cons (pe_tup (pa_cons pe_str (pa_cons (pe_tup pa_nil) pa_nil))) (pa_cons (pe_tup (pa_cons pe_str (pa_cons (pe_op op_mulS pe_str pe_int) (pa_cons (pv 1) pa_nil)))) pa_nil)))))))
    (pss_cons (ps_set (i := 3) nd rfl (Or.inl rfl) (pe_op (r := rCatS K) op_catS (pv 3) (pe_lst (pa_cons (pe_tup (pa_cons pe_str (pa_cons pe_str (pa_cons (pv 1) pa_nil)))) (pa_cons (pe_tup (pa_cons pe_str (pa_cons (pv 1) (pa_cons (pv 1) pa_nil)))) (pa_cons (pe_tup (pa_cons (pe_tup (pa_cons pe_str pa_nil)) (pa_cons (pe_tup pa_nil) pa_nil))) (pa_cons (pe_tup (pa_cons pe_str (pa_cons pe_non pa_nil))) pa_nil)))))))
    (pss_one (ps_ret (pe_ix (r := rIxL K) ix_list (pv 3) (pe_f h__law_take (hr.mono (by omega)) rfl (pa_cons (pv 0) (pa_cons (pe_callB (r := Pl.rLen K) call_len rfl (c.fr _ (.tail _ (.tail _ (.tail _ (.head _))))) PySem.boot_len (pa_cons (pv 3) pa_nil)) pa_nil))) (fun _ _ => rfl))))))))))))))), ?_⟩
  show Ss K T _ [.own p _, .val _, .no, .no] _
  k_search "go"
  refine cv [] trivial ⟨rfl, rimL (imm_strs _), ?_⟩
  k_search "go"
  refine cx [.own _, .val _] [0] ⟨rfl, ⟨_, rfl⟩, rfl, trivial⟩ (by decide) ⟨_, _, _, _, rfl, by decide, by decide, fun n x1 y1 z1 e1 e2 => ⟨rim1 rfl rfl, ?_⟩⟩
  k_search "nrm"
  obtain ⟨v, hv, hat⟩ := at_str (ws := reserved) e1 e2
  have hx := res_okO v hv
  refine ⟨_, _, _, rfl, rfl, hat, .inl rfl, ?_⟩
  k_search "go"
  refine cb_listT ho.im ?_
  k_search "go"
  refine opd_catA ho.im rfl (by have := ho.ln; simp; omega) ?_
  refine exa_cons (ex_slT (ex_var rfl ?_))
  k_search "go"
  refine ⟨fun q => ?_, ?_⟩
  · have l1 : 1 ≤ us.length := List.length_pos_iff.mpr ho.ne
    have q2 := q.2
    have e : HT.sIx us.length us.length (some (-1)) = us.length - 1 := by
      show (if (-1 : Int) < 0 then ((-1 : Int) + (us.length : Nat)).toNat else min (-1 : Int).toNat us.length) = _
      rw [if_pos (by decide)]
      omega
    omega
  k_search "goe"
  refine ⟨[_, _, _, _, _, _, _, _, _, _, _], ⟨rfl, rfl, rfl, rfl, rfl, rfl, rfl, rfl, rfl, rfl, rfl, trivial⟩, by k_search "len", ?_⟩
  k_search "goe"
  refine go_seq (go_set (ex_catLX (ex_bor rfl ?_)))
  k_search "goe"
  refine ⟨by k_search "len", ?_⟩
  k_search "goe"
  refine go_seq (go_set (ex_catLX (ex_bor rfl ?_)))
  k_search "goe"
  refine ⟨by k_search "len", ?_⟩
  k_search "goe"
  refine go_seq (go_set (ex_catLX (ex_bor rfl ?_)))
  k_search "goe"
  refine ⟨by k_search "len", ?_⟩
  k_search "goe"
  refine go_seq (go_set (ex_catLX (ex_bor rfl ?_)))
  k_search "goe"
  refine ⟨by k_search "len", ?_⟩
  k_search "goe"
  refine go_seq (go_set (ex_catLX (ex_bor rfl ?_)))
  k_search "goe"
  refine ⟨by k_search "len", ?_⟩
  k_search "goe"
  refine go_seq (go_set (ex_catLX (ex_bor rfl ?_)))
  k_search "goe"
  refine ⟨by k_search "len", ?_⟩
  k_search "goe"
  refine go_seq (go_set (ex_catLX (ex_bor rfl ?_)))
  k_search "goe"
  refine ⟨by k_search "len", ?_⟩
  k_search "goe"
  refine go_seq (go_set (ex_catLX (ex_bor rfl ?_)))
  k_search "goe"
  refine ⟨by k_search "len", ?_⟩
  k_search "goe"
  refine go_seq (go_set (ex_catLX (ex_bor rfl ?_)))
  k_search "goe"
  refine ⟨by k_search "len", ?_⟩
  with_reducible apply st_n
  · k_search "len"
  · intro _; k_search "set"
  intro ad
  have hm := odd_all ho hx
  have hl : (oddMenu us v).length = 52 := rfl
  show Ss K T _ [.own p _, .val _, .val _, .own ad (.lst (oddMenu us v))] _
  generalize oddMenu us v = ms at hm hl ⊢
  refine ss_frz (i := 3) rfl ?_
  k_search "nrm"
  refine go_ret (ex_ixL (ex_var rfl ?_))
  k_search "go"
  refine cx [.own _, .val _] [0] ⟨rfl, ⟨_, rfl⟩, rfl, trivial⟩ (by decide) ⟨_, _, _, _, rfl, by rw [hl]; decide, by rw [hl]; decide, fun n x2 y2 z2 e1 e2 => ⟨rim1 rfl rfl, ?_⟩⟩
  k_search "nrm"
  obtain ⟨k, rfl⟩ : ∃ k : Nat, n = k := ⟨n.toNat, by omega⟩
  have hk : k < ms.length := by omega
  exact ⟨ms, k, ms[k], rfl, rfl, atI_nat (List.getElem?_eq_getElem hk), .inr ⟨_, rfl⟩, _, _, ⟨rfl, _, rfl, rfl⟩, rfl, hQ _ _ _ _ (hm _ (List.getElem_mem hk))⟩
set_option Elab.async false
set_option linter.all false
set_option maxRecDepth 100000
set_option maxHeartbeats 4000001
open PySem L2 LamX NdefX PyProof.Rows GenW Pl
section
local macro_rules | `(tactic| k_search "g2") => `(tactic| with_reducible refine go_callF ?_)
local macro_rules | `(tactic| k_search "g2") => `(tactic| with_reducible refine ex_catTX ?_)
local macro_rules | `(tactic| k_search "g2") => `(tactic| with_reducible refine ex_slT ?_)
local macro_rules | `(tactic| k_search "nro") => `(tactic| dsimp only [putOo, putO, List.getElem?_cons_zero, List.getElem?_cons_succ, List.set_cons_zero, List.set_cons_succ])
variable {P : Program} {w : World} {K : PySem.W.Frag} {mg : Str → Option Value} {base : Heap} {T : List NTab} {ts : List Str}
theorem cut_take {ds : List D} {k : Nat} (h : k ≤ ds.length) : Pl.cutD ds none (some (k : Int)) = ds.take k := by
  unfold Pl.cutD
  have h1 : HT.sIx ds.length 0 none = 0 := rfl
  have h2 : HT.sIx ds.length ds.length (some (k : Int)) = k := by
    simp only [HT.sIx]
    rw [if_neg (by omega)]
    omega
  rw [h1, h2]
  rfl
theorem cut_drop {ds : List D} {k : Nat} (h : k + 1 ≤ ds.length) : Pl.cutD ds (some ((k : Int) + 1)) none = ds.drop (k + 1) := by
  unfold Pl.cutD
  have h1 : HT.sIx ds.length 0 (some ((k : Int) + 1)) = k + 1 := by
    simp only [HT.sIx]
    rw [if_neg (by omega)]
    omega
  have h2 : HT.sIx ds.length ds.length none = ds.length := rfl
  rw [h1, h2]
  exact List.take_of_length_le (by rw [List.length_drop]; omega)
theorem cut_drop0 {ds : List D} {k : Nat} (h : k ≤ ds.length) : Pl.cutD ds (some (k : Int)) none = ds.drop k := by
  unfold Pl.cutD
  have h1 : HT.sIx ds.length 0 (some (k : Int)) = k := by
    simp only [HT.sIx]
    rw [if_neg (by omega)]
    omega
  have h2 : HT.sIx ds.length ds.length none = ds.length := rfl
  rw [h1, h2]
  exact List.take_of_length_le (by rw [List.length_drop]; omega)
structure BO (e d : D) : Prop where
  ok : okO d = true
  dp : d.depth ≤ e.depth + 3
  nd : nod d ≤ 3 * nod e + 100
def F_bend (h : Nat) : FS := fun as Q => ∃ (t : Tm) (x y z : Int), as = [.own (bx x y z), .val t.d] ∧ Tb h t ∧ ∀ d x y z, BO t.d d → Q (.val d) [bx x y z]
theorem tb_ou {h : Nat} {t : Tm} (b : Tb h t) : ∃ us, t.d = .tuple us ∧ OU us := by
  obtain ⟨us, e, h1, h2⟩ := tm_us t
  have i := Tm.imm_d t
  rw [e] at i
  exact ⟨us, e, by rw [← e]; exact (tb_od b).ok, i, h1, h2⟩
theorem bo_some {r : Str} {u : Tm} {d : D} (hr : okO (.str r) = true) (b : BO u.d d) : BO (Tm.some r u).d (.tuple [.str "some", .str r, d]) := by
  refine ⟨?_, ?_, ?_⟩
  · have e : okO (.tuple [.str "some", .str r, d]) = (decide (3 ≤ 1000) && (okO (.str "some") && (okO (.str r) && (okO d && true)))) := rfl
    rw [e, hr, b.ok]
    decide +kernel
  · have := b.dp
    show max 0 (max 0 (max d.depth 0)) + 1 ≤ max 0 (max 0 (max u.d.depth 0)) + 1 + 3
    omega
  · have := b.nd
    show 1 + (1 + (nod d + 0)) + 1 ≤ 3 * (1 + (1 + (nod u.d + 0)) + 1) + 100
    omega
theorem bo_and {us : List Tm} {k : Nat} {u : Tm} {d : D} {as bs : List D} (o : okO (Tm.and us).d = true) (hu : us[k]? = some u) (b : BO u.d d) (ha : as.Sublist (us.map Tm.d)) (hb : bs.Sublist (us.map Tm.d)) (hl : as.length + 1 + bs.length ≤ us.length)
    (hn : nods as + nods bs + nod u.d ≤ nods (us.map Tm.d)) : BO (Tm.and us).d (.tuple [.str "and", .tuple (as ++ [d] ++ bs)]) := by
  have o2 : us.length ≤ 1000 ∧ okOs (us.map Tm.d) = true := by
    have e : okO (Tm.and us).d = (decide (2 ≤ 1000) && (okO (.str "and") && ((decide ((Tm.dL us).length ≤ 1000) && okOs (Tm.dL us)) && true))) := rfl
    rw [e, Tm.dL_map, List.length_map] at o
    simp only [Bool.and_eq_true, decide_eq_true_eq] at o
    exact o.2.2.1
  have du : u.d.depth ≤ PyData.depthAll (us.map Tm.d) := depthAll_le (List.mem_map.mpr ⟨u, List.mem_of_getElem? hu, rfl⟩)
  have da := depthAll_sub (as := as) (bs := us.map Tm.d) fun a m => ha.subset m
  have db := depthAll_sub (as := bs) (bs := us.map Tm.d) fun a m => hb.subset m
  refine ⟨?_, ?_, ?_⟩
  · have e : okO (.tuple [.str "and", .tuple (as ++ [d] ++ bs)]) = (decide (2 ≤ 1000) && (okO (.str "and") && ((decide ((as ++ [d] ++ bs).length ≤ 1000) && okOs (as ++ [d] ++ bs)) && true))) := rfl
    have l : (as ++ [d] ++ bs).length ≤ 1000 := by
      rw [List.length_append, List.length_append, List.length_singleton]
      omega
    have q : okOs (as ++ [d] ++ bs) = true := okOs_app (okOs_app (okOs_all fun a m => okOs_mem o2.2 (ha.subset m)) (by simp only [okOs, b.ok, Bool.and_self])) (okOs_all fun a m => okOs_mem o2.2 (hb.subset m))
    rw [e, decide_eq_true l, q]
    decide +kernel
  · have := b.dp
    show max 0 (max (PyData.depthAll (as ++ [d] ++ bs) + 1) 0) + 1 ≤ max 0 (max (PyData.depthAll (Tm.dL us) + 1) 0) + 1 + 3
    rw [depthAll_app, depthAll_app, Tm.dL_map]
    have : PyData.depthAll [d] = max d.depth 0 := rfl
    omega
  · have := b.nd
    show 1 + (nods (as ++ [d] ++ bs) + 1 + 0) + 1 ≤ 3 * (1 + (nods (Tm.dL us) + 1 + 0) + 1) + 100
    rw [nods_app, nods_app, Tm.dL_map]
    have : nods [d] = nod d + 0 := rfl
    omega
theorem ok_bend (c : Al K mg base ds fr ts cs) (h__law_take : OkF P w K mg base T 1 "_law_take" ["box", "many"] F_take) (h__law_odd : OkF P w K mg base T 2 "_law_odd" ["box", "term"] F_odd) : ∀ h : Nat, OkF P w K mg base T (h + 3) "_law_bend" ["box", "term"] (F_bend h)
  | 0 => by
    have nd := sc__law_bend.nd
    have kTOP := c.cs _ (.head _)
    have kBOTTOM := c.cs _ (.tail _ (.head _))
    have kRESERVED := c.cs _ (.tail _ (.tail _ (.tail _ (.tail _ (.tail _ (.head _))))))
    refine ok_of c (.tail _ (.tail _ (.tail _ (.tail _ (.tail _ (.tail _ (.tail _ (.tail _ (.tail _ (.tail _ (.tail _ (.tail _ (.tail _ (.tail _ (.tail _ (.tail _ (.tail _ (.tail _ (.tail _ (.tail _ (.tail _ (.tail _ (.tail _ (.tail _ (.tail _ (.tail _ (.tail _ (.tail _ (.tail _ (.tail _ (.tail _ (.tail _ (.tail _ (.tail _ (.tail _ (.tail _ (.tail _ (.tail _ (.tail _ (.tail _ (.tail _ (.tail _ (.tail _ (.tail _ (.tail _ (.tail _ (.tail _ (.tail _ (.head _))))))))))))))))))))))))))))))))))))))))))))))))) (fun _ _ _ _ _ _ us hl => match us, hl with | [_, _], _ => rfl) sc__law_bend (fun as Q h => by first | (obtain ⟨_, rfl, _⟩ := h; rfl) | (obtain ⟨_, _, rfl, _⟩ := h; rfl) | (obtain ⟨_, _, _, rfl, _⟩ := h; rfl) | (obtain ⟨_, _, _, _, rfl, _⟩ := h; rfl) | (obtain ⟨_, _, _, _, _, rfl, _⟩ := h; rfl) | (obtain ⟨_, _, _, _, _, _, rfl, _⟩ := h; rfl) | (obtain ⟨_, _, _, _, _, _, _, rfl, _⟩ := h; rfl) | (obtain ⟨_, _, _, _, _, _, _, _, rfl, _⟩ := h; rfl) | (obtain ⟨_, _, _, _, _, _, _, _, _, rfl, _⟩ := h; rfl) | (obtain ⟨rfl, _⟩ := h; rfl)) fun f cdv A outer s H E hr as Q qs hF hq => ?_
    obtain ⟨t, x, y, z, rfl, b, _⟩ := hF
    exact b.no.elim
  | h + 1 => by
    have h__law_bend := ok_bend c h__law_take h__law_odd h
    have nd := sc__law_bend.nd
    have kTOP := c.cs _ (.head _)
    have kBOTTOM := c.cs _ (.tail _ (.head _))
    have kRESERVED := c.cs _ (.tail _ (.tail _ (.tail _ (.tail _ (.tail _ (.head _))))))
    refine ok_of c (.tail _ (.tail _ (.tail _ (.tail _ (.tail _ (.tail _ (.tail _ (.tail _ (.tail _ (.tail _ (.tail _ (.tail _ (.tail _ (.tail _ (.tail _ (.tail _ (.tail _ (.tail _ (.tail _ (.tail _ (.tail _ (.tail _ (.tail _ (.tail _ (.tail _ (.tail _ (.tail _ (.tail _ (.tail _ (.tail _ (.tail _ (.tail _ (.tail _ (.tail _ (.tail _ (.tail _ (.tail _ (.tail _ (.tail _ (.tail _ (.tail _ (.tail _ (.tail _ (.tail _ (.tail _ (.tail _ (.tail _ (.tail _ (.head _))))))))))))))))))))))))))))))))))))))))))))))))) (fun _ _ _ _ _ _ us hl => match us, hl with | [_, _], _ => rfl) sc__law_bend (fun as Q h => by first | (obtain ⟨_, rfl, _⟩ := h; rfl) | (obtain ⟨_, _, rfl, _⟩ := h; rfl) | (obtain ⟨_, _, _, rfl, _⟩ := h; rfl) | (obtain ⟨_, _, _, _, rfl, _⟩ := h; rfl) | (obtain ⟨_, _, _, _, _, rfl, _⟩ := h; rfl) | (obtain ⟨_, _, _, _, _, _, rfl, _⟩ := h; rfl) | (obtain ⟨_, _, _, _, _, _, _, rfl, _⟩ := h; rfl) | (obtain ⟨_, _, _, _, _, _, _, _, rfl, _⟩ := h; rfl) | (obtain ⟨_, _, _, _, _, _, _, _, _, rfl, _⟩ := h; rfl) | (obtain ⟨rfl, _⟩ := h; rfl)) fun f cdv A outer s H E hr as Q qs hF hq => ?_
    obtain ⟨t, x, y, z, rfl, b, hQ⟩ := hF
    obtain ⟨p, rfl⟩ := List.length_eq_one_iff.mp hq
    refine ⟨_, (pss_cons (ps_if (PW.pt (pw_and (pt_cmpR op_eq (pe_ix (r := rIxT K) ix_tup (pv 1) pe_int (fun _ _ => rfl)) pe_str (nomark _)) (pw_and1 (pt_cmpR op_gt (pe_f h__law_take (hr.mono (by omega)) rfl (pa_cons (pv 0) (pa_cons pe_int pa_nil))) pe_int (nomark _))))) (pss_one (ps_ret (pe_tup (pa_cons pe_str (pa_cons (pe_ix (r := rIxT K) ix_tup (pv 1) pe_int (fun _ _ => rfl)) (pa_cons (pe_f h__law_bend (hr.mono (by omega)) rfl (pa_cons (pv 0) (pa_cons (pe_ix (r := rIxT K) ix_tup (pv 1) pe_int (fun _ _ => rfl)) pa_nil))) pa_nil)))))) pss_nil)
    (pss_cons (ps_if (PW.pt (pw_and (pt_cmpR op_eq (pe_ix (r := rIxT K) ix_tup (pv 1) pe_int (fun _ _ => rfl)) pe_str (nomark _)) (pw_and (pt_cmpR op_gt (pe_callB (r := Pl.rLen K) call_len rfl (c.fr _ (.tail _ (.tail _ (.tail _ (.head _))))) PySem.boot_len (pa_cons (pe_ix (r := rIxT K) ix_tup (pv 1) pe_int (fun _ _ => rfl)) pa_nil)) pe_int (nomark _)) (pw_and1 (pt_cmpR op_gt (pe_f h__law_take (hr.mono (by omega)) rfl (pa_cons (pv 0) (pa_cons pe_int pa_nil))) pe_int (nomark _)))))) (pss_cons (ps_set (i := 2) nd rfl (Or.inl rfl) (pe_f h__law_take (hr.mono (by omega)) rfl (pa_cons (pv 0) (pa_cons (pe_callB (r := Pl.rLen K) call_len rfl (c.fr _ (.tail _ (.tail _ (.tail _ (.head _))))) PySem.boot_len (pa_cons (pe_ix (r := rIxT K) ix_tup (pv 1) pe_int (fun _ _ => rfl)) pa_nil)) pa_nil))))
    (pss_one (ps_ret (pe_tup (pa_cons pe_str (pa_cons (pe_op (r := rCatA K) op_catA (pe_op (r := rCatA K) op_catA (pe_slice (r := rSlT K) sl_tup (pe_ix (r := rIxT K) ix_tup (pv 1) pe_int (fun _ _ => rfl)) po_none (po_some (pv 2))) (pe_tup (pa_cons (pe_f h__law_bend (hr.mono (by omega)) rfl (pa_cons (pv 0) (pa_cons (pe_ix (r := rIxT K) ix_tup (pe_ix (r := rIxT K) ix_tup (pv 1) pe_int (fun _ _ => rfl)) (pv 2) (fun _ _ => rfl)) pa_nil))) pa_nil))) (pe_slice (r := rSlT K) sl_tup (pe_ix (r := rIxT K) ix_tup (pv 1) pe_int (fun _ _ => rfl)) (po_some (pe_op op_add (pv 2) pe_int)) po_none)) pa_nil)))))) pss_nil)
    (pss_one (ps_ret (pe_f h__law_odd (hr.mono (by omega)) rfl (pa_cons (pv 0) (pa_cons (pv 1) pa_nil))))))), ?_⟩
    show Ss K T _ [.own p _, .val _, .no] _
    have hodd : ∀ x1 y1 z1 : Int, CallF F_odd (fun r δ' => ∃ us r', Pl.Fin [.own (bx x y z), .val t.d] [p] δ' us ∧ RetR 2 δ' r r' ∧ Q r' us) [.bor 0, .val t.d] [.own p (bx x1 y1 z1), .val t.d, .no] := fun x1 y1 z1 => by
      obtain ⟨us, e, ou⟩ := tb_ou b
      refine cfx [.own _, .val _] [some 0] ⟨rfl, ⟨_, rfl⟩, rfl, trivial⟩ (by decide) ⟨us, _, _, _, by rw [e], ou, fun d x y z g => ?_⟩
      k_search "nro"
      exact ⟨_, _, ⟨rfl, _, rfl, rfl⟩, rfl, hQ d _ _ _ (by rw [e]; exact ⟨g.ok, g.dp, g.nd⟩)⟩
    cases t with
    | top => k_search "go"; exact hodd _ _ _
    | bot => k_search "go"; exact hodd _ _ _
    | name x => k_search "go"; exact hodd _ _ _
    | some r u =>
      k_search "go"
      refine cfx [.own _, .val _] [some 0] ⟨rfl, ⟨_, rfl⟩, rfl, trivial⟩ (by decide) ⟨_, _, _, _, rfl, by decide, by decide, fun n x2 y2 z2 e1 e2 => ?_⟩
      k_search "nro"
      k_search "go"
      refine iteD (fun hn => ?_) fun hn => ?_
      · k_search "go"
        refine cfx [.own _, .val _] [some 0] ⟨rfl, ⟨_, rfl⟩, rfl, trivial⟩ (by decide) ⟨u, _, _, _, rfl, b.some, fun d x y z bo => ?_⟩
        k_search "nro"
        k_search "go"
        exact ⟨_, _, ⟨rfl, _, rfl, rfl⟩, rfl, hQ _ _ _ _ (bo_some (by simp only [okO, Bool.and_eq_true, decide_eq_true_eq]; exact ⟨b.W.ok, w_len5 b.W⟩) bo)⟩
      · k_search "go"
        exact hodd _ _ _
    | and us =>
      have hl := b.len
      k_search "go"
      refine iteD (fun hl0 => ?_) fun hl0 => ?_
      · k_search "go"
        refine cfx [.own _, .val _] [some 0] ⟨rfl, ⟨_, rfl⟩, rfl, trivial⟩ (by decide) ⟨_, _, _, _, rfl, by decide, by decide, fun n x2 y2 z2 e1 e2 => ?_⟩
        k_search "nro"
        k_search "go"
        refine iteD (fun hn => ?_) fun hn => ?_
        · rw [Tm.dL_map, List.length_map] at hl0
          k_search "go"
          refine cfx [.own _, .val _] [some 0] ⟨rfl, ⟨_, rfl⟩, rfl, trivial⟩ (by decide) ⟨_, _, _, _, rfl, by rw [Tm.dL_map, List.length_map]; omega, by rw [Tm.dL_map, List.length_map]; omega, fun n2 x3 y3 z3 e3 e4 => ?_⟩
          rw [Tm.dL_map, List.length_map] at e4
          obtain ⟨k, rfl⟩ : ∃ k : Nat, n2 = k := ⟨n2.toNat, by omega⟩
          have hk : k < us.length := by omega
          have hu : us[k]? = some us[k] := List.getElem?_eq_getElem hk
          have hat : atI (Tm.dL us) (k : Int) = some us[k].d := atI_nat (by rw [Tm.dL_map, List.getElem?_map, hu]; rfl)
          have dl : (Tm.dL us).length = us.length := by rw [Tm.dL_map, List.length_map]
          k_search "nro"
          k_search "go"
          refine ⟨fun q => ?_, ?_⟩
          · have q2 := q.2
            rw [HT.sIx_nat, dl] at q2
            omega
          k_search "go"
          refine cfx [.own _, .val _] [some 0] ⟨rfl, ⟨_, rfl⟩, rfl, trivial⟩ (by decide) ⟨us[k], _, _, _, rfl, b.and (List.getElem_mem hk), fun d x y z bo => ?_⟩
          k_search "nro"
          k_search "go"
          have ct : Pl.cutD (Tm.dL us) none (some (k : Int)) = (us.map Tm.d).take k := by rw [cut_take (by rw [dl]; omega), Tm.dL_map]
          have cd : Pl.cutD (Tm.dL us) (some ((k : Int) + 1)) none = (us.map Tm.d).drop (k + 1) := by rw [cut_drop (by rw [dl]; omega), Tm.dL_map]
          have lt : ((us.map Tm.d).take k).length = k := by rw [List.length_take, List.length_map]; omega
          have ld : ((us.map Tm.d).drop (k + 1)).length = us.length - (k + 1) := by rw [List.length_drop, List.length_map]
          rw [ct]
          refine ⟨by rw [lt]; simp; omega, ?_⟩
          k_search "go"
          refine ⟨fun q => ?_, ?_⟩
          · have q1 := q.1
            have e9 : HT.sIx (Tm.dL us).length 0 (some ((k : Int) + 1)) = min (k + 1) (Tm.dL us).length := HT.sIx_nat _ _ (k + 1)
            rw [e9, dl] at q1
            omega
          rw [cd]
          k_search "go"
          refine ⟨by rw [List.length_append, lt, ld]; simp; omega, ?_⟩
          k_search "go"
          have en : nods ((us.map Tm.d).take k) + nods ((us.map Tm.d).drop (k + 1)) + nod us[k].d ≤ nods (us.map Tm.d) := by
            have e : us.map Tm.d = (us.map Tm.d).take k ++ us[k].d :: (us.map Tm.d).drop (k + 1) := by
              have := (List.take_append_drop k (us.map Tm.d)).symm
              rw [List.drop_eq_getElem_cons (by rw [List.length_map]; exact hk)] at this
              rw [List.getElem_map] at this
              exact this
            have e2 := congrArg nods e
            rw [nods_app] at e2
            have e3 : nods (us[k].d :: (us.map Tm.d).drop (k + 1)) = nod us[k].d + nods ((us.map Tm.d).drop (k + 1)) := rfl
            omega
          exact ⟨_, _, ⟨rfl, _, rfl, rfl⟩, rfl, hQ _ _ _ _ (bo_and (tb_od b).ok hu bo (List.take_sublist _ _) (List.drop_sublist _ _) (by rw [lt, ld]; omega) en)⟩
        · k_search "go"
          exact hodd _ _ _
      · k_search "go"
        exact hodd _ _ _
end
set_option Elab.async false
set_option linter.all false
set_option maxRecDepth 100000
set_option maxHeartbeats 4000001
open PySem L2 LamX NdefX PyProof.Rows GenW Pl
variable {K : PySem.W.Frag}
/-- a term of the law -/
structure Ts (t : Tm) : Prop where
  good : t.good
  ht : t.ht ≤ 20
  cnt : t.cnt ≤ 200
theorem Ts.tb {t : Tm} (b : Ts t) : Tb 22 t := ⟨b.good, by have := b.ht; omega, by have := b.cnt; omega, by have := b.ht; omega⟩
theorem Ts.nf {t : Tm} (b : Ts t) : Ts t.nf := by
  have q := nf_bd t b.good
  exact ⟨q.good, Nat.le_trans q.ht b.ht, Nat.le_trans q.cnt b.cnt⟩
theorem Ts.some {t : Tm} (b : Ts t) {r : Str} (hr : W r) : Tb 22 (.some r t) := ⟨⟨hr, b.good⟩, by have := b.ht; show t.ht + 1 ≤ 22; omega, by have := b.cnt; show t.cnt + 1 ≤ 1000; omega, by have := b.ht; show t.ht + 1 ≤ 25; omega⟩
mutual
theorem okD_tm : ∀ t : Tm, t.good → t.cnt ≤ 1000 → okD t.d = true
  | .top, _, _ => by decide +kernel
  | .bot, _, _ => by decide +kernel
  | .name w, g, _ => by
    have e : okD (Tm.name w).d = (decide (2 ≤ 1000) && (PyData.strOk "name" && (PyData.strOk w && true))) := rfl
    rw [e, W.ok g]
    decide +kernel
  | .some r t, g, h => by
    have e : okD (Tm.some r t).d = (decide (3 ≤ 1000) && (PyData.strOk "some" && (PyData.strOk r && (okD t.d && true)))) := rfl
    rw [e, W.ok g.1, okD_tm t g.2 (by have : t.cnt + 1 ≤ 1000 := h; omega)]
    decide +kernel
  | .and ts, g, h => by
    have e : okD (Tm.and ts).d = (decide (2 ≤ 1000) && (PyData.strOk "and" && ((decide ((Tm.dL ts).length ≤ 1000) && okDs (Tm.dL ts)) && true))) := rfl
    have h : Tm.cntL ts + 1 ≤ 1000 := h
    have l := Tm.len_cntL ts
    have dl : decide ((Tm.dL ts).length ≤ 1000) = true := decide_eq_true (by rw [Tm.dL_map, List.length_map]; omega)
    rw [e, okD_tmL ts g (by omega), dl]
    decide +kernel
theorem okD_tmL : ∀ ts : List Tm, Tm.goodL ts → Tm.cntL ts ≤ 1000 → okDs (Tm.dL ts) = true
  | [], _, _ => rfl
  | t :: ts, g, h => by
    have h : t.cnt + Tm.cntL ts ≤ 1000 := h
    show (okD t.d && okDs (Tm.dL ts)) = true
    rw [okD_tm t g.1 (by omega), okD_tmL ts g.2 (by omega)]
    rfl
end
theorem Ts.same {t : Tm} (b : Ts t) : okD t.d = true ∧ t.d.depth < 64 := ⟨okD_tm t b.good (by have := b.cnt; omega), by have := depth_tm t; have := b.ht; omega⟩
theorem ts_row {t : Tm} (b : Ts t) : okD (.list (t.raw.map Tm.d)) = true ∧ (PyData.list (t.raw.map Tm.d)).depth < 64 := by
  have tb := b.tb
  have l := tb.rlen
  have h1 : ∀ us : List Tm, (∀ u ∈ us, u.good ∧ u.cnt ≤ 1000 ∧ u.ht ≤ 20) → okDs (us.map Tm.d) = true ∧ PyData.depthAll (us.map Tm.d) ≤ 40 := by
    intro us
    induction us with
    | nil => intro _; exact ⟨rfl, Nat.zero_le _⟩
    | cons u us ih =>
      intro h
      obtain ⟨a1, a2⟩ := ih fun x hx => h x (List.mem_cons_of_mem _ hx)
      obtain ⟨g, c, q⟩ := h u List.mem_cons_self
      refine ⟨?_, ?_⟩
      · show (okD u.d && okDs (us.map Tm.d)) = true
        rw [okD_tm u g c, a1]; rfl
      · show max u.d.depth (PyData.depthAll (us.map Tm.d)) ≤ 40
        have := depth_tm u
        omega
  obtain ⟨a1, a2⟩ := h1 t.raw fun u m => ⟨(tb.raw m).good, (tb.raw m).cnt, Nat.le_trans (Tm.raw_ht t u m) b.ht⟩
  refine ⟨?_, ?_⟩
  · show (decide ((t.raw.map Tm.d).length ≤ 1000) && okDs (t.raw.map Tm.d)) = true
    rw [a1, decide_eq_true (by rw [List.length_map]; exact l)]
    rfl
  · show PyData.depthAll (t.raw.map Tm.d) + 1 < 64
    omega
theorem same_int {i : Int} : okD (.int i) = true ∧ (PyData.int i).depth < 64 := ⟨rfl, by show 0 < 64; decide⟩
theorem same_bool {i : Bool} : okD (.bool i) = true ∧ (PyData.bool i).depth < 64 := ⟨rfl, by show 0 < 64; decide⟩
theorem okOs_allE {as : List D} (h : ∀ a ∈ as, okO a = true) : okOs as = true := by
  induction as with
  | nil => rfl
  | cons a as ih =>
    simp only [okOs, Bool.and_eq_true]
    exact ⟨h a (.head _), ih fun x m => h x (.tail _ m)⟩
theorem opd_niSL {x : Str} {ns : List Str} {P : R → Prop} (p : P (.val (.bool (!decide (x ∈ ns))))) : OpD K (rIn K true) (.str x) (.list (ns.map .str)) P := fun H v w Q h1 h2 o => by
  cases h1
  obtain ⟨a, xs, rfl, hs, ha⟩ := dp_l h2
  rw [da_strs ha] at hs
  refine ⟨a, _, rfl, .inl hs, rfl, Pl.flat_strs ns, ?_⟩
  rw [if_pos rfl, inV_strs]
  exact o.val _ _ (.bl _) p
theorem okO_strs {ws : List Str} (hw : ∀ x ∈ ws, W x) : okOs (ws.map .str) = true := okOs_allE fun d m => by
  obtain ⟨x, hx, rfl⟩ := List.mem_map.mp m
  simp only [okO, Bool.and_eq_true, decide_eq_true_eq]
  exact ⟨(hw x hx).ok, w_len5 (hw x hx)⟩
theorem okO_strL {ws : List Str} (hw : ∀ x ∈ ws, W x) (hl : ws.length ≤ 1000) : okO (.list (ws.map .str)) = true := by
  simp only [okO, Bool.and_eq_true, decide_eq_true_eq, List.length_map]
  exact ⟨hl, okO_strs hw⟩
theorem okO_strT {ws : List Str} (hw : ∀ x ∈ ws, W x) (hl : ws.length ≤ 1000) : okO (.tuple (ws.map .str)) = true := by
  simp only [okO, Bool.and_eq_true, decide_eq_true_eq, List.length_map]
  exact ⟨hl, okO_strs hw⟩
theorem namesL {ws : List Str} (hw : ∀ x ∈ ws, W x) (nd : ws.Nodup) : namesB (.list (ws.map .str)) = some ws := by
  show wds _ = _
  rw [wds_strs hw, if_pos nd]
theorem namesT {ws : List Str} (hw : ∀ x ∈ ws, W x) (nd : ws.Nodup) : namesB (.tuple (ws.map .str)) = some ws := by
  show wds _ = _
  rw [wds_strs hw, if_pos nd]
theorem namesL_dup {ws : List Str} (hw : ∀ x ∈ ws, W x) (nd : ¬ ws.Nodup) : namesB (.list (ws.map .str)) = none := by
  show wds _ = _
  rw [wds_strs hw, if_neg nd]
theorem sh_strs {ws : List Str} (hw : ∀ x ∈ ws, W x) : SeqAt.shaped (.list (ws.map .str)) = true := by
  unfold SeqAt.shaped
  have h1 : (PyData.list (ws.map .str)).canLay0 = true := by
    have : PyData.canLayAll0 (ws.map .str) = true := by
      induction ws with
      | nil => rfl
      | cons x xs ih =>
        simp only [List.map_cons, PyData.canLayAll0, Bool.and_eq_true]
        exact ⟨by simpa [PyData.canLay0] using (hw x (.head _)).ok, ih fun y m => hw y (.tail _ m)⟩
    simpa [PyData.canLay0] using this
  have h2 : PyData.depthAll (ws.map PyData.str) = 0 := by
    clear hw h1
    induction ws with
    | nil => rfl
    | cons x xs ih => show max 0 (PyData.depthAll (xs.map .str)) = 0; omega
  have h3 : (PyData.list (ws.map .str)).depth = PyData.depthAll (ws.map PyData.str) + 1 := rfl
  rw [h1, h3, h2]
  decide
theorem eqv_strs : ∀ ws : List Str, PyData.eqvAll (ws.map .str) (ws.map .str) = true
  | [] => by simp [PyData.eqvAll]
  | x :: xs => by
    simp only [List.map_cons, PyData.eqvAll, Bool.and_eq_true]
    exact ⟨by rw [eqv_str]; exact decide_eq_true rfl, eqv_strs xs⟩
theorem eqv_strL (ws : List Str) : PyData.eqv (.list (ws.map .str)) (.list (ws.map .str)) = true := by
  have := eqv_strs ws
  simpa [PyData.eqv] using this
theorem okD_strs {ws : List Str} (hw : ∀ x ∈ ws, W x) : okDs (ws.map .str) = true := by
  induction ws with
  | nil => rfl
  | cons x xs ih =>
    simp only [List.map_cons, okDs, Bool.and_eq_true]
    exact ⟨(hw x (.head _)).ok, ih fun y m => hw y (.tail _ m)⟩
theorem depth_strs (ws : List Str) : PyData.depthAll (ws.map PyData.str) = 0 := by
  induction ws with
  | nil => rfl
  | cons x xs ih => show max 0 (PyData.depthAll (xs.map .str)) = 0; omega
set_option Elab.async false
set_option linter.all false
set_option maxRecDepth 100000
set_option maxHeartbeats 4000001
open PySem L2 LamX NdefX PyProof.Rows GenW Pl
section
local macro_rules | `(tactic| k_search "g2") => `(tactic| with_reducible refine ex_catLX ?_)
local macro_rules | `(tactic| k_search "g3") => `(tactic| with_reducible refine exa_cons (ex_fz (te := tOp (rCatS _) _ _) ?_))
variable {P : Program} {w : World} {K : PySem.W.Frag} {mg : Str → Option Value} {base : Heap} {T : List NTab} {ts : List Str}
def F_lover : FS := fun as Q => ∃ (t : Tm) (x y z : Int), as = [.own (bx x y z), .val t.d, .val (.list ((wsort t.nf.nms).map .str))] ∧ Tb 22 t ∧ ∀ x y z, Q (.val (.bool true)) [bx x y z]
/-- is_over of a list of different words -/
theorem over_list {t : Tm} {ws : List Str} {Q : R → List OV → Prop} (b : Tb 22 t) (hw : ∀ x ∈ ws, W x) (nd : ws.Nodup) (hl : ws.length ≤ 1000) (h : Q (.val (.bool (over t ws))) []) : (F_over K 22).nx [.val t.d, .val (.list (ws.map .str))] Q :=
  .inl ⟨t, _, rfl, b, okO_strL hw hl, by rw [namesL hw nd]; exact h⟩
theorem over_tup {t : Tm} {ws : List Str} {Q : R → List OV → Prop} (b : Tb 22 t) (hw : ∀ x ∈ ws, W x) (nd : ws.Nodup) (hl : ws.length ≤ 1000) (h : Q (.val (.bool (over t ws))) []) : (F_over K 22).nx [.val t.d, .val (.tuple (ws.map .str))] Q :=
  .inl ⟨t, _, rfl, b, okO_strT hw hl, by rw [namesT hw nd]; exact h⟩
theorem cut_mapS (ws : List Str) (k : Nat) : ∃ ms : List Str, Pl.cutD (ws.map .str) none (some (k : Int)) = ms.map .str ∧ ms.Sublist ws ∧ ms.length ≤ k := by
  have h1 : HT.sIx (ws.map PyData.str).length 0 none = 0 := rfl
  have h2 : HT.sIx (ws.map PyData.str).length (ws.map PyData.str).length (some (k : Int)) = min k (ws.map PyData.str).length := HT.sIx_nat _ _ _
  unfold Pl.cutD
  rw [← List.map_drop, ← List.map_take]
  refine ⟨_, rfl, (List.take_sublist _ _).trans (List.drop_sublist _ _), ?_⟩
  rw [h1, h2, List.length_take]
  omega
/-- refused as a list of names -/
structure LR (d : D) : Prop where
  ok : okO d = true
  no : namesB d = none
theorem lr_dec {d : D} (h : (okO d && (namesB d).isNone) = true) : LR d := by
  simp only [Bool.and_eq_true, Option.isNone_iff_eq_none] at h
  exact ⟨h.1, h.2⟩
theorem lr_end {fs : List Str} (hw : ∀ x ∈ fs, W x) (hl : fs.length ≤ 900) {x : Str} (hx : okO (.str x) = true) (nx : wB x = false) : LR (.list (fs.map .str ++ [.str x])) := by
  refine ⟨?_, wds_none (List.mem_append_right _ (List.mem_singleton.mpr rfl)) nx⟩
  simp only [okO, Bool.and_eq_true, decide_eq_true_eq]
  exact ⟨by rw [List.length_append, List.length_map]; simp; omega, okOs_app (okO_strs hw) (by simp only [okOs, hx, Bool.and_self])⟩
theorem w_a : W "a" := wB_W.mp (by decide +kernel)
theorem lr_two {gs : List Str} (hw : ∀ x ∈ gs, W x) (hl : gs.length ≤ 900) : LR (.list ([PyData.str "a"] ++ gs.map .str ++ [.str "a"])) := by
  have e : [PyData.str "a"] ++ gs.map .str ++ [.str "a"] = ([("a" : Str)] ++ gs ++ [("a" : Str)]).map .str := by simp
  have hw2 : ∀ x ∈ ([("a" : Str)] ++ gs ++ [("a" : Str)]), W x := fun x m => by
    rcases List.mem_append.mp m with m | m
    · rcases List.mem_append.mp m with m | m
      · rw [List.mem_singleton.mp m]; exact w_a
      · exact hw x m
    · rw [List.mem_singleton.mp m]; exact w_a
  rw [e]
  refine ⟨okO_strL hw2 (by simp; omega), namesL_dup hw2 fun nd => ?_⟩
  rw [List.nodup_append] at nd
  exact nd.2.2 "a" (by simp) "a" (by simp) rfl
theorem lr_res {x : Str} (hx : x ∈ reserved) : LR (.list [.str x]) := by
  have h := res_okO x hx
  refine ⟨by simp only [okO, okOs, Bool.and_eq_true, decide_eq_true_eq, Bool.and_true, List.length_cons, List.length_nil] at h ⊢; exact ⟨by decide, h⟩, wds_none (.head _) ?_⟩
  exact Bool.eq_false_iff.mpr fun q => (wB_W.mp q).free hx
def overMenu (fs gs : List Str) (u : Str) : List D := [.list (fs.map .str ++ [.str "A"]), .list ([PyData.str "a"] ++ gs.map .str ++ [.str "a"]), .str "ab", .none, .list [.str "b", .none], .list [.str u], .int 5, .list [.str "c", .list [.str "a"]]] ++
  [.list [.str ""], .list (fs.map .str ++ [.str (repS "b" 13)]), .bool true, .tuple [.str "a", .str "a"], .str "", .list [.int 1]]
theorem over_menu {fs gs : List Str} {u : Str} (hf : ∀ x ∈ fs, W x) (hg : ∀ x ∈ gs, W x) (lf : fs.length ≤ 900) (lg : gs.length ≤ 900) (hu : u ∈ reserved) : ∀ d ∈ overMenu fs gs u, LR d :=
  List.forall_mem_cons.mpr ⟨lr_end hf lf (by decide +kernel) (by decide +kernel), List.forall_mem_cons.mpr ⟨lr_two hg lg, List.forall_mem_cons.mpr ⟨lr_dec (by decide +kernel), List.forall_mem_cons.mpr ⟨lr_dec (by decide +kernel), List.forall_mem_cons.mpr ⟨lr_dec (by decide +kernel),
  List.forall_mem_cons.mpr ⟨lr_res hu, List.forall_mem_cons.mpr ⟨lr_dec (by decide +kernel), List.forall_mem_cons.mpr ⟨lr_dec (by decide +kernel), List.forall_mem_cons.mpr ⟨lr_dec (by decide +kernel),
  List.forall_mem_cons.mpr ⟨lr_end hf lf (by decide +kernel) (by decide +kernel), List.forall_mem_cons.mpr ⟨lr_dec (by decide +kernel), List.forall_mem_cons.mpr ⟨lr_dec (by decide +kernel), List.forall_mem_cons.mpr ⟨lr_dec (by decide +kernel), List.forall_mem_cons.mpr ⟨lr_dec (by decide +kernel),
  fun _ m => nomatch m⟩⟩⟩⟩⟩⟩⟩⟩⟩⟩⟩⟩⟩⟩
theorem ok_lover (c : Al K mg base ds fr ts cs) (n1 n2 n3 n4 : Nat) (h__law_same : OkF P w K mg base T n1 "_law_same" ["actual", "due"] (F_same 64)) (h_is_over : OkXF P w K mg base T n2 "is_over" ["term", "names"] (F_over K 22))
    (h__law_word : OkF P w K mg base T n3 "_law_word" ["box"] F_word) (h__law_take : OkF P w K mg base T 1 "_law_take" ["box", "many"] F_take) (h__law_reserved : OkF P w K mg base T 1 "_law_reserved" [] F_reserved)
    (h__law_list_refused : OkF P w K mg base T n4 "_law_list_refused" ["term", "value"] F_lrefused) : OkF P w K mg base T (max n1 (max n2 (max n3 n4)) + 2) "_law_over" ["box", "term", "listed"] F_lover := by
  have nd := sc__law_over.nd
  have kTOP := c.cs _ (.head _)
  have kBOTTOM := c.cs _ (.tail _ (.head _))
  have kRESERVED := c.cs _ (.tail _ (.tail _ (.tail _ (.tail _ (.tail _ (.head _))))))
  refine ok_of c (.tail _ (.tail _ (.tail _ (.tail _ (.tail _ (.tail _ (.tail _ (.tail _ (.tail _ (.tail _ (.tail _ (.tail _ (.tail _ (.tail _ (.tail _ (.tail _ (.tail _ (.tail _ (.tail _ (.tail _ (.tail _ (.tail _ (.tail _ (.tail _ (.tail _ (.tail _ (.tail _ (.tail _ (.tail _ (.tail _ (.tail _ (.tail _ (.tail _ (.tail _ (.tail _ (.tail _ (.tail _ (.tail _ (.tail _ (.tail _ (.tail _ (.tail _ (.tail _ (.tail _ (.tail _ (.tail _ (.tail _ (.tail _ (.tail _ (.tail _ (.tail _ (.tail _ (.tail _ (.head _)))))))))))))))))))))))))))))))))))))))))))))))))))))) (fun _ _ _ _ _ _ us hl => match us, hl with | [_, _, _], _ => rfl) sc__law_over (fun as Q h => by first | (obtain ⟨_, rfl, _⟩ := h; rfl) | (obtain ⟨_, _, rfl, _⟩ := h; rfl) | (obtain ⟨_, _, _, rfl, _⟩ := h; rfl) | (obtain ⟨_, _, _, _, rfl, _⟩ := h; rfl) | (obtain ⟨_, _, _, _, _, rfl, _⟩ := h; rfl) | (obtain ⟨_, _, _, _, _, _, rfl, _⟩ := h; rfl) | (obtain ⟨_, _, _, _, _, _, _, rfl, _⟩ := h; rfl) | (obtain ⟨_, _, _, _, _, _, _, _, rfl, _⟩ := h; rfl) | (obtain ⟨_, _, _, _, _, _, _, _, _, rfl, _⟩ := h; rfl) | (obtain ⟨rfl, _⟩ := h; rfl)) fun f cdv A outer s H E hr as Q qs hF hq => ?_
  obtain ⟨t, x, y, z, rfl, b, hQ⟩ := hF
  obtain ⟨p, rfl⟩ := List.length_eq_one_iff.mp hq
  refine ⟨_, (pss_cons (ps_set (i := 3) nd rfl (Or.inl rfl) (pe_listRev (K0 := K) rfl rfl (c.fr _ (.tail _ (.tail _ (.tail _ (.tail _ (.tail _ (.head _))))))) rfl (c.fr _ (.tail _ (.tail _ (.tail _ (.tail _ (.tail _ (.tail _ (.tail _ (.tail _ (.tail _ (.tail _ (.tail _ (.tail _ (.tail _ (.tail _ (.tail _ (.head _))))))))))))))))) (pv 2)))
    (pss_cons (ps_if (PW.pt (pw_or (pt_not (pt_val (pe_f h__law_same (hr.mono (by omega)) rfl (pa_cons (pe_fx h_is_over (hr.mono (by omega)) rfl (pa_cons (pv 1) (pa_cons (pv 3) pa_nil))) (pa_cons pe_bl pa_nil))))) (pw_or1 (pt_cmpR (r := rNeD K) (op_neD hr.units) (pv 3) (pe_listRev (K0 := K) rfl rfl (c.fr _ (.tail _ (.tail _ (.tail _ (.tail _ (.tail _ (.head _))))))) rfl (c.fr _ (.tail _ (.tail _ (.tail _ (.tail _ (.tail _ (.tail _ (.tail _ (.tail _ (.tail _ (.tail _ (.tail _ (.tail _ (.tail _ (.tail _ (.tail _ (.head _))))))))))))))))) (pv 2)) (nomark _))))) (pss_one (ps_ret pe_bl)) pss_nil)
    (pss_cons (ps_if (pt_not (pt_val (pe_f h__law_same (hr.mono (by omega)) rfl (pa_cons (pe_fx h_is_over (hr.mono (by omega)) rfl (pa_cons (pv 1) (pa_cons (pe_callTy (r := rTupOf K) call_tuple_of rfl (c.fr _ (.tail _ (.tail _ (.tail _ (.tail _ (.head _)))))) PyProof.Rows.boot_tuple (pa_cons (pv 2) pa_nil)) pa_nil))) (pa_cons pe_bl pa_nil))))) (pss_one (ps_ret pe_bl)) pss_nil)
    (pss_cons (ps_set (i := 4) nd rfl (Or.inl rfl) (pe_f h__law_word (hr.mono (by omega)) rfl (pa_cons (pv 0) pa_nil)))
    (pss_cons (ps_if (PW.pt (pw_and (pt_cmpR (r := rIn K true) op_notIn_seq (pv 4) (pv 2) rfl) (pw_and1 (pt_cmpR op_lt (pe_callB (r := Pl.rLen K) call_len rfl (c.fr _ (.tail _ (.tail _ (.tail _ (.head _))))) PySem.boot_len (pa_cons (pv 2) pa_nil)) pe_int (nomark _))))) (pss_cons (ps_set (i := 8) nd rfl (Or.inl rfl) (pe_f h__law_take (hr.mono (by omega)) rfl (pa_cons (pv 0) (pa_cons (pe_op op_add (pe_callB (r := Pl.rLen K) call_len rfl (c.fr _ (.tail _ (.tail _ (.tail _ (.head _))))) PySem.boot_len (pa_cons (pv 2) pa_nil)) pe_int) pa_nil))))
    (pss_cons (ps_if (pt_not (pt_val (pe_f h__law_same (hr.mono (by omega)) rfl (pa_cons (pe_fx h_is_over (hr.mono (by omega)) rfl (pa_cons (pv 1) (pa_cons (pe_op (r := rCatS K) op_catS (pe_op (r := rCatS K) op_catS (pe_slice (r := rSlL K) sl_list (pv 2) po_none (po_some (pv 8))) (pe_lst (pa_cons (pv 4) pa_nil))) (pe_slice (r := rSlL K) sl_list (pv 2) (po_some (pv 8)) po_none)) pa_nil))) (pa_cons pe_bl pa_nil))))) (pss_one (ps_ret pe_bl)) pss_nil)
    (pss_one (ps_if (pt_not (pt_val (pe_f h__law_same (hr.mono (by omega)) rfl (pa_cons (pe_fx h_is_over (hr.mono (by omega)) rfl (pa_cons (pv 1) (pa_cons (pe_lst (pa_cons (pv 4) pa_nil)) pa_nil))) (pa_cons (pe_cmpR op_eq (pe_callB (r := Pl.rLen K) call_len rfl (c.fr _ (.tail _ (.tail _ (.tail _ (.head _))))) PySem.boot_len (pa_cons (pv 2) pa_nil)) pe_int (nomark _)) pa_nil))))) (pss_one (ps_ret pe_bl)) pss_nil)))) pss_nil)
    (pss_cons (ps_if (pt_cmpR op_gt (pe_callB (r := Pl.rLen K) call_len rfl (c.fr _ (.tail _ (.tail _ (.tail _ (.head _))))) PySem.boot_len (pa_cons (pv 2) pa_nil)) pe_int (nomark _)) (pss_cons (ps_set (i := 8) nd rfl (Or.inl rfl) (pe_f h__law_take (hr.mono (by omega)) rfl (pa_cons (pv 0) (pa_cons (pe_callB (r := Pl.rLen K) call_len rfl (c.fr _ (.tail _ (.tail _ (.tail _ (.head _))))) PySem.boot_len (pa_cons (pv 2) pa_nil)) pa_nil))))
    (pss_one (ps_if (pt_not (pt_val (pe_f h__law_same (hr.mono (by omega)) rfl (pa_cons (pe_fx h_is_over (hr.mono (by omega)) rfl (pa_cons (pv 1) (pa_cons (pe_op (r := rCatS K) op_catS (pe_slice (r := rSlL K) sl_list (pv 2) po_none (po_some (pv 8))) (pe_slice (r := rSlL K) sl_list (pv 2) (po_some (pe_op op_add (pv 8) pe_int)) po_none)) pa_nil))) (pa_cons pe_bl pa_nil))))) (pss_one (ps_ret pe_bl)) pss_nil))) pss_nil)
    (pss_cons (ps_set (i := 5) nd rfl (Or.inl rfl) (pe_slice (r := rSlL K) sl_list (pv 2) po_none (po_some pe_int)))
    (pss_cons (ps_set (i := 6) nd rfl (Or.inl rfl) (pe_ix (r := rIxL K) ix_list (pe_f0 h__law_reserved (hr.mono (by omega)) rfl) (pe_f h__law_take (hr.mono (by omega)) rfl (pa_cons (pv 0) (pa_cons pe_int pa_nil))) (fun _ _ => rfl)))
    (pss_cons (ps_set (i := 7) nd rfl (Or.inl rfl) (pe_lst (pa_cons (pe_op (r := rCatS K) op_catS (pv 5) (pe_lst (pa_cons pe_str pa_nil))) (pa_cons (pe_op (r := rCatS K) op_catS (pe_op (r := rCatS K) op_catS (pe_lst (pa_cons pe_str pa_nil)) (pe_slice (r := rSlL K) sl_list (pv 5) po_none (po_some pe_int))) (pe_lst (pa_cons pe_str pa_nil))) (pa_cons pe_str (pa_cons pe_non (pa_cons (pe_lst (pa_cons pe_str (pa_cons pe_non pa_nil))) (pa_cons (pe_lst (pa_cons (pv 6) pa_nil)) (pa_cons pe_int (pa_cons (pe_lst (pa_cons pe_str (pa_cons (pe_lst (pa_cons pe_str pa_nil)) pa_nil))) pa_nil))))))))))
    (pss_cons (ps_set (i := 7) nd rfl (Or.inl rfl) (pe_op (r := rCatS K) op_catS (pv 7) (pe_lst (pa_cons (pe_lst (pa_cons pe_str pa_nil)) (pa_cons (pe_op (r := rCatS K) op_catS (pv 5) (pe_lst (pa_cons (pe_op op_mulS pe_str pe_int) pa_nil))) (pa_cons pe_bl (pa_cons (pe_tup (pa_cons pe_str (pa_cons pe_str pa_nil))) (pa_cons pe_str (pa_cons (pe_lst (pa_cons pe_int pa_nil)) pa_nil)))))))))
    (pss_one (ps_ret (pe_f h__law_list_refused (hr.mono (by omega)) rfl (pa_cons (pv 1) (pa_cons (pe_ix (r := rIxL K) ix_list (pv 7) (pe_f h__law_take (hr.mono (by omega)) rfl (pa_cons (pv 0) (pa_cons pe_int pa_nil))) (fun _ _ => rfl)) pa_nil))))))))))))))), ?_⟩
  have hov : ∀ vs : List Str, over t vs = (wsort t.nf.nms).all fun x => decide (x ∈ vs) := fun vs => rfl
  have hw : ∀ x ∈ wsort t.nf.nms, W x := fun x m => nms_W _ b.nf.good x (mem_wsort.mp m)
  have nd := wsort_nodup t.nf.nms
  have hl : (wsort t.nf.nms).length ≤ 1000 := Nat.le_trans (wsort_len _) (Nat.le_trans (nms_len _) b.nf.cnt)
  generalize wsort t.nf.nms = ws at hov hw nd hl ⊢
  show Ss K T _ [.own p _, .val _, .val _, .no, .no, .no, .no, .no, .no] _
  have hr : (ws.map PyData.str).reverse = ws.reverse.map .str := List.map_reverse.symm
  refine go_seq (go_set (ex_listRev (ex_var rfl ⟨_, rfl, imm_strs _, ?_⟩)))
  rw [hr]
  k_search "go"
  refine cv [.val _, .val _] ⟨rfl, ⟨_, _, rfl, rfl⟩, by simp, trivial⟩ (over_list b (fun x m => hw x (List.mem_reverse.mp m)) ((List.reverse_perm ws).nodup_iff.mpr nd) (by rw [List.length_reverse]; exact hl) ⟨rim rfl, ?_⟩)
  rw [hov, List.all_eq_true.mpr fun x m => decide_eq_true (List.mem_reverse.mpr m)]
  k_search "go"
  refine cv [.val _, .val _] ⟨rfl, rfl, trivial⟩ ⟨.bool true, rfl, same_bool.1, same_bool.2, rim rfl, ?_⟩
  k_search "go"
  refine ex_listRev (ex_var rfl ⟨_, rfl, imm_strs _, ?_⟩)
  rw [hr]
  refine ⟨_, _, ⟨_, _, rfl, rfl⟩, rfl, opd_neD (sh_strs fun x m => hw x (List.mem_reverse.mp m)) (sh_strs fun x m => hw x (List.mem_reverse.mp m)) ?_⟩
  rw [eqv_strL]
  k_search "go"
  refine cb_tupL (imm_strs _) ?_
  k_search "go"
  refine cv [.val _, .val _] ⟨rfl, rfl, trivial⟩ (over_tup b hw nd hl ⟨rim rfl, ?_⟩)
  rw [hov, List.all_eq_true.mpr fun x m => decide_eq_true m]
  k_search "go"
  refine cv [.val _, .val _] ⟨rfl, rfl, trivial⟩ ⟨.bool true, rfl, same_bool.1, same_bool.2, rim rfl, ?_⟩
  k_search "go"
  refine cx [.own _] [0] ⟨rfl, ⟨_, rfl⟩, trivial⟩ (by decide) ⟨_, _, _, rfl, fun v x1 y1 z1 wv => ⟨rim1 rfl rfl, ?_⟩⟩
  k_search "nrm"
  k_search "goe"
  rename_i ah
  refine go_cut (fun δ => ∃ (x y z : Int) (s : Sl), δ = [.own p (bx x y z), .val t.d, .val (.list (ws.map .str)), .own ah (.lst (ws.reverse.map .str)), .val (.str v), .no, .no, .no, s]) ?_ ?_
  · k_search "go"
    refine opd_niSL ⟨_, rfl, iteN (fun hn => ?_) fun hy => ?_⟩
    · k_search "go"
      rw [List.length_map]
      refine iteD (fun h6 => ?_) fun h6 => ?_
      · k_search "go"
        refine cx [.own _, .val _] [0] ⟨rfl, ⟨_, rfl⟩, rfl, trivial⟩ (by decide) ⟨_, _, _, _, rfl, by rw [List.length_map]; omega, by rw [List.length_map]; omega, fun n x2 y2 z2 e1 e2 => ⟨rim1 rfl rfl, ?_⟩⟩
        rw [List.length_map] at e2
        k_search "nrm"
        obtain ⟨k, rfl⟩ : ∃ k : Nat, n = k := ⟨n.toNat, by omega⟩
        have ct : Pl.cutD (ws.map PyData.str) none (some (k : Int)) = (ws.take k).map .str := by rw [cut_take (by rw [List.length_map]; omega), List.map_take]
        have cd : Pl.cutD (ws.map PyData.str) (some (k : Int)) none = (ws.drop k).map .str := by rw [cut_drop0 (by rw [List.length_map]; omega), List.map_drop]
        have e3 : (ws.take k).map PyData.str ++ [PyData.str v] = (ws.take k ++ [v]).map .str := by rw [List.map_append]; rfl
        have e4 : (ws.take k ++ [v]).map PyData.str ++ (ws.drop k).map .str = (ws.take k ++ [v] ++ ws.drop k).map .str := by rw [List.map_append (l₂ := ws.drop k)]
        have tk : (ws.take k).length ≤ 1000 := by rw [List.length_take]; omega
        have dk : (ws.drop k).length ≤ 1000 := by rw [List.length_drop]; omega
        have pm : (ws.take k ++ [v] ++ ws.drop k).Perm (v :: ws) := by
          rw [List.append_assoc]
          refine List.perm_middle.trans (List.Perm.cons v ?_)
          show (ws.take k ++ ws.drop k).Perm ws
          rw [List.take_append_drop]
        k_search "go"
        rw [ct]
        refine ⟨imm_strs _, ?_⟩
        k_search "go"
        refine ⟨by rw [List.length_map]; simp; omega, ?_⟩
        rw [e3]
        k_search "go"
        rw [cd]
        refine ⟨imm_strs _, ?_⟩
        k_search "go"
        refine ⟨by rw [List.length_map, List.length_map, List.length_append]; simp; omega, ?_⟩
        rw [e4]
        k_search "go"
        have n3 : (ws.take k ++ [v] ++ ws.drop k).Nodup := pm.nodup_iff.mpr (List.nodup_cons.mpr ⟨hn, nd⟩)
        refine cv [.val _, .val _] ⟨rfl, rfl, trivial⟩ (over_list b (fun x m => (List.mem_cons.mp (pm.mem_iff.mp m)).elim (fun e => e ▸ wv) (hw x)) n3 (by rw [pm.length_eq, List.length_cons]; omega) ⟨rim rfl, ?_⟩)
        rw [hov, List.all_eq_true.mpr fun x m => decide_eq_true (pm.mem_iff.mpr (.tail _ m))]
        k_search "go"
        refine cv [.val _, .val _] ⟨rfl, rfl, trivial⟩ ⟨.bool true, rfl, same_bool.1, same_bool.2, rim rfl, ?_⟩
        k_search "go"
        have e5 : over t [v] = decide (((ws.map PyData.str).length : Int) = 0) := by
          rw [hov, List.length_map]
          cases hws : ws with
          | nil => rfl
          | cons y ys =>
            have ny : y ≠ v := fun q => hn (by rw [hws, q]; exact .head _)
            have l : ¬ (((y :: ys).length : Int) = 0) := by simp only [List.length_cons]; omega
            rw [decide_eq_false l]
            exact List.all_eq_false.mpr ⟨y, .head _, by simpa using ny⟩
        refine cv [.val _, .val _] ⟨rfl, rfl, trivial⟩ (over_list (ws := [v]) b (fun x m => by rw [List.mem_singleton.mp m]; exact wv) (List.nodup_cons.mpr ⟨by simp, List.nodup_nil⟩) (by simp) ⟨rim rfl, ?_⟩)
        rw [e5]
        k_search "go"
        refine cv [.val _, .val _] ⟨rfl, rfl, trivial⟩ ⟨.bool _, rfl, same_bool.1, same_bool.2, rim rfl, ?_⟩
        k_search "go"
        exact ⟨_, _, _, _, rfl⟩
      · k_search "go"
        exact ⟨_, _, _, _, rfl⟩
    · k_search "go"
      exact ⟨_, _, _, _, rfl⟩
  rintro δ2 ⟨x2, y2, z2, s2, rfl⟩
  refine go_cut (fun δ => ∃ (x y z : Int) (s : Sl), δ = [.own p (bx x y z), .val t.d, .val (.list (ws.map .str)), .own ah (.lst (ws.reverse.map .str)), .val (.str v), .no, .no, .no, s]) ?_ ?_
  · k_search "go"
    rw [List.length_map]
    refine iteD (fun h0 => ?_) fun h0 => ?_
    · k_search "go"
      refine cx [.own _, .val _] [0] ⟨rfl, ⟨_, rfl⟩, rfl, trivial⟩ (by decide) ⟨_, _, _, _, rfl, by rw [List.length_map]; omega, by rw [List.length_map]; omega, fun n x2 y2 z2 e1 e2 => ⟨rim1 rfl rfl, ?_⟩⟩
      rw [List.length_map] at e2
      k_search "nrm"
      obtain ⟨k, rfl⟩ : ∃ k : Nat, n = k := ⟨n.toNat, by omega⟩
      have hk : k < ws.length := by omega
      have ct : Pl.cutD (ws.map PyData.str) none (some (k : Int)) = (ws.take k).map .str := by rw [cut_take (by rw [List.length_map]; omega), List.map_take]
      have cd : Pl.cutD (ws.map PyData.str) (some ((k : Int) + 1)) none = (ws.drop (k + 1)).map .str := by rw [cut_drop (by rw [List.length_map]; omega), List.map_drop]
      have e4 : (ws.take k).map PyData.str ++ (ws.drop (k + 1)).map .str = (ws.take k ++ ws.drop (k + 1)).map .str := by rw [List.map_append]
      have tk : (ws.take k).length ≤ 1000 := by rw [List.length_take]; omega
      have dk : (ws.drop (k + 1)).length ≤ 1000 := by rw [List.length_drop]; omega
      have pm : ws.Perm (ws[k] :: (ws.take k ++ ws.drop (k + 1))) := by
        have e := List.take_append_drop k ws
        rw [List.drop_eq_getElem_cons hk] at e
        have q : (ws.take k ++ ws[k] :: ws.drop (k + 1)).Perm (ws[k] :: (ws.take k ++ ws.drop (k + 1))) := List.perm_middle
        rwa [e] at q
      have n4 := List.nodup_cons.mp (pm.nodup_iff.mp nd)
      k_search "go"
      rw [ct]
      refine ⟨imm_strs _, ?_⟩
      k_search "go"
      rw [cd]
      refine ⟨imm_strs _, ?_⟩
      k_search "go"
      refine ⟨by rw [List.length_map, List.length_map]; omega, ?_⟩
      rw [e4]
      k_search "go"
      refine cv [.val _, .val _] ⟨rfl, rfl, trivial⟩ (over_list b (fun x m => hw x (pm.mem_iff.mpr (.tail _ m))) n4.2 (by have := pm.length_eq; rw [List.length_cons] at this; omega) ⟨rim rfl, ?_⟩)
      rw [hov, List.all_eq_false.mpr ⟨ws[k], List.getElem_mem hk, by rw [decide_eq_false n4.1]; exact Bool.false_ne_true⟩]
      k_search "go"
      refine cv [.val _, .val _] ⟨rfl, rfl, trivial⟩ ⟨.bool false, rfl, same_bool.1, same_bool.2, rim rfl, ?_⟩
      k_search "go"
      exact ⟨_, _, _, _, rfl⟩
    · k_search "go"
      exact ⟨_, _, _, _, rfl⟩
  rintro δ2 ⟨x2, y2, z2, s2, rfl⟩
  obtain ⟨fs, ef, sf, lf⟩ := cut_mapS ws 5
  obtain ⟨gs, eg, sg, lg⟩ := cut_mapS fs 3
  have ef : Pl.cutD (ws.map .str) none (some 5) = fs.map .str := ef
  have eg : Pl.cutD (fs.map .str) none (some 3) = gs.map .str := eg
  k_search "go"
  rw [ef]
  refine ⟨imm_strs _, ?_⟩
  k_search "go"
  refine cv [] trivial ⟨rfl, rimL (imm_strs _), ?_⟩
  k_search "go"
  refine cx [.own _, .val _] [0] ⟨rfl, ⟨_, rfl⟩, rfl, trivial⟩ (by decide) ⟨_, _, _, _, rfl, by decide, by decide, fun n x2 y2 z2 e1 e2 => ⟨rim1 rfl rfl, ?_⟩⟩
  k_search "nrm"
  obtain ⟨u, hu, hat⟩ := at_str (ws := reserved) e1 e2
  refine ⟨_, _, _, rfl, rfl, hat, .inl rfl, ?_⟩
  k_search "go"
  refine ⟨by rw [List.length_map]; simp; omega, ?_⟩
  k_search "go"
  rw [eg]
  refine ⟨imm_strs _, ?_⟩
  k_search "go"
  refine ⟨by rw [List.length_map]; simp; omega, ?_⟩
  k_search "go"
  refine ⟨by rw [List.length_append, List.length_map]; simp; omega, ?_⟩
  k_search "go"
  refine ⟨[_, _, _, _, _, _, _, _], ⟨rfl, rfl, rfl, rfl, rfl, rfl, rfl, rfl, trivial⟩, by k_search "len", ?_⟩
  k_search "goe"
  refine go_seq (go_set (ex_catLX (ex_bor rfl ?_)))
  k_search "goe"
  refine ⟨by rw [List.length_map]; simp; omega, ?_⟩
  k_search "goe"
  refine ⟨by k_search "len", ?_⟩
  with_reducible apply st_n
  · k_search "len"
  · intro _; k_search "set"
  intro ad
  show Ss K T _ [.own p _, .val _, .val _, .own _ _, .val _, .own _ _, .val _, .own ad (.lst (overMenu fs gs u)), s2] _
  have hm : ∀ d ∈ overMenu fs gs u, LR d := over_menu (fun x m => hw x (sf.subset m)) (fun x m => hw x (sf.subset (sg.subset m))) (by omega) (by omega) hu
  have hl14 : (overMenu fs gs u).length = 14 := rfl
  generalize overMenu fs gs u = ms at hm hl14 ⊢
  refine ss_frz (i := 7) rfl ?_
  k_search "nrm"
  refine go_ret (go_call (exa_cons (ex_var rfl (exa_cons (ex_ixL (ex_var rfl ?_))))))
  k_search "go"
  refine cx [.own _, .val _] [0] ⟨rfl, ⟨_, rfl⟩, rfl, trivial⟩ (by decide) ⟨_, _, _, _, rfl, by decide, by decide, fun n x2 y2 z2 e1 e2 => ⟨rim1 rfl rfl, ?_⟩⟩
  k_search "nrm"
  obtain ⟨k, rfl⟩ : ∃ k : Nat, n = k := ⟨n.toNat, by omega⟩
  have hk : k < ms.length := by omega
  have lr := hm _ (List.getElem_mem hk)
  refine ⟨ms, k, ms[k], rfl, rfl, atI_nat (List.getElem?_eq_getElem hk), .inr ⟨_, rfl⟩, ?_⟩
  k_search "go"
  refine cv [.val _, .val _] ⟨rfl, rfl, trivial⟩ ⟨t, _, rfl, b, lr.ok, lr.no, rim rfl, ?_⟩
  exact ⟨_, _, ⟨rfl, _, rfl, rfl⟩, rfl, hQ _ _ _⟩
end
set_option Elab.async false
set_option linter.all false
set_option maxRecDepth 100000
set_option maxHeartbeats 4000001
open PySem L2 LamX NdefX PyProof.Rows GenW Pl
variable {P : Program} {w : World} {K : PySem.W.Frag} {mg : Str → Option Value} {base : Heap} {T : List NTab} {ts : List Str}
def F_plain : FS := fun as Q => ∃ (t : Tm) (x y z : Int), as = [.own (bx x y z), .val t.d] ∧ Ts t ∧ ∀ x y z, Q (.val (.bool true)) [bx x y z]
theorem nf_and {t : Tm} {us : List Tm} (h : t.nf = .and us) : t.nf.raw = us := by
  cases hv : t.void with
  | true => rw [nf_bot.mpr hv] at h; cases h
  | false =>
    rw [nf_raw hv]
    rw [nf_row hv] at h
    have at1 : ∀ k ∈ t.row, k.atom = true := fun k m => pre_atom t k (row_mem.mp m).1
    generalize t.row = r at h at1
    match r, h, at1 with
    | [], h, _ => cases h
    | [k], h, at1 =>
      have h : k = .and us := h
      have := at1 k (.head _)
      rw [h] at this
      cases this
    | k :: l :: r, h, _ => injection h
theorem wordsD_ok {t : Tm} (b : Tb 22 t) : okD (wordsD t) = true ∧ (wordsD t).depth < 64 := by
  have hw : ∀ x ∈ wsort t.nf.nms, W x := fun x m => nms_W _ b.nf.good x (mem_wsort.mp m)
  have hr : ∀ x ∈ wsort t.nf.rls, W x := fun x m => rls_W _ b.nf.good x (mem_wsort.mp m)
  have l1 : (wsort t.nf.nms).length ≤ 1000 := Nat.le_trans (wsort_len _) (Nat.le_trans (nms_len _) b.nf.cnt)
  have l2 : (wsort t.nf.rls).length ≤ 1000 := Nat.le_trans (wsort_len _) (Nat.le_trans (rls_len _) b.nf.cnt)
  refine ⟨?_, ?_⟩
  · unfold wordsD
    simp only [okD, okDs, Bool.and_eq_true, decide_eq_true_eq, List.length_map, List.length_cons, List.length_nil, okD_strs hw, okD_strs hr]
    exact ⟨by decide, ⟨l1, trivial⟩, ⟨l2, trivial⟩, trivial⟩
  · show max (PyData.depthAll ((wsort t.nf.nms).map .str) + 1) (max (PyData.depthAll ((wsort t.nf.rls).map .str) + 1) 0) + 1 < 64
    rw [depth_strs, depth_strs]
    decide
theorem ok_plain (c : Al K mg base ds fr ts cs) (N n1 n2 n3 n4 n5 n6 n7 n8 n9 n10 n11 n12 : Nat) (l1 : n1 ≤ N) (l2 : n2 ≤ N) (l3 : n3 ≤ N) (l4 : n4 ≤ N) (l5 : n5 ≤ N) (l6 : n6 ≤ N) (l7 : n7 ≤ N) (l8 : n8 ≤ N) (l9 : n9 ≤ N) (l10 : n10 ≤ N) (l11 : n11 ≤ N) (l12 : n12 ≤ N) (h__law_same : OkF P w K mg base T n1 "_law_same" ["actual", "due"] (F_same 64)) (h__law_normal : OkF P w K mg base T n2 "_law_normal" ["term"] (F_nf 22)) (h_is_term : OkF P w K mg base T n3 "is_term" ["value"] F_ist)
    (h_normal : OkXF P w K mg base T n4 "normal" ["term"] (F_t K 22 fun t => .val t.nf.d)) (h_conjuncts : OkXF P w K mg base T n5 "conjuncts" ["term"] (F_t K 22 fun t => .new (.lst (t.nf.raw.map Tm.d)))) (h_size_of : OkXF P w K mg base T n6 "size_of" ["term"] (F_t K 22 fun t => .val (.int t.nf.sz)))
    (h_depth_of : OkXF P w K mg base T n7 "depth_of" ["term"] (F_t K 22 fun t => .val (.int t.nf.dp))) (h_words : OkXF P w K mg base T n8 "words" ["term"] (F_t K 22 fun t => .val (wordsD t))) (h__law_size : OkF P w K mg base T n9 "_law_size" ["term"] (F_nsize 22)) (h__law_depth : OkF P w K mg base T n10 "_law_depth" ["term"] (F_ndepth 22))
    (h__law_gather : OkF P w K mg base T n11 "_law_gather" ["term", "labels", "ties"] (F_gather 22)) (h__law_over : OkF P w K mg base T n12 "_law_over" ["box", "term", "listed"] F_lover) :
    OkF P w K mg base T (N + 4) "_law_plain" ["box", "term"] F_plain := by
  have nd := sc__law_plain.nd
  have kTOP := c.cs _ (.head _)
  have kBOTTOM := c.cs _ (.tail _ (.head _))
  have kRESERVED := c.cs _ (.tail _ (.tail _ (.tail _ (.tail _ (.tail _ (.head _))))))
  refine ok_of c (.tail _ (.tail _ (.tail _ (.tail _ (.tail _ (.tail _ (.tail _ (.tail _ (.tail _ (.tail _ (.tail _ (.tail _ (.tail _ (.tail _ (.tail _ (.tail _ (.tail _ (.tail _ (.tail _ (.tail _ (.tail _ (.tail _ (.tail _ (.tail _ (.tail _ (.tail _ (.tail _ (.tail _ (.tail _ (.tail _ (.tail _ (.tail _ (.tail _ (.tail _ (.tail _ (.tail _ (.tail _ (.tail _ (.tail _ (.tail _ (.tail _ (.tail _ (.tail _ (.tail _ (.tail _ (.tail _ (.tail _ (.tail _ (.tail _ (.tail _ (.tail _ (.tail _ (.tail _ (.tail _ (.head _))))))))))))))))))))))))))))))))))))))))))))))))))))))) (fun _ _ _ _ _ _ us hl => match us, hl with | [_, _], _ => rfl) sc__law_plain (fun as Q h => by first | (obtain ⟨_, rfl, _⟩ := h; rfl) | (obtain ⟨_, _, rfl, _⟩ := h; rfl) | (obtain ⟨_, _, _, rfl, _⟩ := h; rfl) | (obtain ⟨_, _, _, _, rfl, _⟩ := h; rfl) | (obtain ⟨_, _, _, _, _, rfl, _⟩ := h; rfl) | (obtain ⟨_, _, _, _, _, _, rfl, _⟩ := h; rfl) | (obtain ⟨_, _, _, _, _, _, _, rfl, _⟩ := h; rfl) | (obtain ⟨_, _, _, _, _, _, _, _, rfl, _⟩ := h; rfl) | (obtain ⟨_, _, _, _, _, _, _, _, _, rfl, _⟩ := h; rfl) | (obtain ⟨rfl, _⟩ := h; rfl)) fun f cdv A outer s H E hr as Q qs hF hq => ?_
  obtain ⟨t, x, y, z, rfl, b, hQ⟩ := hF
  obtain ⟨p, rfl⟩ := List.length_eq_one_iff.mp hq
  refine ⟨_, (pss_cons (ps_set (i := 2) nd rfl (Or.inl rfl) (pe_f h__law_normal (hr.mono (by omega)) rfl (pa_cons (pv 1) pa_nil)))
    (pss_cons (ps_if (PW.pt (pw_or (pt_not (pt_val (pe_f h__law_same (hr.mono (by omega)) rfl (pa_cons (pe_f h_is_term (hr.mono (by omega)) rfl (pa_cons (pv 1) pa_nil)) (pa_cons pe_bl pa_nil))))) (pw_or1 (pt_not (pt_val (pe_f h__law_same (hr.mono (by omega)) rfl (pa_cons (pe_fx h_normal (hr.mono (by omega)) rfl (pa_cons (pv 1) pa_nil)) (pa_cons (pv 2) pa_nil)))))))) (pss_one (ps_ret pe_bl)) pss_nil)
    (pss_cons (ps_set (i := 3) nd rfl (Or.inl rfl) (pe_lst (pa_cons (pv 2) pa_nil)))
    (pss_cons (ps_if (pt_cmpR op_eq (pe_ix (r := rIxT K) ix_tup (pv 2) pe_int (fun _ _ => rfl)) pe_str (nomark _)) (pss_one (ps_set (i := 3) nd rfl (Or.inl rfl) (pe_lst pa_nil))) pss_nil)
    (pss_cons (ps_if (pt_cmpR op_eq (pe_ix (r := rIxT K) ix_tup (pv 2) pe_int (fun _ _ => rfl)) pe_str (nomark _)) (pss_one (ps_set (i := 3) nd rfl (Or.inl rfl) (pe_callTy (r := rListOf K) call_list_of rfl (c.fr _ (.tail _ (.tail _ (.tail _ (.tail _ (.tail _ (.head _))))))) PyProof.Rows.boot_list (pa_cons (pe_ix (r := rIxT K) ix_tup (pv 2) pe_int (fun _ _ => rfl)) pa_nil)))) pss_nil)
    (pss_cons (ps_if (pt_not (pt_val (pe_f h__law_same (hr.mono (by omega)) rfl (pa_cons (pe_fx h_conjuncts (hr.mono (by omega)) rfl (pa_cons (pv 1) pa_nil)) (pa_cons (pv 3) pa_nil))))) (pss_one (ps_ret pe_bl)) pss_nil)
    (pss_cons (ps_if (PW.pt (pw_or (pt_not (pt_val (pe_f h__law_same (hr.mono (by omega)) rfl (pa_cons (pe_fx h_size_of (hr.mono (by omega)) rfl (pa_cons (pv 1) pa_nil)) (pa_cons (pe_f h__law_size (hr.mono (by omega)) rfl (pa_cons (pv 2) pa_nil)) pa_nil))))) (pw_or1 (pt_not (pt_val (pe_f h__law_same (hr.mono (by omega)) rfl (pa_cons (pe_fx h_depth_of (hr.mono (by omega)) rfl (pa_cons (pv 1) pa_nil)) (pa_cons (pe_f h__law_depth (hr.mono (by omega)) rfl (pa_cons (pv 2) pa_nil)) pa_nil)))))))) (pss_one (ps_ret pe_bl)) pss_nil)
    (pss_cons (ps_set (i := 4) nd rfl (Or.inl rfl) (pe_lst pa_nil))
    (pss_cons (ps_set (i := 5) nd rfl (Or.inl rfl) (pe_lst pa_nil))
    (pss_cons (ps_expr (pe_f h__law_gather (hr.mono (by omega)) rfl (pa_cons (pv 2) (pa_cons (pv 4) (pa_cons (pv 5) pa_nil)))))
    (pss_cons (ps_set (i := 6) nd rfl (Or.inl rfl) (pe_callB (r := rSortedS K P w) (cr_sortedS rfl hr.units) rfl (c.fr _ (.tail _ (.tail _ (.tail _ (.tail _ (.tail _ (.tail _ (.tail _ (.head _))))))))) PyProof.Rows.boot_sorted (pa_cons (pe_callTy (r := rSetS K P w) (cr_setS rfl) rfl (c.fr _ (.tail _ (.tail _ (.tail _ (.tail _ (.tail _ (.tail _ (.head _)))))))) PyProof.Rows.boot_set (pa_cons (pv 4) pa_nil)) pa_nil)))
    (pss_cons (ps_if (pt_not (pt_val (pe_f h__law_same (hr.mono (by omega)) rfl (pa_cons (pe_fx h_words (hr.mono (by omega)) rfl (pa_cons (pv 1) pa_nil)) (pa_cons (pe_tup (pa_cons (pv 6) (pa_cons (pe_callB (r := rSortedS K P w) (cr_sortedS rfl hr.units) rfl (c.fr _ (.tail _ (.tail _ (.tail _ (.tail _ (.tail _ (.tail _ (.tail _ (.head _))))))))) PyProof.Rows.boot_sorted (pa_cons (pe_callTy (r := rSetS K P w) (cr_setS rfl) rfl (c.fr _ (.tail _ (.tail _ (.tail _ (.tail _ (.tail _ (.tail _ (.head _)))))))) PyProof.Rows.boot_set (pa_cons (pv 5) pa_nil)) pa_nil)) pa_nil))) pa_nil))))) (pss_one (ps_ret pe_bl)) pss_nil)
    (pss_one (ps_ret (pe_f h__law_over (hr.mono (by omega)) rfl (pa_cons (pv 0) (pa_cons (pv 1) (pa_cons (pv 6) pa_nil)))))))))))))))))), ?_⟩
  show Ss K T _ [.own p _, .val _, .no, .no, .no, .no, .no] _
  have tb := b.tb
  have bn := b.nf
  k_search "go"
  refine cv [.val _] ⟨rfl, trivial⟩ ⟨t, rfl, tb, rim (Tm.imm_d _), ?_⟩
  k_search "go"
  refine cv [.val _] ⟨rfl, trivial⟩ ⟨t.d, rfl, tb_od tb, rim rfl, ?_⟩
  rw [tb_term tb]
  k_search "go"
  refine cv [.val _, .val _] ⟨rfl, rfl, trivial⟩ ⟨.bool true, rfl, same_bool.1, same_bool.2, rim rfl, ?_⟩
  k_search "go"
  refine cv [.val _] ⟨rfl, trivial⟩ (.inl ⟨t, rfl, tb, rim (Tm.imm_d _), ?_⟩)
  k_search "go"
  refine cv [.val _, .val _] ⟨rfl, rfl, trivial⟩ ⟨t.nf.d, rfl, bn.same.1, bn.same.2, rim rfl, ?_⟩
  k_search "goe"
  have hra : ∀ us, t.nf = .and us → t.nf.raw = us := fun us h => nf_and h
  refine go_seq ?_
  k_search "goe"
  refine go_cut (fun δ => ∃ a : Addr, δ = [.own p (bx x y z), .val t.d, .val t.nf.d, .own a (.lst (if t.nf = .top then [] else [t.nf.d])), .no, .no, .no]) ?_ ?_
  · cases hn : t.nf with
    | top =>
      rw [if_pos rfl]
      k_search "go"
      exact ⟨_, rfl⟩
    | bot =>
      rw [if_neg (by simp)]
      k_search "go"
      exact ⟨_, rfl⟩
    | name x =>
      rw [if_neg (by simp)]
      k_search "go"
      exact ⟨_, rfl⟩
    | some r u =>
      rw [if_neg (by simp)]
      k_search "go"
      exact ⟨_, rfl⟩
    | and us =>
      rw [if_neg (by simp)]
      k_search "go"
      exact ⟨_, rfl⟩
  rintro δ2 ⟨a1, rfl⟩
  refine go_cut (fun δ => ∃ a : Addr, δ = [.own p (bx x y z), .val t.d, .val t.nf.d, .own a (.lst (t.nf.raw.map Tm.d)), .no, .no, .no]) ?_ ?_
  · cases hn : t.nf with
    | top =>
      rw [if_pos rfl]
      k_search "go"
      exact ⟨_, rfl⟩
    | bot =>
      rw [if_neg (by simp)]
      k_search "go"
      exact ⟨_, rfl⟩
    | name x =>
      rw [if_neg (by simp)]
      k_search "go"
      exact ⟨_, rfl⟩
    | some r u =>
      rw [if_neg (by simp)]
      k_search "go"
      exact ⟨_, rfl⟩
    | and us =>
      have e := hra us hn
      rw [hn] at e
      rw [if_neg (by simp), e]
      k_search "go"
      exact ⟨_, by rw [Tm.dL_map]⟩
  rintro δ2 ⟨a2, rfl⟩
  refine ss_frz (i := 3) rfl ?_
  k_search "nrm"
  have rw1 := ts_row b
  have g1 : t.nf.nms.length ≤ 1000 := Nat.le_trans (nms_len _) bn.tb.cnt
  have g2 : t.nf.rls.length ≤ 1000 := Nat.le_trans (rls_len _) bn.tb.cnt
  have g3 := bn.tb.cnt
  have wok := wordsD_ok tb
  refine go_seq (go_if (et_not' (et_B (go_call (exa_cons (ex_fz (go_call (exa_cons (ex_var rfl (exa_nil (cv [.val _] ⟨rfl, trivial⟩ (.inl ⟨t, rfl, tb, rimL tm_imm, _, rfl, ?_⟩))))))))))))
  k_search "go"
  refine cv [.val _, .val _] ⟨rfl, rfl, trivial⟩ ⟨.list (t.nf.raw.map Tm.d), rfl, (ts_row bn).1, (ts_row bn).2, rim rfl, ?_⟩
  k_search "go"
  refine cv [.val _] ⟨rfl, trivial⟩ (.inl ⟨t, rfl, tb, rim rfl, ?_⟩)
  k_search "go"
  refine cv [.val _] ⟨rfl, trivial⟩ ⟨t.nf, rfl, bn.tb, rim rfl, ?_⟩
  k_search "go"
  refine cv [.val _, .val _] ⟨rfl, rfl, trivial⟩ ⟨.int _, rfl, same_int.1, same_int.2, rim rfl, ?_⟩
  k_search "go"
  refine cv [.val _] ⟨rfl, trivial⟩ (.inl ⟨t, rfl, tb, rim rfl, ?_⟩)
  k_search "go"
  refine cv [.val _] ⟨rfl, trivial⟩ ⟨t.nf, rfl, bn.tb, rim rfl, ?_⟩
  k_search "go"
  refine cv [.val _, .val _] ⟨rfl, rfl, trivial⟩ ⟨.int _, rfl, same_int.1, same_int.2, rim rfl, ?_⟩
  k_search "go"
  refine cx [.val _, .own _, .own _] [4, 5] ⟨rfl, rfl, ⟨_, rfl⟩, rfl, ⟨_, rfl⟩, trivial⟩ (by decide) ⟨t.nf, [], [], rfl, bn.tb, by simp; omega, by simp; omega, rim2 rfl (imm_strs _) (imm_strs _), ?_⟩
  k_search "nrm"
  k_search "goe"
  refine go_seq (go_set (ex_sortSetS (ex_bor rfl ⟨[] ++ t.nf.nms, .inl ⟨_, _, rfl, rfl⟩, by simpa using g1, fun L ks nd hm pm => ?_⟩)))
  have e1 := wsort_of (l := t.nf.nms) (ks := ks) (pm.nodup_iff.mpr nd) fun z => pm.mem_iff.trans (hm z)
  unfold ssort at e1
  rw [e1]
  k_search "goe"
  refine ss_frz (i := 6) rfl ?_
  k_search "nrm"
  refine go_seq (go_if (et_not' (et_B (go_call (exa_cons (ex_callF (exa_cons (ex_var rfl (exa_nil ⟨[.val t.d], [], ⟨rfl, trivial⟩, List.nodup_nil, .inl ⟨t, rfl, tb, ?_⟩⟩)))))))))
  refine exa_cons (ex_tup (exa_cons (ex_var rfl (exa_cons (ex_fz (ex_sortSetS (ex_bor rfl ⟨[] ++ t.nf.rls, .inl ⟨_, _, rfl, rfl⟩, by simpa using g2, fun L ks nd hm pm => ?_⟩)))))))
  have e2 := wsort_of (l := t.nf.rls) (ks := ks) (pm.nodup_iff.mpr nd) fun z => pm.mem_iff.trans (hm z)
  unfold ssort at e2
  rw [e2]
  k_search "go"
  dsimp only [putOo]
  refine cv [.val _, .val _] ⟨rfl, rfl, trivial⟩ ⟨wordsD t, rfl, wok.1, wok.2, rim rfl, ?_⟩
  k_search "go"
  refine cx [.own _, .val _, .val _] [0] ⟨rfl, ⟨_, rfl⟩, rfl, rfl, trivial⟩ (by decide) ⟨t, _, _, _, rfl, tb, fun x y z => ⟨rim1 rfl rfl, ?_⟩⟩
  k_search "nrm"
  exact ⟨_, _, ⟨rfl, _, rfl, rfl⟩, rfl, hQ _ _ _⟩
set_option Elab.async false
set_option linter.all false
set_option maxRecDepth 100000
set_option maxHeartbeats 4000001
open PySem L2 LamX NdefX PyProof.Rows GenW Pl
structure AS (x : Str) (n : Nat) : Prop where
  l : x.length ≤ n
  c : ∀ c ∈ x.cps.toList, c < 128
theorem AS.ok {x : Str} {n : Nat} (h : AS x n) (hn : n ≤ 100000) : okO (.str x) = true := by
  simp only [okO, Bool.and_eq_true, decide_eq_true_eq]
  refine ⟨?_, Nat.le_trans h.l hn⟩
  unfold PyData.strOk
  rw [Array.all_eq_true]
  intro i hi
  have hm : x.cps[i] ∈ x.cps.toList := Array.mem_toList_iff.mpr (Array.getElem_mem hi)
  have := h.c _ hm
  rw [decide_eq_true_eq]
  omega
theorem AS.app {x y : Str} {n m : Nat} (h : AS x n) (k : AS y m) : AS (x ++ y) (n + m) := by
  refine ⟨?_, fun c hc => ?_⟩
  · have h1 := h.l
    have h2 := k.l
    rw [len_tl] at *
    rw [tl_app, List.length_append]
    omega
  · rw [tl_app] at hc
    exact (List.mem_append.mp hc).elim (h.c c) (k.c c)
theorem AS.cut {x : Str} {n : Nat} (h : AS x n) (lo hi : Option Int) : AS (cutS x lo hi) n := by
  have e : (cutS x lo hi).cps.toList = (x.cps.toList.drop (HT.sIx x.length 0 lo)).take (HT.sIx x.length x.length hi - HT.sIx x.length 0 lo) := by unfold cutS; simp
  refine ⟨?_, fun c hc => ?_⟩
  · have := h.l
    rw [len_tl] at *
    rw [e, List.length_take, List.length_drop]
    omega
  · rw [e] at hc
    exact h.c c (List.mem_of_mem_drop (List.mem_of_mem_take hc))
theorem AS.mono {x : Str} {n m : Nat} (h : AS x n) (k : n ≤ m) : AS x m := ⟨Nat.le_trans h.l k, h.c⟩
def asB (x : Str) (n : Nat) : Bool := decide (x.length ≤ n) && x.cps.toList.all fun c => decide (c < 128)
theorem as_dec {x : Str} {n : Nat} (h : asB x n = true) : AS x n := by
  unfold asB at h
  simp only [Bool.and_eq_true, decide_eq_true_eq, List.all_eq_true] at h
  exact ⟨h.1, h.2⟩
theorem sg_128 : ∀ c ∈ Pl.signs.cps.toList, c < 128 := by decide
theorem upper_tl (x : Str) : (Txt.upper x).cps.toList = x.cps.toList.flatMap Unicode.upperOf := by
  unfold Txt.upper placed
  rw [Array.toList_flatten, Array.toList_mapIdx]
  rw [List.mapIdx_eq_zipIdx_map, List.map_map]
  have e : (Array.toList ∘ fun x : Nat × Nat => match x with | (a, i) => ((fun _ c => Unicode.upperOf c : Nat → Nat → List Nat) i a).toArray) = Unicode.upperOf ∘ Prod.fst := by
    funext ⟨a, i⟩
    simp
  rw [e, ← List.map_map, List.zipIdx_map_fst]
  rfl
theorem up_sg : ∀ c ∈ Pl.signs.cps.toList, (Unicode.upperOf c).length = 1 ∧ ∀ e ∈ Unicode.upperOf c, e < 128 := by decide +kernel
theorem as_up {x : Str} {n : Nat} (hl : x.length ≤ n) (h : ∀ c ∈ x.cps.toList, c ∈ Pl.signs.cps.toList) : AS (Txt.upper x) n := by
  refine ⟨?_, fun c hc => ?_⟩
  · rw [len_tl, upper_tl]
    have : ∀ l : List Nat, (∀ c ∈ l, c ∈ Pl.signs.cps.toList) → (l.flatMap Unicode.upperOf).length = l.length := by
      intro l
      induction l with
      | nil => intro _; rfl
      | cons a l ih =>
        intro h
        rw [List.flatMap_cons, List.length_append, ih fun c m => h c (.tail _ m), (up_sg a (h a (.head _))).1, List.length_cons]
        omega
    rw [this _ h, ← len_tl]
    exact hl
  · rw [upper_tl] at hc
    obtain ⟨a, ha, hc⟩ := List.mem_flatMap.mp hc
    exact (up_sg a (h a ha)).2 c hc
theorem rep_tl (x : Str) (k : Nat) : (repS x k).cps.toList = (List.replicate k x.cps.toList).flatten := by
  unfold repS
  have key : ∀ (l : List (Array Nat)) (a : Array Nat), (l.foldl (· ++ ·) a).toList = a.toList ++ (l.map Array.toList).flatten := by
    intro l
    induction l with
    | nil => intro a; simp
    | cons b l ih => intro a; rw [List.foldl_cons, ih]; simp
  rw [key]
  simp
theorem as_zeros {k n : Nat} (h : k ≤ n) : AS (repS "0" k) n := by
  have e : ("0" : Str).cps.toList = [48] := rfl
  refine ⟨?_, fun c hc => ?_⟩
  · rw [len_tl, rep_tl, e]
    have : (List.replicate k [48]).flatten.length = k := by
      rw [List.length_flatten, List.map_replicate, List.sum_replicate_nat]
      simp
    omega
  · rw [rep_tl, e] at hc
    obtain ⟨l, hl, hc⟩ := List.mem_flatten.mp hc
    rw [(List.mem_replicate.mp hl).2] at hc
    rw [List.mem_singleton.mp hc]
    decide
theorem W.as {x : Str} (h : W x) : AS x 12 := ⟨h.hi, fun c hc => sg_128 c (h.all c hc)⟩
theorem res_sg : ∀ x ∈ reserved, asB x 12 = true ∧ ∀ c ∈ x.cps.toList, c ∈ Pl.signs.cps.toList := by decide +kernel
set_option Elab.async false
set_option linter.all false
set_option maxRecDepth 100000
set_option maxHeartbeats 4000001
open PySem L2 LamX NdefX PyProof.Rows GenW Pl
section
local macro_rules | `(tactic| k_search "g2") => `(tactic| with_reducible refine ex_catLX ?_)
local macro_rules | `(tactic| k_search "g2") => `(tactic| with_reducible refine ex_slS ?_)
local macro_rules | `(tactic| k_search "g2") => `(tactic| with_reducible refine ex_up ?_)
local macro_rules | `(tactic| k_search "g7") => `(tactic| ((with_reducible refine cb_lenS ?_ ?_); (focus omega)))
local macro_rules | `(tactic| k_search "g6") => `(tactic| ((with_reducible refine opd_mulS ?_ ?_ ?_ ?_); (focus omega); (focus omega); (focus (show 1 * _ ≤ _; omega))))
local macro_rules | `(tactic| k_search "g9") => `(tactic| ((with_reducible refine And.intro (?_ : _ ≤ 1000000) ?_); (focus omega)))
local macro_rules | `(tactic| k_search "g9") => `(tactic| ((with_reducible refine And.intro (?_ : _ ≤ 100000) ?_); (focus exact Nat.le_of_ble_eq_true rfl)))
local macro_rules | `(tactic| k_search "g9") => `(tactic| refine ⟨[_, _, _, _, _, _, _, _, _], ⟨rfl, rfl, rfl, rfl, rfl, rfl, rfl, rfl, rfl, trivial⟩, by k_search "len", ?_⟩)
local macro_rules | `(tactic| k_search "g9") => `(tactic| refine ⟨[_, _, _, _, _, _, _], ⟨rfl, rfl, rfl, rfl, rfl, rfl, rfl, trivial⟩, by k_search "len", ?_⟩)
variable {P : Program} {w : World} {K : PySem.W.Frag} {mg : Str → Option Value} {base : Heap} {T : List NTab} {ts : List Str}
theorem od_str {x : Str} {n : Nat} (h : AS x n) (hn : n ≤ 100000 := by decide) : Od (.str x) := ⟨h.ok hn, Nat.zero_le _, by show 1 ≤ 50000; decide⟩
theorem od_fill {x : Str} (he : Od (.str x)) (p : D) (h : patB p = true) : Od (fill (.str x) p) := by
  unfold patB at h
  simp only [Bool.and_eq_true, decide_eq_true_eq] at h
  obtain ⟨h1, h2, h3, h4⟩ := h
  have z1 := dep_fill (e := .str x) p
  have z2 := nod_fill (e := .str x) p
  have z3 : hol p * nod (.str x) ≤ 2 * nod (.str x) := Nat.mul_le_mul_right _ h4
  have z4 : nod (.str x) = 1 := rfl
  have z5 : (PyData.str x).depth = 0 := rfl
  exact ⟨ok_fill he.ok p h1, by omega, by omega⟩
def valueMenu (v u : Str) : List D := [.str v, .str (v ++ repS "0" (12 - (v.length : Int)).toNat), .str (v ++ repS "0" (13 - (v.length : Int)).toNat), .str ("0" ++ cutS v none (some 11))] ++ [.str (Txt.upper v), .str (cutS v none (some (-1))), .str (cutS v none (some 3) ++ " "), .str (" " ++ cutS v none (some 3)), .str (v ++ "\n"), .str (cutS v none (some 6) ++ "_")] ++ [.str ("z" ++ cutS v none (some 5) ++ "Z"), .str u, .str (cutS (u ++ "s") none (some 12)), .str (Txt.upper u), .str (cutS u none (some (-1))), .str "", .none, .int 0, .int 1] ++ [.bool true, .bool false, .list [.str v], .tuple [.str v], .tuple [.str "name", .str v], .tuple [.str "name", .str u], .list [.str "name", .str v]] ++ [.tuple [.str "name", .list [.str v]], .tuple [.str "and", .tuple []], .tuple [.str "some", .str v, .str v], .tuple [.str "some", .str v, .tuple [.str "top"]]]
theorem value_menu {v u : Str} (wv : W v) (hu : u ∈ reserved) : ∀ d ∈ valueMenu v u, Od d := by
  have av := W.as wv
  have au := as_dec (res_sg u hu).1
  have su := (res_sg u hu).2
  have hv : Od (.str v) := od_str av
  have hu : Od (.str u) := od_str au
  exact List.forall_mem_cons.mpr ⟨(od_str av : Od (.str v)),
  List.forall_mem_cons.mpr ⟨(od_str (av.app (as_zeros (n := 20) (by omega))) : Od (.str (v ++ repS "0" (12 - (v.length : Int)).toNat))),
  List.forall_mem_cons.mpr ⟨(od_str (av.app (as_zeros (n := 20) (by omega))) : Od (.str (v ++ repS "0" (13 - (v.length : Int)).toNat))),
  List.forall_mem_cons.mpr ⟨(od_str ((as_dec (n := 1) (by decide +kernel)).app (av.cut none (some 11))) : Od (.str ("0" ++ cutS v none (some 11)))),
  List.forall_mem_cons.mpr ⟨(od_str (as_up wv.hi wv.all) : Od (.str (Txt.upper v))),
  List.forall_mem_cons.mpr ⟨(od_str (av.cut none (some (-1))) : Od (.str (cutS v none (some (-1))))),
  List.forall_mem_cons.mpr ⟨(od_str ((av.cut none (some 3)).app (as_dec (n := 1) (by decide +kernel))) : Od (.str (cutS v none (some 3) ++ " "))),
  List.forall_mem_cons.mpr ⟨(od_str ((as_dec (n := 1) (by decide +kernel)).app (av.cut none (some 3))) : Od (.str (" " ++ cutS v none (some 3)))),
  List.forall_mem_cons.mpr ⟨(od_str (av.app (as_dec (n := 1) (by decide +kernel))) : Od (.str (v ++ "\n"))),
  List.forall_mem_cons.mpr ⟨(od_str ((av.cut none (some 6)).app (as_dec (n := 1) (by decide +kernel))) : Od (.str (cutS v none (some 6) ++ "_"))),
  List.forall_mem_cons.mpr ⟨(od_str (((as_dec (n := 1) (by decide +kernel)).app (av.cut none (some 5))).app (as_dec (n := 1) (by decide +kernel))) : Od (.str ("z" ++ cutS v none (some 5) ++ "Z"))),
  List.forall_mem_cons.mpr ⟨(od_str au : Od (.str u)),
  List.forall_mem_cons.mpr ⟨(od_str ((au.app (as_dec (n := 1) (by decide +kernel))).cut none (some 12)) : Od (.str (cutS (u ++ "s") none (some 12)))),
  List.forall_mem_cons.mpr ⟨(od_str (as_up au.l su) : Od (.str (Txt.upper u))),
  List.forall_mem_cons.mpr ⟨(od_str (au.cut none (some (-1))) : Od (.str (cutS u none (some (-1))))),
  List.forall_mem_cons.mpr ⟨(od_fill hv (.str "") (by decide +kernel) : Od (.str "")),
  List.forall_mem_cons.mpr ⟨(od_fill hv (.none) (by decide +kernel) : Od (.none)),
  List.forall_mem_cons.mpr ⟨(od_fill hv (.int 0) (by decide +kernel) : Od (.int 0)),
  List.forall_mem_cons.mpr ⟨(od_fill hv (.int 1) (by decide +kernel) : Od (.int 1)),
  List.forall_mem_cons.mpr ⟨(od_fill hv (.bool true) (by decide +kernel) : Od (.bool true)),
  List.forall_mem_cons.mpr ⟨(od_fill hv (.bool false) (by decide +kernel) : Od (.bool false)),
  List.forall_mem_cons.mpr ⟨(od_fill hv (.list [.dict []]) (by decide +kernel) : Od (.list [.str v])),
  List.forall_mem_cons.mpr ⟨(od_fill hv (.tuple [.dict []]) (by decide +kernel) : Od (.tuple [.str v])),
  List.forall_mem_cons.mpr ⟨(od_fill hv (.tuple [.str "name", .dict []]) (by decide +kernel) : Od (.tuple [.str "name", .str v])),
  List.forall_mem_cons.mpr ⟨(od_fill hu (.tuple [.str "name", .dict []]) (by decide +kernel) : Od (.tuple [.str "name", .str u])),
  List.forall_mem_cons.mpr ⟨(od_fill hv (.list [.str "name", .dict []]) (by decide +kernel) : Od (.list [.str "name", .str v])),
  List.forall_mem_cons.mpr ⟨(od_fill hv (.tuple [.str "name", .list [.dict []]]) (by decide +kernel) : Od (.tuple [.str "name", .list [.str v]])),
  List.forall_mem_cons.mpr ⟨(od_fill hv (.tuple [.str "and", .tuple []]) (by decide +kernel) : Od (.tuple [.str "and", .tuple []])),
  List.forall_mem_cons.mpr ⟨(od_fill hv (.tuple [.str "some", .dict [], .dict []]) (by decide +kernel) : Od (.tuple [.str "some", .str v, .str v])),
  List.forall_mem_cons.mpr ⟨(od_fill hv (.tuple [.str "some", .dict [], .tuple [.str "top"]]) (by decide +kernel) : Od (.tuple [.str "some", .str v, .tuple [.str "top"]])),
  fun _ m => nomatch m⟩⟩⟩⟩⟩⟩⟩⟩⟩⟩⟩⟩⟩⟩⟩⟩⟩⟩⟩⟩⟩⟩⟩⟩⟩⟩⟩⟩⟩⟩
def F_values : FS := fun as Q => ∃ x y z : Int, as = [.own (bx x y z)] ∧ ∀ (ds : List D) (x y z : Int), (∀ d ∈ ds, Od d) → ds.length ≤ 100 → Q (.new (.lst ds)) [bx x y z]
theorem ok_values (c : Al K mg base ds fr ts cs) (n : Nat) (h__law_word : OkF P w K mg base T n "_law_word" ["box"] F_word) (h__law_take : OkF P w K mg base T 1 "_law_take" ["box", "many"] F_take) (h__law_reserved : OkF P w K mg base T 1 "_law_reserved" [] F_reserved) :
    OkF P w K mg base T (n + 2) "_law_values" ["box"] F_values := by
  have nd := sc__law_values.nd
  have kTOP := c.cs _ (.head _)
  have kBOTTOM := c.cs _ (.tail _ (.head _))
  have kRESERVED := c.cs _ (.tail _ (.tail _ (.tail _ (.tail _ (.tail _ (.head _))))))
  refine ok_of c (.tail _ (.tail _ (.tail _ (.tail _ (.tail _ (.tail _ (.tail _ (.tail _ (.tail _ (.tail _ (.tail _ (.tail _ (.tail _ (.tail _ (.tail _ (.tail _ (.tail _ (.tail _ (.tail _ (.tail _ (.tail _ (.tail _ (.tail _ (.tail _ (.tail _ (.tail _ (.tail _ (.tail _ (.tail _ (.tail _ (.tail _ (.tail _ (.tail _ (.tail _ (.tail _ (.tail _ (.tail _ (.tail _ (.tail _ (.tail _ (.tail _ (.tail _ (.tail _ (.tail _ (.tail _ (.tail _ (.tail _ (.tail _ (.tail _ (.tail _ (.tail _ (.tail _ (.tail _ (.tail _ (.tail _ (.head _)))))))))))))))))))))))))))))))))))))))))))))))))))))))) (fun _ _ _ _ _ _ us hl => match us, hl with | [_], _ => rfl) sc__law_values (fun as Q h => by first | (obtain ⟨_, rfl, _⟩ := h; rfl) | (obtain ⟨_, _, rfl, _⟩ := h; rfl) | (obtain ⟨_, _, _, rfl, _⟩ := h; rfl) | (obtain ⟨_, _, _, _, rfl, _⟩ := h; rfl) | (obtain ⟨_, _, _, _, _, rfl, _⟩ := h; rfl) | (obtain ⟨_, _, _, _, _, _, rfl, _⟩ := h; rfl) | (obtain ⟨_, _, _, _, _, _, _, rfl, _⟩ := h; rfl) | (obtain ⟨_, _, _, _, _, _, _, _, rfl, _⟩ := h; rfl) | (obtain ⟨_, _, _, _, _, _, _, _, _, rfl, _⟩ := h; rfl) | (obtain ⟨rfl, _⟩ := h; rfl)) fun f cdv A outer s H E hr as Q qs hF hq => ?_
  obtain ⟨x, y, z, rfl, hQ⟩ := hF
  obtain ⟨p, rfl⟩ := List.length_eq_one_iff.mp hq
  refine ⟨_, (pss_cons (ps_set (i := 1) nd rfl (Or.inl rfl) (pe_f h__law_word (hr.mono (by omega)) rfl (pa_cons (pv 0) pa_nil)))
    (pss_cons (ps_set (i := 2) nd rfl (Or.inl rfl) (pe_ix (r := rIxL K) ix_list (pe_f0 h__law_reserved (hr.mono (by omega)) rfl) (pe_f h__law_take (hr.mono (by omega)) rfl (pa_cons (pv 0) (pa_cons pe_int pa_nil))) (fun _ _ => rfl)))
    (pss_cons (ps_set (i := 3) nd rfl (Or.inl rfl) (pe_lst (pa_cons (pv 1) (pa_cons (pe_op op_add_str (pv 1) (pe_op op_mulS pe_str (pe_op op_sub pe_int (pe_callB (r := Pl.rLen K) call_len rfl (c.fr _ (.tail _ (.tail _ (.tail _ (.head _))))) PySem.boot_len (pa_cons (pv 1) pa_nil))))) (pa_cons (pe_op op_add_str (pv 1) (pe_op op_mulS pe_str (pe_op op_sub pe_int (pe_callB (r := Pl.rLen K) call_len rfl (c.fr _ (.tail _ (.tail _ (.tail _ (.head _))))) PySem.boot_len (pa_cons (pv 1) pa_nil))))) (pa_cons (pe_op op_add_str pe_str (pe_slice (r := rSlS) sl_str (pv 1) po_none (po_some pe_int))) pa_nil))))))
    (pss_cons (ps_set (i := 3) nd rfl (Or.inl rfl) (pe_op (r := rCatS K) op_catS (pv 3) (pe_lst (pa_cons (pe_up (pv 1)) (pa_cons (pe_slice (r := rSlS) sl_str (pv 1) po_none (po_some (pe_un un_neg pe_int))) (pa_cons (pe_op op_add_str (pe_slice (r := rSlS) sl_str (pv 1) po_none (po_some pe_int)) pe_str) (pa_cons (pe_op op_add_str pe_str (pe_slice (r := rSlS) sl_str (pv 1) po_none (po_some pe_int))) (pa_cons (pe_op op_add_str (pv 1) pe_str) (pa_cons (pe_op op_add_str (pe_slice (r := rSlS) sl_str (pv 1) po_none (po_some pe_int)) pe_str) pa_nil)))))))))
    (pss_cons (ps_set (i := 3) nd rfl (Or.inl rfl) (pe_op (r := rCatS K) op_catS (pv 3) (pe_lst (pa_cons (pe_op op_add_str (pe_op op_add_str pe_str (pe_slice (r := rSlS) sl_str (pv 1) po_none (po_some pe_int))) pe_str) (pa_cons (pv 2) (pa_cons (pe_slice (r := rSlS) sl_str (pe_op op_add_str (pv 2) pe_str) po_none (po_some pe_int)) (pa_cons (pe_up (pv 2)) (pa_cons (pe_slice (r := rSlS) sl_str (pv 2) po_none (po_some (pe_un un_neg pe_int))) (pa_cons pe_str (pa_cons pe_non (pa_cons pe_int (pa_cons pe_int pa_nil))))))))))))
    (pss_cons (ps_set (i := 3) nd rfl (Or.inl rfl) (pe_op (r := rCatS K) op_catS (pv 3) (pe_lst (pa_cons pe_bl (pa_cons pe_bl (pa_cons (pe_lst (pa_cons (pv 1) pa_nil)) (pa_cons (pe_tup (pa_cons (pv 1) pa_nil)) (pa_cons (pe_tup (pa_cons pe_str (pa_cons (pv 1) pa_nil))) (pa_cons (pe_tup (pa_cons pe_str (pa_cons (pv 2) pa_nil))) (pa_cons (pe_lst (pa_cons pe_str (pa_cons (pv 1) pa_nil))) pa_nil))))))))))
    (pss_one (ps_ret (pe_op (r := rCatS K) op_catS (pv 3) (pe_lst (pa_cons (pe_tup (pa_cons pe_str (pa_cons (pe_lst (pa_cons (pv 1) pa_nil)) pa_nil))) (pa_cons (pe_tup (pa_cons pe_str (pa_cons (pe_tup pa_nil) pa_nil))) (pa_cons (pe_tup (pa_cons pe_str (pa_cons (pv 1) (pa_cons (pv 1) pa_nil)))) (pa_cons (pe_tup (pa_cons pe_str (pa_cons (pv 1) (pa_cons (pe_tup (pa_cons pe_str pa_nil)) pa_nil)))) pa_nil)))))))))))))), ?_⟩
  show Ss K T _ [.own p _, .no, .no, .no] _
  k_search "go"
  refine cx [.own _] [0] ⟨rfl, ⟨_, rfl⟩, trivial⟩ (by decide) ⟨_, _, _, rfl, fun v x1 y1 z1 wv => ⟨rim1 rfl rfl, ?_⟩⟩
  k_search "nrm"
  k_search "go"
  refine cv [] trivial ⟨rfl, rimL (imm_strs _), ?_⟩
  k_search "go"
  refine cx [.own _, .val _] [0] ⟨rfl, ⟨_, rfl⟩, rfl, trivial⟩ (by decide) ⟨_, _, _, _, rfl, by decide, by decide, fun n x2 y2 z2 e1 e2 => ⟨rim1 rfl rfl, ?_⟩⟩
  k_search "nrm"
  obtain ⟨u, hu, hat⟩ := at_str (ws := reserved) e1 e2
  refine ⟨_, _, _, rfl, rfl, hat, .inl rfl, ?_⟩
  have av := W.as wv
  have au := as_dec (res_sg u hu).1
  have lv := av.l
  have lu := au.l
  have a12 : AS (repS "0" ((12 - (v.length : Int)).toNat)) 20 := as_zeros (by omega)
  have a13 : AS (repS "0" ((13 - (v.length : Int)).toNat)) 20 := as_zeros (by omega)
  have c11 := av.cut none (some 11)
  have cm1 := av.cut none (some (-1))
  have c3 := av.cut none (some 3)
  have c6 := av.cut none (some 6)
  have c5 := av.cut none (some 5)
  have um1 := au.cut none (some (-1))
  have as_ : AS "s" 1 := as_dec (by decide +kernel)
  have us := au.app as_
  have us12 := us.cut none (some 12)
  have vu := as_up wv.hi wv.all
  have uu := as_up au.l (res_sg u hu).2
  have l1 := a12.l
  have l2 := a13.l
  have l3 := c11.l
  have l4 := cm1.l
  have l5 := c3.l
  have l6 := c6.l
  have l7 := c5.l
  have l8 := um1.l
  have l9 := us.l
  have l10 : ("0" : Str).length = 1 := by decide +kernel
  have l11 : ("s" : Str).length = 1 := by decide +kernel
  have l12 : (" " : Str).length = 1 := by decide +kernel
  have l13 : ("\n" : Str).length = 1 := by decide +kernel
  have l14 : ("_" : Str).length = 1 := by decide +kernel
  have l15 : ("z" : Str).length = 1 := by decide +kernel
  have l16 : ("Z" : Str).length = 1 := by decide +kernel
  have l17 := ((as_dec (by decide +kernel) : AS "z" 1).app c5).l
  k_search "go"
  exact ⟨_, _, ⟨rfl, _, rfl, rfl⟩, rfl, hQ (valueMenu v u) _ _ _ (value_menu wv hu) (by show 30 ≤ 100; decide)⟩
end
set_option Elab.async false
set_option linter.all false
set_option maxRecDepth 100000
set_option maxHeartbeats 4000001
open PySem L2 LamX NdefX PyProof.Rows GenW Pl
section
local macro_rules | `(tactic| k_search "g2") => `(tactic| with_reducible refine go_callF (F := F_root _) ?_)
variable {P : Program} {w : World} {K : PySem.W.Frag} {mg : Str → Option Value} {base : Heap} {T : List NTab} {ts : List Str}
def F_goods : FS := fun as Q => ∃ (ns : List Int) (ls ties : List Str) (e x y z : Int) (t : Tm), as = [.val (.list (ns.map .int)), .val (pool ls ties e), .own (bx x y z), .val t.d] ∧ ns.length ≤ 63 ∧ PoolOk ls ties ∧ t.good ∧ t.ht ≤ 12 ∧ t.cnt ≤ 40 ∧ ∀ x y z, Q (.val (.bool true)) [bx x y z]
theorem ok_goods (c : Al K mg base ds fr ts cs) (N n1 n2 n3 n4 n5 n6 : Nat) (l1 : n1 ≤ N) (l2 : n2 ≤ N) (l3 : n3 ≤ N) (l4 : n4 ≤ N) (l5 : n5 ≤ N) (l6 : n6 ≤ N) (lN : 20 ≤ N)
    (h__law_same : OkF P w K mg base T n1 "_law_same" ["actual", "due"] (F_same 64)) (h__law_normal : OkF P w K mg base T n2 "_law_normal" ["term"] (F_nf 22)) (h__law_plain : OkF P w K mg base T n3 "_law_plain" ["box", "term"] F_plain)
    (h__law_joined : OkF P w K mg base T n4 "_law_joined" ["parts"] (F_joined 22)) (h_normal : OkXF P w K mg base T n5 "normal" ["term"] (F_t K 22 fun t => .val t.nf.d)) (h__law_root : OkF P w K mg base T n6 "_law_root" ["box", "pool", "deep", "room"] (F_root 12))
    (h__law_take : OkF P w K mg base T 1 "_law_take" ["box", "many"] F_take) (h__law_open : OkF P w K mg base T 2 "_law_open" ["script", "k"] F_open) :
    OkF P w K mg base T (N + 2) "_law_good_ones" ["script", "pool", "box", "term"] F_goods := by
  have nd := sc__law_good_ones.nd
  have kTOP := c.cs _ (.head _)
  have kBOTTOM := c.cs _ (.tail _ (.head _))
  have kRESERVED := c.cs _ (.tail _ (.tail _ (.tail _ (.tail _ (.tail _ (.head _))))))
  refine ok_of c (.tail _ (.tail _ (.tail _ (.tail _ (.tail _ (.tail _ (.tail _ (.tail _ (.tail _ (.tail _ (.tail _ (.tail _ (.tail _ (.tail _ (.tail _ (.tail _ (.tail _ (.tail _ (.tail _ (.tail _ (.tail _ (.tail _ (.tail _ (.tail _ (.tail _ (.tail _ (.tail _ (.tail _ (.tail _ (.tail _ (.tail _ (.tail _ (.tail _ (.tail _ (.tail _ (.tail _ (.tail _ (.tail _ (.tail _ (.tail _ (.tail _ (.tail _ (.tail _ (.tail _ (.tail _ (.tail _ (.tail _ (.tail _ (.tail _ (.tail _ (.tail _ (.tail _ (.tail _ (.tail _ (.tail _ (.tail _ (.head _))))))))))))))))))))))))))))))))))))))))))))))))))))))))) (fun _ _ _ _ _ _ us hl => match us, hl with | [_, _, _, _], _ => rfl) sc__law_good_ones (fun as Q h => by first | (obtain ⟨_, rfl, _⟩ := h; rfl) | (obtain ⟨_, _, rfl, _⟩ := h; rfl) | (obtain ⟨_, _, _, rfl, _⟩ := h; rfl) | (obtain ⟨_, _, _, _, rfl, _⟩ := h; rfl) | (obtain ⟨_, _, _, _, _, rfl, _⟩ := h; rfl) | (obtain ⟨_, _, _, _, _, _, rfl, _⟩ := h; rfl) | (obtain ⟨_, _, _, _, _, _, _, rfl, _⟩ := h; rfl) | (obtain ⟨_, _, _, _, _, _, _, _, rfl, _⟩ := h; rfl) | (obtain ⟨_, _, _, _, _, _, _, _, _, rfl, _⟩ := h; rfl) | (obtain ⟨rfl, _⟩ := h; rfl)) fun f cdv A outer s H E hr as Q qs hF hq => ?_
  obtain ⟨ns, ls, ties, e, x, y, z, t, rfl, hns, po, g, hh, hc, hQ⟩ := hF
  obtain ⟨p, rfl⟩ := List.length_eq_one_iff.mp hq
  refine ⟨_, (pss_cons (ps_if (pt_not (pt_val (pe_f h__law_plain (hr.mono (by omega)) rfl (pa_cons (pv 2) (pa_cons (pv 3) pa_nil))))) (pss_one (ps_ret pe_bl)) pss_nil)
    (pss_cons (ps_set (i := 4) nd rfl (Or.inl rfl) (pe_lst (pa_cons (pv 3) pa_nil)))
    (pss_cons (ps_for PassesOwn.never rfl (pi_range1 rfl (c.fr _ (.tail _ (.tail _ (.tail _ (.tail _ (.tail _ (.tail _ (.tail _ (.tail _ (.tail _ (.tail _ (.tail _ (.tail _ (.head _)))))))))))))) (pa_cons (pe_f h__law_take (hr.mono (by omega)) rfl (pa_cons (pv 2) (pa_cons pe_int pa_nil))) pa_nil)) (pg_name (i := 5) nd rfl (Or.inl rfl)) (pss_one (ps_expr (pe_bmK (K0 := K) PySem.F.plainAttrs_list PySem.F.slot_list_append PySem.F.type_list_append mt_append (pv 4) (pa_cons (pe_f h__law_root (hr.mono (by omega)) rfl (pa_cons (pe_f h__law_open (hr.mono (by omega)) rfl (pa_cons (pv 0) (pa_cons (pe_op op_add pe_int (pv 5)) pa_nil))) (pa_cons (pv 1) (pa_cons pe_int (pa_cons pe_int pa_nil))))) pa_nil)))))
    (pss_cons (ps_for PassesOwn.never rfl (pi_listK (K0 := K) (pe_lst (pa_cons pe_int (pa_cons pe_int (pa_cons (pe_callB (r := Pl.rLen K) call_len rfl (c.fr _ (.tail _ (.tail _ (.tail _ (.head _))))) PySem.boot_len (pa_cons (pv 4) pa_nil)) pa_nil))))) (pg_name (i := 6) nd rfl (Or.inl rfl)) (pss_one (ps_if (pt_not (pt_val (pe_f h__law_same (hr.mono (by omega)) rfl (pa_cons (pe_f h__law_joined (hr.mono (by omega)) rfl (pa_cons (pe_slice (r := rSlL K) sl_list (pv 4) po_none (po_some (pv 6))) pa_nil)) (pa_cons (pe_f h__law_normal (hr.mono (by omega)) rfl (pa_cons (pe_tup (pa_cons pe_str (pa_cons (pe_callTy (r := rTupOf K) call_tuple_of rfl (c.fr _ (.tail _ (.tail _ (.tail _ (.tail _ (.head _)))))) PyProof.Rows.boot_tuple (pa_cons (pe_slice (r := rSlL K) sl_list (pv 4) po_none (po_some (pv 6))) pa_nil)) pa_nil))) pa_nil)) pa_nil))))) (pss_one (ps_ret pe_bl)) pss_nil)))
    (pss_cons (ps_for PassesOwn.never rfl (pi_listK (K0 := K) (pe_slice (r := rSlL K) sl_list (pv 4) (po_some pe_int) po_none)) (pg_name (i := 7) nd rfl (Or.inl rfl)) (pss_one (ps_if (pt_not (pt_val (pe_f h__law_same (hr.mono (by omega)) rfl (pa_cons (pe_fx h_normal (hr.mono (by omega)) rfl (pa_cons (pv 7) pa_nil)) (pa_cons (pe_f h__law_normal (hr.mono (by omega)) rfl (pa_cons (pv 7) pa_nil)) pa_nil))))) (pss_one (ps_ret pe_bl)) pss_nil)))
    (pss_one (ps_ret pe_bl))))))), ?_⟩
  show Ss K T _ [.val _, .val _, .own p _, .val _, .no, .no, .no, .no] _
  have b : Ts t := ⟨g, by omega, by omega⟩
  k_search "go"
  refine cx [.own _, .val _] [2] ⟨rfl, ⟨_, rfl⟩, rfl, trivial⟩ (by decide) ⟨t, _, _, _, rfl, b, fun x y z => ⟨rim1 rfl rfl, ?_⟩⟩
  k_search "nrm"
  k_search "goe"
  refine go_seq ?_
  k_search "goe"
  refine go_seq (go_forRx ?_)
  k_search "go"
  refine cx [.own _, .val _] [2] ⟨rfl, ⟨_, rfl⟩, rfl, trivial⟩ (by decide) ⟨_, _, _, _, rfl, by decide, by decide, fun n x y z e1 e2 => ⟨rim1 rfl rfl, ?_⟩⟩
  obtain ⟨n, rfl⟩ : ∃ k : Nat, n = k := ⟨n.toNat, by omega⟩
  k_search "nrm"
  refine exa_nil ⟨n, rfl, by omega, fun k δ => ∃ (us : List Tm) (x y z : Int) (a : Addr) (s : Sl), δ = [.val (.list (ns.map .int)), .val (pool ls ties e), .own p (bx x y z), .val t.d, .own a (.lst ((t :: us).map Tm.d)), s, .no, .no] ∧ us.length = k ∧ ∀ u ∈ us, u.good ∧ u.ht ≤ 4 ∧ u.cnt ≤ 10, ⟨[], _, _, _, _, _, rfl, rfl, fun _ m => nomatch m⟩, ?_, ?_⟩
  · rintro k δ2 hk ⟨us, x, y, z, a, s, rfl, hul, hus⟩
    k_search "nrm"
    have ll : (List.map Tm.d (t :: us)).length < 100000 := by rw [List.length_map, List.length_cons]; omega
    k_search "go"
    refine cv [.val _, .val _] ⟨rfl, rfl, trivial⟩ ⟨ns, 2 + k, by rw [show ((2 + k : Nat) : Int) = 2 + (k : Int) by omega], hns, by omega, fun x1 y1 z1 => ⟨rimL rfl, ?_⟩⟩
    k_search "go"
    refine cfx [.own _, .val _, .val _, .val _] [none] ⟨rfl, rfl, rfl, rfl, rfl, trivial⟩ List.nodup_nil ⟨x1, y1, z1, ls, ties, e, 4, 10, rfl, po, by decide, by decide, by decide, by decide, fun m _ _ _ g6 h6 c6 => ?_⟩
    dsimp only [putOo]
    k_search "go"
    exact ⟨us ++ [m], _, _, _, _, _, by rw [show t :: (us ++ [m]) = (t :: us) ++ [m] from rfl, List.map_append]; rfl, by rw [List.length_append, hul]; rfl, fun u hu => (List.mem_append.mp hu).elim (hus u) fun q => by rw [List.mem_singleton.mp q]; exact ⟨g6, by omega, by omega⟩⟩
  · rintro δ2 ⟨us, x, y, z, a, s, rfl, hul, hus⟩
    have hb : ∀ u ∈ t :: us, Ts u := fun u m => (List.mem_cons.mp m).elim (fun q => q ▸ b) fun q => by
      obtain ⟨q1, q2, q3⟩ := hus u q
      exact ⟨q1, by omega, by omega⟩
    have tb2 : ∀ j : Nat, Tb 22 (.and ((t :: us).take j)) := fun j => by
      have c2 : Tm.cntL us ≤ 10 * us.length := by
        clear hul hb
        induction us with
        | nil => exact Nat.le_refl _
        | cons u us ih =>
          have q1 := (hus u (.head _)).2.2
          have q2 := ih fun x m => hus x (.tail _ m)
          show u.cnt + Tm.cntL us ≤ 10 * (us.length + 1)
          omega
      have c3 := cntL_sub (List.take_sublist j (t :: us))
      have c4 : Tm.cntL (t :: us) = t.cnt + Tm.cntL us := rfl
      have h3 : Tm.htL ((t :: us).take j) ≤ 20 := by
        have key : ∀ l : List Tm, (∀ x ∈ l, x.ht ≤ 20) → Tm.htL l ≤ 20 := by
          intro l
          induction l with
          | nil => intro _; exact Nat.zero_le _
          | cons x l ih => intro h; exact Nat.max_le.mpr ⟨h x (.head _), ih fun y m => h y (.tail _ m)⟩
        exact key _ fun x m => (hb x (List.mem_of_mem_take m)).ht
      exact ⟨Tm.goodL_iff.mpr fun x m => (hb x (List.mem_of_mem_take m)).good, by show Tm.htL _ + 1 ≤ 22; omega, by show Tm.cntL _ + 1 ≤ 1000; omega, by show Tm.htL _ + 1 ≤ 25; omega⟩
    refine ss_frz (i := 4) rfl ?_
    k_search "nrm"
    have hpl : (t :: us).length = us.length + 1 := rfl
    refine go_seq (go_forL [.int 0, .int 1, .int ((us.length + 1 : Nat) : Int)] (fun k δ => ∃ s s2, δ = [.val (.list (ns.map .int)), .val (pool ls ties e), .own p (bx x y z), .val t.d, .val (.list ((t :: us).map Tm.d)), s, s2, .no]) ?_ ?_ ?_)
    · k_search "go"
      exact ⟨by rw [List.length_map]; rfl, _, _, rfl⟩
    · rintro k d δ2 hk ⟨s, s2, rfl⟩
      obtain ⟨j, rfl, hj⟩ : ∃ j : Nat, d = .int (j : Int) ∧ j ≤ (t :: us).length := by
        match k, hk with
        | 0, hk => cases hk; exact ⟨0, rfl, Nat.zero_le _⟩
        | 1, hk => cases hk; exact ⟨1, rfl, by omega⟩
        | 2, hk => cases hk; exact ⟨us.length + 1, rfl, by omega⟩
        | k + 3, hk => simp at hk
      have tbj := tb2 j
      have lj : ((t :: us).take j).length ≤ 6 := by rw [List.length_take]; omega
      have ct : Pl.cutD ((t :: us).map Tm.d) none (some (j : Int)) = ((t :: us).take j).map Tm.d := by rw [cut_take (by rw [List.length_map]; exact hj), List.map_take]
      generalize t :: us = ps at ct tbj lj hb hj hpl tb2 ⊢
      generalize ps.take j = vs at ct tbj lj ⊢
      have snf : okD (Tm.and vs).nf.d = true ∧ (Tm.and vs).nf.d.depth < 64 := ⟨okD_tm _ tbj.nf.good tbj.nf.cnt, by have := depth_tm (Tm.and vs).nf; have := tbj.nf.low; omega⟩
      k_search "nrm"
      k_search "go"
      rw [ct]
      refine ⟨tm_imm, ?_⟩
      k_search "go"
      refine cv [.val _] ⟨rfl, trivial⟩ ⟨vs, rfl, lj, tbj, rim (Tm.imm_d _), ?_⟩
      k_search "go"
      rw [ct]
      refine ⟨tm_imm, ?_⟩
      k_search "go"
      refine cb_tupL tm_imm ?_
      k_search "go"
      refine cv [.val _] ⟨rfl, trivial⟩ ⟨.and vs, by rw [← Tm.dL_map]; rfl, tbj, rim (Tm.imm_d _), ?_⟩
      k_search "go"
      refine cv [.val _, .val _] ⟨rfl, rfl, trivial⟩ ⟨(Tm.and vs).nf.d, rfl, snf.1, snf.2, rim rfl, ?_⟩
      k_search "go"
      exact ⟨_, _, rfl⟩
    · rintro δ2 ⟨s, s2, rfl⟩
      have cd : Pl.cutD ((t :: us).map Tm.d) (some 1) none = us.map Tm.d := by
        rw [show (1 : Int) = ((1 : Nat) : Int) from rfl, cut_drop0 (by simp)]
        rfl
      k_search "goe"
      refine go_seq (go_forL (us.map Tm.d) (fun k δ => ∃ s7, δ = [.val (.list (ns.map .int)), .val (pool ls ties e), .own p (bx x y z), .val t.d, .val (.list ((t :: us).map Tm.d)), s, s2, s7]) ?_ ?_ ?_)
      · k_search "go"
        rw [cd]
        refine ⟨tm_imm, ?_⟩
        exact ⟨rfl, .no, rfl⟩
      · rintro k d δ2 hk ⟨s7, rfl⟩
        obtain ⟨u, hu, rfl⟩ := map_at hk
        have bu := hb u (.tail _ (List.mem_of_getElem? hu))
        k_search "nrm"
        k_search "go"
        refine cv [.val _] ⟨rfl, trivial⟩ (.inl ⟨u, rfl, bu.tb, rim (Tm.imm_d _), ?_⟩)
        k_search "go"
        refine cv [.val _] ⟨rfl, trivial⟩ ⟨u, rfl, bu.tb, rim (Tm.imm_d _), ?_⟩
        k_search "go"
        refine cv [.val _, .val _] ⟨rfl, rfl, trivial⟩ ⟨u.nf.d, rfl, bu.nf.same.1, bu.nf.same.2, rim rfl, ?_⟩
        k_search "go"
        exact ⟨_, rfl⟩
      · rintro δ2 ⟨s7, rfl⟩
        k_search "go"
        exact ⟨_, _, ⟨rfl, _, rfl, rfl⟩, rfl, hQ _ _ _⟩
end
set_option Elab.async false
set_option linter.all false
set_option maxRecDepth 100000
set_option maxHeartbeats 4000001
open PySem L2 LamX NdefX PyProof.Rows GenW Pl
section
local macro_rules | `(tactic| k_search "g2") => `(tactic| with_reducible refine go_callF (F := F_pool) ?_)
local macro_rules | `(tactic| k_search "g2") => `(tactic| with_reducible refine go_callF (F := F_root _) ?_)
local macro_rules | `(tactic| k_search "g2") => `(tactic| with_reducible refine go_callF (F := F_bend _) ?_)
local macro_rules | `(tactic| k_search "g2") => `(tactic| with_reducible refine go_callF (F := F_values) ?_)
variable {P : Program} {w : World} {K : PySem.W.Frag} {mg : Str → Option Value} {base : Heap} {T : List NTab} {ts : List Str}
def F_law : FS := fun as Q => ∃ ns : List Int, as = [.val (.list (ns.map .int))] ∧ ns.length ≤ 63 ∧ Q (.val (.bool true)) []
/-- over a list that is found within -/
theorem go_cutL {K : PySem.W.Frag} {T : List NTab} {δ : List Sl} {te : TE} {t : TS} {nx bk ct : List Sl → Prop} {rt : R → List Sl → Prop} {i : Nat} (h : Ex K T te δ fun r δ1 => ∃ (ds : List D) (W : Nat → List Sl → Prop), Fz r (.list ds) ∧ W 0 δ1 ∧
    (∀ k d δ2, ds[k]? = some d → W k δ2 → Ss K T t (δ2.set i (.val d)) ⟨W (k + 1), rt, nx, W (k + 1)⟩) ∧ ∀ δ2, W ds.length δ2 → nx δ2) : Ss K T (tFor (iList K te) (gName i) t) δ ⟨nx, rt, bk, ct⟩ :=
  ss_forL (h.imp fun r δ1 ⟨ds, W, e1, w, s, e⟩ => ⟨ds, e1, W, w, fun k d δ2 hk w => gt_name (s k d δ2 hk w), e⟩)
theorem pick3 {n : Int} (h1 : 0 ≤ n) (h2 : n < 3) : ∃ r : Int, atI [PyData.int 4, PyData.int 6, PyData.int 12] n = some (.int r) ∧ 4 ≤ r ∧ r ≤ 12 := by
  have : n = 0 ∨ n = 1 ∨ n = 2 := by omega
  rcases this with rfl | rfl | rfl
  · exact ⟨4, rfl, by decide, by decide⟩
  · exact ⟨6, rfl, by decide, by decide⟩
  · exact ⟨12, rfl, by decide, by decide⟩
theorem pick4 {n : Int} (h1 : 0 ≤ n) (h2 : n < 4) : ∃ r : Int, atI [PyData.int 8, PyData.int 14, PyData.int 24, PyData.int 40] n = some (.int r) ∧ 8 ≤ r ∧ r ≤ 40 := by
  have : n = 0 ∨ n = 1 ∨ n = 2 ∨ n = 3 := by omega
  rcases this with rfl | rfl | rfl | rfl
  · exact ⟨8, rfl, by decide, by decide⟩
  · exact ⟨14, rfl, by decide, by decide⟩
  · exact ⟨24, rfl, by decide, by decide⟩
  · exact ⟨40, rfl, by decide, by decide⟩
theorem bo_od {t : Tm} {d : D} (b : BO t.d d) (h : t.ht ≤ 12) (c : t.cnt ≤ 40) : Od d := ⟨b.ok, by have := b.dp; have := depth_tm t; omega, by have := b.nd; have := nod_tm t; omega⟩
theorem ok_law (c : Al K mg base ds fr ts cs) (N n1 n2 n3 n4 n5 n6 n7 n8 n9 n10 : Nat) (l1 : n1 ≤ N) (l2 : n2 ≤ N) (l3 : n3 ≤ N) (l4 : n4 ≤ N) (l5 : n5 ≤ N) (l6 : n6 ≤ N) (l7 : n7 ≤ N) (l8 : n8 ≤ N) (l9 : n9 ≤ N) (l10 : n10 ≤ N) (lN : 20 ≤ N)
    (h__law_same : OkF P w K mg base T n1 "_law_same" ["actual", "due"] (F_same 64)) (h__law_pool : OkF P w K mg base T n2 "_law_pool" ["box"] F_pool) (h__law_root : OkF P w K mg base T n3 "_law_root" ["box", "pool", "deep", "room"] (F_root 12))
    (h__law_good_ones : OkF P w K mg base T n4 "_law_good_ones" ["script", "pool", "box", "term"] F_goods) (h__law_bend : OkF P w K mg base T n5 "_law_bend" ["box", "term"] (F_bend 22)) (h_is_term : OkF P w K mg base T n6 "is_term" ["value"] F_ist) (h__law_is_term : OkF P w K mg base T n7 "_law_is_term" ["value"] (F_lt 61))
    (h__law_refused : OkF P w K mg base T n8 "_law_refused" ["way", "value", "good"] (F_refused K)) (h__law_values : OkF P w K mg base T n9 "_law_values" ["box"] F_values) (h__law_is_word : OkF P w K mg base T n10 "_law_is_word" ["value"] F_isw) (h_is_word : OkF P w K mg base T 1 "is_word" ["value"] F_isw)
    (h__law_take : OkF P w K mg base T 1 "_law_take" ["box", "many"] F_take) (h__law_open : OkF P w K mg base T 2 "_law_open" ["script", "k"] F_open) : OkF P w K mg base T (N + 2) "law" ["script"] F_law := by
  have nd := sc_law.nd
  have kTOP := c.cs _ (.head _)
  have kBOTTOM := c.cs _ (.tail _ (.head _))
  have kRESERVED := c.cs _ (.tail _ (.tail _ (.tail _ (.tail _ (.tail _ (.head _))))))
  refine ok_of c (.tail _ (.tail _ (.tail _ (.tail _ (.tail _ (.tail _ (.tail _ (.tail _ (.tail _ (.tail _ (.tail _ (.tail _ (.tail _ (.tail _ (.tail _ (.tail _ (.tail _ (.tail _ (.tail _ (.tail _ (.tail _ (.tail _ (.tail _ (.tail _ (.tail _ (.tail _ (.tail _ (.tail _ (.tail _ (.tail _ (.tail _ (.tail _ (.tail _ (.tail _ (.tail _ (.tail _ (.tail _ (.tail _ (.tail _ (.tail _ (.tail _ (.tail _ (.tail _ (.tail _ (.tail _ (.tail _ (.tail _ (.tail _ (.tail _ (.tail _ (.tail _ (.tail _ (.tail _ (.tail _ (.tail _ (.tail _ (.tail _ (.head _)))))))))))))))))))))))))))))))))))))))))))))))))))))))))) (fun _ _ _ _ _ _ us hl => match us, hl with | [_], _ => rfl) sc_law (fun as Q h => by first | (obtain ⟨_, rfl, _⟩ := h; rfl) | (obtain ⟨_, _, rfl, _⟩ := h; rfl) | (obtain ⟨_, _, _, rfl, _⟩ := h; rfl) | (obtain ⟨_, _, _, _, rfl, _⟩ := h; rfl) | (obtain ⟨_, _, _, _, _, rfl, _⟩ := h; rfl) | (obtain ⟨_, _, _, _, _, _, rfl, _⟩ := h; rfl) | (obtain ⟨_, _, _, _, _, _, _, rfl, _⟩ := h; rfl) | (obtain ⟨_, _, _, _, _, _, _, _, rfl, _⟩ := h; rfl) | (obtain ⟨_, _, _, _, _, _, _, _, _, rfl, _⟩ := h; rfl) | (obtain ⟨rfl, _⟩ := h; rfl)) fun f cdv A outer s H E hr as Q qs hF hq => ?_
  obtain ⟨ns, rfl, hns, hQ⟩ := hF
  obtain rfl : qs = [] := List.length_eq_zero_iff.mp hq
  refine ⟨_, (pss_cons (ps_if (PW.pt (pw_or (pt_not (pt_val (pe_f h__law_same (hr.mono (by omega)) rfl (pa_cons (pe_kT (c.cs _ (.head _)) rfl) (pa_cons (pe_tup (pa_cons pe_str pa_nil)) pa_nil))))) (pw_or1 (pt_not (pt_val (pe_f h__law_same (hr.mono (by omega)) rfl (pa_cons (pe_kT (c.cs _ (.tail _ (.head _))) rfl) (pa_cons (pe_tup (pa_cons pe_str pa_nil)) pa_nil)))))))) (pss_one (ps_ret pe_bl)) pss_nil)
    (pss_cons (ps_set (i := 1) nd rfl (Or.inl rfl) (pe_f h__law_pool (hr.mono (by omega)) rfl (pa_cons (pe_f h__law_open (hr.mono (by omega)) rfl (pa_cons (pv 0) (pa_cons pe_int pa_nil))) pa_nil)))
    (pss_cons (ps_set (i := 2) nd rfl (Or.inl rfl) (pe_f h__law_open (hr.mono (by omega)) rfl (pa_cons (pv 0) (pa_cons pe_int pa_nil))))
    (pss_cons (ps_set (i := 3) nd rfl (Or.inl rfl) (pe_ix (r := rIxL K) ix_list (pe_lst (pa_cons pe_int (pa_cons pe_int (pa_cons pe_int pa_nil)))) (pe_f h__law_take (hr.mono (by omega)) rfl (pa_cons (pv 2) (pa_cons pe_int pa_nil))) (fun _ _ => rfl)))
    (pss_cons (ps_set (i := 4) nd rfl (Or.inl rfl) (pe_f h__law_root (hr.mono (by omega)) rfl (pa_cons (pv 2) (pa_cons (pv 1) (pa_cons (pv 3) (pa_cons (pe_ix (r := rIxL K) ix_list (pe_lst (pa_cons pe_int (pa_cons pe_int (pa_cons pe_int (pa_cons pe_int pa_nil))))) (pe_f h__law_take (hr.mono (by omega)) rfl (pa_cons (pv 2) (pa_cons pe_int pa_nil))) (fun _ _ => rfl)) pa_nil))))))
    (pss_cons (ps_if (pt_not (pt_val (pe_f h__law_good_ones (hr.mono (by omega)) rfl (pa_cons (pv 0) (pa_cons (pv 1) (pa_cons (pv 2) (pa_cons (pv 4) pa_nil))))))) (pss_one (ps_ret pe_bl)) pss_nil)
    (pss_cons (ps_set (i := 5) nd rfl (Or.inl rfl) (pe_f h__law_bend (hr.mono (by omega)) rfl (pa_cons (pe_f h__law_open (hr.mono (by omega)) rfl (pa_cons (pv 0) (pa_cons pe_int pa_nil))) (pa_cons (pv 4) pa_nil))))
    (pss_cons (ps_if (pt_not (pt_val (pe_f h__law_same (hr.mono (by omega)) rfl (pa_cons (pe_f h_is_term (hr.mono (by omega)) rfl (pa_cons (pv 5) pa_nil)) (pa_cons (pe_f h__law_is_term (hr.mono (by omega)) rfl (pa_cons (pv 5) pa_nil)) pa_nil))))) (pss_one (ps_ret pe_bl)) pss_nil)
    (pss_cons (ps_if (pt_not (pt_val (pe_f h__law_is_term (hr.mono (by omega)) rfl (pa_cons (pv 5) pa_nil)))) (pss_cons (ps_set (i := 7) nd rfl (Or.inl rfl) (pe_f h__law_root (hr.mono (by omega)) rfl (pa_cons (pe_f h__law_open (hr.mono (by omega)) rfl (pa_cons (pv 0) (pa_cons pe_int pa_nil))) (pa_cons (pv 1) (pa_cons pe_int (pa_cons pe_int pa_nil))))))
    (pss_one (ps_for PassesOwn.never rfl (pi_range1 rfl (c.fr _ (.tail _ (.tail _ (.tail _ (.tail _ (.tail _ (.tail _ (.tail _ (.tail _ (.tail _ (.tail _ (.tail _ (.tail _ (.head _)))))))))))))) (pa_cons pe_int pa_nil)) (pg_name (i := 8) nd rfl (Or.inl rfl)) (pss_one (ps_if (pt_not (pt_val (pe_f h__law_refused (hr.mono (by omega)) rfl (pa_cons (pv 8) (pa_cons (pv 5) (pa_cons (pv 7) pa_nil)))))) (pss_one (ps_ret pe_bl)) pss_nil))))) pss_nil)
    (pss_cons (ps_for PassesOwn.never rfl (pi_listK (K0 := K) (pe_f h__law_values (hr.mono (by omega)) rfl (pa_cons (pe_f h__law_open (hr.mono (by omega)) rfl (pa_cons (pv 0) (pa_cons pe_int pa_nil))) pa_nil))) (pg_name (i := 6) nd rfl (Or.inl rfl)) (pss_cons (ps_if (pt_not (pt_val (pe_f h__law_same (hr.mono (by omega)) rfl (pa_cons (pe_f h_is_word (hr.mono (by omega)) rfl (pa_cons (pv 6) pa_nil)) (pa_cons (pe_f h__law_is_word (hr.mono (by omega)) rfl (pa_cons (pv 6) pa_nil)) pa_nil))))) (pss_one (ps_ret pe_bl)) pss_nil)
    (pss_one (ps_if (pt_not (pt_val (pe_f h__law_same (hr.mono (by omega)) rfl (pa_cons (pe_f h_is_term (hr.mono (by omega)) rfl (pa_cons (pv 6) pa_nil)) (pa_cons (pe_f h__law_is_term (hr.mono (by omega)) rfl (pa_cons (pv 6) pa_nil)) pa_nil))))) (pss_one (ps_ret pe_bl)) pss_nil))))
    (pss_one (ps_ret pe_bl)))))))))))), ?_⟩
  show Ss K T _ [.val _, .no, .no, .no, .no, .no, .no, .no, .no] _
  k_search "go"
  refine cv [.val _, .val _] ⟨rfl, rfl, trivial⟩ ⟨.tuple [.str "top"], rfl, by decide +kernel, by decide +kernel, rim rfl, ?_⟩
  k_search "go"
  refine cv [.val _, .val _] ⟨rfl, rfl, trivial⟩ ⟨.tuple [.str "bottom"], rfl, by decide +kernel, by decide +kernel, rim rfl, ?_⟩
  k_search "go"
  refine cv [.val _, .val _] ⟨rfl, rfl, trivial⟩ ⟨ns, 0, rfl, hns, by decide, fun x y z => ⟨rimL rfl, ?_⟩⟩
  k_search "go"
  refine cfx [.own _] [none] ⟨rfl, rfl, trivial⟩ List.nodup_nil ⟨x, y, z, rfl, fun ls ties e x y z po => ?_⟩
  dsimp only [putOo]
  k_search "goe"
  refine ss_frz (i := 1) rfl ?_
  k_search "nrm"
  show Ss K T _ [.val _, .val (pool ls ties e), .no, .no, .no, .no, .no, .no, .no] _
  k_search "go"
  refine cv [.val _, .val _] ⟨rfl, rfl, trivial⟩ ⟨ns, 1, rfl, hns, by decide, fun x y z => ⟨rimL rfl, ?_⟩⟩
  k_search "go"
  refine cx [.own _, .val _] [2] ⟨rfl, ⟨_, rfl⟩, rfl, trivial⟩ (by decide) ⟨_, _, _, _, rfl, by decide, by decide, fun n x y z h1 h2 => ⟨rim1 rfl rfl, ?_⟩⟩
  k_search "nrm"
  obtain ⟨r, hr0, hr1, hr2⟩ := pick3 h1 h2
  k_search "go"
  refine ⟨Or.inl rfl, ?_⟩
  k_search "go"
  refine cx [.own _, .val _] [2] ⟨rfl, ⟨_, rfl⟩, rfl, trivial⟩ (by decide) ⟨_, _, _, _, rfl, by decide, by decide, fun n x y z h1 h2 => ⟨rim1 rfl rfl, ?_⟩⟩
  k_search "nrm"
  obtain ⟨q, hq0, hq1, hq2⟩ := pick4 h1 h2
  k_search "go"
  refine ⟨Or.inl rfl, ?_⟩
  k_search "go"
  refine cfx [.own _, .val _, .val _, .val _] [some 2] ⟨rfl, ⟨_, rfl⟩, rfl, rfl, rfl, trivial⟩ (by decide) ⟨_, _, _, ls, ties, e, r, q, rfl, po, by omega, by omega, by omega, by omega, fun t x y z g1 t1 c1 => ?_⟩
  dsimp only [putOo, putO, List.getElem?_cons_zero, List.getElem?_cons_succ, List.set_cons_zero, List.set_cons_succ]
  have b : Ts t := ⟨g1, by omega, by omega⟩
  k_search "go"
  refine cx [.val _, .val _, .own _, .val _] [2] ⟨rfl, rfl, rfl, ⟨_, rfl⟩, rfl, trivial⟩ (by decide) ⟨ns, ls, ties, e, _, _, _, t, rfl, hns, po, g1, by omega, by omega, fun x y z => ⟨rim1 rfl rfl, ?_⟩⟩
  k_search "nrm"
  k_search "go"
  refine cv [.val _, .val _] ⟨rfl, rfl, trivial⟩ ⟨ns, 8, rfl, hns, by decide, fun x1 y1 z1 => ⟨rimL rfl, ?_⟩⟩
  k_search "go"
  refine cfx [.own _, .val _] [none] ⟨rfl, rfl, rfl, trivial⟩ List.nodup_nil ⟨t, _, _, _, rfl, b.tb, fun d _ _ _ bo => ?_⟩
  dsimp only [putOo]
  have od : Od d := bo_od bo (by omega) (by omega)
  k_search "go"
  refine cv [.val _] ⟨rfl, trivial⟩ ⟨d, rfl, od, rim rfl, ?_⟩
  k_search "go"
  refine cv [.val _] ⟨rfl, trivial⟩ ⟨d, rfl, od.ok, od.dp, Nat.lt_succ_of_le od.dp, rim rfl, ?_⟩
  k_search "go"
  refine cv [.val _, .val _] ⟨rfl, rfl, trivial⟩ ⟨.bool (termB d), rfl, same_bool.1, same_bool.2, rim rfl, ?_⟩
  k_search "goe"
  refine go_cut (fun δ => ∃ (a : Addr) (s7 s8 : Sl), δ = [.val (.list (ns.map .int)), .val (pool ls ties e), .own a (bx x y z), .val (.int r), .val t.d, .val d, .no, s7, s8]) ?_ ?_
  · k_search "go"
    refine cv [.val _] ⟨rfl, trivial⟩ ⟨d, rfl, od.ok, od.dp, Nat.lt_succ_of_le od.dp, rim rfl, ?_⟩
    cases ht : termB d
    · k_search "go"
      refine cv [.val _, .val _] ⟨rfl, rfl, trivial⟩ ⟨ns, 7, rfl, hns, by decide, fun x1 y1 z1 => ⟨rimL rfl, ?_⟩⟩
      k_search "go"
      refine cfx [.own _, .val _, .val _, .val _] [none] ⟨rfl, rfl, rfl, rfl, rfl, trivial⟩ List.nodup_nil ⟨x1, y1, z1, ls, ties, e, 4, 10, rfl, po, by decide, by decide, by decide, by decide, fun m _ _ _ g6 h6 c6 => ?_⟩
      dsimp only [putOo]
      have bm : Ts m := ⟨g6, by omega, by omega⟩
      k_search "goe"
      refine go_forR 10 (fun k δ => ∃ (a : Addr) (s8 : Sl), δ = [.val (.list (ns.map .int)), .val (pool ls ties e), .own a (bx x y z), .val (.int r), .val t.d, .val d, .no, .val m.d, s8]) (by decide) ?_ ?_ ?_
      · k_search "go"
        exact ⟨rfl, _, _, rfl⟩
      · rintro k δ2 hk ⟨a, s8, rfl⟩
        k_search "nrm"
        k_search "go"
        refine cv [.val _, .val _, .val _] ⟨rfl, rfl, rfl, trivial⟩ ⟨k, d, m, rfl, hk, od, ht, bm.tb, rim rfl, ?_⟩
        k_search "go"
        exact ⟨_, _, rfl⟩
      · rintro δ2 ⟨a, s8, rfl⟩
        exact ⟨_, _, _, rfl⟩
    · k_search "go"
      exact ⟨_, _, _, rfl⟩
  rintro δ2 ⟨a, s7, s8, rfl⟩
  refine go_seq (go_cutL ?_)
  k_search "go"
  refine cv [.val _, .val _] ⟨rfl, rfl, trivial⟩ ⟨ns, 9, rfl, hns, by decide, fun x1 y1 z1 => ⟨rimL rfl, ?_⟩⟩
  k_search "go"
  refine cfx [.own _] [none] ⟨rfl, rfl, trivial⟩ List.nodup_nil ⟨x1, y1, z1, rfl, fun vs _ _ _ hv hl => ?_⟩
  dsimp only [putOo]
  refine ⟨vs, fun k δ => ∃ s6 : Sl, δ = [.val (.list (ns.map .int)), .val (pool ls ties e), .own a (bx x y z), .val (.int r), .val t.d, .val d, s6, s7, s8], rfl, ⟨_, rfl⟩, ?_, ?_⟩
  · rintro k v δ2 hk ⟨s6, rfl⟩
    have ov := hv v (List.mem_of_getElem? hk)
    k_search "nrm"
    k_search "go"
    refine cv [.val _] ⟨rfl, trivial⟩ ⟨v, rfl, okO_short ov.ok, rim rfl, ?_⟩
    k_search "go"
    refine cv [.val _] ⟨rfl, trivial⟩ ⟨v, rfl, okO_short ov.ok, rim rfl, ?_⟩
    k_search "go"
    refine cv [.val _, .val _] ⟨rfl, rfl, trivial⟩ ⟨.bool _, rfl, same_bool.1, same_bool.2, rim rfl, ?_⟩
    k_search "go"
    refine cv [.val _] ⟨rfl, trivial⟩ ⟨v, rfl, ov, rim rfl, ?_⟩
    k_search "go"
    refine cv [.val _] ⟨rfl, trivial⟩ ⟨v, rfl, ov.ok, ov.dp, Nat.lt_succ_of_le ov.dp, rim rfl, ?_⟩
    k_search "go"
    refine cv [.val _, .val _] ⟨rfl, rfl, trivial⟩ ⟨.bool _, rfl, same_bool.1, same_bool.2, rim rfl, ?_⟩
    k_search "go"
    exact ⟨_, rfl⟩
  · rintro δ2 ⟨s6, rfl⟩
    k_search "go"
    exact hQ
end
set_option Elab.async false
set_option linter.all false
set_option maxRecDepth 100000
set_option maxHeartbeats 0
open PySem L2 LamX NdefX PyProof.Rows GenW Pl
section
variable {P : Program} {w : World} {K : PySem.W.Frag} {mg : Str → Option Value} {base : Heap}
theorem ok_all' (c : Al K mg base ds fr (tsv.map (·.1)) cs) (glo : PySem.W.nsIn K mainGlobals "_law_normal" = some (some (.ref (He.ga K "_law_normal")))) : Ok P w K mg base 202 "law" ["script"] (spOf K (tabsOf K tsv) F_law) := by
  have h_is_word := ok_is_word (P := P) (w := w) (T := tabsOf K tsv) c
  have h_direct_parts := ok_direct_parts c h_is_word
  have h_is_term := ok_is_term c h_direct_parts
  have h_check_term := ok_check_term c h_is_term
  have h_check_name := ok_check_name c h_is_word
  have h_check_names := ok_check_names c h_check_name
  have h_raw := ok_raw (P := P) (w := w) (T := tabsOf K tsv) c 22
  have h_meets := ok_meets c 22 h_raw 22 (Nat.le_refl _)
  have h_write := ok_write (P := P) (w := w) (T := tabsOf K tsv) c 22
  have h_key := ok_key c 22 _ h_write
  have h_impl := ok_impl c 22 _ h_meets.1
  have h_join := ok_join c 22 _ _ _ h_write h_impl h_key
  have h_nf := ok_nf c 22 _ _ h_raw h_join 22 (Nat.le_refl _)
  have h_normal := ok_normal c 22 _ h_check_term h_nf
  have h_conjuncts := ok_conjuncts c 22 _ _ h_check_term h_nf h_raw
  have h_nsize := ok_nsize c 22 _ h_raw 22 (Nat.le_refl _)
  have h_ndepth := ok_ndepth c 22 _ h_raw 22 (Nat.le_refl _)
  have h_size := ok_size c 22 _ _ h_check_term h_nf h_nsize
  have h_depth := ok_depth c 22 _ _ h_check_term h_nf h_ndepth
  have h_words := ok_words c 22 _ _ h_check_term h_nf h_raw
  have h_over := ok_over c 22 _ h_check_term h_check_names h_words
  have h_both := ok_both c 22 _ h_check_term h_nf
  have l_reserved := ok_lreserved (P := P) (w := w) (T := tabsOf K tsv) c
  have l_is_word := ok_lis_word c l_reserved
  have l_is_term := ok_lis_term c l_is_word 61
  have l_conj := ok_lconj (P := P) (w := w) (T := tabsOf K tsv) c 22
  have l_void := ok_lvoid c 22 l_conj 22 (Nat.le_refl _)
  have l_under := (ok_lunder c 22 _ l_conj l_void 22 (Nat.le_refl _)).2
  have l_written := ok_lwritten (P := P) (w := w) (T := tabsOf K tsv) c 22
  have l_stays := ok_stays c 22 _ l_under
  have l_normal := ok_lnormal c glo 22 _ _ _ _ l_conj l_void l_stays l_written 22 (Nat.le_refl _)
  have l_size := ok_lsize (P := P) (w := w) (T := tabsOf K tsv) c 22
  have l_depth := ok_ldepth (P := P) (w := w) (T := tabsOf K tsv) c 22
  have l_gather := ok_gather (P := P) (w := w) (T := tabsOf K tsv) c 22
  have l_same := ok_same (P := P) (w := w) (T := tabsOf K tsv) c 64
  have l_cell := ok_lcell (P := P) (w := w) (T := tabsOf K tsv) c
  have l_open := ok_lopen c l_cell
  have l_take := ok_ltake (P := P) (w := w) (T := tabsOf K tsv) c
  have l_word := ok_lword c l_take l_is_word
  have l_words := ok_lwords c l_take l_word
  have l_pool := ok_lpool c l_take l_words
  have l_term := ok_lterm c l_take 11
  have l_chain := ok_lchain c l_take
  have l_wide := ok_lwide c l_take
  have l_root := ok_lroot c l_take l_chain l_wide l_term
  have l_odd := ok_odd c l_reserved l_take
  have l_bend := ok_bend c l_take l_odd 22
  have l_joined := ok_joined c 22 _ h_both
  have l_ask := ok_ask c _ _ _ _ _ _ _ h_normal h_conjuncts h_both h_size h_depth h_words h_over
  have l_refused := ok_refused c _ l_ask
  have l_lrefused := ok_lrefused c _ h_over
  have l_over := ok_lover c _ _ _ _ l_same h_over l_word l_take l_reserved l_lrefused
  have l_plain := ok_plain c 190 _ _ _ _ _ _ _ _ _ _ _ _ (by decide) (by decide) (by decide) (by decide) (by decide) (by decide) (by decide) (by decide) (by decide) (by decide) (by decide) (by decide) l_same l_normal h_is_term h_normal h_conjuncts h_size h_depth h_words l_size l_depth l_gather l_over
  have l_goods := ok_goods c 196 _ _ _ _ _ _ (by decide) (by decide) (by decide) (by decide) (by decide) (by decide) (by decide) l_same l_normal l_plain l_joined h_normal l_root l_take l_open
  have l_values := ok_values c _ l_word l_take l_reserved
  exact ok_law c 200 _ _ _ _ _ _ _ _ _ _ (by decide) (by decide) (by decide) (by decide) (by decide) (by decide) (by decide) (by decide) (by decide) (by decide) (by decide) l_same l_pool l_root l_goods l_bend h_is_term l_is_term l_refused l_values l_is_word h_is_word l_take l_open
end
end K00
open PySem PySem.W PySem.Calls PyProof.Rows
theorem PySem.Challenge.cw_notionary_k00_normal_form_holds : PySem.Challenge.rw_notionary_k00_normal_form.Holds := by
  w_on; o_law
  refine HandSHeadRun.head_any (r := OpenLaw.row PySem.Challenge.rw_notionary_k00_normal_form) (q := view (OpenLaw.row PySem.Challenge.rw_notionary_k00_normal_form).prog [70]) (H := K00.hk) (ob := K00.ob) (M := 6000) (loose := K00.names) (d := HandSHeadRun.topDef (OpenLaw.row PySem.Challenge.rw_notionary_k00_normal_form).prog 70) (kwd := []) K00.ob_eq
    (by kernel_rfl) (fun s => by kernel_rfl) K00.run (by kernel_rfl) (by kernel_rfl) (by kernel_rfl) (by rfl) (by first | assumption | decide +kernel) (by decide +kernel) ⟨rfl, rfl, rfl, rfl, rfl, by decide +kernel⟩ ?hw ?hc
  case hw => w_witness2
  case hc =>
    refine Pl.walk_end (l := PySem.Challenge.rw_notionary_k00_normal_form) (k := 202) (n := 63) (m := 2) (ds := K00.ds) (fr := K00.fr) (ts := K00.tsv) (cs := K00.cs) (F := K00.F_law) (st := K00.top 70) rfl (by decide) (by kernel_rfl) ⟨rfl, by decide, by decide⟩ rfl (by kernel_rfl) (.tail _ (.tail _ (.tail _ (.tail _ (.tail _ (.tail _ (.tail _ (.tail _ (.tail _ (.tail _ (.tail _ (.tail _ (.tail _ (.tail _ (.tail _ (.tail _ (.tail _ (.tail _ (.tail _ (.tail _ (.tail _ (.tail _ (.tail _ (.tail _ (.tail _ (.tail _ (.tail _ (.tail _ (.tail _ (.tail _ (.tail _ (.tail _ (.tail _ (.tail _ (.tail _ (.tail _ (.tail _ (.tail _ (.tail _ (.tail _ (.tail _ (.tail _ (.tail _ (.tail _ (.tail _ (.tail _ (.tail _ (.tail _ (.tail _ (.tail _ (.tail _ (.tail _ (.tail _ (.tail _ (.tail _ (.tail _ (.tail _ (.head _)))))))))))))))))))))))))))))))))))))))))))))))))))))))))) (fun _ _ _ _ _ _ us hl => match us, hl with | [_], _ => rfl) (fun w mg base K c glo => K00.ok_all' c (glo _ (.tail _ (.tail _ (.tail _ (.tail _ (.tail _ (.tail _ (.tail _ (.tail _ (.tail _ (.tail _ (.tail _ (.tail _ (.tail _ (.tail _ (.tail _ (.tail _ (.tail _ (.tail _ (.tail _ (.tail _ (.tail _ (.tail _ (.tail _ (.tail _ (.tail _ (.tail _ (.tail _ (.tail _ (.tail _ (.tail _ (.tail _ (.tail _ (.tail _ (.tail _ (.tail _ (.tail _ (.tail _ (.tail _ (.tail _ (.tail _ (.tail _ (.tail _ (.head _))))))))))))))))))))))))))))))))))))))))))))) (fun ns hl _ => ⟨ns, rfl, hl, rfl⟩)
