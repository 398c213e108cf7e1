import PyProof.Rows.All
import Wide.All
import OpenK.AllK
import Wide.FinOn
import HandS.ForMost
import HandS.Star
import HandS.Deep
import HandS.Zip
import HandS.TupAny
import HandS.TupMul
import HandS.Conv
import HandS.Wide
import HandS.IsInst
import HandS.ClsMeth
import HandS.Property
import HandS.SlotsOwn
import HandS.Text
import HandS.Style
import PyProof.SeqIndex
import HandS.Steps
import HandS.Strs
import KE.KOwnIter
import PyProof.WalksMore
import HandS.IterVal
import KE.GoesZip
import KE.GoesMore
import KE.KDictZip
import HandS.TupLe
import KE.KDictKeyed
import KE.KTupSum
import HandS.TryOnly
import HandS.ListEq
import HandS.More
import HandS.TupSets
import KE.KDictPairs
import HandS.DictComp
import HandS.FStr
import KE.KOpsOwn
import PySem.Challenge.RW_rowsgone_k16_tests_of_kinds
set_option Elab.async false
set_option linter.all false
set_option maxRecDepth 100000
namespace RG
open PySem PySem.Spec PyProof.Rows L2

/-! ### the world of a law: the written part, the bag's address, the classes -/
structure Wd where
  K : PySem.W.Frag
  C : Str → Addr
  b : Addr
  bl : Addr
  ns : List Int

/-- the bag of a law stands at b, its list at bl -/
def BagAt (W : Wd) (H : Hp) : Prop := ∃ (i m s c : Int), H W.b = some (.lst [.ref W.bl, .int i, .int m, .int s, .int c]) ∧ W.bl ≠ W.b ∧ H W.bl = some (.lst (W.ns.map V.int)) ∧ 0 ≤ i ∧ 0 ≤ m

/-- nothing is changed but the bag and the objects of M -/
structure Ex (W : Wd) (M : List Addr) (H H' : Hp) : Prop where
  keep : ∀ a o, a ≠ W.b → a ∉ M → H a = some o → H' a = some o
  some_ : ∀ a, H a ≠ none → H' a ≠ none
  bag : BagAt W H → BagAt W H'

section
variable {W : Wd} {M N : List Addr} {H H1 H2 H' : Hp}
theorem Ex.refl : Ex W M H H := ⟨fun _ _ _ _ e => e, fun _ e => e, id⟩
theorem Ex.trans (a : Ex W M H H1) (b : Ex W M H1 H2) : Ex W M H H2 :=
  ⟨fun x o n m e => b.keep x o n m (a.keep x o n m e), fun x e => b.some_ x (a.some_ x e), fun z => b.bag (a.bag z)⟩
theorem Ex.up (a : Ex W [] H H1) : Ex W M H H1 := ⟨fun x o n _ e => a.keep x o n (by simp) e, a.some_, a.bag⟩
theorem Ex.sub (a : Ex W M H H1) (h : ∀ x ∈ M, x ∈ N) : Ex W N H H1 := ⟨fun x o n m e => a.keep x o n (fun q => m (h x q)) e, a.some_, a.bag⟩
end

/-- M is laid, and so is the bag -/
structure Ok (W : Wd) (M : List Addr) (H : Hp) : Prop where
  bag : BagAt W H
  laid : ∀ a ∈ M, H a ≠ none
section
variable {W : Wd} {M N : List Addr} {H H1 H2 H' : Hp} {p a : Addr} {o : HO}
theorem Ok.b (h : Ok W M H) : H W.b ≠ none := by
  obtain ⟨_, _, _, _, e, _⟩ := h.bag
  rw [e]; exact fun z => nomatch z
theorem Ok.ex (h : Ok W M H) (e : Ex W N H H') : Ok W M H' := ⟨e.bag h.bag, fun a m => e.some_ a (h.laid a m)⟩
theorem Ok.new_b (h : Ok W M H) (hp : H p = none) : p ≠ W.b := fun e => h.b (e ▸ hp)
theorem Ok.new_M (h : Ok W M H) (hp : H p = none) : p ∉ M := fun e => h.laid p e hp
theorem Ok.bl (h : Ok W M H) : H W.bl ≠ none := by
  obtain ⟨_, _, _, _, _, _, e, _⟩ := h.bag
  rw [e]; exact fun z => nomatch z
theorem Ok.new_bl (h : Ok W M H) (hp : H p = none) : p ≠ W.bl := fun e => h.bl (e ▸ hp)
/-- an object beside the bag is changed -/
theorem bag_upd (h : BagAt W H) (h1 : p ≠ W.b) (h2 : p ≠ W.bl) : BagAt W (upd H p o) := by
  obtain ⟨i, m, s, c, e, nl, el, z⟩ := h
  refine ⟨i, m, s, c, ?_, nl, ?_, z⟩
  · rw [upd_ne h1.symm]; exact e
  · rw [upd_ne h2.symm]; exact el
theorem bag_new (h : BagAt W H) (hp : H p = none) : BagAt W (upd H p o) := by
  obtain ⟨i, m, s, c, e, nl, el, z⟩ := id h
  exact bag_upd h (fun q => by rw [q, e] at hp; cases hp) (fun q => by rw [q, el] at hp; cases hp)
/-- a new object -/
theorem Ex.new (hp : H p = none) : Ex W M H (upd H p o) := by
  refine ⟨fun a u n _ e => ?_, fun a e => ?_, fun z => bag_new z hp⟩
  · rw [upd_ne (ne_of_none e hp)]; exact e
  · by_cases h : a = p
    · rw [h, upd_same]; exact fun z => nomatch z
    · rw [upd_ne h]; exact e
/-- a new object joins M -/
theorem Ok.grow (h : Ok W M H) (hp : H p = none) : Ok W (p :: M) (upd H p o) := by
  refine ⟨bag_new h.bag hp, fun a ha => ?_⟩
  by_cases q : a = p
  · rw [q, upd_same]; exact fun z => nomatch z
  · rw [upd_ne q]; exact h.laid a ((List.mem_cons.mp ha).resolve_left q)
theorem Ok.less (h : Ok W (p :: M) H) : Ok W M H := ⟨h.bag, fun a ha => h.laid a (List.mem_cons_of_mem _ ha)⟩
/-- an object of M is changed, which is neither the bag nor its list -/
theorem Ex.mut (h1 : p ≠ W.b) (h2 : p ≠ W.bl) (hm : p ∈ M) : Ex W M H (upd H p o) := by
  refine ⟨fun a u n m e => ?_, fun a e => ?_, fun z => bag_upd z h1 h2⟩
  · rw [upd_ne (fun z : a = p => m (by rw [z]; exact hm))]; exact e
  · by_cases h : a = p
    · rw [h, upd_same]; exact fun z => nomatch z
    · rw [upd_ne h]; exact e
/-- an object that was not there at the beginning is changed -/
theorem Ex.mut0 (e : Ex W M H H1) (ok : Ok W N H) (hp : H p = none) : Ex W M H (upd H1 p o) := by
  have h1 : p ≠ W.b := fun z => ok.b (z ▸ hp)
  have h2 : p ≠ W.bl := fun z => ok.bl (z ▸ hp)
  refine ⟨fun a u n m x => ?_, fun a x => ?_, fun z => bag_upd (e.bag z) h1 h2⟩
  · rw [upd_ne (ne_of_none x hp)]; exact e.keep a u n m x
  · by_cases h : a = p
    · rw [h, upd_same]; exact fun z => nomatch z
    · rw [upd_ne h]; exact e.some_ a x
theorem Ex.free (e : Ex W M H H1) (h : H1 p = none) : H p = none := by
  cases q : H p with
  | none => rfl
  | some o => exact absurd h (e.some_ p (by rw [q]; exact fun z => nomatch z))
end

/-! ### what a heap holds, beside the bag and M -/
def cut (W : Wd) (M : List Addr) (H : Hp) : Hp := fun a => if a = W.b ∨ a ∈ M then none else H a
structure Le (H H' : Hp) : Prop where
  ex : ∀ a o, H a = some o → H' a = some o
theorem Le.refl {H : Hp} : Le H H := ⟨fun _ _ e => e⟩
theorem Le.trans {H H1 H2 : Hp} (a : Le H H1) (b : Le H1 H2) : Le H H2 := ⟨fun x o e => b.ex x o (a.ex x o e)⟩
section
variable {W : Wd} {M N : List Addr} {H H1 H2 H' : Hp} {p a : Addr} {o : HO}
theorem cut_some : cut W M H a = some o ↔ a ≠ W.b ∧ a ∉ M ∧ H a = some o := by
  unfold cut
  by_cases h : a = W.b ∨ a ∈ M
  · rw [if_pos h]
    exact ⟨(fun e => nomatch e), fun ⟨h1, h2, _⟩ => (h.elim h1 h2).elim⟩
  · rw [if_neg h]
    exact ⟨fun e => ⟨fun z => h (.inl z), fun z => h (.inr z), e⟩, fun e => e.2.2⟩
theorem cut_at (e : cut W M H a = some o) : H a = some o := (cut_some.mp e).2.2
theorem Ex.le (e : Ex W M H H') : Le (cut W M H) (cut W M H') := ⟨fun a o q => by
  obtain ⟨h1, h2, h3⟩ := cut_some.mp q
  exact cut_some.mpr ⟨h1, h2, e.keep a o h1 h2 h3⟩⟩
/-- a new object, and M grown by it -/
theorem le_new (hp : H p = none) : Le (cut W M H) (cut W (p :: M) (upd H p o)) := ⟨fun a u q => by
  obtain ⟨h1, h2, h3⟩ := cut_some.mp q
  have n := ne_of_none h3 hp
  exact cut_some.mpr ⟨h1, fun z => (List.mem_cons.mp z).elim n h2, by rw [upd_ne n]; exact h3⟩⟩
theorem le_less : Le (cut W (p :: M) H) (cut W M H) := ⟨fun a u q => by
  obtain ⟨h1, h2, h3⟩ := cut_some.mp q
  exact cut_some.mpr ⟨h1, fun z => h2 (List.mem_cons_of_mem _ z), h3⟩⟩
end

/-! ### data -/
class Py (α : Type) where
  rep : Wd → Hp → V → α → Prop
  mono : ∀ {W : Wd} {H H' : Hp} {v : V} {x : α}, Le H H' → rep W H v x → rep W H' v x
/-- a value that holds the data, beside the bag and M -/
def Rep {α : Type} [Py α] (W : Wd) (M : List Addr) (H : Hp) (v : V) (x : α) : Prop := Py.rep W (cut W M H) v x
instance : Py Int := ⟨fun _ _ v x => v = .int x, fun _ h => h⟩
instance : Py Bool := ⟨fun _ _ v x => v = .bl x, fun _ h => h⟩
instance : Py Str := ⟨fun _ _ v x => v = .str x, fun _ h => h⟩
instance : Py Unit := ⟨fun _ _ v _ => v = .non, fun _ h => h⟩
/-- a tuple of one kind of things -/
structure Tup (α : Type) where
  l : List α
  deriving DecidableEq
instance : Inhabited (Tup α) := ⟨⟨[]⟩⟩
theorem paired_mono {α β : Type} {F G : α → β → Prop} (h : ∀ a b, F a b → G a b) : ∀ {xs : List α} {ys : List β}, Paired F xs ys → Paired G xs ys
  | _, _, .nil => .nil
  | _, _, .cons r t => .cons (h _ _ r) (paired_mono h t)
instance [Py α] : Py (List α) := ⟨fun W H v xs => ∃ a vs, v = .ref a ∧ H a = some (.lst vs) ∧ Paired (Py.rep W H) vs xs,
  fun l ⟨a, vs, e, h, p⟩ => ⟨a, vs, e, l.ex _ _ h, paired_mono (fun _ _ r => Py.mono l r) p⟩⟩
/-- a tuple as it is, or one whose object is known -/
theorem Le.rd {H H' : Hp} (l : Le H H') {a : Addr} {u : HO} (h : Rd H a u) : Rd H' a u := h.elim (fun h => .inl (l.ex _ _ h)) fun ⟨o, h⟩ => .inr ⟨o, l.ex _ _ h⟩
theorem rd_cut {W : Wd} {M : List Addr} {H : Hp} {a : Addr} {u : HO} : Rd (cut W M H) a u ↔ a ≠ W.b ∧ a ∉ M ∧ Rd H a u := by
  refine ⟨fun h => ?_, fun ⟨h1, h2, h⟩ => ?_⟩
  · rcases h with h | ⟨o, h⟩
    · obtain ⟨h1, h2, h3⟩ := cut_some.mp h; exact ⟨h1, h2, .inl h3⟩
    · obtain ⟨h1, h2, h3⟩ := cut_some.mp h; exact ⟨h1, h2, .inr ⟨o, h3⟩⟩
  · rcases h with h | ⟨o, h⟩
    · exact .inl (cut_some.mpr ⟨h1, h2, h⟩)
    · exact .inr ⟨o, cut_some.mpr ⟨h1, h2, h⟩⟩
instance [Py α] : Py (Tup α) := ⟨fun W H v xs => ∃ a vs, v = .ref a ∧ Rd H a (.tup vs) ∧ Paired (Py.rep W H) vs xs.l,
  fun l ⟨a, vs, e, h, p⟩ => ⟨a, vs, e, l.rd h, paired_mono (fun _ _ r => Py.mono l r) p⟩⟩
instance [Py α] [Py β] : Py (α × β) := ⟨fun W H v x => ∃ a v1 v2, v = .ref a ∧ Rd H a (.tup [v1, v2]) ∧ Py.rep W H v1 x.1 ∧ Py.rep W H v2 x.2,
  fun l ⟨a, v1, v2, e, h, r1, r2⟩ => ⟨a, v1, v2, e, l.rd h, Py.mono l r1, Py.mono l r2⟩⟩

section
variable {α β γ : Type} [Py α] [Py β] [Py γ] {W : Wd} {M N : List Addr} {H H1 H2 H' : Hp} {p a : Addr} {o : HO} {v : V} {x : α}
theorem Rep.ex (h : Rep W M H v x) (e : Ex W M H H') : Rep W M H' v x := Py.mono e.le h
theorem Rep.up (h : Rep W M H v x) (e : Ex W [] H H') : Rep W M H' v x := h.ex e.up
theorem Rep.grow (h : Rep W M H v x) (hp : H p = none) : Rep W (p :: M) (upd H p o) v x := Py.mono (le_new hp) h
theorem Rep.less (h : Rep W (p :: M) H v x) : Rep W M H v x := Py.mono le_less h
theorem rep_int {i : Int} : Rep W M H (.int i) i := rfl
theorem rep_bl {i : Bool} : Rep W M H (.bl i) i := rfl
theorem rep_str {i : Str} : Rep W M H (.str i) i := rfl
theorem rep_lst {xs : List α} {vs : List V} (h : H a = some (.lst vs)) (hb : a ≠ W.b) (hm : a ∉ M) (p : Paired (Rep W M H) vs xs) : Rep W M H (.ref a) xs :=
  ⟨a, vs, rfl, cut_some.mpr ⟨hb, hm, h⟩, p⟩
theorem rep_tup {xs : Tup α} {vs : List V} (h : Rd H a (.tup vs)) (hb : a ≠ W.b) (hm : a ∉ M) (p : Paired (Rep W M H) vs xs.l) : Rep W M H (.ref a) xs :=
  ⟨a, vs, rfl, rd_cut.mpr ⟨hb, hm, h⟩, p⟩
theorem rep_pair {x : α × β} {v1 v2 : V} (h : Rd H a (.tup [v1, v2])) (hb : a ≠ W.b) (hm : a ∉ M) (r1 : Rep W M H v1 x.1) (r2 : Rep W M H v2 x.2) : Rep W M H (.ref a) x :=
  ⟨a, v1, v2, rfl, rd_cut.mpr ⟨hb, hm, h⟩, r1, r2⟩
theorem Rep.lst {xs : List α} (h : Rep W M H v xs) : ∃ a vs, v = .ref a ∧ H a = some (.lst vs) ∧ a ≠ W.b ∧ a ∉ M ∧ Paired (Rep W M H) vs xs := by
  obtain ⟨a, vs, e, q, p⟩ := h
  obtain ⟨h1, h2, h3⟩ := cut_some.mp q
  exact ⟨a, vs, e, h3, h1, h2, p⟩
theorem Rep.tup {xs : Tup α} (h : Rep W M H v xs) : ∃ a vs, v = .ref a ∧ Rd H a (.tup vs) ∧ a ≠ W.b ∧ a ∉ M ∧ Paired (Rep W M H) vs xs.l := by
  obtain ⟨a, vs, e, q, p⟩ := h
  obtain ⟨h1, h2, h3⟩ := rd_cut.mp q
  exact ⟨a, vs, e, h3, h1, h2, p⟩
theorem Rep.pair {x : α × β} (h : Rep W M H v x) : ∃ a v1 v2, v = .ref a ∧ Rd H a (.tup [v1, v2]) ∧ a ≠ W.b ∧ a ∉ M ∧ Rep W M H v1 x.1 ∧ Rep W M H v2 x.2 := by
  obtain ⟨a, v1, v2, e, q, r1, r2⟩ := h
  obtain ⟨h1, h2, h3⟩ := rd_cut.mp q
  exact ⟨a, v1, v2, e, h3, h1, h2, r1, r2⟩
end
end RG
namespace RG
open PySem PySem.Spec PyProof.Rows L2

/-! ### what a reading evaluates to -/
def Ev {α : Type} [Py α] (W : Wd) (M : List Addr) (te : TE) (σ : L2.St) (H : Hp) (x : α) : Prop :=
  ∀ H1, Ex W [] H H1 → Ok W M H1 → ∀ Q : VK, (∀ v H2, Ex W [] H1 H2 → Rep W M H2 v x → Q v H2) → te σ H1 Q
/-- .. one of several -/
def EvR {α : Type} [Py α] (W : Wd) (M : List Addr) (te : TE) (σ : L2.St) (H : Hp) (P : α → Prop) : Prop :=
  ∀ H1, Ex W [] H H1 → Ok W M H1 → ∀ Q : VK, (∀ v x H2, P x → Ex W [] H1 H2 → Rep W M H2 v x → Q v H2) → te σ H1 Q
/-- a test's answer -/
def Et (W : Wd) (M : List Addr) (tt : TT) (σ : L2.St) (H : Hp) (b : Bool) : Prop :=
  ∀ H1, Ex W [] H H1 → Ok W M H1 → ∀ Q : Bool → Hp → Prop, (∀ H2, Ex W [] H1 H2 → Q b H2) → tt σ H1 Q
/-- arguments of one kind -/
def Ea {α : Type} [Py α] (W : Wd) (M : List Addr) (ta : TA) (σ : L2.St) (H : Hp) (xs : List α) : Prop :=
  ∀ H1, Ex W [] H H1 → Ok W M H1 → ∀ Q : List V → Hp → Prop, (∀ vs H2, Ex W [] H1 H2 → Paired (Rep W M H2) vs xs → Q vs H2) → ta σ H1 Q
/-- a part of a slice -/
def Eo (W : Wd) (M : List Addr) (to : TO) (σ : L2.St) (H : Hp) (o : Option Int) : Prop :=
  ∀ H1, Ex W [] H H1 → Ok W M H1 → ∀ Q : Option Int → Hp → Prop, (∀ H2, Ex W [] H1 H2 → Q o H2) → to σ H1 Q
/-- slot i holds x -/
def Sl {α : Type} [Py α] (W : Wd) (M : List Addr) (σ : L2.St) (H : Hp) (i : Nat) (x : α) : Prop := ∃ v, σ[i]? = some (some v) ∧ Rep W M H v x

section
variable {α β γ : Type} [Py α] [Py β] [Py γ] {W : Wd} {M N : List Addr} {σ σ' : L2.St} {H H1 H2 H' : Hp} {p a : Addr} {o : HO} {v : V} {x : α} {y : β} {i k : Nat} {te ta tb tc : TE} {t u : TT}
theorem Sl.up (h : Sl W M σ H i x) (e : Ex W [] H H') : Sl W M σ H' i x := let ⟨v, hv, r⟩ := h; ⟨v, hv, r.up e⟩
theorem Sl.ex (h : Sl W M σ H i x) (e : Ex W M H H') : Sl W M σ H' i x := let ⟨v, hv, r⟩ := h; ⟨v, hv, r.ex e⟩
theorem Sl.set (h : Sl W M σ H i x) (e : Ex W [] H H') (n : i ≠ k := by decide) : Sl W M (σ.set k (some v)) H' i x :=
  let ⟨u, hv, r⟩ := h; ⟨u, by rw [List.getElem?_set_ne (Ne.symm n)]; exact hv, r.up e⟩
theorem Sl.setM (h : Sl W M σ H i x) (e : Ex W M H H') (n : i ≠ k := by decide) : Sl W M (σ.set k (some v)) H' i x :=
  let ⟨u, hv, r⟩ := h; ⟨u, by rw [List.getElem?_set_ne (Ne.symm n)]; exact hv, r.ex e⟩
/-- the slot that was stored -/
theorem Sl.here (r : Rep W M H v x) (h : k < σ.length) : Sl W M (σ.set k (some v)) H k x := ⟨v, by rw [List.getElem?_set_self h], r⟩
theorem Sl.grow (h : Sl W M σ H i x) (hp : H p = none) : Sl W (p :: M) σ (upd H p o) i x := let ⟨v, hv, r⟩ := h; ⟨v, hv, r.grow hp⟩
theorem Sl.less (h : Sl W (p :: M) σ H i x) : Sl W M σ H i x := let ⟨v, hv, r⟩ := h; ⟨v, hv, r.less⟩
theorem Sl.lt (h : Sl W M σ H i x) : i < σ.length := let ⟨_, hv, _⟩ := h; (List.getElem?_eq_some_iff.mp hv).1
theorem Sl.wipe (h : Sl W M σ H i x) {vs : List Nat} (n : i ∉ vs := by decide) : Sl W M (L2.wipe σ vs) H i x := by
  obtain ⟨v, hv, r⟩ := h
  refine ⟨v, ?_, r⟩
  induction vs with
  | nil => exact hv
  | cons a l ih =>
    show ((L2.wipe σ l).set a none)[i]? = some (some v)
    rw [List.getElem?_set_ne (fun z => n (by rw [z]; exact List.mem_cons_self))]
    exact ih (fun z => n (List.mem_cons_of_mem _ z))

theorem Ev.up (h : Ev W M te σ H x) (e : Ex W [] H H') : Ev W M te σ H' x := fun H1 a => h H1 (e.trans a)
theorem EvR.up {P : α → Prop} (h : EvR W M te σ H P) (e : Ex W [] H H') : EvR W M te σ H' P := fun H1 a => h H1 (e.trans a)
theorem Et.up {b : Bool} (h : Et W M t σ H b) (e : Ex W [] H H') : Et W M t σ H' b := fun H1 a => h H1 (e.trans a)
theorem Ev.r (h : Ev W M te σ H x) : EvR W M te σ H (fun y => y = x) := fun H1 e o Q q => h H1 e o Q fun v H2 e2 r => q v x H2 rfl e2 r
theorem EvR.imp {P P' : α → Prop} (h : EvR W M te σ H P) (hp : ∀ x, P x → P' x) : EvR W M te σ H P' := fun H1 e o Q q => h H1 e o Q fun v x H2 p e2 r => q v x H2 (hp x p) e2 r
theorem Ev.is {x' : α} (h : Ev W M te σ H x) (e : x = x') : Ev W M te σ H x' := e ▸ h
theorem Et.is {b c : Bool} (h : Et W M t σ H b) (e : b = c) : Et W M t σ H c := e ▸ h

/-! ### names, constants -/
theorem ev_var (h : Sl W M σ H i x) : Ev W M (tVar i) σ H x := fun H1 e _ Q q => let ⟨v, hv, r⟩ := h.up e; ⟨v, hv, q v H1 Ex.refl r⟩
theorem ev_int {n : Int} : Ev W M (tC (.int n)) σ H n := fun H1 _ _ Q q => q _ H1 Ex.refl rep_int
theorem ev_str {s : Str} : Ev W M (tC (.str s)) σ H s := fun H1 _ _ Q q => q _ H1 Ex.refl rep_str
theorem ev_bl {b : Bool} : Ev W M (tC (.bl b)) σ H b := fun H1 _ _ Q q => q _ H1 Ex.refl rep_bl
theorem ev_non : Ev W M (tC .non) σ H () := fun H1 _ _ Q q => q _ H1 Ex.refl rfl

/-! ### whole numbers -/
theorem ev_I0 {g : Int → Int → Int} {m n : Int} (ha : Ev W M ta σ H m) (hb : Ev W M tb σ H n) : Ev W M (tOp (rI0 fun i j => .int (g i j)) ta tb) σ H (g m n) := fun H1 e ok Q q =>
  ha H1 e ok _ fun v H2 e2 r => hb H2 (e.trans e2) (ok.ex e2) _ fun u H3 e3 r3 => ⟨m, n, r, r3, q _ H3 (e2.trans e3) rep_int⟩
theorem ev_B0 {g : Int → Int → Bool} {m n : Int} (ha : Ev W M ta σ H m) (hb : Ev W M tb σ H n) : Ev W M (tOp (rI0 fun i j => .bl (g i j)) ta tb) σ H (g m n) := fun H1 e ok Q q =>
  ha H1 e ok _ fun v H2 e2 r => hb H2 (e.trans e2) (ok.ex e2) _ fun u H3 e3 r3 => ⟨m, n, r, r3, q _ H3 (e2.trans e3) rep_bl⟩
theorem ev_I {C : Int → Int → Prop} {g : Int → Int → Int} {m n : Int} (ha : Ev W M ta σ H m) (hb : Ev W M tb σ H n) (hc : C m n) : Ev W M (tOp (rI C fun i j => .int (g i j)) ta tb) σ H (g m n) := fun H1 e ok Q q =>
  ha H1 e ok _ fun v H2 e2 r => hb H2 (e.trans e2) (ok.ex e2) _ fun u H3 e3 r3 => ⟨m, n, r, r3, hc, q _ H3 (e2.trans e3) rep_int⟩
theorem ev_U {g : Int → Int} {m : Int} (ha : Ev W M ta σ H m) : Ev W M (tUn (rU fun i => .int (g i)) ta) σ H (g m) := fun H1 e ok Q q =>
  ha H1 e ok _ fun v H2 e2 r => ⟨m, r, q _ H2 e2 rep_int⟩
/-- a <= b <= c of ints -/
theorem ev_chain {g g' : Int → Int → Bool} {m n l : Int} (ha : Ev W M ta σ H m) (hb : Ev W M tb σ H n) (hc : Ev W M tc σ H l) :
    Ev W M (tChain (rI0 fun i j => .bl (g i j)) (rI0 fun i j => .bl (g' i j)) ta tb tc) σ H (g m n && g' n l) := fun H1 e ok Q q =>
  ha H1 e ok _ fun v H2 e2 r => hb H2 (e.trans e2) (ok.ex e2) _ fun u H3 e3 r3 => ⟨m, n, r, r3, g m n, rfl, by
    cases hg : g m n with
    | true =>
      rw [if_pos rfl]
      refine hc H3 ((e.trans e2).trans e3) ((ok.ex e2).ex e3) _ fun w H4 e4 r4 => ?_
      exact ⟨n, l, r3, r4, q _ H4 ((e2.trans e3).trans e4) (by rw [hg, Bool.true_and]; exact rep_bl)⟩
    | false =>
      rw [if_neg Bool.false_ne_true]
      exact q _ H3 (e2.trans e3) (by rw [hg, Bool.false_and]; exact rep_bl)⟩

/-! ### truth -/
theorem ev_and {a b : Bool} (h1 : Ev W M ta σ H a) (h2 : a = true → Ev W M tb σ H b) : Ev W M (tAndV ta tb) σ H (a && b) := fun H1 e ok Q q => h1 H1 e ok _ fun v H2 e2 r => ⟨a, r, by
  cases a with
  | true => rw [if_pos rfl]; exact h2 rfl H2 (e.trans e2) (ok.ex e2) Q fun v H3 e3 r3 => q v H3 (e2.trans e3) r3
  | false => rw [if_neg Bool.false_ne_true]; exact q _ H2 e2 rep_bl⟩
theorem ev_or {a b : Bool} (h1 : Ev W M ta σ H a) (h2 : a = false → Ev W M tb σ H b) : Ev W M (tOrV ta tb) σ H (a || b) := fun H1 e ok Q q => h1 H1 e ok _ fun v H2 e2 r => ⟨a, r, by
  cases a with
  | true => rw [if_pos rfl]; exact q _ H2 e2 rep_bl
  | false => rw [if_neg Bool.false_ne_true]; exact h2 rfl H2 (e.trans e2) (ok.ex e2) Q fun v H3 e3 r3 => q v H3 (e2.trans e3) r3⟩
theorem ev_not {a : Bool} (h1 : Ev W M ta σ H a) : Ev W M (tNotV ta) σ H (!a) := fun H1 e ok Q q => h1 H1 e ok _ fun v H2 e2 r => ⟨a, r, q _ H2 e2 rep_bl⟩
theorem ev_ife {b : Bool} {x y : α} (h : Et W M t σ H b) (h1 : b = true → Ev W M ta σ H x) (h2 : b = false → Ev W M tb σ H y) : Ev W M (tIf t ta tb) σ H (if b = true then x else y) := fun H1 e ok Q q => h H1 e ok _ fun H2 e2 => by
  cases b with
  | true =>
    show ta σ H2 Q
    exact h1 rfl H2 (e.trans e2) (ok.ex e2) Q fun v H3 e3 r3 => q v H3 (e2.trans e3) r3
  | false =>
    show tb σ H2 Q
    exact h2 rfl H2 (e.trans e2) (ok.ex e2) Q fun v H3 e3 r3 => q v H3 (e2.trans e3) r3
theorem et_t {b : Bool} (h : Ev W M te σ H b) : Et W M (tTest te) σ H b := fun H1 e ok Q q => h H1 e ok _ fun v H2 e2 r => ⟨b, r, q H2 e2⟩
theorem et_b {b : Bool} (h : Ev W M te σ H b) : Et W M (tB te) σ H b := fun H1 e ok Q q => h H1 e ok _ fun v H2 e2 r => ⟨b, r, q H2 e2⟩
theorem et_not {b : Bool} (h : Et W M t σ H b) : Et W M (tNot t) σ H (!b) := fun H1 e ok Q q => h H1 e ok _ fun H2 e2 => q H2 e2
theorem et_and {a b : Bool} (h1 : Et W M t σ H a) (h2 : a = true → Et W M u σ H b) : Et W M (tAnd t u) σ H (a && b) := fun H1 e ok Q q => h1 H1 e ok _ fun H2 e2 => by
  cases a with
  | true => rw [if_pos rfl]; exact h2 rfl H2 (e.trans e2) (ok.ex e2) Q fun H3 e3 => q H3 (e2.trans e3)
  | false => rw [if_neg Bool.false_ne_true]; exact q H2 e2
theorem et_or {a b : Bool} (h1 : Et W M t σ H a) (h2 : a = false → Et W M u σ H b) : Et W M (tOr t u) σ H (a || b) := fun H1 e ok Q q => h1 H1 e ok _ fun H2 e2 => by
  cases a with
  | true => rw [if_pos rfl]; exact q H2 e2
  | false => rw [if_neg Bool.false_ne_true]; exact h2 rfl H2 (e.trans e2) (ok.ex e2) Q fun H3 e3 => q H3 (e2.trans e3)
end

/-! ### == of scalars -/
class PyS (α : Type) [DecidableEq α] extends Py α where
  toV : α → V
  is : ∀ {W : Wd} {H : Hp} {v : V} {x : α}, rep W H v x ↔ v = toV x
  inj : ∀ {x y : α}, toV x = toV y → x = y
  sc : ∀ x y : α, scal (toV x) (toV y) = true
instance : PyS Int := { toV := V.int, is := Iff.rfl, inj := V.int.inj, sc := fun _ _ => rfl }
instance : PyS Bool := { toV := V.bl, is := Iff.rfl, inj := V.bl.inj, sc := fun _ _ => rfl }
instance : PyS Str := { toV := V.str, is := Iff.rfl, inj := V.str.inj, sc := fun _ _ => rfl }
section
variable {α : Type} [DecidableEq α] [PyS α] {W : Wd} {M : List Addr} {σ : L2.St} {H : Hp} {ta tb : TE} {x y : α}
theorem rep_toV : Rep W M H (PyS.toV x) x := PyS.is.mpr rfl
theorem Rep.toV {v : V} (h : Rep W M H v x) : v = PyS.toV x := PyS.is.mp h
theorem dec_toV : decide (PyS.toV x = PyS.toV y) = decide (x = y) := by
  by_cases h : x = y
  · rw [h]; simp
  · rw [decide_eq_false h, decide_eq_false (fun z => h (PyS.inj z))]
theorem ev_eq (ha : Ev W M ta σ H x) (hb : Ev W M tb σ H y) : Ev W M (tOp rEq ta tb) σ H (decide (x = y)) := fun H1 e ok Q q =>
  ha H1 e ok _ fun v H2 e2 r => hb H2 (e.trans e2) (ok.ex e2) _ fun u H3 e3 r3 => by
    rw [r.toV, r3.toV]
    exact ⟨PyS.sc x y, by rw [dec_toV]; exact q _ H3 (e2.trans e3) rep_bl⟩
theorem ev_ne (ha : Ev W M ta σ H x) (hb : Ev W M tb σ H y) : Ev W M (tOp rNe ta tb) σ H (!decide (x = y)) := fun H1 e ok Q q =>
  ha H1 e ok _ fun v H2 e2 r => hb H2 (e.trans e2) (ok.ex e2) _ fun u H3 e3 r3 => by
    rw [r.toV, r3.toV]
    exact ⟨PyS.sc x y, by rw [dec_toV]; exact q _ H3 (e2.trans e3) rep_bl⟩
theorem paired_toV {xs : List α} : ∀ {vs : List V}, Paired (Rep W M H) vs xs → vs = xs.map PyS.toV := by
  induction xs with
  | nil => intro vs h; cases h; rfl
  | cons x xs ih =>
    intro vs h
    cases h with
    | cons r t => rw [List.map_cons, ← ih t, Rep.toV r]
theorem toV_paired : ∀ {xs : List α}, Paired (Rep W M H) (xs.map PyS.toV) xs
  | [] => .nil
  | _ :: _ => .cons rep_toV toV_paired
end
/-! ### == of data of any kinds (the texts of any signs) -/
section
variable {X : Cx} {pins : List (Addr × Obj)} {σ : L2.St} {H : Hp} {s : Shared}
theorem in1_units (A : Around) : A.in1.units = A.units + 1 := rfl
theorem dpAll_len {K : PySem.W.Frag} : ∀ {ds : List PyData} {vs : List V}, DpAll K H vs ds → vs.length = ds.length
  | [], _, h => by cases h; rfl
  | _ :: _, _, h => by cases h with | cons _ t => rw [List.length_cons, List.length_cons, dpAll_len t]
theorem sqL_uniq (I : L2.Inv X pins σ H s) {a : Addr} {xs ys : List V} (h : SqL X.K H a xs) (h2 : SqL X.K H a ys) : xs = ys := by
  obtain ⟨its, rv, ⟨o, k, e, _, _, hd⟩, _⟩ := I.list h
  obtain ⟨its2, rv2, ⟨o', k', e', _, _, hd'⟩, _⟩ := I.list h2
  rw [e] at e'; cases e'
  rw [hd] at hd'
  injection hd' with h1 _
  have q : its = its2 := congrArg Array.toList h1
  subst q
  exact Vals.inj rv rv2
theorem sqT_uniq (I : L2.Inv X pins σ H s) {a : Addr} {xs ys : List V} (h : SqT X.K H a xs) (h2 : SqT X.K H a ys) : xs = ys := by
  obtain ⟨its, rv, ⟨o, e, _, k, hd⟩, _⟩ := I.tuple h
  obtain ⟨its2, rv2, ⟨o', e', _, k', hd'⟩, _⟩ := I.tuple h2
  rw [e] at e'; cases e'
  rw [hd] at hd'
  injection hd' with h1 _
  have q : its = its2 := congrArg Array.toList h1
  subst q
  exact Vals.inj rv rv2
theorem sq_not (I : L2.Inv X pins σ H s) {a : Addr} {xs ys : List V} (h : SqL X.K H a xs) (h2 : SqT X.K H a ys) : False := by
  obtain ⟨its, rv, ⟨o, k, e, hc, _, hd⟩, _⟩ := I.list h
  obtain ⟨its2, rv2, ⟨o', e', hc', k', hd'⟩, _⟩ := I.tuple h2
  rw [e] at e'; cases e'
  rw [hc] at hc'
  exact absurd hc' (by decide)
mutual
theorem dp_uniq (I : L2.Inv X pins σ H s) : ∀ (d e : PyData) (v : V), Dp X.K H v d → Dp X.K H v e → d = e
  | .none, _, _, h, h2 => by cases h; cases h2; rfl
  | .bool _, _, _, h, h2 => by cases h; cases h2; rfl
  | .int _, _, _, h, h2 => by cases h; cases h2; rfl
  | .str _, _, _, h, h2 => by cases h; cases h2; rfl
  | .list ds, _, _, h, h2 => by
    cases h with
    | lst s1 a1 =>
      cases h2 with
      | lst s2 a2 => rw [sqL_uniq I s1 s2] at a1; rw [dpAll_uniq I ds _ _ a1 a2]
      | tup s2 a2 => exact (sq_not I s1 s2).elim
  | .tuple ds, _, _, h, h2 => by
    cases h with
    | tup s1 a1 =>
      cases h2 with
      | tup s2 a2 => rw [sqT_uniq I s1 s2] at a1; rw [dpAll_uniq I ds _ _ a1 a2]
      | lst s2 a2 => exact (sq_not I s2 s1).elim
  | .dict _, _, _, h, _ => by cases h
theorem dpAll_uniq (I : L2.Inv X pins σ H s) : ∀ (ds es : List PyData) (vs : List V), DpAll X.K H vs ds → DpAll X.K H vs es → ds = es
  | [], _, _, h, h2 => by cases h; cases h2; rfl
  | d :: ds, _, _, h, h2 => by
    cases h with
    | cons a b =>
      cases h2 with
      | cons a2 b2 => rw [dp_uniq I d _ _ a a2, dpAll_uniq I ds _ _ b b2]
end
mutual
theorem eqv_dp {K : PySem.W.Frag} : ∀ (d : PyData) (v : V), Dp K H v d → PyData.eqv d d = true
  | .none, _, _ => rfl
  | .bool _, _, _ => by simp [PyData.eqv]
  | .int _, _, _ => by simp [PyData.eqv]
  | .str _, _, _ => by simp [PyData.eqv]
  | .list ds, _, h => by cases h with | lst _ a => rw [PyData.eqv]; exact eqvAll_dp ds _ a
  | .tuple ds, _, h => by cases h with | tup _ a => rw [PyData.eqv]; exact eqvAll_dp ds _ a
  | .dict _, _, h => by cases h
theorem eqvAll_dp {K : PySem.W.Frag} : ∀ (ds : List PyData) (vs : List V), DpAll K H vs ds → PyData.eqvAll ds ds = true
  | [], _, _ => rfl
  | d :: ds, _, h => by cases h with | cons a b => rw [PyData.eqvAll, eqv_dp d _ a, eqvAll_dp ds _ b]; rfl
end
theorem eqvAll_same {xs ys : List PyData} (h : xs.length = ys.length) : PyData.eqvAll xs ys = (List.range xs.length).all (SeqAt.pairEq xs ys) := by
  rw [← SeqAt.eqvAll_eq xs ys, ← h, Nat.min_self]
  simp
theorem eqvAll_other {xs ys : List PyData} (h : ¬ xs.length = ys.length) : PyData.eqvAll xs ys = false := by
  rw [← SeqAt.eqvAll_eq xs ys]
  simp [h]
open SeqAt in
mutual
theorem eqE (I : L2.Inv X pins σ H s) : ∀ (d e : PyData) (A : Around) (v u : V) (v' u' : Value), Dp X.K H v d → Dp X.K H u e → RelV v v' → RelV u u' → A.units + d.depth < cLine → EqAt A s v' u' (PyData.eqv d e)
  | d, e, A, v, u, v', u', hd, he, r, q, room => by
    have c0 : A.units < cLine := by omega
    cases hd with
    | non =>
      obtain rfl : v' = Value.none := r
      cases he with
      | non => obtain rfl : u' = Value.none := q; exact EqAt.same _
      | bl b => obtain rfl : u' = Value.bool b := q; exact EqAt.none_bool _
      | int i => obtain ⟨t, rfl⟩ := q; exact EqAt.none_int _ _
      | str i => obtain ⟨t, rfl⟩ := q; exact EqAt.none_str _ _
      | lst h _ => cases q; obtain ⟨_, _, pl, _⟩ := I.list h; exact EqAt.none_list pl.isList c0
      | tup h _ => cases q; obtain ⟨_, _, pl, _⟩ := I.tuple h; exact EqAt.none_tuple pl c0
    | bl k =>
      obtain rfl : v' = Value.bool k := r
      cases he with
      | non => obtain rfl : u' = Value.none := q; exact EqAt.bool_none _
      | bl b => obtain rfl : u' = Value.bool b := q; exact EqAt.bool_bool _ _
      | int i => obtain ⟨t, rfl⟩ := q; exact EqAt.bool_int _ _ _
      | str i => obtain ⟨t, rfl⟩ := q; exact EqAt.bool_str _ _ _
      | lst h _ => cases q; obtain ⟨_, _, pl, _⟩ := I.list h; exact EqAt.bool_list _ pl.isList c0
      | tup h _ => cases q; obtain ⟨_, _, pl, _⟩ := I.tuple h; exact EqAt.bool_tuple _ pl c0
    | int k =>
      obtain ⟨t1, rfl⟩ := r
      cases he with
      | non => obtain rfl : u' = Value.none := q; exact EqAt.int_none _ _
      | bl b => obtain rfl : u' = Value.bool b := q; exact EqAt.int_bool _ _ _
      | int i => obtain ⟨t, rfl⟩ := q; exact EqAt.int_int _ _ _ _
      | str i => obtain ⟨t, rfl⟩ := q; exact EqAt.int_str _ _ _ _
      | lst h _ => cases q; obtain ⟨_, _, pl, _⟩ := I.list h; exact EqAt.int_list _ _ pl.isList c0
      | tup h _ => cases q; obtain ⟨_, _, pl, _⟩ := I.tuple h; exact EqAt.int_tuple _ _ pl c0
    | str k =>
      obtain ⟨t1, rfl⟩ := r
      cases he with
      | non => obtain rfl : u' = Value.none := q; exact EqAt.str_none _ _
      | bl b => obtain rfl : u' = Value.bool b := q; exact EqAt.str_bool _ _ _
      | int i => obtain ⟨t, rfl⟩ := q; exact EqAt.str_int _ _ _ _
      | str i => obtain ⟨t, rfl⟩ := q; exact EqAt.str_str _ _ _ _
      | lst h _ => cases q; obtain ⟨_, _, pl, _⟩ := I.list h; exact EqAt.str_list _ _ pl.isList c0
      | tup h _ => cases q; obtain ⟨_, _, pl, _⟩ := I.tuple h; exact EqAt.str_tuple _ _ pl c0
    | @lst a xs ds h ha =>
      cases r
      obtain ⟨its, rv, pl, _⟩ := I.list h
      cases he with
      | non => obtain rfl : u' = Value.none := q; exact EqAt.list_none pl.isList c0
      | bl b => obtain rfl : u' = Value.bool b := q; exact EqAt.list_bool _ pl.isList c0
      | int i => obtain ⟨t, rfl⟩ := q; exact EqAt.list_int _ _ pl.isList c0
      | str i => obtain ⟨t, rfl⟩ := q; exact EqAt.list_str _ _ pl.isList c0
      | tup h2 _ => cases q; obtain ⟨_, _, pl2, _⟩ := I.tuple h2; exact EqAt.list_tuple pl.isList pl2 c0
      | @lst b ys es h2 hb =>
        cases q
        obtain ⟨its2, rv2, pl2, _⟩ := I.list h2
        have n1 : ds.length = its.length := by rw [← rv.length]; exact (dpAll_len ha).symm
        have n2 : es.length = its2.length := by rw [← rv2.length]; exact (dpAll_len hb).symm
        have dd : A.in1.units + PyData.depthAll ds < cLine := by rw [in1_units]; rw [PyData.depth] at room; omega
        by_cases hab : a = b
        · subst hab
          rw [sqL_uniq I h h2] at ha
          have qd := dpAll_uniq I ds es _ ha hb
          rw [qd] at ha ⊢
          rw [show PyData.eqv (.list es) (.list es) = true by rw [PyData.eqv]; exact eqvAll_dp es _ ha]
          exact EqAt.same _
        · refine EqAt.of_refs hab ?_
          have he : ∀ j (h1 : j < its.toArray.size) (h2 : j < its2.toArray.size), EqAt A.in1 s its.toArray[j] its2.toArray[j] (pairEq ds es j) := fun j h1 h2 => by
            have z := eqEAll I ds es A.in1 xs ys its its2 ha hb rv rv2 dd j (by simpa using h1) (by simpa using h2)
            simpa using z
          by_cases hl : its.length = its2.length
          · rw [show PyData.eqv (.list ds) (.list es) = (List.range its.toArray.size).all (pairEq ds es) by rw [PyData.eqv, eqvAll_same (n1.trans (hl.trans n2.symm)), n1]; simp]
            exact RcAt.lists pl.isList pl2.isList (by simpa using hl) c0 he
          · rw [show PyData.eqv (.list ds) (.list es) = false by rw [PyData.eqv]; exact eqvAll_other (fun z => hl (by omega))]
            exact RcAt.lists_lengths pl.isList pl2.isList (by simpa using hl) c0
    | @tup a xs ds h ha =>
      cases r
      obtain ⟨its, rv, pl, _⟩ := I.tuple h
      cases he with
      | non => obtain rfl : u' = Value.none := q; exact EqAt.tuple_none pl c0
      | bl b => obtain rfl : u' = Value.bool b := q; exact EqAt.tuple_bool _ pl c0
      | int i => obtain ⟨t, rfl⟩ := q; exact EqAt.tuple_int _ _ pl c0
      | str i => obtain ⟨t, rfl⟩ := q; exact EqAt.tuple_str _ _ pl c0
      | lst h2 _ => cases q; obtain ⟨_, _, pl2, _⟩ := I.list h2; exact EqAt.tuple_list pl pl2.isList c0
      | @tup b ys es h2 hb =>
        cases q
        obtain ⟨its2, rv2, pl2, _⟩ := I.tuple h2
        have n1 : ds.length = its.length := by rw [← rv.length]; exact (dpAll_len ha).symm
        have n2 : es.length = its2.length := by rw [← rv2.length]; exact (dpAll_len hb).symm
        have dd : A.in1.units + PyData.depthAll ds < cLine := by rw [in1_units]; rw [PyData.depth] at room; omega
        by_cases hab : a = b
        · subst hab
          rw [sqT_uniq I h h2] at ha
          have qd := dpAll_uniq I ds es _ ha hb
          rw [qd] at ha ⊢
          rw [show PyData.eqv (.tuple es) (.tuple es) = true by rw [PyData.eqv]; exact eqvAll_dp es _ ha]
          exact EqAt.same _
        · refine EqAt.of_refs hab ?_
          have he : ∀ j (h1 : j < its.toArray.size) (h2 : j < its2.toArray.size), EqAt A.in1 s its.toArray[j] its2.toArray[j] (pairEq ds es j) := fun j h1 h2 => by
            have z := eqEAll I ds es A.in1 xs ys its its2 ha hb rv rv2 dd j (by simpa using h1) (by simpa using h2)
            simpa using z
          rw [show PyData.eqv (.tuple ds) (.tuple es) = ((List.range (min its.toArray.size its2.toArray.size)).all (pairEq ds es) && its.toArray.size == its2.toArray.size) by rw [PyData.eqv, ← eqvAll_eq, n1, n2]; simp]
          exact RcAt.tuples pl pl2 c0 he
theorem eqEAll (I : L2.Inv X pins σ H s) : ∀ (ds es : List PyData) (A : Around) (vs us : List V) (vs' us' : List Value), DpAll X.K H vs ds → DpAll X.K H us es → Vals vs vs' → Vals us us' → A.units + PyData.depthAll ds < cLine →
    ∀ (j : Nat) (h1 : j < vs'.length) (h2 : j < us'.length), EqAt A s vs'[j] us'[j] (pairEq ds es j)
  | [], _, _, _, _, _, _, ha, _, r, _, _, j, h1, _ => by cases ha; cases r; exact absurd h1 (Nat.not_lt_zero _)
  | _ :: _, [], _, _, _, _, _, _, hb, _, q, _, j, _, h2 => by cases hb; cases q; exact absurd h2 (Nat.not_lt_zero _)
  | d :: ds, e :: es, A, _, _, _, _, ha, hb, r, q, room, j, h1, h2 => by
    have d1 : A.units + d.depth < cLine := by rw [PyData.depthAll] at room; omega
    have d2 : A.units + PyData.depthAll ds < cLine := by rw [PyData.depthAll] at room; omega
    cases ha with
    | cons a1 a2 =>
      cases hb with
      | cons b1 b2 =>
        cases r with
        | cons r1 r2 =>
          cases q with
          | cons q1 q2 =>
            cases j with
            | zero => exact eqE I d e A _ _ _ _ a1 b1 r1 q1 d1
            | succ j => exact eqEAll I ds es A _ _ _ _ a2 b2 r2 q2 d2 j (Nat.lt_of_succ_lt_succ h1) (Nat.lt_of_succ_lt_succ h2)
end
open SeqAt in
theorem rcE (I : L2.Inv X pins σ H s) : ∀ (d e : PyData) (A : Around) (v u : V) (v' u' : Value), Dp X.K H v d → Dp X.K H u e → RelV v v' → RelV u u' → A.units + d.depth < cLine → RcAt A s v' u' (PyData.eqv d e)
  | d, e, A, v, u, v', u', hd, he, r, q, room => by
    have c0 : A.units < cLine := by omega
    cases hd with
    | non =>
      obtain rfl : v' = Value.none := r
      cases he with
      | non => obtain rfl : u' = Value.none := q; exact RcAt.none_none
      | bl b => obtain rfl : u' = Value.bool b := q; exact RcAt.none_bool _
      | int i => obtain ⟨t, rfl⟩ := q; exact RcAt.none_int _ _
      | str i => obtain ⟨t, rfl⟩ := q; exact RcAt.none_str _ _
      | lst h _ => cases q; obtain ⟨_, _, pl, _⟩ := I.list h; exact RcAt.none_list pl.isList c0
      | tup h _ => cases q; obtain ⟨_, _, pl, _⟩ := I.tuple h; exact RcAt.none_tuple pl c0
    | bl k =>
      obtain rfl : v' = Value.bool k := r
      cases he with
      | non => obtain rfl : u' = Value.none := q; exact RcAt.bool_none _
      | bl b => obtain rfl : u' = Value.bool b := q; exact RcAt.bool_bool _ _
      | int i => obtain ⟨t, rfl⟩ := q; exact RcAt.bool_int _ _ _
      | str i => obtain ⟨t, rfl⟩ := q; exact RcAt.bool_str _ _ _
      | lst h _ => cases q; obtain ⟨_, _, pl, _⟩ := I.list h; exact RcAt.bool_list _ pl.isList c0
      | tup h _ => cases q; obtain ⟨_, _, pl, _⟩ := I.tuple h; exact RcAt.bool_tuple _ pl c0
    | int k =>
      obtain ⟨t1, rfl⟩ := r
      cases he with
      | non => obtain rfl : u' = Value.none := q; exact RcAt.int_none _ _
      | bl b => obtain rfl : u' = Value.bool b := q; exact RcAt.int_bool _ _ _
      | int i => obtain ⟨t, rfl⟩ := q; exact RcAt.int_int _ _ _ _
      | str i => obtain ⟨t, rfl⟩ := q; exact RcAt.int_str _ _ _ _
      | lst h _ => cases q; obtain ⟨_, _, pl, _⟩ := I.list h; exact RcAt.int_list _ _ pl.isList c0
      | tup h _ => cases q; obtain ⟨_, _, pl, _⟩ := I.tuple h; exact RcAt.int_tuple _ _ pl c0
    | str k =>
      obtain ⟨t1, rfl⟩ := r
      cases he with
      | non => obtain rfl : u' = Value.none := q; exact RcAt.str_none _ _
      | bl b => obtain rfl : u' = Value.bool b := q; exact RcAt.str_bool _ _ _
      | int i => obtain ⟨t, rfl⟩ := q; exact RcAt.str_int _ _ _ _
      | str i => obtain ⟨t, rfl⟩ := q; exact RcAt.str_str _ _ _ _
      | lst h _ => cases q; obtain ⟨_, _, pl, _⟩ := I.list h; exact RcAt.str_list _ _ pl.isList c0
      | tup h _ => cases q; obtain ⟨_, _, pl, _⟩ := I.tuple h; exact RcAt.str_tuple _ _ pl c0
    | @lst a xs ds h ha =>
      cases r
      obtain ⟨its, rv, pl, _⟩ := I.list h
      cases he with
      | non => obtain rfl : u' = Value.none := q; exact RcAt.list_none pl.isList c0
      | bl b => obtain rfl : u' = Value.bool b := q; exact RcAt.list_bool _ pl.isList c0
      | int i => obtain ⟨t, rfl⟩ := q; exact RcAt.list_int _ _ pl.isList c0
      | str i => obtain ⟨t, rfl⟩ := q; exact RcAt.list_str _ _ pl.isList c0
      | tup h2 _ => cases q; obtain ⟨_, _, pl2, _⟩ := I.tuple h2; exact RcAt.list_tuple pl.isList pl2 c0
      | @lst b ys es h2 hb =>
        cases q
        obtain ⟨its2, rv2, pl2, _⟩ := I.list h2
        have n1 : ds.length = its.length := by rw [← rv.length]; exact (dpAll_len ha).symm
        have n2 : es.length = its2.length := by rw [← rv2.length]; exact (dpAll_len hb).symm
        have dd : A.in1.units + PyData.depthAll ds < cLine := by rw [in1_units]; rw [PyData.depth] at room; omega
        have he : ∀ j (h1 : j < its.toArray.size) (h2 : j < its2.toArray.size), EqAt A.in1 s its.toArray[j] its2.toArray[j] (pairEq ds es j) := fun j h1 h2 => by
          have z := eqEAll I ds es A.in1 xs ys its its2 ha hb rv rv2 dd j (by simpa using h1) (by simpa using h2)
          simpa using z
        by_cases hl : its.length = its2.length
        · rw [show PyData.eqv (.list ds) (.list es) = (List.range its.toArray.size).all (pairEq ds es) by rw [PyData.eqv, eqvAll_same (n1.trans (hl.trans n2.symm)), n1]; simp]
          exact RcAt.lists pl.isList pl2.isList (by simpa using hl) c0 he
        · rw [show PyData.eqv (.list ds) (.list es) = false by rw [PyData.eqv]; exact eqvAll_other (fun z => hl (by omega))]
          exact RcAt.lists_lengths pl.isList pl2.isList (by simpa using hl) c0
    | @tup a xs ds h ha =>
      cases r
      obtain ⟨its, rv, pl, _⟩ := I.tuple h
      cases he with
      | non => obtain rfl : u' = Value.none := q; exact RcAt.tuple_none pl c0
      | bl b => obtain rfl : u' = Value.bool b := q; exact RcAt.tuple_bool _ pl c0
      | int i => obtain ⟨t, rfl⟩ := q; exact RcAt.tuple_int _ _ pl c0
      | str i => obtain ⟨t, rfl⟩ := q; exact RcAt.tuple_str _ _ pl c0
      | lst h2 _ => cases q; obtain ⟨_, _, pl2, _⟩ := I.list h2; exact RcAt.tuple_list pl pl2.isList c0
      | @tup b ys es h2 hb =>
        cases q
        obtain ⟨its2, rv2, pl2, _⟩ := I.tuple h2
        have n1 : ds.length = its.length := by rw [← rv.length]; exact (dpAll_len ha).symm
        have n2 : es.length = its2.length := by rw [← rv2.length]; exact (dpAll_len hb).symm
        have dd : A.in1.units + PyData.depthAll ds < cLine := by rw [in1_units]; rw [PyData.depth] at room; omega
        have he : ∀ j (h1 : j < its.toArray.size) (h2 : j < its2.toArray.size), EqAt A.in1 s its.toArray[j] its2.toArray[j] (pairEq ds es j) := fun j h1 h2 => by
          have z := eqEAll I ds es A.in1 xs ys its its2 ha hb rv rv2 dd j (by simpa using h1) (by simpa using h2)
          simpa using z
        rw [show PyData.eqv (.tuple ds) (.tuple es) = ((List.range (min its.toArray.size its2.toArray.size)).all (pairEq ds es) && its.toArray.size == its2.toArray.size) by rw [PyData.eqv, ← eqvAll_eq, n1, n2]; simp]
        exact RcAt.tuples pl pl2 c0 he
open SeqAt in
theorem neE (I : L2.Inv X pins σ H s) : ∀ (d e : PyData) (A : Around) (v u : V) (v' u' : Value), Dp X.K H v d → Dp X.K H u e → RelV v v' → RelV u u' → A.units + d.depth < cLine → RcNeAt A s v' u' (!PyData.eqv d e)
  | d, e, A, v, u, v', u', hd, he, r, q, room => by
    have c0 : A.units < cLine := by omega
    cases hd with
    | non =>
      obtain rfl : v' = Value.none := r
      cases he with
      | non => obtain rfl : u' = Value.none := q; exact RcNeAt.none_none
      | bl b => obtain rfl : u' = Value.bool b := q; exact RcNeAt.none_bool _
      | int i => obtain ⟨t, rfl⟩ := q; exact RcNeAt.none_int _ _
      | str i => obtain ⟨t, rfl⟩ := q; exact RcNeAt.none_str _ _
      | lst h _ => cases q; obtain ⟨_, _, pl, _⟩ := I.list h; exact RcNeAt.none_list pl.isList c0
      | tup h _ => cases q; obtain ⟨_, _, pl, _⟩ := I.tuple h; exact RcNeAt.none_tuple pl c0
    | bl k =>
      obtain rfl : v' = Value.bool k := r
      cases he with
      | non => obtain rfl : u' = Value.none := q; exact RcNeAt.bool_none _
      | bl b => obtain rfl : u' = Value.bool b := q; exact RcNeAt.bool_bool _ _
      | int i => obtain ⟨t, rfl⟩ := q; exact RcNeAt.bool_int _ _ _
      | str i => obtain ⟨t, rfl⟩ := q; exact RcNeAt.bool_str _ _ _
      | lst h _ => cases q; obtain ⟨_, _, pl, _⟩ := I.list h; exact RcNeAt.bool_list _ pl.isList c0
      | tup h _ => cases q; obtain ⟨_, _, pl, _⟩ := I.tuple h; exact RcNeAt.bool_tuple _ pl c0
    | int k =>
      obtain ⟨t1, rfl⟩ := r
      cases he with
      | non => obtain rfl : u' = Value.none := q; exact RcNeAt.int_none _ _
      | bl b => obtain rfl : u' = Value.bool b := q; exact RcNeAt.int_bool _ _ _
      | int i => obtain ⟨t, rfl⟩ := q; exact RcNeAt.int_int _ _ _ _
      | str i => obtain ⟨t, rfl⟩ := q; exact RcNeAt.int_str _ _ _ _
      | lst h _ => cases q; obtain ⟨_, _, pl, _⟩ := I.list h; exact RcNeAt.int_list _ _ pl.isList c0
      | tup h _ => cases q; obtain ⟨_, _, pl, _⟩ := I.tuple h; exact RcNeAt.int_tuple _ _ pl c0
    | str k =>
      obtain ⟨t1, rfl⟩ := r
      cases he with
      | non => obtain rfl : u' = Value.none := q; exact RcNeAt.str_none _ _
      | bl b => obtain rfl : u' = Value.bool b := q; exact RcNeAt.str_bool _ _ _
      | int i => obtain ⟨t, rfl⟩ := q; exact RcNeAt.str_int _ _ _ _
      | str i => obtain ⟨t, rfl⟩ := q; exact RcNeAt.str_str _ _ _ _
      | lst h _ => cases q; obtain ⟨_, _, pl, _⟩ := I.list h; exact RcNeAt.str_list _ _ pl.isList c0
      | tup h _ => cases q; obtain ⟨_, _, pl, _⟩ := I.tuple h; exact RcNeAt.str_tuple _ _ pl c0
    | @lst a xs ds h ha =>
      cases r
      obtain ⟨its, rv, pl, _⟩ := I.list h
      cases he with
      | non => obtain rfl : u' = Value.none := q; exact RcNeAt.list_none pl.isList c0
      | bl b => obtain rfl : u' = Value.bool b := q; exact RcNeAt.list_bool _ pl.isList c0
      | int i => obtain ⟨t, rfl⟩ := q; exact RcNeAt.list_int _ _ pl.isList c0
      | str i => obtain ⟨t, rfl⟩ := q; exact RcNeAt.list_str _ _ pl.isList c0
      | tup h2 _ => cases q; obtain ⟨_, _, pl2, _⟩ := I.tuple h2; exact RcNeAt.list_tuple pl.isList pl2 c0
      | @lst b ys es h2 hb =>
        cases q
        obtain ⟨its2, rv2, pl2, _⟩ := I.list h2
        have n1 : ds.length = its.length := by rw [← rv.length]; exact (dpAll_len ha).symm
        have n2 : es.length = its2.length := by rw [← rv2.length]; exact (dpAll_len hb).symm
        have dd : A.in1.units + PyData.depthAll ds < cLine := by rw [in1_units]; rw [PyData.depth] at room; omega
        have he : ∀ j (h1 : j < its.toArray.size) (h2 : j < its2.toArray.size), EqAt A.in1 s its.toArray[j] its2.toArray[j] (pairEq ds es j) := fun j h1 h2 => by
          have z := eqEAll I ds es A.in1 xs ys its its2 ha hb rv rv2 dd j (by simpa using h1) (by simpa using h2)
          simpa using z
        by_cases hl : its.length = its2.length
        · rw [show PyData.eqv (.list ds) (.list es) = (List.range its.toArray.size).all (pairEq ds es) by rw [PyData.eqv, eqvAll_same (n1.trans (hl.trans n2.symm)), n1]; simp]
          exact RcNeAt.lists pl.isList pl2.isList (by simpa using hl) c0 he
        · rw [show PyData.eqv (.list ds) (.list es) = false by rw [PyData.eqv]; exact eqvAll_other (fun z => hl (by omega))]
          exact RcNeAt.lists_lengths pl.isList pl2.isList (by simpa using hl) c0
    | @tup a xs ds h ha =>
      cases r
      obtain ⟨its, rv, pl, _⟩ := I.tuple h
      cases he with
      | non => obtain rfl : u' = Value.none := q; exact RcNeAt.tuple_none pl c0
      | bl b => obtain rfl : u' = Value.bool b := q; exact RcNeAt.tuple_bool _ pl c0
      | int i => obtain ⟨t, rfl⟩ := q; exact RcNeAt.tuple_int _ _ pl c0
      | str i => obtain ⟨t, rfl⟩ := q; exact RcNeAt.tuple_str _ _ pl c0
      | lst h2 _ => cases q; obtain ⟨_, _, pl2, _⟩ := I.list h2; exact RcNeAt.tuple_list pl pl2.isList c0
      | @tup b ys es h2 hb =>
        cases q
        obtain ⟨its2, rv2, pl2, _⟩ := I.tuple h2
        have n1 : ds.length = its.length := by rw [← rv.length]; exact (dpAll_len ha).symm
        have n2 : es.length = its2.length := by rw [← rv2.length]; exact (dpAll_len hb).symm
        have dd : A.in1.units + PyData.depthAll ds < cLine := by rw [in1_units]; rw [PyData.depth] at room; omega
        have he : ∀ j (h1 : j < its.toArray.size) (h2 : j < its2.toArray.size), EqAt A.in1 s its.toArray[j] its2.toArray[j] (pairEq ds es j) := fun j h1 h2 => by
          have z := eqEAll I ds es A.in1 xs ys its its2 ha hb rv rv2 dd j (by simpa using h1) (by simpa using h2)
          simpa using z
        rw [show PyData.eqv (.tuple ds) (.tuple es) = ((List.range (min its.toArray.size its2.toArray.size)).all (pairEq ds es) && its.toArray.size == its2.toArray.size) by rw [PyData.eqv, ← eqvAll_eq, n1, n2]; simp]
        exact RcNeAt.tuples pl pl2 c0 he
open SeqAt in
/-- the items of a list or tuple, each against one value -/
theorem itemsE (I : L2.Inv X pins σ H s) {ds : List PyData} {d : PyData} {xs : List V} {its : List Value} {v : V} {v' : Value} (A : Around) (ha : DpAll X.K H xs ds) (hd : Dp X.K H v d) (r : Vals xs its) (q : RelV v v') (room : A.units + PyData.depthAll ds < cLine) :
    ∃ e : Value → Bool, (∀ y ∈ its, EqAt A s y v' (e y)) ∧ ∀ j, j < its.length → ∃ y d', its[j]? = some y ∧ ds[j]? = some d' ∧ e y = PyData.eqv d' d := by
  have one : ∀ (j : Nat) (y : Value), its[j]? = some y → ∃ d' w, ds[j]? = some d' ∧ Dp X.K H w d' ∧ RelV w y ∧ EqAt A s y v' (PyData.eqv d' d) := by
    intro j y hy
    induction j generalizing ds xs its with
    | zero =>
      cases r with
      | nil => cases hy
      | cons r1 r2 =>
        cases ha with
        | cons a1 a2 =>
          cases (show some _ = some y from hy)
          exact ⟨_, _, rfl, a1, r1, eqE I _ _ A _ _ _ _ a1 hd r1 q (by rw [PyData.depthAll] at room; omega)⟩
    | succ j ih =>
      cases r with
      | nil => cases hy
      | cons r1 r2 =>
        cases ha with
        | cons a1 a2 => exact ih a2 r2 (by rw [PyData.depthAll] at room; omega) hy
  have two : ∀ (j k : Nat) (y : Value) (d1 d2 : PyData), its[j]? = some y → its[k]? = some y → ds[j]? = some d1 → ds[k]? = some d2 → d1 = d2 := fun j k y d1 d2 hj hk h1 h2 => by
    obtain ⟨e1, w1, f1, g1, r1, _⟩ := one j y hj
    obtain ⟨e2, w2, f2, g2, r2, _⟩ := one k y hk
    rw [h1] at f1; rw [h2] at f2
    cases f1; cases f2
    rw [r1.inj r2] at g1
    exact dp_uniq I _ _ _ g1 g2
  classical
  refine ⟨fun y => if h : ∃ j, its[j]? = some y then PyData.eqv (ds.getD h.choose .none) d else false, fun y hy => ?_, fun j hj => ?_⟩
  · obtain ⟨j, hj⟩ := List.mem_iff_getElem?.mp hy
    have h : ∃ j, its[j]? = some y := ⟨j, hj⟩
    obtain ⟨d', w, f, _, _, k⟩ := one _ y h.choose_spec
    have e : (if h : ∃ j, its[j]? = some y then PyData.eqv (ds.getD h.choose .none) d else false) = PyData.eqv d' d := by
      rw [dif_pos h, List.getD_eq_getElem?_getD, f]
      rfl
    show EqAt A s y v' (if h : ∃ j, its[j]? = some y then PyData.eqv (ds.getD h.choose .none) d else false)
    rw [e]
    exact k
  · have hy : its[j]? = some its[j] := List.getElem?_eq_getElem hj
    have h : ∃ k, its[k]? = some its[j] := ⟨j, hy⟩
    obtain ⟨d', w, f, _, _, _⟩ := one j _ hy
    obtain ⟨d2, w2, f2, _, _, _⟩ := one _ _ h.choose_spec
    refine ⟨its[j], d', hy, f, ?_⟩
    show (if h : ∃ k, its[k]? = some its[j] then PyData.eqv (ds.getD h.choose .none) d else false) = PyData.eqv d' d
    rw [dif_pos h, List.getD_eq_getElem?_getD, f2, two j _ _ d' d2 hy h.choose_spec f f2]
    rfl
theorem any_items {its : List Value} {ds : List PyData} {e : Value → Bool} {d : PyData} (hl : its.length = ds.length) (h : ∀ j, j < its.length → ∃ y d', its[j]? = some y ∧ ds[j]? = some d' ∧ e y = PyData.eqv d' d) :
    its.map e = ds.map fun z => PyData.eqv z d := by
  refine List.ext_getElem? fun j => ?_
  rw [List.getElem?_map, List.getElem?_map]
  by_cases hj : j < its.length
  · obtain ⟨y, d', h1, h2, h3⟩ := h j hj
    rw [h1, h2]
    show some (e y) = some _
    rw [h3]
  · rw [List.getElem?_eq_none (by omega), List.getElem?_eq_none (by omega)]
    rfl
end

section
variable {X : Cx}
/-- x == y, x != y, of data of any kinds -/
def rEqE (K : PySem.W.Frag) : R2 := fun x y H Q => ∃ d e, Dp K H x d ∧ Dp K H y e ∧ d.depth ≤ 64 ∧ Q (.bl (PyData.eqv d e)) H
def rNeE (K : PySem.W.Frag) : R2 := fun x y H Q => ∃ d e, Dp K H x d ∧ Dp K H y e ∧ d.depth ≤ 64 ∧ Q (.bl (!PyData.eqv d e)) H
theorem op_eqE (hu : X.A.units + 64 < cLine) : OpR X (compareOp .Eq) (rEqE X.K) := by
  intro pins s σ H x y v u Q I rx ry h
  obtain ⟨d, e, hd, he, z, q⟩ := h
  exact rcE I d e X.A x y v u hd he rx ry (by omega) X.prog X.w X.xe _ ⟨.bl _, H, I, rfl, q⟩
theorem op_neE (hu : X.A.units + 64 < cLine) : OpR X (compareOp .NotEq) (rNeE X.K) := by
  intro pins s σ H x y v u Q I rx ry h
  obtain ⟨d, e, hd, he, z, q⟩ := h
  exact neE I d e X.A x y v u hd he rx ry (by omega) X.prog X.w X.xe _ ⟨.bl _, H, I, rfl, q⟩
/-- x in xs, a list or a tuple -/
def rInE (K : PySem.W.Frag) (neg : Bool) : R2 := fun x y H Q => ∃ a d ds xs, y = .ref a ∧ Dp K H x d ∧ (SqL K H a xs ∨ SqT K H a xs) ∧ DpAll K H xs ds ∧ PyData.depthAll ds ≤ 64 ∧ Q (.bl (if neg then !ds.any (fun z => PyData.eqv z d) else ds.any fun z => PyData.eqv z d)) H
theorem op_inE (hu : X.A.units + 65 < cLine) : OpR X (compareOp .In) (rInE X.K false) := by
  intro pins s σ H x y v u Q I rx ry h
  obtain ⟨a, d, ds, xs, rfl, hd, hq, ha, z, q⟩ := h
  cases ry
  have fin : ∀ (its : List Value) (e : Value → Bool), its.map e = ds.map (fun z => PyData.eqv z d) → EP X pins σ Q (.bool (its.toArray.any e)) s := fun its e h => by
    have e1 : its.toArray.any e = ds.any fun z => PyData.eqv z d := by
      have : (its.map e).any id = (ds.map fun z => PyData.eqv z d).any id := by rw [h]
      simpa [List.any_map] using this
    rw [e1]
    exact ⟨.bl _, H, I, rfl, q⟩
  rcases hq with hq | hq
  · obtain ⟨its, r, pl, _⟩ := I.list hq
    obtain ⟨e, h1, h2⟩ := itemsE I X.A.in1 ha hd r rx (by rw [in1_units]; omega)
    exact SeqAt.in_listAt e pl.isList (fun y hy => h1 y (by simpa using hy)) (fin its e (any_items (by rw [← r.length, dpAll_len ha]) h2))
  · obtain ⟨its, r, pl, _⟩ := I.tuple hq
    obtain ⟨e, h1, h2⟩ := itemsE I X.A.in1 ha hd r rx (by rw [in1_units]; omega)
    exact SeqAt.in_tupleAt e pl (fun y hy => h1 y (by simpa using hy)) (fin its e (any_items (by rw [← r.length, dpAll_len ha]) h2))
theorem op_notInE (hu : X.A.units + 65 < cLine) : OpR X (compareOp .NotIn) (rInE X.K true) := by
  intro pins s σ H x y v u Q I rx ry h
  obtain ⟨a, d, ds, xs, rfl, hd, hq, ha, z, q⟩ := h
  cases ry
  have fin : ∀ (its : List Value) (e : Value → Bool), its.map e = ds.map (fun z => PyData.eqv z d) → EP X pins σ Q (.bool (!its.toArray.any e)) s := fun its e h => by
    have e1 : its.toArray.any e = ds.any fun z => PyData.eqv z d := by
      have : (its.map e).any id = (ds.map fun z => PyData.eqv z d).any id := by rw [h]
      simpa [List.any_map] using this
    rw [e1]
    exact ⟨.bl _, H, I, rfl, q⟩
  rcases hq with hq | hq
  · obtain ⟨its, r, pl, _⟩ := I.list hq
    obtain ⟨e, h1, h2⟩ := itemsE I X.A.in1 ha hd r rx (by rw [in1_units]; omega)
    exact SeqAt.notIn_listAt e pl.isList (fun y hy => h1 y (by simpa using hy)) (fin its e (any_items (by rw [← r.length, dpAll_len ha]) h2))
  · obtain ⟨its, r, pl, _⟩ := I.tuple hq
    obtain ⟨e, h1, h2⟩ := itemsE I X.A.in1 ha hd r rx (by rw [in1_units]; omega)
    exact SeqAt.notIn_tupleAt e pl (fun y hy => h1 y (by simpa using hy)) (fin its e (any_items (by rw [← r.length, dpAll_len ha]) h2))
/-- xs.count(x), a list -/
def rCountE (K : PySem.W.Frag) : V → List V → Hp → VK → Prop := fun x vs H Q => ∃ a y d ds xs, x = .ref a ∧ vs = [y] ∧ Dp K H y d ∧ SqL K H a xs ∧ DpAll K H xs ds ∧ PyData.depthAll ds ≤ 64 ∧ Q (.int ((ds.countP fun z => PyData.eqv z d : Nat) : Int)) H
theorem mt_countE (hu : X.A.units + 65 < cLine) : MtR X "list.count" (rCountE X.K) := by
  intro pins s σ H x vs v us Q I rx rv h
  obtain ⟨a, y, d, ds, xs, rfl, rfl, hd, hq, ha, z, q⟩ := h
  cases rx
  obtain ⟨u, rfl, ru⟩ := rv.one
  obtain ⟨its, r, pl, _⟩ := I.list hq
  obtain ⟨o, ho, hc, n, hs⟩ := pl.isList
  obtain ⟨cls, dd, data, sl⟩ := o
  simp only at hc hs
  subst hc
  subst hs
  obtain ⟨e, h1, h2⟩ := itemsE I X.A.in1 ha hd r ru (by rw [in1_units]; omega)
  have hm := any_items (by rw [← r.length, dpAll_len ha]) h2
  have e1 : its.countP e = ds.countP fun z => PyData.eqv z d := by
    have : (its.map e).countP id = (ds.map fun z => PyData.eqv z d).countP id := by rw [hm]
    simpa [List.countP_map] using this
  refine call_meets F.slot_list_count ⟨_, ho, rfl⟩ F.entry_list_count (F.args_list_count_2 _ _) (SeqAt.list_countAt a its.toArray n dd sl u e) ⟨ho, fun y hy => h1 y (by simpa using hy), ?_⟩
  rw [show its.toArray.toList.countP e = ds.countP fun z => PyData.eqv z d from e1]
  exact ⟨.int _, H, I.tok _, ⟨_, rfl⟩, q⟩
end

end RG
namespace RG
open PySem PySem.Spec PyProof.Rows L2

/-! ### data that == tells apart -/
class PyD (α : Type) extends Py α where
  dat : α → PyData
  dp : ∀ {W : Wd} {H : Hp} {v : V} {x : α}, rep W H v x → Dp W.K H v (dat x)
  eqv : ∀ x y : α, PyData.eqv (dat x) (dat y) = true ↔ x = y
  dep : Nat
  depth : ∀ x : α, (dat x).depth ≤ dep
instance : PyD Int := { dat := .int, dp := fun h => by cases h; exact .int _, eqv := fun x y => by simp [PyData.eqv], dep := 0, depth := fun _ => by simp [PyData.depth] }
instance : PyD Bool := { dat := .bool, dp := fun h => by cases h; exact .bl _, eqv := fun x y => by simp [PyData.eqv], dep := 0, depth := fun _ => by simp [PyData.depth] }
instance : PyD Str := { dat := .str, dp := fun h => by cases h; exact .str _, eqv := fun x y => by simp [PyData.eqv], dep := 0, depth := fun _ => by simp [PyData.depth] }
instance : PyD Unit := { dat := fun _ => .none, dp := fun h => by cases h; exact .non, eqv := fun x y => by simp [PyData.eqv], dep := 0, depth := fun _ => by simp [PyData.depth] }
section
variable {α β : Type} [PyD α] [PyD β] {W : Wd} {H : Hp}
theorem dpAll {xs : List α} : ∀ {vs : List V}, Paired (Py.rep W H) vs xs → DpAll W.K H vs (xs.map PyD.dat) := by
  induction xs with
  | nil => intro vs h; cases h; exact .nil
  | cons x xs ih =>
    intro vs h
    cases h with
    | cons r t => exact .cons (PyD.dp r) (ih t)
theorem eqvAll_iff : ∀ xs ys : List α, PyData.eqvAll (xs.map PyD.dat) (ys.map PyD.dat) = true ↔ xs = ys
  | [], [] => by simp [PyData.eqvAll]
  | [], _ :: _ => by simp [PyData.eqvAll]
  | _ :: _, [] => by simp [PyData.eqvAll]
  | x :: xs, y :: ys => by simp [PyData.eqvAll, PyD.eqv, eqvAll_iff xs ys]
theorem depthAll_le : ∀ xs : List α, PyData.depthAll (xs.map PyD.dat) ≤ PyD.dep α
  | [] => by simp [PyData.depthAll]
  | x :: xs => by
    have h1 := PyD.depth x
    have h2 := depthAll_le xs
    simp only [List.map_cons, PyData.depthAll]
    omega
instance : PyD (List α) where
  dat xs := .list (xs.map PyD.dat)
  dp h := by
    obtain ⟨a, vs, e, h, p⟩ := h
    rw [e]; exact .lst (SqL.of h) (dpAll p)
  eqv x y := by rw [PyData.eqv]; exact eqvAll_iff x y
  dep := PyD.dep α + 1
  depth xs := by have := depthAll_le xs; rw [PyData.depth]; omega
instance : PyD (Tup α) where
  dat xs := .tuple (xs.l.map PyD.dat)
  dp h := by
    obtain ⟨a, vs, e, h, p⟩ := h
    rw [e]; exact .tup (.inl h) (dpAll p)
  eqv x y := by rw [PyData.eqv, eqvAll_iff]; cases x; cases y; simp
  dep := PyD.dep α + 1
  depth xs := by have := depthAll_le xs.l; rw [PyData.depth]; omega
instance : PyD (α × β) where
  dat x := .tuple [PyD.dat x.1, PyD.dat x.2]
  dp h := by
    obtain ⟨a, v1, v2, e, h, r1, r2⟩ := h
    rw [e]; exact .tup (.inl h) (.cons (PyD.dp r1) (.cons (PyD.dp r2) .nil))
  eqv x y := by rw [PyData.eqv]; simp [PyData.eqvAll, PyD.eqv, Prod.ext_iff]
  dep := PyD.dep α + PyD.dep β + 1
  depth x := by have h1 := PyD.depth x.1; have h2 := PyD.depth x.2; simp only [PyData.depth, PyData.depthAll]; omega
end
section
variable {α : Type} [DecidableEq α] [PyD α] {W : Wd} {M : List Addr} {σ : L2.St} {H H' : Hp} {ta tb : TE} {x y : α}
theorem eqv_dat : PyData.eqv (PyD.dat x) (PyD.dat y) = decide (x = y) := by
  rw [Bool.eq_iff_iff, PyD.eqv, decide_eq_true_iff]
theorem cut_le : Le (cut W M H) H := ⟨fun _ _ e => cut_at e⟩
theorem Rep.at {α : Type} [Py α] {x : α} {v : V} (h : Rep W M H v x) : Py.rep W H v x := Py.mono cut_le h
theorem Rep.dp {v : V} (h : Rep W M H v x) : Dp W.K H v (PyD.dat x) := PyD.dp (W := W) (H := H) h.at
theorem ev_eqD (ha : Ev W M ta σ H x) (hb : Ev W M tb σ H y) (h : PyD.dep α ≤ 64 := by decide) : Ev W M (tOp (rEqE W.K) ta tb) σ H (decide (x = y)) := fun H1 e ok Q q =>
  ha H1 e ok _ fun v H2 e2 r => hb H2 (e.trans e2) (ok.ex e2) _ fun u H3 e3 r3 =>
    ⟨_, _, (r.up e3).dp, r3.dp, Nat.le_trans (PyD.depth x) h, by rw [eqv_dat]; exact q _ H3 (e2.trans e3) rep_bl⟩
theorem ev_neD (ha : Ev W M ta σ H x) (hb : Ev W M tb σ H y) (h : PyD.dep α ≤ 64 := by decide) : Ev W M (tOp (rNeE W.K) ta tb) σ H (!decide (x = y)) := fun H1 e ok Q q =>
  ha H1 e ok _ fun v H2 e2 r => hb H2 (e.trans e2) (ok.ex e2) _ fun u H3 e3 r3 =>
    ⟨_, _, (r.up e3).dp, r3.dp, Nat.le_trans (PyD.depth x) h, by rw [eqv_dat]; exact q _ H3 (e2.trans e3) rep_bl⟩
theorem any_dat {xs : List α} : (xs.map PyD.dat).any (fun z => PyData.eqv z (PyD.dat x)) = decide (x ∈ xs) := by
  rw [List.any_map]
  induction xs with
  | nil => simp
  | cons y ys ih =>
    rw [List.any_cons, ih]
    show (PyData.eqv (PyD.dat y) (PyD.dat x) || _) = _
    rw [eqv_dat]
    by_cases h : y = x
    · simp [h]
    · have h' : ¬ x = y := fun z => h z.symm
      simp [h, h']
theorem count_dat {xs : List α} : (xs.map PyD.dat).countP (fun z => PyData.eqv z (PyD.dat x)) = xs.count x := by
  rw [List.countP_map]
  induction xs with
  | nil => simp
  | cons y ys ih =>
    rw [List.countP_cons, ih, List.count_cons]
    show _ + (if PyData.eqv (PyD.dat y) (PyD.dat x) = true then 1 else 0) = _
    rw [eqv_dat]
    by_cases h : y = x <;> simp [h]
theorem Rep.dpAll {xs : List α} {vs : List V} (p : Paired (Rep W M H) vs xs) : DpAll W.K H vs (xs.map PyD.dat) := RG.dpAll (W := W) (paired_mono (fun _ _ r => Rep.at r) p)
theorem ev_in {xs : List α} (ha : Ev W M ta σ H x) (hb : Ev W M tb σ H xs) (h : PyD.dep α ≤ 64 := by decide) : Ev W M (tOp (rInE W.K false) ta tb) σ H (decide (x ∈ xs)) := fun H1 e ok Q q =>
  ha H1 e ok _ fun v H2 e2 r => hb H2 (e.trans e2) (ok.ex e2) _ fun u H3 e3 r3 => by
    obtain ⟨a, vs, eu, hh, _, _, p⟩ := r3.lst
    exact ⟨a, _, _, vs, eu, (r.up e3).dp, .inl (SqL.of hh), Rep.dpAll p, Nat.le_trans (depthAll_le xs) h, by rw [if_neg Bool.false_ne_true, any_dat]; exact q _ H3 (e2.trans e3) rep_bl⟩
theorem ev_notIn {xs : List α} (ha : Ev W M ta σ H x) (hb : Ev W M tb σ H xs) (h : PyD.dep α ≤ 64 := by decide) : Ev W M (tOp (rInE W.K true) ta tb) σ H (!decide (x ∈ xs)) := fun H1 e ok Q q =>
  ha H1 e ok _ fun v H2 e2 r => hb H2 (e.trans e2) (ok.ex e2) _ fun u H3 e3 r3 => by
    obtain ⟨a, vs, eu, hh, _, _, p⟩ := r3.lst
    exact ⟨a, _, _, vs, eu, (r.up e3).dp, .inl (SqL.of hh), Rep.dpAll p, Nat.le_trans (depthAll_le xs) h, by rw [if_pos rfl, any_dat]; exact q _ H3 (e2.trans e3) rep_bl⟩
theorem ev_inT {xs : Tup α} (ha : Ev W M ta σ H x) (hb : Ev W M tb σ H xs) (h : PyD.dep α ≤ 64 := by decide) : Ev W M (tOp (rInE W.K false) ta tb) σ H (decide (x ∈ xs.l)) := fun H1 e ok Q q =>
  ha H1 e ok _ fun v H2 e2 r => hb H2 (e.trans e2) (ok.ex e2) _ fun u H3 e3 r3 => by
    obtain ⟨a, vs, eu, hh, _, _, p⟩ := r3.tup
    exact ⟨a, _, _, vs, eu, (r.up e3).dp, .inr (.inl hh), Rep.dpAll p, Nat.le_trans (depthAll_le xs.l) h, by rw [if_neg Bool.false_ne_true, any_dat]; exact q _ H3 (e2.trans e3) rep_bl⟩
end
end RG
namespace RG
open PySem PySem.Spec PyProof.Rows L2 StX

/-! ### lists item by item -/
section
variable {α β : Type} {F : α → β → Prop}
theorem Pd.length {xs : List α} {ys : List β} (h : Paired F xs ys) : xs.length = ys.length := Paired.length h
theorem Pd.get : ∀ {xs : List α} {ys : List β} {i : Nat} {y : β}, Paired F xs ys → ys[i]? = some y → ∃ x, xs[i]? = some x ∧ F x y
  | _, _, i, _, .nil, e => by simp at e
  | _, _, 0, _, .cons r _, e => by cases (show some _ = some _ from e); exact ⟨_, rfl, r⟩
  | _, _, i + 1, y, .cons _ t, e => Pd.get (i := i) t e
theorem Pd.getL : ∀ {xs : List α} {ys : List β} {i : Nat} {x : α}, Paired F xs ys → xs[i]? = some x → ∃ y, ys[i]? = some y ∧ F x y
  | _, _, i, _, .nil, e => by simp at e
  | _, _, 0, _, .cons r _, e => by cases (show some _ = some _ from e); exact ⟨_, rfl, r⟩
  | _, _, i + 1, x, .cons _ t, e => Pd.getL (i := i) t e
theorem Pd.append : ∀ {xs xs' : List α} {ys ys' : List β}, Paired F xs ys → Paired F xs' ys' → Paired F (xs ++ xs') (ys ++ ys')
  | _, _, _, _, .nil, q => q
  | _, _, _, _, .cons r t, q => .cons r (Pd.append t q)
theorem Pd.take : ∀ {xs : List α} {ys : List β} (n : Nat), Paired F xs ys → Paired F (xs.take n) (ys.take n)
  | _, _, 0, _ => .nil
  | _, _, _ + 1, .nil => .nil
  | _, _, n + 1, .cons r t => .cons r (Pd.take n t)
theorem Pd.drop : ∀ {xs : List α} {ys : List β} (n : Nat), Paired F xs ys → Paired F (xs.drop n) (ys.drop n)
  | _, _, 0, r => r
  | _, _, _ + 1, .nil => .nil
  | _, _, n + 1, .cons _ t => Pd.drop n t
theorem Pd.set : ∀ {xs : List α} {ys : List β} {x : α} {y : β} (n : Nat), Paired F xs ys → F x y → Paired F (xs.set n x) (ys.set n y)
  | _, _, _, _, _, .nil, _ => .nil
  | _, _, _, _, 0, .cons _ t, q => .cons q t
  | _, _, _, _, n + 1, .cons r t, q => .cons r (Pd.set n t q)
theorem Pd.erase : ∀ {xs : List α} {ys : List β} (n : Nat), Paired F xs ys → Paired F (xs.eraseIdx n) (ys.eraseIdx n)
  | _, _, _, .nil => .nil
  | _, _, 0, .cons _ t => t
  | _, _, n + 1, .cons r t => .cons r (Pd.erase n t)
theorem Pd.rev {xs : List α} {ys : List β} (h : Paired F xs ys) : Paired F xs.reverse ys.reverse := by
  induction h with
  | nil => exact .nil
  | cons r t ih => rw [List.reverse_cons, List.reverse_cons]; exact Pd.append ih (.cons r .nil)
theorem Pd.at {xs : List α} {ys : List β} {i : Int} {y : β} (h : Paired F xs ys) (e : atI ys i = some y) : ∃ x, atI xs i = some x ∧ F x y := by
  unfold atI at e ⊢
  rw [Pd.length h]
  cases q : ixN ys.length i with
  | none => rw [q] at e; cases e
  | some j => rw [q] at e; exact Pd.get h e
/-- a part of a list, as a slice takes it -/
def cutG {α : Type} (xs : List α) (lo hi : Option Int) : List α := (xs.drop (HT.sIx xs.length 0 lo)).take (HT.sIx xs.length xs.length hi - HT.sIx xs.length 0 lo)
theorem Pd.cut {xs : List V} {ys : List β} {F : V → β → Prop} (h : Paired F xs ys) (lo hi : Option Int) : Paired F (cutV xs lo hi) (cutG ys lo hi) := by
  unfold cutV cutG
  rw [Pd.length h]
  exact Pd.take _ (Pd.drop _ h)
theorem Pd.mono {G : α → β → Prop} {xs : List α} {ys : List β} (h : Paired F xs ys) (q : ∀ x y, F x y → G x y) : Paired G xs ys := paired_mono q h
end
theorem atI_getD {α : Type} {xs : List α} {i : Int} (d : α) (h0 : 0 ≤ i) (h1 : i < xs.length) : atI xs i = some (xs.getD i.toNat d) := by
  obtain ⟨n, rfl⟩ := Int.eq_ofNat_of_zero_le h0
  have hn : n < xs.length := by omega
  refine atI_nat ?_
  rw [List.getD_eq_getElem?_getD, Int.toNat_natCast, List.getElem?_eq_getElem hn]
  rfl
theorem sz {n : Nat} (h : n ≤ 1000000) : n ≤ sizeLine := Nat.le_trans h (by decide)
theorem sl {n : Nat} (h : n ≤ 1000000) : n < sizeLine := Nat.lt_of_le_of_lt h (by decide)

/-! ### calls of built-ins, by name -/
def rLenS (K : PySem.W.Frag) : List V → Hp → VK → Prop := fun xs H Q => ∃ p ys, xs = [.ref p] ∧ (SqL K H p ys ∨ SqT K H p ys) ∧ Q (.int ys.length) H
def rLenX : List V → Hp → VK → Prop := fun xs H Q => ∃ z, xs = [.str z] ∧ z.length ≤ sizeLine ∧ Q (.int z.length) H
def rListOf (K : PySem.W.Frag) : List V → Hp → VK → Prop := fun xs H Q => ∃ p ys, xs = [.ref p] ∧ (SqL K H p ys ∨ SqT K H p ys) ∧ ∀ l, H l = none → Q (.ref l) (upd H l (.lst ys))
def rTupOf (K : PySem.W.Frag) : List V → Hp → VK → Prop := fun xs H Q => ∃ p ys, xs = [.ref p] ∧ ((SqL K H p ys ∧ ∀ l, H l = none → Q (.ref l) (upd H l (.tup ys))) ∨ (SqT K H p ys ∧ Q (.ref p) H))
def rAbs : List V → Hp → VK → Prop := fun xs H Q => ∃ i, xs = [.int i] ∧ Q (.int (if i < 0 then -i else i)) H
def rInt : List V → Hp → VK → Prop := fun xs H Q => (∃ i, xs = [.int i] ∧ Q (.int i) H) ∨ ∃ k, xs = [.bl k] ∧ Q (.int (if k then 1 else 0)) H
def rStrI : List V → Hp → VK → Prop := fun xs H Q => ∃ i, xs = [.int i] ∧ i.natAbs.log2 < 1920 ∧ Q (.str (toString i)) H
def rMax2 : List V → Hp → VK → Prop := fun xs H Q => ∃ i j, xs = [.int i, .int j] ∧ Q (.int (if j > i then j else i)) H
def rMin2 : List V → Hp → VK → Prop := fun xs H Q => ∃ i j, xs = [.int i, .int j] ∧ Q (.int (if j < i then j else i)) H
section
variable {X : Cx}
theorem cLenS : CallR X (.builtin "len") (rLenS X.K) := call_len_seq
theorem cLenX : CallR X (.builtin "len") rLenX := call_len_str
theorem cListOf : CallR X (.type "list") (rListOf X.K) := call_list_of
theorem cTupOf : CallR X (.type "tuple") (rTupOf X.K) := call_tuple_of
theorem cAbs : CallR X (.builtin "abs") rAbs := call_abs
theorem cInt : CallR X (.type "int") rInt := call_int1
theorem cStrI : CallR X (.type "str") rStrI := call_str_int
theorem cMax2 (hc : X.calm = true) : CallR X (.builtin "max") rMax2 := call_max2 hc
theorem cMin2 (hc : X.calm = true) : CallR X (.builtin "min") rMin2 := call_min2 hc
end

/-! ### data of any kinds -/
mutual
theorem dp_le {K : PySem.W.Frag} {H H' : Hp} (l : Le H H') : ∀ (d : PyData) (v : V), Dp K H v d → Dp K H' v d
  | .none, _, h => by cases h; exact .non
  | .bool _, _, h => by cases h; exact .bl _
  | .int _, _, h => by cases h; exact .int _
  | .str _, _, h => by cases h; exact .str _
  | .list ds, _, h => by
    cases h with
    | lst q a => exact .lst (q.elim (fun q => .inl (l.rd q)) .inr) (dpAll_le l ds _ a)
  | .tuple ds, _, h => by
    cases h with
    | tup q a => exact .tup (q.elim (fun q => .inl (l.rd q)) .inr) (dpAll_le l ds _ a)
  | .dict _, _, h => by cases h
theorem dpAll_le {K : PySem.W.Frag} {H H' : Hp} (l : Le H H') : ∀ (ds : List PyData) (vs : List V), DpAll K H vs ds → DpAll K H' vs ds
  | [], _, h => by cases h; exact .nil
  | d :: ds, _, h => by
    cases h with
    | cons a b => exact .cons (dp_le l d _ a) (dpAll_le l ds _ b)
end
instance : Py PyData := ⟨fun W H v d => Dp W.K H v d, fun l h => dp_le l _ _ h⟩

section
variable {α β γ δ : Type} [Py α] [Py β] [Py γ] [Py δ] {W : Wd} {M M' N : List Addr} {σ σ' : L2.St} {H H1 H2 H' : Hp} {p a : Addr} {o : HO} {v : V} {x : α} {y : β} {i k : Nat} {te ta tb tc : TE} {t u : TT} {tr : TA}
theorem Rep.le (h : Rep W M H v x) (l : Le (cut W M H) (cut W M' H')) : Rep W M' H' v x := Py.mono l h
theorem Sl.le (h : Sl W M σ H i x) (l : Le (cut W M H) (cut W M' H')) : Sl W M' σ H' i x := let ⟨v, hv, r⟩ := h; ⟨v, hv, r.le l⟩
theorem ev_dat {α : Type} [PyD α] {x : α} (h : Ev W M te σ H x) : Ev W M te σ H (PyD.dat x) := fun H1 e ok Q q => h H1 e ok Q fun v H2 e2 r => q v H2 e2 (PyD.dp (W := W) (H := cut W M H2) r)

/-! ### items -/
theorem ev_ixL {xs : List α} {n : Int} (ha : Ev W M ta σ H xs) (hb : Ev W M tb σ H n) (hx : atI xs n = some x) : Ev W M (tOp (rIxL W.K) ta tb) σ H x := fun H1 e ok Q q =>
  ha H1 e ok _ fun v H2 e2 r => hb H2 (e.trans e2) (ok.ex e2) _ fun u H3 e3 r3 => by
    obtain ⟨a, vs, ev, hh, _, _, pp⟩ := (r.up e3).lst
    obtain ⟨w, hw, rw_⟩ := Pd.at pp hx
    exact ⟨a, vs, n, w, ev, r3, SqL.of hh, hw, q _ H3 (e2.trans e3) rw_⟩
theorem ev_ixT {xs : Tup α} {n : Int} (ha : Ev W M ta σ H xs) (hb : Ev W M tb σ H n) (hx : atI xs.l n = some x) : Ev W M (tOp (rIxT W.K) ta tb) σ H x := fun H1 e ok Q q =>
  ha H1 e ok _ fun v H2 e2 r => hb H2 (e.trans e2) (ok.ex e2) _ fun u H3 e3 r3 => by
    obtain ⟨a, vs, ev, hh, _, _, pp⟩ := (r.up e3).tup
    obtain ⟨w, hw, rw_⟩ := Pd.at pp hx
    exact ⟨a, vs, n, w, ev, r3, .inl hh, hw, q _ H3 (e2.trans e3) rw_⟩
theorem ev_fst {x : α × β} (ha : Ev W M ta σ H x) : Ev W M (tOp (rIxT W.K) ta (tC (.int 0))) σ H x.1 := fun H1 e ok Q q =>
  ha H1 e ok _ fun v H2 e2 r => by
    obtain ⟨a, v1, v2, ev, hh, _, _, r1, r2⟩ := r.pair
    exact ⟨a, _, 0, v1, ev, rfl, .inl hh, rfl, q _ H2 e2 r1⟩
theorem ev_snd {x : α × β} (ha : Ev W M ta σ H x) : Ev W M (tOp (rIxT W.K) ta (tC (.int 1))) σ H x.2 := fun H1 e ok Q q =>
  ha H1 e ok _ fun v H2 e2 r => by
    obtain ⟨a, v1, v2, ev, hh, _, _, r1, r2⟩ := r.pair
    exact ⟨a, _, 1, v2, ev, rfl, .inl hh, rfl, q _ H2 e2 r2⟩
theorem ev_ixS {z : Str} {n : Int} {c : Nat} (ha : Ev W M ta σ H z) (hb : Ev W M tb σ H n) (hl : z.length ≤ 1000000) (hx : atI z.cps.toList n = some c) : Ev W M (tOp rIxS ta tb) σ H (⟨#[c]⟩ : Str) := fun H1 e ok Q q =>
  ha H1 e ok _ fun v H2 e2 r => hb H2 (e.trans e2) (ok.ex e2) _ fun u H3 e3 r3 => ⟨z, n, c, r, r3, sz hl, hx, q _ H3 (e2.trans e3) rep_str⟩
/-- the item at a drawn place -/
theorem evr_ixL {xs : List α} {P : Int → Prop} {R : α → Prop} (ha : Ev W M ta σ H xs) (hb : EvR W M tb σ H P) (hx : ∀ n, P n → ∃ x, atI xs n = some x ∧ R x) : EvR W M (tOp (rIxL W.K) ta tb) σ H R := fun H1 e ok Q q =>
  ha H1 e ok _ fun v H2 e2 r => hb H2 (e.trans e2) (ok.ex e2) _ fun u n H3 pn e3 r3 => by
    obtain ⟨x, hx, hR⟩ := hx n pn
    obtain ⟨a, vs, ev, hh, _, _, pp⟩ := (r.up e3).lst
    obtain ⟨w, hw, rw_⟩ := Pd.at pp hx
    exact ⟨a, vs, n, w, ev, r3, SqL.of hh, hw, q _ x H3 hR (e2.trans e3) rw_⟩
theorem evr_ixS {z : Str} {P : Int → Prop} {R : Str → Prop} (ha : Ev W M ta σ H z) (hb : EvR W M tb σ H P) (hl : z.length ≤ 1000000) (hx : ∀ n, P n → ∃ c, atI z.cps.toList n = some c ∧ R ⟨#[c]⟩) : EvR W M (tOp rIxS ta tb) σ H R := fun H1 e ok Q q =>
  ha H1 e ok _ fun v H2 e2 r => hb H2 (e.trans e2) (ok.ex e2) _ fun u n H3 pn e3 r3 => by
    obtain ⟨c, hc, hR⟩ := hx n pn
    exact ⟨z, n, c, r, r3, sz hl, hc, q _ _ H3 hR (e2.trans e3) rep_str⟩

/-! ### slices -/
theorem eo_none : Eo W M tNoPart σ H none := fun H1 _ _ Q q => q H1 Ex.refl
theorem eo_some {n : Int} (h : Ev W M te σ H n) : Eo W M (tPart te) σ H (some n) := fun H1 e ok Q q => h H1 e ok _ fun v H2 e2 r => ⟨n, r, q H2 e2⟩
theorem ev_slL {xs : List α} {tl th : TO} {lo hi : Option Int} (ha : Ev W M ta σ H xs) (h1 : Eo W M tl σ H lo) (h2 : Eo W M th σ H hi) : Ev W M (tSl (rSlL W.K) ta tl th) σ H (cutG xs lo hi) := fun H1 e ok Q q =>
  ha H1 e ok _ fun v H2 e2 r => h1 H2 (e.trans e2) (ok.ex e2) _ fun H3 e3 => h2 H3 ((e.trans e2).trans e3) ((ok.ex e2).ex e3) _ fun H4 e4 => by
    obtain ⟨a, vs, ev, hh, _, _, pp⟩ := (r.up (e3.trans e4)).lst
    refine ⟨a, vs, ev, SqL.of hh, fun l hl => q _ _ ((e2.trans e3).trans (e4.trans (Ex.new hl))) ?_⟩
    have ok4 := ((ok.ex e2).ex e3).ex e4
    exact rep_lst upd_same (ok4.new_b hl) (ok4.new_M hl) (Pd.mono (Pd.cut pp lo hi) fun _ _ r => r.up (Ex.new hl))
/-- a slice of a text, as the library says it -/
theorem ev_slS {z : Str} {tl th : TO} {lo hi : Option Int} (ha : Ev W M ta σ H z) (h1 : Eo W M tl σ H lo) (h2 : Eo W M th σ H hi) (hz : z.length ≤ 1000000) :
    Ev W M (tSl (fun x lo hi H Q => ∃ z, x = .str z ∧ z.length ≤ sizeLine ∧ Q (.str (cutS z lo hi)) H) ta tl th) σ H (cutS z lo hi) := fun H1 e ok Q q =>
  ha H1 e ok _ fun v H2 e2 r => h1 H2 (e.trans e2) (ok.ex e2) _ fun H3 e3 => h2 H3 ((e.trans e2).trans e3) ((ok.ex e2).ex e3) _ fun H4 e4 => ⟨z, r, sz hz, q _ H4 ((e2.trans e3).trans e4) rep_str⟩
theorem ev_slT {xs : Tup α} {tl th : TO} {lo hi : Option Int} (ha : Ev W M ta σ H xs) (h1 : Eo W M tl σ H lo) (h2 : Eo W M th σ H hi) : Ev W M (tSl (rSlA W.K) ta tl th) σ H (⟨cutG xs.l lo hi⟩ : Tup α) := fun H1 e ok Q q =>
  ha H1 e ok _ fun v H2 e2 r => h1 H2 (e.trans e2) (ok.ex e2) _ fun H3 e3 => h2 H3 ((e.trans e2).trans e3) ((ok.ex e2).ex e3) _ fun H4 e4 => by
    obtain ⟨a, vs, ev, hh, hb, hm, pp⟩ := (r.up (e3.trans e4)).tup
    subst ev
    refine ⟨a, vs, rfl, .inl hh, fun hw => q _ _ ((e2.trans e3).trans e4) (rep_tup (vs := vs) hh hb hm ?_), fun _ l hl => q _ _ ((e2.trans e3).trans (e4.trans (Ex.new hl))) ?_⟩
    · have hc := Pd.cut pp lo hi
      have e5 : cutV vs lo hi = vs := by
        unfold cutV
        rw [hw.1, hw.2]
        simp
      rw [e5] at hc
      exact hc
    · have ok4 := ((ok.ex e2).ex e3).ex e4
      exact rep_tup (.inl upd_same) (ok4.new_b hl) (ok4.new_M hl) (Pd.mono (Pd.cut pp lo hi) fun _ _ r => r.up (Ex.new hl))

/-! ### calls of built-ins -/
theorem ev_lenL {xs : List α} (ha : Ev W M ta σ H xs) : Ev W M (tCB (rLenS W.K) (tCons ta tNil)) σ H (xs.length : Int) := fun H1 e ok Q q =>
  ha H1 e ok _ fun v H2 e2 r => by
    obtain ⟨a, vs, ev, hh, _, _, pp⟩ := r.lst
    exact ⟨a, vs, by rw [ev], .inl (SqL.of hh), by rw [Pd.length pp]; exact q _ H2 e2 rep_int⟩
theorem ev_lenT {xs : Tup α} (ha : Ev W M ta σ H xs) : Ev W M (tCB (rLenS W.K) (tCons ta tNil)) σ H (xs.l.length : Int) := fun H1 e ok Q q =>
  ha H1 e ok _ fun v H2 e2 r => by
    obtain ⟨a, vs, ev, hh, _, _, pp⟩ := r.tup
    exact ⟨a, vs, by rw [ev], .inr (.inl hh), by rw [Pd.length pp]; exact q _ H2 e2 rep_int⟩
theorem ev_lenP {x : α × β} (ha : Ev W M ta σ H x) : Ev W M (tCB (rLenS W.K) (tCons ta tNil)) σ H (2 : Int) := fun H1 e ok Q q =>
  ha H1 e ok _ fun v H2 e2 r => by
    obtain ⟨a, v1, v2, ev, hh, _, _, r1, r2⟩ := r.pair
    exact ⟨a, [v1, v2], by rw [ev], .inr (.inl hh), q _ H2 e2 rep_int⟩
theorem ev_lenX {z : Str} (ha : Ev W M ta σ H z) (hl : z.length ≤ 1000000) : Ev W M (tCB rLenX (tCons ta tNil)) σ H (z.length : Int) := fun H1 e ok Q q =>
  ha H1 e ok _ fun v H2 e2 r => ⟨z, by rw [show v = .str z from r], sz hl, q _ H2 e2 rep_int⟩
theorem ev_list {xs : List α} (ha : Ev W M ta σ H xs) : Ev W M (tCB (rListOf W.K) (tCons ta tNil)) σ H xs := fun H1 e ok Q q =>
  ha H1 e ok _ fun v H2 e2 r => by
    obtain ⟨a, vs, ev, hh, _, _, pp⟩ := r.lst
    exact ⟨a, vs, by rw [ev], .inl (SqL.of hh), fun l hl => q _ _ (e2.trans (Ex.new hl)) (rep_lst upd_same ((ok.ex e2).new_b hl) ((ok.ex e2).new_M hl) (Pd.mono pp fun _ _ r => r.up (Ex.new hl)))⟩
theorem ev_listT {xs : Tup α} (ha : Ev W M ta σ H xs) : Ev W M (tCB (rListOf W.K) (tCons ta tNil)) σ H xs.l := fun H1 e ok Q q =>
  ha H1 e ok _ fun v H2 e2 r => by
    obtain ⟨a, vs, ev, hh, _, _, pp⟩ := r.tup
    exact ⟨a, vs, by rw [ev], .inr (.inl hh), fun l hl => q _ _ (e2.trans (Ex.new hl)) (rep_lst upd_same ((ok.ex e2).new_b hl) ((ok.ex e2).new_M hl) (Pd.mono pp fun _ _ r => r.up (Ex.new hl)))⟩
theorem ev_tuple {xs : List α} (ha : Ev W M ta σ H xs) : Ev W M (tCB (rTupOf W.K) (tCons ta tNil)) σ H (⟨xs⟩ : Tup α) := fun H1 e ok Q q =>
  ha H1 e ok _ fun v H2 e2 r => by
    obtain ⟨a, vs, ev, hh, _, _, pp⟩ := r.lst
    exact ⟨a, vs, by rw [ev], .inl ⟨SqL.of hh, fun l hl => q _ _ (e2.trans (Ex.new hl)) (rep_tup (.inl upd_same) ((ok.ex e2).new_b hl) ((ok.ex e2).new_M hl) (Pd.mono pp fun _ _ r => r.up (Ex.new hl)))⟩⟩
theorem ev_tupleT {xs : Tup α} (ha : Ev W M ta σ H xs) : Ev W M (tCB (rTupOf W.K) (tCons ta tNil)) σ H xs := fun H1 e ok Q q =>
  ha H1 e ok _ fun v H2 e2 r => by
    obtain ⟨a, vs, ev, hh, hb, hm, pp⟩ := r.tup
    subst ev
    exact ⟨a, vs, rfl, .inr ⟨.inl hh, q _ _ e2 (rep_tup hh hb hm pp)⟩⟩
theorem ev_abs {n : Int} (ha : Ev W M ta σ H n) : Ev W M (tCB rAbs (tCons ta tNil)) σ H (if n < 0 then -n else n) := fun H1 e ok Q q =>
  ha H1 e ok _ fun v H2 e2 r => ⟨n, by rw [show v = .int n from r], q _ H2 e2 rep_int⟩
theorem ev_intI {n : Int} (ha : Ev W M ta σ H n) : Ev W M (tCB rInt (tCons ta tNil)) σ H n := fun H1 e ok Q q =>
  ha H1 e ok _ fun v H2 e2 r => .inl ⟨n, by rw [show v = .int n from r], q _ H2 e2 rep_int⟩
theorem ev_intB {b : Bool} (ha : Ev W M ta σ H b) : Ev W M (tCB rInt (tCons ta tNil)) σ H (if b then 1 else 0 : Int) := fun H1 e ok Q q =>
  ha H1 e ok _ fun v H2 e2 r => .inr ⟨b, by rw [show v = .bl b from r], q _ H2 e2 rep_int⟩
theorem ev_strI {n : Int} (ha : Ev W M ta σ H n) (hn : n.natAbs.log2 < 1920) : Ev W M (tCB rStrI (tCons ta tNil)) σ H (Str.ofString (toString n)) := fun H1 e ok Q q =>
  ha H1 e ok _ fun v H2 e2 r => ⟨n, by rw [show v = .int n from r], hn, q _ H2 e2 rep_str⟩
theorem ev_max2 {m n : Int} (ha : Ev W M ta σ H m) (hb : Ev W M tb σ H n) : Ev W M (tCB rMax2 (tCons ta (tCons tb tNil))) σ H (if n > m then n else m) := fun H1 e ok Q q =>
  ha H1 e ok _ fun v H2 e2 r => hb H2 (e.trans e2) (ok.ex e2) _ fun u H3 e3 r3 => ⟨m, n, by rw [show v = .int m from r, show u = .int n from r3], q _ H3 (e2.trans e3) rep_int⟩
theorem ev_min2 {m n : Int} (ha : Ev W M ta σ H m) (hb : Ev W M tb σ H n) : Ev W M (tCB rMin2 (tCons ta (tCons tb tNil))) σ H (if n < m then n else m) := fun H1 e ok Q q =>
  ha H1 e ok _ fun v H2 e2 r => hb H2 (e.trans e2) (ok.ex e2) _ fun u H3 e3 r3 => ⟨m, n, by rw [show v = .int m from r, show u = .int n from r3], q _ H3 (e2.trans e3) rep_int⟩
theorem ev_sum {xs : List Int} (ha : Ev W M ta σ H xs) : Ev W M (tCB (rSum W.K) (tCons ta tNil)) σ H xs.sum := fun H1 e ok Q q =>
  ha H1 e ok _ fun v H2 e2 r => by
    obtain ⟨a, vs, ev, hh, _, _, pp⟩ := r.lst
    refine ⟨a, xs, by rw [ev], SqL.of ?_, q _ H2 e2 rep_int⟩
    rw [hh, paired_toV pp]; rfl
theorem ev_all {xs : List Bool} (ha : Ev W M ta σ H xs) : Ev W M (tCB (rAll W.K) (tCons ta tNil)) σ H (xs.all id) := fun H1 e ok Q q =>
  ha H1 e ok _ fun v H2 e2 r => by
    obtain ⟨a, vs, ev, hh, _, _, pp⟩ := r.lst
    refine ⟨a, xs, by rw [ev], SqL.of ?_, q _ H2 e2 rep_bl⟩
    rw [hh, paired_toV pp]; rfl
theorem ev_any {xs : List Bool} (ha : Ev W M ta σ H xs) : Ev W M (tCB (rAny W.K) (tCons ta tNil)) σ H (xs.any id) := fun H1 e ok Q q =>
  ha H1 e ok _ fun v H2 e2 r => by
    obtain ⟨a, vs, ev, hh, _, _, pp⟩ := r.lst
    refine ⟨a, xs, by rw [ev], SqL.of ?_, q _ H2 e2 rep_bl⟩
    rw [hh, paired_toV pp]; rfl
theorem ev_count {α : Type} [DecidableEq α] [PyD α] {xs : List α} {x : α} (ha : Ev W M ta σ H xs) (hb : Ev W M tb σ H x) (h : PyD.dep α ≤ 64 := by decide) : Ev W M (tBM W.K "list" (rCountE W.K) ta (tCons tb tNil)) σ H (xs.count x : Int) := fun H1 e ok Q q =>
  ha H1 e ok _ fun v H2 e2 r => by
    obtain ⟨a, vs, ev, hh, _, _, pp⟩ := r.lst
    subst ev
    refine ⟨.inl ⟨rfl, _, SqL.of hh⟩, hb H2 (e.trans e2) (ok.ex e2) _ fun u H3 e3 r3 => ?_⟩
    obtain ⟨a', vs', ev', hh', _, _, pp'⟩ := (r.up e3).lst
    cases ev'
    exact ⟨a, u, _, _, vs', rfl, rfl, r3.dp, SqL.of hh', Rep.dpAll pp', Nat.le_trans (depthAll_le xs) h, by rw [count_dat]; exact q _ H3 (e2.trans e3) rep_int⟩

/-! ### displays -/
theorem ea_nil : Ea W M tNil σ H ([] : List α) := fun H1 _ _ Q q => q _ H1 Ex.refl .nil
theorem ea_cons {xs : List α} (ha : Ev W M ta σ H x) (hr : Ea W M tr σ H xs) : Ea W M (tCons ta tr) σ H (x :: xs) := fun H1 e ok Q q =>
  ha H1 e ok _ fun v H2 e2 r => hr H2 (e.trans e2) (ok.ex e2) _ fun vs H3 e3 pp => q _ H3 (e2.trans e3) (.cons (r.up e3) pp)
theorem ea_star {xs ys : List α} (ha : Ev W M ta σ H xs) (hr : Ea W M tr σ H ys) : Ea W M (tStar W.K ta tr) σ H (xs ++ ys) := fun H1 e ok Q q =>
  ha H1 e ok _ fun v H2 e2 r => by
    obtain ⟨a, vs, ev, hh, _, _, pp⟩ := r.lst
    exact ⟨a, vs, ev, .inr (SqL.of hh), hr H2 (e.trans e2) (ok.ex e2) _ fun us H3 e3 pp2 => q _ H3 (e2.trans e3) (Pd.append (Pd.mono pp fun _ _ r => r.up e3) pp2)⟩
theorem ea_starT {xs : Tup α} {ys : List α} (ha : Ev W M ta σ H xs) (hr : Ea W M tr σ H ys) : Ea W M (tStar W.K ta tr) σ H (xs.l ++ ys) := fun H1 e ok Q q =>
  ha H1 e ok _ fun v H2 e2 r => by
    obtain ⟨a, vs, ev, hh, _, _, pp⟩ := r.tup
    exact ⟨a, vs, ev, .inl (.inl hh), hr H2 (e.trans e2) (ok.ex e2) _ fun us H3 e3 pp2 => q _ H3 (e2.trans e3) (Pd.append (Pd.mono pp fun _ _ r => r.up e3) pp2)⟩
theorem ev_lst {xs : List α} (h : Ea W M tr σ H xs) (hl : xs.length ≤ 1000000) : Ev W M (tLst tr) σ H xs := fun H1 e ok Q q =>
  h H1 e ok _ fun vs H2 e2 pp => ⟨by rw [Pd.length pp]; exact sz hl, fun l hp => q _ _ (e2.trans (Ex.new hp)) (rep_lst upd_same ((ok.ex e2).new_b hp) ((ok.ex e2).new_M hp) (Pd.mono pp fun _ _ r => r.up (Ex.new hp)))⟩
theorem ev_tup {xs : List α} (h : Ea W M tr σ H xs) (hl : xs.length ≤ 1000000) : Ev W M (tTup tr) σ H (⟨xs⟩ : Tup α) := fun H1 e ok Q q =>
  h H1 e ok _ fun vs H2 e2 pp => ⟨by rw [Pd.length pp]; exact sz hl, fun l hp => q _ _ (e2.trans (Ex.new hp)) (rep_tup (.inl upd_same) ((ok.ex e2).new_b hp) ((ok.ex e2).new_M hp) (Pd.mono pp fun _ _ r => r.up (Ex.new hp)))⟩
theorem ev_pair (ha : Ev W M ta σ H x) (hb : Ev W M tb σ H y) : Ev W M (tTup (tCons ta (tCons tb tNil))) σ H (x, y) := fun H1 e ok Q q =>
  ha H1 e ok _ fun v H2 e2 r => hb H2 (e.trans e2) (ok.ex e2) _ fun u H3 e3 r3 =>
    ⟨by show 2 ≤ sizeLine; decide, fun l hp => q _ _ ((e2.trans e3).trans (Ex.new hp)) (rep_pair (.inl upd_same) (((ok.ex e2).ex e3).new_b hp) (((ok.ex e2).ex e3).new_M hp) ((r.up e3).up (Ex.new hp)) (r3.up (Ex.new hp)))⟩
theorem evr_pair {P : α → Prop} {R : β → Prop} (ha : EvR W M ta σ H P) (hb : EvR W M tb σ H R) : EvR W M (tTup (tCons ta (tCons tb tNil))) σ H (fun z : α × β => P z.1 ∧ R z.2) := fun H1 e ok Q q =>
  ha H1 e ok _ fun v x H2 px e2 r => hb H2 (e.trans e2) (ok.ex e2) _ fun u y H3 py e3 r3 =>
    ⟨by show 2 ≤ sizeLine; decide, fun l hp => q _ (x, y) _ ⟨px, py⟩ ((e2.trans e3).trans (Ex.new hp)) (rep_pair (.inl upd_same) (((ok.ex e2).ex e3).new_b hp) (((ok.ex e2).ex e3).new_M hp) ((r.up e3).up (Ex.new hp)) (r3.up (Ex.new hp)))⟩

/-! ### texts, lists, tuples put together -/
theorem ev_addS {z w : Str} (ha : Ev W M ta σ H z) (hb : Ev W M tb σ H w) (hl : z.length + w.length ≤ 1000000) : Ev W M (tOp (fun x y H Q => ∃ i j : Str, x = .str i ∧ y = .str j ∧ i.length + j.length ≤ sizeLine ∧ Q (.str (i ++ j)) H) ta tb) σ H (z ++ w) := fun H1 e ok Q q =>
  ha H1 e ok _ fun v H2 e2 r => hb H2 (e.trans e2) (ok.ex e2) _ fun u H3 e3 r3 => ⟨z, w, r, r3, sz hl, q _ H3 (e2.trans e3) rep_str⟩
theorem ev_cat {xs ys : List α} (ha : Ev W M ta σ H xs) (hb : Ev W M tb σ H ys) (hl : xs.length + ys.length ≤ 1000000) : Ev W M (tOp rCat ta tb) σ H (xs ++ ys) := fun H1 e ok Q q =>
  ha H1 e ok _ fun v H2 e2 r => hb H2 (e.trans e2) (ok.ex e2) _ fun u H3 e3 r3 => by
    obtain ⟨a, vs, ev, hh, _, _, pp⟩ := (r.up e3).lst
    obtain ⟨a', vs', ev', hh', _, _, pp'⟩ := r3.lst
    have ok3 := (ok.ex e2).ex e3
    exact ⟨a, a', vs, vs', ev, ev', hh, hh', by rw [Pd.length pp, Pd.length pp']; exact sz hl, fun l hp => q _ _ ((e2.trans e3).trans (Ex.new hp))
      (rep_lst upd_same (ok3.new_b hp) (ok3.new_M hp) (Pd.mono (Pd.append pp pp') fun _ _ r => r.up (Ex.new hp)))⟩
theorem ev_catT {xs ys : Tup α} (ha : Ev W M ta σ H xs) (hb : Ev W M tb σ H ys) (hl : xs.l.length + ys.l.length ≤ 1000000) : Ev W M (tOp (rCatA W.K) ta tb) σ H (⟨xs.l ++ ys.l⟩ : Tup α) := fun H1 e ok Q q =>
  ha H1 e ok _ fun v H2 e2 r => hb H2 (e.trans e2) (ok.ex e2) _ fun u H3 e3 r3 => by
    obtain ⟨a, vs, ev, hh, hb, hm, pp⟩ := (r.up e3).tup
    obtain ⟨a', vs', ev', hh', hb', hm', pp'⟩ := r3.tup
    subst ev; subst ev'
    have ok3 := (ok.ex e2).ex e3
    refine ⟨a, a', vs, vs', rfl, rfl, .inl hh, .inl hh', by rw [Pd.length pp, Pd.length pp']; exact sz hl, fun z => ?_, fun _ z => ?_, fun _ _ l hp => ?_⟩
    · subst z
      have : xs.l = [] := by cases h : xs.l with
        | nil => rfl
        | cons _ _ => rw [h] at pp; cases pp
      exact q _ _ (e2.trans e3) (rep_tup hh' hb' hm' (by rw [this]; exact pp'))
    · subst z
      have : ys.l = [] := by cases h : ys.l with
        | nil => rfl
        | cons _ _ => rw [h] at pp'; cases pp'
      exact q _ _ (e2.trans e3) (rep_tup hh hb hm (by rw [this, List.append_nil]; exact pp))
    · exact q _ _ ((e2.trans e3).trans (Ex.new hp)) (rep_tup (.inl upd_same) (ok3.new_b hp) (ok3.new_M hp) (Pd.mono (Pd.append pp pp') fun _ _ r => r.up (Ex.new hp)))
end
end RG
namespace RG
open PySem PySem.Spec PyProof.Rows L2 StX RZ

/-! ### what a loop walks -/
structure Wk {α : Type} [Py α] (W : Wd) (J : It) (S : List Addr → Hp → Prop) (xs : List α) : Prop where
  st : ∀ {M M' H H'}, Le (cut W M H) (cut W M' H') → S M H → S M' H'
  go : ∀ {i M H}, S M H → i < xs.length → J.go i H
  stop : ∀ {i M H}, S M H → xs.length ≤ i → J.stop i H
  yld : ∀ {i M H v H'}, S M H → Ok W M H → J.yld i H v H' → i < xs.length → ∃ x, xs[i]? = some x ∧ Ex W [] H H' ∧ Rep W M H' v x
def Ei {α : Type} [Py α] (W : Wd) (M : List Addr) (wi : TI) (σ : L2.St) (H : Hp) (xs : List α) : Prop :=
  ∀ H1, Ex W [] H H1 → Ok W M H1 → ∀ R : It → Hp → Prop, (∀ J S H2, Ex W [] H1 H2 → Wk W J S xs → S M H2 → R J H2) → wi σ H1 R

section
variable {α β γ : Type} [Py α] [Py β] [Py γ] {W : Wd} {M M' N : List Addr} {σ σ' : L2.St} {H H1 H2 H' : Hp} {te ta tb tl : TE} {wi : TI}
theorem ei_list {xs : List α} (h : Ev W M tl σ H xs) : Ei W M (iList W.K tl) σ H xs := fun H1 e ok R q =>
  h H1 e ok _ fun v H2 e2 r => by
    obtain ⟨a, vs, ev, hh, _, _, _⟩ := r.lst
    subst ev
    refine ⟨a, rfl, ⟨vs, SqL.of hh⟩, q (Itl W.K a) (fun M H => Rep W M H (.ref a) xs) H2 e2 ⟨fun l r => r.le l, fun {i M H} r hi => ?_, fun {i M H} r hi => ?_, fun {i M H v H'} r ok y hi => ?_⟩ r⟩
    · obtain ⟨b, us, e, h1, _, _, pp⟩ := r.lst
      cases e
      obtain ⟨x, hx⟩ : ∃ x, xs[i]? = some x := ⟨_, List.getElem?_eq_getElem hi⟩
      obtain ⟨u, hu, _⟩ := Pd.get pp hx
      exact ⟨us, u, SqL.of h1, hu⟩
    · obtain ⟨b, us, e, h1, _, _, pp⟩ := r.lst
      cases e
      exact ⟨us, SqL.of h1, by rw [Pd.length pp]; exact hi⟩
    · obtain ⟨b, us, e, h1, _, _, pp⟩ := r.lst
      cases e
      obtain ⟨rfl, y⟩ := y
      obtain ⟨x, hx, rx⟩ := Pd.getL pp (y us (SqL.of h1))
      exact ⟨x, hx, Ex.refl, rx⟩
theorem ei_tup {xs : Tup α} (h : Ev W M tl σ H xs) : Ei W M (iTup W.K tl) σ H xs.l := fun H1 e ok R q =>
  h H1 e ok _ fun v H2 e2 r => by
    obtain ⟨a, vs, ev, hh, _, _, _⟩ := r.tup
    subst ev
    refine ⟨a, rfl, ⟨vs, .inl hh⟩, q (Itt W.K a) (fun M H => Rep W M H (.ref a) xs) H2 e2 ⟨fun l r => r.le l, fun {i M H} r hi => ?_, fun {i M H} r hi => ?_, fun {i M H v H'} r ok y hi => ?_⟩ r⟩
    · obtain ⟨b, us, e, h1, _, _, pp⟩ := r.tup
      cases e
      obtain ⟨x, hx⟩ : ∃ x, xs.l[i]? = some x := ⟨_, List.getElem?_eq_getElem hi⟩
      obtain ⟨u, hu, _⟩ := Pd.get pp hx
      exact ⟨us, u, .inl h1, hu⟩
    · obtain ⟨b, us, e, h1, _, _, pp⟩ := r.tup
      cases e
      exact ⟨us, .inl h1, by rw [Pd.length pp]; exact hi⟩
    · obtain ⟨b, us, e, h1, _, _, pp⟩ := r.tup
      cases e
      obtain ⟨rfl, y⟩ := y
      obtain ⟨x, hx, rx⟩ := Pd.getL pp (y us (.inl h1))
      exact ⟨x, hx, Ex.refl, rx⟩
/-- 0, 1, .. below n -/
def rng (n : Int) : List Int := (List.range n.toNat).map fun i : Nat => (i : Int)
theorem rng_len {n : Int} : (rng n).length = n.toNat := by unfold rng; rw [List.length_map, List.length_range]
theorem rng_at {n : Int} {i : Nat} (h : i < n.toNat) : (rng n)[i]? = some (i : Int) := by
  unfold rng
  rw [List.getElem?_map, List.getElem?_range h]
  rfl
theorem rng_mem {n k : Int} : k ∈ rng n ↔ 0 ≤ k ∧ k < n := by
  unfold rng
  rw [List.mem_map]
  constructor
  · rintro ⟨i, hi, rfl⟩
    rw [List.mem_range] at hi
    omega
  · rintro ⟨h0, h1⟩
    exact ⟨k.toNat, List.mem_range.mpr (by omega), by omega⟩
theorem ei_range {n : Int} (h : Ev W M te σ H n) (hn : n < 4000000) (h0 : -4000000 ≤ n) : Ei W M (iRng1 (tCons te tNil)) σ H (rng n) := fun H1 e ok R q =>
  h H1 e ok _ fun v H2 e2 r => by
    refine ⟨n, by rw [show v = .int n from r], by omega, by omega, q (Itr 0 n.toNat) (fun _ _ => True) H2 e2 ⟨fun _ _ => trivial, fun {i M H} _ hi => ?_, fun {i M H} _ hi => ?_, fun {i M H v H'} _ ok y hi => ?_⟩ trivial⟩
    · rw [rng_len] at hi; exact hi
    · rw [rng_len] at hi; exact hi
    · rw [rng_len] at hi
      obtain ⟨rfl, rfl⟩ := y
      exact ⟨(i : Int), rng_at hi, Ex.refl, by rw [Int.zero_add]; exact rep_int⟩
/-- the signs of a text, each a text -/
def signs (z : Str) : List Str := z.cps.toList.map fun c => ⟨#[c]⟩
theorem signs_len {z : Str} : (signs z).length = z.cps.size := by unfold signs; rw [List.length_map, Array.length_toList]
theorem ei_str {z : Str} (h : Ev W M te σ H z) : Ei W M (iStr te) σ H (signs z) := fun H1 e ok R q =>
  h H1 e ok _ fun v H2 e2 r => by
    refine ⟨z, r, q (Its z) (fun _ _ => True) H2 e2 ⟨fun _ _ => trivial, fun {i M H} _ hi => ?_, fun {i M H} _ hi => ?_, fun {i M H v H'} _ ok y hi => ?_⟩ trivial⟩
    · rw [signs_len] at hi; exact hi
    · rw [signs_len] at hi; exact hi
    · obtain ⟨rfl, c, hc, rfl⟩ := y
      refine ⟨⟨#[c]⟩, ?_, Ex.refl, rep_str⟩
      unfold signs
      rw [List.getElem?_map, Array.getElem?_toList, hc]
      rfl
/-- each item with its place -/
def enum (xs : List α) : List (Int × α) := (List.range xs.length).zipWith (fun (i : Nat) x => ((i : Int), x)) xs
theorem enum_len {xs : List α} : (enum xs).length = xs.length := by unfold enum; simp
theorem enum_at {xs : List α} {i : Nat} {x : α} (h : xs[i]? = some x) : (enum xs)[i]? = some ((i : Int), x) := by
  have hi : i < xs.length := (List.getElem?_eq_some_iff.mp h).1
  unfold enum
  rw [List.getElem?_zipWith, List.getElem?_range hi, h]
theorem ei_enum {xs : List α} (h : Ev W M tl σ H xs) : Ei W M (iEnum W.K (tCons tl tNil)) σ H (enum xs) := fun H1 e ok R q =>
  h H1 e ok _ fun v H2 e2 r => by
    obtain ⟨a, vs, ev, hh, _, _, _⟩ := r.lst
    subst ev
    refine ⟨a, vs, rfl, SqL.of hh, q (Ite W.K a) (fun M H => Rep W M H (.ref a) xs) H2 e2 ⟨fun l r => r.le l, fun {i M H} r hi => ?_, fun {i M H} r hi => ?_, fun {i M H v H'} r ok y hi => ?_⟩ r⟩
    · obtain ⟨b, us, e, h1, _, _, pp⟩ := r.lst
      cases e
      rw [enum_len] at hi
      obtain ⟨x, hx⟩ : ∃ x, xs[i]? = some x := ⟨_, List.getElem?_eq_getElem hi⟩
      obtain ⟨u, hu, _⟩ := Pd.get pp hx
      exact ⟨us, u, SqL.of h1, hu⟩
    · obtain ⟨b, us, e, h1, _, _, pp⟩ := r.lst
      cases e
      rw [enum_len] at hi
      exact ⟨us, SqL.of h1, by rw [Pd.length pp]; exact hi⟩
    · obtain ⟨b, us, e, h1, _, _, pp⟩ := r.lst
      cases e
      obtain ⟨T, w, rfl, hT, rfl, y⟩ := y
      obtain ⟨x, hx, rx⟩ := Pd.getL pp (y us (SqL.of h1))
      exact ⟨_, enum_at hx, Ex.new hT, rep_pair (.inl upd_same) (ok.new_b hT) (ok.new_M hT) rep_int (rx.up (Ex.new hT))⟩
theorem zip_at {xs : List α} {ys : List β} {i : Nat} {x : α} {y : β} (h : xs[i]? = some x) (h2 : ys[i]? = some y) : (xs.zip ys)[i]? = some (x, y) := by
  rw [List.getElem?_zip_eq_some]; exact ⟨h, h2⟩
theorem ei_zip {xs : List α} {ys : List β} (h : Ev W M ta σ H xs) (h2 : Ev W M tb σ H ys) : Ei W M (iZip W.K (tCons ta (tCons tb tNil))) σ H (xs.zip ys) := fun H1 e ok R q =>
  h H1 e ok _ fun v H2 e2 r => h2 H2 (e.trans e2) (ok.ex e2) _ fun u H3 e3 r3 => by
    have r := r.up e3
    obtain ⟨a, vs, ev, hh, _, _, _⟩ := r.lst
    obtain ⟨b, us, eu, hh2, _, _, _⟩ := r3.lst
    subst ev; subst eu
    refine ⟨a, b, vs, us, rfl, SqL.of hh, SqL.of hh2, q (Itz W.K a b) (fun M H => Rep W M H (.ref a) xs ∧ Rep W M H (.ref b) ys) H3 (e2.trans e3) ⟨fun l r => ⟨r.1.le l, r.2.le l⟩, fun {i M H} r hi => ?_, fun {i M H} r hi => ?_, fun {i M H v H'} r ok y hi => ?_⟩ ⟨r, r3⟩⟩
    · obtain ⟨r1, r2⟩ := r
      obtain ⟨c, ws, e, h1, _, _, pp⟩ := r1.lst
      cases e
      obtain ⟨c, ws2, e, h2, _, _, pp2⟩ := r2.lst
      cases e
      rw [List.length_zip] at hi
      obtain ⟨w1, hw1, _⟩ := Pd.get pp (List.getElem?_eq_getElem (show i < xs.length by omega))
      obtain ⟨w2, hw2, _⟩ := Pd.get pp2 (List.getElem?_eq_getElem (show i < ys.length by omega))
      exact ⟨ws, ws2, w1, w2, SqL.of h1, SqL.of h2, hw1, hw2⟩
    · obtain ⟨r1, r2⟩ := r
      obtain ⟨c, ws, e, h1, _, _, pp⟩ := r1.lst
      cases e
      obtain ⟨c, ws2, e, h2, _, _, pp2⟩ := r2.lst
      cases e
      rw [List.length_zip] at hi
      refine ⟨ws, ws2, SqL.of h1, SqL.of h2, ?_⟩
      rw [Pd.length pp, Pd.length pp2]
      omega
    · obtain ⟨r1, r2⟩ := r
      obtain ⟨c, ws, e, h1, _, _, pp⟩ := r1.lst
      cases e
      obtain ⟨c, ws2, e, h2, _, _, pp2⟩ := r2.lst
      cases e
      obtain ⟨T, w1, w2, rfl, hT, rfl, y1, y2⟩ := y
      obtain ⟨x, hx, rx⟩ := Pd.getL pp (y1 ws (SqL.of h1))
      obtain ⟨z, hz, rz⟩ := Pd.getL pp2 (y2 ws2 (SqL.of h2))
      exact ⟨_, zip_at hx hz, Ex.new hT, rep_pair (.inl upd_same) (ok.new_b hT) (ok.new_M hT) (rx.up (Ex.new hT)) (rz.up (Ex.new hT))⟩
theorem ei_zipT {xs : Tup α} {ys : Tup β} (h : Ev W M ta σ H xs) (h2 : Ev W M tb σ H ys) : Ei W M (iZipA W.K (tCons ta (tCons tb tNil))) σ H (xs.l.zip ys.l) := fun H1 e ok R q =>
  h H1 e ok _ fun v H2 e2 r => h2 H2 (e.trans e2) (ok.ex e2) _ fun u H3 e3 r3 => by
    have r := r.up e3
    obtain ⟨a, vs, ev, hh, _, _, _⟩ := r.tup
    obtain ⟨b, us, eu, hh2, _, _, _⟩ := r3.tup
    subst ev; subst eu
    refine ⟨a, b, vs, us, rfl, .inr ⟨.inl hh, .inl hh2, q (ItzT W.K a b) (fun M H => Rep W M H (.ref a) xs ∧ Rep W M H (.ref b) ys) H3 (e2.trans e3) ⟨fun l r => ⟨r.1.le l, r.2.le l⟩, fun {i M H} r hi => ?_, fun {i M H} r hi => ?_, fun {i M H v H'} r ok y hi => ?_⟩ ⟨r, r3⟩⟩⟩
    · obtain ⟨r1, r2⟩ := r
      obtain ⟨c, ws, e, h1, _, _, pp⟩ := r1.tup
      cases e
      obtain ⟨c, ws2, e, h2, _, _, pp2⟩ := r2.tup
      cases e
      rw [List.length_zip] at hi
      obtain ⟨w1, hw1, _⟩ := Pd.get pp (List.getElem?_eq_getElem (show i < xs.l.length by omega))
      obtain ⟨w2, hw2, _⟩ := Pd.get pp2 (List.getElem?_eq_getElem (show i < ys.l.length by omega))
      exact ⟨ws, ws2, w1, w2, .inl h1, .inl h2, hw1, hw2⟩
    · obtain ⟨r1, r2⟩ := r
      obtain ⟨c, ws, e, h1, _, _, pp⟩ := r1.tup
      cases e
      obtain ⟨c, ws2, e, h2, _, _, pp2⟩ := r2.tup
      cases e
      rw [List.length_zip] at hi
      refine ⟨ws, ws2, .inl h1, .inl h2, ?_⟩
      rw [Pd.length pp, Pd.length pp2]
      omega
    · obtain ⟨r1, r2⟩ := r
      obtain ⟨c, ws, e, h1, _, _, pp⟩ := r1.tup
      cases e
      obtain ⟨c, ws2, e, h2, _, _, pp2⟩ := r2.tup
      cases e
      obtain ⟨T, w1, w2, rfl, hT, rfl, y1, y2⟩ := y
      obtain ⟨x, hx, rx⟩ := Pd.getL pp (y1 ws (.inl h1))
      obtain ⟨z, hz, rz⟩ := Pd.getL pp2 (y2 ws2 (.inl h2))
      exact ⟨_, zip_at hx hz, Ex.new hT, rep_pair (.inl upd_same) (ok.new_b hT) (ok.new_M hT) (rx.up (Ex.new hT)) (rz.up (Ex.new hT))⟩
end

/-! ### targets -/
/-- what a target does with an item: the slots that it stores -/
def Tg {α : Type} [Py α] (W : Wd) (g : TG) (x : α) (f : V → L2.St → L2.St → Prop) : Prop :=
  ∀ M v σ H (K : L2.St → Hp → Prop), Rep W M H v x → (∀ σ2, f v σ σ2 → K σ2 H) → g v σ H K
section
variable {α β γ : Type} [Py α] [Py β] [Py γ] {W : Wd} {M M' N : List Addr} {σ σ' : L2.St} {H H1 H2 H' : Hp} {te ta tb tl : TE} {wi : TI} {g : TG} {tt : TT} {ts tb' : TS} {vs : List Nat} {D : Ends}
theorem wipe_set {k : Nat} {o : Option V} : ∀ {vs : List Nat} {σ : L2.St}, k ∈ vs → wipe (σ.set k o) vs = wipe σ vs
  | v :: vs, σ, h => by
    unfold wipe
    by_cases hk : k ∈ vs
    · rw [wipe_set hk]
    · have e : k = v := (List.mem_cons.mp h).resolve_right hk
      subst e
      clear h
      have : ∀ (vs : List Nat) (σ : L2.St), (wipe (σ.set k o) vs).set k none = (wipe σ vs).set k none := by
        intro vs
        induction vs with
        | nil => intro σ; show (σ.set k o).set k none = σ.set k none; rw [List.set_set]
        | cons u us ih =>
          intro σ
          show ((wipe (σ.set k o) us).set u none).set k none = ((wipe σ us).set u none).set k none
          by_cases hu : u = k
          · subst hu; rw [List.set_set, List.set_set]; exact ih σ
          · rw [List.set_comm _ _ hu, List.set_comm _ _ hu, ih σ]
      exact this vs σ
theorem wipe_wipe : ∀ {vs : List Nat} {σ : L2.St}, wipe (wipe σ vs) vs = wipe σ vs
  | [], _ => rfl
  | v :: vs, σ => by
    show wipe ((wipe σ vs).set v none) (v :: vs) = (wipe σ vs).set v none
    rw [wipe_set (List.mem_cons_self)]
    show (wipe (wipe σ vs) vs).set v none = _
    rw [wipe_wipe]

/-! ### for -/
theorem for_w {xs : List α} (ok : Ok W M H) (hi : Ei W M wi σ H xs) (P : Nat → L2.St → Hp → Prop) (h0 : ∀ H', Ex W [] H H' → P 0 σ H')
    (hs : ∀ i x v σ' H', xs[i]? = some x → P i σ' H' → Ok W M H' → ∀ H'', Ex W [] H' H'' → Rep W M H'' v x → ∀ N : L2.St → Hp → Prop, (∀ σ3 H3, P (i + 1) σ3 H3 → Ex W M H'' H3 → N σ3 H3) → g v σ' H'' fun σ2 H2 => ts { D with nx := N, ct := N, bk := D.nx } σ2 H2)
    (hd : ∀ σ' H', P xs.length σ' H' → Ok W M H' → D.nx σ' H') : tFor wi g ts D σ H := by
  refine hi H Ex.refl ok _ fun J S H1 e1 wk s1 => ?_
  refine ⟨fun i m σ' H' => m = xs.length - i ∧ i ≤ xs.length ∧ P i σ' H' ∧ Ok W M H' ∧ S M H', ⟨xs.length, by simp, Nat.zero_le _, h0 H1 e1, ok.ex e1, s1⟩, ?_⟩
  rintro i m σ' H' ⟨rfl, hi, p, ok', s'⟩
  by_cases hlt : i < xs.length
  · refine .inr ⟨wk.go s' hlt, fun σ3 H3 => P (i + 1) σ3 H3 ∧ Ok W M H3 ∧ S M H3, fun σ3 H3 q => ⟨xs.length - (i + 1), by omega, rfl, hlt, q⟩, fun v H2 y => ?_⟩
    obtain ⟨x, hx, e2, r⟩ := wk.yld s' ok' y hlt
    exact hs i x v σ' H' hx p ok' H2 e2 r _ fun σ3 H3 p3 e3 => ⟨p3, (ok'.ex e2).ex e3, wk.st (e2.up.trans e3).le s'⟩
  · have e : i = xs.length := by omega
    subst e
    exact .inl ⟨wk.stop s' (Nat.le_refl _), hd σ' H' p ok'⟩

/-! ### list comprehensions -/
/-- the ways of the kept items, in order -/
def Lc {α β : Type} (p : α → Bool) (R : α → β → Prop) (xs : List α) (ys : List β) : Prop := Paired R (xs.filter p) ys
theorem take_filter {p : α → Bool} {xs : List α} {i : Nat} {x : α} (h : xs[i]? = some x) : (xs.take (i + 1)).filter p = (xs.take i).filter p ++ if p x = true then [x] else [] := by
  rw [List.take_add_one, h, List.filter_append]
  show _ ++ List.filter p [x] = _
  rw [List.filter_cons, List.filter_nil]
theorem lc_w {xs : List α} {p : α → Bool} {R : α → β → Prop} (hi : Ei W M wi σ H xs) (hl : xs.length ≤ 1000000)
    (he : ∀ (i : Nat) (x : α) v M' H', xs[i]? = some x → Le (cut W M H) (cut W M' H') → Ok W M' H' → Rep W M' H' v x → ∀ K : L2.St → Hp → Prop,
      (∀ σ2, wipe σ2 vs = wipe σ vs → Et W M' tt σ2 H' (p x) → (p x = true → EvR W M' te σ2 H' (R x)) → K σ2 H') → g v (wipe σ vs) H' K) :
    EvR W M (tLc wi g tt te vs) σ H (Lc p R xs) := fun H1 e ok Q q => by
  refine hi H1 e ok _ fun J S H2 e2 wk s2 => ?_
  intro L hL
  have ok2 := ok.ex e2
  have nb := ok2.new_b hL
  have nbl := ok2.new_bl hL
  have nM := ok2.new_M hL
  have le2 : Le (cut W M H) (cut W M H2) := (e.trans e2).up.le
  refine ⟨fun i m H' => m = xs.length - i ∧ i ≤ xs.length ∧ Ok W (L :: M) H' ∧ S (L :: M) H' ∧ Ex W [] H2 H' ∧ Le (cut W M H) (cut W (L :: M) H') ∧
    ∃ us ys, H' L = some (.lst us) ∧ Paired (Rep W (L :: M) H') us ys ∧ Paired R ((xs.take i).filter p) ys ∧ us.length ≤ i,
    ⟨xs.length, by simp, Nat.zero_le _, ok2.grow hL, wk.st (le_new hL) s2, Ex.new hL, le2.trans (le_new hL), [], [], upd_same, .nil, by simpa using .nil, Nat.le_refl _⟩, ?_⟩
  rintro i m H' ⟨rfl, hi', ok', s', e', l', us, ys, hL', pp, pr, hz⟩
  by_cases hlt : i < xs.length
  · refine .inr ⟨wk.go s' hlt, fun H3 => i + 1 ≤ xs.length ∧ Ok W (L :: M) H3 ∧ S (L :: M) H3 ∧ Ex W [] H2 H3 ∧ Le (cut W M H) (cut W (L :: M) H3) ∧
      ∃ us ys, H3 L = some (.lst us) ∧ Paired (Rep W (L :: M) H3) us ys ∧ Paired R ((xs.take (i + 1)).filter p) ys ∧ us.length ≤ i + 1, fun H3 q => ⟨xs.length - (i + 1), by omega, rfl, q⟩, fun v H3 y => ?_⟩
    obtain ⟨x, hx, e3, r⟩ := wk.yld s' ok' y hlt
    have ok3 := ok'.ex e3
    have l3 := l'.trans e3.up.le
    refine he i x v (L :: M) H3 hx l3 ok3 r _ fun σ2 hw ht hel => ⟨hw, ht H3 Ex.refl ok3 _ fun H4 e4 => ?_⟩
    cases hp : p x with
    | false =>
      rw [if_neg Bool.false_ne_true]
      have e34 := e3.trans e4
      refine ⟨hlt, ok'.ex e34, wk.st e34.up.le s', e'.trans e34, l'.trans e34.up.le, us, ys, e34.keep L _ nb (by simp) hL', Pd.mono pp fun _ _ r => r.up e34, ?_, by omega⟩
      rw [take_filter hx, hp, if_neg Bool.false_ne_true, List.append_nil]
      exact pr
    | true =>
      rw [if_pos rfl]
      refine hel hp H4 e4 (ok3.ex e4) _ fun w z H5 rz e5 r5 => ?_
      have e35 := (e3.trans e4).trans e5
      have ok5 := ok'.ex e35
      have hL5 := e35.keep L _ nb (by simp) hL'
      have em : Ex W (L :: M) H5 (upd H5 L (.lst (us ++ [w]))) := Ex.mut nb nbl (List.mem_cons_self)
      have e36 : Ex W (L :: M) H' (upd H5 L (.lst (us ++ [w]))) := e35.up.trans em
      refine ⟨us, hL5, Nat.lt_of_le_of_lt hz (sl (by omega)), hlt, ok5.ex em, wk.st e36.le s', (e'.trans e35).mut0 ok2 hL, l'.trans e36.le, us ++ [w], ys ++ [z], upd_same,
        Pd.append (Pd.mono pp fun _ _ r => r.ex e36) (.cons (r5.ex em) .nil), ?_, by rw [List.length_append]; simp; omega⟩
      rw [take_filter hx, hp, if_pos rfl]
      exact Pd.append pr (.cons rz .nil)
  · have e5 : i = xs.length := by omega
    subst e5
    rw [List.take_length] at pr
    exact .inl ⟨wk.stop s' (Nat.le_refl _), q (.ref L) ys H' pr (e2.trans (e'.sub (by simp))) (rep_lst hL' nb nM (Pd.mono pp fun _ _ r => r.less))⟩
/-- how an answer depends on the item alone -/
theorem Lc.map {p : α → Bool} {f : α → β} {xs : List α} {ys : List β} (h : Lc p (fun x y => y = f x) xs ys) : ys = (xs.filter p).map f := by
  unfold Lc at h
  generalize xs.filter p = zs at h
  induction h with
  | nil => rfl
  | cons r _ ih => rw [List.map_cons, ← ih, r]
theorem EvR.ev {x : α} {P : α → Prop} (h : EvR W M te σ H P) (hp : ∀ y, P y → y = x) : Ev W M te σ H x := fun H1 e ok Q q => h H1 e ok Q fun v y H2 py e2 r => q v H2 e2 (hp y py ▸ r)
theorem et_yes : Et W M tYes σ H true := fun H1 _ _ Q q => q H1 Ex.refl
theorem filter_yes {xs : List α} : xs.filter (fun _ => true) = xs := by simp

/-- [e for x in xs], x in slot k -/
theorem ev_lc {xs : List α} {f : α → β} {k : Nat} (hi : Ei W M wi σ H xs) (hl : xs.length ≤ 1000000) (hk : k ∈ vs)
    (he : ∀ (i : Nat) (x : α) v M' H', xs[i]? = some x → Le (cut W M H) (cut W M' H') → Rep W M' H' v x → Ev W M' te ((wipe σ vs).set k (some v)) H' (f x)) : Ev W M (tLc wi (gName k) tYes te vs) σ H (xs.map f) :=
  (lc_w (p := fun _ => true) (R := fun x y => y = f x) hi hl fun i x v M' H' hx l ok r K q => q _ (by rw [wipe_set hk, wipe_wipe]) et_yes fun _ => (he i x v M' H' hx l r).r).ev fun ys h => by rw [h.map, filter_yes]
theorem ev_lcf {xs : List α} {p : α → Bool} {f : α → β} {k : Nat} (hi : Ei W M wi σ H xs) (hl : xs.length ≤ 1000000) (hk : k ∈ vs)
    (ht : ∀ (i : Nat) (x : α) v M' H', xs[i]? = some x → Le (cut W M H) (cut W M' H') → Rep W M' H' v x → Et W M' tt ((wipe σ vs).set k (some v)) H' (p x))
    (he : ∀ (i : Nat) (x : α) v M' H', xs[i]? = some x → p x = true → Le (cut W M H) (cut W M' H') → Rep W M' H' v x → Ev W M' te ((wipe σ vs).set k (some v)) H' (f x)) : Ev W M (tLc wi (gName k) tt te vs) σ H ((xs.filter p).map f) :=
  (lc_w (p := p) (R := fun x y => y = f x) hi hl fun i x v M' H' hx l ok r K q => q _ (by rw [wipe_set hk, wipe_wipe]) (ht i x v M' H' hx l r) fun hp => (he i x v M' H' hx hp l r).r).ev fun ys h => h.map
/-- .. each one of several -/
theorem evr_lc {xs : List α} {R : α → β → Prop} {k : Nat} (hi : Ei W M wi σ H xs) (hl : xs.length ≤ 1000000) (hk : k ∈ vs)
    (he : ∀ (i : Nat) (x : α) v M' H', xs[i]? = some x → Le (cut W M H) (cut W M' H') → Rep W M' H' v x → EvR W M' te ((wipe σ vs).set k (some v)) H' (R x)) : EvR W M (tLc wi (gName k) tYes te vs) σ H (fun ys => Paired R xs ys) :=
  (lc_w (p := fun _ => true) (R := R) hi hl fun i x v M' H' hx l ok r K q => q _ (by rw [wipe_set hk, wipe_wipe]) et_yes fun _ => he i x v M' H' hx l r).imp fun ys h => by unfold Lc at h; rwa [filter_yes] at h
/-- a pair taken apart into slots k, l -/
def gPair (K : PySem.W.Frag) (k l : Nat) : TG := gTup K 2 (gCons (gName k) (gCons (gName l) gNil))
theorem gPair_rd {x : α × β} {v : V} {k l : Nat} {Q : L2.St → Hp → Prop} (r : Rep W M H v x) (h : ∀ v1 v2, Rep W M H v1 x.1 → Rep W M H v2 x.2 → Q ((σ.set k (some v1)).set l (some v2)) H) : gPair W.K k l v σ H Q := by
  obtain ⟨a, v1, v2, ev, hh, _, _, r1, r2⟩ := r.pair
  exact ⟨a, [v1, v2], ev, .inl hh, rfl, v1, [v2], rfl, v2, [], rfl, rfl, h v1 v2 r1 r2⟩
theorem ev_lc2 {xs : List (α × β)} {f : α × β → γ} {k l : Nat} (hi : Ei W M wi σ H xs) (hl : xs.length ≤ 1000000) (hk : k ∈ vs) (hl' : l ∈ vs)
    (he : ∀ (i : Nat) x v1 v2 M' H', xs[i]? = some x → Le (cut W M H) (cut W M' H') → Rep W M' H' v1 x.1 → Rep W M' H' v2 x.2 → Ev W M' te (((wipe σ vs).set k (some v1)).set l (some v2)) H' (f x)) : Ev W M (tLc wi (gPair W.K k l) tYes te vs) σ H (xs.map f) :=
  (lc_w (p := fun _ => true) (R := fun x y => y = f x) hi hl fun i x v M' H' hx l ok r K q => gPair_rd r fun v1 v2 r1 r2 => q _ (by rw [wipe_set hl', wipe_set hk, wipe_wipe]) et_yes fun _ => (he i x v1 v2 M' H' hx l r1 r2).r).ev fun ys h => by rw [h.map, filter_yes]
theorem evr_lc2 {xs : List (α × β)} {R : α × β → γ → Prop} {k l : Nat} (hi : Ei W M wi σ H xs) (hl : xs.length ≤ 1000000) (hk : k ∈ vs) (hl' : l ∈ vs)
    (he : ∀ (i : Nat) x v1 v2 M' H', xs[i]? = some x → Le (cut W M H) (cut W M' H') → Rep W M' H' v1 x.1 → Rep W M' H' v2 x.2 → EvR W M' te (((wipe σ vs).set k (some v1)).set l (some v2)) H' (R x)) : EvR W M (tLc wi (gPair W.K k l) tYes te vs) σ H (fun ys => Paired R xs ys) :=
  (lc_w (p := fun _ => true) (R := R) hi hl fun i x v M' H' hx l ok r K q => gPair_rd r fun v1 v2 r1 r2 => q _ (by rw [wipe_set hl', wipe_set hk, wipe_wipe]) et_yes fun _ => he i x v1 v2 M' H' hx l r1 r2).imp fun ys h => by unfold Lc at h; rwa [filter_yes] at h
end
end RG
namespace RG
open PySem PySem.Spec PyProof.Rows L2 StX RZ

section
variable {α β γ : Type} [Py α] [Py β] [Py γ] {W : Wd} {M M' N : List Addr} {σ σ' : L2.St} {H H1 H2 H' : Hp} {te ta tb tl : TE} {wi wi1 : TI} {vs vs1 : List Nat} {v : V} {x : α} {i : Nat}
/-- [e for x in xs for z in zs] -/
theorem ev_lcc {xs : List α} {zs : α → List β} {f : α → β → γ} {k l : Nat} (hi : Ei W M wi σ H xs) (hl : xs.length ≤ 1000) (hk : k ∈ vs) (hl' : l ∈ vs1)
    (hz : ∀ x ∈ xs, (zs x).length ≤ 1000)
    (h1 : ∀ (i : Nat) (x : α) v M' H', xs[i]? = some x → Le (cut W M H) (cut W M' H') → Rep W M' H' v x → Ei W M' wi1 ((wipe σ vs).set k (some v)) H' (zs x))
    (he : ∀ (i j : Nat) (x : α) (z : β) v u M' H', xs[i]? = some x → (zs x)[j]? = some z → Le (cut W M H) (cut W M' H') → Rep W M' H' v x → Rep W M' H' u z → Ev W M' te ((wipe ((wipe σ vs).set k (some v)) vs1).set l (some u)) H' (f x z)) :
    Ev W M (tLc2 wi (gName k) tYes wi1 (gName l) tYes te vs vs1) σ H (xs.flatMap fun x => (zs x).map (f x)) := fun H1 e ok Q q => by
  refine hi H1 e ok _ fun J S H2 e2 wk s2 => ?_
  intro L hL
  have ok2 := ok.ex e2
  have nb := ok2.new_b hL
  have nbl := ok2.new_bl hL
  have nM := ok2.new_M hL
  have le2 : Le (cut W M H) (cut W M H2) := (e.trans e2).up.le
  refine ⟨fun i m H' => m = xs.length - i ∧ i ≤ xs.length ∧ Ok W (L :: M) H' ∧ S (L :: M) H' ∧ Ex W [] H2 H' ∧ Le (cut W M H) (cut W (L :: M) H') ∧
    ∃ us, H' L = some (.lst us) ∧ Paired (Rep W (L :: M) H') us ((xs.take i).flatMap fun x => (zs x).map (f x)) ∧ us.length ≤ i * 1000,
    ⟨xs.length, by simp, Nat.zero_le _, ok2.grow hL, wk.st (le_new hL) s2, Ex.new hL, le2.trans (le_new hL), [], upd_same, by simpa using .nil, by simp⟩, ?_⟩
  rintro i m H' ⟨rfl, hi', ok', s', e', l', us, hL', pp, hz'⟩
  by_cases hlt : i < xs.length
  · refine .inr ⟨wk.go s' hlt, fun H3 => i + 1 ≤ xs.length ∧ Ok W (L :: M) H3 ∧ S (L :: M) H3 ∧ Ex W [] H2 H3 ∧ Le (cut W M H) (cut W (L :: M) H3) ∧
      ∃ us, H3 L = some (.lst us) ∧ Paired (Rep W (L :: M) H3) us ((xs.take (i + 1)).flatMap fun x => (zs x).map (f x)) ∧ us.length ≤ (i + 1) * 1000, fun H3 q => ⟨xs.length - (i + 1), by omega, rfl, q⟩, fun v H3 y => ?_⟩
    obtain ⟨x, hx, e3, r⟩ := wk.yld s' ok' y hlt
    have ok3 := ok'.ex e3
    have l3 := l'.trans e3.up.le
    refine ⟨by rw [wipe_set hk, wipe_wipe], ?_⟩
    refine h1 i x v (L :: M) H3 hx l3 r H3 Ex.refl ok3 _ fun J1 S1 H4 e4 wk1 s4 => ?_
    have hxm : x ∈ xs := List.mem_of_getElem? hx
    have e34 := e3.trans e4
    refine ⟨fun j m H' => m = (zs x).length - j ∧ j ≤ (zs x).length ∧ Ok W (L :: M) H' ∧ S (L :: M) H' ∧ S1 (L :: M) H' ∧ Ex W [] H2 H' ∧ Le (cut W M H) (cut W (L :: M) H') ∧ Rep W (L :: M) H' v x ∧
      ∃ us, H' L = some (.lst us) ∧ Paired (Rep W (L :: M) H') us (((xs.take i).flatMap fun x => (zs x).map (f x)) ++ ((zs x).take j).map (f x)) ∧ us.length ≤ i * 1000 + j,
      ⟨(zs x).length, by simp, Nat.zero_le _, ok'.ex e34, wk.st e34.up.le s', s4, e'.trans e34, l'.trans e34.up.le, r.up e4, us, e34.keep L _ nb (by simp) hL', by simpa using Pd.mono pp fun _ _ r => r.up e34, hz'⟩, ?_⟩
    rintro j m H5 ⟨rfl, hj, ok5, s5, s15, e5, l5, r5, us5, hL5, pp5, hz5⟩
    by_cases hjl : j < (zs x).length
    · refine .inr ⟨wk1.go s15 hjl, fun H' => j + 1 ≤ (zs x).length ∧ Ok W (L :: M) H' ∧ S (L :: M) H' ∧ S1 (L :: M) H' ∧ Ex W [] H2 H' ∧ Le (cut W M H) (cut W (L :: M) H') ∧ Rep W (L :: M) H' v x ∧
        ∃ us, H' L = some (.lst us) ∧ Paired (Rep W (L :: M) H') us (((xs.take i).flatMap fun x => (zs x).map (f x)) ++ ((zs x).take (j + 1)).map (f x)) ∧ us.length ≤ i * 1000 + (j + 1), fun H' q => ⟨(zs x).length - (j + 1), by omega, rfl, q⟩, fun u H6 y6 => ?_⟩
      obtain ⟨z, hzj, e6, r6⟩ := wk1.yld s15 ok5 y6 hjl
      have ok6 := ok5.ex e6
      have l6 := l5.trans e6.up.le
      refine ⟨by rw [wipe_set hl', wipe_wipe], ?_⟩
      refine he i j x z v u (L :: M) H6 hx hzj l6 (r5.up e6) r6 H6 Ex.refl ok6 _ fun w H7 e7 r7 => ?_
      have e67 := e6.trans e7
      have ok7 := ok5.ex e67
      have hL7 := e67.keep L _ nb (by simp) hL5
      have em : Ex W (L :: M) H7 (upd H7 L (.lst (us5 ++ [w]))) := Ex.mut nb nbl (List.mem_cons_self)
      have e68 : Ex W (L :: M) H5 (upd H7 L (.lst (us5 ++ [w]))) := e67.up.trans em
      have hb := hz x hxm
      refine ⟨us5, hL7, Nat.lt_of_le_of_lt hz5 (Nat.lt_of_lt_of_le (show i * 1000 + j < 1000 * 1000 by have : i * 1000 ≤ 999 * 1000 := Nat.mul_le_mul_right _ (by omega); omega) (by decide)), hjl, ok7.ex em, wk.st e68.le s5, wk1.st e68.le s15, (e5.trans e67).mut0 ok2 hL, l5.trans e68.le, r5.ex e68, us5 ++ [w], upd_same, ?_, by rw [List.length_append]; simp; omega⟩
      rw [List.take_add_one, hzj, List.map_append, ← List.append_assoc]
      exact Pd.append (Pd.mono pp5 fun _ _ r => r.ex e68) (.cons (r7.ex em) .nil)
    · have ej : j = (zs x).length := by omega
      subst ej
      refine .inl ⟨wk1.stop s15 (Nat.le_refl _), hlt, ok5, s5, e5, l5, us5, hL5, ?_, by have := hz x hxm; omega⟩
      rw [List.take_add_one, hx, List.flatMap_append]
      rw [List.take_length] at pp5
      simpa using pp5
  · have e5 : i = xs.length := by omega
    subst e5
    rw [List.take_length] at pp
    exact .inl ⟨wk.stop s' (Nat.le_refl _), q (.ref L) H' (e2.trans (e'.sub (by simp))) (rep_lst hL' nb nM (Pd.mono pp fun _ _ r => r.less))⟩
end

/-! ### what a def promises -/
section
variable {α β γ δ ε : Type} [Py α] [Py β] [Py γ] [Py δ] [Py ε]
/-- one argument -/
def F1 (K : PySem.W.Frag) (C : Str → Addr) (pre : α → Prop) (f : α → β) : Sp := fun vs H Q _ => ∃ (W : Wd) (M : List Addr) (v : V) (x : α), W.K = K ∧ W.C = C ∧ vs = [v] ∧ Ok W M H ∧ Rep W M H v x ∧ pre x ∧ ∀ r H', Ex W [] H H' → Rep W M H' r (f x) → Q r H'
def F2 (K : PySem.W.Frag) (C : Str → Addr) (pre : α → β → Prop) (f : α → β → γ) : Sp := fun vs H Q _ => ∃ (W : Wd) (M : List Addr) (v u : V) (x : α) (y : β), W.K = K ∧ W.C = C ∧ vs = [v, u] ∧ Ok W M H ∧ Rep W M H v x ∧ Rep W M H u y ∧ pre x y ∧
  ∀ r H', Ex W [] H H' → Rep W M H' r (f x y) → Q r H'
def F3 (K : PySem.W.Frag) (C : Str → Addr) (pre : α → β → γ → Prop) (f : α → β → γ → δ) : Sp := fun vs H Q _ => ∃ (W : Wd) (M : List Addr) (v u w : V) (x : α) (y : β) (z : γ), W.K = K ∧ W.C = C ∧ vs = [v, u, w] ∧ Ok W M H ∧ Rep W M H v x ∧ Rep W M H u y ∧ Rep W M H w z ∧ pre x y z ∧
  ∀ r H', Ex W [] H H' → Rep W M H' r (f x y z) → Q r H'
/-- with the bag ahead, one of several answers -/
def B0 (K : PySem.W.Frag) (C : Str → Addr) (R : β → Prop) : Sp := fun vs H Q _ => ∃ (W : Wd) (M : List Addr), W.K = K ∧ W.C = C ∧ vs = [.ref W.b] ∧ Ok W M H ∧ ∀ r z H', R z → Ex W [] H H' → Rep W M H' r z → Q r H'
def B1 (K : PySem.W.Frag) (C : Str → Addr) (pre : α → Prop) (R : α → β → Prop) : Sp := fun vs H Q _ => ∃ (W : Wd) (M : List Addr) (v : V) (x : α), W.K = K ∧ W.C = C ∧ vs = [.ref W.b, v] ∧ Ok W M H ∧ Rep W M H v x ∧ pre x ∧ ∀ r z H', R x z → Ex W [] H H' → Rep W M H' r z → Q r H'
def B2 (K : PySem.W.Frag) (C : Str → Addr) (pre : α → β → Prop) (R : α → β → γ → Prop) : Sp := fun vs H Q _ => ∃ (W : Wd) (M : List Addr) (v u : V) (x : α) (y : β), W.K = K ∧ W.C = C ∧ vs = [.ref W.b, v, u] ∧ Ok W M H ∧ Rep W M H v x ∧ Rep W M H u y ∧ pre x y ∧
  ∀ r z H', R x y z → Ex W [] H H' → Rep W M H' r z → Q r H'
def B3 (K : PySem.W.Frag) (C : Str → Addr) (pre : α → β → γ → Prop) (R : α → β → γ → δ → Prop) : Sp := fun vs H Q _ => ∃ (W : Wd) (M : List Addr) (v u w : V) (x : α) (y : β) (z : γ), W.K = K ∧ W.C = C ∧ vs = [.ref W.b, v, u, w] ∧ Ok W M H ∧ Rep W M H v x ∧ Rep W M H u y ∧ Rep W M H w z ∧ pre x y z ∧
  ∀ r t H', R x y z t → Ex W [] H H' → Rep W M H' r t → Q r H'
variable {W : Wd} {M M' N : List Addr} {σ σ' : L2.St} {H H1 H2 H' : Hp} {ta tb tc td te : TE} {E : XK}
theorem ev_f1 {pre : α → Prop} {f : α → β} {x : α} (ha : Ev W M ta σ H x) (hp : pre x) : Ev W M (tCall (F1 W.K W.C pre f) [] E (tCons ta tNil)) σ H (f x) := fun H1 e ok Q q =>
  ha H1 e ok _ fun v H2 e2 r => ⟨W, M, v, x, rfl, rfl, rfl, ok.ex e2, r, hp, fun r H3 e3 rr => q r H3 (e2.trans e3) rr⟩
theorem ev_f2 {pre : α → β → Prop} {f : α → β → γ} {x : α} {y : β} (ha : Ev W M ta σ H x) (hb : Ev W M tb σ H y) (hp : pre x y) : Ev W M (tCall (F2 W.K W.C pre f) [] E (tCons ta (tCons tb tNil))) σ H (f x y) := fun H1 e ok Q q =>
  ha H1 e ok _ fun v H2 e2 r => hb H2 (e.trans e2) (ok.ex e2) _ fun u H3 e3 r3 => ⟨W, M, v, u, x, y, rfl, rfl, rfl, (ok.ex e2).ex e3, r.up e3, r3, hp, fun r H4 e4 rr => q r H4 ((e2.trans e3).trans e4) rr⟩
theorem ev_f3 {pre : α → β → γ → Prop} {f : α → β → γ → δ} {x : α} {y : β} {z : γ} (ha : Ev W M ta σ H x) (hb : Ev W M tb σ H y) (hc : Ev W M tc σ H z) (hp : pre x y z) :
    Ev W M (tCall (F3 W.K W.C pre f) [] E (tCons ta (tCons tb (tCons tc tNil)))) σ H (f x y z) := fun H1 e ok Q q =>
  ha H1 e ok _ fun v H2 e2 r => hb H2 (e.trans e2) (ok.ex e2) _ fun u H3 e3 r3 => hc H3 ((e.trans e2).trans e3) ((ok.ex e2).ex e3) _ fun w H4 e4 r4 =>
    ⟨W, M, v, u, w, x, y, z, rfl, rfl, rfl, ((ok.ex e2).ex e3).ex e4, (r.up e3).up e4, r3.up e4, r4, hp, fun r H5 e5 rr => q r H5 (((e2.trans e3).trans e4).trans e5) rr⟩
/-- the slot that holds the bag -/
def Bs (W : Wd) (σ : L2.St) (i : Nat) : Prop := σ[i]? = some (some (.ref W.b))
theorem Bs.set {i k : Nat} {v : V} (h : Bs W σ i) (n : i ≠ k := by decide) : Bs W (σ.set k (some v)) i := by
  unfold Bs
  rw [List.getElem?_set_ne (Ne.symm n)]
  exact h
theorem Bs.wipe {i : Nat} (h : Bs W σ i) {vs : List Nat} (n : i ∉ vs := by decide) : Bs W (L2.wipe σ vs) i := by
  unfold Bs at h ⊢
  induction vs with
  | nil => exact h
  | cons a l ih =>
    show ((L2.wipe σ l).set a none)[i]? = _
    rw [List.getElem?_set_ne (fun z => n (by rw [z]; exact List.mem_cons_self))]
    exact ih (fun z => n (List.mem_cons_of_mem _ z))
variable {i : Nat}
theorem evr_b0 {R : β → Prop} (hb : Bs W σ i) : EvR W M (tCall (B0 W.K W.C R) [] E (tCons (tVar i) tNil)) σ H R := fun H1 e ok Q q =>
  ⟨.ref W.b, hb, W, M, rfl, rfl, rfl, ok, fun r z H3 hz e3 rr => q r z H3 hz e3 rr⟩
theorem evr_b1 {pre : α → Prop} {R : α → β → Prop} {x : α} (hb : Bs W σ i) (ha : Ev W M ta σ H x) (hp : pre x) : EvR W M (tCall (B1 W.K W.C pre R) [] E (tCons (tVar i) (tCons ta tNil))) σ H (R x) := fun H1 e ok Q q =>
  ⟨.ref W.b, hb, ha H1 e ok _ fun v H2 e2 r => ⟨W, M, v, x, rfl, rfl, rfl, ok.ex e2, r, hp, fun r z H3 hz e3 rr => q r z H3 hz (e2.trans e3) rr⟩⟩
theorem evr_b2 {pre : α → β → Prop} {R : α → β → γ → Prop} {x : α} {y : β} (hb : Bs W σ i) (ha : Ev W M ta σ H x) (hc : Ev W M tb σ H y) (hp : pre x y) : EvR W M (tCall (B2 W.K W.C pre R) [] E (tCons (tVar i) (tCons ta (tCons tb tNil)))) σ H (R x y) := fun H1 e ok Q q =>
  ⟨.ref W.b, hb, ha H1 e ok _ fun v H2 e2 r => hc H2 (e.trans e2) (ok.ex e2) _ fun u H3 e3 r3 => ⟨W, M, v, u, x, y, rfl, rfl, rfl, (ok.ex e2).ex e3, r.up e3, r3, hp, fun r z H4 hz e4 rr => q r z H4 hz ((e2.trans e3).trans e4) rr⟩⟩
theorem evr_b3 {pre : α → β → γ → Prop} {R : α → β → γ → δ → Prop} {x : α} {y : β} {z : γ} (hb : Bs W σ i) (ha : Ev W M ta σ H x) (hc : Ev W M tb σ H y) (hd : Ev W M tc σ H z) (hp : pre x y z) :
    EvR W M (tCall (B3 W.K W.C pre R) [] E (tCons (tVar i) (tCons ta (tCons tb (tCons tc tNil))))) σ H (R x y z) := fun H1 e ok Q q =>
  ⟨.ref W.b, hb, ha H1 e ok _ fun v H2 e2 r => hc H2 (e.trans e2) (ok.ex e2) _ fun u H3 e3 r3 => hd H3 ((e.trans e2).trans e3) ((ok.ex e2).ex e3) _ fun w H4 e4 r4 =>
    ⟨W, M, v, u, w, x, y, z, rfl, rfl, rfl, ((ok.ex e2).ex e3).ex e4, (r.up e3).up e4, r3.up e4, r4, hp, fun r t H5 ht e5 rr => q r t H5 ht (((e2.trans e3).trans e4).trans e5) rr⟩⟩

/-! ### statements -/
variable {D : Ends} {t1 t2 ts : TS} {tt : TT} {k l : Nat} {x : α} {a p : Addr}
theorem s_set (ok : Ok W M H) (h : Ev W M te σ H x) (q : ∀ v H', Ex W [] H H' → Ok W M H' → Rep W M H' v x → D.nx (σ.set k (some v)) H') : tAsg te (gName k) D σ H :=
  h H Ex.refl ok _ fun v H' e r => q v H' e (ok.ex e) r
theorem s_setR {P : α → Prop} (ok : Ok W M H) (h : EvR W M te σ H P) (q : ∀ v x H', P x → Ex W [] H H' → Ok W M H' → Rep W M H' v x → D.nx (σ.set k (some v)) H') : tAsg te (gName k) D σ H :=
  h H Ex.refl ok _ fun v x H' px e r => q v x H' px e (ok.ex e) r
theorem s_set2 {x : α × β} (ok : Ok W M H) (h : Ev W M te σ H x) (q : ∀ v u H', Ex W [] H H' → Ok W M H' → Rep W M H' v x.1 → Rep W M H' u x.2 → D.nx ((σ.set k (some v)).set l (some u)) H') : tAsg te (gPair W.K k l) D σ H :=
  h H Ex.refl ok _ fun v H' e r => gPair_rd r fun v1 v2 r1 r2 => q v1 v2 H' e (ok.ex e) r1 r2
theorem s_drop (ok : Ok W M H) (h : Ev W M te σ H x) (q : ∀ H', Ex W [] H H' → Ok W M H' → D.nx σ H') : tDrop te D σ H :=
  h H Ex.refl ok _ fun v H' e r => q H' e (ok.ex e)
theorem s_ret (ok : Ok W M H) (h : Ev W M te σ H x) (q : ∀ v H', Ex W [] H H' → Rep W M H' v x → D.rt v H') : tRet te D σ H :=
  h H Ex.refl ok _ fun v H' e r => q v H' e r
theorem s_retR {P : α → Prop} (ok : Ok W M H) (h : EvR W M te σ H P) (q : ∀ v x H', P x → Ex W [] H H' → Rep W M H' v x → D.rt v H') : tRet te D σ H :=
  h H Ex.refl ok _ fun v x H' px e r => q v x H' px e r
theorem s_if {b : Bool} (ok : Ok W M H) (h : Et W M tt σ H b) (h1 : b = true → ∀ H', Ex W [] H H' → Ok W M H' → t1 D σ H') (h2 : b = false → ∀ H', Ex W [] H H' → Ok W M H' → t2 D σ H') : tIfS tt t1 t2 D σ H :=
  h H Ex.refl ok _ fun H' e => by
    cases b with
    | true => rw [if_pos rfl]; exact h1 rfl H' e (ok.ex e)
    | false => rw [if_neg Bool.false_ne_true]; exact h2 rfl H' e (ok.ex e)
theorem s_no (ok : Ok W M H) (h : Et W M tt σ H false) (h2 : ∀ H', Ex W [] H H' → Ok W M H' → t2 D σ H') : tIfS tt t1 t2 D σ H := s_if ok h (fun z => nomatch z) fun _ => h2
theorem s_yes (ok : Ok W M H) (h : Et W M tt σ H true) (h1 : ∀ H', Ex W [] H H' → Ok W M H' → t1 D σ H') : tIfS tt t1 t2 D σ H := s_if ok h (fun _ => h1) (fun z => nomatch z)
/-- xs = [], a list that will be filled -/
theorem s_new (ok : Ok W M H) (q : ∀ p, H p = none → Ex W [] H (upd H p (.lst [])) → Le (cut W M H) (cut W (p :: M) (upd H p (.lst []))) → Ok W (p :: M) (upd H p (.lst [])) → D.nx (σ.set k (some (.ref p))) (upd H p (.lst []))) : tAsg (tLst tNil) (gName k) D σ H :=
  ⟨Nat.zero_le _, fun p hp => q p hp (Ex.new hp) (le_new hp) (ok.grow hp)⟩
/-- a list that is filled: what it holds so far -/
structure Acc {α : Type} [Py α] (W : Wd) (M : List Addr) (σ : L2.St) (H : Hp) (k : Nat) (p : Addr) (xs : List α) : Prop where
  at_ : σ[k]? = some (some (.ref p))
  nb : p ≠ W.b
  nbl : p ≠ W.bl
  mem : p ∈ M
  it : ∃ vs, H p = some (.lst vs) ∧ Paired (Rep W M H) vs xs
theorem Acc.new (ok : Ok W M H) (hp : H p = none) (hk : k < σ.length) : Acc W (p :: M) (σ.set k (some (.ref p))) (upd H p (.lst [])) k p ([] : List α) :=
  ⟨by rw [List.getElem?_set_self hk], ok.new_b hp, ok.new_bl hp, List.mem_cons_self, [], upd_same, .nil⟩
theorem Acc.up {xs : List α} (h : Acc W M σ H k p xs) (e : Ex W [] H H') : Acc W M σ H' k p xs :=
  ⟨h.at_, h.nb, h.nbl, h.mem, let ⟨vs, hh, pp⟩ := h.it; ⟨vs, e.keep _ _ h.nb (by simp) hh, Pd.mono pp fun _ _ r => r.up e⟩⟩
theorem Acc.set {xs : List α} {v : V} (h : Acc W M σ H k p xs) (e : Ex W [] H H') (n : k ≠ l := by decide) : Acc W M (σ.set l (some v)) H' k p xs :=
  ⟨by rw [List.getElem?_set_ne (Ne.symm n)]; exact h.at_, h.nb, h.nbl, h.mem, (h.up e).it⟩
theorem Acc.setσ {xs : List α} {v : V} (h : Acc W M σ H k p xs) (n : k ≠ l := by decide) : Acc W M (σ.set l (some v)) H k p xs := h.set Ex.refl n
/-- xs.append(e) -/
theorem s_app {xs : List α} (ok : Ok W M H) (hA : Acc W M σ H k p xs) (hl : xs.length ≤ 1000000) (h : Ev W M te σ H x)
    (q : ∀ H', Ex W M H H' → (∀ G, Ex W [] G H → Ok W N G → G p = none → Ex W [] G H') → Ok W M H' → Acc W M σ H' k p (xs ++ [x]) → D.nx σ H') : tDrop (tBM W.K "list" rAppend (tVar k) (tCons te tNil)) D σ H := by
  obtain ⟨vs, hp, pp⟩ := hA.it
  refine ⟨.ref p, hA.at_, .inl ⟨rfl, vs, SqL.of hp⟩, h H Ex.refl ok _ fun v H2 e2 r => ⟨p, vs, v, rfl, rfl, e2.keep _ _ hA.nb (by simp) hp, by rw [Pd.length pp]; exact sl hl, ?_⟩⟩
  have em : Ex W M H2 (upd H2 p (.lst (vs ++ [v]))) := Ex.mut hA.nb hA.nbl hA.mem
  refine q _ (e2.up.trans em) (fun G eG okG hG => (eG.trans e2).mut0 okG hG) ((ok.ex e2).ex em) ⟨hA.at_, hA.nb, hA.nbl, hA.mem, vs ++ [v], upd_same, ?_⟩
  exact Pd.append (Pd.mono pp fun _ _ r => (r.up e2).ex em) (.cons (r.ex em) .nil)
theorem s_appR {P : α → Prop} {xs : List α} (ok : Ok W M H) (hA : Acc W M σ H k p xs) (hl : xs.length ≤ 1000000) (h : EvR W M te σ H P)
    (q : ∀ x H', P x → Ex W M H H' → (∀ G, Ex W [] G H → Ok W N G → G p = none → Ex W [] G H') → Ok W M H' → Acc W M σ H' k p (xs ++ [x]) → D.nx σ H') : tDrop (tBM W.K "list" rAppend (tVar k) (tCons te tNil)) D σ H := by
  obtain ⟨vs, hp, pp⟩ := hA.it
  refine ⟨.ref p, hA.at_, .inl ⟨rfl, vs, SqL.of hp⟩, h H Ex.refl ok _ fun v x H2 px e2 r => ⟨p, vs, v, rfl, rfl, e2.keep _ _ hA.nb (by simp) hp, by rw [Pd.length pp]; exact sl hl, ?_⟩⟩
  have em : Ex W M H2 (upd H2 p (.lst (vs ++ [v]))) := Ex.mut hA.nb hA.nbl hA.mem
  refine q x _ px (e2.up.trans em) (fun G eG okG hG => (eG.trans e2).mut0 okG hG) ((ok.ex e2).ex em) ⟨hA.at_, hA.nb, hA.nbl, hA.mem, vs ++ [v], upd_same, ?_⟩
  exact Pd.append (Pd.mono pp fun _ _ r => (r.up e2).ex em) (.cons (r.ex em) .nil)
/-- the list is filled: it is data -/
theorem Acc.done {xs : List α} (h : Acc W (p :: M) σ H k p xs) (hm : p ∉ M) : Sl W M σ H k xs :=
  let ⟨vs, hh, pp⟩ := h.it; ⟨.ref p, h.at_, rep_lst hh h.nb hm (Pd.mono pp fun _ _ r => r.less)⟩
end
end RG
namespace RG
open PySem PySem.Spec PyProof.Rows L2 StX RZ

/-! ### defs, methods, classes of the text, with all that a call asks -/
structure Cal (P : Program) (w : World) (K : PySem.W.Frag) (mg : Str → Option Value) (base : Heap) (k : Nat) (x : Str) (ps : List Str) (sp : Sp) where
  f : Addr
  fd : FuncData
  ok : FnOk P w K mg base CX0 k f fd ps sp
  gl : mg x = some (.ref f)
  kp : PySem.W.keepIn K (.ref f) = true
  b : Binds K fd ps []
structure MetC (P : Program) (w : World) (K : PySem.W.Frag) (mg : Str → Option Value) (base : Heap) (k : Nat) (C : Addr) (m : Str) (ps : List Str) (sp : Sp) where
  f : Addr
  fd : FuncData
  ok : FnOk P w K mg base CX0 k f fd ps sp
  cl : Cls K C
  me : Meth K C m f
  b : Binds K fd ps []
structure PropC (P : Program) (w : World) (K : PySem.W.Frag) (mg : Str → Option Value) (base : Heap) (k : Nat) (C : Addr) (m : Str) (sp : Sp) where
  p : Addr
  g : Addr
  fd : FuncData
  ok : FnOk P w K mg base CX0 k g fd ["self"] sp
  cl : Cls K C
  pr : PropOf K C m p g
  b : Binds K fd ["self"] []
structure MakC (P : Program) (w : World) (K : PySem.W.Frag) (mg : Str → Option Value) (base : Heap) (k : Nat) (C : Addr) (x : Str) (ps : List Str) (sp : Sp) where
  f : Addr
  fd : FuncData
  ok : FnOk P w K mg base CX0 k f fd ps sp
  mo : Mk K C f
  gl : mg x = some (.ref C)
  b : Binds K fd ps []
/-- a special method: found in the class, called by an operator -/
structure OwnC (P : Program) (w : World) (K : PySem.W.Frag) (mg : Str → Option Value) (base : Heap) (k : Nat) (C : Addr) (m : Str) (ps : List Str) (sp : Sp) where
  f : Addr
  fd : FuncData
  ok : FnOk P w K mg base CX0 k f fd ps sp
  fi : PySem.W.findIn K (.ref C) m = some (some (.ref f))
  fn : PySem.W.isFn K (.ref f) = true
  b : Binds K fd ps []
structure CmC (P : Program) (w : World) (K : PySem.W.Frag) (mg : Str → Option Value) (base : Heap) (k : Nat) (C : Addr) (x m : Str) (ps : List Str) (sp : Sp) where
  p : Addr
  f : Addr
  mc : Value
  fd : FuncData
  ok : FnOk P w K mg base CX0 k f fd ps sp
  gl : mg x = some (.ref C)
  rd : ClX.CRead K C mc
  cm : ClX.CMet K C mc m p f
  b : Binds K fd ps []
theorem fnR_of {k : Nat} {f : Addr} {fd : FuncData} {K : PySem.W.Frag} {P : Program} {w : World} {mg : Str → Option Value} {base : Heap} {ps : List Str} {sp : Sp} (F : FnOk P w K mg base CX0 k f fd ps sp) (hb : Binds K fd ps []) : FnR P w K mg base CX0 k f sp :=
  (F.raw hb .nil).imp fun vs H Q E h => by rw [List.append_nil]; exact h

section
variable {X : Cx} {k j i : Nat} {C : Addr} {x m f : Str} {ps : List Str} {sp : Sp} {p pos apos : Pos} {e o : Expr} {es : List Expr} {t : TA} {ta tb te : TE}
/-! ### operators of own classes -/
/-- x in o, by the class's own word -/
def rInOwn (C : Addr) (sp : Sp) (neg : Bool) : R2 := fun x y H Q => ∃ a dx fs, y = .ref a ∧ H a = some (.ins C dx fs) ∧ sp [y, x] H (fun z H' => ∃ b, z = .bl b ∧ Q (.bl (if neg then !b else b)) H') E0
theorem op_inOwn (c : OwnC X.prog X.w X.K X.mg X.base k C "__contains__" ps sp) (hr : Room k X.A) : OpR X (compareOp .In) (rInOwn C sp false) := by
  intro pins s σ H x y v u Q I rx ry h
  obtain ⟨a, dx, fs, rfl, ha, q⟩ := h
  cases (show u = Value.ref a from ry)
  obtain ⟨mA, O, _⟩ := ins_get I.hok ha
  obtain ⟨od, J, _⟩ := O.look
  obtain ⟨m, hF⟩ := I.fr
  refine PySem.W.in_K hF I.ok.mod.kin J c.fi c.fn (wpAny_mono (wpAny_call (run_fnR (us := [.ref a, v]) (vs := [.ref a, x]) (fnR_of c.ok c.b) hr pass0 I (.cons rfl (.cons rx .nil)) q)) (fun r s' z => ?_) fun _ _ x => x)
  obtain ⟨z', H', I', rz, b, ez, qz⟩ := z
  subst ez
  cases (show r = Value.bool b from rz)
  exact wpAny_truthy_bool ⟨.bl b, H', I', rfl, qz⟩
theorem op_notInOwn (c : OwnC X.prog X.w X.K X.mg X.base k C "__contains__" ps sp) (hr : Room k X.A) : OpR X (compareOp .NotIn) (rInOwn C sp true) := by
  intro pins s σ H x y v u Q I rx ry h
  obtain ⟨a, dx, fs, rfl, ha, q⟩ := h
  cases (show u = Value.ref a from ry)
  obtain ⟨mA, O, _⟩ := ins_get I.hok ha
  obtain ⟨od, J, _⟩ := O.look
  obtain ⟨m, hF⟩ := I.fr
  refine PySem.W.notIn_K hF I.ok.mod.kin J c.fi c.fn (wpAny_mono (wpAny_call (run_fnR (us := [.ref a, v]) (vs := [.ref a, x]) (fnR_of c.ok c.b) hr pass0 I (.cons rfl (.cons rx .nil)) q)) (fun r s' z => ?_) fun _ _ x => x)
  obtain ⟨z', H', I', rz, b, ez, qz⟩ := z
  subst ez
  cases (show r = Value.bool b from rz)
  exact wpAny_truthy_bool ⟨.bl (!b), H', I', rfl, qz⟩
/-- len(o), by the class's own word -/
def rLenOwn (C : Addr) (sp : Sp) : List V → Hp → VK → Prop := fun xs H Q => ∃ a dx fs, xs = [.ref a] ∧ H a = some (.ins C dx fs) ∧ sp [.ref a] H (fun z H' => ∃ n : Int, z = .int n ∧ 0 ≤ n ∧ n < 2 ^ 63 ∧ Q (.int n) H') E0
theorem cLenOwn (c : OwnC X.prog X.w X.K X.mg X.base k C "__len__" ps sp) (hr : Room (k + 1) X.A) : CallR X (.builtin "len") (rLenOwn C sp) := by
  intro pins s σ H xs us Q I r h
  obtain ⟨a, dx, fs, rfl, ha, q⟩ := h
  obtain ⟨u, rfl, ru⟩ := r.one
  cases (show u = Value.ref a from ru)
  obtain ⟨mA, O, _⟩ := ins_get I.hok ha
  obtain ⟨od, J, _⟩ := O.look
  obtain ⟨m, hF⟩ := I.fr
  refine PySem.W.len_K hF I.ok.mod.kin J c.fi c.fn (wpAny_mono (wpAny_call (SlX.run_at (us := [.ref a]) (ws := [.ref a]) (fnR_of c.ok c.b) hr.in1 I.env0.in1 pass0 I (.cons rfl .nil) q)) (fun r s' z => ?_) fun _ _ x => x)
  obtain ⟨z', H', I', rz, n, ez, h0, h1, qz⟩ := z
  subst ez
  obtain ⟨t, e⟩ := (show ∃ t, r = Value.int n t from rz)
  cases e
  exact ⟨⟨h0, h1⟩, .int n, H', I'.tok _, ⟨_, rfl⟩, qz⟩
/-- C(..) where a local name holds the class -/
def tMakeL (i : Nat) (C : Addr) (sp : Sp) (t : TA) : TE := fun σ H Q => σ[i]? = some (some (.ref C)) ∧ tMake C sp [] E0 t σ H Q
theorem pe_makeL {f : Addr} {fd : FuncData} (M : Mk X.K C f) (F : FnOk X.prog X.w X.K X.mg X.base CX0 k f fd ps sp) (hr : Room (k + 1) X.A) (hb : Binds X.K fd ps []) (ha : PA X (e :: es) t) (hN : X.N[i]? = some x := by rfl)
    (hv : Vis X.env.scope x := by first | exact Or.inl rfl | exact Or.inr (Or.inl rfl) | exact Or.inr (Or.inr rfl)) (hdb : (x == ("__debug__" : Str)) = false := by decide) (hcd : (x == ("__classdict__" : Str)) = false := by decide)
    (he : starEach (e :: es) X.env = (false, eval e X.env) :: starEach es X.env := by rfl) (hpl : (backTo pos (starEach es X.env)).any (·.1) = false := by rfl) : PE X (.Call (.Name x p) (e :: es) [] pos) (tMakeL i C sp t) := by
  refine ⟨fun pins s σ H Q I h => ?_⟩
  obtain ⟨hs, ht⟩ := h
  refine wpAny_Call_Name_kw (thn ((pe_var (pos := p) hN hv hdb hcd).run pins s σ H (fun v H1 => v = .ref C ∧ H1 = H) I ⟨.ref C, hs, rfl, rfl⟩) fun u s1 ⟨v, H1, I1, r1, q1⟩ => ?_)
  obtain ⟨rfl, rfl⟩ := q1
  cases r1
  refine PySem.W.callWith_K (h₀ := X.base) I.ok.mod.kin M.kp (thn (ha.run pos pins s1 σ _ _ I1 ht) fun us s2 ⟨vs, H2, I2, r, q⟩ => ⟨I2.kIn, ?_⟩) he hpl
  exact run_make M F hr hb .nil pass0 I2 r q

/-! ### a list or a tuple -/
def iSeq (K : PySem.W.Frag) (tl : TE) : TI := fun σ H R => tl σ H fun x H1 => ∃ a, x = .ref a ∧ (((∃ xs, SqL K H1 a xs) ∧ R (Itl K a) H1) ∨ ((∃ xs, SqT K H1 a xs) ∧ R (Itt K a) H1))
theorem pi_seq {tg l : Expr} {tl : TE} (hl : PE X l tl) : PI X tg l (iSeq X.K tl) := by
  refine ⟨fun pins s σ H R I h => ?_⟩
  refine thn (hl.run pins s σ H _ I h) fun v s1 ⟨x, H1, I1, r1, q1⟩ => ?_
  obtain ⟨a, e, q⟩ := q1
  subst e
  cases r1
  have one : ∀ b, b ∈ [s1.heap.objs.size] → b = s1.heap.objs.size := fun b hb => by simpa using hb
  rcases q with ⟨⟨xs, hq⟩, q⟩ | ⟨⟨xs, hq⟩, q⟩
  · obtain ⟨its, rv, p, hz⟩ := I1.list hq
    refine wpAny_pyIter_list p.isList ?_
    exact ⟨s1.heap.objs.size, [s1.heap.objs.size], _, _, H1, rfl, I1.kept (t' := s1.toks) fun b o e => Heap.get?_push_of_some _ e, turn_list a _, ⟨_, Heap.get?_push_size _ rfl, rfl, rfl⟩,
      fun b hb => by rw [one b hb]; exact I1.fpOk (Nat.le_refl _) (I1.hok.fresh (Nat.le_refl _)), q⟩
  · obtain ⟨its, rv, p, hz⟩ := I1.tuple hq
    refine wpAny_pyIter_tuple (show s1.heap.IsTuple a its.toArray from p) ?_
    exact ⟨s1.heap.objs.size, [s1.heap.objs.size], _, _, H1, rfl, I1.kept (t' := s1.toks) fun b o e => Heap.get?_push_of_some _ e, turn_tuple a _, ⟨_, Heap.get?_push_size _ rfl, rfl, rfl⟩,
      fun b hb => by rw [one b hb]; exact I1.fpOk (Nat.le_refl _) (I1.hok.fresh (Nat.le_refl _)), q⟩
/-- an item of a list or of a tuple -/
def rIxQ (K : PySem.W.Frag) : R2 := fun x y H Q => rIxL K x y H Q ∨ rIxT K x y H Q
theorem ix_seqQ : IxR X (rIxQ X.K) := fun value slice pins s σ H x y v u Q I rx ry h hs => by
  rcases h with h | h
  · exact ix_list value slice pins s σ H x y v u Q I rx ry h hs
  · exact ix_tup value slice pins s σ H x y v u Q I rx ry h hs

/-! ### a tuple whose object is known: tuple(a list), and its methods -/
def rTupOfF (K : PySem.W.Frag) : List V → Hp → VK → Prop := fun xs H Q => ∃ p ys, xs = [.ref p] ∧ SqL K H p ys ∧ ∀ l o, H l = none → o.cls = .type "tuple" → o.dict = none → Q (.ref l) (upd H l (.frz o (.tup ys)))
theorem cTupOfF : CallR X (.type "tuple") (rTupOfF X.K) := by
  intro pins s σ H xs us Q I r h
  obtain ⟨p, ys, rfl, hq, q⟩ := h
  obtain ⟨u, rfl, ru⟩ := r.one
  cases ru
  obtain ⟨its, r', pl, hz⟩ := I.list hq
  have hlen := r'.length
  refine call_tuple_list pl.isList (fun h' kp => ?_) (by simp only [List.size_toArray] <;> omega)
  have I1 : Inv X pins σ H { s with heap := h' } := I.kept (t' := s.toks) kp
  have I2 : Inv X pins σ (upd H h'.objs.size (.frz { cls := .type "tuple", data := .seq its.toArray } (.tup ys))) { s with heap := h'.push { cls := .type "tuple", data := .seq its.toArray } } :=
    I1.laid (t' := s.toks) (fun b o e => Heap.get?_push_of_some _ e) (Nat.le_refl _) (show ObjOk X.prog X.w _ _ _ (.frz _ (.tup ys)) from ⟨Heap.get?_push_size _ rfl, hz, its, r', IsTup.new _ _⟩)
  exact ⟨.ref h'.objs.size, _, I2, rfl, q _ _ (I1.hok.fresh (Nat.le_refl _)) rfl rfl⟩
def tBMF (T : String) (r : V → List V → Hp → VK → Prop) (to : TE) (t : TA) : TE := fun σ H Q => to σ H fun x H1 => (∃ a ob u, x = .ref a ∧ H1 a = some (.frz ob u) ∧ ob.cls = .type T ∧ ob.dict = none) ∧ t σ H1 fun xs H2 => r x xs H2 Q
theorem pe_bmF {to : TE} {name : Str} {cpos : Pos} {T id : String} {r : V → List V → Hp → VK → Prop} (pa : PlainAttrs T) (slot : Slot T name id) (hty : typeOf (.builtin id) = pure (.type "method_descriptor")) (hm : MtR X id r) (ho : PE X o to) (ha : PA X (e :: es) t)
    (hbase : attributeBase o name X.env (eval o X.env) = eval o X.env := by rfl)
    (hfew : ((backTo cpos (starEach (e :: es) X.env)).all (fun x => !x.1) && (backToKw cpos (keywordEach [] X.env)).all (fun x => x.1.isSome)
      && decide ((e :: es).length + ([] : List Keyword).length + (if ([] : List Keyword).isEmpty then 0 else 1) < 30)) = true := by rfl)
    (hline : (apos.endLine == cpos.line) = true := by rfl) (hs : starEach (e :: es) X.env = (false, eval e X.env) :: starEach es X.env := by rfl) (hplain : (backTo cpos (starEach es X.env)).any (·.1) = false := by rfl) :
    PE X (.Call (.Attribute o name apos) (e :: es) [] cpos) (tBMF T r to t) := by
  refine ⟨fun pins s σ H Q I h => ?_⟩
  refine wpAny_Call_method_late hbase hfew hline rfl (thn (ho.run pins s σ H _ I h) fun v s1 ⟨x, H1, I1, r1, ty, q1⟩ => ?_)
  obtain ⟨a, ob, u, rfl, ha1, hc1, hd1⟩ := ty
  cases r1
  have hob : s1.heap.get? a = some ob := (show ObjOk X.prog X.w H1 s1.heap a (.frz ob u) from I1.hok a _ ha1).1
  refine ⟨T, id, pa, slot, hty, ⟨ob, hob, hc1⟩, (fun b eb => by cases eb; exact ⟨ob, hob, hd1⟩), ?_⟩
  have hA := ha.run cpos pins s1 σ H1 _ I1 q1
  rw [hs] at hA ⊢
  refine Calls.callWith_builtin (by show (false || (backTo cpos (starEach es X.env)).any (·.1)) = false; rw [hplain] <;> rfl) (Calls.evalArgs_plain ?_)
  exact thn hA fun us s2 ⟨vs, H2, I2, r2, q2⟩ => hm pins s2 σ H2 (.ref a) vs (.ref a) us Q I2 rfl r2 q2
end
end RG
namespace RG
open PySem PySem.Spec PyProof.Rows L2 StX RZ
theorem u65 {k : Nat} {A : Around} (r : Room k A) : A.units + 65 < cLine := by have := r.un; omega

/-! ### a list or a tuple -/
structure Sq (α : Type) where
  l : List α
  deriving DecidableEq
instance : Inhabited (Sq α) := ⟨⟨[]⟩⟩
instance [Py α] : Py (Sq α) := ⟨fun W H v x => Py.rep W H v x.l ∨ Py.rep W H v (Tup.mk x.l), fun l h => h.elim (fun h => .inl (Py.mono l h)) fun h => .inr (Py.mono l h)⟩

section
variable {α β γ : Type} [Py α] [Py β] [Py γ] {W : Wd} {M M' N : List Addr} {σ σ' : L2.St} {H H1 H2 H' : Hp} {te ta tb tc tl : TE} {tr : TA} {x : α} {y : β} {v : V}
theorem Rep.sq {xs : Sq α} (h : Rep W M H v xs) : Rep W M H v xs.l ∨ Rep W M H v (Tup.mk xs.l) := h
theorem Rep.toSq {xs : List α} (h : Rep W M H v xs) : Rep W M H v (Sq.mk xs) := .inl h
theorem Rep.toSqT {xs : Tup α} (h : Rep W M H v xs) : Rep W M H v (Sq.mk xs.l) := .inr h
/-- read as data of another kind -/
theorem Ev.cv {z : β} (h : Ev W M te σ H x) (q : ∀ v H', Rep W M H' v x → Rep W M H' v z) : Ev W M te σ H z := fun H1 e ok Q k => h H1 e ok Q fun v H2 e2 r => k v H2 e2 (q v H2 r)
theorem Ev.sq {xs : List α} (h : Ev W M te σ H xs) : Ev W M te σ H (Sq.mk xs) := h.cv fun _ _ r => r.toSq
theorem Ev.sqT {xs : Tup α} (h : Ev W M te σ H xs) : Ev W M te σ H (Sq.mk xs.l) := h.cv fun _ _ r => r.toSqT
theorem Pd.cv {F G : V → α → Prop} {f : α → β} {K : V → β → Prop} (h : ∀ v x, F v x → K v (f x)) : ∀ {vs : List V} {xs : List α}, Paired F vs xs → Paired K vs (xs.map f)
  | _, _, .nil => .nil
  | _, _, .cons r t => .cons (h _ _ r) (Pd.cv (G := F) h t)
theorem Rep.lmap {xs : List α} {f : α → β} (h : Rep W M H v xs) (q : ∀ v x, Rep W M H v x → Rep W M H v (f x)) : Rep W M H v (xs.map f) := by
  obtain ⟨a, vs, e, hh, hb, hm, pp⟩ := h.lst
  subst e
  exact rep_lst hh hb hm (Pd.cv (G := Rep W M H) q pp)
theorem Rep.tmap {xs : Tup α} {f : α → β} (h : Rep W M H v xs) (q : ∀ v x, Rep W M H v x → Rep W M H v (f x)) : Rep W M H v (Tup.mk (xs.l.map f)) := by
  obtain ⟨a, vs, e, hh, hb, hm, pp⟩ := h.tup
  subst e
  exact rep_tup hh hb hm (Pd.cv (G := Rep W M H) q pp)
theorem Rep.pmap {x : α × β} {z : γ} (h : Rep W M H v x) (q : ∀ v, Rep W M H v x.2 → Rep W M H v z) : Rep W M H v (x.1, z) := by
  obtain ⟨a, v1, v2, e, hh, hb, hm, r1, r2⟩ := h.pair
  subst e
  exact rep_pair hh hb hm r1 (q _ r2)
theorem ev_lenQ {xs : Sq α} (ha : Ev W M ta σ H xs) : Ev W M (tCB (rLenS W.K) (tCons ta tNil)) σ H (xs.l.length : Int) := fun H1 e ok Q q =>
  ha H1 e ok _ fun v H2 e2 r => by
    rcases r.sq with r | r
    · obtain ⟨a, vs, ev, hh, _, _, pp⟩ := r.lst
      exact ⟨a, vs, by rw [ev], .inl (SqL.of hh), by rw [Pd.length pp]; exact q _ H2 e2 rep_int⟩
    · obtain ⟨a, vs, ev, hh, _, _, pp⟩ := r.tup
      exact ⟨a, vs, by rw [ev], .inr (.inl hh), by rw [Pd.length pp]; exact q _ H2 e2 rep_int⟩
theorem ev_listQ {xs : Sq α} (ha : Ev W M ta σ H xs) : Ev W M (tCB (rListOf W.K) (tCons ta tNil)) σ H xs.l := fun H1 e ok Q q =>
  ha H1 e ok _ fun v H2 e2 r => by
    rcases r.sq with r | r
    · obtain ⟨a, vs, ev, hh, _, _, pp⟩ := r.lst
      exact ⟨a, vs, by rw [ev], .inl (SqL.of hh), fun l hl => q _ _ (e2.trans (Ex.new hl)) (rep_lst upd_same ((ok.ex e2).new_b hl) ((ok.ex e2).new_M hl) (Pd.mono pp fun _ _ r => r.up (Ex.new hl)))⟩
    · obtain ⟨a, vs, ev, hh, _, _, pp⟩ := r.tup
      exact ⟨a, vs, by rw [ev], .inr (.inl hh), fun l hl => q _ _ (e2.trans (Ex.new hl)) (rep_lst upd_same ((ok.ex e2).new_b hl) ((ok.ex e2).new_M hl) (Pd.mono pp fun _ _ r => r.up (Ex.new hl)))⟩
theorem ev_tupleQ {xs : Sq α} (ha : Ev W M ta σ H xs) : Ev W M (tCB (rTupOf W.K) (tCons ta tNil)) σ H (Tup.mk xs.l) := fun H1 e ok Q q =>
  ha H1 e ok _ fun v H2 e2 r => by
    rcases r.sq with r | r
    · obtain ⟨a, vs, ev, hh, _, _, pp⟩ := r.lst
      exact ⟨a, vs, by rw [ev], .inl ⟨SqL.of hh, fun l hl => q _ _ (e2.trans (Ex.new hl)) (rep_tup (.inl upd_same) ((ok.ex e2).new_b hl) ((ok.ex e2).new_M hl) (Pd.mono pp fun _ _ r => r.up (Ex.new hl)))⟩⟩
    · obtain ⟨a, vs, ev, hh, hb, hm, pp⟩ := r.tup
      subst ev
      exact ⟨a, vs, rfl, .inr ⟨.inl hh, q _ _ e2 (rep_tup hh hb hm pp)⟩⟩
theorem ei_seq {xs : Sq α} (h : Ev W M tl σ H xs) : Ei W M (iSeq W.K tl) σ H xs.l := fun H1 e ok R q =>
  h H1 e ok _ fun v H2 e2 r => by
    rcases r.sq with r | r
    · obtain ⟨a, vs, ev, hh, _, _, _⟩ := id r.lst
      subst ev
      refine ⟨a, rfl, .inl ?_⟩
      have z := ei_list (M := M) (xs := xs.l) (tl := fun _ H Q => Q (.ref a) H) (σ := σ) (H := H2) (fun H3 e3 ok3 Q3 q3 => q3 _ H3 Ex.refl (r.up e3)) H2 Ex.refl (ok.ex e2) R fun J S H3 e3 => q J S H3 (e2.trans e3)
      obtain ⟨b, eb, p, z⟩ := z
      cases eb
      exact ⟨p, z⟩
    · obtain ⟨a, vs, ev, hh, _, _, _⟩ := id r.tup
      subst ev
      refine ⟨a, rfl, .inr ?_⟩
      have z := ei_tup (M := M) (xs := Tup.mk xs.l) (tl := fun _ H Q => Q (.ref a) H) (σ := σ) (H := H2) (fun H3 e3 ok3 Q3 q3 => q3 _ H3 Ex.refl (r.up e3)) H2 Ex.refl (ok.ex e2) R fun J S H3 e3 => q J S H3 (e2.trans e3)
      obtain ⟨b, eb, p, z⟩ := z
      cases eb
      exact ⟨p, z⟩

/-! ### isinstance -/
theorem ty_str {z : Str} (r : Rep W M H v z) : TyX W.K H v (.type "str") := by cases (show v = .str z from r); exact .base (.str _)
theorem ty_int {z : Int} (r : Rep W M H v z) : TyX W.K H v (.type "int") := by cases (show v = .int z from r); exact .base (.int _)
theorem ty_rd {a : Addr} {vs : List V} {K : PySem.W.Frag} (h : Rd H a (.tup vs)) : TyX K H (.ref a) (.type "tuple") := h.elim (fun h => .base (.tup h)) fun ⟨_, h⟩ => .fTuple h
theorem ty_tup {z : Tup α} (r : Rep W M H v z) : TyX W.K H v (.type "tuple") := by obtain ⟨a, vs, e, hh, _⟩ := r.tup; subst e; exact ty_rd hh
theorem ty_pair {z : α × β} (r : Rep W M H v z) : TyX W.K H v (.type "tuple") := by obtain ⟨a, v1, v2, e, hh, _⟩ := r.pair; subst e; exact ty_rd hh
theorem ty_lst {z : List α} (r : Rep W M H v z) : TyX W.K H v (.type "list") := by obtain ⟨a, vs, e, hh, _⟩ := r.lst; subst e; exact .base (.lst hh)
/-- isinstance(x, c) -/
theorem ev_isi {c : V} {u : Value} {t : Value} {b : Bool} (ha : Ev W M ta σ H x) (ty : ∀ v H2, Rep W M H2 v x → TyX W.K H2 v t) (k : ClsV c u) (e : PySem.W.kitOne W.K t u = some b) :
    Ev W M (tCB (rIsi W.K) (tCons ta (tCons (tC c) tNil))) σ H b := fun H1 e1 ok Q q =>
  ha H1 e1 ok _ fun v H2 e2 r => ⟨v, c, t, u, b, rfl, k, ty v H2 r, e, q _ H2 e2 rep_bl⟩
/-- isinstance(x, (c, d)) -/
theorem ev_isi2 {c d : V} {u w : Value} {b : Bool} {P : Value → Prop} (ha : Ev W M ta σ H x) (ty : ∀ v H2, Rep W M H2 v x → ∃ t, TyX W.K H2 v t ∧ P t) (k : ClsV c u) (k2 : ClsV d w) (e : ∀ t, P t → PySem.W.kitAny W.K t [u, w] = some b) :
    Ev W M (tCB (rIsiT W.K) (tCons ta (tCons (tTup (tCons (tC c) (tCons (tC d) tNil))) tNil))) σ H b := fun H1 e1 ok Q q =>
  ha H1 e1 ok _ fun v H2 e2 r => ⟨by show 2 ≤ sizeLine; decide, fun p hp => by
    obtain ⟨t, ht, pt⟩ := ty v _ (r.up (Ex.new (o := .tup [c, d]) hp))
    exact ⟨v, p, [c, d], t, [u, w], b, rfl, upd_same, .cons k (.cons k2 .nil), ht, e t pt, q _ _ (e2.trans (Ex.new hp)) rep_bl⟩⟩
theorem ev_isStr {z : Str} (ha : Ev W M ta σ H z) : Ev W M (tCB (rIsi W.K) (tCons ta (tCons (tC (.ty "str")) tNil))) σ H true := ev_isi ha (fun _ _ r => ty_str r) (.ty "str") (kit_ty (by decide +kernel))
theorem ev_isTup {z : Tup α} (ha : Ev W M ta σ H z) : Ev W M (tCB (rIsi W.K) (tCons ta (tCons (tC (.ty "tuple")) tNil))) σ H true := ev_isi ha (fun _ _ r => ty_tup r) (.ty "tuple") (kit_ty (by decide +kernel))
theorem ev_isPair {z : α × β} (ha : Ev W M ta σ H z) : Ev W M (tCB (rIsi W.K) (tCons ta (tCons (tC (.ty "tuple")) tNil))) σ H true := ev_isi ha (fun _ _ r => ty_pair r) (.ty "tuple") (kit_ty (by decide +kernel))
theorem ev_isSq {z : Sq α} (ha : Ev W M ta σ H z) : Ev W M (tCB (rIsiT W.K) (tCons ta (tCons (tTup (tCons (tC (.ty "list")) (tCons (tC (.ty "tuple")) tNil))) tNil))) σ H true :=
  ev_isi2 (P := fun t => t = .type "list" ∨ t = .type "tuple") ha (fun v H2 r => r.sq.elim (fun r => ⟨_, ty_lst r, .inl rfl⟩) fun r => ⟨_, ty_tup r, .inr rfl⟩) (.ty "list") (.ty "tuple") fun t pt => by
    rcases pt with rfl | rfl
    · exact kitAny_cons (b := true) (kit_ty (by decide +kernel)) (fun z => nomatch z) fun _ => rfl
    · exact kitAny_cons (b := false) (kit_ty (by decide +kernel)) (fun _ => kitAny_cons (b := true) (kit_ty (by decide +kernel)) (fun z => nomatch z) fun _ => rfl) (fun z => nomatch z)
/-- isinstance(x, tuple) of any data -/
def isTupD : PyData → Bool
  | .tuple _ => true
  | _ => false
theorem ev_isTupD {d : PyData} (ha : Ev W M ta σ H d) : Ev W M (tCB (rIsi W.K) (tCons ta (tCons (tC (.ty "tuple")) tNil))) σ H (isTupD d) := fun H1 e1 ok Q q =>
  ha H1 e1 ok _ fun v H2 e2 r => by
    have r1 : Dp W.K H2 v d := dp_le cut_le _ _ r
    have fin : ∀ t b, TyX W.K H2 v t → PySem.W.kitOne W.K t (.type "tuple") = some b → b = isTupD d → ∃ x c t u b, [v, V.ty "tuple"] = [x, c] ∧ ClsV c u ∧ TyX W.K H2 x t ∧ PySem.W.kitOne W.K t u = some b ∧ Q (.bl b) H2 := fun t b h1 h2 h3 =>
      ⟨v, .ty "tuple", t, .type "tuple", b, rfl, .ty "tuple", h1, h2, h3 ▸ q _ H2 e2 rep_bl⟩
    cases r1 with
    | non => exact fin _ false (.base .non) (kit_ty (by decide +kernel)) rfl
    | bl b => exact fin _ false (.base (.bl _)) (kit_ty (by decide +kernel)) rfl
    | int i => exact fin _ false (.base (.int _)) (kit_ty (by decide +kernel)) rfl
    | str i => exact fin _ false (.base (.str _)) (kit_ty (by decide +kernel)) rfl
    | lst h _ =>
      rcases h with (h | ⟨o, h⟩) | ⟨o, its, n, h, c, _⟩
      · exact fin _ false (.base (.lst h)) (kit_ty (by decide +kernel)) rfl
      · exact fin _ false (.base (.frz h)) (kit_ty (by decide +kernel)) rfl
      · exact fin _ false (.kList h c) (kit_ty (by decide +kernel)) rfl
    | tup h _ =>
      rcases h with h | ⟨o, its, n, h, c, _⟩
      · exact fin _ true (ty_rd h) (kit_ty (by decide +kernel)) rfl
      · exact fin _ true (.kTuple h c) (kit_ty (by decide +kernel)) rfl
end
end RG
namespace RG
open PySem PySem.Spec PyProof.Rows L2 StX RZ

/-! ### join, split -/
def rJoin (K : PySem.W.Frag) : V → List V → Hp → VK → Prop := fun x xs H Q => ∃ a p, ∃ ys : List Str, x = .str a ∧ xs = [.ref p] ∧ (SqL K H p (ys.map V.str) ∨ SqT K H p (ys.map V.str)) ∧
  (ys.map (·.length)).sum + ys.length * a.length ≤ 16777216 ∧ Q (.str (Txt.join a ys)) H
def rSplit : V → List V → Hp → VK → Prop := fun x xs H Q => ∃ a b, x = .str a ∧ xs = [.str b] ∧ (b.length == 0) = false ∧ a.length + 2 ≤ sizeLine ∧ rNewStrs (Txt.split a b) H Q
section
variable {X : Cx} {o e : Expr} {to te : TE} {apos pos : Pos}
theorem peJoin (ho : PE X o to) (he : PE X e te) (hs : starEach [e] X.env = [(false, eval e X.env)] := by rfl) (hbase : attributeBase o "join" X.env (eval o X.env) = eval o X.env := by rfl) (hline : (apos.endLine == pos.line) = true := by rfl) :
    PE X (.Call (.Attribute o "join" apos) [e] [] pos) (tM1 (rJoin X.K) to te) := pe_join ho he hs hbase hline
theorem peSplit (ho : PE X o to) (he : PE X e te) (hs : starEach [e] X.env = [(false, eval e X.env)] := by rfl) (hbase : attributeBase o "split" X.env (eval o X.env) = eval o X.env := by rfl) (hline : (apos.endLine == pos.line) = true := by rfl) :
    PE X (.Call (.Attribute o "split" apos) [e] [] pos) (tM1 rSplit to te) := pe_split ho he hs hbase hline
/-! ### a text once or not at all -/
def rMulS : R2 := fun x y H Q => ∃ (z : Str) (k : Int), x = .str z ∧ y = .int k ∧ (k = 0 ∧ Q (.str Str.empty) H ∨ k = 1 ∧ Q (.str z) H)
theorem op_mulS : OpR X (binaryOp .Mult) rMulS := by
  intro pins s σ H x y v u Q I rx ry h
  obtain ⟨z, k, rfl, rfl, h⟩ := h
  obtain ⟨t, rfl⟩ := rx
  obtain ⟨t2, rfl⟩ := ry
  rcases h with ⟨rfl, q⟩ | ⟨rfl, q⟩
  · exact PySem.P.mul_str_none (by decide) (by decide) ⟨.str Str.empty, H, I.tok _, ⟨_, rfl⟩, q⟩
  · refine PySem.P.mul_str (by decide) (fun _ h => by simp at h) (fun _ h => by simp at h) ?_
    rw [if_neg (by decide), if_pos (by simp)]
    exact ⟨.str z, H, I, ⟨_, rfl⟩, q⟩
/-! ### a tuple times a number -/
theorem tup_once (l : Addr) (its : Array Value) (n : Nat) (dd : Option Addr) (sl : Array (Option Value)) (u : Tok) :
    Meets (Builtin.«tuple.__mul__» ⟨[.ref l, .int 1 u], []⟩) (fun _ R s => s.heap.get? l = some { cls := .type "tuple", dict := dd, data := .seq its n, slots := sl } ∧ R (.ok (.ret (Value.ref l))) s) :=
  .of_wp fun prog w A R s h => by
    obtain ⟨hp, g, d, tk, os⟩ := s
    obtain ⟨hl, h⟩ := h
    have f1 := AutoSeq1.idx_int
    have c0 : (decide ((1 : Int) < -(2 ^ 63)) || decide ((1 : Int) ≥ 2 ^ 63)) = false := by decide
    have c1 : (its.isEmpty || (1 : Int) == 1) = true := by simp
    wp_walk using wpAny_loadPart' hl
    repeat (first
      | (refine wpAny_ite_false (decide_eq_false (by rw [c0] <;> exact Bool.false_ne_true)) ?_; wp_walk using wpAny_loadPart' hl)
      | (refine wpAny_ite_true (decide_eq_true (by rw [c1])) ?_; wp_walk using wpAny_loadPart' hl))
    all_goals (first | exact ⟨_, rfl, h⟩ | skip)
theorem op_tupOnce : OpR X (binaryOp .Mult) (fun x y H Q => ∃ l xs, x = .ref l ∧ y = .int 1 ∧ SqT X.K H l xs ∧ Q (.ref l) H) := by
  intro pins s σ H x y v u Q I rx ry h
  obtain ⟨l, xs, rfl, rfl, hT, q⟩ := h
  cases rx
  obtain ⟨t, rfl⟩ := ry
  obtain ⟨its, r, ⟨⟨cls, dd, data, sl⟩, ho, hc, n, hd⟩, hs⟩ := I.tuple hT
  simp only at hc hd
  subst hc hd
  exact wpAny_binaryOp_repeat_ref (T := "tuple") (U := "int") (by decide) ⟨_, ho, rfl⟩ (fun s' => typeIs_int s' 1 t) noFill_tuple_mul F.fills_int_mul F.slot_int_rmul repeat_tuple F.slot_int_index.lookup
    (call_meets F.slot_int_rmul (typeIs_int s 1 t) F.entry_int_rmul (F.args_int_rmul_2 _ _) (int_rmul_tuple 1 t l its.toArray n dd sl)
      ⟨ho, rfl, ⟨_, ho, rfl⟩, call_meets F.slot_tuple_mul ⟨_, ho, rfl⟩ F.entry_tuple_mul (F.args_tuple_mul_2 _ _) (tup_once l its.toArray n dd sl t) ⟨ho, .ref l, H, I, rfl, q⟩⟩)
def rMulT (K : PySem.W.Frag) : R2 := fun x y H Q => ∃ l k xs, x = .ref l ∧ y = .int k ∧ SqT K H l xs ∧ xs ≠ [] ∧ 1 ≤ k ∧ k ≤ 1000 ∧ xs.length ≤ 1000 ∧ (k = 1 → Q (.ref l) H) ∧ ∀ p, H p = none → Q (.ref p) (upd H p (.tup (List.replicate k.toNat xs).flatten))
theorem op_mulT : OpR X (binaryOp .Mult) (rMulT X.K) := by
  intro pins s σ H x y v u Q I rx ry h
  obtain ⟨l, k, xs, e1, e2, hT, hn, h1, h2, h3, q1, q2⟩ := h
  by_cases hk : k = 1
  · exact op_tupOnce pins s σ H x y v u Q I rx ry ⟨l, xs, e1, by rw [e2, hk], hT, q1 hk⟩
  · exact op_repT pins s σ H x y v u Q I rx ry ⟨l, k, xs, e1, e2, hT, hn, by omega, h2, h3, q2⟩
/-! ### tuple.index -/
/-- where in a list the first is -/
def rIdxT (K : PySem.W.Frag) : V → List V → Hp → VK → Prop := fun x vs H Q => ∃ a ob us y ds d, x = .ref a ∧ vs = [y] ∧ H a = some (.frz ob (.tup us)) ∧ DpAll K H us ds ∧ Dp K H y d ∧ PyData.depthAll ds ≤ 64 ∧ true ∈ ds.map (fun z => PyData.eqv z d) ∧
  Q (.int (((ds.map fun z => PyData.eqv z d).idxOf true : Nat) : Int)) H
theorem mt_idxT (hu : X.A.units + 65 < cLine) : MtR X "tuple.index" (rIdxT X.K) := by
  intro pins s σ H x vs v us Q I rx rv h
  obtain ⟨a, ob, ws, y, ds, d, rfl, rfl, ha, hq, hd, z, hm, q⟩ := h
  cases rx
  obtain ⟨u, rfl, ru⟩ := rv.one
  obtain ⟨its, r, pl, _⟩ := I.tuple (show SqT X.K H a ws from .inl (.inr ⟨ob, ha⟩))
  have hl : its.length = ds.length := by rw [← r.length]; exact dpAll_len hq
  refine SeqAt.call_tuple_index (vs := its) (ks := ds.map fun z => PyData.eqv z d) (k := true) pl ⟨by rw [List.length_map]; exact hl, fun j h1 h2 => ?_⟩ hm ⟨.int _, H, I.tok _, ⟨_, rfl⟩, q⟩
  obtain ⟨w, hw, rw_⟩ : ∃ w, ws[j]? = some w ∧ RelV w its[j] := by
    have hj : j < ws.length := by rw [r.length]; exact h1
    obtain ⟨w, hw, rw_⟩ := r.get (List.getElem?_eq_getElem hj)
    exact ⟨ws[j], List.getElem?_eq_getElem hj, by rw [List.getElem?_eq_getElem h1] at hw; cases hw; exact rw_⟩
  have hj : j < ds.length := by omega
  obtain ⟨e, he1, he2⟩ := itemsE I X.A.in1 hq hd r ru (by rw [in1_units]; omega)
  obtain ⟨y', d', f1, f2, f3⟩ := he2 j h1
  rw [List.getElem?_eq_getElem h1] at f1
  cases f1
  have := he1 its[j] (List.getElem_mem h1)
  rw [f3] at this
  rw [List.getElem?_eq_getElem hj] at f2
  cases f2
  rw [List.getElem_map]
  simpa using this
end
end RG
namespace RG
open PySem PySem.Spec PyProof.Rows L2 StX RZ

/-! ### own classes -/
/-- data of an own class: its name, the names of its fields -/
class PyO (α : Type) extends Py α where
  cn : Str
  fns : List Str
  ins : ∀ {W : Wd} {H : Hp} {v : V} {x : α}, rep W H v x → ∃ a dx fs, v = .ref a ∧ H a = some (.ins (W.C cn) dx fs) ∧ fs.map (·.1) = fns
theorem lookup_none {fs : List (Str × V)} {m : Str} (h : (fs.map (·.1)).contains m = false) : fs.lookup m = none := by
  induction fs with
  | nil => rfl
  | cons p t ih =>
    obtain ⟨k, v⟩ := p
    simp only [List.map_cons, List.contains_cons, Bool.or_eq_false_iff] at h
    rw [List.lookup_cons, h.1]
    exact ih h.2
section
variable {α β γ δ ε : Type} [Py α] [Py β] [Py γ] [Py δ] [Py ε] {W : Wd} {M M' N : List Addr} {σ σ' : L2.St} {H H1 H2 H' : Hp} {te ta tb tc tl : TE} {tr : TA} {x : α} {y : β} {v : V} {E : XK} {i : Nat}
theorem Rep.ins {ω : Type} [PyO ω] {x : ω} (h : Rep W M H v x) : ∃ a dx fs, v = .ref a ∧ H a = some (.ins (W.C (PyO.cn ω)) dx fs) ∧ fs.map (·.1) = PyO.fns ω := PyO.ins (W := W) (H := H) h.at

/-! ### texts -/
theorem ev_join {z : Str} {xs : List Str} (ha : Ev W M ta σ H z) (hb : Ev W M tb σ H xs) (hl : (xs.map (·.length)).sum + xs.length * z.length ≤ 16777216) : Ev W M (tM1 (rJoin W.K) ta tb) σ H (Txt.join z xs) := fun H1 e ok Q q =>
  ha H1 e ok _ fun v H2 e2 r => ⟨⟨z, r⟩, hb H2 (e.trans e2) (ok.ex e2) _ fun u H3 e3 r3 => by
    obtain ⟨a, vs, ev, hh, _, _, pp⟩ := r3.lst
    exact ⟨z, a, xs, r, by rw [ev], .inl (SqL.of (by rw [hh, paired_toV pp]; rfl)), hl, q _ H3 (e2.trans e3) rep_str⟩⟩
theorem evr_join {z : Str} {P : List Str → Prop} {R : Str → Prop} (ha : Ev W M ta σ H z) (hb : EvR W M tb σ H P) (hl : ∀ xs, P xs → (xs.map (·.length)).sum + xs.length * z.length ≤ 16777216 ∧ R (Txt.join z xs)) : EvR W M (tM1 (rJoin W.K) ta tb) σ H R := fun H1 e ok Q q =>
  ha H1 e ok _ fun v H2 e2 r => ⟨⟨z, r⟩, hb H2 (e.trans e2) (ok.ex e2) _ fun u xs H3 px e3 r3 => by
    obtain ⟨a, vs, ev, hh, _, _, pp⟩ := r3.lst
    exact ⟨z, a, xs, r, by rw [ev], .inl (SqL.of (by rw [hh, paired_toV pp]; rfl)), (hl xs px).1, q _ _ H3 (hl xs px).2 (e2.trans e3) rep_str⟩⟩
theorem ev_split {z w : Str} (ha : Ev W M ta σ H z) (hb : Ev W M tb σ H w) (hw : (w.length == 0) = false) (hl : z.length ≤ 1000000) : Ev W M (tM1 rSplit ta tb) σ H (Txt.split z w) := fun H1 e ok Q q =>
  ha H1 e ok _ fun v H2 e2 r => ⟨⟨z, r⟩, hb H2 (e.trans e2) (ok.ex e2) _ fun u H3 e3 r3 =>
    ⟨z, w, r, by rw [show u = .str w from r3], hw, Nat.le_trans (Nat.add_le_add_right hl 2) (by decide), fun p hp => q _ _ ((e2.trans e3).trans (Ex.new hp)) (rep_lst upd_same (((ok.ex e2).ex e3).new_b hp) (((ok.ex e2).ex e3).new_M hp) toV_paired)⟩⟩
theorem ev_mulS {z : Str} {b : Bool} (ha : Ev W M ta σ H z) (hb : Ev W M tb σ H (if b then 1 else 0 : Int)) : Ev W M (tOp rMulS ta tb) σ H (if b then z else Str.empty) := fun H1 e ok Q q =>
  ha H1 e ok _ fun v H2 e2 r => hb H2 (e.trans e2) (ok.ex e2) _ fun u H3 e3 r3 => ⟨z, _, r, r3, by
    cases b with
    | true => exact .inr ⟨rfl, q _ H3 (e2.trans e3) rep_str⟩
    | false => exact .inl ⟨rfl, q _ H3 (e2.trans e3) rep_str⟩⟩
theorem ev_mulT {xs : Tup α} {k : Int} (ha : Ev W M ta σ H xs) (hb : Ev W M tb σ H k) (h0 : xs.l ≠ []) (h1 : 1 ≤ k) (h2 : k ≤ 1000) (h3 : xs.l.length ≤ 1000) : Ev W M (tOp (rMulT W.K) ta tb) σ H (Tup.mk (List.replicate k.toNat xs.l).flatten) := fun H1 e ok Q q =>
  ha H1 e ok _ fun v H2 e2 r => hb H2 (e.trans e2) (ok.ex e2) _ fun u H3 e3 r3 => by
    obtain ⟨a, vs, ev, hh, nb, hm, pp⟩ := (r.up e3).tup
    subst ev
    have ok3 := (ok.ex e2).ex e3
    have rp : ∀ n : Nat, Paired (Rep W M H3) (List.replicate n vs).flatten (List.replicate n xs.l).flatten := fun n => by
      induction n with
      | zero => exact .nil
      | succ n ih => rw [List.replicate_succ, List.replicate_succ, List.flatten_cons, List.flatten_cons]; exact Pd.append pp ih
    refine ⟨a, k, vs, rfl, r3, .inl hh, ?_, h1, h2, by rw [Pd.length pp]; exact h3, fun z => ?_, fun p hp => ?_⟩
    · intro z; subst z; exact h0 (by cases h : xs.l with
        | nil => rfl
        | cons _ _ => rw [h] at pp; cases pp)
    · subst z
      refine q _ _ (e2.trans e3) (rep_tup hh nb hm ?_)
      simpa using pp
    · refine q _ _ ((e2.trans e3).trans (Ex.new hp)) (rep_tup (.inl upd_same) (ok3.new_b hp) (ok3.new_M hp) (Pd.mono (rp k.toNat) fun _ _ r => r.up (Ex.new hp)))
/-- list(range(n)) -/
theorem ev_listRg {n : Int} (ha : Ev W M ta σ H n) (h0 : 0 ≤ n) (h1 : n ≤ 1000000) : Ev W M (tLstRg (tRg1 ta)) σ H (rng n) := fun H1 e ok Q q =>
  ha H1 e ok _ fun v H2 e2 r => ⟨n, r, RgOk.of_le (by omega) (by omega) (by omega) (by omega), fun p hp => q _ _ (e2.trans (Ex.new hp)) (rep_lst upd_same ((ok.ex e2).new_b hp) ((ok.ex e2).new_M hp) (by
    have e : rgV 0 n = (rng n).map PyS.toV := by
      unfold rgV rng
      rw [List.map_map, Int.sub_zero]
      refine List.map_congr_left fun i _ => ?_
      show V.int (0 + (i : Nat)) = V.int _
      rw [Int.zero_add]
    rw [e]; exact toV_paired))⟩
theorem ev_rev {xs : List α} (ha : Ev W M ta σ H xs) : Ev W M (tRevL W.K ta) σ H xs.reverse := fun H1 e ok Q q =>
  ha H1 e ok _ fun v H2 e2 r => by
    obtain ⟨a, vs, ev, hh, hb, hm, pp⟩ := r.lst
    exact ⟨a, vs, ev, SqL.of hh, fun p hp => q _ _ (e2.trans (Ex.new hp)) (rep_lst upd_same ((ok.ex e2).new_b hp) ((ok.ex e2).new_M hp) (Pd.mono (Pd.rev pp) fun _ _ r => r.up (Ex.new hp)))⟩

/-! ### instances -/
/-- e.f, a field -/
theorem ev_fld {ω : Type} [PyO ω] {o : ω} {f : Str} {y : β} (ha : Ev W M ta σ H o) (c : Cls W.K (W.C (PyO.cn ω))) (n : NoAttr W.K (W.C (PyO.cn ω)) f)
    (hf : ∀ {v H2}, Rep W M H2 v o → ∀ {a dx fs}, v = .ref a → H2 a = some (.ins (W.C (PyO.cn ω)) dx fs) → ∃ u, fs.lookup f = some u ∧ Rep W M H2 u y) : Ev W M (tFld W.K ta f) σ H y := fun H1 e ok Q q =>
  ha H1 e ok _ fun v H2 e2 r => by
    obtain ⟨a, dx, fs, ev, hh, _⟩ := r.ins
    obtain ⟨u, hu, ru⟩ := hf r ev hh
    exact ⟨a, _, dx, fs, u, ev, hh, c, n, hu, q _ H2 e2 ru⟩
theorem ev_prop {ω : Type} [PyO ω] {o : ω} {pre : ω → Prop} {f : ω → β} (ha : Ev W M ta σ H o) (hp : pre o) : Ev W M (tProp (W.C (PyO.cn ω)) (F1 W.K W.C pre f) [] E ta) σ H (f o) := fun H1 e ok Q q =>
  ha H1 e ok _ fun v H2 e2 r => by
    obtain ⟨a, dx, fs, ev, hh, _⟩ := r.ins
    subst ev
    exact ⟨a, dx, fs, rfl, hh, W, M, _, o, rfl, rfl, rfl, ok.ex e2, r, hp, fun r H3 e3 rr => q r H3 (e2.trans e3) rr⟩
theorem ev_m0 {ω : Type} [PyO ω] {o : ω} {pre : ω → Prop} {f : ω → β} {m : Str} (ha : Ev W M ta σ H o) (hp : pre o) (hm : (PyO.fns ω).contains m = false) : Ev W M (tMeth (W.C (PyO.cn ω)) m (F1 W.K W.C pre f) [] E ta tNil) σ H (f o) := fun H1 e ok Q q =>
  ha H1 e ok _ fun v H2 e2 r => by
    obtain ⟨a, dx, fs, ev, hh, hf⟩ := r.ins
    exact ⟨a, dx, fs, ev, hh, lookup_none (by rw [hf]; exact hm), W, M, _, o, rfl, rfl, rfl, ok.ex e2, r, hp, fun r H3 e3 rr => q r H3 (e2.trans e3) rr⟩
theorem ev_m1 {ω : Type} [PyO ω] {o : ω} {pre : ω → α → Prop} {f : ω → α → β} {m : Str} (ha : Ev W M ta σ H o) (hb : Ev W M tb σ H x) (hp : pre o x) (hm : (PyO.fns ω).contains m = false) : Ev W M (tMeth (W.C (PyO.cn ω)) m (F2 W.K W.C pre f) [] E ta (tCons tb tNil)) σ H (f o x) := fun H1 e ok Q q =>
  ha H1 e ok _ fun v H2 e2 r => by
    obtain ⟨a, dx, fs, ev, hh, hf⟩ := r.ins
    exact ⟨a, dx, fs, ev, hh, lookup_none (by rw [hf]; exact hm), hb H2 (e.trans e2) (ok.ex e2) _ fun u H3 e3 r3 =>
      ⟨W, M, v, u, o, x, rfl, rfl, rfl, (ok.ex e2).ex e3, r.up e3, r3, hp, fun r H4 e4 rr => q r H4 ((e2.trans e3).trans e4) rr⟩⟩
theorem ev_m2 {ω : Type} [PyO ω] {o : ω} {pre : ω → α → β → Prop} {f : ω → α → β → γ} {m : Str} (ha : Ev W M ta σ H o) (hb : Ev W M tb σ H x) (hc : Ev W M tc σ H y) (hp : pre o x y) (hm : (PyO.fns ω).contains m = false) :
    Ev W M (tMeth (W.C (PyO.cn ω)) m (F3 W.K W.C pre f) [] E ta (tCons tb (tCons tc tNil))) σ H (f o x y) := fun H1 e ok Q q =>
  ha H1 e ok _ fun v H2 e2 r => by
    obtain ⟨a, dx, fs, ev, hh, hf⟩ := r.ins
    exact ⟨a, dx, fs, ev, hh, lookup_none (by rw [hf]; exact hm), hb H2 (e.trans e2) (ok.ex e2) _ fun u H3 e3 r3 => hc H3 ((e.trans e2).trans e3) ((ok.ex e2).ex e3) _ fun w H4 e4 r4 =>
      ⟨W, M, v, u, w, o, x, y, rfl, rfl, rfl, ((ok.ex e2).ex e3).ex e4, (r.up e3).up e4, r3.up e4, r4, hp, fun r H5 e5 rr => q r H5 (((e2.trans e3).trans e4).trans e5) rr⟩⟩
theorem ev_own {ω : Type} [PyO ω] {o : ω} {pre : ω → α → Prop} {f : ω → α → Bool} {neg : Bool} (ha : Ev W M ta σ H x) (hb : Ev W M tb σ H o) (hp : pre o x) : Ev W M (tOp (rInOwn (W.C (PyO.cn ω)) (F2 W.K W.C pre f) neg) ta tb) σ H (if neg then !f o x else f o x) := fun H1 e ok Q q =>
  ha H1 e ok _ fun v H2 e2 r => hb H2 (e.trans e2) (ok.ex e2) _ fun u H3 e3 r3 => by
    obtain ⟨a, dx, fs, ev, hh, hf⟩ := r3.ins
    exact ⟨a, dx, fs, ev, hh, W, M, u, v, o, x, rfl, rfl, rfl, (ok.ex e2).ex e3, r3, r.up e3, hp, fun r H4 e4 rr => ⟨f o x, rr, q _ H4 ((e2.trans e3).trans e4) rep_bl⟩⟩
theorem ev_lenO {ω : Type} [PyO ω] {o : ω} {pre : ω → Prop} {f : ω → Int} (ha : Ev W M ta σ H o) (hp : pre o) (h0 : 0 ≤ f o) (h1 : f o < 2 ^ 63) : Ev W M (tCB (rLenOwn (W.C (PyO.cn ω)) (F1 W.K W.C pre f)) (tCons ta tNil)) σ H (f o) := fun H1 e ok Q q =>
  ha H1 e ok _ fun v H2 e2 r => by
    obtain ⟨a, dx, fs, ev, hh, hf⟩ := r.ins
    subst ev
    exact ⟨a, dx, fs, rfl, hh, W, M, _, o, rfl, rfl, rfl, ok.ex e2, r, hp, fun r H4 e4 rr => ⟨f o, rr, h0, h1, q _ H4 (e2.trans e4) rep_int⟩⟩
/-- what __init__ promises: the new instance holds what f tells -/
def I1 (K : PySem.W.Frag) (C : Str → Addr) (cn : Str) (pre : α → Prop) (f : α → β) : Sp := fun vs H Q _ => ∃ (W : Wd) (M : List Addr) (a dx : Addr) (v : V) (x : α), W.K = K ∧ W.C = C ∧ vs = [.ref a, v] ∧ Ok W (a :: dx :: M) H ∧ a ≠ W.b ∧ a ≠ W.bl ∧ a ∉ M ∧
  H a = some (.ins (C cn) dx []) ∧ Rep W (a :: dx :: M) H v x ∧ pre x ∧ ∀ H', Ex W [a] H H' → Rep W M H' (.ref a) (f x) → Q .non H'
theorem ev_make {cn : Str} {pre : α → Prop} {f : α → β} (ha : Ev W M ta σ H x) (hp : pre x) : Ev W M (tMake (W.C cn) (I1 W.K W.C cn pre f) [] E (tCons ta tNil)) σ H (f x) := fun H1 e ok Q q =>
  ha H1 e ok _ fun v H2 e2 r a dx hx hd hn => by
    have ok2 := ok.ex e2
    have hd' : upd H2 dx (.own a) a = none := by rw [upd_ne (Ne.symm hn)]; exact hx
    have okd := ok2.grow (o := .own a) hd
    refine ⟨W, M, a, dx, v, x, rfl, rfl, rfl, okd.grow hd', okd.new_b hd', okd.new_bl hd', ok2.new_M hx, upd_same, (r.grow hd).grow hd', hp, fun H3 e3 rr => ⟨rfl, q _ H3 ?_ rr⟩⟩
    have e4 : Ex W [] H2 (upd (upd H2 dx (.own a)) a (.ins (W.C cn) dx [])) := (Ex.new hd).trans (Ex.new hd')
    refine e2.trans ⟨fun b o nb _ hb => e3.keep b o nb (fun z => ?_) (e4.keep b o nb (by simp) hb), fun b hb => e3.some_ b (e4.some_ b hb), fun z => e3.bag (e4.bag z)⟩
    have : b = a := by simpa using z
    rw [this, hx] at hb
    cases hb
end
end RG
namespace RG
open PySem PySem.Spec PyProof.Rows L2 StX RZ

/-- the same rule, its reading told otherwise -/
theorem PE.to {X : Cx} {e : Expr} {t u : TE} (h : PE X e t) (q : t = u) : PE X e u := q ▸ h
theorem PT.to {X : Cx} {e : Expr} {t u : TT} (h : PT X e t) (q : t = u) : PT X e u := q ▸ h
theorem PI.to {X : Cx} {tg e : Expr} {t u : TI} (h : PI X tg e t) (q : t = u) : PI X tg e u := q ▸ h
/-- the built-in names, not bound by the text -/
structure Bt (mg : Str → Option Value) : Prop where
  len_ : mg "len" = none
  isinstance_ : mg "isinstance" = none
  str_ : mg "str" = none
  int_ : mg "int" = none
  list_ : mg "list" = none
  tuple_ : mg "tuple" = none
  all_ : mg "all" = none
  any_ : mg "any" = none
  range_ : mg "range" = none
  abs_ : mg "abs" = none
  max_ : mg "max" = none
  min_ : mg "min" = none
  sum_ : mg "sum" = none
  enumerate_ : mg "enumerate" = none
  zip_ : mg "zip" = none
  set_ : mg "set" = none
  dict_ : mg "dict" = none
  bool_ : mg "bool" = none
  sorted_ : mg "sorted" = none
  reversed_ : mg "reversed" = none
  iter_ : mg "iter" = none
section
variable {X : Cx} {x : Str} {pos : Pos}
/-- a constant of the module -/
theorem pe_gI {n : Int} (hg : Gl X x) (hm : ∃ t, X.mg x = some (.int n t)) (hd : (x == ("__debug__" : Str)) = false := by decide) : PE X (.Name x pos) (tC (.int n)) :=
  let ⟨t, e⟩ := hm; pe_glob hg e ⟨t, rfl⟩ hd
theorem pe_gS {n : Str} (hg : Gl X x) (hm : ∃ t, X.mg x = some (.str n t)) (hd : (x == ("__debug__" : Str)) = false := by decide) : PE X (.Name x pos) (tC (.str n)) :=
  let ⟨t, e⟩ := hm; pe_glob hg e ⟨t, rfl⟩ hd
end
section
variable {α β γ : Type} [Py α] [Py β] [Py γ] {W : Wd} {M M' N : List Addr} {σ σ' : L2.St} {H H1 H2 H' : Hp} {te ta tb tc tl : TE} {tr : TA} {x : α} {y : β} {v : V} {E : XK} {i k l : Nat}
theorem signs_one {z s : Str} (h : s ∈ signs z) : ∃ c, s = ⟨#[c]⟩ ∧ c ∈ z.cps.toList := by
  unfold signs at h
  obtain ⟨c, hc, rfl⟩ := List.mem_map.mp h
  exact ⟨c, rfl, hc⟩
/-- the sign of a text of one sign -/
def sgn (s : Str) : Nat := s.cps.getD 0 0
def inS (z s : Str) : Bool := decide (sgn s ∈ z.cps.toList)
theorem ev_inS {z s : Str} (ha : Ev W M ta σ H s) (hb : Ev W M tb σ H z) (hs : ∃ c, s = ⟨#[c]⟩) : Ev W M (tOp rInS ta tb) σ H (inS z s) := fun H1 e ok Q q =>
  ha H1 e ok _ fun v H2 e2 r => hb H2 (e.trans e2) (ok.ex e2) _ fun u H3 e3 r3 => by
    obtain ⟨c, rfl⟩ := hs
    exact ⟨c, z, r, r3, q _ H3 (e2.trans e3) rep_bl⟩
/-- in a comprehension: an outer name -/
theorem Sl.lc {vs : List Nat} (h : Sl W M σ H i x) (l : Le (cut W M H) (cut W M' H')) (n : i ∉ vs := by decide) (n2 : i ≠ k := by decide) : Sl W M' ((L2.wipe σ vs).set k (some v)) H' i x := ((h.le l).wipe n).set Ex.refl n2
theorem Sl.lc2 {vs : List Nat} {u : V} (h : Sl W M σ H i x) (l1 : Le (cut W M H) (cut W M' H')) (n : i ∉ vs := by decide) (n2 : i ≠ k := by decide) (n3 : i ≠ l := by decide) : Sl W M' (((L2.wipe σ vs).set k (some v)).set l (some u)) H' i x := (((h.le l1).wipe n).set Ex.refl n2).set Ex.refl n3
theorem wipe_len {vs : List Nat} {σ : L2.St} : (L2.wipe σ vs).length = σ.length := by
  induction vs with
  | nil => rfl
  | cons a t ih => show ((L2.wipe σ t).set a none).length = _; rw [List.length_set]; exact ih
/-- .. its own name -/
theorem Sl.me {vs : List Nat} (r : Rep W M H v x) (h : k < σ.length := by first | decide | (simp only [List.length_set, wipe_len, L2.start, List.length_append, List.length_map, List.length_replicate, List.length_cons, List.length_nil]; decide)) : Sl W M ((L2.wipe σ vs).set k (some v)) H k x := Sl.here r (by rw [wipe_len]; exact h)
theorem Sl.hr (r : Rep W M H v x) (h : k < σ.length := by first | decide | (simp only [List.length_set, wipe_len, L2.start, List.length_append, List.length_map, List.length_replicate, List.length_cons, List.length_nil]; decide)) : Sl W M (σ.set k (some v)) H k x := Sl.here r h
/-- the i-th value of a filled list is another one now -/
theorem s_setAt {xs : List α} {n : Int} {p : Addr} {D : Ends} {ti : TE} (ok : Ok W M H) (hA : Acc W M σ H k p xs) (h : Ev W M te σ H x) (hi : Ev W M ti σ H n) (h0 : 0 ≤ n) (h1 : n < xs.length)
    (q : ∀ H', Ex W M H H' → (∀ G, Ex W [] G H → Ok W N G → G p = none → Ex W [] G H') → Ok W M H' → Acc W M σ H' k p (xs.set n.toNat x) → D.nx σ H') : tAsg te (gSub (tVar k) ti rSetL) D σ H := by
  refine h H Ex.refl ok _ fun v H2 e2 r => ?_
  refine ⟨.ref p, hA.at_, ?_⟩
  refine hi H2 e2 (ok.ex e2) _ fun u H3 e3 r3 => ?_
  have e23 := e2.trans e3
  obtain ⟨vs, hp, pp⟩ := (hA.up e23).it
  have em : Ex W M H3 (upd H3 p (.lst (vs.set n.toNat v))) := Ex.mut hA.nb hA.nbl hA.mem
  refine ⟨p, vs, n, n.toNat, rfl, r3, hp, ?_, q _ (e23.up.trans em) (fun G eG okG hG => (eG.trans e23).mut0 okG hG) ((ok.ex e23).ex em) ⟨hA.at_, hA.nb, hA.nbl, hA.mem, vs.set n.toNat v, upd_same, ?_⟩⟩
  · unfold ixN
    rw [if_pos h0, if_pos (by rw [Pd.length pp]; exact h1)]
  · exact Pd.set _ (Pd.mono pp fun _ _ r => r.ex em) ((r.up e3).ex em)
end
end RG
namespace RG
open PySem PySem.Spec PyProof.Rows L2 StX RZ
section
variable {α β γ : Type} [Py α] [Py β] [Py γ] {W : Wd} {M M' N : List Addr} {σ σ' : L2.St} {H H1 H2 H' : Hp} {te ta tb tc tl ti : TE} {tr : TA} {x : α} {y : β} {v : V} {E : XK} {i k l f : Nat} {D : Ends} {p pf pl : Addr} {tt : TT} {ts : TS}
theorem le_sub (h : ∀ a ∈ M, a ∈ N) : Le (cut W N H) (cut W M H) := ⟨fun a o q => by
  obtain ⟨h1, h2, h3⟩ := cut_some.mp q
  exact cut_some.mpr ⟨h1, fun z => h2 (h a z), h3⟩⟩
theorem Ok.sub (h : Ok W N H) (hs : ∀ a ∈ M, a ∈ N) : Ok W M H := ⟨h.bag, fun a m => h.laid a (hs a m)⟩
theorem Rep.subM (h : Rep W N H v x) (hs : ∀ a ∈ M, a ∈ N) : Rep W M H v x := h.le (le_sub hs)
theorem Sl.subM (h : Sl W N σ H i x) (hs : ∀ a ∈ M, a ∈ N) : Sl W M σ H i x := h.le (le_sub hs)
/-- a filled list, as data for the time being -/
theorem Acc.out {xs : List α} (h : Acc W N σ H k p xs) (hs : ∀ a ∈ M, a ∈ N) (hm : p ∉ M) : Sl W M σ H k xs :=
  let ⟨vs, hh, pp⟩ := h.it; ⟨.ref p, h.at_, rep_lst hh h.nb hm (Pd.mono pp fun _ _ r => r.subM hs)⟩
/-- a scalar is the same, whatever is under change -/
theorem Ev.sc {δ : Type} [DecidableEq δ] [PyS δ] {z : δ} (h : Ev W M te σ H z) (hs : ∀ a ∈ M, a ∈ N) : Ev W N te σ H z := fun H1 e ok Q q => h H1 e (ok.sub hs) Q fun v H2 e2 r => q v H2 e2 (by rw [r.toV]; exact rep_toV)
theorem EvR.sc {δ : Type} [DecidableEq δ] [PyS δ] {P : δ → Prop} (h : EvR W M te σ H P) (hs : ∀ a ∈ M, a ∈ N) : EvR W N te σ H P := fun H1 e ok Q q => h H1 e (ok.sub hs) Q fun v z H2 pz e2 r => q v z H2 pz e2 (by rw [r.toV]; exact rep_toV)
/-- xs = list(e), a list that will be changed -/
theorem s_list {xs : List α} (ok : Ok W M H) (h : Ev W M te σ H xs) (hk : k < σ.length)
    (q : ∀ p H', H p = none → Ex W [] H H' → Le (cut W M H) (cut W (p :: M) H') → Ok W (p :: M) H' → Acc W (p :: M) (σ.set k (some (.ref p))) H' k p xs → D.nx (σ.set k (some (.ref p))) H') : tAsg (tCB (rListOf W.K) (tCons te tNil)) (gName k) D σ H :=
  h H Ex.refl ok _ fun v H2 e2 r => by
    obtain ⟨a, vs, ev, hh, _, _, pp⟩ := r.lst
    have ok2 := ok.ex e2
    refine ⟨a, vs, by rw [ev], .inl (SqL.of hh), fun p hp => q p _ (e2.free hp) (e2.trans (Ex.new hp)) (e2.up.le.trans (le_new hp)) (ok2.grow hp) ⟨by rw [List.getElem?_set_self hk], ok2.new_b hp, ok2.new_bl hp, List.mem_cons_self, vs, upd_same, Pd.mono pp fun _ _ r => r.grow hp⟩⟩
/-- a new list, empty: the same in the terms of M -/
theorem s_new2 (ok : Ok W M H) (hk : k < σ.length) (q : ∀ p H', H p = none → Ex W [] H H' → Le (cut W M H) (cut W (p :: M) H') → Ok W (p :: M) H' → Acc W (p :: M) (σ.set k (some (.ref p))) H' k p ([] : List α) → D.nx (σ.set k (some (.ref p))) H') : tAsg (tLst tNil) (gName k) D σ H :=
  s_new ok fun p hp e le ok' => q p _ hp e le ok' (Acc.new ok hp hk)
/-- M is grown by another address: a filled list stays -/
theorem Acc.le {xs : List α} (h : Acc W M σ H k p xs) (hp : H' p = H p) (hm : p ∈ M') (l : Le (cut W M H) (cut W M' H')) : Acc W M' σ H' k p xs :=
  ⟨h.at_, h.nb, h.nbl, hm, let ⟨vs, hh, pp⟩ := h.it; ⟨vs, by rw [hp]; exact hh, Pd.mono pp fun _ _ r => r.le l⟩⟩
/-- xs.append(ys.pop(i)) -/
theorem s_appPop {xs ys : List α} (ok : Ok W N H) (hF : Acc W N σ H f pf xs) (hL : Acc W N σ H l pl ys) (hne : pf ≠ pl) (hz : xs.length ≤ 1000000) (hz2 : ys.length ≤ 1000000) (hi : EvR W N ti σ H fun n : Int => 0 ≤ n ∧ n < ys.length)
    (q : ∀ (j : Nat) (y : α) H', ys[j]? = some y → Ex W N H H' → (∀ G M0, Ex W [] G H → Ok W M0 G → G pf = none → G pl = none → Ex W [] G H') → Ok W N H' → Acc W N σ H' f pf (xs ++ [y]) → Acc W N σ H' l pl (ys.eraseIdx j) → D.nx σ H') :
    tDrop (tBM W.K "list" rAppend (tVar f) (tCons (tBM W.K "list" rPopAt (tVar l) (tCons ti tNil)) tNil)) D σ H := by
  obtain ⟨vs, hp, pp⟩ := hF.it
  obtain ⟨us, hp2, pp2⟩ := hL.it
  refine ⟨.ref pf, hF.at_, .inl ⟨rfl, vs, SqL.of hp⟩, .ref pl, hL.at_, .inl ⟨rfl, us, SqL.of hp2⟩, hi H Ex.refl ok _ fun v n H2 pn e2 r => ?_⟩
  obtain ⟨h0, h1⟩ := pn
  have hj : n.toNat < ys.length := by omega
  obtain ⟨u, hu, ru⟩ := Pd.get pp2 (List.getElem?_eq_getElem hj)
  have hq2 := e2.keep _ _ hL.nb (by simp) hp2
  have hq := e2.keep _ _ hF.nb (by simp) hp
  refine ⟨pl, us, n, n.toNat, u, rfl, by rw [show v = .int n from r], hq2, by omega, by omega, ?_, hu, ?_⟩
  · unfold seqIndex?
    rw [Pd.length pp2]
    have e : (if n < 0 then n + (ys.length : Int) else n) = n := if_neg (by omega)
    simp only [e]
    rw [if_pos (by simp; omega)]
  have em : Ex W N H2 (upd H2 pl (.lst (us.eraseIdx n.toNat))) := Ex.mut hL.nb hL.nbl hL.mem
  have ok2 := (ok.ex e2).ex em
  have hq3 : upd H2 pl (.lst (us.eraseIdx n.toNat)) pf = some (.lst vs) := by rw [upd_ne hne]; exact hq
  refine ⟨pf, vs, u, rfl, rfl, hq3, by rw [Pd.length pp]; exact sl hz, ?_⟩
  have em2 : Ex W N (upd H2 pl (.lst (us.eraseIdx n.toNat))) (upd (upd H2 pl (.lst (us.eraseIdx n.toNat))) pf (.lst (vs ++ [u]))) := Ex.mut hF.nb hF.nbl hF.mem
  have ee := em.trans em2
  refine q n.toNat _ _ (List.getElem?_eq_getElem hj) (e2.up.trans ee) (fun G M0 eG okG g1 g2 => ((eG.trans e2).mut0 okG g2).mut0 okG g1) (ok2.ex em2) ⟨hF.at_, hF.nb, hF.nbl, hF.mem, _, upd_same, ?_⟩ ⟨hL.at_, hL.nb, hL.nbl, hL.mem, us.eraseIdx n.toNat, by rw [upd_ne hne.symm, upd_same], ?_⟩
  · exact Pd.append (Pd.mono pp fun _ _ r => (r.up e2).ex ee) (.cons ((ru.up e2).ex ee) .nil)
  · exact Pd.erase _ (Pd.mono pp2 fun _ _ r => (r.up e2).ex ee)
/-- xs[i] = e, e one of several -/
theorem s_setAtR {P : α → Prop} {xs : List α} {n : Int} (ok : Ok W M H) (hA : Acc W M σ H k p xs) (h : EvR W M te σ H P) (hi : Ev W M ti σ H n) (h0 : 0 ≤ n) (h1 : n < xs.length)
    (q : ∀ x H', P x → Ex W M H H' → (∀ G M0, Ex W [] G H → Ok W M0 G → G p = none → Ex W [] G H') → Ok W M H' → Acc W M σ H' k p (xs.set n.toNat x) → D.nx σ H') : tAsg te (gSub (tVar k) ti rSetL) D σ H := by
  refine h H Ex.refl ok _ fun v x H2 px e2 r => ?_
  refine ⟨.ref p, hA.at_, ?_⟩
  refine hi H2 e2 (ok.ex e2) _ fun u H3 e3 r3 => ?_
  have e23 := e2.trans e3
  obtain ⟨vs, hp, pp⟩ := (hA.up e23).it
  have em : Ex W M H3 (upd H3 p (.lst (vs.set n.toNat v))) := Ex.mut hA.nb hA.nbl hA.mem
  refine ⟨p, vs, n, n.toNat, rfl, r3, hp, ?_, q x _ px (e23.up.trans em) (fun G M0 eG okG hG => (eG.trans e23).mut0 okG hG) ((ok.ex e23).ex em) ⟨hA.at_, hA.nb, hA.nbl, hA.mem, vs.set n.toNat v, upd_same, ?_⟩⟩
  · unfold ixN
    rw [if_pos h0, if_pos (by rw [Pd.length pp]; exact h1)]
  · exact Pd.set _ (Pd.mono pp fun _ _ r => r.ex em) ((r.up e3).ex em)
/-- a text, and one of several behind it -/
theorem evr_addS {z : Str} {P : Str → Prop} (ha : Ev W M ta σ H z) (hb : EvR W M tb σ H P) (hl : ∀ w, P w → z.length + w.length ≤ 1000000) : EvR W M (tOp (fun x y H Q => ∃ i j : Str, x = .str i ∧ y = .str j ∧ i.length + j.length ≤ sizeLine ∧ Q (.str (i ++ j)) H) ta tb) σ H (fun r => ∃ w, P w ∧ r = z ++ w) := fun H1 e ok Q q =>
  ha H1 e ok _ fun v H2 e2 r => hb H2 (e.trans e2) (ok.ex e2) _ fun u w H3 pw e3 r3 => ⟨z, w, r, r3, sz (hl w pw), q _ _ H3 ⟨w, pw, rfl⟩ (e2.trans e3) rep_str⟩
/-- an if without else, whose both ways go on with J -/
theorem s_ifc {b : Bool} {J : L2.St → Hp → Prop} {t1 : TS} (ok : Ok W M H) (h : Et W M tt σ H b) (hJ : ∀ σ' H', J σ' H' → D.nx σ' H') (h1 : (∀ σ' H', J σ' H' → D.nx σ' H') → b = true → ∀ H', Ex W [] H H' → Ok W M H' → t1 D σ H') (h2 : b = false → ∀ H', Ex W [] H H' → Ok W M H' → J σ H') : tIfS tt t1 tNext D σ H :=
  s_if ok h (fun hb H' e ok' => h1 hJ hb H' e ok') fun hb H' e ok' => hJ _ _ (h2 hb H' e ok')
/-- the bag's slot, read off -/
theorem bsr (h : σ[i]? = some (some (.ref W.b)) := by rfl) : Bs W σ i := h
theorem ev_vi {n : Int} (h : σ[i]? = some (some (.int n)) := by rfl) : Ev W M (tVar i) σ H n := ev_var ⟨_, h, rep_int⟩
theorem ev_vs {n : Str} (h : σ[i]? = some (some (.str n)) := by rfl) : Ev W M (tVar i) σ H n := ev_var ⟨_, h, rep_str⟩
/-- while -/
theorem while_w {P : Nat → L2.St → Hp → Prop} (m : Nat) (h0 : P m σ H)
    (hs : ∀ m σ' H', P m σ' H' → ∃ b, Et W M tt σ' H' b ∧ Ok W M H' ∧ ∀ H'', Ex W [] H' H'' → Ok W M H'' → (b = true → ∀ N : L2.St → Hp → Prop, (∀ m' σ3 H3, m' < m → P m' σ3 H3 → N σ3 H3) → ts { D with nx := N, ct := N, bk := D.nx } σ' H'') ∧ (b = false → D.nx σ' H'')) : tWhile tt ts D σ H := by
  refine ⟨P, ⟨m, h0⟩, fun m σ' H' p => ?_⟩
  obtain ⟨b, ht, ok, hb⟩ := hs m σ' H' p
  refine ht H' Ex.refl ok _ fun H2 e2 => ?_
  obtain ⟨h1, h2⟩ := hb H2 e2 (ok.ex e2)
  cases b with
  | true => rw [if_pos rfl]; exact ⟨fun σ3 H3 => ∃ m', m' < m ∧ P m' σ3 H3, fun _ _ n => n, h1 rfl _ fun m' σ3 H3 l w => ⟨m', l, w⟩⟩
  | false => rw [if_neg Bool.false_ne_true]; exact h2 rfl
end
end RG
namespace RG
open PySem PySem.Spec PyProof.Rows L2 StX RZ
section
variable {α β γ : Type} [Py α] [Py β] [Py γ] {W : Wd} {M M' N : List Addr} {σ σ' : L2.St} {H H1 H2 H' : Hp} {te ta tb tl : TE} {wi : TI} {g : TG} {tt : TT} {vs : List Nat} {D : Ends} {k l : Nat} {v : V}
/-- a comprehension, with a word of all that it made so far, and the new list's address -/
theorem lc_acc {xs : List α} {P : Nat → List β → Prop} (hi : Ei W M wi σ H xs) (hl : xs.length ≤ 1000000) (h0 : P 0 [])
    (he : ∀ (i : Nat) (x : α) v M' H' us ys, xs[i]? = some x → Le (cut W M H) (cut W M' H') → Ok W M' H' → Rep W M' H' v x → P i ys → Paired (Rep W M' H') us ys → ∀ K : L2.St → Hp → Prop,
      (∀ σ2, wipe σ2 vs = wipe σ vs → EvR W M' te σ2 H' (fun y => P (i + 1) (ys ++ [y])) → K σ2 H') → g v (wipe σ vs) H' K)
    {Q : VK} {H1 : Hp} (e : Ex W [] H H1) (ok : Ok W M H1) (q : ∀ L ys H2, P xs.length ys → H1 L = none → Ex W [] H1 H2 → Rep W M H2 (.ref L) ys → Q (.ref L) H2) : tLc wi g tYes te vs σ H1 Q := by
  refine hi H1 e ok _ fun J S H2 e2 wk s2 => ?_
  intro L hL
  have ok2 := ok.ex e2
  have nb := ok2.new_b hL
  have nbl := ok2.new_bl hL
  have nM := ok2.new_M hL
  have le2 : Le (cut W M H) (cut W M H2) := (e.trans e2).up.le
  refine ⟨fun i m H' => m = xs.length - i ∧ i ≤ xs.length ∧ Ok W (L :: M) H' ∧ S (L :: M) H' ∧ Ex W [] H2 H' ∧ Le (cut W M H) (cut W (L :: M) H') ∧
    ∃ us ys, H' L = some (.lst us) ∧ Paired (Rep W (L :: M) H') us ys ∧ P i ys ∧ us.length ≤ i,
    ⟨xs.length, by simp, Nat.zero_le _, ok2.grow hL, wk.st (le_new hL) s2, Ex.new hL, le2.trans (le_new hL), [], [], upd_same, .nil, h0, Nat.le_refl _⟩, ?_⟩
  rintro i m H' ⟨rfl, hi', ok', s', e', l', us, ys, hL', pp, pr, hz⟩
  by_cases hlt : i < xs.length
  · refine .inr ⟨wk.go s' hlt, fun H3 => i + 1 ≤ xs.length ∧ Ok W (L :: M) H3 ∧ S (L :: M) H3 ∧ Ex W [] H2 H3 ∧ Le (cut W M H) (cut W (L :: M) H3) ∧
      ∃ us ys, H3 L = some (.lst us) ∧ Paired (Rep W (L :: M) H3) us ys ∧ P (i + 1) ys ∧ us.length ≤ i + 1, fun H3 q => ⟨xs.length - (i + 1), by omega, rfl, q⟩, fun v H3 y => ?_⟩
    obtain ⟨x, hx, e3, r⟩ := wk.yld s' ok' y hlt
    have ok3 := ok'.ex e3
    have l3 := l'.trans e3.up.le
    refine he i x v (L :: M) H3 us ys hx l3 ok3 r pr (Pd.mono pp fun _ _ r => r.up e3) _ fun σ2 hw hel => ⟨hw, ?_⟩
    refine et_yes (W := W) (M := L :: M) H3 Ex.refl ok3 _ fun H4 e4 => ?_
    rw [if_pos rfl]
    refine hel H4 e4 (ok3.ex e4) _ fun w z H5 rz e5 r5 => ?_
    have e35 := (e3.trans e4).trans e5
    have ok5 := ok'.ex e35
    have hL5 := e35.keep L _ nb (by simp) hL'
    have em : Ex W (L :: M) H5 (upd H5 L (.lst (us ++ [w]))) := Ex.mut nb nbl (List.mem_cons_self)
    have e36 : Ex W (L :: M) H' (upd H5 L (.lst (us ++ [w]))) := e35.up.trans em
    exact ⟨us, hL5, Nat.lt_of_le_of_lt hz (sl (by omega)), hlt, ok5.ex em, wk.st e36.le s', (e'.trans e35).mut0 ok2 hL, l'.trans e36.le, us ++ [w], ys ++ [z], upd_same,
      Pd.append (Pd.mono pp fun _ _ r => r.ex e36) (.cons (r5.ex em) .nil), rz, by rw [List.length_append]; simp; omega⟩
  · have e5 : i = xs.length := by omega
    subst e5
    exact .inl ⟨wk.stop s' (Nat.le_refl _), q L ys H' pr (e2.free hL) (e2.trans (e'.sub (by simp))) (rep_lst hL' nb nM (Pd.mono pp fun _ _ r => r.less))⟩
end

/-! ### columns whose list is known by its address -/
structure OCol where
  n : Str
  ws : List Str
  a : Addr
def OCol.col (z : OCol) : Str × List Str := (z.n, z.ws)
instance : Py OCol := ⟨fun _ H v z => ∃ T, v = .ref T ∧ Rd H T (.tup [.str z.n, .ref z.a]) ∧ H z.a = some (.lst (z.ws.map V.str)), fun l ⟨T, e, h1, h2⟩ => ⟨T, e, l.rd h1, l.ex _ _ h2⟩⟩
section
variable {W : Wd} {M M' N : List Addr} {σ σ' : L2.St} {H H1 H2 H' G : Hp} {te ta tb tl : TE} {wi : TI} {vs : List Nat} {D : Ends} {k l : Nat} {v : V} {z : OCol} {L : Addr} {zs : List OCol}
theorem Rep.ocol (h : Rep W M H v z) : ∃ T, v = .ref T ∧ Rd H T (.tup [.str z.n, .ref z.a]) ∧ T ≠ W.b ∧ T ∉ M ∧ H z.a = some (.lst (z.ws.map V.str)) ∧ z.a ≠ W.b ∧ z.a ∉ M := by
  obtain ⟨T, e, h1, h2⟩ := h
  obtain ⟨a1, a2, a3⟩ := rd_cut.mp h1
  obtain ⟨b1, b2, b3⟩ := cut_some.mp h2
  exact ⟨T, e, a3, a1, a2, b3, b1, b2⟩
theorem rep_ocol {T : Addr} (h1 : Rd H T (.tup [.str z.n, .ref z.a])) (h2 : T ≠ W.b) (h3 : T ∉ M) (h4 : H z.a = some (.lst (z.ws.map V.str))) (h5 : z.a ≠ W.b) (h6 : z.a ∉ M) : Rep W M H (.ref T) z :=
  ⟨T, rfl, rd_cut.mpr ⟨h2, h3, h1⟩, cut_some.mpr ⟨h5, h6, h4⟩⟩
theorem Rep.col (h : Rep W M H v z) : Rep W M H v z.col := by
  obtain ⟨T, e, h1, h2⟩ := h
  exact ⟨T, _, _, e, h1, rfl, z.a, _, rfl, h2, toV_paired (α := Str) (W := W) (M := M) (H := H)⟩
theorem Rep.cols (h : Rep W M H v zs) : Rep W M H v (zs.map OCol.col) := h.lmap fun _ _ r => r.col
/-- (name, list(worths)) -/
theorem evr_ocol {n : Str} {ws : List Str} {ys : List OCol} {us : List V} (h1 : Sl W M σ H k n) (h2 : Sl W M σ H l ws) (hp : Paired (Rep W M H) us ys) (lg : Le G (cut W M H)) :
    EvR W M (tTup (tCons (tVar k) (tCons (tCB (rListOf W.K) (tCons (tVar l) tNil)) tNil))) σ H (fun z : OCol => z.col = (n, ws) ∧ G z.a = none ∧ ∀ y ∈ ys, y.a ≠ z.a) := fun H1 e ok Q q => by
  obtain ⟨v1, hv1, r1⟩ := h1.up e
  obtain ⟨v2, hv2, r2⟩ := h2.up e
  refine ⟨v1, hv1, v2, hv2, ?_⟩
  obtain ⟨a, vs, rfl, hh, _, _, pp⟩ := r2.lst
  refine ⟨a, vs, rfl, .inl (SqL.of hh), fun p hp' => ⟨by show 2 ≤ sizeLine; decide, fun T hT => ?_⟩⟩
  cases (show v1 = .str n from r1)
  have e1 : Ex W [] H1 (upd H1 p (.lst vs)) := Ex.new hp'
  have ok1 := ok.ex e1
  have npT : p ≠ T := fun z => by rw [← z, upd_same] at hT; cases hT
  have hvs : vs = ws.map V.str := paired_toV pp
  refine q (.ref T) ⟨n, ws, p⟩ _ ⟨rfl, ?_, fun y hy z => ?_⟩ (e1.trans (Ex.new hT)) (rep_ocol (.inl upd_same) (ok1.new_b hT) (ok1.new_M hT) (by rw [upd_ne npT, upd_same, hvs]) (ok.new_b hp') (ok.new_M hp'))
  · cases hg : G p with
    | none => rfl
    | some o =>
      have := e.up.le.ex _ _ (lg.ex _ _ hg)
      rw [cut_at this] at hp'; cases hp'
  · obtain ⟨j, hj⟩ := List.mem_iff_getElem?.mp hy
    obtain ⟨u, _, ru⟩ := Pd.get hp hj
    obtain ⟨_, _, _, _, _, h3, _⟩ := (ru.up e).ocol
    rw [z, hp'] at h3; cases h3
/-- xs = [(name, list(worths)) for name, worths in cs] -/
theorem s_cols {cs : List (Str × List Str)} {f : Nat} (ok : Ok W M H) (hi : Ei W M wi σ H cs) (hl : cs.length ≤ 1000) (hk : k ∈ vs) (hl' : l ∈ vs) (hkl : k ≠ l) (hk2 : k < σ.length) (hl2 : l < σ.length)
    (q : ∀ (L : Addr) (zs : List OCol) (H' : Hp), zs.map OCol.col = cs → (zs.map OCol.a).Nodup → (∀ z ∈ zs, cut W M H z.a = none) → H L = none → Ex W [] H H' → Ok W M H' → Rep W M H' (.ref L) zs → D.nx (σ.set f (some (.ref L))) H') :
    tAsg (tLc wi (gPair W.K k l) tYes (tTup (tCons (tVar k) (tCons (tCB (rListOf W.K) (tCons (tVar l) tNil)) tNil))) vs) (gName f) D σ H := by
  refine lc_acc (P := fun i (zs : List OCol) => zs.map OCol.col = cs.take i ∧ (zs.map OCol.a).Nodup ∧ ∀ z ∈ zs, cut W M H z.a = none) hi (by omega) ⟨rfl, List.nodup_nil, fun z hz => by cases hz⟩ ?_ Ex.refl ok fun L zs H2 hP hL e2 r2 => q L zs H2 (by have := hP.1; rwa [List.take_length] at this) hP.2.1 hP.2.2 hL e2 (ok.ex e2) r2
  intro i x v M' H' us ys hx le ok' r hP pp K hK
  refine gPair_rd r fun v1 v2 r1 r2 => hK _ (by rw [wipe_set hl', wipe_set hk, wipe_wipe]) ?_
  refine (evr_ocol (G := cut W M H) ((Sl.here r1 (by rw [wipe_len]; exact hk2)).set Ex.refl hkl) (Sl.here r2 (by rw [List.length_set, wipe_len]; exact hl2)) pp le).imp fun z hz => ?_
  obtain ⟨h1, h2, h3⟩ := hz
  obtain ⟨p1, p2, p3⟩ := hP
  refine ⟨by rw [List.map_append, p1, List.take_add_one, hx]; show _ ++ [z.col] = _; rw [h1]; rfl, ?_, fun y hy => ?_⟩
  · rw [List.map_append, List.nodup_append]
    refine ⟨p2, by simp, fun a ha b hb => ?_⟩
    obtain ⟨y, hy, rfl⟩ := List.mem_map.mp ha
    have : b = z.a := by simpa using hb
    rw [this]
    exact h3 y hy
  · rcases List.mem_append.mp hy with hy | hy
    · exact p3 y hy
    · rw [List.mem_singleton.mp hy]; exact h2
/-- the outer list is none of the inner ones -/
theorem own_out (h : Rep W M H (.ref L) zs) : ∃ us, H L = some (.lst us) ∧ L ≠ W.b ∧ L ∉ M ∧ Paired (Rep W (L :: M) H) us zs ∧ ∀ z ∈ zs, z.a ≠ L := by
  obtain ⟨a, us, e, hh, nb, nm, pp⟩ := h.lst
  cases e
  have no : ∀ z ∈ zs, z.a ≠ L := fun z hz e => by
    obtain ⟨j, hj⟩ := List.mem_iff_getElem?.mp hz
    obtain ⟨u, hu, ru⟩ := Pd.get pp hj
    obtain ⟨T, rfl, _, _, _, h3, _⟩ := ru.ocol
    rw [e, hh] at h3
    have e2 : us = z.ws.map V.str := by injection h3 with h3; injection h3
    rw [e2, List.getElem?_map] at hu
    cases hw : z.ws[j]? with
    | none => rw [hw] at hu; cases hu
    | some s => rw [hw] at hu; cases hu
  refine ⟨us, hh, nb, nm, ?_, no⟩
  have : ∀ {us : List V} {zs : List OCol}, Paired (Rep W M H) us zs → (∀ z ∈ zs, z.a ≠ L) → Paired (Rep W (L :: M) H) us zs := by
    intro us zs hp
    induction hp with
    | nil => intro _; exact .nil
    | @cons u z us zs r _ ih =>
      intro hn
      refine .cons ?_ (ih fun z hz => hn z (List.mem_cons_of_mem _ hz))
      obtain ⟨T, rfl, t1, t2, t3, h3, h4, h5⟩ := r.ocol
      refine rep_ocol t1 t2 (fun hm => ?_) h3 h4 (fun hm => ?_)
      · rcases List.mem_cons.mp hm with e | hm
        · subst e
          rcases t1 with t1 | ⟨o, t1⟩
          · rw [hh] at t1; cases t1
          · rw [hh] at t1; cases t1
        · exact t3 hm
      · rcases List.mem_cons.mp hm with e | hm
        · exact hn z (by simp) e
        · exact h5 hm
  exact this pp no
/-- an inner list is changed -/
theorem own_upd (h : Rep W M H (.ref L) zs) (hn : (zs.map OCol.a).Nodup) {i : Nat} (hz : zs[i]? = some z) (ws' : List Str) : Rep W M (upd H z.a (.lst (ws'.map V.str))) (.ref L) (zs.set i ⟨z.n, ws', z.a⟩) := by
  obtain ⟨us, hh, nb, nm, pp, no⟩ := own_out h
  have hza := no z (List.mem_of_getElem? hz)
  have keep : ∀ {u : V} {y : OCol}, Rep W (L :: M) H u y → y.a ≠ z.a → Rep W (L :: M) (upd H z.a (.lst (ws'.map V.str))) u y := fun {u y} r hy => by
    obtain ⟨T, rfl, t1, t2, t3, h3, h4, h5⟩ := r.ocol
    refine rep_ocol ?_ t2 t3 (by rw [upd_ne hy]; exact h3) h4 h5
    obtain ⟨uz, _, rz⟩ := Pd.get pp hz
    obtain ⟨_, _, _, _, _, z3, _⟩ := rz.ocol
    have nT : T ≠ z.a := fun e => by
      rcases t1 with t1 | ⟨o, t1⟩
      · rw [e, z3] at t1; cases t1
      · rw [e, z3] at t1; cases t1
    rcases t1 with t1 | ⟨o, t1⟩
    · exact .inl (by rw [upd_ne nT]; exact t1)
    · exact .inr ⟨o, by rw [upd_ne nT]; exact t1⟩
  have here : ∀ {u : V}, Rep W (L :: M) H u z → Rep W (L :: M) (upd H z.a (.lst (ws'.map V.str))) u (⟨z.n, ws', z.a⟩ : OCol) := fun {u} r => by
    obtain ⟨T, rfl, t1, t2, t3, h3, h4, h5⟩ := r.ocol
    have nT : T ≠ z.a := fun e => by
      rcases t1 with t1 | ⟨o, t1⟩
      · rw [e, h3] at t1; cases t1
      · rw [e, h3] at t1; cases t1
    refine rep_ocol (z := ⟨z.n, ws', z.a⟩) ?_ t2 t3 upd_same h4 h5
    rcases t1 with t1 | ⟨o, t1⟩
    · exact .inl (by rw [upd_ne nT]; exact t1)
    · exact .inr ⟨o, by rw [upd_ne nT]; exact t1⟩
  have all : ∀ {us : List V} {zs : List OCol} {i : Nat}, Paired (Rep W (L :: M) H) us zs → (zs.map OCol.a).Nodup → zs[i]? = some z → Paired (Rep W (L :: M) (upd H z.a (.lst (ws'.map V.str)))) us (zs.set i ⟨z.n, ws', z.a⟩) := by
    intro us zs i hp
    induction hp generalizing i with
    | nil => intro _ h; simp at h
    | @cons u y us zs r rest ih =>
      intro hn hi
      have hn' := List.nodup_cons.mp (by simpa using hn : (y.a :: zs.map OCol.a).Nodup)
      cases i with
      | zero =>
        simp at hi
        subst hi
        rw [List.set_cons_zero]
        refine .cons (here r) ?_
        have : ∀ {us : List V} {zs : List OCol}, Paired (Rep W (L :: M) H) us zs → (∀ x ∈ zs, x.a ≠ y.a) → Paired (Rep W (L :: M) (upd H y.a (.lst (ws'.map V.str)))) us zs := by
          intro us zs hp
          induction hp with
          | nil => intro _; exact .nil
          | cons r _ ih => intro hx; exact .cons (keep r (hx _ (by simp))) (ih fun x h => hx x (List.mem_cons_of_mem _ h))
        exact this rest fun x hx e => hn'.1 (e ▸ List.mem_map_of_mem hx)
      | succ i =>
        rw [List.set_cons_succ]
        have hi' : zs[i]? = some z := by simpa using hi
        refine .cons (keep r fun e => hn'.1 (e ▸ List.mem_map_of_mem (List.mem_of_getElem? hi'))) (ih hn'.2 hi')
  have hp := all pp hn hz
  exact rep_lst (by rw [upd_ne hza.symm]; exact hh) nb nm (Pd.mono hp fun _ _ r => r.less)
theorem ocol_at {i : Int} (h : Rep W M H (.ref L) zs) (ht : Val tl σ H (.ref L)) (hb : Val tb σ H (.int i)) (hz : atI zs i = some z) : Val (tOp (rIxT W.K) (tOp (rIxL W.K) tl tb) (tC (.int 1))) σ H (.ref z.a) ∧ Val (tOp (rIxT W.K) (tOp (rIxL W.K) tl tb) (tC (.int 0))) σ H (.str z.n) := by
  obtain ⟨us, hh, nb, nm, pp, no⟩ := own_out h
  obtain ⟨u, hu, ru⟩ := Pd.at pp hz
  obtain ⟨T, rfl, t1, t2, t3, h3, h4, h5⟩ := ru.ocol
  exact ⟨fun Q q => ht _ (hb _ ⟨L, us, i, .ref T, rfl, rfl, SqL.of hh, hu, T, _, 1, .ref z.a, rfl, rfl, .inl t1, rfl, q⟩), fun Q q => ht _ (hb _ ⟨L, us, i, .ref T, rfl, rfl, SqL.of hh, hu, T, _, 0, .str z.n, rfl, rfl, .inl t1, rfl, q⟩)⟩
theorem as_tup2 {t1 t2 : TE} {g : TG} (h : t1 σ H fun v1 H1 => t2 σ H1 fun v2 H2 => 2 ≤ sizeLine ∧ ∀ p, H2 p = none → g (.ref p) σ (upd H2 p (.tup [v1, v2])) D.nx) : tAsg (tTup (tCons t1 (tCons t2 tNil))) g D σ H := h
/-- an item is another pair now, its list the same -/
theorem own_set {us : List V} {p : Addr} (ok : Ok W M H) (h : Rep W M H (.ref L) zs) (hL : H L = some (.lst us)) {j : Nat} (hz : zs[j]? = some z) (n' : Str) (hp : H p = none) :
    Rep W M (upd (upd H p (.tup [.str n', .ref z.a])) L (.lst (us.set j (.ref p)))) (.ref L) (zs.set j ⟨n', z.ws, z.a⟩) ∧ Ex W (L :: M) H (upd (upd H p (.tup [.str n', .ref z.a])) L (.lst (us.set j (.ref p)))) := by
  obtain ⟨us', hh, nb, nm, pp, no⟩ := own_out h
  rw [hL] at hh; cases hh
  have npL : p ≠ L := fun e => by rw [e, hL] at hp; cases hp
  have nbl : L ≠ W.bl := fun e => by
    obtain ⟨_, _, _, _, _, _, e3, _⟩ := ok.bag
    rw [← e, hL] at e3
    have e4 : us = W.ns.map V.int := by injection e3 with e3; injection e3
    obtain ⟨u, hu, ru⟩ := Pd.get pp hz
    obtain ⟨T, rfl, _⟩ := ru.ocol
    rw [e4, List.getElem?_map] at hu
    cases hw : W.ns[j]? with
    | none => rw [hw] at hu; cases hu
    | some s => rw [hw] at hu; cases hu
  have e1 : Ex W (L :: M) H (upd H p (.tup [.str n', .ref z.a])) := Ex.new hp
  have em : Ex W (L :: M) (upd H p (.tup [.str n', .ref z.a])) (upd (upd H p (.tup [.str n', .ref z.a])) L (.lst (us.set j (.ref p)))) := Ex.mut nb nbl (by simp)
  have ee := e1.trans em
  refine ⟨rep_lst upd_same nb nm (Pd.mono (Pd.set j (Pd.mono pp fun _ _ r => r.ex ee) ?_) fun _ _ r => r.less), ee⟩
  obtain ⟨u, hu, ru⟩ := Pd.get pp hz
  obtain ⟨T, rfl, t1, t2, t3, h3, h4, h5⟩ := (ru.ex ee).ocol
  exact rep_ocol (z := ⟨n', z.ws, z.a⟩) (.inl (by rw [upd_ne npL, upd_same])) (ok.new_b hp) (fun hm => (List.mem_cons.mp hm).elim npL (ok.new_M hp)) h3 h4 h5
/-- a fresh address joins those under change -/
theorem le_fresh {a : Addr} (e : Ex W M H H') (ha : cut W M H a = none) : Le (cut W M H) (cut W (a :: M) H') := ⟨fun x o q => by
  obtain ⟨h1, h2, h3⟩ := cut_some.mp q
  refine cut_some.mpr ⟨h1, fun z => ?_, e.keep x o h1 h2 h3⟩
  rcases List.mem_cons.mp z with z | z
  · rw [z, ha] at q; cases q
  · exact h2 z⟩
theorem cut_free {a : Addr} (h : cut W M H a = none) (hb : a ≠ W.b) (hm : a ∉ M) : H a = none := by
  cases e : H a with
  | none => rfl
  | some o => rw [cut_some.mpr ⟨hb, hm, e⟩] at h; cases h
end
end RG
namespace RG
open PySem PySem.Spec PyProof.Rows L2 StX RZ

/-! ### set(texts), of any number -/
/-- the first of each -/
def met : List Str → List Str → List Str
  | f, [] => f
  | f, x :: t => met (if x ∈ f then f else f ++ [x]) t
def firsts (xs : List Str) : List Str := met [] xs
theorem met_take {xs : List Str} {x : Str} : ∀ {i : Nat} {f : List Str}, xs[i]? = some x → met f (xs.take (i + 1)) = if x ∈ met f (xs.take i) then met f (xs.take i) else met f (xs.take i) ++ [x] := by
  induction xs with
  | nil => intro i f h; simp at h
  | cons a t ih =>
    intro i f h
    cases i with
    | zero => simp at h; subst h; simp [met]
    | succ i =>
      rw [List.take_succ_cons, List.take_succ_cons]
      show met _ (t.take (i + 1)) = if x ∈ met _ (t.take i) then met _ (t.take i) else met _ (t.take i) ++ [x]
      exact ih (by simpa using h)
theorem met_len : ∀ {xs f : List Str}, (met f xs).length ≤ f.length + xs.length
  | [], f => Nat.le_refl _
  | x :: t, f => by
    have := met_len (xs := t) (f := if x ∈ f then f else f ++ [x])
    have h : (if x ∈ f then f else f ++ [x]).length ≤ f.length + 1 := by split <;> simp
    show (met _ t).length ≤ _
    rw [List.length_cons]
    omega
theorem met_nodup : ∀ {xs f : List Str}, f.Nodup → ((met f xs).length = f.length + xs.length ↔ xs.Nodup ∧ ∀ x ∈ xs, x ∉ f)
  | [], f, _ => by simp [met]
  | x :: t, f, hf => by
    by_cases hx : x ∈ f
    · have e : met f (x :: t) = met f t := by show met (if x ∈ f then f else f ++ [x]) t = _; rw [if_pos hx]
      have := met_len (xs := t) (f := f)
      rw [e]
      constructor
      · intro h; rw [List.length_cons] at h; omega
      · intro h; exact absurd hx (h.2 x (by simp))
    · have e : met f (x :: t) = met (f ++ [x]) t := by show met (if x ∈ f then f else f ++ [x]) t = _; rw [if_neg hx]
      have hf' : (f ++ [x]).Nodup := List.nodup_append.mpr ⟨hf, by simp, fun a ha b hb => by simp at hb; subst hb; exact fun e => hx (e ▸ ha)⟩
      rw [e, show f.length + (x :: t).length = (f ++ [x]).length + t.length by simp; omega, met_nodup hf', List.nodup_cons]
      constructor
      · rintro ⟨h1, h2⟩
        refine ⟨⟨fun hm => h2 x hm (by simp), h1⟩, fun y hy => ?_⟩
        rcases List.mem_cons.mp hy with rfl | hy
        · exact hx
        · exact fun hm => h2 y hy (by simp [hm])
      · rintro ⟨⟨h1, h2⟩, h3⟩
        refine ⟨h2, fun y hy hm => ?_⟩
        rcases List.mem_append.mp hm with hm | hm
        · exact h3 y (List.mem_cons_of_mem _ hy) hm
        · rw [List.mem_singleton.mp hm] at hy; exact h1 hy
section
variable {prog : Program} {w : World} {A : Around} {E : Value → Shared → Prop}
theorem set_turns {R : Result → Shared → Prop} {I D : Addr} {fp wr : List Addr} {G : Array GenState → Array GenState → Prop} {P : Nat → Value → Prop} {St : Nat → Shared → Prop} {xs : List Str} (T : WalksS prog w A.in1 I fp wr G xs.length P St) (hD : D ∉ fp)
    (hv : ∀ i v, P i v → ∃ t, v = .str (xs.getD i Str.empty) t) (hb : xs.length + 1 < scanBound) :
    ∀ (k i : Nat) (s : Shared), xs.length - i = k → i ≤ xs.length → St i s → s.heap.SetOf (PySem.strKind prog w) D (fun y => decide (y ∈ firsts (xs.take i))) (firsts (xs.take i)).length →
      (∀ s', Moved (D :: wr) G s s' → s'.heap.SetOf (PySem.strKind prog w) D (fun y => decide (y ∈ firsts xs)) (firsts xs).length → R (.ok (.ret .none)) s') →
      codeAny (model prog w) A (.builtin "set.update.loop" ⟨[.ref D, .ref I], []⟩) R s := by
  have hDw : D ∉ wr := fun z => hD (T.sub _ z)
  have up : ∀ b ∈ wr, b ∈ D :: wr := fun b z => List.mem_cons_of_mem _ z
  have carry : ∀ {h h' : Heap} {S : Str → Bool} {n : Nat}, h.SetOf (PySem.strKind prog w) D S n → (∀ o, h.get? D = some o → h'.get? D = some o) → h'.SetOf (PySem.strKind prog w) D S n := fun z m => by
    obtain ⟨o, a, b, c, ho, r⟩ := z
    exact ⟨o, a, b, c, m o ho, r⟩
  intro k
  induction k with
  | zero =>
    intro i s hk hi hst hS hR
    have e : i = xs.length := by omega
    subst e
    rw [List.take_length] at hS
    refine codeAny_builtin PyProof.Rows.F.entry_set_update_loop ?_
    rw [Around.under_plainId PyProof.Rows.F.plain_set_update_loop _]
    show wpAny _ A.in1 (pyNext (.ref I) >>= fun _ => _) _ _ s
    exact wpAny_bind (T.done s _ _ hst fun s' mv => wpAny_pure (hR s' (mv.mono up) (carry hS fun o ho => mv.heap D o hDw ho)))
  | succ k ih =>
    intro i s hk hi hst hS hR
    have lt : i < xs.length := by omega
    refine codeAny_builtin PyProof.Rows.F.entry_set_update_loop ?_
    rw [Around.under_plainId PyProof.Rows.F.plain_set_update_loop _]
    show wpAny _ A.in1 (pyNext (.ref I) >>= fun _ => _) _ _ s
    refine wpAny_bind (T.item i s _ _ lt hst fun v s' pv st' mv => ?_)
    obtain ⟨t, rfl⟩ := hv i v pv
    have hS' := carry hS fun o ho => mv.heap D o hDw ho
    have hx : xs[i]? = some (xs.getD i Str.empty) := by rw [List.getD_eq_getElem?_getD, List.getElem?_eq_getElem lt]; rfl
    generalize xs.getD i Str.empty = x at hx ⊢
    show wpAny _ A.in1 (holding [Value.str x t] (setAdd D (.str x t)) >>= fun _ => _) _ _ s'
    refine wpAny_bind (wpAny_holding ?_)
    unfold setAdd
    refine wpAny_holding (wpAny_bind ((PySem.strKind prog w).pyHash (k := x) (strKind_is _ _ _ _) ?_))
    have room : (firsts (xs.take i)).length + 1 < scanBound := by
      have := met_len (xs := xs.take i) (f := [])
      have l2 : (xs.take i).length ≤ xs.length := by rw [List.length_take]; omega
      unfold firsts
      simp only [List.length_nil] at this
      omega
    refine wpAny_setAddHashed_of (knd := PySem.strKind prog w) (s := { s' with toks := s'.toks + 1 }) (strKind_is _ _ _ _) rfl hS' room fun h' sb hS2 => ?_
    have hSi : h'.SetOf (PySem.strKind prog w) D (fun y => decide (y ∈ firsts (xs.take (i + 1)))) (firsts (xs.take (i + 1))).length := by
      unfold firsts at hS2 ⊢
      rw [met_take hx]
      by_cases hm : x ∈ met [] (xs.take i)
      · rw [if_pos hm]
        refine PyProof.Rows.SetOf_congr hS2 (fun y => ?_) (by rw [if_pos (decide_eq_true hm)])
        by_cases hy : y = x
        · subst hy; simp [hm]
        · simp [hy]
      · rw [if_neg hm]
        refine PyProof.Rows.SetOf_congr hS2 (fun y => ?_) (by rw [if_neg (by simpa using hm)]; simp)
        by_cases hy : y = x
        · subst hy; simp
        · simp [hy]
    refine wpAny_pure ⟨plainId_quiet PyProof.Rows.F.plain_set_update_loop _, ih (i + 1) _ (by omega) lt (T.frame _ s' _ _ st' (Nat.le_succ _) fun b hb o e => ?_) hSi fun s2 mv2 hS3 => ?_⟩
    · rw [sb.2 b (fun z : b = D => hD (z ▸ hb))]; exact e
    · refine hR s2 (Moved.trans T.gtrans ((mv.mono up).then_heap (Nat.le_succ _) fun b o hb e => ?_) mv2) hS3
      rw [sb.2 b (fun z : b = D => hb (z ▸ List.mem_cons_self))]; exact e
set_option maxHeartbeats 3200000 in
theorem set_of_texts {s : Shared} {l : Addr} {its : Array Value} {xs : List Str} {Q : Value → Shared → Prop} (hh : A.handled = none) (hl : s.heap.IsList l its) (hi : PyProof.Rows.StrsAre its.toList xs) (hb : xs.length + 1 < scanBound)
    (h : ∀ (h' : Heap) (tk : Nat), h'.SetOf (PySem.strKind prog w) s.heap.objs.size (fun y => decide (y ∈ firsts xs)) (firsts xs).length → (∀ b o, b < s.heap.objs.size → s.heap.get? b = some o → h'.get? b = some o) → Q (.ref s.heap.objs.size) { s with heap := h', toks := tk }) :
    wpAny (model prog w) A (call (.type "set") [.ref l]) Q E s := by
  have m0 := PySem.F.called_set.mro
  obtain ⟨cc, tl, hmro⟩ := m0
  have hmade := PySem.F.called_set.made
  have hsub := PySem.F.called_set.sub
  have q1 := PySem.F.called_set.notType
  have q2 := PySem.F.called_set.canCreate
  have q3 := PySem.F.typeCall_set_1 (.ref l)
  refine wpAny_call (codeAny_of_tree (?_ : wpAny _ _ (callAny (.type "set") _) _ _ _))
  refine wpAny_pure ⟨Code.quiet_builtin _ (by decide +kernel), codeAny_builtin PySem.F.entry_type_call ?_⟩
  rw [Around.under_plain (weight_type_call_type "set" [.ref l] []) rfl]
  repeat (any_goals (first | assumption | wp_step))
  let ob : Bool → Obj := fun led => { cls := .type "set", dict := none, data := .set #[] 0 (.fresh 0 0 led) }
  refine codeAny_mono (code_set_new_1 (.ref l) (E := E) (Q₁ := fun r s₁ => ∃ led : Bool, r = .ref s.heap.objs.size ∧ s₁ = { s with heap := s.heap.push (ob led) }) fun led => ⟨led, rfl, rfl⟩) fun r s₁ hr => ?_
  match r, hr with
  | .error e, hr => exact hr
  | .ok (.ret r0), hr =>
    obtain ⟨led, rfl, rfl⟩ := hr
    have hS : (s.heap.push (ob led)).get? s.heap.objs.size = some (ob led) := Heap.get?_push_size _ rfl
    have hT : Shared.TypeIs { s with heap := s.heap.push (ob led) } (.ref s.heap.objs.size) "set" := ⟨_, hS, rfl⟩
    have q4 := PySem.F.called_set.init.lookup
    have q5 := PySem.F.called_set.init.bind (.ref s.heap.objs.size)
    repeat (any_goals (first | assumption | wp_step))
    refine codeAny_mono (codeAny_call_builtin (R := wants (fun r s₂ => r = .none ∧ ∃ h' tk, s₂ = { s with heap := h', toks := tk } ∧ h'.SetOf (PySem.strKind prog w) s.heap.objs.size (fun y => decide (y ∈ firsts xs)) (firsts xs).length ∧
        ∀ b o, b < s.heap.objs.size → s.heap.get? b = some o → h'.get? b = some o) E) PySem.F.called_set.init.plain PySem.F.entry_set_init (check_set_init_1 hT ?_)) fun r₂ s₂ hr₂ => ?_
    · obtain ⟨⟨oc, od, odt, osl⟩, hol, hcl, nl, hdl⟩ := hl
      simp only at hcl hdl
      subst hcl; subst hdl
      have hol' := Heap.get?_push_of_some (ob led) hol
      have q6 := PySem.F.sub_list_set
      have q7 := PySem.F.sub_list_frozenset
      have q8 : (Value.type "list" == Value.type "dict") = false := by decide
      have hl1 : (s.heap.push (ob led)).IsList l its := ⟨_, hol', rfl, nl, rfl⟩
      unfold Builtin.«set.__init__» noKeywords Builtin.Frozenset.updateFrom
      generalize hPI : pyIter = PI
      wp_walk
      subst hPI
      refine wpAny_pyIter_list hl1 (wpAny_bind (wpAny_runValue ?_))
      have lS : l < s.heap.objs.size := Heap.lt_size hol
      have hh3 : A.in1.in1.in1.handled = none := by simp [hh]
      have e1 : (s.heap.push (ob led)).objs.size = s.heap.objs.size + 1 := Heap.size_push ..
      have nI : l ≠ (s.heap.push (ob led)).objs.size := fun z => Nat.lt_irrefl _ (Nat.lt_trans (Nat.lt_of_lt_of_eq (Nat.lt_succ_self _) (e1.symm.trans z.symm)) lS)
      have nD : s.heap.objs.size ∉ [(s.heap.push (ob led)).objs.size, l] := by
        rw [e1]
        intro hm
        rcases List.mem_cons.mp hm with z | z
        · exact absurd z (Nat.ne_of_lt (Nat.lt_succ_self _))
        · exact absurd (List.mem_singleton.mp z).symm (Nat.ne_of_lt lS)
      have n1 : its.size = xs.length := by rw [← StrsAre.len_eq hi, Array.length_toList]
      have W1 := (Walks.list (prog := prog) (w := w) hh3 (s.heap.push (ob led)).objs.size l nI its).toS
      rw [n1] at W1
      refine set_turns W1 nD (fun i v hv => SS.strs_at hi i v (by rw [Array.getElem?_toList]; exact hv)) hb (xs.length - 0) 0 _ (by omega) (Nat.zero_le _) ⟨⟨_, Heap.get?_push_size _ rfl, rfl, rfl⟩, hl1.push _⟩ ?hS0 ?hR
      case hS0 =>
        refine PyProof.Rows.SetOf_congr ((PyProof.Rows.setObjOf_fresh (knd := PySem.strKind prog w) led).setOf (Heap.get?_push_of_some _ hS) (by unfold scanBound; omega)) (fun y => ?_) rfl
        show false = decide (y ∈ ([] : List Str))
        simp
      case hR =>
        intro s' mv hS'
        obtain ⟨h', g', d', tk', os'⟩ := s'
        obtain rfl : g' = s.gens := mv.gens
        obtain rfl : d' = s.drawn := mv.drawn
        obtain rfl : os' = s.os := mv.os
        have fin : ∀ b o, b < s.heap.objs.size → s.heap.get? b = some o → h'.get? b = some o := fun b o hb e => by
          refine mv.heap b o (fun hm => ?_) (Heap.get?_push_of_some _ (Heap.get?_push_of_some _ e))
          rw [e1] at hm
          rcases List.mem_cons.mp hm with z | z
          · exact Nat.lt_irrefl _ (z ▸ hb)
          · exact Nat.lt_irrefl _ (Nat.lt_trans (Nat.lt_of_lt_of_eq (Nat.lt_succ_self _) (List.mem_singleton.mp z).symm) hb)
        show wpAny _ _ _ _ _ _
        refine wpAny_pure ?_
        show wpAny _ _ (ret Value.none) _ _ _
        exact wpAny_pure ⟨rfl, h', tk', rfl, hS', fin⟩
    · match r₂, hr₂ with
      | .error e, hr₂ => exact hr₂
      | .ok (.ret r1), hr₂ =>
        obtain ⟨rfl, h', tk, rfl, hS', hk'⟩ := hr₂
        repeat (any_goals (first | assumption | wp_step))
        exact h _ _ hS' hk'
end
/-- len(set(xs)) of texts -/
def tLenSetS (K : PySem.W.Frag) (ta : TE) : TE := fun σ H Q => ta σ H fun x H1 => ∃ l, ∃ xs : List Str, x = .ref l ∧ SqL K H1 l (xs.map V.str) ∧ xs.length < 1000 ∧ Q (.int (firsts xs).length) H1
theorem pe_lenSetS {X : Cx} {a : Expr} {ta : TE} {p p2 q pos : Pos} (hc : X.calm = true) (hg : Gl X "len") (hm : X.mg "len" = none) (hg2 : Gl X "set") (hm2 : X.mg "set" = none) (ha : PE X a ta) (na : starEach [a] X.env = (false, eval a X.env) :: starEach [] X.env := by rfl) :
    PE X (.Call (.Name "len" p) [.Call (.Name "set" p2) [a] [] q] [] pos) (tLenSetS X.K ta) := by
  refine ⟨fun pins s σ H Q I h => ?_⟩
  refine Call_ (ld_blt I hg hm boot_len (PyProof.Rows.callWith_builtin1 (PyProof.Rows.args_cons ?_ rfl) rfl rfl))
  refine Call_ (ld_blt I hg2 hm2 boot_set ?_)
  refine PyProof.Rows.callWith_type1 (PyProof.Rows.args_cons (thn (ha.run pins s σ H _ I h) fun v s1 ⟨x, H1, I1, r1, q1⟩ => PyProof.Rows.args_nil ?_) na) na rfl
  obtain ⟨l, xs, rfl, hq, h1, q1⟩ := q1
  cases r1
  obtain ⟨its, r, pl, hz⟩ := I1.list hq
  have hfl : (firsts xs).length ≤ xs.length := by have := met_len (xs := xs) (f := []); unfold firsts; simpa using this
  refine set_of_texts (I1.ok.hd hc) pl.isList (by simpa using strsAre_of r) (by unfold scanBound; omega) fun h' tk hS hk => ?_
  refine PyProof.Rows.args_nil ?_
  obtain ⟨o, es, ep, t, ho, hex, hd, _, _, _, hf, hn⟩ := hS
  have I2 : Inv X pins σ H1 { s1 with heap := h', toks := tk } := I1.kept fun b o e => hk b o (Heap.lt_size e) e
  exact call_len_set ho hex hd hf (by rw [hn]; omega) ⟨.int (firsts xs).length, H1, I2.tok _, ⟨_, by rw [hn]⟩, q1⟩
section
variable {W : Wd} {M : List Addr} {σ : L2.St} {H : Hp} {ta : TE}
theorem ev_lenSetS {xs : List Str} (ha : Ev W M ta σ H xs) (hl : xs.length < 1000) : Ev W M (tLenSetS W.K ta) σ H ((firsts xs).length : Int) := fun H1 e ok Q q =>
  ha H1 e ok _ fun v H2 e2 r => by
    obtain ⟨a, vs, ev, hh, _, _, pp⟩ := r.lst
    exact ⟨a, xs, ev, SqL.of (by rw [hh, paired_toV pp]; rfl), hl, q _ H2 e2 rep_int⟩
theorem firsts_nd {xs : List Str} : (firsts xs).length = xs.length ↔ xs.Nodup := by
  have := met_nodup (xs := xs) (f := []) List.nodup_nil
  simpa [firsts] using this
end
end RG
namespace RG
open PySem PySem.Spec PyProof.Rows L2 StX RZ
section
variable {X : Cx} {k : Nat} {C : Addr} {m : Str} {ps : List Str} {sp : Sp} {a b : Expr} {ta tb : TE} {pos : Pos}
/-! ### a + b, a[b] of own classes -/
/-- x op y by the class's own word, y of the same class -/
def rBinOwn (C : Addr) (sp : Sp) : R2 := fun x y H Q => ∃ a dx fs b dy gs, x = .ref a ∧ y = .ref b ∧ H a = some (.ins C dx fs) ∧ H b = some (.ins C dy gs) ∧ sp [x, y] H (fun z H' => (∃ p, z = .ref p) ∧ Q z H') E0
theorem op_binOwn {op : Operator} (c : OwnC X.prog X.w X.K X.mg X.base k C (PySem.dunder op.info.2) ps sp) (hc : PySem.W.selfFirst X.K C = true) (hr : Room k X.A) : OpR X (binaryOp op) (rBinOwn C sp) := by
  intro pins s σ H x y v u Q I rx ry h
  obtain ⟨a, dx, fs, b, dy, gs, rfl, rfl, ha, hb, q⟩ := h
  cases (show v = Value.ref a from rx)
  cases (show u = Value.ref b from ry)
  obtain ⟨mA, O, _⟩ := ins_get I.hok ha
  obtain ⟨od, J, _⟩ := O.look
  obtain ⟨mB, OB, _⟩ := ins_get I.hok hb
  obtain ⟨odb, JB, _⟩ := OB.look
  obtain ⟨m, hF⟩ := I.fr
  refine PySem.W.binop_K hF I.ok.mod.kin J JB.type hc c.fi c.fn (wpAny_mono (wpAny_call (run_fnR (us := [.ref a, .ref b]) (vs := [.ref a, .ref b]) (fnR_of c.ok c.b) hr pass0 I (.cons rfl (.cons rfl .nil)) q)) (fun r s' z => ?_) fun _ _ x => x)
  obtain ⟨z', H', I', rz, ⟨p, ez⟩, qz⟩ := z
  subst ez
  cases (show r = Value.ref p from rz)
  exact ⟨.ref p, H', I', rfl, qz⟩
/-- a[b] by the class's own word -/
def rIxOwn (C : Addr) (sp : Sp) : R2 := fun x y H Q => ∃ a dx fs, x = .ref a ∧ H a = some (.ins C dx fs) ∧ sp [x, y] H Q E0
theorem pe_ixOwn (c : OwnC X.prog X.w X.K X.mg X.base k C "__getitem__" ps sp) (hr : Room (k + 1) X.A) (hk : PySem.W.fnIn X.K c.f = true) (ha : PE X a ta) (hb : PE X b tb)
    (hs : ∀ x i, subscripted b true (.ref x) i = runValue (.builtin "lifetime.subscript" ⟨[.ref x, i], []⟩)) : PE X (.Subscript a b pos) (tOp (rIxOwn C sp) ta tb) := by
  refine ⟨fun pins s σ H Q I h => ?_⟩
  refine Subscript_ (binT ha hb I h fun v u s2 x y H2 I2 rx ry q => ?_)
  obtain ⟨p, dx, fs, rfl, hp, q⟩ := q
  cases (show v = Value.ref p from rx)
  obtain ⟨mA, O, _⟩ := ins_get I2.hok hp
  obtain ⟨od, J, _⟩ := O.look
  obtain ⟨m, hF⟩ := I2.fr
  refine PySem.W.sub_K hF I2.ok.mod.kin J c.fi hk c.fn ?_ (hs _ _)
  exact wpAny_call (SlX.run_at (us := [.ref p, u]) (ws := [.ref p, y]) (fnR_of c.ok c.b) hr.in1 I2.env0.in1 pass0 I2 (.cons rfl (.cons ry .nil)) q)
end
section
variable {α β γ : Type} [Py α] [Py β] [Py γ] {W : Wd} {M : List Addr} {σ : L2.St} {H : Hp} {ta tb : TE}
theorem ev_binOwn {ω : Type} [PyO ω] {o o' : ω} {pre : ω → ω → Prop} {f : ω → ω → ω} (ha : Ev W M ta σ H o) (hb : Ev W M tb σ H o') (hp : pre o o') : Ev W M (tOp (rBinOwn (W.C (PyO.cn ω)) (F2 W.K W.C pre f)) ta tb) σ H (f o o') := fun H1 e ok Q q =>
  ha H1 e ok _ fun v H2 e2 r => hb H2 (e.trans e2) (ok.ex e2) _ fun u H3 e3 r3 => by
    obtain ⟨a, dx, fs, ev, hh, _⟩ := (r.up e3).ins
    obtain ⟨b, dy, gs, eu, hh', _⟩ := r3.ins
    refine ⟨a, dx, fs, b, dy, gs, ev, eu, hh, hh', W, M, v, u, o, o', rfl, rfl, rfl, (ok.ex e2).ex e3, r.up e3, r3, hp, fun r H4 e4 rr => ?_⟩
    obtain ⟨p, _, _, ep, _⟩ := rr.ins
    exact ⟨⟨p, ep⟩, q r H4 ((e2.trans e3).trans e4) rr⟩
theorem ev_ixOwn {ω : Type} [PyO ω] {o : ω} {x : α} {pre : ω → α → Prop} {f : ω → α → β} (ha : Ev W M ta σ H o) (hb : Ev W M tb σ H x) (hp : pre o x) : Ev W M (tOp (rIxOwn (W.C (PyO.cn ω)) (F2 W.K W.C pre f)) ta tb) σ H (f o x) := fun H1 e ok Q q =>
  ha H1 e ok _ fun v H2 e2 r => hb H2 (e.trans e2) (ok.ex e2) _ fun u H3 e3 r3 => by
    obtain ⟨a, dx, fs, ev, hh, _⟩ := (r.up e3).ins
    exact ⟨a, dx, fs, ev, hh, W, M, v, u, o, x, rfl, rfl, rfl, (ok.ex e2).ex e3, r.up e3, r3, hp, fun r H4 e4 rr => q r H4 ((e2.trans e3).trans e4) rr⟩
end
end RG
namespace RG
open PySem PySem.Spec PyProof.Rows L2 StX RZ
/-! ### promises that know how great the heap was -/
def FnRS (P : Program) (w : World) (K : PySem.W.Frag) (mg : Str → Option Value) (base : Heap) (k : Nat) (f : Addr) (sp : Nat → Sp) : Prop :=
  ∀ (A : Around) (outer : List Env) (s : Shared) (H : Hp) (us : List Value) (vs : List V) (Q : VK) (E : XK), Room k A → Env0 P w K mg base A outer s H → Vals vs us → sp s.heap.objs.size vs H Q E → codeAny (model P w) A (.call (.ref f) ⟨us, []⟩) (CR CX0 outer P w H s Q E) s
section
variable {P : Program} {w : World} {K : PySem.W.Frag} {mg : Str → Option Value} {base : Heap}
theorem fun_sized {x qual : Str} {st : Stmt} {f : Addr} {fd : FuncData} {N ps : List Str} {k : Nat} {sp : Nat → Sp} (F : Fun K x qual st f fd) (S : FnScope N ps (defScope st)) (bi : Binds K fd ps []) (len : ∀ n vs H Q E, sp n vs H Q E → vs.length = ps.length)
    (hbody : ∀ (cdv : Value) (A : Around) (outer : List Env) (s : Shared) (H : Hp) (vs : List V) (Q : VK) (E : XK), Room k (A.deeper (envOfC qual (defScope st) s.heap.objs.size f cdv)) → sp s.heap.objs.size vs H Q E →
      ∃ t, PSs (cxOf CX0 P w K mg base N qual (defScope st) f cdv A outer s H E).nox (defBody st) t ∧ t { nx := fun _ H' => Q .non H', rt := Q } (start N vs) H) : FnRS P w K mg base (k + 1) f sp := by
  obtain ⟨oc, od, kV, doc, pm, an, cdv, ct, osl, rfl, lk, hcd⟩ := F.ex
  intro A outer s H us vs Q E hr e0 r hsp
  have hl := len _ _ _ _ _ hsp
  have KX : K.In s.heap := e0.mod.kin.keeps fun b o z => (e0.bs b o z).1
  have NL : s.heap.NoLimit := e0.mod.nolimit.keeps fun b o z => (e0.bs b o z).1
  have ub : us.length = ps.length := by rw [← r.length]; exact hl
  have par : ∀ y ∈ ps.zip us, (defScope st).names.lookup y.1 = some .local ∨ ((defScope st).names.lookup y.1 = some .cell ∧ ((cellsFrom (s.heap.objs.size + 1) (defScope st).names []).lookup y.1).isSome = true) := by
    rintro ⟨n, v⟩ hy
    exact (S.par n (List.of_mem_zip hy).1).imp id fun q => ⟨q, PySem.W.cellsFrom_some _ _ _ (.inl q)⟩
  refine codeAny_call_function hr.depth (KX _ _ lk) rfl S.co S.gen rfl (PySem.W.codeRec_of KX hcd) ((by simpa using bi s us KX (by simpa using ub) : BindsTo s _ ⟨us, []⟩ (ps.zip us)) _ _ _ _ ?_)
  refine wpAny_newFunctionEnv_cells S.kind par fun env he s1 z => ?_
  subst he
  refine ⟨NL.keeps z.toInCall.keep, codeAny_func ?_⟩
  obtain ⟨t, ht, hq⟩ := hbody cdv A outer s H vs Q E (hr.deeper _) hsp
  refine wpAny_mono (ht.nox.run [] s1 (start N vs) H _ (inv_start S hr.hd e0 hl r z) hq) (fun fl s' hs => ?_) fun e s' hs => hs
  match fl, hs with
  | .ret u, ⟨v, σ', H', J, rv, q⟩ => exact ⟨v, H', J.os, J.bare, J.base, J.hok, rv, q⟩
  | .next, ⟨σ', H', J, q⟩ => exact ⟨.non, H', J.os, J.bare, J.base, J.hok, rfl, q⟩
  | .brk, ⟨_, _, _, q⟩ => exact q.elim
  | .cont, ⟨_, _, _, q⟩ => exact q.elim
end
end RG
namespace RG
open PySem PySem.Spec PyProof.Rows L2 StX RZ
/-! ### iter(a tuple), and loops over instances whose __iter__ gives such a one -/
def TuIt (l it : Addr) : HO := .ext fun h => h.IsTupleIter it l 0
theorem tuIt_ok {P : Program} {w : World} {H : Hp} {h : Heap} {l it : Addr} (e : h.IsTupleIter it l 0) : ObjOk P w H h it (TuIt l it) :=
  ⟨e, (let ⟨o, ho, _⟩ := e; ⟨o, ho⟩), fun h1 h2 q k => let ⟨o, ho, r⟩ := q; ⟨o, k _ ho, r⟩⟩
theorem iter_tuple {prog : Program} {w : World} {A : Around} {E : Value → Shared → Prop} {s : Shared} {l : Addr} {its : Array Value} {Q : Value → Shared → Prop} (hl : s.heap.IsTuple l its)
    (h : Q (.ref s.heap.objs.size) { s with heap := s.heap.push { cls := .type "tuple_iterator", data := .fields #[.ref l, .int 0 0] } }) : wpAny (model prog w) A (call (.builtin "iter") [.ref l]) Q E s := by
  refine Calls.call_function_entry (by decide +kernel) (by decide +kernel) PySem.W.kdk_entry_iter (PySem.W.kdk_args_iter _) ?_
  unfold Builtin.«iter»
  refine wpAny_bind (m := someArgs "iter" 1 2 _) (wpAny_of_eq (a := [Value.ref l]) (by first | rfl | kernel_rfl!) ?_)
  show wpAny _ _ (pyIter (.ref l) >>= fun _ => _) _ _ _
  exact wpAny_bind (wpAny_pyIter_tuple hl (wpAny_pure ⟨_, rfl, h⟩))
def rIterT (K : PySem.W.Frag) (n : Nat) : List V → Hp → VK → Prop := fun xs H Q => ∃ (l : Addr) (zs : List V), xs = [.ref l] ∧ SqT K H l zs ∧ ∀ it, H it = none → n ≤ it → Q (.ref it) (upd H it (TuIt l it))
theorem cIterT {X : Cx} : CallR X (.builtin "iter") (rIterT X.K X.s_0.heap.objs.size) := by
  intro pins s σ H xs us Q I r h
  obtain ⟨l, zs, rfl, hq, q⟩ := h
  obtain ⟨u, rfl, ru⟩ := r.one
  cases ru
  obtain ⟨its, rv, pl, hz⟩ := I.tuple hq
  refine iter_tuple (show s.heap.IsTuple l its.toArray from pl) ?_
  exact ⟨.ref s.heap.objs.size, _, I.laid (t' := s.toks) (fun b u e => Heap.get?_push_of_some _ e) (Nat.le_refl _) (tuIt_ok ⟨_, Heap.get?_push_size _ rfl, rfl, rfl⟩), rfl, q _ (I.hok.fresh (Nat.le_refl _)) I.sz⟩
/-- an own __iter__: it gives a new iterator over a tuple -/
def IterP {ω α : Type} [Py ω] [Py α] (K : PySem.W.Frag) (C : Str → Addr) (g : ω → Tup α) (n : Nat) : Sp := fun vs H Q _ => ∃ (W : Wd) (M : List Addr) (v : V) (x : ω), W.K = K ∧ W.C = C ∧ vs = [v] ∧ Ok W M H ∧ Rep W M H v x ∧
  ∀ l it H', Ex W [] H H' → Rep W M H' (.ref l) (g x) → H' it = none → n ≤ it → Q (.ref it) (upd H' it (TuIt l it))
structure ItrC (P : Program) (w : World) (K : PySem.W.Frag) (mg : Str → Option Value) (base : Heap) (k : Nat) (C : Addr) (sp : Nat → Sp) where
  f : Addr
  ok : FnRS P w K mg base k f sp
  fi : PySem.W.findIn K (.ref C) "__iter__" = some (some (.ref f))
  fn : PySem.W.isFn K (.ref f) = true
def iOwnIt (K : PySem.W.Frag) (C : Addr) (sp : Nat → Sp) (te : TE) : TI := fun σ H R => te σ H fun x H1 => ∃ a dx fs, x = .ref a ∧ H1 a = some (.ins C dx fs) ∧ ∀ n, sp n [.ref a] H1 (fun z H2 => ∃ it l, z = .ref it ∧ n ≤ it ∧ H2 it = some (TuIt l it) ∧ (∃ xs, SqT K (ItX.dropH H2 it) l xs) ∧ R (Itt K l) (ItX.dropH H2 it)) E0
theorem pi_ownIt {X : Cx} {k : Nat} {C : Addr} {sp : Nat → Sp} {tg e : Expr} {te : TE} (c : ItrC X.prog X.w X.K X.mg X.base k C sp) (hr : Room k X.A) (he : PE X e te) : PI X tg e (iOwnIt X.K C sp te) := by
  refine ⟨fun pins s σ H R I h => ?_⟩
  refine thn (he.run pins s σ H _ I h) fun v s1 ⟨x, H1, I1, r1, q1⟩ => ?_
  obtain ⟨a, dx, fs, rfl, ha, q⟩ := q1
  cases (show v = Value.ref a from r1)
  obtain ⟨mA, O, _⟩ := ins_get I1.hok ha
  obtain ⟨od, J, _⟩ := O.look
  obtain ⟨m, hF⟩ := I1.fr
  refine PySem.W.owit_iter hF I1.ok.mod.kin J c.fi c.fn (wpAny_call (codeAny_mono (c.ok X.A X.stack s1 H1 [.ref a] [.ref a] _ E0 hr I1.env0 (.cons rfl .nil) (q _)) fun r s' hq => ?_))
  cases r with
  | error e => exact hq.elim
  | ok fl =>
    cases fl with
    | next => exact False.elim hq
    | brk => exact False.elim hq
    | cont => exact False.elim hq
    | ret u =>
      obtain ⟨z, H2, I2, rz, it, l, ez, hn, hit, ⟨xs, hs⟩, hR⟩ := I1.after hq
      subst ez
      cases (show u = Value.ref it from rz)
      have hti : s'.heap.IsTupleIter it l 0 := (I2.hok it _ hit).1
      have I3 := ItX.inv_drop I2 hit
      show PySem.W.OwitIt _ _ _ _ _ _
      unfold PySem.W.OwitIt
      refine wpAny_specialOf (name := Str.ofString "__next__") hti.typeIs F.slot_tuple_iterator_next.lookup ?_
      exact ⟨it, [it], _, _, ItX.dropH H2 it, rfl, I3, turn_tuple l it, hti, fun b hb => by
        have e : b = it := by simpa using hb
        rw [e]
        exact ItX.inv_fp I2 hit (Nat.le_trans I1.sz hn), hR⟩
theorem ei_ownIt {ω α : Type} [PyO ω] [Py α] {W : Wd} {M : List Addr} {σ : L2.St} {H : Hp} {te : TE} {o : ω} {g : ω → Tup α} (h : Ev W M te σ H o) : Ei W M (iOwnIt W.K (W.C (PyO.cn ω)) (IterP W.K W.C g) te) σ H (g o).l := fun H1 e ok R q =>
  h H1 e ok _ fun v H2 e2 r => by
    obtain ⟨a, dx, fs, rfl, hh, _⟩ := r.ins
    refine ⟨a, dx, fs, rfl, hh, fun n => ⟨W, M, .ref a, o, rfl, rfl, rfl, ok.ex e2, r, fun l it H' e' rl hit hn => ?_⟩⟩
    refine ⟨it, l, rfl, hn, upd_same, ?_⟩
    rw [ItX.dropH_upd hit]
    have z := ei_tup (M := M) (xs := g o) (tl := fun _ H Q => Q (.ref l) H) (σ := σ) (H := H') (fun H3 e3 ok3 Q3 q3 => q3 _ H3 Ex.refl (rl.up e3)) H' Ex.refl ((ok.ex e2).ex e') R fun J S H3 e3 => q J S H3 ((e2.trans e').trans e3)
    obtain ⟨b, eb, p, z⟩ := z
    cases eb
    exact ⟨p, z⟩
end RG
namespace RG
open PySem PySem.Spec PyProof.Rows L2 StX RZ
/-! ### tuples of texts that stand as such: keys -/
structure TupK where
  l : List Str
  deriving DecidableEq
instance : Inhabited TupK := ⟨⟨[]⟩⟩
instance : Py TupK := ⟨fun _ H v x => ∃ a, v = .ref a ∧ H a = some (.tup (x.l.map V.str)), fun q ⟨a, e, h⟩ => ⟨a, e, q.ex _ _ h⟩⟩
theorem map_str_dat {K : PySem.W.Frag} {H : Hp} : ∀ l : List Str, DpAll K H (l.map V.str) (l.map PyData.str)
  | [] => .nil
  | _ :: t => .cons (.str _) (map_str_dat t)
instance : PyD TupK where
  dat x := .tuple (x.l.map PyData.str)
  dp h := by
    obtain ⟨a, e, h⟩ := h
    rw [e]; exact .tup (.inl (.inl h)) (map_str_dat _)
  eqv x y := by
    have : PyData.eqv (.tuple (x.l.map PyData.str)) (.tuple (y.l.map PyData.str)) = true ↔ Tup.mk x.l = Tup.mk y.l := PyD.eqv (Tup.mk x.l) (Tup.mk y.l)
    rw [this]
    cases x; cases y; simp
  dep := 1
  depth x := PyD.depth (Tup.mk x.l)
section
variable {W : Wd} {M : List Addr} {σ : L2.St} {H : Hp} {ta tb te : TE} {tr : TA} {v : V} {x y : TupK}
theorem Rep.tk (h : Rep W M H v x) : Rep W M H v (Tup.mk x.l) := by
  obtain ⟨a, e, h⟩ := h
  exact ⟨a, _, e, .inl h, toV_paired (α := Str) (W := W) (M := M) (H := H)⟩
theorem Ev.tk (h : Ev W M te σ H x) : Ev W M te σ H (Tup.mk x.l) := h.cv fun _ _ r => r.tk
theorem Rep.tupK (h : Rep W M H v x) : ∃ a, v = .ref a ∧ H a = some (.tup (x.l.map V.str)) ∧ a ≠ W.b ∧ a ∉ M := by
  obtain ⟨a, e, h⟩ := h
  obtain ⟨h1, h2, h3⟩ := cut_some.mp h
  exact ⟨a, e, h3, h1, h2⟩
theorem rep_tupK {a : Addr} (h : H a = some (.tup (x.l.map V.str))) (hb : a ≠ W.b) (hm : a ∉ M) : Rep W M H (.ref a) x := ⟨a, rfl, cut_some.mpr ⟨hb, hm, h⟩⟩
theorem ev_tupK {xs : List Str} (h : Ea W M tr σ H xs) (hl : xs.length ≤ 1000000) : Ev W M (tTup tr) σ H (TupK.mk xs) := fun H1 e ok Q q =>
  h H1 e ok _ fun vs H2 e2 pp => ⟨by rw [Pd.length pp]; exact sz hl, fun l hp => q _ _ (e2.trans (Ex.new hp)) (rep_tupK (by rw [upd_same, paired_toV pp]; rfl) ((ok.ex e2).new_b hp) ((ok.ex e2).new_M hp))⟩
theorem ev_catK (ha : Ev W M ta σ H x) (hb : Ev W M tb σ H y) (hl : x.l.length + y.l.length ≤ 1000000) : Ev W M (tOp (rCatA W.K) ta tb) σ H (TupK.mk (x.l ++ y.l)) := fun H1 e ok Q q =>
  ha H1 e ok _ fun v H2 e2 r => hb H2 (e.trans e2) (ok.ex e2) _ fun u H3 e3 r3 => by
    obtain ⟨a, rfl, hh, hb, hm⟩ := (r.up e3).tupK
    obtain ⟨a', rfl, hh', hb', hm'⟩ := r3.tupK
    have ok3 := (ok.ex e2).ex e3
    refine ⟨a, a', _, _, rfl, rfl, .inl (.inl hh), .inl (.inl hh'), by rw [List.length_map, List.length_map]; exact sz hl, fun z => ?_, fun _ z => ?_, fun _ _ l hp => ?_⟩
    · have : x.l = [] := List.map_eq_nil_iff.mp z
      exact q _ _ (e2.trans e3) (rep_tupK (by rw [this]; exact hh') hb' hm')
    · have : y.l = [] := List.map_eq_nil_iff.mp z
      exact q _ _ (e2.trans e3) (rep_tupK (by rw [this, List.append_nil]; exact hh) hb hm)
    · exact q _ _ ((e2.trans e3).trans (Ex.new hp)) (rep_tupK (by rw [upd_same, List.map_append]) (ok3.new_b hp) (ok3.new_M hp))
theorem ea_starK {xs : TupK} {ys : List Str} (ha : Ev W M ta σ H xs) (hr : Ea W M tr σ H ys) : Ea W M (tStar W.K ta tr) σ H (xs.l ++ ys) := ea_starT ha.tk hr
end
/-! ### dicts whose keys are tuples of texts -/
structure Dk (ν : Type) where
  kvs : List (List Str × ν)
instance {ν : Type} [Py ν] : Py (Dk ν) := ⟨fun W H v x => ∃ a ws, v = .ref a ∧ H a = some (.dT ws) ∧ Paired (fun (w : List L2.Key × V) (p : List Str × ν) => w.1 = p.1.map Sum.inr ∧ Py.rep W H w.2 p.2) ws x.kvs,
  fun q ⟨a, ws, e, h, p⟩ => ⟨a, ws, e, q.ex _ _ h, paired_mono (fun _ _ r => ⟨r.1, Py.mono q r.2⟩) p⟩⟩
end RG
namespace RG
open PySem PySem.Spec PyProof.Rows L2 StX RZ
/-! ### dicts from tuples of texts to whole numbers -/
structure Di where
  kvs : List (List Str × Int)
  deriving DecidableEq
def encD (l : List (List Str × Int)) : List (List L2.Key × V) := l.map fun p => (p.1.map Sum.inr, .int p.2)
instance : Py Di := ⟨fun _ H v x => ∃ a, v = .ref a ∧ H a = some (.dT (encD x.kvs)), fun q ⟨a, e, h⟩ => ⟨a, e, q.ex _ _ h⟩⟩
theorem map_inr_inj : ∀ {a b : List Str}, (a.map Sum.inr : List L2.Key) = b.map Sum.inr → a = b
  | [], [], _ => rfl
  | [], _ :: _, h => by simp at h
  | _ :: _, [], h => by simp at h
  | x :: t, y :: s, h => by
    rw [List.map_cons, List.map_cons] at h
    injection h with h1 h2
    injection h1 with h1
    rw [h1, map_inr_inj h2]
theorem valV_enc (k : List Str) : ∀ l : List (List Str × Int), valV (encD l) (k.map Sum.inr) = (l.lookup k).map V.int
  | [] => rfl
  | (a, n) :: t => by
    have ih := valV_enc k t
    by_cases h : k = a
    · subst h
      simp [encD, valV]
    · have hb : (k == a) = false := beq_eq_false_iff_ne.mpr h
      rw [List.lookup_cons, hb, ← ih]
      have hn : ¬ (a.map Sum.inr : List L2.Key) = k.map Sum.inr := fun e => h (map_inr_inj e).symm
      simp [encD, valV, hn]
theorem Rep.di {W : Wd} {M : List Addr} {H : Hp} {v : V} {x : Di} (h : Rep W M H v x) : ∃ a, v = .ref a ∧ H a = some (.dT (encD x.kvs)) ∧ a ≠ W.b ∧ a ∉ M := by
  obtain ⟨a, e, h⟩ := h
  obtain ⟨h1, h2, h3⟩ := cut_some.mp h
  exact ⟨a, e, h3, h1, h2⟩
theorem map_kV (l : List Str) : l.map V.str = (l.map Sum.inr : List L2.Key).map kV := by rw [List.map_map]; rfl
section
variable {W : Wd} {M : List Addr} {σ : L2.St} {H : Hp} {ta tb tc : TE} {x : Di} {k : TupK} {n : Int}
/-- d.get(k, n) -/
theorem ev_dgetI (ha : Ev W M ta σ H x) (hb : Ev W M tb σ H k) (hc : Ev W M tc σ H n) : Ev W M (tDGet2 ta tb tc) σ H ((x.kvs.lookup k.l).getD n) := fun H1 e ok Q q =>
  ha H1 e ok _ fun v H2 e2 r => by
    obtain ⟨a, rfl, hh, _⟩ := r.di
    refine ⟨a, rfl, .inr ⟨_, .inl hh⟩, hb H2 (e.trans e2) (ok.ex e2) _ fun u H3 e3 r3 => hc H3 ((e.trans e2).trans e3) ((ok.ex e2).ex e3) _ fun w H4 e4 r4 => ?_⟩
    obtain ⟨a', ea, hh', _⟩ := (r.up (e3.trans e4)).di
    cases ea
    obtain ⟨b, rfl, hb', _⟩ := (r3.up e4).tupK
    refine ⟨_, .inr ⟨_, k.l.map Sum.inr, b, .inl hh', rfl, by rw [hb', map_kV], rfl⟩, ?_⟩
    rw [valV_enc]
    refine q _ H4 ((e2.trans e3).trans e4) ?_
    cases x.kvs.lookup k.l with
    | none => exact r4
    | some m => exact rep_int
/-- k in d -/
theorem et_din {k : TupK} (hb : Ev W M tb σ H k) (ha : Ev W M ta σ H x) : Et W M (tTest (tDIn tb ta)) σ H ((x.kvs.lookup k.l).isSome) := fun H1 e ok Q q =>
  hb H1 e ok _ fun u H2 e2 r2 => ha H2 (e.trans e2) (ok.ex e2) _ fun v H3 e3 r => by
    obtain ⟨a, rfl, hh, _⟩ := r.di
    obtain ⟨b, rfl, hb', _⟩ := (r2.up e3).tupK
    refine ⟨a, _, rfl, .inr ⟨_, k.l.map Sum.inr, b, .inl hh, rfl, by rw [hb', map_kV], rfl⟩, _, rfl, ?_⟩
    rw [valV_enc, Option.isSome_map]
    exact q H3 (e2.trans e3)
/-- d[k] -/
theorem ev_dixI {k : TupK} {m : Int} (ha : Ev W M ta σ H x) (hb : Ev W M tb σ H k) (hm : x.kvs.lookup k.l = some m) : Ev W M (tDGet ta tb) σ H m := fun H1 e ok Q q =>
  ha H1 e ok _ fun v H2 e2 r => hb H2 (e.trans e2) (ok.ex e2) _ fun u H3 e3 r3 => by
    obtain ⟨a, rfl, hh, _⟩ := (r.up e3).di
    obtain ⟨b, rfl, hb', _⟩ := r3.tupK
    exact ⟨a, .int m, rfl, .inr ⟨_, k.l.map Sum.inr, b, .inl hh, rfl, by rw [hb', map_kV], by rw [valV_enc, hm]; rfl⟩, q _ H3 (e2.trans e3) rep_int⟩
end
/-! ### a dict that is filled -/
def putL (l : List (List Str × Int)) (k : List Str) (n : Int) : List (List Str × Int) := if (l.any fun p => decide (p.1 = k)) = true then l.map (fun p => if p.1 = k then (p.1, n) else p) else l ++ [(k, n)]
theorem enc_put (l : List (List Str × Int)) (k : List Str) (n : Int) : encD (putL l k n) = putK (encD l) (k.map Sum.inr) (.int n) := by
  have ek : ∀ a : List Str, ((a.map Sum.inr : List L2.Key) = k.map Sum.inr) ↔ a = k := fun a => ⟨map_inr_inj, fun e => by rw [e]⟩
  have ha : ((encD l).any fun kv => decide (kv.1 = (k.map Sum.inr : List L2.Key))) = l.any fun p => decide (p.1 = k) := by
    unfold encD
    rw [List.any_map]
    congr 1
    funext p
    show decide ((p.1.map Sum.inr : List L2.Key) = k.map Sum.inr) = _
    simp [ek]
  unfold putK putL
  rw [ha]
  by_cases h : (l.any fun p => decide (p.1 = k)) = true
  · rw [if_pos h, if_pos h]
    unfold encD
    rw [List.map_map, List.map_map]
    refine List.map_congr_left fun p _ => ?_
    show _ = (if (p.1.map Sum.inr : List L2.Key) = k.map Sum.inr then ((p.1.map Sum.inr : List L2.Key), V.int n) else _)
    by_cases hp : p.1 = k
    · rw [if_pos ((ek _).mpr hp)]
      simp [hp]
    · rw [if_neg (fun z => hp ((ek _).mp z))]
      simp [hp]
  · rw [if_neg h, if_neg h]
    unfold encD
    rw [List.map_append]; rfl
structure AccD (W : Wd) (M : List Addr) (σ : L2.St) (H : Hp) (k : Nat) (p : Addr) (l : List (List Str × Int)) : Prop where
  at_ : σ[k]? = some (some (.ref p))
  nb : p ≠ W.b
  nbl : p ≠ W.bl
  mem : p ∈ M
  it : H p = some (.dT (encD l))
section
variable {α : Type} [Py α] {W : Wd} {M M' N : List Addr} {σ : L2.St} {H H' : Hp} {k i : Nat} {p : Addr} {l : List (List Str × Int)} {D : Ends} {te tk : TE} {v : V} {key : TupK} {n : Int}
theorem AccD.up (h : AccD W M σ H k p l) (e : Ex W [] H H') : AccD W M σ H' k p l := ⟨h.at_, h.nb, h.nbl, h.mem, e.keep _ _ h.nb (by simp) h.it⟩
theorem AccD.setσ (h : AccD W M σ H k p l) (q : k ≠ i := by decide) : AccD W M (σ.set i (some v)) H k p l := ⟨by rw [List.getElem?_set_ne (Ne.symm q)]; exact h.at_, h.nb, h.nbl, h.mem, h.it⟩
theorem AccD.out (h : AccD W N σ H k p l) (hm : p ∉ M) : Sl W M σ H k (Di.mk l) := ⟨.ref p, h.at_, p, rfl, cut_some.mpr ⟨h.nb, hm, h.it⟩⟩
/-- d = {} -/
theorem s_dnew (ok : Ok W M H) (hk : k < σ.length) (q : ∀ p H', H p = none → Ex W [] H H' → Le (cut W M H) (cut W (p :: M) H') → Ok W (p :: M) H' → AccD W (p :: M) (σ.set k (some (.ref p))) H' k p [] → D.nx (σ.set k (some (.ref p))) H') : tAsg tDNewT (gName k) D σ H :=
  fun p hp => q p _ hp (Ex.new hp) (le_new hp) (ok.grow hp) ⟨by rw [List.getElem?_set_self hk], ok.new_b hp, ok.new_bl hp, List.mem_cons_self, upd_same⟩
/-- d[key] = n -/
theorem s_dput (ok : Ok W M H) (hA : AccD W M σ H k p l) (hl : l.length ≤ 1000) (h : Ev W M te σ H n) (hk : Ev W M tk σ H key)
    (q : ∀ H', Ex W M H H' → (∀ G M0, Ex W [] G H → Ok W M0 G → G p = none → Ex W [] G H') → Ok W M H' → AccD W M σ H' k p (putL l key.l n) → D.nx σ H') : sDPut (tVar k) tk te D σ H :=
  h H Ex.refl ok _ fun v H2 e2 r => ⟨.ref p, hA.at_, hk H2 e2 (ok.ex e2) _ fun u H3 e3 r3 => by
    cases (show v = .int n from r)
    obtain ⟨b, rfl, hb, _⟩ := r3.tupK
    have e23 := e2.trans e3
    have hp := (hA.up e23).it
    have em : Ex W M H3 (upd H3 p (.dT (encD (putL l key.l n)))) := Ex.mut hA.nb hA.nbl hA.mem
    exact ⟨p, _, rfl, .inr ⟨encD l, key.l.map Sum.inr, b, hp, rfl, by rw [hb, map_kV], by unfold encD; rw [List.length_map]; exact sl (by omega), by rw [← enc_put]⟩, q _ (e23.up.trans em) (fun G M0 eG okG hG => (eG.trans e23).mut0 okG hG) ((ok.ex e23).ex em) ⟨hA.at_, hA.nb, hA.nbl, hA.mem, upd_same⟩⟩⟩
end
end RG
namespace RG
open PySem PySem.Spec PyProof.Rows L2 StX RZ
/-! ### a zip as the argument of dict(): its pairs stay held -/
section
variable {prog : Program} {w : World} {A : Around} {E : Value → Shared → Prop} {s : Shared} {z TI TO T i1 i2 : Addr} {fp1 fp2 : List Addr} {n1 n2 i : Nat} {P1 P2 : Nat → Value → Prop} {St1 St2 : Nat → Heap → Prop} {f : Bool} {oT : Obj}
theorem zh_item {Q : Value → Shared → Prop} (S : ZipSep2 z TI TO i1 i2 fp1 fp2) (D1 : Draws prog w A i1 fp1 n1 P1 St1) (D2 : Draws prog w A i2 fp2 n2 P2 St2) (hz : IsZipHeld s.heap z TI TO T f) (hT : s.heap.get? T = some oT)
    (hp : IsTupOf2 s.heap TI (.ref i1) (.ref i2)) (g1 : St1 i s.heap) (g2 : St2 i s.heap) (c1 : i < n1) (c2 : i < n2)
    (k : ∀ x y h' tk, P1 i x → P2 i y → IsZipHeld h' z TI TO T true → St1 (i + 1) h' → St2 (i + 1) h' → IsTupOf2 h' s.heap.objs.size x y → (∀ c o, c ≠ z → c ≠ i1 → c ≠ i2 → s.heap.get? c = some o → h'.get? c = some o) → Q (.ref s.heap.objs.size) { s with heap := h', toks := tk }) :
    wpAny (model prog w) A (Builtin.«zip.__next__» ⟨[.ref z], []⟩) (fun fin s' => ∃ v, fin = .done (.ret v) ∧ Q v s') E s := by
  have zi1 := S.zi1
  have zi2 := S.zi2
  refine wpAny_bind (m := field (.ref z) 2) (wpAny_field hz rfl (x := .bool false) rfl ?_)
  refine wpAny_bind (m := field (.ref z) 3) (wpAny_field hz rfl (x := .ref TI) rfl ?_)
  refine wpAny_bind (wpAny_seqItems hp rfl (wpAny_bind (m := Builtin.SmallTypes.ownedTupleIsFree (.ref z)) (wpAny_tupleHeld_zip hz hT fun ha za sa => ?_)))
  rw [if_neg Bool.false_ne_true]
  refine wpAny_bind ?_
  rw [← Array.forIn_toList]
  simp only [List.forIn_cons, List.forIn_nil]
  refine wpAny_bind (wpAny_bind (wpAny_holding (wpAny_bind (m := Builtin.SmallTypes.nextOf (.ref i1)) (D1.item i { s with heap := ha } _ _ c1 (D1.over g1 sa S.zf1) fun x hb tk1 px d1 sb => wpAny_pure (wpAny_pure ?_)))))
  refine wpAny_bind (wpAny_bind (wpAny_holding (wpAny_bind (m := Builtin.SmallTypes.nextOf (.ref i2)) (D2.item i { s with heap := hb, toks := tk1 } _ _ c2 (D2.over (D2.over g2 sa S.zf2) sb S.sep1_2) fun y hc tk2 py d2 sc => wpAny_pure (wpAny_pure (wpAny_pure ?_))))))
  refine wpAny_bind (m := newTuple [x, y]) (wpAny_newTuple (wpAny_pure ⟨_, rfl, ?_⟩))
  have hs : hc.objs.size = s.heap.objs.size := by rw [sc.1, sb.1, sa.1]
  have hp' : IsTupOf2 (hc.push { cls := .type "tuple", data := .seq #[x, y] }) hc.objs.size x y := Heap.get?_push_size _ rfl
  show Q (.ref hc.objs.size) _
  rw [hs] at hp' ⊢
  refine k x y _ _ px py (Heap.get?_push_of_some _ (sc.extBut _ _ zi2 (sb.extBut _ _ zi1 za))) (D1.frame _ _ _ (D1.over d1 sc S.sep2_1) fun b _ o e => Heap.get?_push_of_some _ e) (D2.frame _ _ _ d2 fun b _ o e => Heap.get?_push_of_some _ e) hp' ?_
  exact fun c o q1 q2 q3 e => Heap.get?_push_of_some _ (sc.extBut _ _ q3 (sb.extBut _ _ q2 (sa.extBut _ _ q1 e)))
theorem zh_end {Q : Fin → Shared → Prop} (S : ZipSep2 z TI TO i1 i2 fp1 fp2) (D1 : Draws prog w A i1 fp1 n1 P1 St1) (D2 : Draws prog w A i2 fp2 n2 P2 St2) (hz : IsZipHeld s.heap z TI TO T f) (hT : s.heap.get? T = some oT)
    (hp : IsTupOf2 s.heap TI (.ref i1) (.ref i2)) (g1 : St1 n1 s.heap) (g2 : St2 n1 s.heap)
    (k : ∀ h' e tk, (∀ c o, c ≠ z → c ≠ i1 → c ≠ i2 → s.heap.get? c = some o → h'.get? c = some o) → (∃ o, h'.get? e = some o ∧ o.cls = .type "StopIteration") → E (.ref e) { s with heap := h', toks := tk }) :
    wpAny (model prog w) A (Builtin.«zip.__next__» ⟨[.ref z], []⟩) Q E s := by
  refine wpAny_bind (m := field (.ref z) 2) (wpAny_field hz rfl (x := .bool false) rfl ?_)
  refine wpAny_bind (m := field (.ref z) 3) (wpAny_field hz rfl (x := .ref TI) rfl ?_)
  refine wpAny_bind (wpAny_seqItems hp rfl (wpAny_bind (m := Builtin.SmallTypes.ownedTupleIsFree (.ref z)) (wpAny_tupleHeld_zip hz hT fun ha za sa => ?_)))
  rw [if_neg Bool.false_ne_true]
  refine wpAny_bind ?_
  rw [← Array.forIn_toList]
  simp only [List.forIn_cons, List.forIn_nil]
  refine wpAny_bind (wpAny_bind (wpAny_holding (wpAny_bind (m := Builtin.SmallTypes.nextOf (.ref i1)) (D1.done { s with heap := ha } _ _ (D1.over g1 sa S.zf1) fun hb e sb he => ?_))))
  exact k hb e s.toks (fun c o q1 q2 _ x => sb _ _ q2 (sa.extBut _ _ q1 x)) he
theorem zh_pyItem {Q : Option Value → Shared → Prop} (S : ZipSep2 z TI TO i1 i2 fp1 fp2) (D1 : Draws prog w A.in1 i1 fp1 n1 P1 St1) (D2 : Draws prog w A.in1 i2 fp2 n2 P2 St2) (hz : IsZipHeld s.heap z TI TO T f) (hT : s.heap.get? T = some oT)
    (hp : IsTupOf2 s.heap TI (.ref i1) (.ref i2)) (g1 : St1 i s.heap) (g2 : St2 i s.heap) (c1 : i < n1) (c2 : i < n2)
    (k : ∀ x y h' tk, P1 i x → P2 i y → IsZipHeld h' z TI TO T true → St1 (i + 1) h' → St2 (i + 1) h' → IsTupOf2 h' s.heap.objs.size x y → (∀ c o, c ≠ z → c ≠ i1 → c ≠ i2 → s.heap.get? c = some o → h'.get? c = some o) → Q (some (.ref s.heap.objs.size)) { s with heap := h', toks := tk }) :
    wpAny (model prog w) A (pyNext (.ref z)) Q E s := by
  have ty : s.TypeIs (.ref z) "zip" := ⟨_, hz, rfl⟩
  have one := zh_item (E := fun _ _ => False) (Q := fun v s' => ∃ u, v = .ref u ∧ Q (some (.ref u)) s') S D1.of_in1 D2.of_in1 hz hT hp g1 g2 c1 c2 fun x y h' tk p1 p2 a b c d e => ⟨_, rfl, k x y h' tk p1 p2 a b c d e⟩
  unfold pyNext
  refine wpAny_bind (wpAny_attempt (wpAny_callSpecial?_slot (name := Str.ofString "__next__") ty F.slot_zip_next (wpAny_call_entry F.slot_zip_next ty F.entry_zip_next ?_ (F.args_zip_next_1 _))))
  refine zh_item S D1 D2 hz hT hp g1 g2 c1 c2 fun x y h' tk p1 p2 a b c d e => ?_
  exact wpAny_pure (k x y h' tk p1 p2 a b c d e)
theorem zh_pyEnd {Q : Option Value → Shared → Prop} (S : ZipSep2 z TI TO i1 i2 fp1 fp2) (D1 : Draws prog w A.in1 i1 fp1 n1 P1 St1) (D2 : Draws prog w A.in1 i2 fp2 n2 P2 St2) (hz : IsZipHeld s.heap z TI TO T f) (hT : s.heap.get? T = some oT)
    (hp : IsTupOf2 s.heap TI (.ref i1) (.ref i2)) (g1 : St1 n1 s.heap) (g2 : St2 n1 s.heap)
    (k : ∀ h' tk, (∀ c o, c ≠ z → c ≠ i1 → c ≠ i2 → s.heap.get? c = some o → h'.get? c = some o) → Q none { s with heap := h', toks := tk }) :
    wpAny (model prog w) A (pyNext (.ref z)) Q E s := by
  have ty : s.TypeIs (.ref z) "zip" := ⟨_, hz, rfl⟩
  unfold pyNext
  refine wpAny_bind (wpAny_attempt (wpAny_callSpecial?_slot (name := Str.ofString "__next__") ty F.slot_zip_next (wpAny_call_entry F.slot_zip_next ty F.entry_zip_next ?_ (F.args_zip_next_1 _))))
  refine zh_end S D1 D2 hz hT hp g1 g2 fun h' e tk hk ⟨o, ho, hc⟩ => ?_
  exact wpAny_bind (wpAny_isInstance (T := "StopIteration") (b := true) ⟨o, ho, hc⟩ isSubtype_stop (wpAny_pure (k h' tk hk)))
end
/-- a zip of two iterators of any kind, as many items each, as dict's argument -/
theorem zipArg {prog : Program} {w : World} {z TI TO i1 i2 : Addr} {fp1 fp2 : List Addr} {n : Nat} {P1 P2 : Nat → Value → Prop} {St1 St2 : Nat → Heap → Prop} (S : ZipSep2 z TI TO i1 i2 fp1 fp2)
    (D1 : ∀ A : Around, A.handled = none → Draws prog w A i1 fp1 n P1 St1) (D2 : ∀ A : Around, A.handled = none → Draws prog w A i2 fp2 n P2 St2) (t1 : ∀ h, St1 0 h → ∀ b ∈ fp1, ∃ o, h.get? b = some o) (t2 : ∀ h, St2 0 h → ∀ b ∈ fp2, ∃ o, h.get? b = some o)
    (fr1 : ∀ i h h', St1 i h → (∀ b ∈ fp1, ∀ o, h.get? b = some o → h'.get? b = some o) → St1 i h') (fr2 : ∀ i h h', St2 i h → (∀ b ∈ fp2, ∀ o, h.get? b = some o → h'.get? b = some o) → St2 i h') :
    PairArg prog w "zip" z (z :: TI :: TO :: (fp1 ++ fp2)) [z, TO, i1, i2] n (fun i k v => P1 i k ∧ P2 i v)
      (fun h => IsZip h z TI TO .none ∧ IsTupOf2 h TI (.ref i1) (.ref i2) ∧ (∃ a b, IsTupOf2 h TO a b) ∧ St1 0 h ∧ St2 0 h) where
  type := fun s ok => ⟨_, ok.1, rfl⟩
  notDict := by decide
  keep := fun h h' ⟨a, b, ⟨c, d, e⟩, g1, g2⟩ k => ⟨k _ _ a, k _ _ b, ⟨c, d, k _ _ e⟩, fr1 _ _ _ g1 fun b _ o e => k b o e, fr2 _ _ _ g2 fun b _ o e => k b o e⟩
  there := fun h ⟨a, b, ⟨c, d, e⟩, g1, g2⟩ x hx => by
    rcases List.mem_cons.mp hx with rfl | hx
    · exact ⟨_, a⟩
    rcases List.mem_cons.mp hx with rfl | hx
    · exact ⟨_, b⟩
    rcases List.mem_cons.mp hx with rfl | hx
    · exact ⟨_, e⟩
    exact (List.mem_append.mp hx).elim (t1 h g1 x) (t2 h g2 x)
  sub := fun b hb => by
    simp only [List.mem_cons, List.not_mem_nil, or_false] at hb
    rcases hb with rfl | rfl | rfl | rfl
    · simp
    · simp
    · simp [S.mem1]
    · simp [S.mem2]
  noKeys := fun A s Q E hA ok h => getAttrOr_miss_zip ok.1 rfl rfl rfl zip_no_keys (by decide +kernel) hA h
  iter := fun A s d Q E hA ok hd hdf h => by
    obtain ⟨hz, hp, ⟨a, b, ho⟩, g1, g2⟩ := ok
    have dz : d ≠ z := fun e => hdf (by simp [e])
    have dTI : d ≠ TI := fun e => hdf (by simp [e])
    have dTO : d ≠ TO := fun e => hdf (by simp [e])
    have df1 : d ∉ fp1 := fun e => hdf (by simp [e])
    have df2 : d ∉ fp2 := fun e => hdf (by simp [e])
    have d1 : d ≠ i1 := fun e => df1 (e ▸ S.mem1)
    have d2 : d ≠ i2 := fun e => df2 (e ▸ S.mem2)
    have hA1 : A.in1.handled = none := hA
    refine wpAny_pyIter_zip hz (h z [z, TO, i1, i2] (fun i h => IsTupOf2 h TI (.ref i1) (.ref i2) ∧ St1 i h ∧ St2 i h ∧ ((IsZip h z TI TO .none ∧ ∃ a b, IsTupOf2 h TO a b) ∨ ∃ T f oT, IsZipHeld h z TI TO T f ∧ h.get? T = some oT ∧ T ≠ z ∧ T ≠ i1 ∧ T ≠ i2 ∧ T ≠ d)) s.heap s.toks ?_ ⟨hp, g1, g2, .inl ⟨hz, a, b, ho⟩⟩ (fun _ _ e => e) fun b hb => .inl hb)
    refine { off := ?_, frame := ?_, item := ?_, done := ?_ }
    · intro hm
      simp only [List.mem_cons, List.not_mem_nil, or_false] at hm
      rcases hm with e | e | e | e
      · exact dz e
      · exact dTO e
      · exact d1 e
      · exact d2 e
    · rintro i h1 h2 ⟨q1, q2, q3, q4⟩ hk
      refine ⟨hk _ _ dTI.symm q1, fr1 _ _ _ q2 fun b hb o e => hk b o (fun x => df1 (x ▸ hb)) e, fr2 _ _ _ q3 fun b hb o e => hk b o (fun x => df2 (x ▸ hb)) e, ?_⟩
      rcases q4 with ⟨q4, x, y, q5⟩ | ⟨T, f, oT, q4, q5, r1, r2, r3, r4⟩
      · exact .inl ⟨hk _ _ dz.symm q4, x, y, hk _ _ dTO.symm q5⟩
      · exact .inr ⟨T, f, oT, hk _ _ dz.symm q4, hk _ _ r4 q5, r1, r2, r3, r4⟩
    · rintro i s1 Q1 E1 hi ⟨q1, q2, q3, q4⟩ hds hQ
      have away : ∀ {c o}, s1.heap.get? c = some o → s1.heap.objs.size ≠ c := fun e => Nat.ne_of_gt (Heap.lt_size e)
      have n1 : s1.heap.objs.size ≠ i1 := let ⟨_, e⟩ := (D1 A.in1 hA1).live _ _ q2; away e
      have n2 : s1.heap.objs.size ≠ i2 := let ⟨_, e⟩ := (D2 A.in1 hA1).live _ _ q3; away e
      rcases q4 with ⟨q4, x, y, q5⟩ | ⟨T, f, oT, q4, q5, r1, r2, r3, r4⟩
      · refine wpAny_pyNext_zipD2_item S (D1 A.in1 hA1) (D2 A.in1 hA1) q4 q1 q5 q2 q3 hi hi fun x1 x2 h' tk p1 p2 b1 b2 e1 e2 b5 b6 hk => ?_
        exact hQ _ x1 x2 h' tk ⟨p1, p2⟩ (.inl ⟨_, b5, rfl, _, rfl⟩) ⟨hk _ _ S.TIz S.TITO S.TIi1 S.TIi2 q1, e1, e2, .inr ⟨_, false, _, b1, b5, away q4, n1, n2, Nat.ne_of_gt hds⟩⟩
          fun c o hc e => hk c o (fun x => hc (by simp [x])) (fun x => hc (by simp [x])) (fun x => hc (by simp [x])) (fun x => hc (by simp [x])) e
      · refine zh_pyItem S (D1 A.in1 hA1) (D2 A.in1 hA1) q4 q5 q1 q2 q3 hi hi fun x1 x2 h' tk p1 p2 b1 e1 e2 b5 hk => ?_
        exact hQ _ x1 x2 h' tk ⟨p1, p2⟩ (.inl ⟨_, b5, rfl, _, rfl⟩) ⟨hk _ _ S.TIz S.TIi1 S.TIi2 q1, e1, e2, .inr ⟨T, true, oT, b1, hk _ _ r1 r2 r3 q5, r1, r2, r3, r4⟩⟩
          fun c o hc e => hk c o (fun x => hc (by simp [x])) (fun x => hc (by simp [x])) (fun x => hc (by simp [x])) e
    · rintro s1 Q1 E1 ⟨q1, q2, q3, q4⟩ hQ
      rcases q4 with ⟨q4, x, y, q5⟩ | ⟨T, f, oT, q4, q5, r1, r2, r3, r4⟩
      · exact wpAny_pyNext_zipD2_end S (D1 A.in1 hA1) (D2 A.in1 hA1) q4 q1 q5 q2 q3 (Nat.le_refl _) (Nat.le_refl _) (by omega) fun h' tk hk => hQ h' tk fun c o hc e => hk c o (fun x => hc (by simp [x])) (fun x => hc (by simp [x])) (fun x => hc (by simp [x])) (fun x => hc (by simp [x])) e
      · exact zh_pyEnd S (D1 A.in1 hA1) (D2 A.in1 hA1) q4 q5 q1 q2 q3 fun h' tk hk => hQ h' tk fun c o hc e => hk c o (fun x => hc (by simp [x])) (fun x => hc (by simp [x])) (fun x => hc (by simp [x])) e
end RG
namespace RG
open PySem PySem.Spec PyProof.Rows L2 StX RZ
/-! ### dicts of tuple keys, made of pairs -/
abbrev Kq := List (List L2.Key × Addr)
/-- keys, their tuples, values -/
def trip (kqs : Kq) (us : List Value) : List (List L2.Key × Addr × Value) := (kqs.zip us).map fun p => (p.1.1, p.1.2, p.2)
theorem trip_keys : ∀ {kqs : Kq} {us : List Value}, kqs.length = us.length → (trip kqs us).map (·.1) = kqs.map (·.1)
  | [], [], _ => rfl
  | [], _ :: _, h => by cases h
  | _ :: _, [], h => by cases h
  | k :: kqs, u :: us, h => by
    have ih := trip_keys (kqs := kqs) (us := us) (by simpa using h)
    unfold trip at ih ⊢
    rw [List.zip_cons_cons, List.map_cons, List.map_cons, List.map_cons, ih]
theorem trip_len {kqs : Kq} {us : List Value} (h : kqs.length = us.length) : (trip kqs us).length = kqs.length := by unfold trip; rw [List.length_map, List.length_zip, h, Nat.min_self]
theorem trip_at {kqs : Kq} {us : List Value} {i : Nat} {k : List L2.Key} {q : Addr} {u : Value} (h1 : kqs[i]? = some (k, q)) (h2 : us[i]? = some u) : (trip kqs us)[i]? = some (k, q, u) := by
  unfold trip
  rw [List.getElem?_map, (List.getElem?_zip_eq_some (z := ((k, q), u))).mpr ⟨h1, h2⟩]; rfl
theorem stored_new : ∀ {ps xs : List (List L2.Key × Addr × Value)}, ((xs ++ ps).map (·.1)).Nodup → storedAllH xs ps = xs ++ ps
  | [], xs, _ => by rw [List.append_nil]; rfl
  | p :: ps, xs, h => by
    have hn : atKey xs p.1 = none := by
      unfold atKey
      rw [Option.map_eq_none_iff, List.find?_eq_none]
      intro y hy e
      rw [List.map_append, List.nodup_append] at h
      exact h.2.2 y.1 (List.mem_map_of_mem hy) p.1 (by simp) (of_decide_eq_true e)
    show storedAllH (storedH xs p.1 p.2.1 p.2.2) ps = _
    rw [storedH_new hn, stored_new (by rw [List.append_assoc]; exact h), List.append_assoc]; rfl
theorem trip_kt {H : Hp} : ∀ {kqs : Kq} {vs : List V} {us : List Value}, (∀ p ∈ kqs, H p.2 = some (.tup (p.1.map kV))) → Vals vs us → kqs.length = us.length → KT H ((kqs.map (·.1)).zip vs) (trip kqs us)
  | [], _, [], _, .nil, _ => .nil
  | [], _, _ :: _, _, _, h => by cases h
  | _ :: _, _, [], _, _, h => by cases h
  | k :: kqs, _, _ :: _, hq, .cons r rs, h => .cons ⟨rfl, hq k (by simp), r⟩ (trip_kt (fun p hp => hq p (List.mem_cons_of_mem _ hp)) rs (by simpa using h))
theorem val_get : ∀ {vs : List V} {us : List Value} {i : Nat} {u : Value}, Vals vs us → us[i]? = some u → ∃ v, vs[i]? = some v ∧ RelV v u
  | _, _, i, u, .nil, e => by simp at e
  | _, _, 0, u, .cons r _, e => by cases (show some _ = some _ from e); exact ⟨_, rfl, r⟩
  | _, _, i + 1, u, .cons _ t, e => val_get (i := i) t e
theorem not4 {N c : Nat} (h : c < N) : c ∉ [N + 4, N + 3, N, N + 1] := by
  simp only [List.mem_cons, List.not_mem_nil, or_false, not_or]
  omega
theorem ne5 {N c : Nat} (h : c < N) : c ≠ N + 5 := by omega
section
variable {X : Cx}
/-- the keys stand, whatever is laid beside -/
theorem key_stay {pins : List (Addr × Obj)} {σ : L2.St} {H : Hp} {s : Shared} (I : Inv X pins σ H s) {q : Addr} {k : List L2.Key} (h : H q = some (.tup (k.map kV))) {h' : Heap} (hk : ∀ b o, s.heap.get? b = some o → h'.get? b = some o) : (tupleKind (mixKind X.prog X.w)).is h' k q := by
  obtain ⟨o, vs, n, h1, h2, h3, it⟩ := key_of I.hok h
  exact ⟨o, vs, n, hk _ _ h1, h2, h3, it⟩
/-- dict(zip(a, b)): the keys of a tuple, the values of a list or a tuple -/
def tDictZip (K : PySem.W.Frag) (ta : TA) : TE := fun σ H Q => ta σ H fun xs H2 => ∃ (a b : Addr) (kqs : Kq) (vs : List V), xs = [.ref a, .ref b] ∧ SqT K H2 a (kqs.map fun p => V.ref p.2) ∧ (SqL K H2 b vs ∨ SqT K H2 b vs) ∧ (∀ p ∈ kqs, H2 p.2 = some (.tup (p.1.map kV))) ∧
  vs.length = kqs.length ∧ (kqs.map (·.1)).Nodup ∧ ∀ p, H2 p = none → Q (.ref p) (upd H2 p (.dT ((kqs.map (·.1)).zip vs)))
theorem zip_dict {pins : List (Addr × Obj)} {σ : L2.St} {H : Hp} {s : Shared} {Q : VK} {a b : Addr} {kqs : Kq} {vs : List V} {us : List Value} {o2 : Obj} {Hb : Heap → Prop} {fp2 : Addr → List Addr} {St2 : Addr → Nat → Heap → Prop} (hc : X.calm = true) (hu : X.A.units + 64 < cLine) (I : Inv X pins σ H s)
    (hqa : SqT X.K H a (kqs.map fun p => V.ref p.2)) (hkq : ∀ p ∈ kqs, H p.2 = some (.tup (p.1.map kV))) (hn : (kqs.map (·.1)).Nodup) (rv : Vals vs us) (hl : us.length = kqs.length)
    (B2 : Begins (.ref b) o2 Hb) (hb : Hb s.heap) (m2 : ∀ it, it ∈ fp2 it) (low : ∀ it x, x ∈ fp2 it → x = it ∨ x < s.heap.objs.size)
    (D2 : ∀ (A : Around) it, s.heap.objs.size ≤ it → A.handled = none → Draws X.prog X.w A it (fp2 it) us.length (fun i v => us[i]? = some v) (St2 it)) (t2 : ∀ it h, St2 it 0 h → ∀ x ∈ fp2 it, ∃ o, h.get? x = some o)
    (st2 : ∀ it h, h.get? it = some o2 → (∀ c o, s.heap.get? c = some o → h.get? c = some o) → St2 it 0 h)
    (q : ∀ p, H p = none → Q (.ref p) (upd H p (.dT ((kqs.map (·.1)).zip vs)))) {E : Value → Shared → Prop} :
    wpAny (model X.prog X.w) X.A (call (.type "zip") [.ref a, .ref b]) (fun v s2 => wpAny (model X.prog X.w) X.A (call (.type "dict") [v]) (EP X pins σ Q) E s2) E s := by
  obtain ⟨its, rv1, pl1, z1⟩ := I.tuple hqa
  have hla : its.length = kqs.length := by rw [← rv1.length, List.length_map]
  have hsm : (s.heap.objs.size == sysModules) = false := beq_eq_false_iff_ne.mpr (Nat.ne_of_gt I.big)
  have pa : s.heap.IsTuple a its.toArray := pl1
  refine zip_begins2 (begins_tuple a its.toArray) B2 pa hb fun h1 gz gp go g1 g2 hsz hk => ?_
  generalize hN : s.heap.objs.size = N at *
  have ha : @LT.lt Nat _ a N := by obtain ⟨o, e, _⟩ := pa; rw [← hN]; exact Heap.lt_size e
  have low2 : ∀ c : Nat, N + 1 < c → c ∉ fp2 (N + 1) := fun c hc hm => by
    have : @Eq Nat c (N + 1) ∨ @LT.lt Nat _ c N := low (N + 1) c hm
    omega
  have up : ∀ i j : Nat, i < j → @Ne Nat (N + j) (N + i) := fun i j h => by omega
  have up' : ∀ i j : Nat, j < i → @Ne Nat (N + j) (N + i) := fun i j h => by omega
  have off : ∀ j : Nat, 0 < j → (N + j) ∉ [N, a] := fun j hj hm => by
    rcases List.mem_cons.mp hm with e | hm
    · have e : @Eq Nat (N + j) N := e
      omega
    · have e : @Eq Nat (N + j) a := List.mem_singleton.mp hm
      omega
  have S : ZipSep2 (N + 4) (N + 2) (N + 3) N (N + 1) [N, a] (fp2 (N + 1)) :=
    { TIz := up' 4 2 (by decide), TOz := up' 4 3 (by decide), TITO := up' 3 2 (by decide), TIi1 := up 0 2 (by decide), mem1 := by simp, zf1 := off 4 (by decide), Tf1 := off 3 (by decide), TIi2 := up 1 2 (by decide), mem2 := m2 _, zf2 := low2 _ (by omega), Tf2 := low2 _ (by omega), sep1_2 := fun hm => by
        have : @Eq Nat N (N + 1) ∨ @LT.lt Nat _ N N := low (N + 1) N hm
        omega, sep2_1 := off 1 (by decide) }
  have pa1 : h1.IsTuple a its.toArray := pa.at fun o e => hk a o e
  have P := zipArg (prog := X.prog) (w := X.w) (n := its.length) S (fun A hA => (Draws.tuple hA N a (Nat.ne_of_lt ha) its.toArray)) (fun A hA => by have := D2 A (N + 1) (by omega) hA; rw [hl, ← hla] at this; exact this)
    (fun h st x hx => by
      rcases List.mem_cons.mp hx with rfl | hx
      · obtain ⟨o, e, _⟩ := st.1; exact ⟨o, e⟩
      · rw [List.mem_singleton.mp hx]; obtain ⟨o, e, _⟩ := st.2; exact ⟨o, e⟩) (t2 (N + 1))
    (fun i h h' st hk => (Draws.tuple (prog := X.prog) (w := X.w) (A := X.A) (I.ok.hd hc) N a (Nat.ne_of_lt ha) its.toArray).frame i h h' st hk) (fun i h h' st hk => (D2 X.A (N + 1) (by omega) (I.ok.hd hc)).frame i h h' st hk)
  refine call_dict_pairsH (knd := tupleKind (mixKind X.prog X.w)) (ps := trip kqs us) P (I.ok.hd hc) (show X.A.in1.in1.units < cLine by have e : X.A.in1.in1.units = X.A.units + 1 + 1 := rfl; omega) ⟨gz, gp, ⟨_, _, go⟩, ⟨⟨_, g1, rfl, rfl⟩, pa1⟩, st2 _ _ g2 hk⟩ ?_ ?_ (by rw [← rv1.length]; exact z1) fun h2 tk hd' hk2 => ?_
  · refine ⟨by rw [trip_len hl.symm, hla], fun i key v ⟨e1, e2⟩ => ?_⟩
    obtain ⟨p, hp, rp⟩ := val_get (i := i) rv1 (by simpa using e1)
    rw [List.getElem?_map] at hp
    cases hq : kqs[i]? with
    | none => rw [hq] at hp; cases hp
    | some kq =>
      rw [hq] at hp
      cases hp
      cases (show key = Value.ref kq.2 from rp)
      exact ⟨kq.1, kq.2, trip_at hq e2, rfl⟩
  · intro h' hk' x hx
    unfold trip at hx
    obtain ⟨p, hp, rfl⟩ := List.mem_map.mp hx
    have hm := (List.of_mem_zip hp).1
    refine key_stay I (hkq _ hm) fun c o e => hk' c o ?_ (not4 (by rw [← hN]; exact Heap.lt_size e)) (hk c o e)
    rw [hsz]
    exact ne5 (by rw [← hN]; exact Heap.lt_size e)
  · rw [stored_new (by rw [List.nil_append, trip_keys hl.symm]; exact hn), List.nil_append] at hd'
    have kp : ∀ c o, s.heap.get? c = some o → h2.get? c = some o := fun c o e => hk2 c o (not4 (by rw [← hN]; exact Heap.lt_size e)) (hk c o e)
    have hp0 : H h1.objs.size = none := I.hok.fresh (by rw [hN, hsz]; omega)
    refine ⟨.ref h1.objs.size, _, I.laid (t' := tk) kp (by rw [hN, hsz]; omega) ?_, rfl, q _ hp0⟩
    obtain ⟨o, es, ep, r1, r2, r3, r4, r5, r6⟩ := hd'
    refine ⟨?_, beq_eq_false_iff_ne.mpr ?_, trip kqs us, trip_kt (fun p hp => ?_) rv hl.symm, o, es, ep, r1, r2, r3, r4, r6⟩
    · rw [List.length_zip, List.length_map, rv.length, hl, Nat.min_self, ← hla, ← rv1.length]; exact z1
    · have h5 : sysModules < N := by rw [← hN]; exact I.big
      rw [hsz]
      exact (ne5 h5).symm
    · rw [upd_ne (fun e => by rw [← e, hkq p hp] at hp0; cases hp0)]; exact hkq p hp
theorem pe_dictZip {e e2 : Expr} {ta : TA} {p p2 pos pos2 : Pos} (hc : X.calm = true) (hu : X.A.units + 64 < cLine) (hg : Gl X "dict") (hm : X.mg "dict" = none) (hg2 : Gl X "zip") (hm2 : X.mg "zip" = none) (ha : PA X [e, e2] ta)
    (hs : starEach [e, e2] X.env = (false, eval e X.env) :: starEach [e2] X.env := by rfl) (hpl : (backTo pos2 (starEach [e2] X.env)).any (·.1) = false := by rfl)
    (hs2 : starEach [.Call (.Name "zip" p2) [e, e2] [] pos2] X.env = (false, eval (.Call (.Name "zip" p2) [e, e2] [] pos2) X.env) :: starEach [] X.env := by rfl) :
    PE X (.Call (.Name "dict" p) [.Call (.Name "zip" p2) [e, e2] [] pos2] [] pos) (tDictZip X.K ta) := by
  refine ⟨fun pins s σ H Q I h => ?_⟩
  refine Call_ (ld_blt I hg hm PyProof.Rows.boot_dict (PyProof.Rows.callWith_type1 (args_cons (Call_ (ld_blt I hg2 hm2 PyProof.Rows.boot_zip (PyProof.Rows.callWith_type1 (thn (ha.run pos2 pins s σ H _ I h) fun us1 s1 ⟨vs1, H1, I1, r1, q1⟩ => ?_) hs hpl))) hs2) hs2 rfl))
  obtain ⟨a, b, kqs, vs, rfl, hqa, hqb, hkq, hl, hn, q⟩ := q1
  cases r1 with
  | cons ra rr =>
    cases rr with
    | cons rb rr =>
      cases rr
      cases ra
      cases rb
      have key : wpAny (model X.prog X.w) X.A (call (.type "zip") [.ref a, .ref b]) (fun v s2 => wpAny (model X.prog X.w) X.A (call (.type "dict") [v]) (EP X pins σ Q) X.xe s2) X.xe s1 := by
        rcases hqb with hqb | hqb
        · obtain ⟨its, rv, pl, _⟩ := I1.list hqb
          have hb : ∀ {o : Obj}, s1.heap.get? b = some o → b < s1.heap.objs.size := fun e => Heap.lt_size e
          have hb' : b < s1.heap.objs.size := by obtain ⟨o, n, e, _⟩ := pl; exact hb e
          exact zip_dict (fp2 := fun it => [it, b]) (St2 := fun it i h => h.IsListIter it b i ∧ h.IsList b its.toArray) hc hu I1 hqa hkq hn rv (by rw [← rv.length]; exact hl) (begins_list b its.toArray) pl.isList (fun _ => by simp)
            (fun it x hx => (List.mem_cons.mp hx).imp id fun hx => by rw [List.mem_singleton.mp hx]; exact hb') (fun A it hit hA => by simpa using Draws.list hA it b (Nat.ne_of_lt (Nat.lt_of_lt_of_le hb' hit)) its.toArray)
            (fun it h st x hx => by
              rcases List.mem_cons.mp hx with rfl | hx
              · obtain ⟨o, e, _⟩ := st.1; exact ⟨o, e⟩
              · rw [List.mem_singleton.mp hx]; obtain ⟨o, e, _⟩ := st.2; exact ⟨o, e⟩) (fun it h g hk => ⟨⟨_, g, rfl, rfl⟩, pl.isList.at fun o e => hk _ o e⟩) q
        · obtain ⟨its, rv, pl, _⟩ := I1.tuple hqb
          have pb : s1.heap.IsTuple b its.toArray := pl
          have hb' : b < s1.heap.objs.size := by obtain ⟨o, e, _⟩ := pb; exact Heap.lt_size e
          exact zip_dict (fp2 := fun it => [it, b]) (St2 := fun it i h => h.IsTupleIter it b i ∧ h.IsTuple b its.toArray) hc hu I1 hqa hkq hn rv (by rw [← rv.length]; exact hl) (begins_tuple b its.toArray) pb (fun _ => by simp)
            (fun it x hx => (List.mem_cons.mp hx).imp id fun hx => by rw [List.mem_singleton.mp hx]; exact hb') (fun A it hit hA => by simpa using Draws.tuple hA it b (Nat.ne_of_lt (Nat.lt_of_lt_of_le hb' hit)) its.toArray)
            (fun it h st x hx => by
              rcases List.mem_cons.mp hx with rfl | hx
              · obtain ⟨o, e, _⟩ := st.1; exact ⟨o, e⟩
              · rw [List.mem_singleton.mp hx]; obtain ⟨o, e, _⟩ := st.2; exact ⟨o, e⟩) (fun it h g hk => ⟨⟨_, g, rfl, rfl⟩, pb.at fun o e => hk _ o e⟩) q
      exact wpAny_mono key (fun v s2 hv => args_nil hv) fun _ _ x => x
/-- dict(xs) of a list of pairs (a tuple that is a key, a value), the keys unlike -/
def rDictPairs (K : PySem.W.Frag) : List V → Hp → VK → Prop := fun xs H Q => ∃ (a : Addr) (ts : List Addr) (kqs : Kq) (vs : List V), xs = [.ref a] ∧ SqL K H a (ts.map V.ref) ∧ Paired (fun t (p : (List L2.Key × Addr) × V) => SqT K H t [.ref p.1.2, p.2]) ts (kqs.zip vs) ∧ (∀ p ∈ kqs, H p.2 = some (.tup (p.1.map kV))) ∧
  vs.length = kqs.length ∧ (kqs.map (·.1)).Nodup ∧ ∀ p, H p = none → Q (.ref p) (upd H p (.dT ((kqs.map (·.1)).zip vs)))
theorem pairs_at {pins : List (Addr × Obj)} {σ : L2.St} {H : Hp} {s : Shared} (I : L2.Inv X pins σ H s) : ∀ {ts : List Addr} {kqs : Kq} {vs : List V}, vs.length = kqs.length → Paired (fun t (p : (List L2.Key × Addr) × V) => SqT X.K H t [.ref p.1.2, p.2]) ts (kqs.zip vs) →
    ∃ us : List Value, Vals vs us ∧ ts.length = us.length ∧ ∀ (j : Nat) (x : List L2.Key × Addr × Value), (trip kqs us)[j]? = some x → ∃ t : Addr, ts[j]? = some t ∧ IsTup s.heap t #[.ref x.2.1, x.2.2]
  | ts, [], [], _, h => by
    cases h
    exact ⟨[], .nil, rfl, fun j x e => by simp [trip] at e⟩
  | _, [], _ :: _, h, _ => by cases h
  | _, _ :: _, [], h, _ => by cases h
  | _, kq :: kqs, v :: vs, hl, .cons (a := t) h r => by
    obtain ⟨us, rv, hl', hp⟩ := pairs_at I (by simpa using hl) r
    obtain ⟨its, rv2, ht, _⟩ := I.tuple h
    obtain ⟨u, y, ei, ru, ry⟩ := vals2 rv2
    subst ei
    cases (show u = Value.ref kq.2 from ru)
    refine ⟨y :: us, .cons ry rv, by rw [List.length_cons, List.length_cons, hl'], fun j x e => ?_⟩
    cases j with
    | zero =>
      cases (show some _ = some _ from e)
      exact ⟨t, rfl, ht⟩
    | succ j => exact hp j x e
theorem cr_dictPairs (hc : X.calm = true) (hu : X.A.units + 64 < cLine) : CallR X (.type "dict") (rDictPairs X.K) := by
  intro pins s σ H xs us Q I r h
  obtain ⟨a, ts, kqs, vs, rfl, hqa, hp, hkq, hl, hn, q⟩ := h
  obtain ⟨u, rfl, ru⟩ := r.one
  cases ru
  obtain ⟨its, rv, pl, hz⟩ := I.list hqa
  have ei := refs_at rv
  subst ei
  rw [List.length_map] at hz
  obtain ⟨ws, rw_, hl2, hpr⟩ := pairs_at I hl hp
  have hlw : kqs.length = ws.length := by rw [← rw_.length]; exact hl.symm
  have hps : ((trip kqs ws).map fun x => (Value.ref x.2.1, x.2.2)).length = ts.length := by rw [List.length_map, trip_len hlw, hlw, hl2]
  refine call_dict_pairsH (knd := tupleKind (mixKind X.prog X.w)) (ps := trip kqs ws) (PairArg.list a (ts.map Value.ref).toArray (fun j => ts.getD j 0) ((trip kqs ws).map fun x => (Value.ref x.2.1, x.2.2))) (I.ok.hd hc)
    (show X.A.in1.in1.units < cLine by have e : X.A.in1.in1.units = X.A.units + 1 + 1 := rfl; omega) ⟨?_, ?_⟩ ⟨by rw [List.length_map], fun i key v e => ?_⟩ ?_ (by rw [hps]; exact hz) fun h' tk hd' hk => ?_
  · obtain ⟨o, n, e, h1, h2, h3⟩ := pl
    exact ⟨o, n, e, h1, h2, h3⟩
  · refine ⟨by rw [hps]; simp, fun j k v e => ?_⟩
    rw [List.getElem?_map] at e
    cases hx : (trip kqs ws)[j]? with
    | none => rw [hx] at e; cases e
    | some x =>
      rw [hx] at e
      cases e
      obtain ⟨t, ht, h2⟩ := hpr j x hx
      have hd : ts.getD j 0 = t := by rw [List.getD_eq_getElem?_getD, ht]; rfl
      refine ⟨by simp [ht], .inl ?_⟩
      show s.heap.IsTuple (ts.getD j 0) _
      rw [hd]; exact h2
  · have e : ((trip kqs ws).map fun x => (Value.ref x.2.1, x.2.2))[i]? = some (key, v) := e
    rw [List.getElem?_map] at e
    cases hx : (trip kqs ws)[i]? with
    | none => rw [hx] at e; cases e
    | some x =>
      rw [hx] at e
      cases e
      exact ⟨x.1, x.2.1, rfl, rfl⟩
  · intro h' hk x hx
    unfold trip at hx
    obtain ⟨p, hp', rfl⟩ := List.mem_map.mp hx
    exact key_stay I (hkq _ (List.of_mem_zip hp').1) fun c o e => hk c o (Nat.ne_of_lt (Heap.lt_size e)) (by simp) e
  · rw [stored_new (by rw [List.nil_append, trip_keys hlw]; exact hn), List.nil_append] at hd'
    have hp0 : H s.heap.objs.size = none := I.hok.fresh (Nat.le_refl _)
    refine ⟨.ref s.heap.objs.size, _, I.laid (t' := tk) (fun c o e => hk c o (by simp) e) (Nat.le_refl _) ?_, rfl, q _ hp0⟩
    obtain ⟨o, es, ep, r1, r2, r3, r4, r5, r6⟩ := hd'
    refine ⟨?_, beq_eq_false_iff_ne.mpr (Nat.ne_of_gt I.big), trip kqs ws, trip_kt (fun p hp => ?_) rw_ hlw, o, es, ep, r1, r2, r3, r4, r6⟩
    · rw [List.length_zip, List.length_map, hl, Nat.min_self, hlw, ← hl2]; exact hz
    · rw [upd_ne (fun e => by rw [← e, hkq p hp] at hp0; cases hp0)]; exact hkq p hp
end
end RG
namespace RG
open PySem PySem.Spec PyProof.Rows L2 StX RZ TL
theorem u1 {k : Nat} {A : Around} (r : Room k A) : A.units + 1 < cLine := by have := r.un; omega
/-! ### data without lists and dicts -/
def Fy (o : HO) : Prop := (∀ xs, o ≠ .lst xs) ∧ ∀ kvs, o ≠ .dT kvs
class Fyz (α : Type) [Py α] where
  fy : ∀ {W : Wd} {G G' : Hp} {v : V} {x : α}, (∀ a o, G a = some o → Fy o → G' a = some o) → Py.rep W G v x → Py.rep W G' v x
theorem fy_tup {xs : List V} : Fy (.tup xs) := ⟨fun _ z => (nomatch z), fun _ z => (nomatch z)⟩
theorem fy_frz {o : Obj} {u : HO} : Fy (.frz o u) := ⟨fun _ z => (nomatch z), fun _ z => (nomatch z)⟩
theorem fy_ins {C dx : Addr} {fs : List (Str × V)} : Fy (.ins C dx fs) := ⟨fun _ z => (nomatch z), fun _ z => (nomatch z)⟩
instance : Fyz Str := ⟨fun _ h => h⟩
instance : Fyz Int := ⟨fun _ h => h⟩
instance : Fyz Bool := ⟨fun _ h => h⟩
instance : Fyz TupK := ⟨fun q ⟨a, e, h⟩ => ⟨a, e, q _ _ h fy_tup⟩⟩
theorem fy_rd {G G' : Hp} (q : ∀ a o, G a = some o → Fy o → G' a = some o) {a : Addr} {vs : List V} (h : Rd G a (.tup vs)) : Rd G' a (.tup vs) :=
  h.elim (fun h => .inl (q _ _ h fy_tup)) fun ⟨o, h⟩ => .inr ⟨o, q _ _ h fy_frz⟩
instance {α : Type} [Py α] [Fyz α] : Fyz (Tup α) := ⟨fun q ⟨a, vs, e, h, p⟩ => ⟨a, vs, e, fy_rd q h, paired_mono (fun _ _ r => Fyz.fy q r) p⟩⟩
instance {α β : Type} [Py α] [Py β] [Fyz α] [Fyz β] : Fyz (α × β) := ⟨fun q ⟨a, v1, v2, e, h, r1, r2⟩ => ⟨a, v1, v2, e, fy_rd q h, Fyz.fy q r1, Fyz.fy q r2⟩⟩
section
variable {α β : Type} [Py α] [Py β] {W : Wd} {M N : List Addr} {σ : L2.St} {H H' : Hp} {ta tb tc te : TE} {v : V} {x : Di} {i k : Nat} {D : Ends}
/-! ### isinstance -/
theorem ev_isDict (ha : Ev W M ta σ H x) : Ev W M (tCB (rIsi W.K) (tCons ta (tCons (tC (.ty "dict")) tNil))) σ H true :=
  ev_isi ha (fun v H2 r => by obtain ⟨a, rfl, h, _⟩ := r.di; exact .base (.dT h)) (.ty "dict") (kit_ty (by decide +kernel))
theorem ev_isInt {z : Int} (ha : Ev W M ta σ H z) : Ev W M (tCB (rIsi W.K) (tCons ta (tCons (tC (.ty "int")) tNil))) σ H true := ev_isi ha (fun _ _ r => ty_int r) (.ty "int") (kit_ty (by decide +kernel))
theorem ev_notBool {z : Int} (ha : Ev W M ta σ H z) : Ev W M (tCB (rIsi W.K) (tCons ta (tCons (tC (.ty "bool")) tNil))) σ H false := ev_isi ha (fun _ _ r => ty_int r) (.ty "bool") (kit_ty (by decide +kernel))
/-! ### dicts are made -/
theorem keys_kq : ∀ {vs : List V} {ks : List TupK}, Paired (Rep W M H) vs ks → ∃ kqs : Kq, vs = kqs.map (fun p => V.ref p.2) ∧ kqs.map (·.1) = ks.map (fun k => k.l.map Sum.inr) ∧ ∀ p ∈ kqs, H p.2 = some (.tup (p.1.map kV))
  | _, _, .nil => ⟨[], rfl, rfl, fun p hp => by cases hp⟩
  | _, _, .cons r t => by
    obtain ⟨kqs, e1, e2, e3⟩ := keys_kq t
    obtain ⟨a, rfl, hh, _⟩ := r.tupK
    refine ⟨(_, a) :: kqs, by rw [e1]; rfl, by rw [List.map_cons, List.map_cons, e2], fun p hp => ?_⟩
    rcases List.mem_cons.mp hp with rfl | hp
    · show H a = some (.tup (List.map kV (List.map Sum.inr _)))
      rw [← map_kV]; exact hh
    · exact e3 p hp
theorem nodup_inr {ks : List TupK} (h : ks.Nodup) : (ks.map fun k => (k.l.map Sum.inr : List L2.Key)).Nodup := by
  induction ks with
  | nil => exact List.nodup_nil
  | cons k t ih =>
    obtain ⟨h1, h2⟩ := List.nodup_cons.mp h
    rw [List.map_cons]
    refine List.nodup_cons.mpr ⟨fun hm => ?_, ih h2⟩
    obtain ⟨y, hy, e⟩ := List.mem_map.mp hm
    have : y.l = k.l := map_inr_inj e
    have : y = k := by cases y; cases k; simp_all
    exact h1 (this ▸ hy)
theorem enc_zip : ∀ (ks : List TupK) (ns : List Int), (ks.map fun k => (k.l.map Sum.inr : List L2.Key)).zip (ns.map V.int) = encD ((ks.map TupK.l).zip ns)
  | [], _ => rfl
  | _ :: _, [] => rfl
  | k :: ks, n :: ns => by
    rw [List.map_cons, List.map_cons, List.zip_cons_cons, enc_zip ks ns]; rfl
theorem rep_di {p : Addr} {l : List (List Str × Int)} (h : H p = some (.dT (encD l))) (hb : p ≠ W.b) (hm : p ∉ M) : Rep W M H (.ref p) (Di.mk l) := ⟨p, rfl, cut_some.mpr ⟨hb, hm, h⟩⟩
/-- dict(zip(ks, ns)) -/
theorem ev_dzip {ks : Tup TupK} {ns : Sq Int} (ha : Ev W M ta σ H ks) (hb : Ev W M tb σ H ns) (hl : ks.l.length = ns.l.length) (hn : ks.l.Nodup) : Ev W M (tDictZip W.K (tCons ta (tCons tb tNil))) σ H (Di.mk ((ks.l.map TupK.l).zip ns.l)) := fun H1 e ok Q q =>
  ha H1 e ok _ fun v H2 e2 r => hb H2 (e.trans e2) (ok.ex e2) _ fun u H3 e3 r3 => by
    obtain ⟨a, vs, rfl, hh, _, _, pp⟩ := (r.up e3).tup
    obtain ⟨kqs, e1, e4, e5⟩ := keys_kq pp
    have ok3 := (ok.ex e2).ex e3
    have hlk : kqs.length = ks.l.length := by have := congrArg List.length e4; simpa using this
    have fin : ∀ b us, u = .ref b → Paired (Rep W M H3) us ns.l → (SqL W.K H3 b us ∨ SqT W.K H3 b us) → tDictZip W.K (tCons (fun _ H Q => Q (.ref a) H) (tCons (fun _ H Q => Q u H) tNil)) σ H3 Q := fun b us eb pu hs => by
      subst eb
      refine ⟨a, b, kqs, us, rfl, by rw [← e1]; exact .inl hh, hs, e5, by rw [Pd.length pu, hlk, hl], by rw [e4]; exact nodup_inr hn, fun p hp => ?_⟩
      rw [e4, paired_toV pu]
      show Q (.ref p) (upd H3 p (.dT ((ks.l.map fun k => (k.l.map Sum.inr : List L2.Key)).zip (ns.l.map V.int))))
      rw [enc_zip]
      exact q _ _ ((e2.trans e3).trans (Ex.new hp)) (rep_di upd_same (ok3.new_b hp) (ok3.new_M hp))
    rcases r3.sq with r3 | r3
    · obtain ⟨b, us, eb, hb, _, _, pu⟩ := r3.lst
      exact fin b us eb pu (.inl (SqL.of hb))
    · obtain ⟨b, us, eb, hb, _, _, pu⟩ := r3.tup
      exact fin b us eb pu (.inr (.inl hb))
theorem pairs_kq : ∀ {vs : List V} {ps : List (TupK × Int)}, Paired (Rep W M H) vs ps → ∃ (ts : List Addr) (kqs : Kq), vs = ts.map V.ref ∧ kqs.map (·.1) = ps.map (fun p => p.1.l.map Sum.inr) ∧ (∀ p ∈ kqs, H p.2 = some (.tup (p.1.map kV))) ∧
    ∀ K, Paired (fun t (p : (List L2.Key × Addr) × V) => SqT K H t [.ref p.1.2, p.2]) ts (kqs.zip (ps.map fun p => V.int p.2))
  | _, _, .nil => ⟨[], [], rfl, rfl, fun p hp => (by cases hp), fun _ => .nil⟩
  | _, _, .cons r t => by
    obtain ⟨ts, kqs, e1, e2, e3, e4⟩ := pairs_kq t
    obtain ⟨T, v1, v2, rfl, hT, _, _, r1, r2⟩ := r.pair
    obtain ⟨a, rfl, hh, _⟩ := r1.tupK
    cases (show v2 = .int _ from r2)
    refine ⟨T :: ts, (_, a) :: kqs, by rw [e1]; rfl, by rw [List.map_cons, List.map_cons, e2], fun p hp => ?_, fun K => .cons (.inl hT) (e4 K)⟩
    rcases List.mem_cons.mp hp with rfl | hp
    · show H a = some (.tup (List.map kV (List.map Sum.inr _)))
      rw [← map_kV]; exact hh
    · exact e3 p hp
theorem enc_pairs : ∀ ps : List (TupK × Int), (ps.map fun p => (p.1.l.map Sum.inr : List L2.Key)).zip (ps.map fun p => V.int p.2) = encD (ps.map fun p => (p.1.l, p.2))
  | [] => rfl
  | p :: t => by
    rw [List.map_cons, List.map_cons, List.map_cons, List.zip_cons_cons, enc_pairs t]; rfl
/-- dict([(k, n), ..]) -/
theorem ev_dpairs {ps : List (TupK × Int)} (ha : Ev W M ta σ H ps) (hn : (ps.map (·.1)).Nodup) : Ev W M (tCB (rDictPairs W.K) (tCons ta tNil)) σ H (Di.mk (ps.map fun p => (p.1.l, p.2))) := fun H1 e ok Q q =>
  ha H1 e ok _ fun v H2 e2 r => by
    obtain ⟨a, vs, rfl, hh, _, _, pp⟩ := r.lst
    obtain ⟨ts, kqs, e1, e3, e4, e5⟩ := pairs_kq pp
    have ok2 := ok.ex e2
    have hlk : kqs.length = ps.length := by have := congrArg List.length e3; simpa using this
    refine ⟨a, ts, kqs, ps.map fun p => V.int p.2, rfl, SqL.of (by rw [hh, e1]), e5 _, e4, by rw [List.length_map, hlk], ?_, fun p hp => ?_⟩
    · have := nodup_inr hn
      rw [List.map_map] at this
      rw [e3]; exact this
    · have ez : (kqs.map (·.1)).zip (ps.map fun p => V.int p.2) = encD (ps.map fun p => (p.1.l, p.2)) := by rw [e3]; exact enc_pairs ps
      rw [ez]
      exact q _ _ (e2.trans (Ex.new hp)) (rep_di upd_same (ok2.new_b hp) (ok2.new_M hp))
/-! ### list(d) -/
def rListDT : List V → Hp → VK → Prop := fun xs H Q => ∃ d kvs, xs = [V.ref d] ∧ Rd H d (.dT kvs) ∧ ∀ p bs, H p = none → IsKeys H kvs bs → Q (.ref p) (upd H p (.lst (bs.map V.ref)))
theorem cListDT {X : Cx} (hc : X.calm = true) : CallR X (.type "list") rListDT := call_list_dT hc
theorem bag_nb (ok : Ok W M H) {q : Addr} {xs : List V} (h : H q = some (.tup xs)) : q ≠ W.b := fun e => by
  obtain ⟨_, _, _, _, z, _⟩ := ok.bag
  rw [← e, h] at z; cases z
theorem isKeys_rep (ok : Ok W [] H) : ∀ {l : List (List Str × Int)} {bs : List Addr}, IsKeys H (encD l) bs → Paired (Rep W [] H) (bs.map V.ref) (l.map fun p => TupK.mk p.1)
  | [], _, h => by cases h; exact .nil
  | p :: t, _, .cons (b := b) r rs => by
    have hb : H b = some (.tup (p.1.map V.str)) := by rw [map_kV]; exact r
    exact .cons (rep_tupK hb (bag_nb ok hb) (by simp)) (isKeys_rep ok rs)
theorem ev_listD (ha : Ev W [] ta σ H x) : Ev W [] (tCB rListDT (tCons ta tNil)) σ H (x.kvs.map fun p => TupK.mk p.1) := fun H1 e ok Q q =>
  ha H1 e ok _ fun v H2 e2 r => by
    obtain ⟨a, rfl, hh, _⟩ := r.di
    have ok2 := ok.ex e2
    exact ⟨a, _, rfl, .inl hh, fun p bs hp hk => q _ _ (e2.trans (Ex.new hp)) (rep_lst upd_same (ok2.new_b hp) (ok2.new_M hp) (Pd.mono (isKeys_rep ok2 hk) fun _ _ r => r.up (Ex.new hp)))⟩
/-! ### d.clear() -/
def rClearT : V → List V → Hp → VK → Prop := fun x xs H Q => ∃ a kvs, x = .ref a ∧ xs = [] ∧ H a = some (.dT kvs) ∧ Q .non (upd H a (.dT []))
theorem mt_clearT {X : Cx} : MtR X "dict.clear" rClearT := by
  intro pins s σ H x vs v us Q I rx rv h
  obtain ⟨a, kvs, rfl, rfl, hd, q⟩ := h
  cases rx
  cases rv
  obtain ⟨z, hs, xs, pr, hm⟩ := dt_of I.hok hd
  refine PySem.clear_keyed (knd := tupleKind (mixKind X.prog X.w)) ⟨xs, hm, rfl⟩ (fun h' hm' hsb => ?_) (by
    have l2 : kvs.length = xs.length := Paired.length pr
    rw [pairsH_length, ← l2]; exact z)
  obtain ⟨ys, hy, ey⟩ := hm'
  obtain ⟨o, es, ep, r1, r2, r3, r4, r5, r6⟩ := hy
  have hy0 : ys = [] := List.eq_nil_of_length_eq_zero (by have := congrArg List.length ey; rw [pairsH_length] at this; simpa using this)
  subst hy0
  exact ⟨.non, _, d_write I (by rw [hd]; trivial) hsb ⟨o, r1⟩ (show ObjOk X.prog X.w _ _ _ (.dT []) from ⟨Nat.zero_le _, hs, [], .nil, o, es, ep, r1, r2, r3, r4, List.nodup_nil⟩), rfl, q⟩
/-! ### (s, ns) < (t, ms) -/
def ltI (ns ms : List Int) : Bool := Ob.lexAt (fun j => decide (ns.getD j 0 = ms.getD j 0)) (fun j => decide (ns.getD j 0 < ms.getD j 0)) (decide (ns.length < ms.length)) 0 (min ns.length ms.length)
def ltK (x y : Int × Tup Int) : Bool := if x.1 = y.1 then (if x.2.l = y.2.l then false else ltI x.2.l y.2.l) else decide (x.1 < y.1)
def rLtK (K : PySem.W.Frag) : R2 := fun x y H Q => ∃ (a b p q : Addr) (m n : Int) (ms ns : List Int), x = .ref a ∧ y = .ref b ∧ SqT K H a [.int m, .ref p] ∧ SqT K H b [.int n, .ref q] ∧ SqT K H p (ms.map V.int) ∧ SqT K H q (ns.map V.int) ∧ Q (.bl (ltK (m, ⟨ms⟩) (n, ⟨ns⟩))) H
theorem map_int_dat {K : PySem.W.Frag} {H : Hp} : ∀ l : List Int, DpAll K H (l.map V.int) (l.map PyData.int)
  | [] => .nil
  | _ :: t => .cons (.int _) (map_int_dat t)
theorem op_ltK {X : Cx} (hu : X.A.units + 65 < cLine) : OpR X (compareOp .Lt) (rLtK X.K) := by
  intro pins s σ H x y v u Q I rx ry h
  obtain ⟨a, b, p, q, m, n, ms, ns, rfl, rfl, ha, hb, hp, hq, k⟩ := h
  cases rx
  cases ry
  obtain ⟨i1, r1, p1, _⟩ := I.tuple ha
  obtain ⟨i2, r2, p2, _⟩ := I.tuple hb
  obtain ⟨m', pv, rfl, rm, rp⟩ := vals2 r1
  obtain ⟨n', qv, rfl, rn, rq⟩ := vals2 r2
  obtain ⟨tm, rfl⟩ : ∃ t, m' = Value.int m t := rm
  obtain ⟨tn, rfl⟩ : ∃ t, n' = Value.int n t := rn
  cases (show pv = Value.ref p from rp)
  cases (show qv = Value.ref q from rq)
  obtain ⟨js, rj, pj, _⟩ := I.tuple hp
  obtain ⟨ks, rk, pk, _⟩ := I.tuple hq
  have ij : IntsAre js ms := Vals.ints rj
  have ik : IntsAre ks ns := Vals.ints rk
  have ej : js.toArray.size = ms.length := by rw [List.size_toArray]; exact ij.length
  have ek : ks.toArray.size = ns.length := by rw [List.size_toArray]; exact ik.length
  have at1 : ∀ j (h1 : j < js.toArray.size), ∃ t, js.toArray[j] = .int (ms.getD j 0) t := fun j h1 => PyProof.Rows.IntsAre.int_at ij _ _ (by simp at h1; simp [h1])
  have at2 : ∀ j (h1 : j < ks.toArray.size), ∃ t, ks.toArray[j] = .int (ns.getD j 0) t := fun j h1 => PyProof.Rows.IntsAre.int_at ik _ _ (by simp at h1; simp [h1])
  have u1 : X.A.in1.units = X.A.units + 1 := rfl
  have eqi : ∀ (A : Around) (i j : Int) (t t' : Tok), SeqAt.EqAt A s (.int i t) (.int j t') (decide (i = j)) := fun A i j t t' => by
    have z : (i == j) = decide (i = j) := by
      by_cases w : i = j
      · rw [decide_eq_true w]; exact beq_iff_eq.mpr w
      · rw [decide_eq_false w]; exact beq_eq_false_iff_ne.mpr w
    rw [← z]; exact SeqAt.EqAt.int_int _ _ _ _
  have inner := Ob.RcOp.tuples_lt (A := X.A.in1) (s := s) (e := fun j => decide (ms.getD j 0 = ns.getD j 0)) (r := fun j => decide (ms.getD j 0 < ns.getD j 0)) pj pk (by omega) (fun j h1 h2 => by
    obtain ⟨t, et⟩ := at1 j h1
    obtain ⟨t', et'⟩ := at2 j h2
    rw [et, et']; exact eqi _ _ _ _ _) (fun j h1 h2 _ => by
    obtain ⟨t, et⟩ := at1 j h1
    obtain ⟨t', et'⟩ := at2 j h2
    rw [et, et']; exact Ob.RcOp.lt_int _ _ _ _)
  rw [ej, ek] at inner
  have etup := eqE I (.tuple (ms.map PyData.int)) (.tuple (ns.map PyData.int)) X.A.in1 (.ref p) (.ref q) (.ref p) (.ref q) (.tup hp (map_int_dat ms)) (.tup hq (map_int_dat ns)) rfl rfl (by
    have := PyD.depth (Tup.mk ms)
    have h1 : (PyData.tuple (ms.map PyData.int)).depth ≤ 1 := this
    omega)
  have eqt : PyData.eqv (.tuple (ms.map PyData.int)) (.tuple (ns.map PyData.int)) = decide (ms = ns) := by
    have z := eqv_dat (x := Tup.mk ms) (y := Tup.mk ns)
    have z2 : decide (Tup.mk ms = Tup.mk ns) = decide (ms = ns) := by simp
    rw [z2] at z; exact z
  rw [eqt] at etup
  have R := Ob.RcOp.tuples_lt (A := X.A) (s := s) (e := fun j => if j = 0 then decide (m = n) else decide (ms = ns)) (r := fun j => if j = 0 then decide (m < n) else ltI ms ns) p1 p2 (by omega) (fun j h1 h2 => by
    match j, h1, h2 with
    | 0, _, _ => exact eqi _ _ _ _ _
    | 1, _, _ => exact etup
    | j + 2, h1, _ => simp at h1; omega) (fun j h1 h2 _ => by
    match j, h1, h2 with
    | 0, _, _ => exact Ob.RcOp.lt_int _ _ _ _
    | 1, _, _ => exact inner
    | j + 2, h1, _ => simp at h1; omega)
  have eb : Ob.lexAt (fun j => if j = 0 then decide (m = n) else decide (ms = ns)) (fun j => if j = 0 then decide (m < n) else ltI ms ns) (decide ((#[Value.int m tm, Value.ref p] : Array Value).size < (#[Value.int n tn, Value.ref q] : Array Value).size)) 0 (min (#[Value.int m tm, Value.ref p] : Array Value).size (#[Value.int n tn, Value.ref q] : Array Value).size) = ltK (m, ⟨ms⟩) (n, ⟨ns⟩) := by
    show Ob.lexAt _ _ _ 0 2 = _
    unfold ltK
    simp only [Ob.lexAt]
    by_cases c1 : m = n
    · by_cases c2 : ms = ns
      · simp [c1, c2]
      · simp [c1, c2]
    · simp [c1]
  have R' := R X.prog X.w X.xe (EP X pins σ Q)
  have eb' := eb
  exact R' (by
    show EP X pins σ Q (.bool (Ob.lexAt _ _ (decide ((#[Value.int m tm, Value.ref p] : Array Value).size < (#[Value.int n tn, Value.ref q] : Array Value).size)) 0 (min (#[Value.int m tm, Value.ref p] : Array Value).size (#[Value.int n tn, Value.ref q] : Array Value).size))) s
    rw [eb']; exact ⟨.bl _, H, I, rfl, k⟩)
theorem ev_ltK {x y : Int × Tup Int} (ha : Ev W M ta σ H x) (hb : Ev W M tb σ H y) : Ev W M (tOp (rLtK W.K) ta tb) σ H (ltK x y) := fun H1 e ok Q q =>
  ha H1 e ok _ fun v H2 e2 r => hb H2 (e.trans e2) (ok.ex e2) _ fun u H3 e3 r3 => by
    obtain ⟨a, v1, v2, rfl, hh, _, _, r1, r2⟩ := (r.up e3).pair
    obtain ⟨b, u1, u2, rfl, hh', _, _, s1, s2⟩ := r3.pair
    obtain ⟨p, ws, rfl, hp, _, _, pp⟩ := r2.tup
    obtain ⟨p', ws', rfl, hp', _, _, pp'⟩ := s2.tup
    cases (show v1 = .int _ from r1)
    cases (show u1 = .int _ from s1)
    refine ⟨a, b, p, p', x.1, y.1, x.2.l, y.2.l, rfl, rfl, .inl hh, .inl hh', .inl (by rw [paired_toV pp] at hp; exact hp), .inl (by rw [paired_toV pp'] at hp'; exact hp'), q _ H3 (e2.trans e3) rep_bl⟩
/-! ### int(figures) -/
def numS (n : Nat) : Str := Str.ofString (toString ((n : Nat) : Int))
def rIntS : List V → Hp → VK → Prop := fun xs H Q => ∃ a n, xs = [.str a] ∧ PySem.intText? a = some n ∧ a.length ≤ 640 ∧ Q (.int n) H
theorem cIntS {X : Cx} : CallR X (.type "int") rIntS := call_int_str
theorem numS_len {n : Nat} (h : n < 10 ^ 30) : (numS n).length ≤ 30 := by
  unfold numS
  rw [len_tl, tl_num]
  exact numL_len (by decide) h
theorem ev_intS {n : Nat} (ha : Ev W M ta σ H (numS n)) (hn : n < 10 ^ 30) : Ev W M (tCB rIntS (tCons ta tNil)) σ H (n : Int) := fun H1 e ok Q q =>
  ha H1 e ok _ fun v H2 e2 r => ⟨numS n, n, by rw [show v = .str (numS n) from r], int_num (Nat.le_trans (numL_len (by decide) hn) (by decide)), Nat.le_trans (numS_len hn) (by decide), q _ H2 e2 rep_int⟩
/-! ### a loop over a locked dict -/
structure Lk (W : Wd) (M : List Addr) (H H' : Hp) (d : Addr) (od : Obj) (l : List (List Str × Int)) : Prop where
  at_ : H' d = some (.frz od (.dT (encD l)))
  fr : ∀ a o, a ≠ W.b → a ≠ d → H a = some o → H' a = some o
  was : H d = some (.dT (encD l))
  nd : d ≠ W.b
  some_ : ∀ a, H a ≠ none → H' a ≠ none
  bag : BagAt W H → BagAt W H'
theorem Lk.rep {l : List (List Str × Int)} {d : Addr} {od : Obj} (h : Lk W M H H' d od l) {α : Type} [Py α] [Fyz α] {v : V} {y : α} (r : Rep W M H v y) : Rep W [] H' v y :=
  Fyz.fy (fun a o ha hf => by
    obtain ⟨h1, h2, h3⟩ := cut_some.mp ha
    refine cut_some.mpr ⟨h1, by simp, h.fr a o h1 (fun e => ?_) h3⟩
    rw [e, h.was] at h3
    cases h3
    exact hf.2 _ rfl) r
theorem Lk.sl {l : List (List Str × Int)} {d : Addr} {od : Obj} (h : Lk W M H H' d od l) {α : Type} [Py α] [Fyz α] {y : α} (r : Sl W M σ H i y) : Sl W [] σ H' i y := let ⟨v, hv, r⟩ := r; ⟨v, hv, h.rep r⟩
theorem Lk.up {l : List (List Str × Int)} {d : Addr} {od : Obj} {H2 : Hp} (h : Lk W M H H' d od l) (e : Ex W [] H' H2) : Lk W M H H2 d od l :=
  ⟨e.keep _ _ h.nd (by simp) h.at_, fun a o n m q => e.keep _ _ n (by simp) (h.fr a o n m q), h.was, h.nd, fun a q => e.some_ a (h.some_ a q), fun z => e.bag (h.bag z)⟩
theorem Lk.off {l : List (List Str × Int)} {d : Addr} {od : Obj} (h : Lk W M H H' d od l) (ok : Ok W M H) : Ex W [] H (upd H' d (.dT (encD l))) := by
  have nbl : d ≠ W.bl := fun e => by
    obtain ⟨_, _, _, _, _, _, z, _⟩ := ok.bag
    rw [← e, h.was] at z; cases z
  refine ⟨fun a o n _ q => ?_, fun a q => ?_, fun z => bag_upd (h.bag z) h.nd nbl⟩
  · by_cases c : a = d
    · rw [c, upd_same]; rw [c, h.was] at q; exact q
    · rw [upd_ne c]; exact h.fr a o n c q
  · by_cases c : a = d
    · rw [c, upd_same]; exact fun z => nomatch z
    · rw [upd_ne c]; exact h.some_ a q
theorem Lk.start {l : List (List Str × Int)} {d : Addr} {od : Obj} (ok : Ok W M H) (h : H d = some (.dT (encD l))) (nd : d ≠ W.b) : Lk W M H (upd H d (.frz od (.dT (encD l)))) d od l := by
  have nbl : d ≠ W.bl := fun e => by
    obtain ⟨_, _, _, _, _, _, z, _⟩ := ok.bag
    rw [← e, h] at z; cases z
  refine ⟨upd_same, fun a o n m q => by rw [upd_ne m]; exact q, h, nd, fun a q => ?_, fun z => bag_upd z nd nbl⟩
  by_cases c : a = d
  · rw [c, upd_same]; exact fun z => nomatch z
  · rw [upd_ne c]; exact q
theorem Lk.ok {l : List (List Str × Int)} {d : Addr} {od : Obj} (h : Lk W M H H' d od l) (ok : Ok W M H) : Ok W [] H' := ⟨h.bag ok.bag, fun a ha => by cases ha⟩
theorem Lk.key {l : List (List Str × Int)} {d : Addr} {od : Obj} (h : Lk W M H H' d od l) (ok : Ok W M H) {j : Nat} {k : List L2.Key} {w : V} {q : Addr} (e : (encD l)[j]? = some (k, w)) (hq : H' q = some (.tup (k.map kV))) : ∃ p, l[j]? = some p ∧ Rep W [] H' (.ref q) (TupK.mk p.1) := by
  unfold encD at e
  rw [List.getElem?_map] at e
  cases hp : l[j]? with
  | none => rw [hp] at e; cases e
  | some p =>
    rw [hp] at e
    cases e
    refine ⟨p, rfl, rep_tupK (by rw [hq, map_kV]) ?_ (by simp)⟩
    exact bag_nb (h.ok ok) hq
/-- d[k] of the locked dict -/
theorem Lk.get {l : List (List Str × Int)} {d : Addr} {od : Obj} {H0 : Hp} {key : TupK} {n : Int} (h : Lk W M H0 H d od l) (hs : σ[i]? = some (some (.ref d))) (hk : Ev W [] tb σ H key) (hn : l.lookup key.l = some n) : Ev W [] (tDGet (tVar i) tb) σ H n := fun H1 e ok Q q =>
  ⟨.ref d, hs, hk H1 e ok _ fun u H2 e2 r2 => by
    obtain ⟨b, rfl, hb, _⟩ := r2.tupK
    have ha := ((h.up e).up e2).at_
    exact ⟨d, .int n, rfl, .inr ⟨_, key.l.map Sum.inr, b, .inr ⟨od, ha⟩, rfl, by rw [hb, map_kV], by rw [valV_enc, hn]; rfl⟩, q _ H2 e2 rep_int⟩⟩
/-- for k in d: if t: .. (which is never so) -/
theorem s_forK {tt : TT} {t1 : TS} (ok : Ok W M H) (hs : Sl W M σ H i x) (nik : i ≠ k) (hkl : k < σ.length)
    (he : ∀ d od (p : List Str × Int) v σ' H', p ∈ x.kvs → Lk W M H H' d od x.kvs → Ok W [] H' → Rep W [] H' v (TupK.mk p.1) → (σ' = σ ∨ ∃ o, σ' = σ.set k o) → Et W [] tt (σ'.set k (some v)) H' false)
    (q : ∀ σ' H', (σ' = σ ∨ ∃ o, σ' = σ.set k o) → Ex W [] H H' → Ok W M H' → D.nx σ' H') : tLock (tFor (iKeys (tVar i)) (gName k) (tIfS tt t1 tNext)) D σ H := by
  obtain ⟨v, hv, r⟩ := hs
  obtain ⟨d, rfl, hd, nb, nm⟩ := r.di
  refine ⟨d, _, hd, trivial, fun od => ⟨.ref d, hv, d, od, rfl, .inr ⟨_, upd_same, ?_⟩⟩⟩
  have out : ∀ {σ' : L2.St} {H' : Hp}, (σ' = σ ∨ ∃ o, σ' = σ.set k o) → Lk W M H H' d od x.kvs → H' d = some (.frz od (.dT (encD x.kvs))) ∧ D.nx σ' (upd H' d (.dT (encD x.kvs))) := fun hσ lk => ⟨lk.at_, q _ _ hσ (lk.off ok) (ok.ex (lk.off ok))⟩
  refine ⟨fun j m σ' H' => m = (encD x.kvs).length - j ∧ j ≤ (encD x.kvs).length ∧ (σ' = σ ∨ ∃ o, σ' = σ.set k o) ∧ Lk W M H H' d od x.kvs, ⟨_, rfl, Nat.zero_le _, .inl rfl, Lk.start ok hd nb⟩, ?_⟩
  rintro j m σ' H' ⟨rfl, hj, hσ, lk⟩
  by_cases hlt : j < (encD x.kvs).length
  · refine .inr ⟨⟨lk.at_, hlt⟩, fun σ3 H3 => (σ3 = σ ∨ ∃ o, σ3 = σ.set k o) ∧ Lk W M H H3 d od x.kvs, fun σ3 H3 z => ⟨(encD x.kvs).length - (j + 1), by omega, rfl, hlt, z⟩, ?_⟩
    rintro v H2 ⟨rfl, kk, w, qa, hkw, rfl, hqa⟩
    obtain ⟨p, hp, rp⟩ := lk.key ok hkw hqa
    refine he d od p (.ref qa) σ' H2 (List.mem_of_getElem? hp) lk (lk.ok ok) rp hσ H2 Ex.refl (lk.ok ok) _ fun H3 e3 => ?_
    rw [if_neg Bool.false_ne_true]
    refine ⟨.inr ⟨some (.ref qa), ?_⟩, lk.up e3⟩
    rcases hσ with rfl | ⟨o, rfl⟩
    · rfl
    · rw [List.set_set]
  · exact .inl ⟨⟨lk.at_, by omega⟩, out hσ lk⟩
/-- [f for k in d] -/
theorem ev_lcK {f : List Str × Int → Bool} {vs : List Nat} (hs : Sl W M σ H i x) (hi : i ∉ vs) (hl : x.kvs.length ≤ 1000) (hk : k ∈ vs)
    (he : ∀ d od (p : List Str × Int) v H1 H', p ∈ x.kvs → Ex W [] H H1 → Ok W M H1 → σ[i]? = some (some (.ref d)) → Lk W M H1 H' d od x.kvs → Ok W [] H' → Rep W [] H' v (TupK.mk p.1) → Ev W [] te ((L2.wipe σ vs).set k (some v)) H' (f p)) :
    Ev W M (tLockE (tLc (iKeys (tVar i)) (gName k) tYes te vs)) σ H (x.kvs.map f) := fun H1 e1 ok1 Q q => by
  obtain ⟨v, hv, r⟩ := hs.up e1
  obtain ⟨d, rfl, hd, nb, nm⟩ := r.di
  refine ⟨d, _, hd, trivial, fun od => ⟨.ref d, hv, d, od, rfl, .inr ⟨_, upd_same, fun L hL => ?_⟩⟩⟩
  have hln : (encD x.kvs).length = x.kvs.length := by unfold encD; rw [List.length_map]
  have lk0 := Lk.start (od := od) ok1 hd nb
  have hLd : L ≠ d := fun e => by rw [e, upd_same] at hL; cases hL
  have hL1 : H1 L = none := by rw [upd_ne hLd] at hL; exact hL
  have nLb := ok1.new_b hL1
  have nLbl := ok1.new_bl hL1
  -- what holds at a turn
  have wr : ∀ {H' : Hp} (o : HO), Lk W M H1 H' d od x.kvs → Lk W M H1 (upd H' L o) d od x.kvs := fun {H'} o lk => by
    refine ⟨by rw [upd_ne hLd.symm]; exact lk.at_, fun a u n m z => ?_, lk.was, lk.nd, fun a z => ?_, fun z => bag_upd (lk.bag z) nLb nLbl⟩
    · rw [upd_ne (fun e => by rw [e, hL1] at z; cases z)]; exact lk.fr a u n m z
    · by_cases c : a = L
      · rw [c, upd_same]; exact fun z => nomatch z
      · rw [upd_ne c]; exact lk.some_ a z
  refine ⟨fun j m H' => m = x.kvs.length - j ∧ j ≤ x.kvs.length ∧ Lk W M H1 H' d od x.kvs ∧ H' L = some (.lst (((x.kvs.take j).map f).map V.bl)), ⟨_, rfl, Nat.zero_le _, wr _ lk0, upd_same⟩, ?_⟩
  rintro j m H' ⟨rfl, hj, lk, hL'⟩
  by_cases hlt : j < x.kvs.length
  · refine .inr ⟨⟨lk.at_, by rw [hln]; exact hlt⟩, fun H3 => Lk W M H1 H3 d od x.kvs ∧ H3 L = some (.lst (((x.kvs.take (j + 1)).map f).map V.bl)), fun H3 z => ⟨x.kvs.length - (j + 1), by omega, rfl, hlt, z⟩, ?_⟩
    rintro v H2 ⟨rfl, kk, w, qa, hkw, rfl, hqa⟩
    obtain ⟨p, hp, rp⟩ := lk.key ok1 hkw hqa
    refine ⟨by rw [wipe_set hk, wipe_wipe], ?_⟩
    show te _ _ _
    refine he d od p (.ref qa) H1 H2 (List.mem_of_getElem? hp) e1 ok1 hv lk (lk.ok ok1) rp H2 Ex.refl (lk.ok ok1) _ fun u H3 e3 r3 => ?_
    cases (show u = .bl _ from r3)
    have lk3 := lk.up e3
    refine ⟨_, e3.keep _ _ nLb (by simp) hL', sl (by rw [List.length_map, List.length_map, List.length_take]; omega), wr _ lk3, ?_⟩
    rw [upd_same, List.take_add_one, hp]
    simp
  · have ej : j = x.kvs.length := by omega
    rw [ej, List.take_length] at hL'
    refine .inl ⟨⟨lk.at_, by rw [hln]; omega⟩, lk.at_, q _ _ (lk.off ok1) (rep_lst (by rw [upd_ne hLd]; exact hL') nLb (ok1.new_M hL1) (toV_paired (α := Bool)))⟩
end
end RG
/-! ### lists are equal, place by place, within one model -/
namespace PySem.SeqAt
open AutoSeq1 (wpAny_loadPart')
open MeetsSeq MeetsSeq2 MeetsSeq3 SeqRoads2
section
variable {prog : Program} {w : World}
theorem rg_turn {l b : Addr} {xs ys : Array Value} {n n2 : Nat} {dd dd2 : Option Addr} {sl sl2 : Array (Option Value)} (hz : xs.size = ys.size) : ∀ (k i : Nat), xs.size - i = k →
    MeetsIn prog w (Builtin.«list.__eq__.loop» ⟨[.ref l, .ref b, rawInt i, rawInt 3], []⟩) (fun A R s => (s.heap.get? l = some { cls := .type "list", dict := dd, data := .seq xs n, slots := sl } ∧ s.heap.get? b = some { cls := .type "list", dict := dd2, data := .seq ys n2, slots := sl2 }) ∧
      (∀ j (h1 : j < xs.size) (h2 : j < ys.size), EqP prog w A.in1 s xs[j] ys[j] true) ∧ R (.ok (.ret (.bool false))) s)
  | 0, i, hk => by
    intro A R s h
    obtain ⟨hp, g, d, tk, os⟩ := s
    obtain ⟨⟨hl, hb⟩, he, h⟩ := h
    wp_walk using wpAny_loadPart' hl, wpAny_loadPart' hb
    rw [show xs[((i : Nat) : Int).toNat]? = none by simp; omega, show ys[((i : Nat) : Int).toNat]? = none by simp; omega]
    wp_walk using wpAny_loadPart' hl, wpAny_loadPart' hb
    show R (.ok (.ret (.bool (xs.size != ys.size)))) _
    rw [hz]
    simpa using h
  | k + 1, i, hk => by
    intro A R s h
    obtain ⟨hp, g, d, tk, os⟩ := s
    obtain ⟨⟨hl, hb⟩, he, h⟩ := h
    have c1 : i < xs.size := by omega
    have c2 : i < ys.size := by omega
    wp_walk using wpAny_loadPart' hl, wpAny_loadPart' hb
    rw [show xs[((i : Nat) : Int).toNat]? = some xs[i] by simp [c1], show ys[((i : Nat) : Int).toNat]? = some ys[i] by simp [c2]]
    refine wpAny_bind (he i c1 c2 _ _ ?_)
    wp_walk
    rw [show ((i : Int) + 1) = ((i + 1 : Nat) : Int) by push_cast; rfl]
    refine ⟨plainId_quiet plain_eq_loop _, codeAny_builtin entry_eq_loop ?_⟩
    rw [Around.under_plainId plain_eq_loop _]
    exact rg_turn hz k (i + 1) (by omega) A R _ ⟨⟨hl, hb⟩, he, h⟩
theorem rg_neIn {l b : Addr} {xs ys : Array Value} {n n2 : Nat} {dd dd2 : Option Addr} {sl sl2 : Array (Option Value)} (hz : xs.size = ys.size) :
    MeetsIn prog w (Builtin.«list.__ne__» ⟨[.ref l, .ref b], []⟩) (fun A R s => (s.heap.get? l = some { cls := .type "list", dict := dd, data := .seq xs n, slots := sl } ∧ s.heap.get? b = some { cls := .type "list", dict := dd2, data := .seq ys n2, slots := sl2 }) ∧
      (∀ j (h1 : j < xs.size) (h2 : j < ys.size), EqP prog w A.in1 s xs[j] ys[j] true) ∧ R (.ok (.ret (.bool false))) s) := by
  intro A R s h
  obtain ⟨hp, g, d, tk, os⟩ := s
  obtain ⟨⟨hl, hb⟩, he, h⟩ := h
  have f3 := AutoSeq1.sub_list_list
  have no : ¬ (xs.size != ys.size) = true := by simp [hz]
  wp_walk using wpAny_loadPart' hl, wpAny_loadPart' hb
  refine ⟨plainId_quiet plain_eq_loop _, codeAny_builtin entry_eq_loop ?_⟩
  rw [Around.under_plainId plain_eq_loop _]
  exact rg_turn hz _ 0 rfl A R _ ⟨⟨hl, hb⟩, he, h⟩
theorem rg_ne {A : Around} {s : Shared} {l b : Addr} {xs ys : Array Value} (hl : s.heap.IsList l xs) (hb : s.heap.IsList b ys) (hz : xs.size = ys.size) (hu : A.units < cLine)
    (he : ∀ j (h1 : j < xs.size) (h2 : j < ys.size), EqP prog w A.in1 s xs[j] ys[j] true) (E Q : Value → Shared → Prop) (h : Q (.bool false) s) : wpAny (model prog w) A (richCompare .NotEq (.ref l) (.ref b)) Q E s := by
  obtain ⟨⟨c1, d1, t1, s1⟩, ho, hc, n, hd⟩ := id hl
  obtain ⟨⟨c2, d2, t2, s2⟩, ho2, hc2, n2, hd2⟩ := id hb
  simp only at hc hd hc2 hd2
  subst hc hd hc2 hd2
  have ty : s.TypeIs (.ref l) "list" := ⟨_, ho, rfl⟩
  exact wpAny_richCompare_same_room (op := .NotEq) ty ⟨_, ho2, rfl⟩ F.slot_list_ne (call_meetsIn F.slot_list_ne ty F.entry_list_ne (F.args_list_ne_2 _ _) (rg_neIn hz) ⟨⟨ho, ho2⟩, he, show Value.bool false ≠ Value.notImplemented ∧ Q (.bool false) s from ⟨(fun x => nomatch x), h⟩⟩) hu
end
end PySem.SeqAt
namespace RG
open PySem PySem.Spec PyProof.Rows L2 StX RZ TL
/-! ### dicts with tuple keys are equal -/
section
variable {prog : Program} {w : World} {K : Type} [DecidableEq K] {knd : HeapKind prog w K} {A : Around} {E : Value → Shared → Prop} {s : Shared} {a b : Addr} {xs ys : List (K × Addr × Value)}
theorem same_dicts {nm : String} {Q : Bool → Shared → Prop} (hu : knd.room A) (ha : (a == sysModules) = false) (hb : (b == sysModules) = false) (da : s.heap.DictOfH knd a xs) (db : s.heap.DictOfH knd b ys) (hl : xs.length = ys.length)
    (he : ∀ k p v, (k, p, v) ∈ xs → ∃ p' v', (k, p', v') ∈ ys ∧ SeqAt.EqP prog w A s v v' true) (h : Q true s) : wpAny (model prog w) A (Builtin.Dict.samePairs nm a b) Q E s := by
  obtain ⟨oa, ea, na, goa, xa, dta, ka, isa, nda⟩ := da
  obtain ⟨ob, eb, nb, gob, xb, dtb, kb, isb, ndb⟩ := db
  have za : ea.size = xs.length := size_of_entries ka
  have zb : eb.size = ys.length := size_of_entries kb
  unfold Builtin.Dict.samePairs Builtin.Dict.showsAll
  rw [if_neg (by rw [ha]; decide), if_neg (by rw [hb]; decide)]
  refine wpAny_bind (wpAny_pure (wpAny_bind (wpAny_pure (wpAny_bind (wpAny_dictEntries goa dta ?_)))))
  dsimp only
  refine wpAny_bind (wpAny_dictEntries gob dtb ?_)
  rw [if_neg (by rw [za, zb, hl]; simp)]
  refine wpAny_bind (wpAny_dictEpoch goa dta (wpAny_bind ?_))
  rw [Std.Legacy.Range.forIn_eq_forIn_range']
  simp only [Std.Legacy.Range.size, Nat.sub_zero, Nat.add_sub_cancel, Nat.div_one]
  refine wpAny_forIn_list _ (fun rest q s' => s' = s ∧ q = (none, ()) ∧ ∃ i, rest = List.range' i (xs.length - i) ∧ i ≤ xs.length) _ ?_ ?_ _ _ ⟨rfl, rfl, 0, by rw [za, Nat.sub_zero], Nat.zero_le _⟩
  · rintro x rest q s' ⟨rfl, rfl, i, hr, hi⟩
    have lt : i < xs.length := by
      by_cases c : i < xs.length
      · exact c
      · rw [Nat.sub_eq_zero_of_le (by omega)] at hr
        exact nomatch hr
    have hs : xs.length - i = (xs.length - (i + 1)) + 1 := by omega
    rw [hs, List.range'_succ] at hr
    injection hr with hx hr
    subst hx
    obtain ⟨⟨k, p, v⟩, hk⟩ : ∃ z, xs[x]? = some z := ⟨xs[x], List.getElem?_eq_getElem lt⟩
    obtain ⟨p', v', hm', hq⟩ := he k p v (List.mem_of_getElem? hk)
    have ent : ea[x]? = some (entryOfKey knd (k, p, v)) := by rw [entry_at ka x, hk]; rfl
    refine wpAny_bind (wpAny_dictEntries goa dta ?_)
    rw [ent]
    dsimp only
    obtain ⟨j, hj⟩ := List.mem_iff_getElem?.mp hm'
    refine wpAny_bind (wpAny_holding (wpAny_bind (wpAny_dictFind_heap hu (isa _ (List.mem_of_getElem? hk)) gob dtb kb isb ndb (fun no => absurd hj (no j (p', v'))) fun j2 pv hj2 => ?_)))
    obtain rfl : j2 = j := idxH_unique ndb hj2 hj
    rw [hj] at hj2
    refine wpAny_bind (wpAny_dictEntries gob dtb ?_)
    rw [entry_at kb j2, hj]
    refine wpAny_holding (hq _ _ ?_)
    show wpAny _ _ (if (!true) = true then _ else _) _ _ _
    rw [if_neg (by decide)]
    refine wpAny_bind (wpAny_dictEpoch goa dta ?_)
    rw [if_neg (by simp)]
    exact wpAny_pure ⟨rfl, rfl, x + 1, hr, lt⟩
  · rintro q s' ⟨rfl, rfl, _⟩
    exact wpAny_pure h
theorem dicts_eq (hu : knd.room A.in1) (hu2 : A.units < cLine) (ha : (a == sysModules) = false) (hb : (b == sysModules) = false) (da : s.heap.DictOfH knd a xs) (db : s.heap.DictOfH knd b ys) (hl : xs.length = ys.length)
    (he : ∀ k p v, (k, p, v) ∈ xs → ∃ p' v', (k, p', v') ∈ ys ∧ SeqAt.EqP prog w A.in1 s v v' true) (E Q : Value → Shared → Prop) (h : Q (.bool true) s) : wpAny (model prog w) A (richCompare .Eq (.ref a) (.ref b)) Q E s := by
  refine wpAny_richCompare_same_room (op := .Eq) da.typeIs db.typeIs PySem.F.slot_dict_eq (wpAny_call_entry PySem.F.slot_dict_eq da.typeIs PySem.F.entry_dict_eq ?_ (PySem.F.args_dict_eq_2 _ _)) hu2
  refine wpAny_bind (m := Builtin.Dict.dictSlotArgs "__eq__" ⟨[.ref a, .ref b], []⟩) ?_
  unfold Builtin.Dict.dictSlotArgs
  refine wpAny_bind (wpAny_notOrdered_dict da.typeIs (wpAny_pure (wpAny_bind (wpAny_isInstance (T := "dict") db.typeIs PySem.F.sub_dict_dict ?_))))
  simp only [Bool.not_true, Bool.false_eq_true, if_false]
  refine wpAny_bind (wpAny_pure (wpAny_bind (wpAny_pure (wpAny_bind (same_dicts hu ha hb da db hl he (wpAny_pure ⟨_, rfl, (fun x => nomatch x), ?_⟩))))))
  simpa using h
end
section
variable {X : Cx}
/-- [d, ns] != [d', ns'], which are the same -/
def rNeG (K : PySem.W.Frag) : R2 := fun x y H Q => ∃ (a b d d' p p' : Addr) (l l' : List (List Str × Int)) (ns : List Int), x = .ref a ∧ y = .ref b ∧ SqL K H a [.ref d, .ref p] ∧ SqL K H b [.ref d', .ref p'] ∧ H d = some (.dT (encD l)) ∧ H d' = some (.dT (encD l')) ∧
  SqL K H p (ns.map V.int) ∧ SqL K H p' (ns.map V.int) ∧ l.length = l'.length ∧ (∀ z ∈ l, z ∈ l') ∧ Q (.bl false) H
theorem kt_mem {H : Hp} {l : List (List Str × Int)} : ∀ {xs : List (List L2.Key × Addr × Value)}, KT H (encD l) xs → ∀ k p v, (k, p, v) ∈ xs → ∃ z ∈ l, k = z.1.map Sum.inr ∧ ∃ t, v = .int z.2 t := by
  induction l with
  | nil =>
    intro xs h k p v hm
    cases h
    cases hm
  | cons z t ih =>
    intro xs h k p v hm
    cases h with
    | cons r rs =>
      rcases List.mem_cons.mp hm with e | hm
      · obtain ⟨h1, h2, h3⟩ := r
        subst e
        exact ⟨z, by simp, h1.symm, h3⟩
      · obtain ⟨y, hy, e⟩ := ih rs k p v hm
        exact ⟨y, List.mem_cons_of_mem _ hy, e⟩
theorem kt_has {H : Hp} {l : List (List Str × Int)} : ∀ {xs : List (List L2.Key × Addr × Value)}, KT H (encD l) xs → ∀ z ∈ l, ∃ p t, (z.1.map Sum.inr, p, .int z.2 t) ∈ xs := by
  induction l with
  | nil => intro xs _ z hz; cases hz
  | cons y t ih =>
    intro xs h z hz
    cases h with
    | cons r rs =>
      rcases List.mem_cons.mp hz with e | hz
      · subst e
        obtain ⟨h1, h2, tk, h3⟩ := r
        rename_i q _
        refine ⟨q.2.1, tk, ?_⟩
        have : q = (z.1.map Sum.inr, q.2.1, .int z.2 tk) := by
          obtain ⟨q1, q2, q3⟩ := q
          simp only at h1 h3
          rw [← h1, h3]
        exact this ▸ List.mem_cons_self
      · obtain ⟨p, tk, hm⟩ := ih rs z hz
        exact ⟨p, tk, List.mem_cons_of_mem _ hm⟩
theorem op_neG (hu : X.A.units + 65 < cLine) : OpR X (compareOp .NotEq) (rNeG X.K) := by
  intro pins s σ H x y v u Q I rx ry h
  obtain ⟨a, b, d, d', p, p', l, l', ns, rfl, rfl, ha, hb, hd, hd', hp, hp', hl, hm, q⟩ := h
  cases rx
  cases ry
  obtain ⟨i1, r1, p1, _⟩ := I.list ha
  obtain ⟨i2, r2, p2, _⟩ := I.list hb
  obtain ⟨x1, x2, rfl, e1, e2⟩ := vals2 r1
  obtain ⟨y1, y2, rfl, g1, g2⟩ := vals2 r2
  cases (show x1 = Value.ref d from e1)
  cases (show x2 = Value.ref p from e2)
  cases (show y1 = Value.ref d' from g1)
  cases (show y2 = Value.ref p' from g2)
  have u1 : X.A.in1.units = X.A.units + 1 := rfl
  have u2 : X.A.in1.in1.units = X.A.units + 1 + 1 := rfl
  obtain ⟨z1, s1, xs, k1, m1⟩ := dt_of I.hok hd
  obtain ⟨z2, s2, ys, k2, m2⟩ := dt_of I.hok hd'
  refine SeqAt.rg_ne p1.isList p2.isList rfl (by omega) (fun j h1 h2 => ?_) _ _ ⟨.bl false, H, I, rfl, q⟩
  match j, h1, h2 with
  | 0, _, _ =>
    by_cases hdd : d = d'
    · subst hdd; exact (SeqAt.EqAt.same _).eqP
    refine SeqAt.eqP_refs hdd fun E Q hq => ?_
    refine dicts_eq (knd := tupleKind (mixKind X.prog X.w)) (show X.A.in1.in1.units < cLine by omega) (by omega) s1 s2 m1 m2 ?_ (fun k q v hkv => ?_) E Q hq
    · have e1 : (encD l).length = xs.length := Paired.length k1
      have e2 : (encD l').length = ys.length := Paired.length k2
      unfold encD at e1 e2
      rw [List.length_map] at e1 e2
      omega
    · obtain ⟨z, hz, rfl, t, rfl⟩ := kt_mem k1 _ _ _ hkv
      obtain ⟨p', t', hin⟩ := kt_has k2 z (hm z hz)
      refine ⟨p', _, hin, ?_⟩
      have w := SeqAt.EqAt.int_int (A := X.A.in1.in1) (s := s) z.2 t z.2 t'
      rw [beq_self_eq_true] at w
      exact w.eqP
  | 1, _, _ =>
    have e := eqE I (.list (ns.map PyData.int)) (.list (ns.map PyData.int)) X.A.in1 (.ref p) (.ref p') (.ref p) (.ref p') (.lst hp (map_int_dat ns)) (.lst hp' (map_int_dat ns)) rfl rfl (by
      have h1 : (PyData.list (ns.map PyData.int)).depth ≤ 1 := PyD.depth ns
      omega)
    rw [show PyData.eqv (.list (ns.map PyData.int)) (.list (ns.map PyData.int)) = true by
      have z := eqv_dat (x := ns) (y := ns)
      rw [decide_eq_true rfl] at z; exact z] at e
    exact e.eqP
  | j + 2, h1, _ => simp at h1; omega
/-! ### sum of a tuple -/
def rSumT (K : PySem.W.Frag) : List V → Hp → VK → Prop := fun vs H Q => ∃ (a : Addr) (ns : List Int), vs = [V.ref a] ∧ SqT K H a (ns.map V.int) ∧ Q (.int ns.sum) H
theorem cr_sumT (hc : X.calm = true) : CallR X (.builtin "sum") (rSumT X.K) := by
  intro pins s σ H vs us Q I r h
  obtain ⟨a, ns, rfl, hs, q⟩ := h
  obtain ⟨its, rv, ht, _⟩ := I.tuple hs
  rw [Vals.ref1 r]
  have ht' : s.heap.IsTuple a its.toArray := ht
  obtain ⟨xs, hx⟩ := rv.ints.allInts.items
  have hn : numsOf its.toArray.toList = ns := by rw [show its.toArray.toList = its from rfl, rv.ints.numsOf]
  rw [hx] at ht' hn
  rw [nums_intItems] at hn
  refine PySem.W.ktm_sumG (I.ok.hd hc) ht' fun h' tk t' hk => ?_
  rw [preSum_eq, List.take_of_length_le (by simp), hn]
  exact ⟨.int _, H, I.kept hk, ⟨_, rfl⟩, q⟩
end
section
variable {α β γ : Type} [Py α] [Py β] [Py γ] {W : Wd} {M M' N : List Addr} {σ : L2.St} {H H' : Hp} {ta tb te : TE} {tr : TA} {v : V} {x : α} {y : β} {k l : Nat} {p : Addr} {D : Ends} {E : XK}
theorem ev_sumT {xs : Tup Int} (ha : Ev W M ta σ H xs) : Ev W M (tCB (rSumT W.K) (tCons ta tNil)) σ H xs.l.sum := fun H1 e ok Q q =>
  ha H1 e ok _ fun v H2 e2 r => by
    obtain ⟨a, vs, ev, hh, _, _, pp⟩ := r.tup
    refine ⟨a, xs.l, by rw [ev], .inl (by rw [paired_toV pp] at hh; exact hh), q _ H2 e2 rep_int⟩
/-! ### a, b = a list of two -/
def gPairL (K : PySem.W.Frag) (k l : Nat) : TG := gLst K 2 (gCons (gName k) (gCons (gName l) gNil))
theorem s_set2L {x1 x2 : α} (ok : Ok W M H) (h : Ev W M te σ H [x1, x2]) (q : ∀ v u H', Ex W [] H H' → Ok W M H' → Rep W M H' v x1 → Rep W M H' u x2 → D.nx ((σ.set k (some v)).set l (some u)) H') : tAsg te (gPairL W.K k l) D σ H :=
  h H Ex.refl ok _ fun v H' e r => by
    obtain ⟨a, vs, ev, hh, _, _, pp⟩ := r.lst
    cases pp with
    | cons r1 pp =>
      cases pp with
      | cons r2 pp =>
        cases pp
        exact ⟨a, _, ev, SqL.of hh, rfl, _, _, rfl, _, [], rfl, rfl, q _ _ H' e (ok.ex e) r1 r2⟩
/-! ### xs = [x] * n, a list that will be filled otherwise -/
theorem ev_rep {xs : List α} {n : Int} (ha : Ev W M ta σ H xs) (hb : Ev W M tb σ H n) (h0 : 0 ≤ n) (h1 : n ≤ 1000) (h2 : xs.length ≤ 100) : Ev W M (tOp rRep ta tb) σ H (List.replicate n.toNat xs).flatten := fun H1 e ok Q q =>
  ha H1 e ok _ fun v H2 e2 r => hb H2 (e.trans e2) (ok.ex e2) _ fun u H3 e3 r3 => by
    obtain ⟨a, vs, rfl, hh, _, _, pp⟩ := (r.up e3).lst
    have ok3 := (ok.ex e2).ex e3
    have rp : ∀ m : Nat, Paired (Rep W M H3) (List.replicate m vs).flatten (List.replicate m xs).flatten := fun m => by
      induction m with
      | zero => exact .nil
      | succ m ih => rw [List.replicate_succ, List.replicate_succ, List.flatten_cons, List.flatten_cons]; exact Pd.append pp ih
    refine ⟨a, n, vs, rfl, r3, hh, by omega, by omega, ?_, fun p hp => q _ _ ((e2.trans e3).trans (Ex.new hp)) (rep_lst upd_same (ok3.new_b hp) (ok3.new_M hp) (Pd.mono (rp _) fun _ _ r => r.up (Ex.new hp)))⟩
    rw [Pd.length pp]
    have : xs.length * n.toNat ≤ 100 * 1000 := Nat.mul_le_mul h2 (by omega)
    exact Nat.le_trans this (by decide)
/-- a list of scalars that an expression makes anew is filled -/
theorem s_rep {n m : Int} (ok : Ok W M H) (hb : Ev W M tb σ H n) (h0 : 0 ≤ n) (h1 : n ≤ 1000) (hk : k < σ.length)
    (q : ∀ p H', H p = none → Ex W [] H H' → Le (cut W M H) (cut W (p :: M) H') → Ok W (p :: M) H' → Acc W (p :: M) (σ.set k (some (.ref p))) H' k p (List.replicate n.toNat m) → D.nx (σ.set k (some (.ref p))) H') : tAsg (tOp rRep (tLst (tCons (tC (.int m)) tNil)) tb) (gName k) D σ H := by
  refine ⟨by show 1 ≤ sizeLine; decide, fun l hl => ?_⟩
  have e1 : Ex W [] H (upd H l (.lst [.int m])) := Ex.new hl
  have ok1 := ok.ex e1
  refine hb _ e1 ok1 _ fun u H3 e3 r3 => ?_
  cases (show u = .int n from r3)
  have ok3 := ok1.ex e3
  have e13 := e1.trans e3
  have hv : (List.replicate n.toNat [V.int m]).flatten = (List.replicate n.toNat m).map PyS.toV := by
    induction n.toNat with
    | zero => rfl
    | succ j ih => rw [List.replicate_succ, List.flatten_cons, ih, List.replicate_succ]; rfl
  refine ⟨l, n, [.int m], rfl, rfl, e3.keep _ _ (ok.new_b hl) (by simp) upd_same, by omega, by omega, ?_, fun p hp => ?_⟩
  · show 1 * n.toNat ≤ sizeLine
    exact Nat.le_trans (show 1 * n.toNat ≤ 1000 by omega) (by decide)
  · exact q p _ (e13.free hp) (e13.trans (Ex.new hp)) (e13.up.le.trans (le_new hp)) (ok3.grow hp) ⟨by rw [List.getElem?_set_self hk], ok3.new_b hp, ok3.new_bl hp, List.mem_cons_self, _, upd_same, by rw [hv]; exact toV_paired⟩
/-! ### __init__ of two arguments -/
def I2 (K : PySem.W.Frag) (C : Str → Addr) (cn : Str) (pre : α → β → Prop) (f : α → β → γ) : Sp := fun vs H Q _ => ∃ (W : Wd) (M : List Addr) (a dx : Addr) (v u : V) (x : α) (y : β), W.K = K ∧ W.C = C ∧ vs = [.ref a, v, u] ∧ Ok W (a :: dx :: M) H ∧ a ≠ W.b ∧ a ≠ W.bl ∧ a ∉ M ∧
  H a = some (.ins (C cn) dx []) ∧ Rep W (a :: dx :: M) H v x ∧ Rep W (a :: dx :: M) H u y ∧ pre x y ∧ ∀ H', Ex W [a] H H' → Rep W M H' (.ref a) (f x y) → Q .non H'
theorem ev_make2 {cn : Str} {pre : α → β → Prop} {f : α → β → γ} (ha : Ev W M ta σ H x) (hb : Ev W M tb σ H y) (hp : pre x y) : Ev W M (tMake (W.C cn) (I2 W.K W.C cn pre f) [] E (tCons ta (tCons tb tNil))) σ H (f x y) := fun H1 e ok Q q =>
  ha H1 e ok _ fun v H2 e2 r => hb H2 (e.trans e2) (ok.ex e2) _ fun u H3 e3 r3 a dx hx hd hn => by
    have ok3 := (ok.ex e2).ex e3
    have hd' : upd H3 dx (.own a) a = none := by rw [upd_ne (Ne.symm hn)]; exact hx
    have okd := ok3.grow (o := .own a) hd
    refine ⟨W, M, a, dx, v, u, x, y, rfl, rfl, rfl, okd.grow hd', okd.new_b hd', okd.new_bl hd', ok3.new_M hx, upd_same, ((r.up e3).grow hd).grow hd', (r3.grow hd).grow hd', hp, fun H4 e4 rr => ⟨rfl, q _ H4 ?_ rr⟩⟩
    have e5 : Ex W [] H3 (upd (upd H3 dx (.own a)) a (.ins (W.C cn) dx [])) := (Ex.new hd).trans (Ex.new hd')
    refine (e2.trans e3).trans ⟨fun b o nb _ hb => e4.keep b o nb (fun z => ?_) (e5.keep b o nb (by simp) hb), fun b hb => e4.some_ b (e5.some_ b hb), fun z => e4.bag (e5.bag z)⟩
    have : b = a := by simpa using z
    rw [this, hx] at hb
    cases hb
end
end RG
namespace RG
open PySem PySem.Spec PyProof.Rows L2 StX RZ
/-! ### sorted(set(texts)) -/
def tOf (e : Int × Value) : Str := match e.2 with | .str z _ => z | _ => Str.empty
structure Tb (P : Program) (w : World) (xs : List Str) (es : Array (Int × Value)) (t : SetTable) : Prop where
  el : ElemsOf (PySem.strKind P w) es.toList
  sh : ∀ e ∈ es.toList, ∃ z u, e.2 = .str z u
  pm : (es.toList.map tOf).Perm xs
  fw : es.size < scanBound
  ft : t.fits es.size = true
  rs : Ris t.place.toList
  ld : w.params.followText "set-order" = true ∨ t.led = true
def SetS (P : Program) (w : World) (hp : Heap) (a : Addr) (xs : List Str) : Prop := ∃ o es ep t, hp.get? a = some o ∧ o.ExactSet ∧ o.data = .set es ep t ∧ Tb P w xs es t
section
variable {P : Program} {w : World} {A : Around} {E : Value → Shared → Prop} {s : Shared} {a : Addr} {xs : List Str} {es : Array (Int × Value)} {t : SetTable}
theorem Tb.size (T : Tb P w xs es t) : es.size = xs.length := by rw [← T.pm.length_eq, List.length_map, Array.length_toList]
theorem Tb.isT (T : Tb P w xs es t) {x : Str} : (∃ e ∈ es.toList, (PySem.strKind P w).is x e.2 = true) ↔ x ∈ xs := by
  rw [← T.pm.mem_iff, List.mem_map]
  refine ⟨fun ⟨e, he, q⟩ => ⟨e, he, ?_⟩, fun ⟨e, he, q⟩ => ⟨e, he, ?_⟩⟩
  · obtain ⟨z, u, hz⟩ := T.sh e he
    rw [hz] at q
    obtain ⟨u', hu⟩ := Value.isStrOf_shape (show Value.isStrOf x (.str z u) = true from q)
    unfold tOf; rw [hz]
    show z = x
    injection hu
  · obtain ⟨z, u, hz⟩ := T.sh e he
    unfold tOf at q; rw [hz] at q
    rw [hz, ← show z = x from q]; exact strKind_is _ _ _ _
theorem SetS.keep {hp hp' : Heap} (R : SetS P w hp a xs) (k : ∀ o, hp.get? a = some o → hp'.get? a = some o) : SetS P w hp' a xs := let ⟨o, es, ep, t, ho, r⟩ := R; ⟨o, es, ep, t, k o ho, r⟩
theorem put_end {g : Bool → Sem Unit} (hg : ∀ (b : Bool) (s1 : Shared) (Q' : Unit → Shared → Prop), Q' () s1 → wpAny (model P w) A (g b) Q' E s1) {o : Obj} {ep : Nat} {es0 : Array (Int × Value)} {t0 : SetTable} (ho : s.heap.get? a = some o) (hx : o.ExactSet) (hd : o.data = .set es0 ep t0)
    (T : Tb P w xs es t) {was : Bool} {R : Option Bool → Shared → Prop} (hR : ∀ hp', Heap.SameBut a s.heap hp' → SetS P w hp' a xs → R (some true) { s with heap := hp' }) :
    wpAny (model P w) A (do
        storeSet a es t
        if (!was && t.tooFull) = true then do
            g (relayAll t es (SetTable.grown es.size)).2.2
            storeSet a (relayAll t es (SetTable.grown es.size)).1 (relayAll t es (SetTable.grown es.size)).2.1
            pure (some true)
          else pure (some true)) R E s := by
  have o1 := store_at (es' := es) (t' := t) ho hd
  have b1 := Heap.SameBut.update s.heap a (Obj.putSet es t)
  refine wpAny_bind (wpAny_storeSet_of ho hd ?_ (fits_of_scanBound T.fw))
  split
  · have z1 := relayAll_perm t es (SetTable.grown es.size)
    have z2 := relayAll_fits t es (SetTable.grown es.size)
    have z3 := relayAll_ris t es (SetTable.grown es.size)
    have z4 := relayAll_led t es (SetTable.grown es.size)
    generalize relayAll t es (SetTable.grown es.size) = Z at z1 z2 z3 z4 ⊢
    obtain ⟨es2, t2, gv⟩ := Z
    simp only at z1 z2 z3 z4 ⊢
    have zs : es2.size = es.size := by rw [← Array.length_toList, z1.length_eq, Array.length_toList]
    have T2 : Tb P w xs es2 t2 := ⟨fun e he => T.el e (z1.mem_iff.mp he), fun e he => T.sh e (z1.mem_iff.mp he), (z1.map tOf).trans T.pm, by rw [zs]; exact T.fw, z2, z3, T.ld.imp id fun q => by rw [z4]; exact q⟩
    refine wpAny_bind (hg _ _ _ (wpAny_bind (wpAny_storeSet_of o1 rfl (wpAny_pure (hR _ (b1.trans (Heap.SameBut.update _ a _)) ⟨_, es2, _, t2, store_at (es' := es2) (t' := t2) o1 rfl, hx, rfl, T2⟩)) (fits_of_scanBound T2.fw))))
  · exact wpAny_pure (hR _ b1 ⟨_, es, _, t, o1, hx, rfl, T⟩)
theorem add_text {x : Str} {u : Tok} {Q : Bool → Shared → Prop} (R : SetS P w s.heap a xs) (room : xs.length + 1 < scanBound)
    (hQ : ∀ b hp', Heap.SameBut a s.heap hp' → SetS P w hp' a (if x ∈ xs then xs else xs ++ [x]) → Q b { s with heap := hp' }) : wpAny (model P w) A (setAddHashed a (.str x u) ((PySem.strKind P w).hash x)) Q E s := by
  obtain ⟨o, es, ep, t, ho, hx, hd, T⟩ := R
  have hkey : (PySem.strKind P w).is x (.str x u) = true := strKind_is _ _ _ _
  have hsc : (Value.str x u).scannable = true := rfl
  unfold setAddHashed; unfold setAddHashedIn
  refine wpAny_holding (wpAny_bind (wpAny_setState_of ho hd T.ft ?_))
  simp only
  rw [byScan_of hsc T.fw T.el, if_pos rfl]
  unfold setAddByScan
  refine wpAny_bind (wpAny_bind (wpAny_rule (wpAny_bind (wpAny_setScan_of hkey ho hd T.ft T.el ?_))))
  cases hf : List.findIdx? (fun e => (PySem.strKind P w).is x e.2) es.toList with
  | some j =>
    simp only
    obtain ⟨hj, pj, _⟩ := List.findIdx?_eq_some_iff_getElem.mp hf
    have hin : x ∈ xs := T.isT.mp ⟨es.toList[j], List.getElem_mem hj, pj⟩
    exact wpAny_pure (wpAny_pure (hQ _ s.heap (Heap.SameBut.refl a s.heap) (by rw [if_pos hin]; exact ⟨o, es, ep, t, ho, hx, hd, T⟩)))
  | none =>
    simp only
    have hni : x ∉ xs := fun q => by
      obtain ⟨e, he, q⟩ := T.isT.mpr q
      have c := List.findIdx?_eq_none_iff.mp hf e he
      rw [q] at c
      cases c
    have hgw : ∀ (b : Bool) {s1 : Shared} {Q' : Unit → Shared → Prop}, Q' () s1 → wpAny (model P w) A (match b with | true => rule "set.scan.the-table-gave-way" | false => pure ()) Q' E s1 :=
      fun b s1 Q' q => by cases b <;> first | exact wpAny_pure q | exact wpAny_rule q
    have z1 := layNew_perm t es ((PySem.strKind P w).hash x) (.str x u)
    have z2 := layNew_fits t es ((PySem.strKind P w).hash x) (.str x u)
    have z3 := layNew_ris t es ((PySem.strKind P w).hash x) (.str x u) T.rs
    have z4 := layNew_led t es ((PySem.strKind P w).hash x) (.str x u)
    generalize layNew t es ((PySem.strKind P w).hash x) (.str x u) = Z at z1 z2 z3 z4 ⊢
    obtain ⟨es1, t1, was, gv⟩ := Z
    simp only at z1 z2 z3 z4 ⊢
    rw [Array.toList_push] at z1
    have pe : ∀ e ∈ es1.toList, e ∈ es.toList ∨ e = ((PySem.strKind P w).hash x, Value.str x u) := fun e he => by
      rcases List.mem_append.mp (z1.mem_iff.mp he) with q | q
      · exact .inl q
      · exact .inr (List.mem_singleton.mp q)
    have zs : es1.size = es.size + 1 := by rw [← Array.length_toList, z1.length_eq, List.length_append, Array.length_toList]; rfl
    have T1 : ∀ {t' : SetTable}, t'.fits es1.size = true → Ris t'.place.toList → t'.led = t1.led → Tb P w (xs ++ [x]) es1 t' := fun {t'} q1 q2 q3 => by
      refine ⟨fun e he => ?_, fun e he => ?_, ?_, ?_, q1, q2, T.ld.imp id fun q => by rw [q3, z4]; exact q⟩
      · rcases pe e he with q | rfl
        · exact T.el e q
        · exact ⟨⟨x, hkey, rfl⟩, hsc⟩
      · rcases pe e he with q | rfl
        · exact T.sh e q
        · exact ⟨x, u, rfl⟩
      · refine (z1.map tOf).trans ?_
        rw [List.map_append]
        exact T.pm.append_right _
      · rw [zs, T.size]; exact room
    have fin : ∀ hp', Heap.SameBut a s.heap hp' → SetS P w hp' a (xs ++ [x]) → ∀ b, Q b { s with heap := hp' } := fun hp' sb r b => hQ b hp' sb (by rw [if_neg hni]; exact r)
    refine wpAny_bind (hgw _ ?_)
    split
    · refine wpAny_bind ?_
      rw [hashByValue_scannable 8 hsc]
      refine wpAny_pure (put_end (xs := xs ++ [x]) ?_ ho hx hd (T1 ?_ ?_ ?_) fun hp' sb r => wpAny_pure (fin hp' sb r _))
      · intro b s1 Q' q; cases b <;> first | exact wpAny_pure q | exact wpAny_rule q
      · first | (split <;> first | exact z2 | exact SetTable.fits_plain_off z2) | exact z2
      · first | (split <;> exact z3) | exact z3
      · first | (split <;> rfl) | rfl
    · refine wpAny_bind (wpAny_pure ?_)
      simp only [if_true]
      refine put_end (xs := xs ++ [x]) ?_ ho hx hd (T1 z2 z3 rfl) fun hp' sb r => wpAny_pure (fin hp' sb r _)
      intro b s1 Q' q; cases b <;> first | exact wpAny_pure q | exact wpAny_rule q
end
section
variable {prog : Program} {w : World} {A : Around} {E : Value → Shared → Prop}
theorem turns_s {R : Result → Shared → Prop} {I D : Addr} {fp wr : List Addr} {G : Array GenState → Array GenState → Prop} {P : Nat → Value → Prop} {St : Nat → Shared → Prop} {xs : List Str} (T : WalksS prog w A.in1 I fp wr G xs.length P St) (hD : D ∉ fp)
    (hv : ∀ i v, P i v → ∃ t, v = .str (xs.getD i Str.empty) t) (hb : xs.length + 1 < scanBound) :
    ∀ (k i : Nat) (s : Shared), xs.length - i = k → i ≤ xs.length → St i s → SetS prog w s.heap D (firsts (xs.take i)) →
      (∀ s', Moved (D :: wr) G s s' → SetS prog w s'.heap D (firsts xs) → R (.ok (.ret .none)) s') →
      codeAny (model prog w) A (.builtin "set.update.loop" ⟨[.ref D, .ref I], []⟩) R s := by
  have hDw : D ∉ wr := fun z => hD (T.sub _ z)
  have up : ∀ b ∈ wr, b ∈ D :: wr := fun b z => List.mem_cons_of_mem _ z
  have carry : ∀ {h h' : Heap} {ys : List Str}, SetS prog w h D ys → (∀ o, h.get? D = some o → h'.get? D = some o) → SetS prog w h' D ys := fun z m => z.keep m
  intro k
  induction k with
  | zero =>
    intro i s hk hi hst hS hR
    have e : i = xs.length := by omega
    subst e
    rw [List.take_length] at hS
    refine codeAny_builtin PyProof.Rows.F.entry_set_update_loop ?_
    rw [Around.under_plainId PyProof.Rows.F.plain_set_update_loop _]
    show wpAny _ A.in1 (pyNext (.ref I) >>= fun _ => _) _ _ s
    exact wpAny_bind (T.done s _ _ hst fun s' mv => wpAny_pure (hR s' (mv.mono up) (carry hS fun o ho => mv.heap D o hDw ho)))
  | succ k ih =>
    intro i s hk hi hst hS hR
    have lt : i < xs.length := by omega
    refine codeAny_builtin PyProof.Rows.F.entry_set_update_loop ?_
    rw [Around.under_plainId PyProof.Rows.F.plain_set_update_loop _]
    show wpAny _ A.in1 (pyNext (.ref I) >>= fun _ => _) _ _ s
    refine wpAny_bind (T.item i s _ _ lt hst fun v s' pv st' mv => ?_)
    obtain ⟨t, rfl⟩ := hv i v pv
    have hS' := carry hS fun o ho => mv.heap D o hDw ho
    have hx : xs[i]? = some (xs.getD i Str.empty) := by rw [List.getD_eq_getElem?_getD, List.getElem?_eq_getElem lt]; rfl
    generalize xs.getD i Str.empty = x at hx ⊢
    show wpAny _ A.in1 (holding [Value.str x t] (setAdd D (.str x t)) >>= fun _ => _) _ _ s'
    refine wpAny_bind (wpAny_holding ?_)
    unfold setAdd
    refine wpAny_holding (wpAny_bind ((PySem.strKind prog w).pyHash (k := x) (strKind_is _ _ _ _) ?_))
    have room : (firsts (xs.take i)).length + 1 < scanBound := by
      have := met_len (xs := xs.take i) (f := [])
      have l2 : (xs.take i).length ≤ xs.length := by rw [List.length_take]; omega
      unfold firsts
      simp only [List.length_nil] at this
      omega
    refine add_text (s := { s' with toks := s'.toks + 1 }) hS' room fun _ h' sb hS2 => ?_
    have hSi : SetS prog w h' D (firsts (xs.take (i + 1))) := by
      unfold firsts at hS2 ⊢
      rw [met_take hx]; exact hS2
    refine wpAny_pure ⟨plainId_quiet PyProof.Rows.F.plain_set_update_loop _, ih (i + 1) _ (by omega) lt (T.frame _ s' _ _ st' (Nat.le_succ _) fun b hb o e => ?_) hSi fun s2 mv2 hS3 => ?_⟩
    · rw [sb.2 b (fun z : b = D => hD (z ▸ hb))]; exact e
    · refine hR s2 (Moved.trans T.gtrans ((mv.mono up).then_heap (Nat.le_succ _) fun b o hb e => ?_) mv2) hS3
      rw [sb.2 b (fun z : b = D => hb (z ▸ List.mem_cons_self))]; exact e
set_option maxHeartbeats 3200000 in
theorem made_s {s : Shared} {l : Addr} {its : Array Value} {xs : List Str} {Q : Value → Shared → Prop} (hh : A.handled = none) (hl : s.heap.IsList l its) (hi : PyProof.Rows.StrsAre its.toList xs) (hb : xs.length + 1 < scanBound)
    (h : ∀ (h' : Heap) (tk : Nat), SetS prog w h' s.heap.objs.size (firsts xs) → (∀ b o, b < s.heap.objs.size → s.heap.get? b = some o → h'.get? b = some o) → Q (.ref s.heap.objs.size) { s with heap := h', toks := tk }) :
    wpAny (model prog w) A (call (.type "set") [.ref l]) Q E s := by
  have m0 := PySem.F.called_set.mro
  obtain ⟨cc, tl, hmro⟩ := m0
  have hmade := PySem.F.called_set.made
  have hsub := PySem.F.called_set.sub
  have q1 := PySem.F.called_set.notType
  have q2 := PySem.F.called_set.canCreate
  have q3 := PySem.F.typeCall_set_1 (.ref l)
  refine wpAny_call (codeAny_of_tree (?_ : wpAny _ _ (callAny (.type "set") _) _ _ _))
  refine wpAny_pure ⟨Code.quiet_builtin _ (by decide +kernel), codeAny_builtin PySem.F.entry_type_call ?_⟩
  rw [Around.under_plain (weight_type_call_type "set" [.ref l] []) rfl]
  repeat (any_goals (first | assumption | wp_step))
  let ob : Bool → Obj := fun led => { cls := .type "set", dict := none, data := .set #[] 0 (.fresh 0 0 led) }
  refine codeAny_mono (code_set_led1 (.ref l) (E := E) (Q₁ := fun r s₁ => r = .ref s.heap.objs.size ∧ s₁ = { s with heap := s.heap.push (ob (!w.params.followText "set-order")) }) ⟨rfl, rfl⟩) fun r s₁ hr => ?_
  match r, hr with
  | .error e, hr => exact hr
  | .ok (.ret r0), hr =>
    obtain ⟨led, hled, rfl, rfl⟩ : ∃ led : Bool, led = (!w.params.followText "set-order") ∧ r0 = .ref s.heap.objs.size ∧ s₁ = { s with heap := s.heap.push (ob led) } := ⟨_, rfl, hr.1, hr.2⟩
    have hS : (s.heap.push (ob led)).get? s.heap.objs.size = some (ob led) := Heap.get?_push_size _ rfl
    have hT : Shared.TypeIs { s with heap := s.heap.push (ob led) } (.ref s.heap.objs.size) "set" := ⟨_, hS, rfl⟩
    have q4 := PySem.F.called_set.init.lookup
    have q5 := PySem.F.called_set.init.bind (.ref s.heap.objs.size)
    repeat (any_goals (first | assumption | wp_step))
    refine codeAny_mono (codeAny_call_builtin (R := wants (fun r s₂ => r = .none ∧ ∃ h' tk, s₂ = { s with heap := h', toks := tk } ∧ SetS prog w h' s.heap.objs.size (firsts xs) ∧
        ∀ b o, b < s.heap.objs.size → s.heap.get? b = some o → h'.get? b = some o) E) PySem.F.called_set.init.plain PySem.F.entry_set_init (check_set_init_1 hT ?_)) fun r₂ s₂ hr₂ => ?_
    · obtain ⟨⟨oc, od, odt, osl⟩, hol, hcl, nl, hdl⟩ := hl
      simp only at hcl hdl
      subst hcl; subst hdl
      have hol' := Heap.get?_push_of_some (ob led) hol
      have q6 := PySem.F.sub_list_set
      have q7 := PySem.F.sub_list_frozenset
      have q8 : (Value.type "list" == Value.type "dict") = false := by decide
      have hl1 : (s.heap.push (ob led)).IsList l its := ⟨_, hol', rfl, nl, rfl⟩
      unfold Builtin.«set.__init__» noKeywords Builtin.Frozenset.updateFrom
      generalize hPI : pyIter = PI
      wp_walk
      subst hPI
      refine wpAny_pyIter_list hl1 (wpAny_bind (wpAny_runValue ?_))
      have lS : l < s.heap.objs.size := Heap.lt_size hol
      have hh3 : A.in1.in1.in1.handled = none := by simp [hh]
      have e1 : (s.heap.push (ob led)).objs.size = s.heap.objs.size + 1 := Heap.size_push ..
      have nI : l ≠ (s.heap.push (ob led)).objs.size := fun z => Nat.lt_irrefl _ (Nat.lt_trans (Nat.lt_of_lt_of_eq (Nat.lt_succ_self _) (e1.symm.trans z.symm)) lS)
      have nD : s.heap.objs.size ∉ [(s.heap.push (ob led)).objs.size, l] := by
        rw [e1]
        intro hm
        rcases List.mem_cons.mp hm with z | z
        · exact absurd z (Nat.ne_of_lt (Nat.lt_succ_self _))
        · exact absurd (List.mem_singleton.mp z).symm (Nat.ne_of_lt lS)
      have n1 : its.size = xs.length := by rw [← StrsAre.len_eq hi, Array.length_toList]
      have W1 := (Walks.list (prog := prog) (w := w) hh3 (s.heap.push (ob led)).objs.size l nI its).toS
      rw [n1] at W1
      refine turns_s W1 nD (fun i v hv => SS.strs_at hi i v (by rw [Array.getElem?_toList]; exact hv)) hb (xs.length - 0) 0 _ (by omega) (Nat.zero_le _) ⟨⟨_, Heap.get?_push_size _ rfl, rfl, rfl⟩, hl1.push _⟩ ?hS0 ?hR
      case hS0 =>
        refine ⟨_, #[], 0, _, Heap.get?_push_of_some _ hS, ⟨rfl, rfl, rfl⟩, rfl, (fun e he => by simp at he), (fun e he => by simp at he), .nil, by decide, by rfl, List.Pairwise.nil, ?_⟩
        show _ ∨ led = true
        rw [hled]
        cases w.params.followText "set-order"
        · exact .inr rfl
        · exact .inl rfl
      case hR =>
        intro s' mv hS'
        obtain ⟨h', g', d', tk', os'⟩ := s'
        obtain rfl : g' = s.gens := mv.gens
        obtain rfl : d' = s.drawn := mv.drawn
        obtain rfl : os' = s.os := mv.os
        have fin : ∀ b o, b < s.heap.objs.size → s.heap.get? b = some o → h'.get? b = some o := fun b o hb e => by
          refine mv.heap b o (fun hm => ?_) (Heap.get?_push_of_some _ (Heap.get?_push_of_some _ e))
          rw [e1] at hm
          rcases List.mem_cons.mp hm with z | z
          · exact Nat.lt_irrefl _ (z ▸ hb)
          · exact Nat.lt_irrefl _ (Nat.lt_trans (Nat.lt_of_lt_of_eq (Nat.lt_succ_self _) (List.mem_singleton.mp z).symm) hb)
        show wpAny _ _ _ _ _ _
        refine wpAny_pure ?_
        show wpAny _ _ (ret Value.none) _ _ _
        exact wpAny_pure ⟨rfl, h', tk', rfl, hS', fin⟩
    · match r₂, hr₂ with
      | .error e, hr₂ => exact hr₂
      | .ok (.ret r1), hr₂ =>
        obtain ⟨rfl, h', tk, rfl, hS', hk'⟩ := hr₂
        repeat (any_goals (first | assumption | wp_step))
        exact h _ _ hS' hk'
end
section
variable {P : Program} {w : World} {A : Around} {E : Value → Shared → Prop} {s : Shared} {a : Addr} {xs : List Str}
theorem strs_out : ∀ {l : List Value}, (∀ v ∈ l, ∃ z u, v = Value.str z u) → PyProof.Rows.StrsAre l (l.map fun v => tOf (0, v))
  | [], _ => .nil
  | v :: l, h => by
    obtain ⟨z, u, rfl⟩ := h v (by simp)
    exact .cons z u (strs_out fun x hx => h x (List.mem_cons_of_mem _ hx))
theorem sorted_s {Q : Value → Shared → Prop} (R : SetS P w s.heap a xs) (hh : A.handled = none) (h64 : xs.length < 64)
    (hQ : ∀ s' p (out : Array Value) (c : Nat) (ys : List Str), (∀ b o, s.heap.get? b = some o → s'.heap.get? b = some o) → s'.gens = s.gens → s'.os = s.os → s.heap.objs.size ≤ p → s'.heap.get? p = some (seqObj "list" out c) → PyProof.Rows.StrsAre out.toList ys → ys.Perm xs → sortedS ys = true → Q (.ref p) s') :
    wpAny (model P w) A (call (.builtin "sorted") [.ref a]) Q E s := by
  obtain ⟨o, es, ep, t, ho, hx, hd, T⟩ := R
  refine Calls.call_function_entry kind_sorted plain_sorted entry_sorted (args_sorted1 _) ?_
  unfold Builtin.«sorted»
  refine wpAny_bind (m := checkCount "sorted" 1 1 _) (wpAny_pure (wpAny_bind (collect_set (A := A.in1) hh ⟨o, ho, hx.1, hd⟩ T.ft T.fw T.rs T.ld fun s1 vs k1 hz g1 o1 pm => ?_)))
  have vl : vs.length = xs.length := by rw [pm.length_eq, List.length_map, Array.length_toList, T.size]
  have hS : PyProof.Rows.StrsAre vs (vs.map fun v => tOf (0, v)) := strs_out fun v hv => by
    obtain ⟨e, he, q⟩ := List.mem_map.mp (pm.mem_iff.mp hv)
    obtain ⟨z, u, hz⟩ := T.sh e he
    exact ⟨z, u, by rw [← q, hz]⟩
  have pk : (vs.map fun v => tOf (0, v)).Perm xs := by
    refine (pm.map fun v => tOf (0, v)).trans ?_
    rw [List.map_map]
    exact T.pm
  refine wpAny_bind (wpAny_newList ?_ (by rw [vl]; exact Nat.le_trans (Nat.le_of_lt h64) (by decide)))
  have hoL : (s1.heap.push (seqObj "list" vs.toArray 0)).get? s1.heap.objs.size = some (seqObj "list" vs.toArray 0) := Heap.get?_push_size _ rfl
  refine wpAny_bind (wpAny_holding (wpAny_call_entry PyProof.Rows.slot_list_sort ⟨_, hoL, rfl⟩ PyProof.Rows.entry_list_sort
    (list_sort_treeK strKind_oneLt hoL hS.keysOf (fun v1 v2 rest e => keyKind_strs (by rw [← e]; exact hS)) (by rw [vl]; exact h64) fun st hp hs => ?_) (PyProof.Rows.args_list_sort _)))
  obtain ⟨ys, q1, q2, q3⟩ := sorted_out_str hS hp hs
  obtain ⟨c, hc⟩ := PyProof.Rows.sortedHeap_at (vs := vs) (out := (arrOf st).map (·.2)) hoL
  refine ⟨_, rfl, wpAny_pure ⟨_, rfl, hQ _ s1.heap.objs.size _ c ys (fun b u e => ?_) g1 o1 hz hc q1 (q2.trans pk) q3⟩⟩
  have q := k1 b u e
  have lt := Heap.lt_size q
  show (PyProof.Rows.sortedHeap (s1.heap.push (seqObj "list" vs.toArray 0)) s1.heap.objs.size vs _).get? b = some u
  rw [PyProof.Rows.sortedHeap_old (Nat.ne_of_lt lt) (by rw [PyProof.Rows.size_push']; exact Nat.lt_succ_of_lt lt)]
  exact Heap.get?_push_of_some _ q
end
end RG
namespace RG
open PySem PySem.Spec PyProof.Rows L2 StX RZ TL
/-- sorted(set(xs)) of texts -/
def tSortedSet (K : PySem.W.Frag) (ta : TE) : TE := fun σ H Q => ta σ H fun x H1 => ∃ l, ∃ xs : List Str, x = .ref l ∧ SqL K H1 l (xs.map V.str) ∧ (xs.length ≤ 1000 ∧ (firsts xs).length < 64) ∧ ∀ ys p, ys.Perm (firsts xs) → sortedS ys = true → H1 p = none → Q (.ref p) (upd H1 p (.lst (ys.map V.str)))
theorem pe_sortedSet {X : Cx} {a : Expr} {ta : TE} {p p2 q pos : Pos} (hc : X.calm = true) (hg : Gl X "sorted") (hm : X.mg "sorted" = none) (hg2 : Gl X "set") (hm2 : X.mg "set" = none) (ha : PE X a ta) (na : starEach [a] X.env = (false, eval a X.env) :: starEach [] X.env := by rfl) :
    PE X (.Call (.Name "sorted" p) [.Call (.Name "set" p2) [a] [] q] [] pos) (tSortedSet X.K ta) := by
  refine ⟨fun pins s σ H Q I h => ?_⟩
  refine Call_ (ld_blt I hg hm (u := .builtin "sorted") (by decide +kernel) (PyProof.Rows.callWith_builtin1 (PyProof.Rows.args_cons ?_ rfl) rfl rfl))
  refine Call_ (ld_blt I hg2 hm2 boot_set ?_)
  refine PyProof.Rows.callWith_type1 (PyProof.Rows.args_cons (thn (ha.run pins s σ H _ I h) fun v s1 ⟨x, H1, I1, r1, q1⟩ => PyProof.Rows.args_nil ?_) na) na rfl
  obtain ⟨l, xs, rfl, hq, ⟨h0, h1⟩, q1⟩ := q1
  cases r1
  obtain ⟨its, r, pl, hz⟩ := I1.list hq
  have hfl : (firsts xs).length ≤ xs.length := by have := met_len (xs := xs) (f := []); unfold firsts; simpa using this
  refine made_s (I1.ok.hd hc) pl.isList (by simpa using strsAre_of r) (by unfold scanBound; omega) fun h' tk hS hk => ?_
  refine PyProof.Rows.args_nil ?_
  have I2 : Inv X pins σ H1 { s1 with heap := h', toks := tk } := I1.kept fun b o e => hk b o (Heap.lt_size e) e
  refine sorted_s (s := { s1 with heap := h', toks := tk }) hS (I2.ok.hd hc) (by omega) fun s' p out c ys k g o hp hg hi hs hm => ?_
  have hn : H1 p = none := I2.hok.fresh hp
  have hp0 := hp
  have hlen : (ys.map V.str).length ≤ sizeLine := by
    rw [List.length_map, hs.length_eq]
    exact Nat.le_trans (show (firsts xs).length ≤ 64 by omega) (by decide)
  generalize hS2 : ({ s1 with heap := h', toks := tk } : Shared) = S2 at I2 k g o hp0
  have J : Inv X pins σ (upd H1 p (.lst (ys.map V.str))) { S2 with heap := s'.heap, gens := s'.gens, drawn := s'.drawn, toks := s'.toks } :=
    I2.call (ch := []) (Un.laid k hp0 hn) (I2.hok.laid k hp0 ⟨hlen, out.toList, c, vals_of_strs hi, hg⟩) (by rw [g]; exact I2.bare) (fun _ z => nomatch z)
  have e : s' = { S2 with heap := s'.heap, gens := s'.gens, drawn := s'.drawn, toks := s'.toks } := by
    cases s'
    cases S2
    cases o
    rfl
  rw [e]
  exact ⟨.ref p, _, J, rfl, q1 ys p hs hm hn⟩
section
variable {W : Wd} {M : List Addr} {σ : L2.St} {H : Hp} {ta : TE}
/-- texts in their order, each once -/
theorem firsts_mem {xs : List Str} {x : Str} : x ∈ firsts xs ↔ x ∈ xs := by
  have : ∀ {xs f : List Str}, x ∈ met f xs ↔ x ∈ f ∨ x ∈ xs := by
    intro xs
    induction xs with
    | nil => intro f; simp [met]
    | cons a t ih =>
      intro f
      show x ∈ met (if a ∈ f then f else f ++ [a]) t ↔ _
      rw [ih]
      by_cases h : a ∈ f
      · rw [if_pos h, List.mem_cons]
        exact ⟨fun z => z.imp id .inr, fun z => z.elim .inl fun z => z.elim (fun e => .inl (e ▸ h)) .inr⟩
      · rw [if_neg h, List.mem_append, List.mem_singleton, List.mem_cons, or_assoc]
  unfold firsts
  rw [this]
  simp
theorem firsts_nodup {xs : List Str} : (firsts xs).Nodup := by
  have : ∀ {xs f : List Str}, f.Nodup → (met f xs).Nodup := by
    intro xs
    induction xs with
    | nil => intro f h; exact h
    | cons a t ih =>
      intro f h
      show (met (if a ∈ f then f else f ++ [a]) t).Nodup
      refine ih ?_
      by_cases h' : a ∈ f
      · rw [if_pos h']; exact h
      · rw [if_neg h', List.nodup_append]
        exact ⟨h, by simp, fun x hx y hy e => h' ((List.mem_singleton.mp hy) ▸ e ▸ hx)⟩
  exact this List.nodup_nil
/-- the order of the sorted texts is told by what they are -/
def isSorted (xs ys : List Str) : Prop := ys.Perm (firsts xs) ∧ sortedS ys = true
theorem evr_sortedSet {xs : List Str} (ha : Ev W M ta σ H xs) (h0 : xs.length ≤ 1000) (hl : (firsts xs).length < 64) : EvR W M (tSortedSet W.K ta) σ H (fun ys : List Str => isSorted xs ys) := fun H1 e ok Q q =>
  ha H1 e ok _ fun v H2 e2 r => by
    obtain ⟨a, vs, ev, hh, _, _, pp⟩ := r.lst
    have ok2 := ok.ex e2
    exact ⟨a, xs, ev, SqL.of (by rw [hh, paired_toV pp]; rfl), ⟨h0, hl⟩, fun ys p h1 h2 hp => q _ ys _ ⟨h1, h2⟩ (e2.trans (Ex.new hp)) (rep_lst upd_same (ok2.new_b hp) (ok2.new_M hp) (toV_paired (α := Str)))⟩
end
end RG
namespace RG
open PySem PySem.Spec PyProof.Rows L2 StX RZ TL
/-! ### forms of tests -/
inductive Fm where
  | all
  | eq (n z : Str)
  | alike (n m : Str)
  | not (f : Fm)
  | and (f g : Fm)
  | or (f g : Fm)
  deriving DecidableEq
namespace Fm
def dp : Fm → Nat
  | .all => 1
  | .eq _ _ => 1
  | .alike _ _ => 1
  | .not f => f.dp + 1
  | .and f g => max f.dp g.dp + 1
  | .or f g => max f.dp g.dp + 1
def head : Fm → Str
  | .all => "all"
  | .eq _ _ => "equal"
  | .alike _ _ => "alike"
  | .not _ => "not"
  | .and _ _ => "and"
  | .or _ _ => "or"
def parts : Fm → List Fm
  | .not f => [f]
  | .and f g => [f, g]
  | .or f g => [f, g]
  | _ => []
/-- the words behind the head -/
def words : Fm → List Str
  | .eq n z => [n, z]
  | .alike n m => [n, m]
  | _ => []
end Fm
def repF (H : Hp) : Fm → V → Prop
  | .all, v => ∃ a, v = .ref a ∧ H a = some (.tup [.str "all"])
  | .eq n z, v => ∃ a, v = .ref a ∧ H a = some (.tup [.str "equal", .str n, .str z])
  | .alike n m, v => ∃ a, v = .ref a ∧ H a = some (.tup [.str "alike", .str n, .str m])
  | .not f, v => ∃ a u, v = .ref a ∧ H a = some (.tup [.str "not", u]) ∧ repF H f u
  | .and f g, v => ∃ a u x, v = .ref a ∧ H a = some (.tup [.str "and", u, x]) ∧ repF H f u ∧ repF H g x
  | .or f g, v => ∃ a u x, v = .ref a ∧ H a = some (.tup [.str "or", u, x]) ∧ repF H f u ∧ repF H g x
theorem repF_mono {H H' : Hp} (q : ∀ a xs, H a = some (.tup xs) → H' a = some (.tup xs)) : ∀ {f : Fm} {v : V}, repF H f v → repF H' f v
  | .all, _, ⟨a, e, h⟩ => ⟨a, e, q _ _ h⟩
  | .eq _ _, _, ⟨a, e, h⟩ => ⟨a, e, q _ _ h⟩
  | .alike _ _, _, ⟨a, e, h⟩ => ⟨a, e, q _ _ h⟩
  | .not _, _, ⟨a, u, e, h, r⟩ => ⟨a, u, e, q _ _ h, repF_mono q r⟩
  | .and _ _, _, ⟨a, u, x, e, h, r, t⟩ => ⟨a, u, x, e, q _ _ h, repF_mono q r, repF_mono q t⟩
  | .or _ _, _, ⟨a, u, x, e, h, r, t⟩ => ⟨a, u, x, e, q _ _ h, repF_mono q r, repF_mono q t⟩
instance : Py Fm := ⟨fun _ H v f => repF H f v, fun l h => repF_mono (fun a xs z => l.ex _ _ z) h⟩
instance : Fyz Fm := ⟨fun q h => repF_mono (fun a xs z => q _ _ z fy_tup) h⟩
instance : Inhabited Fm := ⟨.all⟩
section
variable {α β γ : Type} [Py α] [Py β] [Py γ] {W : Wd} {M M' N : List Addr} {σ : L2.St} {H H' : Hp} {te ta tb tc : TE} {tr : TA} {v : V} {f g : Fm} {n z : Str} {E : XK}
/-- the tuple of a form -/
theorem Rep.fm (h : Rep W M H v f) : ∃ a us, v = .ref a ∧ H a = some (.tup (.str f.head :: us)) ∧ a ≠ W.b ∧ a ∉ M ∧ Paired (Rep W M H) (us.take f.parts.length) f.parts ∧ us.length = f.words.length + f.parts.length ∧ (f.parts = [] → us = f.words.map V.str) := by
  have h : repF (cut W M H) f v := h
  cases f with
  | all =>
    obtain ⟨a, e, h⟩ := h
    obtain ⟨h1, h2, h3⟩ := cut_some.mp h
    exact ⟨a, [], e, h3, h1, h2, .nil, rfl, fun _ => rfl⟩
  | eq n z =>
    obtain ⟨a, e, h⟩ := h
    obtain ⟨h1, h2, h3⟩ := cut_some.mp h
    exact ⟨a, [.str n, .str z], e, h3, h1, h2, .nil, rfl, fun _ => rfl⟩
  | alike n m =>
    obtain ⟨a, e, h⟩ := h
    obtain ⟨h1, h2, h3⟩ := cut_some.mp h
    exact ⟨a, [.str n, .str m], e, h3, h1, h2, .nil, rfl, fun _ => rfl⟩
  | not f =>
    obtain ⟨a, u, e, h, r⟩ := h
    obtain ⟨h1, h2, h3⟩ := cut_some.mp h
    exact ⟨a, [u], e, h3, h1, h2, .cons r .nil, rfl, fun z => (nomatch z)⟩
  | and f g =>
    obtain ⟨a, u, x, e, h, r, t⟩ := h
    obtain ⟨h1, h2, h3⟩ := cut_some.mp h
    exact ⟨a, [u, x], e, h3, h1, h2, .cons r (.cons t .nil), rfl, fun z => (nomatch z)⟩
  | or f g =>
    obtain ⟨a, u, x, e, h, r, t⟩ := h
    obtain ⟨h1, h2, h3⟩ := cut_some.mp h
    exact ⟨a, [u, x], e, h3, h1, h2, .cons r (.cons t .nil), rfl, fun z => (nomatch z)⟩
theorem Fm.one : f.words = [] ∨ f.parts = [] := by cases f <;> simp [Fm.words, Fm.parts]
theorem Rep.fmP (h : Rep W M H v f) (hw : f.words = []) : ∃ a us, v = .ref a ∧ H a = some (.tup (.str f.head :: us)) ∧ a ≠ W.b ∧ a ∉ M ∧ Paired (Rep W M H) us f.parts := by
  obtain ⟨a, us, e, h1, h2, h3, h4, h5, h6⟩ := h.fm
  rw [hw, List.length_nil, Nat.zero_add] at h5
  refine ⟨a, us, e, h1, h2, h3, ?_⟩
  rw [← h5, List.take_length] at h4
  exact h4
theorem Rep.fmW (h : Rep W M H v f) (hw : f.parts = []) : ∃ a, v = .ref a ∧ H a = some (.tup (.str f.head :: f.words.map V.str)) ∧ a ≠ W.b ∧ a ∉ M := by
  obtain ⟨a, us, e, h1, h2, h3, h4, h5, h6⟩ := h.fm
  exact ⟨a, e, by rw [h1, h6 hw], h2, h3⟩
/-- form[0] -/
theorem ev_fm0 (ha : Ev W M ta σ H f) : Ev W M (tOp (rIxT W.K) ta (tC (.int 0))) σ H f.head := fun H1 e ok Q q =>
  ha H1 e ok _ fun v H2 e2 r => by
    obtain ⟨a, us, rfl, h1, _⟩ := r.fm
    exact ⟨a, _, 0, .str f.head, rfl, rfl, .inl (.inl h1), atI_nat (xs := V.str f.head :: us) (j := 0) rfl, q _ _ e2 rep_str⟩
/-- form[k], a word -/
theorem ev_fmW {k : Nat} (ha : Ev W M ta σ H f) (hk : f.words[k]? = some z) : Ev W M (tOp (rIxT W.K) ta (tC (.int ((k + 1 : Nat) : Int)))) σ H z := fun H1 e ok Q q =>
  ha H1 e ok _ fun v H2 e2 r => by
    have hp : f.parts = [] := (Fm.one (f := f)).resolve_left fun z => by rw [z] at hk; cases hk
    obtain ⟨a, rfl, h1, _⟩ := r.fmW hp
    refine ⟨a, _, ((k + 1 : Nat) : Int), .str z, rfl, rfl, .inl (.inl h1), atI_nat (j := k + 1) ?_, q _ _ e2 rep_str⟩
    rw [List.getElem?_cons_succ, List.getElem?_map, hk]; rfl
/-- form[k], a part -/
theorem ev_fmP {k : Nat} (ha : Ev W M ta σ H f) (hk : f.parts[k]? = some g) : Ev W M (tOp (rIxT W.K) ta (tC (.int ((k + 1 : Nat) : Int)))) σ H g := fun H1 e ok Q q =>
  ha H1 e ok _ fun v H2 e2 r => by
    have hp : f.words = [] := (Fm.one (f := f)).resolve_right fun z => by rw [z] at hk; cases hk
    obtain ⟨a, us, rfl, h1, _, _, pp⟩ := r.fmP hp
    obtain ⟨u, hu, ru⟩ := Pd.get pp hk
    exact ⟨a, _, ((k + 1 : Nat) : Int), u, rfl, rfl, .inl (.inl h1), atI_nat (j := k + 1) (by rw [List.getElem?_cons_succ]; exact hu), q _ _ e2 ru⟩
/-- a written form -/
theorem ev_mkAll (ha : Ev W M ta σ H ("all" : Str)) : Ev W M (tTup (tCons ta tNil)) σ H Fm.all := fun H1 e ok Q q =>
  ha H1 e ok _ fun v H2 e2 r => ⟨by show 1 ≤ sizeLine; decide, fun p hp => by
    cases (show v = .str "all" from r)
    exact q _ _ (e2.trans (Ex.new hp)) ⟨p, rfl, cut_some.mpr ⟨(ok.ex e2).new_b hp, (ok.ex e2).new_M hp, upd_same⟩⟩⟩
theorem ev_mk3 {h : Str} (f : Fm) (hf : f = .eq n z ∧ h = "equal" ∨ f = .alike n z ∧ h = "alike") (h0 : Ev W M ta σ H h) (h1 : Ev W M tb σ H n) (h2 : Ev W M tc σ H z) : Ev W M (tTup (tCons ta (tCons tb (tCons tc tNil)))) σ H f := fun H1 e ok Q q =>
  h0 H1 e ok _ fun v H2 e2 r => h1 H2 (e.trans e2) (ok.ex e2) _ fun u H3 e3 r3 => h2 H3 ((e.trans e2).trans e3) ((ok.ex e2).ex e3) _ fun x H4 e4 r4 => ⟨by show 3 ≤ sizeLine; decide, fun p hp => by
    cases (show v = .str h from r)
    cases (show u = .str n from r3)
    cases (show x = .str z from r4)
    have ok4 := ((ok.ex e2).ex e3).ex e4
    refine q _ _ (((e2.trans e3).trans e4).trans (Ex.new hp)) ?_
    rcases hf with ⟨rfl, rfl⟩ | ⟨rfl, rfl⟩
    · exact ⟨p, rfl, cut_some.mpr ⟨ok4.new_b hp, ok4.new_M hp, upd_same⟩⟩
    · exact ⟨p, rfl, cut_some.mpr ⟨ok4.new_b hp, ok4.new_M hp, upd_same⟩⟩⟩
theorem evr_mkNot {P : Fm → Prop} (h0 : Ev W M ta σ H ("not" : Str)) (h1 : EvR W M tb σ H P) : EvR W M (tTup (tCons ta (tCons tb tNil))) σ H (fun f : Fm => ∃ x, P x ∧ f = .not x) := fun H1 e ok Q q =>
  h0 H1 e ok _ fun v H2 e2 r => h1 H2 (e.trans e2) (ok.ex e2) _ fun u x H3 px e3 r3 => ⟨by show 2 ≤ sizeLine; decide, fun p hp => by
    cases (show v = .str "not" from r)
    have ok3 := (ok.ex e2).ex e3
    exact q _ (.not x) _ ⟨x, px, rfl⟩ ((e2.trans e3).trans (Ex.new hp)) ⟨p, u, rfl, cut_some.mpr ⟨ok3.new_b hp, ok3.new_M hp, upd_same⟩, r3.up (Ex.new hp)⟩⟩
theorem evr_mk2 {h : Bool} {P R : Fm → Prop} (h0 : Ev W M ta σ H (if h then "and" else "or" : Str)) (h1 : EvR W M tb σ H P) (h2 : EvR W M tc σ H R) : EvR W M (tTup (tCons ta (tCons tb (tCons tc tNil)))) σ H (fun f : Fm => ∃ x y, P x ∧ R y ∧ f = if h then .and x y else .or x y) := fun H1 e ok Q q =>
  h0 H1 e ok _ fun v H2 e2 r => h1 H2 (e.trans e2) (ok.ex e2) _ fun u x H3 px e3 r3 => h2 H3 ((e.trans e2).trans e3) ((ok.ex e2).ex e3) _ fun t y H4 py e4 r4 => ⟨by show 3 ≤ sizeLine; decide, fun p hp => by
    have ev : v = .str (if h then "and" else "or" : Str) := r
    have ok4 := ((ok.ex e2).ex e3).ex e4
    refine q _ (if h then .and x y else .or x y) _ ⟨x, y, px, py, rfl⟩ (((e2.trans e3).trans e4).trans (Ex.new hp)) ?_
    cases h with
    | true =>
      cases ev
      exact ⟨p, u, t, rfl, cut_some.mpr ⟨ok4.new_b hp, ok4.new_M hp, upd_same⟩, (r3.up e4).up (Ex.new hp), r4.up (Ex.new hp)⟩
    | false =>
      cases ev
      exact ⟨p, u, t, rfl, cut_some.mpr ⟨ok4.new_b hp, ok4.new_M hp, upd_same⟩, (r3.up e4).up (Ex.new hp), r4.up (Ex.new hp)⟩⟩
theorem cut1 {ω : Type} {x : ω} {xs : List ω} : cutG (x :: xs) (some 1) none = xs ∧ HT.sIx (x :: xs).length 0 (some 1) ≠ 0 := by
  unfold cutG HT.sIx
  simp
/-- form[1:] -/
theorem ev_fmSl (ha : Ev W M ta σ H f) (hw : f.words = []) : Ev W M (tSl (rSlA W.K) ta (tPart (tC (.int 1))) tNoPart) σ H (Tup.mk f.parts) := fun H1 e ok Q q =>
  ha H1 e ok _ fun v H2 e2 r => by
    obtain ⟨a, us, rfl, h1, _, _, pp⟩ := r.fmP hw
    refine ⟨1, rfl, a, _, rfl, .inl (.inl h1), fun z => absurd z.1 cut1.2, fun _ l hl => q _ _ (e2.trans (Ex.new hl)) ?_⟩
    have ec : cutV (V.str f.head :: us) (some 1) none = us := cut1.1
    rw [ec]
    exact rep_tup (.inl upd_same) ((ok.ex e2).new_b hl) ((ok.ex e2).new_M hl) (Pd.mono pp fun _ _ r => r.up (Ex.new hl))
end
/-! ### forms that are compared -/
structure FmD where
  f : Fm
  h : f.dp ≤ 8
  deriving DecidableEq
instance : Py FmD := ⟨fun _ H v x => repF H x.f v, fun l h => repF_mono (fun a xs z => l.ex _ _ z) h⟩
def datF : Fm → PyData
  | .all => .tuple [.str "all"]
  | .eq n z => .tuple [.str "equal", .str n, .str z]
  | .alike n m => .tuple [.str "alike", .str n, .str m]
  | .not f => .tuple [.str "not", datF f]
  | .and f g => .tuple [.str "and", datF f, datF g]
  | .or f g => .tuple [.str "or", datF f, datF g]
theorem dp_fm {K : PySem.W.Frag} {H : Hp} : ∀ {f : Fm} {v : V}, repF H f v → Dp K H v (datF f)
  | .all, _, ⟨a, e, h⟩ => by rw [e]; exact .tup (.inl (.inl h)) (.cons (.str _) .nil)
  | .eq _ _, _, ⟨a, e, h⟩ => by rw [e]; exact .tup (.inl (.inl h)) (.cons (.str _) (.cons (.str _) (.cons (.str _) .nil)))
  | .alike _ _, _, ⟨a, e, h⟩ => by rw [e]; exact .tup (.inl (.inl h)) (.cons (.str _) (.cons (.str _) (.cons (.str _) .nil)))
  | .not _, _, ⟨a, u, e, h, r⟩ => by rw [e]; exact .tup (.inl (.inl h)) (.cons (.str _) (.cons (dp_fm r) .nil))
  | .and _ _, _, ⟨a, u, x, e, h, r, s⟩ => by rw [e]; exact .tup (.inl (.inl h)) (.cons (.str _) (.cons (dp_fm r) (.cons (dp_fm s) .nil)))
  | .or _ _, _, ⟨a, u, x, e, h, r, s⟩ => by rw [e]; exact .tup (.inl (.inl h)) (.cons (.str _) (.cons (dp_fm r) (.cons (dp_fm s) .nil)))
theorem ne_head {a b : Str} (h : a ≠ b) (xs ys : List PyData) : PyData.eqv (.tuple (.str a :: xs)) (.tuple (.str b :: ys)) = false := by
  rw [PyData.eqv, PyData.eqvAll, PyData.eqv, beq_eq_false_iff_ne.mpr h]; rfl
theorem eq_head {a : Str} (xs ys : List PyData) : PyData.eqv (.tuple (.str a :: xs)) (.tuple (.str a :: ys)) = PyData.eqvAll xs ys := by
  rw [PyData.eqv, PyData.eqvAll, PyData.eqv, beq_self_eq_true]; rfl
theorem eqv_one (x y : PyData) : PyData.eqvAll [x] [y] = PyData.eqv x y := by rw [PyData.eqvAll, PyData.eqvAll, Bool.and_true]
theorem eqv_two (x y z u : PyData) : PyData.eqvAll [x, y] [z, u] = (PyData.eqv x z && PyData.eqv y u) := by rw [PyData.eqvAll, eqv_one]
theorem eqv_words (n z m y : Str) : PyData.eqvAll [.str n, .str z] [.str m, .str y] = true ↔ n = m ∧ z = y := by
  rw [eqv_two, PyData.eqv, PyData.eqv, Bool.and_eq_true, beq_iff_eq, beq_iff_eq]
theorem eqv_fm : ∀ f g : Fm, PyData.eqv (datF f) (datF g) = true ↔ f = g := by
  have w1 : ("all" : Str) ≠ "equal" ∧ ("all" : Str) ≠ "alike" ∧ ("all" : Str) ≠ "not" ∧ ("all" : Str) ≠ "and" ∧ ("all" : Str) ≠ "or" := by decide +kernel
  have w2 : ("equal" : Str) ≠ "alike" ∧ ("equal" : Str) ≠ "not" ∧ ("equal" : Str) ≠ "and" ∧ ("equal" : Str) ≠ "or" := by decide +kernel
  have w3 : ("alike" : Str) ≠ "not" ∧ ("alike" : Str) ≠ "and" ∧ ("alike" : Str) ≠ "or" := by decide +kernel
  have w4 : ("not" : Str) ≠ "and" ∧ ("not" : Str) ≠ "or" ∧ ("and" : Str) ≠ "or" := by decide +kernel
  have no : ∀ {a b : Str} {xs ys : List PyData} {p : Prop}, a ≠ b → ¬ p → (PyData.eqv (.tuple (.str a :: xs)) (.tuple (.str b :: ys)) = true ↔ p) := fun h hp => by
    rw [ne_head h]; exact ⟨fun z => (nomatch z), fun z => absurd z hp⟩
  intro f
  induction f with
  | all =>
    intro g
    cases g with
    | all => exact ⟨fun _ => rfl, fun _ => eq_head [] []⟩
    | eq _ _ => exact no w1.1 (fun z => nomatch z)
    | alike _ _ => exact no w1.2.1 (fun z => nomatch z)
    | not _ => exact no w1.2.2.1 (fun z => nomatch z)
    | and _ _ => exact no w1.2.2.2.1 (fun z => nomatch z)
    | or _ _ => exact no w1.2.2.2.2 (fun z => nomatch z)
  | eq n z =>
    intro g
    cases g with
    | all => exact no w1.1.symm (fun z => nomatch z)
    | eq m y => rw [datF, datF, eq_head, eqv_words]; simp
    | alike _ _ => exact no w2.1 (fun z => nomatch z)
    | not _ => exact no w2.2.1 (fun z => nomatch z)
    | and _ _ => exact no w2.2.2.1 (fun z => nomatch z)
    | or _ _ => exact no w2.2.2.2 (fun z => nomatch z)
  | alike n z =>
    intro g
    cases g with
    | all => exact no w1.2.1.symm (fun z => nomatch z)
    | eq _ _ => exact no w2.1.symm (fun z => nomatch z)
    | alike m y => rw [datF, datF, eq_head, eqv_words]; simp
    | not _ => exact no w3.1 (fun z => nomatch z)
    | and _ _ => exact no w3.2.1 (fun z => nomatch z)
    | or _ _ => exact no w3.2.2 (fun z => nomatch z)
  | not f ih =>
    intro g
    cases g with
    | all => exact no w1.2.2.1.symm (fun z => nomatch z)
    | eq _ _ => exact no w2.2.1.symm (fun z => nomatch z)
    | alike _ _ => exact no w3.1.symm (fun z => nomatch z)
    | not g => rw [datF, datF, eq_head, eqv_one, ih]; simp
    | and _ _ => exact no w4.1 (fun z => nomatch z)
    | or _ _ => exact no w4.2.1 (fun z => nomatch z)
  | and f k ih ih2 =>
    intro g
    cases g with
    | all => exact no w1.2.2.2.1.symm (fun z => nomatch z)
    | eq _ _ => exact no w2.2.2.1.symm (fun z => nomatch z)
    | alike _ _ => exact no w3.2.1.symm (fun z => nomatch z)
    | not _ => exact no w4.1.symm (fun z => nomatch z)
    | and g h => rw [datF, datF, eq_head, eqv_two, Bool.and_eq_true, ih, ih2]; simp
    | or _ _ => exact no w4.2.2 (fun z => nomatch z)
  | or f k ih ih2 =>
    intro g
    cases g with
    | all => exact no w1.2.2.2.2.symm (fun z => nomatch z)
    | eq _ _ => exact no w2.2.2.2.symm (fun z => nomatch z)
    | alike _ _ => exact no w3.2.2.symm (fun z => nomatch z)
    | not _ => exact no w4.2.1.symm (fun z => nomatch z)
    | and _ _ => exact no w4.2.2.symm (fun z => nomatch z)
    | or g h => rw [datF, datF, eq_head, eqv_two, Bool.and_eq_true, ih, ih2]; simp
theorem dep_fm : ∀ f : Fm, (datF f).depth ≤ f.dp
  | .all => by simp [datF, PyData.depth, PyData.depthAll, Fm.dp]
  | .eq _ _ => by simp [datF, PyData.depth, PyData.depthAll, Fm.dp]
  | .alike _ _ => by simp [datF, PyData.depth, PyData.depthAll, Fm.dp]
  | .not f => by have := dep_fm f; simp only [datF, PyData.depth, PyData.depthAll, Fm.dp]; omega
  | .and f g => by have := dep_fm f; have := dep_fm g; simp only [datF, PyData.depth, PyData.depthAll, Fm.dp]; omega
  | .or f g => by have := dep_fm f; have := dep_fm g; simp only [datF, PyData.depth, PyData.depthAll, Fm.dp]; omega
instance : PyD FmD where
  dat x := datF x.f
  dp h := dp_fm h
  eqv x y := by rw [eqv_fm]; cases x; cases y; simp
  dep := 8
  depth x := Nat.le_trans (dep_fm x.f) x.h
section
variable {W : Wd} {M : List Addr} {σ : L2.St} {H : Hp} {ta tb : TE} {f g : Fm}
/-- f == g, f != g -/
theorem ev_eqFm (ha : Ev W M ta σ H f) (hb : Ev W M tb σ H g) (h1 : f.dp ≤ 8) (h2 : g.dp ≤ 8) : Ev W M (tOp (rEqE W.K) ta tb) σ H (decide (f = g)) :=
  (ev_eqD (x := FmD.mk f h1) (y := FmD.mk g h2) (ha.cv fun _ _ r => r) (hb.cv fun _ _ r => r) (by show 8 ≤ 64; decide)).is (by simp)
end
/-! ### own words: ~a, a(..), C.m() -/
section
variable {X : Cx} {k : Nat} {C : Addr} {m : Str} {ps : List Str} {sp : Sp} {pos apos : Pos}
def rInvOwn (C : Addr) (sp : Sp) : V → Hp → VK → Prop := fun x H Q => ∃ a dx fs, x = .ref a ∧ H a = some (.ins C dx fs) ∧ sp [x] H Q E0
theorem un_invOwn (c : OwnC X.prog X.w X.K X.mg X.base k C "__invert__" ps sp) (hr : Room k X.A) : UnR X (unaryOp .Invert) (rInvOwn C sp) := by
  intro pins s σ H x v Q I rx h
  obtain ⟨a, dx, fs, rfl, ha, q⟩ := h
  cases (show v = Value.ref a from rx)
  obtain ⟨mA, O, _⟩ := ins_get I.hok ha
  obtain ⟨od, J, _⟩ := O.look
  obtain ⟨m, hF⟩ := I.fr
  exact PySem.W.ksp_inv hF I.ok.mod.kin J c.fi c.fn (wpAny_call (run_fnR (us := [.ref a]) (vs := [.ref a]) (fnR_of c.ok c.b) hr pass0 I (.cons rfl .nil) q))
end
end RG
namespace RG
open PySem PySem.Spec PyProof.Rows L2 StX RZ TL
section
variable {X : Cx} {CX : CXT} {k : Nat} {C p g : Addr} {mc : Value} {sp : Sp} {E : XK} {o : Expr} {m : Str} {pos apos : Pos} {ta : TE} {pl : Sem Bool}
/-- C.m() -/
theorem pe_cmeth0 (he : PE X o ta) (r : ClX.CRead X.K C mc) (c : ClX.CMet X.K C mc m p g) (F : FnR X.prog X.w X.K X.mg X.base CX k g sp) (hr : Room k X.A) (hx : Passes CX X E)
    (ht : eval (.Call (.Attribute o m apos) [] [] pos) X.env = (do
      let ov ← eval o X.env
      standAt apos.atName
      let (f, first) ← holding [ov] (getMethod ov m pl)
      callWith pos f first (backTo pos (starEach [] X.env)) (backToKw pos (keywordEach [] X.env))) := by rfl) :
    PE X (.Call (.Attribute o m apos) [] [] pos) (ClX.tCMeth C sp E ta tNil) := by
  refine ⟨fun pins s σ H Q I h => ?_⟩
  refine PySem.W.methodCall_KW (pl := pl) (thn (he.run pins s σ H _ I h) fun u s1 ⟨x, H1, I1, rx, ex, q⟩ => ?_) ht
  subst ex
  cases (show u = Value.ref C from rx)
  refine ClX.getmethcm_ok I1 r c fun s2 I2 => ?_
  exact PySem.W.callWith_M0 (K := X.K) (first := []) ⟨ClX.pin_at I2, I2.kIn⟩ c.fi (ClX.run_cm F hr hx I2 .nil q)
end
section
variable {α β γ : Type} [Py α] [Py β] [Py γ] {W : Wd} {M M' N : List Addr} {σ : L2.St} {H H' : Hp} {te ta tb tc tk tv : TE} {wi : TI} {tr : TA} {v : V} {n z : Str} {E : XK} {x : α} {y : β} {vs : List Nat} {k l : Nat}
/-- o(a, b) by the class's own word -/
theorem ev_callOwn {ω : Type} [PyO ω] {X : Cx} {o : ω} {pre : ω → α → β → Prop} {f : ω → α → β → γ} (ha : Ev W M ta σ H o) (hb : Ev W M tb σ H x) (hc : Ev W M tc σ H y) (hp : pre o x y) :
    Ev W M (tCallO X (W.C (PyO.cn ω)) (F3 W.K W.C pre f) E ta (tCons tb (tCons tc tNil))) σ H (f o x y) := fun H1 e ok Q q =>
  ha H1 e ok _ fun v H2 e2 r => by
    obtain ⟨a, dx, fs, rfl, _⟩ := r.ins
    refine ⟨a, rfl, hb H2 (e.trans e2) (ok.ex e2) _ fun u H3 e3 r3 => hc H3 ((e.trans e2).trans e3) ((ok.ex e2).ex e3) _ fun t H4 e4 r4 => ?_⟩
    obtain ⟨a', dx', fs', e', h4, _⟩ := ((r.up e3).up e4).ins
    cases e'
    exact ⟨.inr ⟨dx', fs', h4⟩, W, M, _, u, t, o, x, y, rfl, rfl, rfl, ((ok.ex e2).ex e3).ex e4, (r.up e3).up e4, r3.up e4, r4, hp, fun r H5 e5 rr => q r H5 (((e2.trans e3).trans e4).trans e5) rr⟩
/-- ~o -/
theorem ev_invOwn {ω : Type} [PyO ω] {o : ω} {pre : ω → Prop} {f : ω → γ} (ha : Ev W M ta σ H o) (hp : pre o) : Ev W M (tUn (rInvOwn (W.C (PyO.cn ω)) (F1 W.K W.C pre f)) ta) σ H (f o) := fun H1 e ok Q q =>
  ha H1 e ok _ fun v H2 e2 r => by
    obtain ⟨a, dx, fs, ev, hh, _⟩ := r.ins
    exact ⟨a, dx, fs, ev, hh, W, M, v, o, rfl, rfl, rfl, ok.ex e2, r, hp, fun r H3 e3 rr => q r H3 (e2.trans e3) rr⟩
end
/-! ### dicts with texts as keys -/
structure Dm (α : Type) where
  kvs : List (Str × α)
def encM (l : List (Str × V)) : List (L2.Key × V) := l.map fun p => (Sum.inr p.1, p.2)
instance {α : Type} [Py α] : Py (Dm α) := ⟨fun W H v x => ∃ a ws, v = .ref a ∧ H a = some (.dK (encM ((x.kvs.map Prod.fst).zip ws))) ∧ Paired (Py.rep W H) ws (x.kvs.map Prod.snd),
  fun l ⟨a, ws, e, h, p⟩ => ⟨a, ws, e, l.ex _ _ h, paired_mono (fun _ _ r => Py.mono l r) p⟩⟩
section
variable {α β γ : Type} [Py α] [Py β] [Py γ] {W : Wd} {M M' N : List Addr} {σ : L2.St} {H H' : Hp} {te ta tb tc tk tv : TE} {wi : TI} {tr : TA} {v : V} {n z : Str} {E : XK} {vs : List Nat} {k l : Nat}
theorem Rep.dm {x : Dm α} (h : Rep W M H v x) : ∃ a ws, v = .ref a ∧ H a = some (.dK (encM ((x.kvs.map Prod.fst).zip ws))) ∧ a ≠ W.b ∧ a ∉ M ∧ Paired (Rep W M H) ws (x.kvs.map Prod.snd) := by
  obtain ⟨a, ws, e, h, p⟩ := h
  obtain ⟨h1, h2, h3⟩ := cut_some.mp h
  exact ⟨a, ws, e, h3, h1, h2, p⟩
theorem valV_encM {κ : Str} : ∀ {l : List (Str × V)}, valV (encM l) (Sum.inr κ) = l.lookup κ
  | [] => rfl
  | (a, u) :: t => by
    have ih := valV_encM (κ := κ) (l := t)
    rw [List.lookup_cons]
    by_cases h : κ = a
    · subst h
      rw [beq_self_eq_true]
      unfold valV encM
      rw [List.map_cons, List.find?_cons_of_pos (by simp)]; rfl
    · rw [beq_eq_false_iff_ne.mpr h]
      unfold valV encM at ih ⊢
      rw [List.map_cons, List.find?_cons_of_neg (by simpa using fun e => h e.symm)]
      exact ih
theorem lookup_paired {κ : Str} {x : α} : ∀ {l : List (Str × α)} {ws : List V}, Paired (Rep W M H) ws (l.map Prod.snd) → l.lookup κ = some x → ∃ w, ((l.map Prod.fst).zip ws).lookup κ = some w ∧ Rep W M H w x
  | [], _, _, h => by cases h
  | (a, y) :: t, _, .cons (a := w) r rs, h => by
    rw [List.lookup_cons] at h
    show ∃ w', ((a, w) :: ((t.map Prod.fst).zip _)).lookup κ = some w' ∧ _
    rw [List.lookup_cons]
    by_cases e : κ = a
    · subst e
      rw [beq_self_eq_true] at h ⊢
      cases h
      exact ⟨w, rfl, r⟩
    · rw [beq_eq_false_iff_ne.mpr e] at h ⊢
      exact lookup_paired rs h
theorem lookup_some {κ : Str} : ∀ {l : List (Str × α)} {ws : List V}, ws.length = l.length → (((l.map Prod.fst).zip ws).lookup κ).isSome = (l.lookup κ).isSome
  | [], _, _ => rfl
  | (a, y) :: t, [], h => by cases h
  | (a, y) :: t, w :: ws, h => by
    show (((a, w) :: ((t.map Prod.fst).zip ws)).lookup κ).isSome = _
    rw [List.lookup_cons, List.lookup_cons]
    by_cases e : κ = a
    · subst e; rw [beq_self_eq_true]; rfl
    · rw [beq_eq_false_iff_ne.mpr e]; exact lookup_some (by simpa using h)
/-- d[k] -/
theorem ev_dgetM {d : Dm α} {x : α} (ha : Ev W M ta σ H d) (hb : Ev W M tb σ H n) (hx : d.kvs.lookup n = some x) : Ev W M (tDGet ta tb) σ H x := fun H1 e ok Q q =>
  ha H1 e ok _ fun v H2 e2 r => hb H2 (e.trans e2) (ok.ex e2) _ fun u H3 e3 r3 => by
    obtain ⟨a, ws, rfl, hh, _, _, pp⟩ := (r.up e3).dm
    cases (show u = .str n from r3)
    obtain ⟨w, hw, rw_⟩ := lookup_paired pp hx
    exact ⟨a, w, rfl, .inl ⟨_, Sum.inr n, .inl hh, rfl, by rw [valV_encM, hw]⟩, q _ _ (e2.trans e3) rw_⟩
/-- k in d -/
theorem ev_dinM {d : Dm α} (hb : Ev W M tb σ H n) (ha : Ev W M ta σ H d) : Ev W M (tDIn tb ta) σ H ((d.kvs.lookup n).isSome) := fun H1 e ok Q q =>
  hb H1 e ok _ fun u H2 e2 r2 => ha H2 (e.trans e2) (ok.ex e2) _ fun v H3 e3 r3 => by
    obtain ⟨a, ws, rfl, hh, _, _, pp⟩ := r3.dm
    cases (show u = .str n from r2)
    refine ⟨a, _, rfl, .inl ⟨_, Sum.inr n, .inl hh, rfl, rfl⟩, ?_⟩
    rw [valV_encM, lookup_some (by rw [Pd.length pp, List.length_map])]
    exact q _ _ (e2.trans e3) rep_bl
end
end RG
namespace RG
open PySem PySem.Spec PyProof.Rows L2 StX RZ TL
/-! ### s.count(t) -/
def rCount : V → List V → Hp → VK → Prop := fun x xs H Q => ∃ a b, x = .str a ∧ xs = [.str b] ∧ Q (.int (Txt.count a b)) H
section
variable {X : Cx} {o e : Expr} {to te : TE} {apos pos : Pos}
theorem peCount (ho : PE X o to) (he : PE X e te) (hs : starEach [e] X.env = [(false, eval e X.env)] := by rfl) (hbase : attributeBase o "count" X.env (eval o X.env) = eval o X.env := by rfl) (hline : (apos.endLine == pos.line) = true := by rfl) :
    PE X (.Call (.Attribute o "count" apos) [e] [] pos) (tM1 rCount to te) := pe_m1 PySem.F.slot_str_count PySem.F.type_str_count mt_count ho he hs hbase hline
/-! ### dict(a tuple of pairs) -/
def rDictTup (K : PySem.W.Frag) : List V → Hp → VK → Prop := fun xs H Q => ∃ (a : Addr) (oa : Obj) (ps : List Addr) (kvs : List (L2.Key × V)), xs = [.ref a] ∧ H a = some (.frz oa (.tup (ps.map V.ref))) ∧ oa.cls = .type "tuple" ∧ oa.dict = none ∧ Paired (fun p kv => SqT K H p [kV kv.1, kv.2]) ps kvs ∧ kvs.length ≤ 1000 ∧
  ∀ p, H p = none → Q (.ref p) (upd H p (.dK (mergeK [] kvs)))
theorem cr_dictTup (hc : X.calm = true) : CallR X (.type "dict") (rDictTup X.K) := by
  intro pins s σ H xs us Q I r h
  obtain ⟨a, oa, ps, kvs, rfl, ha, h1, h2, hp, hz, q⟩ := h
  obtain ⟨u, rfl, ru⟩ := r.one
  cases ru
  obtain ⟨g0, _, its, rv, o, g1, g2, n, g3⟩ := I.hok a _ ha
  rw [g0] at g1
  cases g1
  have ei := refs_at rv
  subst ei
  obtain ⟨prs, rel, hl, hpr⟩ := pairs_of I hp
  have lk : kvs.length = prs.length := rel.length
  let qs : List (Value × Value) := (List.range prs.length).map fun j => (((s.heap.get? (ps.getD j 0)).bind fun o => match o.data with | .seq its _ => its[0]? | _ => none).getD Value.none, (prs.getD j (Sum.inl 0, Value.none)).2)
  have hq : ∀ j k, prs[j]? = some k → ∃ u, qs[j]? = some (u, k.2) ∧ keyIs k.1 u = true ∧ ps[j]? = some (ps.getD j 0) ∧ IsTup s.heap (ps.getD j 0) #[u, k.2] := fun j k hk => by
    obtain ⟨b, u, e1, e2, e3⟩ := hpr j k hk
    have hj : j < prs.length := (List.getElem?_eq_some_iff.mp hk).1
    have eb : ps.getD j 0 = b := by rw [List.getD_eq_getElem?_getD, e1]; rfl
    refine ⟨u, ?_, e3, by rw [eb]; exact e1, by rw [eb]; exact e2⟩
    show ((List.range prs.length).map _)[j]? = _
    rw [List.getElem?_map, List.getElem?_range hj]
    obtain ⟨ob, k1, k2, n2, k3⟩ := e2
    show some (_, _) = _
    rw [eb, k1]
    have : prs.getD j (Sum.inl 0, Value.none) = k := by rw [List.getD_eq_getElem?_getD, hk]; rfl
    rw [this]
    congr 2
    show (match ob.data with | .seq its _ => its[0]? | _ => none).getD Value.none = u
    rw [k3]; rfl
  have ql : qs.length = prs.length := by show ((List.range prs.length).map _).length = _; rw [List.length_map, List.length_range]
  refine PySem.call_dict_pairs (knd := mixKind X.prog X.w) (kvs := prs) (PairArg.tuple a (ps.map Value.ref).toArray (fun j => ps.getD j 0) qs) (I.ok.hd hc) ⟨⟨oa, n, g0, h1, h2, g3⟩, ?_, fun j k v e => ?_⟩ ⟨ql.symm, fun i key v e => ?_⟩ (by rw [ql, ← lk]; exact sz (by omega)) fun h' tk hd' hk => ?_
  · rw [ql, List.size_toArray, List.length_map, hl]
  · cases hx : prs[j]? with
    | none =>
      rw [List.getElem?_eq_none (by rw [ql]; exact List.getElem?_eq_none_iff.mp hx)] at e
      cases e
    | some p =>
      obtain ⟨u, e1, _, e3, e4⟩ := hq j p hx
      rw [e1] at e
      cases e
      exact ⟨by rw [List.getElem?_toArray, List.getElem?_map, e3]; rfl, .inl e4⟩
  · cases hx : prs[i]? with
    | none =>
      have e : qs[i]? = some (key, v) := e
      rw [List.getElem?_eq_none (by rw [ql]; exact List.getElem?_eq_none_iff.mp hx)] at e
      cases e
    | some p =>
      have e : qs[i]? = some (key, v) := e
      obtain ⟨u, e1, e2, _⟩ := hq i p hx
      rw [e1] at e
      cases e
      exact ⟨p.1, rfl, e2⟩
  · have hm : (s.heap.objs.size == sysModules) = false := beq_eq_false_iff_ne.mpr (Nat.ne_of_gt I.big)
    have hlen : (mergeK [] kvs).length ≤ sizeLine := Nat.le_trans (length_mergeK kvs []) (by rw [List.length_nil, Nat.zero_add]; exact sz (by omega))
    exact ⟨.ref s.heap.objs.size, upd H s.heap.objs.size (.dK (mergeK [] kvs)), I.laid (t' := tk) (fun b o e => hk b o (by simp) e) (Nat.le_refl _) (show ObjOk X.prog X.w _ _ _ (.dK (mergeK [] kvs)) from ⟨hlen, hm, merged [] prs, KV.merge rel .nil, hd'⟩), rfl, q _ (I.hok.fresh (Nat.le_refl _))⟩
end
end RG
namespace RG
open PySem PySem.Spec PyProof.Rows L2 StX RZ

/-! ### menus, in plain Lean -/
abbrev lettersS : Str := "abcdefghijklmnopqrstuvwxyz"
abbrev digitsS : Str := "0123456789"
/-- a column: its name, its worths -/
abbrev Col := Str × List Str
def isName (z : Str) : Bool := decide ((1 : Int) ≤ z.length) && decide ((z.length : Int) ≤ 8) && ((signs z).map (inS lettersS)).all id
def isWorth (z : Str) : Bool := decide ((1 : Int) ≤ z.length) && decide ((z.length : Int) ≤ 8) && ((signs z).map fun s => inS lettersS s || inS digitsS s).all id
def areDiff (xs : List Str) : Bool := (xs.map fun x => decide ((xs.count x : Int) = 1)).all id
def isCol (c : Col) : Bool := isName c.1 && (decide ((1 : Int) ≤ c.2.length) && decide ((c.2.length : Int) ≤ 12)) && ((c.2.map isWorth).all id && areDiff c.2)
def kstep (found : List (List Str)) (c : Col) : List (List Str) := found.flatMap fun k => c.2.map fun z => k ++ [z]
def kinds (cs : List Col) : List (List Str) := cs.foldl kstep [[]]
def areCols (cs : List Col) : Bool := (decide ((1 : Int) ≤ cs.length) && decide ((cs.length : Int) ≤ 3)) && ((cs.map isCol).all id && areDiff (cs.map (·.1))) && decide (((kinds cs).length : Int) ≤ 12)
/-- what the package is asked: texts and lists of a fair length -/
def Fair (cs : List Col) : Prop := cs.length ≤ 1000 ∧ ∀ c ∈ cs, c.1.length ≤ 1000 ∧ c.2.length ≤ 1000 ∧ ∀ z ∈ c.2, z.length ≤ 1000
/-- so few that their kinds can be told one by one -/
def Few (cs : List Col) : Prop := cs.length ≤ 3 ∧ ∀ c ∈ cs, c.2.length ≤ 12
theorem isCol_few {c : Col} (h : isCol c = true) : c.2.length ≤ 12 := by
  unfold isCol at h
  simp only [Bool.and_eq_true, decide_eq_true_eq] at h
  omega
theorem Few.take {cs : List Col} (h : Few cs) (i : Nat) : Few (cs.take i) := ⟨by rw [List.length_take]; have := h.1; omega, fun c hc => h.2 c (List.mem_of_mem_take hc)⟩
theorem kstep_len {found : List (List Str)} {c : Col} : (kstep found c).length = found.length * c.2.length := by
  unfold kstep
  rw [List.length_flatMap]
  induction found with
  | nil => simp
  | cons k t ih => rw [List.map_cons, List.sum_cons, ih, List.length_map, List.length_cons, Nat.succ_mul, Nat.add_comm]
theorem kinds_take {cs : List Col} {i : Nat} {c : Col} (h : cs[i]? = some c) : kinds (cs.take (i + 1)) = kstep (kinds (cs.take i)) c := by
  unfold kinds
  rw [List.take_add_one, h, List.foldl_append]; rfl
theorem kfold_len {cs : List Col} : ∀ {found : List (List Str)}, (cs.foldl kstep found).length = found.length * (cs.map fun c => c.2.length).foldl (· * ·) 1 := by
  induction cs with
  | nil => intro f; simp
  | cons c cs ih =>
    intro f
    rw [List.foldl_cons, ih, kstep_len, List.map_cons, List.foldl_cons]
    have : ∀ (l : List Nat) (a : Nat), l.foldl (· * ·) a = a * l.foldl (· * ·) 1 := by
      intro l
      induction l with
      | nil => intro a; simp
      | cons x l ih => intro a; rw [List.foldl_cons, List.foldl_cons, ih (a * x), ih (1 * x), Nat.mul_assoc, Nat.one_mul]
    rw [this _ (1 * _), Nat.one_mul, Nat.mul_assoc]
theorem kfold_mem {cs : List Col} : ∀ {found : List (List Str)} {n : Nat}, (∀ k ∈ found, k.length = n) → ∀ k ∈ cs.foldl kstep found, k.length = n + cs.length := by
  induction cs with
  | nil => intro f n h k hk; exact h k hk
  | cons c cs ih =>
    intro f n h k hk
    rw [List.foldl_cons] at hk
    have := ih (n := n + 1) (fun k hk => by
      unfold kstep at hk
      obtain ⟨k', hk', hk⟩ := List.mem_flatMap.mp hk
      obtain ⟨z, _, rfl⟩ := List.mem_map.mp hk
      rw [List.length_append, h k' hk']; rfl) k hk
    rw [this, List.length_cons]; omega
theorem kind_len {cs : List Col} {k : List Str} (h : k ∈ kinds cs) : k.length = cs.length := by
  have := kfold_mem (cs := cs) (found := [[]]) (n := 0) (fun k hk => by simp at hk; rw [hk]; rfl) k h
  omega
theorem Few.num {cs : List Col} (h : Few cs) (h2 : cs.length ≤ 2) : (kinds cs).length ≤ 144 := by
  unfold kinds
  match cs, h, h2 with
  | [], _, _ => simp
  | [a], h, _ =>
    have := h.2 a (by simp)
    simp only [List.foldl_cons, List.foldl_nil, kstep_len, List.length_cons, List.length_nil]
    omega
  | [a, b], h, _ =>
    have h1 := h.2 a (by simp)
    have h2 := h.2 b (by simp)
    simp only [List.foldl_cons, List.foldl_nil, kstep_len, List.length_cons, List.length_nil]
    have : (0 + 1) * a.2.length * b.2.length ≤ (0 + 1) * 12 * 12 := Nat.mul_le_mul (Nat.mul_le_mul_left _ h1) h2
    omega
theorem kstep_mk {found : List (List Str)} {c : Col} : (kstep found c).map TupK.mk = (found.map TupK.mk).flatMap fun k => c.2.map fun s => TupK.mk (k.l ++ [s]) := by
  unfold kstep
  rw [List.map_flatMap, List.flatMap_map]
  congr 1
  funext k
  rw [List.map_map]; rfl
theorem areCols_few {cs : List Col} (h : areCols cs = true) : Few cs := by
  unfold areCols at h
  simp only [Bool.and_eq_true, decide_eq_true_eq, List.all_map] at h
  exact ⟨by omega, fun c hc => isCol_few (List.all_eq_true.mp h.1.2.1 c hc)⟩
/-- columns as they are handed in: lists or tuples -/
abbrev ColQ := Str × Sq Str
def unQ (c : ColQ) : Col := (c.1, c.2.l)
def toQ (c : Col) : ColQ := (c.1, ⟨c.2⟩)
abbrev ColT := Str × Tup Str
def toT (c : Col) : ColT := (c.1, ⟨c.2⟩)
theorem unQ_toQ (c : Col) : unQ (toQ c) = c := rfl
theorem unQ_map (cs : List Col) : (cs.map toQ).map unQ = cs := by rw [List.map_map]; exact (List.map_congr_left fun c _ => unQ_toQ c).trans (List.map_id cs)
theorem toQ_map (cs : List ColQ) : (cs.map unQ).map toQ = cs := by rw [List.map_map]; exact (List.map_congr_left fun c _ => rfl).trans (List.map_id cs)

/-! ### tuples whose object is known -/
structure TupF (α : Type) where
  l : List α
instance {α : Type} [Py α] : Py (TupF α) := ⟨fun W H v x => ∃ a o vs, v = .ref a ∧ H a = some (.frz o (.tup vs)) ∧ o.cls = .type "tuple" ∧ o.dict = none ∧ Paired (Py.rep W H) vs x.l,
  fun q ⟨a, o, vs, e, h, h1, h2, p⟩ => ⟨a, o, vs, e, q.ex _ _ h, h1, h2, paired_mono (fun _ _ r => Py.mono q r) p⟩⟩
section
variable {α : Type} [Py α] {W : Wd} {M : List Addr} {σ : L2.St} {H : Hp} {ta : TE} {v : V}
theorem Rep.tF {xs : TupF α} (h : Rep W M H v xs) : Rep W M H v (Tup.mk xs.l) := let ⟨a, o, vs, e, h, _, _, p⟩ := h; ⟨a, vs, e, .inr ⟨o, h⟩, p⟩
theorem ev_tupleF {xs : List α} (ha : Ev W M ta σ H xs) : Ev W M (tCB (rTupOfF W.K) (tCons ta tNil)) σ H (TupF.mk xs) := fun H1 e ok Q q =>
  ha H1 e ok _ fun v H2 e2 r => by
    obtain ⟨a, vs, ev, hh, _, _, pp⟩ := r.lst
    have ok2 := ok.ex e2
    exact ⟨a, vs, by rw [ev], SqL.of hh, fun l o hl hc hd => q _ _ (e2.trans (Ex.new hl)) ⟨l, o, vs, rfl, cut_some.mpr ⟨ok2.new_b hl, ok2.new_M hl, upd_same⟩, hc, hd, Pd.mono pp fun _ _ r => r.up (Ex.new hl)⟩⟩
end
/-! ### a menu -/
structure Menu where
  cols : List Col
  deriving DecidableEq
def colsT (m : Menu) : Tup ColT := ⟨m.cols.map toT⟩
def colsF (m : Menu) : TupF ColT := ⟨m.cols.map toT⟩
def kindsT (m : Menu) : Tup TupK := ⟨(kinds m.cols).map TupK.mk⟩
instance : Py Menu where
  rep W H v m := ∃ a dx v1 o p vs, v = .ref a ∧ H a = some (.ins (W.C "Menu") dx [("own_columns", v1), ("own_kinds", .ref p)]) ∧ Py.rep W H v1 (colsF m) ∧ H p = some (.frz o (.tup vs)) ∧ o.cls = .type "tuple" ∧ o.dict = none ∧ Paired (Py.rep W H) vs (kindsT m).l
  mono l h := by
    obtain ⟨a, dx, v1, o, p, vs, e, h1, h2, h3, h4, h5, h6⟩ := h
    exact ⟨a, dx, v1, o, p, vs, e, l.ex _ _ h1, Py.mono l h2, l.ex _ _ h3, h4, h5, paired_mono (fun _ _ r => Py.mono l r) h6⟩
instance : PyO Menu where
  cn := "Menu"
  fns := ["own_columns", "own_kinds"]
  ins h := by
    obtain ⟨a, dx, v1, o, p, vs, e, h1, _⟩ := h
    exact ⟨a, dx, _, e, h1, rfl⟩
def placeOf (m : Menu) (d : PyData) : Int := ((((kindsT m).l.map PyD.dat).map fun z => PyData.eqv z d).idxOf true : Nat)
def holds (m : Menu) (d : PyData) : Bool := isTupD d && ((kindsT m).l.map fun k => PyData.eqv d (PyD.dat k)).any id
def menuText (cs : List Col) : Str := Txt.join "; " (cs.map fun c => Txt.join " " (c.1 :: c.2))
def textCols (z : Str) : List Col := (Txt.split z "; ").map fun p => ((Txt.split p " ").headD Str.empty, (Txt.split p " ").drop 1)

/-! ### the promises -/
section
variable (K : PySem.W.Frag) (C : Str → Addr)
abbrev sp_is_name : Sp := F1 K C (fun z : Str => z.length ≤ 1000) isName
abbrev sp_is_worth : Sp := F1 K C (fun z : Str => z.length ≤ 1000) isWorth
abbrev sp_are_different : Sp := F1 K C (fun xs : List Str => xs.length ≤ 1000) areDiff
abbrev sp_is_column : Sp := F1 K C (fun c : ColQ => Fair [unQ c]) fun c => isCol (unQ c)
abbrev sp_are_columns : Sp := F1 K C (fun cs : Sq ColQ => Fair (cs.l.map unQ)) fun cs => areCols (cs.l.map unQ)
abbrev sp_kinds_of : Sp := F1 K C (fun cs : Sq ColQ => Few (cs.l.map unQ)) fun cs => (kinds (cs.l.map unQ)).map TupK.mk
abbrev sp_Menu_columns : Sp := F1 K C (fun _ : Menu => True) colsF
abbrev sp_Menu_kinds : Sp := F1 K C (fun _ : Menu => True) kindsT
abbrev sp_Menu_len : Sp := F1 K C (fun _ : Menu => True) fun m => ((kinds m.cols).length : Int)
abbrev sp_Menu_contains : Sp := F2 K C (fun (m : Menu) (d : PyData) => (kinds m.cols).length ≤ 1000 ∧ d.depth ≤ 64) holds
abbrev sp_Menu_place : Sp := F2 K C (fun (m : Menu) (d : PyData) => (kinds m.cols).length ≤ 1000 ∧ d.depth ≤ 64 ∧ holds m d = true ∧ true ∈ ((kindsT m).l.map PyD.dat).map fun z => PyData.eqv z d) placeOf
abbrev sp_Menu_same : Sp := F2 K C (fun (_ _ : Menu) => True) fun m n => decide (colsT m = colsT n)
abbrev sp_Menu_text : Sp := F1 K C (fun m : Menu => Fair m.cols ∧ m.cols.length ≤ 3 ∧ ∀ c ∈ m.cols, c.2.length ≤ 12) fun m => menuText m.cols
abbrev sp_Menu_init : Sp := I1 K C "Menu" (fun cs : Sq ColQ => Fair (cs.l.map unQ) ∧ areCols (cs.l.map unQ) = true) fun cs => Menu.mk (cs.l.map unQ)
/-- the class, then a text -/
def sp_Menu_read : Sp := fun vs H Q _ => ∃ (W : Wd) (M : List Addr) (z : Str), W.K = K ∧ W.C = C ∧ vs = [.ref (C "Menu"), .str z] ∧ Ok W M H ∧ z.length ≤ 100000 ∧ (∀ p ∈ Txt.split z "; ", p.length ≤ 100000 ∧ Txt.split p " " ≠ []) ∧ Fair (textCols z) ∧ areCols (textCols z) = true ∧
  ∀ r H', Ex W [] H H' → Rep W M H' r (Menu.mk (textCols z)) → Q r H'
end
end RG
namespace RG
open PySem PySem.Spec PyProof.Rows L2 StX RZ TL
theorem putK_new {l : List (Str × V)} {k : Str} {v : V} (h : k ∉ l.map Prod.fst) : putK (encM l) (Sum.inr k) v = encM (l ++ [(k, v)]) := by
  unfold putK
  rw [if_neg]
  · unfold encM; rw [List.map_append]; rfl
  · intro e
    rw [List.any_eq_true] at e
    obtain ⟨p, hp, e⟩ := e
    unfold encM at hp
    obtain ⟨q, hq, rfl⟩ := List.mem_map.mp hp
    have e := of_decide_eq_true e
    exact h (Sum.inr.inj e ▸ List.mem_map_of_mem (f := Prod.fst) hq)
theorem merge_new : ∀ {more acc : List (Str × V)}, ((acc ++ more).map Prod.fst).Nodup → mergeK (encM acc) (encM more) = encM (acc ++ more)
  | [], acc, _ => by rw [List.append_nil]; rfl
  | (k, v) :: t, acc, h => by
    have hk : k ∉ acc.map Prod.fst := fun hm => by
      rw [List.map_append, List.nodup_append] at h
      exact h.2.2 _ hm k (by simp) rfl
    have e : acc ++ (k, v) :: t = (acc ++ [(k, v)]) ++ t := by simp
    rw [e] at h ⊢
    rw [← merge_new h, ← putK_new hk]; rfl
section
variable {α β γ : Type} [Py α] [Py β] [Py γ] {W : Wd} {M M' N : List Addr} {σ : L2.St} {H H' : Hp} {te ta tb tc tk tv : TE} {wi : TI} {tr : TA} {v : V} {n z : Str} {E : XK} {vs : List Nat} {k l : Nat}
theorem ev_countS (ha : Ev W M ta σ H z) (hb : Ev W M tb σ H n) : Ev W M (tM1 rCount ta tb) σ H (Txt.count z n : Int) := fun H1 e ok Q q =>
  ha H1 e ok _ fun v H2 e2 r => ⟨⟨z, r⟩, hb H2 (e.trans e2) (ok.ex e2) _ fun u H3 e3 r3 => ⟨z, n, r, by rw [show u = .str n from r3], q _ _ (e2.trans e3) rep_int⟩⟩
theorem ev_fmt (ha : Ev W M ta σ H z) (hl : z.length ≤ 1000000) : Ev W M (tFmt ta) σ H z := fun H1 e ok Q q =>
  ha H1 e ok _ fun v H2 e2 r => .inl ⟨z, r, sz hl, q _ H2 e2 rep_str⟩
/-- f"{a}.{b}" -/
theorem ev_fs3 {a b c : Str} (ha : Ev W M ta σ H a) (hb : Ev W M tb σ H b) (hc : Ev W M tc σ H c) (hl : a.length + b.length + c.length ≤ 1000000) : Ev W M (fun σ H Q => tJs [ta, tb, tc] Str.empty σ H fun out H1 => Q (.str out) H1) σ H (Str.empty ++ a ++ b ++ c) := fun H1 e ok Q q =>
  ha H1 e ok _ fun v H2 e2 r => ⟨a, r, sz (by simp only [PySem.Str.length_append]; show 0 + _ ≤ _; omega), hb H2 (e.trans e2) (ok.ex e2) _ fun u H3 e3 r3 => ⟨b, r3, sz (by simp only [PySem.Str.length_append]; show 0 + _ + _ ≤ _; omega), hc H3 ((e.trans e2).trans e3) ((ok.ex e2).ex e3) _ fun w H4 e4 r4 => ⟨c, r4, sz (by simp only [PySem.Str.length_append]; show 0 + _ + _ + _ ≤ _; omega), q _ _ ((e2.trans e3).trans e4) rep_str⟩⟩⟩
theorem pd_pairs : ∀ {vs : List V} {xs : List (Str × α)}, Paired (Rep W M H) vs xs → ∃ (ps : List Addr) (ws : List V), vs = ps.map V.ref ∧ (∀ K, Paired (fun p (kv : L2.Key × V) => SqT K H p [kV kv.1, kv.2]) ps (encM ((xs.map Prod.fst).zip ws))) ∧ Paired (Rep W M H) ws (xs.map Prod.snd)
  | _, _, .nil => ⟨[], [], rfl, fun _ => .nil, .nil⟩
  | _, _, .cons r t => by
    obtain ⟨a, v1, v2, rfl, hh, _, _, r1, r2⟩ := r.pair
    cases (show v1 = .str _ from r1)
    obtain ⟨ps, ws, e, h1, h2⟩ := pd_pairs t
    exact ⟨a :: ps, v2 :: ws, by rw [e]; rfl, fun K => .cons (.inl hh) (h1 K), .cons r2 h2⟩
theorem zip_keys : ∀ {xs : List (Str × α)} {ws : List V}, ws.length = xs.length → (((xs.map Prod.fst).zip ws).map Prod.fst) = xs.map Prod.fst
  | [], [], _ => rfl
  | [], _ :: _, h => by cases h
  | _ :: _, [], h => by cases h
  | x :: xs, w :: ws, h => by
    rw [List.map_cons, List.zip_cons_cons, List.map_cons, zip_keys (by simpa using h)]
/-- dict(pairs) -/
theorem ev_dictTup {xs : TupF (Str × α)} (ha : Ev W M ta σ H xs) (hn : (xs.l.map Prod.fst).Nodup) (hl : xs.l.length ≤ 1000) : Ev W M (tCB (rDictTup W.K) (tCons ta tNil)) σ H (Dm.mk xs.l) := fun H1 e ok Q q =>
  ha H1 e ok _ fun v H2 e2 r => by
    obtain ⟨a, o, us, rfl, hh, h1, h2, pp⟩ := r
    have pp : Paired (Rep W M H2) us xs.l := pp
    obtain ⟨ps, ws, rfl, h3, h4⟩ := pd_pairs pp
    have lw : ws.length = xs.l.length := by rw [Pd.length h4, List.length_map]
    refine ⟨a, o, ps, _, rfl, (cut_at hh), h1, h2, h3 _, ?_, fun p hp => ?_⟩
    · unfold encM; rw [List.length_map, List.length_zip, List.length_map, lw, Nat.min_self]; exact hl
    · have em : mergeK [] (encM ((xs.l.map Prod.fst).zip ws)) = encM ((xs.l.map Prod.fst).zip ws) := by
        have := merge_new (acc := []) (more := (xs.l.map Prod.fst).zip ws) (by rw [List.nil_append, zip_keys lw]; exact hn)
        rw [List.nil_append] at this
        exact this
      rw [em]
      have ok2 := ok.ex e2
      exact q _ _ (e2.trans (Ex.new hp)) ⟨p, ws, rfl, cut_some.mpr ⟨ok2.new_b hp, ok2.new_M hp, upd_same⟩, Pd.mono h4 fun _ _ r => r.up (Ex.new hp)⟩
/-- {f: g for a, b in ..} -/
theorem ev_dc {xs : List (α × β)} {fk : α × β → Str} {fv : α × β → γ} (hi : Ei W M wi σ H xs) (hl : xs.length ≤ 1000) (hn : (xs.map fk).Nodup) (hk : k ∈ vs) (hl' : l ∈ vs)
    (h1 : ∀ (i : Nat) x v1 v2 M' H', xs[i]? = some x → Le (cut W M H) (cut W M' H') → Rep W M' H' v1 x.1 → Rep W M' H' v2 x.2 → Ev W M' tk (((wipe σ vs).set k (some v1)).set l (some v2)) H' (fk x))
    (h2 : ∀ (i : Nat) x v1 v2 M' H', xs[i]? = some x → Le (cut W M H) (cut W M' H') → Rep W M' H' v1 x.1 → Rep W M' H' v2 x.2 → Ev W M' tv (((wipe σ vs).set k (some v1)).set l (some v2)) H' (fv x)) :
    Ev W M (tDc wi (gPair W.K k l) tYes tk tv vs) σ H (Dm.mk (xs.map fun x => (fk x, fv x))) := fun H1 e ok Q q => by
  refine hi H1 e ok _ fun J S H2 e2 wk s2 => ?_
  intro L hL
  have ok2 := ok.ex e2
  have nb := ok2.new_b hL
  have nbl := ok2.new_bl hL
  have nM := ok2.new_M hL
  have le2 : Le (cut W M H) (cut W M H2) := (e.trans e2).up.le
  refine ⟨fun i m H' => m = xs.length - i ∧ i ≤ xs.length ∧ Ok W (L :: M) H' ∧ S (L :: M) H' ∧ Ex W [] H2 H' ∧ Le (cut W M H) (cut W (L :: M) H') ∧
    ∃ us, H' L = some (.dK (encM (((xs.take i).map fk).zip us))) ∧ Paired (Rep W (L :: M) H') us ((xs.take i).map fv),
    ⟨xs.length, by simp, Nat.zero_le _, ok2.grow hL, wk.st (le_new hL) s2, Ex.new hL, le2.trans (le_new hL), [], upd_same, .nil⟩, ?_⟩
  rintro i m H' ⟨rfl, hi', ok', s', e', l', us, hL', pp⟩
  by_cases hlt : i < xs.length
  · refine .inr ⟨wk.go s' hlt, fun H3 => i + 1 ≤ xs.length ∧ Ok W (L :: M) H3 ∧ S (L :: M) H3 ∧ Ex W [] H2 H3 ∧ Le (cut W M H) (cut W (L :: M) H3) ∧
      ∃ us, H3 L = some (.dK (encM (((xs.take (i + 1)).map fk).zip us))) ∧ Paired (Rep W (L :: M) H3) us ((xs.take (i + 1)).map fv), fun H3 q => ⟨xs.length - (i + 1), by omega, rfl, q⟩, fun v H3 y => ?_⟩
    obtain ⟨x, hx, e3, r⟩ := wk.yld s' ok' y hlt
    have ok3 := ok'.ex e3
    have l3 := l'.trans e3.up.le
    refine gPair_rd r fun v1 v2 r1 r2 => ⟨by rw [wipe_set hl', wipe_set hk, wipe_wipe], ?_⟩
    refine et_yes (W := W) (M := L :: M) H3 Ex.refl ok3 _ fun H4 e4 => ?_
    rw [if_pos rfl]
    refine h1 i x v1 v2 _ H3 hx l3 r1 r2 H4 e4 (ok3.ex e4) _ fun w1 H5 e5 rk => ?_
    refine h2 i x v1 v2 _ H3 hx l3 r1 r2 H5 (e4.trans e5) ((ok3.ex e4).ex e5) _ fun w2 H6 e6 rv => ?_
    cases (show w1 = .str (fk x) from rk)
    have e36 := ((e3.trans e4).trans e5).trans e6
    have hL6 := e36.keep L _ nb (by simp) hL'
    have lu : us.length = ((xs.take i).map fv).length := Pd.length pp
    rw [List.length_map] at lu
    have hnew : fk x ∉ (((xs.take i).map fk).zip us).map Prod.fst := fun hm => by
      obtain ⟨p, hp, ep⟩ := List.mem_map.mp hm
      have hm2 := (List.of_mem_zip hp).1
      rw [ep] at hm2
      have e7 : xs.take (i + 1) = xs.take i ++ [x] := by rw [List.take_add_one, hx]; rfl
      have h8 : ((xs.take (i + 1)).map fk).Nodup := by
        rw [List.map_take]; exact hn.sublist (List.take_sublist _ _)
      rw [e7, List.map_append, List.nodup_append] at h8
      exact h8.2.2 _ hm2 _ (by simp) rfl
    have em : Ex W (L :: M) H6 (upd H6 L (.dK (putK (encM (((xs.take i).map fk).zip us)) (Sum.inr (fk x)) w2))) := Ex.mut nb nbl (List.mem_cons_self)
    have e37 := e36.up.trans em
    have ok6 := ok'.ex e36
    refine ⟨_, Sum.inr (fk x), rfl, hL6, ?_, hlt, ok6.ex em, wk.st e37.le s', (e'.trans e36).mut0 ok2 hL, l'.trans e37.le, us ++ [w2], ?_, ?_⟩
    · unfold encM
      rw [List.length_map, List.length_zip]
      exact sl (Nat.le_trans (Nat.min_le_right _ _) (by rw [lu, List.length_take]; omega))
    · rw [upd_same, putK_new hnew]
      congr 3
      rw [List.take_add_one, hx]
      show _ = ((xs.take i ++ [x]).map fk).zip (us ++ [w2])
      rw [List.map_append, List.zip_append (by rw [List.length_map, lu])]; rfl
    · rw [List.take_add_one, hx]
      show Paired _ _ ((xs.take i ++ [x]).map fv)
      rw [List.map_append]
      exact Pd.append (Pd.mono pp fun _ _ r => r.ex e37) (.cons (rv.ex em) .nil)
  · have e5 : i = xs.length := by omega
    subst e5
    rw [List.take_length] at hL' pp
    refine .inl ⟨wk.stop s' (Nat.le_refl _), q (.ref L) H' (e2.trans (e'.sub (by simp))) ⟨L, us, rfl, cut_some.mpr ⟨nb, nM, ?_⟩, ?_⟩⟩
    · rw [hL', List.map_map]; rfl
    · rw [List.map_map]; exact Pd.mono pp fun _ _ r => r.less
end
end RG
namespace RG
open PySem PySem.Spec PyProof.Rows L2 StX RZ
section
variable {α β γ : Type} [Py α] [Py β] [Py γ] {W : Wd} {M M' N : List Addr} {σ σ' : L2.St} {H H1 H2 H' : Hp} {te ta tb tc tl : TE} {tr : TA} {x : α} {y : β} {v : V} {E : XK} {i k l : Nat}
/-- any data == data of a kind -/
theorem ev_eqP {δ : Type} [DecidableEq δ] [PyD δ] {d : PyData} {y : δ} (ha : Ev W M ta σ H d) (hb : Ev W M tb σ H y) (hd : d.depth ≤ 64) : Ev W M (tOp (rEqE W.K) ta tb) σ H (PyData.eqv d (PyD.dat y)) := fun H1 e ok Q q =>
  ha H1 e ok _ fun v H2 e2 r => hb H2 (e.trans e2) (ok.ex e2) _ fun u H3 e3 r3 =>
    ⟨d, _, dp_le cut_le _ _ (r.up e3), r3.dp, hd, q _ H3 (e2.trans e3) rep_bl⟩
/-- data of a kind is data -/
theorem Rep.toD {δ : Type} [DecidableEq δ] [PyD δ] {y : δ} (r : Rep W M H v y) : Rep W M H v (PyD.dat y) := PyD.dp (W := W) r
theorem Ev.toD {δ : Type} [DecidableEq δ] [PyD δ] {y : δ} (h : Ev W M te σ H y) : Ev W M te σ H (PyD.dat y) := h.cv fun _ _ r => r.toD
theorem join_le {z : Str} {xs : List Str} {n : Nat} (h : ∀ x ∈ xs, x.length ≤ n) : (xs.map (·.length)).sum + xs.length * z.length ≤ xs.length * (n + z.length) := by
  induction xs with
  | nil => simp
  | cons x t ih =>
    have h1 := h x (by simp)
    have h2 := ih fun y hy => h y (List.mem_cons_of_mem _ hy)
    simp only [List.map_cons, List.sum_cons, List.length_cons]
    rw [Nat.succ_mul, Nat.succ_mul]
    omega
theorem join_len {z : Str} {xs : List Str} {n : Nat} (h : ∀ x ∈ xs, x.length ≤ n) : (Txt.join z xs).length ≤ xs.length * (n + z.length) := by
  rw [TL.join_eq]
  exact Nat.le_trans (StrLaws.join_length_le z xs) (join_le h)
/-! ### slices -/
theorem cutG_from {ω : Type} {xs : List ω} : cutG xs (some 1) none = xs.drop 1 := by
  unfold cutG HT.sIx
  simp
  cases xs with
  | nil => rfl
  | cons a t => simp
/-- columns, lists or tuples, as they are asked for -/
theorem Rep.colsQ {cs : List Col} (r : Rep W M H v cs) : Rep W M H v (Sq.mk (cs.map toQ)) := (r.lmap fun _ _ r => r.pmap fun _ r => r.toSq).toSq
theorem Rep.colsTQ {cs : List Col} (r : Rep W M H v (Tup.mk (cs.map toT))) : Rep W M H v (Sq.mk (cs.map toQ)) := by
  have h : Rep W M H v (Tup.mk ((cs.map toT).map fun c : ColT => ((c.1, ⟨c.2.l⟩) : ColQ))) := r.tmap (f := fun c : ColT => ((c.1, ⟨c.2.l⟩) : ColQ)) fun _ _ r => r.pmap fun _ r => r.toSqT
  rw [List.map_map] at h
  exact h.toSqT
/-! ### a menu's fields -/
theorem mn_colsF {m : Menu} (ha : Ev W M ta σ H m) (c : Cls W.K (W.C "Menu")) (n : NoAttr W.K (W.C "Menu") "own_columns") : Ev W M (tFld W.K ta "own_columns") σ H (colsF m) :=
  ev_fld ha c n fun {v H2} r {a dx fs} e hh => by
    obtain ⟨a', dx', v1, o, p, vs, e', h1, h2, _⟩ := r
    subst e; cases e'
    rw [cut_at h1] at hh; cases hh
    exact ⟨v1, by rw [List.lookup_cons, beq_self_eq_true], h2⟩
theorem mn_cols {m : Menu} (ha : Ev W M ta σ H m) (c : Cls W.K (W.C "Menu")) (n : NoAttr W.K (W.C "Menu") "own_columns") : Ev W M (tFld W.K ta "own_columns") σ H (colsT m) := (mn_colsF ha c n).cv fun _ _ r => r.tF
theorem mn_kinds {m : Menu} (ha : Ev W M ta σ H m) (c : Cls W.K (W.C "Menu")) (n : NoAttr W.K (W.C "Menu") "own_kinds") : Ev W M (tFld W.K ta "own_kinds") σ H (kindsT m) :=
  ev_fld ha c n fun {v H2} r {a dx fs} e hh => by
    obtain ⟨a', dx', v1, o, p, vs, e', h1, h2, h3, h4, h5, h6⟩ := r
    subst e; cases e'
    rw [cut_at h1] at hh; cases hh
    exact ⟨.ref p, by rw [List.lookup_cons, show (("own_kinds" : Str) == "own_columns") = false by decide +kernel]; rfl, p, vs, rfl, .inr ⟨o, h3⟩, h6⟩
theorem mn_place {m : Menu} {d : PyData} (ha : Ev W M ta σ H m) (hb : Ev W M tb σ H d) (c : Cls W.K (W.C "Menu")) (n : NoAttr W.K (W.C "Menu") "own_kinds") (hm : true ∈ ((kindsT m).l.map PyD.dat).map fun z => PyData.eqv z d) :
    Ev W M (tBMF "tuple" (rIdxT W.K) (tFld W.K ta "own_kinds") (tCons tb tNil)) σ H (placeOf m d) := fun H1 e ok Q q =>
  ha H1 e ok _ fun v H2 e2 r => by
    have hl : (("own_kinds" : Str) == "own_columns") = false := by decide +kernel
    obtain ⟨a, dx, v1, o, p, vs, e', h1, h2, h3, h4, h5, h6⟩ := id r
    refine ⟨a, _, dx, _, .ref p, e', cut_at h1, c, n, by rw [List.lookup_cons, hl]; rfl, ⟨p, o, _, rfl, cut_at h3, h4, h5⟩, hb H2 (e.trans e2) (ok.ex e2) _ fun u H3 e3 r3 => ?_⟩
    obtain ⟨a', dx', v1', o', p', vs', e'', k1, k2, k3, k4, k5, k6⟩ := id (r.up e3)
    rw [e'] at e''; cases e''
    have := e3.keep _ _ (cut_some.mp h1).1 (by simp) (cut_at h1)
    rw [cut_at k1] at this; cases this
    exact ⟨p, o', vs', u, _, d, rfl, rfl, cut_at k3, Rep.dpAll k6, dp_le cut_le _ _ r3, Nat.le_trans (depthAll_le _) (by decide), hm, q _ H3 (e2.trans e3) rep_int⟩
/-! ### what stands in a slot -/
theorem ev_makeL {C : Addr} {sp : Sp} {t : TA} (hs : σ[i]? = some (some (.ref C))) (h : Ev W M (tMake C sp [] E0 t) σ H x) : Ev W M (tMakeL i C sp t) σ H x := fun H1 e ok Q q => ⟨hs, h H1 e ok Q q⟩
/-- self.f = e, in __init__ -/
theorem s_fld {a C dx : Addr} {f : Str} {fs : List (Str × V)} {D : Ends} (ok : Ok W M H) (h : Ev W M te σ H x) (hs : σ[i]? = some (some (.ref a))) (nb : a ≠ W.b) (nbl : a ≠ W.bl) (hm : a ∈ M) (ha : H a = some (.ins C dx fs)) (c : Cls W.K C) (n : NoAttr W.K C f) (hl : fs.length < 1000)
    (q : ∀ v H', Ex W [a] H H' → Ok W M H' → Rep W M H' v x → H' a = some (.ins C dx (putF f v fs)) → D.nx σ H') : sFld W.K (tVar i) te f D σ H :=
  h H Ex.refl ok _ fun v H2 e2 r => by
    have ha2 := e2.keep a _ nb (by simp) ha
    have em : Ex W [a] H2 (upd H2 a (.ins C dx (putF f v fs))) := Ex.mut nb nbl (by simp)
    refine ⟨.ref a, hs, a, C, dx, fs, rfl, ha2, c, n, hl, q v _ (e2.up.trans em) ((ok.ex e2).ex em) (r.ex (em.sub (by simpa using hm))) upd_same⟩
/-- self.f, in __init__ -/
theorem ev_fldR {a C dx : Addr} {f : Str} {fs : List (Str × V)} {u : V} (hs : σ[i]? = some (some (.ref a))) (nb : a ≠ W.b) (ha : H a = some (.ins C dx fs)) (c : Cls W.K C) (n : NoAttr W.K C f) (hf : fs.lookup f = some u) (r : Rep W M H u x) : Ev W M (tFld W.K (tVar i) f) σ H x := fun H1 e ok Q q =>
  ⟨.ref a, hs, a, C, dx, fs, u, rfl, e.keep a _ nb (by simp) ha, c, n, hf, q u H1 Ex.refl (r.up e)⟩
end
end RG
namespace RG
open PySem PySem.Spec PyProof.Rows L2 StX RZ

/-! ### the bag of a law -/
section
variable {W : Wd} {M N : List Addr} {σ σ' : L2.St} {H H1 H2 H' : Hp} {te ta tb tc : TE} {D : Ends} {i m s c i' m' s' c' n k : Int} {a : Addr} {v w : V} {K : PySem.W.Frag}
/-- what the bag's list holds -/
def BS (W : Wd) (H : Hp) (i m s c : Int) : Prop := H W.b = some (.lst [.ref W.bl, .int i, .int m, .int s, .int c]) ∧ 0 ≤ i ∧ 0 ≤ m
theorem bs_of (h : BagAt W H) : ∃ i m s c, BS W H i m s c := let ⟨i, m, s, c, e, _, _, h0, h1⟩ := h; ⟨i, m, s, c, e, h0, h1⟩
theorem val_ix {vs : List V} (ha : Val ta σ H (.ref a)) (hb : Val tb σ H (.int n)) (h : SqL K H a vs) (hx : atI vs n = some v) : Val (tOp (rIxL K) ta tb) σ H v := fun Q q =>
  ha _ (hb _ ⟨a, vs, n, v, rfl, rfl, h, hx, q⟩)
theorem val_I0 {g : Int → Int → Int} (ha : Val ta σ H (.int n)) (hb : Val tb σ H (.int k)) : Val (tOp (rI0 fun i j => .int (g i j)) ta tb) σ H (.int (g n k)) := fun Q q => ha _ (hb _ ⟨n, k, rfl, rfl, q⟩)
theorem val_B0 {g : Int → Int → Bool} (ha : Val ta σ H (.int n)) (hb : Val tb σ H (.int k)) : Val (tOp (rI0 fun i j => .bl (g i j)) ta tb) σ H (.bl (g n k)) := fun Q q => ha _ (hb _ ⟨n, k, rfl, rfl, q⟩)
theorem val_I {C : Int → Int → Prop} {g : Int → Int → Int} (ha : Val ta σ H (.int n)) (hb : Val tb σ H (.int k)) (hc : C n k) : Val (tOp (rI C fun i j => .int (g i j)) ta tb) σ H (.int (g n k)) := fun Q q => ha _ (hb _ ⟨n, k, rfl, rfl, hc, q⟩)
theorem val_abs (ha : Val ta σ H (.int n)) : Val (tCB rAbs (tCons ta tNil)) σ H (.int (if n < 0 then -n else n)) := fun Q q => ha _ ⟨n, rfl, q⟩
theorem val_int (ha : Val ta σ H (.int n)) : Val (tCB rInt (tCons ta tNil)) σ H (.int n) := fun Q q => ha _ (.inl ⟨n, rfl, q⟩)
theorem val_intB {b : Bool} (ha : Val ta σ H (.bl b)) : Val (tCB rInt (tCons ta tNil)) σ H (.int (if b then 1 else 0)) := fun Q q => ha _ (.inr ⟨b, rfl, q⟩)
theorem val_len {vs : List V} (ha : Val ta σ H (.ref a)) (h : SqL K H a vs) : Val (tCB (rLenS K) (tCons ta tNil)) σ H (.int vs.length) := fun Q q => ha _ ⟨a, vs, rfl, .inl h, q⟩
theorem ans_t {b : Bool} (ha : Val ta σ H (.bl b)) : Ans (tTest ta) σ H b := fun Q q => ha _ ⟨b, rfl, q⟩
theorem ans_eqI (ha : Val ta σ H (.int n)) (hb : Val tb σ H (.int k)) : Ans (tTest (tOp rEq ta tb)) σ H (decide (V.int n = V.int k)) := ans_eq ha hb rfl rfl
theorem Ok.bls (h : Ok W M H) : SqL W.K H W.bl (W.ns.map V.int) := let ⟨_, _, _, _, _, _, e, _⟩ := h.bag; SqL.of e
theorem ns_at (h0 : 0 ≤ i) (h1 : i < (W.ns.map V.int).length) : ∃ k : Int, atI (W.ns.map V.int) i = some (.int k) := by
  refine ⟨W.ns.getD i.toNat 0, ?_⟩
  rw [List.length_map] at h1
  have h := atI_getD (xs := W.ns) 0 h0 h1
  unfold atI at h ⊢
  rw [List.length_map]
  cases hx : ixN W.ns.length i with
  | none => rw [hx] at h; cases h
  | some j =>
    rw [hx] at h
    show (W.ns.map V.int)[j]? = _
    rw [List.getElem?_map, show W.ns[j]? = _ from h]; rfl
theorem Bs.set0 (h : Bs W σ 0) {k : Nat} {v : V} (n : 0 ≠ k := by decide) : Bs W (σ.set k (some v)) 0 := h.set n
theorem if01 (b : Bool) : 0 ≤ (if b = true then 1 else 0 : Int) ∧ -(2 ^ 64) < (if b = true then 1 else 0 : Int) ∧ (if b = true then 1 else 0 : Int) < 2 ^ 64 := by cases b <;> decide
/-- bag[j] -/
theorem bs_get (hb : Bs W σ 0) (h : BS W H i m s c) (hx : atI [V.ref W.bl, .int i, .int m, .int s, .int c] n = some v) : Val (tOp (rIxL W.K) (tVar 0) (tC (.int n))) σ H v := val_ix (val_var hb) val_c (SqL.of h.1) hx
/-- bag[j] = e -/
theorem bs_set (ok : Ok W M H) (hb : Bs W σ 0) (h : BS W H i m s c) (he : Val te σ H v) {j : Nat} (hj : ixN 5 n = some j) (hs : [V.ref W.bl, .int i, .int m, .int s, .int c].set j v = [V.ref W.bl, .int i', .int m', .int s', .int c']) (h0 : 0 ≤ i') (h1 : 0 ≤ m')
    (q : ∀ H', Ex W [] H H' → Ok W M H' → BS W H' i' m' s' c' → D.nx σ H') : tAsg te (gSub (tVar 0) (tC (.int n)) rSetL) D σ H := by
  refine he _ ⟨.ref W.b, hb, W.b, _, n, j, rfl, rfl, h.1, hj, ?_⟩
  rw [hs]
  have e : Ex W [] H (upd H W.b (.lst [V.ref W.bl, .int i', .int m', .int s', .int c'])) := by
    refine ⟨fun a o nb _ ha => by rw [upd_ne nb]; exact ha, fun a ha => ?_, fun z => ?_⟩
    · by_cases z : a = W.b
      · rw [z, upd_same]; exact fun z => nomatch z
      · rw [upd_ne z]; exact ha
    · obtain ⟨i0, m0, s0, c0, e1, e2, e3, _⟩ := z
      exact ⟨i', m', s', c', upd_same, e2, by rw [upd_ne e2]; exact e3, h0, h1⟩
  exact q _ e (ok.ex e) ⟨upd_same, h0, h1⟩
end
section
variable {σ : L2.St} {H : Hp} {D : Ends} {b : Bool} {tt : TT} {t1 : TS}
/-- an if without else, whose both ways go on with J -/
theorem if_cut {J : L2.St → Hp → Prop} (h : Ans tt σ H b) (hJ : ∀ σ' H', J σ' H' → D.nx σ' H') (h1 : (∀ σ' H', J σ' H' → D.nx σ' H') → b = true → t1 D σ H) (h2 : b = false → J σ H) : tIfS tt t1 tNext D σ H := h _ (by
  cases b with
  | true => rw [if_pos rfl]; exact h1 hJ rfl
  | false => rw [if_neg Bool.false_ne_true]; exact hJ σ H (h2 rfl))
end
section
variable (K : PySem.W.Frag) (C : Str → Addr)
abbrev sp_law_draw : Sp := B1 K C (fun n : Int => 1 ≤ n ∧ n < 10 ^ 30) fun n (v : Int) => 0 ≤ v ∧ v < n
/-- [list(script), 0, 0, 17, 0]: a new bag, all that was there is kept -/
def sp_law_bag (K : PySem.W.Frag) (_ : Str → Addr) : Sp := fun vs H Q _ => ∃ (a : Addr) (ns : List Int), vs = [.ref a] ∧ SqL K H a (ns.map V.int) ∧ ∀ b l H', H b = none → H l = none → l ≠ b → H' = upd (upd H l (.lst (ns.map V.int))) b (.lst [.ref l, .int 0, .int 0, .int 17, .int 0]) → Q (.ref b) H'
end
end RG
namespace RG
open PySem PySem.Spec PyProof.Rows L2 StX RZ
/-! ### the promises of a law's helpers -/
def spPick (α : Type) [Py α] (K : PySem.W.Frag) (C : Str → Addr) : Sp := B1 K C (fun xs : List α => 1 ≤ xs.length ∧ xs.length ≤ 1000) (fun xs x => x ∈ xs)
def spMixed (α : Type) [Py α] (K : PySem.W.Frag) (C : Str → Addr) : Sp := B1 K C (fun xs : List α => xs.length ≤ 1000) (fun (xs ys : List α) => ys.Perm xs)
theorem atI_mem {ω : Type} {xs : List ω} {n : Int} (h0 : 0 ≤ n) (h1 : n < xs.length) : ∃ x, atI xs n = some x ∧ x ∈ xs := by
  have hj : n.toNat < xs.length := by omega
  refine ⟨xs[n.toNat], ?_, List.getElem_mem hj⟩
  have := atI_getD (xs := xs) xs[n.toNat] h0 h1
  rw [this, List.getD_eq_getElem?_getD, List.getElem?_eq_getElem hj]; rfl
theorem perm_pop {ω : Type} {xs ys zs : List ω} {j : Nat} {y : ω} (h : (ys ++ zs).Perm xs) (hj : zs[j]? = some y) : ((ys ++ [y]) ++ zs.eraseIdx j).Perm xs := by
  refine List.Perm.trans ?_ h
  rw [List.append_assoc]
  refine List.Perm.append_left ys ?_
  have : zs.Perm (y :: zs.eraseIdx j) := by
    clear h
    induction zs generalizing j with
    | nil => simp at hj
    | cons a t ih =>
      cases j with
      | zero => simp at hj; subst hj; simp
      | succ j =>
        simp only [List.getElem?_cons_succ] at hj
        have h2 := ih hj
        rw [List.eraseIdx_cons_succ]
        exact (h2.cons a).trans (List.Perm.swap y a _)
  exact this.symm
end RG
namespace RG
open PySem PySem.Spec PyProof.Rows L2 StX RZ TL

/-! ### names, in plain Lean -/
theorem letters_tl : tl lettersS = (List.range 26).map (97 + ·) := by decide +kernel
theorem letter_at {n : Int} (h0 : 0 ≤ n) (h1 : n < 26) : atI lettersS.cps.toList n = some (97 + n.toNat) := by
  have e : lettersS.cps.toList = (List.range 26).map (97 + ·) := letters_tl
  rw [e]
  have hj : n.toNat < 26 := by omega
  have := atI_getD (xs := (List.range 26).map (97 + ·)) 0 h0 (by rw [List.length_map, List.length_range]; omega)
  rw [this, List.getD_eq_getElem?_getD, List.getElem?_map, List.getElem?_range hj]; rfl
/-- a letter's code -/
def isL (c : Nat) : Prop := 97 ≤ c ∧ c < 123
theorem isL_mem {c : Nat} (h : isL c) : c ∈ tl lettersS := by
  rw [letters_tl]
  exact List.mem_map.mpr ⟨c - 97, List.mem_range.mpr (by unfold isL at h; omega), by unfold isL at h; omega⟩
theorem mem_isL {c : Nat} (h : c ∈ tl lettersS) : isL c := by
  rw [letters_tl] at h
  obtain ⟨k, hk, rfl⟩ := List.mem_map.mp h
  rw [List.mem_range] at hk
  unfold isL
  omega
theorem isName_of {z : Str} (h1 : 1 ≤ (tl z).length) (h8 : (tl z).length ≤ 8) (h : ∀ c ∈ tl z, isL c) : isName z = true := by
  unfold isName
  rw [len_tl]
  simp only [Bool.and_eq_true, decide_eq_true_eq, List.all_map, List.all_eq_true, Function.comp, id]
  refine ⟨⟨by omega, by omega⟩, fun s hs => ?_⟩
  obtain ⟨c, rfl, hc⟩ := signs_one hs
  unfold inS
  exact decide_eq_true (isL_mem (h c hc))
theorem isName_is {z : Str} (h : isName z = true) : 1 ≤ (tl z).length ∧ (tl z).length ≤ 8 ∧ ∀ c ∈ tl z, isL c := by
  unfold isName at h
  rw [len_tl] at h
  simp only [Bool.and_eq_true, decide_eq_true_eq, List.all_map, List.all_eq_true, Function.comp, id] at h
  refine ⟨by omega, by omega, fun c hc => ?_⟩
  have := h.2 ⟨#[c]⟩ (by unfold signs; exact List.mem_map_of_mem hc)
  unfold inS at this
  exact mem_isL (of_decide_eq_true this)
theorem cut_len {z : Str} {lo hi : Option Int} : (cutS z lo hi).length ≤ z.length := by
  unfold cutS
  rw [len_tl, tl_mk, len_tl, List.length_take, List.length_drop]
  show min _ ((tl z).length - _) ≤ _
  omega
/-- the k-th name -/
def nm (stem : Str) (wh sh lg : Int) (k : Int) : Str := cutS stem none (some wh) ++ (⟨#[97 + ((sh + 7 * k) % 26).toNat]⟩ : Str) ++ cutS stem (some wh) none ++ (if k % 3 = lg then (⟨#[97 + sh.toNat]⟩ : Str) else Str.empty)
theorem tl_cutL {z : Str} {w : Int} (h0 : 0 ≤ w) (h1 : w ≤ (tl z).length) : tl (cutS z none (some w)) = (tl z).take w.toNat := by
  unfold cutS HT.sIx
  rw [tl_mk, len_tl]
  simp only [if_neg (show ¬ w < 0 by omega), List.drop_zero, Nat.sub_zero]
  rw [Nat.min_eq_left (by omega)]
theorem tl_cutR {z : Str} {w : Int} (h0 : 0 ≤ w) (h1 : w ≤ (tl z).length) : tl (cutS z (some w) none) = (tl z).drop w.toNat := by
  unfold cutS HT.sIx
  rw [tl_mk, len_tl]
  simp only [if_neg (show ¬ w < 0 by omega)]
  rw [Nat.min_eq_left (by omega), List.take_of_length_le (by rw [List.length_drop]; exact Nat.le_refl _)]
/-- what the draws of a law's names are -/
structure NmOk (stem : Str) (size wh sh lg : Int) : Prop where
  len : ((tl stem).length : Int) = size
  ls : ∀ c ∈ tl stem, isL c
  s6 : size ≤ 6
  w0 : 0 ≤ wh
  w1 : wh ≤ size
  s0 : 0 ≤ sh
  s1 : sh < 26
section
variable {stem : Str} {size wh sh lg k : Int}
theorem NmOk.tle (h : NmOk stem size wh sh lg) : TL.tl (nm stem wh sh lg k) = (TL.tl stem).take wh.toNat ++ [97 + ((sh + 7 * k) % 26).toNat] ++ (TL.tl stem).drop wh.toNat ++ (if k % 3 = lg then [97 + sh.toNat] else []) := by
  obtain ⟨h1, h2, h3, h4, h5, h6, h7⟩ := h
  unfold nm
  rw [tl_append, tl_append, tl_append, tl_cutL h4 (by omega), tl_cutR h4 (by omega)]
  split <;> rfl
theorem NmOk.tlen (h : NmOk stem size wh sh lg) : ((TL.tl (nm stem wh sh lg k)).length : Int) = size + 1 + (if k % 3 = lg then 1 else 0) := by
  have h1 := h.len
  have h2 := h.w1
  have h3 := h.w0
  rw [h.tle, List.length_append, List.length_append, List.length_append, List.length_take, List.length_drop, List.length_singleton]
  generalize (TL.tl stem).length = n at *
  split
  · rw [List.length_singleton]; omega
  · rw [List.length_nil]; omega
theorem NmOk.ls' (h : NmOk stem size wh sh lg) : ∀ c ∈ TL.tl (nm stem wh sh lg k), isL c := by
  intro c hc
  rw [h.tle] at hc
  have h6 := h.s0
  have h7 := h.s1
  simp only [List.mem_append, List.mem_singleton] at hc
  rcases hc with ((hc | hc) | hc) | hc
  · exact h.ls c (List.mem_of_mem_take hc)
  · unfold isL; omega
  · exact h.ls c (List.mem_of_mem_drop hc)
  · split at hc
    · have : c = 97 + sh.toNat := by simpa using hc
      unfold isL; omega
    · cases hc
theorem NmOk.name (h : NmOk stem size wh sh lg) : isName (nm stem wh sh lg k) = true := by
  have h1 := h.tlen (k := k)
  have h2 := h.s6
  have h3 := h.len
  refine isName_of ?_ ?_ h.ls'
  · split at h1 <;> omega
  · split at h1 <;> omega
theorem NmOk.ne (h : NmOk stem size wh sh lg) {i j : Nat} (hij : i < j) (hj : j < 26) : nm stem wh sh lg (i : Int) ≠ nm stem wh sh lg (j : Int) := by
  intro e
  have e := congrArg TL.tl e
  rw [h.tle, h.tle] at e
  have hl : ((TL.tl stem).take wh.toNat).length = wh.toNat := by
    rw [List.length_take]
    have h1 := h.len
    have h2 := h.w1
    have h3 := h.w0
    omega
  have at_ : ∀ (c : Nat) (r q : List Nat), ((TL.tl stem).take wh.toNat ++ [c] ++ r ++ q)[wh.toNat]? = some c := fun c r q => by
    rw [List.append_assoc, List.append_assoc, List.getElem?_append_right (by rw [hl]; exact Nat.le_refl _), hl, Nat.sub_self]; rfl
  have e2 := congrArg (fun l => l[wh.toNat]?) e
  simp only [at_, Option.some.injEq] at e2
  have h6 := h.s0
  omega
end
theorem nodup_set {ω : Type} : ∀ {L : List ω} {i : Nat} {x : ω}, L.Nodup → x ∉ L → (L.set i x).Nodup
  | [], _, _, _, _ => List.nodup_nil
  | a :: t, 0, x, h, hx => by
    rw [List.set_cons_zero]
    exact List.nodup_cons.mpr ⟨fun z => hx (List.mem_cons_of_mem _ z), (List.nodup_cons.mp h).2⟩
  | a :: t, i + 1, x, h, hx => by
    rw [List.set_cons_succ]
    refine List.nodup_cons.mpr ⟨fun z => ?_, nodup_set (List.nodup_cons.mp h).2 fun z => hx (List.mem_cons_of_mem _ z)⟩
    rcases List.mem_or_eq_of_mem_set z with z | z
    · exact (List.nodup_cons.mp h).1 z
    · exact hx (by rw [z]; exact List.mem_cons_self)
/-- the names of a law -/
def NamesOk (count : Int) (words L : List Str) : Prop := (L.length : Int) = count ∧ L.Nodup ∧ ∀ z ∈ L, isName z = true ∨ z ∈ words
def nms (stem : Str) (wh sh lg : Int) (n : Nat) : List Str := (List.range n).map fun k : Nat => nm stem wh sh lg (k : Int)
theorem nms_succ {stem : Str} {wh sh lg : Int} {n : Nat} : nms stem wh sh lg (n + 1) = nms stem wh sh lg n ++ [nm stem wh sh lg (n : Int)] := by
  unfold nms
  rw [List.range_succ, List.map_append]; rfl
theorem NmOk.all {stem : Str} {size wh sh lg : Int} (h : NmOk stem size wh sh lg) {n : Nat} (hn : n ≤ 26) (words : List Str) : NamesOk n words (nms stem wh sh lg n) := by
  refine ⟨by unfold nms; simp, ?_, fun z hz => .inl ?_⟩
  · unfold nms
    rw [List.Nodup, List.pairwise_map]
    exact List.Pairwise.imp_of_mem (fun {a b} ha hb hab => h.ne hab (by rw [List.mem_range] at hb; omega)) List.pairwise_lt_range
  · obtain ⟨k, _, rfl⟩ := List.mem_map.mp hz
    exact h.name
/-- the second name made of the first -/
theorem NmOk.second {stem : Str} {size wh sh lg : Int} (h : NmOk stem size wh sh lg) {n : Nat} (hn : n ≤ 26) (h4 : size < 4) (h3 : lg = 3) (words : List Str) {c : Nat} (hc : isL c) : NamesOk n words ((nms stem wh sh lg n).set 1 (nm stem wh sh lg 0 ++ (⟨#[c]⟩ : Str))) := by
  obtain ⟨q1, q2, q3⟩ := h.all hn words
  have hno : ∀ k : Int, ¬ k % 3 = lg := fun k => by omega
  have hl : ∀ k : Int, ((tl (nm stem wh sh lg k)).length : Int) = size + 1 := fun k => by rw [h.tlen, if_neg (hno k)]; omega
  have hx : tl (nm stem wh sh lg 0 ++ (⟨#[c]⟩ : Str)) = tl (nm stem wh sh lg 0) ++ [c] := by rw [tl_append]
  refine ⟨by rw [List.length_set]; exact q1, nodup_set q2 fun hm => ?_, fun z hz => ?_⟩
  · obtain ⟨k, _, e⟩ := List.mem_map.mp hm
    have e2 := congrArg (fun z => (tl z).length) e
    simp only [hx, List.length_append, List.length_singleton] at e2
    have h1 := hl k
    have h2 := hl 0
    omega
  · rcases List.mem_or_eq_of_mem_set hz with hz | hz
    · exact q3 z hz
    · refine .inl ?_
      rw [hz]
      have h1 := hl 0
      have h2 := h.len
      refine isName_of (by rw [hx]; simp) (by rw [hx, List.length_append, List.length_singleton]; omega) fun d hd => ?_
      rw [hx] at hd
      rcases List.mem_append.mp hd with hd | hd
      · exact h.ls' d hd
      · rw [List.mem_singleton.mp hd]; exact hc
theorem NamesOk.word {n : Int} {words L : List Str} (h : NamesOk n words L) {i : Nat} {x : Str} (hx : x ∈ words) (hn : x ∉ L) : NamesOk n words (L.set i x) := by
  refine ⟨by rw [List.length_set]; exact h.1, nodup_set h.2.1 hn, fun z hz => ?_⟩
  rcases List.mem_or_eq_of_mem_set hz with hz | hz
  · exact h.2.2 z hz
  · exact .inr (hz ▸ hx)
abbrev sp_law_names (K : PySem.W.Frag) (C : Str → Addr) : Sp := B2 K C (fun (count : Int) (words : List Str) => 1 ≤ count ∧ count ≤ 26 ∧ 1 ≤ words.length ∧ words.length ≤ 1000 ∧ ∀ z ∈ words, z.length ≤ 1000) NamesOk
/-- the joined signs -/
theorem stem_tl {parts : List Str} (h : ∀ p ∈ parts, ∃ c, p = ⟨#[c]⟩ ∧ isL c) : (tl (Txt.join "" parts)).length = parts.length ∧ ∀ c ∈ tl (Txt.join "" parts), isL c := by
  have e : ∀ l : List (List Nat), joinL (tl ("" : Str)) l = l.flatten := by
    intro l
    have e0 : tl ("" : Str) = [] := by decide +kernel
    rw [e0]
    induction l with
    | nil => rfl
    | cons p t ih =>
      cases t with
      | nil => show p = _; simp
      | cons q r => show p ++ ([] ++ joinL [] (q :: r)) = _; rw [ih]; simp
  rw [join_eq, tl_join, e]
  induction parts with
  | nil => simp
  | cons p t ih =>
    obtain ⟨c, rfl, hc⟩ := h p (by simp)
    obtain ⟨i1, i2⟩ := ih fun q hq => h q (List.mem_cons_of_mem _ hq)
    rw [List.map_cons, List.flatten_cons]
    refine ⟨by rw [List.length_append, i1, List.length_cons, Nat.add_comm]; rfl, fun d hd => ?_⟩
    rcases List.mem_append.mp hd with hd | hd
    · have : d = c := by simpa using hd
      rw [this]; exact hc
    · exact i2 d hd
end RG
namespace RG
open PySem PySem.Spec PyProof.Rows L2 StX RZ TL

/-! ### the plains of a law, in plain Lean -/
def prod (cs : List Col) : Int := (cs.map fun c => (c.2.length : Int)).foldl (· * ·) 1
structure ColOk (c : Col) : Prop where
  name : isName c.1 = true
  l1 : 1 ≤ c.2.length
  l12 : c.2.length ≤ 12
  nd : c.2.Nodup
  ws : ∀ z ∈ c.2, isWorth z = true ∧ z ≠ ("n0" : Str) ∧ z ≠ ("n0where" : Str)
structure Plain (cs : List Col) : Prop where
  l1 : 1 ≤ cs.length
  l3 : cs.length ≤ 3
  nd : (cs.map Prod.fst).Nodup
  col : ∀ c ∈ cs, ColOk c
theorem isWorth_len {z : Str} (h : isWorth z = true) : z.length ≤ 8 ∧ 1 ≤ z.length := by
  unfold isWorth at h
  simp only [Bool.and_eq_true, decide_eq_true_eq] at h
  omega
theorem isName_worth {z : Str} (h : isName z = true) : isWorth z = true := by
  unfold isName at h
  unfold isWorth
  simp only [Bool.and_eq_true, List.all_map, List.all_eq_true, Function.comp, id] at h ⊢
  exact ⟨h.1, fun s hs => by rw [h.2 s hs]; rfl⟩
theorem ColOk.fair {c : Col} (h : ColOk c) : c.1.length ≤ 1000 ∧ c.2.length ≤ 1000 ∧ ∀ z ∈ c.2, z.length ≤ 1000 :=
  ⟨by have := (isName_is h.name).2.1; rw [len_tl]; omega, by have := h.l12; omega, fun z hz => by have := isWorth_len (h.ws z hz).1; omega⟩
theorem Plain.fair {cs : List Col} (h : Plain cs) : Fair cs := ⟨by have := h.l3; omega, fun c hc => (h.col c hc).fair⟩
theorem Plain.few {cs : List Col} (h : Plain cs) : Few cs := ⟨h.l3, fun c hc => (h.col c hc).l12⟩
theorem fold_int : ∀ (l : List Nat) (a : Nat), ((l.foldl (· * ·) a : Nat) : Int) = (l.map fun n : Nat => (n : Int)).foldl (· * ·) (a : Int)
  | [], _ => rfl
  | x :: t, a => by rw [List.foldl_cons, List.map_cons, List.foldl_cons, fold_int t, Int.natCast_mul]
theorem kinds_prod (cs : List Col) : ((kinds cs).length : Int) = prod cs := by
  unfold kinds prod
  rw [kfold_len, List.length_singleton, Nat.one_mul, fold_int, List.map_map]; rfl
theorem areDiff_of {xs : List Str} (h : xs.Nodup) : areDiff xs = true := by
  unfold areDiff
  rw [List.all_map, List.all_eq_true]
  intro x hx
  show decide ((xs.count x : Int) = 1) = true
  have h1 := List.nodup_iff_count.mp h x
  have h2 := List.count_pos_iff.mpr hx
  exact decide_eq_true (by omega)
theorem areDiff_is {xs : List Str} (h : areDiff xs = true) : xs.Nodup := by
  unfold areDiff at h
  rw [List.all_map, List.all_eq_true] at h
  rw [List.nodup_iff_count]
  intro x
  by_cases hx : x ∈ xs
  · have := of_decide_eq_true (h x hx)
    omega
  · rw [List.count_eq_zero_of_not_mem hx]; omega
theorem ColOk.is {c : Col} (h : ColOk c) : isCol c = true := by
  unfold isCol
  have h1 := h.l1
  have h12 := h.l12
  rw [h.name, areDiff_of h.nd, decide_eq_true (show (1 : Int) ≤ c.2.length by omega), decide_eq_true (show (c.2.length : Int) ≤ 12 by omega)]
  simp only [Bool.and_true, Bool.true_and, List.all_map, List.all_eq_true]
  exact fun z hz => (h.ws z hz).1
theorem Plain.are {cs : List Col} (h : Plain cs) (hp : prod cs ≤ 12) : areCols cs = true := by
  unfold areCols
  have h1 := h.l1
  have h3 := h.l3
  rw [areDiff_of h.nd, kinds_prod, decide_eq_true hp, decide_eq_true (show (1 : Int) ≤ cs.length by omega), decide_eq_true (show (cs.length : Int) ≤ 3 by omega)]
  simp only [Bool.and_true, Bool.true_and, List.all_map, List.all_eq_true]
  exact fun c hc => (h.col c hc).is
/-! ### the read-back -/
theorem sign_ok {z : Str} (h : isWorth z = true) : ∀ c ∈ tl z, c ≠ 32 ∧ c ≠ 59 := by
  intro c hc
  unfold isWorth at h
  simp only [Bool.and_eq_true, List.all_map, List.all_eq_true, Function.comp, id] at h
  have := h.2 ⟨#[c]⟩ (by unfold signs; exact List.mem_map_of_mem hc)
  unfold inS at this
  rw [Bool.or_eq_true] at this
  have e1 : ∀ d ∈ lettersS.cps.toList, d ≠ 32 ∧ d ≠ 59 := by decide +kernel
  have e2 : ∀ d ∈ digitsS.cps.toList, d ≠ 32 ∧ d ≠ 59 := by decide +kernel
  rcases this with h | h
  · exact e1 c (of_decide_eq_true h)
  · exact e2 c (of_decide_eq_true h)
theorem ColOk.parts {c : Col} (h : ColOk c) : ∀ z ∈ c.1 :: c.2, isWorth z = true := fun z hz => by
  rcases List.mem_cons.mp hz with rfl | hz
  · exact isName_worth h.name
  · exact (h.ws z hz).1
theorem ColOk.split {c : Col} (h : ColOk c) : Txt.split (Txt.join " " (c.1 :: c.2)) " " = c.1 :: c.2 :=
  split_join (s := 32) (S := []) (by decide +kernel) (by decide +kernel) (by simp) fun p hp hm => (sign_ok (h.parts p hp) _ hm).1 rfl
theorem join_mem {y : Str} {ps : List Str} {c : Nat} (h : c ∈ tl (Txt.join y ps)) : c ∈ tl y ∨ ∃ p ∈ ps, c ∈ tl p := by
  rw [join_eq] at h
  induction ps with
  | nil => cases (show c ∈ ([] : List Nat) from h)
  | cons p t ih =>
    cases t with
    | nil => exact .inr ⟨p, by simp, h⟩
    | cons q r =>
      have e : tl (Str.join y (p :: q :: r)) = tl p ++ tl y ++ tl (Str.join y (q :: r)) := by
        show tl (p ++ y ++ Str.join y (q :: r)) = _
        rw [tl_append, tl_append]
      rw [e] at h
      simp only [List.mem_append] at h
      rcases h with (h | h) | h
      · exact .inr ⟨p, by simp, h⟩
      · exact .inl h
      · rcases ih h with h | ⟨z, hz, h⟩
        · exact .inl h
        · exact .inr ⟨z, List.mem_cons_of_mem _ hz, h⟩
theorem Plain.split {cs : List Col} (h : Plain cs) : Txt.split (menuText cs) "; " = cs.map fun c => Txt.join " " (c.1 :: c.2) := by
  unfold menuText
  refine split_join (s := 59) (S := [32]) (by decide +kernel) (by decide +kernel) (by have := h.l1; cases cs with
    | nil => simp at this
    | cons _ _ => simp) fun p hp hm => ?_
  obtain ⟨c, hc, rfl⟩ := List.mem_map.mp hp
  rcases join_mem hm with hm | ⟨z, hz, hm⟩
  · exact absurd hm (by decide +kernel)
  · exact (sign_ok ((h.col c hc).parts z hz) _ hm).2 rfl
theorem Plain.read {cs : List Col} (h : Plain cs) : textCols (menuText cs) = cs := by
  unfold textCols
  rw [h.split, List.map_map]
  refine (List.map_congr_left fun c hc => ?_).trans (List.map_id cs)
  show ((Txt.split (Txt.join " " (c.1 :: c.2)) " ").headD Str.empty, (Txt.split (Txt.join " " (c.1 :: c.2)) " ").drop 1) = c
  rw [(h.col c hc).split]; rfl
theorem ColOk.plen {c : Col} (h : ColOk c) : (Txt.join " " (c.1 :: c.2)).length ≤ 13013 := by
  have h1 := join_len (z := " ") (xs := c.1 :: c.2) (n := 1000) fun z hz => by have := isWorth_len (h.parts z hz); omega
  have h2 := h.l12
  have e : (" " : Str).length = 1 := by decide +kernel
  rw [e, List.length_cons] at h1
  omega
theorem Plain.tlen {cs : List Col} (h : Plain cs) : (menuText cs).length ≤ 100000 := by
  unfold menuText
  have h1 := join_len (z := "; ") (xs := cs.map fun c => Txt.join " " (c.1 :: c.2)) (n := 13013) fun z hz => by
    obtain ⟨c, hc, rfl⟩ := List.mem_map.mp hz
    exact (h.col c hc).plen
  have h2 := h.l3
  have e : ("; " : Str).length = 2 := by decide +kernel
  rw [e, List.length_map] at h1
  omega
/-! ### the promises -/
section
variable (K : PySem.W.Frag) (C : Str → Addr)
abbrev sp_law_product : Sp := F1 K C (fun cs : List Col => ∀ c ∈ cs, c.2.length ≤ 1000) prod
abbrev sp_law_menu : Sp := B1 K C (fun most : Int => 1 ≤ most) fun most (cs : List Col) => Plain cs ∧ prod cs ≤ most
abbrev sp_law_kinds : Sp := F1 K C (fun cs : List Col => Few cs) fun cs => (kinds cs).map TupK.mk
abbrev sp_law_menu_text : Sp := F1 K C (fun cs : List Col => Fair cs ∧ cs.length ≤ 3 ∧ ∀ c ∈ cs, c.2.length ≤ 12) menuText
abbrev sp_law_made_menu : Sp := F1 K C (fun cs : List Col => Plain cs ∧ prod cs ≤ 12) Menu.mk
end
end RG
namespace RG
open PySem PySem.Spec PyProof.Rows L2 StX RZ TL

def shapesL : List (List Int) := [[1], [2], [3], [5], [2, 2], [3, 2], [2, 3], [2, 2, 2], [1, 2], [2, 1, 2], [3, 2, 2], [12], [4, 3], [6, 2]]
theorem shapes_ok : ∀ s ∈ shapesL, 1 ≤ s.length ∧ s.length ≤ 3 ∧ ∀ n ∈ s, 1 ≤ n ∧ n ≤ 12 := by decide
/-- two of the words are numbers -/
def wordF (x : Int × Str) : Str := if x.1 % 5 = 4 then Str.ofString (toString x.1) else x.2
def WordsOk (L : List Str) : Prop := L.length = 12 ∧ L.Nodup ∧ ∀ z ∈ L, isWorth z = true ∧ z ≠ ("n0" : Str) ∧ z ≠ ("n0where" : Str)
theorem words_eq {L : List Str} (h : L.length = 12) : (enum L).map wordF = (L.set 4 "4").set 9 "9" := by
  match L, h with
  | [a0, a1, a2, a3, a4, a5, a6, a7, a8, a9, a10, a11], _ =>
    have e4 : Str.ofString (toString (4 : Int)) = ("4" : Str) := by decide +kernel
    have e9 : Str.ofString (toString (9 : Int)) = ("9" : Str) := by decide +kernel
    have q : enum [a0, a1, a2, a3, a4, a5, a6, a7, a8, a9, a10, a11] = [(0, a0), (1, a1), (2, a2), (3, a3), (4, a4), (5, a5), (6, a6), (7, a7), (8, a8), (9, a9), (10, a10), (11, a11)] := rfl
    rw [q]
    simp only [List.map_cons, List.map_nil, wordF]
    rw [if_pos (show (4 : Int) % 5 = 4 by decide), if_pos (show (9 : Int) % 5 = 4 by decide), e4, e9]
    rfl
theorem words_ok {L : List Str} (h : NamesOk 12 ["0", "all", "3a"] L) : WordsOk ((enum L).map wordF) := by
  obtain ⟨h1, h2, h3⟩ := h
  have hl : L.length = 12 := by omega
  rw [words_eq hl]
  have k4 : isName "4" = false := by decide +kernel
  have k9 : isName "9" = false := by decide +kernel
  have kn : isName "n0" = false := by decide +kernel
  have kw : isName "n0where" = false := by decide +kernel
  have n4 : ("4" : Str) ∉ L := fun hm => (h3 _ hm).elim (fun h => by rw [k4] at h; cases h) (fun h => absurd h (by decide +kernel))
  have n9 : ("9" : Str) ∉ L := fun hm => (h3 _ hm).elim (fun h => by rw [k9] at h; cases h) (fun h => absurd h (by decide +kernel))
  have ok : ∀ z ∈ L, isWorth z = true ∧ z ≠ ("n0" : Str) ∧ z ≠ ("n0where" : Str) := fun z hz => by
    rcases h3 z hz with h | h
    · exact ⟨isName_worth h, fun e => (by rw [e, kn] at h; cases h), fun e => (by rw [e, kw] at h; cases h)⟩
    · have : ∀ z ∈ (["0", "all", "3a"] : List Str), isWorth z = true ∧ z ≠ ("n0" : Str) ∧ z ≠ ("n0where" : Str) := by decide +kernel
      exact this z h
  refine ⟨by rw [List.length_set, List.length_set, hl], nodup_set (nodup_set h2 n4) fun hm => ?_, fun z hz => ?_⟩
  · rcases List.mem_or_eq_of_mem_set hm with hm | hm
    · exact n9 hm
    · exact absurd hm (by decide +kernel)
  · rcases List.mem_or_eq_of_mem_set hz with hz | hz
    · rcases List.mem_or_eq_of_mem_set hz with hz | hz
      · exact ok z hz
      · rw [hz]; decide +kernel
    · rw [hz]; decide +kernel
/-- a run of the words -/
def runOf (L : List Str) (b n : Int) : List Str := (rng n).map fun j => L.getD ((b + j) % 12).toNat Str.empty
theorem run_at {L : List Str} (hl : L.length = 12) (b j : Int) : atI L ((b + j) % 12) = some (L.getD ((b + j) % 12).toNat Str.empty) := atI_getD Str.empty (by omega) (by omega)
theorem run_len {L : List Str} {b n : Int} : (runOf L b n).length = n.toNat := by unfold runOf; rw [List.length_map, rng_len]
theorem run_mem {L : List Str} (hl : L.length = 12) {b n : Int} : ∀ z ∈ runOf L b n, z ∈ L := by
  intro z hz
  obtain ⟨j, _, rfl⟩ := List.mem_map.mp hz
  have h := run_at hl b j
  obtain ⟨x, hx, hm⟩ := atI_mem (xs := L) (n := (b + j) % 12) (by omega) (by omega)
  rw [h] at hx
  cases hx
  exact hm
theorem run_nd {L : List Str} (h : WordsOk L) {b n : Int} (hn : n ≤ 12) : (runOf L b n).Nodup := by
  obtain ⟨hl, hd, _⟩ := h
  unfold runOf rng
  rw [List.map_map, List.Nodup, List.pairwise_map]
  refine List.Pairwise.imp_of_mem (fun {i j} hi hj hij e => ?_) List.pairwise_lt_range
  rw [List.mem_range] at hj
  have h1 : ((b + (i : Int)) % 12).toNat < L.length := by omega
  have h2 : ((b + (j : Int)) % 12).toNat < L.length := by omega
  have e2 : L[((b + (i : Int)) % 12).toNat] = L[((b + (j : Int)) % 12).toNat] := by
    have e' : L.getD ((b + (i : Int)) % 12).toNat Str.empty = L.getD ((b + (j : Int)) % 12).toNat Str.empty := e
    rw [List.getD_eq_getElem?_getD, List.getD_eq_getElem?_getD, List.getElem?_eq_getElem h1, List.getElem?_eq_getElem h2] at e'
    exact e'
  have := (List.getElem_inj hd).mp e2
  omega
theorem run_col {L : List Str} (h : WordsOk L) {b n : Int} (h1 : 1 ≤ n) (hn : n ≤ 12) {nmz : Str} (hN : isName nmz = true) {ws : List Str} (hp : ws.Perm (runOf L b n)) : ColOk (nmz, ws) :=
  ⟨hN, by show 1 ≤ ws.length; rw [hp.length_eq, run_len]; omega, by show ws.length ≤ 12; rw [hp.length_eq, run_len]; omega, hp.nodup_iff.mpr (run_nd h hn), fun z hz => h.2.2 z (run_mem h.1 z (hp.mem_iff.mp hz))⟩
/-- each column a worth shorter -/
def short (c : Col) : Col := (c.1, c.2.take (if ((c.2.length : Int) - 1) > 1 then (c.2.length : Int) - 1 else 1).toNat)
theorem cutG_to {ω : Type} {xs : List ω} {k : Int} (h : 0 ≤ k) : cutG xs none (some k) = xs.take k.toNat := by
  unfold cutG HT.sIx
  simp only [if_neg (show ¬ k < 0 by omega), List.drop_zero, Nat.sub_zero]
  rw [← List.take_eq_take_min]
theorem short_len (c : Col) : (short c).2.length = min (if ((c.2.length : Int) - 1) > 1 then (c.2.length : Int) - 1 else 1).toNat c.2.length := by unfold short; rw [List.length_take]
theorem ColOk.short {c : Col} (h : ColOk c) : ColOk (short c) := by
  have h1 := h.l1
  have h12 := h.l12
  have e := short_len c
  refine ⟨h.name, ?_, ?_, List.Nodup.sublist (List.take_sublist _ _) h.nd, fun z hz => h.ws z (List.mem_of_mem_take hz)⟩
  · rw [e]; split <;> omega
  · rw [e]; split <;> omega
theorem Plain.short {cs : List Col} (h : Plain cs) : Plain (cs.map short) :=
  ⟨by rw [List.length_map]; exact h.l1, by rw [List.length_map]; exact h.l3, by rw [List.map_map]; exact h.nd, fun c hc => by obtain ⟨d, hd, rfl⟩ := List.mem_map.mp hc; exact (h.col d hd).short⟩
def msr (cs : List Col) : Nat := (cs.map fun c => c.2.length).sum
theorem prod_cons {c : Col} {cs : List Col} : prod (c :: cs) = c.2.length * prod cs := by
  have : ∀ (l : List Int) (a : Int), l.foldl (· * ·) a = a * l.foldl (· * ·) 1 := by
    intro l
    induction l with
    | nil => intro a; simp
    | cons x l ih => intro a; rw [List.foldl_cons, List.foldl_cons, ih (a * x), ih (1 * x), Int.mul_assoc, Int.one_mul]
  unfold prod
  rw [List.map_cons, List.foldl_cons, this, Int.one_mul]
theorem short_msr : ∀ {cs : List Col}, (∀ c ∈ cs, 1 ≤ c.2.length) → msr (cs.map short) ≤ msr cs ∧ (1 < prod cs → msr (cs.map short) < msr cs)
  | [], _ => ⟨Nat.le_refl _, fun h => absurd h (by decide)⟩
  | c :: cs, h => by
    have h1 := h c (by simp)
    have e := short_len c
    obtain ⟨i1, i2⟩ := short_msr (cs := cs) fun d hd => h d (List.mem_cons_of_mem _ hd)
    have e1 : msr ((c :: cs).map short) = (short c).2.length + msr (cs.map short) := rfl
    have e2 : msr (c :: cs) = c.2.length + msr cs := rfl
    have hs : (short c).2.length ≤ c.2.length := by rw [e]; omega
    refine ⟨by rw [e1, e2]; omega, fun hp => ?_⟩
    rw [e1, e2]
    by_cases hc : c.2.length = 1
    · rw [prod_cons, hc] at hp
      have := i2 (by simpa using hp)
      omega
    · have : (short c).2.length < c.2.length := by rw [e]; split <;> omega
      omega
end RG
namespace RG
open PySem PySem.Spec PyProof.Rows L2 StX RZ TL

/-! ### kinds -/
theorem kstep_nd {c : Col} (hc : c.2.Nodup) : ∀ {found : List (List Str)}, found.Nodup → (kstep found c).Nodup
  | [], _ => List.nodup_nil
  | k :: t, h => by
    have ih := kstep_nd hc (List.nodup_cons.mp h).2
    unfold kstep at ih ⊢
    rw [List.flatMap_cons, List.nodup_append]
    refine ⟨?_, ih, fun a ha b hb e => ?_⟩
    · rw [List.Nodup, List.pairwise_map]
      exact List.Pairwise.imp (fun {x y} hxy e => hxy (by have := (List.append_inj' e rfl).2; simpa using this)) hc
    · obtain ⟨z, _, rfl⟩ := List.mem_map.mp ha
      obtain ⟨k', hk', hb⟩ := List.mem_flatMap.mp hb
      obtain ⟨z', _, rfl⟩ := List.mem_map.mp hb
      have := (List.append_inj' e rfl).1
      exact (List.nodup_cons.mp h).1 (this ▸ hk')
theorem kinds_nd {cs : List Col} (h : ∀ c ∈ cs, c.2.Nodup) : (kinds cs).Nodup := by
  unfold kinds
  have : ∀ (cs : List Col) (f : List (List Str)), (∀ c ∈ cs, c.2.Nodup) → f.Nodup → (cs.foldl kstep f).Nodup := by
    intro cs
    induction cs with
    | nil => intro f _ hf; exact hf
    | cons c cs ih => intro f h hf; exact ih _ (fun d hd => h d (List.mem_cons_of_mem _ hd)) (kstep_nd (h c (by simp)) hf)
  exact this cs _ h (by simp)
theorem kind_worth {cs : List Col} {k : List Str} (h : k ∈ kinds cs) : ∀ z ∈ k, ∃ c ∈ cs, z ∈ c.2 := by
  have : ∀ (cs : List Col) (f : List (List Str)) (P : Str → Prop), (∀ k ∈ f, ∀ z ∈ k, P z) → (∀ c ∈ cs, ∀ z ∈ c.2, P z) → ∀ k ∈ cs.foldl kstep f, ∀ z ∈ k, P z := by
    intro cs
    induction cs with
    | nil => intro f P hf _; exact hf
    | cons c cs ih =>
      intro f P hf hc
      refine ih _ P (fun k hk z hz => ?_) fun d hd => hc d (List.mem_cons_of_mem _ hd)
      obtain ⟨k', hk', hk⟩ := List.mem_flatMap.mp hk
      obtain ⟨z', hz', rfl⟩ := List.mem_map.mp hk
      rcases List.mem_append.mp hz with hz | hz
      · exact hf k' hk' z hz
      · rw [List.mem_singleton.mp hz]; exact hc c (by simp) z' hz'
  exact this cs [[]] (fun z => ∃ c ∈ cs, z ∈ c.2) (fun k hk z hz => by simp at hk; subst hk; cases hz) (fun c hc z hz => ⟨c, hc, hz⟩) k h
/-! ### menus asked -/
theorem eqv_list {m : Menu} {k : TupK} : (((kindsT m).l.map PyD.dat).map fun z => PyData.eqv z (PyD.dat k)) = (kindsT m).l.map fun y => decide (y = k) := by
  rw [List.map_map]
  exact List.map_congr_left fun y _ => eqv_dat
theorem idx_true {ω : Type} [DecidableEq ω] {x : ω} : ∀ {L : List ω} {i : Nat}, L.Nodup → L[i]? = some x → (L.map fun y => decide (y = x)).idxOf true = i
  | [], i, _, h => by simp at h
  | a :: t, 0, _, h => by
    simp at h
    subst h
    simp
  | a :: t, i + 1, hn, h => by
    have hm : x ∈ t := List.mem_of_getElem? (by simpa using h)
    have hne : ¬ a = x := fun e => (List.nodup_cons.mp hn).1 (e ▸ hm)
    rw [List.map_cons, decide_eq_false hne, List.idxOf_cons]
    show (if (false == true) = true then 0 else (t.map fun y => decide (y = x)).idxOf true + 1) = _
    rw [if_neg (by decide), idx_true (List.nodup_cons.mp hn).2 (by simpa using h)]
theorem kindsT_nd {m : Menu} (h : ∀ c ∈ m.cols, c.2.Nodup) : (kindsT m).l.Nodup := by
  unfold kindsT
  rw [List.Nodup, List.pairwise_map]
  exact List.Pairwise.imp (fun {a b} hab e => hab (by cases e; rfl)) (kinds_nd h)
theorem place_all {m : Menu} (h : ∀ c ∈ m.cols, c.2.Nodup) : ((kindsT m).l.map fun k => placeOf m (PyD.dat k)) = rng ((kindsT m).l.length : Int) := by
  refine List.ext_getElem? fun i => ?_
  by_cases hi : i < (kindsT m).l.length
  · rw [List.getElem?_map, List.getElem?_eq_getElem hi, rng_at (by omega)]
    show some (placeOf m (PyD.dat (kindsT m).l[i])) = _
    unfold placeOf
    rw [eqv_list, idx_true (kindsT_nd h) (List.getElem?_eq_getElem hi)]
  · rw [List.getElem?_eq_none (by rw [List.length_map]; omega), List.getElem?_eq_none (by rw [rng_len]; omega)]
theorem holds_dat {m : Menu} {k : TupK} : holds m (PyD.dat k) = decide (k ∈ (kindsT m).l) := by
  unfold holds
  have e : isTupD (PyD.dat k) = true := rfl
  rw [e, Bool.true_and, List.any_map]
  have : ((kindsT m).l.any (id ∘ fun k_1 => PyData.eqv (PyD.dat k) (PyD.dat k_1))) = (kindsT m).l.any fun y => decide (k = y) := by
    congr 1
    funext y
    exact eqv_dat
  rw [this]
  rw [Bool.eq_iff_iff]
  simp
theorem holds_no {m : Menu} {d : PyData} (h : ∀ k ∈ (kindsT m).l, PyData.eqv d (PyD.dat k) = false) : holds m d = false := by
  unfold holds
  rw [List.any_map]
  have : (kindsT m).l.any (id ∘ fun k => PyData.eqv d (PyD.dat k)) = false := by
    rw [List.any_eq_false]
    intro k hk
    show ¬ PyData.eqv d (PyD.dat k) = true
    rw [h k hk]; exact Bool.false_ne_true
  rw [this, Bool.and_false]
theorem in_place {m : Menu} {k : TupK} (h : k ∈ (kindsT m).l) : holds m (PyD.dat k) = true ∧ true ∈ (((kindsT m).l.map PyD.dat).map fun z => PyData.eqv z (PyD.dat k)) := by
  refine ⟨by rw [holds_dat]; exact decide_eq_true h, ?_⟩
  rw [eqv_list]
  exact List.mem_map.mpr ⟨k, h, decide_eq_true rfl⟩
/-- what is no kind -/
def strangeL (k0 : TupK) (z0 : Str) (n : Nat) : List PyData :=
  [PyD.dat (Tup.mk (k0.l.drop 1)), PyD.dat (Tup.mk (k0.l ++ [("x" : Str)])), PyD.dat k0.l, .none, .int 3, .str z0, PyD.dat (Tup.mk (List.replicate n ("n0" : Str))), .tuple [.int 1], .tuple [.list []]]
theorem strange_no {cs : List Col} (h : Plain cs) {k0 : TupK} (hk0 : k0 ∈ (kindsT ⟨cs⟩).l) (z0 : Str) : ∀ d ∈ strangeL k0 z0 cs.length, d.depth ≤ 64 ∧ holds ⟨cs⟩ d = false := by
  have hlen : ∀ k ∈ (kindsT ⟨cs⟩).l, k.l.length = cs.length := fun k hk => by
    obtain ⟨y, hy, rfl⟩ := List.mem_map.mp hk
    exact kind_len hy
  have h1 := h.l1
  have h0 := hlen k0 hk0
  have dd : ∀ {δ : Type} [DecidableEq δ] [PyD δ] (x : δ), PyD.dep δ ≤ 64 → (PyD.dat x).depth ≤ 64 := fun x hx => Nat.le_trans (PyD.depth x) hx
  have other : ∀ t : TupK, t ∉ (kindsT ⟨cs⟩).l → holds ⟨cs⟩ (PyD.dat (Tup.mk t.l)) = false := fun t ht => (show holds ⟨cs⟩ (PyD.dat (Tup.mk t.l)) = holds ⟨cs⟩ (PyD.dat t) from rfl).trans (by rw [holds_dat]; exact decide_eq_false ht)
  intro d hd
  unfold strangeL at hd
  simp only [List.mem_cons, List.not_mem_nil, or_false] at hd
  rcases hd with rfl | rfl | rfl | rfl | rfl | rfl | rfl | rfl | rfl
  · refine ⟨dd (δ := Tup Str) _ (by decide), other ⟨k0.l.drop 1⟩ fun hm => ?_⟩
    have := hlen _ hm
    simp only [List.length_drop] at this
    omega
  · refine ⟨dd (δ := Tup Str) _ (by decide), other ⟨k0.l ++ [("x" : Str)]⟩ fun hm => ?_⟩
    have := hlen _ hm
    simp only [List.length_append, List.length_singleton] at this
    omega
  · exact ⟨dd _ (by decide), rfl⟩
  · exact ⟨by decide, rfl⟩
  · exact ⟨by decide, rfl⟩
  · exact ⟨by simp [PyData.depth], rfl⟩
  · refine ⟨dd (δ := Tup Str) _ (by decide), other ⟨List.replicate cs.length ("n0" : Str)⟩ fun hm => ?_⟩
    obtain ⟨y, hy, e⟩ := List.mem_map.mp hm
    have e' : y = List.replicate cs.length ("n0" : Str) := by injection e
    have hin : ("n0" : Str) ∈ y := by rw [e', List.mem_replicate]; exact ⟨by omega, rfl⟩
    obtain ⟨c, hc, hz⟩ := kind_worth hy _ hin
    exact ((h.col c hc).ws _ hz).2.1 rfl
  · refine ⟨by decide, holds_no fun k _ => ?_⟩
    show PyData.eqv (.tuple [.int 1]) (.tuple (k.l.map PyD.dat)) = false
    cases k.l with
    | nil => rfl
    | cons s t => simp [PyData.eqv, PyData.eqvAll, PyD.dat]
  · refine ⟨by decide, holds_no fun k _ => ?_⟩
    show PyData.eqv (.tuple [.list []]) (.tuple (k.l.map PyD.dat)) = false
    cases k.l with
    | nil => rfl
    | cons s t => simp [PyData.eqv, PyData.eqvAll, PyD.dat]
theorem kinds_ne {cs : List Col} (h : Plain cs) : (kinds cs) ≠ [] := by
  intro e
  have h1 := kinds_prod cs
  rw [e] at h1
  have : ∀ cs : List Col, (∀ c ∈ cs, 1 ≤ c.2.length) → 1 ≤ prod cs := by
    intro cs
    induction cs with
    | nil => intro _; decide
    | cons c cs ih =>
      intro h
      rw [prod_cons]
      have a := h c (by simp)
      have b := ih fun d hd => h d (List.mem_cons_of_mem _ hd)
      have : (1 : Int) * 1 ≤ c.2.length * prod cs := Int.mul_le_mul (by omega) b (by decide) (by omega)
      omega
  have := this cs fun c hc => (h.col c hc).l1
  rw [← h1] at this
  exact absurd this (by decide)
abbrev sp_law_menu_right (K : PySem.W.Frag) (C : Str → Addr) : Sp := B2 K C (fun (m : Menu) (cs : List Col) => Plain cs ∧ prod cs ≤ 12 ∧ m.cols = cs) fun _ _ (b : Bool) => b = true
section
variable {α : Type} [Py α] {W : Wd} {M : List Addr} {σ : L2.St} {H H' : Hp} {tl : TE} {D : Ends} {g : TG} {ts : TS} {v : V}
/-- a loop over a list that is one of several -/
theorem for_r {P : List α → Prop} (ok : Ok W M H) (h : EvR W M tl σ H P) (q : ∀ xs v H', P xs → Ex W [] H H' → Ok W M H' → Rep W M H' v xs → tFor (iList W.K (fun _ H Q => Q v H)) g ts D σ H') : tFor (iList W.K tl) g ts D σ H :=
  h H Ex.refl ok _ fun v xs H' px e r => q xs v H' px e (ok.ex e) r
theorem ev_inM {ta tb : TE} {m : Menu} {d : PyData} (ha : Ev W M ta σ H d) (hb : Ev W M tb σ H m) (h1 : (kinds m.cols).length ≤ 1000) (h2 : d.depth ≤ 64) : Ev W M (tOp (rInOwn (W.C "Menu") (sp_Menu_contains W.K W.C) false) ta tb) σ H (holds m d) :=
  (ev_own (f := holds) (neg := false) ha hb ⟨h1, h2⟩).is (if_neg Bool.false_ne_true)
theorem ev_val {x : α} (r : Rep W M H v x) : Ev W M (fun _ H Q => Q v H) σ H x := fun H1 e ok Q q => q v H1 Ex.refl (r.up e)
end
end RG
namespace RG
open PySem PySem.Spec PyProof.Rows L2 StX RZ TL

/-! ### plains that are near -/
structure NearOk (cs cs' : List Col) : Prop where
  len : cs'.length = cs.length
  col : ∀ c ∈ cs', ColOk c
  pr : prod cs' = prod cs
theorem map_set_same {ω δ : Type} {f : ω → δ} {c c' : ω} : ∀ {cs : List ω} {i : Nat}, cs[i]? = some c → f c' = f c → (cs.set i c').map f = cs.map f
  | [], _, _, _ => rfl
  | a :: t, 0, h, e => by simp at h; subst h; rw [List.set_cons_zero, List.map_cons, List.map_cons, e]
  | a :: t, i + 1, h, e => by rw [List.set_cons_succ, List.map_cons, List.map_cons, map_set_same (by simpa using h) e]
theorem prod_set {cs : List Col} {i : Nat} {c c' : Col} (h : cs[i]? = some c) (e : c'.2.length = c.2.length) : prod (cs.set i c') = prod cs := by
  unfold prod
  rw [map_set_same h (by rw [e])]
theorem prod_perm {cs cs' : List Col} (h : cs.Perm cs') : prod cs = prod cs' := by
  induction h with
  | nil => rfl
  | cons c _ ih => rw [prod_cons, prod_cons, ih]
  | swap a b t => rw [prod_cons, prod_cons, prod_cons, prod_cons, ← Int.mul_assoc, ← Int.mul_assoc, Int.mul_comm (b.2.length : Int)]
  | trans _ _ i1 i2 => rw [i1, i2]
theorem NearOk.set {cs cs' : List Col} (h : NearOk cs cs') {i : Nat} {c c' : Col} (hc : cs'[i]? = some c) (ok : ColOk c') (e : c'.2.length = c.2.length) : NearOk cs (cs'.set i c') :=
  ⟨by rw [List.length_set]; exact h.len, fun d hd => (List.mem_or_eq_of_mem_set hd).elim (h.col d) fun e => e ▸ ok, by rw [prod_set hc e]; exact h.pr⟩
theorem NearOk.rev {cs cs' : List Col} (h : NearOk cs cs') : NearOk cs cs'.reverse :=
  ⟨by rw [List.length_reverse]; exact h.len, fun d hd => h.col d (List.mem_reverse.mp hd), by rw [← h.pr]; exact prod_perm (List.reverse_perm cs')⟩
theorem Plain.near {cs : List Col} (h : Plain cs) : NearOk cs cs := ⟨rfl, h.col, rfl⟩
theorem NearOk.plain {cs cs' : List Col} (h : NearOk cs cs') (hp : Plain cs) (hn : (cs'.map Prod.fst).Nodup) : Plain cs' := ⟨by rw [h.len]; exact hp.l1, by rw [h.len]; exact hp.l3, hn, h.col⟩
theorem ColOk.rev {c : Col} (h : ColOk c) : ColOk (c.1, c.2.reverse) :=
  ⟨h.name, by show 1 ≤ c.2.reverse.length; rw [List.length_reverse]; exact h.l1, by show c.2.reverse.length ≤ 12; rw [List.length_reverse]; exact h.l12, (List.reverse_perm c.2).nodup_iff.mpr h.nd, fun z hz => h.ws z (List.mem_reverse.mp hz)⟩
theorem ColOk.other {c : Col} (h : ColOk c) : ColOk (cutS c.1 none (some 7) ++ "q", c.2) := by
  have hn := isName_is h.name
  have e : tl (cutS c.1 none (some 7) ++ ("q" : Str)) = (tl c.1).take 7 ++ [113] := by
    rw [tl_append]
    have : tl (cutS c.1 none (some 7)) = (tl c.1).take 7 := by
      unfold cutS HT.sIx
      rw [tl_mk, len_tl]
      simp only [if_neg (show ¬ (7 : Int) < 0 by decide), List.drop_zero, Nat.sub_zero]
      rw [← List.take_eq_take_min]; rfl
    rw [this]; rfl
  refine ⟨isName_of (by rw [e]; simp) (by rw [e, List.length_append, List.length_take, List.length_singleton]; omega) fun d hd => ?_, h.l1, h.l12, h.nd, h.ws⟩
  rw [e] at hd
  rcases List.mem_append.mp hd with hd | hd
  · exact hn.2.2 d (List.mem_of_mem_take hd)
  · rw [List.mem_singleton.mp hd]; unfold isL; omega
abbrev sp_law_near (K : PySem.W.Frag) (C : Str → Addr) : Sp := B1 K C (fun cs : List Col => Plain cs) NearOk
end RG
namespace RG
open PySem PySem.Spec PyProof.Rows L2 StX RZ TL

/-! ### data without lists -/
class Fz (α : Type) [Py α] where
  fz : ∀ {W : Wd} {G G' : Hp} {v : V} {x : α}, (∀ a o, G a = some o → (∀ xs, o ≠ .lst xs) → G' a = some o) → Py.rep W G v x → Py.rep W G' v x
instance : Fz Str := ⟨fun _ h => h⟩
instance : Fz Int := ⟨fun _ h => h⟩
instance : Fz TupK := ⟨fun q ⟨a, e, h⟩ => ⟨a, e, q _ _ h fun xs z => nomatch z⟩⟩
theorem fz_rd {G G' : Hp} (q : ∀ a o, G a = some o → (∀ xs, o ≠ .lst xs) → G' a = some o) {a : Addr} {vs : List V} (h : Rd G a (.tup vs)) : Rd G' a (.tup vs) :=
  h.elim (fun h => .inl (q _ _ h fun xs z => nomatch z)) fun ⟨o, h⟩ => .inr ⟨o, q _ _ h fun xs z => nomatch z⟩
instance {α : Type} [Py α] [Fz α] : Fz (Tup α) := ⟨fun q ⟨a, vs, e, h, p⟩ => ⟨a, vs, e, fz_rd q h, paired_mono (fun _ _ r => Fz.fz q r) p⟩⟩
instance {α β : Type} [Py α] [Py β] [Fz α] [Fz β] : Fz (α × β) := ⟨fun q ⟨a, v1, v2, e, h, r1, r2⟩ => ⟨a, v1, v2, e, fz_rd q h, Fz.fz q r1, Fz.fz q r2⟩⟩
instance {α : Type} [Py α] [Fz α] : Fz (TupF α) := ⟨fun q ⟨a, o, vs, e, h, h1, h2, p⟩ => ⟨a, o, vs, e, q _ _ h (fun xs z => nomatch z), h1, h2, paired_mono (fun _ _ r => Fz.fz q r) p⟩⟩
instance : Fz Menu := ⟨fun q ⟨a, dx, v1, o, p, vs, e, h1, h2, h3, h4, h5, h6⟩ => ⟨a, dx, v1, o, p, vs, e, q _ _ h1 (fun xs z => nomatch z), Fz.fz q h2, q _ _ h3 (fun xs z => nomatch z), h4, h5, paired_mono (fun _ _ r => Fz.fz q r) h6⟩⟩
section
variable {α β : Type} [Py α] [Py β] {W : Wd} {M N : List Addr} {σ : L2.St} {H H' : Hp} {ta tb te : TE} {v : V} {L : Addr} {E : XK} {D : Ends} {g : TG}
theorem Rep.fz [Fz α] {x : α} (h : Rep W [] H v x) (hN : ∀ a ∈ N, ∃ xs, H a = some (.lst xs)) : Rep W N H v x :=
  Fz.fz (fun a o ha hne => by
    obtain ⟨h1, _, h3⟩ := cut_some.mp ha
    refine cut_some.mpr ⟨h1, fun hm => ?_, h3⟩
    obtain ⟨xs, hx⟩ := hN a hm
    rw [h3] at hx
    cases hx
    exact hne xs rfl) h
theorem own_fz {zs : List OCol} (h : Rep W [] H (.ref L) zs) (hL : L ∉ N) (hz : ∀ z ∈ zs, z.a ∉ N) (hN : ∀ a ∈ N, ∃ xs, H a = some (.lst xs)) : Rep W N H (.ref L) zs := by
  obtain ⟨us, hh, nb, nm, pp, no⟩ := own_out h
  refine rep_lst hh nb hL ?_
  have : ∀ {us : List V} {zs : List OCol}, Paired (Rep W [L] H) us zs → (∀ z ∈ zs, z.a ∉ N) → Paired (Rep W N H) us zs := by
    intro us zs hp
    induction hp with
    | nil => intro _; exact .nil
    | @cons u z us zs r _ ih =>
      intro hz
      refine .cons ?_ (ih fun z h => hz z (List.mem_cons_of_mem _ h))
      obtain ⟨T, rfl, t1, t2, t3, h3, h4, h5⟩ := r.ocol
      refine rep_ocol t1 t2 (fun hm => ?_) h3 h4 (hz z (by simp))
      obtain ⟨xs, hx⟩ := hN T hm
      rcases t1 with t1 | ⟨o, t1⟩
      · rw [t1] at hx; cases hx
      · rw [t1] at hx; cases hx
  exact this pp hz
theorem evr_lst2 {P R : α → Prop} (ha : EvR W M ta σ H P) (hb : EvR W M tb σ H R) : EvR W M (tLst (tCons ta (tCons tb tNil))) σ H (fun l => ∃ x y, l = [x, y] ∧ P x ∧ R y) := fun H1 e ok Q q =>
  ha H1 e ok _ fun v x H2 px e2 r => hb H2 (e.trans e2) (ok.ex e2) _ fun u y H3 py e3 r3 =>
    ⟨by show 2 ≤ sizeLine; decide, fun p hp => q _ [x, y] _ ⟨x, y, rfl, px, py⟩ ((e2.trans e3).trans (Ex.new hp)) (rep_lst upd_same (((ok.ex e2).ex e3).new_b hp) (((ok.ex e2).ex e3).new_M hp) (.cons ((r.up e3).up (Ex.new hp)) (.cons (r3.up (Ex.new hp)) .nil)))⟩
/-- xs = [a, b], the new list's address told -/
theorem s_lst2 {x y : α} {k : Nat} (ok : Ok W M H) (ha : Ev W M ta σ H x) (hb : Ev W M tb σ H y) (q : ∀ v u p H', Ex W [] H H' → Ok W M H' → Rep W M H' v x → Rep W M H' u y → H' p = none → D.nx (σ.set k (some (.ref p))) (upd H' p (.lst [v, u]))) : tAsg (tLst (tCons ta (tCons tb tNil))) (gName k) D σ H :=
  ha H Ex.refl ok _ fun v H2 e2 r => hb H2 e2 (ok.ex e2) _ fun u H3 e3 r3 => ⟨by show 2 ≤ sizeLine; decide, fun p hp => q v u p H3 (e2.trans e3) ((ok.ex e2).ex e3) (r.up e3) r3 hp⟩
theorem Rep.colsLQ {cs : List Col} (r : Rep W M H v (cs.map toT)) : Rep W M H v (Sq.mk (cs.map toQ)) := by
  have h : Rep W M H v ((cs.map toT).map fun c : ColT => ((c.1, ⟨c.2.l⟩) : ColQ)) := r.lmap (f := fun c : ColT => ((c.1, ⟨c.2.l⟩) : ColQ)) fun _ _ r => r.pmap fun _ r => r.toSqT
  rw [List.map_map] at h
  exact h.toSq
/-- Menu(columns) -/
theorem ev_menu {cs : List Col} (h : Ev W M ta σ H (Sq.mk (cs.map toQ))) (hP : Plain cs) (hp : prod cs ≤ 12) : Ev W M (tMake (W.C "Menu") (sp_Menu_init W.K W.C) [] E (tCons ta tNil)) σ H (Menu.mk cs) :=
  (ev_make (x := Sq.mk (cs.map toQ)) (f := fun cs : Sq ColQ => Menu.mk (cs.l.map unQ)) h ⟨by show Fair ((cs.map toQ).map unQ); rw [unQ_map]; exact hP.fair, by show areCols ((cs.map toQ).map unQ) = true; rw [unQ_map]; exact hP.are hp⟩).is (by show Menu.mk ((cs.map toQ).map unQ) = _; rw [unQ_map])
/-- Menu.read(text) -/
theorem ev_read {cs : List Col} (h : Ev W M ta σ H (menuText cs)) (hP : Plain cs) (hp : prod cs ≤ 12) : Ev W M (ClX.tCMeth (W.C "Menu") (sp_Menu_read W.K W.C) E (tC (.ref (W.C "Menu"))) (tCons ta tNil)) σ H (Menu.mk cs) := fun H1 e ok Q q =>
  ⟨rfl, h H1 e ok _ fun v H2 e2 r => by
    cases (show v = .str _ from r)
    refine ⟨W, M, menuText cs, rfl, rfl, rfl, ok.ex e2, hP.tlen, fun p hp' => ?_, by rw [hP.read]; exact hP.fair, by rw [hP.read]; exact hP.are hp, fun r H3 e3 rr => q r H3 (e2.trans e3) (by rw [hP.read] at rr; exact rr)⟩
    rw [hP.split] at hp'
    obtain ⟨c, hc, rfl⟩ := List.mem_map.mp hp'
    refine ⟨Nat.le_trans (hP.col c hc).plen (by decide), ?_⟩
    rw [(hP.col c hc).split]
    exact fun z => nomatch z⟩
theorem colsT_eq {a b : List Col} : decide (colsT ⟨a⟩ = colsT ⟨b⟩) = decide (a = b) := by
  by_cases h : a = b
  · subst h; simp
  · rw [decide_eq_false h]
    refine decide_eq_false fun e => h ?_
    unfold colsT at e
    have e2 : a.map toT = b.map toT := by injection e
    have : ∀ {a b : List Col}, a.map toT = b.map toT → a = b := by
      intro a
      induction a with
      | nil => intro b h; cases b with
        | nil => rfl
        | cons _ _ => simp at h
      | cons x t ih =>
        intro b h
        cases b with
        | nil => simp at h
        | cons y s =>
          rw [List.map_cons, List.map_cons] at h
          injection h with h1 h2
          rw [ih h2]
          obtain ⟨x1, x2⟩ := x
          obtain ⟨y1, y2⟩ := y
          unfold toT at h1
          injection h1 with h3 h4
          injection h4 with h5
          rw [show x1 = y1 from h3, show x2 = y2 from h5]
    exact this e2
end
abbrev sp_lawE (K : PySem.W.Frag) : Sp := fun vs H Q _ => ∃ (a : Addr) (ns : List Int), vs = [.ref a] ∧ SqL K H a (ns.map V.int) ∧ ns.length ≤ 63 ∧ ∀ H', Q (.bl true) H'
abbrev sp_law (K : PySem.W.Frag) (_ : Str → Addr) : Sp := sp_lawE K
end RG
namespace RG
open PySem PySem.Spec PyProof.Rows L2 StX RZ TL
instance {α : Type} [Py α] [Fyz α] : Fyz (TupF α) := ⟨fun q ⟨a, o, vs, e, h, h1, h2, p⟩ => ⟨a, o, vs, e, q _ _ h fy_frz, h1, h2, paired_mono (fun _ _ r => Fyz.fy q r) p⟩⟩
instance : Fyz Menu := ⟨fun q ⟨a, dx, v1, o, p, vs, e, h1, h2, h3, h4, h5, h6⟩ => ⟨a, dx, v1, o, p, vs, e, q _ _ h1 fy_ins, Fyz.fy q h2, q _ _ h3 fy_frz, h4, h5, paired_mono (fun _ _ r => Fyz.fy q r) h6⟩⟩
/-! ### tables, in plain Lean -/
def num (cs : List Col) (ns : List Int) (k : List Str) : Int := (((kinds cs).zip ns).lookup k).getD 0
def posK (cs : List Col) (ns : List Int) : List (List Str) := (kinds cs).filter fun k => decide (num cs ns k > 0)
def there (cs : List Col) (ns : List Int) : List TupK := (posK cs ns).map TupK.mk
def strI (n : Int) : Str := Str.ofString (toString n)
def partS (n : Int) (k : List Str) : Str := Txt.join " " (strI n :: k)
def tabParts (cs : List Col) (ns : List Int) : List Str := (posK cs ns).map fun k => partS (num cs ns k) k
def tabText (cs : List Col) (ns : List Int) : Str := if (tabParts cs ns).length > 0 then Txt.join ", " (tabParts cs ns) else "nothing"
structure Table where
  cols : List Col
  ns : List Int
  deriving DecidableEq
structure OkT (cs : List Col) (ns : List Int) : Prop where
  pl : Plain cs
  p12 : prod cs ≤ 12
  len : ns.length = (kinds cs).length
  nn : ∀ n ∈ ns, 0 ≤ n
instance : Py Table where
  rep W H v t := ∃ a dx vm vc vt, v = .ref a ∧ H a = some (.ins (W.C "Table") dx [("own_menu", vm), ("own_counts", vc), ("own_there", vt)]) ∧ Py.rep W H vm (Menu.mk t.cols) ∧ Py.rep W H vc (Tup.mk t.ns) ∧ Py.rep W H vt (Tup.mk (there t.cols t.ns))
  mono l h := by
    obtain ⟨a, dx, vm, vc, vt, e, h1, h2, h3, h4⟩ := h
    exact ⟨a, dx, vm, vc, vt, e, l.ex _ _ h1, Py.mono l h2, Py.mono l h3, Py.mono l h4⟩
instance : PyO Table where
  cn := "Table"
  fns := ["own_menu", "own_counts", "own_there"]
  ins h := by
    obtain ⟨a, dx, vm, vc, vt, e, h1, _⟩ := h
    exact ⟨a, dx, _, e, h1, rfl⟩
instance : Fyz Table := ⟨fun q ⟨a, dx, vm, vc, vt, e, h1, h2, h3, h4⟩ => ⟨a, dx, vm, vc, vt, e, q _ _ h1 fy_ins, Fyz.fy q h2, Fyz.fy q h3, Fyz.fy q h4⟩⟩
section
variable {cs : List Col} {ns : List Int} {k : List Str}
theorem OkT.k12 (h : OkT cs ns) : (kinds cs).length ≤ 12 := by have := kinds_prod cs; have := h.p12; omega
theorem OkT.nd (h : OkT cs ns) : (kinds cs).Nodup := kinds_nd fun c hc => (h.pl.col c hc).nd
theorem OkT.n12 (h : OkT cs ns) : ns.length ≤ 12 := by have := h.k12; have := h.len; omega
theorem lookup_zip {ω : Type} [BEq ω] [LawfulBEq ω] : ∀ {l : List ω} {ns : List Int}, l.Nodup → ns.length = l.length → l.map (fun k => ((l.zip ns).lookup k).getD 0) = ns
  | [], [], _, _ => rfl
  | [], _ :: _, _, h => by cases h
  | _ :: _, [], _, h => by cases h
  | a :: l, n :: ns, hn, hl => by
    obtain ⟨h1, h2⟩ := List.nodup_cons.mp hn
    rw [List.map_cons]
    congr 1
    · rw [List.zip_cons_cons, List.lookup_cons, beq_self_eq_true]; rfl
    · have ih := lookup_zip h2 (by simpa using hl : ns.length = l.length)
      refine Eq.trans (List.map_congr_left fun k hk => ?_) ih
      have hb : (k == a) = false := beq_eq_false_iff_ne.mpr fun e => h1 (e ▸ hk)
      rw [List.zip_cons_cons, List.lookup_cons, hb]
theorem OkT.map_num (h : OkT cs ns) : (kinds cs).map (num cs ns) = ns := lookup_zip h.nd h.len
theorem OkT.num_nn (h : OkT cs ns) (hk : k ∈ kinds cs) : 0 ≤ num cs ns k := h.nn _ (by have : num cs ns k ∈ (kinds cs).map (num cs ns) := List.mem_map_of_mem hk; rwa [h.map_num] at this)
theorem OkT.num_mem (h : OkT cs ns) (hk : k ∈ kinds cs) : num cs ns k ∈ ns := by
  have : num cs ns k ∈ (kinds cs).map (num cs ns) := List.mem_map_of_mem hk
  rwa [h.map_num] at this
theorem OkT.of (h : OkT cs ns) {ms : List Int} (hl : ms.length = ns.length) (hn : ∀ n ∈ ms, 0 ≤ n) : OkT cs ms := ⟨h.pl, h.p12, hl.trans h.len, hn⟩
/-- a dict of numbers of kinds -/
structure OkD (m : Menu) (x : Di) : Prop where
  pl : Plain m.cols
  p12 : prod m.cols ≤ 12
  nd : (x.kvs.map (·.1)).Nodup
  mem : ∀ p ∈ x.kvs, p.1 ∈ kinds m.cols ∧ 0 ≤ p.2
  len : x.kvs.length ≤ 1000
def tabOf (m : Menu) (x : Di) : Table := ⟨m.cols, (kinds m.cols).map fun k => (x.kvs.lookup k).getD 0⟩
theorem lookup_mem {ω : Type} [BEq ω] [LawfulBEq ω] [DecidableEq ω] {k : ω} {n : Int} : ∀ {l : List (ω × Int)}, l.lookup k = some n → (k, n) ∈ l
  | [], h => by cases h
  | (a, m) :: t, h => by
    rw [List.lookup_cons] at h
    by_cases e : k = a
    · subst e
      rw [beq_self_eq_true] at h
      cases h
      exact List.mem_cons_self
    · rw [beq_eq_false_iff_ne.mpr e] at h
      exact List.mem_cons_of_mem _ (lookup_mem h)
theorem mem_lookup {ω : Type} [BEq ω] [LawfulBEq ω] {k : ω} {n : Int} : ∀ {l : List (ω × Int)}, (l.map (·.1)).Nodup → (k, n) ∈ l → l.lookup k = some n
  | [], _, h => by cases h
  | (a, m) :: t, hn, h => by
    obtain ⟨h1, h2⟩ := List.nodup_cons.mp (by simpa using hn : (a :: t.map (·.1)).Nodup)
    rw [List.lookup_cons]
    rcases List.mem_cons.mp h with e | h
    · cases e
      rw [beq_self_eq_true]
    · have hb : (k == a) = false := beq_eq_false_iff_ne.mpr fun e => h1 (e ▸ List.mem_map_of_mem (f := (·.1)) h)
      rw [hb]
      exact mem_lookup h2 h
theorem OkD.okT {m : Menu} {x : Di} (h : OkD m x) : OkT (tabOf m x).cols (tabOf m x).ns := ⟨h.pl, h.p12, by unfold tabOf; rw [List.length_map], fun n hn => by
  obtain ⟨k, hk, rfl⟩ := List.mem_map.mp hn
  cases e : x.kvs.lookup k with
  | none => exact Int.le_refl _
  | some j => exact (h.mem _ (lookup_mem e)).2⟩
theorem num_tab {m : Menu} {x : Di} (h : OkD m x) (hk : k ∈ kinds m.cols) : num m.cols (tabOf m x).ns k = (x.kvs.lookup k).getD 0 := by
  have hn : (kinds m.cols).Nodup := kinds_nd fun c hc => (h.pl.col c hc).nd
  have hz := h.okT.map_num
  have : ∀ l : List (List Str), l.map (num m.cols (tabOf m x).ns) = l.map (fun k => (x.kvs.lookup k).getD 0) → k ∈ l → num m.cols (tabOf m x).ns k = (x.kvs.lookup k).getD 0 := by
    intro l
    induction l with
    | nil => intro _ h; cases h
    | cons a l ih =>
      intro h hm
      rw [List.map_cons, List.map_cons] at h
      injection h with h1 h2
      rcases List.mem_cons.mp hm with rfl | hm
      · exact h1
      · exact ih h2 hm
  exact this _ hz hk
theorem OkT.okD (h : OkT cs ns) : OkD ⟨cs⟩ ⟨(kinds cs).zip ns⟩ := ⟨h.pl, h.p12, by
  show (((kinds cs).zip ns).map (·.1)).Nodup
  rw [List.map_fst_zip (by rw [h.len]; exact Nat.le_refl _)]; exact h.nd, fun p hp => ⟨(List.of_mem_zip hp).1, h.nn _ (List.of_mem_zip hp).2⟩, by
  show ((kinds cs).zip ns).length ≤ 1000
  rw [List.length_zip]; have := h.k12; omega⟩
theorem OkT.tab (h : OkT cs ns) : tabOf ⟨cs⟩ ⟨(kinds cs).zip ns⟩ = ⟨cs, ns⟩ := by
  show Table.mk cs _ = _
  rw [lookup_zip h.nd h.len]
theorem kinds_l (cs : List Col) : (kindsT ⟨cs⟩).l.map TupK.l = kinds cs := by
  show ((kinds cs).map TupK.mk).map TupK.l = _
  rw [List.map_map]; exact List.map_id _
/-! ### texts -/
theorem worth_free {z : Str} (h : isWorth z = true) : ∀ c ∈ tl z, c ≠ 32 ∧ c ≠ 44 := by
  intro c hc
  unfold isWorth at h
  simp only [Bool.and_eq_true, List.all_map, List.all_eq_true, Function.comp, id] at h
  have := h.2 ⟨#[c]⟩ (by unfold signs; exact List.mem_map_of_mem hc)
  unfold inS at this
  rw [Bool.or_eq_true] at this
  have e1 : ∀ d ∈ lettersS.cps.toList, d ≠ 32 ∧ d ≠ 44 := by decide +kernel
  have e2 : ∀ d ∈ digitsS.cps.toList, d ≠ 32 ∧ d ≠ 44 := by decide +kernel
  exact this.elim (fun h => e1 c (of_decide_eq_true h)) fun h => e2 c (of_decide_eq_true h)
theorem strI_num {n : Int} (h : 0 ≤ n) : strI n = numS n.toNat := by
  unfold strI numS
  rw [Int.toNat_of_nonneg h]
theorem tl_strI {n : Int} (h : 0 ≤ n) : tl (strI n) = numL n.toNat := by rw [strI_num h]; exact tl_num _
theorem Plain.kind (h : Plain cs) (hk : k ∈ kinds cs) : ∀ z ∈ k, isWorth z = true := fun z hz => by
  obtain ⟨c, hc, hm⟩ := kind_worth hk z hz
  exact ((h.col c hc).ws z hm).1
theorem part_free (h : Plain cs) (hk : k ∈ kinds cs) {n : Int} (hn : 0 ≤ n) : ∀ z ∈ strI n :: k, 32 ∉ tl z ∧ 44 ∉ tl z := fun z hz => by
  rcases List.mem_cons.mp hz with rfl | hz
  · rw [tl_strI hn]; exact ⟨numL_free (.inl (by decide)), numL_free (.inl (by decide))⟩
  · exact ⟨fun hm => (worth_free (h.kind hk z hz) _ hm).1 rfl, fun hm => (worth_free (h.kind hk z hz) _ hm).2 rfl⟩
theorem part_split (h : Plain cs) (hk : k ∈ kinds cs) {n : Int} (hn : 0 ≤ n) : Txt.split (partS n k) " " = strI n :: k :=
  split_join (s := 32) (S := []) (by decide +kernel) (by decide +kernel) (by simp) fun p hp => (part_free h hk hn p hp).1
theorem part_comma (h : Plain cs) (hk : k ∈ kinds cs) {n : Int} (hn : 0 ≤ n) : 44 ∉ tl (partS n k) := fun hm => by
  rcases join_mem hm with hm | ⟨z, hz, hm⟩
  · exact absurd hm (by decide +kernel)
  · exact (part_free h hk hn z hz).2 hm
theorem OkT.pos_mem (h : OkT cs ns) (hk : k ∈ posK cs ns) : k ∈ kinds cs ∧ 0 < num cs ns k := by
  unfold posK at hk
  rw [List.mem_filter] at hk
  exact ⟨hk.1, of_decide_eq_true hk.2⟩
theorem OkT.split (h : OkT cs ns) (hp : tabParts cs ns ≠ []) : Txt.split (Txt.join ", " (tabParts cs ns)) ", " = tabParts cs ns :=
  split_join (s := 44) (S := [32]) (by decide +kernel) (by decide +kernel) hp fun p hp => by
    obtain ⟨k, hk, rfl⟩ := List.mem_map.mp hp
    obtain ⟨h1, h2⟩ := h.pos_mem hk
    exact part_comma h.pl h1 (Int.le_of_lt h2)
theorem numL_ne0 {n : Nat} (h : 1 ≤ n) : ∃ c t, numL n = c :: t ∧ c ≠ 48 := by
  induction n using Nat.strongRecOn with
  | _ n ih =>
    by_cases c : n < 10
    · exact ⟨48 + n, [], numL_lt c, by omega⟩
    · obtain ⟨d, t, e, hd⟩ := ih (n / 10) (by omega) (by omega)
      exact ⟨d, t ++ [48 + n % 10], by rw [numL_step (by omega), e]; rfl, hd⟩
theorem strI_len {n : Int} (h0 : 0 ≤ n) (h1 : n < 10 ^ 40) : (strI n).length ≤ 40 := by
  rw [strI_num h0]
  unfold numS
  rw [len_tl, tl_num]
  exact numL_len (by decide) (by omega)
theorem join_ne {y : Str} {ps : List Str} (h : ∃ p t c u, ps = p :: t ∧ tl p = c :: u ∧ c ≠ 110) : Txt.join y ps ≠ "nothing" := by
  obtain ⟨p, t, c, u, rfl, hp, hc⟩ := h
  intro e
  have e1 := congrArg tl e
  rw [join_eq] at e1
  have e2 : ∃ w, tl (Str.join y (p :: t)) = c :: w := by
    cases t with
    | nil => exact ⟨u, hp⟩
    | cons q r =>
      refine ⟨u ++ tl y ++ tl (Str.join y (q :: r)), ?_⟩
      show tl (p ++ y ++ Str.join y (q :: r)) = _
      rw [tl_append, tl_append, hp]; rfl
  obtain ⟨w, hw⟩ := e2
  rw [hw] at e1
  have e3 : tl ("nothing" : Str) = [110, 111, 116, 104, 105, 110, 103] := by decide +kernel
  rw [e3] at e1
  injection e1 with e1 _
  exact hc e1
theorem OkT.text_not (h : OkT cs ns) (hp : tabParts cs ns ≠ []) : Txt.join ", " (tabParts cs ns) ≠ "nothing" := by
  refine join_ne ?_
  cases hq : posK cs ns with
  | nil => unfold tabParts at hp; rw [hq] at hp; exact absurd rfl hp
  | cons k t =>
    obtain ⟨h1, h2⟩ := h.pos_mem (k := k) (by rw [hq]; exact List.mem_cons_self)
    obtain ⟨c, u, e, _⟩ := numL_ne0 (n := (num cs ns k).toNat) (by omega)
    have hd := numL_digits (num cs ns k).toNat c (by rw [e]; exact List.mem_cons_self)
    have hs : ∃ u', tl (partS (num cs ns k) k) = c :: u' := by
      unfold partS
      rw [join_eq]
      cases hk : k with
      | nil => exact ⟨u, by show tl (strI _) = _; rw [← hk, tl_strI (Int.le_of_lt h2), e]⟩
      | cons z zs =>
        refine ⟨u ++ tl " " ++ tl (Str.join " " (z :: zs)), ?_⟩
        show tl (strI _ ++ " " ++ Str.join " " (z :: zs)) = _
        rw [tl_append, tl_append, ← hk, tl_strI (Int.le_of_lt h2), e]; rfl
    obtain ⟨u', hu⟩ := hs
    exact ⟨_, _, c, u', by unfold tabParts; rw [hq]; rfl, hu, by omega⟩
theorem part_len (h : Plain cs) (hk : k ∈ kinds cs) {n : Int} (h0 : 0 ≤ n) (h1 : n < 10 ^ 40) : (partS n k).length ≤ 200 := by
  have h2 := join_len (z := " ") (xs := strI n :: k) (n := 40) fun z hz => by
    rcases List.mem_cons.mp hz with rfl | hz
    · exact strI_len h0 h1
    · have := (isWorth_len (h.kind hk z hz)).1; omega
  have h3 := h.l3
  have h4 := kind_len hk
  have e : (" " : Str).length = 1 := by decide +kernel
  rw [e, List.length_cons, h4] at h2
  unfold partS
  omega
theorem OkT.parts_len (h : OkT cs ns) : (tabParts cs ns).length ≤ 12 := by
  unfold tabParts posK
  rw [List.length_map]
  exact Nat.le_trans (List.length_filter_le _ _) h.k12
theorem OkT.text_len (h : OkT cs ns) (hb : ∀ n ∈ ns, n < 10 ^ 40) : (tabText cs ns).length ≤ 10000 := by
  unfold tabText
  by_cases c : (tabParts cs ns).length > 0
  · rw [if_pos c]
    have h2 := join_len (z := ", ") (xs := tabParts cs ns) (n := 200) fun z hz => by
      obtain ⟨k, hk, rfl⟩ := List.mem_map.mp hz
      obtain ⟨h1, h3⟩ := h.pos_mem hk
      exact part_len h.pl h1 (Int.le_of_lt h3) (hb _ (h.num_mem h1))
    have e : (", " : Str).length = 2 := by decide +kernel
    rw [e] at h2
    have := h.parts_len
    omega
  · rw [if_neg c]; exact show ("nothing" : Str).length ≤ 10000 by decide +kernel
end
/-! ### a table's fields -/
section
variable {α β γ : Type} [Py α] [Py β] [Py γ] {W : Wd} {M M' N : List Addr} {σ σ' : L2.St} {H H1 H2 H' : Hp} {te ta tb tc tl : TE} {t : Table}
theorem tb_menu (ha : Ev W M ta σ H t) (c : Cls W.K (W.C "Table")) (n : NoAttr W.K (W.C "Table") "own_menu") : Ev W M (tFld W.K ta "own_menu") σ H (Menu.mk t.cols) :=
  ev_fld ha c n fun {v H2} r {a dx fs} e hh => by
    obtain ⟨a', dx', vm, vc, vt, e', h1, h2, h3, h4⟩ := r
    subst e; cases e'
    rw [cut_at h1] at hh; cases hh
    exact ⟨vm, by rw [List.lookup_cons, beq_self_eq_true], h2⟩
theorem tb_counts (ha : Ev W M ta σ H t) (c : Cls W.K (W.C "Table")) (n : NoAttr W.K (W.C "Table") "own_counts") : Ev W M (tFld W.K ta "own_counts") σ H (Tup.mk t.ns) :=
  ev_fld ha c n fun {v H2} r {a dx fs} e hh => by
    obtain ⟨a', dx', vm, vc, vt, e', h1, h2, h3, h4⟩ := r
    subst e; cases e'
    rw [cut_at h1] at hh; cases hh
    exact ⟨vc, by rw [List.lookup_cons, show (("own_counts" : Str) == "own_menu") = false by decide +kernel]; dsimp only; rw [List.lookup_cons, beq_self_eq_true], h3⟩
theorem tb_there (ha : Ev W M ta σ H t) (c : Cls W.K (W.C "Table")) (n : NoAttr W.K (W.C "Table") "own_there") : Ev W M (tFld W.K ta "own_there") σ H (Tup.mk (there t.cols t.ns)) :=
  ev_fld ha c n fun {v H2} r {a dx fs} e hh => by
    obtain ⟨a', dx', vm, vc, vt, e', h1, h2, h3, h4⟩ := r
    subst e; cases e'
    rw [cut_at h1] at hh; cases hh
    exact ⟨vt, by rw [List.lookup_cons, show (("own_there" : Str) == "own_menu") = false by decide +kernel]; dsimp only; rw [List.lookup_cons, show (("own_there" : Str) == "own_counts") = false by decide +kernel]; rfl, h4⟩
end
/-! ### a new list -/
section
variable {α β : Type} [Py α] [Py β] {W : Wd} {M M' N : List Addr} {σ σ' : L2.St} {H H1 H2 H' : Hp} {te ta tb tc tl : TE} {E : XK} {D : Ends} {k : Nat}
def EvN (W : Wd) (M : List Addr) (te : TE) (σ : L2.St) (H : Hp) (xs : List α) : Prop :=
  ∀ H1, Ex W [] H H1 → Ok W M H1 → ∀ Q : VK, (∀ p H2, H1 p = none → Ex W [] H1 H2 → Rep W M H2 (.ref p) xs → Q (.ref p) H2) → te σ H1 Q
theorem EvN.ev {xs : List α} (h : EvN W M te σ H xs) : Ev W M te σ H xs := fun H1 e ok Q q => h H1 e ok Q fun p H2 _ e2 r => q _ H2 e2 r
def F1n (K : PySem.W.Frag) (C : Str → Addr) (pre : α → Prop) (f : α → List β) : Sp := fun vs H Q _ => ∃ (W : Wd) (M : List Addr) (v : V) (x : α), W.K = K ∧ W.C = C ∧ vs = [v] ∧ Ok W M H ∧ Rep W M H v x ∧ pre x ∧ ∀ p H', H p = none → Ex W [] H H' → Rep W M H' (.ref p) (f x) → Q (.ref p) H'
theorem evn_listT {xs : Tup α} (ha : Ev W M ta σ H xs) : EvN W M (tCB (rListOf W.K) (tCons ta tNil)) σ H xs.l := fun H1 e ok Q q =>
  ha H1 e ok _ fun v H2 e2 r => by
    obtain ⟨a, vs, ev, hh, _, _, pp⟩ := r.tup
    exact ⟨a, vs, by rw [ev], .inr (.inl hh), fun l hl => q _ _ (e2.free hl) (e2.trans (Ex.new hl)) (rep_lst upd_same ((ok.ex e2).new_b hl) ((ok.ex e2).new_M hl) (Pd.mono pp fun _ _ r => r.up (Ex.new hl)))⟩
theorem evn_m0 {ω : Type} [PyO ω] {o : ω} {pre : ω → Prop} {f : ω → List β} {m : Str} (ha : Ev W M ta σ H o) (hp : pre o) (hm : (PyO.fns ω).contains m = false) : EvN W M (tMeth (W.C (PyO.cn ω)) m (F1n W.K W.C pre f) [] E ta tNil) σ H (f o) := fun H1 e ok Q q =>
  ha H1 e ok _ fun v H2 e2 r => by
    obtain ⟨a, dx, fs, ev, hh, hf⟩ := r.ins
    exact ⟨a, dx, fs, ev, hh, lookup_none (by rw [hf]; exact hm), W, M, _, o, rfl, rfl, rfl, ok.ex e2, r, hp, fun p H3 hn e3 rr => q p H3 (e2.free hn) (e2.trans e3) rr⟩
theorem s_retN {xs : List α} (ok : Ok W M H) (h : EvN W M te σ H xs) (q : ∀ p H', H p = none → Ex W [] H H' → Rep W M H' (.ref p) xs → D.rt (.ref p) H') : tRet te D σ H :=
  h H Ex.refl ok _ fun p H' hn e r => q p H' hn e r
/-- xs = a new list of scalars, which will be filled -/
theorem s_accN {δ : Type} [DecidableEq δ] [PyS δ] {xs : List δ} (ok : Ok W M H) (h : EvN W M te σ H xs) (hk : k < σ.length)
    (q : ∀ p H', H p = none → Ex W [] H H' → Le (cut W M H) (cut W (p :: M) H') → Ok W (p :: M) H' → Acc W (p :: M) (σ.set k (some (.ref p))) H' k p xs → D.nx (σ.set k (some (.ref p))) H') : tAsg te (gName k) D σ H :=
  h H Ex.refl ok _ fun p H' hn e r => by
    obtain ⟨a, vs, ea, hh, nb, nm, pp⟩ := r.lst
    cases ea
    have nbl := ok.new_bl hn
    have ok' := ok.ex e
    refine q p H' hn e ⟨fun b o hb => ?_⟩ ⟨ok'.bag, fun b hb => ?_⟩ ⟨by rw [List.getElem?_set_self hk], nb, nbl, List.mem_cons_self, vs, hh, ?_⟩
    · obtain ⟨h1, h2, h3⟩ := cut_some.mp hb
      refine cut_some.mpr ⟨h1, fun hm => ?_, e.keep _ _ h1 (by simp) h3⟩
      rcases List.mem_cons.mp hm with rfl | hm
      · rw [hn] at h3; cases h3
      · exact h2 hm
    · rcases List.mem_cons.mp hb with rfl | hb
      · rw [hh]; exact fun z => nomatch z
      · exact ok'.laid b hb
    · rw [paired_toV pp]; exact toV_paired
end
/-! ### the promises -/
def keyT (t : Table) : Int × Tup Int := (t.ns.sum, ⟨t.ns.map fun n => -n⟩)
def addL (xs ys : List Int) : List Int := (xs.zip ys).map fun p => p.1 + p.2
def subL (xs ys : List Int) : List Int := (xs.zip ys).map fun p => p.1 - p.2
def leL (xs ys : List Int) : Bool := ((xs.zip ys).map fun p => decide (p.1 ≤ p.2)).all id
section
variable (K : PySem.W.Frag) (C : Str → Addr)
abbrev sp_is_whole : Sp := F1 K C (fun _ : Int => True) fun _ => true
abbrev sp_is_number : Sp := F1 K C (fun _ : Int => True) fun n : Int => decide (n ≥ 0)
abbrev sp_is_numbers : Sp := F2 K C OkD fun _ _ => true
abbrev sp_Table_init : Sp := I2 K C "Table" OkD tabOf
def sp_Table_counted : Sp := fun vs H Q _ => ∃ (W : Wd) (M : List Addr) (v u : V) (m : Menu) (ns : Sq Int), W.K = K ∧ W.C = C ∧ vs = [.ref (C "Table"), v, u] ∧ Ok W M H ∧ Rep W M H v m ∧ Rep W M H u ns ∧ OkT m.cols ns.l ∧ ∀ r H', Ex W [] H H' → Rep W M H' r (Table.mk m.cols ns.l) → Q r H'
def sp_Table_read : Sp := fun vs H Q _ => ∃ (W : Wd) (M : List Addr) (v : V) (m : Menu) (ns : List Int), W.K = K ∧ W.C = C ∧ vs = [.ref (C "Table"), v, .str (tabText m.cols ns)] ∧ Ok W M H ∧ Rep W M H v m ∧ OkT m.cols ns ∧ (∀ n ∈ ns, n < 10 ^ 30) ∧ ∀ r H', Ex W [] H H' → Rep W M H' r (Table.mk m.cols ns) → Q r H'
abbrev sp_Table_menu : Sp := F1 K C (fun _ : Table => True) fun t => Menu.mk t.cols
abbrev sp_Table_rows : Sp := F1 K C (fun _ : Table => True) fun t => t.ns.sum
abbrev sp_Table_iter (n : Nat) : Sp := IterP K C (fun t : Table => Tup.mk (there t.cols t.ns)) n
abbrev sp_Table_getitem : Sp := F2 K C (fun (t : Table) (k : TupK) => OkT t.cols t.ns ∧ k.l ∈ kinds t.cols) fun t k => num t.cols t.ns k.l
abbrev sp_Table_counts : Sp := F1n K C (fun _ : Table => True) fun t => t.ns
abbrev sp_Table_key : Sp := F1 K C (fun t : Table => OkT t.cols t.ns) keyT
abbrev sp_Table_check_menu : Sp := F2 K C (fun t u : Table => t.cols = u.cols) fun _ _ => ()
abbrev sp_Table_add : Sp := F2 K C (fun t u : Table => OkT t.cols t.ns ∧ OkT u.cols u.ns ∧ t.cols = u.cols) fun t u => Table.mk t.cols (addL t.ns u.ns)
abbrev sp_Table_sub : Sp := F2 K C (fun t u : Table => OkT t.cols t.ns ∧ OkT u.cols u.ns ∧ t.cols = u.cols ∧ leL u.ns t.ns = true) fun t u => Table.mk t.cols (subL t.ns u.ns)
abbrev sp_Table_within : Sp := F2 K C (fun t u : Table => OkT t.cols t.ns ∧ t.cols = u.cols) fun t u => leL t.ns u.ns
abbrev sp_Table_same : Sp := F2 K C (fun t u : Table => t.cols = u.cols) fun t u => decide (t.ns = u.ns)
abbrev sp_Table_ahead : Sp := F2 K C (fun t u : Table => OkT t.cols t.ns ∧ OkT u.cols u.ns ∧ t.cols = u.cols) fun t u => ltK (keyT t) (keyT u)
abbrev sp_Table_text : Sp := F1 K C (fun t : Table => OkT t.cols t.ns ∧ ∀ n ∈ t.ns, n < 10 ^ 40) fun t => tabText t.cols t.ns
def sp_number_in : Sp := fun vs H Q _ => ∃ (W : Wd) (M : List Addr) (n : Int), W.K = K ∧ W.C = C ∧ vs = [.str (strI n)] ∧ Ok W M H ∧ 1 ≤ n ∧ n < 10 ^ 30 ∧ ∀ H', Ex W [] H H' → Q (.int n) H'
def sp_counts_in : Sp := fun vs H Q _ => ∃ (W : Wd) (M : List Addr) (v : V) (m : Menu) (ns : List Int), W.K = K ∧ W.C = C ∧ vs = [v, .str (tabText m.cols ns)] ∧ Ok W M H ∧ Rep W M H v m ∧ OkT m.cols ns ∧ (∀ n ∈ ns, n < 10 ^ 30) ∧ ∀ r H', Ex W [] H H' → Rep W M H' r ns → Q r H'
end
end RG
namespace RG
open PySem PySem.Spec PyProof.Rows L2 StX RZ TL
section
variable {α β γ : Type} [Py α] [Py β] [Py γ] {W : Wd} {M M' N : List Addr} {σ σ' : L2.St} {H H1 H2 H' : Hp} {te ta tb tc tl : TE} {tr : TA} {cs : List Col} {ns ms : List Int} {E : XK}
theorem there_eq {m : Menu} {x : Di} (h : OkD m x) : Tup.mk (there m.cols (tabOf m x).ns) = Tup.mk (((kindsT m).l.filter fun key : TupK => decide ((x.kvs.lookup key.l).getD 0 > 0)).map fun key => key) := by
  congr 1
  rw [List.map_id']
  unfold there posK kindsT
  rw [List.filter_map]
  congr 1
  refine List.filter_congr fun k hk => ?_
  rw [num_tab h hk]; rfl
theorem putF3 {a b c : V} : putF "own_there" c (putF "own_counts" b (putF "own_menu" a [])) = [(("own_menu" : Str), a), (("own_counts" : Str), b), (("own_there" : Str), c)] := by
  have h1 : ¬ ("own_menu" : Str) = "own_counts" := by decide +kernel
  have h2 : ¬ ("own_menu" : Str) = "own_there" := by decide +kernel
  have h3 : ¬ ("own_counts" : Str) = "own_there" := by decide +kernel
  simp [putF, h1, h2, h3]
theorem place_num {key : TupK} (h : OkT cs ns) (hk : key.l ∈ kinds cs) : atI (Tup.mk ns).l (placeOf ⟨cs⟩ (PyD.dat key)) = some (num cs ns key.l) := by
  obtain ⟨i, hi⟩ := List.mem_iff_getElem?.mp hk
  have hk2 : (kindsT ⟨cs⟩).l[i]? = some key := by
    unfold kindsT
    rw [List.getElem?_map, hi]; rfl
  have hnd : (kindsT ⟨cs⟩).l.Nodup := kindsT_nd fun c hc => (h.pl.col c hc).nd
  have hp : placeOf ⟨cs⟩ (PyD.dat key) = (i : Int) := by
    unfold placeOf
    rw [eqv_list, idx_true hnd hk2]
  rw [hp]
  refine atI_nat ?_
  show ns[i]? = _
  have := h.map_num
  rw [← this, List.getElem?_map, hi, this]; rfl
theorem ev_counted {xs : Sq Int} (ha : Ev W M ta σ H (Menu.mk cs)) (hb : Ev W M tb σ H xs) (hT : OkT cs xs.l) : Ev W M (ClX.tCMeth (W.C "Table") (sp_Table_counted W.K W.C) E (tC (.ref (W.C "Table"))) (tCons ta (tCons tb tNil))) σ H (Table.mk cs xs.l) := fun H1 e ok Q q =>
  ⟨rfl, ha H1 e ok _ fun v H2 e2 r => hb H2 (e.trans e2) (ok.ex e2) _ fun u H3 e3 r3 => ⟨W, M, v, u, ⟨cs⟩, xs, rfl, rfl, rfl, (ok.ex e2).ex e3, r.up e3, r3, hT, fun r H4 e4 rr => q r H4 ((e2.trans e3).trans e4) rr⟩⟩
/-- a list is not None -/
theorem ev_isNone {xs : List α} (ha : Ev W M ta σ H xs) : Ev W M (tOp (fun x y H Q => y = V.non ∧ Q (V.bl (decide (x = V.non))) H) ta (tC .non)) σ H false := fun H1 e ok Q q =>
  ha H1 e ok _ fun v H2 e2 r => by
    obtain ⟨a, vs, rfl, _⟩ := r.lst
    exact ⟨rfl, by rw [decide_eq_false (fun z => nomatch z)]; exact q _ H2 e2 rep_bl⟩
/-- number_in(word) -/
theorem ev_numIn {n : Int} (ha : Ev W M ta σ H (strI n)) (h1 : 1 ≤ n) (h2 : n < 10 ^ 30) : Ev W M (tCall (sp_number_in W.K W.C) [] E (tCons ta tNil)) σ H n := fun H1 e ok Q q =>
  ha H1 e ok _ fun v H2 e2 r => ⟨W, M, n, rfl, rfl, (by cases (show v = .str (strI n) from r); rfl), ok.ex e2, h1, h2, fun H3 e3 => q _ H3 (e2.trans e3) rep_int⟩
/-- what is read of a table's text so far -/
theorem place_at (h : OkT cs ns) {a b : List (List Str)} {key : List Str} (e : kinds cs = a ++ key :: b) : placeOf ⟨cs⟩ (PyD.dat (TupK.mk key)) = (a.length : Int) := by
  have hk2 : (kindsT ⟨cs⟩).l[a.length]? = some (TupK.mk key) := by
    unfold kindsT
    show ((kinds cs).map TupK.mk)[a.length]? = _
    rw [e, List.getElem?_map, List.getElem?_append_right (Nat.le_refl _), Nat.sub_self]; rfl
  unfold placeOf
  rw [eqv_list, idx_true (kindsT_nd fun c hc => (h.pl.col c hc).nd) hk2]
theorem zeros (h : OkT cs ns) {pre : List (List Str)} (hm : ∀ k ∈ pre, k ∈ kinds cs) (hz : ∀ k ∈ pre, ¬ decide (num cs ns k > 0) = true) : pre.map (num cs ns) = List.replicate pre.length 0 := by
  induction pre with
  | nil => rfl
  | cons k t ih =>
    rw [List.map_cons, List.length_cons, List.replicate_succ, ih (fun z hz => hm z (List.mem_cons_of_mem _ hz)) fun z h => hz z (List.mem_cons_of_mem _ h)]
    have h1 := h.num_nn (hm k (by simp))
    have h2 : ¬ num cs ns k > 0 := fun z => hz k (by simp) (decide_eq_true z)
    rw [show num cs ns k = 0 by omega]
theorem step_set (h : OkT cs ns) {dn pre post : List (List Str)} {key : List Str} (hm : ∀ k ∈ pre, k ∈ kinds cs) (hz : ∀ k ∈ pre, ¬ decide (num cs ns k > 0) = true) :
    (dn.map (num cs ns) ++ List.replicate (pre ++ key :: post).length 0).set (dn.length + pre.length) (num cs ns key) = (dn ++ pre ++ [key]).map (num cs ns) ++ List.replicate post.length 0 := by
  rw [List.map_append, List.map_append, zeros h hm hz, List.length_append, List.length_cons, ← List.replicate_append_replicate, List.replicate_succ, ← List.append_assoc]
  rw [List.set_append_right _ _ (by rw [List.length_append, List.length_map, List.length_replicate]; exact Nat.le_refl _)]
  rw [List.length_append, List.length_map, List.length_replicate, Nat.sub_self, List.set_cons_zero]
  simp
theorem next_part (h : OkT cs ns) {td : List (List Str)} {x : Str} {rest : List Str} (e : (td.filter fun k => decide (num cs ns k > 0)).map (fun k => partS (num cs ns k) k) = x :: rest) :
    ∃ pre key post, td = pre ++ key :: post ∧ (∀ k ∈ pre, ¬ decide (num cs ns k > 0) = true) ∧ 0 < num cs ns key ∧ x = partS (num cs ns key) key ∧ rest = (post.filter fun k => decide (num cs ns k > 0)).map fun k => partS (num cs ns k) k := by
  cases hf : td.filter fun k => decide (num cs ns k > 0) with
  | nil => rw [hf] at e; cases e
  | cons key t =>
    rw [hf, List.map_cons] at e
    injection e with e1 e2
    obtain ⟨pre, post, h1, h2, h3, h4⟩ := List.filter_eq_cons_iff.mp hf
    exact ⟨pre, key, post, h1, h2, of_decide_eq_true h3, e1.symm, by rw [h4]; exact e2.symm⟩
theorem text_parts (h : OkT cs ns) : (if (!decide (tabText cs ns = "nothing")) = true then Txt.split (tabText cs ns) ", " else []) = tabParts cs ns := by
  by_cases c : tabParts cs ns = []
  · have e : tabText cs ns = "nothing" := by unfold tabText; rw [c]; rfl
    rw [e, c]; rfl
  · have hl : (tabParts cs ns).length > 0 := List.length_pos_iff.mpr c
    have e : tabText cs ns = Txt.join ", " (tabParts cs ns) := by unfold tabText; rw [if_pos hl]
    rw [e, decide_eq_false (h.text_not c), if_pos (by rfl), h.split c]
theorem zip_nn {f : Int × Int → Int} {xs ys : List Int} (h : ∀ p ∈ xs.zip ys, 0 ≤ f p) : ∀ n ∈ (xs.zip ys).map f, 0 ≤ n := fun n hn => by
  obtain ⟨p, hp, rfl⟩ := List.mem_map.mp hn
  exact h p hp
theorem add_ok {cs' : List Col} (h : OkT cs ns) (h' : OkT cs' ms) (e : cs = cs') : OkT cs (addL ns ms) := by
  subst e
  refine h.of (by unfold addL; rw [List.length_map, List.length_zip, h.len, h'.len, Nat.min_self]) (zip_nn fun p hp => ?_)
  have h1 := h.nn _ (List.of_mem_zip hp).1
  have h2 := h'.nn _ (List.of_mem_zip hp).2
  omega
theorem leL_zip {xs ys : List Int} (h : leL xs ys = true) : ∀ p ∈ xs.zip ys, p.1 ≤ p.2 := by
  unfold leL at h
  rw [List.all_map, List.all_eq_true] at h
  exact fun p hp => of_decide_eq_true (h p hp)
theorem zip_swap {xs ys : List Int} {p : Int × Int} : p ∈ xs.zip ys → (p.2, p.1) ∈ ys.zip xs := by
  induction xs generalizing ys with
  | nil => intro h; simp at h
  | cons x xs ih =>
    cases ys with
    | nil => intro h; simp at h
    | cons y ys =>
      intro h
      rw [List.zip_cons_cons] at h ⊢
      rcases List.mem_cons.mp h with rfl | h
      · exact List.mem_cons_self
      · exact List.mem_cons_of_mem _ (ih h)
theorem sub_ok {cs' : List Col} (h : OkT cs ns) (h' : OkT cs' ms) (e : cs = cs') (hl : leL ms ns = true) : OkT cs (subL ns ms) := by
  subst e
  refine h.of (by unfold subL; rw [List.length_map, List.length_zip, h.len, h'.len, Nat.min_self]) (zip_nn fun p hp => ?_)
  have h1 := leL_zip hl _ (zip_swap hp)
  simp only at h1
  omega
theorem log_lt {n : Int} (h0 : 0 ≤ n) (h1 : n < 10 ^ 40) : n.natAbs.log2 < 1920 := by
  have : n.natAbs < 2 ^ 1920 := Nat.lt_of_lt_of_le (show n.natAbs < 10 ^ 40 by omega) (by decide +kernel)
  by_cases z : n.natAbs = 0
  · rw [z]; decide
  · exact (Nat.log2_lt z).mpr this
end
end RG
namespace RG
open PySem PySem.Spec PyProof.Rows L2 StX RZ TL
/-! ### the law's own tables -/
section
variable {cs : List Col} {ns : List Int}
def keepP (ns : List Int) (i : Nat) : Bool := decide (ns.getD i 0 > 0) || decide ((i : Int) % 3 = 1)
def numsTo (cs : List Col) (ns : List Int) (i : Nat) : List (List Str × Int) := ((List.range i).filter (keepP ns)).map fun j => ((kinds cs).getD j [], ns.getD j 0)
def numbersD (cs : List Col) (ns : List Int) : Di := ⟨numsTo cs ns (kinds cs).length⟩
theorem numsTo_succ (i : Nat) : numsTo cs ns (i + 1) = numsTo cs ns i ++ if keepP ns i = true then [((kinds cs).getD i [], ns.getD i 0)] else [] := by
  unfold numsTo
  rw [List.range_succ, List.filter_append, List.map_append]
  by_cases h : keepP ns i = true
  · rw [if_pos h, List.filter_cons_of_pos h]; rfl
  · rw [if_neg h, List.filter_cons_of_neg h]; rfl
theorem getD_inj {ω : Type} {d : ω} {l : List ω} (h : l.Nodup) {i j : Nat} (hi : i < l.length) (hj : j < l.length) (e : l.getD i d = l.getD j d) : i = j := by
  rw [List.getD_eq_getElem?_getD, List.getD_eq_getElem?_getD, List.getElem?_eq_getElem hi, List.getElem?_eq_getElem hj] at e
  have e := Option.some.inj (show some l[i] = some l[j] by simpa using e)
  have pw := List.pairwise_iff_getElem.mp h
  rcases Nat.lt_trichotomy i j with c | c | c
  · exact absurd e (pw i j hi hj c)
  · exact c
  · exact absurd e.symm (pw j i hj hi c)
theorem numsTo_key (h : OkT cs ns) {i : Nat} (hi : i ≤ (kinds cs).length) : ∀ p ∈ numsTo cs ns i, ∃ j, j < i ∧ keepP ns j = true ∧ p = ((kinds cs).getD j [], ns.getD j 0) := fun p hp => by
  unfold numsTo at hp
  obtain ⟨j, hj, rfl⟩ := List.mem_map.mp hp
  rw [List.mem_filter, List.mem_range] at hj
  exact ⟨j, hj.1, hj.2, rfl⟩
theorem putL_new {l : List (List Str × Int)} {k : List Str} {n : Int} (h : k ∉ l.map (·.1)) : putL l k n = l ++ [(k, n)] := by
  unfold putL
  rw [if_neg]
  intro e
  rw [List.any_eq_true] at e
  obtain ⟨p, hp, e⟩ := e
  exact h (of_decide_eq_true e ▸ List.mem_map_of_mem (f := (·.1)) hp)
theorem numsTo_put (h : OkT cs ns) {i : Nat} (hi : i < (kinds cs).length) (hk : keepP ns i = true) : putL (numsTo cs ns i) ((kinds cs).getD i []) (ns.getD i 0) = numsTo cs ns (i + 1) := by
  rw [numsTo_succ, if_pos hk, putL_new]
  intro hm
  obtain ⟨p, hp, e⟩ := List.mem_map.mp hm
  obtain ⟨j, hj, _, rfl⟩ := numsTo_key h (Nat.le_of_lt hi) p hp
  have := getD_inj h.nd (show j < (kinds cs).length by omega) hi e
  omega
theorem numsTo_skip {i : Nat} (hk : keepP ns i = false) : numsTo cs ns (i + 1) = numsTo cs ns i := by
  rw [numsTo_succ, hk, if_neg Bool.false_ne_true, List.append_nil]
theorem numsTo_len {i : Nat} : (numsTo cs ns i).length ≤ i := by
  unfold numsTo
  rw [List.length_map]
  exact Nat.le_trans (List.length_filter_le _ _) (by rw [List.length_range]; exact Nat.le_refl _)
theorem getD_mem {ω : Type} {d : ω} {l : List ω} {i : Nat} (hi : i < l.length) : l.getD i d ∈ l := by
  rw [List.getD_eq_getElem?_getD, List.getElem?_eq_getElem hi]; exact List.getElem_mem hi
theorem num_at (h : OkT cs ns) {i : Nat} (hi : i < (kinds cs).length) : num cs ns ((kinds cs).getD i []) = ns.getD i 0 := by
  have e := h.map_num
  have e2 : ((kinds cs).map (num cs ns))[i]? = ns[i]? := by rw [e]
  rw [List.getElem?_map, List.getElem?_eq_getElem hi, List.getElem?_eq_getElem (by rw [h.len]; exact hi)] at e2
  rw [List.getD_eq_getElem?_getD, List.getD_eq_getElem?_getD, List.getElem?_eq_getElem hi, List.getElem?_eq_getElem (by rw [h.len]; exact hi)]
  exact Option.some.inj e2
theorem numbers_nd (h : OkT cs ns) : ∀ i, i ≤ (kinds cs).length → ((numsTo cs ns i).map (·.1)).Nodup
  | 0, _ => List.nodup_nil
  | i + 1, hi => by
    have ih := numbers_nd h i (by omega)
    rw [numsTo_succ]
    by_cases hk : keepP ns i = true
    · rw [if_pos hk, List.map_append, List.nodup_append]
      refine ⟨ih, by simp, fun a ha b hb e => ?_⟩
      have hb' : b = (kinds cs).getD i [] := by simpa using hb
      obtain ⟨p, hp, rfl⟩ := List.mem_map.mp ha
      obtain ⟨j, hj, _, rfl⟩ := numsTo_key h (Nat.le_of_lt hi) p hp
      have := getD_inj h.nd (show j < (kinds cs).length by omega) hi (e.trans hb')
      omega
    · rw [if_neg hk, List.append_nil]; exact ih
theorem numbers_ok (h : OkT cs ns) : OkD ⟨cs⟩ (numbersD cs ns) := ⟨h.pl, h.p12, numbers_nd h _ (Nat.le_refl _), fun p hp => by
  obtain ⟨j, hj, _, rfl⟩ := numsTo_key h (Nat.le_refl _) p hp
  refine ⟨getD_mem hj, h.nn _ (getD_mem (by rw [h.len]; exact hj))⟩, Nat.le_trans numsTo_len (by have := h.k12; omega)⟩
theorem numbers_look (h : OkT cs ns) {i : Nat} (hi : i < (kinds cs).length) : ((numbersD cs ns).kvs.lookup ((kinds cs).getD i [])).getD 0 = ns.getD i 0 := by
  by_cases hk : keepP ns i = true
  · have e : (numsTo cs ns (kinds cs).length).lookup ((kinds cs).getD i []) = some (ns.getD i 0) := mem_lookup (numbers_nd h _ (Nat.le_refl _)) (by
      unfold numsTo
      exact List.mem_map.mpr ⟨i, List.mem_filter.mpr ⟨List.mem_range.mpr hi, hk⟩, rfl⟩)
    show ((numsTo cs ns (kinds cs).length).lookup ((kinds cs).getD i [])).getD 0 = _
    rw [e]; rfl
  · have h0 : ns.getD i 0 = 0 := by
      unfold keepP at hk
      have h1 := h.nn _ (getD_mem (d := 0) (l := ns) (i := i) (by rw [h.len]; exact hi))
      have h2 : ¬ ns.getD i 0 > 0 := fun z => hk (by rw [decide_eq_true z]; rfl)
      omega
    rw [h0]
    cases e : (numbersD cs ns).kvs.lookup ((kinds cs).getD i []) with
    | none => rfl
    | some n =>
      obtain ⟨j, hj, hkj, e2⟩ := numsTo_key h (Nat.le_refl _) _ (lookup_mem e)
      have e3 : (kinds cs).getD i [] = (kinds cs).getD j [] := congrArg Prod.fst e2
      have := getD_inj h.nd hi hj e3
      subst this
      exact absurd hkj hk
theorem map_getD {ω δ : Type} {d : ω} {l : List ω} {f : ω → δ} : l.map f = (List.range l.length).map fun i => f (l.getD i d) := by
  refine List.ext_getElem? fun i => ?_
  by_cases hi : i < l.length
  · rw [List.getElem?_map, List.getElem?_map, List.getElem?_eq_getElem hi, List.getElem?_range hi]
    show some _ = some (f (l.getD i d))
    rw [List.getD_eq_getElem?_getD, List.getElem?_eq_getElem hi]; rfl
  · rw [List.getElem?_eq_none (by rw [List.length_map]; omega), List.getElem?_eq_none (by rw [List.length_map, List.length_range]; omega)]
theorem numbers_tab (h : OkT cs ns) : tabOf ⟨cs⟩ (numbersD cs ns) = ⟨cs, ns⟩ := by
  show Table.mk cs _ = _
  congr 1
  show ((kinds cs).map fun k => ((numbersD cs ns).kvs.lookup k).getD 0) = ns
  rw [map_getD (d := [])]
  have e : ns = (List.range (kinds cs).length).map fun i => ns.getD i 0 := by
    have := map_getD (d := 0) (l := ns) (f := fun n => n)
    rw [List.map_id', h.len] at this
    exact this
  conv => rhs; rw [e]
  exact List.map_congr_left fun i hi => numbers_look h (List.mem_range.mp hi)
/-! ### kinds by their places -/
theorem pos_by_place (h : OkT cs ns) {δ : Type} (f : List Str → Int → δ) : ((rng ((kinds cs).length : Int)).filter fun i => decide (0 < ns.getD i.toNat 0)).map (fun i => f ((kinds cs).getD i.toNat []) (ns.getD i.toNat 0)) = (posK cs ns).map fun k => f k (num cs ns k) := by
  have e : kinds cs = (rng ((kinds cs).length : Int)).map fun i : Int => (kinds cs).getD i.toNat [] := by
    unfold rng
    rw [List.map_map, Int.toNat_natCast]
    have := map_getD (d := []) (l := kinds cs) (f := fun k => k)
    rw [List.map_id'] at this
    exact this
  unfold posK
  conv => rhs; rw [e]
  rw [List.filter_map, List.map_map]
  have hm : ∀ i ∈ rng ((kinds cs).length : Int), num cs ns ((kinds cs).getD i.toNat []) = ns.getD i.toNat 0 := fun i hi => num_at h (by have := rng_mem.mp hi; omega)
  have e1 : (rng ((kinds cs).length : Int)).filter ((fun k => decide (num cs ns k > 0)) ∘ fun i : Int => (kinds cs).getD i.toNat []) = (rng ((kinds cs).length : Int)).filter fun i => decide (0 < ns.getD i.toNat 0) :=
    List.filter_congr fun i hi => by show decide (num cs ns ((kinds cs).getD i.toNat []) > 0) = _; rw [hm i hi]
  rw [e1]
  refine List.map_congr_left fun i hi => ?_
  show _ = f ((kinds cs).getD i.toNat []) (num cs ns ((kinds cs).getD i.toNat []))
  rw [hm i (List.mem_filter.mp hi).1]
/-! ### which one comes first -/
def fdL : List Int → List Int → Bool
  | x :: xs, y :: ys => if x = y then fdL xs ys else decide (y < x)
  | _, _ => false
def aheadL (xs ys : List Int) : Bool := if xs.sum = ys.sum then fdL xs ys else decide (xs.sum < ys.sum)
theorem lex_fdL : ∀ (k : Nat) (xs ys : List Int) (i : Nat), xs.length = i + k → ys.length = i + k → Ob.lexAt (fun j => decide ((xs.map fun n => -n).getD j 0 = (ys.map fun n => -n).getD j 0)) (fun j => decide ((xs.map fun n => -n).getD j 0 < (ys.map fun n => -n).getD j 0)) false i k = fdL (xs.drop i) (ys.drop i)
  | 0, xs, ys, i, h1, h2 => by
    rw [Ob.lexAt_zero, List.drop_of_length_le (by omega), List.drop_of_length_le (by omega)]; rfl
  | k + 1, xs, ys, i, h1, h2 => by
    have c1 : i < xs.length := by omega
    have c2 : i < ys.length := by omega
    have g : ∀ zs : List Int, ∀ c : i < zs.length, (zs.map fun n => -n).getD i 0 = -zs[i] := fun zs c => by
      rw [List.getD_eq_getElem?_getD, List.getElem?_map, List.getElem?_eq_getElem c]; rfl
    rw [Ob.lexAt_succ, lex_fdL k xs ys (i + 1) (by omega) (by omega), List.drop_eq_getElem_cons c1, List.drop_eq_getElem_cons c2]
    show _ = (if xs[i] = ys[i] then fdL (xs.drop (i + 1)) (ys.drop (i + 1)) else decide (ys[i] < xs[i]))
    rw [g xs c1, g ys c2]
    by_cases e : xs[i] = ys[i]
    · rw [if_pos e, e, decide_eq_true rfl, if_pos rfl]
    · have ne : ¬ -xs[i] = -ys[i] := fun z => e (Int.neg_inj.mp z)
      rw [if_neg e, decide_eq_false ne, if_neg Bool.false_ne_true]
      by_cases l : ys[i] < xs[i]
      · rw [decide_eq_true l, decide_eq_true (by omega)]
      · rw [decide_eq_false l, decide_eq_false (by omega)]
theorem fdL_same : ∀ xs : List Int, fdL xs xs = false
  | [] => rfl
  | x :: xs => by show (if x = x then fdL xs xs else _) = _; rw [if_pos rfl, fdL_same xs]
theorem ltK_ahead {cs' : List Col} {xs ys : List Int} (h : xs.length = ys.length) : ltK (keyT ⟨cs, xs⟩) (keyT ⟨cs', ys⟩) = aheadL xs ys := by
  unfold ltK keyT aheadL
  by_cases e : xs.sum = ys.sum
  · simp only [e, if_true]
    by_cases n : (xs.map fun n => -n) = ys.map fun n => -n
    · rw [if_pos n]
      have : xs = ys := by
        have := congrArg (List.map fun n : Int => -n) n
        simpa [List.map_map, Function.comp_def] using this
      rw [this, fdL_same]
    · rw [if_neg n]
      unfold ltI
      rw [List.length_map, List.length_map, h, Nat.min_self, decide_eq_false (Nat.lt_irrefl _)]
      have := lex_fdL ys.length xs ys 0 (by omega) (by omega)
      rw [this]; rfl
  · simp only [e, if_false]
/-! ### sums and differences -/
theorem sub_add : ∀ {xs ys : List Int}, xs.length = ys.length → subL (addL xs ys) xs = ys
  | [], [], _ => rfl
  | [], _ :: _, h => by cases h
  | _ :: _, [], h => by cases h
  | x :: xs, y :: ys, h => by
    have ih := sub_add (xs := xs) (ys := ys) (by simpa using h)
    unfold subL addL at ih ⊢
    rw [List.zip_cons_cons, List.map_cons, List.zip_cons_cons, List.map_cons, ih]
    congr 1
    show x + y - x = y
    omega
theorem le_add (h : OkT cs ns) {ms : List Int} (h' : OkT cs ms) : leL ns (addL ns ms) = true := by
  have : ∀ {xs ys : List Int}, (∀ n ∈ ys, 0 ≤ n) → leL xs (addL xs ys) = true := by
    intro xs
    induction xs with
    | nil => intro ys _; rfl
    | cons x xs ih =>
      intro ys hy
      cases ys with
      | nil => rfl
      | cons y ys =>
        have := ih (ys := ys) fun n hn => hy n (List.mem_cons_of_mem _ hn)
        unfold leL addL at this ⊢
        rw [List.zip_cons_cons, List.map_cons, List.zip_cons_cons, List.map_cons, List.all_cons, this]
        have h0 := hy y (by simp)
        show (decide (x ≤ x + y) && true) = true
        rw [decide_eq_true (by omega)]; rfl
  exact this h'.nn
theorem zip_len {xs ys : List Int} (f : Int × Int → Int) (h : xs.length = ys.length) : ((xs.zip ys).map f).length = xs.length := by rw [List.length_map, List.length_zip, h, Nat.min_self]
theorem add_lt {xs ys : List Int} {b c : Int} (h1 : ∀ n ∈ xs, n < b) (h2 : ∀ n ∈ ys, n < c) : ∀ n ∈ addL xs ys, n < b + c := fun n hn => by
  unfold addL at hn
  obtain ⟨p, hp, rfl⟩ := List.mem_map.mp hn
  have a1 := h1 _ (List.of_mem_zip hp).1
  have a2 := h2 _ (List.of_mem_zip hp).2
  omega
theorem zip_rng {xs ys : List Int} (h : xs.length = ys.length) {δ : Type} (f : Int → Int → δ) : (rng (xs.length : Int)).map (fun i => f (xs.getD i.toNat 0) (ys.getD i.toNat 0)) = (xs.zip ys).map fun p => f p.1 p.2 := by
  unfold rng
  rw [List.map_map, Int.toNat_natCast]
  refine List.ext_getElem? fun i => ?_
  by_cases hi : i < xs.length
  · have hi2 : i < ys.length := by omega
    rw [List.getElem?_map, List.getElem?_map, List.getElem?_range hi, (List.getElem?_zip_eq_some (z := (xs[i], ys[i]))).mpr ⟨List.getElem?_eq_getElem hi, List.getElem?_eq_getElem hi2⟩]
    show some (f (xs.getD ((i : Int).toNat) 0) (ys.getD ((i : Int).toNat) 0)) = some (f xs[i] ys[i])
    rw [Int.toNat_natCast, List.getD_eq_getElem?_getD, List.getD_eq_getElem?_getD, List.getElem?_eq_getElem hi, List.getElem?_eq_getElem hi2]; rfl
  · rw [List.getElem?_eq_none (by rw [List.length_map, List.length_range]; omega), List.getElem?_eq_none (by rw [List.length_map, List.length_zip]; omega)]
end
section
variable {W : Wd} {M : List Addr} {σ : L2.St} {H : Hp} {ta tb : TE} {E : XK} {cs : List Col} {ns : List Int}
theorem evr_min {m : Int} {P R : Int → Prop} (ha : Ev W M ta σ H m) (hb : EvR W M tb σ H P) (h : ∀ n, P n → R (if n < m then n else m)) : EvR W M (tCB rMin2 (tCons ta (tCons tb tNil))) σ H R := fun H1 e ok Q q =>
  ha H1 e ok _ fun v H2 e2 r => hb H2 (e.trans e2) (ok.ex e2) _ fun u n H3 pn e3 r3 => ⟨m, n, by rw [show v = .int m from r, show u = .int n from r3], q _ _ H3 (h n pn) (e2.trans e3) rep_int⟩
/-- Table.read(menu, text) -/
theorem ev_tread (ha : Ev W M ta σ H (Menu.mk cs)) (hb : Ev W M tb σ H (tabText cs ns)) (hT : OkT cs ns) (h30 : ∀ n ∈ ns, n < 10 ^ 30) : Ev W M (ClX.tCMeth (W.C "Table") (sp_Table_read W.K W.C) E (tC (.ref (W.C "Table"))) (tCons ta (tCons tb tNil))) σ H (Table.mk cs ns) := fun H1 e ok Q q =>
  ⟨rfl, ha H1 e ok _ fun v H2 e2 r => hb H2 (e.trans e2) (ok.ex e2) _ fun u H3 e3 r3 => by
    cases (show u = .str (tabText cs ns) from r3)
    exact ⟨W, M, v, ⟨cs⟩, ns, rfl, rfl, rfl, (ok.ex e2).ex e3, r.up e3, hT, h30, fun r H4 e4 rr => q r H4 ((e2.trans e3).trans e4) rr⟩⟩
end
/-! ### the promises -/
section
variable {α β γ δ ε : Type} [Py α] [Py β] [Py γ] [Py δ] [Py ε]
def B4 (K : PySem.W.Frag) (C : Str → Addr) (pre : α → β → γ → δ → Prop) (R : ε → Prop) : Sp := fun vs H Q _ => ∃ (W : Wd) (M : List Addr) (v u w x : V) (a : α) (b : β) (c : γ) (d : δ), W.K = K ∧ W.C = C ∧ vs = [.ref W.b, v, u, w, x] ∧ Ok W M H ∧ Rep W M H v a ∧ Rep W M H u b ∧ Rep W M H w c ∧ Rep W M H x d ∧ pre a b c d ∧
  ∀ r t H', R t → Ex W [] H H' → Rep W M H' r t → Q r H'
theorem evr_b4 {W : Wd} {M : List Addr} {σ : L2.St} {H : Hp} {ta tb tc td : TE} {E : XK} {i : Nat} {pre : α → β → γ → δ → Prop} {R : ε → Prop} {a : α} {b : β} {c : γ} {d : δ} (hb : Bs W σ i) (h1 : Ev W M ta σ H a) (h2 : Ev W M tb σ H b) (h3 : Ev W M tc σ H c) (h4 : Ev W M td σ H d) (hp : pre a b c d) :
    EvR W M (tCall (B4 W.K W.C pre R) [] E (tCons (tVar i) (tCons ta (tCons tb (tCons tc (tCons td tNil)))))) σ H R := fun H1 e ok Q q =>
  ⟨.ref W.b, hb, h1 H1 e ok _ fun v H2 e2 r => h2 H2 (e.trans e2) (ok.ex e2) _ fun u H3 e3 r3 => h3 H3 ((e.trans e2).trans e3) ((ok.ex e2).ex e3) _ fun w H4 e4 r4 => h4 H4 (((e.trans e2).trans e3).trans e4) (((ok.ex e2).ex e3).ex e4) _ fun x H5 e5 r5 =>
    ⟨W, M, v, u, w, x, a, b, c, d, rfl, rfl, rfl, (((ok.ex e2).ex e3).ex e4).ex e5, ((r.up e3).up e4).up e5, (r3.up e4).up e5, r4.up e5, r5, hp, fun r t H6 ht e6 rr => q r t H6 ht ((((e2.trans e3).trans e4).trans e5).trans e6) rr⟩⟩
end
section
variable (K : PySem.W.Frag) (C : Str → Addr)
abbrev sp_law_counts : Sp := B2 K C (fun many most : Int => 0 ≤ many ∧ many ≤ 1000 ∧ 1 ≤ most ∧ most ≤ 1000000) fun many most (ys : List Int) => (ys.length : Int) = many ∧ ∀ n ∈ ys, 0 ≤ n ∧ n ≤ most
abbrev sp_law_numbers : Sp := F2 K C OkT numbersD
abbrev sp_law_table_text : Sp := F2 K C (fun (cs : List Col) (ns : List Int) => OkT cs ns ∧ ∀ n ∈ ns, n < 10 ^ 40) tabText
abbrev sp_law_made_table : Sp := F3 K C (fun (m : Menu) (cs : List Col) (ns : List Int) => m.cols = cs ∧ OkT cs ns ∧ ∀ n ∈ ns, n < 10 ^ 30) fun _ cs ns => Table.mk cs ns
abbrev sp_law_ahead : Sp := F2 K C (fun xs ys : List Int => xs.length = ys.length ∧ xs.length ≤ 1000) aheadL
abbrev sp_law_table_right : Sp := B4 K C (fun (t : Table) (cs : List Col) (ns : List Int) (m : Menu) => t = ⟨cs, ns⟩ ∧ OkT cs ns ∧ (∀ n ∈ ns, n < 10 ^ 30) ∧ m.cols = cs) (fun b : Bool => b = true)
abbrev sp_law_two_right : Sp := B4 K C (fun (ts : List Table) (cs : List Col) (lots : List (List Int)) (m : Menu) => m.cols = cs ∧ ∃ a b, ts = [⟨cs, a⟩, ⟨cs, b⟩] ∧ lots = [a, b] ∧ OkT cs a ∧ OkT cs b ∧ (∀ n ∈ a, n < 10 ^ 20) ∧ ∀ n ∈ b, n < 10 ^ 20) (fun b : Bool => b = true)
def sp_law_menu_asked : Sp := fun vs H Q _ => ∃ (W : Wd) (v u : V) (cs : List Col), W.K = K ∧ W.C = C ∧ vs = [.ref W.b, v, u] ∧ Ok W [] H ∧ Rep W [] H v cs ∧ Rep W [] H u (Menu.mk cs) ∧ Plain cs ∧ prod cs ≤ 12 ∧ ∀ H', Ex W [] H H' → Q (.bl true) H'
end
end RG
namespace RG
open PySem PySem.Spec PyProof.Rows L2 StX RZ TL
section
variable {α β γ : Type} [Py α] [Py β] [Py γ] {W : Wd} {M M' N : List Addr} {σ σ' : L2.St} {H H1 H2 H' : Hp} {te ta tb tc tl : TE} {E : XK} {D : Ends} {i k : Nat} {vs : List Nat} {v : V}
/-- [f for x in a list known by a word] -/
theorem evr_lcR {P : List α → Prop} {f : α → β} (h : EvR W M tl σ H P) (hl : ∀ xs, P xs → xs.length ≤ 1000000) (hk : k ∈ vs)
    (he : ∀ xs (i : Nat) (x : α) v M' H', P xs → xs[i]? = some x → Le (cut W M H) (cut W M' H') → Rep W M' H' v x → Ev W M' te ((wipe σ vs).set k (some v)) H' (f x)) :
    EvR W M (tLc (iList W.K tl) (gName k) tYes te vs) σ H (fun ys => ∃ xs, P xs ∧ ys = xs.map f) := fun H1 e ok Q q => by
  refine h H1 e ok _ fun v y H2 py e2 r2 => ?_
  have e12 := e.trans e2
  refine (ev_lc (W := W) (M := M) (H := H2) (wi := iList W.K (fun _ H Q => Q v H)) (f := f) (ei_list (fun H3 e3 ok3 Q q => q v H3 Ex.refl (r2.up e3))) (hl y py) hk fun i x v M' H' hx l r => he y i x v M' H' py hx (e12.up.le.trans l) r) H2 Ex.refl (ok.ex e2) Q fun w H3 e3 r3 => q w _ H3 ⟨y, py, rfl⟩ (e2.trans e3) r3
/-- an item of a list whose items are of several kinds -/
theorem ev_raw {g : Addr} {us : List V} {n : Int} {w : V} {x : α} (hs : σ[i]? = some (some (.ref g))) (hg : H g = some (.lst us)) (nb : g ≠ W.b) (hu : atI us n = some w) (r : Rep W M H w x) : Ev W M (tOp (rIxL W.K) (tVar i) (tC (.int n))) σ H x := fun H1 e ok Q q =>
  ⟨.ref g, hs, g, us, n, w, rfl, rfl, SqL.of (e.keep _ _ nb (by simp) hg), hu, q w H1 Ex.refl (r.up e)⟩
/-- data without lists and dicts live on when one of these is changed -/
theorem Rep.fyU [Fyz α] {x : α} {a : Addr} {o u : HO} (r : Rep W M H v x) (ha : H a = some o) (no : ¬ Fy o) : Rep W M (upd H a u) v x :=
  Fyz.fy (fun b w hb hf => by
    obtain ⟨h1, h2, h3⟩ := cut_some.mp hb
    refine cut_some.mpr ⟨h1, h2, ?_⟩
    have : b ≠ a := fun e => by
      rw [e, ha] at h3
      cases h3
      exact no hf
    rw [upd_ne this]; exact h3) r
theorem not_fyL {xs : List V} : ¬ Fy (.lst xs) := fun h => h.1 _ rfl
theorem not_fyD {xs : List (List L2.Key × V)} : ¬ Fy (.dT xs) := fun h => h.2 _ rfl
theorem pd_fyU [Fyz α] {a : Addr} {o u : HO} (ha : H a = some o) (no : ¬ Fy o) : ∀ {vs : List V} {xs : List α}, Paired (Rep W M H) vs xs → Paired (Rep W M (upd H a u)) vs xs
  | _, _, .nil => .nil
  | _, _, .cons r t => .cons (r.fyU ha no) (pd_fyU ha no t)
/-- a list of such data is told, when another list or dict is changed -/
theorem Rep.fyL [Fyz α] {xs : List α} {a L : Addr} {o u : HO} (r : Rep W M H (.ref L) xs) (ha : H a = some o) (no : ¬ Fy o) (hn : a ≠ L) : Rep W M (upd H a u) (.ref L) xs := by
  obtain ⟨b, us, e, hh, nb, nm, pp⟩ := r.lst
  cases e
  exact rep_lst (by rw [upd_ne (Ne.symm hn)]; exact hh) nb nm (pd_fyU ha no pp)
/-- xs.append(x), xs new since G -/
theorem s_appFy [Fyz α] {xs : List α} {x : α} {G : Hp} {L : Addr} (okG : Ok W [] G) (hL : G L = none) (eG : Ex W [] G H) (ok : Ok W [] H) (hs : σ[k]? = some (some (.ref L))) (r : Rep W [] H (.ref L) xs) (hl : xs.length ≤ 1000) (h : Ev W [] te σ H x)
    (q : ∀ H', Ex W [] G H' → Ok W [] H' → Rep W [] H' (.ref L) (xs ++ [x]) → D.nx σ H') : tDrop (tBM W.K "list" rAppend (tVar k) (tCons te tNil)) D σ H := by
  obtain ⟨b, us, e, hh, nb, nm, pp⟩ := r.lst
  cases e
  refine ⟨.ref L, hs, .inl ⟨rfl, us, SqL.of hh⟩, h H Ex.refl ok _ fun v H2 e2 r2 => ?_⟩
  have hh2 := e2.keep _ _ nb (by simp) hh
  refine ⟨L, us, v, rfl, rfl, hh2, sl (by rw [Pd.length pp]; omega), ?_⟩
  have eg := (eG.trans e2).mut0 (o := .lst (us ++ [v])) okG hL
  exact q _ eg (okG.ex eg) (rep_lst upd_same nb nm (Pd.append (pd_fyU hh2 not_fyL (Pd.mono pp fun _ _ r => r.up e2)) (.cons (r2.fyU hh2 not_fyL) .nil)))
/-- a list of lists of numbers -/
theorem il_out {L : Addr} {us : List V} {q : Addr} {w : V} {c : List Int} (hL : H L = some (.lst us)) (hq : V.ref q ∈ us) (h : Rep W M H w c) : Rep W (L :: M) H w c := by
  obtain ⟨a, vs, rfl, hh, nb, nm, pp⟩ := h.lst
  have e := paired_toV pp
  have hn : a ≠ L := fun z => by
    rw [z, hL] at hh
    cases hh
    rw [e] at hq
    obtain ⟨n, _, hn⟩ := List.mem_map.mp hq
    cases hn
  refine rep_lst hh nb (fun hm => (List.mem_cons.mp hm).elim hn nm) ?_
  rw [e]; exact toV_paired
theorem pd_il {L : Addr} {us : List V} {q : Addr} (hL : H L = some (.lst us)) (hq : V.ref q ∈ us) : ∀ {ws : List V} {xs : List (List Int)}, Paired (Rep W M H) ws xs → Paired (Rep W (L :: M) H) ws xs
  | _, _, .nil => .nil
  | _, _, .cons r t => .cons (il_out hL hq r) (pd_il hL hq t)
theorem s_appLL {a b : List Int} {P : List Int → Prop} {G : Hp} {L : Addr} (okG : Ok W [] G) (hL : G L = none) (eG : Ex W [] G H) (ok : Ok W [] H) (hs : σ[k]? = some (some (.ref L))) (r : Rep W [] H (.ref L) [a, b]) (h : EvR W [] te σ H P)
    (q : ∀ c H', P c → Ex W [] G H' → Ok W [] H' → Rep W [] H' (.ref L) [a, b, c] → D.nx σ H') : tDrop (tBM W.K "list" rAppend (tVar k) (tCons te tNil)) D σ H := by
  obtain ⟨b', us, e, hh, nb, nm, pp⟩ := r.lst
  cases e
  refine ⟨.ref L, hs, .inl ⟨rfl, us, SqL.of hh⟩, h H Ex.refl ok _ fun v c H2 pc e2 r2 => ?_⟩
  have hh2 := e2.keep _ _ nb (by simp) hh
  have hq : ∃ q, V.ref q ∈ us := by
    cases pp with
    | cons r _ =>
      obtain ⟨x, _, rfl, _⟩ := r.lst
      exact ⟨x, by simp⟩
  obtain ⟨x, hq⟩ := hq
  refine ⟨L, us, v, rfl, rfl, hh2, sl (by rw [Pd.length pp]; show 2 ≤ 1000000; decide), ?_⟩
  have eg := (eG.trans e2).mut0 (o := .lst (us ++ [v])) okG hL
  have em : Ex W [L] H2 (upd H2 L (.lst (us ++ [v]))) := Ex.mut nb (okG.new_bl hL) (by simp)
  have pa : Paired (Rep W [L] H2) (us ++ [v]) [a, b, c] := Pd.append (xs := us) (ys := [a, b]) (pd_il hh2 hq (Pd.mono pp fun _ _ r => r.up e2)) (.cons (il_out hh2 hq r2) .nil)
  exact q c _ pc eg (okG.ex eg) (rep_lst upd_same nb nm (Pd.mono pa fun _ _ r => (r.ex em).subM (by simp)))
theorem evn_list {xs : List α} (ha : Ev W M ta σ H xs) : EvN W M (tCB (rListOf W.K) (tCons ta tNil)) σ H xs := fun H1 e ok Q q =>
  ha H1 e ok _ fun v H2 e2 r => by
    obtain ⟨a, vs, ev, hh, _, _, pp⟩ := r.lst
    exact ⟨a, vs, by rw [ev], .inl (SqL.of hh), fun l hl => q _ _ (e2.free hl) (e2.trans (Ex.new hl)) (rep_lst upd_same ((ok.ex e2).new_b hl) ((ok.ex e2).new_M hl) (Pd.mono pp fun _ _ r => r.up (Ex.new hl)))⟩
/-- a new dict, one of several -/
def EvD (W : Wd) (M : List Addr) (te : TE) (σ : L2.St) (H : Hp) (P : Di → Prop) : Prop :=
  ∀ H1, Ex W [] H H1 → Ok W M H1 → ∀ Q : VK, (∀ d x H2, P x → H1 d = none → Ex W [] H1 H2 → H2 d = some (.dT (encD x.kvs)) → Q (.ref d) H2) → te σ H1 Q
theorem evd_pairs {P : List (TupK × Int) → Prop} (ha : EvR W M ta σ H P) (hn : ∀ ps, P ps → (ps.map (·.1)).Nodup) : EvD W M (tCB (rDictPairs W.K) (tCons ta tNil)) σ H (fun x => ∃ ps, P ps ∧ x = Di.mk (ps.map fun p => (p.1.l, p.2))) := fun H1 e ok Q q =>
  ha H1 e ok _ fun v ps H2 pp0 e2 r => by
    obtain ⟨a, vs, rfl, hh, _, _, pp⟩ := r.lst
    obtain ⟨ts, kqs, e1, e3, e4, e5⟩ := pairs_kq pp
    have hlk : kqs.length = ps.length := by have := congrArg List.length e3; simpa using this
    refine ⟨a, ts, kqs, ps.map fun p => V.int p.2, rfl, SqL.of (by rw [hh, e1]), e5 _, e4, by rw [List.length_map, hlk], ?_, fun p hp => ?_⟩
    · have := nodup_inr (hn ps pp0)
      rw [List.map_map] at this
      rw [e3]; exact this
    · have ez : (kqs.map (·.1)).zip (ps.map fun p => V.int p.2) = encD (ps.map fun p => (p.1.l, p.2)) := by rw [e3]; exact enc_pairs ps
      rw [ez]
      exact q p _ _ ⟨ps, pp0, rfl⟩ (e2.free hp) (e2.trans (Ex.new hp)) upd_same
theorem EvD.imp {P R : Di → Prop} (h : EvD W M te σ H P) (hp : ∀ x, P x → R x) : EvD W M te σ H R := fun H1 e ok Q q => h H1 e ok Q fun d x H2 px hd e2 h2 => q d x H2 (hp x px) hd e2 h2
/-- xs = [f for ..], with a word of all that it holds, and the new list's address -/
theorem s_lcP {xs : List α} {P : Nat → List β → Prop} {wi : TI} {f : Nat} (ok : Ok W M H) (hi : Ei W M wi σ H xs) (hl : xs.length ≤ 1000000) (hk : k ∈ vs) (h0 : P 0 [])
    (he : ∀ (i : Nat) (x : α) v M' H' ys, xs[i]? = some x → Le (cut W M H) (cut W M' H') → Ok W M' H' → Rep W M' H' v x → P i ys → EvR W M' te ((wipe σ vs).set k (some v)) H' (fun y => P (i + 1) (ys ++ [y])))
    (q : ∀ L ys H', P xs.length ys → H L = none → Ex W [] H H' → Ok W M H' → Rep W M H' (.ref L) ys → D.nx (σ.set f (some (.ref L))) H') : tAsg (tLc wi (gName k) tYes te vs) (gName f) D σ H :=
  lc_acc (P := P) hi hl h0 (fun i x v M' H' us ys hx le ok' r hP pp K hK => hK ((wipe σ vs).set k (some v)) (by rw [wipe_set hk, wipe_wipe]) (he i x v M' H' ys hx le ok' r hP)) Ex.refl ok fun L ys H2 hP hL e2 r2 => q L ys H2 hP hL e2 (ok.ex e2) r2
/-- xs = [a new dict, a new list] -/
theorem s_given {P : Di → Prop} {ys : List Int} (ok : Ok W [] H) (h1 : EvD W [] ta σ H P) (h2 : EvN W [] tb σ H ys)
    (q : ∀ d p g x H', P x → H d = none → H p = none → H g = none → Ex W [] H H' → Ok W [] H' → H' d = some (.dT (encD x.kvs)) → H' p = some (.lst (ys.map V.int)) → H' g = some (.lst [.ref d, .ref p]) → D.nx (σ.set k (some (.ref g))) H') :
    tAsg (tLst (tCons ta (tCons tb tNil))) (gName k) D σ H := by
  refine h1 H Ex.refl ok _ fun d x H1 px hd e1 hd1 => ?_
  have ok1 := ok.ex e1
  refine h2 H1 e1 ok1 _ fun p H2 hp e2 r2 => ⟨by show 2 ≤ sizeLine; decide, fun g hg => ?_⟩
  obtain ⟨a, vs, ea, hh, nb, nm, pp⟩ := r2.lst
  cases ea
  have e := paired_toV pp
  have ok2 := ok1.ex e2
  have hd2 := e2.keep _ _ (ok.new_b hd) (by simp) hd1
  refine q d p g x _ px hd (e1.free hp) ((e1.trans e2).free hg) ((e1.trans e2).trans (Ex.new hg)) (ok2.ex (Ex.new (M := []) hg)) ?_ ?_ upd_same
  · rw [upd_ne (fun z => by rw [z, hg] at hd2; cases hd2)]; exact hd2
  · rw [upd_ne (fun z => by rw [z, hg] at hh; cases hh), hh, e]; rfl
/-- given != [numbers, counts], which hold the same -/
theorem ev_neG {d p g : Addr} {x x' : Di} {ns : List Int} (ok0 : Ok W [] H) (hs : σ[i]? = some (some (.ref g))) (hg : H g = some (.lst [.ref d, .ref p])) (hd : H d = some (.dT (encD x.kvs))) (hp : H p = some (.lst (ns.map V.int))) (ng : g ≠ W.b) (nd : d ≠ W.b) (np : p ≠ W.b)
    (ha : Ev W [] ta σ H x') (hb : Ev W [] tb σ H ns) (hl : x.kvs.length = x'.kvs.length) (hm : ∀ z ∈ x.kvs, z ∈ x'.kvs) : Ev W [] (tOp (rNeG W.K) (tVar i) (tLst (tCons ta (tCons tb tNil)))) σ H false := fun H1 e ok Q q =>
  ⟨.ref g, hs, ha H1 e ok _ fun v H2 e2 r => hb H2 (e.trans e2) (ok.ex e2) _ fun u H3 e3 r3 => ⟨by show 2 ≤ sizeLine; decide, fun b hb' => by
    obtain ⟨d', rfl, hd', nd', _⟩ := (r.up e3).di
    obtain ⟨p', vs, rfl, hp', np', _, pp⟩ := r3.lst
    have e4 : Ex W [] H3 (upd H3 b (.lst [.ref d', .ref p'])) := Ex.new hb'
    have ee := ((e.trans e2).trans e3).trans e4
    refine ⟨g, b, d, d', p, p', x.kvs, x'.kvs, ns, rfl, rfl, SqL.of (ee.keep _ _ ng (by simp) hg), SqL.of upd_same, ee.keep _ _ nd (by simp) hd, e4.keep _ _ nd' (by simp) hd', SqL.of (ee.keep _ _ np (by simp) hp), SqL.of ?_, hl, hm, q _ _ ((e2.trans e3).trans e4) rep_bl⟩
    have := e4.keep _ _ np' (by simp) hp'
    rw [paired_toV pp] at this
    exact this⟩⟩
/-- xs[0].clear() and xs[1].append(n), both new since G -/
theorem s_clear {d p g : Addr} {l : List (List Str × Int)} {G : Hp} (okG : Ok W [] G) (hG : G d = none) (eG : Ex W [] G H) (hs : σ[i]? = some (some (.ref g))) (hg : H g = some (.lst [.ref d, .ref p])) (hd : H d = some (.dT (encD l)))
    (q : Ex W [] G (upd H d (.dT [])) → D.nx σ (upd H d (.dT []))) : tDrop (tBM0 W.K "dict" rClearT (tOp (rIxL W.K) (tVar i) (tC (.int 0)))) D σ H :=
  ⟨.ref g, hs, g, _, 0, .ref d, rfl, rfl, SqL.of hg, rfl, .inr (.inr (.inl ⟨rfl, .inr ⟨_, hd⟩⟩)), d, _, rfl, rfl, hd, q (eG.mut0 okG hG)⟩
theorem s_app1 {d p g : Addr} {us : List V} {n : Int} {G : Hp} (okG : Ok W [] G) (hG : G p = none) (eG : Ex W [] G H) (hs : σ[i]? = some (some (.ref g))) (hg : H g = some (.lst [.ref d, .ref p])) (hp : H p = some (.lst us)) (hl : us.length ≤ 1000)
    (q : Ex W [] G (upd H p (.lst (us ++ [.int n]))) → D.nx σ (upd H p (.lst (us ++ [.int n])))) : tDrop (tBM W.K "list" rAppend (tOp (rIxL W.K) (tVar i) (tC (.int 1))) (tCons (tC (.int n)) tNil)) D σ H :=
  ⟨.ref g, hs, g, _, 1, .ref p, rfl, rfl, SqL.of hg, rfl, .inl ⟨rfl, us, SqL.of hp⟩, p, us, .int n, rfl, rfl, hp, sl (by omega), q (eG.mut0 okG hG)⟩
/-- {} -/
theorem ev_dnew : Ev W M tDNewT σ H (Di.mk []) := fun H1 e ok Q q p hp => q _ _ (Ex.new hp) (rep_di upd_same (ok.new_b hp) (ok.new_M hp))
theorem ev_asked {cs : List Col} (hb : Bs W σ i) (ha : Ev W [] ta σ H cs) (hm : Ev W [] tb σ H (Menu.mk cs)) (hP : Plain cs) (hp : prod cs ≤ 12) : Ev W [] (tCall (sp_law_menu_asked W.K W.C) [] E (tCons (tVar i) (tCons ta (tCons tb tNil)))) σ H true := fun H1 e ok Q q =>
  ⟨.ref W.b, hb, ha H1 e ok _ fun v H2 e2 r => hm H2 (e.trans e2) (ok.ex e2) _ fun u H3 e3 r3 => ⟨W, v, u, cs, rfl, rfl, rfl, (ok.ex e2).ex e3, r.up e3, r3, hP, hp, fun H4 e4 => q _ H4 ((e2.trans e3).trans e4) rep_bl⟩⟩
end
section
variable {α β γ : Type} [Py α] [Py β] [Py γ] {W : Wd} {M M' N : List Addr} {σ σ' : L2.St} {G H H1 H2 H' : Hp} {te ta tb tc tl : TE} {D : Ends} {i k : Nat}
/-- xs = [a, b], each one of several, the new list's address told -/
theorem s_lst2R {P R : α → Prop} (ok : Ok W M H) (ha : EvR W M ta σ H P) (hb : EvR W M tb σ H R) (q : ∀ v u x y p H', P x → R y → Ex W [] H H' → Ok W M H' → Rep W M H' v x → Rep W M H' u y → H' p = none → D.nx (σ.set k (some (.ref p))) (upd H' p (.lst [v, u]))) : tAsg (tLst (tCons ta (tCons tb tNil))) (gName k) D σ H :=
  ha H Ex.refl ok _ fun v x H2 px e2 r => hb H2 e2 (ok.ex e2) _ fun u y H3 py e3 r3 => ⟨by show 2 ≤ sizeLine; decide, fun p hp => q v u x y p H3 px py (e2.trans e3) ((ok.ex e2).ex e3) (r.up e3) r3 hp⟩
/-- if a drawn number == n: .., both ways meet again -/
theorem s_ifEqJ {P : Int → Prop} {n : Int} {J : L2.St → Hp → Prop} {t1 : TS} (ok : Ok W M H) (h : EvR W M ta σ H P) (hJ : ∀ σ' H', J σ' H' → D.nx σ' H') (h1 : (∀ σ' H', J σ' H' → D.nx σ' H') → ∀ H', Ex W [] H H' → Ok W M H' → t1 D σ H') (h2 : ∀ H', Ex W [] H H' → Ok W M H' → J σ H') :
    tIfS (tTest (tOp rEq ta (tC (.int n)))) t1 tNext D σ H :=
  h H Ex.refl ok _ fun v x H2 px e2 r2 => s_ifc (tt := tTest (tOp rEq (fun _ H Q => Q v H) (tC (.int n)))) (ok.ex e2) (et_t (ev_eq (x := x) (fun H3 e3 ok3 Q q => q v H3 Ex.refl (r2.up e3)) (ev_int (n := n)))) hJ (fun hJ _ H3 e3 ok3 => h1 hJ H3 (e2.trans e3) ok3) fun _ H3 e3 ok3 => h2 H3 (e2.trans e3) ok3
theorem Ex.dropM {p : Addr} (e : Ex W [] G H) (e2 : Ex W [p] H H') (hp : G p = none) : Ex W [] G H' :=
  ⟨fun a o n _ h => e2.keep a o n (fun hm => by rw [List.mem_singleton.mp hm, hp] at h; cases h) (e.keep a o n (by simp) h), fun a h => e2.some_ a (e.some_ a h), fun z => e2.bag (e.bag z)⟩
/-- xs[0] = e -/
theorem s_set0 {p : Addr} {v0 v1 : V} {x : α} (ok : Ok W [p] H) (hs : σ[k]? = some (some (.ref p))) (nb : p ≠ W.b) (nbl : p ≠ W.bl) (hp : H p = some (.lst [v0, v1])) (h : Ev W [p] te σ H x)
    (q : ∀ w H', Ex W [p] H H' → H' p = some (.lst [w, v1]) → Rep W [p] H' w x → D.nx σ H') : tAsg te (gSub (tVar k) (tC (.int 0)) rSetL) D σ H := by
  refine h H Ex.refl ok _ fun w H2 e2 r => ?_
  have em : Ex W [p] H2 (upd H2 p (.lst [w, v1])) := Ex.mut nb nbl (by simp)
  exact ⟨.ref p, hs, p, [v0, v1], 0, 0, rfl, rfl, e2.keep _ _ nb (by simp) hp |>.trans rfl, rfl, q w _ (e2.up.trans em) upd_same (r.ex em)⟩
end
/-- the first column's first worth is another one -/
theorem word_plain {c : Col} {cs : List Col} {z : Str} (h : Plain (c :: cs)) (hz : z = "put" ∨ z = "nothing") (hn : z ∉ c.2) : Plain ((c.1, z :: c.2.drop 1) :: cs) ∧ prod ((c.1, z :: c.2.drop 1) :: cs) = prod (c :: cs) := by
  have hc := h.col c (by simp)
  have hl : (z :: c.2.drop 1).length = c.2.length := by have := hc.l1; rw [List.length_cons, List.length_drop]; omega
  have hw : isWorth z = true ∧ z ≠ ("n0" : Str) ∧ z ≠ ("n0where" : Str) := by
    rcases hz with rfl | rfl <;> decide +kernel
  have ok : ColOk (c.1, z :: c.2.drop 1) := ⟨hc.name, by show 1 ≤ (z :: c.2.drop 1).length; rw [hl]; exact hc.l1, by show (z :: c.2.drop 1).length ≤ 12; rw [hl]; exact hc.l12, List.nodup_cons.mpr ⟨fun hm => hn (List.mem_of_mem_drop hm), hc.nd.sublist (List.drop_sublist _ _)⟩, fun y hy => by
    rcases List.mem_cons.mp hy with rfl | hy
    · exact hw
    · exact hc.ws y (List.mem_of_mem_drop hy)⟩
  have hN := (Plain.near h).set (i := 0) (c := c) (c' := (c.1, z :: c.2.drop 1)) rfl ok hl
  have hN : NearOk (c :: cs) ((c.1, z :: c.2.drop 1) :: cs) := hN
  exact ⟨hN.plain h h.nd, hN.pr⟩
/-! ### a dict told again, its keys mixed -/
theorem self_lookup : ∀ {l : List (List Str × Int)}, (l.map (·.1)).Nodup → l.map (fun p => (p.1, (l.lookup p.1).getD 0)) = l := fun {l} h => by
  refine Eq.trans (List.map_congr_left fun p hp => ?_) (List.map_id l)
  rw [mem_lookup h (show (p.1, p.2) ∈ l from hp)]; rfl
theorem mixed_dict {x : Di} {xs : List TupK} (hn : (x.kvs.map (·.1)).Nodup) (hp : xs.Perm (x.kvs.map fun p => TupK.mk p.1)) : ((xs.map fun k => (k, (x.kvs.lookup k.l).getD 0)).map fun p : TupK × Int => (p.1.l, p.2)).Perm x.kvs := by
  have h := hp.map fun k : TupK => (k.l, (x.kvs.lookup k.l).getD 0)
  rw [List.map_map] at h ⊢
  refine h.trans ?_
  have e : (x.kvs.map ((fun k : TupK => (k.l, (x.kvs.lookup k.l).getD 0)) ∘ fun p => TupK.mk p.1)) = x.kvs := self_lookup hn
  rw [e]
theorem nodup_tk {l : List (List Str × Int)} (h : (l.map (·.1)).Nodup) : (l.map fun p => TupK.mk p.1).Nodup := by
  unfold List.Nodup at h ⊢
  rw [List.pairwise_map] at h ⊢
  exact h.imp fun h e => h (TupK.mk.inj e)
theorem perm_lookup {l l' : List (List Str × Int)} (hn : (l.map (·.1)).Nodup) (hp : l'.Perm l) (k : List Str) : l'.lookup k = l.lookup k := by
  have hn' : (l'.map (·.1)).Nodup := (hp.map (·.1)).nodup_iff.mpr hn
  cases e : l.lookup k with
  | some n => exact mem_lookup hn' (hp.mem_iff.mpr (lookup_mem e))
  | none =>
    cases e' : l'.lookup k with
    | none => rfl
    | some n => rw [mem_lookup hn (hp.mem_iff.mp (lookup_mem e'))] at e; cases e
theorem perm_okD {m : Menu} {x x' : Di} (h : OkD m x) (hp : x'.kvs.Perm x.kvs) : OkD m x' := ⟨h.pl, h.p12, (hp.map (·.1)).nodup_iff.mpr h.nd, fun p hm => h.mem p (hp.mem_iff.mp hm), by rw [hp.length_eq]; exact h.len⟩
theorem perm_tab {m : Menu} {x x' : Di} (h : OkD m x) (hp : x'.kvs.Perm x.kvs) : tabOf m x' = tabOf m x := by
  unfold tabOf
  congr 1
  exact List.map_congr_left fun k _ => by rw [perm_lookup h.nd hp]
theorem rep_flat {n : Int} : ∀ k : Nat, (List.replicate k [n]).flatten = List.replicate k n
  | 0 => rfl
  | k + 1 => by rw [List.replicate_succ, List.flatten_cons, rep_flat k, List.replicate_succ]; rfl
theorem add_rep {m n : Int} : ∀ k : Nat, addL (List.replicate k m) (List.replicate k n) = List.replicate k (m + n)
  | 0 => rfl
  | k + 1 => by
    have ih := add_rep (m := m) (n := n) k
    unfold addL at ih ⊢
    rw [List.replicate_succ, List.replicate_succ, List.replicate_succ, List.zip_cons_cons, List.map_cons, ih]
theorem okT_rep {cs : List Col} {n : Int} (hP : Plain cs) (hp : prod cs ≤ 12) (h : 0 ≤ n) : OkT cs (List.replicate (kinds cs).length n) := ⟨hP, hp, by rw [List.length_replicate], fun m hm => by rw [List.eq_of_mem_replicate hm]; exact h⟩
end RG
namespace RG
open PySem PySem.Spec PyProof.Rows L2 StX RZ TL
/-! ### tests, in plain Lean -/
namespace Fm
def names : Fm → List Str
  | .all => []
  | .eq n _ => [n]
  | .alike n m => [n, m]
  | .not f => f.names
  | .and f g => f.names ++ g.names
  | .or f g => f.names ++ g.names
def steps : Fm → Nat
  | .all => 1
  | .eq _ _ => 1
  | .alike _ _ => 1
  | .not f => 1 + f.steps
  | .and f g => 1 + (f.steps + g.steps)
  | .or f g => 1 + (f.steps + g.steps)
def isT (d : List (Str × Str)) : Fm → Bool
  | .all => true
  | .eq n z => decide ((d.lookup n).getD "" = z)
  | .alike n m => decide ((d.lookup n).getD "" = (d.lookup m).getD "")
  | .not f => !f.isT d
  | .and f g => f.isT d && g.isT d
  | .or f g => f.isT d || g.isT d
def text : Fm → Str
  | .all => "all"
  | .eq n z => n ++ "=" ++ z
  | .alike n m => n ++ "~" ++ m
  | .not f => "not" ++ "(" ++ Txt.join ", " [f.text] ++ ")"
  | .and f g => "and" ++ "(" ++ Txt.join ", " [f.text, g.text] ++ ")"
  | .or f g => "or" ++ "(" ++ Txt.join ", " [f.text, g.text] ++ ")"
/-- names and worths that may stand in a test -/
def Ok : Fm → Prop
  | .all => True
  | .eq n z => isName n = true ∧ isWorth z = true
  | .alike n m => isName n = true ∧ isName m = true
  | .not f => f.Ok
  | .and f g => f.Ok ∧ g.Ok
  | .or f g => f.Ok ∧ g.Ok
/-- a menu has the columns and the worths -/
def Suits (cs : List Col) : Fm → Prop
  | .all => True
  | .eq n z => ∃ ws, cs.lookup n = some ws ∧ z ∈ ws
  | .alike n m => n ∈ cs.map Prod.fst ∧ m ∈ cs.map Prod.fst
  | .not f => f.Suits cs
  | .and f g => f.Suits cs ∧ g.Suits cs
  | .or f g => f.Suits cs ∧ g.Suits cs
theorem dp_pos (f : Fm) : 1 ≤ f.dp := by cases f <;> simp [dp]
theorem names_parts {f : Fm} (h : f.words = []) : f.names = f.parts.flatMap names := by
  cases f <;> simp [words, parts, names] at h ⊢
theorem steps_parts {f : Fm} (h : f.words = []) : f.steps = 1 + (f.parts.map steps).sum := by
  cases f <;> simp [words, parts, steps] at h ⊢
theorem parts_len (f : Fm) : f.parts.length ≤ 1000 := by cases f <;> simp [parts]
theorem parts_dp {f g : Fm} (h : g ∈ f.parts) : g.dp < f.dp := by
  cases f <;> simp [parts, dp] at h ⊢
  · subst h; omega
  · rcases h with rfl | rfl <;> omega
  · rcases h with rfl | rfl <;> omega
theorem text_parts {f : Fm} (h : f.words = []) (hn : f ≠ .all) : f.text = f.head ++ "(" ++ Txt.join ", " (f.parts.map text) ++ ")" := by
  cases f <;> simp [words, parts, text, head] at h hn ⊢
theorem steps_dp : ∀ f : Fm, f.steps + 1 ≤ 2 ^ f.dp
  | .all => by simp [steps, dp]
  | .eq _ _ => by simp [steps, dp]
  | .alike _ _ => by simp [steps, dp]
  | .not f => by
    have := steps_dp f
    simp only [steps, dp, Nat.pow_succ]; omega
  | .and f g => by
    have h1 := Nat.le_trans (steps_dp f) (Nat.pow_le_pow_right (by decide) (Nat.le_max_left f.dp g.dp))
    have h2 := Nat.le_trans (steps_dp g) (Nat.pow_le_pow_right (by decide) (Nat.le_max_right f.dp g.dp))
    simp only [steps, dp, Nat.pow_succ]; omega
  | .or f g => by
    have h1 := Nat.le_trans (steps_dp f) (Nat.pow_le_pow_right (by decide) (Nat.le_max_left f.dp g.dp))
    have h2 := Nat.le_trans (steps_dp g) (Nat.pow_le_pow_right (by decide) (Nat.le_max_right f.dp g.dp))
    simp only [steps, dp, Nat.pow_succ]; omega
theorem names_len : ∀ f : Fm, f.names.length ≤ 2 * f.steps
  | .all => by simp [names, steps]
  | .eq _ _ => by simp [names, steps]
  | .alike _ _ => by simp [names, steps]
  | .not f => by have := names_len f; simp only [names, steps]; omega
  | .and f g => by have := names_len f; have := names_len g; simp only [names, steps, List.length_append]; omega
  | .or f g => by have := names_len f; have := names_len g; simp only [names, steps, List.length_append]; omega
theorem parts_ok {f g : Fm} (h : f.Ok) (hg : g ∈ f.parts) : g.Ok := by
  cases f <;> simp [parts] at hg
  · subst hg; exact h
  · rcases hg with rfl | rfl
    · exact h.1
    · exact h.2
  · rcases hg with rfl | rfl
    · exact h.1
    · exact h.2
theorem head_len (f : Fm) : f.head.length ≤ 5 := by
  have : ("all" : Str).length = 3 ∧ ("equal" : Str).length = 5 ∧ ("alike" : Str).length = 5 ∧ ("not" : Str).length = 3 ∧ ("and" : Str).length = 3 ∧ ("or" : Str).length = 2 := by decide +kernel
  cases f <;> simp only [head] <;> omega
theorem name_le {z : Str} (h : isName z = true) : z.length ≤ 8 := (isWorth_len (isName_worth h)).1
theorem worth_le {z : Str} (h : isWorth z = true) : z.length ≤ 8 := (isWorth_len h).1
theorem text_le : ∀ {f : Fm}, f.Ok → f.text.length ≤ 20 * f.steps := by
  have l : (", " : Str).length = 2 ∧ ("(" : Str).length = 1 ∧ (")" : Str).length = 1 ∧ ("=" : Str).length = 1 ∧ ("~" : Str).length = 1 ∧ ("all" : Str).length = 3 ∧ ("not" : Str).length = 3 ∧ ("and" : Str).length = 3 ∧ ("or" : Str).length = 2 := by decide +kernel
  have jl : ∀ xs : List Str, (Txt.join ", " xs).length ≤ (xs.map (·.length)).sum + xs.length * 2 := fun xs => by
    rw [TL.join_eq]
    have := StrLaws.join_length_le ", " xs
    rw [l.1] at this
    exact this
  intro f
  induction f with
  | all => intro _; show ("all" : Str).length ≤ 20 * 1; omega
  | eq n z =>
    intro h
    have h1 := name_le h.1
    have h2 := worth_le h.2
    simp only [text, PySem.Str.length_append, steps]; omega
  | alike n m =>
    intro h
    have h1 := name_le h.1
    have h2 := name_le h.2
    simp only [text, PySem.Str.length_append, steps]; omega
  | not f ih =>
    intro h
    have h1 := ih h
    have h2 := jl [f.text]
    simp only [List.map_cons, List.map_nil, List.sum_cons, List.sum_nil, List.length_cons, List.length_nil] at h2
    simp only [text, PySem.Str.length_append, steps]; omega
  | and f g ih ih2 =>
    intro h
    have h1 := ih h.1
    have h3 := ih2 h.2
    have h2 := jl [f.text, g.text]
    simp only [List.map_cons, List.map_nil, List.sum_cons, List.sum_nil, List.length_cons, List.length_nil] at h2
    simp only [text, PySem.Str.length_append, steps]; omega
  | or f g ih ih2 =>
    intro h
    have h1 := ih h.1
    have h3 := ih2 h.2
    have h2 := jl [f.text, g.text]
    simp only [List.map_cons, List.map_nil, List.sum_cons, List.sum_nil, List.length_cons, List.length_nil] at h2
    simp only [text, PySem.Str.length_append, steps]; omega
theorem steps_64 {f : Fm} (h : f.dp ≤ 6) : f.steps ≤ 63 := by
  have h2 := f.steps_dp
  have h3 : 2 ^ f.dp ≤ 2 ^ 6 := Nat.pow_le_pow_right (by decide) h
  have h4 : (2 : Nat) ^ 6 = 64 := by decide
  omega
theorem text_len {f : Fm} (h : f.Ok) (h6 : f.dp ≤ 6) : f.text.length ≤ 2000 := by
  have := text_le h
  have := steps_64 h6
  omega
theorem parts_join {f : Fm} (h : f.Ok) (h6 : f.dp ≤ 6) : ((f.parts.map text).map (·.length)).sum + (f.parts.map text).length * (", " : Str).length ≤ 16777216 := by
  have l : (", " : Str).length = 2 := by decide +kernel
  have hp : ∀ g ∈ f.parts, g.text.length ≤ 2000 := fun g hg => text_len (parts_ok h hg) (by have := parts_dp hg; omega)
  rw [l]
  cases f <;> simp only [parts, List.map_cons, List.map_nil, List.sum_cons, List.sum_nil, List.length_cons, List.length_nil] at hp ⊢
  · decide
  · decide
  · decide
  · have := hp _ List.mem_cons_self; omega
  · have h1 := hp _ List.mem_cons_self
    have h2 := hp _ (List.mem_cons_of_mem _ List.mem_cons_self)
    omega
  · have h1 := hp _ List.mem_cons_self
    have h2 := hp _ (List.mem_cons_of_mem _ List.mem_cons_self)
    omega
end Fm
theorem emp_app (a : Str) : Str.empty ++ a = a := PySem.Str.empty_append a
structure Tst where
  f : Fm
  deriving DecidableEq
instance : Py Tst where
  rep W H v t := ∃ a dx vf, v = .ref a ∧ H a = some (.ins (W.C "Test") dx [("form", vf)]) ∧ Py.rep W H vf t.f
  mono l h := by
    obtain ⟨a, dx, vf, e, h1, h2⟩ := h
    exact ⟨a, dx, vf, e, l.ex _ _ h1, Py.mono l h2⟩
instance : PyO Tst where
  cn := "Test"
  fns := ["form"]
  ins h := by
    obtain ⟨a, dx, vf, e, h1, _⟩ := h
    exact ⟨a, dx, _, e, h1, rfl⟩
instance : Fyz Tst := ⟨fun q ⟨a, dx, vf, e, h1, h2⟩ => ⟨a, dx, vf, e, q _ _ h1 fy_ins, Fyz.fy q h2⟩⟩
section
variable {α β γ : Type} [Py α] [Py β] [Py γ] {W : Wd} {M M' N : List Addr} {σ σ' : L2.St} {H H1 H2 H' : Hp} {te ta tb tc tl : TE} {E : XK} {D : Ends} {k : Nat}
theorem ts_form {t : Tst} (ha : Ev W M ta σ H t) (c : Cls W.K (W.C "Test")) (n : NoAttr W.K (W.C "Test") "form") : Ev W M (tFld W.K ta "form") σ H t.f :=
  ev_fld ha c n fun {v H2} r {a dx fs} e hh => by
    obtain ⟨a', dx', vf, e', h1, h2⟩ := r
    subst e; cases e'
    rw [cut_at h1] at hh; cases hh
    exact ⟨vf, by rw [List.lookup_cons, beq_self_eq_true], h2⟩
/-! ### a new list, one of several -/
def EvNR (W : Wd) (M : List Addr) (te : TE) (σ : L2.St) (H : Hp) (P : List α → Prop) : Prop :=
  ∀ H1, Ex W [] H H1 → Ok W M H1 → ∀ Q : VK, (∀ p ys H2, P ys → H1 p = none → Ex W [] H1 H2 → Rep W M H2 (.ref p) ys → Q (.ref p) H2) → te σ H1 Q
theorem EvNR.evr {P : List α → Prop} (h : EvNR W M te σ H P) : EvR W M te σ H P := fun H1 e ok Q q => h H1 e ok Q fun p ys H2 py _ e2 r => q _ ys H2 py e2 r
def FN1 (K : PySem.W.Frag) (C : Str → Addr) (pre : α → Prop) (R : α → List β → Prop) : Sp := fun vs H Q _ => ∃ (W : Wd) (M : List Addr) (v : V) (x : α), W.K = K ∧ W.C = C ∧ vs = [v] ∧ Ok W M H ∧ Rep W M H v x ∧ pre x ∧ ∀ p ys H', R x ys → H p = none → Ex W [] H H' → Rep W M H' (.ref p) ys → Q (.ref p) H'
theorem evn_m0R {ω : Type} [PyO ω] {o : ω} {pre : ω → Prop} {R : ω → List β → Prop} {m : Str} (ha : Ev W M ta σ H o) (hp : pre o) (hm : (PyO.fns ω).contains m = false) : EvNR W M (tMeth (W.C (PyO.cn ω)) m (FN1 W.K W.C pre R) [] E ta tNil) σ H (R o) := fun H1 e ok Q q =>
  ha H1 e ok _ fun v H2 e2 r => by
    obtain ⟨a, dx, fs, ev, hh, hf⟩ := r.ins
    exact ⟨a, dx, fs, ev, hh, lookup_none (by rw [hf]; exact hm), W, M, _, o, rfl, rfl, rfl, ok.ex e2, r, hp, fun p ys H3 hR hn e3 rr => q p ys H3 hR (e2.free hn) (e2.trans e3) rr⟩
theorem evn_sortedSet {xs : List Str} (ha : Ev W M ta σ H xs) (h0 : xs.length ≤ 1000) (hl : (firsts xs).length < 64) : EvNR W M (tSortedSet W.K ta) σ H (fun ys : List Str => isSorted xs ys) := fun H1 e ok Q q =>
  ha H1 e ok _ fun v H2 e2 r => by
    obtain ⟨a, vs, ev, hh, _, _, pp⟩ := r.lst
    have ok2 := ok.ex e2
    exact ⟨a, xs, ev, SqL.of (by rw [hh, paired_toV pp]; rfl), ⟨h0, hl⟩, fun ys p h1 h2 hp => q p ys _ ⟨h1, h2⟩ (e2.free hp) (e2.trans (Ex.new hp)) (rep_lst upd_same (ok2.new_b hp) (ok2.new_M hp) (toV_paired (α := Str)))⟩
end
/-- the names of a test stand in the columns -/
def NamesIn (cs : List Col) (f : Fm) : Prop := ∀ n ∈ f.names, n ∈ cs.map Prod.fst
/-- what a kind shows -/
def seen (cs : List Col) (k : List Str) : List (Str × Str) := (cs.map Prod.fst).zip k
structure Fit (cs : List Col) (f : Fm) : Prop where
  pl : Plain cs
  p12 : prod cs ≤ 12
  dp : f.dp ≤ 6
  nm : NamesIn cs f
theorem nodup_sub {ω : Type} [DecidableEq ω] : ∀ {l m : List ω}, l.Nodup → (∀ x ∈ l, x ∈ m) → l.length ≤ m.length
  | [], m, _, _ => Nat.zero_le _
  | a :: t, m, h, hs => by
    obtain ⟨h1, h2⟩ := List.nodup_cons.mp h
    have h3 := nodup_sub (l := t) (m := m.erase a) h2 fun x hx => (List.mem_erase_of_ne (show x ≠ a from fun e => h1 (e ▸ hx))).mpr (hs x (List.mem_cons_of_mem _ hx))
    have ha := hs a (by simp)
    rw [List.length_erase_of_mem ha] at h3
    have := List.length_pos_of_mem ha
    rw [List.length_cons]
    omega
theorem Fit.few {cs : List Col} {f : Fm} (h : Fit cs f) : (firsts f.names).length < 64 := by
  have h1 : (firsts f.names).length ≤ (cs.map Prod.fst).length := nodup_sub firsts_nodup fun x hx => h.nm x (firsts_mem.mp hx)
  have := h.pl.l3
  rw [List.length_map] at h1
  omega
theorem names_1000 {f : Fm} (h : f.dp ≤ 6) : f.names.length ≤ 1000 := by
  have h1 := f.names_len
  have h2 := f.steps_dp
  have h3 : 2 ^ f.dp ≤ 2 ^ 6 := Nat.pow_le_pow_right (by decide) h
  have h4 : (2 : Nat) ^ 6 = 64 := by decide
  omega
theorem lookup_zip_some {ω : Type} {κ : Str} : ∀ {l : List Str} {m : List ω}, l.length = m.length → κ ∈ l → ((l.zip m).lookup κ).isSome = true
  | [], _, _, h => by cases h
  | _ :: _, [], h, _ => by cases h
  | a :: l, b :: m, h, hm => by
    rw [List.zip_cons_cons, List.lookup_cons]
    by_cases e : κ = a
    · subst e; rw [beq_self_eq_true]; rfl
    · rw [beq_eq_false_iff_ne.mpr e]
      exact lookup_zip_some (by simpa using h) ((List.mem_cons.mp hm).resolve_left e)
theorem seen_some {cs : List Col} {f : Fm} {k : List Str} (h : NamesIn cs f) (hk : k ∈ kinds cs) : ∀ n ∈ f.names, ((seen cs k).lookup n).isSome = true := fun n hn =>
  lookup_zip_some (by rw [List.length_map, kind_len hk]) (h n hn)
theorem name_len {z : Str} (h : isName z = true) : z.length ≤ 1000 := by have := isWorth_len (isName_worth h); omega
theorem worth_len {z : Str} (h : isWorth z = true) : z.length ≤ 1000 := by have := isWorth_len h; omega
theorem Fm.kind (f : Fm) : (∃ n z, f = .eq n z) ∨ (∃ n m, f = .alike n m) ∨ (f.words = [] ∧ f.head ≠ "equal" ∧ f.head ≠ "alike") := by
  have w1 : ("all" : Str) ≠ "equal" ∧ ("all" : Str) ≠ "alike" ∧ ("not" : Str) ≠ "equal" ∧ ("not" : Str) ≠ "alike" ∧ ("and" : Str) ≠ "equal" ∧ ("and" : Str) ≠ "alike" ∧ ("or" : Str) ≠ "equal" ∧ ("or" : Str) ≠ "alike" := by decide +kernel
  cases f with
  | eq n z => exact .inl ⟨n, z, rfl⟩
  | alike n z => exact .inr (.inl ⟨n, z, rfl⟩)
  | all => exact .inr (.inr ⟨rfl, w1.1, w1.2.1⟩)
  | not f => exact .inr (.inr ⟨rfl, w1.2.2.1, w1.2.2.2.1⟩)
  | and f g => exact .inr (.inr ⟨rfl, w1.2.2.2.2.1, w1.2.2.2.2.2.1⟩)
  | or f g => exact .inr (.inr ⟨rfl, w1.2.2.2.2.2.2.1, w1.2.2.2.2.2.2.2⟩)
section
variable {W : Wd} {M : List Addr} {σ : L2.St} {H : Hp} {ta tb : TE} {f g : Fm}
theorem ev_mkNot (h1 : Ev W M tb σ H f) : Ev W M (tTup (tCons (tC (.str "not")) (tCons tb tNil))) σ H (Fm.not f) := (evr_mkNot ev_str h1.r).ev (by rintro y ⟨x, rfl, e⟩; exact e)
theorem ev_mkAnd (h1 : Ev W M ta σ H f) (h2 : Ev W M tb σ H g) : Ev W M (tTup (tCons (tC (.str "and")) (tCons ta (tCons tb tNil)))) σ H (Fm.and f g) := (evr_mk2 (h := true) ev_str h1.r h2.r).ev (by rintro y ⟨x, z, rfl, rfl, e⟩; exact e)
theorem ev_mkOr (h1 : Ev W M ta σ H f) (h2 : Ev W M tb σ H g) : Ev W M (tTup (tCons (tC (.str "or")) (tCons ta (tCons tb tNil)))) σ H (Fm.or f g) := (evr_mk2 (h := false) ev_str h1.r h2.r).ev (by rintro y ⟨x, z, rfl, rfl, e⟩; exact e)
end
section
variable {W : Wd} {M : List Addr} {σ : L2.St} {H : Hp} {ta tb : TE}
/-- what isinstance(x, C) asks of an own class -/
structure IsC (K : PySem.W.Frag) (C : Addr) : Prop where
  cl : Cls K C
  f1 : PySem.W.findIn K (.ref C) "__class__" = some (some (.builtin "object.__class__"))
  f2 : PySem.W.specialIn K (.builtin "object.__class__") "__get__" = some (some (.builtin "getset_descriptor.__get__"))
  f3 : PySem.W.takesIn K (.builtin "object.__class__") = some true
  f4 : PySem.W.mroIn K C (.type "object") = some true
theorem ev_isTest {t : Tst} (i : IsC W.K (W.C "Test")) (ha : Ev W M ta σ H t) : Ev W M (tCB (rIsi W.K) (tCons ta (tCons (tC (.ref (W.C "Test"))) tNil))) σ H true :=
  ev_isi (t := .ref (W.C "Test")) ha (fun v H2 r => by
    obtain ⟨a, dx, vf, e, h1, _⟩ := r
    subst e
    exact .base (.ins (cut_at h1) i.cl i.f1 i.f2 i.f3 i.f4)) (.own (W.C "Test")) (by unfold PySem.W.kitOne; rw [if_pos (beq_self_eq_true _)])
end
theorem suits_look {cs : List Col} {n : Str} : ∀ {ws : List Str}, cs.lookup n = some ws → (cs.map toT).lookup n = some (Tup.mk ws) := by
  intro ws
  induction cs with
  | nil => intro h; cases h
  | cons c t ih =>
    obtain ⟨a, b⟩ := c
    rw [List.map_cons, List.lookup_cons]
    show _ → (match n == a with | true => some (Tup.mk b) | false => (t.map toT).lookup n) = _
    by_cases e : n = a
    · subst e; rw [beq_self_eq_true]; intro h; cases h; rfl
    · rw [beq_eq_false_iff_ne.mpr e]; exact ih
theorem suits_in {cs : List Col} {n : Str} (h : n ∈ cs.map Prod.fst) : ((cs.map toT).lookup n).isSome = true := by
  induction cs with
  | nil => cases h
  | cons c t ih =>
    obtain ⟨a, b⟩ := c
    rw [List.map_cons, List.lookup_cons]
    show (match n == a with | true => some (Tup.mk b) | false => (t.map toT).lookup n).isSome = true
    by_cases e : n = a
    · subst e; rw [beq_self_eq_true]; rfl
    · rw [beq_eq_false_iff_ne.mpr e]; exact ih ((List.mem_cons.mp h).resolve_left e)
theorem Fm.parts_suits {cs : List Col} {f g : Fm} (h : f.Suits cs) (hg : g ∈ f.parts) : g.Suits cs := by
  cases f <;> simp [Fm.parts] at hg
  · subst hg; exact h
  · rcases hg with rfl | rfl
    · exact h.1
    · exact h.2
  · rcases hg with rfl | rfl
    · exact h.1
    · exact h.2
abbrev sp_suits (n : Nat) (K : PySem.W.Frag) (C : Str → Addr) : Sp := F2 K C (fun (m : Menu) (f : Fm) => f.dp ≤ n ∧ Plain m.cols ∧ f.Suits m.cols) fun _ _ => true
abbrev sp_names_in (n : Nat) (K : PySem.W.Frag) (C : Str → Addr) : Sp := F1 K C (fun f : Fm => f.dp ≤ n ∧ f.dp ≤ 6) Fm.names
abbrev sp_steps_of (n : Nat) (K : PySem.W.Frag) (C : Str → Addr) : Sp := F1 K C (fun f : Fm => f.dp ≤ n) fun f => (f.steps : Int)
abbrev sp_is_true (n : Nat) (K : PySem.W.Frag) (C : Str → Addr) : Sp := F2 K C (fun (f : Fm) (d : Dm Str) => f.dp ≤ n ∧ ∀ m ∈ f.names, (d.kvs.lookup m).isSome = true) fun f d => f.isT d.kvs
abbrev sp_text_of (n : Nat) (K : PySem.W.Frag) (C : Str → Addr) : Sp := F1 K C (fun f : Fm => f.dp ≤ n ∧ f.dp ≤ 6 ∧ f.Ok) Fm.text
section
variable (K : PySem.W.Frag) (C : Str → Addr)
abbrev sp_Test_init : Sp := I1 K C "Test" (fun _ : Fm => True) Tst.mk
def sp_Test_always : Sp := fun vs H Q _ => ∃ (W : Wd) (M : List Addr), W.K = K ∧ W.C = C ∧ vs = [.ref (C "Test")] ∧ Ok W M H ∧ ∀ r H', Ex W [] H H' → Rep W M H' r (Tst.mk .all) → Q r H'
def sp_Test_equal : Sp := fun vs H Q _ => ∃ (W : Wd) (M : List Addr) (n z : Str), W.K = K ∧ W.C = C ∧ vs = [.ref (C "Test"), .str n, .str z] ∧ Ok W M H ∧ isName n = true ∧ isWorth z = true ∧ ∀ r H', Ex W [] H H' → Rep W M H' r (Tst.mk (.eq n z)) → Q r H'
def sp_Test_alike : Sp := fun vs H Q _ => ∃ (W : Wd) (M : List Addr) (n z : Str), W.K = K ∧ W.C = C ∧ vs = [.ref (C "Test"), .str n, .str z] ∧ Ok W M H ∧ isName n = true ∧ isName z = true ∧ ∀ r H', Ex W [] H H' → Rep W M H' r (Tst.mk (.alike n z)) → Q r H'
def sp_Test_read : Sp := fun vs H Q _ => ∃ (W : Wd) (M : List Addr) (f : Fm), W.K = K ∧ W.C = C ∧ vs = [.ref (C "Test"), .str f.text] ∧ Ok W M H ∧ f.Ok ∧ f.dp ≤ 5 ∧ ∀ r H', Ex W [] H H' → Rep W M H' r (Tst.mk f) → Q r H'
abbrev sp_Test_and : Sp := F2 K C (fun _ _ : Tst => True) fun t u => Tst.mk (.and t.f u.f)
abbrev sp_Test_or : Sp := F2 K C (fun _ _ : Tst => True) fun t u => Tst.mk (.or t.f u.f)
abbrev sp_Test_invert : Sp := F1 K C (fun _ : Tst => True) fun t => Tst.mk (.not t.f)
abbrev sp_Test_names : Sp := FN1 K C (fun t : Tst => t.f.dp ≤ 6 ∧ (firsts t.f.names).length < 64) fun t ys => isSorted t.f.names ys
abbrev sp_Test_check_menu : Sp := F2 K C (fun (t : Tst) (m : Menu) => Fit m.cols t.f) fun _ _ => ()
abbrev sp_Test_on : Sp := F2 K C (fun (t : Tst) (m : Menu) => Fit m.cols t.f) fun t m => Tup.mk ((kindsT m).l.filter fun k => t.f.isT (seen m.cols k.l))
abbrev sp_Test_call : Sp := F3 K C (fun (t : Tst) (m : Menu) (k : TupK) => Fit m.cols t.f ∧ k.l ∈ kinds m.cols) fun t m k => t.f.isT (seen m.cols k.l)
abbrev sp_Test_text : Sp := F1 K C (fun t : Tst => t.f.Ok ∧ t.f.dp ≤ 6) fun t => t.f.text
abbrev sp_Test_same : Sp := F2 K C (fun t u : Tst => t.f.dp ≤ 8 ∧ u.f.dp ≤ 8) fun t u => decide (t.f = u.f)
abbrev sp_kinds_where : Sp := F2 K C (fun (m : Menu) (t : Tst) => Fit m.cols t.f ∧ t.f.Suits m.cols) fun m t => Tup.mk ((kindsT m).l.filter fun k => t.f.isT (seen m.cols k.l))
abbrev sp_seen_kind : Sp := F2 K C (fun (m : Menu) (k : TupK) => Plain m.cols ∧ k.l ∈ kinds m.cols) fun m k => Dm.mk (seen m.cols k.l)
end
end RG
namespace RG
open PySem PySem.Spec PyProof.Rows L2 StX RZ TL
/-! ### texts of tests, in plain Lean -/
/-- a letter or a figure -/
def ld (c : Nat) : Bool := inS lettersS ⟨#[c]⟩ || inS digitsS ⟨#[c]⟩
def Ld (l : List Nat) : Prop := ∀ c ∈ l, ld c = true
def Stop (l : List Nat) : Prop := ∀ c t, l = c :: t → ld c = false
theorem ld_no : ld 61 = false ∧ ld 126 = false ∧ ld 40 = false ∧ ld 41 = false ∧ ld 44 = false ∧ ld 32 = false := by decide +kernel
theorem worth_ld {z : Str} (h : isWorth z = true) : Ld (tl z) := fun c hc => by
  unfold isWorth at h
  simp only [Bool.and_eq_true, List.all_map, List.all_eq_true, Function.comp, id] at h
  exact h.2 ⟨#[c]⟩ (by unfold signs; exact List.mem_map_of_mem hc)
theorem name_ld {z : Str} (h : isName z = true) : Ld (tl z) := worth_ld (isName_worth h)
theorem words_ld : Ld (tl "all") ∧ Ld (tl "not") ∧ Ld (tl "and") ∧ Ld (tl "or") := by
  unfold Ld; decide +kernel
theorem cut_mid {z : Str} {pre mid post : List Nat} (h : tl z = pre ++ (mid ++ post)) {a b : Int} (ha : a = pre.length) (hb : b = pre.length + mid.length) : tl (cutS z (some a) (some b)) = mid := by
  have hl : z.length = pre.length + (mid.length + post.length) := by rw [len_tl, h, List.length_append, List.length_append]
  subst ha
  have hb' : b = ((pre.length + mid.length : Nat) : Int) := by rw [hb]; push_cast; rfl
  unfold cutS
  rw [tl_mk, hb', HT.sIx_nat, HT.sIx_nat]
  show ((tl z).drop _).take _ = _
  rw [h, hl, Nat.min_eq_left (by omega), Nat.min_eq_left (by omega), List.drop_left, show pre.length + mid.length - pre.length = mid.length by omega, List.take_left]
theorem cut_end {z : Str} {a b : Int} (ha : a = (tl z).length) (hb : b = (tl z).length + 1) : tl (cutS z (some a) (some b)) = [] := by
  have hl : z.length = (tl z).length := len_tl z
  subst ha
  have hb' : b = (((tl z).length + 1 : Nat) : Int) := by rw [hb]; push_cast; rfl
  unfold cutS
  rw [tl_mk, hb', HT.sIx_nat, HT.sIx_nat, hl, Nat.min_eq_left (Nat.le_refl _), Nat.min_eq_right (by omega), Nat.sub_self, List.take_zero]
theorem at_mid {z : Str} {pre : List Nat} {c : Nat} {post : List Nat} (h : tl z = pre ++ (c :: post)) {a : Int} (ha : a = pre.length) : atI z.cps.toList a = some c := by
  subst ha
  refine atI_nat ?_
  show (tl z)[pre.length]? = _
  rw [h, List.getElem?_append_right (Nat.le_refl _), Nat.sub_self]; rfl
/-- the parts of a test, with the marks between and the bracket behind -/
def body : List Fm → List Nat
  | [] => []
  | [f] => tl f.text ++ [41]
  | f :: g :: t => tl f.text ++ ([44, 32] ++ body (g :: t))
theorem body_join : ∀ {fs : List Fm}, fs ≠ [] → tl (Txt.join ", " (fs.map Fm.text)) ++ [41] = body fs := by
  have h0 : tl (", " : Str) = [44, 32] := by decide +kernel
  intro fs
  induction fs with
  | nil => intro h; exact absurd rfl h
  | cons f t ih =>
    intro _
    cases t with
    | nil =>
      rw [TL.join_eq]; rfl
    | cons g t =>
      have := ih (fun z => nomatch z)
      rw [TL.join_eq] at this ⊢
      show tl (f.text ++ ", " ++ Str.join ", " ((g :: t).map Fm.text)) ++ [41] = _
      rw [tl_append, tl_append, h0, List.append_assoc, List.append_assoc, this]; rfl
theorem text_body {f : Fm} (h : f.words = []) (hn : f ≠ .all) (hp : f.parts ≠ []) : tl f.text = tl f.head ++ (40 :: body f.parts) := by
  have h1 : tl ("(" : Str) = [40] ∧ tl (")" : Str) = [41] := by decide +kernel
  rw [Fm.text_parts h hn, tl_append, tl_append, tl_append, h1.1, h1.2, List.append_assoc, body_join hp, List.append_assoc]; rfl
/-- what may stand behind a test's text -/
def After (l : List Nat) : Prop := l = [] ∨ ∃ c t, l = c :: t ∧ (c = 41 ∨ c = 44)
theorem After.stop {l : List Nat} (h : After l) : Stop l := fun c t e => by
  rcases h with rfl | ⟨d, u, rfl, rfl | rfl⟩
  · cases e
  · cases e; exact ld_no.2.2.2.1
  · cases e; exact ld_no.2.2.2.2.1
section
variable (K : PySem.W.Frag) (C : Str → Addr)
def sp_word_at : Sp := fun vs H Q _ => ∃ (W : Wd) (M : List Addr) (z s : Str) (pre post : List Nat), W.K = K ∧ W.C = C ∧ vs = [.str z, .int (pre.length : Int)] ∧ Ok W M H ∧ tl z = pre ++ (tl s ++ post) ∧ Ld (tl s) ∧ Stop post ∧ z.length ≤ 100000 ∧ ∀ H', Ex W [] H H' → Q (.str s) H'
def sp_leaf_of : Sp := fun vs H Q _ => ∃ (W : Wd) (M : List Addr) (n z : Str) (f : Fm) (sign : Str), W.K = K ∧ W.C = C ∧ vs = [.str n, .str sign, .str z] ∧ Ok W M H ∧ f.Ok ∧ (f = .eq n z ∧ sign = "=" ∨ f = .alike n z ∧ sign = "~") ∧ ∀ r H', Ex W [] H H' → Rep W M H' r f → Q r H'
end
def sp_part_at (n : Nat) (K : PySem.W.Frag) (C : Str → Addr) : Sp := fun vs H Q _ => ∃ (W : Wd) (M : List Addr) (z : Str) (f : Fm) (pre post : List Nat), W.K = K ∧ W.C = C ∧ vs = [.str z, .int (pre.length : Int)] ∧ Ok W M H ∧ tl z = pre ++ (tl f.text ++ post) ∧ f.dp ≤ n ∧ f.Ok ∧ After post ∧ z.length ≤ 100000 ∧
  ∀ r H', Ex W [] H H' → Rep W M H' r (f, ((pre.length + (tl f.text).length : Nat) : Int)) → Q r H'
def sp_parts_at (n : Nat) (K : PySem.W.Frag) (C : Str → Addr) : Sp := fun vs H Q _ => ∃ (W : Wd) (M : List Addr) (z : Str) (fs : List Fm) (pre post : List Nat), W.K = K ∧ W.C = C ∧ vs = [.str z, .int (pre.length : Int), .int (fs.length : Int)] ∧ Ok W M H ∧ tl z = pre ++ (body fs ++ post) ∧ fs ≠ [] ∧ fs.length ≤ 2 ∧ (∀ f ∈ fs, f.dp ≤ n ∧ f.Ok) ∧ z.length ≤ 100000 ∧
  ∀ r H', Ex W [] H H' → Rep W M H' r (fs, ((pre.length + (body fs).length : Nat) : Int)) → Q r H'
section
variable {W : Wd} {M : List Addr} {σ : L2.St} {H : Hp} {ta tb tc : TE} {E : XK}
theorem ev_wordAt {z s : Str} {pre post : List Nat} {n : Int} (ha : Ev W M ta σ H z) (hb : Ev W M tb σ H n) (hn : n = pre.length) (hz : tl z = pre ++ (tl s ++ post)) (h1 : Ld (tl s)) (h2 : Stop post) (hl : z.length ≤ 100000) : Ev W M (tCall (sp_word_at W.K W.C) [] E (tCons ta (tCons tb tNil))) σ H s := fun H1 e ok Q q =>
  ha H1 e ok _ fun v H2 e2 r => hb H2 (e.trans e2) (ok.ex e2) _ fun u H3 e3 r3 => ⟨W, M, z, s, pre, post, rfl, rfl, by cases (show v = .str z from r); cases (show u = .int n from r3); subst hn; rfl, (ok.ex e2).ex e3, hz, h1, h2, hl, fun H4 e4 => q _ H4 ((e2.trans e3).trans e4) rep_str⟩
theorem ev_leafOf {n z sign : Str} {f : Fm} (ha : Ev W M ta σ H n) (hb : Ev W M tb σ H sign) (hc : Ev W M tc σ H z) (hO : f.Ok) (hf : f = .eq n z ∧ sign = "=" ∨ f = .alike n z ∧ sign = "~") : Ev W M (tCall (sp_leaf_of W.K W.C) [] E (tCons ta (tCons tb (tCons tc tNil)))) σ H f := fun H1 e ok Q q =>
  ha H1 e ok _ fun v H2 e2 r => hb H2 (e.trans e2) (ok.ex e2) _ fun u H3 e3 r3 => hc H3 ((e.trans e2).trans e3) ((ok.ex e2).ex e3) _ fun x H4 e4 r4 =>
    ⟨W, M, n, z, f, sign, rfl, rfl, by cases (show v = .str n from r); cases (show u = .str sign from r3); cases (show x = .str z from r4); rfl, ((ok.ex e2).ex e3).ex e4, hO, hf, fun t H5 e5 rr => q t H5 (((e2.trans e3).trans e4).trans e5) rr⟩
theorem ev_partAt {k : Nat} {z : Str} {f : Fm} {pre post : List Nat} {n : Int} (ha : Ev W M ta σ H z) (hb : Ev W M tb σ H n) (hn : n = pre.length) (hz : tl z = pre ++ (tl f.text ++ post)) (h1 : f.dp ≤ k) (h2 : f.Ok) (h3 : After post) (hl : z.length ≤ 100000) :
    Ev W M (tCall (sp_part_at k W.K W.C) [] E (tCons ta (tCons tb tNil))) σ H (f, ((pre.length + (tl f.text).length : Nat) : Int)) := fun H1 e ok Q q =>
  ha H1 e ok _ fun v H2 e2 r => hb H2 (e.trans e2) (ok.ex e2) _ fun u H3 e3 r3 => ⟨W, M, z, f, pre, post, rfl, rfl, by cases (show v = .str z from r); cases (show u = .int n from r3); subst hn; rfl, (ok.ex e2).ex e3, hz, h1, h2, h3, hl, fun t H4 e4 rr => q t H4 ((e2.trans e3).trans e4) rr⟩
theorem ev_partsAt {k : Nat} {z : Str} {fs : List Fm} {pre post : List Nat} {n m : Int} (ha : Ev W M ta σ H z) (hb : Ev W M tb σ H n) (hc : Ev W M tc σ H m) (hn : n = pre.length) (hm : m = fs.length) (hz : tl z = pre ++ (body fs ++ post)) (h0 : fs ≠ []) (h2 : fs.length ≤ 2) (h1 : ∀ f ∈ fs, f.dp ≤ k ∧ f.Ok) (hl : z.length ≤ 100000) :
    Ev W M (tCall (sp_parts_at k W.K W.C) [] E (tCons ta (tCons tb (tCons tc tNil)))) σ H (fs, ((pre.length + (body fs).length : Nat) : Int)) := fun H1 e ok Q q =>
  ha H1 e ok _ fun v H2 e2 r => hb H2 (e.trans e2) (ok.ex e2) _ fun u H3 e3 r3 => hc H3 ((e.trans e2).trans e3) ((ok.ex e2).ex e3) _ fun x H4 e4 r4 => ⟨W, M, z, fs, pre, post, rfl, rfl, by cases (show v = .str z from r); cases (show u = .int n from r3); cases (show x = .int m from r4); subst hn; subst hm; rfl, ((ok.ex e2).ex e3).ex e4, hz, h0, h2, h1, hl, fun t H5 e5 rr => q t H5 (((e2.trans e3).trans e4).trans e5) rr⟩
end
/-! ### what stands at the beginning of a test's text -/
namespace Fm
def nmW : Fm → Str
  | .all => "all"
  | .eq n _ => n
  | .alike n _ => n
  | .not _ => "not"
  | .and _ _ => "and"
  | .or _ _ => "or"
def rst : Fm → List Nat
  | .all => []
  | .eq _ z => 61 :: tl z
  | .alike _ m => 126 :: tl m
  | .not f => 40 :: body [f]
  | .and f g => 40 :: body [f, g]
  | .or f g => 40 :: body [f, g]
theorem text_split (f : Fm) : tl f.text = tl f.nmW ++ f.rst := by
  have h1 : tl ("=" : Str) = [61] ∧ tl ("~" : Str) = [126] := by decide +kernel
  cases f with
  | all => show tl ("all" : Str) = tl ("all" : Str) ++ []; rw [List.append_nil]
  | eq n z => show tl (n ++ "=" ++ z) = tl n ++ (61 :: tl z); rw [tl_append, tl_append, h1.1, List.append_assoc]; rfl
  | alike n z => show tl (n ++ "~" ++ z) = tl n ++ (126 :: tl z); rw [tl_append, tl_append, h1.2, List.append_assoc]; rfl
  | not f => exact text_body rfl (fun z => nomatch z) (fun z => nomatch z)
  | and f g => exact text_body rfl (fun z => nomatch z) (fun z => nomatch z)
  | or f g => exact text_body rfl (fun z => nomatch z) (fun z => nomatch z)
theorem nm_ld {f : Fm} (h : f.Ok) : Ld (tl f.nmW) := by
  cases f with
  | all => exact words_ld.1
  | eq n z => exact name_ld h.1
  | alike n z => exact name_ld h.1
  | not f => exact words_ld.2.1
  | and f g => exact words_ld.2.2.1
  | or f g => exact words_ld.2.2.2
theorem rst_stop {f : Fm} {post : List Nat} (h : After post) : Stop (f.rst ++ post) := by
  cases f with
  | all => exact h.stop
  | eq n z => intro c t e; injection e with e _; rw [← e]; exact ld_no.1
  | alike n z => intro c t e; injection e with e _; rw [← e]; exact ld_no.2.1
  | not f => intro c t e; injection e with e _; rw [← e]; exact ld_no.2.2.1
  | and f g => intro c t e; injection e with e _; rw [← e]; exact ld_no.2.2.1
  | or f g => intro c t e; injection e with e _; rw [← e]; exact ld_no.2.2.1
end Fm
theorem cut_one {z : Str} {pre r : List Nat} (h : tl z = pre ++ r) {a b : Int} (ha : a = pre.length) (hb : b = pre.length + 1) : tl (cutS z (some a) (some b)) = r.take 1 := by
  cases r with
  | nil =>
    rw [List.append_nil] at h
    exact cut_end (by rw [ha, h]) (by rw [hb, h])
  | cons c t => exact cut_mid (mid := [c]) (post := t) h ha (by rw [hb]; rfl)
section
variable {α β : Type} [Py α] [Py β] {W : Wd} {M : List Addr} {σ : L2.St} {H : Hp} {ta tb tc : TE} {E : XK} {t : TT}
theorem ev_isNoneF {f : Fm} (ha : Ev W M ta σ H f) : Ev W M (tOp (fun x y H Q => y = V.non ∧ Q (V.bl (decide (x = V.non))) H) ta (tC .non)) σ H false := fun H1 e ok Q q =>
  ha H1 e ok _ fun v H2 e2 r => by
    obtain ⟨a, us, rfl, _⟩ := r.fm
    exact ⟨rfl, by rw [decide_eq_false (fun z => nomatch z)]; exact q _ H2 e2 rep_bl⟩
theorem ev_isNoneP {x : α × β} (ha : Ev W M ta σ H x) : Ev W M (tOp (fun x y H Q => y = V.non ∧ Q (V.bl (decide (x = V.non))) H) ta (tC .non)) σ H false := fun H1 e ok Q q =>
  ha H1 e ok _ fun v H2 e2 r => by
    obtain ⟨a, v1, v2, rfl, _⟩ := r.pair
    exact ⟨rfl, by rw [decide_eq_false (fun z => nomatch z)]; exact q _ H2 e2 rep_bl⟩
theorem ev_ifF {x : α} (h : Et W M t σ H false) (hb : Ev W M tb σ H x) : Ev W M (tIf t ta tb) σ H x := (ev_ife (x := x) h (fun z => nomatch z) fun _ => hb).is (by simp)
theorem ev_ifT {x : α} (h : Et W M t σ H true) (hb : Ev W M ta σ H x) : Ev W M (tIf t ta tb) σ H x := (ev_ife (y := x) h (fun _ => hb) (fun z => nomatch z)).is (by simp)
/-- (head, *parts) -/
theorem ev_mkParts {f : Fm} (hw : f.words = []) (ha : Ev W M ta σ H f.head) (hb : Ev W M tb σ H f.parts) : Ev W M (tTup (tCons ta (tStar W.K tb tNil))) σ H f := fun H1 e ok Q q =>
  ha H1 e ok _ fun v H2 e2 r => hb H2 (e.trans e2) (ok.ex e2) _ fun u H3 e3 r3 => by
    cases (show v = .str f.head from r)
    obtain ⟨a, us, rfl, hh, _, _, pp⟩ := r3.lst
    have ok3 := (ok.ex e2).ex e3
    have hu : us.length ≤ 2 := by rw [Pd.length pp]; cases f <;> simp [Fm.parts]
    refine ⟨a, us, rfl, .inr (SqL.of hh), ?_, fun p hp => q _ _ ((e2.trans e3).trans (Ex.new hp)) ?_⟩
    · rw [List.append_nil, List.length_cons]; exact sz (by omega)
    · rw [List.append_nil]
      have hq : cut W M (upd H3 p (.tup (V.str f.head :: us))) p = some (.tup (V.str f.head :: us)) := cut_some.mpr ⟨ok3.new_b hp, ok3.new_M hp, upd_same⟩
      have pq := Pd.mono pp fun _ _ r => r.up (Ex.new (o := .tup (V.str f.head :: us)) hp)
      cases f with
      | all => cases pq; exact ⟨p, rfl, hq⟩
      | eq _ _ => cases hw
      | alike _ _ => cases hw
      | not f =>
        cases pq with
        | cons r1 pq => cases pq; exact ⟨p, _, rfl, hq, r1⟩
      | and f g =>
        cases pq with
        | cons r1 pq => cases pq with | cons r2 pq => cases pq; exact ⟨p, _, _, rfl, hq, r1, r2⟩
      | or f g =>
        cases pq with
        | cons r1 pq => cases pq with | cons r2 pq => cases pq; exact ⟨p, _, _, rfl, hq, r1, r2⟩
/-- {"not": 1, "and": 2, "or": 2}.get(name, 0) -/
theorem ev_many {n : Str} (ha : Ev W M ta σ H n) : Ev W M (tDGet2 (tDisp [(tC (.str "not"), tC (.int 1)), (tC (.str "and"), tC (.int 2)), (tC (.str "or"), tC (.int 2))]) ta (tC (.int 0))) σ H (([(("not" : Str), (1 : Int)), ("and", 2), ("or", 2)].lookup n).getD 0) := fun H1 e ok Q q => by
  have hne : ([(("not" : Str), V.int 1), ("and", V.int 2), ("or", V.int 2)].map Prod.fst).Nodup := by decide +kernel
  have hm : mergeK [] (encM [(("not" : Str), V.int 1), ("and", V.int 2), ("or", V.int 2)]) = encM [(("not" : Str), V.int 1), ("and", V.int 2), ("or", V.int 2)] := merge_new (acc := []) (by rw [List.nil_append]; exact hne)
  intro p hp
  refine ⟨upd_same, encM [(("not" : Str), V.int 1), ("and", V.int 2), ("or", V.int 2)], rfl, by decide, ?_⟩
  rw [hm]
  have e2 : Ex W [] H1 (upd (upd H1 p (.dK [])) p (.dK (encM [(("not" : Str), V.int 1), ("and", V.int 2), ("or", V.int 2)]))) := (Ex.new hp).mut0 ok hp
  refine ⟨p, rfl, .inl ⟨_, .inl upd_same⟩, ha _ (e.trans e2) (ok.ex e2) _ fun u H3 e3 r3 => ?_⟩
  cases (show u = .str n from r3)
  have h3 := e3.keep p _ (ok.new_b hp) (by simp) upd_same
  refine ⟨_, .inl ⟨_, Sum.inr n, .inl h3, rfl, rfl⟩, ?_⟩
  rw [valV_encM]
  refine q _ _ (e2.trans e3) ?_
  have : ∀ l : List (Str × Int), ((l.map fun p => (p.1, V.int p.2)).lookup n) = (l.lookup n).map V.int := fun l => by
    induction l with
    | nil => rfl
    | cons a t ih =>
      obtain ⟨a, b⟩ := a
      rw [List.map_cons, List.lookup_cons, List.lookup_cons, ih]
      cases n == a <;> rfl
  have h := this [("not", 1), ("and", 2), ("or", 2)]
  show Rep W M H3 (((([(("not" : Str), (1 : Int)), ("and", 2), ("or", 2)].map fun p => (p.1, V.int p.2)).lookup n)).getD (.int 0)) _
  rw [h]
  cases [(("not" : Str), (1 : Int)), ("and", 2), ("or", 2)].lookup n with
  | none => exact rep_int
  | some m => exact rep_int
end
end RG
namespace RG
open PySem PySem.Spec PyProof.Rows L2 StX RZ TL
theorem cnt_ld {l : List Nat} (h : Ld l) : cnt 40 l = 0 := cnt_none _ _ fun hm => by
  have := h _ hm
  rw [ld_no.2.2.1] at this; cases this
theorem cnt_text : ∀ {f : Fm}, f.Ok → cnt 40 (tl f.text) ≤ f.steps := by
  have c1 : ∀ f : Fm, cnt 40 (body [f]) = cnt 40 (tl f.text) := fun f => by
    show cnt 40 (tl f.text ++ [41]) = _
    rw [cnt_append, cnt_cons, cnt_nil]; simp
  have c2 : ∀ f g : Fm, cnt 40 (body [f, g]) = cnt 40 (tl f.text) + cnt 40 (tl g.text) := fun f g => by
    show cnt 40 (tl f.text ++ ([44, 32] ++ body [g])) = _
    rw [cnt_append, cnt_append, c1, cnt_cons, cnt_cons, cnt_nil]; simp
  intro f
  induction f with
  | all => intro h; rw [Fm.text_split, cnt_append, cnt_ld (Fm.nm_ld h)]; show (0 : Int) + 0 ≤ 1; decide
  | eq n z => intro h; rw [Fm.text_split, cnt_append, cnt_ld (Fm.nm_ld h)]; show (0 : Int) + cnt 40 (61 :: tl z) ≤ 1; rw [cnt_cons, cnt_ld (worth_ld h.2)]; decide
  | alike n z => intro h; rw [Fm.text_split, cnt_append, cnt_ld (Fm.nm_ld h)]; show (0 : Int) + cnt 40 (126 :: tl z) ≤ 1; rw [cnt_cons, cnt_ld (name_ld h.2)]; decide
  | not f ih =>
    intro h; rw [Fm.text_split, cnt_append, cnt_ld (Fm.nm_ld h)]
    show (0 : Int) + cnt 40 (40 :: body [f]) ≤ ((1 + f.steps : Nat) : Int)
    have := ih h
    rw [cnt_cons, c1, if_pos rfl]; omega
  | and f g ih ih2 =>
    intro h; rw [Fm.text_split, cnt_append, cnt_ld (Fm.nm_ld h)]
    show (0 : Int) + cnt 40 (40 :: body [f, g]) ≤ ((1 + (f.steps + g.steps) : Nat) : Int)
    have := ih h.1
    have := ih2 h.2
    rw [cnt_cons, c2, if_pos rfl]; omega
  | or f g ih ih2 =>
    intro h; rw [Fm.text_split, cnt_append, cnt_ld (Fm.nm_ld h)]
    show (0 : Int) + cnt 40 (40 :: body [f, g]) ≤ ((1 + (f.steps + g.steps) : Nat) : Int)
    have := ih h.1
    have := ih2 h.2
    rw [cnt_cons, c2, if_pos rfl]; omega
theorem count_text {f : Fm} (h : f.Ok) : Txt.count f.text "(" ≤ f.steps := by
  have e : ("(" : Str) = ⟨#[40]⟩ := by decide +kernel
  rw [e, count_cnt]
  exact cnt_text h
theorem steps_31 {f : Fm} (h : f.dp ≤ 5) : f.steps ≤ 31 := by
  have h2 := f.steps_dp
  have h3 : 2 ^ f.dp ≤ 2 ^ 5 := Nat.pow_le_pow_right (by decide) h
  have h4 : (2 : Nat) ^ 5 = 32 := by decide
  omega
end RG
namespace RG
open PySem PySem.Spec PyProof.Rows L2 StX RZ TL
/-! ### the law's own tests -/
section
variable {cs : List Col} {f : Fm}
theorem look_mem {n : Str} {ws : List Str} : ∀ {cs : List Col}, cs.lookup n = some ws → (n, ws) ∈ cs
  | c :: t, h => by
    rw [List.lookup_cons] at h
    by_cases e : (n == c.1) = true
    · rw [e] at h
      cases h
      rw [beq_iff_eq.mp e]; exact List.mem_cons_self
    · rw [Bool.not_eq_true] at e
      rw [e] at h
      exact List.mem_cons_of_mem _ (look_mem h)
theorem Fm.Suits.names (h : f.Suits cs) : NamesIn cs f := by
  induction f with
  | all => intro n hn; cases hn
  | eq a z =>
    intro n hn
    obtain ⟨ws, hw, _⟩ := h
    simp only [Fm.names, List.mem_singleton] at hn
    subst hn
    exact List.mem_map_of_mem (f := Prod.fst) (look_mem hw)
  | alike a b =>
    intro n hn
    simp only [Fm.names, List.mem_cons, List.not_mem_nil, or_false] at hn
    rcases hn with rfl | rfl
    · exact h.1
    · exact h.2
  | not f ih => exact ih h
  | and f g i1 i2 => exact fun n hn => (List.mem_append.mp hn).elim (i1 h.1 n) (i2 h.2 n)
  | or f g i1 i2 => exact fun n hn => (List.mem_append.mp hn).elim (i1 h.1 n) (i2 h.2 n)
theorem mem_look {n : Str} {ws : List Str} : ∀ {cs : List Col}, (cs.map Prod.fst).Nodup → (n, ws) ∈ cs → cs.lookup n = some ws
  | c :: t, hd, h => by
    rw [List.map_cons, List.nodup_cons] at hd
    rw [List.lookup_cons]
    rcases List.mem_cons.mp h with rfl | h
    · rw [beq_self_eq_true]
    · have : n ≠ c.1 := fun e => hd.1 (e ▸ List.mem_map_of_mem (f := Prod.fst) h)
      rw [beq_eq_false_iff_ne.mpr this]
      exact mem_look hd.2 h
theorem Plain.nameOk (hP : Plain cs) {n : Str} (h : n ∈ cs.map Prod.fst) : isName n = true := by
  obtain ⟨c, hc, rfl⟩ := List.mem_map.mp h
  exact (hP.col c hc).name
theorem Fm.Suits.ok (hP : Plain cs) (h : f.Suits cs) : f.Ok := by
  induction f with
  | all => trivial
  | eq a z =>
    obtain ⟨ws, hw, hz⟩ := h
    have hc := hP.col _ (look_mem hw)
    exact ⟨hc.name, (hc.ws z hz).1⟩
  | alike a b => exact ⟨hP.nameOk h.1, hP.nameOk h.2⟩
  | not f ih => exact ih h
  | and f g i1 i2 => exact ⟨i1 h.1, i2 h.2⟩
  | or f g i1 i2 => exact ⟨i1 h.1, i2 h.2⟩
/-- the same with other columns of the same names and worths -/
theorem Fm.Suits.same {ds : List Col} (h : f.Suits cs) (hs : ∀ n ws, cs.lookup n = some ws → ∃ us, ds.lookup n = some us ∧ ∀ z ∈ ws, z ∈ us) (hn : ∀ n ∈ cs.map Prod.fst, n ∈ ds.map Prod.fst) : f.Suits ds := by
  induction f with
  | all => trivial
  | eq a z =>
    obtain ⟨ws, hw, hz⟩ := h
    obtain ⟨us, hu, hm⟩ := hs a ws hw
    exact ⟨us, hu, hm z hz⟩
  | alike a b => exact ⟨hn a h.1, hn b h.2⟩
  | not f ih => exact ih h
  | and f g i1 i2 => exact ⟨i1 h.1, i2 h.2⟩
  | or f g i1 i2 => exact ⟨i1 h.1, i2 h.2⟩
/-- the columns turned round, each column's worths turned round -/
def swapC (cs : List Col) : List Col := cs.reverse.map fun c => (c.1, c.2.reverse)
theorem swap_names : (swapC cs).map Prod.fst = (cs.map Prod.fst).reverse := by
  unfold swapC
  rw [List.map_map, ← List.map_reverse]; rfl
theorem swap_plain (hP : Plain cs) : Plain (swapC cs) := ⟨by unfold swapC; rw [List.length_map, List.length_reverse]; exact hP.l1, by unfold swapC; rw [List.length_map, List.length_reverse]; exact hP.l3, by rw [swap_names]; exact (List.reverse_perm _).nodup_iff.mpr hP.nd, fun c hc => by
  unfold swapC at hc
  obtain ⟨d, hd, rfl⟩ := List.mem_map.mp hc
  exact (hP.col d (List.mem_reverse.mp hd)).rev⟩
theorem swap_suits (hP : Plain cs) (h : f.Suits cs) : f.Suits (swapC cs) := h.same (fun n ws hw => by
  have hm := look_mem hw
  refine ⟨ws.reverse, mem_look (swap_plain hP).nd ?_, fun z hz => List.mem_reverse.mpr hz⟩
  unfold swapC
  exact List.mem_map.mpr ⟨(n, ws), List.mem_reverse.mpr hm, rfl⟩) fun n hn => by rw [swap_names]; exact List.mem_reverse.mpr hn
/-- a name's place and what a kind shows there -/
theorem zip_look {n : Str} : ∀ {ns : List Str} {k : List Str}, ns.length = k.length → n ∈ ns → ∃ (j : Nat) (z : Str), ns[j]? = some n ∧ (∀ (m : Nat) (y : Str), m < j → ns[m]? = some y → y ≠ n) ∧ k[j]? = some z ∧ (ns.zip k).lookup n = some z
  | [], _, _, h => by cases h
  | _ :: _, [], h, _ => by cases h
  | a :: t, b :: k, h, hm => by
    by_cases e : a = n
    · subst e
      exact ⟨0, b, rfl, fun m y h => absurd h (Nat.not_lt_zero m), rfl, by rw [List.zip_cons_cons, List.lookup_cons, beq_self_eq_true]⟩
    · obtain ⟨j, z, h1, h2, h3, h4⟩ := zip_look (n := n) (ns := t) (k := k) (by simpa using h) ((List.mem_cons.mp hm).resolve_left fun z => e z.symm)
      refine ⟨j + 1, z, h1, fun m y hj hy => ?_, h3, ?_⟩
      · cases m with
        | zero => cases hy; exact e
        | succ m => exact h2 m y (by omega) hy
      · rw [List.zip_cons_cons, List.lookup_cons, beq_eq_false_iff_ne.mpr fun z => e z.symm]; exact h4
end
section
variable {α β γ : Type} [Py α] [Py β] [Py γ] {W : Wd} {M M' N : List Addr} {σ : L2.St} {H H' : Hp} {te ta tb tc tk tv : TE} {n : Str}
/-- names.index(name) -/
theorem ev_indexS {xs : List Str} {j : Nat} (ha : Ev W M ta σ H xs) (hb : Ev W M tb σ H n) (hj : xs[j]? = some n) (hno : ∀ (m : Nat) (y : Str), m < j → xs[m]? = some y → y ≠ n) : Ev W M (tBM W.K "list" (rIndex W.K) ta (tCons tb tNil)) σ H (j : Int) := fun H1 e ok Q q =>
  ha H1 e ok _ fun v H2 e2 r => by
    obtain ⟨a, us, rfl, hh, _, _, pp⟩ := r.lst
    refine ⟨.inl ⟨rfl, us, SqL.of hh⟩, hb H2 (e.trans e2) (ok.ex e2) _ fun u H3 e3 r3 => ?_⟩
    cases (show u = .str n from r3)
    obtain ⟨_, us', e', hh', _, _, pp'⟩ := (r.up e3).lst
    cases e'
    have eu : us' = xs.map V.str := paired_toV pp'
    subst eu
    refine ⟨a, _, .str n, j, .str n, rfl, rfl, SqL.of hh', rfl, List.all_eq_true.mpr fun y hy => ?_, by rw [List.getElem?_map, hj]; rfl, ?_, fun m z' hm hz => ?_, q _ _ (e2.trans e3) rep_int⟩
    · obtain ⟨x, _, rfl⟩ := List.mem_map.mp hy; rfl
    · exact beq_self_eq_true n
    · rw [List.getElem?_map] at hz
      cases hx : xs[m]? with
      | none => rw [hx] at hz; cases hz
      | some x =>
        rw [hx] at hz
        cases hz
        exact beq_eq_false_iff_ne.mpr (hno m x hm hx)
end
section
variable {W : Wd} {M M' N : List Addr} {σ : L2.St} {H H' : Hp} {te ta tb tc tk tv : TE} {n z : Str} {E : XK}
/-- Test.equal(name, worth), Test.alike(name, other), Test.read(text) -/
theorem ev_equal (ha : Ev W M ta σ H n) (hb : Ev W M tb σ H z) (h1 : isName n = true) (h2 : isWorth z = true) : Ev W M (ClX.tCMeth (W.C "Test") (sp_Test_equal W.K W.C) E (tC (.ref (W.C "Test"))) (tCons ta (tCons tb tNil))) σ H (Tst.mk (.eq n z)) := fun H1 e ok Q q =>
  ⟨rfl, ha H1 e ok _ fun v H2 e2 r => hb H2 (e.trans e2) (ok.ex e2) _ fun u H3 e3 r3 => by
    cases (show v = .str n from r)
    cases (show u = .str z from r3)
    exact ⟨W, M, n, z, rfl, rfl, rfl, (ok.ex e2).ex e3, h1, h2, fun r H4 e4 rr => q r H4 ((e2.trans e3).trans e4) rr⟩⟩
theorem ev_alikeT (ha : Ev W M ta σ H n) (hb : Ev W M tb σ H z) (h1 : isName n = true) (h2 : isName z = true) : Ev W M (ClX.tCMeth (W.C "Test") (sp_Test_alike W.K W.C) E (tC (.ref (W.C "Test"))) (tCons ta (tCons tb tNil))) σ H (Tst.mk (.alike n z)) := fun H1 e ok Q q =>
  ⟨rfl, ha H1 e ok _ fun v H2 e2 r => hb H2 (e.trans e2) (ok.ex e2) _ fun u H3 e3 r3 => by
    cases (show v = .str n from r)
    cases (show u = .str z from r3)
    exact ⟨W, M, n, z, rfl, rfl, rfl, (ok.ex e2).ex e3, h1, h2, fun r H4 e4 rr => q r H4 ((e2.trans e3).trans e4) rr⟩⟩
theorem ev_testRead {f : Fm} (ha : Ev W M ta σ H f.text) (h1 : f.Ok) (h2 : f.dp ≤ 5) : Ev W M (ClX.tCMeth (W.C "Test") (sp_Test_read W.K W.C) E (tC (.ref (W.C "Test"))) (tCons ta tNil)) σ H (Tst.mk f) := fun H1 e ok Q q =>
  ⟨rfl, ha H1 e ok _ fun v H2 e2 r => by
    cases (show v = .str f.text from r)
    exact ⟨W, M, f, rfl, rfl, rfl, ok.ex e2, h1, h2, fun r H4 e4 rr => q r H4 (e2.trans e4) rr⟩⟩
end
section
variable {α β γ : Type} [Py α] [Py β] [Py γ] {W : Wd} {M M' N : List Addr} {σ : L2.St} {H H' : Hp} {te ta tb tc tk tv : TE} {n z : Str} {E : XK} {D : Ends} {k l : Nat}
theorem s_set2R {P : α × β → Prop} (ok : Ok W M H) (h : EvR W M te σ H P) (q : ∀ v u x H', P x → Ex W [] H H' → Ok W M H' → Rep W M H' v x.1 → Rep W M H' u x.2 → D.nx ((σ.set k (some v)).set l (some u)) H') : tAsg te (gPair W.K k l) D σ H :=
  h H Ex.refl ok _ fun v x H2 px e2 r2 => s_set2 (te := fun _ H Q => Q v H) (x := x) (ok.ex e2) (fun H3 e3 ok3 Q q => q v H3 Ex.refl (r2.up e3)) fun v' u' H3 e3 ok3 r3 r4 => q v' u' x H3 px (e2.trans e3) ok3 r3 r4
theorem evr_fst {P : α × β → Prop} (h : EvR W M te σ H P) : EvR W M (tOp (rIxT W.K) te (tC (.int 0))) σ H (fun a => ∃ b, P (a, b)) := fun H1 e ok Q q =>
  h H1 e ok _ fun v x H2 px e2 r2 => (ev_fst (W := W) (M := M) (H := H2) (ta := fun _ H Q => Q v H) (σ := σ) (x := x) (fun H3 e3 ok3 Q q => q v H3 Ex.refl (r2.up e3))) H2 Ex.refl (ok.ex e2) Q fun w H3 e3 r3 => q w x.1 H3 ⟨x.2, px⟩ (e2.trans e3) r3
theorem evr_mk3 {h : Str} {P : Str → Prop} (g : Str → Fm) (hf : ∀ z, g z = .eq n z ∧ h = "equal" ∨ g z = .alike n z ∧ h = "alike") (h0 : Ev W M ta σ H h) (h1 : Ev W M tb σ H n) (h2 : EvR W M tc σ H P) : EvR W M (tTup (tCons ta (tCons tb (tCons tc tNil)))) σ H (fun f => ∃ z, P z ∧ f = g z) := fun H1 e ok Q q =>
  h0 H1 e ok _ fun v H2 e2 r => h1 H2 (e.trans e2) (ok.ex e2) _ fun u H3 e3 r3 => h2 H3 ((e.trans e2).trans e3) ((ok.ex e2).ex e3) _ fun x z H4 pz e4 r4 => ⟨by show 3 ≤ sizeLine; decide, fun p hp => by
    cases (show v = .str h from r)
    cases (show u = .str n from r3)
    cases (show x = .str z from r4)
    have ok4 := ((ok.ex e2).ex e3).ex e4
    refine q _ (g z) _ ⟨z, pz, rfl⟩ (((e2.trans e3).trans e4).trans (Ex.new hp)) ?_
    rcases hf z with ⟨hg, rfl⟩ | ⟨hg, rfl⟩
    · rw [hg]; exact ⟨p, rfl, cut_some.mpr ⟨ok4.new_b hp, ok4.new_M hp, upd_same⟩⟩
    · rw [hg]; exact ⟨p, rfl, cut_some.mpr ⟨ok4.new_b hp, ok4.new_M hp, upd_same⟩⟩⟩
end
section
variable (K : PySem.W.Frag) (C : Str → Addr)
abbrev sp_law_made_test : Sp := B1 K C (fun f : Fm => f.Ok ∧ f.dp ≤ 5) fun f (t : Tst) => t = Tst.mk f
abbrev sp_law_test_right : Sp := B4 K C (fun (t : Tst) (f : Fm) (m : Menu) (cs : List Col) => t = Tst.mk f ∧ m.cols = cs ∧ Fit cs f ∧ f.Suits cs) (fun b : Bool => b = true)
end
abbrev sp_law_form (n : Nat) (K : PySem.W.Frag) (C : Str → Addr) : Sp := B2 K C (fun (cs : List Col) (d : Int) => Plain cs ∧ 0 ≤ d ∧ d < n) fun cs d (f : Fm) => f.Suits cs ∧ (f.dp : Int) ≤ d + 1
abbrev sp_law_is_true (n : Nat) (K : PySem.W.Frag) (C : Str → Addr) : Sp := F3 K C (fun (cs : List Col) (f : Fm) (k : TupK) => f.dp ≤ n ∧ Plain cs ∧ NamesIn cs f ∧ k.l ∈ kinds cs) fun cs f k => f.isT (seen cs k.l)
abbrev sp_law_form_text (n : Nat) (K : PySem.W.Frag) (C : Str → Addr) : Sp := sp_text_of n K C
abbrev sp_law_names_in (n : Nat) (K : PySem.W.Frag) (C : Str → Addr) : Sp := sp_names_in n K C
abbrev sp_law_built (n : Nat) (K : PySem.W.Frag) (C : Str → Addr) : Sp := F1 K C (fun f : Fm => f.dp ≤ n ∧ f.Ok) Tst.mk
end RG
namespace RG
open PySem PySem.Spec PyProof.Rows L2 StX RZ TL
theorem rising_pw : ∀ (l : List Str) (p : Str), risingS p l = true → (p :: l).Pairwise (fun a b => tl a ≤ tl b)
  | [], p, _ => List.pairwise_singleton _ _
  | x :: r, p, h => by
    have h' : (!ltCps x.cps.toList p.cps.toList && risingS x r) = true := h
    rw [Bool.and_eq_true, ltCps_eq] at h'
    have h1 : tl p ≤ tl x := List.not_lt.mp (by simpa using h'.1)
    have ih := rising_pw r x h'.2
    refine List.pairwise_cons.mpr ⟨fun y hy => ?_, ih⟩
    rcases List.mem_cons.mp hy with rfl | hy
    · exact h1
    · exact List.le_trans h1 ((List.pairwise_cons.mp ih).1 y hy)
theorem sorted_pw : ∀ (l : List Str), sortedS l = true → l.Pairwise (fun a b => tl a ≤ tl b)
  | [], _ => .nil
  | x :: r, h => rising_pw r x h
theorem sorted_one {xs ys zs : List Str} (h1 : isSorted xs ys) (h2 : isSorted xs zs) : ys = zs :=
  List.Perm.eq_of_pairwise (le := fun a b => tl a ≤ tl b) (fun x y _ _ h1 h2 => ext_tl (List.le_antisymm h1 h2)) (sorted_pw _ h1.2) (sorted_pw _ h2.2) (h1.1.trans h2.1.symm)
section
variable {α : Type} [Py α] {W : Wd} {M M' N : List Addr} {σ : L2.St} {G H H' : Hp} {te ta tb tc tk tv : TE} {n z : Str} {E : XK} {D : Ends} {k l : Nat}
/-- xs = a new list, one of several -/
theorem s_setNR {P : List α → Prop} (ok : Ok W M H) (h : EvNR W M te σ H P) (q : ∀ p ys H', P ys → H p = none → Ex W [] H H' → Ok W M H' → Rep W M H' (.ref p) ys → D.nx (σ.set k (some (.ref p))) H') : tAsg te (gName k) D σ H :=
  h H Ex.refl ok _ fun p ys H2 py hn e2 r => q p ys H2 py hn e2 (ok.ex e2) r
/-- xs[:n], xs one of several -/
theorem evr_slTo {P : List α → Prop} {n : Int} (h : EvR W M ta σ H P) : EvR W M (tSl (rSlL W.K) ta tNoPart (tPart (tC (.int n)))) σ H (fun ys => ∃ xs, P xs ∧ ys = cutG xs none (some n)) := fun H1 e ok Q q =>
  h H1 e ok _ fun v x H2 px e2 r2 => (ev_slL (W := W) (M := M) (H := H2) (ta := fun _ H Q => Q v H) (σ := σ) (xs := x) (fun H3 e3 ok3 Q q => q v H3 Ex.refl (r2.up e3)) eo_none (eo_some (ev_int (n := n)))) H2 Ex.refl (ok.ex e2) Q fun w H3 e3 r3 => q w _ H3 ⟨x, px, rfl⟩ (e2.trans e3) r3
/-- xs.append(x), when xs is told no more -/
theorem s_appN {xs : List Str} {x : Str} {L : Addr} (okG : Ok W M G) (hL : G L = none) (eG : Ex W [] G H) (ok : Ok W M H) (hs : σ[k]? = some (some (.ref L))) (r : Rep W M H (.ref L) xs) (hl : xs.length ≤ 1000) (h : Ev W M te σ H x)
    (q : ∀ H', Ex W [] G H' → Ok W M H' → D.nx σ H') : tDrop (tBM W.K "list" rAppend (tVar k) (tCons te tNil)) D σ H := by
  obtain ⟨b, us, e, hh, nb, nm, pp⟩ := r.lst
  cases e
  refine ⟨.ref L, hs, .inl ⟨rfl, us, SqL.of hh⟩, h H Ex.refl ok _ fun v H2 e2 r2 => ?_⟩
  have hh2 := e2.keep _ _ nb (by simp) hh
  refine ⟨L, us, v, rfl, rfl, hh2, sl (by rw [Pd.length pp]; omega), ?_⟩
  have eg := (eG.trans e2).mut0 (o := .lst (us ++ [v])) (show Ok W [] G from okG.sub (fun a h => nomatch h)) hL
  exact q _ eg (okG.ex eg)
end
end RG
namespace RG
open PySem PySem.Spec PyProof.Rows L2 StX RZ TL
section
variable {α β γ : Type} [Py α] [Py β] [Py γ] {W : Wd} {M M' N : List Addr} {σ : L2.St} {G H H' : Hp} {te ta tb tc td : TE} {n z : Str} {E : XK} {D : Ends} {i k l : Nat}
theorem evr_b2R {pre : α → β → Prop} {R : α → β → γ → Prop} {P : β → Prop} {x : α} (hb : Bs W σ i) (ha : Ev W M ta σ H x) (hc : EvR W M tb σ H P) (hp : ∀ y, P y → pre x y) : EvR W M (tCall (B2 W.K W.C pre R) [] E (tCons (tVar i) (tCons ta (tCons tb tNil)))) σ H (fun z => ∃ y, P y ∧ R x y z) := fun H1 e ok Q q =>
  ⟨.ref W.b, hb, ha H1 e ok _ fun v H2 e2 r => hc H2 (e.trans e2) (ok.ex e2) _ fun u y H3 py e3 r3 => ⟨W, M, v, u, x, y, rfl, rfl, rfl, (ok.ex e2).ex e3, r.up e3, r3, hp y py, fun r z H4 hz e4 rr => q r z H4 ⟨y, py, hz⟩ ((e2.trans e3).trans e4) rr⟩⟩
theorem evr_addR {m : Int} {P : Int → Prop} (hc : EvR W M tb σ H P) : EvR W M (tOp (rI0 fun i j => .int (i + j)) (tC (.int m)) tb) σ H (fun n => ∃ y, P y ∧ n = m + y) := fun H1 e ok Q q =>
  hc H1 e ok _ fun u y H3 py e3 r3 => (ev_I0 (W := W) (M := M) (H := H3) (σ := σ) (g := fun i j : Int => i + j) (m := m) (n := y) ev_int (tb := fun _ H Q => Q u H) (fun H4 e4 ok4 Q q => q u H4 Ex.refl (r3.up e4))) H3 Ex.refl (ok.ex e3) Q fun w H4 e4 r4 => q w _ H4 ⟨y, py, rfl⟩ (e3.trans e4) r4
theorem s_lst2S {P R : α → Prop} (ok : Ok W M H) (ha : EvR W M ta σ H P) (hb : EvR W M tb σ H R) (q : ∀ v x y H', P x → R y → Ex W [] H H' → Ok W M H' → Rep W M H' v [x, y] → D.nx (σ.set k (some v)) H') : tAsg (tLst (tCons ta (tCons tb tNil))) (gName k) D σ H :=
  s_lst2R ok ha hb fun v u x y p H' px py e ok' r1 r2 hp => q _ x y _ px py (e.trans (Ex.new hp)) (ok'.ex (Ex.new (M := []) hp)) (rep_lst upd_same (ok'.new_b hp) (ok'.new_M hp) (.cons (r1.up (Ex.new hp)) (.cons (r2.up (Ex.new hp)) .nil)))
theorem ev_testRight {f : Fm} {cs : List Col} (hb : Bs W σ i) (h1 : Ev W M ta σ H (Tst.mk f)) (h2 : Ev W M tb σ H f) (h3 : Ev W M tc σ H (Menu.mk cs)) (h4 : Ev W M td σ H cs) (hF : Fit cs f) (hS : f.Suits cs) :
    Ev W M (tCall (sp_law_test_right W.K W.C) [] E (tCons (tVar i) (tCons ta (tCons tb (tCons tc (tCons td tNil)))))) σ H true :=
  (evr_b4 (ε := Bool) (R := fun b : Bool => b = true) hb h1 h2 h3 h4 ⟨rfl, rfl, hF, hS⟩).ev fun y hy => hy
end
theorem prod_swap {cs : List Col} : prod (swapC cs) = prod cs := by
  have h1 : prod (cs.reverse.map fun c => (c.1, c.2.reverse)) = prod cs.reverse := by
    unfold prod
    rw [List.map_map]
    congr 1
    exact List.map_congr_left fun c _ => by show ((c.2.reverse.length : Int)) = c.2.length; rw [List.length_reverse]
  unfold swapC
  rw [h1]
  exact prod_perm (List.reverse_perm cs)
theorem suits_fit {cs : List Col} {f : Fm} (hP : Plain cs) (hp : prod cs ≤ 12) (h : f.Suits cs) (hd : f.dp ≤ 6) : Fit cs f := ⟨hP, hp, hd, h.names⟩
theorem zip_val {ω : Type} {κ : Str} {z : ω} : ∀ {l : List Str} {m : List ω}, (l.zip m).lookup κ = some z → z ∈ m
  | [], _, h => by cases h
  | _ :: _, [], h => by cases h
  | a :: l, b :: m, h => by
    rw [List.zip_cons_cons, List.lookup_cons] at h
    by_cases e : (κ == a) = true
    · rw [e] at h; cases h; exact List.mem_cons_self
    · rw [Bool.not_eq_true] at e
      rw [e] at h
      exact List.mem_cons_of_mem _ (zip_val h)
/-- a worth that no menu holds -/
theorem absent_no {cs : List Col} {a : Str} {k : List Str} (hP : Plain cs) (ha : a ∈ cs.map Prod.fst) (hk : k ∈ kinds cs) : (Fm.eq a "n0where").isT (seen cs k) = false := by
  have hl : (cs.map Prod.fst).length = k.length := by rw [List.length_map, kind_len hk]
  obtain ⟨j, z, _, _, _, h4⟩ := zip_look hl ha
  show decide (((seen cs k).lookup a).getD "" = "n0where") = false
  have hz := zip_val h4
  obtain ⟨c, hc, hm⟩ := kind_worth hk z hz
  have := ((hP.col c hc).ws z hm).2.2
  unfold seen
  rw [h4]
  exact decide_eq_false this
end RG
namespace RG
open PySem PySem.Spec PyProof.Rows L2 StX RZ TL
section
variable {P : Program} {w : World} {K : PySem.W.Frag} {mg : Str → Option Value} {base : Heap} {C : Str → Addr} {f : Addr} {fd : FuncData} {ps : List Str}
/-- a def that calls itself -/
theorem rec_up {sp : Nat → Sp} (b s : Nat) (h0 : ∀ vs H Q E, ¬ sp 0 vs H Q E) (hs : ∀ n, FnOk P w K mg base CX0 (b + s * n) f fd ps (sp n) → FnOk P w K mg base CX0 (b + s * (n + 1)) f fd ps (sp (n + 1))) : ∀ n, FnOk P w K mg base CX0 (b + s * n) f fd ps (sp n)
  | 0 => ⟨fun vs H Q E h => absurd h (h0 vs H Q E), fun A outer s H args us vs Q E hr he hb hv h => absurd h (h0 vs H Q E)⟩
  | n + 1 => hs n (rec_up b s h0 hs n)
theorem no_dp {f : Fm} (h : f.dp ≤ 0) : False := by have := f.dp_pos; omega
theorem no_names_in : ∀ vs H Q E, ¬ sp_names_in 0 K C vs H Q E := fun _ _ _ _ ⟨_, _, _, _, _, _, _, _, _, h, _⟩ => no_dp h.1
theorem no_law_names_in : ∀ vs H Q E, ¬ sp_law_names_in 0 K C vs H Q E := no_names_in
theorem no_steps_of : ∀ vs H Q E, ¬ sp_steps_of 0 K C vs H Q E := fun _ _ _ _ ⟨_, _, _, _, _, _, _, _, _, h, _⟩ => no_dp h
theorem no_text_of : ∀ vs H Q E, ¬ sp_text_of 0 K C vs H Q E := fun _ _ _ _ ⟨_, _, _, _, _, _, _, _, _, h, _⟩ => no_dp h.1
theorem no_law_form_text : ∀ vs H Q E, ¬ sp_law_form_text 0 K C vs H Q E := no_text_of
theorem no_law_built : ∀ vs H Q E, ¬ sp_law_built 0 K C vs H Q E := fun _ _ _ _ ⟨_, _, _, _, _, _, _, _, _, h, _⟩ => no_dp h.1
theorem no_is_true : ∀ vs H Q E, ¬ sp_is_true 0 K C vs H Q E := fun _ _ _ _ ⟨_, _, _, _, _, _, _, _, _, _, _, _, h, _⟩ => no_dp h.1
theorem no_suits : ∀ vs H Q E, ¬ sp_suits 0 K C vs H Q E := fun _ _ _ _ ⟨_, _, _, _, _, _, _, _, _, _, _, _, h, _⟩ => no_dp h.1
theorem no_law_form : ∀ vs H Q E, ¬ sp_law_form 0 K C vs H Q E := fun _ _ _ _ ⟨_, _, _, _, _, _, _, _, _, _, _, _, h, _⟩ => by have := h.2.1; have := h.2.2; omega
theorem no_law_is_true : ∀ vs H Q E, ¬ sp_law_is_true 0 K C vs H Q E := fun _ _ _ _ ⟨_, _, _, _, _, _, _, _, _, _, _, _, _, _, _, h, _⟩ => no_dp h.1
theorem no_part_at : ∀ vs H Q E, ¬ sp_part_at 0 K C vs H Q E := fun _ _ _ _ ⟨_, _, _, _, _, _, _, _, _, _, _, h, _⟩ => no_dp h
end
end RG
namespace RG
open PySem PySem.Spec PyProof.Rows L2 StX RZ TL
def topS (i : Nat) : Stmt := PySem.Challenge.pw_rowsgone_k16_tests_of_kinds.main.body.getD i (.Pass ⟨0, 0, 0, 0⟩)
section
variable {P : Program} {w : World} {K : PySem.W.Frag} {mg : Str → Option Value} {base : Heap} {C : Str → Addr}

abbrev s_is_name : Stmt := topS 15
theorem sc_is_name : FnScope ["value", "sign"] ["value"] (defScope s_is_name) := ⟨rfl, rfl, rfl, by decide +kernel, rfl, by decide +kernel, by decide +kernel⟩

theorem ok_is_name {f : Addr} {fd : FuncData} (F : Fun K "is_name" "is_name" s_is_name f fd) (bt : Bt mg)
    (g_LETTERS : ∃ t, mg "LETTERS" = some (.str "abcdefghijklmnopqrstuvwxyz" t))
    (g_LONGEST : ∃ t, mg "LONGEST" = some (.int 8 t)) :
    FnOk P w K mg base CX0 1 f fd ["value"] (sp_is_name K C) := by
  refine F.ok sc_is_name (fun vs H Q E h => ?_) (fun cdv A outer s H vs Q E hr h => ?_)
  · obtain ⟨W, M, v, z, _, _, rfl, _⟩ := h; rfl
  · obtain ⟨W, M, v, z, rfl, rfl, rfl, ok, r, hz, k⟩ := h
    have S0 : Sl W M (start ["value", "sign"] [v]) H 0 z := ⟨v, rfl, r⟩
    refine ⟨_, (pss_one (ps_ret (pe_and (pe_callB call_isi (by rfl) bt.isinstance_ (by decide +kernel) (pa_cons (pv 0) (pa_cons (pe_bltn (v := .ty "str") (by rfl) bt.str_ (by decide +kernel) rfl) pa_nil))) (pe_and (pe_chain op_le op_le pe_int (pe_callB cLenX (by rfl) bt.len_ (by decide +kernel) (pa_cons (pv 0) pa_nil)) (pe_gI rfl g_LONGEST)) (pe_one (pe_callB (cr_all rfl) (by rfl) bt.all_ (by decide +kernel) (pa_cons (pe_lc (own := [("sign", 1)]) (g := gName 1) rfl sc_is_name.nd (pi_str (pv 0)) (blkOk_by (own := [("sign", 1)]) (N := ["value", "sign"]) (sc := defScope s_is_name) (by decide +kernel)) (fun _ _ _ _ _ => (pg_name (i := 1) sc_is_name.nd rfl (Or.inl rfl))) (fun _ _ _ _ _ => pts_nil) (fun _ _ _ _ _ => (pe_cmpR op_inS (pv 1) (pe_gS rfl g_LETTERS) (by rfl)))) pa_nil))))))), ?_⟩
    refine s_ret ok (ev_and (ev_isStr (ev_var S0)) fun _ => ev_and (ev_chain ev_int (ev_lenX (ev_var S0) (by omega)) ev_int) fun _ =>
      ev_all (ev_lc (ei_str (ev_var S0)) (by rw [signs_len]; exact Nat.le_trans hz (by decide)) (by decide) fun i s v M' H' hi l r => ev_inS (ev_var (Sl.me r)) ev_str ?_)) fun v H' e r => k v H' e r
    obtain ⟨c, e, _⟩ := signs_one (List.mem_of_getElem? hi)
    exact ⟨c, e⟩

abbrev s_is_worth : Stmt := topS 16
theorem sc_is_worth : FnScope ["value", "sign"] ["value"] (defScope s_is_worth) := ⟨rfl, rfl, rfl, by decide +kernel, rfl, by decide +kernel, by decide +kernel⟩

theorem ok_is_worth {f : Addr} {fd : FuncData} (F : Fun K "is_worth" "is_worth" s_is_worth f fd) (bt : Bt mg)
    (g_DIGITS : ∃ t, mg "DIGITS" = some (.str "0123456789" t))
    (g_LETTERS : ∃ t, mg "LETTERS" = some (.str "abcdefghijklmnopqrstuvwxyz" t))
    (g_LONGEST : ∃ t, mg "LONGEST" = some (.int 8 t)) :
    FnOk P w K mg base CX0 1 f fd ["value"] (sp_is_worth K C) := by
  refine F.ok sc_is_worth (fun vs H Q E h => ?_) (fun cdv A outer s H vs Q E hr h => ?_)
  · obtain ⟨W, M, v, z, _, _, rfl, _⟩ := h; rfl
  · obtain ⟨W, M, v, z, rfl, rfl, rfl, ok, r, hz, k⟩ := h
    have S0 : Sl W M (start ["value", "sign"] [v]) H 0 z := ⟨v, rfl, r⟩
    refine ⟨_, (pss_cons (ps_if (PW.pt (pw_or (pt_not (pt_val (pe_callB call_isi (by rfl) bt.isinstance_ (by decide +kernel) (pa_cons (pv 0) (pa_cons (pe_bltn (v := .ty "str") (by rfl) bt.str_ (by decide +kernel) rfl) pa_nil))))) (pw_or1 (pt_not (pt_chain op_le op_le pe_int (pe_callB cLenX (by rfl) bt.len_ (by decide +kernel) (pa_cons (pv 0) pa_nil)) (pe_gI rfl g_LONGEST)))))) (pss_one (ps_ret pe_bl)) pss_nil)
      (pss_one (ps_ret (pe_callB (cr_all rfl) (by rfl) bt.all_ (by decide +kernel) (pa_cons (pe_lc (own := [("sign", 1)]) (g := gName 1) rfl sc_is_worth.nd (pi_str (pv 0)) (blkOk_by (own := [("sign", 1)]) (N := ["value", "sign"]) (sc := defScope s_is_worth) (by decide +kernel)) (fun _ _ _ _ _ => (pg_name (i := 1) sc_is_worth.nd rfl (Or.inl rfl))) (fun _ _ _ _ _ => pts_nil) (fun _ _ _ _ _ => (pe_or (pe_cmpR op_inS (pv 1) (pe_gS rfl g_LETTERS) (by rfl)) (pe_one (pe_cmpR op_inS (pv 1) (pe_gS rfl g_DIGITS) (by rfl)))))) pa_nil))))), ?_⟩
    refine s_if ok (et_or (et_not (et_b (ev_isStr (ev_var S0)))) fun _ => et_not (et_t (ev_chain ev_int (ev_lenX (ev_var S0) (by omega)) ev_int))) (fun hb H1 e1 ok1 => ?_) (fun hb H1 e1 ok1 => ?_)
    · refine s_ret ok1 ev_bl fun v H2 e2 r => k v H2 (e1.trans e2) ?_
      have hf : isWorth z = false := by
        unfold isWorth
        simp only [Bool.not_true, Bool.false_or, Bool.not_eq_true'] at hb
        rw [hb]; rfl
      rw [hf]; exact r
    · have hf : isWorth z = ((signs z).map fun s => inS lettersS s || inS digitsS s).all id := by
        unfold isWorth
        simp only [Bool.not_true, Bool.false_or, Bool.not_eq_false'] at hb
        rw [hb]; rfl
      rw [hf] at k
      refine s_ret ok1 (ev_all (ev_lc (ei_str (ev_var (S0.up e1))) (by rw [signs_len]; exact Nat.le_trans hz (by decide)) (by decide) fun i s v M' H' hi l r => ?_)) fun v H' e r => k v H' (e1.trans e) r
      obtain ⟨c, e, _⟩ := signs_one (List.mem_of_getElem? hi)
      exact ev_or (ev_inS (ev_var (Sl.me r)) ev_str ⟨c, e⟩) fun _ => ev_inS (ev_var (Sl.me r)) ev_str ⟨c, e⟩

abbrev s_are_different : Stmt := topS 17
theorem sc_are_different : FnScope ["values", "value"] ["values"] (defScope s_are_different) := ⟨rfl, rfl, rfl, by decide +kernel, rfl, by decide +kernel, by decide +kernel⟩

theorem ok_are_different {f : Addr} {fd : FuncData} (F : Fun K "are_different" "are_different" s_are_different f fd) (bt : Bt mg) :
    FnOk P w K mg base CX0 1 f fd ["values"] (sp_are_different K C) := by
  refine F.ok sc_are_different (fun vs H Q E h => ?_) (fun cdv A outer s H vs Q E hr h => ?_)
  · obtain ⟨W, M, v, z, _, _, rfl, _⟩ := h; rfl
  · obtain ⟨W, M, v, z, rfl, rfl, rfl, ok, r, hz, k⟩ := h
    have S0 : Sl W M (start ["values", "value"] [v]) H 0 z := ⟨v, rfl, r⟩
    refine ⟨_, (pss_one (ps_ret (pe_callB (cr_all rfl) (by rfl) bt.all_ (by decide +kernel) (pa_cons (pe_lc (own := [("value", 1)]) (g := gName 1) rfl sc_are_different.nd (pi_list (pv 0)) (blkOk_by (own := [("value", 1)]) (N := ["values", "value"]) (sc := defScope s_are_different) (by decide +kernel)) (fun _ _ _ _ _ => (pg_name (i := 1) sc_are_different.nd rfl (Or.inl rfl))) (fun _ _ _ _ _ => pts_nil) (fun _ _ _ _ _ => (PE.to (pe_cmpR op_eq (pe_bm PySem.F.plainAttrs_list PySem.F.slot_list_count PySem.F.type_list_count (mt_countE (by exact u65 hr)) (pv 0) (pa_cons (pv 1) pa_nil)) pe_int (nomark _)) (by dsimp only [Cx.blk] <;> rfl)))) pa_nil)))), ?_⟩
    exact s_ret ok (ev_all (ev_lc (ei_list (ev_var S0)) (by omega) (by decide) fun i s v M' H' hi l r => ev_eq (ev_count (ev_var (S0.lc l)) (ev_var (Sl.me r))) ev_int)) fun v H' e r => k v H' e r

abbrev s_is_column : Stmt := topS 18
theorem sc_is_column : FnScope ["value", "worth"] ["value"] (defScope s_is_column) := ⟨rfl, rfl, rfl, by decide +kernel, rfl, by decide +kernel, by decide +kernel⟩

theorem ok_is_column {f : Addr} {fd : FuncData} (F : Fun K "is_column" "is_column" s_is_column f fd) (bt : Bt mg)
    (c_is_name : Cal P w K mg base 1 "is_name" ["value"] (sp_is_name K C))
    (c_are_different : Cal P w K mg base 1 "are_different" ["values"] (sp_are_different K C))
    (c_is_worth : Cal P w K mg base 1 "is_worth" ["value"] (sp_is_worth K C))
    (g_MOST_WORTHS : ∃ t, mg "MOST_WORTHS" = some (.int 12 t)) :
    FnOk P w K mg base CX0 2 f fd ["value"] (sp_is_column K C) := by
  refine F.ok sc_is_column (fun vs H Q E h => ?_) (fun cdv A outer s H vs Q E hr h => ?_)
  · obtain ⟨W, M, v, z, _, _, rfl, _⟩ := h; rfl
  · obtain ⟨W, M, v, z, rfl, rfl, rfl, ok, r, hz, k⟩ := h
    have S0 : Sl W M (L2.start ["value", "worth"] [v]) H 0 z := ⟨v, rfl, r⟩
    obtain ⟨hn, hw, hws⟩ := hz.2 (unQ z) (by simp)
    have k : ∀ r H', Ex W [] H H' → Rep W M H' r (isCol (unQ z)) → Q r H' := k
    refine ⟨_, (pss_cons (ps_if (PW.pt (pw_or (pt_not (pt_val (pe_callB call_isi (by rfl) bt.isinstance_ (by decide +kernel) (pa_cons (pv 0) (pa_cons (pe_bltn (v := .ty "tuple") (by rfl) bt.tuple_ (by decide +kernel) rfl) pa_nil))))) (pw_or (pt_cmpR op_ne (pe_callB cLenS (by rfl) bt.len_ (by decide +kernel) (pa_cons (pv 0) pa_nil)) pe_int (nomark _)) (pw_or1 (pt_not (pt_val (pe_call c_is_name.ok (by exact hr.mono (by decide)) (by rfl) c_is_name.gl c_is_name.kp c_is_name.b .nil pass0 (pa_cons (pe_ix ix_tup (pv 0) pe_int (fun _ _ => rfl)) pa_nil)))))))) (pss_one (ps_ret pe_bl)) pss_nil)
      (pss_cons (ps_if (PW.pt (pw_or (pt_not (pt_val (pe_callB call_isiT (by rfl) bt.isinstance_ (by decide +kernel) (pa_cons (pe_ix ix_tup (pv 0) pe_int (fun _ _ => rfl)) (pa_cons (pe_tup (pa_cons (pe_bltn (v := .ty "list") (by rfl) bt.list_ (by decide +kernel) rfl) (pa_cons (pe_bltn (v := .ty "tuple") (by rfl) bt.tuple_ (by decide +kernel) rfl) pa_nil))) pa_nil))))) (pw_or1 (pt_not (pt_chain op_le op_le pe_int (pe_callB cLenS (by rfl) bt.len_ (by decide +kernel) (pa_cons (pe_ix ix_tup (pv 0) pe_int (fun _ _ => rfl)) pa_nil)) (pe_gI rfl g_MOST_WORTHS)))))) (pss_one (ps_ret pe_bl)) pss_nil)
      (pss_one (ps_ret (pe_and (pe_callB (cr_all rfl) (by rfl) bt.all_ (by decide +kernel) (pa_cons (pe_lc (own := [("worth", 1)]) (g := gName 1) rfl sc_is_column.nd (pi_seq (pe_ix ix_tup (pv 0) pe_int (fun _ _ => rfl))) (blkOk_by (own := [("worth", 1)]) (N := ["value", "worth"]) (sc := defScope s_is_column) (by decide +kernel)) (fun _ _ _ _ _ => (pg_name (i := 1) sc_is_column.nd rfl (Or.inl rfl))) (fun _ _ _ _ _ => pts_nil) (fun _ _ _ _ _ => (PE.to (pe_call c_is_worth.ok (by exact hr.mono (by decide)) (by rfl) c_is_worth.gl c_is_worth.kp c_is_worth.b .nil pass0 (pa_cons (pv 1) pa_nil)) (by dsimp only [Cx.blk] <;> rfl)))) pa_nil)) (pe_one (pe_call c_are_different.ok (by exact hr.mono (by decide)) (by rfl) c_are_different.gl c_are_different.kp c_are_different.b .nil pass0 (pa_cons (pe_callTy cListOf (by rfl) bt.list_ (by decide +kernel) (pa_cons (pe_ix ix_tup (pv 0) pe_int (fun _ _ => rfl)) pa_nil)) pa_nil)))))))), ?_⟩
    refine s_if ok (et_or (et_not (et_b (ev_isPair (ev_var S0)))) fun _ => et_or (et_t (ev_ne (ev_lenP (ev_var S0)) ev_int)) fun _ => et_not (et_b (ev_f1 (ev_fst (ev_var S0)) hn))) (fun hb H1 e1 ok1 => ?_) (fun hb H1 e1 ok1 => ?_)
    · have hf : isCol (unQ z) = false := by
        have : isName z.1 = false := by simpa using hb
        unfold isCol
        rw [show (unQ z).1 = z.1 from rfl, this]; rfl
      rw [hf] at k
      exact s_ret ok1 ev_bl fun v H2 e2 r => k v H2 (e1.trans e2) r
    have hN : isName z.1 = true := by simpa using hb
    have S1 := S0.up e1
    refine s_if ok1 (et_or (et_not (et_b (ev_isSq (ev_snd (ev_var S1))))) fun _ => et_not (et_t (ev_chain ev_int (ev_lenQ (ev_snd (ev_var S1))) ev_int))) (fun hb H2 e2 ok2 => ?_) (fun hb H2 e2 ok2 => ?_)
    · have hf : isCol (unQ z) = false := by
        simp only [Bool.not_true, Bool.false_or, Bool.not_eq_true'] at hb
        unfold isCol
        rw [show (unQ z).2 = z.2.l from rfl, hb]; simp
      rw [hf] at k
      exact s_ret ok2 ev_bl fun v H3 e3 r => k v H3 ((e1.trans e2).trans e3) r
    have hf : isCol (unQ z) = ((z.2.l.map isWorth).all id && areDiff z.2.l) := by
      simp only [Bool.not_true, Bool.false_or, Bool.not_eq_false'] at hb
      unfold isCol
      rw [show (unQ z).2 = z.2.l from rfl, show (unQ z).1 = z.1 from rfl, hb, hN]; rfl
    rw [hf] at k
    have S2 := S1.up e2
    refine s_ret ok2 (ev_and (ev_all (ev_lc (ei_seq (ev_snd (ev_var S2))) (Nat.le_trans hw (by decide)) (by decide) fun i s v M' H' hi l r => ev_f1 (ev_var (Sl.me r)) (hws s (List.mem_of_getElem? hi)))) fun _ => ev_f1 (ev_listQ (ev_snd (ev_var S2))) hw) fun v H3 e3 r => k v H3 ((e1.trans e2).trans e3) r

abbrev s_are_columns : Stmt := topS 19
theorem sc_are_columns : FnScope ["value", "column"] ["value"] (defScope s_are_columns) := ⟨rfl, rfl, rfl, by decide +kernel, rfl, by decide +kernel, by decide +kernel⟩

theorem ok_are_columns {f : Addr} {fd : FuncData} (F : Fun K "are_columns" "are_columns" s_are_columns f fd) (bt : Bt mg)
    (c_are_different : Cal P w K mg base 1 "are_different" ["values"] (sp_are_different K C))
    (c_is_column : Cal P w K mg base 2 "is_column" ["value"] (sp_is_column K C))
    (c_kinds_of : Cal P w K mg base 1 "kinds_of" ["columns"] (sp_kinds_of K C))
    (g_MOST_COLUMNS : ∃ t, mg "MOST_COLUMNS" = some (.int 3 t))
    (g_MOST_KINDS : ∃ t, mg "MOST_KINDS" = some (.int 12 t)) :
    FnOk P w K mg base CX0 3 f fd ["value"] (sp_are_columns K C) := by
  refine F.ok sc_are_columns (fun vs H Q E h => ?_) (fun cdv A outer s H vs Q E hr h => ?_)
  · obtain ⟨W, M, v, z, _, _, rfl, _⟩ := h; rfl
  · obtain ⟨W, M, v, z, rfl, rfl, rfl, ok, r, hz, k⟩ := h
    have S0 : Sl W M (L2.start ["value", "column"] [v]) H 0 z := ⟨v, rfl, r⟩
    have hlen : z.l.length ≤ 1000 := by simpa using hz.1
    have hcol : ∀ c ∈ z.l, Fair [unQ c] := fun c hc => ⟨by simp, fun d hd => by
      have e : d = unQ c := by simpa using hd
      rw [e]; exact hz.2 _ (List.mem_map_of_mem hc)⟩
    have k : ∀ r H', Ex W [] H H' → Rep W M H' r (areCols (z.l.map unQ)) → Q r H' := k
    refine ⟨_, (pss_cons (ps_if (PW.pt (pw_or (pt_not (pt_val (pe_callB call_isiT (by rfl) bt.isinstance_ (by decide +kernel) (pa_cons (pv 0) (pa_cons (pe_tup (pa_cons (pe_bltn (v := .ty "list") (by rfl) bt.list_ (by decide +kernel) rfl) (pa_cons (pe_bltn (v := .ty "tuple") (by rfl) bt.tuple_ (by decide +kernel) rfl) pa_nil))) pa_nil))))) (pw_or1 (pt_not (pt_chain op_le op_le pe_int (pe_callB cLenS (by rfl) bt.len_ (by decide +kernel) (pa_cons (pv 0) pa_nil)) (pe_gI rfl g_MOST_COLUMNS)))))) (pss_one (ps_ret pe_bl)) pss_nil)
      (pss_cons (ps_if (PW.pt (pw_or (pt_not (pt_val (pe_callB (cr_all rfl) (by rfl) bt.all_ (by decide +kernel) (pa_cons (pe_lc (own := [("column", 1)]) (g := gName 1) rfl sc_are_columns.nd (pi_seq (pv 0)) (blkOk_by (own := [("column", 1)]) (N := ["value", "column"]) (sc := defScope s_are_columns) (by decide +kernel)) (fun _ _ _ _ _ => (pg_name (i := 1) sc_are_columns.nd rfl (Or.inl rfl))) (fun _ _ _ _ _ => pts_nil) (fun _ _ _ _ _ => (PE.to (pe_call c_is_column.ok (by exact hr.mono (by decide)) (by rfl) c_is_column.gl c_is_column.kp c_is_column.b .nil pass0 (pa_cons (pv 1) pa_nil)) (by dsimp only [Cx.blk] <;> rfl)))) pa_nil)))) (pw_or1 (pt_not (pt_val (pe_call c_are_different.ok (by exact hr.mono (by decide)) (by rfl) c_are_different.gl c_are_different.kp c_are_different.b .nil pass0 (pa_cons (pe_lc (own := [("column", 1)]) (g := gName 1) rfl sc_are_columns.nd (pi_seq (pv 0)) (blkOk_by (own := [("column", 1)]) (N := ["value", "column"]) (sc := defScope s_are_columns) (by decide +kernel)) (fun _ _ _ _ _ => (pg_name (i := 1) sc_are_columns.nd rfl (Or.inl rfl))) (fun _ _ _ _ _ => pts_nil) (fun _ _ _ _ _ => (PE.to (pe_ix ix_tup (pv 1) pe_int (fun _ _ => rfl)) (by dsimp only [Cx.blk] <;> rfl)))) pa_nil))))))) (pss_one (ps_ret pe_bl)) pss_nil)
      (pss_one (ps_ret (pe_cmpR op_le (pe_callB cLenS (by rfl) bt.len_ (by decide +kernel) (pa_cons (pe_call c_kinds_of.ok (by exact hr.mono (by decide)) (by rfl) c_kinds_of.gl c_kinds_of.kp c_kinds_of.b .nil pass0 (pa_cons (pv 0) pa_nil)) pa_nil)) (pe_gI rfl g_MOST_KINDS) (nomark _)))))), ?_⟩
    refine s_if ok (et_or (et_not (et_b (ev_isSq (ev_var S0)))) fun _ => et_not (et_t (ev_chain ev_int (ev_lenQ (ev_var S0)) ev_int))) (fun hb H1 e1 ok1 => ?_) (fun hb H1 e1 ok1 => ?_)
    · have hf : areCols (z.l.map unQ) = false := by
        simp only [Bool.not_true, Bool.false_or, Bool.not_eq_true'] at hb
        unfold areCols
        rw [List.length_map, hb]; rfl
      rw [hf] at k
      exact s_ret ok1 ev_bl fun v H2 e2 r => k v H2 (e1.trans e2) r
    have hL : (decide ((1 : Int) ≤ z.l.length) && decide ((z.l.length : Int) ≤ 3)) = true := by simpa only [Bool.not_true, Bool.false_or, Bool.not_eq_false'] using hb
    have S1 := S0.up e1
    refine s_if ok1 (et_or (et_not (et_b (ev_all (ev_lc (f := fun c => isCol (unQ c)) (ei_seq (ev_var S1)) (by omega) (by decide) fun i s v M' H' hi l r => ev_f1 (x := s) (ev_var (Sl.me r)) (hcol s (List.mem_of_getElem? hi)))))) fun _ =>
      et_not (et_b (ev_f1 (ev_lc (f := Prod.fst) (ei_seq (ev_var S1)) (by omega) (by decide) fun i s v M' H' hi l r => ev_fst (ev_var (Sl.me r))) (by rw [List.length_map]; exact hlen)))) (fun hb H2 e2 ok2 => ?_) (fun hb H2 e2 ok2 => ?_)
    · have hf : areCols (z.l.map unQ) = false := by
        have h2 : ((z.l.map fun c => isCol (unQ c)).all id && areDiff (z.l.map Prod.fst)) = false := by
          rw [← Bool.not_eq_true', Bool.not_and]; exact hb
        unfold areCols
        rw [List.map_map, List.map_map]
        rw [show (isCol ∘ unQ) = fun c => isCol (unQ c) from rfl, show ((fun x : Col => x.1) ∘ unQ) = Prod.fst from rfl, h2]; simp
      rw [hf] at k
      exact s_ret ok2 ev_bl fun v H3 e3 r => k v H3 ((e1.trans e2).trans e3) r
    have h2 : ((z.l.map fun c => isCol (unQ c)).all id && areDiff (z.l.map Prod.fst)) = true := by
      rw [← Bool.not_eq_false', Bool.not_and]; exact hb
    have hf : areCols (z.l.map unQ) = decide (((kinds (z.l.map unQ)).length : Int) ≤ 12) := by
      unfold areCols
      rw [List.map_map, List.map_map]
      rw [show (isCol ∘ unQ) = fun c => isCol (unQ c) from rfl, show ((fun x : Col => x.1) ∘ unQ) = Prod.fst from rfl, h2, List.length_map, hL]; rfl
    rw [hf] at k
    have few : Few (z.l.map unQ) := by
      refine ⟨by rw [List.length_map]; simp at hL; omega, fun c hc => ?_⟩
      obtain ⟨d, hd, rfl⟩ := List.mem_map.mp hc
      simp only [Bool.and_eq_true, List.all_map] at h2
      have := List.all_eq_true.mp h2.1 d hd
      exact isCol_few this
    exact s_ret ok2 ((ev_B0 (ev_lenL (ev_f1 (x := z) (ev_var (S1.up e2)) few)) ev_int).is (by rw [List.length_map])) fun v H3 e3 r => k v H3 ((e1.trans e2).trans e3) r

abbrev s_kinds_of : Stmt := topS 20
theorem sc_kinds_of : FnScope ["columns", "found", "name", "worths", "kind", "worth"] ["columns"] (defScope s_kinds_of) := ⟨rfl, rfl, rfl, by decide +kernel, rfl, by decide +kernel, by decide +kernel⟩

theorem ok_kinds_of {f : Addr} {fd : FuncData} (F : Fun K "kinds_of" "kinds_of" s_kinds_of f fd) (bt : Bt mg) :
    FnOk P w K mg base CX0 1 f fd ["columns"] (sp_kinds_of K C) := by
  refine F.ok sc_kinds_of (fun vs H Q E h => ?_) (fun cdv A outer s H vs Q E hr h => ?_)
  · obtain ⟨W, M, v, z, _, _, rfl, _⟩ := h; rfl
  · obtain ⟨W, M, v, z, rfl, rfl, rfl, ok, r, hz, k⟩ := h
    have S0 : Sl W M (L2.start ["columns", "found", "name", "worths", "kind", "worth"] [v]) H 0 z := ⟨v, rfl, r⟩
    have hl : z.l.length ≤ 3 := by simpa using hz.1
    have k : ∀ r H', Ex W [] H H' → Rep W M H' r ((kinds (z.l.map unQ)).map TupK.mk) → Q r H' := k
    refine ⟨_, (pss_cons (ps_set (i := 1) sc_kinds_of.nd rfl (.inl rfl) (pe_lst (pa_cons (pe_tup pa_nil) pa_nil)))
      (pss_cons (ps_for PassesOwn.never rfl (pi_seq (pv 0)) (pg_tup rfl (pgs_cons (pg_name (i := 2) sc_kinds_of.nd rfl (Or.inl rfl)) (pgs_cons (pg_name (i := 3) sc_kinds_of.nd rfl (Or.inr rfl)) pgs_nil)))
      (pss_one (ps_setLc2 (i := 1) (own := [("kind", 4), ("worth", 5)]) (vs1 := [5]) (g := gName 4) (g1 := gName 5) rfl sc_kinds_of.nd rfl rfl (sw_true rfl rfl rfl (by decide +kernel)) (pi_list (pv 1)) (blkOk_by (own := [("kind", 4), ("worth", 5)]) (N := ["columns", "found", "name", "worths", "kind", "worth"]) (sc := defScope s_kinds_of) (by decide +kernel)) (by decide) (fun _ _ _ _ _ => (pg_name (i := 4) sc_kinds_of.nd rfl (Or.inl rfl))) (fun _ _ _ _ _ => pts_nil) (fun _ _ _ _ _ => (PI.to (pi_seq (pv 3)) (by dsimp only [Cx.blk] <;> rfl))) (fun _ _ _ _ _ => (pg_name (i := 5) sc_kinds_of.nd rfl (Or.inl rfl))) (fun _ _ _ _ _ => pts_nil) (fun _ _ _ _ _ => (PE.to (pe_tup (pa_star (pv 4) (pa_cons (pv 5) pa_nil))) (by dsimp only [Cx.blk] <;> rfl))))))
      (pss_one (ps_ret (pv 1))))), ?_⟩
    refine s_set ok (ev_lst (ea_cons (ev_tupK ea_nil (Nat.zero_le _)) ea_nil) (by decide)) fun v1 H1 e1 ok1 r1 => ?_
    refine for_w ok1 (ei_seq (ev_var (S0.set e1))) (fun i σ' H' => Ex W [] H H' ∧ σ'.length = 6 ∧ Sl W M σ' H' 1 ((kinds ((z.l.map unQ).take i)).map TupK.mk)) (fun H' e => ⟨e1.trans e, by rw [List.length_set]; rfl, (Sl.hr r1).up e⟩) ?_ ?_
    · rintro i c v σ' H' hi ⟨e0, hσ, S1⟩ ok' H'' e'' r N hN
      have ok'' := ok'.ex e''
      refine gPair_rd r fun v1 v2 r1 r2 => ?_
      have S3 : Sl W M ((σ'.set 2 (some v1)).set 3 (some v2)) H'' 3 c.2 := Sl.here r2 (by rw [List.length_set, hσ]; decide)
      have S1' : Sl W M ((σ'.set 2 (some v1)).set 3 (some v2)) H'' 1 _ := ((S1.up e'').set Ex.refl).set Ex.refl
      have hin : i < 3 := Nat.lt_of_lt_of_le (List.getElem?_eq_some_iff.mp hi).1 hl
      have hc : c.2.l.length ≤ 12 := hz.2 (unQ c) (List.mem_map_of_mem (List.mem_of_getElem? hi))
      have few : Few ((z.l.map unQ).take i) := hz.take i
      have hlen : (kinds ((z.l.map unQ).take i)).length ≤ 144 := few.num (by rw [List.length_take]; omega)
      refine s_set ok'' (ev_lcc (f := fun (k : TupK) (s : Str) => TupK.mk (k.l ++ [s])) (zs := fun _ => c.2.l) (ei_list (ev_var S1')) (by rw [List.length_map]; omega) (by decide) (by decide) (fun _ _ => by omega)
        (fun i x v M' H' hi l r => ei_seq (ev_var (S3.lc l)))
        (fun i j x s v u M' H' hi hj l r ru => ev_tupK (ea_starK (ev_var ((Sl.me r (by rw [List.length_set, List.length_set, hσ]; decide)).wipe.set Ex.refl)) (ea_cons (ev_var (Sl.here ru (by rw [wipe_len, List.length_set, wipe_len, List.length_set, List.length_set, hσ]; decide))) ea_nil)) ?_)) fun v3 H3 e3 ok3 r3 => hN _ _ ⟨e0.trans (e''.trans e3), by rw [List.length_set, List.length_set, List.length_set, hσ], ?_⟩ e3.up
      · obtain ⟨y, hy, rfl⟩ := List.mem_map.mp (List.mem_of_getElem? hi)
        have := kind_len hy
        rw [List.length_append, this, List.length_take]
        show min _ _ + 1 ≤ _
        omega
      · refine Sl.here (k := 1) ?_ (by rw [List.length_set, List.length_set, hσ]; decide)
        have e : (kinds ((z.l.map unQ).take (i + 1))).map TupK.mk = ((kinds ((z.l.map unQ).take i)).map TupK.mk).flatMap fun k => c.2.l.map fun s => (TupK.mk (k.l ++ [s]) : TupK) := by
          rw [kinds_take (c := unQ c) (by rw [List.getElem?_map, hi]; rfl), kstep_mk]; rfl
        rw [e]; exact r3
    · rintro σ' H' ⟨e0, hσ, S1⟩ ok'
      rw [show z.l.length = (z.l.map unQ).length by rw [List.length_map], List.take_length] at S1
      exact s_ret ok' (ev_var S1) fun v H3 e3 r => k v H3 (e0.trans e3) r

abbrev s_Menu_columns : Stmt := inClass (topS 21) 2
theorem sc_Menu_columns : FnScope ["self"] ["self"] (defScope s_Menu_columns) := ⟨rfl, rfl, rfl, by decide +kernel, rfl, by decide +kernel, by decide +kernel⟩

theorem ok_Menu_columns {f : Addr} {fd : FuncData} (F : Fun K "columns" "Menu.columns" s_Menu_columns f fd) (bt : Bt mg)
    (cl_Menu : Cls K (C "Menu"))
    (n_Menu_own_columns : NoAttr K (C "Menu") "own_columns") :
    FnOk P w K mg base CX0 1 f fd ["self"] (sp_Menu_columns K C) := by
  refine F.ok sc_Menu_columns (fun vs H Q E h => ?_) (fun cdv A outer s H vs Q E hr h => ?_)
  · obtain ⟨W, M, v, z, _, _, rfl, _⟩ := h; rfl
  · obtain ⟨W, M, v, z, rfl, rfl, rfl, ok, r, hz, k⟩ := h
    have S0 : Sl W M (L2.start ["self"] [v]) H 0 z := ⟨v, rfl, r⟩
    refine ⟨_, (pss_one (ps_ret (pe_fld (pv 0) rfl))), ?_⟩
    exact s_ret ok (mn_colsF (ev_var S0) cl_Menu n_Menu_own_columns) fun v H3 e3 r => k v H3 e3 r

abbrev s_Menu_kinds : Stmt := inClass (topS 21) 3
theorem sc_Menu_kinds : FnScope ["self"] ["self"] (defScope s_Menu_kinds) := ⟨rfl, rfl, rfl, by decide +kernel, rfl, by decide +kernel, by decide +kernel⟩

theorem ok_Menu_kinds {f : Addr} {fd : FuncData} (F : Fun K "kinds" "Menu.kinds" s_Menu_kinds f fd) (bt : Bt mg)
    (cl_Menu : Cls K (C "Menu"))
    (n_Menu_own_kinds : NoAttr K (C "Menu") "own_kinds") :
    FnOk P w K mg base CX0 1 f fd ["self"] (sp_Menu_kinds K C) := by
  refine F.ok sc_Menu_kinds (fun vs H Q E h => ?_) (fun cdv A outer s H vs Q E hr h => ?_)
  · obtain ⟨W, M, v, z, _, _, rfl, _⟩ := h; rfl
  · obtain ⟨W, M, v, z, rfl, rfl, rfl, ok, r, hz, k⟩ := h
    have S0 : Sl W M (L2.start ["self"] [v]) H 0 z := ⟨v, rfl, r⟩
    refine ⟨_, (pss_one (ps_ret (pe_fld (pv 0) rfl))), ?_⟩
    exact s_ret ok (mn_kinds (ev_var S0) cl_Menu n_Menu_own_kinds) fun v H3 e3 r => k v H3 e3 r

abbrev s_Menu_len : Stmt := inClass (topS 21) 4
theorem sc_Menu_len : FnScope ["self"] ["self"] (defScope s_Menu_len) := ⟨rfl, rfl, rfl, by decide +kernel, rfl, by decide +kernel, by decide +kernel⟩

theorem ok_Menu_len {f : Addr} {fd : FuncData} (F : Fun K "__len__" "Menu.__len__" s_Menu_len f fd) (bt : Bt mg)
    (cl_Menu : Cls K (C "Menu"))
    (n_Menu_own_kinds : NoAttr K (C "Menu") "own_kinds") :
    FnOk P w K mg base CX0 1 f fd ["self"] (sp_Menu_len K C) := by
  refine F.ok sc_Menu_len (fun vs H Q E h => ?_) (fun cdv A outer s H vs Q E hr h => ?_)
  · obtain ⟨W, M, v, z, _, _, rfl, _⟩ := h; rfl
  · obtain ⟨W, M, v, z, rfl, rfl, rfl, ok, r, hz, k⟩ := h
    have S0 : Sl W M (L2.start ["self"] [v]) H 0 z := ⟨v, rfl, r⟩
    have k : ∀ r H', Ex W [] H H' → Rep W M H' r ((kinds z.cols).length : Int) → Q r H' := k
    refine ⟨_, (pss_one (ps_ret (pe_callB cLenS (by rfl) bt.len_ (by decide +kernel) (pa_cons (pe_fld (pv 0) rfl) pa_nil)))), ?_⟩
    exact s_ret ok ((ev_lenT (mn_kinds (ev_var S0) cl_Menu n_Menu_own_kinds)).is (by unfold kindsT; rw [List.length_map])) fun v H3 e3 r => k v H3 e3 r

abbrev s_Menu_contains : Stmt := inClass (topS 21) 5
theorem sc_Menu_contains : FnScope ["self", "kind", "other"] ["self", "kind"] (defScope s_Menu_contains) := ⟨rfl, rfl, rfl, by decide +kernel, rfl, by decide +kernel, by decide +kernel⟩

theorem ok_Menu_contains {f : Addr} {fd : FuncData} (F : Fun K "__contains__" "Menu.__contains__" s_Menu_contains f fd) (bt : Bt mg)
    (cl_Menu : Cls K (C "Menu"))
    (n_Menu_own_kinds : NoAttr K (C "Menu") "own_kinds") :
    FnOk P w K mg base CX0 1 f fd ["self", "kind"] (sp_Menu_contains K C) := by
  refine F.ok sc_Menu_contains (fun vs H Q E h => ?_) (fun cdv A outer s H vs Q E hr h => ?_)
  · obtain ⟨W, M, v, u, z, d, _, _, rfl, _⟩ := h; rfl
  · obtain ⟨W, M, v, u, z, d, rfl, rfl, rfl, ok, r, rd, hz, k⟩ := h
    have S0 : Sl W M (L2.start ["self", "kind", "other"] [v, u]) H 0 z := ⟨v, rfl, r⟩
    have S1 : Sl W M (L2.start ["self", "kind", "other"] [v, u]) H 1 d := ⟨u, rfl, rd⟩
    refine ⟨_, (pss_one (ps_ret (pe_and (pe_callB call_isi (by rfl) bt.isinstance_ (by decide +kernel) (pa_cons (pv 1) (pa_cons (pe_bltn (v := .ty "tuple") (by rfl) bt.tuple_ (by decide +kernel) rfl) pa_nil))) (pe_one (pe_callB (cr_any rfl) (by rfl) bt.any_ (by decide +kernel) (pa_cons (pe_lc (own := [("other", 2)]) (g := gName 2) rfl sc_Menu_contains.nd (pi_tup (pe_fld (pv 0) rfl)) (blkOk_by (own := [("other", 2)]) (N := ["self", "kind", "other"]) (sc := defScope s_Menu_contains) (by decide +kernel)) (fun _ _ _ _ _ => (pg_name (i := 2) sc_Menu_contains.nd rfl (Or.inl rfl))) (fun _ _ _ _ _ => pts_nil) (fun _ _ _ _ _ => (PE.to (pe_cmpR (op_eqE (by exact hr.units)) (pv 1) (pv 2) (nomark _)) (by dsimp only [Cx.blk] <;> rfl)))) pa_nil)))))), ?_⟩
    refine s_ret ok (ev_and (ev_isTupD (ev_var S1)) fun _ => ev_any (ev_lc (ei_tup (mn_kinds (ev_var S0) cl_Menu n_Menu_own_kinds)) ?_ (by decide) fun i s v M' H' hi l r => ev_eqP (ev_var (S1.lc l)) (ev_var (Sl.me r)) hz.2)) fun v H3 e3 r => k v H3 e3 r
    unfold kindsT
    rw [List.length_map]
    exact Nat.le_trans hz.1 (by decide)

abbrev s_Menu_place : Stmt := inClass (topS 21) 6
theorem sc_Menu_place : FnScope ["self", "kind"] ["self", "kind"] (defScope s_Menu_place) := ⟨rfl, rfl, rfl, by decide +kernel, rfl, by decide +kernel, by decide +kernel⟩

theorem ok_Menu_place {f : Addr} {fd : FuncData} (F : Fun K "place" "Menu.place" s_Menu_place f fd) (bt : Bt mg)
    (i_Menu : OwnC P w K mg base 1 (C "Menu") "__contains__" ["self", "kind"] (sp_Menu_contains K C))
    (cl_Menu : Cls K (C "Menu"))
    (n_Menu_own_kinds : NoAttr K (C "Menu") "own_kinds") :
    FnOk P w K mg base CX0 2 f fd ["self", "kind"] (sp_Menu_place K C) := by
  refine F.ok sc_Menu_place (fun vs H Q E h => ?_) (fun cdv A outer s H vs Q E hr h => ?_)
  · obtain ⟨W, M, v, u, z, d, _, _, rfl, _⟩ := h; rfl
  · obtain ⟨W, M, v, u, z, d, rfl, rfl, rfl, ok, r, rd, hz, k⟩ := h
    have S0 : Sl W M (L2.start ["self", "kind"] [v, u]) H 0 z := ⟨v, rfl, r⟩
    have S1 : Sl W M (L2.start ["self", "kind"] [v, u]) H 1 d := ⟨u, rfl, rd⟩
    refine ⟨_, (pss_cons (ps_if (pt_cmpR (op_notInOwn i_Menu (by exact hr.mono (by decide))) (pv 1) (pv 0) (by rfl)) (pss_one ps_never) pss_nil)
      (pss_one (ps_ret (pe_bmF PySem.F.plainAttrs_tuple PySem.F.slot_tuple_index PySem.F.type_tuple_index (mt_idxT (by exact u65 hr)) (pe_fld (pv 0) rfl) (pa_cons (pv 1) pa_nil))))), ?_⟩
    refine s_no ok (et_t ((ev_own (neg := true) (o := z) (x := d) (ev_var S1) (ev_var S0) ⟨hz.1, hz.2.1⟩).is (by rw [if_pos rfl, hz.2.2.1]; rfl))) fun H1 e1 ok1 => ?_
    exact s_ret ok1 (mn_place (ev_var (S0.up e1)) (ev_var (S1.up e1)) cl_Menu n_Menu_own_kinds hz.2.2.2) fun v H3 e3 r => k v H3 (e1.trans e3) r

abbrev s_Menu_same : Stmt := inClass (topS 21) 7
theorem sc_Menu_same : FnScope ["self", "other"] ["self", "other"] (defScope s_Menu_same) := ⟨rfl, rfl, rfl, by decide +kernel, rfl, by decide +kernel, by decide +kernel⟩

theorem ok_Menu_same {f : Addr} {fd : FuncData} (F : Fun K "same" "Menu.same" s_Menu_same f fd) (bt : Bt mg)
    (cl_Menu : Cls K (C "Menu"))
    (n_Menu_own_columns : NoAttr K (C "Menu") "own_columns") :
    FnOk P w K mg base CX0 1 f fd ["self", "other"] (sp_Menu_same K C) := by
  refine F.ok sc_Menu_same (fun vs H Q E h => ?_) (fun cdv A outer s H vs Q E hr h => ?_)
  · obtain ⟨W, M, v, u, z, d, _, _, rfl, _⟩ := h; rfl
  · obtain ⟨W, M, v, u, z, d, rfl, rfl, rfl, ok, r, rd, hz, k⟩ := h
    have S0 : Sl W M (L2.start ["self", "other"] [v, u]) H 0 z := ⟨v, rfl, r⟩
    have S1 : Sl W M (L2.start ["self", "other"] [v, u]) H 1 d := ⟨u, rfl, rd⟩
    refine ⟨_, (pss_one (ps_ret (pe_cmpR (op_eqE (by exact hr.units)) (pe_fld (pv 0) rfl) (pe_fld (pv 1) rfl) (nomark _)))), ?_⟩
    exact s_ret ok (ev_eqD (mn_cols (ev_var S0) cl_Menu n_Menu_own_columns) (mn_cols (ev_var S1) cl_Menu n_Menu_own_columns)) fun v H3 e3 r => k v H3 e3 r

abbrev s_Menu_text : Stmt := inClass (topS 21) 8
theorem sc_Menu_text : FnScope ["self", "name", "worths"] ["self"] (defScope s_Menu_text) := ⟨rfl, rfl, rfl, by decide +kernel, rfl, by decide +kernel, by decide +kernel⟩

theorem ok_Menu_text {f : Addr} {fd : FuncData} (F : Fun K "text" "Menu.text" s_Menu_text f fd) (bt : Bt mg)
    (cl_Menu : Cls K (C "Menu"))
    (n_Menu_own_columns : NoAttr K (C "Menu") "own_columns") :
    FnOk P w K mg base CX0 1 f fd ["self"] (sp_Menu_text K C) := by
  refine F.ok sc_Menu_text (fun vs H Q E h => ?_) (fun cdv A outer s H vs Q E hr h => ?_)
  · obtain ⟨W, M, v, z, _, _, rfl, _⟩ := h; rfl
  · obtain ⟨W, M, v, z, rfl, rfl, rfl, ok, r, hz, k⟩ := h
    have S0 : Sl W M (L2.start ["self", "name", "worths"] [v]) H 0 z := ⟨v, rfl, r⟩
    obtain ⟨hf, h3, h12⟩ := hz
    have hin : ∀ c ∈ z.cols, ∀ x ∈ c.1 :: c.2, x.length ≤ 1000 := fun c hc x hx => by
      obtain ⟨q1, _, q3⟩ := hf.2 c hc
      rcases List.mem_cons.mp hx with rfl | hx
      · exact q1
      · exact q3 x hx
    have hn : ∀ c ∈ z.cols, (c.1 :: c.2).length * (1000 + 1) ≤ 13013 := fun c hc => by have := h12 c hc; rw [List.length_cons]; omega
    have hcl : (colsT z).l.length ≤ 3 := by unfold colsT; rw [List.length_map]; exact h3
    refine ⟨_, (pss_one (ps_ret (peJoin pe_str (pe_lc (own := [("name", 1), ("worths", 2)]) (g := gPair W.K 1 2) rfl sc_Menu_text.nd (pi_tup (pe_fld (pv 0) rfl)) (blkOk_by (own := [("name", 1), ("worths", 2)]) (N := ["self", "name", "worths"]) (sc := defScope s_Menu_text) (by decide +kernel)) (fun _ _ _ _ _ => (pg_tup rfl (pgs_cons (pg_name (i := 1) sc_Menu_text.nd rfl (Or.inl rfl)) (pgs_cons (pg_name (i := 2) sc_Menu_text.nd rfl (Or.inl rfl)) pgs_nil)))) (fun _ _ _ _ _ => pts_nil) (fun _ _ _ _ _ => (PE.to (peJoin pe_str (pe_lst (pa_cons (pv 1) (pa_star (pv 2) pa_nil)))) (by dsimp only [Cx.blk] <;> rfl))))))), ?_⟩
    refine s_ret ok ((ev_join (ev_str (s := "; ")) (ev_lc2 (f := fun c : ColT => Txt.join " " (c.1 :: c.2.l)) (ei_tup (mn_cols (ev_var S0) cl_Menu n_Menu_own_columns)) (by omega) (by decide) (by decide) fun i c v1 v2 M' H' hi l r1 r2 => (ev_join (ev_str (s := " "))
      (ev_lst (ea_cons (ev_var ((Sl.me r1).set Ex.refl)) (ea_starT (ev_var (Sl.hr r2)) ea_nil)) ?_) ?_).is (by rw [List.append_nil])) ?_).is ?_) fun v H3 e3 r => k v H3 e3 r
    · obtain ⟨d, hd, rfl⟩ := List.mem_map.mp (List.mem_of_getElem? hi)
      have := hn d hd
      rw [List.append_nil]
      show (d.1 :: d.2).length ≤ _
      omega
    · obtain ⟨d, hd, rfl⟩ := List.mem_map.mp (List.mem_of_getElem? hi)
      rw [List.append_nil]
      have h1 := join_le (z := " ") (xs := d.1 :: d.2) (hin d hd)
      have h2 := hn d hd
      exact Nat.le_trans h1 (Nat.le_trans h2 (by decide))
    · refine Nat.le_trans (join_le (n := 13013) fun x hx => ?_) ?_
      · obtain ⟨c, hc, rfl⟩ := List.mem_map.mp hx
        obtain ⟨d, hd, rfl⟩ := List.mem_map.mp hc
        exact Nat.le_trans (join_len (z := " ") (xs := d.1 :: d.2) (hin d hd)) (hn d hd)
      · rw [List.length_map]
        refine Nat.le_trans (Nat.mul_le_mul_right _ hcl) (by decide)
    · show Txt.join "; " _ = menuText z.cols
      unfold menuText colsT
      rw [List.map_map]; rfl

abbrev s_Menu_read : Stmt := inClass (topS 21) 1
theorem sc_Menu_read : FnScope ["cls", "text", "parts", "words", "columns", "part", "row"] ["cls", "text"] (defScope s_Menu_read) := ⟨rfl, rfl, rfl, by decide +kernel, rfl, by decide +kernel, by decide +kernel⟩

theorem ok_Menu_read {f : Addr} {fd : FuncData} (F : Fun K "read" "Menu.read" s_Menu_read f fd) (bt : Bt mg)
    (c_are_columns : Cal P w K mg base 3 "are_columns" ["value"] (sp_are_columns K C))
    (m_Menu : MakC P w K mg base 4 (C "Menu") "Menu" ["self", "columns"] (sp_Menu_init K C)) :
    FnOk P w K mg base CX0 6 f fd ["cls", "text"] (sp_Menu_read K C) := by
  refine F.ok sc_Menu_read (fun vs H Q E h => ?_) (fun cdv A outer s H vs Q E hr h => ?_)
  · obtain ⟨W, M, z, _, _, rfl, _⟩ := h; rfl
  · obtain ⟨W, M, z, rfl, rfl, rfl, ok, hz, hp, hf, ha, k⟩ := h
    have C0 : (L2.start ["cls", "text", "parts", "words", "columns", "part", "row"] [V.ref (W.C "Menu"), V.str z])[0]? = some (some (V.ref (W.C "Menu"))) := rfl
    have S1 : Sl W M (L2.start ["cls", "text", "parts", "words", "columns", "part", "row"] [V.ref (W.C "Menu"), V.str z]) H 1 z := ⟨_, rfl, rep_str⟩
    have hn : (Txt.split z "; ").length ≤ 1000 := by have := hf.1; unfold textCols at this; rwa [List.length_map] at this
    have hq : (textCols z).map toQ = (((Txt.split z "; ").map fun p => Txt.split p " ").map fun row => ((row.headD Str.empty, row.drop 1) : Col)).map toQ := by unfold textCols; simp only [List.map_map]; rfl
    refine ⟨_, (pss_cons (ps_set (i := 2) sc_Menu_read.nd rfl (.inl rfl) (pe_ifExp (pt_val (pe_callB call_isi (by rfl) bt.isinstance_ (by decide +kernel) (pa_cons (pv 1) (pa_cons (pe_bltn (v := .ty "str") (by rfl) bt.str_ (by decide +kernel) rfl) pa_nil)))) (peSplit (pv 1) pe_str) (pe_lst pa_nil)))
      (pss_cons (ps_setLc (i := 3) (own := [("part", 5)]) (g := gName 5) rfl sc_Menu_read.nd rfl rfl (sw_true rfl rfl rfl (by decide +kernel)) (pi_list (pv 2)) (blkOk_by (own := [("part", 5)]) (N := ["cls", "text", "parts", "words", "columns", "part", "row"]) (sc := defScope s_Menu_read) (by decide +kernel)) (fun _ _ _ _ _ => (pg_name (i := 5) sc_Menu_read.nd rfl (Or.inl rfl))) (fun _ _ _ _ _ => pts_nil) (fun _ _ _ _ _ => (peSplit (pv 5) pe_str)))
      (pss_cons (ps_setLc (i := 4) (own := [("row", 6)]) (g := gName 6) rfl sc_Menu_read.nd rfl rfl (sw_true rfl rfl rfl (by decide +kernel)) (pi_list (pv 3)) (blkOk_by (own := [("row", 6)]) (N := ["cls", "text", "parts", "words", "columns", "part", "row"]) (sc := defScope s_Menu_read) (by decide +kernel)) (fun _ _ _ _ _ => (pg_name (i := 6) sc_Menu_read.nd rfl (Or.inl rfl))) (fun _ _ _ _ _ => pts_nil) (fun _ _ _ _ _ => (PE.to (pe_tup (pa_cons (pe_ix ix_list (pv 6) pe_int (fun _ _ => rfl)) (pa_cons (pe_slice sl_list (pv 6) (po_some pe_int) po_none) pa_nil))) (by dsimp only [Cx.blk] <;> rfl))))
      (pss_cons (ps_if (pt_not (pt_val (pe_call c_are_columns.ok (by exact hr.mono (by decide)) (by rfl) c_are_columns.gl c_are_columns.kp c_are_columns.b .nil pass0 (pa_cons (pv 4) pa_nil)))) (pss_one ps_never) pss_nil)
      (pss_one (ps_ret (pe_makeL (i := 0) m_Menu.mo m_Menu.ok (by exact hr.mono (by decide)) m_Menu.b (pa_cons (pv 4) pa_nil)))))))), ?_⟩
    refine s_set ok ((ev_ife (y := ([] : List Str)) (et_b (ev_isStr (ev_var S1))) (fun _ => ev_split (ev_var S1) ev_str (by decide +kernel) (by omega)) (fun z => nomatch z)).is (x' := Txt.split z "; ") rfl) fun v1 H1 e1 ok1 r1 => ?_
    have S2 := Sl.hr (k := 2) (σ := L2.start ["cls", "text", "parts", "words", "columns", "part", "row"] [V.ref (W.C "Menu"), V.str z]) r1
    refine s_set ok1 (ev_lc (f := fun p => Txt.split p " ") (ei_list (ev_var S2)) (by omega) (by decide) fun i p v M' H' hi l r => ev_split (ev_var (Sl.me r)) ev_str (by decide +kernel) (by have := (hp p (List.mem_of_getElem? hi)).1; omega)) fun v2 H2 e2 ok2 r2 => ?_
    have S3 := Sl.hr (k := 3) (σ := (L2.start ["cls", "text", "parts", "words", "columns", "part", "row"] [V.ref (W.C "Menu"), V.str z]).set 2 (some v1)) r2
    refine s_set ok2 (ev_lc (f := fun row : List Str => ((row.headD Str.empty, row.drop 1) : Col)) (ei_list (ev_var S3)) (by rw [List.length_map]; omega) (by decide) fun i row v M' H' hi l r => ev_pair (ev_ixL (ev_var (Sl.me r)) ev_int ?_) ((ev_slL (ev_var (Sl.me r)) (eo_some ev_int) eo_none).is cutG_from)) fun v3 H3 e3 ok3 r3 => ?_
    · obtain ⟨p, hp', rfl⟩ := List.mem_map.mp (List.mem_of_getElem? hi)
      have hne := (hp p hp').2
      cases hs : Txt.split p " " with
      | nil => exact absurd hs hne
      | cons a t => exact atI_getD Str.empty (by decide) (by rw [List.length_cons]; omega)
    have S4 : Sl W M (((((L2.start ["cls", "text", "parts", "words", "columns", "part", "row"] [V.ref (W.C "Menu"), V.str z]).set 2 (some v1)).set 3 (some v2)).set 4 (some v3))) H3 4 (Sq.mk ((textCols z).map toQ)) := Sl.hr (by rw [hq]; exact r3.colsQ)
    have hfq : Fair (((Sq.mk ((textCols z).map toQ)).l).map unQ) := by rw [unQ_map]; exact hf
    have haq : areCols (((Sq.mk ((textCols z).map toQ)).l).map unQ) = true := by rw [unQ_map]; exact ha
    refine s_no ok3 (et_not (b := true) (et_b ((ev_f1 (x := Sq.mk ((textCols z).map toQ)) (ev_var S4) hfq).is haq))) fun H4 e4 ok4 => ?_
    refine s_ret ok4 ((ev_makeL rfl (ev_make (x := Sq.mk ((textCols z).map toQ)) (ev_var (S4.up e4)) ⟨hfq, haq⟩)).is (x' := Menu.mk (textCols z)) ?_) fun v5 H5 e5 r5 => k v5 H5 ((((e1.trans e2).trans e3).trans e4).trans e5) r5
    show Menu.mk (((textCols z).map toQ).map unQ) = _
    rw [unQ_map]

abbrev s_Menu_init : Stmt := inClass (topS 21) 0
theorem sc_Menu_init : FnScope ["self", "columns", "name", "worths"] ["self", "columns"] (defScope s_Menu_init) := ⟨rfl, rfl, rfl, by decide +kernel, rfl, by decide +kernel, by decide +kernel⟩

theorem ok_Menu_init {f : Addr} {fd : FuncData} (F : Fun K "__init__" "Menu.__init__" s_Menu_init f fd) (bt : Bt mg)
    (c_are_columns : Cal P w K mg base 3 "are_columns" ["value"] (sp_are_columns K C))
    (c_kinds_of : Cal P w K mg base 1 "kinds_of" ["columns"] (sp_kinds_of K C))
    (cl_Menu : Cls K (C "Menu"))
    (n_Menu_own_columns : NoAttr K (C "Menu") "own_columns")
    (n_Menu_own_kinds : NoAttr K (C "Menu") "own_kinds") :
    FnOk P w K mg base CX0 4 f fd ["self", "columns"] (sp_Menu_init K C) := by
  refine F.ok sc_Menu_init (fun vs H Q E h => ?_) (fun cdv A outer s H vs Q E hr h => ?_)
  · obtain ⟨W, M, a, dx, v, z, _, _, rfl, _⟩ := h; rfl
  · obtain ⟨W, M, a, dx, v, z, rfl, rfl, rfl, ok, nb, nbl, nm, ha, r, hz, k⟩ := h
    have S1 : Sl W (a :: dx :: M) (L2.start ["self", "columns", "name", "worths"] [.ref a, v]) H 1 z := ⟨v, rfl, r⟩
    have A0 : (L2.start ["self", "columns", "name", "worths"] [.ref a, v])[0]? = some (some (.ref a)) := rfl
    have hl : z.l.length ≤ 1000 := by simpa using hz.1.1
    have few : Few (((Sq.mk ((z.l.map unQ).map toQ)).l).map unQ) := by rw [unQ_map]; exact areCols_few hz.2
    have ok_ne : ¬ ("own_columns" : Str) = "own_kinds" := by decide +kernel
    refine ⟨_, (pss_cons (ps_if (pt_not (pt_val (pe_call c_are_columns.ok (by exact hr.mono (by decide)) (by rfl) c_are_columns.gl c_are_columns.kp c_are_columns.b .nil pass0 (pa_cons (pv 1) pa_nil)))) (pss_one ps_never) pss_nil)
      (pss_cons (ps_fld (pv 0) (pe_callTy cTupOfF (by rfl) bt.tuple_ (by decide +kernel) (pa_cons (pe_lc (own := [("name", 2), ("worths", 3)]) (g := gPair W.K 2 3) rfl sc_Menu_init.nd (pi_seq (pv 1)) (blkOk_by (own := [("name", 2), ("worths", 3)]) (N := ["self", "columns", "name", "worths"]) (sc := defScope s_Menu_init) (by decide +kernel)) (fun _ _ _ _ _ => (pg_tup rfl (pgs_cons (pg_name (i := 2) sc_Menu_init.nd rfl (Or.inl rfl)) (pgs_cons (pg_name (i := 3) sc_Menu_init.nd rfl (Or.inl rfl)) pgs_nil)))) (fun _ _ _ _ _ => pts_nil) (fun _ _ _ _ _ => (PE.to (pe_tup (pa_cons (pv 2) (pa_cons (pe_callTy cTupOf (by rfl) bt.tuple_ (by decide +kernel) (pa_cons (pv 3) pa_nil)) pa_nil))) (by dsimp only [Cx.blk] <;> rfl)))) pa_nil)) rfl)
      (pss_one (ps_fld (pv 0) (pe_callTy cTupOfF (by rfl) bt.tuple_ (by decide +kernel) (pa_cons (pe_call c_kinds_of.ok (by exact hr.mono (by decide)) (by rfl) c_kinds_of.gl c_kinds_of.kp c_kinds_of.b .nil pass0 (pa_cons (pe_fld (pv 0) rfl) pa_nil)) pa_nil)) rfl)))), ?_⟩
    refine s_no ok (et_not (b := true) (et_b ((ev_f1 (x := z) (ev_var S1) hz.1).is hz.2))) fun H1 e1 ok1 => ?_
    refine s_fld ok1 (x := TupF.mk ((z.l.map unQ).map toT)) ((ev_tupleF (ev_lc2 (f := fun c : ColQ => toT (unQ c)) (ei_seq (ev_var (S1.up e1))) (by omega) (by decide) (by decide) fun i c v1 v2 M' H' hi l r1 r2 => ev_pair (ev_var ((Sl.me r1).set Ex.refl)) (ev_tupleQ (ev_var (Sl.hr r2))))).is (by rw [List.map_map]; rfl))
      A0 nb nbl (by simp) (e1.keep a _ nb (by simp) ha) cl_Menu n_Menu_own_columns (by decide) fun v2 H2 e2 ok2 r2 ha2 => ?_
    refine (ev_f1 (x := Sq.mk ((z.l.map unQ).map toQ)) ((ev_fldR A0 nb ha2 cl_Menu n_Menu_own_columns (by rfl) r2).cv fun _ _ r => r.tF.colsTQ) few) H2 Ex.refl ok2 _ fun v3 H3 e3 r3 => ?_
    obtain ⟨p, ys, rfl, hh, _, _, pp⟩ := r3.lst
    refine ⟨p, ys, rfl, SqL.of hh, fun l o hl hc hd => ?_⟩
    have ok3 := ok2.ex e3
    have ha3 := e3.keep a _ nb (by simp) ha2
    have nal : a ≠ l := ne_of_none ha3 hl
    refine ⟨.ref a, A0, a, _, dx, _, rfl, (by rw [upd_ne nal]; exact ha3), cl_Menu, n_Menu_own_kinds, (by show 1 < 1000; decide), ?_⟩
    have en : Ex W (a :: dx :: M) H3 (upd H3 l (.frz o (.tup ys))) := Ex.new hl
    have em : Ex W [a] (upd H3 l (.frz o (.tup ys))) (upd (upd H3 l (.frz o (.tup ys))) a (.ins (W.C "Menu") dx (putF "own_kinds" (.ref l) (putF "own_columns" v2 [])))) := Ex.mut nb nbl (by simp)
    have em' := em.sub (N := a :: dx :: M) (by simp)
    have ef : putF "own_kinds" (.ref l) (putF "own_columns" v2 []) = [(("own_columns" : Str), v2), (("own_kinds" : Str), V.ref l)] := by
      show (if ("own_columns" : Str) = "own_kinds" then _ else _) = _
      rw [if_neg ok_ne]; rfl
    refine k _ (((e1.up.trans e2).trans (e3.up.trans (Ex.new hl))).trans em) ?_
    have hl0 : l ∉ (a :: dx :: M) := ok3.new_M hl
    refine ⟨a, dx, v2, o, l, ys, rfl, cut_some.mpr ⟨nb, nm, ?_⟩, (((r2.up e3).ex en).ex em').less.less, cut_some.mpr ⟨ok3.new_b hl, fun h => hl0 (List.mem_cons_of_mem _ (List.mem_cons_of_mem _ h)), ?_⟩, hc, hd, ?_⟩
    · rw [upd_same, ef]
    · rw [upd_ne nal.symm, upd_same]
    · have : Paired (Rep W M _) ys ((kinds (((Sq.mk ((z.l.map unQ).map toQ)).l).map unQ)).map TupK.mk) := Pd.mono pp fun _ _ r => ((r.ex en).ex em').less.less
      rw [unQ_map] at this
      exact this

abbrev s_law_bag : Stmt := topS 35
theorem sc_law_bag : FnScope ["_law_script"] ["_law_script"] (defScope s_law_bag) := ⟨rfl, rfl, rfl, by decide +kernel, rfl, by decide +kernel, by decide +kernel⟩

theorem ok_law_bag {f : Addr} {fd : FuncData} (F : Fun K "_law_bag" "_law_bag" s_law_bag f fd) (bt : Bt mg) :
    FnOk P w K mg base CX0 1 f fd ["_law_script"] (sp_law_bag K C) := by
  refine F.ok sc_law_bag (fun vs H Q E h => ?_) (fun cdv A outer s H vs Q E hr h => ?_)
  · obtain ⟨a, ns, rfl, _⟩ := h; rfl
  · obtain ⟨a, ns, rfl, hS, k⟩ := h
    refine ⟨_, (pss_one (ps_ret (pe_lst (pa_cons (pe_callTy cListOf (by rfl) bt.list_ (by decide +kernel) (pa_cons (pv 0) pa_nil)) (pa_cons pe_int (pa_cons pe_int (pa_cons pe_int (pa_cons pe_int pa_nil)))))))), ?_⟩
    refine ⟨.ref a, rfl, a, _, rfl, .inl hS, fun l hl => ⟨(by show 5 ≤ sizeLine; decide), fun b hb => ?_⟩⟩
    have nbl : b ≠ l := fun e => by rw [e, upd_same] at hb; cases hb
    have hb0 : H b = none := by rw [upd_ne nbl] at hb; exact hb
    exact k b l _ hb0 hl nbl.symm rfl

abbrev s_law_draw : Stmt := topS 36
theorem sc_law_draw : FnScope ["_law_bag_here", "_law_size", "_law_cell", "_law_digit", "_law_mixed_here"] ["_law_bag_here", "_law_size"] (defScope s_law_draw) := ⟨rfl, rfl, rfl, by decide +kernel, rfl, by decide +kernel, by decide +kernel⟩

theorem ok_law_draw {f : Addr} {fd : FuncData} (F : Fun K "_law_draw" "_law_draw" s_law_draw f fd) (bt : Bt mg) :
    FnOk P w K mg base CX0 1 f fd ["_law_bag_here", "_law_size"] (sp_law_draw K C) := by
  refine F.ok sc_law_draw (fun vs H Q E h => ?_) (fun cdv A outer s H vs Q E hr h => ?_)
  · obtain ⟨W, M, v, z, _, _, rfl, _⟩ := h; rfl
  · obtain ⟨W, M, v, n, rfl, rfl, rfl, ok, r, ⟨h1, h30⟩, k⟩ := h
    cases (show v = .int n from r)
    obtain ⟨i, m, sd, c, hB⟩ := bs_of ok.bag
    have b0 : Bs W (L2.start ["_law_bag_here", "_law_size", "_law_cell", "_law_digit", "_law_mixed_here"] [.ref W.b, .int n]) 0 := rfl
    have n30 : n.natAbs < 2 ^ 100 := by
      have h2 : (n.natAbs : Int) < 10 ^ 30 := by omega
      have h3 : n.natAbs < 10 ^ 30 := by exact_mod_cast h2
      exact Nat.lt_trans h3 (by decide)
    have hdiv : ∀ x, CDivW x n := fun x => wide_div (by omega) n30 (by decide) (by decide)
    have hpow : ∀ x : Int, 0 ≤ x → x < 2147483647 → CPow x 3 ∧ CPow x 2 := fun x h0 h1 => ⟨⟨by decide, by decide, by omega⟩, ⟨by decide, by decide, by omega⟩⟩
    refine ⟨_, (pss_cons (ps_asg (pe_op op_add (pe_ix ix_list (pv 0) pe_int (fun _ _ => rfl)) pe_int) (pg_sub (pv 0) pe_int set_list))
      (pss_cons (ps_if (PW.pt (pw_and (pt_cmpR op_eq (pe_ix ix_list (pv 0) pe_int (fun _ _ => rfl)) pe_int (nomark _)) (pw_and1 (pt_cmpR op_lt (pe_ix ix_list (pv 0) pe_int (fun _ _ => rfl)) (pe_callB cLenS (by rfl) bt.len_ (by decide +kernel) (pa_cons (pe_ix ix_list (pv 0) pe_int (fun _ _ => rfl)) pa_nil)) (nomark _))))) (pss_cons (ps_set (i := 2) sc_law_draw.nd rfl (.inl rfl) (pe_ix ix_list (pe_ix ix_list (pv 0) pe_int (fun _ _ => rfl)) (pe_ix ix_list (pv 0) pe_int (fun _ _ => rfl)) (fun _ _ => rfl)))
      (pss_cons (ps_asg (pe_op op_add (pe_ix ix_list (pv 0) pe_int (fun _ _ => rfl)) pe_int) (pg_sub (pv 0) pe_int set_list))
      (pss_cons (ps_asg (pe_op op_mul (pe_op op_add (pe_op op_mul pe_int (pe_callB cAbs (by rfl) bt.abs_ (by decide +kernel) (pa_cons (pv 2) pa_nil))) (pe_callTy cInt (by rfl) bt.int_ (by decide +kernel) (pa_cons (pe_cmpR op_lt (pv 2) pe_int (nomark _)) pa_nil))) (pe_callTy cInt (by rfl) bt.int_ (by decide +kernel) (pa_cons (pe_cmpR op_ge (pe_callB cAbs (by rfl) bt.abs_ (by decide +kernel) (pa_cons (pv 2) pa_nil)) (pe_op op_pow pe_int pe_int) (nomark _)) pa_nil))) (pg_sub (pv 0) pe_int set_list))
      (pss_one (ps_asg (pe_op op_mod (pe_callTy cInt (by rfl) bt.int_ (by decide +kernel) (pa_cons (pe_op op_add (pe_op op_add (pe_op op_mul (pe_ix ix_list (pv 0) pe_int (fun _ _ => rfl)) pe_int) (pe_op op_mul (pv 2) pe_int)) pe_int) pa_nil)) pe_int) (pg_sub (pv 0) pe_int set_list)))))) pss_nil)
      (pss_cons (ps_set (i := 3) sc_law_draw.nd rfl (.inl rfl) (pe_op op_mod (pe_callTy cInt (by rfl) bt.int_ (by decide +kernel) (pa_cons (pe_ix ix_list (pv 0) pe_int (fun _ _ => rfl)) pa_nil)) (pv 1)))
      (pss_cons (ps_if (pt_cmpR op_gt (pe_ix ix_list (pv 0) pe_int (fun _ _ => rfl)) pe_int (nomark _)) (pss_cons (ps_asg (pe_op op_fdivW (pe_ix ix_list (pv 0) pe_int (fun _ _ => rfl)) (pv 1)) (pg_sub (pv 0) pe_int set_list))
      (pss_one (ps_ret (pv 3)))) pss_nil)
      (pss_cons (ps_set (i := 4) sc_law_draw.nd rfl (.inl rfl) (pe_op op_mod (pe_callTy cInt (by rfl) bt.int_ (by decide +kernel) (pa_cons (pe_op op_add (pe_ix ix_list (pv 0) pe_int (fun _ _ => rfl)) (pe_op op_mul (pe_ix ix_list (pv 0) pe_int (fun _ _ => rfl)) pe_int)) pa_nil)) pe_int))
      (pss_cons (ps_set (i := 4) sc_law_draw.nd rfl (.inl rfl) (pe_op op_mod (pe_callTy cInt (by rfl) bt.int_ (by decide +kernel) (pa_cons (pe_op op_add (pe_op op_add (pe_op op_pow (pv 4) pe_int) (pe_op op_mul (pe_ix ix_list (pv 0) pe_int (fun _ _ => rfl)) pe_int)) pe_int) pa_nil)) pe_int))
      (pss_one (ps_ret (pe_op op_mod (pe_op op_fdivW (pe_op op_mod (pe_callTy cInt (by rfl) bt.int_ (by decide +kernel) (pa_cons (pe_op op_pow (pv 4) pe_int) pa_nil)) pe_int) pe_int) (pv 1)))))))))), ?_⟩
    refine bs_set ok b0 hB (val_I0 (bs_get b0 hB rfl) val_c) rfl rfl hB.2.1 hB.2.2 fun H1 e1 ok1 hB1 => ?_
    refine if_cut (J := fun σ' H' => σ'.length = 5 ∧ Bs W σ' 0 ∧ σ'[1]? = some (some (.int n)) ∧ Ex W [] H H' ∧ Ok W M H' ∧ ∃ i m sd c, BS W H' i m sd c)
      (ans_and2 (ans_eqI (bs_get b0 hB1 rfl) val_c) (ans_t (val_B0 (bs_get b0 hB1 rfl) (val_len (bs_get b0 hB1 rfl) ok1.bls)))) ?_ ?_ ?_
    · rintro σ' H2 ⟨hσ, b2, n2, e2, ok2, i, m, sd, c, hB⟩
      refine st_set (val_I (val_int (bs_get b2 hB rfl)) (val_var n2) (by omega)) ?_
      have b3 : Bs W (σ'.set 3 (some (.int (m % n)))) 0 := b2.set
      have n3 : (σ'.set 3 (some (.int (m % n))))[1]? = some (some (.int n)) := by rw [List.getElem?_set_ne (by decide)]; exact n2
      have d3 : (σ'.set 3 (some (.int (m % n))))[3]? = some (some (.int (m % n))) := by rw [List.getElem?_set_self (by rw [hσ]; decide)]
      have hm := hB.2.2
      by_cases hp : 0 < m
      · refine st_yes ((ans_t (val_B0 (bs_get b3 hB rfl) val_c)).to (decide_eq_true hp)) ?_
        refine bs_set ok2 b3 hB (val_I (bs_get b3 hB rfl) (val_var n3) (hdiv _)) rfl rfl hB.2.1 (Int.ediv_nonneg hm (by omega)) fun H3 e3 ok3 hB3 => ?_
        exact st_ret (val_var d3) (k _ _ _ ⟨Int.emod_nonneg _ (by omega), Int.emod_lt_of_pos _ (by omega)⟩ (e2.trans e3) rep_int)
      · refine st_no ((ans_t (val_B0 (bs_get b3 hB rfl) val_c)).to (decide_eq_false hp)) ?_
        refine st_set (val_I (val_int (val_I0 (bs_get b3 hB rfl) (val_I (bs_get b3 hB rfl) val_c (.inr (by decide))))) val_c (by decide)) ?_
        generalize hx : (sd + c * 40692) % 2147483647 = x
        have hx0 : 0 ≤ x := by rw [← hx]; exact Int.emod_nonneg _ (by decide)
        have hx1 : x < 2147483647 := by rw [← hx]; exact Int.emod_lt_of_pos _ (by decide)
        have b4 := b3.set (k := 4) (v := .int x)
        have n4 : ((σ'.set 3 (some (.int (m % n)))).set 4 (some (.int x)))[1]? = some (some (.int n)) := by rw [List.getElem?_set_ne (by decide)]; exact n3
        have x4 : ((σ'.set 3 (some (.int (m % n)))).set 4 (some (.int x)))[4]? = some (some (.int x)) := by rw [List.getElem?_set_self (by rw [List.length_set, hσ]; decide)]
        refine st_set (val_I (val_int (val_I0 (val_I0 (val_I (val_var x4) val_c (hpow x hx0 hx1).1) (val_I (bs_get b4 hB rfl) val_c (.inr (by decide)))) val_c)) val_c (by decide)) ?_
        generalize hy : (x ^ (3 : Int).toNat + c * 16807 + 7) % 2147483629 = y
        have hy0 : 0 ≤ y := by rw [← hy]; exact Int.emod_nonneg _ (by decide)
        have hy1 : y < 2147483647 := by rw [← hy]; exact Int.lt_trans (Int.emod_lt_of_pos _ (by decide)) (by decide)
        have n5 : (((σ'.set 3 (some (.int (m % n)))).set 4 (some (.int x))).set 4 (some (.int y)))[1]? = some (some (.int n)) := by rw [List.getElem?_set_ne (by decide)]; exact n4
        have y5 : (((σ'.set 3 (some (.int (m % n)))).set 4 (some (.int x))).set 4 (some (.int y)))[4]? = some (some (.int y)) := by rw [List.getElem?_set_self (by rw [List.length_set, List.length_set, hσ]; decide)]
        refine st_ret (val_I (val_I (val_I (val_int (val_I (val_var y5) val_c (hpow y hy0 hy1).2)) val_c (by decide)) val_c ⟨by decide, by decide⟩) (val_var n5) (by omega)) (k _ _ _ ⟨Int.emod_nonneg _ (by omega), Int.emod_lt_of_pos _ (by omega)⟩ e2 rep_int)
    · intro hJ hb
      have hi : i < (W.ns.map V.int).length := by
        simp only [Bool.and_eq_true, decide_eq_true_eq] at hb
        exact hb.2
      obtain ⟨cell, hc⟩ := ns_at hB1.2.1 hi
      refine st_set (val_ix (bs_get b0 hB1 rfl) (bs_get b0 hB1 rfl) ok1.bls hc) ?_
      have b2 := b0.set (k := 2) (v := .int cell)
      have c2 : ((L2.start ["_law_bag_here", "_law_size", "_law_cell", "_law_digit", "_law_mixed_here"] [.ref W.b, .int n]).set 2 (some (.int cell)))[2]? = some (some (.int cell)) := rfl
      refine bs_set ok1 b2 hB1 (val_I0 (bs_get b2 hB1 rfl) val_c) rfl rfl (by have := hB1.2.1; omega) hB1.2.2 fun H2 e2 ok2 hB2 => ?_
      refine bs_set ok2 b2 hB2 (val_I (val_I0 (val_I val_c (val_abs (val_var c2)) (.inl (by decide))) (val_intB (val_B0 (val_var c2) val_c))) (val_intB (val_B0 (val_abs (val_var c2)) (val_I val_c val_c ⟨by decide, by decide, by decide⟩))) (.inr (if01 _).2)) rfl rfl hB2.2.1 ?_ fun H3 e3 ok3 hB3 => ?_
      · refine Int.mul_nonneg (Int.add_nonneg (Int.mul_nonneg (by decide) ?_) ?_) ?_
        · split <;> omega
        · exact (if01 _).1
        · exact (if01 _).1
      refine bs_set ok3 b2 hB3 (val_I (val_int (val_I0 (val_I0 (val_I (bs_get b2 hB3 rfl) val_c (.inr (by decide))) (val_I (val_var c2) val_c (.inr (by decide)))) val_c)) val_c (by decide)) rfl rfl hB3.2.1 hB3.2.2 fun H4 e4 ok4 hB4 => ?_
      exact hJ _ _ ⟨rfl, b2, rfl, ((e1.trans e2).trans e3).trans e4, ok4, _, _, _, _, hB4⟩
    · exact fun _ => ⟨rfl, b0, rfl, e1, ok1, _, _, _, _, hB1⟩

abbrev s_law_pick : Stmt := topS 37
theorem sc_law_pick : FnScope ["_law_bag_here", "_law_items"] ["_law_bag_here", "_law_items"] (defScope s_law_pick) := ⟨rfl, rfl, rfl, by decide +kernel, rfl, by decide +kernel, by decide +kernel⟩

theorem ok_law_pick (α : Type) [Py α] {f : Addr} {fd : FuncData} (F : Fun K "_law_pick" "_law_pick" s_law_pick f fd) (bt : Bt mg)
    (c_law_draw : Cal P w K mg base 1 "_law_draw" ["_law_bag_here", "_law_size"] (sp_law_draw K C)) :
    FnOk P w K mg base CX0 2 f fd ["_law_bag_here", "_law_items"] (spPick α K C) := by
  refine F.ok sc_law_pick (fun vs H Q E h => ?_) (fun cdv A outer s H vs Q E hr h => ?_)
  · obtain ⟨W, M, v, z, _, _, rfl, _⟩ := h; rfl
  · obtain ⟨W, M, v, xs, rfl, rfl, rfl, ok, r, ⟨h1, h2⟩, k⟩ := h
    have b0 : Bs W (L2.start ["_law_bag_here", "_law_items"] [.ref W.b, v]) 0 := rfl
    have S1 : Sl W M (L2.start ["_law_bag_here", "_law_items"] [.ref W.b, v]) H 1 xs := ⟨v, rfl, r⟩
    refine ⟨_, (pss_one (ps_ret (pe_ix ix_list (pv 1) (pe_call c_law_draw.ok (by exact hr.mono (by decide)) (by rfl) c_law_draw.gl c_law_draw.kp c_law_draw.b .nil pass0 (pa_cons (pv 0) (pa_cons (pe_callB cLenS (by rfl) bt.len_ (by decide +kernel) (pa_cons (pv 1) pa_nil)) pa_nil))) (fun _ _ => rfl)))), ?_⟩
    exact s_retR ok (evr_ixL (ev_var S1) (evr_b1 b0 (ev_lenL (ev_var S1)) ⟨by omega, by omega⟩) fun n hn => atI_mem hn.1 hn.2) fun v x H' px e r => k v x H' px e r

abbrev s_law_mixed : Stmt := topS 38
theorem sc_law_mixed : FnScope ["_law_bag_here", "_law_items", "_law_left", "_law_found", "_law_k"] ["_law_bag_here", "_law_items"] (defScope s_law_mixed) := ⟨rfl, rfl, rfl, by decide +kernel, rfl, by decide +kernel, by decide +kernel⟩

theorem ok_law_mixed (α : Type) [Py α] {f : Addr} {fd : FuncData} (F : Fun K "_law_mixed" "_law_mixed" s_law_mixed f fd) (bt : Bt mg)
    (c_law_draw : Cal P w K mg base 1 "_law_draw" ["_law_bag_here", "_law_size"] (sp_law_draw K C)) :
    FnOk P w K mg base CX0 2 f fd ["_law_bag_here", "_law_items"] (spMixed α K C) := by
  refine F.ok sc_law_mixed (fun vs H Q E h => ?_) (fun cdv A outer s H vs Q E hr h => ?_)
  · obtain ⟨W, M, v, z, _, _, rfl, _⟩ := h; rfl
  · obtain ⟨W, M, v, xs, rfl, rfl, rfl, ok, r, hl, k⟩ := h
    have b0 : Bs W (L2.start ["_law_bag_here", "_law_items", "_law_left", "_law_found", "_law_k"] [.ref W.b, v]) 0 := rfl
    have S1 : Sl W M (L2.start ["_law_bag_here", "_law_items", "_law_left", "_law_found", "_law_k"] [.ref W.b, v]) H 1 xs := ⟨v, rfl, r⟩
    refine ⟨_, (pss_cons (ps_set (i := 2) sc_law_mixed.nd rfl (.inl rfl) (pe_callTy cListOf (by rfl) bt.list_ (by decide +kernel) (pa_cons (pv 1) pa_nil)))
      (pss_cons (ps_set (i := 3) sc_law_mixed.nd rfl (.inl rfl) (pe_lst pa_nil))
      (pss_cons (ps_for PassesOwn.never rfl (pi_range1 (by rfl) bt.range_ (pa_cons (pe_callB cLenS (by rfl) bt.len_ (by decide +kernel) (pa_cons (pv 1) pa_nil)) pa_nil)) (pg_name (i := 4) sc_law_mixed.nd rfl (Or.inl rfl))
      (pss_one (ps_expr (pe_bm PySem.F.plainAttrs_list PySem.F.slot_list_append PySem.F.type_list_append mt_append (pv 3) (pa_cons (pe_bm PySem.F.plainAttrs_list PySem.F.slot_list_pop PySem.F.type_list_pop mt_popAt (pv 2) (pa_cons (pe_call c_law_draw.ok (by exact hr.mono (by decide)) (by rfl) c_law_draw.gl c_law_draw.kp c_law_draw.b .nil pass0 (pa_cons (pv 0) (pa_cons (pe_callB cLenS (by rfl) bt.len_ (by decide +kernel) (pa_cons (pv 2) pa_nil)) pa_nil))) pa_nil)) pa_nil)))))
      (pss_one (ps_ret (pv 3)))))), ?_⟩
    refine s_list ok (ev_var S1) (by show 2 < 5; decide) fun p H1 hp e1 l1 ok1 A1 => ?_
    refine s_new2 (α := α) ok1 (by show 3 < 5; decide) fun q H2 hq e2 l2 ok2 A2 => ?_
    have hpq : q ≠ p := fun e => by rw [e] at hq; exact ok1.laid p (by simp) hq
    have hq0 : H q = none := e1.free hq
    have pm : p ∉ M := ok.new_M hp
    have qm : q ∉ M := ok.new_M hq0
    have A1' : Acc W (q :: p :: M) ((((L2.start ["_law_bag_here", "_law_items", "_law_left", "_law_found", "_law_k"] [.ref W.b, v]).set 2 (some (.ref p)))).set 3 (some (.ref q))) H2 2 p xs := by
      refine (A1.setσ (l := 3)).le ?_ (by simp) l2
      obtain ⟨vs, hh, _⟩ := A1.it
      rw [e2.keep p _ A1.nb (by simp) hh, hh]
    have sub : ∀ a ∈ M, a ∈ q :: p :: M := fun a h => by simp [h]
    have S1' : Sl W (q :: p :: M) _ H2 1 xs := ((S1.le (l1.trans l2)).set (k := 2) (v := .ref p) Ex.refl).set (k := 3) (v := .ref q) Ex.refl
    refine for_w ok2 (ei_range (ev_lenL (ev_var S1')) (by omega) (by omega)) (fun i σ' H' => Ex W [] H H' ∧ Bs W σ' 0 ∧ ∃ ys zs, Acc W (q :: p :: M) σ' H' 3 q ys ∧ Acc W (q :: p :: M) σ' H' 2 p zs ∧ (ys ++ zs).Perm xs ∧ ys.length = i)
      (fun H' e => ⟨(e1.trans e2).trans e, b0, [], xs, A2.up e, A1'.up e, List.Perm.refl _, rfl⟩) ?_ ?_
    · rintro i x v σ' H' hi ⟨e0, b, ys, zs, AF, AL, pm', hy⟩ ok' H'' e'' r N hN
      have ok'' := ok'.ex e''
      have AF' := (AF.up e'').setσ (l := 4) (v := v)
      have AL' := (AL.up e'').setσ (l := 4) (v := v)
      have hin : i < xs.length := by
        have := (List.getElem?_eq_some_iff.mp hi).1
        rw [rng_len] at this
        omega
      have hz : ys.length + zs.length = xs.length := by rw [← pm'.length_eq, List.length_append]
      refine s_appPop ok'' AF' AL' hpq (by omega) (by omega) ((evr_b1 (b.set (k := 4)) (ev_lenL (ev_var (AL'.out sub pm))) ⟨by omega, by omega⟩).sc sub) fun j y H3 hj e3 e3' ok3 AF3 AL3 => ?_
      exact hN _ _ ⟨e3' H M (e0.trans e'') ok hq0 hp, b.set, _, _, AF3, AL3, perm_pop pm' hj, by rw [List.length_append, hy]; rfl⟩ e3
    · rintro σ' H' ⟨e0, b, ys, zs, AF, AL, pm', hy⟩ ok'
      rw [rng_len] at hy
      have hz : ys.length + zs.length = xs.length := by rw [← pm'.length_eq, List.length_append]
      have hz0 : zs = [] := List.eq_nil_of_length_eq_zero (by omega)
      subst hz0
      rw [List.append_nil] at pm'
      exact s_ret (ok'.sub sub) (ev_var (AF.out sub qm)) fun v H3 e3 r => k v ys H3 pm' (e0.trans e3) r

abbrev s_law_names : Stmt := topS 39
theorem sc_law_names : FnScope ["_law_bag_here", "_law_count", "_law_words", "_law_letters", "_law_size", "_law_stem", "_law_where", "_law_shift", "_law_longer", "_law_names_here", "_law_k", "_law_name", "_law_spot", "_law_word"] ["_law_bag_here", "_law_count", "_law_words"] (defScope s_law_names) := ⟨rfl, rfl, rfl, by decide +kernel, rfl, by decide +kernel, by decide +kernel⟩

theorem ok_law_names {f : Addr} {fd : FuncData} (F : Fun K "_law_names" "_law_names" s_law_names f fd) (bt : Bt mg)
    (c_law_draw : Cal P w K mg base 1 "_law_draw" ["_law_bag_here", "_law_size"] (sp_law_draw K C)) :
    FnOk P w K mg base CX0 2 f fd ["_law_bag_here", "_law_count", "_law_words"] (sp_law_names K C) := by
  refine F.ok sc_law_names (fun vs H Q E h => ?_) (fun cdv A outer s H vs Q E hr h => ?_)
  · obtain ⟨W, M, v, u, z, d, _, _, rfl, _⟩ := h; rfl
  · obtain ⟨W, M, v, u, count, words, rfl, rfl, rfl, ok, r, rw_, ⟨hc1, hc2, hw1, hw2, hw3⟩, k⟩ := h
    cases (show v = .int count from r)
    have lets : (tl lettersS).length = 26 := by rw [letters_tl]; rfl
    have letl : lettersS.length = 26 := by rw [len_tl, lets]
    have key : ∀ n : Int, 0 ≤ n ∧ n < 26 → ∃ c, atI lettersS.cps.toList n = some c ∧ ∃ c', (⟨#[c]⟩ : Str) = ⟨#[c']⟩ ∧ isL c' := fun n hn => ⟨_, letter_at hn.1 hn.2, _, rfl, by unfold isL; omega⟩
    refine ⟨_, (pss_cons (ps_set (i := 3) sc_law_names.nd rfl (.inr rfl) pe_str)
      (pss_cons (ps_set (i := 4) sc_law_names.nd rfl (.inl rfl) (pe_ix ix_list (pe_lst (pa_cons pe_int (pa_cons pe_int (pa_cons pe_int (pa_cons pe_int (pa_cons pe_int pa_nil)))))) (pe_call c_law_draw.ok (by exact hr.mono (by decide)) (by rfl) c_law_draw.gl c_law_draw.kp c_law_draw.b .nil pass0 (pa_cons (pv 0) (pa_cons pe_int pa_nil))) (fun _ _ => rfl)))
      (pss_cons (ps_set (i := 5) sc_law_names.nd rfl (.inl rfl) (peJoin pe_str (pe_lc (own := [("_law_k", 10)]) (g := gName 10) rfl sc_law_names.nd (pi_range1 (by rfl) bt.range_ (pa_cons (pv 4) pa_nil)) (blkOk_by (own := [("_law_k", 10)]) (N := ["_law_bag_here", "_law_count", "_law_words", "_law_letters", "_law_size", "_law_stem", "_law_where", "_law_shift", "_law_longer", "_law_names_here", "_law_k", "_law_name", "_law_spot", "_law_word"]) (sc := defScope s_law_names) (by decide +kernel)) (fun _ _ _ _ _ => (pg_name (i := 10) sc_law_names.nd rfl (Or.inl rfl))) (fun _ _ _ _ _ => pts_nil) (fun _ _ _ _ _ => (PE.to (pe_ix ix_str (pv 3) (pe_call c_law_draw.ok (by exact hr.mono (by decide)) (by rfl) c_law_draw.gl c_law_draw.kp c_law_draw.b .nil pass0 (pa_cons (pv 0) (pa_cons pe_int pa_nil))) (fun _ _ => rfl)) (by dsimp only [Cx.blk] <;> rfl))))))
      (pss_cons (ps_set (i := 6) sc_law_names.nd rfl (.inl rfl) (pe_call c_law_draw.ok (by exact hr.mono (by decide)) (by rfl) c_law_draw.gl c_law_draw.kp c_law_draw.b .nil pass0 (pa_cons (pv 0) (pa_cons (pe_op op_add (pv 4) pe_int) pa_nil))))
      (pss_cons (ps_set (i := 7) sc_law_names.nd rfl (.inl rfl) (pe_call c_law_draw.ok (by exact hr.mono (by decide)) (by rfl) c_law_draw.gl c_law_draw.kp c_law_draw.b .nil pass0 (pa_cons (pv 0) (pa_cons pe_int pa_nil))))
      (pss_cons (ps_set (i := 8) sc_law_names.nd rfl (.inl rfl) (pe_call c_law_draw.ok (by exact hr.mono (by decide)) (by rfl) c_law_draw.gl c_law_draw.kp c_law_draw.b .nil pass0 (pa_cons (pv 0) (pa_cons pe_int pa_nil))))
      (pss_cons (ps_set (i := 9) sc_law_names.nd rfl (.inl rfl) (pe_lst pa_nil))
      (pss_cons (ps_for PassesOwn.never rfl (pi_range1 (by rfl) bt.range_ (pa_cons (pv 1) pa_nil)) (pg_name (i := 10) sc_law_names.nd rfl (Or.inl rfl))
      (pss_cons (ps_set (i := 11) sc_law_names.nd rfl (.inl rfl) (pe_op op_add_str (pe_op op_add_str (pe_slice sl_str (pv 5) po_none (po_some (pv 6))) (pe_ix ix_str (pv 3) (pe_op op_mod (pe_callTy cInt (by rfl) bt.int_ (by decide +kernel) (pa_cons (pe_op op_add (pv 7) (pe_op op_mul pe_int (pv 10))) pa_nil)) pe_int) (fun _ _ => rfl))) (pe_slice sl_str (pv 5) (po_some (pv 6)) po_none)))
      (pss_one (ps_expr (pe_bm PySem.F.plainAttrs_list PySem.F.slot_list_append PySem.F.type_list_append mt_append (pv 9) (pa_cons (pe_op op_add_str (pv 11) (pe_op op_mulS (pe_ix ix_str (pv 3) (pv 7) (fun _ _ => rfl)) (pe_callTy cInt (by rfl) bt.int_ (by decide +kernel) (pa_cons (pe_cmpR op_eq (pe_op op_mod (pe_callTy cInt (by rfl) bt.int_ (by decide +kernel) (pa_cons (pv 10) pa_nil)) pe_int) (pv 8) (nomark _)) pa_nil)))) pa_nil))))))
      (pss_cons (ps_if (PW.pt (pw_and (pt_cmpR op_gt (pv 1) pe_int (nomark _)) (pw_and (pt_cmpR op_lt (pv 4) pe_int (nomark _)) (pw_and1 (pt_cmpR op_eq (pv 8) pe_int (nomark _)))))) (pss_one (ps_asg (pe_op op_add_str (pe_ix ix_list (pv 9) pe_int (fun _ _ => rfl)) (pe_ix ix_str (pv 3) (pe_call c_law_draw.ok (by exact hr.mono (by decide)) (by rfl) c_law_draw.gl c_law_draw.kp c_law_draw.b .nil pass0 (pa_cons (pv 0) (pa_cons pe_int pa_nil))) (fun _ _ => rfl))) (pg_sub (pv 9) pe_int set_list))) pss_nil)
      (pss_cons (ps_set (i := 12) sc_law_names.nd rfl (.inl rfl) (pe_call c_law_draw.ok (by exact hr.mono (by decide)) (by rfl) c_law_draw.gl c_law_draw.kp c_law_draw.b .nil pass0 (pa_cons (pv 0) (pa_cons (pe_op op_mul pe_int (pv 1)) pa_nil))))
      (pss_cons (ps_set (i := 13) sc_law_names.nd rfl (.inl rfl) (pe_ix ix_list (pv 2) (pe_call c_law_draw.ok (by exact hr.mono (by decide)) (by rfl) c_law_draw.gl c_law_draw.kp c_law_draw.b .nil pass0 (pa_cons (pv 0) (pa_cons (pe_callB cLenS (by rfl) bt.len_ (by decide +kernel) (pa_cons (pv 2) pa_nil)) pa_nil))) (fun _ _ => rfl)))
      (pss_cons (ps_if (PW.pt (pw_and (pt_cmpR op_lt (pv 12) (pv 1) (nomark _)) (pw_and1 (pt_cmpR (op_notInE (by exact u65 hr)) (pv 13) (pv 9) (by rfl))))) (pss_one (ps_asg (pv 13) (pg_sub (pv 9) (pv 12) set_list))) pss_nil)
      (pss_one (ps_ret (pv 9))))))))))))))), ?_⟩
    have b0 : Bs W [some (.ref W.b), some (.int count), some u, none, none, none, none, none, none, none, none, none, none, none] 0 := rfl
    have S2 : Sl W M [some (.ref W.b), some (.int count), some u, none, none, none, none, none, none, none, none, none, none, none] H 2 words := ⟨u, rfl, rw_⟩
    refine s_set ok (ev_str (s := lettersS)) fun v3 H1 e1 ok1 r3 => ?_
    cases (show v3 = .str lettersS from r3)
    refine s_setR ok1 (P := fun n : Int => 0 ≤ n ∧ n ≤ 6) (evr_ixL (ev_lst (xs := [0, 1, 2, 3, 6]) (ea_cons ev_int (ea_cons ev_int (ea_cons ev_int (ea_cons ev_int (ea_cons ev_int ea_nil))))) (by decide)) (evr_b1 bsr ev_int ⟨by decide, by decide⟩) fun n hn => ?_) fun v4 size H2 hs e2 ok2 r4 => ?_
    · obtain ⟨x, hx, hm⟩ := atI_mem (xs := [0, 1, 2, 3, (6 : Int)]) hn.1 hn.2
      refine ⟨x, hx, ?_⟩
      simp only [List.mem_cons, List.not_mem_nil, or_false] at hm
      omega
    cases (show v4 = .int size from r4)
    refine s_setR ok2 (P := fun z : Str => ((tl z).length : Int) = size ∧ ∀ c ∈ tl z, isL c) (evr_join ev_str (evr_lc (R := fun _ (z : Str) => ∃ c, z = ⟨#[c]⟩ ∧ isL c) (ei_range (ev_vi) (by omega) (by omega)) (by rw [rng_len]; omega) (by decide)
      fun i x v M' H' hi l r => evr_ixS (ev_vs) (evr_b1 bsr ev_int ⟨by decide, by decide⟩) (by rw [letl]; decide) key) fun parts hp => ?_) fun v5 stem H3 hst e3 ok3 r5 => ?_
    · have hlen : parts.length = size.toNat := by rw [← Pd.length hp, rng_len]
      have hall : ∀ p ∈ parts, ∃ c, p = ⟨#[c]⟩ ∧ isL c := fun p hp' => by
        obtain ⟨j, hj⟩ := List.mem_iff_getElem?.mp hp'
        obtain ⟨x, _, h⟩ := Pd.get hp hj
        exact h
      obtain ⟨q1, q2⟩ := stem_tl hall
      refine ⟨Nat.le_trans (join_le (n := 1) fun p hp' => ?_) ?_, by rw [q1, hlen]; omega, q2⟩
      · obtain ⟨c, rfl, _⟩ := hall p hp'; exact Nat.le_refl _
      · rw [hlen]
        exact Nat.le_trans (Nat.mul_le_mul_right _ (show size.toNat ≤ 6 by omega)) (by decide)
    cases (show v5 = .str stem from r5)
    refine s_setR ok3 (evr_b1 bsr (ev_I0 (ev_vi) ev_int) ⟨by omega, by omega⟩) fun v6 wh H4 hwh e4 ok4 r6 => ?_
    cases (show v6 = .int wh from r6)
    refine s_setR ok4 (evr_b1 bsr ev_int ⟨by decide, by decide⟩) fun v7 sh H5 hsh e5 ok5 r7 => ?_
    cases (show v7 = .int sh from r7)
    refine s_setR ok5 (evr_b1 bsr ev_int ⟨by decide, by decide⟩) fun v8 lg H6 hlg e6 ok6 r8 => ?_
    cases (show v8 = .int lg from r8)
    have nok : NmOk stem size wh sh lg := ⟨hst.1, hst.2, hs.2, hwh.1, by omega, hsh.1, hsh.2⟩
    have e06 : Ex W [] H H6 := ((((e1.trans e2).trans e3).trans e4).trans e5).trans e6
    refine s_new2 (α := Str) ok6 (by show 9 < 14; decide) fun p H7 hp e7 l7 ok7 A7 => ?_
    have pm : p ∉ M := ok6.new_M hp
    have hp0 : H p = none := e06.free hp
    have sub : ∀ a ∈ M, a ∈ p :: M := fun a h => by simp [h]
    have hst6 : stem.length ≤ 6 := by rw [len_tl]; have := hst.1; omega
    have S2N : ∀ H', Ex W [] H H' → Rep W M H' u words := fun H' e => rw_.up e
    refine for_w ok7 (ei_range ev_vi (by omega) (by omega)) (fun i σ' H' => Ex W [] H H' ∧ ∃ v10 v11, σ' = [some (.ref W.b), some (.int count), some u, some (.str lettersS), some (.int size), some (.str stem), some (.int wh), some (.int sh), some (.int lg), some (.ref p), v10, v11, none, none] ∧ Acc W (p :: M) σ' H' 9 p (nms stem wh sh lg i))
      (fun H' e => ⟨(e06.trans e7).trans e, none, none, rfl, A7.up e⟩) ?_ ?_
    · rintro i x v σ' H' hi ⟨e0, v10, v11, rfl, A⟩ ok' H'' e'' r N hN
      have ok'' := ok'.ex e''
      have hi' := hi
      have hin : i < count.toNat := by have := (List.getElem?_eq_some_iff.mp hi).1; rwa [rng_len] at this
      rw [rng_at hin] at hi'
      cases hi'
      cases (show v = .int (i : Int) from r)
      have hmod : 0 ≤ (sh + 7 * (i : Int)) % 26 ∧ (sh + 7 * (i : Int)) % 26 < 26 := by omega
      have c1 : (cutS stem none (some wh)).length ≤ 6 := Nat.le_trans cut_len hst6
      have c2 : (cutS stem (some wh) none).length ≤ 6 := Nat.le_trans cut_len hst6
      refine s_set ok'' (ev_addS (ev_addS (ev_slS ev_vs eo_none (eo_some ev_vi) (by omega)) (ev_ixS (n := (sh + 7 * (i : Int)) % 26) ev_vs (ev_I (ev_intI (ev_I0 ev_vi (ev_I ev_int ev_vi (.inl (by decide))))) ev_int (by decide)) (by rw [letl]; decide) (letter_at hmod.1 hmod.2)) ?_) (ev_slS ev_vs (eo_some ev_vi) eo_none (by omega)) ?_) fun v11' H3 e3 ok3 r11 => ?_
      · show _ + 1 ≤ _; omega
      · rw [len_tl, tl_append, List.length_append, ← len_tl]; show _ + 1 + _ ≤ _; omega
      cases (show v11' = .str _ from r11)
      have A3 := ((A.up (e''.trans e3)).setσ (l := 10) (v := .int (i : Int))).setσ (l := 11) (v := .str (cutS stem none (some wh) ++ (⟨#[97 + ((sh + 7 * (i : Int)) % 26).toNat]⟩ : Str) ++ cutS stem (some wh) none))
      refine s_app (N := M) ok3 A3 (by unfold nms; rw [List.length_map, List.length_range]; omega) ((ev_addS (ev_vs (n := cutS stem none (some wh) ++ (⟨#[97 + ((sh + 7 * (i : Int)) % 26).toNat]⟩ : Str) ++ cutS stem (some wh) none)) (ev_mulS (b := decide ((i : Int) % 3 = lg)) (ev_ixS ev_vs ev_vi (by rw [letl]; decide) (letter_at hsh.1 hsh.2)) (ev_intB (ev_eq (ev_I (ev_intI ev_vi) ev_int (by decide)) ev_vi))) ?_).is (x' := nm stem wh sh lg (i : Int)) ?_) fun H4 e4 e4' ok4 A4 => ?_
      · rw [len_tl, tl_append, tl_append, List.length_append, List.length_append, ← len_tl, ← len_tl, ← len_tl]
        have : (if decide ((i : Int) % 3 = lg) = true then (⟨#[97 + sh.toNat]⟩ : Str) else Str.empty).length ≤ 1 := by split; exact Nat.le_refl 1; exact Nat.zero_le 1
        show _ + 1 + _ + _ ≤ _
        omega
      · unfold nm
        by_cases h3 : (i : Int) % 3 = lg
        · rw [if_pos h3, if_pos (decide_eq_true h3)]
        · rw [if_neg h3, if_neg (by rw [decide_eq_false h3]; exact Bool.false_ne_true)]
      · rw [← nms_succ] at A4
        exact hN _ _ ⟨e4' H ((e0.trans e'').trans e3) ok hp0, _, _, rfl, A4⟩ (e3.up.trans e4)
    rintro σ' H' ⟨e0, v10, v11, rfl, A⟩ ok'
    rw [rng_len] at A
    have hcn : ((count.toNat : Nat) : Int) = count := by omega
    have N0 := nok.all (n := count.toNat) (by omega) words
    rw [hcn] at N0
    have okM := ok'.sub sub
    have hl0 : ∀ L, NamesOk count words L → ∀ z ∈ L, z.length ≤ 1000 := fun L hL z hz => by
      rcases hL.2.2 z hz with h | h
      · have := (isName_is h).2.1; rw [len_tl]; omega
      · exact hw3 z h
    refine s_ifc (J := fun σ' H' => Ex W [] H H' ∧ Ok W (p :: M) H' ∧ ∃ L, σ' = [some (.ref W.b), some (.int count), some u, some (.str lettersS), some (.int size), some (.str stem), some (.int wh), some (.int sh), some (.int lg), some (.ref p), v10, v11, none, none] ∧ Acc W (p :: M) σ' H' 9 p L ∧ NamesOk count words L)
      okM (et_and (et_t (ev_B0 ev_vi ev_int)) fun _ => et_and (et_t (ev_B0 ev_vi ev_int)) fun _ => et_t (ev_eq ev_vi ev_int)) ?_ ?_ ?_
    · rintro σ' H8 ⟨e8, ok8, L, rfl, A8, hL⟩
      have ok8M := ok8.sub sub
      refine s_setR ok8M (evr_b1 bsr (ev_I ev_int ev_vi (.inl (by decide))) ⟨by omega, by omega⟩) fun v12 spot H9 hsp e9 ok9 r12 => ?_
      cases (show v12 = .int spot from r12)
      refine s_setR ok9 (P := fun z => z ∈ words) (evr_ixL (ev_var ⟨u, rfl, rw_.up (e8.trans e9)⟩) (evr_b1 bsr (ev_lenL (ev_var ⟨u, rfl, rw_.up (e8.trans e9)⟩)) ⟨by omega, by omega⟩) fun n hn => atI_mem hn.1 hn.2) fun v13 word H10 hwd e10 ok10 r13 => ?_
      cases (show v13 = .str word from r13)
      have A10 := ((A8.up (e9.trans e10)).setσ (l := 12) (v := .int spot)).setσ (l := 13) (v := .str word)
      have ok10N := (ok8.ex e9).ex e10
      refine s_ifc (J := fun σ' H' => Ex W [] H H' ∧ Ok W (p :: M) H' ∧ ∃ L, Acc W (p :: M) σ' H' 9 p L ∧ NamesOk count words L) ok10 (et_and (et_t (ev_B0 ev_vi ev_vi)) fun _ => et_t (ev_notIn (ev_vs (n := word)) (ev_var (A10.out sub pm)))) ?_ ?_ ?_
      · rintro σ' H11 ⟨e11, ok11, L', A11, hL'⟩
        exact s_ret (ok11.sub sub) (ev_var (A11.out sub pm)) fun v H12 e12 r => k v L' H12 hL' (e11.trans e12) r
      · intro hJ hb H11 e11 ok11
        simp only [Bool.and_eq_true, decide_eq_true_eq, Bool.not_eq_true', decide_eq_false_iff_not] at hb
        refine s_setAt (N := M) (ok10N.ex e11) (A10.up e11) (ev_vs (n := word)) (ev_vi (n := spot)) hsp.1 (by rw [hL.1]; exact hb.1) fun H12 e12 e12' ok12 A12 => ?_
        exact hJ _ _ ⟨e12' H (((e8.trans e9).trans e10).trans e11) ok hp0, ok12, _, A12, hL.word hwd hb.2⟩
      · intro hb H11 e11 ok11
        exact ⟨((e8.trans e9).trans e10).trans e11, ok10N.ex e11, L, A10.up e11, hL⟩
    · intro hJ hb H8 e8 ok8
      simp only [Bool.and_eq_true, decide_eq_true_eq] at hb
      obtain ⟨hb1, hb2, hb3⟩ := hb
      have A8 := A.up e8
      refine s_setAtR (P := fun z => ∃ c, z = nm stem wh sh lg 0 ++ (⟨#[c]⟩ : Str) ∧ isL c) (ok'.ex e8) A8 (((evr_addS (z := nm stem wh sh lg 0) (P := fun z => ∃ c, z = ⟨#[c]⟩ ∧ isL c) (ev_ixL (ev_var (A8.out sub pm)) ev_int ?_) (evr_ixS ev_vs (evr_b1 bsr ev_int ⟨by decide, by decide⟩) (by rw [letl]; decide) key) ?_).imp fun z hz => ?_).sc sub) ev_int (by decide) (by rw [N0.1]; omega) fun z H9 hz e9 e9' ok9 A9 => ?_
      · rw [atI_getD (xs := nms stem wh sh lg count.toNat) Str.empty (by decide) (by rw [N0.1]; omega)]
        have : nms stem wh sh lg count.toNat = nm stem wh sh lg 0 :: (nms stem wh sh lg count.toNat).drop 1 := by
          unfold nms
          obtain ⟨n, hn⟩ : ∃ n, count.toNat = n + 1 := ⟨count.toNat - 1, by omega⟩
          rw [hn, List.range_succ_eq_map]; rfl
        rw [this]; rfl
      · rintro w ⟨c, rfl, _⟩
        have := (isName_is (nok.name (k := 0))).2.1
        rw [len_tl]
        show _ + 1 ≤ _
        omega
      · obtain ⟨w, ⟨c, rfl, hc⟩, e⟩ := hz
        exact ⟨c, e, hc⟩
      · obtain ⟨c, rfl, hc⟩ := hz
        have := nok.second (n := count.toNat) (by omega) hb2 hb3 words hc
        rw [hcn] at this
        exact hJ _ _ ⟨e9' H M (e0.trans e8) ok hp0, ok9, _, rfl, A9, this⟩
    · intro hb H8 e8 ok8
      exact ⟨e0.trans e8, ok'.ex e8, _, rfl, A.up e8, N0⟩

abbrev s_law_product : Stmt := topS 40
theorem sc_law_product : FnScope ["_law_plain", "_law_size", "_law_name", "_law_worths"] ["_law_plain"] (defScope s_law_product) := ⟨rfl, rfl, rfl, by decide +kernel, rfl, by decide +kernel, by decide +kernel⟩

theorem ok_law_product {f : Addr} {fd : FuncData} (F : Fun K "_law_product" "_law_product" s_law_product f fd) (bt : Bt mg) :
    FnOk P w K mg base CX0 1 f fd ["_law_plain"] (sp_law_product K C) := by
  refine F.ok sc_law_product (fun vs H Q E h => ?_) (fun cdv A outer s H vs Q E hr h => ?_)
  · obtain ⟨W, M, v, z, _, _, rfl, _⟩ := h; rfl
  · obtain ⟨W, M, v, cs, rfl, rfl, rfl, ok, r, hz, k⟩ := h
    have S0 : Sl W M (L2.start ["_law_plain", "_law_size", "_law_name", "_law_worths"] [v]) H 0 cs := ⟨v, rfl, r⟩
    refine ⟨_, (pss_cons (ps_set (i := 1) sc_law_product.nd rfl (.inl rfl) pe_int)
      (pss_cons (ps_for PassesOwn.never rfl (pi_list (pv 0)) (pg_tup rfl (pgs_cons (pg_name (i := 2) sc_law_product.nd rfl (Or.inl rfl)) (pgs_cons (pg_name (i := 3) sc_law_product.nd rfl (Or.inl rfl)) pgs_nil)))
      (pss_one (ps_set (i := 1) sc_law_product.nd rfl (.inl rfl) (pe_op op_mul (pv 1) (pe_callB cLenS (by rfl) bt.len_ (by decide +kernel) (pa_cons (pv 3) pa_nil))))))
      (pss_one (ps_ret (pv 1))))), ?_⟩
    refine s_set ok (ev_int (n := 1)) fun v1 H1 e1 ok1 r1 => ?_
    cases (show v1 = .int 1 from r1)
    refine for_w ok1 (ei_list (ev_var (S0.set e1))) (fun i σ' H' => Ex W [] H H' ∧ σ'.length = 4 ∧ σ'[1]? = some (some (.int (prod (cs.take i))))) (fun H' e => ⟨e1.trans e, rfl, rfl⟩) ?_ ?_
    · rintro i c v σ' H' hi ⟨e0, hσ, h1⟩ ok' H'' e'' r N hN
      refine gPair_rd r fun v1 v2 r1 r2 => ?_
      have S3 : Sl W M ((σ'.set 2 (some v1)).set 3 (some v2)) H'' 3 c.2 := Sl.here r2 (by rw [List.length_set, hσ]; decide)
      have h1' : ((σ'.set 2 (some v1)).set 3 (some v2))[1]? = some (some (.int (prod (cs.take i)))) := by rw [List.getElem?_set_ne (by decide), List.getElem?_set_ne (by decide)]; exact h1
      have hc := hz c (List.mem_of_getElem? hi)
      refine s_set (ok'.ex e'') (ev_I (ev_vi h1') (ev_lenL (ev_var S3)) (.inr ⟨by omega, by omega⟩)) fun v3 H3 e3 ok3 r3 => ?_
      cases (show v3 = .int _ from r3)
      refine hN _ _ ⟨e0.trans (e''.trans e3), by rw [List.length_set, List.length_set, List.length_set, hσ], ?_⟩ e3.up
      rw [List.getElem?_set_self (by rw [List.length_set, List.length_set, hσ]; decide)]
      unfold prod
      rw [List.take_add_one, hi, List.map_append, List.foldl_append]; rfl
    · rintro σ' H' ⟨e0, hσ, h1⟩ ok'
      rw [List.take_length] at h1
      exact s_ret ok' (ev_vi h1) fun v H3 e3 r => k v H3 (e0.trans e3) r

abbrev s_law_menu : Stmt := topS 41
theorem sc_law_menu : FnScope ["_law_bag_here", "_law_most", "_law_shapes", "_law_shape", "_law_names_here", "_law_words", "_law_plain", "_law_k", "_law_begin", "_law_word", "_law_j", "_law_name", "_law_worths"] ["_law_bag_here", "_law_most"] (defScope s_law_menu) := ⟨rfl, rfl, rfl, by decide +kernel, rfl, by decide +kernel, by decide +kernel⟩

theorem ok_law_menu {f : Addr} {fd : FuncData} (F : Fun K "_law_menu" "_law_menu" s_law_menu f fd) (bt : Bt mg)
    (c_law_pick_ListInt : Cal P w K mg base 2 "_law_pick" ["_law_bag_here", "_law_items"] (spPick (List Int) K C))
    (c_law_names : Cal P w K mg base 2 "_law_names" ["_law_bag_here", "_law_count", "_law_words"] (sp_law_names K C))
    (c_law_draw : Cal P w K mg base 1 "_law_draw" ["_law_bag_here", "_law_size"] (sp_law_draw K C))
    (c_law_mixed_Str : Cal P w K mg base 2 "_law_mixed" ["_law_bag_here", "_law_items"] (spMixed Str K C))
    (c_law_product : Cal P w K mg base 1 "_law_product" ["_law_plain"] (sp_law_product K C)) :
    FnOk P w K mg base CX0 3 f fd ["_law_bag_here", "_law_most"] (sp_law_menu K C) := by
  refine F.ok sc_law_menu (fun vs H Q E h => ?_) (fun cdv A outer s H vs Q E hr h => ?_)
  · obtain ⟨W, M, v, z, _, _, rfl, _⟩ := h; rfl
  · obtain ⟨W, M, v, most, rfl, rfl, rfl, ok, r, hm, k⟩ := h
    cases (show v = .int most from r)
    have w4 : ∀ z ∈ (["all", "not", "and", "or"] : List Str), isName z = true := by decide +kernel
    have w3 : ∀ z ∈ (["0", "all", "3a"] : List Str), z.length ≤ 1000 := by decide +kernel
    refine ⟨_, (pss_cons (ps_set (i := 2) sc_law_menu.nd rfl (.inl rfl) (pe_lst (pa_cons (pe_lst (pa_cons pe_int pa_nil)) (pa_cons (pe_lst (pa_cons pe_int pa_nil)) (pa_cons (pe_lst (pa_cons pe_int pa_nil)) (pa_cons (pe_lst (pa_cons pe_int pa_nil)) (pa_cons (pe_lst (pa_cons pe_int (pa_cons pe_int pa_nil))) (pa_cons (pe_lst (pa_cons pe_int (pa_cons pe_int pa_nil))) (pa_cons (pe_lst (pa_cons pe_int (pa_cons pe_int pa_nil))) (pa_cons (pe_lst (pa_cons pe_int (pa_cons pe_int (pa_cons pe_int pa_nil)))) (pa_cons (pe_lst (pa_cons pe_int (pa_cons pe_int pa_nil))) (pa_cons (pe_lst (pa_cons pe_int (pa_cons pe_int (pa_cons pe_int pa_nil)))) (pa_cons (pe_lst (pa_cons pe_int (pa_cons pe_int (pa_cons pe_int pa_nil)))) (pa_cons (pe_lst (pa_cons pe_int pa_nil)) (pa_cons (pe_lst (pa_cons pe_int (pa_cons pe_int pa_nil))) (pa_cons (pe_lst (pa_cons pe_int (pa_cons pe_int pa_nil))) pa_nil))))))))))))))))
      (pss_cons (ps_set (i := 3) sc_law_menu.nd rfl (.inl rfl) (pe_call c_law_pick_ListInt.ok (by exact hr.mono (by decide)) (by rfl) c_law_pick_ListInt.gl c_law_pick_ListInt.kp c_law_pick_ListInt.b .nil pass0 (pa_cons (pv 0) (pa_cons (pv 2) pa_nil))))
      (pss_cons (ps_set (i := 4) sc_law_menu.nd rfl (.inl rfl) (pe_call c_law_names.ok (by exact hr.mono (by decide)) (by rfl) c_law_names.gl c_law_names.kp c_law_names.b .nil pass0 (pa_cons (pv 0) (pa_cons (pe_callB cLenS (by rfl) bt.len_ (by decide +kernel) (pa_cons (pv 3) pa_nil)) (pa_cons (pe_lst (pa_cons pe_str (pa_cons pe_str (pa_cons pe_str (pa_cons pe_str pa_nil))))) pa_nil)))))
      (pss_cons (ps_set (i := 5) sc_law_menu.nd rfl (.inr rfl) (pe_call c_law_names.ok (by exact hr.mono (by decide)) (by rfl) c_law_names.gl c_law_names.kp c_law_names.b .nil pass0 (pa_cons (pv 0) (pa_cons pe_int (pa_cons (pe_lst (pa_cons pe_str (pa_cons pe_str (pa_cons pe_str pa_nil)))) pa_nil)))))
      (pss_cons (ps_set (i := 5) sc_law_menu.nd rfl (.inr rfl) (pe_lc (own := [("_law_k", 7), ("_law_word", 9)]) (g := gPair W.K 7 9) rfl sc_law_menu.nd (pi_enum (by rfl) bt.enumerate_ (pa_cons (pv 5) pa_nil)) (blkOk_by (own := [("_law_k", 7), ("_law_word", 9)]) (N := ["_law_bag_here", "_law_most", "_law_shapes", "_law_shape", "_law_names_here", "_law_words", "_law_plain", "_law_k", "_law_begin", "_law_word", "_law_j", "_law_name", "_law_worths"]) (sc := defScope s_law_menu) (by decide +kernel)) (fun _ _ _ _ _ => (pg_tup rfl (pgs_cons (pg_name (i := 7) sc_law_menu.nd rfl (Or.inl rfl)) (pgs_cons (pg_name (i := 9) sc_law_menu.nd rfl (Or.inl rfl)) pgs_nil)))) (fun _ _ _ _ _ => pts_nil) (fun _ _ _ _ _ => (PE.to (pe_ix ix_list (pe_lst (pa_cons (pv 9) (pa_cons (pe_callTy cStrI (by rfl) bt.str_ (by decide +kernel) (pa_cons (pv 7) pa_nil)) pa_nil))) (pe_callTy cInt (by rfl) bt.int_ (by decide +kernel) (pa_cons (pe_cmpR op_eq (pe_op op_mod (pe_callTy cInt (by rfl) bt.int_ (by decide +kernel) (pa_cons (pv 7) pa_nil)) pe_int) pe_int (nomark _)) pa_nil)) (fun _ _ => rfl)) (by dsimp only [Cx.blk] <;> rfl)))))
      (pss_cons (ps_set (i := 6) sc_law_menu.nd rfl (.inl rfl) (pe_lst pa_nil))
      (pss_cons (ps_for PassesOwn.never rfl (pi_range1 (by rfl) bt.range_ (pa_cons (pe_callB cLenS (by rfl) bt.len_ (by decide +kernel) (pa_cons (pv 3) pa_nil)) pa_nil)) (pg_name (i := 7) sc_law_menu.nd rfl (Or.inl rfl))
      (pss_cons (ps_set (i := 8) sc_law_menu.nd rfl (.inr rfl) (pe_call c_law_draw.ok (by exact hr.mono (by decide)) (by rfl) c_law_draw.gl c_law_draw.kp c_law_draw.b .nil pass0 (pa_cons (pv 0) (pa_cons pe_int pa_nil))))
      (pss_one (ps_expr (pe_bm PySem.F.plainAttrs_list PySem.F.slot_list_append PySem.F.type_list_append mt_append (pv 6) (pa_cons (pe_tup (pa_cons (pe_ix ix_list (pv 4) (pv 7) (fun _ _ => rfl)) (pa_cons (pe_call c_law_mixed_Str.ok (by exact hr.mono (by decide)) (by rfl) c_law_mixed_Str.gl c_law_mixed_Str.kp c_law_mixed_Str.b .nil pass0 (pa_cons (pv 0) (pa_cons (pe_lc (own := [("_law_j", 10)]) (g := gName 10) rfl sc_law_menu.nd (pi_range1 (by rfl) bt.range_ (pa_cons (pe_ix ix_list (pv 3) (pv 7) (fun _ _ => rfl)) pa_nil)) (blkOk_by (own := [("_law_j", 10)]) (N := ["_law_bag_here", "_law_most", "_law_shapes", "_law_shape", "_law_names_here", "_law_words", "_law_plain", "_law_k", "_law_begin", "_law_word", "_law_j", "_law_name", "_law_worths"]) (sc := defScope s_law_menu) (by decide +kernel)) (fun _ _ _ _ _ => (pg_name (i := 10) sc_law_menu.nd rfl (Or.inl rfl))) (fun _ _ _ _ _ => pts_nil) (fun _ _ _ _ _ => (PE.to (pe_ix ix_list (pv 5) (pe_op op_mod (pe_callTy cInt (by rfl) bt.int_ (by decide +kernel) (pa_cons (pe_op op_add (pv 8) (pv 10)) pa_nil)) pe_int) (fun _ _ => rfl)) (by dsimp only [Cx.blk] <;> rfl)))) pa_nil))) pa_nil))) pa_nil))))))
      (pss_cons (ps_while PassesOwn.never (pt_cmpR op_gt (pe_call c_law_product.ok (by exact hr.mono (by decide)) (by rfl) c_law_product.gl c_law_product.kp c_law_product.b .nil pass0 (pa_cons (pv 6) pa_nil)) (pv 1) (nomark _))
      (pss_one (ps_setLc (i := 6) (own := [("_law_name", 11), ("_law_worths", 12)]) (g := gPair W.K 11 12) rfl sc_law_menu.nd rfl rfl (sw_true rfl rfl rfl (by decide +kernel)) (pi_list (pv 6)) (blkOk_by (own := [("_law_name", 11), ("_law_worths", 12)]) (N := ["_law_bag_here", "_law_most", "_law_shapes", "_law_shape", "_law_names_here", "_law_words", "_law_plain", "_law_k", "_law_begin", "_law_word", "_law_j", "_law_name", "_law_worths"]) (sc := defScope s_law_menu) (by decide +kernel)) (fun _ _ _ _ _ => (pg_tup rfl (pgs_cons (pg_name (i := 11) sc_law_menu.nd rfl (Or.inl rfl)) (pgs_cons (pg_name (i := 12) sc_law_menu.nd rfl (Or.inl rfl)) pgs_nil)))) (fun _ _ _ _ _ => pts_nil) (fun _ _ _ _ _ => (PE.to (pe_tup (pa_cons (pv 11) (pa_cons (pe_slice sl_list (pv 12) po_none (po_some (pe_callB (cMax2 rfl) (by rfl) bt.max_ (by decide +kernel) (pa_cons pe_int (pa_cons (pe_op op_sub (pe_callB cLenS (by rfl) bt.len_ (by decide +kernel) (pa_cons (pv 12) pa_nil)) pe_int) pa_nil))))) pa_nil))) (by dsimp only [Cx.blk] <;> rfl))))))
      (pss_one (ps_ret (pv 6))))))))))), ?_⟩
    refine s_set ok (x := shapesL) (by
      refine ev_lst ?_ (by decide)
      repeat (first | exact ea_nil | refine ea_cons ev_int ?_ | refine ea_cons (ev_lst ?_ (by decide)) ?_)) fun v2 H1 e1 ok1 r2 => ?_
    refine s_setR ok1 (evr_b1 bsr (ev_var (Sl.hr r2)) ⟨by decide, by decide⟩) fun v3 shape H2 hs e2 ok2 r3 => ?_
    obtain ⟨s1, s3, sn⟩ := shapes_ok shape hs
    refine s_setR ok2 (evr_b2 bsr (ev_lenL (ev_var (Sl.hr r3))) (ev_lst (xs := (["all", "not", "and", "or"] : List Str)) (ea_cons ev_str (ea_cons ev_str (ea_cons ev_str (ea_cons ev_str ea_nil)))) (by decide)) ⟨by omega, by omega, by decide, by decide, fun z hz => by have := (isName_is (w4 z hz)).2.1; rw [len_tl]; omega⟩) fun v4 names H3 hN e3 ok3 r4 => ?_
    have hnm : ∀ z ∈ names, isName z = true := fun z hz => (hN.2.2 z hz).elim id fun h => w4 z h
    refine s_setR ok3 (evr_b2 bsr ev_int (ev_lst (xs := (["0", "all", "3a"] : List Str)) (ea_cons ev_str (ea_cons ev_str (ea_cons ev_str ea_nil))) (by decide)) ⟨by decide, by decide, by decide, by decide, w3⟩) fun v5 words0 H4 hw e4 ok4 r5 => ?_
    have hw12 : words0.length = 12 := by have := hw.1; omega
    refine s_set ok4 (x := (enum words0).map wordF) (ev_lc2 (f := wordF) (ei_enum (ev_var (Sl.hr r5))) (by rw [enum_len, hw12]; decide) (by decide) (by decide) fun i x v1 v2 M' H' hi l r1 r2 => ?_) fun v5' H5 e5 ok5 r5' => ?_
    · obtain ⟨xi, xw⟩ := x
      cases (show v1 = .int xi from r1)
      cases (show v2 = .str xw from r2)
      have hx : xi = (i : Int) ∧ i < 12 := by
        have hlt := (List.getElem?_eq_some_iff.mp hi).1
        rw [enum_len, hw12] at hlt
        have := enum_at (xs := words0) (List.getElem?_eq_getElem (show i < words0.length by omega))
        rw [this] at hi
        cases hi
        exact ⟨rfl, hlt⟩
      refine ev_ixL (ev_lst (xs := [xw, Str.ofString (toString xi)]) (ea_cons ev_vs (ea_cons (ev_strI ev_vi ?_) ea_nil)) (by show 2 ≤ _; decide)) (ev_intB (b := decide (xi % 5 = 4)) (ev_eq (ev_I (ev_intI ev_vi) ev_int (by decide)) ev_int)) ?_
      · have h12 : xi.natAbs < 2 ^ 4 := by omega
        exact Nat.lt_of_lt_of_le (PySem.Flt.log2_lt_of (by decide) h12) (by decide)
      · unfold wordF
        by_cases h5 : xi % 5 = 4
        · rw [decide_eq_true h5, if_pos h5]; rfl
        · rw [decide_eq_false h5, if_neg h5]; rfl
    have hW := words_ok hw
    generalize hww : (enum words0).map wordF = words at *
    have e05 : Ex W [] H H5 := (((e1.trans e2).trans e3).trans e4).trans e5
    refine s_new2 (α := Col) ok5 (by show 6 < 13; decide) fun p H6 hp e6 l6 ok6 A6 => ?_
    have pm : p ∉ M := ok5.new_M hp
    have hp0 : H p = none := e05.free hp
    have sub : ∀ a ∈ M, a ∈ p :: M := fun a h => by simp [h]
    have R3 : Rep W (p :: M) H6 v3 shape := (((r3.up e3).up e4).up e5).le l6
    have R4 : Rep W (p :: M) H6 v4 names := ((r4.up e4).up e5).le l6
    have R5 : Rep W (p :: M) H6 v5' words := r5'.le l6
    have e06 := e05.trans e6
    refine for_w ok6 (ei_range (ev_lenL (ev_var ⟨v3, rfl, R3⟩)) (by omega) (by omega)) (fun i σ' H' => Ex W [] H H' ∧ Ex W (p :: M) H6 H' ∧ (∃ v7 v8 v9, σ' = [some (.ref W.b), some (.int most), some v2, some v3, some v4, some v5', some (.ref p), v7, v8, v9, none, none, none]) ∧ ∃ Ls : List Col, Acc W (p :: M) σ' H' 6 p Ls ∧ Ls.map Prod.fst = names.take i ∧ ∀ c ∈ Ls, ColOk c)
      (fun H' e => ⟨e06.trans e, e.up, ⟨none, none, none, rfl⟩, [], A6.up e, rfl, fun c hc => by cases hc⟩) ?_ ?_
    · rintro i x v σ' H' hi ⟨e0, eN, ⟨v7, v8, v9, rfl⟩, Ls, A, hL1, hL2⟩ ok' H'' e'' r N hN'
      have ok'' := ok'.ex e''
      have hi' := hi
      have hin : i < shape.length := by have := (List.getElem?_eq_some_iff.mp hi).1; rw [rng_len] at this; omega
      rw [rng_at (by omega)] at hi'
      cases hi'
      cases (show v = .int (i : Int) from r)
      refine s_setR ok'' (evr_b1 bsr ev_int ⟨by decide, by decide⟩) fun v8' bg H7 hb e7 ok7 r8 => ?_
      cases (show v8' = .int bg from r8)
      have e67 : Ex W (p :: M) H6 H7 := eN.trans (e''.trans e7).up
      have hnl : names.length = shape.length := by have := hN.1; omega
      have hln : Ls.length = i := by have := congrArg List.length hL1; rw [List.length_map, List.length_take] at this; omega
      have hni : atI names (i : Int) = some names[i] := by
        rw [atI_getD Str.empty (by omega) (by omega), List.getD_eq_getElem?_getD]
        show some ((names[((i : Int)).toNat]?).getD Str.empty) = _
        rw [Int.toNat_natCast, List.getElem?_eq_getElem (by omega)]; rfl
      have hsi : atI shape (i : Int) = some shape[i] := by
        rw [atI_getD 0 (by omega) (by omega), List.getD_eq_getElem?_getD]
        show some ((shape[((i : Int)).toNat]?).getD 0) = _
        rw [Int.toNat_natCast, List.getElem?_eq_getElem (by omega)]; rfl
      have hsn := sn shape[i] (List.getElem_mem hin)
      have A7 := ((A.up (e''.trans e7)).setσ (l := 7) (v := .int (i : Int))).setσ (l := 8) (v := .int bg)
      refine s_appR (N := M) ok7 A7 (by omega) (P := fun z : Col => z.1 = names[i] ∧ z.2.Perm (runOf words bg shape[i])) (evr_pair (ev_ixL (ev_var ⟨v4, rfl, R4.ex e67⟩) ev_vi hni).r (evr_b1 bsr (ev_lc (f := fun j => words.getD ((bg + j) % 12).toNat Str.empty) (ei_range (ev_ixL (ev_var ⟨v3, rfl, R3.ex e67⟩) ev_vi hsi) (by omega) (by omega)) (by rw [rng_len]; omega) (by decide) fun j y v M' H' hj l r => ?_) ?_)) fun c H8 hc e8 e8' ok8 A8 => ?_
      · cases (show v = .int y from r)
        exact ev_ixL (n := (bg + y) % 12) (ev_var ⟨v5', rfl, (R5.ex e67).le l⟩) (ev_I (ev_intI (ev_I0 ev_vi ev_vi)) ev_int (by decide)) (run_at hW.1 bg y)
      · rw [List.length_map, rng_len]; omega
      · obtain ⟨hc1, hc2⟩ := hc
        refine hN' _ _ ⟨e8' H (e0.trans (e''.trans e7)) ok hp0, e67.trans e8, ⟨_, _, _, rfl⟩, _, A8, ?_, fun d hd => ?_⟩ (e7.up.trans e8)
        · rw [List.map_append, hL1, List.take_add_one, List.getElem?_eq_getElem (show i < names.length by omega), ← hc1]; rfl
        · rcases List.mem_append.mp hd with hd | hd
          · exact hL2 d hd
          · rw [List.mem_singleton.mp hd]
            obtain ⟨c1, c2⟩ := c
            exact run_col hW hsn.1 hsn.2 (by rw [show c1 = names[i] from hc1]; exact hnm _ (List.getElem_mem _)) hc2
    · rintro σ' H' ⟨e0, eN, ⟨v7, v8, v9, rfl⟩, Ls, A, hL1, hL2⟩ ok'
      rw [rng_len, show ((shape.length : Int)).toNat = names.length by have := hN.1; omega, List.take_length] at hL1
      have hll : Ls.length = shape.length := by have := congrArg List.length hL1; rw [List.length_map] at this; have := hN.1; omega
      have hP : Plain Ls := ⟨by omega, by omega, by rw [hL1]; exact hN.2.1, hL2⟩
      refine while_w (W := W) (M := M) (P := fun m σ' H' => Ex W [] H H' ∧ Ok W M H' ∧ σ'[1]? = some (some (.int most)) ∧ σ'.length = 13 ∧ ∃ cs, Sl W M σ' H' 6 cs ∧ Plain cs ∧ m = msr cs) (msr Ls) ⟨e0, ok'.sub sub, rfl, rfl, Ls, A.out sub pm, hP, rfl⟩ ?_
      rintro m σ' H' ⟨e0, ok', h1, hσ, cs, S6, hP, rfl⟩
      have hfew : ∀ c ∈ cs, c.2.length ≤ 1000 := fun c hc => by have := (hP.col c hc).l12; omega
      refine ⟨decide (most < prod cs), et_t (ev_B0 (ev_f1 (x := cs) (ev_var S6) hfew) (ev_vi h1)), ok', fun H2 e2 ok2 => ⟨fun hb N hN => ?_, fun hb => ?_⟩⟩
      · have hb := of_decide_eq_true hb
        refine s_set ok2 (ev_lc2 (f := short) (ei_list (ev_var (S6.up e2))) (by have := hP.l3; omega) (by decide) (by decide) fun i c v1 v2 M' H' hi l r1 r2 => ev_pair (ev_var ((Sl.here r1 (by rw [wipe_len, hσ]; decide)).set Ex.refl)) ?_) fun v6 H3 e3 ok3 r6 => ?_
        · have S12 : Sl W M' (((L2.wipe σ' [11, 12]).set 11 (some v1)).set 12 (some v2)) H' 12 c.2 := Sl.here r2 (by rw [List.length_set, wipe_len, hσ]; decide)
          refine (ev_slL (ev_var S12) eo_none (eo_some (ev_max2 ev_int (ev_I0 (ev_lenL (ev_var S12)) ev_int)))).is (cutG_to ?_)
          split <;> omega
        · have hs := (short_msr (cs := cs) fun c hc => (hP.col c hc).l1).2 (by have : 1 ≤ most := hm; omega)
          exact hN _ _ _ hs ⟨(e0.trans e2).trans e3, ok3, by rw [List.getElem?_set_ne (by decide)]; exact h1, by rw [List.length_set, hσ], _, Sl.here r6 (by rw [hσ]; decide), hP.short, rfl⟩
      · have hb := of_decide_eq_false hb
        exact s_ret ok2 (ev_var (S6.up e2)) fun v H3 e3 r => k v cs H3 ⟨hP, by omega⟩ ((e0.trans e2).trans e3) r

abbrev s_law_kinds : Stmt := topS 42
theorem sc_law_kinds : FnScope ["_law_plain", "_law_found", "_law_name", "_law_worths", "_law_longer", "_law_kind", "_law_worth"] ["_law_plain"] (defScope s_law_kinds) := ⟨rfl, rfl, rfl, by decide +kernel, rfl, by decide +kernel, by decide +kernel⟩

theorem ok_law_kinds {f : Addr} {fd : FuncData} (F : Fun K "_law_kinds" "_law_kinds" s_law_kinds f fd) (bt : Bt mg) :
    FnOk P w K mg base CX0 1 f fd ["_law_plain"] (sp_law_kinds K C) := by
  refine F.ok sc_law_kinds (fun vs H Q E h => ?_) (fun cdv A outer s H vs Q E hr h => ?_)
  · obtain ⟨W, M, v, z, _, _, rfl, _⟩ := h; rfl
  · obtain ⟨W, M, v, cs, rfl, rfl, rfl, ok, r, hz, k⟩ := h
    have S0 : Sl W M (L2.start ["_law_plain", "_law_found", "_law_name", "_law_worths", "_law_longer", "_law_kind", "_law_worth"] [v]) H 0 cs := ⟨v, rfl, r⟩
    refine ⟨_, (pss_cons (ps_set (i := 1) sc_law_kinds.nd rfl (.inl rfl) (pe_lst (pa_cons (pe_tup pa_nil) pa_nil)))
      (pss_cons (ps_for PassesOwn.never rfl (pi_list (pv 0)) (pg_tup rfl (pgs_cons (pg_name (i := 2) sc_law_kinds.nd rfl (Or.inl rfl)) (pgs_cons (pg_name (i := 3) sc_law_kinds.nd rfl (Or.inl rfl)) pgs_nil)))
      (pss_cons (ps_set (i := 4) sc_law_kinds.nd rfl (.inl rfl) (pe_lst pa_nil))
      (pss_cons (ps_for PassesOwn.never rfl (pi_list (pv 1)) (pg_name (i := 5) sc_law_kinds.nd rfl (Or.inr rfl))
      (pss_one (ps_set (i := 4) sc_law_kinds.nd rfl (.inl rfl) (pe_op op_cat (pv 4) (pe_lc (own := [("_law_worth", 6)]) (g := gName 6) rfl sc_law_kinds.nd (pi_list (pv 3)) (blkOk_by (own := [("_law_worth", 6)]) (N := ["_law_plain", "_law_found", "_law_name", "_law_worths", "_law_longer", "_law_kind", "_law_worth"]) (sc := defScope s_law_kinds) (by decide +kernel)) (fun _ _ _ _ _ => (pg_name (i := 6) sc_law_kinds.nd rfl (Or.inl rfl))) (fun _ _ _ _ _ => pts_nil) (fun _ _ _ _ _ => (PE.to (pe_op op_catA (pv 5) (pe_tup (pa_cons (pv 6) pa_nil))) (by dsimp only [Cx.blk] <;> rfl))))))))
      (pss_one (ps_set (i := 1) sc_law_kinds.nd rfl (.inl rfl) (pv 4))))))
      (pss_one (ps_ret (pv 1))))), ?_⟩
    refine s_set ok (ev_lst (ea_cons (ev_tupK ea_nil (Nat.zero_le _)) ea_nil) (by decide)) fun v1 H1 e1 ok1 r1 => ?_
    refine for_w ok1 (ei_list (ev_var (S0.set e1))) (fun i σ' H' => Ex W [] H H' ∧ σ'.length = 7 ∧ Sl W M σ' H' 1 ((kinds (cs.take i)).map TupK.mk)) (fun H' e => ⟨e1.trans e, rfl, (Sl.hr r1).up e⟩) ?_ ?_
    · rintro i c v σ' H' hi ⟨e0, hσ, S1⟩ ok' H'' e'' r N hN
      have ok'' := ok'.ex e''
      refine gPair_rd r fun v1 v2 r1 r2 => ?_
      have S3 : Sl W M ((σ'.set 2 (some v1)).set 3 (some v2)) H'' 3 c.2 := Sl.here r2 (by rw [List.length_set, hσ]; decide)
      have S1' : Sl W M ((σ'.set 2 (some v1)).set 3 (some v2)) H'' 1 _ := ((S1.up e'').set Ex.refl).set Ex.refl
      have hin : i < 3 := Nat.lt_of_lt_of_le (List.getElem?_eq_some_iff.mp hi).1 hz.1
      have hc : c.2.length ≤ 12 := hz.2 c (List.mem_of_getElem? hi)
      have hlen : (kinds (cs.take i)).length ≤ 144 := (hz.take i).num (by rw [List.length_take]; omega)
      refine s_set ok'' (ev_lst (ea_nil (α := TupK)) (Nat.zero_le _)) fun v4 H3 e3 ok3 r4 => ?_
      have hl4 : 4 < ((σ'.set 2 (some v1)).set 3 (some v2)).length := by rw [List.length_set, List.length_set, hσ]; decide
      refine for_w ok3 (ei_list (ev_var (S1'.set e3))) (fun j σ2 H2 => Ex W [] H'' H2 ∧ σ2.length = 7 ∧ Sl W M σ2 H2 3 c.2 ∧ Sl W M σ2 H2 4 ((((kinds (cs.take i)).map TupK.mk).take j).flatMap fun k => c.2.map fun s => TupK.mk (k.l ++ [s])))
        (fun H4 e4 => ⟨e3.trans e4, by rw [List.length_set, List.length_set, List.length_set, hσ], (S3.set e3).up e4, (Sl.here r4 hl4).up e4⟩) ?_ ?_
      · rintro j x v5 σ2 H2 hj ⟨e2, hσ2, T3, T4⟩ ok2 H4 e4 r5 N2 hN2
        have ok4 := ok2.ex e4
        have hl2 : ∀ j, j < 7 → j < (σ2.set 5 (some v5)).length := fun j hj => by rw [List.length_set, hσ2]; exact hj
        have hm := List.mem_of_getElem? hj
        have hx : x.l.length ≤ 3 := by
          obtain ⟨y, hy, rfl⟩ := List.mem_map.mp hm
          have := kind_len hy
          rw [List.length_take] at this
          show y.length ≤ 3
          omega
        refine s_set ok4 (ev_cat (ev_var ((T4.up e4).set Ex.refl)) (ev_lc (f := fun s => TupK.mk (x.l ++ [s])) (ei_list (ev_var ((T3.up e4).set Ex.refl))) (by omega) (by decide) fun i s v M' H' hi l r =>
          ev_catK (x := x) (y := ⟨[s]⟩) (ev_var ((Sl.here r5 (by rw [hσ2]; decide)).lc l)) (ev_tupK (ea_cons (ev_var (Sl.me r (hl2 6 (by decide)))) ea_nil) (by show 1 ≤ _; decide)) (by show _ + 1 ≤ _; omega)) ?_) fun v6 H5 e5 ok5 r6 => ?_
        · rw [List.length_map]
          have hb : ∀ (l : List TupK), (l.flatMap fun k => c.2.map fun s => TupK.mk (k.l ++ [s])).length = l.length * c.2.length := by
            intro l
            induction l with
            | nil => simp
            | cons a t ih => rw [List.flatMap_cons, List.length_append, ih, List.length_map, List.length_cons, Nat.succ_mul, Nat.add_comm]
          rw [hb]
          have h1 : (((kinds (cs.take i)).map (TupK.mk)).take j).length ≤ 144 := by rw [List.length_take, List.length_map]; omega
          have := Nat.mul_le_mul h1 hc
          omega
        · refine hN2 _ _ ⟨e2.trans (e4.trans e5), by rw [List.length_set, List.length_set, hσ2], ((T3.up e4).set Ex.refl).set e5, ?_⟩ e5.up
          rw [List.take_add_one, hj, List.flatMap_append]
          refine Sl.here ?_ (hl2 4 (by decide))
          simpa using r6
      · rintro σ2 H2 ⟨e2, hσ2, T3, T4⟩ ok2
        rw [List.take_length] at T4
        refine s_set ok2 (ev_var T4) fun v7 H6 e6 ok6 r7 => hN _ _ ⟨e0.trans (e''.trans (e2.trans e6)), by rw [List.length_set, hσ2], ?_⟩ (e2.trans e6).up
        refine Sl.here ?_ (by rw [hσ2]; decide)
        rw [kinds_take hi, kstep_mk]
        exact r7
    · rintro σ' H' ⟨e0, hσ, S1⟩ ok'
      rw [List.take_length] at S1
      exact s_ret ok' (ev_var S1) fun v H3 e3 r => k v H3 (e0.trans e3) r

abbrev s_law_menu_text : Stmt := topS 43
theorem sc_law_menu_text : FnScope ["_law_plain", "_law_name", "_law_worths"] ["_law_plain"] (defScope s_law_menu_text) := ⟨rfl, rfl, rfl, by decide +kernel, rfl, by decide +kernel, by decide +kernel⟩

theorem ok_law_menu_text {f : Addr} {fd : FuncData} (F : Fun K "_law_menu_text" "_law_menu_text" s_law_menu_text f fd) (bt : Bt mg) :
    FnOk P w K mg base CX0 1 f fd ["_law_plain"] (sp_law_menu_text K C) := by
  refine F.ok sc_law_menu_text (fun vs H Q E h => ?_) (fun cdv A outer s H vs Q E hr h => ?_)
  · obtain ⟨W, M, v, z, _, _, rfl, _⟩ := h; rfl
  · obtain ⟨W, M, v, cs, rfl, rfl, rfl, ok, r, hz, k⟩ := h
    have S0 : Sl W M (L2.start ["_law_plain", "_law_name", "_law_worths"] [v]) H 0 cs := ⟨v, rfl, r⟩
    obtain ⟨hf, h3, h12⟩ := hz
    have hin : ∀ c ∈ cs, ∀ x ∈ c.1 :: c.2, x.length ≤ 1000 := fun c hc x hx => by
      obtain ⟨q1, _, q3⟩ := hf.2 c hc
      rcases List.mem_cons.mp hx with rfl | hx
      · exact q1
      · exact q3 x hx
    have hn : ∀ c ∈ cs, (c.1 :: c.2).length * (1000 + 1) ≤ 13013 := fun c hc => by have := h12 c hc; rw [List.length_cons]; omega
    refine ⟨_, (pss_one (ps_ret (peJoin pe_str (pe_lc (own := [("_law_name", 1), ("_law_worths", 2)]) (g := gPair W.K 1 2) rfl sc_law_menu_text.nd (pi_list (pv 0)) (blkOk_by (own := [("_law_name", 1), ("_law_worths", 2)]) (N := ["_law_plain", "_law_name", "_law_worths"]) (sc := defScope s_law_menu_text) (by decide +kernel)) (fun _ _ _ _ _ => (pg_tup rfl (pgs_cons (pg_name (i := 1) sc_law_menu_text.nd rfl (Or.inl rfl)) (pgs_cons (pg_name (i := 2) sc_law_menu_text.nd rfl (Or.inl rfl)) pgs_nil)))) (fun _ _ _ _ _ => pts_nil) (fun _ _ _ _ _ => (PE.to (peJoin pe_str (pe_op op_cat (pe_lst (pa_cons (pv 1) pa_nil)) (pv 2))) (by dsimp only [Cx.blk] <;> rfl))))))), ?_⟩
    refine s_ret ok (ev_join (ev_str (s := "; ")) (ev_lc2 (f := fun c : Col => Txt.join " " (c.1 :: c.2)) (ei_list (ev_var S0)) (by omega) (by decide) (by decide) fun i c v1 v2 M' H' hi l r1 r2 => (ev_join (ev_str (s := " "))
      (ev_cat (ev_lst (ea_cons (ev_var ((Sl.me r1).set Ex.refl)) ea_nil) (by show 1 ≤ _; decide)) (ev_var (Sl.hr r2)) ?_) ?_)) ?_) fun v H3 e3 r => k v H3 e3 r
    · have := h12 c (List.mem_of_getElem? hi)
      show 1 + _ ≤ _
      omega
    · have hc := List.mem_of_getElem? hi
      have h1 := join_le (z := " ") (xs := c.1 :: c.2) (hin c hc)
      have h2 := hn c hc
      exact Nat.le_trans h1 (Nat.le_trans h2 (by decide))
    · refine Nat.le_trans (join_le (n := 13013) fun x hx => ?_) ?_
      · obtain ⟨c, hc, rfl⟩ := List.mem_map.mp hx
        exact Nat.le_trans (join_len (z := " ") (xs := c.1 :: c.2) (hin c hc)) (hn c hc)
      · rw [List.length_map]
        refine Nat.le_trans (Nat.mul_le_mul_right _ h3) (by decide)

abbrev s_law_made_menu : Stmt := topS 44
theorem sc_law_made_menu : FnScope ["_law_plain", "_law_name", "_law_worths"] ["_law_plain"] (defScope s_law_made_menu) := ⟨rfl, rfl, rfl, by decide +kernel, rfl, by decide +kernel, by decide +kernel⟩

theorem ok_law_made_menu {f : Addr} {fd : FuncData} (F : Fun K "_law_made_menu" "_law_made_menu" s_law_made_menu f fd) (bt : Bt mg)
    (k_Menu_read : CmC P w K mg base 6 (C "Menu") "Menu" "read" ["cls", "text"] (sp_Menu_read K C))
    (c_law_menu_text : Cal P w K mg base 1 "_law_menu_text" ["_law_plain"] (sp_law_menu_text K C))
    (m_Menu : MakC P w K mg base 4 (C "Menu") "Menu" ["self", "columns"] (sp_Menu_init K C)) :
    FnOk P w K mg base CX0 7 f fd ["_law_plain"] (sp_law_made_menu K C) := by
  refine F.ok sc_law_made_menu (fun vs H Q E h => ?_) (fun cdv A outer s H vs Q E hr h => ?_)
  · obtain ⟨W, M, v, z, _, _, rfl, _⟩ := h; rfl
  · obtain ⟨W, M, v, cs, rfl, rfl, rfl, ok, r, ⟨hP, h12⟩, k⟩ := h
    have S0 : Sl W M (L2.start ["_law_plain", "_law_name", "_law_worths"] [v]) H 0 cs := ⟨v, rfl, r⟩
    have hcl : cs.length ≤ 1000 := by have := hP.l3; omega
    have huq : (Sq.mk (cs.map toQ)).l.map unQ = cs := unQ_map cs
    refine ⟨_, (pss_cons (ps_if (pt_cmpR op_eq (pe_callB cLenS (by rfl) bt.len_ (by decide +kernel) (pa_cons (pv 0) pa_nil)) pe_int (nomark _)) (pss_one (ps_ret (ClX.pe_cmeth (pe_glob (v := .ref (W.C "Menu")) rfl k_Menu_read.gl rfl) k_Menu_read.rd k_Menu_read.cm (fnR_of k_Menu_read.ok k_Menu_read.b) (by exact hr.mono (by decide)) pass0 (pa_cons (pe_call c_law_menu_text.ok (by exact hr.mono (by decide)) (by rfl) c_law_menu_text.gl c_law_menu_text.kp c_law_menu_text.b .nil pass0 (pa_cons (pv 0) pa_nil)) pa_nil)))) pss_nil)
      (pss_one (ps_ret (pe_make m_Menu.mo m_Menu.ok (by exact hr.mono (by decide)) (by rfl) m_Menu.gl m_Menu.b .nil pass0 (pa_cons (pe_lc (own := [("_law_name", 1), ("_law_worths", 2)]) (g := gPair W.K 1 2) rfl sc_law_made_menu.nd (pi_list (pv 0)) (blkOk_by (own := [("_law_name", 1), ("_law_worths", 2)]) (N := ["_law_plain", "_law_name", "_law_worths"]) (sc := defScope s_law_made_menu) (by decide +kernel)) (fun _ _ _ _ _ => (pg_tup rfl (pgs_cons (pg_name (i := 1) sc_law_made_menu.nd rfl (Or.inl rfl)) (pgs_cons (pg_name (i := 2) sc_law_made_menu.nd rfl (Or.inl rfl)) pgs_nil)))) (fun _ _ _ _ _ => pts_nil) (fun _ _ _ _ _ => (PE.to (pe_tup (pa_cons (pv 1) (pa_cons (pe_callTy cListOf (by rfl) bt.list_ (by decide +kernel) (pa_cons (pv 2) pa_nil)) pa_nil))) (by dsimp only [Cx.blk] <;> rfl)))) pa_nil))))), ?_⟩
    refine s_if ok (et_t (ev_eq (ev_lenL (ev_var S0)) ev_int)) (fun hb H1 e1 ok1 => ?_) (fun hb H1 e1 ok1 => ?_)
    · refine ⟨rfl, (show Ev W M (tCall (sp_law_menu_text W.K W.C) [] E0 (tCons (tVar 0) tNil)) _ H1 (menuText cs) from ev_f1 (ev_var (S0.up e1)) ⟨hP.fair, hP.l3, fun c hc => (hP.col c hc).l12⟩) H1 Ex.refl ok1 _ fun v2 H2 e2 r2 => ?_⟩
      cases (show v2 = .str _ from r2)
      refine ⟨W, M, menuText cs, rfl, rfl, rfl, ok1.ex e2, hP.tlen, fun p hp => ?_, by rw [hP.read]; exact hP.fair, by rw [hP.read]; exact hP.are h12, fun r H3 e3 rr => k r H3 ((e1.trans e2).trans e3) (by rw [hP.read] at rr; exact rr)⟩
      rw [hP.split] at hp
      obtain ⟨c, hc, rfl⟩ := List.mem_map.mp hp
      refine ⟨Nat.le_trans (hP.col c hc).plen (by decide), ?_⟩
      rw [(hP.col c hc).split]
      exact fun z => nomatch z
    · refine s_ret ok1 ((ev_make (x := Sq.mk (cs.map toQ)) (f := fun cs : Sq ColQ => Menu.mk (cs.l.map unQ)) ((ev_lc2 (f := fun c : Col => c) (ei_list (ev_var (S0.up e1))) (by omega) (by decide) (by decide) fun i c v1 v2 M' H' hi l r1 r2 => ev_pair (ev_var ((Sl.me r1).set Ex.refl)) (ev_list (ev_var (Sl.hr r2)))).cv fun _ _ r => by rw [List.map_id'] at r; exact r.colsQ) ⟨by rw [huq]; exact hP.fair, by rw [huq]; exact hP.are h12⟩).is (x' := Menu.mk cs) (by rw [huq])) fun v H3 e3 r => k v H3 (e1.trans e3) r

abbrev s_Test_init : Stmt := inClass (topS 22) 0
theorem sc_Test_init : FnScope ["self", "form"] ["self", "form"] (defScope s_Test_init) := ⟨rfl, rfl, rfl, by decide +kernel, rfl, by decide +kernel, by decide +kernel⟩

theorem ok_Test_init {f : Addr} {fd : FuncData} (F : Fun K "__init__" "Test.__init__" s_Test_init f fd) (bt : Bt mg)
    (cl_Test : Cls K (C "Test"))
    (n_Test_form : NoAttr K (C "Test") "form") :
    FnOk P w K mg base CX0 1 f fd ["self", "form"] (sp_Test_init K C) := by
  refine F.ok sc_Test_init (fun vs H Q E h => ?_) (fun cdv A outer s H vs Q E hr h => ?_)
  · obtain ⟨W, M, a, dx, v, z, _, _, rfl, _⟩ := h; rfl
  · obtain ⟨W, M, a, dx, v, z, rfl, rfl, rfl, ok, nb, nbl, nm, ha, r, hz, k⟩ := h
    have A0 : (L2.start ["self", "form"] [.ref a, v])[0]? = some (some (.ref a)) := rfl
    refine ⟨_, (pss_one (ps_fld (pv 0) (pv 1) rfl)), ?_⟩
    refine s_fld ok (x := z) (ev_var (i := 1) ⟨v, rfl, r⟩) A0 nb nbl (by simp) ha cl_Test n_Test_form (by decide) fun v1 H4 e4 ok4 r4 ha4 => ?_
    exact k _ e4 ⟨a, dx, v1, rfl, cut_some.mpr ⟨nb, nm, ha4⟩, r4.less.less⟩

abbrev s_Test_always : Stmt := inClass (topS 22) 1
theorem sc_Test_always : FnScope ["cls"] ["cls"] (defScope s_Test_always) := ⟨rfl, rfl, rfl, by decide +kernel, rfl, by decide +kernel, by decide +kernel⟩

theorem ok_Test_always {f : Addr} {fd : FuncData} (F : Fun K "always" "Test.always" s_Test_always f fd) (bt : Bt mg)
    (m_Test : MakC P w K mg base 1 (C "Test") "Test" ["self", "form"] (sp_Test_init K C)) :
    FnOk P w K mg base CX0 3 f fd ["cls"] (sp_Test_always K C) := by
  refine F.ok sc_Test_always (fun vs H Q E h => ?_) (fun cdv A outer s H vs Q E hr h => ?_)
  · obtain ⟨W, M, _, _, rfl, _⟩ := h; rfl
  · obtain ⟨W, M, rfl, rfl, rfl, ok, k⟩ := h
    refine ⟨_, (pss_one (ps_ret (pe_makeL (i := 0) m_Test.mo m_Test.ok (by exact hr.mono (by decide)) m_Test.b (pa_cons (pe_tup (pa_cons pe_str pa_nil)) pa_nil)))), ?_⟩
    exact s_ret ok (ev_makeL rfl (ev_make (x := Fm.all) (ev_mkAll ev_str) trivial)) fun v H5 e5 r5 => k v H5 e5 r5

abbrev s_Test_equal : Stmt := inClass (topS 22) 2
theorem sc_Test_equal : FnScope ["cls", "column", "worth"] ["cls", "column", "worth"] (defScope s_Test_equal) := ⟨rfl, rfl, rfl, by decide +kernel, rfl, by decide +kernel, by decide +kernel⟩

theorem ok_Test_equal {f : Addr} {fd : FuncData} (F : Fun K "equal" "Test.equal" s_Test_equal f fd) (bt : Bt mg)
    (c_is_name : Cal P w K mg base 1 "is_name" ["value"] (sp_is_name K C))
    (c_is_worth : Cal P w K mg base 1 "is_worth" ["value"] (sp_is_worth K C))
    (m_Test : MakC P w K mg base 1 (C "Test") "Test" ["self", "form"] (sp_Test_init K C)) :
    FnOk P w K mg base CX0 3 f fd ["cls", "column", "worth"] (sp_Test_equal K C) := by
  refine F.ok sc_Test_equal (fun vs H Q E h => ?_) (fun cdv A outer s H vs Q E hr h => ?_)
  · obtain ⟨W, M, n, z, _, _, rfl, _⟩ := h; rfl
  · obtain ⟨W, M, n, z, rfl, rfl, rfl, ok, h1, h2, k⟩ := h
    refine ⟨_, (pss_cons (ps_if (pt_not (pt_val (pe_call c_is_name.ok (by exact hr.mono (by decide)) (by rfl) c_is_name.gl c_is_name.kp c_is_name.b .nil pass0 (pa_cons (pv 1) pa_nil)))) (pss_one ps_never) pss_nil)
      (pss_cons (ps_if (pt_not (pt_val (pe_call c_is_worth.ok (by exact hr.mono (by decide)) (by rfl) c_is_worth.gl c_is_worth.kp c_is_worth.b .nil pass0 (pa_cons (pv 2) pa_nil)))) (pss_one ps_never) pss_nil)
      (pss_one (ps_ret (pe_makeL (i := 0) m_Test.mo m_Test.ok (by exact hr.mono (by decide)) m_Test.b (pa_cons (pe_tup (pa_cons pe_str (pa_cons (pv 1) (pa_cons (pv 2) pa_nil)))) pa_nil)))))), ?_⟩
    refine s_no ok (et_not (b := true) (et_b ((ev_f1 (x := n) (ev_vs (i := 1)) (name_len h1)).is h1))) fun H1 e1 ok1 => ?_
    refine s_no ok1 (et_not (b := true) (et_b ((ev_f1 (x := z) (ev_vs (i := 2)) (worth_len h2)).is h2))) fun H2 e2 ok2 => ?_
    exact s_ret ok2 (ev_makeL rfl (ev_make (x := Fm.eq n z) (ev_mk3 (.eq n z) (.inl ⟨rfl, rfl⟩) ev_str (ev_vs (i := 1)) (ev_vs (i := 2))) trivial)) fun v H5 e5 r5 => k v H5 ((e1.trans e2).trans e5) r5

abbrev s_Test_alike : Stmt := inClass (topS 22) 3
theorem sc_Test_alike : FnScope ["cls", "column", "other", "name"] ["cls", "column", "other"] (defScope s_Test_alike) := ⟨rfl, rfl, rfl, by decide +kernel, rfl, by decide +kernel, by decide +kernel⟩

theorem ok_Test_alike {f : Addr} {fd : FuncData} (F : Fun K "alike" "Test.alike" s_Test_alike f fd) (bt : Bt mg)
    (c_is_name : Cal P w K mg base 1 "is_name" ["value"] (sp_is_name K C))
    (m_Test : MakC P w K mg base 1 (C "Test") "Test" ["self", "form"] (sp_Test_init K C)) :
    FnOk P w K mg base CX0 3 f fd ["cls", "column", "other"] (sp_Test_alike K C) := by
  refine F.ok sc_Test_alike (fun vs H Q E h => ?_) (fun cdv A outer s H vs Q E hr h => ?_)
  · obtain ⟨W, M, n, z, _, _, rfl, _⟩ := h; rfl
  · obtain ⟨W, M, n, z, rfl, rfl, rfl, ok, h1, h2, k⟩ := h
    refine ⟨_, (pss_cons (ps_for PassesOwn.never rfl (pi_tup (pe_tup (pa_cons (pv 1) (pa_cons (pv 2) pa_nil)))) (pg_name (i := 3) sc_Test_alike.nd rfl (Or.inl rfl))
      (pss_one (ps_if (pt_not (pt_val (pe_call c_is_name.ok (by exact hr.mono (by decide)) (by rfl) c_is_name.gl c_is_name.kp c_is_name.b .nil pass0 (pa_cons (pv 3) pa_nil)))) (pss_one ps_never) pss_nil)))
      (pss_one (ps_ret (pe_makeL (i := 0) m_Test.mo m_Test.ok (by exact hr.mono (by decide)) m_Test.b (pa_cons (pe_tup (pa_cons pe_str (pa_cons (pv 1) (pa_cons (pv 2) pa_nil)))) pa_nil))))), ?_⟩
    refine for_w ok (ei_tup (xs := Tup.mk [n, z]) (ev_tup (ea_cons (ev_vs (i := 1)) (ea_cons (ev_vs (i := 2)) ea_nil)) (by show 2 ≤ 1000000; decide))) (fun i σ' H' => Ex W [] H H' ∧ ∃ o3, σ' = [some (.ref (W.C "Test")), some (.str n), some (.str z), o3]) (fun H' e => ⟨e, none, rfl⟩) ?_ ?_
    · rintro i x vx σ' H' hi ⟨e0, o3, rfl⟩ ok' H'' e'' rx N hN
      cases (show vx = .str x from rx)
      have hx : isName x = true := by
        have := List.mem_of_getElem? hi
        simp only [List.mem_cons, List.not_mem_nil, or_false] at this
        rcases this with rfl | rfl
        · exact h1
        · exact h2
      refine s_no (ok'.ex e'') (et_not (b := true) (et_b ((ev_f1 (x := x) (ev_vs (i := 3)) (name_len hx)).is hx))) fun H3 e3 ok3 => hN _ _ ⟨(e0.trans e'').trans e3, _, rfl⟩ e3.up
    · rintro σ' H' ⟨e0, o3, rfl⟩ ok'
      dsimp only
      exact s_ret ok' (ev_makeL rfl (ev_make (x := Fm.alike n z) (ev_mk3 (.alike n z) (.inr ⟨rfl, rfl⟩) ev_str (ev_vs (i := 1)) (ev_vs (i := 2))) trivial)) fun v H5 e5 r5 => k v H5 (e0.trans e5) r5

abbrev s_Test_read : Stmt := inClass (topS 22) 4
theorem sc_Test_read : FnScope ["cls", "text", "found"] ["cls", "text"] (defScope s_Test_read) := ⟨rfl, rfl, rfl, by decide +kernel, rfl, by decide +kernel, by decide +kernel⟩

theorem ok_Test_read {f : Addr} {fd : FuncData} (F : Fun K "read" "Test.read" s_Test_read f fd) (bt : Bt mg)
    (c_part_at : Cal P w K mg base 14 "part_at" ["text", "at"] (sp_part_at 6 K C))
    (c_steps_of : Cal P w K mg base 6 "steps_of" ["form"] (sp_steps_of 6 K C))
    (m_Test : MakC P w K mg base 1 (C "Test") "Test" ["self", "form"] (sp_Test_init K C))
    (g_MOST_STEPS : ∃ t, mg "MOST_STEPS" = some (.int 60 t)) :
    FnOk P w K mg base CX0 15 f fd ["cls", "text"] (sp_Test_read K C) := by
  refine F.ok sc_Test_read (fun vs H Q E h => ?_) (fun cdv A outer s H vs Q E hr h => ?_)
  · obtain ⟨W, M, f, _, _, rfl, _⟩ := h; rfl
  · obtain ⟨W, M, f, rfl, rfl, rfl, ok, hO, h5, k⟩ := h
    have h31 := steps_31 h5
    have hc := count_text hO
    have hl := Fm.text_len hO (by omega)
    refine ⟨_, (pss_cons (ps_set (i := 2) sc_Test_read.nd rfl (.inl rfl) pe_non)
      (pss_cons (ps_if (PW.pt (pw_and (pt_val (pe_callB call_isi (by rfl) bt.isinstance_ (by decide +kernel) (pa_cons (pv 1) (pa_cons (pe_bltn (v := .ty "str") (by rfl) bt.str_ (by decide +kernel) rfl) pa_nil)))) (pw_and1 (pt_cmpR op_le (peCount (pv 1) pe_str) (pe_gI rfl g_MOST_STEPS) (nomark _))))) (pss_one (ps_set (i := 2) sc_Test_read.nd rfl (.inl rfl) (pe_call c_part_at.ok (by exact hr.mono (by decide)) (by rfl) c_part_at.gl c_part_at.kp c_part_at.b .nil pass0 (pa_cons (pv 1) (pa_cons pe_int pa_nil))))) pss_nil)
      (pss_cons (ps_if (PW.pt (pw_or (pt_cmpR op_isN (pv 2) pe_non (nomark _)) (pw_or (pt_cmpR op_ne (pe_ix ix_tup (pv 2) pe_int (fun _ _ => rfl)) (pe_callB cLenX (by rfl) bt.len_ (by decide +kernel) (pa_cons (pv 1) pa_nil)) (nomark _)) (pw_or1 (pt_cmpR op_gt (pe_call c_steps_of.ok (by exact hr.mono (by decide)) (by rfl) c_steps_of.gl c_steps_of.kp c_steps_of.b .nil pass0 (pa_cons (pe_ix ix_tup (pv 2) pe_int (fun _ _ => rfl)) pa_nil)) (pe_gI rfl g_MOST_STEPS) (nomark _)))))) (pss_one ps_never) pss_nil)
      (pss_one (ps_ret (pe_makeL (i := 0) m_Test.mo m_Test.ok (by exact hr.mono (by decide)) m_Test.b (pa_cons (pe_ix ix_tup (pv 2) pe_int (fun _ _ => rfl)) pa_nil))))))), ?_⟩
    refine s_set ok (x := ()) ev_non fun v0 H0 e0 ok0 r0 => ?_
    cases (show v0 = .non from r0)
    have S1 : ∀ {H'}, Ev W M (tVar 1) ((L2.start ["cls", "text", "found"] [V.ref (W.C "Test"), V.str f.text]).set 2 (some .non)) H' f.text := ev_vs (i := 1)
    refine s_yes ok0 (Et.is (et_and (et_b (ev_isStr S1)) fun _ => et_t (ev_B0 (g := fun i j : Int => decide (i ≤ j)) (ev_countS S1 ev_str) ev_int)) (c := true) (by show (true && decide ((Txt.count f.text "(" : Int) ≤ 60)) = true; rw [decide_eq_true (by omega)]; rfl)) fun H1 e1 ok1 => ?_
    refine s_set ok1 (x := (f, ((([] : List Nat).length + (tl f.text).length : Nat) : Int))) (ev_partAt (k := 6) (pre := []) (post := []) (ev_vs (i := 1)) ev_int rfl (by rw [List.append_nil]; rfl) (by omega) hO (.inl rfl) (by omega)) fun v2 H2 e2 ok2 r2 => ?_
    unfold tNext
    dsimp only
    have S2 : ∀ {H'}, Ex W [] H2 H' → Ev W M (tVar 2) ((L2.start ["cls", "text", "found"] [V.ref (W.C "Test"), V.str f.text]).set 2 (some v2)) H' (f, ((([] : List Nat).length + (tl f.text).length : Nat) : Int)) := fun e => ev_var ⟨v2, rfl, r2.up e⟩
    refine s_no ok2 (Et.is (et_or (et_t (ev_isNoneP (S2 Ex.refl))) fun _ => et_or (et_t (ev_ne (ev_snd (S2 Ex.refl)) (ev_lenX (ev_vs (i := 1)) (by omega)))) fun _ => et_t (ev_B0 (g := fun i j : Int => decide (i > j)) (ev_f1 (f := fun f : Fm => (f.steps : Int)) (ev_fst (S2 Ex.refl)) (by show f.dp ≤ 6; omega)) ev_int)) (c := false) ?_) fun H3 e3 ok3 => ?_
    · rw [decide_eq_true (show (((([] : List Nat).length + (tl f.text).length : Nat) : Int)) = (f.text.length : Int) by rw [len_tl]; simp), decide_eq_false (show ¬ ((f.steps : Int) > 60) by omega)]; rfl
    exact s_ret ok3 (ev_makeL rfl (ev_make (x := f) (ev_fst (S2 e3)) trivial)) fun v H4 e4 r => k v H4 (((e0.trans e1).trans (e2.trans e3)).trans e4) r

abbrev s_Test_and : Stmt := inClass (topS 22) 5
theorem sc_Test_and : FnScope ["self", "other"] ["self", "other"] (defScope s_Test_and) := ⟨rfl, rfl, rfl, by decide +kernel, rfl, by decide +kernel, by decide +kernel⟩

theorem ok_Test_and {f : Addr} {fd : FuncData} (F : Fun K "__and__" "Test.__and__" s_Test_and f fd) (bt : Bt mg)
    (m_Test : MakC P w K mg base 1 (C "Test") "Test" ["self", "form"] (sp_Test_init K C))
    (cl_Test : Cls K (C "Test"))
    (n_Test_form : NoAttr K (C "Test") "form") :
    FnOk P w K mg base CX0 3 f fd ["self", "other"] (sp_Test_and K C) := by
  refine F.ok sc_Test_and (fun vs H Q E h => ?_) (fun cdv A outer s H vs Q E hr h => ?_)
  · obtain ⟨W, M, v, u, z, d, _, _, rfl, _⟩ := h; rfl
  · obtain ⟨W, M, v, u, t, t', rfl, rfl, rfl, ok, r, rd, _, k⟩ := h
    refine ⟨_, (pss_one (ps_ret (pe_make m_Test.mo m_Test.ok (by exact hr.mono (by decide)) (by rfl) m_Test.gl m_Test.b .nil pass0 (pa_cons (pe_tup (pa_cons pe_str (pa_cons (pe_fld (pv 0) rfl) (pa_cons (pe_fld (pv 1) rfl) pa_nil)))) pa_nil)))), ?_⟩
    exact s_ret ok (ev_make (x := Fm.and t.f t'.f) (ev_mkAnd (ts_form (ev_var (i := 0) (x := t) ⟨v, rfl, r⟩) cl_Test n_Test_form) (ts_form (ev_var (i := 1) (x := t') ⟨u, rfl, rd⟩) cl_Test n_Test_form)) trivial) fun v H5 e5 r5 => k v H5 e5 r5

abbrev s_Test_or : Stmt := inClass (topS 22) 6
theorem sc_Test_or : FnScope ["self", "other"] ["self", "other"] (defScope s_Test_or) := ⟨rfl, rfl, rfl, by decide +kernel, rfl, by decide +kernel, by decide +kernel⟩

theorem ok_Test_or {f : Addr} {fd : FuncData} (F : Fun K "__or__" "Test.__or__" s_Test_or f fd) (bt : Bt mg)
    (m_Test : MakC P w K mg base 1 (C "Test") "Test" ["self", "form"] (sp_Test_init K C))
    (cl_Test : Cls K (C "Test"))
    (n_Test_form : NoAttr K (C "Test") "form") :
    FnOk P w K mg base CX0 3 f fd ["self", "other"] (sp_Test_or K C) := by
  refine F.ok sc_Test_or (fun vs H Q E h => ?_) (fun cdv A outer s H vs Q E hr h => ?_)
  · obtain ⟨W, M, v, u, z, d, _, _, rfl, _⟩ := h; rfl
  · obtain ⟨W, M, v, u, t, t', rfl, rfl, rfl, ok, r, rd, _, k⟩ := h
    refine ⟨_, (pss_one (ps_ret (pe_make m_Test.mo m_Test.ok (by exact hr.mono (by decide)) (by rfl) m_Test.gl m_Test.b .nil pass0 (pa_cons (pe_tup (pa_cons pe_str (pa_cons (pe_fld (pv 0) rfl) (pa_cons (pe_fld (pv 1) rfl) pa_nil)))) pa_nil)))), ?_⟩
    exact s_ret ok (ev_make (x := Fm.or t.f t'.f) (ev_mkOr (ts_form (ev_var (i := 0) (x := t) ⟨v, rfl, r⟩) cl_Test n_Test_form) (ts_form (ev_var (i := 1) (x := t') ⟨u, rfl, rd⟩) cl_Test n_Test_form)) trivial) fun v H5 e5 r5 => k v H5 e5 r5

abbrev s_Test_invert : Stmt := inClass (topS 22) 7
theorem sc_Test_invert : FnScope ["self"] ["self"] (defScope s_Test_invert) := ⟨rfl, rfl, rfl, by decide +kernel, rfl, by decide +kernel, by decide +kernel⟩

theorem ok_Test_invert {f : Addr} {fd : FuncData} (F : Fun K "__invert__" "Test.__invert__" s_Test_invert f fd) (bt : Bt mg)
    (m_Test : MakC P w K mg base 1 (C "Test") "Test" ["self", "form"] (sp_Test_init K C))
    (cl_Test : Cls K (C "Test"))
    (n_Test_form : NoAttr K (C "Test") "form") :
    FnOk P w K mg base CX0 3 f fd ["self"] (sp_Test_invert K C) := by
  refine F.ok sc_Test_invert (fun vs H Q E h => ?_) (fun cdv A outer s H vs Q E hr h => ?_)
  · obtain ⟨W, M, v, z, _, _, rfl, _⟩ := h; rfl
  · obtain ⟨W, M, v, t, rfl, rfl, rfl, ok, r, _, k⟩ := h
    refine ⟨_, (pss_one (ps_ret (pe_make m_Test.mo m_Test.ok (by exact hr.mono (by decide)) (by rfl) m_Test.gl m_Test.b .nil pass0 (pa_cons (pe_tup (pa_cons pe_str (pa_cons (pe_fld (pv 0) rfl) pa_nil))) pa_nil)))), ?_⟩
    exact s_ret ok (ev_make (x := Fm.not t.f) (ev_mkNot (ts_form (ev_var (i := 0) (x := t) ⟨v, rfl, r⟩) cl_Test n_Test_form)) trivial) fun v H5 e5 r5 => k v H5 e5 r5

abbrev s_Test_names : Stmt := inClass (topS 22) 8
theorem sc_Test_names : FnScope ["self"] ["self"] (defScope s_Test_names) := ⟨rfl, rfl, rfl, by decide +kernel, rfl, by decide +kernel, by decide +kernel⟩

theorem ok_Test_names {f : Addr} {fd : FuncData} (F : Fun K "names" "Test.names" s_Test_names f fd) (bt : Bt mg)
    (c_names_in : Cal P w K mg base 6 "names_in" ["form"] (sp_names_in 6 K C))
    (cl_Test : Cls K (C "Test"))
    (n_Test_form : NoAttr K (C "Test") "form") :
    FnOk P w K mg base CX0 7 f fd ["self"] (sp_Test_names K C) := by
  refine F.ok sc_Test_names (fun vs H Q E h => ?_) (fun cdv A outer s H vs Q E hr h => ?_)
  · obtain ⟨W, M, v, z, _, _, rfl, _⟩ := h; rfl
  · obtain ⟨W, M, v, t, rfl, rfl, rfl, ok, r, ⟨h1, h2⟩, k⟩ := h
    refine ⟨_, (pss_one (ps_ret (pe_sortedSet rfl (by rfl) bt.sorted_ (by rfl) bt.set_ (pe_call c_names_in.ok (by exact hr.mono (by decide)) (by rfl) c_names_in.gl c_names_in.kp c_names_in.b .nil pass0 (pa_cons (pe_fld (pv 0) rfl) pa_nil))))), ?_⟩
    exact evn_sortedSet (ev_f1 (ts_form (ev_var (i := 0) (x := t) ⟨v, rfl, r⟩) cl_Test n_Test_form) ⟨h1, h1⟩) (names_1000 h1) h2 H Ex.refl ok _ fun p ys H' hs hn e r => k p ys H' hs hn e r

abbrev s_Test_check_menu : Stmt := inClass (topS 22) 9
theorem sc_Test_check_menu : FnScope ["self", "menu", "known", "name", "worths"] ["self", "menu"] (defScope s_Test_check_menu) := ⟨rfl, rfl, rfl, by decide +kernel, rfl, by decide +kernel, by decide +kernel⟩

theorem ok_Test_check_menu {f : Addr} {fd : FuncData} (F : Fun K "check_menu" "Test.check_menu" s_Test_check_menu f fd) (bt : Bt mg)
    (p_Menu_columns : PropC P w K mg base 1 (C "Menu") "columns" (sp_Menu_columns K C))
    (h_Test_names : MetC P w K mg base 7 (C "Test") "names" ["self"] (sp_Test_names K C)) :
    FnOk P w K mg base CX0 8 f fd ["self", "menu"] (sp_Test_check_menu K C) := by
  refine F.ok sc_Test_check_menu (fun vs H Q E h => ?_) (fun cdv A outer s H vs Q E hr h => ?_)
  · obtain ⟨W, M, v, u, z, d, _, _, rfl, _⟩ := h; rfl
  · obtain ⟨W, M, v, u, t, m, rfl, rfl, rfl, ok, r, rm, hF, k⟩ := h
    have hl3 : (colsF m).l.length ≤ 3 := by unfold colsF; rw [List.length_map]; exact hF.pl.l3
    refine ⟨_, (pss_cons (ps_setLc (i := 2) (own := [("name", 3), ("worths", 4)]) (g := gPair W.K 3 4) rfl sc_Test_check_menu.nd rfl rfl (sw_true rfl rfl rfl (by decide +kernel)) (pi_tup (pe_prop (pv 1) p_Menu_columns.cl p_Menu_columns.pr p_Menu_columns.ok (by exact hr.mono (by decide)) p_Menu_columns.b .nil pass0 rfl)) (blkOk_by (own := [("name", 3), ("worths", 4)]) (N := ["self", "menu", "known", "name", "worths"]) (sc := defScope s_Test_check_menu) (by decide +kernel)) (fun _ _ _ _ _ => (pg_tup rfl (pgs_cons (pg_name (i := 3) sc_Test_check_menu.nd rfl (Or.inl rfl)) (pgs_cons (pg_name (i := 4) sc_Test_check_menu.nd rfl (Or.inl rfl)) pgs_nil)))) (fun _ _ _ _ _ => pts_nil) (fun _ _ _ _ _ => (pv 3)))
      (pss_one (ps_for PassesOwn.never rfl (pi_list (pe_meth0 (pv 0) h_Test_names.cl h_Test_names.me h_Test_names.ok (by exact hr.mono (by decide)) h_Test_names.b .nil pass0)) (pg_name (i := 3) sc_Test_check_menu.nd rfl (Or.inl rfl))
      (pss_one (ps_if (pt_cmpR (op_notInE (by exact u65 hr)) (pv 3) (pv 2) (by rfl)) (pss_one ps_never) pss_nil))))), ?_⟩
    refine s_set ok (x := m.cols.map Prod.fst) ((ev_lc2 (f := Prod.fst) (ei_tup ((ev_prop (o := m) (f := colsF) (ev_var (i := 1) (x := m) ⟨u, rfl, rm⟩) trivial).cv fun _ _ r => r.tF)) (by show (colsF m).l.length ≤ 1000000; omega) (by decide) (by decide) fun i c v1 v2 M' H' hi l r1 r2 => ev_var ((Sl.me r1).set Ex.refl)).is (by unfold colsF; rw [List.map_map]; rfl)) fun v2 H1 e1 ok1 r2 => ?_
    refine for_r ok1 (evn_m0R (o := t) (ev_var (i := 0) (x := t) ⟨v, rfl, r.up e1⟩) ⟨hF.dp, hF.few⟩ (by decide +kernel)).evr fun ys vy H2 hs e2 ok2 ry => ?_
    refine for_w ok2 (ei_list (fun H3 e3 ok3 Q q => q vy H3 Ex.refl (ry.up e3))) (fun i σ' H' => Ex W [] H2 H' ∧ ∃ o3, σ' = [some v, some u, some v2, o3, none]) (fun H' e => ⟨e, none, rfl⟩) ?_ ?_
    · rintro i x vx σ' H' hi ⟨e0, o3, rfl⟩ ok' H'' e'' rx N hN
      cases (show vx = .str x from rx)
      have hx : x ∈ m.cols.map Prod.fst := hF.nm x (firsts_mem.mp (hs.1.mem_iff.mp (List.mem_of_getElem? hi)))
      refine s_no (ok'.ex e'') (Et.is (et_t (ev_notIn (x := x) (xs := m.cols.map Prod.fst) (ev_vs (i := 3)) (ev_var (i := 2) ⟨v2, rfl, r2.up ((e2.trans e0).trans e'')⟩))) (c := false) (by rw [decide_eq_true hx]; rfl)) fun H3 e3 ok3 => hN _ _ ⟨(e0.trans e'').trans e3, _, rfl⟩ e3.up
    · rintro σ' H' ⟨e0, o3, rfl⟩ ok'
      exact k .non H' ((e1.trans e2).trans e0) rfl

abbrev s_Test_on : Stmt := inClass (topS 22) 10
theorem sc_Test_on : FnScope ["self", "menu", "kind"] ["self", "menu"] (defScope s_Test_on) := ⟨rfl, rfl, rfl, by decide +kernel, rfl, by decide +kernel, by decide +kernel⟩

theorem ok_Test_on {f : Addr} {fd : FuncData} (F : Fun K "on" "Test.on" s_Test_on f fd) (bt : Bt mg)
    (h_Test_check_menu : MetC P w K mg base 8 (C "Test") "check_menu" ["self", "menu"] (sp_Test_check_menu K C))
    (p_Menu_kinds : PropC P w K mg base 1 (C "Menu") "kinds" (sp_Menu_kinds K C))
    (c_is_true : Cal P w K mg base 6 "is_true" ["form", "seen"] (sp_is_true 6 K C))
    (c_seen_kind : Cal P w K mg base 3 "seen_kind" ["menu", "kind"] (sp_seen_kind K C))
    (cl_Test : Cls K (C "Test"))
    (n_Test_form : NoAttr K (C "Test") "form") :
    FnOk P w K mg base CX0 9 f fd ["self", "menu"] (sp_Test_on K C) := by
  refine F.ok sc_Test_on (fun vs H Q E h => ?_) (fun cdv A outer s H vs Q E hr h => ?_)
  · obtain ⟨W, M, v, u, z, d, _, _, rfl, _⟩ := h; rfl
  · obtain ⟨W, M, v, u, t, m, rfl, rfl, rfl, ok, r, rm, hF, k⟩ := h
    have hk12 : (kindsT m).l.length ≤ 12 := by unfold kindsT; rw [List.length_map]; have := kinds_prod m.cols; have := hF.p12; omega
    refine ⟨_, (pss_cons (ps_expr (pe_meth (pv 0) h_Test_check_menu.cl h_Test_check_menu.me h_Test_check_menu.ok (by exact hr.mono (by decide)) h_Test_check_menu.b .nil pass0 (pa_cons (pv 1) pa_nil)))
      (pss_one (ps_ret (pe_callTy cTupOf (by rfl) bt.tuple_ (by decide +kernel) (pa_cons (pe_lc (own := [("kind", 2)]) (g := gName 2) rfl sc_Test_on.nd (pi_tup (pe_prop (pv 1) p_Menu_kinds.cl p_Menu_kinds.pr p_Menu_kinds.ok (by exact hr.mono (by decide)) p_Menu_kinds.b .nil pass0 rfl)) (blkOk_by (own := [("kind", 2)]) (N := ["self", "menu", "kind"]) (sc := defScope s_Test_on) (by decide +kernel)) (fun _ _ _ _ _ => (pg_name (i := 2) sc_Test_on.nd rfl (Or.inl rfl))) (fun _ _ _ _ _ => (pts_one (PT.to (pt_val (pe_call c_is_true.ok (by exact hr.mono (by decide)) (by rfl) c_is_true.gl c_is_true.kp c_is_true.b .nil pass0 (pa_cons (pe_fld (pv 0) rfl) (pa_cons (pe_call c_seen_kind.ok (by exact hr.mono (by decide)) (by rfl) c_seen_kind.gl c_seen_kind.kp c_seen_kind.b .nil pass0 (pa_cons (pv 1) (pa_cons (pv 2) pa_nil))) pa_nil)))) (by dsimp only [Cx.blk] <;> rfl)))) (fun _ _ _ _ _ => (pv 2))) pa_nil))))), ?_⟩
    refine s_drop ok (ev_m1 (o := t) (x := m) (f := fun (_ : Tst) (_ : Menu) => ()) (ev_var (i := 0) ⟨v, rfl, r⟩) (ev_var (i := 1) ⟨u, rfl, rm⟩) hF (by decide +kernel)) fun H1 e1 ok1 => ?_
    refine s_ret ok1 ((ev_tuple (ev_lcf (p := fun k : TupK => t.f.isT (seen m.cols k.l)) (f := fun k : TupK => k) (ei_tup (ev_prop (o := m) (f := kindsT) (ev_var (i := 1) ⟨u, rfl, rm.up e1⟩) trivial)) (by omega) (by decide) (fun i key vk M' H' hi l rk => ?_) fun i key vk M' H' hi hp l rk => ev_var (Sl.me rk))).is (by rw [List.map_id'])) fun v H3 e3 r => k v H3 (e1.trans e3) r
    have hk : key.l ∈ kinds m.cols := by
      obtain ⟨q, hq, e⟩ := List.mem_map.mp (show key ∈ (kinds m.cols).map TupK.mk from List.mem_of_getElem? hi)
      rw [← e]; exact hq
    have S0 : Sl W M (L2.start ["self", "menu", "kind"] [v, u]) H1 0 t := ⟨v, rfl, r.up e1⟩
    have S1 : Sl W M (L2.start ["self", "menu", "kind"] [v, u]) H1 1 m := ⟨u, rfl, rm.up e1⟩
    exact et_b (ev_f2 (f := fun (f : Fm) (d : Dm Str) => f.isT d.kvs) (ts_form (ev_var (S0.lc l)) cl_Test n_Test_form) (ev_f2 (f := fun (m : Menu) (k : TupK) => Dm.mk (seen m.cols k.l)) (ev_var (S1.lc l)) (ev_var (Sl.me rk)) ⟨hF.pl, hk⟩) ⟨hF.dp, seen_some hF.nm hk⟩)

abbrev s_Test_call : Stmt := inClass (topS 22) 11
theorem sc_Test_call : FnScope ["self", "menu", "kind"] ["self", "menu", "kind"] (defScope s_Test_call) := ⟨rfl, rfl, rfl, by decide +kernel, rfl, by decide +kernel, by decide +kernel⟩

theorem ok_Test_call {f : Addr} {fd : FuncData} (F : Fun K "__call__" "Test.__call__" s_Test_call f fd) (bt : Bt mg)
    (h_Test_check_menu : MetC P w K mg base 8 (C "Test") "check_menu" ["self", "menu"] (sp_Test_check_menu K C))
    (i_Menu : OwnC P w K mg base 1 (C "Menu") "__contains__" ["self", "kind"] (sp_Menu_contains K C))
    (c_is_true : Cal P w K mg base 6 "is_true" ["form", "seen"] (sp_is_true 6 K C))
    (c_seen_kind : Cal P w K mg base 3 "seen_kind" ["menu", "kind"] (sp_seen_kind K C))
    (cl_Test : Cls K (C "Test"))
    (n_Test_form : NoAttr K (C "Test") "form") :
    FnOk P w K mg base CX0 9 f fd ["self", "menu", "kind"] (sp_Test_call K C) := by
  refine F.ok sc_Test_call (fun vs H Q E h => ?_) (fun cdv A outer s H vs Q E hr h => ?_)
  · obtain ⟨W, M, v, u, x, t, m, key, _, _, rfl, _⟩ := h; rfl
  · obtain ⟨W, M, v, u, x, t, m, key, rfl, rfl, rfl, ok, r, rm, rk, ⟨hF, hk⟩, k⟩ := h
    have hk12 : (kinds m.cols).length ≤ 1000 := by have := kinds_prod m.cols; have := hF.p12; omega
    have hin : key ∈ (kindsT m).l := List.mem_map_of_mem (f := TupK.mk) hk
    refine ⟨_, (pss_cons (ps_expr (pe_meth (pv 0) h_Test_check_menu.cl h_Test_check_menu.me h_Test_check_menu.ok (by exact hr.mono (by decide)) h_Test_check_menu.b .nil pass0 (pa_cons (pv 1) pa_nil)))
      (pss_cons (ps_if (pt_cmpR (op_notInOwn i_Menu (by exact hr.mono (by decide))) (pv 2) (pv 1) (by rfl)) (pss_one ps_never) pss_nil)
      (pss_one (ps_ret (pe_call c_is_true.ok (by exact hr.mono (by decide)) (by rfl) c_is_true.gl c_is_true.kp c_is_true.b .nil pass0 (pa_cons (pe_fld (pv 0) rfl) (pa_cons (pe_call c_seen_kind.ok (by exact hr.mono (by decide)) (by rfl) c_seen_kind.gl c_seen_kind.kp c_seen_kind.b .nil pass0 (pa_cons (pv 1) (pa_cons (pv 2) pa_nil))) pa_nil))))))), ?_⟩
    refine s_drop ok (ev_m1 (o := t) (x := m) (f := fun (_ : Tst) (_ : Menu) => ()) (ev_var (i := 0) ⟨v, rfl, r⟩) (ev_var (i := 1) ⟨u, rfl, rm⟩) hF (by decide +kernel)) fun H1 e1 ok1 => ?_
    refine s_no ok1 (Et.is (et_t (ev_own (neg := true) (o := m) (x := PyD.dat key) (f := holds) (ev_var (i := 2) (x := key) ⟨x, rfl, rk.up e1⟩).toD (ev_var (i := 1) ⟨u, rfl, rm.up e1⟩) ⟨hk12, Nat.le_trans (PyD.depth key) (by decide)⟩)) (c := false) (by rw [if_pos rfl, (in_place hin).1]; rfl)) fun H2 e2 ok2 => ?_
    have e12 := e1.trans e2
    exact s_ret ok2 (ev_f2 (f := fun (f : Fm) (d : Dm Str) => f.isT d.kvs) (ts_form (ev_var (i := 0) (x := t) ⟨v, rfl, r.up e12⟩) cl_Test n_Test_form) (ev_f2 (f := fun (m : Menu) (k : TupK) => Dm.mk (seen m.cols k.l)) (ev_var (i := 1) (x := m) ⟨u, rfl, rm.up e12⟩) (ev_var (i := 2) (x := key) ⟨x, rfl, rk.up e12⟩) ⟨hF.pl, hk⟩) ⟨hF.dp, seen_some hF.nm hk⟩) fun v H3 e3 r => k v H3 (e12.trans e3) r

abbrev s_Test_text : Stmt := inClass (topS 22) 12
theorem sc_Test_text : FnScope ["self"] ["self"] (defScope s_Test_text) := ⟨rfl, rfl, rfl, by decide +kernel, rfl, by decide +kernel, by decide +kernel⟩

theorem ok_Test_text {f : Addr} {fd : FuncData} (F : Fun K "text" "Test.text" s_Test_text f fd) (bt : Bt mg)
    (c_text_of : Cal P w K mg base 6 "text_of" ["form"] (sp_text_of 6 K C))
    (cl_Test : Cls K (C "Test"))
    (n_Test_form : NoAttr K (C "Test") "form") :
    FnOk P w K mg base CX0 7 f fd ["self"] (sp_Test_text K C) := by
  refine F.ok sc_Test_text (fun vs H Q E h => ?_) (fun cdv A outer s H vs Q E hr h => ?_)
  · obtain ⟨W, M, v, z, _, _, rfl, _⟩ := h; rfl
  · obtain ⟨W, M, v, t, rfl, rfl, rfl, ok, r, hz, k⟩ := h
    refine ⟨_, (pss_one (ps_ret (pe_call c_text_of.ok (by exact hr.mono (by decide)) (by rfl) c_text_of.gl c_text_of.kp c_text_of.b .nil pass0 (pa_cons (pe_fld (pv 0) rfl) pa_nil)))), ?_⟩
    exact s_ret ok (ev_f1 (ts_form (ev_var (i := 0) (x := t) ⟨v, rfl, r⟩) cl_Test n_Test_form) ⟨hz.2, hz.2, hz.1⟩) fun v H5 e5 r5 => k v H5 e5 r5

abbrev s_Test_same : Stmt := inClass (topS 22) 13
theorem sc_Test_same : FnScope ["self", "other"] ["self", "other"] (defScope s_Test_same) := ⟨rfl, rfl, rfl, by decide +kernel, rfl, by decide +kernel, by decide +kernel⟩

theorem ok_Test_same {f : Addr} {fd : FuncData} (F : Fun K "same" "Test.same" s_Test_same f fd) (bt : Bt mg)
    (cl_Test : Cls K (C "Test"))
    (n_Test_form : NoAttr K (C "Test") "form") :
    FnOk P w K mg base CX0 1 f fd ["self", "other"] (sp_Test_same K C) := by
  refine F.ok sc_Test_same (fun vs H Q E h => ?_) (fun cdv A outer s H vs Q E hr h => ?_)
  · obtain ⟨W, M, v, u, z, d, _, _, rfl, _⟩ := h; rfl
  · obtain ⟨W, M, v, u, t, t', rfl, rfl, rfl, ok, r, rd, hz, k⟩ := h
    refine ⟨_, (pss_one (ps_ret (pe_cmpR (op_eqE (by exact hr.units)) (pe_fld (pv 0) rfl) (pe_fld (pv 1) rfl) (nomark _)))), ?_⟩
    exact s_ret ok (ev_eqFm (ts_form (ev_var (i := 0) (x := t) ⟨v, rfl, r⟩) cl_Test n_Test_form) (ts_form (ev_var (i := 1) (x := t') ⟨u, rfl, rd⟩) cl_Test n_Test_form) hz.1 hz.2) fun v H5 e5 r5 => k v H5 e5 r5

abbrev s_suits : Stmt := topS 23
theorem sc_suits : FnScope ["menu", "form", "known", "part"] ["menu", "form"] (defScope s_suits) := ⟨rfl, rfl, rfl, by decide +kernel, rfl, by decide +kernel, by decide +kernel⟩

theorem ok_suits (n lv : Nat) (hlv : 2 ≤ lv) {f : Addr} {fd : FuncData} (F : Fun K "suits" "suits" s_suits f fd) (bt : Bt mg)
    (p_Menu_columns : PropC P w K mg base 1 (C "Menu") "columns" (sp_Menu_columns K C))
    (c_suits : Cal P w K mg base lv "suits" ["menu", "form"] (sp_suits n K C)) :
    FnOk P w K mg base CX0 (lv + 1) f fd ["menu", "form"] (sp_suits (n + 1) K C) := by
  refine F.ok sc_suits (fun vs H Q E h => ?_) (fun cdv A outer s H vs Q E hr h => ?_)
  · obtain ⟨W, M, v, u, z, d, _, _, rfl, _⟩ := h; rfl
  · obtain ⟨W, M, v, u, m, f, rfl, rfl, rfl, ok, r, rf, ⟨hn, hP, hS⟩, k⟩ := h
    have hcf : (colsF m).l.map Prod.fst = m.cols.map Prod.fst := by unfold colsF; rw [List.map_map]; rfl
    have w1 : ("alike" : Str) ≠ "equal" := by decide +kernel
    refine ⟨_, (pss_cons (ps_set (i := 2) sc_suits.nd rfl (.inl rfl) (pe_callTy (cr_dictTup rfl) (by rfl) bt.dict_ (by decide +kernel) (pa_cons (pe_prop (pv 0) p_Menu_columns.cl p_Menu_columns.pr p_Menu_columns.ok (by exact hr.mono (Nat.le_trans (by decide) hlv)) p_Menu_columns.b .nil pass0 rfl) pa_nil)))
      (pss_cons (ps_if (pt_cmpR op_eq (pe_ix ix_tup (pv 1) pe_int (fun _ _ => rfl)) pe_str (nomark _)) (pss_one (ps_ret (pe_and (pe_cmp (pc_din (by exact u1 hr) (pe_ix ix_tup (pv 1) pe_int (fun _ _ => rfl)) (pv 2)) rfl) (pe_one (pe_cmpR (op_inE (by exact u65 hr)) (pe_ix ix_tup (pv 1) pe_int (fun _ _ => rfl)) (pe_dget (by exact u1 hr) (pv 2) (pe_ix ix_tup (pv 1) pe_int (fun _ _ => rfl)) (fun _ _ => rfl)) (by rfl)))))) pss_nil)
      (pss_cons (ps_if (pt_cmpR op_eq (pe_ix ix_tup (pv 1) pe_int (fun _ _ => rfl)) pe_str (nomark _)) (pss_one (ps_ret (pe_and (pe_cmp (pc_din (by exact u1 hr) (pe_ix ix_tup (pv 1) pe_int (fun _ _ => rfl)) (pv 2)) rfl) (pe_one (pe_cmp (pc_din (by exact u1 hr) (pe_ix ix_tup (pv 1) pe_int (fun _ _ => rfl)) (pv 2)) rfl))))) pss_nil)
      (pss_one (ps_ret (pe_or (pe_cmpR op_eq (pe_ix ix_tup (pv 1) pe_int (fun _ _ => rfl)) pe_str (nomark _)) (pe_one (pe_callB (cr_all rfl) (by rfl) bt.all_ (by decide +kernel) (pa_cons (pe_lc (own := [("part", 3)]) (g := gName 3) rfl sc_suits.nd (pi_tup (pe_slice sl_tupA (pv 1) (po_some pe_int) po_none)) (blkOk_by (own := [("part", 3)]) (N := ["menu", "form", "known", "part"]) (sc := defScope s_suits) (by decide +kernel)) (fun _ _ _ _ _ => (pg_name (i := 3) sc_suits.nd rfl (Or.inl rfl))) (fun _ _ _ _ _ => pts_nil) (fun _ _ _ _ _ => (PE.to (pe_call c_suits.ok (by exact hr.mono (Nat.le_refl _)) (by rfl) c_suits.gl c_suits.kp c_suits.b .nil pass0 (pa_cons (pv 0) (pa_cons (pv 3) pa_nil))) (by dsimp only [Cx.blk] <;> rfl)))) pa_nil))))))))), ?_⟩
    refine s_set ok (x := Dm.mk (colsF m).l) (ev_dictTup (ev_prop (o := m) (f := colsF) (ev_var (i := 0) (x := m) ⟨v, rfl, r⟩) trivial) (by rw [hcf]; exact hP.nd) (by unfold colsF; rw [List.length_map]; have := hP.l3; omega)) fun v2 H1 e1 ok1 r2 => ?_
    have S0 : ∀ {H'}, Ex W [] H1 H' → Sl W M ((L2.start ["menu", "form", "known", "part"] [v, u]).set 2 (some v2)) H' 0 m := fun e => ⟨v, rfl, r.up (e1.trans e)⟩
    have S1 : ∀ {H'}, Ex W [] H1 H' → Sl W M ((L2.start ["menu", "form", "known", "part"] [v, u]).set 2 (some v2)) H' 1 f := fun e => ⟨u, rfl, rf.up (e1.trans e)⟩
    have S2 : ∀ {H'}, Ex W [] H1 H' → Sl W M ((L2.start ["menu", "form", "known", "part"] [v, u]).set 2 (some v2)) H' 2 (Dm.mk (colsF m).l) := fun e => ⟨v2, rfl, r2.up e⟩
    rcases f.kind with ⟨a, z, rfl⟩ | ⟨a, b, rfl⟩ | ⟨hw, h1, h2⟩
    · obtain ⟨ws, hws, hz⟩ := hS
      have hl : (Dm.mk (colsF m).l).kvs.lookup a = some (Tup.mk ws) := suits_look hws
      refine s_yes ok1 (Et.is (et_t (ev_eq (ev_fm0 (ev_var (S1 Ex.refl))) ev_str)) (c := true) (decide_eq_true rfl)) fun H2 e2 ok2 => ?_
      exact s_ret ok2 ((ev_and (ev_dinM (ev_fmW (k := 0) (ev_var (S1 e2)) rfl) (ev_var (S2 e2))) fun _ => ev_inT (x := z) (xs := Tup.mk ws) (ev_fmW (k := 1) (ev_var (S1 e2)) rfl) (ev_dgetM (ev_var (S2 e2)) (ev_fmW (k := 0) (ev_var (S1 e2)) rfl) hl)).is (x' := true) (by rw [hl, decide_eq_true hz]; rfl)) fun v H3 e3 r => k v H3 ((e1.trans e2).trans e3) r
    · have ha : ((Dm.mk (colsF m).l).kvs.lookup a).isSome = true := suits_in hS.1
      have hb : ((Dm.mk (colsF m).l).kvs.lookup b).isSome = true := suits_in hS.2
      refine s_no ok1 (Et.is (et_t (ev_eq (ev_fm0 (ev_var (S1 Ex.refl))) ev_str)) (c := false) (decide_eq_false w1)) fun H2 e2 ok2 => ?_
      refine s_yes ok2 (Et.is (et_t (ev_eq (ev_fm0 (ev_var (S1 e2))) ev_str)) (c := true) (decide_eq_true rfl)) fun H3 e3 ok3 => ?_
      have e13 := e2.trans e3
      exact s_ret ok3 ((ev_and (ev_dinM (ev_fmW (k := 0) (ev_var (S1 e13)) rfl) (ev_var (S2 e13))) fun _ => ev_dinM (ev_fmW (k := 1) (ev_var (S1 e13)) rfl) (ev_var (S2 e13))).is (x' := true) (by rw [ha, hb]; rfl)) fun v H4 e4 r => k v H4 ((e1.trans e13).trans e4) r
    · refine s_no ok1 (Et.is (et_t (ev_eq (ev_fm0 (ev_var (S1 Ex.refl))) ev_str)) (c := false) (decide_eq_false h1)) fun H2 e2 ok2 => ?_
      refine s_no ok2 (Et.is (et_t (ev_eq (ev_fm0 (ev_var (S1 e2))) ev_str)) (c := false) (decide_eq_false h2)) fun H3 e3 ok3 => ?_
      have e13 := e2.trans e3
      refine s_ret ok3 ((ev_or (b := true) (ev_eq (ev_fm0 (ev_var (S1 e13))) ev_str) fun _ => (ev_all (ev_lc (f := fun _ : Fm => true) (ei_tup (ev_fmSl (ev_var (S1 e13)) hw)) (Nat.le_trans (Fm.parts_len f) (by decide)) (by decide) fun i x v M' H' hi l r => ev_f2 (f := fun (_ : Menu) (_ : Fm) => true) (ev_var ((S0 e13).lc l)) (ev_var (Sl.me r)) ⟨by have := Fm.parts_dp (List.mem_of_getElem? hi); omega, hP, Fm.parts_suits hS (List.mem_of_getElem? hi)⟩)).is (by simp)).is (x' := true) (by simp)) fun v H4 e4 r => k v H4 ((e1.trans e13).trans e4) r

abbrev s_kinds_where : Stmt := topS 24
theorem sc_kinds_where : FnScope ["menu", "test"] ["menu", "test"] (defScope s_kinds_where) := ⟨rfl, rfl, rfl, by decide +kernel, rfl, by decide +kernel, by decide +kernel⟩

theorem ok_kinds_where {f : Addr} {fd : FuncData} (F : Fun K "kinds_where" "kinds_where" s_kinds_where f fd) (bt : Bt mg)
    (c_suits : Cal P w K mg base 8 "suits" ["menu", "form"] (sp_suits 6 K C))
    (h_Test_on : MetC P w K mg base 9 (C "Test") "on" ["self", "menu"] (sp_Test_on K C))
    (is_Test : IsC K (C "Test"))
    (cl_Test : Cls K (C "Test"))
    (n_Test_form : NoAttr K (C "Test") "form")
    (g_Test : mg "Test" = some (.ref (C "Test"))) :
    FnOk P w K mg base CX0 10 f fd ["menu", "test"] (sp_kinds_where K C) := by
  refine F.ok sc_kinds_where (fun vs H Q E h => ?_) (fun cdv A outer s H vs Q E hr h => ?_)
  · obtain ⟨W, M, v, u, z, d, _, _, rfl, _⟩ := h; rfl
  · obtain ⟨W, M, v, u, m, t, rfl, rfl, rfl, ok, r, rt, ⟨hF, hS⟩, k⟩ := h
    refine ⟨_, (pss_cons (ps_if (PW.pt (pw_or (pt_not (pt_val (pe_callB call_isi (by rfl) bt.isinstance_ (by decide +kernel) (pa_cons (pv 1) (pa_cons (pe_glob (v := .ref (W.C "Test")) rfl g_Test rfl) pa_nil))))) (pw_or1 (pt_not (pt_val (pe_call c_suits.ok (by exact hr.mono (by decide)) (by rfl) c_suits.gl c_suits.kp c_suits.b .nil pass0 (pa_cons (pv 0) (pa_cons (pe_fld (pv 1) rfl) pa_nil)))))))) (pss_one ps_never) pss_nil)
      (pss_one (ps_ret (pe_meth (pv 1) h_Test_on.cl h_Test_on.me h_Test_on.ok (by exact hr.mono (by decide)) h_Test_on.b .nil pass0 (pa_cons (pv 0) pa_nil))))), ?_⟩
    refine s_no ok (Et.is (et_or (et_not (et_b (ev_isTest is_Test (ev_var (i := 1) (x := t) ⟨u, rfl, rt⟩)))) fun _ => et_not (et_b (ev_f2 (f := fun (_ : Menu) (_ : Fm) => true) (ev_var (i := 0) (x := m) ⟨v, rfl, r⟩) (ts_form (ev_var (i := 1) (x := t) ⟨u, rfl, rt⟩) cl_Test n_Test_form) ⟨hF.dp, hF.pl, hS⟩))) (c := false) rfl) fun H1 e1 ok1 => ?_
    unfold tNext
    dsimp only
    refine s_ret ok1 (x := Tup.mk ((kindsT m).l.filter fun k => t.f.isT (seen m.cols k.l))) ?_ fun v H3 e3 r => k v H3 (e1.trans e3) r
    have h1 : Ev W M (tVar 1) (L2.start ["menu", "test"] [v, u]) H1 t := ev_var ⟨u, rfl, rt.up e1⟩
    have h0 : Ev W M (tVar 0) (L2.start ["menu", "test"] [v, u]) H1 m := ev_var ⟨v, rfl, r.up e1⟩
    have h := ev_m1 (E := E0) (m := "on") (pre := fun (t : Tst) (m : Menu) => Fit m.cols t.f) (f := fun (t : Tst) (m : Menu) => Tup.mk ((kindsT m).l.filter fun k => t.f.isT (seen m.cols k.l))) h1 h0 hF (by decide +kernel)
    exact h

abbrev s_seen_kind : Stmt := topS 25
theorem sc_seen_kind : FnScope ["menu", "kind", "column", "worth"] ["menu", "kind"] (defScope s_seen_kind) := ⟨rfl, rfl, rfl, by decide +kernel, rfl, by decide +kernel, by decide +kernel⟩

theorem ok_seen_kind {f : Addr} {fd : FuncData} (F : Fun K "seen_kind" "seen_kind" s_seen_kind f fd) (bt : Bt mg)
    (p_Menu_columns : PropC P w K mg base 1 (C "Menu") "columns" (sp_Menu_columns K C)) :
    FnOk P w K mg base CX0 3 f fd ["menu", "kind"] (sp_seen_kind K C) := by
  refine F.ok sc_seen_kind (fun vs H Q E h => ?_) (fun cdv A outer s H vs Q E hr h => ?_)
  · obtain ⟨W, M, v, u, z, d, _, _, rfl, _⟩ := h; rfl
  · obtain ⟨W, M, v, u, m, key, rfl, rfl, rfl, ok, r, rk, ⟨hP, hk⟩, k⟩ := h
    have hl : (colsT m).l.length = key.l.length := by unfold colsT; rw [List.length_map, kind_len hk]
    have hz3 : ((colsT m).l.zip key.l).length ≤ 3 := by rw [List.length_zip]; unfold colsT; rw [List.length_map]; have := hP.l3; omega
    have hf : ∀ {xs : List ColT} {ys : List Str}, xs.length = ys.length → (xs.zip ys).map (fun x => (x.1.1, x.2)) = (xs.map Prod.fst).zip ys := by
      intro xs
      induction xs with
      | nil => intro ys _; rfl
      | cons x xs ih =>
        intro ys h
        cases ys with
        | nil => cases h
        | cons y ys => rw [List.zip_cons_cons, List.map_cons, List.map_cons, List.zip_cons_cons, ih (by simpa using h)]
    have hk1 : ∀ {xs : List ColT} {ys : List Str}, xs.length = ys.length → (xs.zip ys).map (fun x => x.1.1) = xs.map Prod.fst := by
      intro xs
      induction xs with
      | nil => intro ys _; rfl
      | cons x xs ih =>
        intro ys h
        cases ys with
        | nil => cases h
        | cons y ys => rw [List.zip_cons_cons, List.map_cons, List.map_cons, ih (by simpa using h)]
    have hcf : (colsT m).l.map Prod.fst = m.cols.map Prod.fst := by unfold colsT; rw [List.map_map]; rfl
    refine ⟨_, (pss_one (ps_ret (pe_dc (own := [("column", 2), ("worth", 3)]) (g := gPair W.K 2 3) rfl sc_seen_kind.nd (pi_zipA (by rfl) bt.zip_ (pa_cons (pe_prop (pv 0) p_Menu_columns.cl p_Menu_columns.pr p_Menu_columns.ok (by exact hr.mono (by decide)) p_Menu_columns.b .nil pass0 rfl) (pa_cons (pv 1) pa_nil))) (blkOk_by (own := [("column", 2), ("worth", 3)]) (N := ["menu", "kind", "column", "worth"]) (sc := defScope s_seen_kind) (by decide +kernel)) (fun _ _ _ _ _ => (pg_tup rfl (pgs_cons (pg_name (i := 2) sc_seen_kind.nd rfl (Or.inl rfl)) (pgs_cons (pg_name (i := 3) sc_seen_kind.nd rfl (Or.inl rfl)) pgs_nil)))) (fun _ _ _ _ _ => pts_nil) (fun _ _ _ _ _ => (PE.to (pe_ix ix_tup (pv 2) pe_int (fun _ _ => rfl)) (by dsimp only [Cx.blk] <;> rfl))) (fun _ _ _ _ _ => (pv 3))))), ?_⟩
    refine s_ret ok ((ev_dc (fk := fun x : ColT × Str => x.1.1) (fv := fun x : ColT × Str => x.2) (ei_zipT (xs := colsT m) (ys := Tup.mk key.l) ((ev_prop (o := m) (f := colsF) (ev_var (i := 0) (x := m) ⟨v, rfl, r⟩) trivial).cv fun _ _ r => r.tF) (ev_var (i := 1) (x := key) ⟨u, rfl, rk⟩).tk) (by show ((colsT m).l.zip key.l).length ≤ 1000; omega) ?_ (by decide) (by decide) (fun i x v1 v2 M' H' hx l r1 r2 => ev_fst (ev_var ((Sl.me r1).set Ex.refl))) fun i x v1 v2 M' H' hx l r1 r2 => ev_var (Sl.hr r2)).is ?_) fun v H3 e3 r => k v H3 e3 r
    · rw [hk1 hl, hcf]; exact hP.nd
    · show Dm.mk _ = Dm.mk (seen m.cols key.l)
      unfold seen
      rw [hf hl, hcf]

abbrev s_names_in : Stmt := topS 26
theorem sc_names_in : FnScope ["form", "part", "name"] ["form"] (defScope s_names_in) := ⟨rfl, rfl, rfl, by decide +kernel, rfl, by decide +kernel, by decide +kernel⟩

theorem ok_names_in (n lv : Nat) (hlv : 0 ≤ lv) {f : Addr} {fd : FuncData} (F : Fun K "names_in" "names_in" s_names_in f fd) (bt : Bt mg)
    (c_names_in : Cal P w K mg base lv "names_in" ["form"] (sp_names_in n K C)) :
    FnOk P w K mg base CX0 (lv + 1) f fd ["form"] (sp_names_in (n + 1) K C) := by
  refine F.ok sc_names_in (fun vs H Q E h => ?_) (fun cdv A outer s H vs Q E hr h => ?_)
  · obtain ⟨W, M, v, z, _, _, rfl, _⟩ := h; rfl
  · obtain ⟨W, M, v, f, rfl, rfl, rfl, ok, r, ⟨hn, h6⟩, k⟩ := h
    have S0 : ∀ {H'}, Ex W [] H H' → Sl W M (L2.start ["form", "part", "name"] [v]) H' 0 f := fun e => ⟨v, rfl, r.up e⟩
    have w1 : ("alike" : Str) ≠ "equal" := by decide +kernel
    refine ⟨_, (pss_cons (ps_if (pt_cmpR op_eq (pe_ix ix_tup (pv 0) pe_int (fun _ _ => rfl)) pe_str (nomark _)) (pss_one (ps_ret (pe_lst (pa_cons (pe_ix ix_tup (pv 0) pe_int (fun _ _ => rfl)) pa_nil)))) pss_nil)
      (pss_cons (ps_if (pt_cmpR op_eq (pe_ix ix_tup (pv 0) pe_int (fun _ _ => rfl)) pe_str (nomark _)) (pss_one (ps_ret (pe_lst (pa_cons (pe_ix ix_tup (pv 0) pe_int (fun _ _ => rfl)) (pa_cons (pe_ix ix_tup (pv 0) pe_int (fun _ _ => rfl)) pa_nil))))) pss_nil)
      (pss_one (ps_ret (pe_lc2 (own := [("part", 1), ("name", 2)]) (vs1 := [2]) (g := gName 1) (g1 := gName 2) rfl sc_names_in.nd (pi_tup (pe_slice sl_tupA (pv 0) (po_some pe_int) po_none)) (blkOk_by (own := [("part", 1), ("name", 2)]) (N := ["form", "part", "name"]) (sc := defScope s_names_in) (by decide +kernel)) (by decide) (fun _ _ _ _ _ => (pg_name (i := 1) sc_names_in.nd rfl (Or.inl rfl))) (fun _ _ _ _ _ => pts_nil) (fun _ _ _ _ _ => (PI.to (pi_list (pe_call c_names_in.ok (by exact hr.mono (Nat.le_refl _)) (by rfl) c_names_in.gl c_names_in.kp c_names_in.b .nil pass0 (pa_cons (pv 1) pa_nil))) (by dsimp only [Cx.blk] <;> rfl))) (fun _ _ _ _ _ => (pg_name (i := 2) sc_names_in.nd rfl (Or.inl rfl))) (fun _ _ _ _ _ => pts_nil) (fun _ _ _ _ _ => (pv 2))))))), ?_⟩
    rcases f.kind with ⟨a, z, rfl⟩ | ⟨a, b, rfl⟩ | ⟨hw, h1, h2⟩
    · refine s_yes ok (Et.is (et_t (ev_eq (ev_fm0 (ev_var (S0 Ex.refl))) ev_str)) (c := true) (decide_eq_true rfl)) fun H1 e1 ok1 => ?_
      exact s_ret ok1 (ev_lst (xs := [a]) (ea_cons (ev_fmW (k := 0) (ev_var (S0 e1)) rfl) ea_nil) (by show 1 ≤ 1000000; decide)) fun v H3 e3 r => k v H3 (e1.trans e3) r
    · refine s_no ok (Et.is (et_t (ev_eq (ev_fm0 (ev_var (S0 Ex.refl))) ev_str)) (c := false) (decide_eq_false w1)) fun H1 e1 ok1 => ?_
      refine s_yes ok1 (Et.is (et_t (ev_eq (ev_fm0 (ev_var (S0 e1))) ev_str)) (c := true) (decide_eq_true rfl)) fun H2 e2 ok2 => ?_
      have e12 := e1.trans e2
      exact s_ret ok2 (ev_lst (xs := [a, b]) (ea_cons (ev_fmW (k := 0) (ev_var (S0 e12)) rfl) (ea_cons (ev_fmW (k := 1) (ev_var (S0 e12)) rfl) ea_nil)) (by show 2 ≤ 1000000; decide)) fun v H3 e3 r => k v H3 (e12.trans e3) r
    · refine s_no ok (Et.is (et_t (ev_eq (ev_fm0 (ev_var (S0 Ex.refl))) ev_str)) (c := false) (decide_eq_false h1)) fun H1 e1 ok1 => ?_
      refine s_no ok1 (Et.is (et_t (ev_eq (ev_fm0 (ev_var (S0 e1))) ev_str)) (c := false) (decide_eq_false h2)) fun H2 e2 ok2 => ?_
      have e12 := e1.trans e2
      refine s_ret ok2 ((ev_lcc (xs := f.parts) (zs := Fm.names) (f := fun _ z => z) (ei_tup (ev_fmSl (ev_var (S0 e12)) hw)) (Fm.parts_len f) (by decide) (by decide) (fun x hx => names_1000 (by have := Fm.parts_dp hx; omega)) (fun i x v M' H' hi l r => ei_list (ev_f1 (f := Fm.names) (ev_var (Sl.me r)) ⟨by have := Fm.parts_dp (List.mem_of_getElem? hi); omega, by have := Fm.parts_dp (List.mem_of_getElem? hi); omega⟩)) fun i j x z v u M' H' hi hj l r ru => ev_var (Sl.me ru)).is ?_) fun v H3 e3 r => k v H3 (e12.trans e3) r
      rw [Fm.names_parts hw]
      congr 1
      funext x
      exact List.map_id' _

abbrev s_steps_of : Stmt := topS 27
theorem sc_steps_of : FnScope ["form", "part"] ["form"] (defScope s_steps_of) := ⟨rfl, rfl, rfl, by decide +kernel, rfl, by decide +kernel, by decide +kernel⟩

theorem ok_steps_of (n lv : Nat) (hlv : 0 ≤ lv) {f : Addr} {fd : FuncData} (F : Fun K "steps_of" "steps_of" s_steps_of f fd) (bt : Bt mg)
    (c_steps_of : Cal P w K mg base lv "steps_of" ["form"] (sp_steps_of n K C)) :
    FnOk P w K mg base CX0 (lv + 1) f fd ["form"] (sp_steps_of (n + 1) K C) := by
  refine F.ok sc_steps_of (fun vs H Q E h => ?_) (fun cdv A outer s H vs Q E hr h => ?_)
  · obtain ⟨W, M, v, z, _, _, rfl, _⟩ := h; rfl
  · obtain ⟨W, M, v, f, rfl, rfl, rfl, ok, r, hn, k⟩ := h
    have S0 : ∀ {H'}, Ex W [] H H' → Sl W M (L2.start ["form", "part"] [v]) H' 0 f := fun e => ⟨v, rfl, r.up e⟩
    have w1 : ("not" : Str) ∉ (["all", "equal", "alike"] : List Str) ∧ ("and" : Str) ∉ (["all", "equal", "alike"] : List Str) ∧ ("or" : Str) ∉ (["all", "equal", "alike"] : List Str) := by decide +kernel
    have hk : (f.head ∈ (["all", "equal", "alike"] : List Str) ∧ f.steps = 1) ∨ (f.head ∉ (["all", "equal", "alike"] : List Str) ∧ f.words = []) := by
      cases f with
      | all => exact .inl ⟨by unfold Fm.head; simp, rfl⟩
      | eq _ _ => exact .inl ⟨by unfold Fm.head; simp, rfl⟩
      | alike _ _ => exact .inl ⟨by unfold Fm.head; simp, rfl⟩
      | not _ => exact .inr ⟨w1.1, rfl⟩
      | and _ _ => exact .inr ⟨w1.2.1, rfl⟩
      | or _ _ => exact .inr ⟨w1.2.2, rfl⟩
    refine ⟨_, (pss_cons (ps_if (pt_cmpR (op_inE (by exact u65 hr)) (pe_ix ix_tup (pv 0) pe_int (fun _ _ => rfl)) (pe_tup (pa_cons pe_str (pa_cons pe_str (pa_cons pe_str pa_nil)))) (by rfl)) (pss_one (ps_ret pe_int)) pss_nil)
      (pss_one (ps_ret (pe_op op_add pe_int (pe_callB (cr_sum rfl) (by rfl) bt.sum_ (by decide +kernel) (pa_cons (pe_lc (own := [("part", 1)]) (g := gName 1) rfl sc_steps_of.nd (pi_tup (pe_slice sl_tupA (pv 0) (po_some pe_int) po_none)) (blkOk_by (own := [("part", 1)]) (N := ["form", "part"]) (sc := defScope s_steps_of) (by decide +kernel)) (fun _ _ _ _ _ => (pg_name (i := 1) sc_steps_of.nd rfl (Or.inl rfl))) (fun _ _ _ _ _ => pts_nil) (fun _ _ _ _ _ => (PE.to (pe_call c_steps_of.ok (by exact hr.mono (Nat.le_refl _)) (by rfl) c_steps_of.gl c_steps_of.kp c_steps_of.b .nil pass0 (pa_cons (pv 1) pa_nil)) (by dsimp only [Cx.blk] <;> rfl)))) pa_nil)))))), ?_⟩
    have ht : ∀ {σ : L2.St}, Ev W M (tTup (tCons (tC (.str "all")) (tCons (tC (.str "equal")) (tCons (tC (.str "alike")) tNil)))) σ H (Tup.mk (["all", "equal", "alike"] : List Str)) := ev_tup (ea_cons ev_str (ea_cons ev_str (ea_cons ev_str ea_nil))) (by show 3 ≤ 1000000; decide)
    rcases hk with ⟨h1, h2⟩ | ⟨h1, hw⟩
    · refine s_yes ok (Et.is (et_t (ev_inT (x := f.head) (ev_fm0 (ev_var (S0 Ex.refl))) ht)) (c := true) (decide_eq_true h1)) fun H1 e1 ok1 => ?_
      exact s_ret ok1 (x := (f.steps : Int)) (by rw [h2]; exact ev_int) fun v H3 e3 r => k v H3 (e1.trans e3) r
    · refine s_no ok (Et.is (et_t (ev_inT (x := f.head) (ev_fm0 (ev_var (S0 Ex.refl))) ht)) (c := false) (decide_eq_false h1)) fun H1 e1 ok1 => ?_
      refine s_ret ok1 ((ev_I0 (m := 1) ev_int (ev_sum (ev_lc (f := fun g : Fm => (g.steps : Int)) (ei_tup (ev_fmSl (ev_var (S0 e1)) hw)) (Nat.le_trans (Fm.parts_len f) (by decide)) (by decide) fun i x v M' H' hi l r => ev_f1 (f := fun f : Fm => (f.steps : Int)) (ev_var (Sl.me r)) (by have := Fm.parts_dp (List.mem_of_getElem? hi); omega)))).is ?_) fun v H3 e3 r => k v H3 (e1.trans e3) r
      show _ = ((f.steps : Nat) : Int)
      rw [Fm.steps_parts hw]
      have : ∀ l : List Fm, (l.map fun g : Fm => (g.steps : Int)).sum = ((l.map Fm.steps).sum : Nat) := fun l => by
        induction l with
        | nil => rfl
        | cons a t ih => rw [List.map_cons, List.map_cons, List.sum_cons, List.sum_cons, ih]; push_cast; rfl
      show 1 + ((Tup.mk f.parts).l.map fun g : Fm => (g.steps : Int)).sum = _
      rw [this]
      push_cast; rfl

abbrev s_is_true : Stmt := topS 28
theorem sc_is_true : FnScope ["form", "seen"] ["form", "seen"] (defScope s_is_true) := ⟨rfl, rfl, rfl, by decide +kernel, rfl, by decide +kernel, by decide +kernel⟩

theorem ok_is_true (n lv : Nat) (hlv : 0 ≤ lv) {f : Addr} {fd : FuncData} (F : Fun K "is_true" "is_true" s_is_true f fd) (bt : Bt mg)
    (c_is_true : Cal P w K mg base lv "is_true" ["form", "seen"] (sp_is_true n K C)) :
    FnOk P w K mg base CX0 (lv + 1) f fd ["form", "seen"] (sp_is_true (n + 1) K C) := by
  refine F.ok sc_is_true (fun vs H Q E h => ?_) (fun cdv A outer s H vs Q E hr h => ?_)
  · obtain ⟨W, M, v, u, f, d, _, _, rfl, _⟩ := h; rfl
  · obtain ⟨W, M, v, u, f, d, rfl, rfl, rfl, ok, r, rd, ⟨hd, hs⟩, k⟩ := h
    have S0 : ∀ {H'}, Ex W [] H H' → Ev W M (tVar 0) (L2.start ["form", "seen"] [v, u]) H' f := fun e => ev_var ⟨v, rfl, r.up e⟩
    have S1 : ∀ {H'}, Ex W [] H H' → Ev W M (tVar 1) (L2.start ["form", "seen"] [v, u]) H' d := fun e => ev_var ⟨u, rfl, rd.up e⟩
    have look : ∀ m ∈ f.names, ∃ z, d.kvs.lookup m = some z ∧ (d.kvs.lookup m).getD "" = z := fun m hm => by
      have := hs m hm
      cases e : d.kvs.lookup m with
      | none => rw [e] at this; cases this
      | some z => exact ⟨z, rfl, rfl⟩
    have w1 : ("all" : Str) ≠ "equal" ∧ ("all" : Str) ≠ "alike" ∧ ("all" : Str) ≠ "not" ∧ ("all" : Str) ≠ "and" ∧ ("alike" : Str) ≠ "equal" := by decide +kernel
    have w2 : ("not" : Str) ≠ "equal" ∧ ("not" : Str) ≠ "alike" ∧ ("and" : Str) ≠ "equal" ∧ ("and" : Str) ≠ "alike" ∧ ("and" : Str) ≠ "not" := by decide +kernel
    have w3 : ("or" : Str) ≠ "equal" ∧ ("or" : Str) ≠ "alike" ∧ ("or" : Str) ≠ "not" ∧ ("or" : Str) ≠ "and" ∧ ("or" : Str) ≠ "all" := by decide +kernel
    refine ⟨_, (pss_cons (ps_if (pt_cmpR op_eq (pe_ix ix_tup (pv 0) pe_int (fun _ _ => rfl)) pe_str (nomark _)) (pss_one (ps_ret (pe_cmpR op_eq (pe_dget (by exact u1 hr) (pv 1) (pe_ix ix_tup (pv 0) pe_int (fun _ _ => rfl)) (fun _ _ => rfl)) (pe_ix ix_tup (pv 0) pe_int (fun _ _ => rfl)) (nomark _)))) pss_nil)
      (pss_cons (ps_if (pt_cmpR op_eq (pe_ix ix_tup (pv 0) pe_int (fun _ _ => rfl)) pe_str (nomark _)) (pss_one (ps_ret (pe_cmpR op_eq (pe_dget (by exact u1 hr) (pv 1) (pe_ix ix_tup (pv 0) pe_int (fun _ _ => rfl)) (fun _ _ => rfl)) (pe_dget (by exact u1 hr) (pv 1) (pe_ix ix_tup (pv 0) pe_int (fun _ _ => rfl)) (fun _ _ => rfl)) (nomark _)))) pss_nil)
      (pss_cons (ps_if (pt_cmpR op_eq (pe_ix ix_tup (pv 0) pe_int (fun _ _ => rfl)) pe_str (nomark _)) (pss_one (ps_ret (pe_not (pe_call c_is_true.ok (by exact hr.mono (Nat.le_refl _)) (by rfl) c_is_true.gl c_is_true.kp c_is_true.b .nil pass0 (pa_cons (pe_ix ix_tup (pv 0) pe_int (fun _ _ => rfl)) (pa_cons (pv 1) pa_nil)))))) pss_nil)
      (pss_cons (ps_if (pt_cmpR op_eq (pe_ix ix_tup (pv 0) pe_int (fun _ _ => rfl)) pe_str (nomark _)) (pss_one (ps_ret (pe_and (pe_call c_is_true.ok (by exact hr.mono (Nat.le_refl _)) (by rfl) c_is_true.gl c_is_true.kp c_is_true.b .nil pass0 (pa_cons (pe_ix ix_tup (pv 0) pe_int (fun _ _ => rfl)) (pa_cons (pv 1) pa_nil))) (pe_one (pe_call c_is_true.ok (by exact hr.mono (Nat.le_refl _)) (by rfl) c_is_true.gl c_is_true.kp c_is_true.b .nil pass0 (pa_cons (pe_ix ix_tup (pv 0) pe_int (fun _ _ => rfl)) (pa_cons (pv 1) pa_nil))))))) pss_nil)
      (pss_one (ps_ret (pe_or (pe_cmpR op_eq (pe_ix ix_tup (pv 0) pe_int (fun _ _ => rfl)) pe_str (nomark _)) (pe_or (pe_call c_is_true.ok (by exact hr.mono (Nat.le_refl _)) (by rfl) c_is_true.gl c_is_true.kp c_is_true.b .nil pass0 (pa_cons (pe_ix ix_tup (pv 0) pe_int (fun _ _ => rfl)) (pa_cons (pv 1) pa_nil))) (pe_one (pe_call c_is_true.ok (by exact hr.mono (Nat.le_refl _)) (by rfl) c_is_true.gl c_is_true.kp c_is_true.b .nil pass0 (pa_cons (pe_ix ix_tup (pv 0) pe_int (fun _ _ => rfl)) (pa_cons (pv 1) pa_nil)))))))))))), ?_⟩
    have no : ∀ {t : TS} {t2 : TS} {D : Ends} {H' : Hp} {h : Str}, f.head ≠ h → Ok W M H' → Ex W [] H H' → (∀ H2, Ex W [] H H2 → Ok W M H2 → t2 D (L2.start ["form", "seen"] [v, u]) H2) → tIfS (tTest (tOp rEq (tOp (rIxT W.K) (tVar 0) (tC (.int 0))) (tC (.str h)))) t t2 D (L2.start ["form", "seen"] [v, u]) H' := fun hh ok' e q =>
      s_no ok' (Et.is (et_t (ev_eq (ev_fm0 (S0 e)) ev_str)) (c := false) (decide_eq_false hh)) fun H2 e2 ok2 => q H2 (e.trans e2) ok2
    have yes : ∀ {t : TS} {t2 : TS} {D : Ends} {H' : Hp} {h : Str}, f.head = h → Ok W M H' → Ex W [] H H' → (∀ H2, Ex W [] H H2 → Ok W M H2 → t D (L2.start ["form", "seen"] [v, u]) H2) → tIfS (tTest (tOp rEq (tOp (rIxT W.K) (tVar 0) (tC (.int 0))) (tC (.str h)))) t t2 D (L2.start ["form", "seen"] [v, u]) H' := fun hh ok' e q =>
      s_yes ok' (Et.is (et_t (ev_eq (ev_fm0 (S0 e)) ev_str)) (c := true) (decide_eq_true hh)) fun H2 e2 ok2 => q H2 (e.trans e2) ok2
    have rec_ : ∀ {g : Fm} {te : TE} {H' : Hp} {E : XK}, Ex W [] H H' → g ∈ f.parts → (∀ m ∈ g.names, m ∈ f.names) → Ev W M te (L2.start ["form", "seen"] [v, u]) H' g → Ev W M (tCall (sp_is_true n W.K W.C) [] E (tCons te (tCons (tVar 1) tNil))) (L2.start ["form", "seen"] [v, u]) H' (g.isT d.kvs) := fun e hg hm hv =>
      ev_f2 (f := fun (f : Fm) (d : Dm Str) => f.isT d.kvs) hv (S1 e) ⟨by have := Fm.parts_dp hg; omega, fun m h => hs m (hm m h)⟩
    cases f with
    | eq a z =>
      obtain ⟨y, hy, hy2⟩ := look a (by simp [Fm.names])
      refine yes rfl ok Ex.refl fun H1 e1 ok1 => ?_
      exact s_ret ok1 ((ev_eq (ev_dgetM (S1 e1) (ev_fmW (k := 0) (S0 e1) rfl) hy) (ev_fmW (k := 1) (S0 e1) rfl)).is (by show _ = decide ((d.kvs.lookup a).getD "" = z); rw [hy2])) fun v H3 e3 r => k v H3 (e1.trans e3) r
    | alike a b =>
      obtain ⟨y, hy, hy2⟩ := look a (by simp [Fm.names])
      obtain ⟨x, hx, hx2⟩ := look b (by simp [Fm.names])
      refine no w1.2.2.2.2 ok Ex.refl fun H1 e1 ok1 => ?_
      refine yes rfl ok1 e1 fun H2 e2 ok2 => ?_
      exact s_ret ok2 ((ev_eq (ev_dgetM (S1 e2) (ev_fmW (k := 0) (S0 e2) rfl) hy) (ev_dgetM (S1 e2) (ev_fmW (k := 1) (S0 e2) rfl) hx)).is (by show _ = decide ((d.kvs.lookup a).getD "" = (d.kvs.lookup b).getD ""); rw [hy2, hx2])) fun v H3 e3 r => k v H3 (e2.trans e3) r
    | all =>
      refine no w1.1 ok Ex.refl fun H1 e1 ok1 => ?_
      refine no w1.2.1 ok1 e1 fun H2 e2 ok2 => ?_
      refine no w1.2.2.1 ok2 e2 fun H3 e3 ok3 => ?_
      refine no w1.2.2.2.1 ok3 e3 fun H4 e4 ok4 => ?_
      exact s_ret ok4 ((ev_or (b := true) (ev_eq (ev_fm0 (S0 e4)) ev_str) fun z => absurd z (by rw [decide_eq_true (show Fm.all.head = "all" from rfl)]; exact fun z => nomatch z)).is (by rw [decide_eq_true (show Fm.all.head = "all" from rfl)]; rfl)) fun v H5 e5 r => k v H5 (e4.trans e5) r
    | not g =>
      refine no w2.1 ok Ex.refl fun H1 e1 ok1 => ?_
      refine no w2.2.1 ok1 e1 fun H2 e2 ok2 => ?_
      refine yes rfl ok2 e2 fun H3 e3 ok3 => ?_
      exact s_ret ok3 ((ev_not (rec_ (g := g) e3 (by simp [Fm.parts]) (fun m h => h) (ev_fmP (k := 0) (S0 e3) rfl))).is (x' := Fm.isT d.kvs (.not g)) rfl) fun v H5 e5 r => k v H5 (e3.trans e5) r
    | and g g' =>
      refine no w2.2.2.1 ok Ex.refl fun H1 e1 ok1 => ?_
      refine no w2.2.2.2.1 ok1 e1 fun H2 e2 ok2 => ?_
      refine no w2.2.2.2.2 ok2 e2 fun H3 e3 ok3 => ?_
      refine yes rfl ok3 e3 fun H4 e4 ok4 => ?_
      exact s_ret ok4 (ev_and (rec_ e4 (by simp [Fm.parts]) (fun m h => by simp [Fm.names, h]) (ev_fmP (k := 0) (S0 e4) rfl)) fun _ => rec_ e4 (by simp [Fm.parts]) (fun m h => by simp [Fm.names, h]) (ev_fmP (k := 1) (S0 e4) rfl)) fun v H5 e5 r => k v H5 (e4.trans e5) r
    | or g g' =>
      refine no w3.1 ok Ex.refl fun H1 e1 ok1 => ?_
      refine no w3.2.1 ok1 e1 fun H2 e2 ok2 => ?_
      refine no w3.2.2.1 ok2 e2 fun H3 e3 ok3 => ?_
      refine no w3.2.2.2.1 ok3 e3 fun H4 e4 ok4 => ?_
      refine s_ret ok4 ((ev_or (b := g.isT d.kvs || g'.isT d.kvs) (ev_eq (ev_fm0 (S0 e4)) ev_str) fun _ => ev_or ?_ fun _ => ?_).is (by rw [decide_eq_false (show (Fm.or g g').head ≠ "all" from w3.2.2.2.2)]; rfl)) fun v H5 e5 r => k v H5 (e4.trans e5) r
      · exact rec_ e4 (by simp [Fm.parts]) (fun m h => by simp [Fm.names, h]) (ev_fmP (k := 0) (S0 e4) rfl)
      · exact rec_ e4 (by simp [Fm.parts]) (fun m h => by simp [Fm.names, h]) (ev_fmP (k := 1) (S0 e4) rfl)

abbrev s_text_of : Stmt := topS 29
theorem sc_text_of : FnScope ["form", "part"] ["form"] (defScope s_text_of) := ⟨rfl, rfl, rfl, by decide +kernel, rfl, by decide +kernel, by decide +kernel⟩

theorem ok_text_of (n lv : Nat) (hlv : 0 ≤ lv) {f : Addr} {fd : FuncData} (F : Fun K "text_of" "text_of" s_text_of f fd) (bt : Bt mg)
    (c_text_of : Cal P w K mg base lv "text_of" ["form"] (sp_text_of n K C)) :
    FnOk P w K mg base CX0 (lv + 1) f fd ["form"] (sp_text_of (n + 1) K C) := by
  refine F.ok sc_text_of (fun vs H Q E h => ?_) (fun cdv A outer s H vs Q E hr h => ?_)
  · obtain ⟨W, M, v, z, _, _, rfl, _⟩ := h; rfl
  · obtain ⟨W, M, v, f, rfl, rfl, rfl, ok, r, ⟨hn, h6, hO⟩, k⟩ := h
    have S0 : ∀ {H'}, Ex W [] H H' → Sl W M (L2.start ["form", "part"] [v]) H' 0 f := fun e => ⟨v, rfl, r.up e⟩
    have w1 : ("equal" : Str) ≠ "all" ∧ ("alike" : Str) ≠ "all" ∧ ("alike" : Str) ≠ "equal" := by decide +kernel
    have w2 : ("not" : Str) ≠ "all" ∧ ("and" : Str) ≠ "all" ∧ ("or" : Str) ≠ "all" := by decide +kernel
    have l1 : ("=" : Str).length = 1 ∧ ("~" : Str).length = 1 := by decide +kernel
    refine ⟨_, (pss_cons (ps_if (pt_cmpR op_eq (pe_ix ix_tup (pv 0) pe_int (fun _ _ => rfl)) pe_str (nomark _)) (pss_one (ps_ret pe_str)) pss_nil)
      (pss_cons (ps_if (pt_cmpR op_eq (pe_ix ix_tup (pv 0) pe_int (fun _ _ => rfl)) pe_str (nomark _)) (pss_one (ps_ret (pe_joined (PJ.cons (pe_fmt (pe_ix ix_tup (pv 0) pe_int (fun _ _ => rfl))) (PJ.cons pe_str (PJ.cons (pe_fmt (pe_ix ix_tup (pv 0) pe_int (fun _ _ => rfl))) PJ.nil)))))) pss_nil)
      (pss_cons (ps_if (pt_cmpR op_eq (pe_ix ix_tup (pv 0) pe_int (fun _ _ => rfl)) pe_str (nomark _)) (pss_one (ps_ret (pe_joined (PJ.cons (pe_fmt (pe_ix ix_tup (pv 0) pe_int (fun _ _ => rfl))) (PJ.cons pe_str (PJ.cons (pe_fmt (pe_ix ix_tup (pv 0) pe_int (fun _ _ => rfl))) PJ.nil)))))) pss_nil)
      (pss_one (ps_ret (pe_op op_add_str (pe_op op_add_str (pe_op op_add_str (pe_ix ix_tup (pv 0) pe_int (fun _ _ => rfl)) pe_str) (peJoin pe_str (pe_lc (own := [("part", 1)]) (g := gName 1) rfl sc_text_of.nd (pi_tup (pe_slice sl_tupA (pv 0) (po_some pe_int) po_none)) (blkOk_by (own := [("part", 1)]) (N := ["form", "part"]) (sc := defScope s_text_of) (by decide +kernel)) (fun _ _ _ _ _ => (pg_name (i := 1) sc_text_of.nd rfl (Or.inl rfl))) (fun _ _ _ _ _ => pts_nil) (fun _ _ _ _ _ => (PE.to (pe_call c_text_of.ok (by exact hr.mono (Nat.le_refl _)) (by rfl) c_text_of.gl c_text_of.kp c_text_of.b .nil pass0 (pa_cons (pv 1) pa_nil)) (by dsimp only [Cx.blk] <;> rfl)))))) pe_str)))))), ?_⟩
    rcases f.kind with ⟨a, z, rfl⟩ | ⟨a, b, rfl⟩ | ⟨hw, h1, h2⟩
    · have la := name_len hO.1
      have lz := worth_len hO.2
      refine s_no ok (Et.is (et_t (ev_eq (ev_fm0 (ev_var (S0 Ex.refl))) ev_str)) (c := false) (decide_eq_false w1.1)) fun H1 e1 ok1 => ?_
      refine s_yes ok1 (Et.is (et_t (ev_eq (ev_fm0 (ev_var (S0 e1))) ev_str)) (c := true) (decide_eq_true rfl)) fun H2 e2 ok2 => ?_
      have e12 := e1.trans e2
      exact s_ret ok2 ((ev_fs3 (a := a) (b := "=") (c := z) (ev_fmt (ev_fmW (k := 0) (ev_var (S0 e12)) rfl) (by omega)) ev_str (ev_fmt (ev_fmW (k := 1) (ev_var (S0 e12)) rfl) (by omega)) (by omega)).is (by rw [emp_app]; rfl)) fun v H3 e3 r => k v H3 (e12.trans e3) r
    · have la := name_len hO.1
      have lz := name_len hO.2
      refine s_no ok (Et.is (et_t (ev_eq (ev_fm0 (ev_var (S0 Ex.refl))) ev_str)) (c := false) (decide_eq_false w1.2.1)) fun H1 e1 ok1 => ?_
      refine s_no ok1 (Et.is (et_t (ev_eq (ev_fm0 (ev_var (S0 e1))) ev_str)) (c := false) (decide_eq_false w1.2.2)) fun H2 e2 ok2 => ?_
      have e12 := e1.trans e2
      refine s_yes ok2 (Et.is (et_t (ev_eq (ev_fm0 (ev_var (S0 e12))) ev_str)) (c := true) (decide_eq_true rfl)) fun H3 e3 ok3 => ?_
      have e13 := e12.trans e3
      exact s_ret ok3 ((ev_fs3 (a := a) (b := "~") (c := b) (ev_fmt (ev_fmW (k := 0) (ev_var (S0 e13)) rfl) (by omega)) ev_str (ev_fmt (ev_fmW (k := 1) (ev_var (S0 e13)) rfl) (by omega)) (by omega)).is (by rw [emp_app]; rfl)) fun v H4 e4 r => k v H4 (e13.trans e4) r
    · by_cases h0 : f = .all
      · subst h0
        refine s_yes ok (Et.is (et_t (ev_eq (ev_fm0 (ev_var (S0 Ex.refl))) ev_str)) (c := true) (decide_eq_true rfl)) fun H1 e1 ok1 => ?_
        exact s_ret ok1 (x := Fm.all.text) ev_str fun v H3 e3 r => k v H3 (e1.trans e3) r
      · have hh : f.head ≠ "all" := by
          cases f with
          | all => exact absurd rfl h0
          | eq _ _ => exact w1.1
          | alike _ _ => exact w1.2.1
          | not _ => exact w2.1
          | and _ _ => exact w2.2.1
          | or _ _ => exact w2.2.2
        have hl3 := Fm.head_len f
        have htl := Fm.text_len hO h6
        refine s_no ok (Et.is (et_t (ev_eq (ev_fm0 (ev_var (S0 Ex.refl))) ev_str)) (c := false) (decide_eq_false hh)) fun H1 e1 ok1 => ?_
        refine s_no ok1 (Et.is (et_t (ev_eq (ev_fm0 (ev_var (S0 e1))) ev_str)) (c := false) (decide_eq_false h1)) fun H2 e2 ok2 => ?_
        have e12 := e1.trans e2
        refine s_no ok2 (Et.is (et_t (ev_eq (ev_fm0 (ev_var (S0 e12))) ev_str)) (c := false) (decide_eq_false h2)) fun H3 e3 ok3 => ?_
        have e13 := e12.trans e3
        have hpt := Fm.text_parts hw h0
        have htot : (f.head ++ "(" ++ Txt.join ", " (f.parts.map Fm.text) ++ ")").length ≤ 2000 := by rw [← hpt]; exact htl
        simp only [PySem.Str.length_append] at htot
        refine s_ret ok3 ((ev_addS (ev_addS (ev_addS (ev_fm0 (ev_var (S0 e13))) ev_str (by omega)) (ev_join (z := ", ") ev_str (ev_lc (f := Fm.text) (ei_tup (ev_fmSl (ev_var (S0 e13)) hw)) (Nat.le_trans (Fm.parts_len f) (by decide)) (by decide) fun i x v M' H' hi l r => ev_f1 (f := Fm.text) (ev_var (Sl.me r)) ⟨by have := Fm.parts_dp (List.mem_of_getElem? hi); omega, by have := Fm.parts_dp (List.mem_of_getElem? hi); omega, Fm.parts_ok hO (List.mem_of_getElem? hi)⟩) (Fm.parts_join hO h6)) (by simp only [PySem.Str.length_append]; show _ + _ + (Txt.join ", " (f.parts.map Fm.text)).length ≤ _; omega)) ev_str (by simp only [PySem.Str.length_append]; show _ + _ + (Txt.join ", " (f.parts.map Fm.text)).length + _ ≤ _; omega)).is hpt.symm) fun v H4 e4 r => k v H4 (e13.trans e4) r

abbrev s_word_at : Stmt := topS 30
theorem sc_word_at : FnScope ["text", "at", "end"] ["text", "at"] (defScope s_word_at) := ⟨rfl, rfl, rfl, by decide +kernel, rfl, by decide +kernel, by decide +kernel⟩

theorem ok_word_at {f : Addr} {fd : FuncData} (F : Fun K "word_at" "word_at" s_word_at f fd) (bt : Bt mg)
    (g_DIGITS : ∃ t, mg "DIGITS" = some (.str "0123456789" t))
    (g_LETTERS : ∃ t, mg "LETTERS" = some (.str "abcdefghijklmnopqrstuvwxyz" t)) :
    FnOk P w K mg base CX0 1 f fd ["text", "at"] (sp_word_at K C) := by
  refine F.ok sc_word_at (fun vs H Q E h => ?_) (fun cdv A outer s H vs Q E hr h => ?_)
  · obtain ⟨W, M, z, s, pre, post, _, _, rfl, _⟩ := h; rfl
  · obtain ⟨W, M, z, s, pre, post, rfl, rfl, rfl, ok, hz, hL, hS, hl, k⟩ := h
    have hlen : z.length = pre.length + ((tl s).length + post.length) := by rw [len_tl, hz, List.length_append, List.length_append]
    refine ⟨_, (pss_cons (ps_set (i := 2) sc_word_at.nd rfl (.inl rfl) (pv 1))
      (pss_cons (ps_while PassesOwn.never (PW.pt (pw_and (pt_cmpR op_lt (pv 2) (pe_callB cLenX (by rfl) bt.len_ (by decide +kernel) (pa_cons (pv 0) pa_nil)) (nomark _)) (pw_and1 (PW.pt (pw_or (pt_cmpR op_inS (pe_ix ix_str (pv 0) (pv 2) (fun _ _ => rfl)) (pe_gS rfl g_LETTERS) (by rfl)) (pw_or1 (pt_cmpR op_inS (pe_ix ix_str (pv 0) (pv 2) (fun _ _ => rfl)) (pe_gS rfl g_DIGITS) (by rfl))))))))
      (pss_one (ps_aug (i := 2) sc_word_at.nd rfl (.inl rfl) pe_int ip_add)))
      (pss_one (ps_ret (pe_slice sl_str (pv 0) (po_some (pv 1)) (po_some (pv 2))))))), ?_⟩
    refine s_set ok (x := (pre.length : Int)) (ev_vi (i := 1)) fun v2 H1 e1 ok1 r2 => ?_
    cases (show v2 = .int (pre.length : Int) from r2)
    refine while_w (W := W) (M := M) (P := fun m σ' H' => ∃ i : Nat, i ≤ (tl s).length ∧ m = (tl s).length - i ∧ σ' = [some (.str z), some (.int (pre.length : Int)), some (.int ((pre.length + i : Nat) : Int))] ∧ Ex W [] H H' ∧ Ok W M H') (tl s).length ⟨0, Nat.zero_le _, rfl, rfl, e1, ok1⟩ ?_
    rintro m σ' H' ⟨i, hi, rfl, rfl, e0, ok'⟩
    have step : ∀ {c : Nat} {b : Bool}, atI z.cps.toList ((pre.length + i : Nat) : Int) = some c → ld c = b → pre.length + i < z.length → Et W M _ [some (.str z), some (.int (pre.length : Int)), some (.int ((pre.length + i : Nat) : Int))] H' b := fun {c b} hat hld hlt =>
      Et.is (et_and (et_t (ev_B0 (g := fun i j : Int => decide (i < j)) (ev_vi (i := 2)) (ev_lenX (ev_vs (i := 0)) (by omega)))) fun _ => et_or (et_t (ev_inS (z := lettersS) (ev_ixS (ev_vs (i := 0)) (ev_vi (i := 2)) (by omega) hat) ev_str ⟨_, rfl⟩)) fun _ => et_t (ev_inS (z := digitsS) (ev_ixS (ev_vs (i := 0)) (ev_vi (i := 2)) (by omega) hat) ev_str ⟨_, rfl⟩)) (by
        rw [decide_eq_true (show ((pre.length + i : Nat) : Int) < (z.length : Int) by omega)]
        exact hld)
    refine ⟨decide (i < (tl s).length), ?_, ok', fun H'' e'' ok'' => ⟨fun hb N hN => ?_, fun hb => ?_⟩⟩
    · by_cases hlt : i < (tl s).length
      · have hc : tl z = (pre ++ (tl s).take i) ++ ((tl s)[i] :: ((tl s).drop (i + 1) ++ post)) := by
          rw [hz]
          conv => lhs; rw [← List.take_append_drop i (tl s), List.drop_eq_getElem_cons hlt]
          simp
        refine step (at_mid hc (by rw [List.length_append, List.length_take, Nat.min_eq_left hi])) ?_ (by omega)
        rw [decide_eq_true hlt]
        exact hL _ (List.getElem_mem hlt)
      · have ei : i = (tl s).length := by omega
        rw [decide_eq_false hlt]
        cases post with
        | nil =>
          refine Et.is (et_and (b := false) (et_t (ev_B0 (g := fun i j : Int => decide (i < j)) (ev_vi (i := 2)) (ev_lenX (ev_vs (i := 0)) (by omega)))) fun y => absurd y ?_) (by rw [Bool.and_false])
          have : ¬ ((pre.length + i : Nat) : Int) < (z.length : Int) := by rw [hlen, List.length_nil]; omega
          rw [decide_eq_false this]; exact Bool.false_ne_true
        | cons c t =>
          have hc : tl z = (pre ++ tl s) ++ (c :: t) := by rw [hz, List.append_assoc]
          refine step (at_mid hc (by rw [List.length_append, ei])) (hS c t rfl) ?_
          rw [hlen, List.length_cons]; omega
    · have hlt : i < (tl s).length := of_decide_eq_true hb
      refine ⟨.int ((pre.length + i : Nat) : Int), rfl, ((pre.length + i : Nat) : Int), 1, rfl, rfl, hN ((tl s).length - (i + 1)) _ _ (by omega) ⟨i + 1, hlt, rfl, ?_, e0.trans e'', ok''⟩⟩
      show [some (V.str z), some (V.int (pre.length : Int)), some (V.int (((pre.length + i : Nat) : Int) + 1))] = _
      rw [show ((pre.length + i : Nat) : Int) + 1 = ((pre.length + (i + 1) : Nat) : Int) by push_cast; omega]
    · have hge : ¬ i < (tl s).length := of_decide_eq_false hb
      have ei : i = (tl s).length := by omega
      dsimp only
      refine s_ret ok'' ((ev_slS (ev_vs (i := 0)) (eo_some (ev_vi (i := 1))) (eo_some (ev_vi (i := 2))) (by omega)).is (x' := s) (ext_tl (cut_mid hz rfl (by rw [ei]; push_cast; rfl)))) fun v H3 e3 r => ?_
      cases (show v = .str s from r)
      exact k H3 ((e0.trans e'').trans e3)

abbrev s_leaf_of : Stmt := topS 31
theorem sc_leaf_of : FnScope ["name", "sign", "word"] ["name", "sign", "word"] (defScope s_leaf_of) := ⟨rfl, rfl, rfl, by decide +kernel, rfl, by decide +kernel, by decide +kernel⟩

theorem ok_leaf_of {f : Addr} {fd : FuncData} (F : Fun K "leaf_of" "leaf_of" s_leaf_of f fd) (bt : Bt mg)
    (c_is_worth : Cal P w K mg base 1 "is_worth" ["value"] (sp_is_worth K C))
    (c_is_name : Cal P w K mg base 1 "is_name" ["value"] (sp_is_name K C)) :
    FnOk P w K mg base CX0 2 f fd ["name", "sign", "word"] (sp_leaf_of K C) := by
  refine F.ok sc_leaf_of (fun vs H Q E h => ?_) (fun cdv A outer s H vs Q E hr h => ?_)
  · obtain ⟨W, M, n, z, f, sign, _, _, rfl, _⟩ := h; rfl
  · obtain ⟨W, M, n, z, f, sign, rfl, rfl, rfl, ok, hO, hf, k⟩ := h
    have w1 : ("~" : Str) ≠ "=" := by decide +kernel
    refine ⟨_, (pss_cons (ps_if (PW.pt (pw_and (pt_cmpR op_eq (pv 1) pe_str (nomark _)) (pw_and (pt_val (pe_call c_is_name.ok (by exact hr.mono (by decide)) (by rfl) c_is_name.gl c_is_name.kp c_is_name.b .nil pass0 (pa_cons (pv 0) pa_nil))) (pw_and1 (pt_val (pe_call c_is_worth.ok (by exact hr.mono (by decide)) (by rfl) c_is_worth.gl c_is_worth.kp c_is_worth.b .nil pass0 (pa_cons (pv 2) pa_nil))))))) (pss_one (ps_ret (pe_tup (pa_cons pe_str (pa_cons (pv 0) (pa_cons (pv 2) pa_nil)))))) pss_nil)
      (pss_cons (ps_if (PW.pt (pw_and (pt_cmpR op_eq (pv 1) pe_str (nomark _)) (pw_and (pt_val (pe_call c_is_name.ok (by exact hr.mono (by decide)) (by rfl) c_is_name.gl c_is_name.kp c_is_name.b .nil pass0 (pa_cons (pv 0) pa_nil))) (pw_and1 (pt_val (pe_call c_is_name.ok (by exact hr.mono (by decide)) (by rfl) c_is_name.gl c_is_name.kp c_is_name.b .nil pass0 (pa_cons (pv 2) pa_nil))))))) (pss_one (ps_ret (pe_tup (pa_cons pe_str (pa_cons (pv 0) (pa_cons (pv 2) pa_nil)))))) pss_nil)
      (pss_one (ps_ret pe_non)))), ?_⟩
    rcases hf with ⟨rfl, rfl⟩ | ⟨rfl, rfl⟩
    · refine s_yes ok (Et.is (et_and (et_t (ev_eq (ev_vs (i := 1)) ev_str)) fun _ => et_and (et_b (ev_f1 (f := isName) (x := n) (ev_vs (i := 0)) (name_len hO.1))) fun _ => et_b (ev_f1 (f := isWorth) (x := z) (ev_vs (i := 2)) (worth_len hO.2))) (c := true) (by rw [decide_eq_true rfl, hO.1, hO.2]; rfl)) fun H1 e1 ok1 => ?_
      exact s_ret ok1 (ev_mk3 (.eq n z) (.inl ⟨rfl, rfl⟩) ev_str (ev_vs (i := 0)) (ev_vs (i := 2))) fun v H3 e3 r => k v H3 (e1.trans e3) r
    · refine s_no ok (Et.is (et_and (b := false) (et_t (ev_eq (ev_vs (i := 1)) ev_str)) fun z => absurd z (by rw [decide_eq_false w1]; exact Bool.false_ne_true)) (c := false) (by rw [Bool.and_false])) fun H1 e1 ok1 => ?_
      refine s_yes ok1 (Et.is (et_and (et_t (ev_eq (ev_vs (i := 1)) ev_str)) fun _ => et_and (et_b (ev_f1 (f := isName) (x := n) (ev_vs (i := 0)) (name_len hO.1))) fun _ => et_b (ev_f1 (f := isName) (x := z) (ev_vs (i := 2)) (name_len hO.2))) (c := true) (by rw [decide_eq_true rfl, hO.1, hO.2]; rfl)) fun H2 e2 ok2 => ?_
      exact s_ret ok2 (ev_mk3 (.alike n z) (.inr ⟨rfl, rfl⟩) ev_str (ev_vs (i := 0)) (ev_vs (i := 2))) fun v H3 e3 r => k v H3 ((e1.trans e2).trans e3) r

abbrev s_part_at : Stmt := topS 32
theorem sc_part_at : FnScope ["text", "at", "name", "after", "sign", "word", "leaf", "parts"] ["text", "at"] (defScope s_part_at) := ⟨rfl, rfl, rfl, by decide +kernel, rfl, by decide +kernel, by decide +kernel⟩

theorem ok_part_at (n lv : Nat) (hlv : 2 ≤ lv) {f : Addr} {fd : FuncData} (F : Fun K "part_at" "part_at" s_part_at f fd) (bt : Bt mg)
    (c_word_at : Cal P w K mg base 1 "word_at" ["text", "at"] (sp_word_at K C))
    (c_leaf_of : Cal P w K mg base 2 "leaf_of" ["name", "sign", "word"] (sp_leaf_of K C))
    (c_parts_at : Cal P w K mg base lv "parts_at" ["text", "at", "many"] (sp_parts_at n K C)) :
    FnOk P w K mg base CX0 (lv + 1) f fd ["text", "at"] (sp_part_at (n + 1) K C) := by
  refine F.ok sc_part_at (fun vs H Q E h => ?_) (fun cdv A outer s H vs Q E hr h => ?_)
  · obtain ⟨W, M, z, f, pre, post, _, _, rfl, _⟩ := h; rfl
  · obtain ⟨W, M, z, f, pre, post, rfl, rfl, rfl, ok, hz, hn, hO, hA, hl, k⟩ := h
    rw [f.text_split, List.append_assoc] at hz
    have hlen : z.length = pre.length + ((tl f.nmW).length + (f.rst ++ post).length) := by rw [len_tl, hz, List.length_append, List.length_append]
    have hz2 : tl z = (pre ++ tl f.nmW) ++ (f.rst ++ post) := by rw [hz, List.append_assoc]
    have hal : (pre ++ tl f.nmW).length = pre.length + (tl f.nmW).length := List.length_append
    have htx : (tl f.text).length = (tl f.nmW).length + f.rst.length := by rw [f.text_split, List.length_append]
    have ch : tl ("=" : Str) = [61] ∧ tl ("~" : Str) = [126] ∧ tl ("(" : Str) = [40] ∧ tl (")" : Str) = [41] ∧ tl ("," : Str) = [44] := by decide +kernel
    refine ⟨_, (pss_cons (ps_set (i := 2) sc_part_at.nd rfl (.inl rfl) (pe_call c_word_at.ok (by exact hr.mono (Nat.le_trans (by decide) hlv)) (by rfl) c_word_at.gl c_word_at.kp c_word_at.b .nil pass0 (pa_cons (pv 0) (pa_cons (pv 1) pa_nil))))
      (pss_cons (ps_set (i := 3) sc_part_at.nd rfl (.inl rfl) (pe_op op_add (pv 1) (pe_callB cLenX (by rfl) bt.len_ (by decide +kernel) (pa_cons (pv 2) pa_nil))))
      (pss_cons (ps_set (i := 4) sc_part_at.nd rfl (.inl rfl) (pe_slice sl_str (pv 0) (po_some (pv 3)) (po_some (pe_op op_add (pv 3) pe_int))))
      (pss_cons (ps_if (pt_cmpR (op_inE (by exact u65 hr)) (pv 4) (pe_tup (pa_cons pe_str (pa_cons pe_str pa_nil))) (by rfl)) (pss_cons (ps_set (i := 5) sc_part_at.nd rfl (.inl rfl) (pe_call c_word_at.ok (by exact hr.mono (Nat.le_trans (by decide) hlv)) (by rfl) c_word_at.gl c_word_at.kp c_word_at.b .nil pass0 (pa_cons (pv 0) (pa_cons (pe_op op_add (pv 3) pe_int) pa_nil))))
      (pss_cons (ps_set (i := 6) sc_part_at.nd rfl (.inl rfl) (pe_call c_leaf_of.ok (by exact hr.mono (Nat.le_trans (by decide) hlv)) (by rfl) c_leaf_of.gl c_leaf_of.kp c_leaf_of.b .nil pass0 (pa_cons (pv 2) (pa_cons (pv 4) (pa_cons (pv 5) pa_nil)))))
      (pss_one (ps_ret (pe_ifExp (pt_cmpR op_isN (pv 6) pe_non (nomark _)) pe_non (pe_tup (pa_cons (pv 6) (pa_cons (pe_op op_add (pe_op op_add (pv 3) pe_int) (pe_callB cLenX (by rfl) bt.len_ (by decide +kernel) (pa_cons (pv 5) pa_nil))) pa_nil)))))))) pss_nil)
      (pss_cons (ps_if (pt_cmpR op_ne (pv 4) pe_str (nomark _)) (pss_one (ps_ret (pe_ifExp (pt_cmpR op_eq (pv 2) pe_str (nomark _)) (pe_tup (pa_cons (pe_tup (pa_cons pe_str pa_nil)) (pa_cons (pv 3) pa_nil))) pe_non))) pss_nil)
      (pss_cons (ps_set (i := 7) sc_part_at.nd rfl (.inl rfl) (pe_call c_parts_at.ok (by exact hr.mono (Nat.le_refl _)) (by rfl) c_parts_at.gl c_parts_at.kp c_parts_at.b .nil pass0 (pa_cons (pv 0) (pa_cons (pe_op op_add (pv 3) pe_int) (pa_cons (pe_dget2 (by exact u1 hr) (pe_disp (pps_cons pe_str pe_int (pps_cons pe_str pe_int (pps_cons pe_str pe_int pps_nil))) (by rfl) (by rfl) (fun z => by cases z) (by decide)) (pv 2) pe_int ⟨rfl, rfl, rfl, rfl⟩) pa_nil)))))
      (pss_one (ps_ret (pe_ifExp (pt_cmpR op_isN (pv 7) pe_non (nomark _)) pe_non (pe_tup (pa_cons (pe_tup (pa_cons (pv 2) (pa_star (pe_ix ix_tup (pv 7) pe_int (fun _ _ => rfl)) pa_nil))) (pa_cons (pe_ix ix_tup (pv 7) pe_int (fun _ _ => rfl)) pa_nil)))))))))))), ?_⟩
    refine s_set ok (x := f.nmW) (ev_wordAt (ev_vs (i := 0)) (ev_vi (i := 1)) rfl hz (Fm.nm_ld hO) (Fm.rst_stop hA) hl) fun v2 H1 e1 ok1 r2 => ?_
    cases (show v2 = .str f.nmW from r2)
    refine s_set ok1 (x := ((pre.length + (tl f.nmW).length : Nat) : Int)) ((ev_I0 (g := fun i j : Int => i + j) (ev_vi (i := 1)) (ev_lenX (ev_vs (i := 2)) (by rw [len_tl]; omega))).is (by rw [len_tl]; push_cast; rfl)) fun v3 H2 e2 ok2 r3 => ?_
    cases (show v3 = .int ((pre.length + (tl f.nmW).length : Nat) : Int) from r3)
    refine s_set ok2 (x := cutS z (some ((pre.length + (tl f.nmW).length : Nat) : Int)) (some (((pre.length + (tl f.nmW).length : Nat) : Int) + 1))) (ev_slS (ev_vs (i := 0)) (eo_some (ev_vi (i := 3))) (eo_some (ev_I0 (g := fun i j : Int => i + j) (ev_vi (i := 3)) ev_int)) (by omega)) fun v4 H3 e3 ok3 r4 => ?_
    have hsg : tl (cutS z (some ((pre.length + (tl f.nmW).length : Nat) : Int)) (some (((pre.length + (tl f.nmW).length : Nat) : Int) + 1))) = (f.rst ++ post).take 1 := cut_one hz2 (by rw [hal]) (by rw [hal])
    have e13 := (e1.trans e2).trans e3
    have sgE : ∀ {s : Str} {c : Nat} {t : List Nat}, tl s = [c] → f.rst = c :: t → v4 = .str s := fun {s c t} h1 h2 => by
      rw [show v4 = .str _ from r4]
      congr 1
      refine ext_tl ?_
      rw [hsg, h1, h2]; rfl
    have two : ∀ {σ : L2.St} {H' : Hp}, Ev W M (tTup (tCons (tC (.str "=")) (tCons (tC (.str "~")) tNil))) σ H' (Tup.mk (["=", "~"] : List Str)) := ev_tup (ea_cons ev_str (ea_cons ev_str ea_nil)) (by show 2 ≤ 1000000; decide)
    have hl3 : (([(("not" : Str), (1 : Int)), ("and", 2), ("or", 2)].lookup ("not" : Str)).getD 0) = 1 ∧ (([(("not" : Str), (1 : Int)), ("and", 2), ("or", 2)].lookup ("and" : Str)).getD 0) = 2 ∧ (([(("not" : Str), (1 : Int)), ("and", 2), ("or", 2)].lookup ("or" : Str)).getD 0) = 2 := by decide +kernel
    have hk : (∃ (a y sg : Str) (c : Nat), f.nmW = a ∧ f.rst = c :: tl y ∧ tl sg = [c] ∧ sg ∈ (["=", "~"] : List Str) ∧ Ld (tl y) ∧ (f = .eq a y ∧ sg = "=" ∨ f = .alike a y ∧ sg = "~")) ∨ (f.words = [] ∧ f.parts ≠ [] ∧ f.nmW = f.head ∧ f.rst = 40 :: body f.parts ∧ (([(("not" : Str), (1 : Int)), ("and", 2), ("or", 2)].lookup f.nmW).getD 0) = (f.parts.length : Int)) ∨ f = .all := by
      cases f with
      | eq a y => exact .inl ⟨a, y, "=", 61, rfl, rfl, ch.1, by simp, worth_ld hO.2, .inl ⟨rfl, rfl⟩⟩
      | alike a y => exact .inl ⟨a, y, "~", 126, rfl, rfl, ch.2.1, by simp, name_ld hO.2, .inr ⟨rfl, rfl⟩⟩
      | not g => exact .inr (.inl ⟨rfl, (fun z => nomatch z), rfl, rfl, hl3.1⟩)
      | and g g' => exact .inr (.inl ⟨rfl, (fun z => nomatch z), rfl, rfl, hl3.2.1⟩)
      | or g g' => exact .inr (.inl ⟨rfl, (fun z => nomatch z), rfl, rfl, hl3.2.2⟩)
      | all => exact .inr (.inr rfl)
    rcases hk with ⟨a, y, sg, c, ha, hr, hc, hsg', hL, hf⟩ | ⟨hw, hp, hh, hr, hm⟩ | rfl
    · cases (sgE hc hr)
      have hz3 : tl z = (pre ++ tl f.nmW ++ [c]) ++ (tl y ++ post) := by rw [hz2, hr]; simp
      refine s_yes ok3 (Et.is (et_t (ev_inT (x := sg) (xs := Tup.mk (["=", "~"] : List Str)) (ev_vs (i := 4)) two)) (c := true) (decide_eq_true hsg')) fun H4 e4 ok4 => ?_
      refine s_set ok4 (x := y) (ev_wordAt (ev_vs (i := 0)) (ev_I0 (g := fun i j : Int => i + j) (ev_vi (i := 3)) ev_int) (by rw [List.length_append, hal]; push_cast; rfl) hz3 hL hA.stop hl) fun v5 H5 e5 ok5 r5 => ?_
      cases (show v5 = .str y from r5)
      refine s_set ok5 (x := f) (ev_leafOf (ev_vs (i := 2)) (ev_vs (i := 4)) (ev_vs (i := 5)) hO (by rw [ha]; exact hf)) fun v6 H6 e6 ok6 r6 => ?_
      have hy : y.length ≤ 100000 := by rw [len_tl]; rw [hlen, hr] at hl; simp only [List.cons_append, List.length_cons, List.length_append] at hl; omega
      refine s_ret ok6 ((ev_ifF (et_t (ev_isNoneF (ev_var (i := 6) (x := f) ⟨v6, rfl, r6⟩))) (ev_pair (ev_var (i := 6) (x := f) ⟨v6, rfl, r6⟩) (ev_I0 (g := fun i j : Int => i + j) (ev_I0 (g := fun i j : Int => i + j) (ev_vi (i := 3)) ev_int) (ev_lenX (ev_vs (i := 5)) (by omega))))).is ?_) fun v H7 e7 r => k v H7 ((e13.trans ((e4.trans e5).trans e6)).trans e7) r
      congr 1
      rw [htx, hr, len_tl, List.length_cons]
      push_cast; omega
    · cases (sgE ch.2.2.1 hr)
      have w1 : ("(" : Str) ∉ (["=", "~"] : List Str) := by decide +kernel
      have hz3 : tl z = (pre ++ tl f.nmW ++ [40]) ++ (body f.parts ++ post) := by rw [hz2, hr]; simp
      refine s_no ok3 (Et.is (et_t (ev_inT (x := ("(" : Str)) (xs := Tup.mk (["=", "~"] : List Str)) (ev_vs (i := 4)) two)) (c := false) (decide_eq_false w1)) fun H4 e4 ok4 => ?_
      refine s_no ok4 (Et.is (et_t (ev_ne (x := ("(" : Str)) (y := ("(" : Str)) (ev_vs (i := 4)) ev_str)) (c := false) (by simp)) fun H5 e5 ok5 => ?_
      unfold tNext
      dsimp only
      refine s_set ok5 (x := (f.parts, (((pre ++ tl f.nmW ++ [40]).length + (body f.parts).length : Nat) : Int))) ?_ fun v7 H6 e6 ok6 r7 => ?_
      · refine ev_partsAt (k := n) (n := ((pre.length + (tl f.nmW).length : Nat) : Int) + 1) ?_ ?_ ?_ ?_ hm hz3 hp (by cases f <;> simp [Fm.parts]) (fun g hg => ⟨by have := Fm.parts_dp hg; omega, Fm.parts_ok hO hg⟩) hl
        · exact ev_vs (i := 0)
        · exact ev_I0 (g := fun i j : Int => i + j) (ev_vi (i := 3)) ev_int
        · exact ev_many (ev_vs (i := 2))
        · rw [List.length_append, hal]; push_cast; rfl
      refine s_ret ok6 ((ev_ifF (et_t (ev_isNoneP (ev_var (i := 7) (x := (f.parts, (((pre ++ tl f.nmW ++ [40]).length + (body f.parts).length : Nat) : Int))) ⟨v7, rfl, r7⟩))) (ev_pair (ev_mkParts hw (by rw [← hh]; exact ev_vs (i := 2)) (ev_fst (ev_var (i := 7) (x := (f.parts, (((pre ++ tl f.nmW ++ [40]).length + (body f.parts).length : Nat) : Int))) ⟨v7, rfl, r7⟩))) (ev_snd (ev_var (i := 7) (x := (f.parts, (((pre ++ tl f.nmW ++ [40]).length + (body f.parts).length : Nat) : Int))) ⟨v7, rfl, r7⟩)))).is ?_) fun v H7 e7 r => k v H7 ((e13.trans ((e4.trans e5).trans e6)).trans e7) r
      show (f, _) = _
      congr 2
      rw [htx, hr, List.length_append, hal, List.length_cons]
      simp; omega
    · have hs : cutS z (some ((pre.length + (tl Fm.all.nmW).length : Nat) : Int)) (some (((pre.length + (tl Fm.all.nmW).length : Nat) : Int) + 1)) ∉ (["=", "~", "("] : List Str) := fun hm => by
        have h1 : tl (cutS z (some ((pre.length + (tl Fm.all.nmW).length : Nat) : Int)) (some (((pre.length + (tl Fm.all.nmW).length : Nat) : Int) + 1))) = post.take 1 := hsg
        have h2 : post.take 1 ∈ [[61], [126], [40]] := by
          rw [← h1]
          simp only [List.mem_cons, List.not_mem_nil, or_false] at hm ⊢
          rcases hm with e | e | e
          · exact .inl (by rw [e]; exact ch.1)
          · exact .inr (.inl (by rw [e]; exact ch.2.1))
          · exact .inr (.inr (by rw [e]; exact ch.2.2.1))
        rcases hA with rfl | ⟨c, t, rfl, rfl | rfl⟩ <;> simp at h2
      generalize cutS z (some ((pre.length + (tl Fm.all.nmW).length : Nat) : Int)) (some (((pre.length + (tl Fm.all.nmW).length : Nat) : Int) + 1)) = sg at hs r4
      cases (show v4 = .str sg from r4)
      refine s_no ok3 (Et.is (et_t (ev_inT (x := sg) (xs := Tup.mk (["=", "~"] : List Str)) (ev_vs (i := 4)) two)) (c := false) (decide_eq_false fun hm => hs (by simp only [List.mem_cons, List.not_mem_nil, or_false] at hm ⊢; rcases hm with e | e <;> simp [e]))) fun H4 e4 ok4 => ?_
      refine s_yes ok4 (Et.is (et_t (ev_ne (x := sg) (y := ("(" : Str)) (ev_vs (i := 4)) ev_str)) (c := true) (by rw [decide_eq_false (fun e => hs (by simp [e]))]; rfl)) fun H5 e5 ok5 => ?_
      refine s_ret ok5 ((ev_ifT (Et.is (et_t (ev_eq (x := ("all" : Str)) (y := ("all" : Str)) (ev_vs (i := 2)) ev_str)) (c := true) (by simp)) (ev_pair (ev_mkAll ev_str) (ev_vi (i := 3)))).is ?_) fun v H7 e7 r => k v H7 ((e13.trans (e4.trans e5)).trans e7) r
      congr 2

abbrev s_parts_at : Stmt := topS 33
theorem sc_parts_at : FnScope ["text", "at", "many", "found", "number", "part", "mark"] ["text", "at", "many"] (defScope s_parts_at) := ⟨rfl, rfl, rfl, by decide +kernel, rfl, by decide +kernel, by decide +kernel⟩

theorem ok_parts_at (n lv : Nat) (hlv : 2 ≤ lv) {f : Addr} {fd : FuncData} (F : Fun K "parts_at" "parts_at" s_parts_at f fd) (bt : Bt mg)
    (c_part_at : Cal P w K mg base lv "part_at" ["text", "at"] (sp_part_at n K C)) :
    FnOk P w K mg base CX0 (lv + 1) f fd ["text", "at", "many"] (sp_parts_at n K C) := by
  refine F.ok sc_parts_at (fun vs H Q E h => ?_) (fun cdv A outer s H vs Q E hr h => ?_)
  · obtain ⟨W, M, z, fs, pre, post, _, _, rfl, _⟩ := h; rfl
  · obtain ⟨W, M, z, fs, pre, post, rfl, rfl, rfl, ok, hz, h0, h2, hF, hl, k⟩ := h
    have ch : tl (")" : Str) = [41] ∧ tl (", " : Str) = [44, 32] := by decide +kernel
    have lenz : ∀ {a b c : List Nat}, tl z = a ++ (b ++ c) → a.length + b.length ≤ 100000 := fun {a b c} e => by
      have := congrArg List.length e
      rw [← len_tl, List.length_append, List.length_append] at this
      omega
    refine ⟨_, (pss_cons (ps_set (i := 3) sc_parts_at.nd rfl (.inl rfl) (pe_lst pa_nil))
      (pss_cons (ps_for PassesOwn.never rfl (pi_range1 (by rfl) bt.range_ (pa_cons (pv 2) pa_nil)) (pg_name (i := 4) sc_parts_at.nd rfl (Or.inl rfl))
      (pss_cons (ps_set (i := 5) sc_parts_at.nd rfl (.inl rfl) (pe_call c_part_at.ok (by exact hr.mono (Nat.le_refl _)) (by rfl) c_part_at.gl c_part_at.kp c_part_at.b .nil pass0 (pa_cons (pv 0) (pa_cons (pv 1) pa_nil))))
      (pss_cons (ps_if (pt_cmpR op_isN (pv 5) pe_non (nomark _)) (pss_one (ps_ret pe_non)) pss_nil)
      (pss_cons (ps_expr (pe_bm PySem.F.plainAttrs_list PySem.F.slot_list_append PySem.F.type_list_append mt_append (pv 3) (pa_cons (pe_ix ix_tup (pv 5) pe_int (fun _ _ => rfl)) pa_nil)))
      (pss_cons (ps_set (i := 6) sc_parts_at.nd rfl (.inl rfl) (pe_ifExp (pt_cmpR op_eq (pv 4) (pe_op op_sub (pv 2) pe_int) (nomark _)) pe_str pe_str))
      (pss_cons (ps_set (i := 1) sc_parts_at.nd rfl (.inl rfl) (pe_op op_add (pe_ix ix_tup (pv 5) pe_int (fun _ _ => rfl)) (pe_callB cLenX (by rfl) bt.len_ (by decide +kernel) (pa_cons (pv 6) pa_nil))))
      (pss_one (ps_if (pt_cmpR op_ne (pe_slice sl_str (pv 0) (po_some (pe_ix ix_tup (pv 5) pe_int (fun _ _ => rfl))) (po_some (pv 1))) (pv 6) (nomark _)) (pss_one (ps_ret pe_non)) pss_nil))))))))
      (pss_one (ps_ret (pe_ifExp (pt_cmpR op_gt (pv 2) pe_int (nomark _)) (pe_tup (pa_cons (pv 3) (pa_cons (pv 1) pa_nil))) pe_non))))), ?_⟩
    refine s_new2 (α := Fm) ok (by show 3 < 7; decide) fun p H2 hp e2 l2 ok2 A2 => ?_
    have pm : p ∉ M := ok.new_M hp
    have sub : ∀ a ∈ M, a ∈ p :: M := fun a h => by simp [h]
    refine for_w (W := W) (M := p :: M) ok2 (ei_range (ev_vi (i := 2)) (by omega) (by omega)) (fun i σ' H' => Ex W [] H H' ∧ ∃ (dn td : List Fm) (pre' : List Nat) (o4 o5 o6 : Option V), fs = dn ++ td ∧ dn.length = i ∧ tl z = pre' ++ (body td ++ post) ∧ pre'.length + (body td).length = pre.length + (body fs).length ∧ σ' = [some (.str z), some (.int (pre'.length : Int)), some (.int (fs.length : Int)), some (.ref p), o4, o5, o6] ∧ Acc W (p :: M) σ' H' 3 p dn)
      (fun H' e => ⟨e2.trans e, [], fs, pre, none, none, none, rfl, rfl, hz, rfl, rfl, A2.up e⟩) ?_ ?_
    · rintro i x vx σ' H' hi ⟨e0, dn, td, pre', o4, o5, o6, hfs, hdn, hz', hlen, rfl, A⟩ ok' H'' e'' rx N hN
      have hlt : i < fs.length := by
        have := (List.getElem?_eq_some_iff.mp hi).1
        rw [rng_len] at this
        omega
      have hx : x = (i : Int) := by
        rw [rng_at (by omega)] at hi
        exact (Option.some.inj hi).symm
      subst hx
      cases (show vx = .int (i : Int) from rx)
      obtain ⟨f, t, rfl⟩ : ∃ f t, td = f :: t := by
        cases td with
        | nil => rw [hfs, List.append_nil] at hlt; omega
        | cons f t => exact ⟨f, t, rfl⟩
      have hf := hF f (by rw [hfs]; simp)
      have hlast : ((i : Int) = (fs.length : Int) - 1) ↔ t = [] := by
        rw [hfs, List.length_append, List.length_cons, hdn]
        constructor
        · intro h
          exact List.eq_nil_of_length_eq_zero (by omega)
        · intro h
          rw [h]; simp
      -- the mark behind
      obtain ⟨mk, hmk, hb, hmv⟩ : ∃ mk : Str, After (tl mk ++ (body t ++ post)) ∧ body (f :: t) = tl f.text ++ (tl mk ++ body t) ∧ (if decide ((i : Int) = (fs.length : Int) - 1) = true then (")" : Str) else ", ") = mk := by
        cases t with
        | nil => exact ⟨")", .inr ⟨41, post, by rw [ch.1]; rfl, .inl rfl⟩, by rw [ch.1]; rfl, by rw [if_pos (decide_eq_true (hlast.mpr rfl))]⟩
        | cons g t => exact ⟨", ", .inr ⟨44, 32 :: (body (g :: t) ++ post), by rw [ch.2]; rfl, .inr rfl⟩, by rw [ch.2]; rfl, by rw [if_neg (by rw [decide_eq_false (fun h => nomatch hlast.mp h)]; exact Bool.false_ne_true)]⟩
      have hz1 : tl z = pre' ++ (tl f.text ++ (tl mk ++ (body t ++ post))) := by rw [hz', hb]; simp
      have ok'' := ok'.ex e''
      refine s_set ok'' (x := (f, ((pre'.length + (tl f.text).length : Nat) : Int))) ?_ fun v5 H3 e3 ok3 r5 => ?_
      · exact ev_partAt (k := n) (ev_vs (i := 0)) (ev_vi (i := 1)) rfl hz1 hf.1 hf.2 hmk hl
      refine s_no ok3 (et_t (ev_isNoneP (ev_var (i := 5) (x := (f, ((pre'.length + (tl f.text).length : Nat) : Int))) ⟨v5, rfl, r5⟩))) fun H4 e4 ok4 => ?_
      have A4 := (((A.up e'').setσ (l := 4) (v := .int (i : Int))).set (l := 5) (v := v5) e3).up e4
      refine s_app (N := M) (x := f) ok4 A4 (by omega) (ev_fst (ev_var (i := 5) (x := (f, ((pre'.length + (tl f.text).length : Nat) : Int))) ⟨v5, rfl, r5.up e4⟩)) fun H5 e5 e5' ok5 A5 => ?_
      have e05 : Ex W [] H H5 := e5' H (((e0.trans e'').trans e3).trans e4) ok hp
      have r55 := (r5.up e4).ex e5
      refine s_set ok5 (x := mk) ((ev_ife (et_t (ev_eq (ev_vi (i := 4)) (ev_I0 (g := fun i j : Int => i - j) (ev_vi (i := 2)) ev_int))) (fun _ => ev_str) fun _ => ev_str).is hmv) fun v6 H6 e6 ok6 r6 => ?_
      cases (show v6 = .str mk from r6)
      have hml := lenz (a := pre' ++ tl f.text) (b := tl mk) (c := body t ++ post) (by rw [hz1]; simp)
      rw [List.length_append] at hml
      refine s_set ok6 (x := ((pre'.length + (tl f.text).length + (tl mk).length : Nat) : Int)) ((ev_I0 (g := fun i j : Int => i + j) (ev_snd (ev_var (i := 5) (x := (f, ((pre'.length + (tl f.text).length : Nat) : Int))) ⟨v5, rfl, r55.up e6⟩)) (ev_lenX (ev_vs (i := 6)) (by rw [len_tl]; omega))).is (by rw [len_tl]; push_cast; rfl)) fun v1 H7 e7 ok7 r1 => ?_
      cases (show v1 = .int ((pre'.length + (tl f.text).length + (tl mk).length : Nat) : Int) from r1)
      have e67 := e6.trans e7
      refine s_no ok7 (Et.is (et_t (ev_ne (x := mk) (y := mk) ((ev_slS (ev_vs (i := 0)) (eo_some (ev_snd (ev_var (i := 5) (x := (f, ((pre'.length + (tl f.text).length : Nat) : Int))) ⟨v5, rfl, r55.up e67⟩))) (eo_some (ev_vi (i := 1))) (by omega)).is (ext_tl (cut_mid (pre := pre' ++ tl f.text) (mid := tl mk) (post := body t ++ post) (by rw [hz1]; simp) (by rw [List.length_append]) (by rw [List.length_append]; push_cast; rfl)))) (ev_vs (i := 6)))) (c := false) (by simp)) fun H8 e8 ok8 => ?_
      have e58 := e67.trans e8
      refine hN _ _ ⟨e05.trans e58, dn ++ [f], t, pre' ++ tl f.text ++ tl mk, some (.int (i : Int)), some v5, some (.str mk), by rw [hfs]; simp, by rw [List.length_append, hdn]; rfl, by rw [hz1]; simp, ?_, ?_, ?_⟩ (((e3.trans e4).up.trans e5).trans e58.up)
      · rw [hb] at hlen
        simp only [List.length_append] at hlen ⊢
        omega
      · rw [List.length_append, List.length_append]; rfl
      · exact ((A5.setσ (l := 6) (v := .str mk)).setσ (l := 1) (v := .int ((pre'.length + (tl f.text).length + (tl mk).length : Nat) : Int))).up e58
    · rintro σ' H' ⟨e0, dn, td, pre', o4, o5, o6, hfs, hdn, hz', hlen, rfl, A⟩ ok'
      rw [rng_len, Int.toNat_natCast] at hdn
      have htd : td = [] := List.eq_nil_of_length_eq_zero (by rw [hfs, List.length_append] at hdn; omega)
      subst htd
      rw [List.append_nil] at hfs
      subst hfs
      have hpos : 0 < fs.length := List.length_pos_iff.mpr h0
      dsimp only
      have A' := A.out (M := M) sub pm
      refine s_ret (W := W) (M := M) (ok'.sub sub) ((ev_ifT (Et.is (et_t (ev_B0 (g := fun i j : Int => decide (i > j)) (ev_vi (i := 2)) ev_int)) (c := true) (decide_eq_true (by omega))) (ev_pair (ev_var (i := 3) (x := fs) A') (ev_vi (i := 1)))).is ?_) fun v H7 e7 r => k v H7 (e0.trans e7) r
      congr 1
      have : (body ([] : List Fm)).length = 0 := rfl
      omega

abbrev s_law_form : Stmt := topS 45
theorem sc_law_form : FnScope ["_law_bag_here", "_law_plain", "_law_depth", "_law_choice", "_law_name", "_law_worths"] ["_law_bag_here", "_law_plain", "_law_depth"] (defScope s_law_form) := ⟨rfl, rfl, rfl, by decide +kernel, rfl, by decide +kernel, by decide +kernel⟩

theorem ok_law_form (n lv : Nat) (hlv : 2 ≤ lv) {f : Addr} {fd : FuncData} (F : Fun K "_law_form" "_law_form" s_law_form f fd) (bt : Bt mg)
    (c_law_draw : Cal P w K mg base 1 "_law_draw" ["_law_bag_here", "_law_size"] (sp_law_draw K C))
    (c_law_form : Cal P w K mg base lv "_law_form" ["_law_bag_here", "_law_plain", "_law_depth"] (sp_law_form n K C))
    (c_law_pick_StrListStr : Cal P w K mg base 2 "_law_pick" ["_law_bag_here", "_law_items"] (spPick (Str × (List Str)) K C))
    (c_law_pick_Str : Cal P w K mg base 2 "_law_pick" ["_law_bag_here", "_law_items"] (spPick Str K C)) :
    FnOk P w K mg base CX0 (lv + 1) f fd ["_law_bag_here", "_law_plain", "_law_depth"] (sp_law_form (n + 1) K C) := by
  refine F.ok sc_law_form (fun vs H Q E h => ?_) (fun cdv A outer s H vs Q E hr h => ?_)
  · obtain ⟨W, M, v, u, z, d, _, _, rfl, _⟩ := h; rfl
  · obtain ⟨W, M, v, u, cs, d, rfl, rfl, rfl, ok, r, rd, ⟨hP, hd0, hdn⟩, k⟩ := h
    cases (show u = .int d from rd)
    have hl1 := hP.l1
    have hl3 := hP.l3
    refine ⟨_, (pss_cons (ps_set (i := 3) sc_law_form.nd rfl (.inl rfl) (pe_call c_law_draw.ok (by exact hr.mono (Nat.le_trans (by decide) hlv)) (by rfl) c_law_draw.gl c_law_draw.kp c_law_draw.b .nil pass0 (pa_cons (pv 0) (pa_cons pe_int pa_nil))))
      (pss_cons (ps_if (PW.pt (pw_and (pt_cmpR op_gt (pv 2) pe_int (nomark _)) (pw_and1 (pt_cmpR op_lt (pv 3) pe_int (nomark _))))) (pss_one (ps_ret (pe_tup (pa_cons pe_str (pa_cons (pe_call c_law_form.ok (by exact hr.mono (Nat.le_refl _)) (by rfl) c_law_form.gl c_law_form.kp c_law_form.b .nil pass0 (pa_cons (pv 0) (pa_cons (pv 1) (pa_cons (pe_op op_sub (pv 2) pe_int) pa_nil)))) pa_nil))))) pss_nil)
      (pss_cons (ps_if (PW.pt (pw_and (pt_cmpR op_gt (pv 2) pe_int (nomark _)) (pw_and1 (pt_cmpR op_lt (pv 3) pe_int (nomark _))))) (pss_one (ps_ret (pe_tup (pa_cons (pe_ix ix_list (pe_lst (pa_cons pe_str (pa_cons pe_str pa_nil))) (pe_op op_mod (pv 3) pe_int) (fun _ _ => rfl)) (pa_cons (pe_call c_law_form.ok (by exact hr.mono (Nat.le_refl _)) (by rfl) c_law_form.gl c_law_form.kp c_law_form.b .nil pass0 (pa_cons (pv 0) (pa_cons (pv 1) (pa_cons (pe_op op_sub (pv 2) pe_int) pa_nil)))) (pa_cons (pe_call c_law_form.ok (by exact hr.mono (Nat.le_refl _)) (by rfl) c_law_form.gl c_law_form.kp c_law_form.b .nil pass0 (pa_cons (pv 0) (pa_cons (pv 1) (pa_cons (pe_op op_sub (pv 2) pe_int) pa_nil)))) pa_nil)))))) pss_nil)
      (pss_cons (ps_if (pt_cmpR op_eq (pv 3) pe_int (nomark _)) (pss_one (ps_ret (pe_tup (pa_cons pe_str pa_nil)))) pss_nil)
      (pss_cons (ps_asg (pe_call c_law_pick_StrListStr.ok (by exact hr.mono (Nat.le_trans (by decide) hlv)) (by rfl) c_law_pick_StrListStr.gl c_law_pick_StrListStr.kp c_law_pick_StrListStr.b .nil pass0 (pa_cons (pv 0) (pa_cons (pv 1) pa_nil))) (pg_tup rfl (pgs_cons (pg_name (i := 4) sc_law_form.nd rfl (Or.inl rfl)) (pgs_cons (pg_name (i := 5) sc_law_form.nd rfl (Or.inl rfl)) pgs_nil))))
      (pss_cons (ps_if (pt_cmpR op_eq (pv 3) pe_int (nomark _)) (pss_one (ps_ret (pe_tup (pa_cons pe_str (pa_cons (pv 4) (pa_cons (pe_ix ix_tup (pe_call c_law_pick_StrListStr.ok (by exact hr.mono (Nat.le_trans (by decide) hlv)) (by rfl) c_law_pick_StrListStr.gl c_law_pick_StrListStr.kp c_law_pick_StrListStr.b .nil pass0 (pa_cons (pv 0) (pa_cons (pv 1) pa_nil))) pe_int (fun _ _ => rfl)) pa_nil)))))) pss_nil)
      (pss_one (ps_ret (pe_tup (pa_cons pe_str (pa_cons (pv 4) (pa_cons (pe_call c_law_pick_Str.ok (by exact hr.mono (Nat.le_trans (by decide) hlv)) (by rfl) c_law_pick_Str.gl c_law_pick_Str.kp c_law_pick_Str.b .nil pass0 (pa_cons (pv 0) (pa_cons (pv 5) pa_nil))) pa_nil)))))))))))), ?_⟩
    refine s_setR ok (evr_b1 bsr (ev_int (n := 7)) (by decide)) fun v3 c H1 hc e1 ok1 r3 => ?_
    cases (show v3 = .int c from r3)
    have S1 : ∀ {σ : L2.St} {H'}, σ[1]? = some (some v) → Ex W [] H H' → Ev W M (tVar 1) σ H' cs := fun hs e => ev_var ⟨v, hs, r.up e⟩
    have rec_ : ∀ {σ : L2.St} {H'} {E : XK}, Bs W σ 0 → σ[1]? = some (some v) → σ[2]? = some (some (.int d)) → Ex W [] H H' → 0 < d → EvR W M (tCall (sp_law_form n W.K W.C) [] E (tCons (tVar 0) (tCons (tVar 1) (tCons (tOp (rI0 fun i j => .int (i - j)) (tVar 2) (tC (.int 1))) tNil)))) σ H' (fun f : Fm => f.Suits cs ∧ (f.dp : Int) ≤ d) := fun hb h1 h2 e hd => by
      have h := evr_b2 (M := M) (E := E) (γ := Fm) (pre := fun (cs : List Col) (d : Int) => Plain cs ∧ 0 ≤ d ∧ d < n) (R := fun cs d (f : Fm) => f.Suits cs ∧ (f.dp : Int) ≤ d + 1) (x := cs) (y := d - 1) hb (S1 h1 e) (ev_I0 (g := fun i j : Int => i - j) (ev_vi h2) (ev_int (n := 1))) ⟨hP, by omega, by omega⟩
      exact h.imp fun f hf => ⟨hf.1, by have := hf.2; omega⟩
    have fin : ∀ {t : Fm} {v : V} {H'}, t.Suits cs ∧ (t.dp : Int) ≤ d + 1 → Ex W [] H H' → Rep W M H' v t → Q v H' := fun h e r => k _ _ _ h e r
    refine s_if ok1 (et_and (et_t (ev_B0 (g := fun i j : Int => decide (i > j)) (ev_vi (i := 2)) ev_int)) fun _ => et_t (ev_B0 (g := fun i j : Int => decide (i < j)) (ev_vi (i := 3)) ev_int)) (fun hb H2 e2 ok2 => ?_) fun hb H2 e2 ok2 => ?_
    · have hd : 0 < d := by rw [Bool.and_eq_true, decide_eq_true_eq] at hb; exact hb.1
      have e12 := e1.trans e2
      refine s_retR ok2 (evr_mkNot ev_str (rec_ bsr rfl rfl e12 hd)) fun v f H3 hf e3 r => ?_
      obtain ⟨x, hx, rfl⟩ := hf
      exact fin (t := .not x) ⟨hx.1, by have := hx.2; show (((x.dp + 1 : Nat)) : Int) ≤ d + 1; omega⟩ (e12.trans e3) r
    · have e12 := e1.trans e2
      refine s_if ok2 (et_and (et_t (ev_B0 (g := fun i j : Int => decide (i > j)) (ev_vi (i := 2)) ev_int)) fun _ => et_t (ev_B0 (g := fun i j : Int => decide (i < j)) (ev_vi (i := 3)) ev_int)) (fun hb H3 e3 ok3 => ?_) fun hb H3 e3 ok3 => ?_
      · have hd : 0 < d := by rw [Bool.and_eq_true, decide_eq_true_eq] at hb; exact hb.1
        have e13 := e12.trans e3
        have hat : atI (["and", "or"] : List Str) (c % 2) = some (if decide (c % 2 = 0) = true then ("and" : Str) else ("or" : Str)) := by
          have : c % 2 = 0 ∨ c % 2 = 1 := by omega
          rcases this with e | e <;> rw [e] <;> rfl
        refine s_retR ok3 (evr_mk2 (h := decide (c % 2 = 0)) (ev_ixL (ev_lst (ea_cons ev_str (ea_cons ev_str ea_nil)) (by show 2 ≤ 1000000; decide)) (ev_I (ev_vi (i := 3)) ev_int (by decide)) hat) (rec_ bsr rfl rfl e13 hd) (rec_ bsr rfl rfl e13 hd)) fun v f H4 hf e4 r => ?_
        obtain ⟨x, y, hx, hy, rfl⟩ := hf
        refine fin ?_ (e13.trans e4) r
        have h1 := hx.2
        have h2 := hy.2
        cases decide (c % 2 = 0)
        · exact ⟨⟨hx.1, hy.1⟩, by show ((max x.dp y.dp + 1 : Nat) : Int) ≤ d + 1; omega⟩
        · exact ⟨⟨hx.1, hy.1⟩, by show ((max x.dp y.dp + 1 : Nat) : Int) ≤ d + 1; omega⟩
      · have e13 := e12.trans e3
        refine s_if ok3 (et_t (ev_eq (ev_vi (i := 3)) ev_int)) (fun hb H4 e4 ok4 => ?_) fun hb H4 e4 ok4 => ?_
        · exact s_ret ok4 (x := Fm.all) (ev_mkAll ev_str) fun v H5 e5 r => fin (t := .all) ⟨trivial, by show ((1 : Nat) : Int) ≤ d + 1; omega⟩ ((e13.trans e4).trans e5) r
        · have e14 := e13.trans e4
          refine s_set2R ok4 (evr_b1 bsr (S1 rfl e14) ⟨by omega, by omega⟩) fun v4 v5 col H5 hcol e5 ok5 r4 r5 => ?_
          cases (show v4 = .str col.1 from r4)
          have e15 := e14.trans e5
          have hc1 : col.1 ∈ cs.map Prod.fst := List.mem_map_of_mem (f := Prod.fst) hcol
          have hco := hP.col col hcol
          refine s_if ok5 (et_t (ev_eq (ev_vi (i := 3)) ev_int)) (fun hb H6 e6 ok6 => ?_) fun hb H6 e6 ok6 => ?_
          · refine s_retR ok6 (evr_mk3 (n := col.1) (P := fun z => ∃ ws, (z, ws) ∈ cs) (fun z => Fm.alike col.1 z) (fun z => .inr ⟨rfl, rfl⟩) ev_str (ev_vs (i := 4)) (evr_fst (evr_b1 bsr (S1 rfl (e15.trans e6)) ⟨by omega, by omega⟩))) fun v f H7 hf e7 r => ?_
            obtain ⟨z, ⟨ws, hz⟩, rfl⟩ := hf
            exact fin (t := .alike col.1 z) ⟨⟨hc1, List.mem_map_of_mem (f := Prod.fst) hz⟩, by show ((1 : Nat) : Int) ≤ d + 1; omega⟩ ((e15.trans e6).trans e7) r
          · refine s_retR ok6 (evr_mk3 (n := col.1) (P := fun z => z ∈ col.2) (fun z => Fm.eq col.1 z) (fun z => .inl ⟨rfl, rfl⟩) ev_str (ev_vs (i := 4)) (evr_b1 bsr (ev_var (i := 5) (x := col.2) ⟨v5, rfl, r5.up e6⟩) ⟨hco.l1, by have := hco.l12; omega⟩)) fun v f H7 hf e7 r => ?_
            obtain ⟨z, hz, rfl⟩ := hf
            exact fin (t := .eq col.1 z) ⟨⟨col.2, mem_look hP.nd hcol, hz⟩, by show ((1 : Nat) : Int) ≤ d + 1; omega⟩ ((e15.trans e6).trans e7) r

abbrev s_law_is_true : Stmt := topS 46
theorem sc_law_is_true : FnScope ["_law_plain", "_law_form_here", "_law_kind", "_law_names_here", "_law_places", "_law_parts", "_law_name", "_law_worths", "_law_part"] ["_law_plain", "_law_form_here", "_law_kind"] (defScope s_law_is_true) := ⟨rfl, rfl, rfl, by decide +kernel, rfl, by decide +kernel, by decide +kernel⟩

theorem ok_law_is_true (n lv : Nat) (hlv : 0 ≤ lv) {f : Addr} {fd : FuncData} (F : Fun K "_law_is_true" "_law_is_true" s_law_is_true f fd) (bt : Bt mg)
    (c_law_is_true : Cal P w K mg base lv "_law_is_true" ["_law_plain", "_law_form_here", "_law_kind"] (sp_law_is_true n K C)) :
    FnOk P w K mg base CX0 (lv + 1) f fd ["_law_plain", "_law_form_here", "_law_kind"] (sp_law_is_true (n + 1) K C) := by
  refine F.ok sc_law_is_true (fun vs H Q E h => ?_) (fun cdv A outer s H vs Q E hr h => ?_)
  · obtain ⟨W, M, v, u, w, x, y, z, _, _, rfl, _⟩ := h; rfl
  · obtain ⟨W, M, v, u, w, cs, f, key, rfl, rfl, rfl, ok, r, rf, rk, ⟨hn, hP, hN, hk⟩, k⟩ := h
    have hl3 := hP.l3
    have hkl : (cs.map Prod.fst).length = key.l.length := by rw [List.length_map, kind_len hk]
    have w1 : ("equal" : Str) ≠ "all" ∧ ("alike" : Str) ≠ "all" ∧ ("alike" : Str) ≠ "equal" := by decide +kernel
    have w2 : ("not" : Str) ≠ "all" ∧ ("not" : Str) ≠ "equal" ∧ ("not" : Str) ≠ "alike" := by decide +kernel
    have w3 : ("and" : Str) ≠ "all" ∧ ("and" : Str) ≠ "equal" ∧ ("and" : Str) ≠ "alike" ∧ ("and" : Str) ≠ "not" := by decide +kernel
    have w4 : ("or" : Str) ≠ "all" ∧ ("or" : Str) ≠ "equal" ∧ ("or" : Str) ≠ "alike" ∧ ("or" : Str) ≠ "not" ∧ ("or" : Str) ≠ "and" := by decide +kernel
    refine ⟨_, (pss_cons (ps_setLc (i := 3) (own := [("_law_name", 6), ("_law_worths", 7)]) (g := gPair W.K 6 7) rfl sc_law_is_true.nd rfl rfl (sw_true rfl rfl rfl (by decide +kernel)) (pi_list (pv 0)) (blkOk_by (own := [("_law_name", 6), ("_law_worths", 7)]) (N := ["_law_plain", "_law_form_here", "_law_kind", "_law_names_here", "_law_places", "_law_parts", "_law_name", "_law_worths", "_law_part"]) (sc := defScope s_law_is_true) (by decide +kernel)) (fun _ _ _ _ _ => (pg_tup rfl (pgs_cons (pg_name (i := 6) sc_law_is_true.nd rfl (Or.inl rfl)) (pgs_cons (pg_name (i := 7) sc_law_is_true.nd rfl (Or.inl rfl)) pgs_nil)))) (fun _ _ _ _ _ => pts_nil) (fun _ _ _ _ _ => (pv 6)))
      (pss_cons (ps_if (pt_cmpR op_eq (pe_ix ix_tup (pv 1) pe_int (fun _ _ => rfl)) pe_str (nomark _)) (pss_one (ps_ret pe_bl)) pss_nil)
      (pss_cons (ps_if (pt_cmpR op_eq (pe_ix ix_tup (pv 1) pe_int (fun _ _ => rfl)) pe_str (nomark _)) (pss_one (ps_ret (pe_cmpR op_eq (pe_ix ix_tup (pv 2) (pe_bm PySem.F.plainAttrs_list PySem.F.slot_list_index PySem.F.type_list_index mt_index (pv 3) (pa_cons (pe_ix ix_tup (pv 1) pe_int (fun _ _ => rfl)) pa_nil)) (fun _ _ => rfl)) (pe_ix ix_tup (pv 1) pe_int (fun _ _ => rfl)) (nomark _)))) pss_nil)
      (pss_cons (ps_if (pt_cmpR op_eq (pe_ix ix_tup (pv 1) pe_int (fun _ _ => rfl)) pe_str (nomark _)) (pss_cons (ps_set (i := 4) sc_law_is_true.nd rfl (.inl rfl) (pe_lst (pa_cons (pe_bm PySem.F.plainAttrs_list PySem.F.slot_list_index PySem.F.type_list_index mt_index (pv 3) (pa_cons (pe_ix ix_tup (pv 1) pe_int (fun _ _ => rfl)) pa_nil)) (pa_cons (pe_bm PySem.F.plainAttrs_list PySem.F.slot_list_index PySem.F.type_list_index mt_index (pv 3) (pa_cons (pe_ix ix_tup (pv 1) pe_int (fun _ _ => rfl)) pa_nil)) pa_nil))))
      (pss_one (ps_ret (pe_cmpR op_eq (pe_ix ix_tup (pv 2) (pe_ix ix_list (pv 4) pe_int (fun _ _ => rfl)) (fun _ _ => rfl)) (pe_ix ix_tup (pv 2) (pe_ix ix_list (pv 4) pe_int (fun _ _ => rfl)) (fun _ _ => rfl)) (nomark _))))) pss_nil)
      (pss_cons (ps_setLc (i := 5) (own := [("_law_part", 8)]) (g := gName 8) rfl sc_law_is_true.nd rfl rfl (sw_true rfl rfl rfl (by decide +kernel)) (pi_tup (pe_slice sl_tupA (pv 1) (po_some pe_int) po_none)) (blkOk_by (own := [("_law_part", 8)]) (N := ["_law_plain", "_law_form_here", "_law_kind", "_law_names_here", "_law_places", "_law_parts", "_law_name", "_law_worths", "_law_part"]) (sc := defScope s_law_is_true) (by decide +kernel)) (fun _ _ _ _ _ => (pg_name (i := 8) sc_law_is_true.nd rfl (Or.inl rfl))) (fun _ _ _ _ _ => pts_nil) (fun _ _ _ _ _ => (PE.to (pe_call c_law_is_true.ok (by exact hr.mono (Nat.le_refl _)) (by rfl) c_law_is_true.gl c_law_is_true.kp c_law_is_true.b .nil pass0 (pa_cons (pv 0) (pa_cons (pv 8) (pa_cons (pv 2) pa_nil)))) (by dsimp only [Cx.blk] <;> rfl))))
      (pss_cons (ps_if (pt_cmpR op_eq (pe_ix ix_tup (pv 1) pe_int (fun _ _ => rfl)) pe_str (nomark _)) (pss_one (ps_ret (pe_not (pe_ix ix_list (pv 5) pe_int (fun _ _ => rfl))))) pss_nil)
      (pss_one (ps_ret (pe_ix ix_list (pe_lst (pa_cons (pe_callB (cr_any rfl) (by rfl) bt.any_ (by decide +kernel) (pa_cons (pv 5) pa_nil)) (pa_cons (pe_callB (cr_all rfl) (by rfl) bt.all_ (by decide +kernel) (pa_cons (pv 5) pa_nil)) pa_nil))) (pe_callTy cInt (by rfl) bt.int_ (by decide +kernel) (pa_cons (pe_cmpR op_eq (pe_ix ix_tup (pv 1) pe_int (fun _ _ => rfl)) pe_str (nomark _)) pa_nil)) (fun _ _ => rfl)))))))))), ?_⟩
    refine s_set ok (x := cs.map Prod.fst) (ev_lc2 (f := Prod.fst) (ei_list (ev_var (i := 0) (x := cs) ⟨v, rfl, r⟩)) (by omega) (by decide) (by decide) fun i c v1 v2 M' H' hi l r1 r2 => ev_var ((Sl.here r1 (by rw [wipe_len]; show 6 < 9; decide)).set Ex.refl)) fun v3 H1 e1 ok1 r3 => ?_
    have S0 : ∀ {σ : L2.St} {H'}, σ[0]? = some (some v) → Ex W [] H1 H' → Sl W M σ H' 0 cs := fun hs e => ⟨v, hs, r.up (e1.trans e)⟩
    have S1 : ∀ {σ : L2.St} {H'}, σ[1]? = some (some u) → Ex W [] H1 H' → Sl W M σ H' 1 f := fun hs e => ⟨u, hs, rf.up (e1.trans e)⟩
    have S2 : ∀ {σ : L2.St} {H'}, σ[2]? = some (some w) → Ex W [] H1 H' → Sl W M σ H' 2 key := fun hs e => ⟨w, hs, rk.up (e1.trans e)⟩
    have S3 : ∀ {σ : L2.St} {H'}, σ[3]? = some (some v3) → Ex W [] H1 H' → Sl W M σ H' 3 (cs.map Prod.fst) := fun hs e => ⟨v3, hs, r3.up e⟩
    have look : ∀ a ∈ f.names, ∃ (j : Nat) (z : Str), (cs.map Prod.fst)[j]? = some a ∧ (∀ (m : Nat) (y : Str), m < j → (cs.map Prod.fst)[m]? = some y → y ≠ a) ∧ key.l[j]? = some z ∧ (seen cs key.l).lookup a = some z := fun a ha => zip_look hkl (hN a ha)
    have no : ∀ {t : TS} {t2 : TS} {D : Ends} {H' : Hp} {h : Str} {σ : L2.St}, σ[1]? = some (some u) → f.head ≠ h → Ok W M H' → Ex W [] H1 H' → (∀ H2, Ex W [] H1 H2 → Ok W M H2 → t2 D σ H2) → tIfS (tTest (tOp rEq (tOp (rIxT W.K) (tVar 1) (tC (.int 0))) (tC (.str h)))) t t2 D σ H' := fun hs hh ok' e q =>
      s_no ok' (Et.is (et_t (ev_eq (ev_fm0 (ev_var (S1 hs e))) ev_str)) (c := false) (decide_eq_false hh)) fun H2 e2 ok2 => q H2 (e.trans e2) ok2
    have yes : ∀ {t : TS} {t2 : TS} {D : Ends} {H' : Hp} {h : Str} {σ : L2.St}, σ[1]? = some (some u) → f.head = h → Ok W M H' → Ex W [] H1 H' → (∀ H2, Ex W [] H1 H2 → Ok W M H2 → t D σ H2) → tIfS (tTest (tOp rEq (tOp (rIxT W.K) (tVar 1) (tC (.int 0))) (tC (.str h)))) t t2 D σ H' := fun hs hh ok' e q =>
      s_yes ok' (Et.is (et_t (ev_eq (ev_fm0 (ev_var (S1 hs e))) ev_str)) (c := true) (decide_eq_true hh)) fun H2 e2 ok2 => q H2 (e.trans e2) ok2
    rcases f.kind with ⟨a, z, rfl⟩ | ⟨a, b, rfl⟩ | ⟨hw, h1, h2⟩
    · obtain ⟨j, y, j1, j2, j3, j4⟩ := look a (by simp [Fm.names])
      refine no rfl w1.1 ok1 Ex.refl fun H2 e2 ok2 => ?_
      refine yes rfl rfl ok2 e2 fun H3 e3 ok3 => ?_
      refine s_ret ok3 ((ev_eq (ev_ixT (ev_var (S2 rfl e3)).tk (ev_indexS (ev_var (S3 rfl e3)) (ev_fmW (k := 0) (ev_var (S1 rfl e3)) rfl) j1 j2) (atI_nat j3)) (ev_fmW (k := 1) (ev_var (S1 rfl e3)) rfl)).is ?_) fun v H4 e4 r => k v H4 ((e1.trans e3).trans e4) r
      show _ = decide (((seen cs key.l).lookup a).getD "" = z)
      rw [j4]; rfl
    · obtain ⟨j, y, j1, j2, j3, j4⟩ := look a (by simp [Fm.names])
      obtain ⟨i, x, i1, i2, i3, i4⟩ := look b (by simp [Fm.names])
      refine no rfl w1.2.1 ok1 Ex.refl fun H2 e2 ok2 => ?_
      refine no rfl w1.2.2 ok2 e2 fun H3 e3 ok3 => ?_
      refine yes rfl rfl ok3 e3 fun H4 e4 ok4 => ?_
      refine s_set ok4 (x := [(j : Int), (i : Int)]) (ev_lst (ea_cons (ev_indexS (ev_var (S3 rfl e4)) (ev_fmW (k := 0) (ev_var (S1 rfl e4)) rfl) j1 j2) (ea_cons (ev_indexS (ev_var (S3 rfl e4)) (ev_fmW (k := 1) (ev_var (S1 rfl e4)) rfl) i1 i2) ea_nil)) (by show 2 ≤ 1000000; decide)) fun v4 H5 e5 ok5 r4 => ?_
      have e15 := e4.trans e5
      refine s_ret ok5 ((ev_eq (ev_ixT (ev_var (S2 rfl e15)).tk (ev_ixL (ev_var (i := 4) (x := [(j : Int), (i : Int)]) ⟨v4, rfl, r4⟩) (ev_int (n := 0)) rfl) (atI_nat j3)) (ev_ixT (ev_var (S2 rfl e15)).tk (ev_ixL (ev_var (i := 4) (x := [(j : Int), (i : Int)]) ⟨v4, rfl, r4⟩) (ev_int (n := 1)) rfl) (atI_nat i3))).is ?_) fun v H6 e6 r => k v H6 ((e1.trans e15).trans e6) r
      show _ = decide (((seen cs key.l).lookup a).getD "" = ((seen cs key.l).lookup b).getD "")
      rw [j4, i4]; rfl
    · by_cases h0 : f = .all
      · subst h0
        refine yes rfl rfl ok1 Ex.refl fun H2 e2 ok2 => ?_
        exact s_ret ok2 (x := true) ev_bl fun v H3 e3 r => k v H3 ((e1.trans e2).trans e3) r
      · have hh : f.head ≠ "all" := by
          cases f with
          | all => exact absurd rfl h0
          | eq _ _ => exact w1.1
          | alike _ _ => exact w1.2.1
          | not _ => exact w2.1
          | and _ _ => exact w3.1
          | or _ _ => exact w4.1
        refine no rfl hh ok1 Ex.refl fun H2 e2 ok2 => ?_
        refine no rfl h1 ok2 e2 fun H3 e3 ok3 => ?_
        refine no rfl h2 ok3 e3 fun H4 e4 ok4 => ?_
        have T0 : Sl W M ((L2.start ["_law_plain", "_law_form_here", "_law_kind", "_law_names_here", "_law_places", "_law_parts", "_law_name", "_law_worths", "_law_part"] [v, u, w]).set 3 (some v3)) H4 0 cs := S0 rfl e4
        have T2 : Sl W M ((L2.start ["_law_plain", "_law_form_here", "_law_kind", "_law_names_here", "_law_places", "_law_parts", "_law_name", "_law_worths", "_law_part"] [v, u, w]).set 3 (some v3)) H4 2 key := S2 rfl e4
        unfold tNext
        dsimp only
        refine s_set ok4 (x := f.parts.map fun g : Fm => g.isT (seen cs key.l)) (ev_lc (f := fun g : Fm => g.isT (seen cs key.l)) (ei_tup (ev_fmSl (ev_var (S1 rfl e4)) hw)) (Nat.le_trans (Fm.parts_len f) (by decide)) (by decide) fun i g vg M' H' hi l rg => ev_f3 (f := fun (cs : List Col) (f : Fm) (k : TupK) => f.isT (seen cs k.l)) (ev_var (T0.lc l)) (ev_var (Sl.me rg)) (ev_var (T2.lc l)) ⟨by have := Fm.parts_dp (List.mem_of_getElem? hi); omega, hP, fun m hm => hN m (by rw [Fm.names_parts hw]; exact List.mem_flatMap.mpr ⟨g, List.mem_of_getElem? hi, hm⟩), hk⟩) fun v5 H5 e5 ok5 r5 => ?_
        have e15 := e4.trans e5
        have P5 : ∀ {H'}, Ex W [] H5 H' → Sl W M (((L2.start ["_law_plain", "_law_form_here", "_law_kind", "_law_names_here", "_law_places", "_law_parts", "_law_name", "_law_worths", "_law_part"] [v, u, w]).set 3 (some v3)).set 5 (some v5)) H' 5 (f.parts.map fun g : Fm => g.isT (seen cs key.l)) := fun e => ⟨v5, rfl, r5.up e⟩
        have isN : f.head = "not" ∨ f.head = "and" ∨ f.head = "or" := by
          cases f with
          | all => exact absurd rfl h0
          | eq _ _ => cases hw
          | alike _ _ => cases hw
          | not g => exact .inl rfl
          | and g g' => exact .inr (.inl rfl)
          | or g g' => exact .inr (.inr rfl)
        by_cases hnot : f.head = "not"
        · refine s_yes ok5 (Et.is (et_t (ev_eq (ev_fm0 (ev_var (S1 rfl e15))) ev_str)) (c := true) (decide_eq_true hnot)) fun H6 e6 ok6 => ?_
          obtain ⟨g, rfl⟩ : ∃ g, f = .not g := by
            cases f with
            | all => exact absurd rfl h0
            | eq _ _ => cases hw
            | alike _ _ => cases hw
            | not g => exact ⟨g, rfl⟩
            | and g g' => exact absurd hnot w3.2.2.2
            | or g g' => exact absurd hnot w4.2.2.2.1
          exact s_ret ok6 (ev_not (ev_ixL (ev_var (P5 e6)) (ev_int (n := 0)) (x := g.isT (seen cs key.l)) rfl)) fun v H7 e7 r => k v H7 ((e1.trans (e15.trans e6)).trans e7) r
        · refine s_no ok5 (Et.is (et_t (ev_eq (ev_fm0 (ev_var (S1 rfl e15))) ev_str)) (c := false) (decide_eq_false hnot)) fun H6 e6 ok6 => ?_
          refine s_ret ok6 ((ev_ixL (ev_lst (ea_cons (ev_any (ev_var (P5 e6))) (ea_cons (ev_all (ev_var (P5 e6))) ea_nil)) (by show 2 ≤ 1000000; decide)) (ev_intB (b := decide (f.head = "and")) (ev_eq (ev_fm0 (ev_var (S1 rfl (e15.trans e6)))) ev_str)) (x := if f.head = "and" then (f.parts.map fun g : Fm => g.isT (seen cs key.l)).all id else (f.parts.map fun g : Fm => g.isT (seen cs key.l)).any id) ?_).is ?_) fun v H7 e7 r => k v H7 ((e1.trans (e15.trans e6)).trans e7) r
          · by_cases hand : f.head = "and"
            · rw [decide_eq_true hand, if_pos hand]; rfl
            · rw [decide_eq_false hand, if_neg hand]; rfl
          · cases f with
            | all => exact absurd rfl h0
            | eq _ _ => cases hw
            | alike _ _ => cases hw
            | not g => exact absurd rfl hnot
            | and g g' => rw [if_pos (show (Fm.and g g').head = "and" from rfl)]; simp [Fm.parts, Fm.isT]
            | or g g' => rw [if_neg (show (Fm.or g g').head ≠ "and" from w4.2.2.2.2)]; simp [Fm.parts, Fm.isT]

abbrev s_law_form_text : Stmt := topS 47
theorem sc_law_form_text : FnScope ["_law_form_here", "_law_part"] ["_law_form_here"] (defScope s_law_form_text) := ⟨rfl, rfl, rfl, by decide +kernel, rfl, by decide +kernel, by decide +kernel⟩

theorem ok_law_form_text (n lv : Nat) (hlv : 0 ≤ lv) {f : Addr} {fd : FuncData} (F : Fun K "_law_form_text" "_law_form_text" s_law_form_text f fd) (bt : Bt mg)
    (c_law_form_text : Cal P w K mg base lv "_law_form_text" ["_law_form_here"] (sp_law_form_text n K C)) :
    FnOk P w K mg base CX0 (lv + 1) f fd ["_law_form_here"] (sp_law_form_text (n + 1) K C) := by
  refine F.ok sc_law_form_text (fun vs H Q E h => ?_) (fun cdv A outer s H vs Q E hr h => ?_)
  · obtain ⟨W, M, v, z, _, _, rfl, _⟩ := h; rfl
  · obtain ⟨W, M, v, f, rfl, rfl, rfl, ok, r, ⟨hn, h6, hO⟩, k⟩ := h
    have S0 : ∀ {H'}, Ex W [] H H' → Sl W M (L2.start ["_law_form_here", "_law_part"] [v]) H' 0 f := fun e => ⟨v, rfl, r.up e⟩
    have w1 : ("equal" : Str) ≠ "all" ∧ ("alike" : Str) ≠ "all" ∧ ("alike" : Str) ≠ "equal" := by decide +kernel
    have w2 : ("not" : Str) ≠ "all" ∧ ("and" : Str) ≠ "all" ∧ ("or" : Str) ≠ "all" := by decide +kernel
    have l1 : ("=" : Str).length = 1 ∧ ("~" : Str).length = 1 := by decide +kernel
    refine ⟨_, (pss_cons (ps_if (pt_cmpR op_eq (pe_ix ix_tup (pv 0) pe_int (fun _ _ => rfl)) pe_str (nomark _)) (pss_one (ps_ret pe_str)) pss_nil)
      (pss_cons (ps_if (pt_cmpR op_eq (pe_ix ix_tup (pv 0) pe_int (fun _ _ => rfl)) pe_str (nomark _)) (pss_one (ps_ret (pe_op op_add_str (pe_op op_add_str (pe_ix ix_tup (pv 0) pe_int (fun _ _ => rfl)) pe_str) (pe_ix ix_tup (pv 0) pe_int (fun _ _ => rfl))))) pss_nil)
      (pss_cons (ps_if (pt_cmpR op_eq (pe_ix ix_tup (pv 0) pe_int (fun _ _ => rfl)) pe_str (nomark _)) (pss_one (ps_ret (pe_op op_add_str (pe_op op_add_str (pe_ix ix_tup (pv 0) pe_int (fun _ _ => rfl)) pe_str) (pe_ix ix_tup (pv 0) pe_int (fun _ _ => rfl))))) pss_nil)
      (pss_one (ps_ret (pe_op op_add_str (pe_op op_add_str (pe_op op_add_str (pe_ix ix_tup (pv 0) pe_int (fun _ _ => rfl)) pe_str) (peJoin pe_str (pe_lc (own := [("_law_part", 1)]) (g := gName 1) rfl sc_law_form_text.nd (pi_tup (pe_slice sl_tupA (pv 0) (po_some pe_int) po_none)) (blkOk_by (own := [("_law_part", 1)]) (N := ["_law_form_here", "_law_part"]) (sc := defScope s_law_form_text) (by decide +kernel)) (fun _ _ _ _ _ => (pg_name (i := 1) sc_law_form_text.nd rfl (Or.inl rfl))) (fun _ _ _ _ _ => pts_nil) (fun _ _ _ _ _ => (PE.to (pe_call c_law_form_text.ok (by exact hr.mono (Nat.le_refl _)) (by rfl) c_law_form_text.gl c_law_form_text.kp c_law_form_text.b .nil pass0 (pa_cons (pv 1) pa_nil)) (by dsimp only [Cx.blk] <;> rfl)))))) pe_str)))))), ?_⟩
    rcases f.kind with ⟨a, z, rfl⟩ | ⟨a, b, rfl⟩ | ⟨hw, h1, h2⟩
    · have la := name_len hO.1
      have lz := worth_len hO.2
      refine s_no ok (Et.is (et_t (ev_eq (ev_fm0 (ev_var (S0 Ex.refl))) ev_str)) (c := false) (decide_eq_false w1.1)) fun H1 e1 ok1 => ?_
      refine s_yes ok1 (Et.is (et_t (ev_eq (ev_fm0 (ev_var (S0 e1))) ev_str)) (c := true) (decide_eq_true rfl)) fun H2 e2 ok2 => ?_
      have e12 := e1.trans e2
      exact s_ret ok2 (x := (Fm.eq a z).text) (ev_addS (ev_addS (ev_fmW (k := 0) (ev_var (S0 e12)) rfl) ev_str (by omega)) (ev_fmW (k := 1) (ev_var (S0 e12)) rfl) (by simp only [PySem.Str.length_append]; omega)) fun v H3 e3 r => k v H3 (e12.trans e3) r
    · have la := name_len hO.1
      have lz := name_len hO.2
      refine s_no ok (Et.is (et_t (ev_eq (ev_fm0 (ev_var (S0 Ex.refl))) ev_str)) (c := false) (decide_eq_false w1.2.1)) fun H1 e1 ok1 => ?_
      refine s_no ok1 (Et.is (et_t (ev_eq (ev_fm0 (ev_var (S0 e1))) ev_str)) (c := false) (decide_eq_false w1.2.2)) fun H2 e2 ok2 => ?_
      have e12 := e1.trans e2
      refine s_yes ok2 (Et.is (et_t (ev_eq (ev_fm0 (ev_var (S0 e12))) ev_str)) (c := true) (decide_eq_true rfl)) fun H3 e3 ok3 => ?_
      have e13 := e12.trans e3
      exact s_ret ok3 (x := (Fm.alike a b).text) (ev_addS (ev_addS (ev_fmW (k := 0) (ev_var (S0 e13)) rfl) ev_str (by omega)) (ev_fmW (k := 1) (ev_var (S0 e13)) rfl) (by simp only [PySem.Str.length_append]; omega)) fun v H4 e4 r => k v H4 (e13.trans e4) r
    · by_cases h0 : f = .all
      · subst h0
        refine s_yes ok (Et.is (et_t (ev_eq (ev_fm0 (ev_var (S0 Ex.refl))) ev_str)) (c := true) (decide_eq_true rfl)) fun H1 e1 ok1 => ?_
        exact s_ret ok1 (x := Fm.all.text) ev_str fun v H3 e3 r => k v H3 (e1.trans e3) r
      · have hh : f.head ≠ "all" := by
          cases f with
          | all => exact absurd rfl h0
          | eq _ _ => exact w1.1
          | alike _ _ => exact w1.2.1
          | not _ => exact w2.1
          | and _ _ => exact w2.2.1
          | or _ _ => exact w2.2.2
        have hl3 := Fm.head_len f
        have htl := Fm.text_len hO h6
        refine s_no ok (Et.is (et_t (ev_eq (ev_fm0 (ev_var (S0 Ex.refl))) ev_str)) (c := false) (decide_eq_false hh)) fun H1 e1 ok1 => ?_
        refine s_no ok1 (Et.is (et_t (ev_eq (ev_fm0 (ev_var (S0 e1))) ev_str)) (c := false) (decide_eq_false h1)) fun H2 e2 ok2 => ?_
        have e12 := e1.trans e2
        refine s_no ok2 (Et.is (et_t (ev_eq (ev_fm0 (ev_var (S0 e12))) ev_str)) (c := false) (decide_eq_false h2)) fun H3 e3 ok3 => ?_
        have e13 := e12.trans e3
        have hpt := Fm.text_parts hw h0
        have htot : (f.head ++ "(" ++ Txt.join ", " (f.parts.map Fm.text) ++ ")").length ≤ 2000 := by rw [← hpt]; exact htl
        simp only [PySem.Str.length_append] at htot
        refine s_ret ok3 ((ev_addS (ev_addS (ev_addS (ev_fm0 (ev_var (S0 e13))) ev_str (by omega)) (ev_join (z := ", ") ev_str (ev_lc (f := Fm.text) (ei_tup (ev_fmSl (ev_var (S0 e13)) hw)) (Nat.le_trans (Fm.parts_len f) (by decide)) (by decide) fun i x v M' H' hi l r => ev_f1 (f := Fm.text) (ev_var (Sl.me r)) ⟨by have := Fm.parts_dp (List.mem_of_getElem? hi); omega, by have := Fm.parts_dp (List.mem_of_getElem? hi); omega, Fm.parts_ok hO (List.mem_of_getElem? hi)⟩) (Fm.parts_join hO h6)) (by simp only [PySem.Str.length_append]; show _ + _ + (Txt.join ", " (f.parts.map Fm.text)).length ≤ _; omega)) ev_str (by simp only [PySem.Str.length_append]; show _ + _ + (Txt.join ", " (f.parts.map Fm.text)).length + _ ≤ _; omega)).is hpt.symm) fun v H4 e4 r => k v H4 (e13.trans e4) r

abbrev s_law_built : Stmt := topS 48
theorem sc_law_built : FnScope ["_law_form_here"] ["_law_form_here"] (defScope s_law_built) := ⟨rfl, rfl, rfl, by decide +kernel, rfl, by decide +kernel, by decide +kernel⟩

theorem ok_law_built (n lv : Nat) (hlv : 3 ≤ lv) {f : Addr} {fd : FuncData} (F : Fun K "_law_built" "_law_built" s_law_built f fd) (bt : Bt mg)
    (k_Test_always : CmC P w K mg base 3 (C "Test") "Test" "always" ["cls"] (sp_Test_always K C))
    (k_Test_equal : CmC P w K mg base 3 (C "Test") "Test" "equal" ["cls", "column", "worth"] (sp_Test_equal K C))
    (k_Test_alike : CmC P w K mg base 3 (C "Test") "Test" "alike" ["cls", "column", "other"] (sp_Test_alike K C))
    (v_Test : OwnC P w K mg base 3 (C "Test") "__invert__" ["self"] (sp_Test_invert K C))
    (c_law_built : Cal P w K mg base lv "_law_built" ["_law_form_here"] (sp_law_built n K C))
    (o_Test_and : OwnC P w K mg base 3 (C "Test") (PySem.dunder Operator.BitAnd.info.2) ["self", "other"] (sp_Test_and K C))
    (o_Test_or : OwnC P w K mg base 3 (C "Test") (PySem.dunder Operator.BitOr.info.2) ["self", "other"] (sp_Test_or K C))
    (sf_Test : PySem.W.selfFirst K (C "Test") = true) :
    FnOk P w K mg base CX0 (lv + 1) f fd ["_law_form_here"] (sp_law_built (n + 1) K C) := by
  refine F.ok sc_law_built (fun vs H Q E h => ?_) (fun cdv A outer s H vs Q E hr h => ?_)
  · obtain ⟨W, M, v, z, _, _, rfl, _⟩ := h; rfl
  · obtain ⟨W, M, v, f, rfl, rfl, rfl, ok, r, ⟨hn, hO⟩, k⟩ := h
    have S0 : ∀ {H'}, Ex W [] H H' → Ev W M (tVar 0) (L2.start ["_law_form_here"] [v]) H' f := fun e => ev_var ⟨v, rfl, r.up e⟩
    have w1 : ("equal" : Str) ≠ "all" ∧ ("alike" : Str) ≠ "all" ∧ ("alike" : Str) ≠ "equal" := by decide +kernel
    have w2 : ("not" : Str) ≠ "all" ∧ ("not" : Str) ≠ "equal" ∧ ("not" : Str) ≠ "alike" := by decide +kernel
    have w3 : ("and" : Str) ≠ "all" ∧ ("and" : Str) ≠ "equal" ∧ ("and" : Str) ≠ "alike" ∧ ("and" : Str) ≠ "not" := by decide +kernel
    have w4 : ("or" : Str) ≠ "all" ∧ ("or" : Str) ≠ "equal" ∧ ("or" : Str) ≠ "alike" ∧ ("or" : Str) ≠ "not" ∧ ("or" : Str) ≠ "and" := by decide +kernel
    refine ⟨_, (pss_cons (ps_if (pt_cmpR op_eq (pe_ix ix_tup (pv 0) pe_int (fun _ _ => rfl)) pe_str (nomark _)) (pss_one (ps_ret (pe_cmeth0 (pe_glob (v := .ref (W.C "Test")) rfl k_Test_always.gl rfl) k_Test_always.rd k_Test_always.cm (fnR_of k_Test_always.ok k_Test_always.b) (by exact hr.mono (Nat.le_trans (by decide) hlv)) pass0))) pss_nil)
      (pss_cons (ps_if (pt_cmpR op_eq (pe_ix ix_tup (pv 0) pe_int (fun _ _ => rfl)) pe_str (nomark _)) (pss_one (ps_ret (ClX.pe_cmeth (pe_glob (v := .ref (W.C "Test")) rfl k_Test_equal.gl rfl) k_Test_equal.rd k_Test_equal.cm (fnR_of k_Test_equal.ok k_Test_equal.b) (by exact hr.mono (Nat.le_trans (by decide) hlv)) pass0 (pa_cons (pe_ix ix_tup (pv 0) pe_int (fun _ _ => rfl)) (pa_cons (pe_ix ix_tup (pv 0) pe_int (fun _ _ => rfl)) pa_nil))))) pss_nil)
      (pss_cons (ps_if (pt_cmpR op_eq (pe_ix ix_tup (pv 0) pe_int (fun _ _ => rfl)) pe_str (nomark _)) (pss_one (ps_ret (ClX.pe_cmeth (pe_glob (v := .ref (W.C "Test")) rfl k_Test_alike.gl rfl) k_Test_alike.rd k_Test_alike.cm (fnR_of k_Test_alike.ok k_Test_alike.b) (by exact hr.mono (Nat.le_trans (by decide) hlv)) pass0 (pa_cons (pe_ix ix_tup (pv 0) pe_int (fun _ _ => rfl)) (pa_cons (pe_ix ix_tup (pv 0) pe_int (fun _ _ => rfl)) pa_nil))))) pss_nil)
      (pss_cons (ps_if (pt_cmpR op_eq (pe_ix ix_tup (pv 0) pe_int (fun _ _ => rfl)) pe_str (nomark _)) (pss_one (ps_ret (pe_un (un_invOwn v_Test (by exact hr.mono (Nat.le_trans (by decide) hlv))) (pe_call c_law_built.ok (by exact hr.mono (Nat.le_refl _)) (by rfl) c_law_built.gl c_law_built.kp c_law_built.b .nil pass0 (pa_cons (pe_ix ix_tup (pv 0) pe_int (fun _ _ => rfl)) pa_nil))))) pss_nil)
      (pss_cons (ps_if (pt_cmpR op_eq (pe_ix ix_tup (pv 0) pe_int (fun _ _ => rfl)) pe_str (nomark _)) (pss_one (ps_ret (pe_op (op_binOwn o_Test_and sf_Test (by exact hr.mono (Nat.le_trans (by decide) hlv))) (pe_call c_law_built.ok (by exact hr.mono (Nat.le_refl _)) (by rfl) c_law_built.gl c_law_built.kp c_law_built.b .nil pass0 (pa_cons (pe_ix ix_tup (pv 0) pe_int (fun _ _ => rfl)) pa_nil)) (pe_call c_law_built.ok (by exact hr.mono (Nat.le_refl _)) (by rfl) c_law_built.gl c_law_built.kp c_law_built.b .nil pass0 (pa_cons (pe_ix ix_tup (pv 0) pe_int (fun _ _ => rfl)) pa_nil))))) pss_nil)
      (pss_one (ps_ret (pe_op (op_binOwn o_Test_or sf_Test (by exact hr.mono (Nat.le_trans (by decide) hlv))) (pe_call c_law_built.ok (by exact hr.mono (Nat.le_refl _)) (by rfl) c_law_built.gl c_law_built.kp c_law_built.b .nil pass0 (pa_cons (pe_ix ix_tup (pv 0) pe_int (fun _ _ => rfl)) pa_nil)) (pe_call c_law_built.ok (by exact hr.mono (Nat.le_refl _)) (by rfl) c_law_built.gl c_law_built.kp c_law_built.b .nil pass0 (pa_cons (pe_ix ix_tup (pv 0) pe_int (fun _ _ => rfl)) pa_nil)))))))))), ?_⟩
    have no : ∀ {t : TS} {t2 : TS} {D : Ends} {H' : Hp} {h : Str}, f.head ≠ h → Ok W M H' → Ex W [] H H' → (∀ H2, Ex W [] H H2 → Ok W M H2 → t2 D (L2.start ["_law_form_here"] [v]) H2) → tIfS (tTest (tOp rEq (tOp (rIxT W.K) (tVar 0) (tC (.int 0))) (tC (.str h)))) t t2 D (L2.start ["_law_form_here"] [v]) H' := fun hh ok' e q =>
      s_no ok' (Et.is (et_t (ev_eq (ev_fm0 (S0 e)) ev_str)) (c := false) (decide_eq_false hh)) fun H2 e2 ok2 => q H2 (e.trans e2) ok2
    have yes : ∀ {t : TS} {t2 : TS} {D : Ends} {H' : Hp} {h : Str}, f.head = h → Ok W M H' → Ex W [] H H' → (∀ H2, Ex W [] H H2 → Ok W M H2 → t D (L2.start ["_law_form_here"] [v]) H2) → tIfS (tTest (tOp rEq (tOp (rIxT W.K) (tVar 0) (tC (.int 0))) (tC (.str h)))) t t2 D (L2.start ["_law_form_here"] [v]) H' := fun hh ok' e q =>
      s_yes ok' (Et.is (et_t (ev_eq (ev_fm0 (S0 e)) ev_str)) (c := true) (decide_eq_true hh)) fun H2 e2 ok2 => q H2 (e.trans e2) ok2
    have rec_ : ∀ {g : Fm} {te : TE} {H' : Hp} {E : XK}, g ∈ f.parts → Ev W M te (L2.start ["_law_form_here"] [v]) H' g → Ev W M (tCall (sp_law_built n W.K W.C) [] E (tCons te tNil)) (L2.start ["_law_form_here"] [v]) H' (Tst.mk g) := fun hg hv =>
      ev_f1 (f := Tst.mk) hv ⟨by have := Fm.parts_dp hg; omega, Fm.parts_ok hO hg⟩
    cases f with
    | all =>
      refine yes rfl ok Ex.refl fun H1 e1 ok1 => ?_
      exact s_ret ok1 (x := Tst.mk .all) (fun H2 e2 ok2 Q q => ⟨rfl, W, M, rfl, rfl, rfl, ok2, fun r H3 e3 rr => q r H3 e3 rr⟩) fun v H3 e3 r => k v H3 (e1.trans e3) r
    | eq a z =>
      refine no w1.1 ok Ex.refl fun H1 e1 ok1 => ?_
      refine yes rfl ok1 e1 fun H2 e2 ok2 => ?_
      exact s_ret ok2 (ev_equal (ev_fmW (k := 0) (S0 e2) rfl) (ev_fmW (k := 1) (S0 e2) rfl) hO.1 hO.2) fun v H3 e3 r => k v H3 (e2.trans e3) r
    | alike a b =>
      refine no w1.2.1 ok Ex.refl fun H1 e1 ok1 => ?_
      refine no w1.2.2 ok1 e1 fun H2 e2 ok2 => ?_
      refine yes rfl ok2 e2 fun H3 e3 ok3 => ?_
      exact s_ret ok3 (ev_alikeT (ev_fmW (k := 0) (S0 e3) rfl) (ev_fmW (k := 1) (S0 e3) rfl) hO.1 hO.2) fun v H4 e4 r => k v H4 (e3.trans e4) r
    | not g =>
      refine no w2.1 ok Ex.refl fun H1 e1 ok1 => ?_
      refine no w2.2.1 ok1 e1 fun H2 e2 ok2 => ?_
      refine no w2.2.2 ok2 e2 fun H3 e3 ok3 => ?_
      refine yes rfl ok3 e3 fun H4 e4 ok4 => ?_
      exact s_ret ok4 (ev_invOwn (o := Tst.mk g) (rec_ (by simp [Fm.parts]) (ev_fmP (k := 0) (S0 e4) rfl)) trivial) fun v H5 e5 r => k v H5 (e4.trans e5) r
    | and g g' =>
      refine no w3.1 ok Ex.refl fun H1 e1 ok1 => ?_
      refine no w3.2.1 ok1 e1 fun H2 e2 ok2 => ?_
      refine no w3.2.2.1 ok2 e2 fun H3 e3 ok3 => ?_
      refine no w3.2.2.2 ok3 e3 fun H4 e4 ok4 => ?_
      refine yes rfl ok4 e4 fun H5 e5 ok5 => ?_
      exact s_ret ok5 (ev_binOwn (o := Tst.mk g) (o' := Tst.mk g') (rec_ (by simp [Fm.parts]) (ev_fmP (k := 0) (S0 e5) rfl)) (rec_ (by simp [Fm.parts]) (ev_fmP (k := 1) (S0 e5) rfl)) trivial) fun v H6 e6 r => k v H6 (e5.trans e6) r
    | or g g' =>
      refine no w4.1 ok Ex.refl fun H1 e1 ok1 => ?_
      refine no w4.2.1 ok1 e1 fun H2 e2 ok2 => ?_
      refine no w4.2.2.1 ok2 e2 fun H3 e3 ok3 => ?_
      refine no w4.2.2.2.1 ok3 e3 fun H4 e4 ok4 => ?_
      refine no w4.2.2.2.2 ok4 e4 fun H5 e5 ok5 => ?_
      exact s_ret ok5 (ev_binOwn (o := Tst.mk g) (o' := Tst.mk g') (rec_ (by simp [Fm.parts]) (ev_fmP (k := 0) (S0 e5) rfl)) (rec_ (by simp [Fm.parts]) (ev_fmP (k := 1) (S0 e5) rfl)) trivial) fun v H6 e6 r => k v H6 (e5.trans e6) r

abbrev s_law_made_test : Stmt := topS 49
theorem sc_law_made_test : FnScope ["_law_bag_here", "_law_form_here"] ["_law_bag_here", "_law_form_here"] (defScope s_law_made_test) := ⟨rfl, rfl, rfl, by decide +kernel, rfl, by decide +kernel, by decide +kernel⟩

theorem ok_law_made_test {f : Addr} {fd : FuncData} (F : Fun K "_law_made_test" "_law_made_test" s_law_made_test f fd) (bt : Bt mg)
    (c_law_draw : Cal P w K mg base 1 "_law_draw" ["_law_bag_here", "_law_size"] (sp_law_draw K C))
    (k_Test_read : CmC P w K mg base 15 (C "Test") "Test" "read" ["cls", "text"] (sp_Test_read K C))
    (c_law_form_text : Cal P w K mg base 6 "_law_form_text" ["_law_form_here"] (sp_law_form_text 6 K C))
    (c_law_built : Cal P w K mg base 9 "_law_built" ["_law_form_here"] (sp_law_built 6 K C)) :
    FnOk P w K mg base CX0 16 f fd ["_law_bag_here", "_law_form_here"] (sp_law_made_test K C) := by
  refine F.ok sc_law_made_test (fun vs H Q E h => ?_) (fun cdv A outer s H vs Q E hr h => ?_)
  · obtain ⟨W, M, v, z, _, _, rfl, _⟩ := h; rfl
  · obtain ⟨W, M, v, f, rfl, rfl, rfl, ok, r, ⟨hO, h5⟩, k⟩ := h
    refine ⟨_, (pss_cons (ps_if (pt_cmpR op_eq (pe_call c_law_draw.ok (by exact hr.mono (by decide)) (by rfl) c_law_draw.gl c_law_draw.kp c_law_draw.b .nil pass0 (pa_cons (pv 0) (pa_cons pe_int pa_nil))) pe_int (nomark _)) (pss_one (ps_ret (ClX.pe_cmeth (pe_glob (v := .ref (W.C "Test")) rfl k_Test_read.gl rfl) k_Test_read.rd k_Test_read.cm (fnR_of k_Test_read.ok k_Test_read.b) (by exact hr.mono (by decide)) pass0 (pa_cons (pe_call c_law_form_text.ok (by exact hr.mono (by decide)) (by rfl) c_law_form_text.gl c_law_form_text.kp c_law_form_text.b .nil pass0 (pa_cons (pv 1) pa_nil)) pa_nil)))) pss_nil)
      (pss_one (ps_ret (pe_call c_law_built.ok (by exact hr.mono (by decide)) (by rfl) c_law_built.gl c_law_built.kp c_law_built.b .nil pass0 (pa_cons (pv 1) pa_nil))))), ?_⟩
    refine s_ifEqJ (W := W) (M := M) (J := fun σ' H' => σ' = [some (.ref W.b), some v] ∧ Ex W [] H H' ∧ Ok W M H') ok (evr_b1 bsr (ev_int (n := 3)) (by decide)) ?_ ?_ fun H1 e1 ok1 => ⟨rfl, e1, ok1⟩
    · rintro σ' H' ⟨rfl, e, ok'⟩
      exact s_ret ok' (x := Tst.mk f) (ev_f1 (ev_var (i := 1) (x := f) ⟨v, rfl, r.up e⟩) ⟨by omega, hO⟩) fun v H3 e3 r => k v _ H3 rfl (e.trans e3) r
    · intro hJ H1 e1 ok1
      exact s_ret ok1 (x := Tst.mk f) (ev_testRead (ev_f1 (f := Fm.text) (ev_var (i := 1) (x := f) ⟨v, rfl, r.up e1⟩) ⟨by omega, by omega, hO⟩) hO h5) fun v H3 e3 r => k v _ H3 rfl (e1.trans e3) r

abbrev s_law_names_in : Stmt := topS 50
theorem sc_law_names_in : FnScope ["_law_form_here", "_law_found", "_law_part"] ["_law_form_here"] (defScope s_law_names_in) := ⟨rfl, rfl, rfl, by decide +kernel, rfl, by decide +kernel, by decide +kernel⟩

theorem ok_law_names_in (n lv : Nat) (hlv : 0 ≤ lv) {f : Addr} {fd : FuncData} (F : Fun K "_law_names_in" "_law_names_in" s_law_names_in f fd) (bt : Bt mg)
    (c_law_names_in : Cal P w K mg base lv "_law_names_in" ["_law_form_here"] (sp_law_names_in n K C)) :
    FnOk P w K mg base CX0 (lv + 1) f fd ["_law_form_here"] (sp_law_names_in (n + 1) K C) := by
  refine F.ok sc_law_names_in (fun vs H Q E h => ?_) (fun cdv A outer s H vs Q E hr h => ?_)
  · obtain ⟨W, M, v, z, _, _, rfl, _⟩ := h; rfl
  · obtain ⟨W, M, v, f, rfl, rfl, rfl, ok, r, ⟨hn, h6⟩, k⟩ := h
    have S0 : ∀ {H'}, Ex W [] H H' → Sl W M (L2.start ["_law_form_here", "_law_found", "_law_part"] [v]) H' 0 f := fun e => ⟨v, rfl, r.up e⟩
    have w1 : ("alike" : Str) ≠ "equal" := by decide +kernel
    refine ⟨_, (pss_cons (ps_if (pt_cmpR op_eq (pe_ix ix_tup (pv 0) pe_int (fun _ _ => rfl)) pe_str (nomark _)) (pss_one (ps_ret (pe_lst (pa_cons (pe_ix ix_tup (pv 0) pe_int (fun _ _ => rfl)) pa_nil)))) pss_nil)
      (pss_cons (ps_if (pt_cmpR op_eq (pe_ix ix_tup (pv 0) pe_int (fun _ _ => rfl)) pe_str (nomark _)) (pss_one (ps_ret (pe_lst (pa_cons (pe_ix ix_tup (pv 0) pe_int (fun _ _ => rfl)) (pa_cons (pe_ix ix_tup (pv 0) pe_int (fun _ _ => rfl)) pa_nil))))) pss_nil)
      (pss_cons (ps_set (i := 1) sc_law_names_in.nd rfl (.inl rfl) (pe_lst pa_nil))
      (pss_cons (ps_for PassesOwn.never rfl (pi_tup (pe_slice sl_tupA (pv 0) (po_some pe_int) po_none)) (pg_name (i := 2) sc_law_names_in.nd rfl (Or.inl rfl))
      (pss_one (ps_set (i := 1) sc_law_names_in.nd rfl (.inl rfl) (pe_op op_cat (pv 1) (pe_call c_law_names_in.ok (by exact hr.mono (Nat.le_refl _)) (by rfl) c_law_names_in.gl c_law_names_in.kp c_law_names_in.b .nil pass0 (pa_cons (pv 2) pa_nil))))))
      (pss_one (ps_ret (pv 1))))))), ?_⟩
    rcases f.kind with ⟨a, z, rfl⟩ | ⟨a, b, rfl⟩ | ⟨hw, h1, h2⟩
    · refine s_yes ok (Et.is (et_t (ev_eq (ev_fm0 (ev_var (S0 Ex.refl))) ev_str)) (c := true) (decide_eq_true rfl)) fun H1 e1 ok1 => ?_
      exact s_ret ok1 (ev_lst (xs := [a]) (ea_cons (ev_fmW (k := 0) (ev_var (S0 e1)) rfl) ea_nil) (by show 1 ≤ 1000000; decide)) fun v H3 e3 r => k v H3 (e1.trans e3) r
    · refine s_no ok (Et.is (et_t (ev_eq (ev_fm0 (ev_var (S0 Ex.refl))) ev_str)) (c := false) (decide_eq_false w1)) fun H1 e1 ok1 => ?_
      refine s_yes ok1 (Et.is (et_t (ev_eq (ev_fm0 (ev_var (S0 e1))) ev_str)) (c := true) (decide_eq_true rfl)) fun H2 e2 ok2 => ?_
      have e12 := e1.trans e2
      exact s_ret ok2 (ev_lst (xs := [a, b]) (ea_cons (ev_fmW (k := 0) (ev_var (S0 e12)) rfl) (ea_cons (ev_fmW (k := 1) (ev_var (S0 e12)) rfl) ea_nil)) (by show 2 ≤ 1000000; decide)) fun v H3 e3 r => k v H3 (e12.trans e3) r
    · refine s_no ok (Et.is (et_t (ev_eq (ev_fm0 (ev_var (S0 Ex.refl))) ev_str)) (c := false) (decide_eq_false h1)) fun H1 e1 ok1 => ?_
      refine s_no ok1 (Et.is (et_t (ev_eq (ev_fm0 (ev_var (S0 e1))) ev_str)) (c := false) (decide_eq_false h2)) fun H2 e2 ok2 => ?_
      have e12 := e1.trans e2
      refine s_set ok2 (x := ([] : List Str)) (ev_lst ea_nil (by decide)) fun v1 H3 e3 ok3 r3 => ?_
      have e13 := e12.trans e3
      refine for_w (W := W) (M := M) ok3 (ei_tup (ev_fmSl (ev_var (i := 0) (x := f) ⟨v, rfl, r.up e13⟩) hw)) (fun i σ' H' => Ex W [] H H' ∧ ∃ o1 o2, σ' = [some v, some o1, o2] ∧ Rep W M H' o1 ((f.parts.take i).flatMap Fm.names)) (fun H' e => ⟨e13.trans e, v1, none, rfl, r3.up e⟩) ?_ ?_
      · rintro i g vg σ' H' hi ⟨e0, o1, o2, rfl, r1⟩ ok' H'' e'' rg N hN
        have ok'' := ok'.ex e''
        have hg := List.mem_of_getElem? hi
        have hd := Fm.parts_dp hg
        have hi' : f.parts[i]? = some g := hi
        have hlen : ((f.parts.take i).flatMap Fm.names).length ≤ 1000 := by
          have h3 := names_1000 h6
          rw [Fm.names_parts hw] at h3
          refine Nat.le_trans ?_ h3
          conv => rhs; rw [← List.take_append_drop i f.parts]
          rw [List.flatMap_append, List.length_append]
          omega
        have hlg := names_1000 (f := g) (by omega)
        refine s_set ok'' (ev_cat (ev_var (i := 1) (x := (f.parts.take i).flatMap Fm.names) ⟨o1, rfl, r1.up e''⟩) (ev_f1 (f := Fm.names) (ev_var (i := 2) (x := g) ⟨vg, rfl, rg⟩) ⟨by omega, by omega⟩) (by omega)) fun v4 H4 e4 ok4 r4 => ?_
        refine hN _ _ ⟨(e0.trans e'').trans e4, v4, _, rfl, ?_⟩ e4.up
        rw [List.take_add_one, hi', List.flatMap_append]
        simpa using r4
      · rintro σ' H' ⟨e0, o1, o2, rfl, r1⟩ ok'
        have e : (f.parts.take (Tup.mk f.parts).l.length).flatMap Fm.names = f.names := by
          rw [Fm.names_parts hw]
          show (f.parts.take f.parts.length).flatMap Fm.names = _
          rw [List.take_length]
        rw [e] at r1
        exact s_ret ok' (ev_var (i := 1) (x := f.names) ⟨o1, rfl, r1⟩) fun v H5 e5 r => k v H5 (e0.trans e5) r

abbrev s_law_test_right : Stmt := topS 51
theorem sc_law_test_right : FnScope ["_law_bag_here", "_law_test", "_law_form_here", "_law_menu_here", "_law_plain", "_law_kinds_here", "_law_due", "_law_question", "_law_kind", "_law_told"] ["_law_bag_here", "_law_test", "_law_form_here", "_law_menu_here", "_law_plain"] (defScope s_law_test_right) := ⟨rfl, rfl, rfl, by decide +kernel, rfl, by decide +kernel, by decide +kernel⟩

theorem ok_law_test_right {f : Addr} {fd : FuncData} (F : Fun K "_law_test_right" "_law_test_right" s_law_test_right f fd) (bt : Bt mg)
    (c_law_kinds : Cal P w K mg base 1 "_law_kinds" ["_law_plain"] (sp_law_kinds K C))
    (c_law_is_true : Cal P w K mg base 6 "_law_is_true" ["_law_plain", "_law_form_here", "_law_kind"] (sp_law_is_true 6 K C))
    (c_law_mixed_Int : Cal P w K mg base 2 "_law_mixed" ["_law_bag_here", "_law_items"] (spMixed Int K C))
    (h_Test_on : MetC P w K mg base 9 (C "Test") "on" ["self", "menu"] (sp_Test_on K C))
    (c_kinds_where : Cal P w K mg base 10 "kinds_where" ["menu", "test"] (sp_kinds_where K C))
    (c_law_mixed_TupK : Cal P w K mg base 2 "_law_mixed" ["_law_bag_here", "_law_items"] (spMixed TupK K C))
    (x_Test : OwnC P w K mg base 9 (C "Test") "__call__" ["self", "menu", "kind"] (sp_Test_call K C))
    (h_Test_names : MetC P w K mg base 7 (C "Test") "names" ["self"] (sp_Test_names K C))
    (c_law_names_in : Cal P w K mg base 6 "_law_names_in" ["_law_form_here"] (sp_law_names_in 6 K C))
    (h_Test_text : MetC P w K mg base 7 (C "Test") "text" ["self"] (sp_Test_text K C))
    (c_law_form_text : Cal P w K mg base 6 "_law_form_text" ["_law_form_here"] (sp_law_form_text 6 K C))
    (fk_x_Test : PySem.W.fnIn K x_Test.f = true) :
    FnOk P w K mg base CX0 11 f fd ["_law_bag_here", "_law_test", "_law_form_here", "_law_menu_here", "_law_plain"] (sp_law_test_right K C) := by
  refine F.ok sc_law_test_right (fun vs H Q E h => ?_) (fun cdv A outer s H vs Q E hr h => ?_)
  · obtain ⟨W, M, v, u, w, x, t, f, m, cs, _, _, rfl, _⟩ := h; rfl
  · obtain ⟨W, M, v, u, w, x, t, f, m, cs, rfl, rfl, rfl, ok, r1, r2, r3, r4, ⟨rfl, hm, hF, hS⟩, k⟩ := h
    obtain ⟨mc⟩ := m
    cases (show mc = cs from hm)
    have hk12 : (kinds cs).length ≤ 12 := by have := kinds_prod cs; have := hF.p12; omega
    have hO := hS.ok hF.pl
    have h6 := hF.dp
    have hN := hF.nm
    have km : ∀ key : TupK, key ∈ (kinds cs).map TupK.mk → key.l ∈ kinds cs := fun key hk => by
      obtain ⟨q, hq, e⟩ := List.mem_map.mp hk
      rw [← e]; exact hq
    let due : Tup TupK := Tup.mk ((kindsT ⟨cs⟩).l.filter fun k => f.isT (seen cs k.l))
    refine ⟨_, (pss_cons (ps_set (i := 5) sc_law_test_right.nd rfl (.inl rfl) (pe_call c_law_kinds.ok (by exact hr.mono (by decide)) (by rfl) c_law_kinds.gl c_law_kinds.kp c_law_kinds.b .nil pass0 (pa_cons (pv 4) pa_nil)))
      (pss_cons (ps_set (i := 6) sc_law_test_right.nd rfl (.inl rfl) (pe_callTy cTupOf (by rfl) bt.tuple_ (by decide +kernel) (pa_cons (pe_lc (own := [("_law_kind", 8)]) (g := gName 8) rfl sc_law_test_right.nd (pi_list (pv 5)) (blkOk_by (own := [("_law_kind", 8)]) (N := ["_law_bag_here", "_law_test", "_law_form_here", "_law_menu_here", "_law_plain", "_law_kinds_here", "_law_due", "_law_question", "_law_kind", "_law_told"]) (sc := defScope s_law_test_right) (by decide +kernel)) (fun _ _ _ _ _ => (pg_name (i := 8) sc_law_test_right.nd rfl (Or.inl rfl))) (fun _ _ _ _ _ => (pts_one (PT.to (pt_val (pe_call c_law_is_true.ok (by exact hr.mono (by decide)) (by rfl) c_law_is_true.gl c_law_is_true.kp c_law_is_true.b .nil pass0 (pa_cons (pv 4) (pa_cons (pv 2) (pa_cons (pv 8) pa_nil))))) (by dsimp only [Cx.blk] <;> rfl)))) (fun _ _ _ _ _ => (pv 8))) pa_nil)))
      (pss_cons (ps_for PassesOwn.never rfl (pi_list (pe_call c_law_mixed_Int.ok (by exact hr.mono (by decide)) (by rfl) c_law_mixed_Int.gl c_law_mixed_Int.kp c_law_mixed_Int.b .nil pass0 (pa_cons (pv 0) (pa_cons (pe_lst (pa_cons pe_int (pa_cons pe_int (pa_cons pe_int (pa_cons pe_int (pa_cons pe_int pa_nil)))))) pa_nil)))) (pg_name (i := 7) sc_law_test_right.nd rfl (Or.inl rfl))
      (pss_cons (ps_if (PW.pt (pw_and (pt_cmpR op_eq (pv 7) pe_int (nomark _)) (pw_and1 (pt_cmpR (op_neE (by exact hr.units)) (pe_meth (pv 1) h_Test_on.cl h_Test_on.me h_Test_on.ok (by exact hr.mono (by decide)) h_Test_on.b .nil pass0 (pa_cons (pv 3) pa_nil)) (pv 6) (nomark _))))) (pss_one (ps_ret pe_bl)) pss_nil)
      (pss_cons (ps_if (PW.pt (pw_and (pt_cmpR op_eq (pv 7) pe_int (nomark _)) (pw_and1 (pt_cmpR (op_neE (by exact hr.units)) (pe_call c_kinds_where.ok (by exact hr.mono (by decide)) (by rfl) c_kinds_where.gl c_kinds_where.kp c_kinds_where.b .nil pass0 (pa_cons (pv 3) (pa_cons (pv 1) pa_nil))) (pv 6) (nomark _))))) (pss_one (ps_ret pe_bl)) pss_nil)
      (pss_cons (ps_if (pt_cmpR op_eq (pv 7) pe_int (nomark _)) (pss_one (ps_for PassesOwn.never rfl (pi_list (pe_slice sl_list (pe_call c_law_mixed_TupK.ok (by exact hr.mono (by decide)) (by rfl) c_law_mixed_TupK.gl c_law_mixed_TupK.kp c_law_mixed_TupK.b .nil pass0 (pa_cons (pv 0) (pa_cons (pv 5) pa_nil))) po_none (po_some pe_int))) (pg_name (i := 8) sc_law_test_right.nd rfl (Or.inl rfl))
      (pss_one (ps_if (pt_cmpR op_ne (pe_callO (pv 1) ⟨x_Test.fi, x_Test.fn, fk_x_Test⟩ (fnR_of x_Test.ok x_Test.b) (by exact hr.mono (by decide)) pass0 (pa_cons (pv 3) (pa_cons (pv 8) pa_nil))) (pe_cmpR (op_inE (by exact u65 hr)) (pv 8) (pv 6) (by rfl)) (nomark _)) (pss_one (ps_ret pe_bl)) pss_nil)))) pss_nil)
      (pss_cons (ps_if (pt_cmpR op_eq (pv 7) pe_int (nomark _)) (pss_cons (ps_set (i := 9) sc_law_test_right.nd rfl (.inl rfl) (pe_meth0 (pv 1) h_Test_names.cl h_Test_names.me h_Test_names.ok (by exact hr.mono (by decide)) h_Test_names.b .nil pass0))
      (pss_cons (ps_if (pt_cmpR (op_neE (by exact hr.units)) (pv 9) (pe_sortedSet rfl (by rfl) bt.sorted_ (by rfl) bt.set_ (pe_call c_law_names_in.ok (by exact hr.mono (by decide)) (by rfl) c_law_names_in.gl c_law_names_in.kp c_law_names_in.b .nil pass0 (pa_cons (pv 2) pa_nil))) (nomark _)) (pss_one (ps_ret pe_bl)) pss_nil)
      (pss_one (ps_expr (pe_bm PySem.F.plainAttrs_list PySem.F.slot_list_append PySem.F.type_list_append mt_append (pv 9) (pa_cons pe_str pa_nil)))))) pss_nil)
      (pss_one (ps_if (PW.pt (pw_and (pt_cmpR op_eq (pv 7) pe_int (nomark _)) (pw_and1 (pt_cmpR op_ne (pe_meth0 (pv 1) h_Test_text.cl h_Test_text.me h_Test_text.ok (by exact hr.mono (by decide)) h_Test_text.b .nil pass0) (pe_call c_law_form_text.ok (by exact hr.mono (by decide)) (by rfl) c_law_form_text.gl c_law_form_text.kp c_law_form_text.b .nil pass0 (pa_cons (pv 2) pa_nil)) (nomark _))))) (pss_one (ps_ret pe_bl)) pss_nil)))))))
      (pss_one (ps_ret pe_bl))))), ?_⟩
    refine s_set ok (x := (kinds cs).map TupK.mk) (ev_f1 (ev_var (i := 4) (x := cs) ⟨x, rfl, r4⟩) hF.pl.few) fun v5 H1 e1 ok1 r5 => ?_
    have T2 : Sl W M ((L2.start ["_law_bag_here", "_law_test", "_law_form_here", "_law_menu_here", "_law_plain", "_law_kinds_here", "_law_due", "_law_question", "_law_kind", "_law_told"] [.ref W.b, v, u, w, x]).set 5 (some v5)) H1 2 f := ⟨u, rfl, r2.up e1⟩
    have T4 : Sl W M ((L2.start ["_law_bag_here", "_law_test", "_law_form_here", "_law_menu_here", "_law_plain", "_law_kinds_here", "_law_due", "_law_question", "_law_kind", "_law_told"] [.ref W.b, v, u, w, x]).set 5 (some v5)) H1 4 cs := ⟨x, rfl, r4.up e1⟩
    refine s_set ok1 (x := due) ((ev_tuple (ev_lcf (p := fun k : TupK => f.isT (seen cs k.l)) (f := fun k : TupK => k) (ei_list (ev_var (i := 5) (x := (kinds cs).map TupK.mk) ⟨v5, rfl, r5⟩)) (by rw [List.length_map]; omega) (by decide) (fun i key vk M' H' hi l rk => et_b (ev_f3 (f := fun (cs : List Col) (f : Fm) (k : TupK) => f.isT (seen cs k.l)) (ev_var (T4.lc l)) (ev_var (T2.lc l)) (ev_var (Sl.me rk)) ⟨h6, hF.pl, hN, km key (List.mem_of_getElem? hi)⟩)) fun i key vk M' H' hi hp l rk => ev_var (Sl.me rk))).is (by rw [List.map_id']; rfl)) fun v6 H2 e2 ok2 r6 => ?_
    have e12 := e1.trans e2
    refine for_r ok2 (evr_b1 bsr (ev_lst (xs := [0, 1, 2, 3, (4 : Int)]) (ea_cons ev_int (ea_cons ev_int (ea_cons ev_int (ea_cons ev_int (ea_cons ev_int ea_nil))))) (by decide)) (by decide)) fun qs vq H3 hqs e3 ok3 rq => ?_
    refine for_w ok3 (ei_list (ev_val rq)) (fun i σ' H' => Ex W [] H2 H' ∧ ∃ o7 o8 o9, σ' = [some (.ref W.b), some v, some u, some w, some x, some v5, some v6, o7, o8, o9]) (fun H' e => ⟨e3.trans e, none, none, none, rfl⟩) ?_ ?_
    · rintro i q vq' σ' H' hi ⟨e0, o7, o8, o9, rfl⟩ ok' H'' e'' rq' N hN'
      have ok'' := ok'.ex e''
      cases (show vq' = .int q from rq')
      have ee := e0.trans e''
      have S1 : ∀ {σ : L2.St} {H'}, σ[1]? = some (some v) → Ex W [] H2 H' → Ev W M (tVar 1) σ H' (Tst.mk f) := fun hs e => ev_var ⟨v, hs, r1.up (e12.trans e)⟩
      have S3 : ∀ {σ : L2.St} {H'}, σ[3]? = some (some w) → Ex W [] H2 H' → Ev W M (tVar 3) σ H' (Menu.mk cs) := fun hs e => ev_var ⟨w, hs, r3.up (e12.trans e)⟩
      have S2 : ∀ {σ : L2.St} {H'}, σ[2]? = some (some u) → Ex W [] H2 H' → Ev W M (tVar 2) σ H' f := fun hs e => ev_var ⟨u, hs, r2.up (e12.trans e)⟩
      have S6 : ∀ {σ : L2.St} {H'}, σ[6]? = some (some v6) → Ex W [] H2 H' → Ev W M (tVar 6) σ H' due := fun hs e => ev_var ⟨v6, hs, r6.up e⟩
      refine s_no ok'' (Et.is (et_and (et_t (ev_eq (ev_vi (i := 7) (n := q)) ev_int)) fun _ => et_t (ev_neD (x := due) (ev_m1 (o := Tst.mk f) (x := Menu.mk cs) (f := fun (t : Tst) (m : Menu) => Tup.mk ((kindsT m).l.filter fun k => t.f.isT (seen m.cols k.l))) (S1 rfl ee) (S3 rfl ee) hF (by decide +kernel)) (S6 rfl ee))) (c := false) (by simp)) fun H4 e4 ok4 => ?_
      have e24 := ee.trans e4
      refine s_no ok4 (Et.is (et_and (et_t (ev_eq (ev_vi (i := 7) (n := q)) ev_int)) fun _ => et_t (ev_neD (x := due) (ev_f2 (f := fun (m : Menu) (t : Tst) => Tup.mk ((kindsT m).l.filter fun k => t.f.isT (seen m.cols k.l))) (S3 rfl e24) (S1 rfl e24) ⟨hF, hS⟩) (S6 rfl e24))) (c := false) (by simp)) fun H5 e5 ok5 => ?_
      have e25 := e24.trans e5
      refine s_ifc (J := fun σ' H' => (∃ o8, σ' = [some (.ref W.b), some v, some u, some w, some x, some v5, some v6, some (.int q), o8, o9]) ∧ Ex W [] H5 H' ∧ Ok W M H') ok5 (et_t (ev_eq (ev_vi (i := 7) (n := q)) ev_int)) ?_ ?_ (fun _ H6 e6 ok6 => ⟨⟨o8, rfl⟩, e6, ok6⟩)
      · rintro σ6 H6 ⟨⟨o8', rfl⟩, e6, ok6⟩
        have e26 := e25.trans e6
        refine s_ifc (J := fun σ' H' => (∃ o9, σ' = [some (.ref W.b), some v, some u, some w, some x, some v5, some v6, some (.int q), o8', o9]) ∧ Ex W [] H6 H' ∧ Ok W M H') ok6 (et_t (ev_eq (ev_vi (i := 7) (n := q)) ev_int)) ?_ ?_ (fun _ H7 e7 ok7 => ⟨⟨o9, rfl⟩, e7, ok7⟩)
        · rintro σ7 H7 ⟨⟨o9', rfl⟩, e7, ok7⟩
          have e27 := e26.trans e7
          refine s_no ok7 (Et.is (et_and (et_t (ev_eq (ev_vi (i := 7) (n := q)) ev_int)) fun _ => et_t (ev_ne (ev_m0 (o := Tst.mk f) (f := fun t : Tst => t.f.text) (S1 rfl e27) ⟨hO, h6⟩ (by decide +kernel)) (ev_f1 (f := Fm.text) (S2 rfl e27) ⟨h6, h6, hO⟩))) (c := false) (by simp)) fun H8 e8 ok8 => ?_
          exact hN' _ _ ⟨(e27.trans e8), _, _, _, rfl⟩ ((((e4.trans e5).trans e6).trans e7).trans e8).up
        · intro hJ hb' H7 e7 ok7
          have e27 := e26.trans e7
          refine s_setNR ok7 (evn_m0R (o := Tst.mk f) (S1 rfl e27) ⟨h6, hF.few⟩ (by decide +kernel)) fun p ys H8 hys hp e8 ok8 r9 => ?_
          have e28 := e27.trans e8
          refine s_no ok8 (Et.is (et_t (ev_neD (x := ys) (ev_var (i := 9) ⟨.ref p, rfl, r9⟩) ((evr_sortedSet (ev_f1 (f := Fm.names) (S2 rfl e28) ⟨h6, h6⟩) (names_1000 h6) hF.few).ev fun zs hzs => sorted_one hzs hys))) (c := false) (by simp)) fun H9 e9 ok9 => ?_
          have hyl : ys.length ≤ 1000 := by have h1 : ys.length = (firsts f.names).length := hys.1.length_eq; have h2 := hF.few; omega
          refine s_appN ok7 hp (e8.trans e9) ok9 rfl (r9.up e9) hyl ev_str fun H10 e10 ok10 => ?_
          exact hJ _ _ ⟨⟨_, rfl⟩, e7.trans e10, ok10⟩
      · intro hJ hb' H6 e6 ok6
        have e26 := e25.trans e6
        refine for_r ok6 (evr_slTo (evr_b1 bsr (ev_var (i := 5) (x := (kinds cs).map TupK.mk) ⟨v5, rfl, r5.up (e2.trans e26)⟩) (by show ((kinds cs).map TupK.mk).length ≤ 1000; rw [List.length_map]; omega))) fun ks vk H7 hks e7 ok7 rk => ?_
        obtain ⟨ks0, hp, rfl⟩ := hks
        have e27 := e26.trans e7
        refine for_w ok7 (ei_list (ev_val rk)) (fun i σ' H' => Ex W [] H7 H' ∧ ∃ o8, σ' = [some (.ref W.b), some v, some u, some w, some x, some v5, some v6, some (.int q), o8, o9]) (fun H' e => ⟨e, o8, rfl⟩) ?_ ?_
        · rintro j key vkey σ7 H8 hj ⟨e8, o8', rfl⟩ ok8 H9 e9 rkey N2 hN2
          have ok9 := ok8.ex e9
          have e29 := (e27.trans e8).trans e9
          have hkey : key ∈ (kinds cs).map TupK.mk := hp.mem_iff.mp (List.mem_of_mem_take (by have := List.mem_of_getElem? hj; rwa [cutG_to (by decide)] at this))
          refine s_no ok9 (Et.is (et_t (ev_ne (ev_callOwn (o := Tst.mk f) (x := Menu.mk cs) (y := key) (f := fun (t : Tst) (m : Menu) (k : TupK) => t.f.isT (seen m.cols k.l)) (S1 rfl e29) (S3 rfl e29) (ev_var (i := 8) ⟨vkey, rfl, rkey⟩) ⟨hF, km key hkey⟩) (ev_inT (x := key) (xs := due) (ev_var (i := 8) ⟨vkey, rfl, rkey⟩) (S6 rfl e29)))) (c := false) ?_) fun H10 e10 ok10 => hN2 _ _ ⟨(e8.trans e9).trans e10, _, rfl⟩ e10.up
          have : decide (key ∈ due.l) = f.isT (seen cs key.l) := by
            show decide (key ∈ (kindsT ⟨cs⟩).l.filter fun k => f.isT (seen cs k.l)) = _
            have hm : key ∈ (kindsT ⟨cs⟩).l := hkey
            simp [List.mem_filter, hm]
          rw [this]; simp
        · rintro σ7 H8 ⟨e8, o8', rfl⟩ ok8
          exact hJ _ _ ⟨⟨_, rfl⟩, (e6.trans e7).trans e8, ok8⟩
    · rintro σ' H' ⟨e0, o7, o8, o9, rfl⟩ ok'
      dsimp only
      refine s_ret ok' (x := true) ev_bl fun v H13 e13 r => ?_
      exact k v true H13 rfl (e12.trans (e0.trans e13)) r

abbrev s_law : Stmt := topS 52
theorem sc_law : FnScope ["_law_script", "_law_bag_here", "_law_plain", "_law_menu_here", "_law_forms", "_law_tests", "_law_turn", "_law_again", "_law_joined", "_law_due", "_law_k", "_law_swapped", "_law_absent", "_law_form_here", "_law_name", "_law_worths"] ["_law_script"] (defScope s_law) := ⟨rfl, rfl, rfl, by decide +kernel, rfl, by decide +kernel, by decide +kernel⟩

theorem ok_law {f : Addr} {fd : FuncData} (F : Fun K "law" "law" s_law f fd) (bt : Bt mg)
    (c_law_bag : Cal P w K mg base 1 "_law_bag" ["_law_script"] (sp_law_bag K C))
    (c_law_menu : Cal P w K mg base 3 "_law_menu" ["_law_bag_here", "_law_most"] (sp_law_menu K C))
    (c_law_made_menu : Cal P w K mg base 7 "_law_made_menu" ["_law_plain"] (sp_law_made_menu K C))
    (c_law_form : Cal P w K mg base 8 "_law_form" ["_law_bag_here", "_law_plain", "_law_depth"] (sp_law_form 6 K C))
    (c_law_draw : Cal P w K mg base 1 "_law_draw" ["_law_bag_here", "_law_size"] (sp_law_draw K C))
    (c_law_made_test : Cal P w K mg base 16 "_law_made_test" ["_law_bag_here", "_law_form_here"] (sp_law_made_test K C))
    (c_law_test_right : Cal P w K mg base 11 "_law_test_right" ["_law_bag_here", "_law_test", "_law_form_here", "_law_menu_here", "_law_plain"] (sp_law_test_right K C))
    (k_Test_read : CmC P w K mg base 15 (C "Test") "Test" "read" ["cls", "text"] (sp_Test_read K C))
    (h_Test_text : MetC P w K mg base 7 (C "Test") "text" ["self"] (sp_Test_text K C))
    (h_Test_same : MetC P w K mg base 1 (C "Test") "same" ["self", "other"] (sp_Test_same K C))
    (o_Test_and : OwnC P w K mg base 3 (C "Test") (PySem.dunder Operator.BitAnd.info.2) ["self", "other"] (sp_Test_and K C))
    (v_Test : OwnC P w K mg base 3 (C "Test") "__invert__" ["self"] (sp_Test_invert K C))
    (o_Test_or : OwnC P w K mg base 3 (C "Test") (PySem.dunder Operator.BitOr.info.2) ["self", "other"] (sp_Test_or K C))
    (c_law_mixed_Int : Cal P w K mg base 2 "_law_mixed" ["_law_bag_here", "_law_items"] (spMixed Int K C))
    (m_Menu : MakC P w K mg base 4 (C "Menu") "Menu" ["self", "columns"] (sp_Menu_init K C))
    (k_Test_equal : CmC P w K mg base 3 (C "Test") "Test" "equal" ["cls", "column", "worth"] (sp_Test_equal K C))
    (x_Test : OwnC P w K mg base 9 (C "Test") "__call__" ["self", "menu", "kind"] (sp_Test_call K C))
    (p_Menu_kinds : PropC P w K mg base 1 (C "Menu") "kinds" (sp_Menu_kinds K C))
    (h_Test_on : MetC P w K mg base 9 (C "Test") "on" ["self", "menu"] (sp_Test_on K C))
    (sf_Test : PySem.W.selfFirst K (C "Test") = true)
    (fk_x_Test : PySem.W.fnIn K x_Test.f = true) :
    FnOk P w K mg base CX0 17 f fd ["_law_script"] (sp_law K C) := by
  refine F.ok sc_law (fun vs H Q E h => ?_) (fun cdv A outer s H vs Q E hr h => ?_)
  · obtain ⟨a, ns, rfl, _⟩ := h; rfl
  · obtain ⟨a, ns, rfl, hS, hlen, k⟩ := h
    refine ⟨_, (pss_cons (ps_set (i := 1) sc_law.nd rfl (.inr rfl) (pe_call c_law_bag.ok (by exact hr.mono (by decide)) (by rfl) c_law_bag.gl c_law_bag.kp c_law_bag.b .nil pass0 (pa_cons (pv 0) pa_nil)))
      (pss_cons (ps_set (i := 2) sc_law.nd rfl (.inl rfl) (pe_call c_law_menu.ok (by exact hr.mono (by decide)) (by rfl) c_law_menu.gl c_law_menu.kp c_law_menu.b .nil pass0 (pa_cons (pv 1) (pa_cons pe_int pa_nil))))
      (pss_cons (ps_set (i := 3) sc_law.nd rfl (.inl rfl) (pe_call c_law_made_menu.ok (by exact hr.mono (by decide)) (by rfl) c_law_made_menu.gl c_law_made_menu.kp c_law_made_menu.b .nil pass0 (pa_cons (pv 2) pa_nil)))
      (pss_cons (ps_set (i := 4) sc_law.nd rfl (.inl rfl) (pe_lst (pa_cons (pe_call c_law_form.ok (by exact hr.mono (by decide)) (by rfl) c_law_form.gl c_law_form.kp c_law_form.b .nil pass0 (pa_cons (pv 1) (pa_cons (pv 2) (pa_cons (pe_op op_add pe_int (pe_call c_law_draw.ok (by exact hr.mono (by decide)) (by rfl) c_law_draw.gl c_law_draw.kp c_law_draw.b .nil pass0 (pa_cons (pv 1) (pa_cons pe_int pa_nil)))) pa_nil)))) (pa_cons (pe_call c_law_form.ok (by exact hr.mono (by decide)) (by rfl) c_law_form.gl c_law_form.kp c_law_form.b .nil pass0 (pa_cons (pv 1) (pa_cons (pv 2) (pa_cons pe_int pa_nil)))) pa_nil))))
      (pss_cons (ps_setLc (i := 5) (own := [("_law_form_here", 13)]) (g := gName 13) rfl sc_law.nd rfl rfl (sw_true rfl rfl rfl (by decide +kernel)) (pi_list (pv 4)) (blkOk_by (own := [("_law_form_here", 13)]) (N := ["_law_script", "_law_bag_here", "_law_plain", "_law_menu_here", "_law_forms", "_law_tests", "_law_turn", "_law_again", "_law_joined", "_law_due", "_law_k", "_law_swapped", "_law_absent", "_law_form_here", "_law_name", "_law_worths"]) (sc := defScope s_law) (by decide +kernel)) (fun _ _ _ _ _ => (pg_name (i := 13) sc_law.nd rfl (Or.inl rfl))) (fun _ _ _ _ _ => pts_nil) (fun _ _ _ _ _ => (PE.to (pe_call c_law_made_test.ok (by exact hr.mono (by decide)) (by rfl) c_law_made_test.gl c_law_made_test.kp c_law_made_test.b .nil pass0 (pa_cons (pv 1) (pa_cons (pv 13) pa_nil))) (by dsimp only [Cx.blk] <;> rfl))))
      (pss_cons (ps_for PassesOwn.never rfl (pi_list (pe_lst (pa_cons pe_int (pa_cons pe_int (pa_cons pe_int pa_nil))))) (pg_name (i := 6) sc_law.nd rfl (Or.inl rfl))
      (pss_cons (ps_if (pt_not (pt_val (pe_call c_law_test_right.ok (by exact hr.mono (by decide)) (by rfl) c_law_test_right.gl c_law_test_right.kp c_law_test_right.b .nil pass0 (pa_cons (pv 1) (pa_cons (pe_ix ix_list (pv 5) (pv 6) (fun _ _ => rfl)) (pa_cons (pe_ix ix_list (pv 4) (pv 6) (fun _ _ => rfl)) (pa_cons (pv 3) (pa_cons (pv 2) pa_nil)))))))) (pss_one (ps_ret pe_bl)) pss_nil)
      (pss_cons (ps_set (i := 7) sc_law.nd rfl (.inl rfl) (ClX.pe_cmeth (pe_glob (v := .ref (C "Test")) rfl k_Test_read.gl rfl) k_Test_read.rd k_Test_read.cm (fnR_of k_Test_read.ok k_Test_read.b) (by exact hr.mono (by decide)) pass0 (pa_cons (pe_meth0 (pe_ix ix_list (pv 5) (pv 6) (fun _ _ => rfl)) h_Test_text.cl h_Test_text.me h_Test_text.ok (by exact hr.mono (by decide)) h_Test_text.b .nil pass0) pa_nil)))
      (pss_one (ps_if (PW.pt (pw_or (pt_not (pt_val (pe_meth (pv 7) h_Test_same.cl h_Test_same.me h_Test_same.ok (by exact hr.mono (by decide)) h_Test_same.b .nil pass0 (pa_cons (pe_ix ix_list (pv 5) (pv 6) (fun _ _ => rfl)) pa_nil)))) (pw_or1 (pt_not (pt_val (pe_call c_law_test_right.ok (by exact hr.mono (by decide)) (by rfl) c_law_test_right.gl c_law_test_right.kp c_law_test_right.b .nil pass0 (pa_cons (pv 1) (pa_cons (pv 7) (pa_cons (pe_ix ix_list (pv 4) (pv 6) (fun _ _ => rfl)) (pa_cons (pv 3) (pa_cons (pv 2) pa_nil))))))))))) (pss_one (ps_ret pe_bl)) pss_nil)))))
      (pss_cons (ps_set (i := 8) sc_law.nd rfl (.inl rfl) (pe_lst (pa_cons (pe_op (op_binOwn o_Test_and sf_Test (by exact hr.mono (by decide))) (pe_ix ix_list (pv 5) pe_int (fun _ _ => rfl)) (pe_ix ix_list (pv 5) pe_int (fun _ _ => rfl))) (pa_cons (pe_op (op_binOwn o_Test_or sf_Test (by exact hr.mono (by decide))) (pe_ix ix_list (pv 5) pe_int (fun _ _ => rfl)) (pe_ix ix_list (pv 5) pe_int (fun _ _ => rfl))) (pa_cons (pe_un (un_invOwn v_Test (by exact hr.mono (by decide))) (pe_ix ix_list (pv 5) pe_int (fun _ _ => rfl))) (pa_cons (pe_op (op_binOwn o_Test_and sf_Test (by exact hr.mono (by decide))) (pe_ix ix_list (pv 5) pe_int (fun _ _ => rfl)) (pe_ix ix_list (pv 5) pe_int (fun _ _ => rfl))) pa_nil))))))
      (pss_cons (ps_set (i := 9) sc_law.nd rfl (.inl rfl) (pe_lst (pa_cons (pe_tup (pa_cons pe_str (pa_cons (pe_ix ix_list (pv 4) pe_int (fun _ _ => rfl)) (pa_cons (pe_ix ix_list (pv 4) pe_int (fun _ _ => rfl)) pa_nil)))) (pa_cons (pe_tup (pa_cons pe_str (pa_cons (pe_ix ix_list (pv 4) pe_int (fun _ _ => rfl)) (pa_cons (pe_ix ix_list (pv 4) pe_int (fun _ _ => rfl)) pa_nil)))) (pa_cons (pe_tup (pa_cons pe_str (pa_cons (pe_ix ix_list (pv 4) pe_int (fun _ _ => rfl)) pa_nil))) (pa_cons (pe_tup (pa_cons pe_str (pa_cons (pe_ix ix_list (pv 4) pe_int (fun _ _ => rfl)) (pa_cons (pe_ix ix_list (pv 4) pe_int (fun _ _ => rfl)) pa_nil)))) pa_nil))))))
      (pss_cons (ps_for PassesOwn.never rfl (pi_list (pe_call c_law_mixed_Int.ok (by exact hr.mono (by decide)) (by rfl) c_law_mixed_Int.gl c_law_mixed_Int.kp c_law_mixed_Int.b .nil pass0 (pa_cons (pv 1) (pa_cons (pe_lst (pa_cons pe_int (pa_cons pe_int (pa_cons pe_int (pa_cons pe_int pa_nil))))) pa_nil)))) (pg_name (i := 10) sc_law.nd rfl (Or.inl rfl))
      (pss_one (ps_if (pt_not (pt_val (pe_call c_law_test_right.ok (by exact hr.mono (by decide)) (by rfl) c_law_test_right.gl c_law_test_right.kp c_law_test_right.b .nil pass0 (pa_cons (pv 1) (pa_cons (pe_ix ix_list (pv 8) (pv 10) (fun _ _ => rfl)) (pa_cons (pe_ix ix_list (pv 9) (pv 10) (fun _ _ => rfl)) (pa_cons (pv 3) (pa_cons (pv 2) pa_nil)))))))) (pss_one (ps_ret pe_bl)) pss_nil)))
      (pss_cons (ps_if (PW.pt (pw_or (pt_not (pt_val (pe_call c_law_test_right.ok (by exact hr.mono (by decide)) (by rfl) c_law_test_right.gl c_law_test_right.kp c_law_test_right.b .nil pass0 (pa_cons (pv 1) (pa_cons (pe_ix ix_list (pv 5) pe_int (fun _ _ => rfl)) (pa_cons (pe_ix ix_list (pv 4) pe_int (fun _ _ => rfl)) (pa_cons (pv 3) (pa_cons (pv 2) pa_nil)))))))) (pw_or1 (pt_cmpR op_ne (pe_meth (pe_ix ix_list (pv 5) pe_int (fun _ _ => rfl)) h_Test_same.cl h_Test_same.me h_Test_same.ok (by exact hr.mono (by decide)) h_Test_same.b .nil pass0 (pa_cons (pe_ix ix_list (pv 5) pe_int (fun _ _ => rfl)) pa_nil)) (pe_cmpR (op_eqE (by exact hr.units)) (pe_ix ix_list (pv 4) pe_int (fun _ _ => rfl)) (pe_ix ix_list (pv 4) pe_int (fun _ _ => rfl)) (nomark _)) (nomark _))))) (pss_one (ps_ret pe_bl)) pss_nil)
      (pss_cons (ps_setLc (i := 11) (own := [("_law_name", 14), ("_law_worths", 15)]) (g := gPair K 14 15) rfl sc_law.nd rfl rfl (sw_true rfl rfl rfl (by decide +kernel)) (pi_list (pe_revL (pv 2))) (blkOk_by (own := [("_law_name", 14), ("_law_worths", 15)]) (N := ["_law_script", "_law_bag_here", "_law_plain", "_law_menu_here", "_law_forms", "_law_tests", "_law_turn", "_law_again", "_law_joined", "_law_due", "_law_k", "_law_swapped", "_law_absent", "_law_form_here", "_law_name", "_law_worths"]) (sc := defScope s_law) (by decide +kernel)) (fun _ _ _ _ _ => (pg_tup rfl (pgs_cons (pg_name (i := 14) sc_law.nd rfl (Or.inl rfl)) (pgs_cons (pg_name (i := 15) sc_law.nd rfl (Or.inl rfl)) pgs_nil)))) (fun _ _ _ _ _ => pts_nil) (fun _ _ _ _ _ => (PE.to (pe_tup (pa_cons (pv 14) (pa_cons (pe_revL (pv 15)) pa_nil))) (by dsimp only [Cx.blk] <;> rfl))))
      (pss_cons (ps_if (pt_not (pt_val (pe_call c_law_test_right.ok (by exact hr.mono (by decide)) (by rfl) c_law_test_right.gl c_law_test_right.kp c_law_test_right.b .nil pass0 (pa_cons (pv 1) (pa_cons (pe_ix ix_list (pv 5) pe_int (fun _ _ => rfl)) (pa_cons (pe_ix ix_list (pv 4) pe_int (fun _ _ => rfl)) (pa_cons (pe_make m_Menu.mo m_Menu.ok (by exact hr.mono (by decide)) (by rfl) m_Menu.gl m_Menu.b .nil pass0 (pa_cons (pv 11) pa_nil)) (pa_cons (pv 11) pa_nil)))))))) (pss_one (ps_ret pe_bl)) pss_nil)
      (pss_cons (ps_set (i := 12) sc_law.nd rfl (.inl rfl) (ClX.pe_cmeth (pe_glob (v := .ref (C "Test")) rfl k_Test_equal.gl rfl) k_Test_equal.rd k_Test_equal.cm (fnR_of k_Test_equal.ok k_Test_equal.b) (by exact hr.mono (by decide)) pass0 (pa_cons (pe_ix ix_tup (pe_ix ix_list (pv 2) pe_int (fun _ _ => rfl)) pe_int (fun _ _ => rfl)) (pa_cons pe_str pa_nil))))
      (pss_one (ps_ret (pe_and (pe_cmpR (op_eqE (by exact hr.units)) (pe_meth (pv 12) h_Test_on.cl h_Test_on.me h_Test_on.ok (by exact hr.mono (by decide)) h_Test_on.b .nil pass0 (pa_cons (pv 3) pa_nil)) (pe_tup pa_nil) (nomark _)) (pe_and (pe_cmpR (op_eqE (by exact hr.units)) (pe_meth (pe_un (un_invOwn v_Test (by exact hr.mono (by decide))) (pv 12)) h_Test_on.cl h_Test_on.me h_Test_on.ok (by exact hr.mono (by decide)) h_Test_on.b .nil pass0 (pa_cons (pv 3) pa_nil)) (pe_prop (pv 3) p_Menu_kinds.cl p_Menu_kinds.pr p_Menu_kinds.ok (by exact hr.mono (by decide)) p_Menu_kinds.b .nil pass0 rfl) (nomark _)) (pe_one (pe_not (pe_callO (pv 12) ⟨x_Test.fi, x_Test.fn, fk_x_Test⟩ (fnR_of x_Test.ok x_Test.b) (by exact hr.mono (by decide)) pass0 (pa_cons (pv 3) (pa_cons (pe_ix ix_tup (pe_prop (pv 3) p_Menu_kinds.cl p_Menu_kinds.pr p_Menu_kinds.ok (by exact hr.mono (by decide)) p_Menu_kinds.b .nil pass0 rfl) pe_int (fun _ _ => rfl)) pa_nil)))))))))))))))))))))), ?_⟩
    refine ⟨.ref a, rfl, a, ns, rfl, hS, fun b l H1 hb hl nl eH => ?_⟩
    let W : Wd := ⟨K, C, b, l, ns⟩
    have ok1 : Ok W [] H1 := by
      refine ⟨⟨0, 0, 17, 0, ?_, nl, ?_, by decide, by decide⟩, fun a h => by cases h⟩
      · rw [eH]; exact upd_same
      · rw [eH]; show upd _ b _ l = _; rw [upd_ne nl, upd_same]
    refine s_setR (W := W) (M := []) ok1 (evr_b1 bsr (ev_int (n := 12)) (by decide)) fun v2 cs H2 hcs e2 ok2 r2 => ?_
    obtain ⟨hP, hp⟩ := hcs
    have hl1 := hP.l1
    have hl3 := hP.l3
    refine s_set (W := W) (M := []) ok2 (x := Menu.mk cs) (ev_f1 (W := W) (ev_var (i := 2) (x := cs) ⟨v2, rfl, r2⟩) ⟨hP, hp⟩) fun v3 H3 e3 ok3 r3 => ?_
    have R2 := r2.up e3
    refine s_lst2S (W := W) (M := []) (P := fun f : Fm => f.Suits cs ∧ f.dp ≤ 5) (R := fun f : Fm => f.Suits cs ∧ f.dp ≤ 3) ok3 ((evr_b2R bsr (ev_var (i := 2) (x := cs) ⟨v2, rfl, R2⟩) (evr_addR (m := 1) (evr_b1 bsr (ev_int (n := 4)) (by decide))) ?_).imp ?_) ((evr_b2 bsr (ev_var (i := 2) (x := cs) ⟨v2, rfl, R2⟩) (ev_int (n := 2)) ⟨hP, by decide, by decide⟩).imp fun f hf => ⟨hf.1, by have := hf.2; omega⟩) fun v4 f0 f1 H4 hf0 hf1 e4 ok4 r4 => ?_
    · rintro y ⟨z, hz, rfl⟩
      exact ⟨hP, by omega, by omega⟩
    · rintro f ⟨y, ⟨z, hz, rfl⟩, hf⟩
      exact ⟨hf.1, by have := hf.2; omega⟩
    obtain ⟨hS0, hd0⟩ := hf0
    obtain ⟨hS1, hd1⟩ := hf1
    have hO0 := hS0.ok hP
    have hO1 := hS1.ok hP
    have hF0 : Fit cs f0 := suits_fit hP hp hS0 (by omega)
    have hF1 : Fit cs f1 := suits_fit hP hp hS1 (by omega)
    have fo : ∀ f ∈ [f0, f1], f.Ok ∧ f.dp ≤ 5 := fun f hf => by
      simp only [List.mem_cons, List.not_mem_nil, or_false] at hf
      rcases hf with rfl | rfl
      · exact ⟨hO0, hd0⟩
      · exact ⟨hO1, by omega⟩
    refine s_set (W := W) (M := []) ok4 (x := [Tst.mk f0, Tst.mk f1]) (ev_lc (f := Tst.mk) (ei_list (ev_var (i := 4) (x := [f0, f1]) ⟨v4, rfl, r4⟩)) (by show 2 ≤ 1000000; decide) (by decide) fun i f v M' H' hi l r => (evr_b1 bsr (ev_var (Sl.me r)) (fo f (List.mem_of_getElem? hi))).ev fun y hy => hy) fun v5 H5 e5 ok5 r5 => ?_
    have e25 := (e3.trans e4).trans e5
    have P2 : ∀ {σ : L2.St} {H'}, σ[2]? = some (some v2) → Ex W [] H5 H' → Ev W [] (tVar 2) σ H' cs := fun hs e => ev_var ⟨v2, hs, r2.up (e25.trans e)⟩
    have P3 : ∀ {σ : L2.St} {H'}, σ[3]? = some (some v3) → Ex W [] H5 H' → Ev W [] (tVar 3) σ H' (Menu.mk cs) := fun hs e => ev_var ⟨v3, hs, r3.up ((e4.trans e5).trans e)⟩
    have P4 : ∀ {σ : L2.St} {H'}, σ[4]? = some (some v4) → Ex W [] H5 H' → Ev W [] (tVar 4) σ H' [f0, f1] := fun hs e => ev_var ⟨v4, hs, r4.up (e5.trans e)⟩
    have P5 : ∀ {σ : L2.St} {H'}, σ[5]? = some (some v5) → Ex W [] H5 H' → Ev W [] (tVar 5) σ H' [Tst.mk f0, Tst.mk f1] := fun hs e => ev_var ⟨v5, hs, r5.up e⟩
    have turn : ∀ x ∈ [0, 1, (0 : Int)], ∃ f, atI [f0, f1] x = some f ∧ atI [Tst.mk f0, Tst.mk f1] x = some (Tst.mk f) ∧ Fit cs f ∧ f.Suits cs ∧ f.Ok ∧ f.dp ≤ 5 := fun x hx => by
      simp only [List.mem_cons, List.not_mem_nil, or_false] at hx
      rcases hx with rfl | rfl | rfl
      · exact ⟨f0, rfl, rfl, hF0, hS0, hO0, hd0⟩
      · exact ⟨f1, rfl, rfl, hF1, hS1, hO1, by omega⟩
      · exact ⟨f0, rfl, rfl, hF0, hS0, hO0, hd0⟩
    refine for_w (W := W) (M := []) ok5 (ei_list (ev_lst (xs := [0, 1, (0 : Int)]) (ea_cons ev_int (ea_cons ev_int (ea_cons ev_int ea_nil))) (by decide))) (fun i σ' H' => Ex W [] H5 H' ∧ ∃ o6 o7, σ' = [some (.ref a), some (.ref b), some v2, some v3, some v4, some v5, o6, o7, none, none, none, none, none, none, none, none]) (fun H' e => ⟨e, none, none, rfl⟩) ?_ ?_
    · rintro i x v σ' H6 hi ⟨e0, o6, o7, rfl⟩ ok6 H'' e'' r N hN
      cases (show v = .int x from r)
      obtain ⟨f, hc1, hc2, hF, hS', hO, h5⟩ := turn x (List.mem_of_getElem? hi)
      have ee := e0.trans e''
      refine s_no (W := W) (M := []) (ok6.ex e'') (et_not (b := true) (et_b (ev_testRight (W := W) bsr (ev_ixL (P5 rfl ee) (ev_vi (i := 6)) hc2) (ev_ixL (P4 rfl ee) (ev_vi (i := 6)) hc1) (P3 rfl ee) (P2 rfl ee) hF hS'))) fun H9 e9 ok9 => ?_
      have e59 := ee.trans e9
      refine s_set (W := W) (M := []) ok9 (x := Tst.mk f) (ev_testRead (W := W) (ev_m0 (o := Tst.mk f) (f := fun t : Tst => t.f.text) (ev_ixL (P5 rfl e59) (ev_vi (i := 6)) hc2) ⟨hO, by show f.dp ≤ 6; omega⟩ (by decide +kernel)) hO h5) fun v7 H10 e10 ok10 r7 => ?_
      have e510 := e59.trans e10
      refine s_no (W := W) (M := []) ok10 (Et.is (et_or (et_not (b := true) (et_b ((ev_m1 (o := Tst.mk f) (x := Tst.mk f) (f := fun t u : Tst => decide (t.f = u.f)) (ev_var (i := 7) ⟨v7, rfl, r7⟩) (ev_ixL (P5 rfl e510) (ev_vi (i := 6)) hc2) ⟨by show f.dp ≤ 8; omega, by show f.dp ≤ 8; omega⟩ (by decide +kernel)).is (decide_eq_true rfl)))) fun _ => et_not (b := true) (et_b (ev_testRight (W := W) bsr (ev_var (i := 7) ⟨v7, rfl, r7⟩) (ev_ixL (P4 rfl e510) (ev_vi (i := 6)) hc1) (P3 rfl e510) (P2 rfl e510) hF hS'))) (c := false) rfl) fun H11 e11 ok11 => ?_
      exact hN _ _ ⟨e510.trans e11, _, _, rfl⟩ ((e9.trans e10).trans e11)
    rintro σ' H6 ⟨e6, o6, o7, rfl⟩ ok6
    dsimp only
    have t0 : ∀ {σ : L2.St} {H'}, σ[5]? = some (some v5) → Ex W [] H5 H' → Ev W [] (tOp (rIxL W.K) (tVar 5) (tC (.int 0))) σ H' (Tst.mk f0) := fun hs e => ev_ixL (P5 hs e) ev_int rfl
    have t1 : ∀ {σ : L2.St} {H'}, σ[5]? = some (some v5) → Ex W [] H5 H' → Ev W [] (tOp (rIxL W.K) (tVar 5) (tC (.int 1))) σ H' (Tst.mk f1) := fun hs e => ev_ixL (P5 hs e) ev_int rfl
    have g0 : ∀ {σ : L2.St} {H'}, σ[4]? = some (some v4) → Ex W [] H5 H' → Ev W [] (tOp (rIxL W.K) (tVar 4) (tC (.int 0))) σ H' f0 := fun hs e => ev_ixL (P4 hs e) ev_int rfl
    have g1 : ∀ {σ : L2.St} {H'}, σ[4]? = some (some v4) → Ex W [] H5 H' → Ev W [] (tOp (rIxL W.K) (tVar 4) (tC (.int 1))) σ H' f1 := fun hs e => ev_ixL (P4 hs e) ev_int rfl
    refine s_set (W := W) (M := []) ok6 (x := [Tst.mk (.and f0 f1), Tst.mk (.or f0 f1), Tst.mk (.not f0), Tst.mk (.and f1 f0)]) (ev_lst (ea_cons (ev_binOwn (o := Tst.mk f0) (o' := Tst.mk f1) (t0 rfl e6) (t1 rfl e6) trivial) (ea_cons (ev_binOwn (o := Tst.mk f0) (o' := Tst.mk f1) (t0 rfl e6) (t1 rfl e6) trivial) (ea_cons (ev_invOwn (o := Tst.mk f0) (t0 rfl e6) trivial) (ea_cons (ev_binOwn (o := Tst.mk f1) (o' := Tst.mk f0) (t1 rfl e6) (t0 rfl e6) trivial) ea_nil)))) (by show 4 ≤ 1000000; decide)) fun v8 H7 e7 ok7 r8 => ?_
    have e67 := e6.trans e7
    refine s_set (W := W) (M := []) ok7 (x := [Fm.and f0 f1, Fm.or f0 f1, Fm.not f0, Fm.and f1 f0]) (ev_lst (ea_cons (ev_mkAnd (g0 rfl e67) (g1 rfl e67)) (ea_cons (ev_mkOr (g0 rfl e67) (g1 rfl e67)) (ea_cons (ev_mkNot (g0 rfl e67)) (ea_cons (ev_mkAnd (g1 rfl e67) (g0 rfl e67)) ea_nil)))) (by show 4 ≤ 1000000; decide)) fun v9 H8 e8 ok8 r9 => ?_
    have e68 := e67.trans e8
    refine for_r (W := W) (M := []) ok8 (evr_b1 bsr (ev_lst (xs := [0, 1, 2, (3 : Int)]) (ea_cons ev_int (ea_cons ev_int (ea_cons ev_int (ea_cons ev_int ea_nil)))) (by decide)) (by decide)) fun qs vq H9 hqs e9 ok9 rq => ?_
    have e69 := e68.trans e9
    have four : ∀ x ∈ [0, 1, 2, (3 : Int)], ∃ f, atI [Fm.and f0 f1, Fm.or f0 f1, Fm.not f0, Fm.and f1 f0] x = some f ∧ atI [Tst.mk (.and f0 f1), Tst.mk (.or f0 f1), Tst.mk (.not f0), Tst.mk (.and f1 f0)] x = some (Tst.mk f) ∧ Fit cs f ∧ f.Suits cs := fun x hx => by
      simp only [List.mem_cons, List.not_mem_nil, or_false] at hx
      rcases hx with rfl | rfl | rfl | rfl
      · exact ⟨_, rfl, rfl, suits_fit hP hp (f := .and f0 f1) ⟨hS0, hS1⟩ (by show max f0.dp f1.dp + 1 ≤ 6; omega), ⟨hS0, hS1⟩⟩
      · exact ⟨_, rfl, rfl, suits_fit hP hp (f := .or f0 f1) ⟨hS0, hS1⟩ (by show max f0.dp f1.dp + 1 ≤ 6; omega), ⟨hS0, hS1⟩⟩
      · exact ⟨_, rfl, rfl, suits_fit hP hp (f := .not f0) hS0 (by show f0.dp + 1 ≤ 6; omega), hS0⟩
      · exact ⟨_, rfl, rfl, suits_fit hP hp (f := .and f1 f0) ⟨hS1, hS0⟩ (by show max f1.dp f0.dp + 1 ≤ 6; omega), ⟨hS1, hS0⟩⟩
    refine for_w (W := W) (M := []) ok9 (ei_list (ev_val rq)) (fun i σ' H' => Ex W [] H9 H' ∧ ∃ o10, σ' = [some (.ref a), some (.ref b), some v2, some v3, some v4, some v5, o6, o7, some v8, some v9, o10, none, none, none, none, none]) (fun H' e => ⟨e, none, rfl⟩) ?_ ?_
    · rintro i x v σ' H10 hi ⟨e0, o10, rfl⟩ ok10 H'' e'' r N hN
      cases (show v = .int x from r)
      obtain ⟨f, hc1, hc2, hF, hS'⟩ := four x (hqs.mem_iff.mp (List.mem_of_getElem? hi))
      have ee := e0.trans e''
      have e6e := e69.trans ee
      refine s_no (W := W) (M := []) (ok10.ex e'') (et_not (b := true) (et_b (ev_testRight (W := W) bsr (ev_ixL (ev_var (i := 8) ⟨v8, rfl, r8.up ((e8.trans e9).trans ee)⟩) (ev_vi (i := 10)) hc2) (ev_ixL (ev_var (i := 9) ⟨v9, rfl, r9.up (e9.trans ee)⟩) (ev_vi (i := 10)) hc1) (P3 rfl e6e) (P2 rfl e6e) hF hS'))) fun H11 e11 ok11 => ?_
      exact hN _ _ ⟨ee.trans e11, _, rfl⟩ e11
    rintro σ' H10 ⟨e10, o10, rfl⟩ ok10
    dsimp only
    have f10 := e69.trans e10
    refine s_no (W := W) (M := []) ok10 (Et.is (et_or (et_not (b := true) (et_b (ev_testRight (W := W) bsr (t0 rfl f10) (g0 rfl f10) (P3 rfl f10) (P2 rfl f10) hF0 hS0))) fun _ => et_t (ev_ne (ev_m1 (o := Tst.mk f0) (x := Tst.mk f1) (f := fun t u : Tst => decide (t.f = u.f)) (t0 rfl f10) (t1 rfl f10) ⟨by show f0.dp ≤ 8; omega, by show f1.dp ≤ 8; omega⟩ (by decide +kernel)) (ev_eqFm (g0 rfl f10) (g1 rfl f10) (by omega) (by omega)))) (c := false) (by simp)) fun H11 e11 ok11 => ?_
    have f11 := f10.trans e11
    refine s_set (W := W) (M := []) ok11 (x := swapC cs) (ev_lc2 (f := fun c : Col => (c.1, c.2.reverse)) (ei_list (ev_rev (P2 rfl f11))) (by rw [List.length_reverse]; omega) (by decide) (by decide) fun i c v1 v2 M' H' hi l r1 r2 => ev_pair (ev_var ((Sl.me r1).set Ex.refl)) (ev_rev (ev_var (Sl.hr r2)))) fun v11 H12 e12 ok12 r11 => ?_
    have f12 := f11.trans e12
    have hPs := swap_plain hP
    have hps : prod (swapC cs) ≤ 12 := by rw [prod_swap]; exact hp
    have hSs := swap_suits hP hS0
    refine s_no (W := W) (M := []) ok12 (et_not (b := true) (et_b (ev_testRight (W := W) (cs := swapC cs) bsr (t0 rfl f12) (g0 rfl f12) (ev_menu (W := W) ((ev_var (i := 11) (x := swapC cs) ⟨v11, rfl, r11⟩).cv fun _ _ r => r.colsQ) hPs hps) (ev_var (i := 11) (x := swapC cs) ⟨v11, rfl, r11⟩) (suits_fit hPs hps hSs (by omega)) hSs))) fun H13 e13 ok13 => ?_
    have f13 := f12.trans e13
    have at0 : ∀ {ω : Type} (x : ω) (y : List ω), atI (x :: y) 0 = some x := fun x y => atI_nat (xs := x :: y) (j := 0) (v := x) rfl
    obtain ⟨c, ct, hcc⟩ : ∃ c ct, cs = c :: ct := by
      match cs, hl1 with
      | c :: ct, _ => exact ⟨c, ct, rfl⟩
    have hc : c ∈ cs := by rw [hcc]; exact List.mem_cons_self
    have hcn : c.1 ∈ cs.map Prod.fst := List.mem_map_of_mem (f := Prod.fst) hc
    refine s_set (W := W) (M := []) ok13 (x := Tst.mk (.eq c.1 "n0where")) (ev_equal (W := W) (ev_fst (ev_ixL (P2 rfl f13) (ev_int (n := 0)) (by rw [hcc]; exact at0 _ _))) ev_str (hP.nameOk hcn) (by decide +kernel)) fun v12 H14 e14 ok14 r12 => ?_
    have f14 := f13.trans e14
    have hFa : Fit cs (.eq c.1 "n0where") := ⟨hP, hp, by show 1 ≤ 6; decide, fun n hn => by
      simp only [Fm.names, List.mem_singleton] at hn
      rw [hn]; exact hcn⟩
    have hFn : Fit cs (.not (.eq c.1 "n0where")) := ⟨hP, hp, by show 2 ≤ 6; decide, hFa.nm⟩
    have A12 : Ev W [] (tVar 12) _ H14 (Tst.mk (.eq c.1 "n0where")) := ev_var (i := 12) (σ := [some (.ref a), some (.ref b), some v2, some v3, some v4, some v5, o6, o7, some v8, some v9, o10, some v11, some v12, none, none, none]) ⟨v12, rfl, r12⟩
    have km : ∀ key : TupK, key ∈ (kindsT ⟨cs⟩).l → key.l ∈ kinds cs := fun key hk => by
      obtain ⟨q, hq, e⟩ := List.mem_map.mp hk
      rw [← e]; exact hq
    have none_ : (Tup.mk ((kindsT ⟨cs⟩).l.filter fun k => (Fm.eq c.1 "n0where").isT (seen cs k.l)) : Tup TupK) = Tup.mk [] := by
      congr 1
      refine List.filter_eq_nil_iff.mpr fun k hk => ?_
      rw [absent_no hP hcn (km k hk)]; exact Bool.false_ne_true
    have all_ : (Tup.mk ((kindsT ⟨cs⟩).l.filter fun k => (Fm.not (Fm.eq c.1 "n0where")).isT (seen cs k.l)) : Tup TupK) = kindsT ⟨cs⟩ := by
      have : (kindsT ⟨cs⟩).l.filter (fun k => (Fm.not (Fm.eq c.1 "n0where")).isT (seen cs k.l)) = (kindsT ⟨cs⟩).l := List.filter_eq_self.mpr fun k hk => by
        show (!(Fm.eq c.1 "n0where").isT (seen cs k.l)) = true
        rw [absent_no hP hcn (km k hk)]; rfl
      rw [this]
    obtain ⟨k0, kt, hk0⟩ : ∃ k0 kt, (kindsT ⟨cs⟩).l = k0 :: kt := by
      have hne : (kindsT ⟨cs⟩).l ≠ [] := fun e => kinds_ne hP (List.map_eq_nil_iff.mp e)
      match (kindsT ⟨cs⟩).l, hne with
      | k0 :: kt, _ => exact ⟨k0, kt, rfl⟩
      | [], h => exact absurd rfl h
    have hk0m := km k0 (by rw [hk0]; exact List.mem_cons_self)
    dsimp only
    refine s_ret (W := W) (M := []) ok14 (x := true) ?_ fun v H15 e15 r => ?_
    · refine Ev.is (ev_and (ev_eqD (x := (Tup.mk [] : Tup TupK)) (y := Tup.mk []) ((ev_m1 (o := Tst.mk (.eq c.1 "n0where")) (x := Menu.mk cs) (f := fun (t : Tst) (m : Menu) => Tup.mk ((kindsT m).l.filter fun k => t.f.isT (seen m.cols k.l))) A12 (P3 rfl f14) hFa (by decide +kernel)).is none_) (ev_tup ea_nil (by decide))) fun _ => ev_and (ev_eqD (x := kindsT ⟨cs⟩) (y := kindsT ⟨cs⟩) ((ev_m1 (o := Tst.mk (.not (.eq c.1 "n0where"))) (x := Menu.mk cs) (f := fun (t : Tst) (m : Menu) => Tup.mk ((kindsT m).l.filter fun k => t.f.isT (seen m.cols k.l))) (ev_invOwn (o := Tst.mk (.eq c.1 "n0where")) A12 trivial) (P3 rfl f14) hFn (by decide +kernel)).is all_) (ev_prop (o := Menu.mk cs) (f := kindsT) (P3 rfl f14) trivial)) fun _ => ev_not (ev_callOwn (o := Tst.mk (.eq c.1 "n0where")) (x := Menu.mk cs) (y := k0) (f := fun (t : Tst) (m : Menu) (k : TupK) => t.f.isT (seen m.cols k.l)) A12 (P3 rfl f14) (ev_ixT (ev_prop (o := Menu.mk cs) (f := kindsT) (P3 rfl f14) trivial) (ev_int (n := 0)) (by rw [hk0]; exact at0 _ _)) ⟨hFa, hk0m⟩)) ?_
      show (decide ((Tup.mk [] : Tup TupK) = Tup.mk []) && (decide (kindsT ⟨cs⟩ = kindsT ⟨cs⟩) && !(Fm.eq c.1 "n0where").isT (seen cs k0.l))) = true
      rw [absent_no hP hcn hk0m]; simp
    · cases (show v = .bl true from r)
      exact k H15

end
set_option maxHeartbeats 0 in
theorem all_mk {ol : PySem.W.OpenLaw} {w : World} {K : PySem.W.Frag} {h : Heap} {mg : Str → Option Value} {fa C_Menu C_Test f_law_bag f_law_draw f_law_pick f_law_names f_law_mixed f_law_product f_law_menu f_are_different f_is_name f_is_worth f_is_column f_kinds_of f_are_columns f_Menu_init f_Menu_read p_Menu_read f_law_menu_text f_law_made_menu f_law_form f_word_at f_leaf_of f_parts_at f_part_at f_steps_of f_Test_init f_Test_read p_Test_read f_law_form_text f_Test_always p_Test_always f_Test_equal p_Test_equal f_Test_alike p_Test_alike f_Test_invert f_Test_and f_Test_or f_law_built f_law_made_test f_law_kinds f_law_is_true f_Menu_columns p_Menu_columns f_names_in f_Test_names f_Test_check_menu f_Menu_kinds p_Menu_kinds f_is_true f_seen_kind f_Test_on f_suits f_kinds_where f_Menu_contains f_Test_call f_law_names_in f_text_of f_Test_text f_law_test_right f_Test_same f_law : Addr} (X : K.In h) (G : h.Ns mainGlobals mg) (hfa : mg "law" = some (.ref fa))
    {od0 an0 : Option Addr} {sl0 : Array (Option Value)} {oc0 kV0 dc0 pm0 cd0 ct0 : Value}
    {od1 an1 : Option Addr} {sl1 : Array (Option Value)} {oc1 kV1 dc1 pm1 cd1 ct1 : Value}
    {od2 an2 : Option Addr} {sl2 : Array (Option Value)} {oc2 kV2 dc2 pm2 cd2 ct2 : Value}
    {od3 an3 : Option Addr} {sl3 : Array (Option Value)} {oc3 kV3 dc3 pm3 cd3 ct3 : Value}
    {od4 an4 : Option Addr} {sl4 : Array (Option Value)} {oc4 kV4 dc4 pm4 cd4 ct4 : Value}
    {od5 an5 : Option Addr} {sl5 : Array (Option Value)} {oc5 kV5 dc5 pm5 cd5 ct5 : Value}
    {od6 an6 : Option Addr} {sl6 : Array (Option Value)} {oc6 kV6 dc6 pm6 cd6 ct6 : Value}
    {od7 an7 : Option Addr} {sl7 : Array (Option Value)} {oc7 kV7 dc7 pm7 cd7 ct7 : Value}
    {od8 an8 : Option Addr} {sl8 : Array (Option Value)} {oc8 kV8 dc8 pm8 cd8 ct8 : Value}
    {od9 an9 : Option Addr} {sl9 : Array (Option Value)} {oc9 kV9 dc9 pm9 cd9 ct9 : Value}
    {od10 an10 : Option Addr} {sl10 : Array (Option Value)} {oc10 kV10 dc10 pm10 cd10 ct10 : Value}
    {od11 an11 : Option Addr} {sl11 : Array (Option Value)} {oc11 kV11 dc11 pm11 cd11 ct11 : Value}
    {od12 an12 : Option Addr} {sl12 : Array (Option Value)} {oc12 kV12 dc12 pm12 cd12 ct12 : Value}
    {od13 an13 : Option Addr} {sl13 : Array (Option Value)} {oc13 kV13 dc13 pm13 cd13 ct13 : Value}
    {od14 an14 : Option Addr} {sl14 : Array (Option Value)} {oc14 kV14 dc14 pm14 cd14 ct14 : Value}
    {rs_Menu_read : List Value} {mc_Menu_read : Value}
    {od15 an15 : Option Addr} {sl15 : Array (Option Value)} {oc15 kV15 dc15 pm15 cd15 ct15 : Value}
    {od16 an16 : Option Addr} {sl16 : Array (Option Value)} {oc16 kV16 dc16 pm16 cd16 ct16 : Value}
    {od17 an17 : Option Addr} {sl17 : Array (Option Value)} {oc17 kV17 dc17 pm17 cd17 ct17 : Value}
    {od18 an18 : Option Addr} {sl18 : Array (Option Value)} {oc18 kV18 dc18 pm18 cd18 ct18 : Value}
    {od19 an19 : Option Addr} {sl19 : Array (Option Value)} {oc19 kV19 dc19 pm19 cd19 ct19 : Value}
    {od20 an20 : Option Addr} {sl20 : Array (Option Value)} {oc20 kV20 dc20 pm20 cd20 ct20 : Value}
    {od21 an21 : Option Addr} {sl21 : Array (Option Value)} {oc21 kV21 dc21 pm21 cd21 ct21 : Value}
    {od22 an22 : Option Addr} {sl22 : Array (Option Value)} {oc22 kV22 dc22 pm22 cd22 ct22 : Value}
    {od23 an23 : Option Addr} {sl23 : Array (Option Value)} {oc23 kV23 dc23 pm23 cd23 ct23 : Value}
    {od24 an24 : Option Addr} {sl24 : Array (Option Value)} {oc24 kV24 dc24 pm24 cd24 ct24 : Value}
    {rs_Test_read : List Value} {mc_Test_read : Value}
    {od25 an25 : Option Addr} {sl25 : Array (Option Value)} {oc25 kV25 dc25 pm25 cd25 ct25 : Value}
    {od26 an26 : Option Addr} {sl26 : Array (Option Value)} {oc26 kV26 dc26 pm26 cd26 ct26 : Value}
    {rs_Test_always : List Value} {mc_Test_always : Value}
    {od27 an27 : Option Addr} {sl27 : Array (Option Value)} {oc27 kV27 dc27 pm27 cd27 ct27 : Value}
    {rs_Test_equal : List Value} {mc_Test_equal : Value}
    {od28 an28 : Option Addr} {sl28 : Array (Option Value)} {oc28 kV28 dc28 pm28 cd28 ct28 : Value}
    {rs_Test_alike : List Value} {mc_Test_alike : Value}
    {od29 an29 : Option Addr} {sl29 : Array (Option Value)} {oc29 kV29 dc29 pm29 cd29 ct29 : Value}
    {od30 an30 : Option Addr} {sl30 : Array (Option Value)} {oc30 kV30 dc30 pm30 cd30 ct30 : Value}
    {od31 an31 : Option Addr} {sl31 : Array (Option Value)} {oc31 kV31 dc31 pm31 cd31 ct31 : Value}
    {od32 an32 : Option Addr} {sl32 : Array (Option Value)} {oc32 kV32 dc32 pm32 cd32 ct32 : Value}
    {od33 an33 : Option Addr} {sl33 : Array (Option Value)} {oc33 kV33 dc33 pm33 cd33 ct33 : Value}
    {od34 an34 : Option Addr} {sl34 : Array (Option Value)} {oc34 kV34 dc34 pm34 cd34 ct34 : Value}
    {od35 an35 : Option Addr} {sl35 : Array (Option Value)} {oc35 kV35 dc35 pm35 cd35 ct35 : Value}
    {od36 an36 : Option Addr} {sl36 : Array (Option Value)} {oc36 kV36 dc36 pm36 cd36 ct36 : Value}
    {rs_Menu_columns : List Value}
    {od37 an37 : Option Addr} {sl37 : Array (Option Value)} {oc37 kV37 dc37 pm37 cd37 ct37 : Value}
    {od38 an38 : Option Addr} {sl38 : Array (Option Value)} {oc38 kV38 dc38 pm38 cd38 ct38 : Value}
    {od39 an39 : Option Addr} {sl39 : Array (Option Value)} {oc39 kV39 dc39 pm39 cd39 ct39 : Value}
    {od40 an40 : Option Addr} {sl40 : Array (Option Value)} {oc40 kV40 dc40 pm40 cd40 ct40 : Value}
    {rs_Menu_kinds : List Value}
    {od41 an41 : Option Addr} {sl41 : Array (Option Value)} {oc41 kV41 dc41 pm41 cd41 ct41 : Value}
    {od42 an42 : Option Addr} {sl42 : Array (Option Value)} {oc42 kV42 dc42 pm42 cd42 ct42 : Value}
    {od43 an43 : Option Addr} {sl43 : Array (Option Value)} {oc43 kV43 dc43 pm43 cd43 ct43 : Value}
    {od44 an44 : Option Addr} {sl44 : Array (Option Value)} {oc44 kV44 dc44 pm44 cd44 ct44 : Value}
    {od45 an45 : Option Addr} {sl45 : Array (Option Value)} {oc45 kV45 dc45 pm45 cd45 ct45 : Value}
    {od46 an46 : Option Addr} {sl46 : Array (Option Value)} {oc46 kV46 dc46 pm46 cd46 ct46 : Value}
    {od47 an47 : Option Addr} {sl47 : Array (Option Value)} {oc47 kV47 dc47 pm47 cd47 ct47 : Value}
    {od48 an48 : Option Addr} {sl48 : Array (Option Value)} {oc48 kV48 dc48 pm48 cd48 ct48 : Value}
    {od49 an49 : Option Addr} {sl49 : Array (Option Value)} {oc49 kV49 dc49 pm49 cd49 ct49 : Value}
    {od50 an50 : Option Addr} {sl50 : Array (Option Value)} {oc50 kV50 dc50 pm50 cd50 ct50 : Value}
    {od51 an51 : Option Addr} {sl51 : Array (Option Value)} {oc51 kV51 dc51 pm51 cd51 ct51 : Value}
    {od52 an52 : Option Addr} {sl52 : Array (Option Value)} {oc52 kV52 dc52 pm52 cd52 ct52 : Value}
    {od53 an53 : Option Addr} {sl53 : Array (Option Value)} {oc53 kV53 dc53 pm53 cd53 ct53 : Value}
    {tk_DIGITS : Tok}
    {tk_LETTERS : Tok}
    {tk_LONGEST : Tok}
    {tk_MOST_COLUMNS : Tok}
    {tk_MOST_KINDS : Tok}
    {tk_MOST_STEPS : Tok}
    {tk_MOST_WORTHS : Tok}
    (aCMenu : PySem.W.nsIn K mainGlobals "Menu" = some (some (.ref C_Menu)))
    (aCTest : PySem.W.nsIn K mainGlobals "Test" = some (some (.ref C_Test)))
    (a_law_bag : PySem.W.nsIn K mainGlobals "_law_bag" = some (some (.ref f_law_bag)))
    (l_law_bag : K.lookup f_law_bag = some ⟨oc0, od0, .func (PySem.W.fnOf "_law_bag" "_law_bag" (defArgs s_law_bag) (defBody s_law_bag) (defScope s_law_bag) .none kV0 dc0 pm0 an0 cd0 ct0), sl0⟩)
    (c_law_bag : PySem.W.codeIn K cd0 "_law_bag" = true)
    (k_law_bag : PySem.W.keepIn K (.ref f_law_bag) = true)
    (a_law_draw : PySem.W.nsIn K mainGlobals "_law_draw" = some (some (.ref f_law_draw)))
    (l_law_draw : K.lookup f_law_draw = some ⟨oc1, od1, .func (PySem.W.fnOf "_law_draw" "_law_draw" (defArgs s_law_draw) (defBody s_law_draw) (defScope s_law_draw) .none kV1 dc1 pm1 an1 cd1 ct1), sl1⟩)
    (c_law_draw : PySem.W.codeIn K cd1 "_law_draw" = true)
    (k_law_draw : PySem.W.keepIn K (.ref f_law_draw) = true)
    (a_law_pick : PySem.W.nsIn K mainGlobals "_law_pick" = some (some (.ref f_law_pick)))
    (l_law_pick : K.lookup f_law_pick = some ⟨oc2, od2, .func (PySem.W.fnOf "_law_pick" "_law_pick" (defArgs s_law_pick) (defBody s_law_pick) (defScope s_law_pick) .none kV2 dc2 pm2 an2 cd2 ct2), sl2⟩)
    (c_law_pick : PySem.W.codeIn K cd2 "_law_pick" = true)
    (k_law_pick : PySem.W.keepIn K (.ref f_law_pick) = true)
    (a_law_names : PySem.W.nsIn K mainGlobals "_law_names" = some (some (.ref f_law_names)))
    (l_law_names : K.lookup f_law_names = some ⟨oc3, od3, .func (PySem.W.fnOf "_law_names" "_law_names" (defArgs s_law_names) (defBody s_law_names) (defScope s_law_names) .none kV3 dc3 pm3 an3 cd3 ct3), sl3⟩)
    (c_law_names : PySem.W.codeIn K cd3 "_law_names" = true)
    (k_law_names : PySem.W.keepIn K (.ref f_law_names) = true)
    (a_law_mixed : PySem.W.nsIn K mainGlobals "_law_mixed" = some (some (.ref f_law_mixed)))
    (l_law_mixed : K.lookup f_law_mixed = some ⟨oc4, od4, .func (PySem.W.fnOf "_law_mixed" "_law_mixed" (defArgs s_law_mixed) (defBody s_law_mixed) (defScope s_law_mixed) .none kV4 dc4 pm4 an4 cd4 ct4), sl4⟩)
    (c_law_mixed : PySem.W.codeIn K cd4 "_law_mixed" = true)
    (k_law_mixed : PySem.W.keepIn K (.ref f_law_mixed) = true)
    (a_law_product : PySem.W.nsIn K mainGlobals "_law_product" = some (some (.ref f_law_product)))
    (l_law_product : K.lookup f_law_product = some ⟨oc5, od5, .func (PySem.W.fnOf "_law_product" "_law_product" (defArgs s_law_product) (defBody s_law_product) (defScope s_law_product) .none kV5 dc5 pm5 an5 cd5 ct5), sl5⟩)
    (c_law_product : PySem.W.codeIn K cd5 "_law_product" = true)
    (k_law_product : PySem.W.keepIn K (.ref f_law_product) = true)
    (a_law_menu : PySem.W.nsIn K mainGlobals "_law_menu" = some (some (.ref f_law_menu)))
    (l_law_menu : K.lookup f_law_menu = some ⟨oc6, od6, .func (PySem.W.fnOf "_law_menu" "_law_menu" (defArgs s_law_menu) (defBody s_law_menu) (defScope s_law_menu) .none kV6 dc6 pm6 an6 cd6 ct6), sl6⟩)
    (c_law_menu : PySem.W.codeIn K cd6 "_law_menu" = true)
    (k_law_menu : PySem.W.keepIn K (.ref f_law_menu) = true)
    (a_are_different : PySem.W.nsIn K mainGlobals "are_different" = some (some (.ref f_are_different)))
    (l_are_different : K.lookup f_are_different = some ⟨oc7, od7, .func (PySem.W.fnOf "are_different" "are_different" (defArgs s_are_different) (defBody s_are_different) (defScope s_are_different) .none kV7 dc7 pm7 an7 cd7 ct7), sl7⟩)
    (c_are_different : PySem.W.codeIn K cd7 "are_different" = true)
    (k_are_different : PySem.W.keepIn K (.ref f_are_different) = true)
    (a_is_name : PySem.W.nsIn K mainGlobals "is_name" = some (some (.ref f_is_name)))
    (l_is_name : K.lookup f_is_name = some ⟨oc8, od8, .func (PySem.W.fnOf "is_name" "is_name" (defArgs s_is_name) (defBody s_is_name) (defScope s_is_name) .none kV8 dc8 pm8 an8 cd8 ct8), sl8⟩)
    (c_is_name : PySem.W.codeIn K cd8 "is_name" = true)
    (k_is_name : PySem.W.keepIn K (.ref f_is_name) = true)
    (a_is_worth : PySem.W.nsIn K mainGlobals "is_worth" = some (some (.ref f_is_worth)))
    (l_is_worth : K.lookup f_is_worth = some ⟨oc9, od9, .func (PySem.W.fnOf "is_worth" "is_worth" (defArgs s_is_worth) (defBody s_is_worth) (defScope s_is_worth) .none kV9 dc9 pm9 an9 cd9 ct9), sl9⟩)
    (c_is_worth : PySem.W.codeIn K cd9 "is_worth" = true)
    (k_is_worth : PySem.W.keepIn K (.ref f_is_worth) = true)
    (a_is_column : PySem.W.nsIn K mainGlobals "is_column" = some (some (.ref f_is_column)))
    (l_is_column : K.lookup f_is_column = some ⟨oc10, od10, .func (PySem.W.fnOf "is_column" "is_column" (defArgs s_is_column) (defBody s_is_column) (defScope s_is_column) .none kV10 dc10 pm10 an10 cd10 ct10), sl10⟩)
    (c_is_column : PySem.W.codeIn K cd10 "is_column" = true)
    (k_is_column : PySem.W.keepIn K (.ref f_is_column) = true)
    (a_kinds_of : PySem.W.nsIn K mainGlobals "kinds_of" = some (some (.ref f_kinds_of)))
    (l_kinds_of : K.lookup f_kinds_of = some ⟨oc11, od11, .func (PySem.W.fnOf "kinds_of" "kinds_of" (defArgs s_kinds_of) (defBody s_kinds_of) (defScope s_kinds_of) .none kV11 dc11 pm11 an11 cd11 ct11), sl11⟩)
    (c_kinds_of : PySem.W.codeIn K cd11 "kinds_of" = true)
    (k_kinds_of : PySem.W.keepIn K (.ref f_kinds_of) = true)
    (a_are_columns : PySem.W.nsIn K mainGlobals "are_columns" = some (some (.ref f_are_columns)))
    (l_are_columns : K.lookup f_are_columns = some ⟨oc12, od12, .func (PySem.W.fnOf "are_columns" "are_columns" (defArgs s_are_columns) (defBody s_are_columns) (defScope s_are_columns) .none kV12 dc12 pm12 an12 cd12 ct12), sl12⟩)
    (c_are_columns : PySem.W.codeIn K cd12 "are_columns" = true)
    (k_are_columns : PySem.W.keepIn K (.ref f_are_columns) = true)
    (a_Menu_init : PySem.W.findIn K (.ref C_Menu) "__init__" = some (some (.ref f_Menu_init)))
    (i_Menu_init : PySem.W.isFn K (.ref f_Menu_init) = true)
    (l_Menu_init : K.lookup f_Menu_init = some ⟨oc13, od13, .func (PySem.W.fnOf "__init__" "Menu.__init__" (defArgs s_Menu_init) (defBody s_Menu_init) (defScope s_Menu_init) .none kV13 dc13 pm13 an13 cd13 ct13), sl13⟩)
    (c_Menu_init : PySem.W.codeIn K cd13 "Menu.__init__" = true)
    (k_Menu_init : PySem.W.keepIn K (.ref f_Menu_init) = true)
    (m_Menu_read : PySem.W.typeIn K (.ref C_Menu) = some mc_Menu_read)
    (rd_Menu_read : PySem.W.readsIn K C_Menu mc_Menu_read = true)
    (ga_Menu_read : PySem.W.specialIn K (.ref C_Menu) "__getattribute__" = some (some (.builtin "type.__getattribute__")))
    (a_Menu_read : PySem.W.findCls K (.ref C_Menu) mc_Menu_read "read" = some (.get (.builtin "classmethod.__get__") (.ref p_Menu_read) .none (.ref C_Menu)))
    (r_Menu_read : PySem.W.recIn K p_Menu_read "classmethod" = some (.ref f_Menu_read :: rs_Menu_read))
    (fi_Menu_read : PySem.W.fnIn K f_Menu_read = true)
    (l_Menu_read : K.lookup f_Menu_read = some ⟨oc14, od14, .func (PySem.W.fnOf "read" "Menu.read" (defArgs s_Menu_read) (defBody s_Menu_read) (defScope s_Menu_read) .none kV14 dc14 pm14 an14 cd14 ct14), sl14⟩)
    (c_Menu_read : PySem.W.codeIn K cd14 "Menu.read" = true)
    (k_Menu_read : PySem.W.keepIn K (.ref f_Menu_read) = true)
    (a_law_menu_text : PySem.W.nsIn K mainGlobals "_law_menu_text" = some (some (.ref f_law_menu_text)))
    (l_law_menu_text : K.lookup f_law_menu_text = some ⟨oc15, od15, .func (PySem.W.fnOf "_law_menu_text" "_law_menu_text" (defArgs s_law_menu_text) (defBody s_law_menu_text) (defScope s_law_menu_text) .none kV15 dc15 pm15 an15 cd15 ct15), sl15⟩)
    (c_law_menu_text : PySem.W.codeIn K cd15 "_law_menu_text" = true)
    (k_law_menu_text : PySem.W.keepIn K (.ref f_law_menu_text) = true)
    (a_law_made_menu : PySem.W.nsIn K mainGlobals "_law_made_menu" = some (some (.ref f_law_made_menu)))
    (l_law_made_menu : K.lookup f_law_made_menu = some ⟨oc16, od16, .func (PySem.W.fnOf "_law_made_menu" "_law_made_menu" (defArgs s_law_made_menu) (defBody s_law_made_menu) (defScope s_law_made_menu) .none kV16 dc16 pm16 an16 cd16 ct16), sl16⟩)
    (c_law_made_menu : PySem.W.codeIn K cd16 "_law_made_menu" = true)
    (k_law_made_menu : PySem.W.keepIn K (.ref f_law_made_menu) = true)
    (a_law_form : PySem.W.nsIn K mainGlobals "_law_form" = some (some (.ref f_law_form)))
    (l_law_form : K.lookup f_law_form = some ⟨oc17, od17, .func (PySem.W.fnOf "_law_form" "_law_form" (defArgs s_law_form) (defBody s_law_form) (defScope s_law_form) .none kV17 dc17 pm17 an17 cd17 ct17), sl17⟩)
    (c_law_form : PySem.W.codeIn K cd17 "_law_form" = true)
    (k_law_form : PySem.W.keepIn K (.ref f_law_form) = true)
    (a_word_at : PySem.W.nsIn K mainGlobals "word_at" = some (some (.ref f_word_at)))
    (l_word_at : K.lookup f_word_at = some ⟨oc18, od18, .func (PySem.W.fnOf "word_at" "word_at" (defArgs s_word_at) (defBody s_word_at) (defScope s_word_at) .none kV18 dc18 pm18 an18 cd18 ct18), sl18⟩)
    (c_word_at : PySem.W.codeIn K cd18 "word_at" = true)
    (k_word_at : PySem.W.keepIn K (.ref f_word_at) = true)
    (a_leaf_of : PySem.W.nsIn K mainGlobals "leaf_of" = some (some (.ref f_leaf_of)))
    (l_leaf_of : K.lookup f_leaf_of = some ⟨oc19, od19, .func (PySem.W.fnOf "leaf_of" "leaf_of" (defArgs s_leaf_of) (defBody s_leaf_of) (defScope s_leaf_of) .none kV19 dc19 pm19 an19 cd19 ct19), sl19⟩)
    (c_leaf_of : PySem.W.codeIn K cd19 "leaf_of" = true)
    (k_leaf_of : PySem.W.keepIn K (.ref f_leaf_of) = true)
    (a_parts_at : PySem.W.nsIn K mainGlobals "parts_at" = some (some (.ref f_parts_at)))
    (l_parts_at : K.lookup f_parts_at = some ⟨oc20, od20, .func (PySem.W.fnOf "parts_at" "parts_at" (defArgs s_parts_at) (defBody s_parts_at) (defScope s_parts_at) .none kV20 dc20 pm20 an20 cd20 ct20), sl20⟩)
    (c_parts_at : PySem.W.codeIn K cd20 "parts_at" = true)
    (k_parts_at : PySem.W.keepIn K (.ref f_parts_at) = true)
    (a_part_at : PySem.W.nsIn K mainGlobals "part_at" = some (some (.ref f_part_at)))
    (l_part_at : K.lookup f_part_at = some ⟨oc21, od21, .func (PySem.W.fnOf "part_at" "part_at" (defArgs s_part_at) (defBody s_part_at) (defScope s_part_at) .none kV21 dc21 pm21 an21 cd21 ct21), sl21⟩)
    (c_part_at : PySem.W.codeIn K cd21 "part_at" = true)
    (k_part_at : PySem.W.keepIn K (.ref f_part_at) = true)
    (a_steps_of : PySem.W.nsIn K mainGlobals "steps_of" = some (some (.ref f_steps_of)))
    (l_steps_of : K.lookup f_steps_of = some ⟨oc22, od22, .func (PySem.W.fnOf "steps_of" "steps_of" (defArgs s_steps_of) (defBody s_steps_of) (defScope s_steps_of) .none kV22 dc22 pm22 an22 cd22 ct22), sl22⟩)
    (c_steps_of : PySem.W.codeIn K cd22 "steps_of" = true)
    (k_steps_of : PySem.W.keepIn K (.ref f_steps_of) = true)
    (a_Test_init : PySem.W.findIn K (.ref C_Test) "__init__" = some (some (.ref f_Test_init)))
    (i_Test_init : PySem.W.isFn K (.ref f_Test_init) = true)
    (l_Test_init : K.lookup f_Test_init = some ⟨oc23, od23, .func (PySem.W.fnOf "__init__" "Test.__init__" (defArgs s_Test_init) (defBody s_Test_init) (defScope s_Test_init) .none kV23 dc23 pm23 an23 cd23 ct23), sl23⟩)
    (c_Test_init : PySem.W.codeIn K cd23 "Test.__init__" = true)
    (k_Test_init : PySem.W.keepIn K (.ref f_Test_init) = true)
    (m_Test_read : PySem.W.typeIn K (.ref C_Test) = some mc_Test_read)
    (rd_Test_read : PySem.W.readsIn K C_Test mc_Test_read = true)
    (ga_Test_read : PySem.W.specialIn K (.ref C_Test) "__getattribute__" = some (some (.builtin "type.__getattribute__")))
    (a_Test_read : PySem.W.findCls K (.ref C_Test) mc_Test_read "read" = some (.get (.builtin "classmethod.__get__") (.ref p_Test_read) .none (.ref C_Test)))
    (r_Test_read : PySem.W.recIn K p_Test_read "classmethod" = some (.ref f_Test_read :: rs_Test_read))
    (fi_Test_read : PySem.W.fnIn K f_Test_read = true)
    (l_Test_read : K.lookup f_Test_read = some ⟨oc24, od24, .func (PySem.W.fnOf "read" "Test.read" (defArgs s_Test_read) (defBody s_Test_read) (defScope s_Test_read) .none kV24 dc24 pm24 an24 cd24 ct24), sl24⟩)
    (c_Test_read : PySem.W.codeIn K cd24 "Test.read" = true)
    (k_Test_read : PySem.W.keepIn K (.ref f_Test_read) = true)
    (a_law_form_text : PySem.W.nsIn K mainGlobals "_law_form_text" = some (some (.ref f_law_form_text)))
    (l_law_form_text : K.lookup f_law_form_text = some ⟨oc25, od25, .func (PySem.W.fnOf "_law_form_text" "_law_form_text" (defArgs s_law_form_text) (defBody s_law_form_text) (defScope s_law_form_text) .none kV25 dc25 pm25 an25 cd25 ct25), sl25⟩)
    (c_law_form_text : PySem.W.codeIn K cd25 "_law_form_text" = true)
    (k_law_form_text : PySem.W.keepIn K (.ref f_law_form_text) = true)
    (m_Test_always : PySem.W.typeIn K (.ref C_Test) = some mc_Test_always)
    (rd_Test_always : PySem.W.readsIn K C_Test mc_Test_always = true)
    (ga_Test_always : PySem.W.specialIn K (.ref C_Test) "__getattribute__" = some (some (.builtin "type.__getattribute__")))
    (a_Test_always : PySem.W.findCls K (.ref C_Test) mc_Test_always "always" = some (.get (.builtin "classmethod.__get__") (.ref p_Test_always) .none (.ref C_Test)))
    (r_Test_always : PySem.W.recIn K p_Test_always "classmethod" = some (.ref f_Test_always :: rs_Test_always))
    (fi_Test_always : PySem.W.fnIn K f_Test_always = true)
    (l_Test_always : K.lookup f_Test_always = some ⟨oc26, od26, .func (PySem.W.fnOf "always" "Test.always" (defArgs s_Test_always) (defBody s_Test_always) (defScope s_Test_always) .none kV26 dc26 pm26 an26 cd26 ct26), sl26⟩)
    (c_Test_always : PySem.W.codeIn K cd26 "Test.always" = true)
    (k_Test_always : PySem.W.keepIn K (.ref f_Test_always) = true)
    (m_Test_equal : PySem.W.typeIn K (.ref C_Test) = some mc_Test_equal)
    (rd_Test_equal : PySem.W.readsIn K C_Test mc_Test_equal = true)
    (ga_Test_equal : PySem.W.specialIn K (.ref C_Test) "__getattribute__" = some (some (.builtin "type.__getattribute__")))
    (a_Test_equal : PySem.W.findCls K (.ref C_Test) mc_Test_equal "equal" = some (.get (.builtin "classmethod.__get__") (.ref p_Test_equal) .none (.ref C_Test)))
    (r_Test_equal : PySem.W.recIn K p_Test_equal "classmethod" = some (.ref f_Test_equal :: rs_Test_equal))
    (fi_Test_equal : PySem.W.fnIn K f_Test_equal = true)
    (l_Test_equal : K.lookup f_Test_equal = some ⟨oc27, od27, .func (PySem.W.fnOf "equal" "Test.equal" (defArgs s_Test_equal) (defBody s_Test_equal) (defScope s_Test_equal) .none kV27 dc27 pm27 an27 cd27 ct27), sl27⟩)
    (c_Test_equal : PySem.W.codeIn K cd27 "Test.equal" = true)
    (k_Test_equal : PySem.W.keepIn K (.ref f_Test_equal) = true)
    (m_Test_alike : PySem.W.typeIn K (.ref C_Test) = some mc_Test_alike)
    (rd_Test_alike : PySem.W.readsIn K C_Test mc_Test_alike = true)
    (ga_Test_alike : PySem.W.specialIn K (.ref C_Test) "__getattribute__" = some (some (.builtin "type.__getattribute__")))
    (a_Test_alike : PySem.W.findCls K (.ref C_Test) mc_Test_alike "alike" = some (.get (.builtin "classmethod.__get__") (.ref p_Test_alike) .none (.ref C_Test)))
    (r_Test_alike : PySem.W.recIn K p_Test_alike "classmethod" = some (.ref f_Test_alike :: rs_Test_alike))
    (fi_Test_alike : PySem.W.fnIn K f_Test_alike = true)
    (l_Test_alike : K.lookup f_Test_alike = some ⟨oc28, od28, .func (PySem.W.fnOf "alike" "Test.alike" (defArgs s_Test_alike) (defBody s_Test_alike) (defScope s_Test_alike) .none kV28 dc28 pm28 an28 cd28 ct28), sl28⟩)
    (c_Test_alike : PySem.W.codeIn K cd28 "Test.alike" = true)
    (k_Test_alike : PySem.W.keepIn K (.ref f_Test_alike) = true)
    (a_Test_invert : PySem.W.findIn K (.ref C_Test) "__invert__" = some (some (.ref f_Test_invert)))
    (i_Test_invert : PySem.W.isFn K (.ref f_Test_invert) = true)
    (l_Test_invert : K.lookup f_Test_invert = some ⟨oc29, od29, .func (PySem.W.fnOf "__invert__" "Test.__invert__" (defArgs s_Test_invert) (defBody s_Test_invert) (defScope s_Test_invert) .none kV29 dc29 pm29 an29 cd29 ct29), sl29⟩)
    (c_Test_invert : PySem.W.codeIn K cd29 "Test.__invert__" = true)
    (k_Test_invert : PySem.W.keepIn K (.ref f_Test_invert) = true)
    (a_Test_and : PySem.W.findIn K (.ref C_Test) "__and__" = some (some (.ref f_Test_and)))
    (i_Test_and : PySem.W.isFn K (.ref f_Test_and) = true)
    (l_Test_and : K.lookup f_Test_and = some ⟨oc30, od30, .func (PySem.W.fnOf "__and__" "Test.__and__" (defArgs s_Test_and) (defBody s_Test_and) (defScope s_Test_and) .none kV30 dc30 pm30 an30 cd30 ct30), sl30⟩)
    (c_Test_and : PySem.W.codeIn K cd30 "Test.__and__" = true)
    (k_Test_and : PySem.W.keepIn K (.ref f_Test_and) = true)
    (a_Test_or : PySem.W.findIn K (.ref C_Test) "__or__" = some (some (.ref f_Test_or)))
    (i_Test_or : PySem.W.isFn K (.ref f_Test_or) = true)
    (l_Test_or : K.lookup f_Test_or = some ⟨oc31, od31, .func (PySem.W.fnOf "__or__" "Test.__or__" (defArgs s_Test_or) (defBody s_Test_or) (defScope s_Test_or) .none kV31 dc31 pm31 an31 cd31 ct31), sl31⟩)
    (c_Test_or : PySem.W.codeIn K cd31 "Test.__or__" = true)
    (k_Test_or : PySem.W.keepIn K (.ref f_Test_or) = true)
    (a_law_built : PySem.W.nsIn K mainGlobals "_law_built" = some (some (.ref f_law_built)))
    (l_law_built : K.lookup f_law_built = some ⟨oc32, od32, .func (PySem.W.fnOf "_law_built" "_law_built" (defArgs s_law_built) (defBody s_law_built) (defScope s_law_built) .none kV32 dc32 pm32 an32 cd32 ct32), sl32⟩)
    (c_law_built : PySem.W.codeIn K cd32 "_law_built" = true)
    (k_law_built : PySem.W.keepIn K (.ref f_law_built) = true)
    (a_law_made_test : PySem.W.nsIn K mainGlobals "_law_made_test" = some (some (.ref f_law_made_test)))
    (l_law_made_test : K.lookup f_law_made_test = some ⟨oc33, od33, .func (PySem.W.fnOf "_law_made_test" "_law_made_test" (defArgs s_law_made_test) (defBody s_law_made_test) (defScope s_law_made_test) .none kV33 dc33 pm33 an33 cd33 ct33), sl33⟩)
    (c_law_made_test : PySem.W.codeIn K cd33 "_law_made_test" = true)
    (k_law_made_test : PySem.W.keepIn K (.ref f_law_made_test) = true)
    (a_law_kinds : PySem.W.nsIn K mainGlobals "_law_kinds" = some (some (.ref f_law_kinds)))
    (l_law_kinds : K.lookup f_law_kinds = some ⟨oc34, od34, .func (PySem.W.fnOf "_law_kinds" "_law_kinds" (defArgs s_law_kinds) (defBody s_law_kinds) (defScope s_law_kinds) .none kV34 dc34 pm34 an34 cd34 ct34), sl34⟩)
    (c_law_kinds : PySem.W.codeIn K cd34 "_law_kinds" = true)
    (k_law_kinds : PySem.W.keepIn K (.ref f_law_kinds) = true)
    (a_law_is_true : PySem.W.nsIn K mainGlobals "_law_is_true" = some (some (.ref f_law_is_true)))
    (l_law_is_true : K.lookup f_law_is_true = some ⟨oc35, od35, .func (PySem.W.fnOf "_law_is_true" "_law_is_true" (defArgs s_law_is_true) (defBody s_law_is_true) (defScope s_law_is_true) .none kV35 dc35 pm35 an35 cd35 ct35), sl35⟩)
    (c_law_is_true : PySem.W.codeIn K cd35 "_law_is_true" = true)
    (k_law_is_true : PySem.W.keepIn K (.ref f_law_is_true) = true)
    (a_Menu_columns : PySem.W.findIn K (.ref C_Menu) "columns" = some (some (.ref p_Menu_columns)))
    (g_Menu_columns : PySem.W.specialIn K (.ref p_Menu_columns) "__get__" = some (some (.builtin "property.__get__")))
    (t_Menu_columns : PySem.W.takesIn K (.ref p_Menu_columns) = some true)
    (r_Menu_columns : PySem.W.recIn K p_Menu_columns "property" = some (.ref f_Menu_columns :: rs_Menu_columns))
    (l_Menu_columns : K.lookup f_Menu_columns = some ⟨oc36, od36, .func (PySem.W.fnOf "columns" "Menu.columns" (defArgs s_Menu_columns) (defBody s_Menu_columns) (defScope s_Menu_columns) .none kV36 dc36 pm36 an36 cd36 ct36), sl36⟩)
    (c_Menu_columns : PySem.W.codeIn K cd36 "Menu.columns" = true)
    (k_Menu_columns : PySem.W.keepIn K (.ref f_Menu_columns) = true)
    (a_names_in : PySem.W.nsIn K mainGlobals "names_in" = some (some (.ref f_names_in)))
    (l_names_in : K.lookup f_names_in = some ⟨oc37, od37, .func (PySem.W.fnOf "names_in" "names_in" (defArgs s_names_in) (defBody s_names_in) (defScope s_names_in) .none kV37 dc37 pm37 an37 cd37 ct37), sl37⟩)
    (c_names_in : PySem.W.codeIn K cd37 "names_in" = true)
    (k_names_in : PySem.W.keepIn K (.ref f_names_in) = true)
    (a_Test_names : PySem.W.findIn K (.ref C_Test) "names" = some (some (.ref f_Test_names)))
    (i_Test_names : PySem.W.isFn K (.ref f_Test_names) = true)
    (l_Test_names : K.lookup f_Test_names = some ⟨oc38, od38, .func (PySem.W.fnOf "names" "Test.names" (defArgs s_Test_names) (defBody s_Test_names) (defScope s_Test_names) .none kV38 dc38 pm38 an38 cd38 ct38), sl38⟩)
    (c_Test_names : PySem.W.codeIn K cd38 "Test.names" = true)
    (k_Test_names : PySem.W.keepIn K (.ref f_Test_names) = true)
    (a_Test_check_menu : PySem.W.findIn K (.ref C_Test) "check_menu" = some (some (.ref f_Test_check_menu)))
    (i_Test_check_menu : PySem.W.isFn K (.ref f_Test_check_menu) = true)
    (l_Test_check_menu : K.lookup f_Test_check_menu = some ⟨oc39, od39, .func (PySem.W.fnOf "check_menu" "Test.check_menu" (defArgs s_Test_check_menu) (defBody s_Test_check_menu) (defScope s_Test_check_menu) .none kV39 dc39 pm39 an39 cd39 ct39), sl39⟩)
    (c_Test_check_menu : PySem.W.codeIn K cd39 "Test.check_menu" = true)
    (k_Test_check_menu : PySem.W.keepIn K (.ref f_Test_check_menu) = true)
    (a_Menu_kinds : PySem.W.findIn K (.ref C_Menu) "kinds" = some (some (.ref p_Menu_kinds)))
    (g_Menu_kinds : PySem.W.specialIn K (.ref p_Menu_kinds) "__get__" = some (some (.builtin "property.__get__")))
    (t_Menu_kinds : PySem.W.takesIn K (.ref p_Menu_kinds) = some true)
    (r_Menu_kinds : PySem.W.recIn K p_Menu_kinds "property" = some (.ref f_Menu_kinds :: rs_Menu_kinds))
    (l_Menu_kinds : K.lookup f_Menu_kinds = some ⟨oc40, od40, .func (PySem.W.fnOf "kinds" "Menu.kinds" (defArgs s_Menu_kinds) (defBody s_Menu_kinds) (defScope s_Menu_kinds) .none kV40 dc40 pm40 an40 cd40 ct40), sl40⟩)
    (c_Menu_kinds : PySem.W.codeIn K cd40 "Menu.kinds" = true)
    (k_Menu_kinds : PySem.W.keepIn K (.ref f_Menu_kinds) = true)
    (a_is_true : PySem.W.nsIn K mainGlobals "is_true" = some (some (.ref f_is_true)))
    (l_is_true : K.lookup f_is_true = some ⟨oc41, od41, .func (PySem.W.fnOf "is_true" "is_true" (defArgs s_is_true) (defBody s_is_true) (defScope s_is_true) .none kV41 dc41 pm41 an41 cd41 ct41), sl41⟩)
    (c_is_true : PySem.W.codeIn K cd41 "is_true" = true)
    (k_is_true : PySem.W.keepIn K (.ref f_is_true) = true)
    (a_seen_kind : PySem.W.nsIn K mainGlobals "seen_kind" = some (some (.ref f_seen_kind)))
    (l_seen_kind : K.lookup f_seen_kind = some ⟨oc42, od42, .func (PySem.W.fnOf "seen_kind" "seen_kind" (defArgs s_seen_kind) (defBody s_seen_kind) (defScope s_seen_kind) .none kV42 dc42 pm42 an42 cd42 ct42), sl42⟩)
    (c_seen_kind : PySem.W.codeIn K cd42 "seen_kind" = true)
    (k_seen_kind : PySem.W.keepIn K (.ref f_seen_kind) = true)
    (a_Test_on : PySem.W.findIn K (.ref C_Test) "on" = some (some (.ref f_Test_on)))
    (i_Test_on : PySem.W.isFn K (.ref f_Test_on) = true)
    (l_Test_on : K.lookup f_Test_on = some ⟨oc43, od43, .func (PySem.W.fnOf "on" "Test.on" (defArgs s_Test_on) (defBody s_Test_on) (defScope s_Test_on) .none kV43 dc43 pm43 an43 cd43 ct43), sl43⟩)
    (c_Test_on : PySem.W.codeIn K cd43 "Test.on" = true)
    (k_Test_on : PySem.W.keepIn K (.ref f_Test_on) = true)
    (a_suits : PySem.W.nsIn K mainGlobals "suits" = some (some (.ref f_suits)))
    (l_suits : K.lookup f_suits = some ⟨oc44, od44, .func (PySem.W.fnOf "suits" "suits" (defArgs s_suits) (defBody s_suits) (defScope s_suits) .none kV44 dc44 pm44 an44 cd44 ct44), sl44⟩)
    (c_suits : PySem.W.codeIn K cd44 "suits" = true)
    (k_suits : PySem.W.keepIn K (.ref f_suits) = true)
    (a_kinds_where : PySem.W.nsIn K mainGlobals "kinds_where" = some (some (.ref f_kinds_where)))
    (l_kinds_where : K.lookup f_kinds_where = some ⟨oc45, od45, .func (PySem.W.fnOf "kinds_where" "kinds_where" (defArgs s_kinds_where) (defBody s_kinds_where) (defScope s_kinds_where) .none kV45 dc45 pm45 an45 cd45 ct45), sl45⟩)
    (c_kinds_where : PySem.W.codeIn K cd45 "kinds_where" = true)
    (k_kinds_where : PySem.W.keepIn K (.ref f_kinds_where) = true)
    (a_Menu_contains : PySem.W.findIn K (.ref C_Menu) "__contains__" = some (some (.ref f_Menu_contains)))
    (i_Menu_contains : PySem.W.isFn K (.ref f_Menu_contains) = true)
    (l_Menu_contains : K.lookup f_Menu_contains = some ⟨oc46, od46, .func (PySem.W.fnOf "__contains__" "Menu.__contains__" (defArgs s_Menu_contains) (defBody s_Menu_contains) (defScope s_Menu_contains) .none kV46 dc46 pm46 an46 cd46 ct46), sl46⟩)
    (c_Menu_contains : PySem.W.codeIn K cd46 "Menu.__contains__" = true)
    (k_Menu_contains : PySem.W.keepIn K (.ref f_Menu_contains) = true)
    (a_Test_call : PySem.W.findIn K (.ref C_Test) "__call__" = some (some (.ref f_Test_call)))
    (i_Test_call : PySem.W.isFn K (.ref f_Test_call) = true)
    (fi_Test_call : PySem.W.fnIn K f_Test_call = true)
    (l_Test_call : K.lookup f_Test_call = some ⟨oc47, od47, .func (PySem.W.fnOf "__call__" "Test.__call__" (defArgs s_Test_call) (defBody s_Test_call) (defScope s_Test_call) .none kV47 dc47 pm47 an47 cd47 ct47), sl47⟩)
    (c_Test_call : PySem.W.codeIn K cd47 "Test.__call__" = true)
    (k_Test_call : PySem.W.keepIn K (.ref f_Test_call) = true)
    (a_law_names_in : PySem.W.nsIn K mainGlobals "_law_names_in" = some (some (.ref f_law_names_in)))
    (l_law_names_in : K.lookup f_law_names_in = some ⟨oc48, od48, .func (PySem.W.fnOf "_law_names_in" "_law_names_in" (defArgs s_law_names_in) (defBody s_law_names_in) (defScope s_law_names_in) .none kV48 dc48 pm48 an48 cd48 ct48), sl48⟩)
    (c_law_names_in : PySem.W.codeIn K cd48 "_law_names_in" = true)
    (k_law_names_in : PySem.W.keepIn K (.ref f_law_names_in) = true)
    (a_text_of : PySem.W.nsIn K mainGlobals "text_of" = some (some (.ref f_text_of)))
    (l_text_of : K.lookup f_text_of = some ⟨oc49, od49, .func (PySem.W.fnOf "text_of" "text_of" (defArgs s_text_of) (defBody s_text_of) (defScope s_text_of) .none kV49 dc49 pm49 an49 cd49 ct49), sl49⟩)
    (c_text_of : PySem.W.codeIn K cd49 "text_of" = true)
    (k_text_of : PySem.W.keepIn K (.ref f_text_of) = true)
    (a_Test_text : PySem.W.findIn K (.ref C_Test) "text" = some (some (.ref f_Test_text)))
    (i_Test_text : PySem.W.isFn K (.ref f_Test_text) = true)
    (l_Test_text : K.lookup f_Test_text = some ⟨oc50, od50, .func (PySem.W.fnOf "text" "Test.text" (defArgs s_Test_text) (defBody s_Test_text) (defScope s_Test_text) .none kV50 dc50 pm50 an50 cd50 ct50), sl50⟩)
    (c_Test_text : PySem.W.codeIn K cd50 "Test.text" = true)
    (k_Test_text : PySem.W.keepIn K (.ref f_Test_text) = true)
    (a_law_test_right : PySem.W.nsIn K mainGlobals "_law_test_right" = some (some (.ref f_law_test_right)))
    (l_law_test_right : K.lookup f_law_test_right = some ⟨oc51, od51, .func (PySem.W.fnOf "_law_test_right" "_law_test_right" (defArgs s_law_test_right) (defBody s_law_test_right) (defScope s_law_test_right) .none kV51 dc51 pm51 an51 cd51 ct51), sl51⟩)
    (c_law_test_right : PySem.W.codeIn K cd51 "_law_test_right" = true)
    (k_law_test_right : PySem.W.keepIn K (.ref f_law_test_right) = true)
    (a_Test_same : PySem.W.findIn K (.ref C_Test) "same" = some (some (.ref f_Test_same)))
    (i_Test_same : PySem.W.isFn K (.ref f_Test_same) = true)
    (l_Test_same : K.lookup f_Test_same = some ⟨oc52, od52, .func (PySem.W.fnOf "same" "Test.same" (defArgs s_Test_same) (defBody s_Test_same) (defScope s_Test_same) .none kV52 dc52 pm52 an52 cd52 ct52), sl52⟩)
    (c_Test_same : PySem.W.codeIn K cd52 "Test.same" = true)
    (k_Test_same : PySem.W.keepIn K (.ref f_Test_same) = true)
    (a_law : PySem.W.nsIn K mainGlobals "law" = some (some (.ref f_law)))
    (l_law : K.lookup f_law = some ⟨oc53, od53, .func (PySem.W.fnOf "law" "law" (defArgs s_law) (defBody s_law) (defScope s_law) .none kV53 dc53 pm53 an53 cd53 ct53), sl53⟩)
    (c_law : PySem.W.codeIn K cd53 "law" = true)
    (k_law : PySem.W.keepIn K (.ref f_law) = true)
    (pgMenu : PySem.W.plainGet K C_Menu Str.empty = true)
    (hdMenu : PySem.W.hasDictIn K C_Menu = true)
    (poMenu : PySem.W.plainOver K C_Menu = true)
    (saMenu : PySem.W.findIn K (.ref C_Menu) "__setattr__" = some (some (.builtin "object.__setattr__")))
    (mkMenu : PySem.W.makesIn K C_Menu = true)
    (kcMenu : PySem.W.keepIn K (.ref C_Menu) = true)
    (pgTest : PySem.W.plainGet K C_Test Str.empty = true)
    (hdTest : PySem.W.hasDictIn K C_Test = true)
    (poTest : PySem.W.plainOver K C_Test = true)
    (saTest : PySem.W.findIn K (.ref C_Test) "__setattr__" = some (some (.builtin "object.__setattr__")))
    (mkTest : PySem.W.makesIn K C_Test = true)
    (kcTest : PySem.W.keepIn K (.ref C_Test) = true)
    (sfTest : PySem.W.selfFirst K C_Test = true)
    (is1Test : PySem.W.findIn K (.ref C_Test) "__class__" = some (some (.builtin "object.__class__")))
    (is2Test : PySem.W.specialIn K (.builtin "object.__class__") "__get__" = some (some (.builtin "getset_descriptor.__get__")))
    (is3Test : PySem.W.takesIn K (.builtin "object.__class__") = some true)
    (is4Test : PySem.W.mroIn K C_Test (.type "object") = some true)
    (n_Menu_own_columns : PySem.W.findIn K (.ref C_Menu) "own_columns" = some none)
    (n_Menu_own_kinds : PySem.W.findIn K (.ref C_Menu) "own_kinds" = some none)
    (n_Test_form : PySem.W.findIn K (.ref C_Test) "form" = some none)
    (z_len : PySem.W.nsIn K mainGlobals "len" = some none)
    (z_isinstance : PySem.W.nsIn K mainGlobals "isinstance" = some none)
    (z_str : PySem.W.nsIn K mainGlobals "str" = some none)
    (z_int : PySem.W.nsIn K mainGlobals "int" = some none)
    (z_list : PySem.W.nsIn K mainGlobals "list" = some none)
    (z_tuple : PySem.W.nsIn K mainGlobals "tuple" = some none)
    (z_all : PySem.W.nsIn K mainGlobals "all" = some none)
    (z_any : PySem.W.nsIn K mainGlobals "any" = some none)
    (z_range : PySem.W.nsIn K mainGlobals "range" = some none)
    (z_abs : PySem.W.nsIn K mainGlobals "abs" = some none)
    (z_max : PySem.W.nsIn K mainGlobals "max" = some none)
    (z_min : PySem.W.nsIn K mainGlobals "min" = some none)
    (z_sum : PySem.W.nsIn K mainGlobals "sum" = some none)
    (z_enumerate : PySem.W.nsIn K mainGlobals "enumerate" = some none)
    (z_zip : PySem.W.nsIn K mainGlobals "zip" = some none)
    (z_set : PySem.W.nsIn K mainGlobals "set" = some none)
    (z_dict : PySem.W.nsIn K mainGlobals "dict" = some none)
    (z_bool : PySem.W.nsIn K mainGlobals "bool" = some none)
    (z_sorted : PySem.W.nsIn K mainGlobals "sorted" = some none)
    (z_reversed : PySem.W.nsIn K mainGlobals "reversed" = some none)
    (z_iter : PySem.W.nsIn K mainGlobals "iter" = some none)
    (y_DIGITS : PySem.W.nsIn K mainGlobals "DIGITS" = some (some (.str "0123456789" tk_DIGITS)))
    (y_LETTERS : PySem.W.nsIn K mainGlobals "LETTERS" = some (some (.str "abcdefghijklmnopqrstuvwxyz" tk_LETTERS)))
    (y_LONGEST : PySem.W.nsIn K mainGlobals "LONGEST" = some (some (.int 8 tk_LONGEST)))
    (y_MOST_COLUMNS : PySem.W.nsIn K mainGlobals "MOST_COLUMNS" = some (some (.int 3 tk_MOST_COLUMNS)))
    (y_MOST_KINDS : PySem.W.nsIn K mainGlobals "MOST_KINDS" = some (some (.int 12 tk_MOST_KINDS)))
    (y_MOST_STEPS : PySem.W.nsIn K mainGlobals "MOST_STEPS" = some (some (.int 60 tk_MOST_STEPS)))
    (y_MOST_WORTHS : PySem.W.nsIn K mainGlobals "MOST_WORTHS" = some (some (.int 12 tk_MOST_WORTHS)))
    : ∃ fd : FuncData, (∀ (s : Shared) (v : Value), BindsTo s fd ⟨[v], []⟩ [("_law_script", v)]) ∧ ∀ base : Heap, K.In base → base.Ns mainGlobals mg → FnOk ol.prog w K mg base CX0 17 fa fd ["_law_script"] (sp_lawE K) := by
  have e := hfa.symm.trans (PySem.W.mg_of X G a_law)
  cases e
  obtain ⟨CL, hC_Menu, hC_Test⟩ : ∃ CL : Str → Addr, CL "Menu" = C_Menu ∧ CL "Test" = C_Test := ⟨fun x => if x = "Menu" then C_Menu else C_Test, (if_pos rfl), ((if_neg (by decide +kernel)).trans rfl)⟩
  subst hC_Menu
  subst hC_Test
  have dA : PySem.dunder Operator.Add.info.2 = ("__add__" : Str) := by decide +kernel
  have dS : PySem.dunder Operator.Sub.info.2 = ("__sub__" : Str) := by decide +kernel
  have dN : PySem.dunder Operator.BitAnd.info.2 = ("__and__" : Str) := by decide +kernel
  have dO : PySem.dunder Operator.BitOr.info.2 = ("__or__" : Str) := by decide +kernel
  have bt : Bt mg := ⟨PySem.W.mg_none_of X G z_len, PySem.W.mg_none_of X G z_isinstance, PySem.W.mg_none_of X G z_str, PySem.W.mg_none_of X G z_int, PySem.W.mg_none_of X G z_list, PySem.W.mg_none_of X G z_tuple, PySem.W.mg_none_of X G z_all, PySem.W.mg_none_of X G z_any, PySem.W.mg_none_of X G z_range, PySem.W.mg_none_of X G z_abs, PySem.W.mg_none_of X G z_max, PySem.W.mg_none_of X G z_min, PySem.W.mg_none_of X G z_sum, PySem.W.mg_none_of X G z_enumerate, PySem.W.mg_none_of X G z_zip, PySem.W.mg_none_of X G z_set, PySem.W.mg_none_of X G z_dict, PySem.W.mg_none_of X G z_bool, PySem.W.mg_none_of X G z_sorted, PySem.W.mg_none_of X G z_reversed, PySem.W.mg_none_of X G z_iter⟩
  have g_DIGITS : ∃ t, mg "DIGITS" = some (.str "0123456789" t) := ⟨_, PySem.W.mg_of X G y_DIGITS⟩
  have g_LETTERS : ∃ t, mg "LETTERS" = some (.str "abcdefghijklmnopqrstuvwxyz" t) := ⟨_, PySem.W.mg_of X G y_LETTERS⟩
  have g_LONGEST : ∃ t, mg "LONGEST" = some (.int 8 t) := ⟨_, PySem.W.mg_of X G y_LONGEST⟩
  have g_MOST_COLUMNS : ∃ t, mg "MOST_COLUMNS" = some (.int 3 t) := ⟨_, PySem.W.mg_of X G y_MOST_COLUMNS⟩
  have g_MOST_KINDS : ∃ t, mg "MOST_KINDS" = some (.int 12 t) := ⟨_, PySem.W.mg_of X G y_MOST_KINDS⟩
  have g_MOST_STEPS : ∃ t, mg "MOST_STEPS" = some (.int 60 t) := ⟨_, PySem.W.mg_of X G y_MOST_STEPS⟩
  have g_MOST_WORTHS : ∃ t, mg "MOST_WORTHS" = some (.int 12 t) := ⟨_, PySem.W.mg_of X G y_MOST_WORTHS⟩
  have cl_Menu : Cls K (CL "Menu") := ⟨pgMenu, hdMenu, poMenu, saMenu⟩
  have gCMenu : mg "Menu" = some (.ref (CL "Menu")) := PySem.W.mg_of X G aCMenu
  have cl_Test : Cls K (CL "Test") := ⟨pgTest, hdTest, poTest, saTest⟩
  have is_Test : IsC K (CL "Test") := ⟨cl_Test, is1Test, is2Test, is3Test, is4Test⟩
  have gCTest : mg "Test" = some (.ref (CL "Test")) := PySem.W.mg_of X G aCTest
  have F_law_bag := fun_mk (st := s_law_bag) l_law_bag c_law_bag k_law_bag
  have b_law_bag := F_law_bag.binds (ps := ["_law_script"]) fun _ _ _ _ _ _ us hl => match us, hl with | [_], _ => rfl
  have F_law_draw := fun_mk (st := s_law_draw) l_law_draw c_law_draw k_law_draw
  have b_law_draw := F_law_draw.binds (ps := ["_law_bag_here", "_law_size"]) fun _ _ _ _ _ _ us hl => match us, hl with | [_, _], _ => rfl
  have F_law_pick := fun_mk (st := s_law_pick) l_law_pick c_law_pick k_law_pick
  have b_law_pick := F_law_pick.binds (ps := ["_law_bag_here", "_law_items"]) fun _ _ _ _ _ _ us hl => match us, hl with | [_, _], _ => rfl
  have F_law_names := fun_mk (st := s_law_names) l_law_names c_law_names k_law_names
  have b_law_names := F_law_names.binds (ps := ["_law_bag_here", "_law_count", "_law_words"]) fun _ _ _ _ _ _ us hl => match us, hl with | [_, _, _], _ => rfl
  have F_law_mixed := fun_mk (st := s_law_mixed) l_law_mixed c_law_mixed k_law_mixed
  have b_law_mixed := F_law_mixed.binds (ps := ["_law_bag_here", "_law_items"]) fun _ _ _ _ _ _ us hl => match us, hl with | [_, _], _ => rfl
  have F_law_product := fun_mk (st := s_law_product) l_law_product c_law_product k_law_product
  have b_law_product := F_law_product.binds (ps := ["_law_plain"]) fun _ _ _ _ _ _ us hl => match us, hl with | [_], _ => rfl
  have F_law_menu := fun_mk (st := s_law_menu) l_law_menu c_law_menu k_law_menu
  have b_law_menu := F_law_menu.binds (ps := ["_law_bag_here", "_law_most"]) fun _ _ _ _ _ _ us hl => match us, hl with | [_, _], _ => rfl
  have F_are_different := fun_mk (st := s_are_different) l_are_different c_are_different k_are_different
  have b_are_different := F_are_different.binds (ps := ["values"]) fun _ _ _ _ _ _ us hl => match us, hl with | [_], _ => rfl
  have F_is_name := fun_mk (st := s_is_name) l_is_name c_is_name k_is_name
  have b_is_name := F_is_name.binds (ps := ["value"]) fun _ _ _ _ _ _ us hl => match us, hl with | [_], _ => rfl
  have F_is_worth := fun_mk (st := s_is_worth) l_is_worth c_is_worth k_is_worth
  have b_is_worth := F_is_worth.binds (ps := ["value"]) fun _ _ _ _ _ _ us hl => match us, hl with | [_], _ => rfl
  have F_is_column := fun_mk (st := s_is_column) l_is_column c_is_column k_is_column
  have b_is_column := F_is_column.binds (ps := ["value"]) fun _ _ _ _ _ _ us hl => match us, hl with | [_], _ => rfl
  have F_kinds_of := fun_mk (st := s_kinds_of) l_kinds_of c_kinds_of k_kinds_of
  have b_kinds_of := F_kinds_of.binds (ps := ["columns"]) fun _ _ _ _ _ _ us hl => match us, hl with | [_], _ => rfl
  have F_are_columns := fun_mk (st := s_are_columns) l_are_columns c_are_columns k_are_columns
  have b_are_columns := F_are_columns.binds (ps := ["value"]) fun _ _ _ _ _ _ us hl => match us, hl with | [_], _ => rfl
  have F_Menu_init := fun_mk (st := s_Menu_init) l_Menu_init c_Menu_init k_Menu_init
  have b_Menu_init := F_Menu_init.binds (ps := ["self", "columns"]) fun _ _ _ _ _ _ us hl => match us, hl with | [_, _], _ => rfl
  have F_Menu_read := fun_mk (st := s_Menu_read) l_Menu_read c_Menu_read k_Menu_read
  have b_Menu_read := F_Menu_read.binds (ps := ["cls", "text"]) fun _ _ _ _ _ _ us hl => match us, hl with | [_, _], _ => rfl
  have F_law_menu_text := fun_mk (st := s_law_menu_text) l_law_menu_text c_law_menu_text k_law_menu_text
  have b_law_menu_text := F_law_menu_text.binds (ps := ["_law_plain"]) fun _ _ _ _ _ _ us hl => match us, hl with | [_], _ => rfl
  have F_law_made_menu := fun_mk (st := s_law_made_menu) l_law_made_menu c_law_made_menu k_law_made_menu
  have b_law_made_menu := F_law_made_menu.binds (ps := ["_law_plain"]) fun _ _ _ _ _ _ us hl => match us, hl with | [_], _ => rfl
  have F_law_form := fun_mk (st := s_law_form) l_law_form c_law_form k_law_form
  have b_law_form := F_law_form.binds (ps := ["_law_bag_here", "_law_plain", "_law_depth"]) fun _ _ _ _ _ _ us hl => match us, hl with | [_, _, _], _ => rfl
  have F_word_at := fun_mk (st := s_word_at) l_word_at c_word_at k_word_at
  have b_word_at := F_word_at.binds (ps := ["text", "at"]) fun _ _ _ _ _ _ us hl => match us, hl with | [_, _], _ => rfl
  have F_leaf_of := fun_mk (st := s_leaf_of) l_leaf_of c_leaf_of k_leaf_of
  have b_leaf_of := F_leaf_of.binds (ps := ["name", "sign", "word"]) fun _ _ _ _ _ _ us hl => match us, hl with | [_, _, _], _ => rfl
  have F_parts_at := fun_mk (st := s_parts_at) l_parts_at c_parts_at k_parts_at
  have b_parts_at := F_parts_at.binds (ps := ["text", "at", "many"]) fun _ _ _ _ _ _ us hl => match us, hl with | [_, _, _], _ => rfl
  have F_part_at := fun_mk (st := s_part_at) l_part_at c_part_at k_part_at
  have b_part_at := F_part_at.binds (ps := ["text", "at"]) fun _ _ _ _ _ _ us hl => match us, hl with | [_, _], _ => rfl
  have F_steps_of := fun_mk (st := s_steps_of) l_steps_of c_steps_of k_steps_of
  have b_steps_of := F_steps_of.binds (ps := ["form"]) fun _ _ _ _ _ _ us hl => match us, hl with | [_], _ => rfl
  have F_Test_init := fun_mk (st := s_Test_init) l_Test_init c_Test_init k_Test_init
  have b_Test_init := F_Test_init.binds (ps := ["self", "form"]) fun _ _ _ _ _ _ us hl => match us, hl with | [_, _], _ => rfl
  have F_Test_read := fun_mk (st := s_Test_read) l_Test_read c_Test_read k_Test_read
  have b_Test_read := F_Test_read.binds (ps := ["cls", "text"]) fun _ _ _ _ _ _ us hl => match us, hl with | [_, _], _ => rfl
  have F_law_form_text := fun_mk (st := s_law_form_text) l_law_form_text c_law_form_text k_law_form_text
  have b_law_form_text := F_law_form_text.binds (ps := ["_law_form_here"]) fun _ _ _ _ _ _ us hl => match us, hl with | [_], _ => rfl
  have F_Test_always := fun_mk (st := s_Test_always) l_Test_always c_Test_always k_Test_always
  have b_Test_always := F_Test_always.binds (ps := ["cls"]) fun _ _ _ _ _ _ us hl => match us, hl with | [_], _ => rfl
  have F_Test_equal := fun_mk (st := s_Test_equal) l_Test_equal c_Test_equal k_Test_equal
  have b_Test_equal := F_Test_equal.binds (ps := ["cls", "column", "worth"]) fun _ _ _ _ _ _ us hl => match us, hl with | [_, _, _], _ => rfl
  have F_Test_alike := fun_mk (st := s_Test_alike) l_Test_alike c_Test_alike k_Test_alike
  have b_Test_alike := F_Test_alike.binds (ps := ["cls", "column", "other"]) fun _ _ _ _ _ _ us hl => match us, hl with | [_, _, _], _ => rfl
  have F_Test_invert := fun_mk (st := s_Test_invert) l_Test_invert c_Test_invert k_Test_invert
  have b_Test_invert := F_Test_invert.binds (ps := ["self"]) fun _ _ _ _ _ _ us hl => match us, hl with | [_], _ => rfl
  have F_Test_and := fun_mk (st := s_Test_and) l_Test_and c_Test_and k_Test_and
  have b_Test_and := F_Test_and.binds (ps := ["self", "other"]) fun _ _ _ _ _ _ us hl => match us, hl with | [_, _], _ => rfl
  have F_Test_or := fun_mk (st := s_Test_or) l_Test_or c_Test_or k_Test_or
  have b_Test_or := F_Test_or.binds (ps := ["self", "other"]) fun _ _ _ _ _ _ us hl => match us, hl with | [_, _], _ => rfl
  have F_law_built := fun_mk (st := s_law_built) l_law_built c_law_built k_law_built
  have b_law_built := F_law_built.binds (ps := ["_law_form_here"]) fun _ _ _ _ _ _ us hl => match us, hl with | [_], _ => rfl
  have F_law_made_test := fun_mk (st := s_law_made_test) l_law_made_test c_law_made_test k_law_made_test
  have b_law_made_test := F_law_made_test.binds (ps := ["_law_bag_here", "_law_form_here"]) fun _ _ _ _ _ _ us hl => match us, hl with | [_, _], _ => rfl
  have F_law_kinds := fun_mk (st := s_law_kinds) l_law_kinds c_law_kinds k_law_kinds
  have b_law_kinds := F_law_kinds.binds (ps := ["_law_plain"]) fun _ _ _ _ _ _ us hl => match us, hl with | [_], _ => rfl
  have F_law_is_true := fun_mk (st := s_law_is_true) l_law_is_true c_law_is_true k_law_is_true
  have b_law_is_true := F_law_is_true.binds (ps := ["_law_plain", "_law_form_here", "_law_kind"]) fun _ _ _ _ _ _ us hl => match us, hl with | [_, _, _], _ => rfl
  have F_Menu_columns := fun_mk (st := s_Menu_columns) l_Menu_columns c_Menu_columns k_Menu_columns
  have b_Menu_columns := F_Menu_columns.binds (ps := ["self"]) fun _ _ _ _ _ _ us hl => match us, hl with | [_], _ => rfl
  have F_names_in := fun_mk (st := s_names_in) l_names_in c_names_in k_names_in
  have b_names_in := F_names_in.binds (ps := ["form"]) fun _ _ _ _ _ _ us hl => match us, hl with | [_], _ => rfl
  have F_Test_names := fun_mk (st := s_Test_names) l_Test_names c_Test_names k_Test_names
  have b_Test_names := F_Test_names.binds (ps := ["self"]) fun _ _ _ _ _ _ us hl => match us, hl with | [_], _ => rfl
  have F_Test_check_menu := fun_mk (st := s_Test_check_menu) l_Test_check_menu c_Test_check_menu k_Test_check_menu
  have b_Test_check_menu := F_Test_check_menu.binds (ps := ["self", "menu"]) fun _ _ _ _ _ _ us hl => match us, hl with | [_, _], _ => rfl
  have F_Menu_kinds := fun_mk (st := s_Menu_kinds) l_Menu_kinds c_Menu_kinds k_Menu_kinds
  have b_Menu_kinds := F_Menu_kinds.binds (ps := ["self"]) fun _ _ _ _ _ _ us hl => match us, hl with | [_], _ => rfl
  have F_is_true := fun_mk (st := s_is_true) l_is_true c_is_true k_is_true
  have b_is_true := F_is_true.binds (ps := ["form", "seen"]) fun _ _ _ _ _ _ us hl => match us, hl with | [_, _], _ => rfl
  have F_seen_kind := fun_mk (st := s_seen_kind) l_seen_kind c_seen_kind k_seen_kind
  have b_seen_kind := F_seen_kind.binds (ps := ["menu", "kind"]) fun _ _ _ _ _ _ us hl => match us, hl with | [_, _], _ => rfl
  have F_Test_on := fun_mk (st := s_Test_on) l_Test_on c_Test_on k_Test_on
  have b_Test_on := F_Test_on.binds (ps := ["self", "menu"]) fun _ _ _ _ _ _ us hl => match us, hl with | [_, _], _ => rfl
  have F_suits := fun_mk (st := s_suits) l_suits c_suits k_suits
  have b_suits := F_suits.binds (ps := ["menu", "form"]) fun _ _ _ _ _ _ us hl => match us, hl with | [_, _], _ => rfl
  have F_kinds_where := fun_mk (st := s_kinds_where) l_kinds_where c_kinds_where k_kinds_where
  have b_kinds_where := F_kinds_where.binds (ps := ["menu", "test"]) fun _ _ _ _ _ _ us hl => match us, hl with | [_, _], _ => rfl
  have F_Menu_contains := fun_mk (st := s_Menu_contains) l_Menu_contains c_Menu_contains k_Menu_contains
  have b_Menu_contains := F_Menu_contains.binds (ps := ["self", "kind"]) fun _ _ _ _ _ _ us hl => match us, hl with | [_, _], _ => rfl
  have F_Test_call := fun_mk (st := s_Test_call) l_Test_call c_Test_call k_Test_call
  have b_Test_call := F_Test_call.binds (ps := ["self", "menu", "kind"]) fun _ _ _ _ _ _ us hl => match us, hl with | [_, _, _], _ => rfl
  have F_law_names_in := fun_mk (st := s_law_names_in) l_law_names_in c_law_names_in k_law_names_in
  have b_law_names_in := F_law_names_in.binds (ps := ["_law_form_here"]) fun _ _ _ _ _ _ us hl => match us, hl with | [_], _ => rfl
  have F_text_of := fun_mk (st := s_text_of) l_text_of c_text_of k_text_of
  have b_text_of := F_text_of.binds (ps := ["form"]) fun _ _ _ _ _ _ us hl => match us, hl with | [_], _ => rfl
  have F_Test_text := fun_mk (st := s_Test_text) l_Test_text c_Test_text k_Test_text
  have b_Test_text := F_Test_text.binds (ps := ["self"]) fun _ _ _ _ _ _ us hl => match us, hl with | [_], _ => rfl
  have F_law_test_right := fun_mk (st := s_law_test_right) l_law_test_right c_law_test_right k_law_test_right
  have b_law_test_right := F_law_test_right.binds (ps := ["_law_bag_here", "_law_test", "_law_form_here", "_law_menu_here", "_law_plain"]) fun _ _ _ _ _ _ us hl => match us, hl with | [_, _, _, _, _], _ => rfl
  have F_Test_same := fun_mk (st := s_Test_same) l_Test_same c_Test_same k_Test_same
  have b_Test_same := F_Test_same.binds (ps := ["self", "other"]) fun _ _ _ _ _ _ us hl => match us, hl with | [_, _], _ => rfl
  have F_law := fun_mk (st := s_law) l_law c_law k_law
  have b_law := F_law.binds (ps := ["_law_script"]) fun _ _ _ _ _ _ us hl => match us, hl with | [_], _ => rfl
  refine ⟨PySem.W.fnOf "law" "law" (defArgs s_law) (defBody s_law) (defScope s_law) .none kV53 dc53 pm53 an53 cd53 ct53, fun s v => .of_eq rfl, fun base _ _ => ?_⟩
  have o_law_bag := ok_law_bag (P := ol.prog) (w := w) (base := base) (C := CL) F_law_bag bt 
  have BC_law_bag : Cal ol.prog w K mg base 1 "_law_bag" ["_law_script"] (sp_law_bag K CL) := ⟨_, _, o_law_bag, PySem.W.mg_of X G a_law_bag, k_law_bag, b_law_bag⟩
  have o_law_draw := ok_law_draw (P := ol.prog) (w := w) (base := base) (C := CL) F_law_draw bt 
  have BC_law_draw : Cal ol.prog w K mg base 1 "_law_draw" ["_law_bag_here", "_law_size"] (sp_law_draw K CL) := ⟨_, _, o_law_draw, PySem.W.mg_of X G a_law_draw, k_law_draw, b_law_draw⟩
  have o_law_pick_spPickListInt := ok_law_pick (List Int) (P := ol.prog) (w := w) (base := base) (C := CL) F_law_pick bt BC_law_draw
  have BC_law_pick_spPickListInt : Cal ol.prog w K mg base 2 "_law_pick" ["_law_bag_here", "_law_items"] (spPick (List Int) K CL) := ⟨_, _, o_law_pick_spPickListInt, PySem.W.mg_of X G a_law_pick, k_law_pick, b_law_pick⟩
  have o_law_pick_spPickStrListStr := ok_law_pick (Str × (List Str)) (P := ol.prog) (w := w) (base := base) (C := CL) F_law_pick bt BC_law_draw
  have BC_law_pick_spPickStrListStr : Cal ol.prog w K mg base 2 "_law_pick" ["_law_bag_here", "_law_items"] (spPick (Str × (List Str)) K CL) := ⟨_, _, o_law_pick_spPickStrListStr, PySem.W.mg_of X G a_law_pick, k_law_pick, b_law_pick⟩
  have o_law_pick_spPickStr := ok_law_pick Str (P := ol.prog) (w := w) (base := base) (C := CL) F_law_pick bt BC_law_draw
  have BC_law_pick_spPickStr : Cal ol.prog w K mg base 2 "_law_pick" ["_law_bag_here", "_law_items"] (spPick Str K CL) := ⟨_, _, o_law_pick_spPickStr, PySem.W.mg_of X G a_law_pick, k_law_pick, b_law_pick⟩
  have o_law_names := ok_law_names (P := ol.prog) (w := w) (base := base) (C := CL) F_law_names bt BC_law_draw
  have BC_law_names : Cal ol.prog w K mg base 2 "_law_names" ["_law_bag_here", "_law_count", "_law_words"] (sp_law_names K CL) := ⟨_, _, o_law_names, PySem.W.mg_of X G a_law_names, k_law_names, b_law_names⟩
  have o_law_mixed_spMixedInt := ok_law_mixed Int (P := ol.prog) (w := w) (base := base) (C := CL) F_law_mixed bt BC_law_draw
  have BC_law_mixed_spMixedInt : Cal ol.prog w K mg base 2 "_law_mixed" ["_law_bag_here", "_law_items"] (spMixed Int K CL) := ⟨_, _, o_law_mixed_spMixedInt, PySem.W.mg_of X G a_law_mixed, k_law_mixed, b_law_mixed⟩
  have o_law_mixed_spMixedStr := ok_law_mixed Str (P := ol.prog) (w := w) (base := base) (C := CL) F_law_mixed bt BC_law_draw
  have BC_law_mixed_spMixedStr : Cal ol.prog w K mg base 2 "_law_mixed" ["_law_bag_here", "_law_items"] (spMixed Str K CL) := ⟨_, _, o_law_mixed_spMixedStr, PySem.W.mg_of X G a_law_mixed, k_law_mixed, b_law_mixed⟩
  have o_law_mixed_spMixedTupK := ok_law_mixed TupK (P := ol.prog) (w := w) (base := base) (C := CL) F_law_mixed bt BC_law_draw
  have BC_law_mixed_spMixedTupK : Cal ol.prog w K mg base 2 "_law_mixed" ["_law_bag_here", "_law_items"] (spMixed TupK K CL) := ⟨_, _, o_law_mixed_spMixedTupK, PySem.W.mg_of X G a_law_mixed, k_law_mixed, b_law_mixed⟩
  have o_law_product := ok_law_product (P := ol.prog) (w := w) (base := base) (C := CL) F_law_product bt 
  have BC_law_product : Cal ol.prog w K mg base 1 "_law_product" ["_law_plain"] (sp_law_product K CL) := ⟨_, _, o_law_product, PySem.W.mg_of X G a_law_product, k_law_product, b_law_product⟩
  have o_law_menu := ok_law_menu (P := ol.prog) (w := w) (base := base) (C := CL) F_law_menu bt BC_law_pick_spPickListInt BC_law_names BC_law_draw BC_law_mixed_spMixedStr BC_law_product
  have BC_law_menu : Cal ol.prog w K mg base 3 "_law_menu" ["_law_bag_here", "_law_most"] (sp_law_menu K CL) := ⟨_, _, o_law_menu, PySem.W.mg_of X G a_law_menu, k_law_menu, b_law_menu⟩
  have o_are_different := ok_are_different (P := ol.prog) (w := w) (base := base) (C := CL) F_are_different bt 
  have BC_are_different : Cal ol.prog w K mg base 1 "are_different" ["values"] (sp_are_different K CL) := ⟨_, _, o_are_different, PySem.W.mg_of X G a_are_different, k_are_different, b_are_different⟩
  have o_is_name := ok_is_name (P := ol.prog) (w := w) (base := base) (C := CL) F_is_name bt g_LETTERS g_LONGEST
  have BC_is_name : Cal ol.prog w K mg base 1 "is_name" ["value"] (sp_is_name K CL) := ⟨_, _, o_is_name, PySem.W.mg_of X G a_is_name, k_is_name, b_is_name⟩
  have o_is_worth := ok_is_worth (P := ol.prog) (w := w) (base := base) (C := CL) F_is_worth bt g_DIGITS g_LETTERS g_LONGEST
  have BC_is_worth : Cal ol.prog w K mg base 1 "is_worth" ["value"] (sp_is_worth K CL) := ⟨_, _, o_is_worth, PySem.W.mg_of X G a_is_worth, k_is_worth, b_is_worth⟩
  have o_is_column := ok_is_column (P := ol.prog) (w := w) (base := base) (C := CL) F_is_column bt BC_is_name BC_are_different BC_is_worth g_MOST_WORTHS
  have BC_is_column : Cal ol.prog w K mg base 2 "is_column" ["value"] (sp_is_column K CL) := ⟨_, _, o_is_column, PySem.W.mg_of X G a_is_column, k_is_column, b_is_column⟩
  have o_kinds_of := ok_kinds_of (P := ol.prog) (w := w) (base := base) (C := CL) F_kinds_of bt 
  have BC_kinds_of : Cal ol.prog w K mg base 1 "kinds_of" ["columns"] (sp_kinds_of K CL) := ⟨_, _, o_kinds_of, PySem.W.mg_of X G a_kinds_of, k_kinds_of, b_kinds_of⟩
  have o_are_columns := ok_are_columns (P := ol.prog) (w := w) (base := base) (C := CL) F_are_columns bt BC_are_different BC_is_column BC_kinds_of g_MOST_COLUMNS g_MOST_KINDS
  have BC_are_columns : Cal ol.prog w K mg base 3 "are_columns" ["value"] (sp_are_columns K CL) := ⟨_, _, o_are_columns, PySem.W.mg_of X G a_are_columns, k_are_columns, b_are_columns⟩
  have o_Menu_init := ok_Menu_init (P := ol.prog) (w := w) (base := base) (C := CL) F_Menu_init bt BC_are_columns BC_kinds_of cl_Menu n_Menu_own_columns n_Menu_own_kinds
  have BM_Menu_init : MakC ol.prog w K mg base 4 (CL "Menu") "Menu" ["self", "columns"] (sp_Menu_init K CL) := ⟨_, _, o_Menu_init, ⟨mkMenu, a_Menu_init, i_Menu_init, kcMenu⟩, gCMenu, b_Menu_init⟩
  have o_Menu_read := ok_Menu_read (P := ol.prog) (w := w) (base := base) (C := CL) F_Menu_read bt BC_are_columns BM_Menu_init
  have BK_Menu_read : CmC ol.prog w K mg base 6 (CL "Menu") "Menu" "read" ["cls", "text"] (sp_Menu_read K CL) := ⟨_, _, mc_Menu_read, _, o_Menu_read, gCMenu, ⟨rd_Menu_read, ga_Menu_read⟩, ⟨a_Menu_read, ⟨_, r_Menu_read⟩, fi_Menu_read⟩, b_Menu_read⟩
  have o_law_menu_text := ok_law_menu_text (P := ol.prog) (w := w) (base := base) (C := CL) F_law_menu_text bt 
  have BC_law_menu_text : Cal ol.prog w K mg base 1 "_law_menu_text" ["_law_plain"] (sp_law_menu_text K CL) := ⟨_, _, o_law_menu_text, PySem.W.mg_of X G a_law_menu_text, k_law_menu_text, b_law_menu_text⟩
  have o_law_made_menu := ok_law_made_menu (P := ol.prog) (w := w) (base := base) (C := CL) F_law_made_menu bt BK_Menu_read BC_law_menu_text BM_Menu_init
  have BC_law_made_menu : Cal ol.prog w K mg base 7 "_law_made_menu" ["_law_plain"] (sp_law_made_menu K CL) := ⟨_, _, o_law_made_menu, PySem.W.mg_of X G a_law_made_menu, k_law_made_menu, b_law_made_menu⟩
  have o_law_form := rec_up (P := ol.prog) (w := w) (K := K) (mg := mg) (base := base) (f := f_law_form) (ps := ["_law_bag_here", "_law_plain", "_law_depth"]) (sp := fun n => sp_law_form n K CL) 2 1 no_law_form (fun n ih => ok_law_form (P := ol.prog) (w := w) (base := base) (C := CL) n (2 + 1 * n) (by omega) F_law_form bt BC_law_draw (⟨_, _, ih, PySem.W.mg_of X G a_law_form, k_law_form, b_law_form⟩ : Cal ol.prog w K mg base (2 + 1 * n) "_law_form" ["_law_bag_here", "_law_plain", "_law_depth"] (sp_law_form n K CL)) BC_law_pick_spPickStrListStr BC_law_pick_spPickStr) 6
  have BC_law_form : Cal ol.prog w K mg base 8 "_law_form" ["_law_bag_here", "_law_plain", "_law_depth"] (sp_law_form 6 K CL) := ⟨_, _, o_law_form, PySem.W.mg_of X G a_law_form, k_law_form, b_law_form⟩
  have o_word_at := ok_word_at (P := ol.prog) (w := w) (base := base) (C := CL) F_word_at bt g_DIGITS g_LETTERS
  have BC_word_at : Cal ol.prog w K mg base 1 "word_at" ["text", "at"] (sp_word_at K CL) := ⟨_, _, o_word_at, PySem.W.mg_of X G a_word_at, k_word_at, b_word_at⟩
  have o_leaf_of := ok_leaf_of (P := ol.prog) (w := w) (base := base) (C := CL) F_leaf_of bt BC_is_worth BC_is_name
  have BC_leaf_of : Cal ol.prog w K mg base 2 "leaf_of" ["name", "sign", "word"] (sp_leaf_of K CL) := ⟨_, _, o_leaf_of, PySem.W.mg_of X G a_leaf_of, k_leaf_of, b_leaf_of⟩
  have o_part_at := rec_up (P := ol.prog) (w := w) (K := K) (mg := mg) (base := base) (f := f_part_at) (ps := ["text", "at"]) (sp := fun n => sp_part_at n K CL) 2 2 no_part_at (fun n ih => ok_part_at (P := ol.prog) (w := w) (base := base) (C := CL) n (2 + 2 * n + 1) (by omega) F_part_at bt BC_word_at BC_leaf_of (⟨_, _, ok_parts_at (P := ol.prog) (w := w) (base := base) (C := CL) n (2 + 2 * n) (by omega) F_parts_at bt (⟨_, _, ih, PySem.W.mg_of X G a_part_at, k_part_at, b_part_at⟩ : Cal ol.prog w K mg base (2 + 2 * n) "part_at" ["text", "at"] (sp_part_at n K CL)), PySem.W.mg_of X G a_parts_at, k_parts_at, b_parts_at⟩ : Cal ol.prog w K mg base (2 + 2 * n + 1) "parts_at" ["text", "at", "many"] (sp_parts_at n K CL))) 6
  have BC_part_at : Cal ol.prog w K mg base 14 "part_at" ["text", "at"] (sp_part_at 6 K CL) := ⟨_, _, o_part_at, PySem.W.mg_of X G a_part_at, k_part_at, b_part_at⟩
  have o_steps_of := rec_up (P := ol.prog) (w := w) (K := K) (mg := mg) (base := base) (f := f_steps_of) (ps := ["form"]) (sp := fun n => sp_steps_of n K CL) 0 1 no_steps_of (fun n ih => ok_steps_of (P := ol.prog) (w := w) (base := base) (C := CL) n (0 + 1 * n) (by omega) F_steps_of bt (⟨_, _, ih, PySem.W.mg_of X G a_steps_of, k_steps_of, b_steps_of⟩ : Cal ol.prog w K mg base (0 + 1 * n) "steps_of" ["form"] (sp_steps_of n K CL))) 6
  have BC_steps_of : Cal ol.prog w K mg base 6 "steps_of" ["form"] (sp_steps_of 6 K CL) := ⟨_, _, o_steps_of, PySem.W.mg_of X G a_steps_of, k_steps_of, b_steps_of⟩
  have o_Test_init := ok_Test_init (P := ol.prog) (w := w) (base := base) (C := CL) F_Test_init bt cl_Test n_Test_form
  have BM_Test_init : MakC ol.prog w K mg base 1 (CL "Test") "Test" ["self", "form"] (sp_Test_init K CL) := ⟨_, _, o_Test_init, ⟨mkTest, a_Test_init, i_Test_init, kcTest⟩, gCTest, b_Test_init⟩
  have o_Test_read := ok_Test_read (P := ol.prog) (w := w) (base := base) (C := CL) F_Test_read bt BC_part_at BC_steps_of BM_Test_init g_MOST_STEPS
  have BK_Test_read : CmC ol.prog w K mg base 15 (CL "Test") "Test" "read" ["cls", "text"] (sp_Test_read K CL) := ⟨_, _, mc_Test_read, _, o_Test_read, gCTest, ⟨rd_Test_read, ga_Test_read⟩, ⟨a_Test_read, ⟨_, r_Test_read⟩, fi_Test_read⟩, b_Test_read⟩
  have o_law_form_text := rec_up (P := ol.prog) (w := w) (K := K) (mg := mg) (base := base) (f := f_law_form_text) (ps := ["_law_form_here"]) (sp := fun n => sp_law_form_text n K CL) 0 1 no_law_form_text (fun n ih => ok_law_form_text (P := ol.prog) (w := w) (base := base) (C := CL) n (0 + 1 * n) (by omega) F_law_form_text bt (⟨_, _, ih, PySem.W.mg_of X G a_law_form_text, k_law_form_text, b_law_form_text⟩ : Cal ol.prog w K mg base (0 + 1 * n) "_law_form_text" ["_law_form_here"] (sp_law_form_text n K CL))) 6
  have BC_law_form_text : Cal ol.prog w K mg base 6 "_law_form_text" ["_law_form_here"] (sp_law_form_text 6 K CL) := ⟨_, _, o_law_form_text, PySem.W.mg_of X G a_law_form_text, k_law_form_text, b_law_form_text⟩
  have o_Test_always := ok_Test_always (P := ol.prog) (w := w) (base := base) (C := CL) F_Test_always bt BM_Test_init
  have BK_Test_always : CmC ol.prog w K mg base 3 (CL "Test") "Test" "always" ["cls"] (sp_Test_always K CL) := ⟨_, _, mc_Test_always, _, o_Test_always, gCTest, ⟨rd_Test_always, ga_Test_always⟩, ⟨a_Test_always, ⟨_, r_Test_always⟩, fi_Test_always⟩, b_Test_always⟩
  have o_Test_equal := ok_Test_equal (P := ol.prog) (w := w) (base := base) (C := CL) F_Test_equal bt BC_is_name BC_is_worth BM_Test_init
  have BK_Test_equal : CmC ol.prog w K mg base 3 (CL "Test") "Test" "equal" ["cls", "column", "worth"] (sp_Test_equal K CL) := ⟨_, _, mc_Test_equal, _, o_Test_equal, gCTest, ⟨rd_Test_equal, ga_Test_equal⟩, ⟨a_Test_equal, ⟨_, r_Test_equal⟩, fi_Test_equal⟩, b_Test_equal⟩
  have o_Test_alike := ok_Test_alike (P := ol.prog) (w := w) (base := base) (C := CL) F_Test_alike bt BC_is_name BM_Test_init
  have BK_Test_alike : CmC ol.prog w K mg base 3 (CL "Test") "Test" "alike" ["cls", "column", "other"] (sp_Test_alike K CL) := ⟨_, _, mc_Test_alike, _, o_Test_alike, gCTest, ⟨rd_Test_alike, ga_Test_alike⟩, ⟨a_Test_alike, ⟨_, r_Test_alike⟩, fi_Test_alike⟩, b_Test_alike⟩
  have o_Test_invert := ok_Test_invert (P := ol.prog) (w := w) (base := base) (C := CL) F_Test_invert bt BM_Test_init cl_Test n_Test_form
  have BV_Test_invert : OwnC ol.prog w K mg base 3 (CL "Test") "__invert__" ["self"] (sp_Test_invert K CL) := ⟨_, _, o_Test_invert, a_Test_invert, i_Test_invert, b_Test_invert⟩
  have o_Test_and := ok_Test_and (P := ol.prog) (w := w) (base := base) (C := CL) F_Test_and bt BM_Test_init cl_Test n_Test_form
  have BB_Test_and : OwnC ol.prog w K mg base 3 (CL "Test") (PySem.dunder Operator.BitAnd.info.2) ["self", "other"] (sp_Test_and K CL) := ⟨_, _, o_Test_and, by rw [dN]; exact a_Test_and, i_Test_and, b_Test_and⟩
  have o_Test_or := ok_Test_or (P := ol.prog) (w := w) (base := base) (C := CL) F_Test_or bt BM_Test_init cl_Test n_Test_form
  have BB_Test_or : OwnC ol.prog w K mg base 3 (CL "Test") (PySem.dunder Operator.BitOr.info.2) ["self", "other"] (sp_Test_or K CL) := ⟨_, _, o_Test_or, by rw [dO]; exact a_Test_or, i_Test_or, b_Test_or⟩
  have o_law_built := rec_up (P := ol.prog) (w := w) (K := K) (mg := mg) (base := base) (f := f_law_built) (ps := ["_law_form_here"]) (sp := fun n => sp_law_built n K CL) 3 1 no_law_built (fun n ih => ok_law_built (P := ol.prog) (w := w) (base := base) (C := CL) n (3 + 1 * n) (by omega) F_law_built bt BK_Test_always BK_Test_equal BK_Test_alike BV_Test_invert (⟨_, _, ih, PySem.W.mg_of X G a_law_built, k_law_built, b_law_built⟩ : Cal ol.prog w K mg base (3 + 1 * n) "_law_built" ["_law_form_here"] (sp_law_built n K CL)) BB_Test_and BB_Test_or sfTest) 6
  have BC_law_built : Cal ol.prog w K mg base 9 "_law_built" ["_law_form_here"] (sp_law_built 6 K CL) := ⟨_, _, o_law_built, PySem.W.mg_of X G a_law_built, k_law_built, b_law_built⟩
  have o_law_made_test := ok_law_made_test (P := ol.prog) (w := w) (base := base) (C := CL) F_law_made_test bt BC_law_draw BK_Test_read BC_law_form_text BC_law_built
  have BC_law_made_test : Cal ol.prog w K mg base 16 "_law_made_test" ["_law_bag_here", "_law_form_here"] (sp_law_made_test K CL) := ⟨_, _, o_law_made_test, PySem.W.mg_of X G a_law_made_test, k_law_made_test, b_law_made_test⟩
  have o_law_kinds := ok_law_kinds (P := ol.prog) (w := w) (base := base) (C := CL) F_law_kinds bt 
  have BC_law_kinds : Cal ol.prog w K mg base 1 "_law_kinds" ["_law_plain"] (sp_law_kinds K CL) := ⟨_, _, o_law_kinds, PySem.W.mg_of X G a_law_kinds, k_law_kinds, b_law_kinds⟩
  have o_law_is_true := rec_up (P := ol.prog) (w := w) (K := K) (mg := mg) (base := base) (f := f_law_is_true) (ps := ["_law_plain", "_law_form_here", "_law_kind"]) (sp := fun n => sp_law_is_true n K CL) 0 1 no_law_is_true (fun n ih => ok_law_is_true (P := ol.prog) (w := w) (base := base) (C := CL) n (0 + 1 * n) (by omega) F_law_is_true bt (⟨_, _, ih, PySem.W.mg_of X G a_law_is_true, k_law_is_true, b_law_is_true⟩ : Cal ol.prog w K mg base (0 + 1 * n) "_law_is_true" ["_law_plain", "_law_form_here", "_law_kind"] (sp_law_is_true n K CL))) 6
  have BC_law_is_true : Cal ol.prog w K mg base 6 "_law_is_true" ["_law_plain", "_law_form_here", "_law_kind"] (sp_law_is_true 6 K CL) := ⟨_, _, o_law_is_true, PySem.W.mg_of X G a_law_is_true, k_law_is_true, b_law_is_true⟩
  have o_Menu_columns := ok_Menu_columns (P := ol.prog) (w := w) (base := base) (C := CL) F_Menu_columns bt cl_Menu n_Menu_own_columns
  have BP_Menu_columns : PropC ol.prog w K mg base 1 (CL "Menu") "columns" (sp_Menu_columns K CL) := ⟨_, _, _, o_Menu_columns, cl_Menu, ⟨a_Menu_columns, g_Menu_columns, t_Menu_columns, ⟨_, r_Menu_columns⟩⟩, b_Menu_columns⟩
  have o_names_in := rec_up (P := ol.prog) (w := w) (K := K) (mg := mg) (base := base) (f := f_names_in) (ps := ["form"]) (sp := fun n => sp_names_in n K CL) 0 1 no_names_in (fun n ih => ok_names_in (P := ol.prog) (w := w) (base := base) (C := CL) n (0 + 1 * n) (by omega) F_names_in bt (⟨_, _, ih, PySem.W.mg_of X G a_names_in, k_names_in, b_names_in⟩ : Cal ol.prog w K mg base (0 + 1 * n) "names_in" ["form"] (sp_names_in n K CL))) 6
  have BC_names_in : Cal ol.prog w K mg base 6 "names_in" ["form"] (sp_names_in 6 K CL) := ⟨_, _, o_names_in, PySem.W.mg_of X G a_names_in, k_names_in, b_names_in⟩
  have o_Test_names := ok_Test_names (P := ol.prog) (w := w) (base := base) (C := CL) F_Test_names bt BC_names_in cl_Test n_Test_form
  have BH_Test_names : MetC ol.prog w K mg base 7 (CL "Test") "names" ["self"] (sp_Test_names K CL) := ⟨_, _, o_Test_names, cl_Test, ⟨a_Test_names, i_Test_names, k_Test_names⟩, b_Test_names⟩
  have o_Test_check_menu := ok_Test_check_menu (P := ol.prog) (w := w) (base := base) (C := CL) F_Test_check_menu bt BP_Menu_columns BH_Test_names
  have BH_Test_check_menu : MetC ol.prog w K mg base 8 (CL "Test") "check_menu" ["self", "menu"] (sp_Test_check_menu K CL) := ⟨_, _, o_Test_check_menu, cl_Test, ⟨a_Test_check_menu, i_Test_check_menu, k_Test_check_menu⟩, b_Test_check_menu⟩
  have o_Menu_kinds := ok_Menu_kinds (P := ol.prog) (w := w) (base := base) (C := CL) F_Menu_kinds bt cl_Menu n_Menu_own_kinds
  have BP_Menu_kinds : PropC ol.prog w K mg base 1 (CL "Menu") "kinds" (sp_Menu_kinds K CL) := ⟨_, _, _, o_Menu_kinds, cl_Menu, ⟨a_Menu_kinds, g_Menu_kinds, t_Menu_kinds, ⟨_, r_Menu_kinds⟩⟩, b_Menu_kinds⟩
  have o_is_true := rec_up (P := ol.prog) (w := w) (K := K) (mg := mg) (base := base) (f := f_is_true) (ps := ["form", "seen"]) (sp := fun n => sp_is_true n K CL) 0 1 no_is_true (fun n ih => ok_is_true (P := ol.prog) (w := w) (base := base) (C := CL) n (0 + 1 * n) (by omega) F_is_true bt (⟨_, _, ih, PySem.W.mg_of X G a_is_true, k_is_true, b_is_true⟩ : Cal ol.prog w K mg base (0 + 1 * n) "is_true" ["form", "seen"] (sp_is_true n K CL))) 6
  have BC_is_true : Cal ol.prog w K mg base 6 "is_true" ["form", "seen"] (sp_is_true 6 K CL) := ⟨_, _, o_is_true, PySem.W.mg_of X G a_is_true, k_is_true, b_is_true⟩
  have o_seen_kind := ok_seen_kind (P := ol.prog) (w := w) (base := base) (C := CL) F_seen_kind bt BP_Menu_columns
  have BC_seen_kind : Cal ol.prog w K mg base 3 "seen_kind" ["menu", "kind"] (sp_seen_kind K CL) := ⟨_, _, o_seen_kind, PySem.W.mg_of X G a_seen_kind, k_seen_kind, b_seen_kind⟩
  have o_Test_on := ok_Test_on (P := ol.prog) (w := w) (base := base) (C := CL) F_Test_on bt BH_Test_check_menu BP_Menu_kinds BC_is_true BC_seen_kind cl_Test n_Test_form
  have BH_Test_on : MetC ol.prog w K mg base 9 (CL "Test") "on" ["self", "menu"] (sp_Test_on K CL) := ⟨_, _, o_Test_on, cl_Test, ⟨a_Test_on, i_Test_on, k_Test_on⟩, b_Test_on⟩
  have o_suits := rec_up (P := ol.prog) (w := w) (K := K) (mg := mg) (base := base) (f := f_suits) (ps := ["menu", "form"]) (sp := fun n => sp_suits n K CL) 2 1 no_suits (fun n ih => ok_suits (P := ol.prog) (w := w) (base := base) (C := CL) n (2 + 1 * n) (by omega) F_suits bt BP_Menu_columns (⟨_, _, ih, PySem.W.mg_of X G a_suits, k_suits, b_suits⟩ : Cal ol.prog w K mg base (2 + 1 * n) "suits" ["menu", "form"] (sp_suits n K CL))) 6
  have BC_suits : Cal ol.prog w K mg base 8 "suits" ["menu", "form"] (sp_suits 6 K CL) := ⟨_, _, o_suits, PySem.W.mg_of X G a_suits, k_suits, b_suits⟩
  have o_kinds_where := ok_kinds_where (P := ol.prog) (w := w) (base := base) (C := CL) F_kinds_where bt BC_suits BH_Test_on is_Test cl_Test n_Test_form gCTest
  have BC_kinds_where : Cal ol.prog w K mg base 10 "kinds_where" ["menu", "test"] (sp_kinds_where K CL) := ⟨_, _, o_kinds_where, PySem.W.mg_of X G a_kinds_where, k_kinds_where, b_kinds_where⟩
  have o_Menu_contains := ok_Menu_contains (P := ol.prog) (w := w) (base := base) (C := CL) F_Menu_contains bt cl_Menu n_Menu_own_kinds
  have BO_Menu_contains : OwnC ol.prog w K mg base 1 (CL "Menu") "__contains__" ["self", "kind"] (sp_Menu_contains K CL) := ⟨_, _, o_Menu_contains, a_Menu_contains, i_Menu_contains, b_Menu_contains⟩
  have o_Test_call := ok_Test_call (P := ol.prog) (w := w) (base := base) (C := CL) F_Test_call bt BH_Test_check_menu BO_Menu_contains BC_is_true BC_seen_kind cl_Test n_Test_form
  have BX_Test_call : OwnC ol.prog w K mg base 9 (CL "Test") "__call__" ["self", "menu", "kind"] (sp_Test_call K CL) := ⟨_, _, o_Test_call, a_Test_call, i_Test_call, b_Test_call⟩
  have o_law_names_in := rec_up (P := ol.prog) (w := w) (K := K) (mg := mg) (base := base) (f := f_law_names_in) (ps := ["_law_form_here"]) (sp := fun n => sp_law_names_in n K CL) 0 1 no_law_names_in (fun n ih => ok_law_names_in (P := ol.prog) (w := w) (base := base) (C := CL) n (0 + 1 * n) (by omega) F_law_names_in bt (⟨_, _, ih, PySem.W.mg_of X G a_law_names_in, k_law_names_in, b_law_names_in⟩ : Cal ol.prog w K mg base (0 + 1 * n) "_law_names_in" ["_law_form_here"] (sp_law_names_in n K CL))) 6
  have BC_law_names_in : Cal ol.prog w K mg base 6 "_law_names_in" ["_law_form_here"] (sp_law_names_in 6 K CL) := ⟨_, _, o_law_names_in, PySem.W.mg_of X G a_law_names_in, k_law_names_in, b_law_names_in⟩
  have o_text_of := rec_up (P := ol.prog) (w := w) (K := K) (mg := mg) (base := base) (f := f_text_of) (ps := ["form"]) (sp := fun n => sp_text_of n K CL) 0 1 no_text_of (fun n ih => ok_text_of (P := ol.prog) (w := w) (base := base) (C := CL) n (0 + 1 * n) (by omega) F_text_of bt (⟨_, _, ih, PySem.W.mg_of X G a_text_of, k_text_of, b_text_of⟩ : Cal ol.prog w K mg base (0 + 1 * n) "text_of" ["form"] (sp_text_of n K CL))) 6
  have BC_text_of : Cal ol.prog w K mg base 6 "text_of" ["form"] (sp_text_of 6 K CL) := ⟨_, _, o_text_of, PySem.W.mg_of X G a_text_of, k_text_of, b_text_of⟩
  have o_Test_text := ok_Test_text (P := ol.prog) (w := w) (base := base) (C := CL) F_Test_text bt BC_text_of cl_Test n_Test_form
  have BH_Test_text : MetC ol.prog w K mg base 7 (CL "Test") "text" ["self"] (sp_Test_text K CL) := ⟨_, _, o_Test_text, cl_Test, ⟨a_Test_text, i_Test_text, k_Test_text⟩, b_Test_text⟩
  have o_law_test_right := ok_law_test_right (P := ol.prog) (w := w) (base := base) (C := CL) F_law_test_right bt BC_law_kinds BC_law_is_true BC_law_mixed_spMixedInt BH_Test_on BC_kinds_where BC_law_mixed_spMixedTupK (⟨_, _, o_Test_call, a_Test_call, i_Test_call, b_Test_call⟩ : OwnC ol.prog w K mg base 9 (CL "Test") "__call__" ["self", "menu", "kind"] (sp_Test_call K CL)) BH_Test_names BC_law_names_in BH_Test_text BC_law_form_text fi_Test_call
  have BC_law_test_right : Cal ol.prog w K mg base 11 "_law_test_right" ["_law_bag_here", "_law_test", "_law_form_here", "_law_menu_here", "_law_plain"] (sp_law_test_right K CL) := ⟨_, _, o_law_test_right, PySem.W.mg_of X G a_law_test_right, k_law_test_right, b_law_test_right⟩
  have o_Test_same := ok_Test_same (P := ol.prog) (w := w) (base := base) (C := CL) F_Test_same bt cl_Test n_Test_form
  have BH_Test_same : MetC ol.prog w K mg base 1 (CL "Test") "same" ["self", "other"] (sp_Test_same K CL) := ⟨_, _, o_Test_same, cl_Test, ⟨a_Test_same, i_Test_same, k_Test_same⟩, b_Test_same⟩
  exact ok_law (P := ol.prog) (w := w) (base := base) (C := CL) F_law bt BC_law_bag BC_law_menu BC_law_made_menu BC_law_form BC_law_draw BC_law_made_test BC_law_test_right BK_Test_read BH_Test_text BH_Test_same BB_Test_and BV_Test_invert BB_Test_or BC_law_mixed_spMixedInt BM_Menu_init BK_Test_equal (⟨_, _, o_Test_call, a_Test_call, i_Test_call, b_Test_call⟩ : OwnC ol.prog w K mg base 9 (CL "Test") "__call__" ["self", "menu", "kind"] (sp_Test_call K CL)) BP_Menu_kinds BH_Test_on sfTest fi_Test_call
theorem walk {ol : PySem.W.OpenLaw} {q : Program} {loose : List Str} {XP : (Str → Option Value) → Heap → Prop} {YP : World → Heap → Prop} {d : DefRec} {KK : Params → PySem.W.Frag} (hn : ol.most = some 63) (hdf : d.params.defaults = []) (hY : ∀ (w : World) (h : Heap), YP w h → (KK w.params).In h)
    (F : ∀ (w : World) (mg : Str → Option Value) (fa : Addr) (h : Heap), (KK w.params).In h → h.Ns mainGlobals mg → mg d.name = some (.ref fa) →
      ∃ fd : FuncData, (∀ (s : Shared) (u : Value), BindsTo s fd ⟨[u], []⟩ [("_law_script", u)]) ∧ ∀ base : Heap, (KK w.params).In base → base.Ns mainGlobals mg → FnOk ol.prog w (KK w.params) mg base CX0 17 fa fd ["_law_script"] (sp_lawE (KK w.params))) :
    PySem.W.WalkO q loose XP YP ol.row.toRowW d [] (fun f vs => PySem.call f vs) :=
  L2.walk_of (n := 63) (k := 17) (x := "_law_script") (CX := fun _ => CX0) (sp := fun w => sp_lawE (KK w.params)) hn (by decide) hdf ⟨rfl, by decide, by decide⟩ hY F (fun _ _ a ns hl _ hS => ⟨a, ns, rfl, hS, hl, fun _ => rfl⟩) fun _ _ _ _ _ z => z
end RG

open PySem PySem.W PyProof.Rows in
set_option maxRecDepth 100000 in
set_option maxHeartbeats 0 in
theorem PySem.Challenge.cw_rowsgone_k16_tests_of_kinds_holds : PySem.Challenge.rw_rowsgone_k16_tests_of_kinds.Holds := by
  w_on; o_law; k_head; (case hw => w_witness2)
  k_fill
  refine RG.walk (ol := PySem.Challenge.rw_rowsgone_k16_tests_of_kinds) rfl rfl (fun w h Y => PySem.W.kIn_of Y) ?F
  case F =>
    intro w mg fa h KX G hmg
    refine' RG.all_mk KX G hmg ?aCMenu ?aCTest ?a_law_bag ?l_law_bag ?c_law_bag ?k_law_bag ?a_law_draw ?l_law_draw ?c_law_draw ?k_law_draw ?a_law_pick ?l_law_pick ?c_law_pick ?k_law_pick ?a_law_names ?l_law_names ?c_law_names ?k_law_names ?a_law_mixed ?l_law_mixed ?c_law_mixed ?k_law_mixed ?a_law_product ?l_law_product ?c_law_product ?k_law_product ?a_law_menu ?l_law_menu ?c_law_menu ?k_law_menu ?a_are_different ?l_are_different ?c_are_different ?k_are_different ?a_is_name ?l_is_name ?c_is_name ?k_is_name ?a_is_worth ?l_is_worth ?c_is_worth ?k_is_worth ?a_is_column ?l_is_column ?c_is_column ?k_is_column ?a_kinds_of ?l_kinds_of ?c_kinds_of ?k_kinds_of ?a_are_columns ?l_are_columns ?c_are_columns ?k_are_columns ?a_Menu_init ?i_Menu_init ?l_Menu_init ?c_Menu_init ?k_Menu_init ?m_Menu_read ?rd_Menu_read ?ga_Menu_read ?a_Menu_read ?r_Menu_read ?fi_Menu_read ?l_Menu_read ?c_Menu_read ?k_Menu_read ?a_law_menu_text ?l_law_menu_text ?c_law_menu_text ?k_law_menu_text ?a_law_made_menu ?l_law_made_menu ?c_law_made_menu ?k_law_made_menu ?a_law_form ?l_law_form ?c_law_form ?k_law_form ?a_word_at ?l_word_at ?c_word_at ?k_word_at ?a_leaf_of ?l_leaf_of ?c_leaf_of ?k_leaf_of ?a_parts_at ?l_parts_at ?c_parts_at ?k_parts_at ?a_part_at ?l_part_at ?c_part_at ?k_part_at ?a_steps_of ?l_steps_of ?c_steps_of ?k_steps_of ?a_Test_init ?i_Test_init ?l_Test_init ?c_Test_init ?k_Test_init ?m_Test_read ?rd_Test_read ?ga_Test_read ?a_Test_read ?r_Test_read ?fi_Test_read ?l_Test_read ?c_Test_read ?k_Test_read ?a_law_form_text ?l_law_form_text ?c_law_form_text ?k_law_form_text ?m_Test_always ?rd_Test_always ?ga_Test_always ?a_Test_always ?r_Test_always ?fi_Test_always ?l_Test_always ?c_Test_always ?k_Test_always ?m_Test_equal ?rd_Test_equal ?ga_Test_equal ?a_Test_equal ?r_Test_equal ?fi_Test_equal ?l_Test_equal ?c_Test_equal ?k_Test_equal ?m_Test_alike ?rd_Test_alike ?ga_Test_alike ?a_Test_alike ?r_Test_alike ?fi_Test_alike ?l_Test_alike ?c_Test_alike ?k_Test_alike ?a_Test_invert ?i_Test_invert ?l_Test_invert ?c_Test_invert ?k_Test_invert ?a_Test_and ?i_Test_and ?l_Test_and ?c_Test_and ?k_Test_and ?a_Test_or ?i_Test_or ?l_Test_or ?c_Test_or ?k_Test_or ?a_law_built ?l_law_built ?c_law_built ?k_law_built ?a_law_made_test ?l_law_made_test ?c_law_made_test ?k_law_made_test ?a_law_kinds ?l_law_kinds ?c_law_kinds ?k_law_kinds ?a_law_is_true ?l_law_is_true ?c_law_is_true ?k_law_is_true ?a_Menu_columns ?g_Menu_columns ?t_Menu_columns ?r_Menu_columns ?l_Menu_columns ?c_Menu_columns ?k_Menu_columns ?a_names_in ?l_names_in ?c_names_in ?k_names_in ?a_Test_names ?i_Test_names ?l_Test_names ?c_Test_names ?k_Test_names ?a_Test_check_menu ?i_Test_check_menu ?l_Test_check_menu ?c_Test_check_menu ?k_Test_check_menu ?a_Menu_kinds ?g_Menu_kinds ?t_Menu_kinds ?r_Menu_kinds ?l_Menu_kinds ?c_Menu_kinds ?k_Menu_kinds ?a_is_true ?l_is_true ?c_is_true ?k_is_true ?a_seen_kind ?l_seen_kind ?c_seen_kind ?k_seen_kind ?a_Test_on ?i_Test_on ?l_Test_on ?c_Test_on ?k_Test_on ?a_suits ?l_suits ?c_suits ?k_suits ?a_kinds_where ?l_kinds_where ?c_kinds_where ?k_kinds_where ?a_Menu_contains ?i_Menu_contains ?l_Menu_contains ?c_Menu_contains ?k_Menu_contains ?a_Test_call ?i_Test_call ?fi_Test_call ?l_Test_call ?c_Test_call ?k_Test_call ?a_law_names_in ?l_law_names_in ?c_law_names_in ?k_law_names_in ?a_text_of ?l_text_of ?c_text_of ?k_text_of ?a_Test_text ?i_Test_text ?l_Test_text ?c_Test_text ?k_Test_text ?a_law_test_right ?l_law_test_right ?c_law_test_right ?k_law_test_right ?a_Test_same ?i_Test_same ?l_Test_same ?c_Test_same ?k_Test_same ?a_law ?l_law ?c_law ?k_law ?pgMenu ?hdMenu ?poMenu ?saMenu ?mkMenu ?kcMenu ?pgTest ?hdTest ?poTest ?saTest ?mkTest ?kcTest ?sfTest ?is1Test ?is2Test ?is3Test ?is4Test ?n_Menu_own_columns ?n_Menu_own_kinds ?n_Test_form ?z_len ?z_isinstance ?z_str ?z_int ?z_list ?z_tuple ?z_all ?z_any ?z_range ?z_abs ?z_max ?z_min ?z_sum ?z_enumerate ?z_zip ?z_set ?z_dict ?z_bool ?z_sorted ?z_reversed ?z_iter ?y_DIGITS ?y_LETTERS ?y_LONGEST ?y_MOST_COLUMNS ?y_MOST_KINDS ?y_MOST_STEPS ?y_MOST_WORTHS
    (case aCMenu => k_is)
    (case aCTest => k_is)
    (case a_law_bag => k_is)
    (case l_law_bag => k_is)
    (case c_law_bag => k_is)
    (case k_law_bag => k_is)
    (case a_law_draw => k_is)
    (case l_law_draw => k_is)
    (case c_law_draw => k_is)
    (case k_law_draw => k_is)
    (case a_law_pick => k_is)
    (case l_law_pick => k_is)
    (case c_law_pick => k_is)
    (case k_law_pick => k_is)
    (case a_law_names => k_is)
    (case l_law_names => k_is)
    (case c_law_names => k_is)
    (case k_law_names => k_is)
    (case a_law_mixed => k_is)
    (case l_law_mixed => k_is)
    (case c_law_mixed => k_is)
    (case k_law_mixed => k_is)
    (case a_law_product => k_is)
    (case l_law_product => k_is)
    (case c_law_product => k_is)
    (case k_law_product => k_is)
    (case a_law_menu => k_is)
    (case l_law_menu => k_is)
    (case c_law_menu => k_is)
    (case k_law_menu => k_is)
    (case a_are_different => k_is)
    (case l_are_different => k_is)
    (case c_are_different => k_is)
    (case k_are_different => k_is)
    (case a_is_name => k_is)
    (case l_is_name => k_is)
    (case c_is_name => k_is)
    (case k_is_name => k_is)
    (case a_is_worth => k_is)
    (case l_is_worth => k_is)
    (case c_is_worth => k_is)
    (case k_is_worth => k_is)
    (case a_is_column => k_is)
    (case l_is_column => k_is)
    (case c_is_column => k_is)
    (case k_is_column => k_is)
    (case a_kinds_of => k_is)
    (case l_kinds_of => k_is)
    (case c_kinds_of => k_is)
    (case k_kinds_of => k_is)
    (case a_are_columns => k_is)
    (case l_are_columns => k_is)
    (case c_are_columns => k_is)
    (case k_are_columns => k_is)
    (case a_Menu_init => k_is)
    (case i_Menu_init => k_is)
    (case l_Menu_init => k_is)
    (case c_Menu_init => k_is)
    (case k_Menu_init => k_is)
    (case m_Menu_read => k_is)
    (case rd_Menu_read => k_is)
    (case ga_Menu_read => k_is)
    (case a_Menu_read => k_is)
    (case r_Menu_read => k_is)
    (case fi_Menu_read => k_is)
    (case l_Menu_read => k_is)
    (case c_Menu_read => k_is)
    (case k_Menu_read => k_is)
    (case a_law_menu_text => k_is)
    (case l_law_menu_text => k_is)
    (case c_law_menu_text => k_is)
    (case k_law_menu_text => k_is)
    (case a_law_made_menu => k_is)
    (case l_law_made_menu => k_is)
    (case c_law_made_menu => k_is)
    (case k_law_made_menu => k_is)
    (case a_law_form => k_is)
    (case l_law_form => k_is)
    (case c_law_form => k_is)
    (case k_law_form => k_is)
    (case a_word_at => k_is)
    (case l_word_at => k_is)
    (case c_word_at => k_is)
    (case k_word_at => k_is)
    (case a_leaf_of => k_is)
    (case l_leaf_of => k_is)
    (case c_leaf_of => k_is)
    (case k_leaf_of => k_is)
    (case a_parts_at => k_is)
    (case l_parts_at => k_is)
    (case c_parts_at => k_is)
    (case k_parts_at => k_is)
    (case a_part_at => k_is)
    (case l_part_at => k_is)
    (case c_part_at => k_is)
    (case k_part_at => k_is)
    (case a_steps_of => k_is)
    (case l_steps_of => k_is)
    (case c_steps_of => k_is)
    (case k_steps_of => k_is)
    (case a_Test_init => k_is)
    (case i_Test_init => k_is)
    (case l_Test_init => k_is)
    (case c_Test_init => k_is)
    (case k_Test_init => k_is)
    (case m_Test_read => k_is)
    (case rd_Test_read => k_is)
    (case ga_Test_read => k_is)
    (case a_Test_read => k_is)
    (case r_Test_read => k_is)
    (case fi_Test_read => k_is)
    (case l_Test_read => k_is)
    (case c_Test_read => k_is)
    (case k_Test_read => k_is)
    (case a_law_form_text => k_is)
    (case l_law_form_text => k_is)
    (case c_law_form_text => k_is)
    (case k_law_form_text => k_is)
    (case m_Test_always => k_is)
    (case rd_Test_always => k_is)
    (case ga_Test_always => k_is)
    (case a_Test_always => k_is)
    (case r_Test_always => k_is)
    (case fi_Test_always => k_is)
    (case l_Test_always => k_is)
    (case c_Test_always => k_is)
    (case k_Test_always => k_is)
    (case m_Test_equal => k_is)
    (case rd_Test_equal => k_is)
    (case ga_Test_equal => k_is)
    (case a_Test_equal => k_is)
    (case r_Test_equal => k_is)
    (case fi_Test_equal => k_is)
    (case l_Test_equal => k_is)
    (case c_Test_equal => k_is)
    (case k_Test_equal => k_is)
    (case m_Test_alike => k_is)
    (case rd_Test_alike => k_is)
    (case ga_Test_alike => k_is)
    (case a_Test_alike => k_is)
    (case r_Test_alike => k_is)
    (case fi_Test_alike => k_is)
    (case l_Test_alike => k_is)
    (case c_Test_alike => k_is)
    (case k_Test_alike => k_is)
    (case a_Test_invert => k_is)
    (case i_Test_invert => k_is)
    (case l_Test_invert => k_is)
    (case c_Test_invert => k_is)
    (case k_Test_invert => k_is)
    (case a_Test_and => k_is)
    (case i_Test_and => k_is)
    (case l_Test_and => k_is)
    (case c_Test_and => k_is)
    (case k_Test_and => k_is)
    (case a_Test_or => k_is)
    (case i_Test_or => k_is)
    (case l_Test_or => k_is)
    (case c_Test_or => k_is)
    (case k_Test_or => k_is)
    (case a_law_built => k_is)
    (case l_law_built => k_is)
    (case c_law_built => k_is)
    (case k_law_built => k_is)
    (case a_law_made_test => k_is)
    (case l_law_made_test => k_is)
    (case c_law_made_test => k_is)
    (case k_law_made_test => k_is)
    (case a_law_kinds => k_is)
    (case l_law_kinds => k_is)
    (case c_law_kinds => k_is)
    (case k_law_kinds => k_is)
    (case a_law_is_true => k_is)
    (case l_law_is_true => k_is)
    (case c_law_is_true => k_is)
    (case k_law_is_true => k_is)
    (case a_Menu_columns => k_is)
    (case g_Menu_columns => k_is)
    (case t_Menu_columns => k_is)
    (case r_Menu_columns => k_is)
    (case l_Menu_columns => k_is)
    (case c_Menu_columns => k_is)
    (case k_Menu_columns => k_is)
    (case a_names_in => k_is)
    (case l_names_in => k_is)
    (case c_names_in => k_is)
    (case k_names_in => k_is)
    (case a_Test_names => k_is)
    (case i_Test_names => k_is)
    (case l_Test_names => k_is)
    (case c_Test_names => k_is)
    (case k_Test_names => k_is)
    (case a_Test_check_menu => k_is)
    (case i_Test_check_menu => k_is)
    (case l_Test_check_menu => k_is)
    (case c_Test_check_menu => k_is)
    (case k_Test_check_menu => k_is)
    (case a_Menu_kinds => k_is)
    (case g_Menu_kinds => k_is)
    (case t_Menu_kinds => k_is)
    (case r_Menu_kinds => k_is)
    (case l_Menu_kinds => k_is)
    (case c_Menu_kinds => k_is)
    (case k_Menu_kinds => k_is)
    (case a_is_true => k_is)
    (case l_is_true => k_is)
    (case c_is_true => k_is)
    (case k_is_true => k_is)
    (case a_seen_kind => k_is)
    (case l_seen_kind => k_is)
    (case c_seen_kind => k_is)
    (case k_seen_kind => k_is)
    (case a_Test_on => k_is)
    (case i_Test_on => k_is)
    (case l_Test_on => k_is)
    (case c_Test_on => k_is)
    (case k_Test_on => k_is)
    (case a_suits => k_is)
    (case l_suits => k_is)
    (case c_suits => k_is)
    (case k_suits => k_is)
    (case a_kinds_where => k_is)
    (case l_kinds_where => k_is)
    (case c_kinds_where => k_is)
    (case k_kinds_where => k_is)
    (case a_Menu_contains => k_is)
    (case i_Menu_contains => k_is)
    (case l_Menu_contains => k_is)
    (case c_Menu_contains => k_is)
    (case k_Menu_contains => k_is)
    (case a_Test_call => k_is)
    (case i_Test_call => k_is)
    (case fi_Test_call => k_is)
    (case l_Test_call => k_is)
    (case c_Test_call => k_is)
    (case k_Test_call => k_is)
    (case a_law_names_in => k_is)
    (case l_law_names_in => k_is)
    (case c_law_names_in => k_is)
    (case k_law_names_in => k_is)
    (case a_text_of => k_is)
    (case l_text_of => k_is)
    (case c_text_of => k_is)
    (case k_text_of => k_is)
    (case a_Test_text => k_is)
    (case i_Test_text => k_is)
    (case l_Test_text => k_is)
    (case c_Test_text => k_is)
    (case k_Test_text => k_is)
    (case a_law_test_right => k_is)
    (case l_law_test_right => k_is)
    (case c_law_test_right => k_is)
    (case k_law_test_right => k_is)
    (case a_Test_same => k_is)
    (case i_Test_same => k_is)
    (case l_Test_same => k_is)
    (case c_Test_same => k_is)
    (case k_Test_same => k_is)
    (case a_law => k_is)
    (case l_law => k_is)
    (case c_law => k_is)
    (case k_law => k_is)
    (case pgMenu => k_is)
    (case hdMenu => k_is)
    (case poMenu => k_is)
    (case saMenu => k_is)
    (case mkMenu => k_is)
    (case kcMenu => k_is)
    (case pgTest => k_is)
    (case hdTest => k_is)
    (case poTest => k_is)
    (case saTest => k_is)
    (case mkTest => k_is)
    (case kcTest => k_is)
    (case sfTest => k_is)
    (case is1Test => k_is)
    (case is2Test => k_is)
    (case is3Test => k_is)
    (case is4Test => k_is)
    (case n_Menu_own_columns => k_is)
    (case n_Menu_own_kinds => k_is)
    (case n_Test_form => k_is)
    (case z_len => k_is)
    (case z_isinstance => k_is)
    (case z_str => k_is)
    (case z_int => k_is)
    (case z_list => k_is)
    (case z_tuple => k_is)
    (case z_all => k_is)
    (case z_any => k_is)
    (case z_range => k_is)
    (case z_abs => k_is)
    (case z_max => k_is)
    (case z_min => k_is)
    (case z_sum => k_is)
    (case z_enumerate => k_is)
    (case z_zip => k_is)
    (case z_set => k_is)
    (case z_dict => k_is)
    (case z_bool => k_is)
    (case z_sorted => k_is)
    (case z_reversed => k_is)
    (case z_iter => k_is)
    (case y_DIGITS => k_is)
    (case y_LETTERS => k_is)
    (case y_LONGEST => k_is)
    (case y_MOST_COLUMNS => k_is)
    (case y_MOST_KINDS => k_is)
    (case y_MOST_STEPS => k_is)
    (case y_MOST_WORTHS => k_is)
