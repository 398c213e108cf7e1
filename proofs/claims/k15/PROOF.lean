import PyProof.Rows.All
import Wide.All
import OpenK.AllK
import Wide.FinOn
import HandS.ForMost
import HandS.Star
import HandS.Deep
import HandS.Zip
import HandS.TupAny
import HandS.TupMul
import HandS.Conv
import HandS.Wide
import HandS.IsInst
import HandS.ClsMeth
import HandS.Property
import HandS.SlotsOwn
import HandS.Text
import HandS.Style
import PyProof.SeqIndex
import HandS.Steps
import HandS.Strs
import PySem.Challenge.RW_rowsgone_k15_menus_and_their_texts
set_option Elab.async false
set_option linter.all false
set_option maxRecDepth 100000
namespace RG
open PySem PySem.Spec PyProof.Rows L2

/-! ### the world of a law: the written part, the bag's address, the classes -/
structure Wd where
  K : PySem.W.Frag
  C : Str → Addr
  b : Addr
  bl : Addr
  ns : List Int

/-- the bag of a law stands at b, its list at bl -/
def BagAt (W : Wd) (H : Hp) : Prop := ∃ (i m s c : Int), H W.b = some (.lst [.ref W.bl, .int i, .int m, .int s, .int c]) ∧ W.bl ≠ W.b ∧ H W.bl = some (.lst (W.ns.map V.int)) ∧ 0 ≤ i ∧ 0 ≤ m

/-- nothing is changed but the bag and the objects of M -/
structure Ex (W : Wd) (M : List Addr) (H H' : Hp) : Prop where
  keep : ∀ a o, a ≠ W.b → a ∉ M → H a = some o → H' a = some o
  some_ : ∀ a, H a ≠ none → H' a ≠ none
  bag : BagAt W H → BagAt W H'

section
variable {W : Wd} {M N : List Addr} {H H1 H2 H' : Hp}
theorem Ex.refl : Ex W M H H := ⟨fun _ _ _ _ e => e, fun _ e => e, id⟩
theorem Ex.trans (a : Ex W M H H1) (b : Ex W M H1 H2) : Ex W M H H2 :=
  ⟨fun x o n m e => b.keep x o n m (a.keep x o n m e), fun x e => b.some_ x (a.some_ x e), fun z => b.bag (a.bag z)⟩
theorem Ex.up (a : Ex W [] H H1) : Ex W M H H1 := ⟨fun x o n _ e => a.keep x o n (by simp) e, a.some_, a.bag⟩
theorem Ex.sub (a : Ex W M H H1) (h : ∀ x ∈ M, x ∈ N) : Ex W N H H1 := ⟨fun x o n m e => a.keep x o n (fun q => m (h x q)) e, a.some_, a.bag⟩
end

/-- M is laid, and so is the bag -/
structure Ok (W : Wd) (M : List Addr) (H : Hp) : Prop where
  bag : BagAt W H
  laid : ∀ a ∈ M, H a ≠ none
section
variable {W : Wd} {M N : List Addr} {H H1 H2 H' : Hp} {p a : Addr} {o : HO}
theorem Ok.b (h : Ok W M H) : H W.b ≠ none := by
  obtain ⟨_, _, _, _, e, _⟩ := h.bag
  rw [e]; exact fun z => nomatch z
theorem Ok.ex (h : Ok W M H) (e : Ex W N H H') : Ok W M H' := ⟨e.bag h.bag, fun a m => e.some_ a (h.laid a m)⟩
theorem Ok.new_b (h : Ok W M H) (hp : H p = none) : p ≠ W.b := fun e => h.b (e ▸ hp)
theorem Ok.new_M (h : Ok W M H) (hp : H p = none) : p ∉ M := fun e => h.laid p e hp
theorem Ok.bl (h : Ok W M H) : H W.bl ≠ none := by
  obtain ⟨_, _, _, _, _, _, e, _⟩ := h.bag
  rw [e]; exact fun z => nomatch z
theorem Ok.new_bl (h : Ok W M H) (hp : H p = none) : p ≠ W.bl := fun e => h.bl (e ▸ hp)
/-- an object beside the bag is changed -/
theorem bag_upd (h : BagAt W H) (h1 : p ≠ W.b) (h2 : p ≠ W.bl) : BagAt W (upd H p o) := by
  obtain ⟨i, m, s, c, e, nl, el, z⟩ := h
  refine ⟨i, m, s, c, ?_, nl, ?_, z⟩
  · rw [upd_ne h1.symm]; exact e
  · rw [upd_ne h2.symm]; exact el
theorem bag_new (h : BagAt W H) (hp : H p = none) : BagAt W (upd H p o) := by
  obtain ⟨i, m, s, c, e, nl, el, z⟩ := id h
  exact bag_upd h (fun q => by rw [q, e] at hp; cases hp) (fun q => by rw [q, el] at hp; cases hp)
/-- a new object -/
theorem Ex.new (hp : H p = none) : Ex W M H (upd H p o) := by
  refine ⟨fun a u n _ e => ?_, fun a e => ?_, fun z => bag_new z hp⟩
  · rw [upd_ne (ne_of_none e hp)]; exact e
  · by_cases h : a = p
    · rw [h, upd_same]; exact fun z => nomatch z
    · rw [upd_ne h]; exact e
/-- a new object joins M -/
theorem Ok.grow (h : Ok W M H) (hp : H p = none) : Ok W (p :: M) (upd H p o) := by
  refine ⟨bag_new h.bag hp, fun a ha => ?_⟩
  by_cases q : a = p
  · rw [q, upd_same]; exact fun z => nomatch z
  · rw [upd_ne q]; exact h.laid a ((List.mem_cons.mp ha).resolve_left q)
theorem Ok.less (h : Ok W (p :: M) H) : Ok W M H := ⟨h.bag, fun a ha => h.laid a (List.mem_cons_of_mem _ ha)⟩
/-- an object of M is changed, which is neither the bag nor its list -/
theorem Ex.mut (h1 : p ≠ W.b) (h2 : p ≠ W.bl) (hm : p ∈ M) : Ex W M H (upd H p o) := by
  refine ⟨fun a u n m e => ?_, fun a e => ?_, fun z => bag_upd z h1 h2⟩
  · rw [upd_ne (fun z : a = p => m (by rw [z]; exact hm))]; exact e
  · by_cases h : a = p
    · rw [h, upd_same]; exact fun z => nomatch z
    · rw [upd_ne h]; exact e
/-- an object that was not there at the beginning is changed -/
theorem Ex.mut0 (e : Ex W M H H1) (ok : Ok W N H) (hp : H p = none) : Ex W M H (upd H1 p o) := by
  have h1 : p ≠ W.b := fun z => ok.b (z ▸ hp)
  have h2 : p ≠ W.bl := fun z => ok.bl (z ▸ hp)
  refine ⟨fun a u n m x => ?_, fun a x => ?_, fun z => bag_upd (e.bag z) h1 h2⟩
  · rw [upd_ne (ne_of_none x hp)]; exact e.keep a u n m x
  · by_cases h : a = p
    · rw [h, upd_same]; exact fun z => nomatch z
    · rw [upd_ne h]; exact e.some_ a x
theorem Ex.free (e : Ex W M H H1) (h : H1 p = none) : H p = none := by
  cases q : H p with
  | none => rfl
  | some o => exact absurd h (e.some_ p (by rw [q]; exact fun z => nomatch z))
end

/-! ### what a heap holds, beside the bag and M -/
def cut (W : Wd) (M : List Addr) (H : Hp) : Hp := fun a => if a = W.b ∨ a ∈ M then none else H a
structure Le (H H' : Hp) : Prop where
  ex : ∀ a o, H a = some o → H' a = some o
theorem Le.refl {H : Hp} : Le H H := ⟨fun _ _ e => e⟩
theorem Le.trans {H H1 H2 : Hp} (a : Le H H1) (b : Le H1 H2) : Le H H2 := ⟨fun x o e => b.ex x o (a.ex x o e)⟩
section
variable {W : Wd} {M N : List Addr} {H H1 H2 H' : Hp} {p a : Addr} {o : HO}
theorem cut_some : cut W M H a = some o ↔ a ≠ W.b ∧ a ∉ M ∧ H a = some o := by
  unfold cut
  by_cases h : a = W.b ∨ a ∈ M
  · rw [if_pos h]
    exact ⟨(fun e => nomatch e), fun ⟨h1, h2, _⟩ => (h.elim h1 h2).elim⟩
  · rw [if_neg h]
    exact ⟨fun e => ⟨fun z => h (.inl z), fun z => h (.inr z), e⟩, fun e => e.2.2⟩
theorem cut_at (e : cut W M H a = some o) : H a = some o := (cut_some.mp e).2.2
theorem Ex.le (e : Ex W M H H') : Le (cut W M H) (cut W M H') := ⟨fun a o q => by
  obtain ⟨h1, h2, h3⟩ := cut_some.mp q
  exact cut_some.mpr ⟨h1, h2, e.keep a o h1 h2 h3⟩⟩
/-- a new object, and M grown by it -/
theorem le_new (hp : H p = none) : Le (cut W M H) (cut W (p :: M) (upd H p o)) := ⟨fun a u q => by
  obtain ⟨h1, h2, h3⟩ := cut_some.mp q
  have n := ne_of_none h3 hp
  exact cut_some.mpr ⟨h1, fun z => (List.mem_cons.mp z).elim n h2, by rw [upd_ne n]; exact h3⟩⟩
theorem le_less : Le (cut W (p :: M) H) (cut W M H) := ⟨fun a u q => by
  obtain ⟨h1, h2, h3⟩ := cut_some.mp q
  exact cut_some.mpr ⟨h1, fun z => h2 (List.mem_cons_of_mem _ z), h3⟩⟩
end

/-! ### data -/
class Py (α : Type) where
  rep : Wd → Hp → V → α → Prop
  mono : ∀ {W : Wd} {H H' : Hp} {v : V} {x : α}, Le H H' → rep W H v x → rep W H' v x
/-- a value that holds the data, beside the bag and M -/
def Rep {α : Type} [Py α] (W : Wd) (M : List Addr) (H : Hp) (v : V) (x : α) : Prop := Py.rep W (cut W M H) v x
instance : Py Int := ⟨fun _ _ v x => v = .int x, fun _ h => h⟩
instance : Py Bool := ⟨fun _ _ v x => v = .bl x, fun _ h => h⟩
instance : Py Str := ⟨fun _ _ v x => v = .str x, fun _ h => h⟩
instance : Py Unit := ⟨fun _ _ v _ => v = .non, fun _ h => h⟩
/-- a tuple of one kind of things -/
structure Tup (α : Type) where
  l : List α
  deriving DecidableEq
instance : Inhabited (Tup α) := ⟨⟨[]⟩⟩
theorem paired_mono {α β : Type} {F G : α → β → Prop} (h : ∀ a b, F a b → G a b) : ∀ {xs : List α} {ys : List β}, Paired F xs ys → Paired G xs ys
  | _, _, .nil => .nil
  | _, _, .cons r t => .cons (h _ _ r) (paired_mono h t)
instance [Py α] : Py (List α) := ⟨fun W H v xs => ∃ a vs, v = .ref a ∧ H a = some (.lst vs) ∧ Paired (Py.rep W H) vs xs,
  fun l ⟨a, vs, e, h, p⟩ => ⟨a, vs, e, l.ex _ _ h, paired_mono (fun _ _ r => Py.mono l r) p⟩⟩
/-- a tuple as it is, or one whose object is known -/
theorem Le.rd {H H' : Hp} (l : Le H H') {a : Addr} {u : HO} (h : Rd H a u) : Rd H' a u := h.elim (fun h => .inl (l.ex _ _ h)) fun ⟨o, h⟩ => .inr ⟨o, l.ex _ _ h⟩
theorem rd_cut {W : Wd} {M : List Addr} {H : Hp} {a : Addr} {u : HO} : Rd (cut W M H) a u ↔ a ≠ W.b ∧ a ∉ M ∧ Rd H a u := by
  refine ⟨fun h => ?_, fun ⟨h1, h2, h⟩ => ?_⟩
  · rcases h with h | ⟨o, h⟩
    · obtain ⟨h1, h2, h3⟩ := cut_some.mp h; exact ⟨h1, h2, .inl h3⟩
    · obtain ⟨h1, h2, h3⟩ := cut_some.mp h; exact ⟨h1, h2, .inr ⟨o, h3⟩⟩
  · rcases h with h | ⟨o, h⟩
    · exact .inl (cut_some.mpr ⟨h1, h2, h⟩)
    · exact .inr ⟨o, cut_some.mpr ⟨h1, h2, h⟩⟩
instance [Py α] : Py (Tup α) := ⟨fun W H v xs => ∃ a vs, v = .ref a ∧ Rd H a (.tup vs) ∧ Paired (Py.rep W H) vs xs.l,
  fun l ⟨a, vs, e, h, p⟩ => ⟨a, vs, e, l.rd h, paired_mono (fun _ _ r => Py.mono l r) p⟩⟩
instance [Py α] [Py β] : Py (α × β) := ⟨fun W H v x => ∃ a v1 v2, v = .ref a ∧ Rd H a (.tup [v1, v2]) ∧ Py.rep W H v1 x.1 ∧ Py.rep W H v2 x.2,
  fun l ⟨a, v1, v2, e, h, r1, r2⟩ => ⟨a, v1, v2, e, l.rd h, Py.mono l r1, Py.mono l r2⟩⟩

section
variable {α β γ : Type} [Py α] [Py β] [Py γ] {W : Wd} {M N : List Addr} {H H1 H2 H' : Hp} {p a : Addr} {o : HO} {v : V} {x : α}
theorem Rep.ex (h : Rep W M H v x) (e : Ex W M H H') : Rep W M H' v x := Py.mono e.le h
theorem Rep.up (h : Rep W M H v x) (e : Ex W [] H H') : Rep W M H' v x := h.ex e.up
theorem Rep.grow (h : Rep W M H v x) (hp : H p = none) : Rep W (p :: M) (upd H p o) v x := Py.mono (le_new hp) h
theorem Rep.less (h : Rep W (p :: M) H v x) : Rep W M H v x := Py.mono le_less h
theorem rep_int {i : Int} : Rep W M H (.int i) i := rfl
theorem rep_bl {i : Bool} : Rep W M H (.bl i) i := rfl
theorem rep_str {i : Str} : Rep W M H (.str i) i := rfl
theorem rep_lst {xs : List α} {vs : List V} (h : H a = some (.lst vs)) (hb : a ≠ W.b) (hm : a ∉ M) (p : Paired (Rep W M H) vs xs) : Rep W M H (.ref a) xs :=
  ⟨a, vs, rfl, cut_some.mpr ⟨hb, hm, h⟩, p⟩
theorem rep_tup {xs : Tup α} {vs : List V} (h : Rd H a (.tup vs)) (hb : a ≠ W.b) (hm : a ∉ M) (p : Paired (Rep W M H) vs xs.l) : Rep W M H (.ref a) xs :=
  ⟨a, vs, rfl, rd_cut.mpr ⟨hb, hm, h⟩, p⟩
theorem rep_pair {x : α × β} {v1 v2 : V} (h : Rd H a (.tup [v1, v2])) (hb : a ≠ W.b) (hm : a ∉ M) (r1 : Rep W M H v1 x.1) (r2 : Rep W M H v2 x.2) : Rep W M H (.ref a) x :=
  ⟨a, v1, v2, rfl, rd_cut.mpr ⟨hb, hm, h⟩, r1, r2⟩
theorem Rep.lst {xs : List α} (h : Rep W M H v xs) : ∃ a vs, v = .ref a ∧ H a = some (.lst vs) ∧ a ≠ W.b ∧ a ∉ M ∧ Paired (Rep W M H) vs xs := by
  obtain ⟨a, vs, e, q, p⟩ := h
  obtain ⟨h1, h2, h3⟩ := cut_some.mp q
  exact ⟨a, vs, e, h3, h1, h2, p⟩
theorem Rep.tup {xs : Tup α} (h : Rep W M H v xs) : ∃ a vs, v = .ref a ∧ Rd H a (.tup vs) ∧ a ≠ W.b ∧ a ∉ M ∧ Paired (Rep W M H) vs xs.l := by
  obtain ⟨a, vs, e, q, p⟩ := h
  obtain ⟨h1, h2, h3⟩ := rd_cut.mp q
  exact ⟨a, vs, e, h3, h1, h2, p⟩
theorem Rep.pair {x : α × β} (h : Rep W M H v x) : ∃ a v1 v2, v = .ref a ∧ Rd H a (.tup [v1, v2]) ∧ a ≠ W.b ∧ a ∉ M ∧ Rep W M H v1 x.1 ∧ Rep W M H v2 x.2 := by
  obtain ⟨a, v1, v2, e, q, r1, r2⟩ := h
  obtain ⟨h1, h2, h3⟩ := rd_cut.mp q
  exact ⟨a, v1, v2, e, h3, h1, h2, r1, r2⟩
end
end RG
namespace RG
open PySem PySem.Spec PyProof.Rows L2

/-! ### what a reading evaluates to -/
def Ev {α : Type} [Py α] (W : Wd) (M : List Addr) (te : TE) (σ : L2.St) (H : Hp) (x : α) : Prop :=
  ∀ H1, Ex W [] H H1 → Ok W M H1 → ∀ Q : VK, (∀ v H2, Ex W [] H1 H2 → Rep W M H2 v x → Q v H2) → te σ H1 Q
/-- .. one of several -/
def EvR {α : Type} [Py α] (W : Wd) (M : List Addr) (te : TE) (σ : L2.St) (H : Hp) (P : α → Prop) : Prop :=
  ∀ H1, Ex W [] H H1 → Ok W M H1 → ∀ Q : VK, (∀ v x H2, P x → Ex W [] H1 H2 → Rep W M H2 v x → Q v H2) → te σ H1 Q
/-- a test's answer -/
def Et (W : Wd) (M : List Addr) (tt : TT) (σ : L2.St) (H : Hp) (b : Bool) : Prop :=
  ∀ H1, Ex W [] H H1 → Ok W M H1 → ∀ Q : Bool → Hp → Prop, (∀ H2, Ex W [] H1 H2 → Q b H2) → tt σ H1 Q
/-- arguments of one kind -/
def Ea {α : Type} [Py α] (W : Wd) (M : List Addr) (ta : TA) (σ : L2.St) (H : Hp) (xs : List α) : Prop :=
  ∀ H1, Ex W [] H H1 → Ok W M H1 → ∀ Q : List V → Hp → Prop, (∀ vs H2, Ex W [] H1 H2 → Paired (Rep W M H2) vs xs → Q vs H2) → ta σ H1 Q
/-- a part of a slice -/
def Eo (W : Wd) (M : List Addr) (to : TO) (σ : L2.St) (H : Hp) (o : Option Int) : Prop :=
  ∀ H1, Ex W [] H H1 → Ok W M H1 → ∀ Q : Option Int → Hp → Prop, (∀ H2, Ex W [] H1 H2 → Q o H2) → to σ H1 Q
/-- slot i holds x -/
def Sl {α : Type} [Py α] (W : Wd) (M : List Addr) (σ : L2.St) (H : Hp) (i : Nat) (x : α) : Prop := ∃ v, σ[i]? = some (some v) ∧ Rep W M H v x

section
variable {α β γ : Type} [Py α] [Py β] [Py γ] {W : Wd} {M N : List Addr} {σ σ' : L2.St} {H H1 H2 H' : Hp} {p a : Addr} {o : HO} {v : V} {x : α} {y : β} {i k : Nat} {te ta tb tc : TE} {t u : TT}
theorem Sl.up (h : Sl W M σ H i x) (e : Ex W [] H H') : Sl W M σ H' i x := let ⟨v, hv, r⟩ := h; ⟨v, hv, r.up e⟩
theorem Sl.ex (h : Sl W M σ H i x) (e : Ex W M H H') : Sl W M σ H' i x := let ⟨v, hv, r⟩ := h; ⟨v, hv, r.ex e⟩
theorem Sl.set (h : Sl W M σ H i x) (e : Ex W [] H H') (n : i ≠ k := by decide) : Sl W M (σ.set k (some v)) H' i x :=
  let ⟨u, hv, r⟩ := h; ⟨u, by rw [List.getElem?_set_ne (Ne.symm n)]; exact hv, r.up e⟩
theorem Sl.setM (h : Sl W M σ H i x) (e : Ex W M H H') (n : i ≠ k := by decide) : Sl W M (σ.set k (some v)) H' i x :=
  let ⟨u, hv, r⟩ := h; ⟨u, by rw [List.getElem?_set_ne (Ne.symm n)]; exact hv, r.ex e⟩
/-- the slot that was stored -/
theorem Sl.here (r : Rep W M H v x) (h : k < σ.length) : Sl W M (σ.set k (some v)) H k x := ⟨v, by rw [List.getElem?_set_self h], r⟩
theorem Sl.grow (h : Sl W M σ H i x) (hp : H p = none) : Sl W (p :: M) σ (upd H p o) i x := let ⟨v, hv, r⟩ := h; ⟨v, hv, r.grow hp⟩
theorem Sl.less (h : Sl W (p :: M) σ H i x) : Sl W M σ H i x := let ⟨v, hv, r⟩ := h; ⟨v, hv, r.less⟩
theorem Sl.lt (h : Sl W M σ H i x) : i < σ.length := let ⟨_, hv, _⟩ := h; (List.getElem?_eq_some_iff.mp hv).1
theorem Sl.wipe (h : Sl W M σ H i x) {vs : List Nat} (n : i ∉ vs := by decide) : Sl W M (L2.wipe σ vs) H i x := by
  obtain ⟨v, hv, r⟩ := h
  refine ⟨v, ?_, r⟩
  induction vs with
  | nil => exact hv
  | cons a l ih =>
    show ((L2.wipe σ l).set a none)[i]? = some (some v)
    rw [List.getElem?_set_ne (fun z => n (by rw [z]; exact List.mem_cons_self))]
    exact ih (fun z => n (List.mem_cons_of_mem _ z))

theorem Ev.up (h : Ev W M te σ H x) (e : Ex W [] H H') : Ev W M te σ H' x := fun H1 a => h H1 (e.trans a)
theorem EvR.up {P : α → Prop} (h : EvR W M te σ H P) (e : Ex W [] H H') : EvR W M te σ H' P := fun H1 a => h H1 (e.trans a)
theorem Et.up {b : Bool} (h : Et W M t σ H b) (e : Ex W [] H H') : Et W M t σ H' b := fun H1 a => h H1 (e.trans a)
theorem Ev.r (h : Ev W M te σ H x) : EvR W M te σ H (fun y => y = x) := fun H1 e o Q q => h H1 e o Q fun v H2 e2 r => q v x H2 rfl e2 r
theorem EvR.imp {P P' : α → Prop} (h : EvR W M te σ H P) (hp : ∀ x, P x → P' x) : EvR W M te σ H P' := fun H1 e o Q q => h H1 e o Q fun v x H2 p e2 r => q v x H2 (hp x p) e2 r
theorem Ev.is {x' : α} (h : Ev W M te σ H x) (e : x = x') : Ev W M te σ H x' := e ▸ h
theorem Et.is {b c : Bool} (h : Et W M t σ H b) (e : b = c) : Et W M t σ H c := e ▸ h

/-! ### names, constants -/
theorem ev_var (h : Sl W M σ H i x) : Ev W M (tVar i) σ H x := fun H1 e _ Q q => let ⟨v, hv, r⟩ := h.up e; ⟨v, hv, q v H1 Ex.refl r⟩
theorem ev_int {n : Int} : Ev W M (tC (.int n)) σ H n := fun H1 _ _ Q q => q _ H1 Ex.refl rep_int
theorem ev_str {s : Str} : Ev W M (tC (.str s)) σ H s := fun H1 _ _ Q q => q _ H1 Ex.refl rep_str
theorem ev_bl {b : Bool} : Ev W M (tC (.bl b)) σ H b := fun H1 _ _ Q q => q _ H1 Ex.refl rep_bl
theorem ev_non : Ev W M (tC .non) σ H () := fun H1 _ _ Q q => q _ H1 Ex.refl rfl

/-! ### whole numbers -/
theorem ev_I0 {g : Int → Int → Int} {m n : Int} (ha : Ev W M ta σ H m) (hb : Ev W M tb σ H n) : Ev W M (tOp (rI0 fun i j => .int (g i j)) ta tb) σ H (g m n) := fun H1 e ok Q q =>
  ha H1 e ok _ fun v H2 e2 r => hb H2 (e.trans e2) (ok.ex e2) _ fun u H3 e3 r3 => ⟨m, n, r, r3, q _ H3 (e2.trans e3) rep_int⟩
theorem ev_B0 {g : Int → Int → Bool} {m n : Int} (ha : Ev W M ta σ H m) (hb : Ev W M tb σ H n) : Ev W M (tOp (rI0 fun i j => .bl (g i j)) ta tb) σ H (g m n) := fun H1 e ok Q q =>
  ha H1 e ok _ fun v H2 e2 r => hb H2 (e.trans e2) (ok.ex e2) _ fun u H3 e3 r3 => ⟨m, n, r, r3, q _ H3 (e2.trans e3) rep_bl⟩
theorem ev_I {C : Int → Int → Prop} {g : Int → Int → Int} {m n : Int} (ha : Ev W M ta σ H m) (hb : Ev W M tb σ H n) (hc : C m n) : Ev W M (tOp (rI C fun i j => .int (g i j)) ta tb) σ H (g m n) := fun H1 e ok Q q =>
  ha H1 e ok _ fun v H2 e2 r => hb H2 (e.trans e2) (ok.ex e2) _ fun u H3 e3 r3 => ⟨m, n, r, r3, hc, q _ H3 (e2.trans e3) rep_int⟩
theorem ev_U {g : Int → Int} {m : Int} (ha : Ev W M ta σ H m) : Ev W M (tUn (rU fun i => .int (g i)) ta) σ H (g m) := fun H1 e ok Q q =>
  ha H1 e ok _ fun v H2 e2 r => ⟨m, r, q _ H2 e2 rep_int⟩
/-- a <= b <= c of ints -/
theorem ev_chain {g g' : Int → Int → Bool} {m n l : Int} (ha : Ev W M ta σ H m) (hb : Ev W M tb σ H n) (hc : Ev W M tc σ H l) :
    Ev W M (tChain (rI0 fun i j => .bl (g i j)) (rI0 fun i j => .bl (g' i j)) ta tb tc) σ H (g m n && g' n l) := fun H1 e ok Q q =>
  ha H1 e ok _ fun v H2 e2 r => hb H2 (e.trans e2) (ok.ex e2) _ fun u H3 e3 r3 => ⟨m, n, r, r3, g m n, rfl, by
    cases hg : g m n with
    | true =>
      rw [if_pos rfl]
      refine hc H3 ((e.trans e2).trans e3) ((ok.ex e2).ex e3) _ fun w H4 e4 r4 => ?_
      exact ⟨n, l, r3, r4, q _ H4 ((e2.trans e3).trans e4) (by rw [hg, Bool.true_and]; exact rep_bl)⟩
    | false =>
      rw [if_neg Bool.false_ne_true]
      exact q _ H3 (e2.trans e3) (by rw [hg, Bool.false_and]; exact rep_bl)⟩

/-! ### truth -/
theorem ev_and {a b : Bool} (h1 : Ev W M ta σ H a) (h2 : a = true → Ev W M tb σ H b) : Ev W M (tAndV ta tb) σ H (a && b) := fun H1 e ok Q q => h1 H1 e ok _ fun v H2 e2 r => ⟨a, r, by
  cases a with
  | true => rw [if_pos rfl]; exact h2 rfl H2 (e.trans e2) (ok.ex e2) Q fun v H3 e3 r3 => q v H3 (e2.trans e3) r3
  | false => rw [if_neg Bool.false_ne_true]; exact q _ H2 e2 rep_bl⟩
theorem ev_or {a b : Bool} (h1 : Ev W M ta σ H a) (h2 : a = false → Ev W M tb σ H b) : Ev W M (tOrV ta tb) σ H (a || b) := fun H1 e ok Q q => h1 H1 e ok _ fun v H2 e2 r => ⟨a, r, by
  cases a with
  | true => rw [if_pos rfl]; exact q _ H2 e2 rep_bl
  | false => rw [if_neg Bool.false_ne_true]; exact h2 rfl H2 (e.trans e2) (ok.ex e2) Q fun v H3 e3 r3 => q v H3 (e2.trans e3) r3⟩
theorem ev_not {a : Bool} (h1 : Ev W M ta σ H a) : Ev W M (tNotV ta) σ H (!a) := fun H1 e ok Q q => h1 H1 e ok _ fun v H2 e2 r => ⟨a, r, q _ H2 e2 rep_bl⟩
theorem ev_ife {b : Bool} {x y : α} (h : Et W M t σ H b) (h1 : b = true → Ev W M ta σ H x) (h2 : b = false → Ev W M tb σ H y) : Ev W M (tIf t ta tb) σ H (if b = true then x else y) := fun H1 e ok Q q => h H1 e ok _ fun H2 e2 => by
  cases b with
  | true =>
    show ta σ H2 Q
    exact h1 rfl H2 (e.trans e2) (ok.ex e2) Q fun v H3 e3 r3 => q v H3 (e2.trans e3) r3
  | false =>
    show tb σ H2 Q
    exact h2 rfl H2 (e.trans e2) (ok.ex e2) Q fun v H3 e3 r3 => q v H3 (e2.trans e3) r3
theorem et_t {b : Bool} (h : Ev W M te σ H b) : Et W M (tTest te) σ H b := fun H1 e ok Q q => h H1 e ok _ fun v H2 e2 r => ⟨b, r, q H2 e2⟩
theorem et_b {b : Bool} (h : Ev W M te σ H b) : Et W M (tB te) σ H b := fun H1 e ok Q q => h H1 e ok _ fun v H2 e2 r => ⟨b, r, q H2 e2⟩
theorem et_not {b : Bool} (h : Et W M t σ H b) : Et W M (tNot t) σ H (!b) := fun H1 e ok Q q => h H1 e ok _ fun H2 e2 => q H2 e2
theorem et_and {a b : Bool} (h1 : Et W M t σ H a) (h2 : a = true → Et W M u σ H b) : Et W M (tAnd t u) σ H (a && b) := fun H1 e ok Q q => h1 H1 e ok _ fun H2 e2 => by
  cases a with
  | true => rw [if_pos rfl]; exact h2 rfl H2 (e.trans e2) (ok.ex e2) Q fun H3 e3 => q H3 (e2.trans e3)
  | false => rw [if_neg Bool.false_ne_true]; exact q H2 e2
theorem et_or {a b : Bool} (h1 : Et W M t σ H a) (h2 : a = false → Et W M u σ H b) : Et W M (tOr t u) σ H (a || b) := fun H1 e ok Q q => h1 H1 e ok _ fun H2 e2 => by
  cases a with
  | true => rw [if_pos rfl]; exact q H2 e2
  | false => rw [if_neg Bool.false_ne_true]; exact h2 rfl H2 (e.trans e2) (ok.ex e2) Q fun H3 e3 => q H3 (e2.trans e3)
end

/-! ### == of scalars -/
class PyS (α : Type) [DecidableEq α] extends Py α where
  toV : α → V
  is : ∀ {W : Wd} {H : Hp} {v : V} {x : α}, rep W H v x ↔ v = toV x
  inj : ∀ {x y : α}, toV x = toV y → x = y
  sc : ∀ x y : α, scal (toV x) (toV y) = true
instance : PyS Int := { toV := V.int, is := Iff.rfl, inj := V.int.inj, sc := fun _ _ => rfl }
instance : PyS Bool := { toV := V.bl, is := Iff.rfl, inj := V.bl.inj, sc := fun _ _ => rfl }
instance : PyS Str := { toV := V.str, is := Iff.rfl, inj := V.str.inj, sc := fun _ _ => rfl }
section
variable {α : Type} [DecidableEq α] [PyS α] {W : Wd} {M : List Addr} {σ : L2.St} {H : Hp} {ta tb : TE} {x y : α}
theorem rep_toV : Rep W M H (PyS.toV x) x := PyS.is.mpr rfl
theorem Rep.toV {v : V} (h : Rep W M H v x) : v = PyS.toV x := PyS.is.mp h
theorem dec_toV : decide (PyS.toV x = PyS.toV y) = decide (x = y) := by
  by_cases h : x = y
  · rw [h]; simp
  · rw [decide_eq_false h, decide_eq_false (fun z => h (PyS.inj z))]
theorem ev_eq (ha : Ev W M ta σ H x) (hb : Ev W M tb σ H y) : Ev W M (tOp rEq ta tb) σ H (decide (x = y)) := fun H1 e ok Q q =>
  ha H1 e ok _ fun v H2 e2 r => hb H2 (e.trans e2) (ok.ex e2) _ fun u H3 e3 r3 => by
    rw [r.toV, r3.toV]
    exact ⟨PyS.sc x y, by rw [dec_toV]; exact q _ H3 (e2.trans e3) rep_bl⟩
theorem ev_ne (ha : Ev W M ta σ H x) (hb : Ev W M tb σ H y) : Ev W M (tOp rNe ta tb) σ H (!decide (x = y)) := fun H1 e ok Q q =>
  ha H1 e ok _ fun v H2 e2 r => hb H2 (e.trans e2) (ok.ex e2) _ fun u H3 e3 r3 => by
    rw [r.toV, r3.toV]
    exact ⟨PyS.sc x y, by rw [dec_toV]; exact q _ H3 (e2.trans e3) rep_bl⟩
theorem paired_toV {xs : List α} : ∀ {vs : List V}, Paired (Rep W M H) vs xs → vs = xs.map PyS.toV := by
  induction xs with
  | nil => intro vs h; cases h; rfl
  | cons x xs ih =>
    intro vs h
    cases h with
    | cons r t => rw [List.map_cons, ← ih t, Rep.toV r]
theorem toV_paired : ∀ {xs : List α}, Paired (Rep W M H) (xs.map PyS.toV) xs
  | [] => .nil
  | _ :: _ => .cons rep_toV toV_paired
end
/-! ### == of data of any kinds (the texts of any signs) -/
section
variable {X : Cx} {pins : List (Addr × Obj)} {σ : L2.St} {H : Hp} {s : Shared}
theorem in1_units (A : Around) : A.in1.units = A.units + 1 := rfl
theorem dpAll_len {K : PySem.W.Frag} : ∀ {ds : List PyData} {vs : List V}, DpAll K H vs ds → vs.length = ds.length
  | [], _, h => by cases h; rfl
  | _ :: _, _, h => by cases h with | cons _ t => rw [List.length_cons, List.length_cons, dpAll_len t]
theorem sqL_uniq (I : L2.Inv X pins σ H s) {a : Addr} {xs ys : List V} (h : SqL X.K H a xs) (h2 : SqL X.K H a ys) : xs = ys := by
  obtain ⟨its, rv, ⟨o, k, e, _, _, hd⟩, _⟩ := I.list h
  obtain ⟨its2, rv2, ⟨o', k', e', _, _, hd'⟩, _⟩ := I.list h2
  rw [e] at e'; cases e'
  rw [hd] at hd'
  injection hd' with h1 _
  have q : its = its2 := congrArg Array.toList h1
  subst q
  exact Vals.inj rv rv2
theorem sqT_uniq (I : L2.Inv X pins σ H s) {a : Addr} {xs ys : List V} (h : SqT X.K H a xs) (h2 : SqT X.K H a ys) : xs = ys := by
  obtain ⟨its, rv, ⟨o, e, _, k, hd⟩, _⟩ := I.tuple h
  obtain ⟨its2, rv2, ⟨o', e', _, k', hd'⟩, _⟩ := I.tuple h2
  rw [e] at e'; cases e'
  rw [hd] at hd'
  injection hd' with h1 _
  have q : its = its2 := congrArg Array.toList h1
  subst q
  exact Vals.inj rv rv2
theorem sq_not (I : L2.Inv X pins σ H s) {a : Addr} {xs ys : List V} (h : SqL X.K H a xs) (h2 : SqT X.K H a ys) : False := by
  obtain ⟨its, rv, ⟨o, k, e, hc, _, hd⟩, _⟩ := I.list h
  obtain ⟨its2, rv2, ⟨o', e', hc', k', hd'⟩, _⟩ := I.tuple h2
  rw [e] at e'; cases e'
  rw [hc] at hc'
  exact absurd hc' (by decide)
mutual
theorem dp_uniq (I : L2.Inv X pins σ H s) : ∀ (d e : PyData) (v : V), Dp X.K H v d → Dp X.K H v e → d = e
  | .none, _, _, h, h2 => by cases h; cases h2; rfl
  | .bool _, _, _, h, h2 => by cases h; cases h2; rfl
  | .int _, _, _, h, h2 => by cases h; cases h2; rfl
  | .str _, _, _, h, h2 => by cases h; cases h2; rfl
  | .list ds, _, _, h, h2 => by
    cases h with
    | lst s1 a1 =>
      cases h2 with
      | lst s2 a2 => rw [sqL_uniq I s1 s2] at a1; rw [dpAll_uniq I ds _ _ a1 a2]
      | tup s2 a2 => exact (sq_not I s1 s2).elim
  | .tuple ds, _, _, h, h2 => by
    cases h with
    | tup s1 a1 =>
      cases h2 with
      | tup s2 a2 => rw [sqT_uniq I s1 s2] at a1; rw [dpAll_uniq I ds _ _ a1 a2]
      | lst s2 a2 => exact (sq_not I s2 s1).elim
  | .dict _, _, _, h, _ => by cases h
theorem dpAll_uniq (I : L2.Inv X pins σ H s) : ∀ (ds es : List PyData) (vs : List V), DpAll X.K H vs ds → DpAll X.K H vs es → ds = es
  | [], _, _, h, h2 => by cases h; cases h2; rfl
  | d :: ds, _, _, h, h2 => by
    cases h with
    | cons a b =>
      cases h2 with
      | cons a2 b2 => rw [dp_uniq I d _ _ a a2, dpAll_uniq I ds _ _ b b2]
end
mutual
theorem eqv_dp {K : PySem.W.Frag} : ∀ (d : PyData) (v : V), Dp K H v d → PyData.eqv d d = true
  | .none, _, _ => rfl
  | .bool _, _, _ => by simp [PyData.eqv]
  | .int _, _, _ => by simp [PyData.eqv]
  | .str _, _, _ => by simp [PyData.eqv]
  | .list ds, _, h => by cases h with | lst _ a => rw [PyData.eqv]; exact eqvAll_dp ds _ a
  | .tuple ds, _, h => by cases h with | tup _ a => rw [PyData.eqv]; exact eqvAll_dp ds _ a
  | .dict _, _, h => by cases h
theorem eqvAll_dp {K : PySem.W.Frag} : ∀ (ds : List PyData) (vs : List V), DpAll K H vs ds → PyData.eqvAll ds ds = true
  | [], _, _ => rfl
  | d :: ds, _, h => by cases h with | cons a b => rw [PyData.eqvAll, eqv_dp d _ a, eqvAll_dp ds _ b]; rfl
end
theorem eqvAll_same {xs ys : List PyData} (h : xs.length = ys.length) : PyData.eqvAll xs ys = (List.range xs.length).all (SeqAt.pairEq xs ys) := by
  rw [← SeqAt.eqvAll_eq xs ys, ← h, Nat.min_self]
  simp
theorem eqvAll_other {xs ys : List PyData} (h : ¬ xs.length = ys.length) : PyData.eqvAll xs ys = false := by
  rw [← SeqAt.eqvAll_eq xs ys]
  simp [h]
open SeqAt in
mutual
theorem eqE (I : L2.Inv X pins σ H s) : ∀ (d e : PyData) (A : Around) (v u : V) (v' u' : Value), Dp X.K H v d → Dp X.K H u e → RelV v v' → RelV u u' → A.units + d.depth < cLine → EqAt A s v' u' (PyData.eqv d e)
  | d, e, A, v, u, v', u', hd, he, r, q, room => by
    have c0 : A.units < cLine := by omega
    cases hd with
    | non =>
      obtain rfl : v' = Value.none := r
      cases he with
      | non => obtain rfl : u' = Value.none := q; exact EqAt.same _
      | bl b => obtain rfl : u' = Value.bool b := q; exact EqAt.none_bool _
      | int i => obtain ⟨t, rfl⟩ := q; exact EqAt.none_int _ _
      | str i => obtain ⟨t, rfl⟩ := q; exact EqAt.none_str _ _
      | lst h _ => cases q; obtain ⟨_, _, pl, _⟩ := I.list h; exact EqAt.none_list pl.isList c0
      | tup h _ => cases q; obtain ⟨_, _, pl, _⟩ := I.tuple h; exact EqAt.none_tuple pl c0
    | bl k =>
      obtain rfl : v' = Value.bool k := r
      cases he with
      | non => obtain rfl : u' = Value.none := q; exact EqAt.bool_none _
      | bl b => obtain rfl : u' = Value.bool b := q; exact EqAt.bool_bool _ _
      | int i => obtain ⟨t, rfl⟩ := q; exact EqAt.bool_int _ _ _
      | str i => obtain ⟨t, rfl⟩ := q; exact EqAt.bool_str _ _ _
      | lst h _ => cases q; obtain ⟨_, _, pl, _⟩ := I.list h; exact EqAt.bool_list _ pl.isList c0
      | tup h _ => cases q; obtain ⟨_, _, pl, _⟩ := I.tuple h; exact EqAt.bool_tuple _ pl c0
    | int k =>
      obtain ⟨t1, rfl⟩ := r
      cases he with
      | non => obtain rfl : u' = Value.none := q; exact EqAt.int_none _ _
      | bl b => obtain rfl : u' = Value.bool b := q; exact EqAt.int_bool _ _ _
      | int i => obtain ⟨t, rfl⟩ := q; exact EqAt.int_int _ _ _ _
      | str i => obtain ⟨t, rfl⟩ := q; exact EqAt.int_str _ _ _ _
      | lst h _ => cases q; obtain ⟨_, _, pl, _⟩ := I.list h; exact EqAt.int_list _ _ pl.isList c0
      | tup h _ => cases q; obtain ⟨_, _, pl, _⟩ := I.tuple h; exact EqAt.int_tuple _ _ pl c0
    | str k =>
      obtain ⟨t1, rfl⟩ := r
      cases he with
      | non => obtain rfl : u' = Value.none := q; exact EqAt.str_none _ _
      | bl b => obtain rfl : u' = Value.bool b := q; exact EqAt.str_bool _ _ _
      | int i => obtain ⟨t, rfl⟩ := q; exact EqAt.str_int _ _ _ _
      | str i => obtain ⟨t, rfl⟩ := q; exact EqAt.str_str _ _ _ _
      | lst h _ => cases q; obtain ⟨_, _, pl, _⟩ := I.list h; exact EqAt.str_list _ _ pl.isList c0
      | tup h _ => cases q; obtain ⟨_, _, pl, _⟩ := I.tuple h; exact EqAt.str_tuple _ _ pl c0
    | @lst a xs ds h ha =>
      cases r
      obtain ⟨its, rv, pl, _⟩ := I.list h
      cases he with
      | non => obtain rfl : u' = Value.none := q; exact EqAt.list_none pl.isList c0
      | bl b => obtain rfl : u' = Value.bool b := q; exact EqAt.list_bool _ pl.isList c0
      | int i => obtain ⟨t, rfl⟩ := q; exact EqAt.list_int _ _ pl.isList c0
      | str i => obtain ⟨t, rfl⟩ := q; exact EqAt.list_str _ _ pl.isList c0
      | tup h2 _ => cases q; obtain ⟨_, _, pl2, _⟩ := I.tuple h2; exact EqAt.list_tuple pl.isList pl2 c0
      | @lst b ys es h2 hb =>
        cases q
        obtain ⟨its2, rv2, pl2, _⟩ := I.list h2
        have n1 : ds.length = its.length := by rw [← rv.length]; exact (dpAll_len ha).symm
        have n2 : es.length = its2.length := by rw [← rv2.length]; exact (dpAll_len hb).symm
        have dd : A.in1.units + PyData.depthAll ds < cLine := by rw [in1_units]; rw [PyData.depth] at room; omega
        by_cases hab : a = b
        · subst hab
          rw [sqL_uniq I h h2] at ha
          have qd := dpAll_uniq I ds es _ ha hb
          rw [qd] at ha ⊢
          rw [show PyData.eqv (.list es) (.list es) = true by rw [PyData.eqv]; exact eqvAll_dp es _ ha]
          exact EqAt.same _
        · refine EqAt.of_refs hab ?_
          have he : ∀ j (h1 : j < its.toArray.size) (h2 : j < its2.toArray.size), EqAt A.in1 s its.toArray[j] its2.toArray[j] (pairEq ds es j) := fun j h1 h2 => by
            have z := eqEAll I ds es A.in1 xs ys its its2 ha hb rv rv2 dd j (by simpa using h1) (by simpa using h2)
            simpa using z
          by_cases hl : its.length = its2.length
          · rw [show PyData.eqv (.list ds) (.list es) = (List.range its.toArray.size).all (pairEq ds es) by rw [PyData.eqv, eqvAll_same (n1.trans (hl.trans n2.symm)), n1]; simp]
            exact RcAt.lists pl.isList pl2.isList (by simpa using hl) c0 he
          · rw [show PyData.eqv (.list ds) (.list es) = false by rw [PyData.eqv]; exact eqvAll_other (fun z => hl (by omega))]
            exact RcAt.lists_lengths pl.isList pl2.isList (by simpa using hl) c0
    | @tup a xs ds h ha =>
      cases r
      obtain ⟨its, rv, pl, _⟩ := I.tuple h
      cases he with
      | non => obtain rfl : u' = Value.none := q; exact EqAt.tuple_none pl c0
      | bl b => obtain rfl : u' = Value.bool b := q; exact EqAt.tuple_bool _ pl c0
      | int i => obtain ⟨t, rfl⟩ := q; exact EqAt.tuple_int _ _ pl c0
      | str i => obtain ⟨t, rfl⟩ := q; exact EqAt.tuple_str _ _ pl c0
      | lst h2 _ => cases q; obtain ⟨_, _, pl2, _⟩ := I.list h2; exact EqAt.tuple_list pl pl2.isList c0
      | @tup b ys es h2 hb =>
        cases q
        obtain ⟨its2, rv2, pl2, _⟩ := I.tuple h2
        have n1 : ds.length = its.length := by rw [← rv.length]; exact (dpAll_len ha).symm
        have n2 : es.length = its2.length := by rw [← rv2.length]; exact (dpAll_len hb).symm
        have dd : A.in1.units + PyData.depthAll ds < cLine := by rw [in1_units]; rw [PyData.depth] at room; omega
        by_cases hab : a = b
        · subst hab
          rw [sqT_uniq I h h2] at ha
          have qd := dpAll_uniq I ds es _ ha hb
          rw [qd] at ha ⊢
          rw [show PyData.eqv (.tuple es) (.tuple es) = true by rw [PyData.eqv]; exact eqvAll_dp es _ ha]
          exact EqAt.same _
        · refine EqAt.of_refs hab ?_
          have he : ∀ j (h1 : j < its.toArray.size) (h2 : j < its2.toArray.size), EqAt A.in1 s its.toArray[j] its2.toArray[j] (pairEq ds es j) := fun j h1 h2 => by
            have z := eqEAll I ds es A.in1 xs ys its its2 ha hb rv rv2 dd j (by simpa using h1) (by simpa using h2)
            simpa using z
          rw [show PyData.eqv (.tuple ds) (.tuple es) = ((List.range (min its.toArray.size its2.toArray.size)).all (pairEq ds es) && its.toArray.size == its2.toArray.size) by rw [PyData.eqv, ← eqvAll_eq, n1, n2]; simp]
          exact RcAt.tuples pl pl2 c0 he
theorem eqEAll (I : L2.Inv X pins σ H s) : ∀ (ds es : List PyData) (A : Around) (vs us : List V) (vs' us' : List Value), DpAll X.K H vs ds → DpAll X.K H us es → Vals vs vs' → Vals us us' → A.units + PyData.depthAll ds < cLine →
    ∀ (j : Nat) (h1 : j < vs'.length) (h2 : j < us'.length), EqAt A s vs'[j] us'[j] (pairEq ds es j)
  | [], _, _, _, _, _, _, ha, _, r, _, _, j, h1, _ => by cases ha; cases r; exact absurd h1 (Nat.not_lt_zero _)
  | _ :: _, [], _, _, _, _, _, _, hb, _, q, _, j, _, h2 => by cases hb; cases q; exact absurd h2 (Nat.not_lt_zero _)
  | d :: ds, e :: es, A, _, _, _, _, ha, hb, r, q, room, j, h1, h2 => by
    have d1 : A.units + d.depth < cLine := by rw [PyData.depthAll] at room; omega
    have d2 : A.units + PyData.depthAll ds < cLine := by rw [PyData.depthAll] at room; omega
    cases ha with
    | cons a1 a2 =>
      cases hb with
      | cons b1 b2 =>
        cases r with
        | cons r1 r2 =>
          cases q with
          | cons q1 q2 =>
            cases j with
            | zero => exact eqE I d e A _ _ _ _ a1 b1 r1 q1 d1
            | succ j => exact eqEAll I ds es A _ _ _ _ a2 b2 r2 q2 d2 j (Nat.lt_of_succ_lt_succ h1) (Nat.lt_of_succ_lt_succ h2)
end
open SeqAt in
theorem rcE (I : L2.Inv X pins σ H s) : ∀ (d e : PyData) (A : Around) (v u : V) (v' u' : Value), Dp X.K H v d → Dp X.K H u e → RelV v v' → RelV u u' → A.units + d.depth < cLine → RcAt A s v' u' (PyData.eqv d e)
  | d, e, A, v, u, v', u', hd, he, r, q, room => by
    have c0 : A.units < cLine := by omega
    cases hd with
    | non =>
      obtain rfl : v' = Value.none := r
      cases he with
      | non => obtain rfl : u' = Value.none := q; exact RcAt.none_none
      | bl b => obtain rfl : u' = Value.bool b := q; exact RcAt.none_bool _
      | int i => obtain ⟨t, rfl⟩ := q; exact RcAt.none_int _ _
      | str i => obtain ⟨t, rfl⟩ := q; exact RcAt.none_str _ _
      | lst h _ => cases q; obtain ⟨_, _, pl, _⟩ := I.list h; exact RcAt.none_list pl.isList c0
      | tup h _ => cases q; obtain ⟨_, _, pl, _⟩ := I.tuple h; exact RcAt.none_tuple pl c0
    | bl k =>
      obtain rfl : v' = Value.bool k := r
      cases he with
      | non => obtain rfl : u' = Value.none := q; exact RcAt.bool_none _
      | bl b => obtain rfl : u' = Value.bool b := q; exact RcAt.bool_bool _ _
      | int i => obtain ⟨t, rfl⟩ := q; exact RcAt.bool_int _ _ _
      | str i => obtain ⟨t, rfl⟩ := q; exact RcAt.bool_str _ _ _
      | lst h _ => cases q; obtain ⟨_, _, pl, _⟩ := I.list h; exact RcAt.bool_list _ pl.isList c0
      | tup h _ => cases q; obtain ⟨_, _, pl, _⟩ := I.tuple h; exact RcAt.bool_tuple _ pl c0
    | int k =>
      obtain ⟨t1, rfl⟩ := r
      cases he with
      | non => obtain rfl : u' = Value.none := q; exact RcAt.int_none _ _
      | bl b => obtain rfl : u' = Value.bool b := q; exact RcAt.int_bool _ _ _
      | int i => obtain ⟨t, rfl⟩ := q; exact RcAt.int_int _ _ _ _
      | str i => obtain ⟨t, rfl⟩ := q; exact RcAt.int_str _ _ _ _
      | lst h _ => cases q; obtain ⟨_, _, pl, _⟩ := I.list h; exact RcAt.int_list _ _ pl.isList c0
      | tup h _ => cases q; obtain ⟨_, _, pl, _⟩ := I.tuple h; exact RcAt.int_tuple _ _ pl c0
    | str k =>
      obtain ⟨t1, rfl⟩ := r
      cases he with
      | non => obtain rfl : u' = Value.none := q; exact RcAt.str_none _ _
      | bl b => obtain rfl : u' = Value.bool b := q; exact RcAt.str_bool _ _ _
      | int i => obtain ⟨t, rfl⟩ := q; exact RcAt.str_int _ _ _ _
      | str i => obtain ⟨t, rfl⟩ := q; exact RcAt.str_str _ _ _ _
      | lst h _ => cases q; obtain ⟨_, _, pl, _⟩ := I.list h; exact RcAt.str_list _ _ pl.isList c0
      | tup h _ => cases q; obtain ⟨_, _, pl, _⟩ := I.tuple h; exact RcAt.str_tuple _ _ pl c0
    | @lst a xs ds h ha =>
      cases r
      obtain ⟨its, rv, pl, _⟩ := I.list h
      cases he with
      | non => obtain rfl : u' = Value.none := q; exact RcAt.list_none pl.isList c0
      | bl b => obtain rfl : u' = Value.bool b := q; exact RcAt.list_bool _ pl.isList c0
      | int i => obtain ⟨t, rfl⟩ := q; exact RcAt.list_int _ _ pl.isList c0
      | str i => obtain ⟨t, rfl⟩ := q; exact RcAt.list_str _ _ pl.isList c0
      | tup h2 _ => cases q; obtain ⟨_, _, pl2, _⟩ := I.tuple h2; exact RcAt.list_tuple pl.isList pl2 c0
      | @lst b ys es h2 hb =>
        cases q
        obtain ⟨its2, rv2, pl2, _⟩ := I.list h2
        have n1 : ds.length = its.length := by rw [← rv.length]; exact (dpAll_len ha).symm
        have n2 : es.length = its2.length := by rw [← rv2.length]; exact (dpAll_len hb).symm
        have dd : A.in1.units + PyData.depthAll ds < cLine := by rw [in1_units]; rw [PyData.depth] at room; omega
        have he : ∀ j (h1 : j < its.toArray.size) (h2 : j < its2.toArray.size), EqAt A.in1 s its.toArray[j] its2.toArray[j] (pairEq ds es j) := fun j h1 h2 => by
          have z := eqEAll I ds es A.in1 xs ys its its2 ha hb rv rv2 dd j (by simpa using h1) (by simpa using h2)
          simpa using z
        by_cases hl : its.length = its2.length
        · rw [show PyData.eqv (.list ds) (.list es) = (List.range its.toArray.size).all (pairEq ds es) by rw [PyData.eqv, eqvAll_same (n1.trans (hl.trans n2.symm)), n1]; simp]
          exact RcAt.lists pl.isList pl2.isList (by simpa using hl) c0 he
        · rw [show PyData.eqv (.list ds) (.list es) = false by rw [PyData.eqv]; exact eqvAll_other (fun z => hl (by omega))]
          exact RcAt.lists_lengths pl.isList pl2.isList (by simpa using hl) c0
    | @tup a xs ds h ha =>
      cases r
      obtain ⟨its, rv, pl, _⟩ := I.tuple h
      cases he with
      | non => obtain rfl : u' = Value.none := q; exact RcAt.tuple_none pl c0
      | bl b => obtain rfl : u' = Value.bool b := q; exact RcAt.tuple_bool _ pl c0
      | int i => obtain ⟨t, rfl⟩ := q; exact RcAt.tuple_int _ _ pl c0
      | str i => obtain ⟨t, rfl⟩ := q; exact RcAt.tuple_str _ _ pl c0
      | lst h2 _ => cases q; obtain ⟨_, _, pl2, _⟩ := I.list h2; exact RcAt.tuple_list pl pl2.isList c0
      | @tup b ys es h2 hb =>
        cases q
        obtain ⟨its2, rv2, pl2, _⟩ := I.tuple h2
        have n1 : ds.length = its.length := by rw [← rv.length]; exact (dpAll_len ha).symm
        have n2 : es.length = its2.length := by rw [← rv2.length]; exact (dpAll_len hb).symm
        have dd : A.in1.units + PyData.depthAll ds < cLine := by rw [in1_units]; rw [PyData.depth] at room; omega
        have he : ∀ j (h1 : j < its.toArray.size) (h2 : j < its2.toArray.size), EqAt A.in1 s its.toArray[j] its2.toArray[j] (pairEq ds es j) := fun j h1 h2 => by
          have z := eqEAll I ds es A.in1 xs ys its its2 ha hb rv rv2 dd j (by simpa using h1) (by simpa using h2)
          simpa using z
        rw [show PyData.eqv (.tuple ds) (.tuple es) = ((List.range (min its.toArray.size its2.toArray.size)).all (pairEq ds es) && its.toArray.size == its2.toArray.size) by rw [PyData.eqv, ← eqvAll_eq, n1, n2]; simp]
        exact RcAt.tuples pl pl2 c0 he
open SeqAt in
theorem neE (I : L2.Inv X pins σ H s) : ∀ (d e : PyData) (A : Around) (v u : V) (v' u' : Value), Dp X.K H v d → Dp X.K H u e → RelV v v' → RelV u u' → A.units + d.depth < cLine → RcNeAt A s v' u' (!PyData.eqv d e)
  | d, e, A, v, u, v', u', hd, he, r, q, room => by
    have c0 : A.units < cLine := by omega
    cases hd with
    | non =>
      obtain rfl : v' = Value.none := r
      cases he with
      | non => obtain rfl : u' = Value.none := q; exact RcNeAt.none_none
      | bl b => obtain rfl : u' = Value.bool b := q; exact RcNeAt.none_bool _
      | int i => obtain ⟨t, rfl⟩ := q; exact RcNeAt.none_int _ _
      | str i => obtain ⟨t, rfl⟩ := q; exact RcNeAt.none_str _ _
      | lst h _ => cases q; obtain ⟨_, _, pl, _⟩ := I.list h; exact RcNeAt.none_list pl.isList c0
      | tup h _ => cases q; obtain ⟨_, _, pl, _⟩ := I.tuple h; exact RcNeAt.none_tuple pl c0
    | bl k =>
      obtain rfl : v' = Value.bool k := r
      cases he with
      | non => obtain rfl : u' = Value.none := q; exact RcNeAt.bool_none _
      | bl b => obtain rfl : u' = Value.bool b := q; exact RcNeAt.bool_bool _ _
      | int i => obtain ⟨t, rfl⟩ := q; exact RcNeAt.bool_int _ _ _
      | str i => obtain ⟨t, rfl⟩ := q; exact RcNeAt.bool_str _ _ _
      | lst h _ => cases q; obtain ⟨_, _, pl, _⟩ := I.list h; exact RcNeAt.bool_list _ pl.isList c0
      | tup h _ => cases q; obtain ⟨_, _, pl, _⟩ := I.tuple h; exact RcNeAt.bool_tuple _ pl c0
    | int k =>
      obtain ⟨t1, rfl⟩ := r
      cases he with
      | non => obtain rfl : u' = Value.none := q; exact RcNeAt.int_none _ _
      | bl b => obtain rfl : u' = Value.bool b := q; exact RcNeAt.int_bool _ _ _
      | int i => obtain ⟨t, rfl⟩ := q; exact RcNeAt.int_int _ _ _ _
      | str i => obtain ⟨t, rfl⟩ := q; exact RcNeAt.int_str _ _ _ _
      | lst h _ => cases q; obtain ⟨_, _, pl, _⟩ := I.list h; exact RcNeAt.int_list _ _ pl.isList c0
      | tup h _ => cases q; obtain ⟨_, _, pl, _⟩ := I.tuple h; exact RcNeAt.int_tuple _ _ pl c0
    | str k =>
      obtain ⟨t1, rfl⟩ := r
      cases he with
      | non => obtain rfl : u' = Value.none := q; exact RcNeAt.str_none _ _
      | bl b => obtain rfl : u' = Value.bool b := q; exact RcNeAt.str_bool _ _ _
      | int i => obtain ⟨t, rfl⟩ := q; exact RcNeAt.str_int _ _ _ _
      | str i => obtain ⟨t, rfl⟩ := q; exact RcNeAt.str_str _ _ _ _
      | lst h _ => cases q; obtain ⟨_, _, pl, _⟩ := I.list h; exact RcNeAt.str_list _ _ pl.isList c0
      | tup h _ => cases q; obtain ⟨_, _, pl, _⟩ := I.tuple h; exact RcNeAt.str_tuple _ _ pl c0
    | @lst a xs ds h ha =>
      cases r
      obtain ⟨its, rv, pl, _⟩ := I.list h
      cases he with
      | non => obtain rfl : u' = Value.none := q; exact RcNeAt.list_none pl.isList c0
      | bl b => obtain rfl : u' = Value.bool b := q; exact RcNeAt.list_bool _ pl.isList c0
      | int i => obtain ⟨t, rfl⟩ := q; exact RcNeAt.list_int _ _ pl.isList c0
      | str i => obtain ⟨t, rfl⟩ := q; exact RcNeAt.list_str _ _ pl.isList c0
      | tup h2 _ => cases q; obtain ⟨_, _, pl2, _⟩ := I.tuple h2; exact RcNeAt.list_tuple pl.isList pl2 c0
      | @lst b ys es h2 hb =>
        cases q
        obtain ⟨its2, rv2, pl2, _⟩ := I.list h2
        have n1 : ds.length = its.length := by rw [← rv.length]; exact (dpAll_len ha).symm
        have n2 : es.length = its2.length := by rw [← rv2.length]; exact (dpAll_len hb).symm
        have dd : A.in1.units + PyData.depthAll ds < cLine := by rw [in1_units]; rw [PyData.depth] at room; omega
        have he : ∀ j (h1 : j < its.toArray.size) (h2 : j < its2.toArray.size), EqAt A.in1 s its.toArray[j] its2.toArray[j] (pairEq ds es j) := fun j h1 h2 => by
          have z := eqEAll I ds es A.in1 xs ys its its2 ha hb rv rv2 dd j (by simpa using h1) (by simpa using h2)
          simpa using z
        by_cases hl : its.length = its2.length
        · rw [show PyData.eqv (.list ds) (.list es) = (List.range its.toArray.size).all (pairEq ds es) by rw [PyData.eqv, eqvAll_same (n1.trans (hl.trans n2.symm)), n1]; simp]
          exact RcNeAt.lists pl.isList pl2.isList (by simpa using hl) c0 he
        · rw [show PyData.eqv (.list ds) (.list es) = false by rw [PyData.eqv]; exact eqvAll_other (fun z => hl (by omega))]
          exact RcNeAt.lists_lengths pl.isList pl2.isList (by simpa using hl) c0
    | @tup a xs ds h ha =>
      cases r
      obtain ⟨its, rv, pl, _⟩ := I.tuple h
      cases he with
      | non => obtain rfl : u' = Value.none := q; exact RcNeAt.tuple_none pl c0
      | bl b => obtain rfl : u' = Value.bool b := q; exact RcNeAt.tuple_bool _ pl c0
      | int i => obtain ⟨t, rfl⟩ := q; exact RcNeAt.tuple_int _ _ pl c0
      | str i => obtain ⟨t, rfl⟩ := q; exact RcNeAt.tuple_str _ _ pl c0
      | lst h2 _ => cases q; obtain ⟨_, _, pl2, _⟩ := I.list h2; exact RcNeAt.tuple_list pl pl2.isList c0
      | @tup b ys es h2 hb =>
        cases q
        obtain ⟨its2, rv2, pl2, _⟩ := I.tuple h2
        have n1 : ds.length = its.length := by rw [← rv.length]; exact (dpAll_len ha).symm
        have n2 : es.length = its2.length := by rw [← rv2.length]; exact (dpAll_len hb).symm
        have dd : A.in1.units + PyData.depthAll ds < cLine := by rw [in1_units]; rw [PyData.depth] at room; omega
        have he : ∀ j (h1 : j < its.toArray.size) (h2 : j < its2.toArray.size), EqAt A.in1 s its.toArray[j] its2.toArray[j] (pairEq ds es j) := fun j h1 h2 => by
          have z := eqEAll I ds es A.in1 xs ys its its2 ha hb rv rv2 dd j (by simpa using h1) (by simpa using h2)
          simpa using z
        rw [show PyData.eqv (.tuple ds) (.tuple es) = ((List.range (min its.toArray.size its2.toArray.size)).all (pairEq ds es) && its.toArray.size == its2.toArray.size) by rw [PyData.eqv, ← eqvAll_eq, n1, n2]; simp]
        exact RcNeAt.tuples pl pl2 c0 he
open SeqAt in
/-- the items of a list or tuple, each against one value -/
theorem itemsE (I : L2.Inv X pins σ H s) {ds : List PyData} {d : PyData} {xs : List V} {its : List Value} {v : V} {v' : Value} (A : Around) (ha : DpAll X.K H xs ds) (hd : Dp X.K H v d) (r : Vals xs its) (q : RelV v v') (room : A.units + PyData.depthAll ds < cLine) :
    ∃ e : Value → Bool, (∀ y ∈ its, EqAt A s y v' (e y)) ∧ ∀ j, j < its.length → ∃ y d', its[j]? = some y ∧ ds[j]? = some d' ∧ e y = PyData.eqv d' d := by
  have one : ∀ (j : Nat) (y : Value), its[j]? = some y → ∃ d' w, ds[j]? = some d' ∧ Dp X.K H w d' ∧ RelV w y ∧ EqAt A s y v' (PyData.eqv d' d) := by
    intro j y hy
    induction j generalizing ds xs its with
    | zero =>
      cases r with
      | nil => cases hy
      | cons r1 r2 =>
        cases ha with
        | cons a1 a2 =>
          cases (show some _ = some y from hy)
          exact ⟨_, _, rfl, a1, r1, eqE I _ _ A _ _ _ _ a1 hd r1 q (by rw [PyData.depthAll] at room; omega)⟩
    | succ j ih =>
      cases r with
      | nil => cases hy
      | cons r1 r2 =>
        cases ha with
        | cons a1 a2 => exact ih a2 r2 (by rw [PyData.depthAll] at room; omega) hy
  have two : ∀ (j k : Nat) (y : Value) (d1 d2 : PyData), its[j]? = some y → its[k]? = some y → ds[j]? = some d1 → ds[k]? = some d2 → d1 = d2 := fun j k y d1 d2 hj hk h1 h2 => by
    obtain ⟨e1, w1, f1, g1, r1, _⟩ := one j y hj
    obtain ⟨e2, w2, f2, g2, r2, _⟩ := one k y hk
    rw [h1] at f1; rw [h2] at f2
    cases f1; cases f2
    rw [r1.inj r2] at g1
    exact dp_uniq I _ _ _ g1 g2
  classical
  refine ⟨fun y => if h : ∃ j, its[j]? = some y then PyData.eqv (ds.getD h.choose .none) d else false, fun y hy => ?_, fun j hj => ?_⟩
  · obtain ⟨j, hj⟩ := List.mem_iff_getElem?.mp hy
    have h : ∃ j, its[j]? = some y := ⟨j, hj⟩
    obtain ⟨d', w, f, _, _, k⟩ := one _ y h.choose_spec
    have e : (if h : ∃ j, its[j]? = some y then PyData.eqv (ds.getD h.choose .none) d else false) = PyData.eqv d' d := by
      rw [dif_pos h, List.getD_eq_getElem?_getD, f]
      rfl
    show EqAt A s y v' (if h : ∃ j, its[j]? = some y then PyData.eqv (ds.getD h.choose .none) d else false)
    rw [e]
    exact k
  · have hy : its[j]? = some its[j] := List.getElem?_eq_getElem hj
    have h : ∃ k, its[k]? = some its[j] := ⟨j, hy⟩
    obtain ⟨d', w, f, _, _, _⟩ := one j _ hy
    obtain ⟨d2, w2, f2, _, _, _⟩ := one _ _ h.choose_spec
    refine ⟨its[j], d', hy, f, ?_⟩
    show (if h : ∃ k, its[k]? = some its[j] then PyData.eqv (ds.getD h.choose .none) d else false) = PyData.eqv d' d
    rw [dif_pos h, List.getD_eq_getElem?_getD, f2, two j _ _ d' d2 hy h.choose_spec f f2]
    rfl
theorem any_items {its : List Value} {ds : List PyData} {e : Value → Bool} {d : PyData} (hl : its.length = ds.length) (h : ∀ j, j < its.length → ∃ y d', its[j]? = some y ∧ ds[j]? = some d' ∧ e y = PyData.eqv d' d) :
    its.map e = ds.map fun z => PyData.eqv z d := by
  refine List.ext_getElem? fun j => ?_
  rw [List.getElem?_map, List.getElem?_map]
  by_cases hj : j < its.length
  · obtain ⟨y, d', h1, h2, h3⟩ := h j hj
    rw [h1, h2]
    show some (e y) = some _
    rw [h3]
  · rw [List.getElem?_eq_none (by omega), List.getElem?_eq_none (by omega)]
    rfl
end

section
variable {X : Cx}
/-- x == y, x != y, of data of any kinds -/
def rEqE (K : PySem.W.Frag) : R2 := fun x y H Q => ∃ d e, Dp K H x d ∧ Dp K H y e ∧ d.depth ≤ 64 ∧ Q (.bl (PyData.eqv d e)) H
def rNeE (K : PySem.W.Frag) : R2 := fun x y H Q => ∃ d e, Dp K H x d ∧ Dp K H y e ∧ d.depth ≤ 64 ∧ Q (.bl (!PyData.eqv d e)) H
theorem op_eqE (hu : X.A.units + 64 < cLine) : OpR X (compareOp .Eq) (rEqE X.K) := by
  intro pins s σ H x y v u Q I rx ry h
  obtain ⟨d, e, hd, he, z, q⟩ := h
  exact rcE I d e X.A x y v u hd he rx ry (by omega) X.prog X.w X.xe _ ⟨.bl _, H, I, rfl, q⟩
theorem op_neE (hu : X.A.units + 64 < cLine) : OpR X (compareOp .NotEq) (rNeE X.K) := by
  intro pins s σ H x y v u Q I rx ry h
  obtain ⟨d, e, hd, he, z, q⟩ := h
  exact neE I d e X.A x y v u hd he rx ry (by omega) X.prog X.w X.xe _ ⟨.bl _, H, I, rfl, q⟩
/-- x in xs, a list or a tuple -/
def rInE (K : PySem.W.Frag) (neg : Bool) : R2 := fun x y H Q => ∃ a d ds xs, y = .ref a ∧ Dp K H x d ∧ (SqL K H a xs ∨ SqT K H a xs) ∧ DpAll K H xs ds ∧ PyData.depthAll ds ≤ 64 ∧ Q (.bl (if neg then !ds.any (fun z => PyData.eqv z d) else ds.any fun z => PyData.eqv z d)) H
theorem op_inE (hu : X.A.units + 65 < cLine) : OpR X (compareOp .In) (rInE X.K false) := by
  intro pins s σ H x y v u Q I rx ry h
  obtain ⟨a, d, ds, xs, rfl, hd, hq, ha, z, q⟩ := h
  cases ry
  have fin : ∀ (its : List Value) (e : Value → Bool), its.map e = ds.map (fun z => PyData.eqv z d) → EP X pins σ Q (.bool (its.toArray.any e)) s := fun its e h => by
    have e1 : its.toArray.any e = ds.any fun z => PyData.eqv z d := by
      have : (its.map e).any id = (ds.map fun z => PyData.eqv z d).any id := by rw [h]
      simpa [List.any_map] using this
    rw [e1]
    exact ⟨.bl _, H, I, rfl, q⟩
  rcases hq with hq | hq
  · obtain ⟨its, r, pl, _⟩ := I.list hq
    obtain ⟨e, h1, h2⟩ := itemsE I X.A.in1 ha hd r rx (by rw [in1_units]; omega)
    exact SeqAt.in_listAt e pl.isList (fun y hy => h1 y (by simpa using hy)) (fin its e (any_items (by rw [← r.length, dpAll_len ha]) h2))
  · obtain ⟨its, r, pl, _⟩ := I.tuple hq
    obtain ⟨e, h1, h2⟩ := itemsE I X.A.in1 ha hd r rx (by rw [in1_units]; omega)
    exact SeqAt.in_tupleAt e pl (fun y hy => h1 y (by simpa using hy)) (fin its e (any_items (by rw [← r.length, dpAll_len ha]) h2))
theorem op_notInE (hu : X.A.units + 65 < cLine) : OpR X (compareOp .NotIn) (rInE X.K true) := by
  intro pins s σ H x y v u Q I rx ry h
  obtain ⟨a, d, ds, xs, rfl, hd, hq, ha, z, q⟩ := h
  cases ry
  have fin : ∀ (its : List Value) (e : Value → Bool), its.map e = ds.map (fun z => PyData.eqv z d) → EP X pins σ Q (.bool (!its.toArray.any e)) s := fun its e h => by
    have e1 : its.toArray.any e = ds.any fun z => PyData.eqv z d := by
      have : (its.map e).any id = (ds.map fun z => PyData.eqv z d).any id := by rw [h]
      simpa [List.any_map] using this
    rw [e1]
    exact ⟨.bl _, H, I, rfl, q⟩
  rcases hq with hq | hq
  · obtain ⟨its, r, pl, _⟩ := I.list hq
    obtain ⟨e, h1, h2⟩ := itemsE I X.A.in1 ha hd r rx (by rw [in1_units]; omega)
    exact SeqAt.notIn_listAt e pl.isList (fun y hy => h1 y (by simpa using hy)) (fin its e (any_items (by rw [← r.length, dpAll_len ha]) h2))
  · obtain ⟨its, r, pl, _⟩ := I.tuple hq
    obtain ⟨e, h1, h2⟩ := itemsE I X.A.in1 ha hd r rx (by rw [in1_units]; omega)
    exact SeqAt.notIn_tupleAt e pl (fun y hy => h1 y (by simpa using hy)) (fin its e (any_items (by rw [← r.length, dpAll_len ha]) h2))
/-- xs.count(x), a list -/
def rCountE (K : PySem.W.Frag) : V → List V → Hp → VK → Prop := fun x vs H Q => ∃ a y d ds xs, x = .ref a ∧ vs = [y] ∧ Dp K H y d ∧ SqL K H a xs ∧ DpAll K H xs ds ∧ PyData.depthAll ds ≤ 64 ∧ Q (.int ((ds.countP fun z => PyData.eqv z d : Nat) : Int)) H
theorem mt_countE (hu : X.A.units + 65 < cLine) : MtR X "list.count" (rCountE X.K) := by
  intro pins s σ H x vs v us Q I rx rv h
  obtain ⟨a, y, d, ds, xs, rfl, rfl, hd, hq, ha, z, q⟩ := h
  cases rx
  obtain ⟨u, rfl, ru⟩ := rv.one
  obtain ⟨its, r, pl, _⟩ := I.list hq
  obtain ⟨o, ho, hc, n, hs⟩ := pl.isList
  obtain ⟨cls, dd, data, sl⟩ := o
  simp only at hc hs
  subst hc
  subst hs
  obtain ⟨e, h1, h2⟩ := itemsE I X.A.in1 ha hd r ru (by rw [in1_units]; omega)
  have hm := any_items (by rw [← r.length, dpAll_len ha]) h2
  have e1 : its.countP e = ds.countP fun z => PyData.eqv z d := by
    have : (its.map e).countP id = (ds.map fun z => PyData.eqv z d).countP id := by rw [hm]
    simpa [List.countP_map] using this
  refine call_meets F.slot_list_count ⟨_, ho, rfl⟩ F.entry_list_count (F.args_list_count_2 _ _) (SeqAt.list_countAt a its.toArray n dd sl u e) ⟨ho, fun y hy => h1 y (by simpa using hy), ?_⟩
  rw [show its.toArray.toList.countP e = ds.countP fun z => PyData.eqv z d from e1]
  exact ⟨.int _, H, I.tok _, ⟨_, rfl⟩, q⟩
end

end RG
namespace RG
open PySem PySem.Spec PyProof.Rows L2

/-! ### data that == tells apart -/
class PyD (α : Type) extends Py α where
  dat : α → PyData
  dp : ∀ {W : Wd} {H : Hp} {v : V} {x : α}, rep W H v x → Dp W.K H v (dat x)
  eqv : ∀ x y : α, PyData.eqv (dat x) (dat y) = true ↔ x = y
  dep : Nat
  depth : ∀ x : α, (dat x).depth ≤ dep
instance : PyD Int := { dat := .int, dp := fun h => by cases h; exact .int _, eqv := fun x y => by simp [PyData.eqv], dep := 0, depth := fun _ => by simp [PyData.depth] }
instance : PyD Bool := { dat := .bool, dp := fun h => by cases h; exact .bl _, eqv := fun x y => by simp [PyData.eqv], dep := 0, depth := fun _ => by simp [PyData.depth] }
instance : PyD Str := { dat := .str, dp := fun h => by cases h; exact .str _, eqv := fun x y => by simp [PyData.eqv], dep := 0, depth := fun _ => by simp [PyData.depth] }
instance : PyD Unit := { dat := fun _ => .none, dp := fun h => by cases h; exact .non, eqv := fun x y => by simp [PyData.eqv], dep := 0, depth := fun _ => by simp [PyData.depth] }
section
variable {α β : Type} [PyD α] [PyD β] {W : Wd} {H : Hp}
theorem dpAll {xs : List α} : ∀ {vs : List V}, Paired (Py.rep W H) vs xs → DpAll W.K H vs (xs.map PyD.dat) := by
  induction xs with
  | nil => intro vs h; cases h; exact .nil
  | cons x xs ih =>
    intro vs h
    cases h with
    | cons r t => exact .cons (PyD.dp r) (ih t)
theorem eqvAll_iff : ∀ xs ys : List α, PyData.eqvAll (xs.map PyD.dat) (ys.map PyD.dat) = true ↔ xs = ys
  | [], [] => by simp [PyData.eqvAll]
  | [], _ :: _ => by simp [PyData.eqvAll]
  | _ :: _, [] => by simp [PyData.eqvAll]
  | x :: xs, y :: ys => by simp [PyData.eqvAll, PyD.eqv, eqvAll_iff xs ys]
theorem depthAll_le : ∀ xs : List α, PyData.depthAll (xs.map PyD.dat) ≤ PyD.dep α
  | [] => by simp [PyData.depthAll]
  | x :: xs => by
    have h1 := PyD.depth x
    have h2 := depthAll_le xs
    simp only [List.map_cons, PyData.depthAll]
    omega
instance : PyD (List α) where
  dat xs := .list (xs.map PyD.dat)
  dp h := by
    obtain ⟨a, vs, e, h, p⟩ := h
    rw [e]; exact .lst (SqL.of h) (dpAll p)
  eqv x y := by rw [PyData.eqv]; exact eqvAll_iff x y
  dep := PyD.dep α + 1
  depth xs := by have := depthAll_le xs; rw [PyData.depth]; omega
instance : PyD (Tup α) where
  dat xs := .tuple (xs.l.map PyD.dat)
  dp h := by
    obtain ⟨a, vs, e, h, p⟩ := h
    rw [e]; exact .tup (.inl h) (dpAll p)
  eqv x y := by rw [PyData.eqv, eqvAll_iff]; cases x; cases y; simp
  dep := PyD.dep α + 1
  depth xs := by have := depthAll_le xs.l; rw [PyData.depth]; omega
instance : PyD (α × β) where
  dat x := .tuple [PyD.dat x.1, PyD.dat x.2]
  dp h := by
    obtain ⟨a, v1, v2, e, h, r1, r2⟩ := h
    rw [e]; exact .tup (.inl h) (.cons (PyD.dp r1) (.cons (PyD.dp r2) .nil))
  eqv x y := by rw [PyData.eqv]; simp [PyData.eqvAll, PyD.eqv, Prod.ext_iff]
  dep := PyD.dep α + PyD.dep β + 1
  depth x := by have h1 := PyD.depth x.1; have h2 := PyD.depth x.2; simp only [PyData.depth, PyData.depthAll]; omega
end
section
variable {α : Type} [DecidableEq α] [PyD α] {W : Wd} {M : List Addr} {σ : L2.St} {H H' : Hp} {ta tb : TE} {x y : α}
theorem eqv_dat : PyData.eqv (PyD.dat x) (PyD.dat y) = decide (x = y) := by
  rw [Bool.eq_iff_iff, PyD.eqv, decide_eq_true_iff]
theorem cut_le : Le (cut W M H) H := ⟨fun _ _ e => cut_at e⟩
theorem Rep.at {α : Type} [Py α] {x : α} {v : V} (h : Rep W M H v x) : Py.rep W H v x := Py.mono cut_le h
theorem Rep.dp {v : V} (h : Rep W M H v x) : Dp W.K H v (PyD.dat x) := PyD.dp (W := W) (H := H) h.at
theorem ev_eqD (ha : Ev W M ta σ H x) (hb : Ev W M tb σ H y) (h : PyD.dep α ≤ 64 := by decide) : Ev W M (tOp (rEqE W.K) ta tb) σ H (decide (x = y)) := fun H1 e ok Q q =>
  ha H1 e ok _ fun v H2 e2 r => hb H2 (e.trans e2) (ok.ex e2) _ fun u H3 e3 r3 =>
    ⟨_, _, (r.up e3).dp, r3.dp, Nat.le_trans (PyD.depth x) h, by rw [eqv_dat]; exact q _ H3 (e2.trans e3) rep_bl⟩
theorem ev_neD (ha : Ev W M ta σ H x) (hb : Ev W M tb σ H y) (h : PyD.dep α ≤ 64 := by decide) : Ev W M (tOp (rNeE W.K) ta tb) σ H (!decide (x = y)) := fun H1 e ok Q q =>
  ha H1 e ok _ fun v H2 e2 r => hb H2 (e.trans e2) (ok.ex e2) _ fun u H3 e3 r3 =>
    ⟨_, _, (r.up e3).dp, r3.dp, Nat.le_trans (PyD.depth x) h, by rw [eqv_dat]; exact q _ H3 (e2.trans e3) rep_bl⟩
theorem any_dat {xs : List α} : (xs.map PyD.dat).any (fun z => PyData.eqv z (PyD.dat x)) = decide (x ∈ xs) := by
  rw [List.any_map]
  induction xs with
  | nil => simp
  | cons y ys ih =>
    rw [List.any_cons, ih]
    show (PyData.eqv (PyD.dat y) (PyD.dat x) || _) = _
    rw [eqv_dat]
    by_cases h : y = x
    · simp [h]
    · have h' : ¬ x = y := fun z => h z.symm
      simp [h, h']
theorem count_dat {xs : List α} : (xs.map PyD.dat).countP (fun z => PyData.eqv z (PyD.dat x)) = xs.count x := by
  rw [List.countP_map]
  induction xs with
  | nil => simp
  | cons y ys ih =>
    rw [List.countP_cons, ih, List.count_cons]
    show _ + (if PyData.eqv (PyD.dat y) (PyD.dat x) = true then 1 else 0) = _
    rw [eqv_dat]
    by_cases h : y = x <;> simp [h]
theorem Rep.dpAll {xs : List α} {vs : List V} (p : Paired (Rep W M H) vs xs) : DpAll W.K H vs (xs.map PyD.dat) := RG.dpAll (W := W) (paired_mono (fun _ _ r => Rep.at r) p)
theorem ev_in {xs : List α} (ha : Ev W M ta σ H x) (hb : Ev W M tb σ H xs) (h : PyD.dep α ≤ 64 := by decide) : Ev W M (tOp (rInE W.K false) ta tb) σ H (decide (x ∈ xs)) := fun H1 e ok Q q =>
  ha H1 e ok _ fun v H2 e2 r => hb H2 (e.trans e2) (ok.ex e2) _ fun u H3 e3 r3 => by
    obtain ⟨a, vs, eu, hh, _, _, p⟩ := r3.lst
    exact ⟨a, _, _, vs, eu, (r.up e3).dp, .inl (SqL.of hh), Rep.dpAll p, Nat.le_trans (depthAll_le xs) h, by rw [if_neg Bool.false_ne_true, any_dat]; exact q _ H3 (e2.trans e3) rep_bl⟩
theorem ev_notIn {xs : List α} (ha : Ev W M ta σ H x) (hb : Ev W M tb σ H xs) (h : PyD.dep α ≤ 64 := by decide) : Ev W M (tOp (rInE W.K true) ta tb) σ H (!decide (x ∈ xs)) := fun H1 e ok Q q =>
  ha H1 e ok _ fun v H2 e2 r => hb H2 (e.trans e2) (ok.ex e2) _ fun u H3 e3 r3 => by
    obtain ⟨a, vs, eu, hh, _, _, p⟩ := r3.lst
    exact ⟨a, _, _, vs, eu, (r.up e3).dp, .inl (SqL.of hh), Rep.dpAll p, Nat.le_trans (depthAll_le xs) h, by rw [if_pos rfl, any_dat]; exact q _ H3 (e2.trans e3) rep_bl⟩
theorem ev_inT {xs : Tup α} (ha : Ev W M ta σ H x) (hb : Ev W M tb σ H xs) (h : PyD.dep α ≤ 64 := by decide) : Ev W M (tOp (rInE W.K false) ta tb) σ H (decide (x ∈ xs.l)) := fun H1 e ok Q q =>
  ha H1 e ok _ fun v H2 e2 r => hb H2 (e.trans e2) (ok.ex e2) _ fun u H3 e3 r3 => by
    obtain ⟨a, vs, eu, hh, _, _, p⟩ := r3.tup
    exact ⟨a, _, _, vs, eu, (r.up e3).dp, .inr (.inl hh), Rep.dpAll p, Nat.le_trans (depthAll_le xs.l) h, by rw [if_neg Bool.false_ne_true, any_dat]; exact q _ H3 (e2.trans e3) rep_bl⟩
end
end RG
namespace RG
open PySem PySem.Spec PyProof.Rows L2 StX

/-! ### lists item by item -/
section
variable {α β : Type} {F : α → β → Prop}
theorem Pd.length {xs : List α} {ys : List β} (h : Paired F xs ys) : xs.length = ys.length := Paired.length h
theorem Pd.get : ∀ {xs : List α} {ys : List β} {i : Nat} {y : β}, Paired F xs ys → ys[i]? = some y → ∃ x, xs[i]? = some x ∧ F x y
  | _, _, i, _, .nil, e => by simp at e
  | _, _, 0, _, .cons r _, e => by cases (show some _ = some _ from e); exact ⟨_, rfl, r⟩
  | _, _, i + 1, y, .cons _ t, e => Pd.get (i := i) t e
theorem Pd.getL : ∀ {xs : List α} {ys : List β} {i : Nat} {x : α}, Paired F xs ys → xs[i]? = some x → ∃ y, ys[i]? = some y ∧ F x y
  | _, _, i, _, .nil, e => by simp at e
  | _, _, 0, _, .cons r _, e => by cases (show some _ = some _ from e); exact ⟨_, rfl, r⟩
  | _, _, i + 1, x, .cons _ t, e => Pd.getL (i := i) t e
theorem Pd.append : ∀ {xs xs' : List α} {ys ys' : List β}, Paired F xs ys → Paired F xs' ys' → Paired F (xs ++ xs') (ys ++ ys')
  | _, _, _, _, .nil, q => q
  | _, _, _, _, .cons r t, q => .cons r (Pd.append t q)
theorem Pd.take : ∀ {xs : List α} {ys : List β} (n : Nat), Paired F xs ys → Paired F (xs.take n) (ys.take n)
  | _, _, 0, _ => .nil
  | _, _, _ + 1, .nil => .nil
  | _, _, n + 1, .cons r t => .cons r (Pd.take n t)
theorem Pd.drop : ∀ {xs : List α} {ys : List β} (n : Nat), Paired F xs ys → Paired F (xs.drop n) (ys.drop n)
  | _, _, 0, r => r
  | _, _, _ + 1, .nil => .nil
  | _, _, n + 1, .cons _ t => Pd.drop n t
theorem Pd.set : ∀ {xs : List α} {ys : List β} {x : α} {y : β} (n : Nat), Paired F xs ys → F x y → Paired F (xs.set n x) (ys.set n y)
  | _, _, _, _, _, .nil, _ => .nil
  | _, _, _, _, 0, .cons _ t, q => .cons q t
  | _, _, _, _, n + 1, .cons r t, q => .cons r (Pd.set n t q)
theorem Pd.erase : ∀ {xs : List α} {ys : List β} (n : Nat), Paired F xs ys → Paired F (xs.eraseIdx n) (ys.eraseIdx n)
  | _, _, _, .nil => .nil
  | _, _, 0, .cons _ t => t
  | _, _, n + 1, .cons r t => .cons r (Pd.erase n t)
theorem Pd.rev {xs : List α} {ys : List β} (h : Paired F xs ys) : Paired F xs.reverse ys.reverse := by
  induction h with
  | nil => exact .nil
  | cons r t ih => rw [List.reverse_cons, List.reverse_cons]; exact Pd.append ih (.cons r .nil)
theorem Pd.at {xs : List α} {ys : List β} {i : Int} {y : β} (h : Paired F xs ys) (e : atI ys i = some y) : ∃ x, atI xs i = some x ∧ F x y := by
  unfold atI at e ⊢
  rw [Pd.length h]
  cases q : ixN ys.length i with
  | none => rw [q] at e; cases e
  | some j => rw [q] at e; exact Pd.get h e
/-- a part of a list, as a slice takes it -/
def cutG {α : Type} (xs : List α) (lo hi : Option Int) : List α := (xs.drop (HT.sIx xs.length 0 lo)).take (HT.sIx xs.length xs.length hi - HT.sIx xs.length 0 lo)
theorem Pd.cut {xs : List V} {ys : List β} {F : V → β → Prop} (h : Paired F xs ys) (lo hi : Option Int) : Paired F (cutV xs lo hi) (cutG ys lo hi) := by
  unfold cutV cutG
  rw [Pd.length h]
  exact Pd.take _ (Pd.drop _ h)
theorem Pd.mono {G : α → β → Prop} {xs : List α} {ys : List β} (h : Paired F xs ys) (q : ∀ x y, F x y → G x y) : Paired G xs ys := paired_mono q h
end
theorem atI_getD {α : Type} {xs : List α} {i : Int} (d : α) (h0 : 0 ≤ i) (h1 : i < xs.length) : atI xs i = some (xs.getD i.toNat d) := by
  obtain ⟨n, rfl⟩ := Int.eq_ofNat_of_zero_le h0
  have hn : n < xs.length := by omega
  refine atI_nat ?_
  rw [List.getD_eq_getElem?_getD, Int.toNat_natCast, List.getElem?_eq_getElem hn]
  rfl
theorem sz {n : Nat} (h : n ≤ 1000000) : n ≤ sizeLine := Nat.le_trans h (by decide)
theorem sl {n : Nat} (h : n ≤ 1000000) : n < sizeLine := Nat.lt_of_le_of_lt h (by decide)

/-! ### calls of built-ins, by name -/
def rLenS (K : PySem.W.Frag) : List V → Hp → VK → Prop := fun xs H Q => ∃ p ys, xs = [.ref p] ∧ (SqL K H p ys ∨ SqT K H p ys) ∧ Q (.int ys.length) H
def rLenX : List V → Hp → VK → Prop := fun xs H Q => ∃ z, xs = [.str z] ∧ z.length ≤ sizeLine ∧ Q (.int z.length) H
def rListOf (K : PySem.W.Frag) : List V → Hp → VK → Prop := fun xs H Q => ∃ p ys, xs = [.ref p] ∧ (SqL K H p ys ∨ SqT K H p ys) ∧ ∀ l, H l = none → Q (.ref l) (upd H l (.lst ys))
def rTupOf (K : PySem.W.Frag) : List V → Hp → VK → Prop := fun xs H Q => ∃ p ys, xs = [.ref p] ∧ ((SqL K H p ys ∧ ∀ l, H l = none → Q (.ref l) (upd H l (.tup ys))) ∨ (SqT K H p ys ∧ Q (.ref p) H))
def rAbs : List V → Hp → VK → Prop := fun xs H Q => ∃ i, xs = [.int i] ∧ Q (.int (if i < 0 then -i else i)) H
def rInt : List V → Hp → VK → Prop := fun xs H Q => (∃ i, xs = [.int i] ∧ Q (.int i) H) ∨ ∃ k, xs = [.bl k] ∧ Q (.int (if k then 1 else 0)) H
def rStrI : List V → Hp → VK → Prop := fun xs H Q => ∃ i, xs = [.int i] ∧ i.natAbs.log2 < 1920 ∧ Q (.str (toString i)) H
def rMax2 : List V → Hp → VK → Prop := fun xs H Q => ∃ i j, xs = [.int i, .int j] ∧ Q (.int (if j > i then j else i)) H
def rMin2 : List V → Hp → VK → Prop := fun xs H Q => ∃ i j, xs = [.int i, .int j] ∧ Q (.int (if j < i then j else i)) H
section
variable {X : Cx}
theorem cLenS : CallR X (.builtin "len") (rLenS X.K) := call_len_seq
theorem cLenX : CallR X (.builtin "len") rLenX := call_len_str
theorem cListOf : CallR X (.type "list") (rListOf X.K) := call_list_of
theorem cTupOf : CallR X (.type "tuple") (rTupOf X.K) := call_tuple_of
theorem cAbs : CallR X (.builtin "abs") rAbs := call_abs
theorem cInt : CallR X (.type "int") rInt := call_int1
theorem cStrI : CallR X (.type "str") rStrI := call_str_int
theorem cMax2 (hc : X.calm = true) : CallR X (.builtin "max") rMax2 := call_max2 hc
theorem cMin2 (hc : X.calm = true) : CallR X (.builtin "min") rMin2 := call_min2 hc
end

/-! ### data of any kinds -/
mutual
theorem dp_le {K : PySem.W.Frag} {H H' : Hp} (l : Le H H') : ∀ (d : PyData) (v : V), Dp K H v d → Dp K H' v d
  | .none, _, h => by cases h; exact .non
  | .bool _, _, h => by cases h; exact .bl _
  | .int _, _, h => by cases h; exact .int _
  | .str _, _, h => by cases h; exact .str _
  | .list ds, _, h => by
    cases h with
    | lst q a => exact .lst (q.elim (fun q => .inl (l.rd q)) .inr) (dpAll_le l ds _ a)
  | .tuple ds, _, h => by
    cases h with
    | tup q a => exact .tup (q.elim (fun q => .inl (l.rd q)) .inr) (dpAll_le l ds _ a)
  | .dict _, _, h => by cases h
theorem dpAll_le {K : PySem.W.Frag} {H H' : Hp} (l : Le H H') : ∀ (ds : List PyData) (vs : List V), DpAll K H vs ds → DpAll K H' vs ds
  | [], _, h => by cases h; exact .nil
  | d :: ds, _, h => by
    cases h with
    | cons a b => exact .cons (dp_le l d _ a) (dpAll_le l ds _ b)
end
instance : Py PyData := ⟨fun W H v d => Dp W.K H v d, fun l h => dp_le l _ _ h⟩

section
variable {α β γ δ : Type} [Py α] [Py β] [Py γ] [Py δ] {W : Wd} {M M' N : List Addr} {σ σ' : L2.St} {H H1 H2 H' : Hp} {p a : Addr} {o : HO} {v : V} {x : α} {y : β} {i k : Nat} {te ta tb tc : TE} {t u : TT} {tr : TA}
theorem Rep.le (h : Rep W M H v x) (l : Le (cut W M H) (cut W M' H')) : Rep W M' H' v x := Py.mono l h
theorem Sl.le (h : Sl W M σ H i x) (l : Le (cut W M H) (cut W M' H')) : Sl W M' σ H' i x := let ⟨v, hv, r⟩ := h; ⟨v, hv, r.le l⟩
theorem ev_dat {α : Type} [PyD α] {x : α} (h : Ev W M te σ H x) : Ev W M te σ H (PyD.dat x) := fun H1 e ok Q q => h H1 e ok Q fun v H2 e2 r => q v H2 e2 (PyD.dp (W := W) (H := cut W M H2) r)

/-! ### items -/
theorem ev_ixL {xs : List α} {n : Int} (ha : Ev W M ta σ H xs) (hb : Ev W M tb σ H n) (hx : atI xs n = some x) : Ev W M (tOp (rIxL W.K) ta tb) σ H x := fun H1 e ok Q q =>
  ha H1 e ok _ fun v H2 e2 r => hb H2 (e.trans e2) (ok.ex e2) _ fun u H3 e3 r3 => by
    obtain ⟨a, vs, ev, hh, _, _, pp⟩ := (r.up e3).lst
    obtain ⟨w, hw, rw_⟩ := Pd.at pp hx
    exact ⟨a, vs, n, w, ev, r3, SqL.of hh, hw, q _ H3 (e2.trans e3) rw_⟩
theorem ev_ixT {xs : Tup α} {n : Int} (ha : Ev W M ta σ H xs) (hb : Ev W M tb σ H n) (hx : atI xs.l n = some x) : Ev W M (tOp (rIxT W.K) ta tb) σ H x := fun H1 e ok Q q =>
  ha H1 e ok _ fun v H2 e2 r => hb H2 (e.trans e2) (ok.ex e2) _ fun u H3 e3 r3 => by
    obtain ⟨a, vs, ev, hh, _, _, pp⟩ := (r.up e3).tup
    obtain ⟨w, hw, rw_⟩ := Pd.at pp hx
    exact ⟨a, vs, n, w, ev, r3, .inl hh, hw, q _ H3 (e2.trans e3) rw_⟩
theorem ev_fst {x : α × β} (ha : Ev W M ta σ H x) : Ev W M (tOp (rIxT W.K) ta (tC (.int 0))) σ H x.1 := fun H1 e ok Q q =>
  ha H1 e ok _ fun v H2 e2 r => by
    obtain ⟨a, v1, v2, ev, hh, _, _, r1, r2⟩ := r.pair
    exact ⟨a, _, 0, v1, ev, rfl, .inl hh, rfl, q _ H2 e2 r1⟩
theorem ev_snd {x : α × β} (ha : Ev W M ta σ H x) : Ev W M (tOp (rIxT W.K) ta (tC (.int 1))) σ H x.2 := fun H1 e ok Q q =>
  ha H1 e ok _ fun v H2 e2 r => by
    obtain ⟨a, v1, v2, ev, hh, _, _, r1, r2⟩ := r.pair
    exact ⟨a, _, 1, v2, ev, rfl, .inl hh, rfl, q _ H2 e2 r2⟩
theorem ev_ixS {z : Str} {n : Int} {c : Nat} (ha : Ev W M ta σ H z) (hb : Ev W M tb σ H n) (hl : z.length ≤ 1000000) (hx : atI z.cps.toList n = some c) : Ev W M (tOp rIxS ta tb) σ H (⟨#[c]⟩ : Str) := fun H1 e ok Q q =>
  ha H1 e ok _ fun v H2 e2 r => hb H2 (e.trans e2) (ok.ex e2) _ fun u H3 e3 r3 => ⟨z, n, c, r, r3, sz hl, hx, q _ H3 (e2.trans e3) rep_str⟩
/-- the item at a drawn place -/
theorem evr_ixL {xs : List α} {P : Int → Prop} {R : α → Prop} (ha : Ev W M ta σ H xs) (hb : EvR W M tb σ H P) (hx : ∀ n, P n → ∃ x, atI xs n = some x ∧ R x) : EvR W M (tOp (rIxL W.K) ta tb) σ H R := fun H1 e ok Q q =>
  ha H1 e ok _ fun v H2 e2 r => hb H2 (e.trans e2) (ok.ex e2) _ fun u n H3 pn e3 r3 => by
    obtain ⟨x, hx, hR⟩ := hx n pn
    obtain ⟨a, vs, ev, hh, _, _, pp⟩ := (r.up e3).lst
    obtain ⟨w, hw, rw_⟩ := Pd.at pp hx
    exact ⟨a, vs, n, w, ev, r3, SqL.of hh, hw, q _ x H3 hR (e2.trans e3) rw_⟩
theorem evr_ixS {z : Str} {P : Int → Prop} {R : Str → Prop} (ha : Ev W M ta σ H z) (hb : EvR W M tb σ H P) (hl : z.length ≤ 1000000) (hx : ∀ n, P n → ∃ c, atI z.cps.toList n = some c ∧ R ⟨#[c]⟩) : EvR W M (tOp rIxS ta tb) σ H R := fun H1 e ok Q q =>
  ha H1 e ok _ fun v H2 e2 r => hb H2 (e.trans e2) (ok.ex e2) _ fun u n H3 pn e3 r3 => by
    obtain ⟨c, hc, hR⟩ := hx n pn
    exact ⟨z, n, c, r, r3, sz hl, hc, q _ _ H3 hR (e2.trans e3) rep_str⟩

/-! ### slices -/
theorem eo_none : Eo W M tNoPart σ H none := fun H1 _ _ Q q => q H1 Ex.refl
theorem eo_some {n : Int} (h : Ev W M te σ H n) : Eo W M (tPart te) σ H (some n) := fun H1 e ok Q q => h H1 e ok _ fun v H2 e2 r => ⟨n, r, q H2 e2⟩
theorem ev_slL {xs : List α} {tl th : TO} {lo hi : Option Int} (ha : Ev W M ta σ H xs) (h1 : Eo W M tl σ H lo) (h2 : Eo W M th σ H hi) : Ev W M (tSl (rSlL W.K) ta tl th) σ H (cutG xs lo hi) := fun H1 e ok Q q =>
  ha H1 e ok _ fun v H2 e2 r => h1 H2 (e.trans e2) (ok.ex e2) _ fun H3 e3 => h2 H3 ((e.trans e2).trans e3) ((ok.ex e2).ex e3) _ fun H4 e4 => by
    obtain ⟨a, vs, ev, hh, _, _, pp⟩ := (r.up (e3.trans e4)).lst
    refine ⟨a, vs, ev, SqL.of hh, fun l hl => q _ _ ((e2.trans e3).trans (e4.trans (Ex.new hl))) ?_⟩
    have ok4 := ((ok.ex e2).ex e3).ex e4
    exact rep_lst upd_same (ok4.new_b hl) (ok4.new_M hl) (Pd.mono (Pd.cut pp lo hi) fun _ _ r => r.up (Ex.new hl))
/-- a slice of a text, as the library says it -/
theorem ev_slS {z : Str} {tl th : TO} {lo hi : Option Int} (ha : Ev W M ta σ H z) (h1 : Eo W M tl σ H lo) (h2 : Eo W M th σ H hi) (hz : z.length ≤ 1000000) :
    Ev W M (tSl (fun x lo hi H Q => ∃ z, x = .str z ∧ z.length ≤ sizeLine ∧ Q (.str (cutS z lo hi)) H) ta tl th) σ H (cutS z lo hi) := fun H1 e ok Q q =>
  ha H1 e ok _ fun v H2 e2 r => h1 H2 (e.trans e2) (ok.ex e2) _ fun H3 e3 => h2 H3 ((e.trans e2).trans e3) ((ok.ex e2).ex e3) _ fun H4 e4 => ⟨z, r, sz hz, q _ H4 ((e2.trans e3).trans e4) rep_str⟩
theorem ev_slT {xs : Tup α} {tl th : TO} {lo hi : Option Int} (ha : Ev W M ta σ H xs) (h1 : Eo W M tl σ H lo) (h2 : Eo W M th σ H hi) : Ev W M (tSl (rSlA W.K) ta tl th) σ H (⟨cutG xs.l lo hi⟩ : Tup α) := fun H1 e ok Q q =>
  ha H1 e ok _ fun v H2 e2 r => h1 H2 (e.trans e2) (ok.ex e2) _ fun H3 e3 => h2 H3 ((e.trans e2).trans e3) ((ok.ex e2).ex e3) _ fun H4 e4 => by
    obtain ⟨a, vs, ev, hh, hb, hm, pp⟩ := (r.up (e3.trans e4)).tup
    subst ev
    refine ⟨a, vs, rfl, .inl hh, fun hw => q _ _ ((e2.trans e3).trans e4) (rep_tup (vs := vs) hh hb hm ?_), fun _ l hl => q _ _ ((e2.trans e3).trans (e4.trans (Ex.new hl))) ?_⟩
    · have hc := Pd.cut pp lo hi
      have e5 : cutV vs lo hi = vs := by
        unfold cutV
        rw [hw.1, hw.2]
        simp
      rw [e5] at hc
      exact hc
    · have ok4 := ((ok.ex e2).ex e3).ex e4
      exact rep_tup (.inl upd_same) (ok4.new_b hl) (ok4.new_M hl) (Pd.mono (Pd.cut pp lo hi) fun _ _ r => r.up (Ex.new hl))

/-! ### calls of built-ins -/
theorem ev_lenL {xs : List α} (ha : Ev W M ta σ H xs) : Ev W M (tCB (rLenS W.K) (tCons ta tNil)) σ H (xs.length : Int) := fun H1 e ok Q q =>
  ha H1 e ok _ fun v H2 e2 r => by
    obtain ⟨a, vs, ev, hh, _, _, pp⟩ := r.lst
    exact ⟨a, vs, by rw [ev], .inl (SqL.of hh), by rw [Pd.length pp]; exact q _ H2 e2 rep_int⟩
theorem ev_lenT {xs : Tup α} (ha : Ev W M ta σ H xs) : Ev W M (tCB (rLenS W.K) (tCons ta tNil)) σ H (xs.l.length : Int) := fun H1 e ok Q q =>
  ha H1 e ok _ fun v H2 e2 r => by
    obtain ⟨a, vs, ev, hh, _, _, pp⟩ := r.tup
    exact ⟨a, vs, by rw [ev], .inr (.inl hh), by rw [Pd.length pp]; exact q _ H2 e2 rep_int⟩
theorem ev_lenP {x : α × β} (ha : Ev W M ta σ H x) : Ev W M (tCB (rLenS W.K) (tCons ta tNil)) σ H (2 : Int) := fun H1 e ok Q q =>
  ha H1 e ok _ fun v H2 e2 r => by
    obtain ⟨a, v1, v2, ev, hh, _, _, r1, r2⟩ := r.pair
    exact ⟨a, [v1, v2], by rw [ev], .inr (.inl hh), q _ H2 e2 rep_int⟩
theorem ev_lenX {z : Str} (ha : Ev W M ta σ H z) (hl : z.length ≤ 1000000) : Ev W M (tCB rLenX (tCons ta tNil)) σ H (z.length : Int) := fun H1 e ok Q q =>
  ha H1 e ok _ fun v H2 e2 r => ⟨z, by rw [show v = .str z from r], sz hl, q _ H2 e2 rep_int⟩
theorem ev_list {xs : List α} (ha : Ev W M ta σ H xs) : Ev W M (tCB (rListOf W.K) (tCons ta tNil)) σ H xs := fun H1 e ok Q q =>
  ha H1 e ok _ fun v H2 e2 r => by
    obtain ⟨a, vs, ev, hh, _, _, pp⟩ := r.lst
    exact ⟨a, vs, by rw [ev], .inl (SqL.of hh), fun l hl => q _ _ (e2.trans (Ex.new hl)) (rep_lst upd_same ((ok.ex e2).new_b hl) ((ok.ex e2).new_M hl) (Pd.mono pp fun _ _ r => r.up (Ex.new hl)))⟩
theorem ev_listT {xs : Tup α} (ha : Ev W M ta σ H xs) : Ev W M (tCB (rListOf W.K) (tCons ta tNil)) σ H xs.l := fun H1 e ok Q q =>
  ha H1 e ok _ fun v H2 e2 r => by
    obtain ⟨a, vs, ev, hh, _, _, pp⟩ := r.tup
    exact ⟨a, vs, by rw [ev], .inr (.inl hh), fun l hl => q _ _ (e2.trans (Ex.new hl)) (rep_lst upd_same ((ok.ex e2).new_b hl) ((ok.ex e2).new_M hl) (Pd.mono pp fun _ _ r => r.up (Ex.new hl)))⟩
theorem ev_tuple {xs : List α} (ha : Ev W M ta σ H xs) : Ev W M (tCB (rTupOf W.K) (tCons ta tNil)) σ H (⟨xs⟩ : Tup α) := fun H1 e ok Q q =>
  ha H1 e ok _ fun v H2 e2 r => by
    obtain ⟨a, vs, ev, hh, _, _, pp⟩ := r.lst
    exact ⟨a, vs, by rw [ev], .inl ⟨SqL.of hh, fun l hl => q _ _ (e2.trans (Ex.new hl)) (rep_tup (.inl upd_same) ((ok.ex e2).new_b hl) ((ok.ex e2).new_M hl) (Pd.mono pp fun _ _ r => r.up (Ex.new hl)))⟩⟩
theorem ev_tupleT {xs : Tup α} (ha : Ev W M ta σ H xs) : Ev W M (tCB (rTupOf W.K) (tCons ta tNil)) σ H xs := fun H1 e ok Q q =>
  ha H1 e ok _ fun v H2 e2 r => by
    obtain ⟨a, vs, ev, hh, hb, hm, pp⟩ := r.tup
    subst ev
    exact ⟨a, vs, rfl, .inr ⟨.inl hh, q _ _ e2 (rep_tup hh hb hm pp)⟩⟩
theorem ev_abs {n : Int} (ha : Ev W M ta σ H n) : Ev W M (tCB rAbs (tCons ta tNil)) σ H (if n < 0 then -n else n) := fun H1 e ok Q q =>
  ha H1 e ok _ fun v H2 e2 r => ⟨n, by rw [show v = .int n from r], q _ H2 e2 rep_int⟩
theorem ev_intI {n : Int} (ha : Ev W M ta σ H n) : Ev W M (tCB rInt (tCons ta tNil)) σ H n := fun H1 e ok Q q =>
  ha H1 e ok _ fun v H2 e2 r => .inl ⟨n, by rw [show v = .int n from r], q _ H2 e2 rep_int⟩
theorem ev_intB {b : Bool} (ha : Ev W M ta σ H b) : Ev W M (tCB rInt (tCons ta tNil)) σ H (if b then 1 else 0 : Int) := fun H1 e ok Q q =>
  ha H1 e ok _ fun v H2 e2 r => .inr ⟨b, by rw [show v = .bl b from r], q _ H2 e2 rep_int⟩
theorem ev_strI {n : Int} (ha : Ev W M ta σ H n) (hn : n.natAbs.log2 < 1920) : Ev W M (tCB rStrI (tCons ta tNil)) σ H (Str.ofString (toString n)) := fun H1 e ok Q q =>
  ha H1 e ok _ fun v H2 e2 r => ⟨n, by rw [show v = .int n from r], hn, q _ H2 e2 rep_str⟩
theorem ev_max2 {m n : Int} (ha : Ev W M ta σ H m) (hb : Ev W M tb σ H n) : Ev W M (tCB rMax2 (tCons ta (tCons tb tNil))) σ H (if n > m then n else m) := fun H1 e ok Q q =>
  ha H1 e ok _ fun v H2 e2 r => hb H2 (e.trans e2) (ok.ex e2) _ fun u H3 e3 r3 => ⟨m, n, by rw [show v = .int m from r, show u = .int n from r3], q _ H3 (e2.trans e3) rep_int⟩
theorem ev_min2 {m n : Int} (ha : Ev W M ta σ H m) (hb : Ev W M tb σ H n) : Ev W M (tCB rMin2 (tCons ta (tCons tb tNil))) σ H (if n < m then n else m) := fun H1 e ok Q q =>
  ha H1 e ok _ fun v H2 e2 r => hb H2 (e.trans e2) (ok.ex e2) _ fun u H3 e3 r3 => ⟨m, n, by rw [show v = .int m from r, show u = .int n from r3], q _ H3 (e2.trans e3) rep_int⟩
theorem ev_sum {xs : List Int} (ha : Ev W M ta σ H xs) : Ev W M (tCB (rSum W.K) (tCons ta tNil)) σ H xs.sum := fun H1 e ok Q q =>
  ha H1 e ok _ fun v H2 e2 r => by
    obtain ⟨a, vs, ev, hh, _, _, pp⟩ := r.lst
    refine ⟨a, xs, by rw [ev], SqL.of ?_, q _ H2 e2 rep_int⟩
    rw [hh, paired_toV pp]; rfl
theorem ev_all {xs : List Bool} (ha : Ev W M ta σ H xs) : Ev W M (tCB (rAll W.K) (tCons ta tNil)) σ H (xs.all id) := fun H1 e ok Q q =>
  ha H1 e ok _ fun v H2 e2 r => by
    obtain ⟨a, vs, ev, hh, _, _, pp⟩ := r.lst
    refine ⟨a, xs, by rw [ev], SqL.of ?_, q _ H2 e2 rep_bl⟩
    rw [hh, paired_toV pp]; rfl
theorem ev_any {xs : List Bool} (ha : Ev W M ta σ H xs) : Ev W M (tCB (rAny W.K) (tCons ta tNil)) σ H (xs.any id) := fun H1 e ok Q q =>
  ha H1 e ok _ fun v H2 e2 r => by
    obtain ⟨a, vs, ev, hh, _, _, pp⟩ := r.lst
    refine ⟨a, xs, by rw [ev], SqL.of ?_, q _ H2 e2 rep_bl⟩
    rw [hh, paired_toV pp]; rfl
theorem ev_count {α : Type} [DecidableEq α] [PyD α] {xs : List α} {x : α} (ha : Ev W M ta σ H xs) (hb : Ev W M tb σ H x) (h : PyD.dep α ≤ 64 := by decide) : Ev W M (tBM W.K "list" (rCountE W.K) ta (tCons tb tNil)) σ H (xs.count x : Int) := fun H1 e ok Q q =>
  ha H1 e ok _ fun v H2 e2 r => by
    obtain ⟨a, vs, ev, hh, _, _, pp⟩ := r.lst
    subst ev
    refine ⟨.inl ⟨rfl, _, SqL.of hh⟩, hb H2 (e.trans e2) (ok.ex e2) _ fun u H3 e3 r3 => ?_⟩
    obtain ⟨a', vs', ev', hh', _, _, pp'⟩ := (r.up e3).lst
    cases ev'
    exact ⟨a, u, _, _, vs', rfl, rfl, r3.dp, SqL.of hh', Rep.dpAll pp', Nat.le_trans (depthAll_le xs) h, by rw [count_dat]; exact q _ H3 (e2.trans e3) rep_int⟩

/-! ### displays -/
theorem ea_nil : Ea W M tNil σ H ([] : List α) := fun H1 _ _ Q q => q _ H1 Ex.refl .nil
theorem ea_cons {xs : List α} (ha : Ev W M ta σ H x) (hr : Ea W M tr σ H xs) : Ea W M (tCons ta tr) σ H (x :: xs) := fun H1 e ok Q q =>
  ha H1 e ok _ fun v H2 e2 r => hr H2 (e.trans e2) (ok.ex e2) _ fun vs H3 e3 pp => q _ H3 (e2.trans e3) (.cons (r.up e3) pp)
theorem ea_star {xs ys : List α} (ha : Ev W M ta σ H xs) (hr : Ea W M tr σ H ys) : Ea W M (tStar W.K ta tr) σ H (xs ++ ys) := fun H1 e ok Q q =>
  ha H1 e ok _ fun v H2 e2 r => by
    obtain ⟨a, vs, ev, hh, _, _, pp⟩ := r.lst
    exact ⟨a, vs, ev, .inr (SqL.of hh), hr H2 (e.trans e2) (ok.ex e2) _ fun us H3 e3 pp2 => q _ H3 (e2.trans e3) (Pd.append (Pd.mono pp fun _ _ r => r.up e3) pp2)⟩
theorem ea_starT {xs : Tup α} {ys : List α} (ha : Ev W M ta σ H xs) (hr : Ea W M tr σ H ys) : Ea W M (tStar W.K ta tr) σ H (xs.l ++ ys) := fun H1 e ok Q q =>
  ha H1 e ok _ fun v H2 e2 r => by
    obtain ⟨a, vs, ev, hh, _, _, pp⟩ := r.tup
    exact ⟨a, vs, ev, .inl (.inl hh), hr H2 (e.trans e2) (ok.ex e2) _ fun us H3 e3 pp2 => q _ H3 (e2.trans e3) (Pd.append (Pd.mono pp fun _ _ r => r.up e3) pp2)⟩
theorem ev_lst {xs : List α} (h : Ea W M tr σ H xs) (hl : xs.length ≤ 1000000) : Ev W M (tLst tr) σ H xs := fun H1 e ok Q q =>
  h H1 e ok _ fun vs H2 e2 pp => ⟨by rw [Pd.length pp]; exact sz hl, fun l hp => q _ _ (e2.trans (Ex.new hp)) (rep_lst upd_same ((ok.ex e2).new_b hp) ((ok.ex e2).new_M hp) (Pd.mono pp fun _ _ r => r.up (Ex.new hp)))⟩
theorem ev_tup {xs : List α} (h : Ea W M tr σ H xs) (hl : xs.length ≤ 1000000) : Ev W M (tTup tr) σ H (⟨xs⟩ : Tup α) := fun H1 e ok Q q =>
  h H1 e ok _ fun vs H2 e2 pp => ⟨by rw [Pd.length pp]; exact sz hl, fun l hp => q _ _ (e2.trans (Ex.new hp)) (rep_tup (.inl upd_same) ((ok.ex e2).new_b hp) ((ok.ex e2).new_M hp) (Pd.mono pp fun _ _ r => r.up (Ex.new hp)))⟩
theorem ev_pair (ha : Ev W M ta σ H x) (hb : Ev W M tb σ H y) : Ev W M (tTup (tCons ta (tCons tb tNil))) σ H (x, y) := fun H1 e ok Q q =>
  ha H1 e ok _ fun v H2 e2 r => hb H2 (e.trans e2) (ok.ex e2) _ fun u H3 e3 r3 =>
    ⟨by show 2 ≤ sizeLine; decide, fun l hp => q _ _ ((e2.trans e3).trans (Ex.new hp)) (rep_pair (.inl upd_same) (((ok.ex e2).ex e3).new_b hp) (((ok.ex e2).ex e3).new_M hp) ((r.up e3).up (Ex.new hp)) (r3.up (Ex.new hp)))⟩
theorem evr_pair {P : α → Prop} {R : β → Prop} (ha : EvR W M ta σ H P) (hb : EvR W M tb σ H R) : EvR W M (tTup (tCons ta (tCons tb tNil))) σ H (fun z : α × β => P z.1 ∧ R z.2) := fun H1 e ok Q q =>
  ha H1 e ok _ fun v x H2 px e2 r => hb H2 (e.trans e2) (ok.ex e2) _ fun u y H3 py e3 r3 =>
    ⟨by show 2 ≤ sizeLine; decide, fun l hp => q _ (x, y) _ ⟨px, py⟩ ((e2.trans e3).trans (Ex.new hp)) (rep_pair (.inl upd_same) (((ok.ex e2).ex e3).new_b hp) (((ok.ex e2).ex e3).new_M hp) ((r.up e3).up (Ex.new hp)) (r3.up (Ex.new hp)))⟩

/-! ### texts, lists, tuples put together -/
theorem ev_addS {z w : Str} (ha : Ev W M ta σ H z) (hb : Ev W M tb σ H w) (hl : z.length + w.length ≤ 1000000) : Ev W M (tOp (fun x y H Q => ∃ i j : Str, x = .str i ∧ y = .str j ∧ i.length + j.length ≤ sizeLine ∧ Q (.str (i ++ j)) H) ta tb) σ H (z ++ w) := fun H1 e ok Q q =>
  ha H1 e ok _ fun v H2 e2 r => hb H2 (e.trans e2) (ok.ex e2) _ fun u H3 e3 r3 => ⟨z, w, r, r3, sz hl, q _ H3 (e2.trans e3) rep_str⟩
theorem ev_cat {xs ys : List α} (ha : Ev W M ta σ H xs) (hb : Ev W M tb σ H ys) (hl : xs.length + ys.length ≤ 1000000) : Ev W M (tOp rCat ta tb) σ H (xs ++ ys) := fun H1 e ok Q q =>
  ha H1 e ok _ fun v H2 e2 r => hb H2 (e.trans e2) (ok.ex e2) _ fun u H3 e3 r3 => by
    obtain ⟨a, vs, ev, hh, _, _, pp⟩ := (r.up e3).lst
    obtain ⟨a', vs', ev', hh', _, _, pp'⟩ := r3.lst
    have ok3 := (ok.ex e2).ex e3
    exact ⟨a, a', vs, vs', ev, ev', hh, hh', by rw [Pd.length pp, Pd.length pp']; exact sz hl, fun l hp => q _ _ ((e2.trans e3).trans (Ex.new hp))
      (rep_lst upd_same (ok3.new_b hp) (ok3.new_M hp) (Pd.mono (Pd.append pp pp') fun _ _ r => r.up (Ex.new hp)))⟩
theorem ev_catT {xs ys : Tup α} (ha : Ev W M ta σ H xs) (hb : Ev W M tb σ H ys) (hl : xs.l.length + ys.l.length ≤ 1000000) : Ev W M (tOp (rCatA W.K) ta tb) σ H (⟨xs.l ++ ys.l⟩ : Tup α) := fun H1 e ok Q q =>
  ha H1 e ok _ fun v H2 e2 r => hb H2 (e.trans e2) (ok.ex e2) _ fun u H3 e3 r3 => by
    obtain ⟨a, vs, ev, hh, hb, hm, pp⟩ := (r.up e3).tup
    obtain ⟨a', vs', ev', hh', hb', hm', pp'⟩ := r3.tup
    subst ev; subst ev'
    have ok3 := (ok.ex e2).ex e3
    refine ⟨a, a', vs, vs', rfl, rfl, .inl hh, .inl hh', by rw [Pd.length pp, Pd.length pp']; exact sz hl, fun z => ?_, fun _ z => ?_, fun _ _ l hp => ?_⟩
    · subst z
      have : xs.l = [] := by cases h : xs.l with
        | nil => rfl
        | cons _ _ => rw [h] at pp; cases pp
      exact q _ _ (e2.trans e3) (rep_tup hh' hb' hm' (by rw [this]; exact pp'))
    · subst z
      have : ys.l = [] := by cases h : ys.l with
        | nil => rfl
        | cons _ _ => rw [h] at pp'; cases pp'
      exact q _ _ (e2.trans e3) (rep_tup hh hb hm (by rw [this, List.append_nil]; exact pp))
    · exact q _ _ ((e2.trans e3).trans (Ex.new hp)) (rep_tup (.inl upd_same) (ok3.new_b hp) (ok3.new_M hp) (Pd.mono (Pd.append pp pp') fun _ _ r => r.up (Ex.new hp)))
end
end RG
namespace RG
open PySem PySem.Spec PyProof.Rows L2 StX RZ

/-! ### what a loop walks -/
structure Wk {α : Type} [Py α] (W : Wd) (J : It) (S : List Addr → Hp → Prop) (xs : List α) : Prop where
  st : ∀ {M M' H H'}, Le (cut W M H) (cut W M' H') → S M H → S M' H'
  go : ∀ {i M H}, S M H → i < xs.length → J.go i H
  stop : ∀ {i M H}, S M H → xs.length ≤ i → J.stop i H
  yld : ∀ {i M H v H'}, S M H → Ok W M H → J.yld i H v H' → i < xs.length → ∃ x, xs[i]? = some x ∧ Ex W [] H H' ∧ Rep W M H' v x
def Ei {α : Type} [Py α] (W : Wd) (M : List Addr) (wi : TI) (σ : L2.St) (H : Hp) (xs : List α) : Prop :=
  ∀ H1, Ex W [] H H1 → Ok W M H1 → ∀ R : It → Hp → Prop, (∀ J S H2, Ex W [] H1 H2 → Wk W J S xs → S M H2 → R J H2) → wi σ H1 R

section
variable {α β γ : Type} [Py α] [Py β] [Py γ] {W : Wd} {M M' N : List Addr} {σ σ' : L2.St} {H H1 H2 H' : Hp} {te ta tb tl : TE} {wi : TI}
theorem ei_list {xs : List α} (h : Ev W M tl σ H xs) : Ei W M (iList W.K tl) σ H xs := fun H1 e ok R q =>
  h H1 e ok _ fun v H2 e2 r => by
    obtain ⟨a, vs, ev, hh, _, _, _⟩ := r.lst
    subst ev
    refine ⟨a, rfl, ⟨vs, SqL.of hh⟩, q (Itl W.K a) (fun M H => Rep W M H (.ref a) xs) H2 e2 ⟨fun l r => r.le l, fun {i M H} r hi => ?_, fun {i M H} r hi => ?_, fun {i M H v H'} r ok y hi => ?_⟩ r⟩
    · obtain ⟨b, us, e, h1, _, _, pp⟩ := r.lst
      cases e
      obtain ⟨x, hx⟩ : ∃ x, xs[i]? = some x := ⟨_, List.getElem?_eq_getElem hi⟩
      obtain ⟨u, hu, _⟩ := Pd.get pp hx
      exact ⟨us, u, SqL.of h1, hu⟩
    · obtain ⟨b, us, e, h1, _, _, pp⟩ := r.lst
      cases e
      exact ⟨us, SqL.of h1, by rw [Pd.length pp]; exact hi⟩
    · obtain ⟨b, us, e, h1, _, _, pp⟩ := r.lst
      cases e
      obtain ⟨rfl, y⟩ := y
      obtain ⟨x, hx, rx⟩ := Pd.getL pp (y us (SqL.of h1))
      exact ⟨x, hx, Ex.refl, rx⟩
theorem ei_tup {xs : Tup α} (h : Ev W M tl σ H xs) : Ei W M (iTup W.K tl) σ H xs.l := fun H1 e ok R q =>
  h H1 e ok _ fun v H2 e2 r => by
    obtain ⟨a, vs, ev, hh, _, _, _⟩ := r.tup
    subst ev
    refine ⟨a, rfl, ⟨vs, .inl hh⟩, q (Itt W.K a) (fun M H => Rep W M H (.ref a) xs) H2 e2 ⟨fun l r => r.le l, fun {i M H} r hi => ?_, fun {i M H} r hi => ?_, fun {i M H v H'} r ok y hi => ?_⟩ r⟩
    · obtain ⟨b, us, e, h1, _, _, pp⟩ := r.tup
      cases e
      obtain ⟨x, hx⟩ : ∃ x, xs.l[i]? = some x := ⟨_, List.getElem?_eq_getElem hi⟩
      obtain ⟨u, hu, _⟩ := Pd.get pp hx
      exact ⟨us, u, .inl h1, hu⟩
    · obtain ⟨b, us, e, h1, _, _, pp⟩ := r.tup
      cases e
      exact ⟨us, .inl h1, by rw [Pd.length pp]; exact hi⟩
    · obtain ⟨b, us, e, h1, _, _, pp⟩ := r.tup
      cases e
      obtain ⟨rfl, y⟩ := y
      obtain ⟨x, hx, rx⟩ := Pd.getL pp (y us (.inl h1))
      exact ⟨x, hx, Ex.refl, rx⟩
/-- 0, 1, .. below n -/
def rng (n : Int) : List Int := (List.range n.toNat).map fun i : Nat => (i : Int)
theorem rng_len {n : Int} : (rng n).length = n.toNat := by unfold rng; rw [List.length_map, List.length_range]
theorem rng_at {n : Int} {i : Nat} (h : i < n.toNat) : (rng n)[i]? = some (i : Int) := by
  unfold rng
  rw [List.getElem?_map, List.getElem?_range h]
  rfl
theorem rng_mem {n k : Int} : k ∈ rng n ↔ 0 ≤ k ∧ k < n := by
  unfold rng
  rw [List.mem_map]
  constructor
  · rintro ⟨i, hi, rfl⟩
    rw [List.mem_range] at hi
    omega
  · rintro ⟨h0, h1⟩
    exact ⟨k.toNat, List.mem_range.mpr (by omega), by omega⟩
theorem ei_range {n : Int} (h : Ev W M te σ H n) (hn : n < 4000000) (h0 : -4000000 ≤ n) : Ei W M (iRng1 (tCons te tNil)) σ H (rng n) := fun H1 e ok R q =>
  h H1 e ok _ fun v H2 e2 r => by
    refine ⟨n, by rw [show v = .int n from r], by omega, by omega, q (Itr 0 n.toNat) (fun _ _ => True) H2 e2 ⟨fun _ _ => trivial, fun {i M H} _ hi => ?_, fun {i M H} _ hi => ?_, fun {i M H v H'} _ ok y hi => ?_⟩ trivial⟩
    · rw [rng_len] at hi; exact hi
    · rw [rng_len] at hi; exact hi
    · rw [rng_len] at hi
      obtain ⟨rfl, rfl⟩ := y
      exact ⟨(i : Int), rng_at hi, Ex.refl, by rw [Int.zero_add]; exact rep_int⟩
/-- the signs of a text, each a text -/
def signs (z : Str) : List Str := z.cps.toList.map fun c => ⟨#[c]⟩
theorem signs_len {z : Str} : (signs z).length = z.cps.size := by unfold signs; rw [List.length_map, Array.length_toList]
theorem ei_str {z : Str} (h : Ev W M te σ H z) : Ei W M (iStr te) σ H (signs z) := fun H1 e ok R q =>
  h H1 e ok _ fun v H2 e2 r => by
    refine ⟨z, r, q (Its z) (fun _ _ => True) H2 e2 ⟨fun _ _ => trivial, fun {i M H} _ hi => ?_, fun {i M H} _ hi => ?_, fun {i M H v H'} _ ok y hi => ?_⟩ trivial⟩
    · rw [signs_len] at hi; exact hi
    · rw [signs_len] at hi; exact hi
    · obtain ⟨rfl, c, hc, rfl⟩ := y
      refine ⟨⟨#[c]⟩, ?_, Ex.refl, rep_str⟩
      unfold signs
      rw [List.getElem?_map, Array.getElem?_toList, hc]
      rfl
/-- each item with its place -/
def enum (xs : List α) : List (Int × α) := (List.range xs.length).zipWith (fun (i : Nat) x => ((i : Int), x)) xs
theorem enum_len {xs : List α} : (enum xs).length = xs.length := by unfold enum; simp
theorem enum_at {xs : List α} {i : Nat} {x : α} (h : xs[i]? = some x) : (enum xs)[i]? = some ((i : Int), x) := by
  have hi : i < xs.length := (List.getElem?_eq_some_iff.mp h).1
  unfold enum
  rw [List.getElem?_zipWith, List.getElem?_range hi, h]
theorem ei_enum {xs : List α} (h : Ev W M tl σ H xs) : Ei W M (iEnum W.K (tCons tl tNil)) σ H (enum xs) := fun H1 e ok R q =>
  h H1 e ok _ fun v H2 e2 r => by
    obtain ⟨a, vs, ev, hh, _, _, _⟩ := r.lst
    subst ev
    refine ⟨a, vs, rfl, SqL.of hh, q (Ite W.K a) (fun M H => Rep W M H (.ref a) xs) H2 e2 ⟨fun l r => r.le l, fun {i M H} r hi => ?_, fun {i M H} r hi => ?_, fun {i M H v H'} r ok y hi => ?_⟩ r⟩
    · obtain ⟨b, us, e, h1, _, _, pp⟩ := r.lst
      cases e
      rw [enum_len] at hi
      obtain ⟨x, hx⟩ : ∃ x, xs[i]? = some x := ⟨_, List.getElem?_eq_getElem hi⟩
      obtain ⟨u, hu, _⟩ := Pd.get pp hx
      exact ⟨us, u, SqL.of h1, hu⟩
    · obtain ⟨b, us, e, h1, _, _, pp⟩ := r.lst
      cases e
      rw [enum_len] at hi
      exact ⟨us, SqL.of h1, by rw [Pd.length pp]; exact hi⟩
    · obtain ⟨b, us, e, h1, _, _, pp⟩ := r.lst
      cases e
      obtain ⟨T, w, rfl, hT, rfl, y⟩ := y
      obtain ⟨x, hx, rx⟩ := Pd.getL pp (y us (SqL.of h1))
      exact ⟨_, enum_at hx, Ex.new hT, rep_pair (.inl upd_same) (ok.new_b hT) (ok.new_M hT) rep_int (rx.up (Ex.new hT))⟩
theorem zip_at {xs : List α} {ys : List β} {i : Nat} {x : α} {y : β} (h : xs[i]? = some x) (h2 : ys[i]? = some y) : (xs.zip ys)[i]? = some (x, y) := by
  rw [List.getElem?_zip_eq_some]; exact ⟨h, h2⟩
theorem ei_zip {xs : List α} {ys : List β} (h : Ev W M ta σ H xs) (h2 : Ev W M tb σ H ys) : Ei W M (iZip W.K (tCons ta (tCons tb tNil))) σ H (xs.zip ys) := fun H1 e ok R q =>
  h H1 e ok _ fun v H2 e2 r => h2 H2 (e.trans e2) (ok.ex e2) _ fun u H3 e3 r3 => by
    have r := r.up e3
    obtain ⟨a, vs, ev, hh, _, _, _⟩ := r.lst
    obtain ⟨b, us, eu, hh2, _, _, _⟩ := r3.lst
    subst ev; subst eu
    refine ⟨a, b, vs, us, rfl, SqL.of hh, SqL.of hh2, q (Itz W.K a b) (fun M H => Rep W M H (.ref a) xs ∧ Rep W M H (.ref b) ys) H3 (e2.trans e3) ⟨fun l r => ⟨r.1.le l, r.2.le l⟩, fun {i M H} r hi => ?_, fun {i M H} r hi => ?_, fun {i M H v H'} r ok y hi => ?_⟩ ⟨r, r3⟩⟩
    · obtain ⟨r1, r2⟩ := r
      obtain ⟨c, ws, e, h1, _, _, pp⟩ := r1.lst
      cases e
      obtain ⟨c, ws2, e, h2, _, _, pp2⟩ := r2.lst
      cases e
      rw [List.length_zip] at hi
      obtain ⟨w1, hw1, _⟩ := Pd.get pp (List.getElem?_eq_getElem (show i < xs.length by omega))
      obtain ⟨w2, hw2, _⟩ := Pd.get pp2 (List.getElem?_eq_getElem (show i < ys.length by omega))
      exact ⟨ws, ws2, w1, w2, SqL.of h1, SqL.of h2, hw1, hw2⟩
    · obtain ⟨r1, r2⟩ := r
      obtain ⟨c, ws, e, h1, _, _, pp⟩ := r1.lst
      cases e
      obtain ⟨c, ws2, e, h2, _, _, pp2⟩ := r2.lst
      cases e
      rw [List.length_zip] at hi
      refine ⟨ws, ws2, SqL.of h1, SqL.of h2, ?_⟩
      rw [Pd.length pp, Pd.length pp2]
      omega
    · obtain ⟨r1, r2⟩ := r
      obtain ⟨c, ws, e, h1, _, _, pp⟩ := r1.lst
      cases e
      obtain ⟨c, ws2, e, h2, _, _, pp2⟩ := r2.lst
      cases e
      obtain ⟨T, w1, w2, rfl, hT, rfl, y1, y2⟩ := y
      obtain ⟨x, hx, rx⟩ := Pd.getL pp (y1 ws (SqL.of h1))
      obtain ⟨z, hz, rz⟩ := Pd.getL pp2 (y2 ws2 (SqL.of h2))
      exact ⟨_, zip_at hx hz, Ex.new hT, rep_pair (.inl upd_same) (ok.new_b hT) (ok.new_M hT) (rx.up (Ex.new hT)) (rz.up (Ex.new hT))⟩
theorem ei_zipT {xs : Tup α} {ys : Tup β} (h : Ev W M ta σ H xs) (h2 : Ev W M tb σ H ys) : Ei W M (iZipA W.K (tCons ta (tCons tb tNil))) σ H (xs.l.zip ys.l) := fun H1 e ok R q =>
  h H1 e ok _ fun v H2 e2 r => h2 H2 (e.trans e2) (ok.ex e2) _ fun u H3 e3 r3 => by
    have r := r.up e3
    obtain ⟨a, vs, ev, hh, _, _, _⟩ := r.tup
    obtain ⟨b, us, eu, hh2, _, _, _⟩ := r3.tup
    subst ev; subst eu
    refine ⟨a, b, vs, us, rfl, .inr ⟨.inl hh, .inl hh2, q (ItzT W.K a b) (fun M H => Rep W M H (.ref a) xs ∧ Rep W M H (.ref b) ys) H3 (e2.trans e3) ⟨fun l r => ⟨r.1.le l, r.2.le l⟩, fun {i M H} r hi => ?_, fun {i M H} r hi => ?_, fun {i M H v H'} r ok y hi => ?_⟩ ⟨r, r3⟩⟩⟩
    · obtain ⟨r1, r2⟩ := r
      obtain ⟨c, ws, e, h1, _, _, pp⟩ := r1.tup
      cases e
      obtain ⟨c, ws2, e, h2, _, _, pp2⟩ := r2.tup
      cases e
      rw [List.length_zip] at hi
      obtain ⟨w1, hw1, _⟩ := Pd.get pp (List.getElem?_eq_getElem (show i < xs.l.length by omega))
      obtain ⟨w2, hw2, _⟩ := Pd.get pp2 (List.getElem?_eq_getElem (show i < ys.l.length by omega))
      exact ⟨ws, ws2, w1, w2, .inl h1, .inl h2, hw1, hw2⟩
    · obtain ⟨r1, r2⟩ := r
      obtain ⟨c, ws, e, h1, _, _, pp⟩ := r1.tup
      cases e
      obtain ⟨c, ws2, e, h2, _, _, pp2⟩ := r2.tup
      cases e
      rw [List.length_zip] at hi
      refine ⟨ws, ws2, .inl h1, .inl h2, ?_⟩
      rw [Pd.length pp, Pd.length pp2]
      omega
    · obtain ⟨r1, r2⟩ := r
      obtain ⟨c, ws, e, h1, _, _, pp⟩ := r1.tup
      cases e
      obtain ⟨c, ws2, e, h2, _, _, pp2⟩ := r2.tup
      cases e
      obtain ⟨T, w1, w2, rfl, hT, rfl, y1, y2⟩ := y
      obtain ⟨x, hx, rx⟩ := Pd.getL pp (y1 ws (.inl h1))
      obtain ⟨z, hz, rz⟩ := Pd.getL pp2 (y2 ws2 (.inl h2))
      exact ⟨_, zip_at hx hz, Ex.new hT, rep_pair (.inl upd_same) (ok.new_b hT) (ok.new_M hT) (rx.up (Ex.new hT)) (rz.up (Ex.new hT))⟩
end

/-! ### targets -/
/-- what a target does with an item: the slots that it stores -/
def Tg {α : Type} [Py α] (W : Wd) (g : TG) (x : α) (f : V → L2.St → L2.St → Prop) : Prop :=
  ∀ M v σ H (K : L2.St → Hp → Prop), Rep W M H v x → (∀ σ2, f v σ σ2 → K σ2 H) → g v σ H K
section
variable {α β γ : Type} [Py α] [Py β] [Py γ] {W : Wd} {M M' N : List Addr} {σ σ' : L2.St} {H H1 H2 H' : Hp} {te ta tb tl : TE} {wi : TI} {g : TG} {tt : TT} {ts tb' : TS} {vs : List Nat} {D : Ends}
theorem wipe_set {k : Nat} {o : Option V} : ∀ {vs : List Nat} {σ : L2.St}, k ∈ vs → wipe (σ.set k o) vs = wipe σ vs
  | v :: vs, σ, h => by
    unfold wipe
    by_cases hk : k ∈ vs
    · rw [wipe_set hk]
    · have e : k = v := (List.mem_cons.mp h).resolve_right hk
      subst e
      clear h
      have : ∀ (vs : List Nat) (σ : L2.St), (wipe (σ.set k o) vs).set k none = (wipe σ vs).set k none := by
        intro vs
        induction vs with
        | nil => intro σ; show (σ.set k o).set k none = σ.set k none; rw [List.set_set]
        | cons u us ih =>
          intro σ
          show ((wipe (σ.set k o) us).set u none).set k none = ((wipe σ us).set u none).set k none
          by_cases hu : u = k
          · subst hu; rw [List.set_set, List.set_set]; exact ih σ
          · rw [List.set_comm _ _ hu, List.set_comm _ _ hu, ih σ]
      exact this vs σ
theorem wipe_wipe : ∀ {vs : List Nat} {σ : L2.St}, wipe (wipe σ vs) vs = wipe σ vs
  | [], _ => rfl
  | v :: vs, σ => by
    show wipe ((wipe σ vs).set v none) (v :: vs) = (wipe σ vs).set v none
    rw [wipe_set (List.mem_cons_self)]
    show (wipe (wipe σ vs) vs).set v none = _
    rw [wipe_wipe]

/-! ### for -/
theorem for_w {xs : List α} (ok : Ok W M H) (hi : Ei W M wi σ H xs) (P : Nat → L2.St → Hp → Prop) (h0 : ∀ H', Ex W [] H H' → P 0 σ H')
    (hs : ∀ i x v σ' H', xs[i]? = some x → P i σ' H' → Ok W M H' → ∀ H'', Ex W [] H' H'' → Rep W M H'' v x → ∀ N : L2.St → Hp → Prop, (∀ σ3 H3, P (i + 1) σ3 H3 → Ex W M H'' H3 → N σ3 H3) → g v σ' H'' fun σ2 H2 => ts { D with nx := N, ct := N, bk := D.nx } σ2 H2)
    (hd : ∀ σ' H', P xs.length σ' H' → Ok W M H' → D.nx σ' H') : tFor wi g ts D σ H := by
  refine hi H Ex.refl ok _ fun J S H1 e1 wk s1 => ?_
  refine ⟨fun i m σ' H' => m = xs.length - i ∧ i ≤ xs.length ∧ P i σ' H' ∧ Ok W M H' ∧ S M H', ⟨xs.length, by simp, Nat.zero_le _, h0 H1 e1, ok.ex e1, s1⟩, ?_⟩
  rintro i m σ' H' ⟨rfl, hi, p, ok', s'⟩
  by_cases hlt : i < xs.length
  · refine .inr ⟨wk.go s' hlt, fun σ3 H3 => P (i + 1) σ3 H3 ∧ Ok W M H3 ∧ S M H3, fun σ3 H3 q => ⟨xs.length - (i + 1), by omega, rfl, hlt, q⟩, fun v H2 y => ?_⟩
    obtain ⟨x, hx, e2, r⟩ := wk.yld s' ok' y hlt
    exact hs i x v σ' H' hx p ok' H2 e2 r _ fun σ3 H3 p3 e3 => ⟨p3, (ok'.ex e2).ex e3, wk.st (e2.up.trans e3).le s'⟩
  · have e : i = xs.length := by omega
    subst e
    exact .inl ⟨wk.stop s' (Nat.le_refl _), hd σ' H' p ok'⟩

/-! ### list comprehensions -/
/-- the ways of the kept items, in order -/
def Lc {α β : Type} (p : α → Bool) (R : α → β → Prop) (xs : List α) (ys : List β) : Prop := Paired R (xs.filter p) ys
theorem take_filter {p : α → Bool} {xs : List α} {i : Nat} {x : α} (h : xs[i]? = some x) : (xs.take (i + 1)).filter p = (xs.take i).filter p ++ if p x = true then [x] else [] := by
  rw [List.take_add_one, h, List.filter_append]
  show _ ++ List.filter p [x] = _
  rw [List.filter_cons, List.filter_nil]
theorem lc_w {xs : List α} {p : α → Bool} {R : α → β → Prop} (hi : Ei W M wi σ H xs) (hl : xs.length ≤ 1000000)
    (he : ∀ (i : Nat) (x : α) v M' H', xs[i]? = some x → Le (cut W M H) (cut W M' H') → Ok W M' H' → Rep W M' H' v x → ∀ K : L2.St → Hp → Prop,
      (∀ σ2, wipe σ2 vs = wipe σ vs → Et W M' tt σ2 H' (p x) → (p x = true → EvR W M' te σ2 H' (R x)) → K σ2 H') → g v (wipe σ vs) H' K) :
    EvR W M (tLc wi g tt te vs) σ H (Lc p R xs) := fun H1 e ok Q q => by
  refine hi H1 e ok _ fun J S H2 e2 wk s2 => ?_
  intro L hL
  have ok2 := ok.ex e2
  have nb := ok2.new_b hL
  have nbl := ok2.new_bl hL
  have nM := ok2.new_M hL
  have le2 : Le (cut W M H) (cut W M H2) := (e.trans e2).up.le
  refine ⟨fun i m H' => m = xs.length - i ∧ i ≤ xs.length ∧ Ok W (L :: M) H' ∧ S (L :: M) H' ∧ Ex W [] H2 H' ∧ Le (cut W M H) (cut W (L :: M) H') ∧
    ∃ us ys, H' L = some (.lst us) ∧ Paired (Rep W (L :: M) H') us ys ∧ Paired R ((xs.take i).filter p) ys ∧ us.length ≤ i,
    ⟨xs.length, by simp, Nat.zero_le _, ok2.grow hL, wk.st (le_new hL) s2, Ex.new hL, le2.trans (le_new hL), [], [], upd_same, .nil, by simpa using .nil, Nat.le_refl _⟩, ?_⟩
  rintro i m H' ⟨rfl, hi', ok', s', e', l', us, ys, hL', pp, pr, hz⟩
  by_cases hlt : i < xs.length
  · refine .inr ⟨wk.go s' hlt, fun H3 => i + 1 ≤ xs.length ∧ Ok W (L :: M) H3 ∧ S (L :: M) H3 ∧ Ex W [] H2 H3 ∧ Le (cut W M H) (cut W (L :: M) H3) ∧
      ∃ us ys, H3 L = some (.lst us) ∧ Paired (Rep W (L :: M) H3) us ys ∧ Paired R ((xs.take (i + 1)).filter p) ys ∧ us.length ≤ i + 1, fun H3 q => ⟨xs.length - (i + 1), by omega, rfl, q⟩, fun v H3 y => ?_⟩
    obtain ⟨x, hx, e3, r⟩ := wk.yld s' ok' y hlt
    have ok3 := ok'.ex e3
    have l3 := l'.trans e3.up.le
    refine he i x v (L :: M) H3 hx l3 ok3 r _ fun σ2 hw ht hel => ⟨hw, ht H3 Ex.refl ok3 _ fun H4 e4 => ?_⟩
    cases hp : p x with
    | false =>
      rw [if_neg Bool.false_ne_true]
      have e34 := e3.trans e4
      refine ⟨hlt, ok'.ex e34, wk.st e34.up.le s', e'.trans e34, l'.trans e34.up.le, us, ys, e34.keep L _ nb (by simp) hL', Pd.mono pp fun _ _ r => r.up e34, ?_, by omega⟩
      rw [take_filter hx, hp, if_neg Bool.false_ne_true, List.append_nil]
      exact pr
    | true =>
      rw [if_pos rfl]
      refine hel hp H4 e4 (ok3.ex e4) _ fun w z H5 rz e5 r5 => ?_
      have e35 := (e3.trans e4).trans e5
      have ok5 := ok'.ex e35
      have hL5 := e35.keep L _ nb (by simp) hL'
      have em : Ex W (L :: M) H5 (upd H5 L (.lst (us ++ [w]))) := Ex.mut nb nbl (List.mem_cons_self)
      have e36 : Ex W (L :: M) H' (upd H5 L (.lst (us ++ [w]))) := e35.up.trans em
      refine ⟨us, hL5, Nat.lt_of_le_of_lt hz (sl (by omega)), hlt, ok5.ex em, wk.st e36.le s', (e'.trans e35).mut0 ok2 hL, l'.trans e36.le, us ++ [w], ys ++ [z], upd_same,
        Pd.append (Pd.mono pp fun _ _ r => r.ex e36) (.cons (r5.ex em) .nil), ?_, by rw [List.length_append]; simp; omega⟩
      rw [take_filter hx, hp, if_pos rfl]
      exact Pd.append pr (.cons rz .nil)
  · have e5 : i = xs.length := by omega
    subst e5
    rw [List.take_length] at pr
    exact .inl ⟨wk.stop s' (Nat.le_refl _), q (.ref L) ys H' pr (e2.trans (e'.sub (by simp))) (rep_lst hL' nb nM (Pd.mono pp fun _ _ r => r.less))⟩
/-- how an answer depends on the item alone -/
theorem Lc.map {p : α → Bool} {f : α → β} {xs : List α} {ys : List β} (h : Lc p (fun x y => y = f x) xs ys) : ys = (xs.filter p).map f := by
  unfold Lc at h
  generalize xs.filter p = zs at h
  induction h with
  | nil => rfl
  | cons r _ ih => rw [List.map_cons, ← ih, r]
theorem EvR.ev {x : α} {P : α → Prop} (h : EvR W M te σ H P) (hp : ∀ y, P y → y = x) : Ev W M te σ H x := fun H1 e ok Q q => h H1 e ok Q fun v y H2 py e2 r => q v H2 e2 (hp y py ▸ r)
theorem et_yes : Et W M tYes σ H true := fun H1 _ _ Q q => q H1 Ex.refl
theorem filter_yes {xs : List α} : xs.filter (fun _ => true) = xs := by simp

/-- [e for x in xs], x in slot k -/
theorem ev_lc {xs : List α} {f : α → β} {k : Nat} (hi : Ei W M wi σ H xs) (hl : xs.length ≤ 1000000) (hk : k ∈ vs)
    (he : ∀ (i : Nat) (x : α) v M' H', xs[i]? = some x → Le (cut W M H) (cut W M' H') → Rep W M' H' v x → Ev W M' te ((wipe σ vs).set k (some v)) H' (f x)) : Ev W M (tLc wi (gName k) tYes te vs) σ H (xs.map f) :=
  (lc_w (p := fun _ => true) (R := fun x y => y = f x) hi hl fun i x v M' H' hx l ok r K q => q _ (by rw [wipe_set hk, wipe_wipe]) et_yes fun _ => (he i x v M' H' hx l r).r).ev fun ys h => by rw [h.map, filter_yes]
theorem ev_lcf {xs : List α} {p : α → Bool} {f : α → β} {k : Nat} (hi : Ei W M wi σ H xs) (hl : xs.length ≤ 1000000) (hk : k ∈ vs)
    (ht : ∀ (i : Nat) (x : α) v M' H', xs[i]? = some x → Le (cut W M H) (cut W M' H') → Rep W M' H' v x → Et W M' tt ((wipe σ vs).set k (some v)) H' (p x))
    (he : ∀ (i : Nat) (x : α) v M' H', xs[i]? = some x → p x = true → Le (cut W M H) (cut W M' H') → Rep W M' H' v x → Ev W M' te ((wipe σ vs).set k (some v)) H' (f x)) : Ev W M (tLc wi (gName k) tt te vs) σ H ((xs.filter p).map f) :=
  (lc_w (p := p) (R := fun x y => y = f x) hi hl fun i x v M' H' hx l ok r K q => q _ (by rw [wipe_set hk, wipe_wipe]) (ht i x v M' H' hx l r) fun hp => (he i x v M' H' hx hp l r).r).ev fun ys h => h.map
/-- .. each one of several -/
theorem evr_lc {xs : List α} {R : α → β → Prop} {k : Nat} (hi : Ei W M wi σ H xs) (hl : xs.length ≤ 1000000) (hk : k ∈ vs)
    (he : ∀ (i : Nat) (x : α) v M' H', xs[i]? = some x → Le (cut W M H) (cut W M' H') → Rep W M' H' v x → EvR W M' te ((wipe σ vs).set k (some v)) H' (R x)) : EvR W M (tLc wi (gName k) tYes te vs) σ H (fun ys => Paired R xs ys) :=
  (lc_w (p := fun _ => true) (R := R) hi hl fun i x v M' H' hx l ok r K q => q _ (by rw [wipe_set hk, wipe_wipe]) et_yes fun _ => he i x v M' H' hx l r).imp fun ys h => by unfold Lc at h; rwa [filter_yes] at h
/-- a pair taken apart into slots k, l -/
def gPair (K : PySem.W.Frag) (k l : Nat) : TG := gTup K 2 (gCons (gName k) (gCons (gName l) gNil))
theorem gPair_rd {x : α × β} {v : V} {k l : Nat} {Q : L2.St → Hp → Prop} (r : Rep W M H v x) (h : ∀ v1 v2, Rep W M H v1 x.1 → Rep W M H v2 x.2 → Q ((σ.set k (some v1)).set l (some v2)) H) : gPair W.K k l v σ H Q := by
  obtain ⟨a, v1, v2, ev, hh, _, _, r1, r2⟩ := r.pair
  exact ⟨a, [v1, v2], ev, .inl hh, rfl, v1, [v2], rfl, v2, [], rfl, rfl, h v1 v2 r1 r2⟩
theorem ev_lc2 {xs : List (α × β)} {f : α × β → γ} {k l : Nat} (hi : Ei W M wi σ H xs) (hl : xs.length ≤ 1000000) (hk : k ∈ vs) (hl' : l ∈ vs)
    (he : ∀ (i : Nat) x v1 v2 M' H', xs[i]? = some x → Le (cut W M H) (cut W M' H') → Rep W M' H' v1 x.1 → Rep W M' H' v2 x.2 → Ev W M' te (((wipe σ vs).set k (some v1)).set l (some v2)) H' (f x)) : Ev W M (tLc wi (gPair W.K k l) tYes te vs) σ H (xs.map f) :=
  (lc_w (p := fun _ => true) (R := fun x y => y = f x) hi hl fun i x v M' H' hx l ok r K q => gPair_rd r fun v1 v2 r1 r2 => q _ (by rw [wipe_set hl', wipe_set hk, wipe_wipe]) et_yes fun _ => (he i x v1 v2 M' H' hx l r1 r2).r).ev fun ys h => by rw [h.map, filter_yes]
theorem evr_lc2 {xs : List (α × β)} {R : α × β → γ → Prop} {k l : Nat} (hi : Ei W M wi σ H xs) (hl : xs.length ≤ 1000000) (hk : k ∈ vs) (hl' : l ∈ vs)
    (he : ∀ (i : Nat) x v1 v2 M' H', xs[i]? = some x → Le (cut W M H) (cut W M' H') → Rep W M' H' v1 x.1 → Rep W M' H' v2 x.2 → EvR W M' te (((wipe σ vs).set k (some v1)).set l (some v2)) H' (R x)) : EvR W M (tLc wi (gPair W.K k l) tYes te vs) σ H (fun ys => Paired R xs ys) :=
  (lc_w (p := fun _ => true) (R := R) hi hl fun i x v M' H' hx l ok r K q => gPair_rd r fun v1 v2 r1 r2 => q _ (by rw [wipe_set hl', wipe_set hk, wipe_wipe]) et_yes fun _ => he i x v1 v2 M' H' hx l r1 r2).imp fun ys h => by unfold Lc at h; rwa [filter_yes] at h
end
end RG
namespace RG
open PySem PySem.Spec PyProof.Rows L2 StX RZ

section
variable {α β γ : Type} [Py α] [Py β] [Py γ] {W : Wd} {M M' N : List Addr} {σ σ' : L2.St} {H H1 H2 H' : Hp} {te ta tb tl : TE} {wi wi1 : TI} {vs vs1 : List Nat} {v : V} {x : α} {i : Nat}
/-- [e for x in xs for z in zs] -/
theorem ev_lcc {xs : List α} {zs : α → List β} {f : α → β → γ} {k l : Nat} (hi : Ei W M wi σ H xs) (hl : xs.length ≤ 1000) (hk : k ∈ vs) (hl' : l ∈ vs1)
    (hz : ∀ x ∈ xs, (zs x).length ≤ 1000)
    (h1 : ∀ (i : Nat) (x : α) v M' H', xs[i]? = some x → Le (cut W M H) (cut W M' H') → Rep W M' H' v x → Ei W M' wi1 ((wipe σ vs).set k (some v)) H' (zs x))
    (he : ∀ (i j : Nat) (x : α) (z : β) v u M' H', xs[i]? = some x → (zs x)[j]? = some z → Le (cut W M H) (cut W M' H') → Rep W M' H' v x → Rep W M' H' u z → Ev W M' te ((wipe ((wipe σ vs).set k (some v)) vs1).set l (some u)) H' (f x z)) :
    Ev W M (tLc2 wi (gName k) tYes wi1 (gName l) tYes te vs vs1) σ H (xs.flatMap fun x => (zs x).map (f x)) := fun H1 e ok Q q => by
  refine hi H1 e ok _ fun J S H2 e2 wk s2 => ?_
  intro L hL
  have ok2 := ok.ex e2
  have nb := ok2.new_b hL
  have nbl := ok2.new_bl hL
  have nM := ok2.new_M hL
  have le2 : Le (cut W M H) (cut W M H2) := (e.trans e2).up.le
  refine ⟨fun i m H' => m = xs.length - i ∧ i ≤ xs.length ∧ Ok W (L :: M) H' ∧ S (L :: M) H' ∧ Ex W [] H2 H' ∧ Le (cut W M H) (cut W (L :: M) H') ∧
    ∃ us, H' L = some (.lst us) ∧ Paired (Rep W (L :: M) H') us ((xs.take i).flatMap fun x => (zs x).map (f x)) ∧ us.length ≤ i * 1000,
    ⟨xs.length, by simp, Nat.zero_le _, ok2.grow hL, wk.st (le_new hL) s2, Ex.new hL, le2.trans (le_new hL), [], upd_same, by simpa using .nil, by simp⟩, ?_⟩
  rintro i m H' ⟨rfl, hi', ok', s', e', l', us, hL', pp, hz'⟩
  by_cases hlt : i < xs.length
  · refine .inr ⟨wk.go s' hlt, fun H3 => i + 1 ≤ xs.length ∧ Ok W (L :: M) H3 ∧ S (L :: M) H3 ∧ Ex W [] H2 H3 ∧ Le (cut W M H) (cut W (L :: M) H3) ∧
      ∃ us, H3 L = some (.lst us) ∧ Paired (Rep W (L :: M) H3) us ((xs.take (i + 1)).flatMap fun x => (zs x).map (f x)) ∧ us.length ≤ (i + 1) * 1000, fun H3 q => ⟨xs.length - (i + 1), by omega, rfl, q⟩, fun v H3 y => ?_⟩
    obtain ⟨x, hx, e3, r⟩ := wk.yld s' ok' y hlt
    have ok3 := ok'.ex e3
    have l3 := l'.trans e3.up.le
    refine ⟨by rw [wipe_set hk, wipe_wipe], ?_⟩
    refine h1 i x v (L :: M) H3 hx l3 r H3 Ex.refl ok3 _ fun J1 S1 H4 e4 wk1 s4 => ?_
    have hxm : x ∈ xs := List.mem_of_getElem? hx
    have e34 := e3.trans e4
    refine ⟨fun j m H' => m = (zs x).length - j ∧ j ≤ (zs x).length ∧ Ok W (L :: M) H' ∧ S (L :: M) H' ∧ S1 (L :: M) H' ∧ Ex W [] H2 H' ∧ Le (cut W M H) (cut W (L :: M) H') ∧ Rep W (L :: M) H' v x ∧
      ∃ us, H' L = some (.lst us) ∧ Paired (Rep W (L :: M) H') us (((xs.take i).flatMap fun x => (zs x).map (f x)) ++ ((zs x).take j).map (f x)) ∧ us.length ≤ i * 1000 + j,
      ⟨(zs x).length, by simp, Nat.zero_le _, ok'.ex e34, wk.st e34.up.le s', s4, e'.trans e34, l'.trans e34.up.le, r.up e4, us, e34.keep L _ nb (by simp) hL', by simpa using Pd.mono pp fun _ _ r => r.up e34, hz'⟩, ?_⟩
    rintro j m H5 ⟨rfl, hj, ok5, s5, s15, e5, l5, r5, us5, hL5, pp5, hz5⟩
    by_cases hjl : j < (zs x).length
    · refine .inr ⟨wk1.go s15 hjl, fun H' => j + 1 ≤ (zs x).length ∧ Ok W (L :: M) H' ∧ S (L :: M) H' ∧ S1 (L :: M) H' ∧ Ex W [] H2 H' ∧ Le (cut W M H) (cut W (L :: M) H') ∧ Rep W (L :: M) H' v x ∧
        ∃ us, H' L = some (.lst us) ∧ Paired (Rep W (L :: M) H') us (((xs.take i).flatMap fun x => (zs x).map (f x)) ++ ((zs x).take (j + 1)).map (f x)) ∧ us.length ≤ i * 1000 + (j + 1), fun H' q => ⟨(zs x).length - (j + 1), by omega, rfl, q⟩, fun u H6 y6 => ?_⟩
      obtain ⟨z, hzj, e6, r6⟩ := wk1.yld s15 ok5 y6 hjl
      have ok6 := ok5.ex e6
      have l6 := l5.trans e6.up.le
      refine ⟨by rw [wipe_set hl', wipe_wipe], ?_⟩
      refine he i j x z v u (L :: M) H6 hx hzj l6 (r5.up e6) r6 H6 Ex.refl ok6 _ fun w H7 e7 r7 => ?_
      have e67 := e6.trans e7
      have ok7 := ok5.ex e67
      have hL7 := e67.keep L _ nb (by simp) hL5
      have em : Ex W (L :: M) H7 (upd H7 L (.lst (us5 ++ [w]))) := Ex.mut nb nbl (List.mem_cons_self)
      have e68 : Ex W (L :: M) H5 (upd H7 L (.lst (us5 ++ [w]))) := e67.up.trans em
      have hb := hz x hxm
      refine ⟨us5, hL7, Nat.lt_of_le_of_lt hz5 (Nat.lt_of_lt_of_le (show i * 1000 + j < 1000 * 1000 by have : i * 1000 ≤ 999 * 1000 := Nat.mul_le_mul_right _ (by omega); omega) (by decide)), hjl, ok7.ex em, wk.st e68.le s5, wk1.st e68.le s15, (e5.trans e67).mut0 ok2 hL, l5.trans e68.le, r5.ex e68, us5 ++ [w], upd_same, ?_, by rw [List.length_append]; simp; omega⟩
      rw [List.take_add_one, hzj, List.map_append, ← List.append_assoc]
      exact Pd.append (Pd.mono pp5 fun _ _ r => r.ex e68) (.cons (r7.ex em) .nil)
    · have ej : j = (zs x).length := by omega
      subst ej
      refine .inl ⟨wk1.stop s15 (Nat.le_refl _), hlt, ok5, s5, e5, l5, us5, hL5, ?_, by have := hz x hxm; omega⟩
      rw [List.take_add_one, hx, List.flatMap_append]
      rw [List.take_length] at pp5
      simpa using pp5
  · have e5 : i = xs.length := by omega
    subst e5
    rw [List.take_length] at pp
    exact .inl ⟨wk.stop s' (Nat.le_refl _), q (.ref L) H' (e2.trans (e'.sub (by simp))) (rep_lst hL' nb nM (Pd.mono pp fun _ _ r => r.less))⟩
end

/-! ### what a def promises -/
section
variable {α β γ δ ε : Type} [Py α] [Py β] [Py γ] [Py δ] [Py ε]
/-- one argument -/
def F1 (K : PySem.W.Frag) (C : Str → Addr) (pre : α → Prop) (f : α → β) : Sp := fun vs H Q _ => ∃ (W : Wd) (M : List Addr) (v : V) (x : α), W.K = K ∧ W.C = C ∧ vs = [v] ∧ Ok W M H ∧ Rep W M H v x ∧ pre x ∧ ∀ r H', Ex W [] H H' → Rep W M H' r (f x) → Q r H'
def F2 (K : PySem.W.Frag) (C : Str → Addr) (pre : α → β → Prop) (f : α → β → γ) : Sp := fun vs H Q _ => ∃ (W : Wd) (M : List Addr) (v u : V) (x : α) (y : β), W.K = K ∧ W.C = C ∧ vs = [v, u] ∧ Ok W M H ∧ Rep W M H v x ∧ Rep W M H u y ∧ pre x y ∧
  ∀ r H', Ex W [] H H' → Rep W M H' r (f x y) → Q r H'
def F3 (K : PySem.W.Frag) (C : Str → Addr) (pre : α → β → γ → Prop) (f : α → β → γ → δ) : Sp := fun vs H Q _ => ∃ (W : Wd) (M : List Addr) (v u w : V) (x : α) (y : β) (z : γ), W.K = K ∧ W.C = C ∧ vs = [v, u, w] ∧ Ok W M H ∧ Rep W M H v x ∧ Rep W M H u y ∧ Rep W M H w z ∧ pre x y z ∧
  ∀ r H', Ex W [] H H' → Rep W M H' r (f x y z) → Q r H'
/-- with the bag ahead, one of several answers -/
def B0 (K : PySem.W.Frag) (C : Str → Addr) (R : β → Prop) : Sp := fun vs H Q _ => ∃ (W : Wd) (M : List Addr), W.K = K ∧ W.C = C ∧ vs = [.ref W.b] ∧ Ok W M H ∧ ∀ r z H', R z → Ex W [] H H' → Rep W M H' r z → Q r H'
def B1 (K : PySem.W.Frag) (C : Str → Addr) (pre : α → Prop) (R : α → β → Prop) : Sp := fun vs H Q _ => ∃ (W : Wd) (M : List Addr) (v : V) (x : α), W.K = K ∧ W.C = C ∧ vs = [.ref W.b, v] ∧ Ok W M H ∧ Rep W M H v x ∧ pre x ∧ ∀ r z H', R x z → Ex W [] H H' → Rep W M H' r z → Q r H'
def B2 (K : PySem.W.Frag) (C : Str → Addr) (pre : α → β → Prop) (R : α → β → γ → Prop) : Sp := fun vs H Q _ => ∃ (W : Wd) (M : List Addr) (v u : V) (x : α) (y : β), W.K = K ∧ W.C = C ∧ vs = [.ref W.b, v, u] ∧ Ok W M H ∧ Rep W M H v x ∧ Rep W M H u y ∧ pre x y ∧
  ∀ r z H', R x y z → Ex W [] H H' → Rep W M H' r z → Q r H'
def B3 (K : PySem.W.Frag) (C : Str → Addr) (pre : α → β → γ → Prop) (R : α → β → γ → δ → Prop) : Sp := fun vs H Q _ => ∃ (W : Wd) (M : List Addr) (v u w : V) (x : α) (y : β) (z : γ), W.K = K ∧ W.C = C ∧ vs = [.ref W.b, v, u, w] ∧ Ok W M H ∧ Rep W M H v x ∧ Rep W M H u y ∧ Rep W M H w z ∧ pre x y z ∧
  ∀ r t H', R x y z t → Ex W [] H H' → Rep W M H' r t → Q r H'
variable {W : Wd} {M M' N : List Addr} {σ σ' : L2.St} {H H1 H2 H' : Hp} {ta tb tc td te : TE} {E : XK}
theorem ev_f1 {pre : α → Prop} {f : α → β} {x : α} (ha : Ev W M ta σ H x) (hp : pre x) : Ev W M (tCall (F1 W.K W.C pre f) [] E (tCons ta tNil)) σ H (f x) := fun H1 e ok Q q =>
  ha H1 e ok _ fun v H2 e2 r => ⟨W, M, v, x, rfl, rfl, rfl, ok.ex e2, r, hp, fun r H3 e3 rr => q r H3 (e2.trans e3) rr⟩
theorem ev_f2 {pre : α → β → Prop} {f : α → β → γ} {x : α} {y : β} (ha : Ev W M ta σ H x) (hb : Ev W M tb σ H y) (hp : pre x y) : Ev W M (tCall (F2 W.K W.C pre f) [] E (tCons ta (tCons tb tNil))) σ H (f x y) := fun H1 e ok Q q =>
  ha H1 e ok _ fun v H2 e2 r => hb H2 (e.trans e2) (ok.ex e2) _ fun u H3 e3 r3 => ⟨W, M, v, u, x, y, rfl, rfl, rfl, (ok.ex e2).ex e3, r.up e3, r3, hp, fun r H4 e4 rr => q r H4 ((e2.trans e3).trans e4) rr⟩
theorem ev_f3 {pre : α → β → γ → Prop} {f : α → β → γ → δ} {x : α} {y : β} {z : γ} (ha : Ev W M ta σ H x) (hb : Ev W M tb σ H y) (hc : Ev W M tc σ H z) (hp : pre x y z) :
    Ev W M (tCall (F3 W.K W.C pre f) [] E (tCons ta (tCons tb (tCons tc tNil)))) σ H (f x y z) := fun H1 e ok Q q =>
  ha H1 e ok _ fun v H2 e2 r => hb H2 (e.trans e2) (ok.ex e2) _ fun u H3 e3 r3 => hc H3 ((e.trans e2).trans e3) ((ok.ex e2).ex e3) _ fun w H4 e4 r4 =>
    ⟨W, M, v, u, w, x, y, z, rfl, rfl, rfl, ((ok.ex e2).ex e3).ex e4, (r.up e3).up e4, r3.up e4, r4, hp, fun r H5 e5 rr => q r H5 (((e2.trans e3).trans e4).trans e5) rr⟩
/-- the slot that holds the bag -/
def Bs (W : Wd) (σ : L2.St) (i : Nat) : Prop := σ[i]? = some (some (.ref W.b))
theorem Bs.set {i k : Nat} {v : V} (h : Bs W σ i) (n : i ≠ k := by decide) : Bs W (σ.set k (some v)) i := by
  unfold Bs
  rw [List.getElem?_set_ne (Ne.symm n)]
  exact h
theorem Bs.wipe {i : Nat} (h : Bs W σ i) {vs : List Nat} (n : i ∉ vs := by decide) : Bs W (L2.wipe σ vs) i := by
  unfold Bs at h ⊢
  induction vs with
  | nil => exact h
  | cons a l ih =>
    show ((L2.wipe σ l).set a none)[i]? = _
    rw [List.getElem?_set_ne (fun z => n (by rw [z]; exact List.mem_cons_self))]
    exact ih (fun z => n (List.mem_cons_of_mem _ z))
variable {i : Nat}
theorem evr_b0 {R : β → Prop} (hb : Bs W σ i) : EvR W M (tCall (B0 W.K W.C R) [] E (tCons (tVar i) tNil)) σ H R := fun H1 e ok Q q =>
  ⟨.ref W.b, hb, W, M, rfl, rfl, rfl, ok, fun r z H3 hz e3 rr => q r z H3 hz e3 rr⟩
theorem evr_b1 {pre : α → Prop} {R : α → β → Prop} {x : α} (hb : Bs W σ i) (ha : Ev W M ta σ H x) (hp : pre x) : EvR W M (tCall (B1 W.K W.C pre R) [] E (tCons (tVar i) (tCons ta tNil))) σ H (R x) := fun H1 e ok Q q =>
  ⟨.ref W.b, hb, ha H1 e ok _ fun v H2 e2 r => ⟨W, M, v, x, rfl, rfl, rfl, ok.ex e2, r, hp, fun r z H3 hz e3 rr => q r z H3 hz (e2.trans e3) rr⟩⟩
theorem evr_b2 {pre : α → β → Prop} {R : α → β → γ → Prop} {x : α} {y : β} (hb : Bs W σ i) (ha : Ev W M ta σ H x) (hc : Ev W M tb σ H y) (hp : pre x y) : EvR W M (tCall (B2 W.K W.C pre R) [] E (tCons (tVar i) (tCons ta (tCons tb tNil)))) σ H (R x y) := fun H1 e ok Q q =>
  ⟨.ref W.b, hb, ha H1 e ok _ fun v H2 e2 r => hc H2 (e.trans e2) (ok.ex e2) _ fun u H3 e3 r3 => ⟨W, M, v, u, x, y, rfl, rfl, rfl, (ok.ex e2).ex e3, r.up e3, r3, hp, fun r z H4 hz e4 rr => q r z H4 hz ((e2.trans e3).trans e4) rr⟩⟩
theorem evr_b3 {pre : α → β → γ → Prop} {R : α → β → γ → δ → Prop} {x : α} {y : β} {z : γ} (hb : Bs W σ i) (ha : Ev W M ta σ H x) (hc : Ev W M tb σ H y) (hd : Ev W M tc σ H z) (hp : pre x y z) :
    EvR W M (tCall (B3 W.K W.C pre R) [] E (tCons (tVar i) (tCons ta (tCons tb (tCons tc tNil))))) σ H (R x y z) := fun H1 e ok Q q =>
  ⟨.ref W.b, hb, ha H1 e ok _ fun v H2 e2 r => hc H2 (e.trans e2) (ok.ex e2) _ fun u H3 e3 r3 => hd H3 ((e.trans e2).trans e3) ((ok.ex e2).ex e3) _ fun w H4 e4 r4 =>
    ⟨W, M, v, u, w, x, y, z, rfl, rfl, rfl, ((ok.ex e2).ex e3).ex e4, (r.up e3).up e4, r3.up e4, r4, hp, fun r t H5 ht e5 rr => q r t H5 ht (((e2.trans e3).trans e4).trans e5) rr⟩⟩

/-! ### statements -/
variable {D : Ends} {t1 t2 ts : TS} {tt : TT} {k l : Nat} {x : α} {a p : Addr}
theorem s_set (ok : Ok W M H) (h : Ev W M te σ H x) (q : ∀ v H', Ex W [] H H' → Ok W M H' → Rep W M H' v x → D.nx (σ.set k (some v)) H') : tAsg te (gName k) D σ H :=
  h H Ex.refl ok _ fun v H' e r => q v H' e (ok.ex e) r
theorem s_setR {P : α → Prop} (ok : Ok W M H) (h : EvR W M te σ H P) (q : ∀ v x H', P x → Ex W [] H H' → Ok W M H' → Rep W M H' v x → D.nx (σ.set k (some v)) H') : tAsg te (gName k) D σ H :=
  h H Ex.refl ok _ fun v x H' px e r => q v x H' px e (ok.ex e) r
theorem s_set2 {x : α × β} (ok : Ok W M H) (h : Ev W M te σ H x) (q : ∀ v u H', Ex W [] H H' → Ok W M H' → Rep W M H' v x.1 → Rep W M H' u x.2 → D.nx ((σ.set k (some v)).set l (some u)) H') : tAsg te (gPair W.K k l) D σ H :=
  h H Ex.refl ok _ fun v H' e r => gPair_rd r fun v1 v2 r1 r2 => q v1 v2 H' e (ok.ex e) r1 r2
theorem s_drop (ok : Ok W M H) (h : Ev W M te σ H x) (q : ∀ H', Ex W [] H H' → Ok W M H' → D.nx σ H') : tDrop te D σ H :=
  h H Ex.refl ok _ fun v H' e r => q H' e (ok.ex e)
theorem s_ret (ok : Ok W M H) (h : Ev W M te σ H x) (q : ∀ v H', Ex W [] H H' → Rep W M H' v x → D.rt v H') : tRet te D σ H :=
  h H Ex.refl ok _ fun v H' e r => q v H' e r
theorem s_retR {P : α → Prop} (ok : Ok W M H) (h : EvR W M te σ H P) (q : ∀ v x H', P x → Ex W [] H H' → Rep W M H' v x → D.rt v H') : tRet te D σ H :=
  h H Ex.refl ok _ fun v x H' px e r => q v x H' px e r
theorem s_if {b : Bool} (ok : Ok W M H) (h : Et W M tt σ H b) (h1 : b = true → ∀ H', Ex W [] H H' → Ok W M H' → t1 D σ H') (h2 : b = false → ∀ H', Ex W [] H H' → Ok W M H' → t2 D σ H') : tIfS tt t1 t2 D σ H :=
  h H Ex.refl ok _ fun H' e => by
    cases b with
    | true => rw [if_pos rfl]; exact h1 rfl H' e (ok.ex e)
    | false => rw [if_neg Bool.false_ne_true]; exact h2 rfl H' e (ok.ex e)
theorem s_no (ok : Ok W M H) (h : Et W M tt σ H false) (h2 : ∀ H', Ex W [] H H' → Ok W M H' → t2 D σ H') : tIfS tt t1 t2 D σ H := s_if ok h (fun z => nomatch z) fun _ => h2
theorem s_yes (ok : Ok W M H) (h : Et W M tt σ H true) (h1 : ∀ H', Ex W [] H H' → Ok W M H' → t1 D σ H') : tIfS tt t1 t2 D σ H := s_if ok h (fun _ => h1) (fun z => nomatch z)
/-- xs = [], a list that will be filled -/
theorem s_new (ok : Ok W M H) (q : ∀ p, H p = none → Ex W [] H (upd H p (.lst [])) → Le (cut W M H) (cut W (p :: M) (upd H p (.lst []))) → Ok W (p :: M) (upd H p (.lst [])) → D.nx (σ.set k (some (.ref p))) (upd H p (.lst []))) : tAsg (tLst tNil) (gName k) D σ H :=
  ⟨Nat.zero_le _, fun p hp => q p hp (Ex.new hp) (le_new hp) (ok.grow hp)⟩
/-- a list that is filled: what it holds so far -/
structure Acc {α : Type} [Py α] (W : Wd) (M : List Addr) (σ : L2.St) (H : Hp) (k : Nat) (p : Addr) (xs : List α) : Prop where
  at_ : σ[k]? = some (some (.ref p))
  nb : p ≠ W.b
  nbl : p ≠ W.bl
  mem : p ∈ M
  it : ∃ vs, H p = some (.lst vs) ∧ Paired (Rep W M H) vs xs
theorem Acc.new (ok : Ok W M H) (hp : H p = none) (hk : k < σ.length) : Acc W (p :: M) (σ.set k (some (.ref p))) (upd H p (.lst [])) k p ([] : List α) :=
  ⟨by rw [List.getElem?_set_self hk], ok.new_b hp, ok.new_bl hp, List.mem_cons_self, [], upd_same, .nil⟩
theorem Acc.up {xs : List α} (h : Acc W M σ H k p xs) (e : Ex W [] H H') : Acc W M σ H' k p xs :=
  ⟨h.at_, h.nb, h.nbl, h.mem, let ⟨vs, hh, pp⟩ := h.it; ⟨vs, e.keep _ _ h.nb (by simp) hh, Pd.mono pp fun _ _ r => r.up e⟩⟩
theorem Acc.set {xs : List α} {v : V} (h : Acc W M σ H k p xs) (e : Ex W [] H H') (n : k ≠ l := by decide) : Acc W M (σ.set l (some v)) H' k p xs :=
  ⟨by rw [List.getElem?_set_ne (Ne.symm n)]; exact h.at_, h.nb, h.nbl, h.mem, (h.up e).it⟩
theorem Acc.setσ {xs : List α} {v : V} (h : Acc W M σ H k p xs) (n : k ≠ l := by decide) : Acc W M (σ.set l (some v)) H k p xs := h.set Ex.refl n
/-- xs.append(e) -/
theorem s_app {xs : List α} (ok : Ok W M H) (hA : Acc W M σ H k p xs) (hl : xs.length ≤ 1000000) (h : Ev W M te σ H x)
    (q : ∀ H', Ex W M H H' → (∀ G, Ex W [] G H → Ok W N G → G p = none → Ex W [] G H') → Ok W M H' → Acc W M σ H' k p (xs ++ [x]) → D.nx σ H') : tDrop (tBM W.K "list" rAppend (tVar k) (tCons te tNil)) D σ H := by
  obtain ⟨vs, hp, pp⟩ := hA.it
  refine ⟨.ref p, hA.at_, .inl ⟨rfl, vs, SqL.of hp⟩, h H Ex.refl ok _ fun v H2 e2 r => ⟨p, vs, v, rfl, rfl, e2.keep _ _ hA.nb (by simp) hp, by rw [Pd.length pp]; exact sl hl, ?_⟩⟩
  have em : Ex W M H2 (upd H2 p (.lst (vs ++ [v]))) := Ex.mut hA.nb hA.nbl hA.mem
  refine q _ (e2.up.trans em) (fun G eG okG hG => (eG.trans e2).mut0 okG hG) ((ok.ex e2).ex em) ⟨hA.at_, hA.nb, hA.nbl, hA.mem, vs ++ [v], upd_same, ?_⟩
  exact Pd.append (Pd.mono pp fun _ _ r => (r.up e2).ex em) (.cons (r.ex em) .nil)
theorem s_appR {P : α → Prop} {xs : List α} (ok : Ok W M H) (hA : Acc W M σ H k p xs) (hl : xs.length ≤ 1000000) (h : EvR W M te σ H P)
    (q : ∀ x H', P x → Ex W M H H' → (∀ G, Ex W [] G H → Ok W N G → G p = none → Ex W [] G H') → Ok W M H' → Acc W M σ H' k p (xs ++ [x]) → D.nx σ H') : tDrop (tBM W.K "list" rAppend (tVar k) (tCons te tNil)) D σ H := by
  obtain ⟨vs, hp, pp⟩ := hA.it
  refine ⟨.ref p, hA.at_, .inl ⟨rfl, vs, SqL.of hp⟩, h H Ex.refl ok _ fun v x H2 px e2 r => ⟨p, vs, v, rfl, rfl, e2.keep _ _ hA.nb (by simp) hp, by rw [Pd.length pp]; exact sl hl, ?_⟩⟩
  have em : Ex W M H2 (upd H2 p (.lst (vs ++ [v]))) := Ex.mut hA.nb hA.nbl hA.mem
  refine q x _ px (e2.up.trans em) (fun G eG okG hG => (eG.trans e2).mut0 okG hG) ((ok.ex e2).ex em) ⟨hA.at_, hA.nb, hA.nbl, hA.mem, vs ++ [v], upd_same, ?_⟩
  exact Pd.append (Pd.mono pp fun _ _ r => (r.up e2).ex em) (.cons (r.ex em) .nil)
/-- the list is filled: it is data -/
theorem Acc.done {xs : List α} (h : Acc W (p :: M) σ H k p xs) (hm : p ∉ M) : Sl W M σ H k xs :=
  let ⟨vs, hh, pp⟩ := h.it; ⟨.ref p, h.at_, rep_lst hh h.nb hm (Pd.mono pp fun _ _ r => r.less)⟩
end
end RG
namespace RG
open PySem PySem.Spec PyProof.Rows L2 StX RZ

/-! ### defs, methods, classes of the text, with all that a call asks -/
structure Cal (P : Program) (w : World) (K : PySem.W.Frag) (mg : Str → Option Value) (base : Heap) (k : Nat) (x : Str) (ps : List Str) (sp : Sp) where
  f : Addr
  fd : FuncData
  ok : FnOk P w K mg base CX0 k f fd ps sp
  gl : mg x = some (.ref f)
  kp : PySem.W.keepIn K (.ref f) = true
  b : Binds K fd ps []
structure MetC (P : Program) (w : World) (K : PySem.W.Frag) (mg : Str → Option Value) (base : Heap) (k : Nat) (C : Addr) (m : Str) (ps : List Str) (sp : Sp) where
  f : Addr
  fd : FuncData
  ok : FnOk P w K mg base CX0 k f fd ps sp
  cl : Cls K C
  me : Meth K C m f
  b : Binds K fd ps []
structure PropC (P : Program) (w : World) (K : PySem.W.Frag) (mg : Str → Option Value) (base : Heap) (k : Nat) (C : Addr) (m : Str) (sp : Sp) where
  p : Addr
  g : Addr
  fd : FuncData
  ok : FnOk P w K mg base CX0 k g fd ["self"] sp
  cl : Cls K C
  pr : PropOf K C m p g
  b : Binds K fd ["self"] []
structure MakC (P : Program) (w : World) (K : PySem.W.Frag) (mg : Str → Option Value) (base : Heap) (k : Nat) (C : Addr) (x : Str) (ps : List Str) (sp : Sp) where
  f : Addr
  fd : FuncData
  ok : FnOk P w K mg base CX0 k f fd ps sp
  mo : Mk K C f
  gl : mg x = some (.ref C)
  b : Binds K fd ps []
/-- a special method: found in the class, called by an operator -/
structure OwnC (P : Program) (w : World) (K : PySem.W.Frag) (mg : Str → Option Value) (base : Heap) (k : Nat) (C : Addr) (m : Str) (ps : List Str) (sp : Sp) where
  f : Addr
  fd : FuncData
  ok : FnOk P w K mg base CX0 k f fd ps sp
  fi : PySem.W.findIn K (.ref C) m = some (some (.ref f))
  fn : PySem.W.isFn K (.ref f) = true
  b : Binds K fd ps []
structure CmC (P : Program) (w : World) (K : PySem.W.Frag) (mg : Str → Option Value) (base : Heap) (k : Nat) (C : Addr) (x m : Str) (ps : List Str) (sp : Sp) where
  p : Addr
  f : Addr
  mc : Value
  fd : FuncData
  ok : FnOk P w K mg base CX0 k f fd ps sp
  gl : mg x = some (.ref C)
  rd : ClX.CRead K C mc
  cm : ClX.CMet K C mc m p f
  b : Binds K fd ps []
theorem fnR_of {k : Nat} {f : Addr} {fd : FuncData} {K : PySem.W.Frag} {P : Program} {w : World} {mg : Str → Option Value} {base : Heap} {ps : List Str} {sp : Sp} (F : FnOk P w K mg base CX0 k f fd ps sp) (hb : Binds K fd ps []) : FnR P w K mg base CX0 k f sp :=
  (F.raw hb .nil).imp fun vs H Q E h => by rw [List.append_nil]; exact h

section
variable {X : Cx} {k j i : Nat} {C : Addr} {x m f : Str} {ps : List Str} {sp : Sp} {p pos apos : Pos} {e o : Expr} {es : List Expr} {t : TA} {ta tb te : TE}
/-! ### operators of own classes -/
/-- x in o, by the class's own word -/
def rInOwn (C : Addr) (sp : Sp) (neg : Bool) : R2 := fun x y H Q => ∃ a dx fs, y = .ref a ∧ H a = some (.ins C dx fs) ∧ sp [y, x] H (fun z H' => ∃ b, z = .bl b ∧ Q (.bl (if neg then !b else b)) H') E0
theorem op_inOwn (c : OwnC X.prog X.w X.K X.mg X.base k C "__contains__" ps sp) (hr : Room k X.A) : OpR X (compareOp .In) (rInOwn C sp false) := by
  intro pins s σ H x y v u Q I rx ry h
  obtain ⟨a, dx, fs, rfl, ha, q⟩ := h
  cases (show u = Value.ref a from ry)
  obtain ⟨mA, O, _⟩ := ins_get I.hok ha
  obtain ⟨od, J, _⟩ := O.look
  obtain ⟨m, hF⟩ := I.fr
  refine PySem.W.in_K hF I.ok.mod.kin J c.fi c.fn (wpAny_mono (wpAny_call (run_fnR (us := [.ref a, v]) (vs := [.ref a, x]) (fnR_of c.ok c.b) hr pass0 I (.cons rfl (.cons rx .nil)) q)) (fun r s' z => ?_) fun _ _ x => x)
  obtain ⟨z', H', I', rz, b, ez, qz⟩ := z
  subst ez
  cases (show r = Value.bool b from rz)
  exact wpAny_truthy_bool ⟨.bl b, H', I', rfl, qz⟩
theorem op_notInOwn (c : OwnC X.prog X.w X.K X.mg X.base k C "__contains__" ps sp) (hr : Room k X.A) : OpR X (compareOp .NotIn) (rInOwn C sp true) := by
  intro pins s σ H x y v u Q I rx ry h
  obtain ⟨a, dx, fs, rfl, ha, q⟩ := h
  cases (show u = Value.ref a from ry)
  obtain ⟨mA, O, _⟩ := ins_get I.hok ha
  obtain ⟨od, J, _⟩ := O.look
  obtain ⟨m, hF⟩ := I.fr
  refine PySem.W.notIn_K hF I.ok.mod.kin J c.fi c.fn (wpAny_mono (wpAny_call (run_fnR (us := [.ref a, v]) (vs := [.ref a, x]) (fnR_of c.ok c.b) hr pass0 I (.cons rfl (.cons rx .nil)) q)) (fun r s' z => ?_) fun _ _ x => x)
  obtain ⟨z', H', I', rz, b, ez, qz⟩ := z
  subst ez
  cases (show r = Value.bool b from rz)
  exact wpAny_truthy_bool ⟨.bl (!b), H', I', rfl, qz⟩
/-- len(o), by the class's own word -/
def rLenOwn (C : Addr) (sp : Sp) : List V → Hp → VK → Prop := fun xs H Q => ∃ a dx fs, xs = [.ref a] ∧ H a = some (.ins C dx fs) ∧ sp [.ref a] H (fun z H' => ∃ n : Int, z = .int n ∧ 0 ≤ n ∧ n < 2 ^ 63 ∧ Q (.int n) H') E0
theorem cLenOwn (c : OwnC X.prog X.w X.K X.mg X.base k C "__len__" ps sp) (hr : Room (k + 1) X.A) : CallR X (.builtin "len") (rLenOwn C sp) := by
  intro pins s σ H xs us Q I r h
  obtain ⟨a, dx, fs, rfl, ha, q⟩ := h
  obtain ⟨u, rfl, ru⟩ := r.one
  cases (show u = Value.ref a from ru)
  obtain ⟨mA, O, _⟩ := ins_get I.hok ha
  obtain ⟨od, J, _⟩ := O.look
  obtain ⟨m, hF⟩ := I.fr
  refine PySem.W.len_K hF I.ok.mod.kin J c.fi c.fn (wpAny_mono (wpAny_call (SlX.run_at (us := [.ref a]) (ws := [.ref a]) (fnR_of c.ok c.b) hr.in1 I.env0.in1 pass0 I (.cons rfl .nil) q)) (fun r s' z => ?_) fun _ _ x => x)
  obtain ⟨z', H', I', rz, n, ez, h0, h1, qz⟩ := z
  subst ez
  obtain ⟨t, e⟩ := (show ∃ t, r = Value.int n t from rz)
  cases e
  exact ⟨⟨h0, h1⟩, .int n, H', I'.tok _, ⟨_, rfl⟩, qz⟩
/-- C(..) where a local name holds the class -/
def tMakeL (i : Nat) (C : Addr) (sp : Sp) (t : TA) : TE := fun σ H Q => σ[i]? = some (some (.ref C)) ∧ tMake C sp [] E0 t σ H Q
theorem pe_makeL {f : Addr} {fd : FuncData} (M : Mk X.K C f) (F : FnOk X.prog X.w X.K X.mg X.base CX0 k f fd ps sp) (hr : Room (k + 1) X.A) (hb : Binds X.K fd ps []) (ha : PA X (e :: es) t) (hN : X.N[i]? = some x := by rfl)
    (hv : Vis X.env.scope x := by first | exact Or.inl rfl | exact Or.inr (Or.inl rfl) | exact Or.inr (Or.inr rfl)) (hdb : (x == ("__debug__" : Str)) = false := by decide) (hcd : (x == ("__classdict__" : Str)) = false := by decide)
    (he : starEach (e :: es) X.env = (false, eval e X.env) :: starEach es X.env := by rfl) (hpl : (backTo pos (starEach es X.env)).any (·.1) = false := by rfl) : PE X (.Call (.Name x p) (e :: es) [] pos) (tMakeL i C sp t) := by
  refine ⟨fun pins s σ H Q I h => ?_⟩
  obtain ⟨hs, ht⟩ := h
  refine wpAny_Call_Name_kw (thn ((pe_var (pos := p) hN hv hdb hcd).run pins s σ H (fun v H1 => v = .ref C ∧ H1 = H) I ⟨.ref C, hs, rfl, rfl⟩) fun u s1 ⟨v, H1, I1, r1, q1⟩ => ?_)
  obtain ⟨rfl, rfl⟩ := q1
  cases r1
  refine PySem.W.callWith_K (h₀ := X.base) I.ok.mod.kin M.kp (thn (ha.run pos pins s1 σ _ _ I1 ht) fun us s2 ⟨vs, H2, I2, r, q⟩ => ⟨I2.kIn, ?_⟩) he hpl
  exact run_make M F hr hb .nil pass0 I2 r q

/-! ### a list or a tuple -/
def iSeq (K : PySem.W.Frag) (tl : TE) : TI := fun σ H R => tl σ H fun x H1 => ∃ a, x = .ref a ∧ (((∃ xs, SqL K H1 a xs) ∧ R (Itl K a) H1) ∨ ((∃ xs, SqT K H1 a xs) ∧ R (Itt K a) H1))
theorem pi_seq {tg l : Expr} {tl : TE} (hl : PE X l tl) : PI X tg l (iSeq X.K tl) := by
  refine ⟨fun pins s σ H R I h => ?_⟩
  refine thn (hl.run pins s σ H _ I h) fun v s1 ⟨x, H1, I1, r1, q1⟩ => ?_
  obtain ⟨a, e, q⟩ := q1
  subst e
  cases r1
  have one : ∀ b, b ∈ [s1.heap.objs.size] → b = s1.heap.objs.size := fun b hb => by simpa using hb
  rcases q with ⟨⟨xs, hq⟩, q⟩ | ⟨⟨xs, hq⟩, q⟩
  · obtain ⟨its, rv, p, hz⟩ := I1.list hq
    refine wpAny_pyIter_list p.isList ?_
    exact ⟨s1.heap.objs.size, [s1.heap.objs.size], _, _, H1, rfl, I1.kept (t' := s1.toks) fun b o e => Heap.get?_push_of_some _ e, turn_list a _, ⟨_, Heap.get?_push_size _ rfl, rfl, rfl⟩,
      fun b hb => by rw [one b hb]; exact I1.fpOk (Nat.le_refl _) (I1.hok.fresh (Nat.le_refl _)), q⟩
  · obtain ⟨its, rv, p, hz⟩ := I1.tuple hq
    refine wpAny_pyIter_tuple (show s1.heap.IsTuple a its.toArray from p) ?_
    exact ⟨s1.heap.objs.size, [s1.heap.objs.size], _, _, H1, rfl, I1.kept (t' := s1.toks) fun b o e => Heap.get?_push_of_some _ e, turn_tuple a _, ⟨_, Heap.get?_push_size _ rfl, rfl, rfl⟩,
      fun b hb => by rw [one b hb]; exact I1.fpOk (Nat.le_refl _) (I1.hok.fresh (Nat.le_refl _)), q⟩
/-- an item of a list or of a tuple -/
def rIxQ (K : PySem.W.Frag) : R2 := fun x y H Q => rIxL K x y H Q ∨ rIxT K x y H Q
theorem ix_seqQ : IxR X (rIxQ X.K) := fun value slice pins s σ H x y v u Q I rx ry h hs => by
  rcases h with h | h
  · exact ix_list value slice pins s σ H x y v u Q I rx ry h hs
  · exact ix_tup value slice pins s σ H x y v u Q I rx ry h hs

/-! ### a tuple whose object is known: tuple(a list), and its methods -/
def rTupOfF (K : PySem.W.Frag) : List V → Hp → VK → Prop := fun xs H Q => ∃ p ys, xs = [.ref p] ∧ SqL K H p ys ∧ ∀ l o, H l = none → o.cls = .type "tuple" → o.dict = none → Q (.ref l) (upd H l (.frz o (.tup ys)))
theorem cTupOfF : CallR X (.type "tuple") (rTupOfF X.K) := by
  intro pins s σ H xs us Q I r h
  obtain ⟨p, ys, rfl, hq, q⟩ := h
  obtain ⟨u, rfl, ru⟩ := r.one
  cases ru
  obtain ⟨its, r', pl, hz⟩ := I.list hq
  have hlen := r'.length
  refine call_tuple_list pl.isList (fun h' kp => ?_) (by simp only [List.size_toArray] <;> omega)
  have I1 : Inv X pins σ H { s with heap := h' } := I.kept (t' := s.toks) kp
  have I2 : Inv X pins σ (upd H h'.objs.size (.frz { cls := .type "tuple", data := .seq its.toArray } (.tup ys))) { s with heap := h'.push { cls := .type "tuple", data := .seq its.toArray } } :=
    I1.laid (t' := s.toks) (fun b o e => Heap.get?_push_of_some _ e) (Nat.le_refl _) (show ObjOk X.prog X.w _ _ _ (.frz _ (.tup ys)) from ⟨Heap.get?_push_size _ rfl, hz, its, r', IsTup.new _ _⟩)
  exact ⟨.ref h'.objs.size, _, I2, rfl, q _ _ (I1.hok.fresh (Nat.le_refl _)) rfl rfl⟩
def tBMF (T : String) (r : V → List V → Hp → VK → Prop) (to : TE) (t : TA) : TE := fun σ H Q => to σ H fun x H1 => (∃ a ob u, x = .ref a ∧ H1 a = some (.frz ob u) ∧ ob.cls = .type T ∧ ob.dict = none) ∧ t σ H1 fun xs H2 => r x xs H2 Q
theorem pe_bmF {to : TE} {name : Str} {cpos : Pos} {T id : String} {r : V → List V → Hp → VK → Prop} (pa : PlainAttrs T) (slot : Slot T name id) (hty : typeOf (.builtin id) = pure (.type "method_descriptor")) (hm : MtR X id r) (ho : PE X o to) (ha : PA X (e :: es) t)
    (hbase : attributeBase o name X.env (eval o X.env) = eval o X.env := by rfl)
    (hfew : ((backTo cpos (starEach (e :: es) X.env)).all (fun x => !x.1) && (backToKw cpos (keywordEach [] X.env)).all (fun x => x.1.isSome)
      && decide ((e :: es).length + ([] : List Keyword).length + (if ([] : List Keyword).isEmpty then 0 else 1) < 30)) = true := by rfl)
    (hline : (apos.endLine == cpos.line) = true := by rfl) (hs : starEach (e :: es) X.env = (false, eval e X.env) :: starEach es X.env := by rfl) (hplain : (backTo cpos (starEach es X.env)).any (·.1) = false := by rfl) :
    PE X (.Call (.Attribute o name apos) (e :: es) [] cpos) (tBMF T r to t) := by
  refine ⟨fun pins s σ H Q I h => ?_⟩
  refine wpAny_Call_method_late hbase hfew hline rfl (thn (ho.run pins s σ H _ I h) fun v s1 ⟨x, H1, I1, r1, ty, q1⟩ => ?_)
  obtain ⟨a, ob, u, rfl, ha1, hc1, hd1⟩ := ty
  cases r1
  have hob : s1.heap.get? a = some ob := (show ObjOk X.prog X.w H1 s1.heap a (.frz ob u) from I1.hok a _ ha1).1
  refine ⟨T, id, pa, slot, hty, ⟨ob, hob, hc1⟩, (fun b eb => by cases eb; exact ⟨ob, hob, hd1⟩), ?_⟩
  have hA := ha.run cpos pins s1 σ H1 _ I1 q1
  rw [hs] at hA ⊢
  refine Calls.callWith_builtin (by show (false || (backTo cpos (starEach es X.env)).any (·.1)) = false; rw [hplain] <;> rfl) (Calls.evalArgs_plain ?_)
  exact thn hA fun us s2 ⟨vs, H2, I2, r2, q2⟩ => hm pins s2 σ H2 (.ref a) vs (.ref a) us Q I2 rfl r2 q2
end
end RG
namespace RG
open PySem PySem.Spec PyProof.Rows L2 StX RZ
theorem u65 {k : Nat} {A : Around} (r : Room k A) : A.units + 65 < cLine := by have := r.un; omega

/-! ### a list or a tuple -/
structure Sq (α : Type) where
  l : List α
  deriving DecidableEq
instance : Inhabited (Sq α) := ⟨⟨[]⟩⟩
instance [Py α] : Py (Sq α) := ⟨fun W H v x => Py.rep W H v x.l ∨ Py.rep W H v (Tup.mk x.l), fun l h => h.elim (fun h => .inl (Py.mono l h)) fun h => .inr (Py.mono l h)⟩

section
variable {α β γ : Type} [Py α] [Py β] [Py γ] {W : Wd} {M M' N : List Addr} {σ σ' : L2.St} {H H1 H2 H' : Hp} {te ta tb tc tl : TE} {tr : TA} {x : α} {y : β} {v : V}
theorem Rep.sq {xs : Sq α} (h : Rep W M H v xs) : Rep W M H v xs.l ∨ Rep W M H v (Tup.mk xs.l) := h
theorem Rep.toSq {xs : List α} (h : Rep W M H v xs) : Rep W M H v (Sq.mk xs) := .inl h
theorem Rep.toSqT {xs : Tup α} (h : Rep W M H v xs) : Rep W M H v (Sq.mk xs.l) := .inr h
/-- read as data of another kind -/
theorem Ev.cv {z : β} (h : Ev W M te σ H x) (q : ∀ v H', Rep W M H' v x → Rep W M H' v z) : Ev W M te σ H z := fun H1 e ok Q k => h H1 e ok Q fun v H2 e2 r => k v H2 e2 (q v H2 r)
theorem Ev.sq {xs : List α} (h : Ev W M te σ H xs) : Ev W M te σ H (Sq.mk xs) := h.cv fun _ _ r => r.toSq
theorem Ev.sqT {xs : Tup α} (h : Ev W M te σ H xs) : Ev W M te σ H (Sq.mk xs.l) := h.cv fun _ _ r => r.toSqT
theorem Pd.cv {F G : V → α → Prop} {f : α → β} {K : V → β → Prop} (h : ∀ v x, F v x → K v (f x)) : ∀ {vs : List V} {xs : List α}, Paired F vs xs → Paired K vs (xs.map f)
  | _, _, .nil => .nil
  | _, _, .cons r t => .cons (h _ _ r) (Pd.cv (G := F) h t)
theorem Rep.lmap {xs : List α} {f : α → β} (h : Rep W M H v xs) (q : ∀ v x, Rep W M H v x → Rep W M H v (f x)) : Rep W M H v (xs.map f) := by
  obtain ⟨a, vs, e, hh, hb, hm, pp⟩ := h.lst
  subst e
  exact rep_lst hh hb hm (Pd.cv (G := Rep W M H) q pp)
theorem Rep.tmap {xs : Tup α} {f : α → β} (h : Rep W M H v xs) (q : ∀ v x, Rep W M H v x → Rep W M H v (f x)) : Rep W M H v (Tup.mk (xs.l.map f)) := by
  obtain ⟨a, vs, e, hh, hb, hm, pp⟩ := h.tup
  subst e
  exact rep_tup hh hb hm (Pd.cv (G := Rep W M H) q pp)
theorem Rep.pmap {x : α × β} {z : γ} (h : Rep W M H v x) (q : ∀ v, Rep W M H v x.2 → Rep W M H v z) : Rep W M H v (x.1, z) := by
  obtain ⟨a, v1, v2, e, hh, hb, hm, r1, r2⟩ := h.pair
  subst e
  exact rep_pair hh hb hm r1 (q _ r2)
theorem ev_lenQ {xs : Sq α} (ha : Ev W M ta σ H xs) : Ev W M (tCB (rLenS W.K) (tCons ta tNil)) σ H (xs.l.length : Int) := fun H1 e ok Q q =>
  ha H1 e ok _ fun v H2 e2 r => by
    rcases r.sq with r | r
    · obtain ⟨a, vs, ev, hh, _, _, pp⟩ := r.lst
      exact ⟨a, vs, by rw [ev], .inl (SqL.of hh), by rw [Pd.length pp]; exact q _ H2 e2 rep_int⟩
    · obtain ⟨a, vs, ev, hh, _, _, pp⟩ := r.tup
      exact ⟨a, vs, by rw [ev], .inr (.inl hh), by rw [Pd.length pp]; exact q _ H2 e2 rep_int⟩
theorem ev_listQ {xs : Sq α} (ha : Ev W M ta σ H xs) : Ev W M (tCB (rListOf W.K) (tCons ta tNil)) σ H xs.l := fun H1 e ok Q q =>
  ha H1 e ok _ fun v H2 e2 r => by
    rcases r.sq with r | r
    · obtain ⟨a, vs, ev, hh, _, _, pp⟩ := r.lst
      exact ⟨a, vs, by rw [ev], .inl (SqL.of hh), fun l hl => q _ _ (e2.trans (Ex.new hl)) (rep_lst upd_same ((ok.ex e2).new_b hl) ((ok.ex e2).new_M hl) (Pd.mono pp fun _ _ r => r.up (Ex.new hl)))⟩
    · obtain ⟨a, vs, ev, hh, _, _, pp⟩ := r.tup
      exact ⟨a, vs, by rw [ev], .inr (.inl hh), fun l hl => q _ _ (e2.trans (Ex.new hl)) (rep_lst upd_same ((ok.ex e2).new_b hl) ((ok.ex e2).new_M hl) (Pd.mono pp fun _ _ r => r.up (Ex.new hl)))⟩
theorem ev_tupleQ {xs : Sq α} (ha : Ev W M ta σ H xs) : Ev W M (tCB (rTupOf W.K) (tCons ta tNil)) σ H (Tup.mk xs.l) := fun H1 e ok Q q =>
  ha H1 e ok _ fun v H2 e2 r => by
    rcases r.sq with r | r
    · obtain ⟨a, vs, ev, hh, _, _, pp⟩ := r.lst
      exact ⟨a, vs, by rw [ev], .inl ⟨SqL.of hh, fun l hl => q _ _ (e2.trans (Ex.new hl)) (rep_tup (.inl upd_same) ((ok.ex e2).new_b hl) ((ok.ex e2).new_M hl) (Pd.mono pp fun _ _ r => r.up (Ex.new hl)))⟩⟩
    · obtain ⟨a, vs, ev, hh, hb, hm, pp⟩ := r.tup
      subst ev
      exact ⟨a, vs, rfl, .inr ⟨.inl hh, q _ _ e2 (rep_tup hh hb hm pp)⟩⟩
theorem ei_seq {xs : Sq α} (h : Ev W M tl σ H xs) : Ei W M (iSeq W.K tl) σ H xs.l := fun H1 e ok R q =>
  h H1 e ok _ fun v H2 e2 r => by
    rcases r.sq with r | r
    · obtain ⟨a, vs, ev, hh, _, _, _⟩ := id r.lst
      subst ev
      refine ⟨a, rfl, .inl ?_⟩
      have z := ei_list (M := M) (xs := xs.l) (tl := fun _ H Q => Q (.ref a) H) (σ := σ) (H := H2) (fun H3 e3 ok3 Q3 q3 => q3 _ H3 Ex.refl (r.up e3)) H2 Ex.refl (ok.ex e2) R fun J S H3 e3 => q J S H3 (e2.trans e3)
      obtain ⟨b, eb, p, z⟩ := z
      cases eb
      exact ⟨p, z⟩
    · obtain ⟨a, vs, ev, hh, _, _, _⟩ := id r.tup
      subst ev
      refine ⟨a, rfl, .inr ?_⟩
      have z := ei_tup (M := M) (xs := Tup.mk xs.l) (tl := fun _ H Q => Q (.ref a) H) (σ := σ) (H := H2) (fun H3 e3 ok3 Q3 q3 => q3 _ H3 Ex.refl (r.up e3)) H2 Ex.refl (ok.ex e2) R fun J S H3 e3 => q J S H3 (e2.trans e3)
      obtain ⟨b, eb, p, z⟩ := z
      cases eb
      exact ⟨p, z⟩

/-! ### isinstance -/
theorem ty_str {z : Str} (r : Rep W M H v z) : TyX W.K H v (.type "str") := by cases (show v = .str z from r); exact .base (.str _)
theorem ty_int {z : Int} (r : Rep W M H v z) : TyX W.K H v (.type "int") := by cases (show v = .int z from r); exact .base (.int _)
theorem ty_rd {a : Addr} {vs : List V} {K : PySem.W.Frag} (h : Rd H a (.tup vs)) : TyX K H (.ref a) (.type "tuple") := h.elim (fun h => .base (.tup h)) fun ⟨_, h⟩ => .fTuple h
theorem ty_tup {z : Tup α} (r : Rep W M H v z) : TyX W.K H v (.type "tuple") := by obtain ⟨a, vs, e, hh, _⟩ := r.tup; subst e; exact ty_rd hh
theorem ty_pair {z : α × β} (r : Rep W M H v z) : TyX W.K H v (.type "tuple") := by obtain ⟨a, v1, v2, e, hh, _⟩ := r.pair; subst e; exact ty_rd hh
theorem ty_lst {z : List α} (r : Rep W M H v z) : TyX W.K H v (.type "list") := by obtain ⟨a, vs, e, hh, _⟩ := r.lst; subst e; exact .base (.lst hh)
/-- isinstance(x, c) -/
theorem ev_isi {c : V} {u : Value} {t : Value} {b : Bool} (ha : Ev W M ta σ H x) (ty : ∀ v H2, Rep W M H2 v x → TyX W.K H2 v t) (k : ClsV c u) (e : PySem.W.kitOne W.K t u = some b) :
    Ev W M (tCB (rIsi W.K) (tCons ta (tCons (tC c) tNil))) σ H b := fun H1 e1 ok Q q =>
  ha H1 e1 ok _ fun v H2 e2 r => ⟨v, c, t, u, b, rfl, k, ty v H2 r, e, q _ H2 e2 rep_bl⟩
/-- isinstance(x, (c, d)) -/
theorem ev_isi2 {c d : V} {u w : Value} {b : Bool} {P : Value → Prop} (ha : Ev W M ta σ H x) (ty : ∀ v H2, Rep W M H2 v x → ∃ t, TyX W.K H2 v t ∧ P t) (k : ClsV c u) (k2 : ClsV d w) (e : ∀ t, P t → PySem.W.kitAny W.K t [u, w] = some b) :
    Ev W M (tCB (rIsiT W.K) (tCons ta (tCons (tTup (tCons (tC c) (tCons (tC d) tNil))) tNil))) σ H b := fun H1 e1 ok Q q =>
  ha H1 e1 ok _ fun v H2 e2 r => ⟨by show 2 ≤ sizeLine; decide, fun p hp => by
    obtain ⟨t, ht, pt⟩ := ty v _ (r.up (Ex.new (o := .tup [c, d]) hp))
    exact ⟨v, p, [c, d], t, [u, w], b, rfl, upd_same, .cons k (.cons k2 .nil), ht, e t pt, q _ _ (e2.trans (Ex.new hp)) rep_bl⟩⟩
theorem ev_isStr {z : Str} (ha : Ev W M ta σ H z) : Ev W M (tCB (rIsi W.K) (tCons ta (tCons (tC (.ty "str")) tNil))) σ H true := ev_isi ha (fun _ _ r => ty_str r) (.ty "str") (kit_ty (by decide +kernel))
theorem ev_isTup {z : Tup α} (ha : Ev W M ta σ H z) : Ev W M (tCB (rIsi W.K) (tCons ta (tCons (tC (.ty "tuple")) tNil))) σ H true := ev_isi ha (fun _ _ r => ty_tup r) (.ty "tuple") (kit_ty (by decide +kernel))
theorem ev_isPair {z : α × β} (ha : Ev W M ta σ H z) : Ev W M (tCB (rIsi W.K) (tCons ta (tCons (tC (.ty "tuple")) tNil))) σ H true := ev_isi ha (fun _ _ r => ty_pair r) (.ty "tuple") (kit_ty (by decide +kernel))
theorem ev_isSq {z : Sq α} (ha : Ev W M ta σ H z) : Ev W M (tCB (rIsiT W.K) (tCons ta (tCons (tTup (tCons (tC (.ty "list")) (tCons (tC (.ty "tuple")) tNil))) tNil))) σ H true :=
  ev_isi2 (P := fun t => t = .type "list" ∨ t = .type "tuple") ha (fun v H2 r => r.sq.elim (fun r => ⟨_, ty_lst r, .inl rfl⟩) fun r => ⟨_, ty_tup r, .inr rfl⟩) (.ty "list") (.ty "tuple") fun t pt => by
    rcases pt with rfl | rfl
    · exact kitAny_cons (b := true) (kit_ty (by decide +kernel)) (fun z => nomatch z) fun _ => rfl
    · exact kitAny_cons (b := false) (kit_ty (by decide +kernel)) (fun _ => kitAny_cons (b := true) (kit_ty (by decide +kernel)) (fun z => nomatch z) fun _ => rfl) (fun z => nomatch z)
/-- isinstance(x, tuple) of any data -/
def isTupD : PyData → Bool
  | .tuple _ => true
  | _ => false
theorem ev_isTupD {d : PyData} (ha : Ev W M ta σ H d) : Ev W M (tCB (rIsi W.K) (tCons ta (tCons (tC (.ty "tuple")) tNil))) σ H (isTupD d) := fun H1 e1 ok Q q =>
  ha H1 e1 ok _ fun v H2 e2 r => by
    have r1 : Dp W.K H2 v d := dp_le cut_le _ _ r
    have fin : ∀ t b, TyX W.K H2 v t → PySem.W.kitOne W.K t (.type "tuple") = some b → b = isTupD d → ∃ x c t u b, [v, V.ty "tuple"] = [x, c] ∧ ClsV c u ∧ TyX W.K H2 x t ∧ PySem.W.kitOne W.K t u = some b ∧ Q (.bl b) H2 := fun t b h1 h2 h3 =>
      ⟨v, .ty "tuple", t, .type "tuple", b, rfl, .ty "tuple", h1, h2, h3 ▸ q _ H2 e2 rep_bl⟩
    cases r1 with
    | non => exact fin _ false (.base .non) (kit_ty (by decide +kernel)) rfl
    | bl b => exact fin _ false (.base (.bl _)) (kit_ty (by decide +kernel)) rfl
    | int i => exact fin _ false (.base (.int _)) (kit_ty (by decide +kernel)) rfl
    | str i => exact fin _ false (.base (.str _)) (kit_ty (by decide +kernel)) rfl
    | lst h _ =>
      rcases h with (h | ⟨o, h⟩) | ⟨o, its, n, h, c, _⟩
      · exact fin _ false (.base (.lst h)) (kit_ty (by decide +kernel)) rfl
      · exact fin _ false (.base (.frz h)) (kit_ty (by decide +kernel)) rfl
      · exact fin _ false (.kList h c) (kit_ty (by decide +kernel)) rfl
    | tup h _ =>
      rcases h with h | ⟨o, its, n, h, c, _⟩
      · exact fin _ true (ty_rd h) (kit_ty (by decide +kernel)) rfl
      · exact fin _ true (.kTuple h c) (kit_ty (by decide +kernel)) rfl
end
end RG
namespace RG
open PySem PySem.Spec PyProof.Rows L2 StX RZ

/-! ### join, split -/
def rJoin (K : PySem.W.Frag) : V → List V → Hp → VK → Prop := fun x xs H Q => ∃ a p, ∃ ys : List Str, x = .str a ∧ xs = [.ref p] ∧ (SqL K H p (ys.map V.str) ∨ SqT K H p (ys.map V.str)) ∧
  (ys.map (·.length)).sum + ys.length * a.length ≤ 16777216 ∧ Q (.str (Txt.join a ys)) H
def rSplit : V → List V → Hp → VK → Prop := fun x xs H Q => ∃ a b, x = .str a ∧ xs = [.str b] ∧ (b.length == 0) = false ∧ a.length + 2 ≤ sizeLine ∧ rNewStrs (Txt.split a b) H Q
section
variable {X : Cx} {o e : Expr} {to te : TE} {apos pos : Pos}
theorem peJoin (ho : PE X o to) (he : PE X e te) (hs : starEach [e] X.env = [(false, eval e X.env)] := by rfl) (hbase : attributeBase o "join" X.env (eval o X.env) = eval o X.env := by rfl) (hline : (apos.endLine == pos.line) = true := by rfl) :
    PE X (.Call (.Attribute o "join" apos) [e] [] pos) (tM1 (rJoin X.K) to te) := pe_join ho he hs hbase hline
theorem peSplit (ho : PE X o to) (he : PE X e te) (hs : starEach [e] X.env = [(false, eval e X.env)] := by rfl) (hbase : attributeBase o "split" X.env (eval o X.env) = eval o X.env := by rfl) (hline : (apos.endLine == pos.line) = true := by rfl) :
    PE X (.Call (.Attribute o "split" apos) [e] [] pos) (tM1 rSplit to te) := pe_split ho he hs hbase hline
/-! ### a text once or not at all -/
def rMulS : R2 := fun x y H Q => ∃ (z : Str) (k : Int), x = .str z ∧ y = .int k ∧ (k = 0 ∧ Q (.str Str.empty) H ∨ k = 1 ∧ Q (.str z) H)
theorem op_mulS : OpR X (binaryOp .Mult) rMulS := by
  intro pins s σ H x y v u Q I rx ry h
  obtain ⟨z, k, rfl, rfl, h⟩ := h
  obtain ⟨t, rfl⟩ := rx
  obtain ⟨t2, rfl⟩ := ry
  rcases h with ⟨rfl, q⟩ | ⟨rfl, q⟩
  · exact PySem.P.mul_str_none (by decide) (by decide) ⟨.str Str.empty, H, I.tok _, ⟨_, rfl⟩, q⟩
  · refine PySem.P.mul_str (by decide) (fun _ h => by simp at h) (fun _ h => by simp at h) ?_
    rw [if_neg (by decide), if_pos (by simp)]
    exact ⟨.str z, H, I, ⟨_, rfl⟩, q⟩
/-! ### a tuple times a number -/
theorem tup_once (l : Addr) (its : Array Value) (n : Nat) (dd : Option Addr) (sl : Array (Option Value)) (u : Tok) :
    Meets (Builtin.«tuple.__mul__» ⟨[.ref l, .int 1 u], []⟩) (fun _ R s => s.heap.get? l = some { cls := .type "tuple", dict := dd, data := .seq its n, slots := sl } ∧ R (.ok (.ret (Value.ref l))) s) :=
  .of_wp fun prog w A R s h => by
    obtain ⟨hp, g, d, tk, os⟩ := s
    obtain ⟨hl, h⟩ := h
    have f1 := AutoSeq1.idx_int
    have c0 : (decide ((1 : Int) < -(2 ^ 63)) || decide ((1 : Int) ≥ 2 ^ 63)) = false := by decide
    have c1 : (its.isEmpty || (1 : Int) == 1) = true := by simp
    wp_walk using wpAny_loadPart' hl
    repeat (first
      | (refine wpAny_ite_false (decide_eq_false (by rw [c0] <;> exact Bool.false_ne_true)) ?_; wp_walk using wpAny_loadPart' hl)
      | (refine wpAny_ite_true (decide_eq_true (by rw [c1])) ?_; wp_walk using wpAny_loadPart' hl))
    all_goals (first | exact ⟨_, rfl, h⟩ | skip)
theorem op_tupOnce : OpR X (binaryOp .Mult) (fun x y H Q => ∃ l xs, x = .ref l ∧ y = .int 1 ∧ SqT X.K H l xs ∧ Q (.ref l) H) := by
  intro pins s σ H x y v u Q I rx ry h
  obtain ⟨l, xs, rfl, rfl, hT, q⟩ := h
  cases rx
  obtain ⟨t, rfl⟩ := ry
  obtain ⟨its, r, ⟨⟨cls, dd, data, sl⟩, ho, hc, n, hd⟩, hs⟩ := I.tuple hT
  simp only at hc hd
  subst hc hd
  exact wpAny_binaryOp_repeat_ref (T := "tuple") (U := "int") (by decide) ⟨_, ho, rfl⟩ (fun s' => typeIs_int s' 1 t) noFill_tuple_mul F.fills_int_mul F.slot_int_rmul repeat_tuple F.slot_int_index.lookup
    (call_meets F.slot_int_rmul (typeIs_int s 1 t) F.entry_int_rmul (F.args_int_rmul_2 _ _) (int_rmul_tuple 1 t l its.toArray n dd sl)
      ⟨ho, rfl, ⟨_, ho, rfl⟩, call_meets F.slot_tuple_mul ⟨_, ho, rfl⟩ F.entry_tuple_mul (F.args_tuple_mul_2 _ _) (tup_once l its.toArray n dd sl t) ⟨ho, .ref l, H, I, rfl, q⟩⟩)
def rMulT (K : PySem.W.Frag) : R2 := fun x y H Q => ∃ l k xs, x = .ref l ∧ y = .int k ∧ SqT K H l xs ∧ xs ≠ [] ∧ 1 ≤ k ∧ k ≤ 1000 ∧ xs.length ≤ 1000 ∧ (k = 1 → Q (.ref l) H) ∧ ∀ p, H p = none → Q (.ref p) (upd H p (.tup (List.replicate k.toNat xs).flatten))
theorem op_mulT : OpR X (binaryOp .Mult) (rMulT X.K) := by
  intro pins s σ H x y v u Q I rx ry h
  obtain ⟨l, k, xs, e1, e2, hT, hn, h1, h2, h3, q1, q2⟩ := h
  by_cases hk : k = 1
  · exact op_tupOnce pins s σ H x y v u Q I rx ry ⟨l, xs, e1, by rw [e2, hk], hT, q1 hk⟩
  · exact op_repT pins s σ H x y v u Q I rx ry ⟨l, k, xs, e1, e2, hT, hn, by omega, h2, h3, q2⟩
/-! ### tuple.index -/
/-- where in a list the first is -/
def rIdxT (K : PySem.W.Frag) : V → List V → Hp → VK → Prop := fun x vs H Q => ∃ a ob us y ds d, x = .ref a ∧ vs = [y] ∧ H a = some (.frz ob (.tup us)) ∧ DpAll K H us ds ∧ Dp K H y d ∧ PyData.depthAll ds ≤ 64 ∧ true ∈ ds.map (fun z => PyData.eqv z d) ∧
  Q (.int (((ds.map fun z => PyData.eqv z d).idxOf true : Nat) : Int)) H
theorem mt_idxT (hu : X.A.units + 65 < cLine) : MtR X "tuple.index" (rIdxT X.K) := by
  intro pins s σ H x vs v us Q I rx rv h
  obtain ⟨a, ob, ws, y, ds, d, rfl, rfl, ha, hq, hd, z, hm, q⟩ := h
  cases rx
  obtain ⟨u, rfl, ru⟩ := rv.one
  obtain ⟨its, r, pl, _⟩ := I.tuple (show SqT X.K H a ws from .inl (.inr ⟨ob, ha⟩))
  have hl : its.length = ds.length := by rw [← r.length]; exact dpAll_len hq
  refine SeqAt.call_tuple_index (vs := its) (ks := ds.map fun z => PyData.eqv z d) (k := true) pl ⟨by rw [List.length_map]; exact hl, fun j h1 h2 => ?_⟩ hm ⟨.int _, H, I.tok _, ⟨_, rfl⟩, q⟩
  obtain ⟨w, hw, rw_⟩ : ∃ w, ws[j]? = some w ∧ RelV w its[j] := by
    have hj : j < ws.length := by rw [r.length]; exact h1
    obtain ⟨w, hw, rw_⟩ := r.get (List.getElem?_eq_getElem hj)
    exact ⟨ws[j], List.getElem?_eq_getElem hj, by rw [List.getElem?_eq_getElem h1] at hw; cases hw; exact rw_⟩
  have hj : j < ds.length := by omega
  obtain ⟨e, he1, he2⟩ := itemsE I X.A.in1 hq hd r ru (by rw [in1_units]; omega)
  obtain ⟨y', d', f1, f2, f3⟩ := he2 j h1
  rw [List.getElem?_eq_getElem h1] at f1
  cases f1
  have := he1 its[j] (List.getElem_mem h1)
  rw [f3] at this
  rw [List.getElem?_eq_getElem hj] at f2
  cases f2
  rw [List.getElem_map]
  simpa using this
end
end RG
namespace RG
open PySem PySem.Spec PyProof.Rows L2 StX RZ

/-! ### own classes -/
/-- data of an own class: its name, the names of its fields -/
class PyO (α : Type) extends Py α where
  cn : Str
  fns : List Str
  ins : ∀ {W : Wd} {H : Hp} {v : V} {x : α}, rep W H v x → ∃ a dx fs, v = .ref a ∧ H a = some (.ins (W.C cn) dx fs) ∧ fs.map (·.1) = fns
theorem lookup_none {fs : List (Str × V)} {m : Str} (h : (fs.map (·.1)).contains m = false) : fs.lookup m = none := by
  induction fs with
  | nil => rfl
  | cons p t ih =>
    obtain ⟨k, v⟩ := p
    simp only [List.map_cons, List.contains_cons, Bool.or_eq_false_iff] at h
    rw [List.lookup_cons, h.1]
    exact ih h.2
section
variable {α β γ δ ε : Type} [Py α] [Py β] [Py γ] [Py δ] [Py ε] {W : Wd} {M M' N : List Addr} {σ σ' : L2.St} {H H1 H2 H' : Hp} {te ta tb tc tl : TE} {tr : TA} {x : α} {y : β} {v : V} {E : XK} {i : Nat}
theorem Rep.ins {ω : Type} [PyO ω] {x : ω} (h : Rep W M H v x) : ∃ a dx fs, v = .ref a ∧ H a = some (.ins (W.C (PyO.cn ω)) dx fs) ∧ fs.map (·.1) = PyO.fns ω := PyO.ins (W := W) (H := H) h.at

/-! ### texts -/
theorem ev_join {z : Str} {xs : List Str} (ha : Ev W M ta σ H z) (hb : Ev W M tb σ H xs) (hl : (xs.map (·.length)).sum + xs.length * z.length ≤ 16777216) : Ev W M (tM1 (rJoin W.K) ta tb) σ H (Txt.join z xs) := fun H1 e ok Q q =>
  ha H1 e ok _ fun v H2 e2 r => ⟨⟨z, r⟩, hb H2 (e.trans e2) (ok.ex e2) _ fun u H3 e3 r3 => by
    obtain ⟨a, vs, ev, hh, _, _, pp⟩ := r3.lst
    exact ⟨z, a, xs, r, by rw [ev], .inl (SqL.of (by rw [hh, paired_toV pp]; rfl)), hl, q _ H3 (e2.trans e3) rep_str⟩⟩
theorem evr_join {z : Str} {P : List Str → Prop} {R : Str → Prop} (ha : Ev W M ta σ H z) (hb : EvR W M tb σ H P) (hl : ∀ xs, P xs → (xs.map (·.length)).sum + xs.length * z.length ≤ 16777216 ∧ R (Txt.join z xs)) : EvR W M (tM1 (rJoin W.K) ta tb) σ H R := fun H1 e ok Q q =>
  ha H1 e ok _ fun v H2 e2 r => ⟨⟨z, r⟩, hb H2 (e.trans e2) (ok.ex e2) _ fun u xs H3 px e3 r3 => by
    obtain ⟨a, vs, ev, hh, _, _, pp⟩ := r3.lst
    exact ⟨z, a, xs, r, by rw [ev], .inl (SqL.of (by rw [hh, paired_toV pp]; rfl)), (hl xs px).1, q _ _ H3 (hl xs px).2 (e2.trans e3) rep_str⟩⟩
theorem ev_split {z w : Str} (ha : Ev W M ta σ H z) (hb : Ev W M tb σ H w) (hw : (w.length == 0) = false) (hl : z.length ≤ 1000000) : Ev W M (tM1 rSplit ta tb) σ H (Txt.split z w) := fun H1 e ok Q q =>
  ha H1 e ok _ fun v H2 e2 r => ⟨⟨z, r⟩, hb H2 (e.trans e2) (ok.ex e2) _ fun u H3 e3 r3 =>
    ⟨z, w, r, by rw [show u = .str w from r3], hw, Nat.le_trans (Nat.add_le_add_right hl 2) (by decide), fun p hp => q _ _ ((e2.trans e3).trans (Ex.new hp)) (rep_lst upd_same (((ok.ex e2).ex e3).new_b hp) (((ok.ex e2).ex e3).new_M hp) toV_paired)⟩⟩
theorem ev_mulS {z : Str} {b : Bool} (ha : Ev W M ta σ H z) (hb : Ev W M tb σ H (if b then 1 else 0 : Int)) : Ev W M (tOp rMulS ta tb) σ H (if b then z else Str.empty) := fun H1 e ok Q q =>
  ha H1 e ok _ fun v H2 e2 r => hb H2 (e.trans e2) (ok.ex e2) _ fun u H3 e3 r3 => ⟨z, _, r, r3, by
    cases b with
    | true => exact .inr ⟨rfl, q _ H3 (e2.trans e3) rep_str⟩
    | false => exact .inl ⟨rfl, q _ H3 (e2.trans e3) rep_str⟩⟩
theorem ev_mulT {xs : Tup α} {k : Int} (ha : Ev W M ta σ H xs) (hb : Ev W M tb σ H k) (h0 : xs.l ≠ []) (h1 : 1 ≤ k) (h2 : k ≤ 1000) (h3 : xs.l.length ≤ 1000) : Ev W M (tOp (rMulT W.K) ta tb) σ H (Tup.mk (List.replicate k.toNat xs.l).flatten) := fun H1 e ok Q q =>
  ha H1 e ok _ fun v H2 e2 r => hb H2 (e.trans e2) (ok.ex e2) _ fun u H3 e3 r3 => by
    obtain ⟨a, vs, ev, hh, nb, hm, pp⟩ := (r.up e3).tup
    subst ev
    have ok3 := (ok.ex e2).ex e3
    have rp : ∀ n : Nat, Paired (Rep W M H3) (List.replicate n vs).flatten (List.replicate n xs.l).flatten := fun n => by
      induction n with
      | zero => exact .nil
      | succ n ih => rw [List.replicate_succ, List.replicate_succ, List.flatten_cons, List.flatten_cons]; exact Pd.append pp ih
    refine ⟨a, k, vs, rfl, r3, .inl hh, ?_, h1, h2, by rw [Pd.length pp]; exact h3, fun z => ?_, fun p hp => ?_⟩
    · intro z; subst z; exact h0 (by cases h : xs.l with
        | nil => rfl
        | cons _ _ => rw [h] at pp; cases pp)
    · subst z
      refine q _ _ (e2.trans e3) (rep_tup hh nb hm ?_)
      simpa using pp
    · refine q _ _ ((e2.trans e3).trans (Ex.new hp)) (rep_tup (.inl upd_same) (ok3.new_b hp) (ok3.new_M hp) (Pd.mono (rp k.toNat) fun _ _ r => r.up (Ex.new hp)))
/-- list(range(n)) -/
theorem ev_listRg {n : Int} (ha : Ev W M ta σ H n) (h0 : 0 ≤ n) (h1 : n ≤ 1000000) : Ev W M (tLstRg (tRg1 ta)) σ H (rng n) := fun H1 e ok Q q =>
  ha H1 e ok _ fun v H2 e2 r => ⟨n, r, RgOk.of_le (by omega) (by omega) (by omega) (by omega), fun p hp => q _ _ (e2.trans (Ex.new hp)) (rep_lst upd_same ((ok.ex e2).new_b hp) ((ok.ex e2).new_M hp) (by
    have e : rgV 0 n = (rng n).map PyS.toV := by
      unfold rgV rng
      rw [List.map_map, Int.sub_zero]
      refine List.map_congr_left fun i _ => ?_
      show V.int (0 + (i : Nat)) = V.int _
      rw [Int.zero_add]
    rw [e]; exact toV_paired))⟩
theorem ev_rev {xs : List α} (ha : Ev W M ta σ H xs) : Ev W M (tRevL W.K ta) σ H xs.reverse := fun H1 e ok Q q =>
  ha H1 e ok _ fun v H2 e2 r => by
    obtain ⟨a, vs, ev, hh, hb, hm, pp⟩ := r.lst
    exact ⟨a, vs, ev, SqL.of hh, fun p hp => q _ _ (e2.trans (Ex.new hp)) (rep_lst upd_same ((ok.ex e2).new_b hp) ((ok.ex e2).new_M hp) (Pd.mono (Pd.rev pp) fun _ _ r => r.up (Ex.new hp)))⟩

/-! ### instances -/
/-- e.f, a field -/
theorem ev_fld {ω : Type} [PyO ω] {o : ω} {f : Str} {y : β} (ha : Ev W M ta σ H o) (c : Cls W.K (W.C (PyO.cn ω))) (n : NoAttr W.K (W.C (PyO.cn ω)) f)
    (hf : ∀ {v H2}, Rep W M H2 v o → ∀ {a dx fs}, v = .ref a → H2 a = some (.ins (W.C (PyO.cn ω)) dx fs) → ∃ u, fs.lookup f = some u ∧ Rep W M H2 u y) : Ev W M (tFld W.K ta f) σ H y := fun H1 e ok Q q =>
  ha H1 e ok _ fun v H2 e2 r => by
    obtain ⟨a, dx, fs, ev, hh, _⟩ := r.ins
    obtain ⟨u, hu, ru⟩ := hf r ev hh
    exact ⟨a, _, dx, fs, u, ev, hh, c, n, hu, q _ H2 e2 ru⟩
theorem ev_prop {ω : Type} [PyO ω] {o : ω} {pre : ω → Prop} {f : ω → β} (ha : Ev W M ta σ H o) (hp : pre o) : Ev W M (tProp (W.C (PyO.cn ω)) (F1 W.K W.C pre f) [] E ta) σ H (f o) := fun H1 e ok Q q =>
  ha H1 e ok _ fun v H2 e2 r => by
    obtain ⟨a, dx, fs, ev, hh, _⟩ := r.ins
    subst ev
    exact ⟨a, dx, fs, rfl, hh, W, M, _, o, rfl, rfl, rfl, ok.ex e2, r, hp, fun r H3 e3 rr => q r H3 (e2.trans e3) rr⟩
theorem ev_m0 {ω : Type} [PyO ω] {o : ω} {pre : ω → Prop} {f : ω → β} {m : Str} (ha : Ev W M ta σ H o) (hp : pre o) (hm : (PyO.fns ω).contains m = false) : Ev W M (tMeth (W.C (PyO.cn ω)) m (F1 W.K W.C pre f) [] E ta tNil) σ H (f o) := fun H1 e ok Q q =>
  ha H1 e ok _ fun v H2 e2 r => by
    obtain ⟨a, dx, fs, ev, hh, hf⟩ := r.ins
    exact ⟨a, dx, fs, ev, hh, lookup_none (by rw [hf]; exact hm), W, M, _, o, rfl, rfl, rfl, ok.ex e2, r, hp, fun r H3 e3 rr => q r H3 (e2.trans e3) rr⟩
theorem ev_m1 {ω : Type} [PyO ω] {o : ω} {pre : ω → α → Prop} {f : ω → α → β} {m : Str} (ha : Ev W M ta σ H o) (hb : Ev W M tb σ H x) (hp : pre o x) (hm : (PyO.fns ω).contains m = false) : Ev W M (tMeth (W.C (PyO.cn ω)) m (F2 W.K W.C pre f) [] E ta (tCons tb tNil)) σ H (f o x) := fun H1 e ok Q q =>
  ha H1 e ok _ fun v H2 e2 r => by
    obtain ⟨a, dx, fs, ev, hh, hf⟩ := r.ins
    exact ⟨a, dx, fs, ev, hh, lookup_none (by rw [hf]; exact hm), hb H2 (e.trans e2) (ok.ex e2) _ fun u H3 e3 r3 =>
      ⟨W, M, v, u, o, x, rfl, rfl, rfl, (ok.ex e2).ex e3, r.up e3, r3, hp, fun r H4 e4 rr => q r H4 ((e2.trans e3).trans e4) rr⟩⟩
theorem ev_m2 {ω : Type} [PyO ω] {o : ω} {pre : ω → α → β → Prop} {f : ω → α → β → γ} {m : Str} (ha : Ev W M ta σ H o) (hb : Ev W M tb σ H x) (hc : Ev W M tc σ H y) (hp : pre o x y) (hm : (PyO.fns ω).contains m = false) :
    Ev W M (tMeth (W.C (PyO.cn ω)) m (F3 W.K W.C pre f) [] E ta (tCons tb (tCons tc tNil))) σ H (f o x y) := fun H1 e ok Q q =>
  ha H1 e ok _ fun v H2 e2 r => by
    obtain ⟨a, dx, fs, ev, hh, hf⟩ := r.ins
    exact ⟨a, dx, fs, ev, hh, lookup_none (by rw [hf]; exact hm), hb H2 (e.trans e2) (ok.ex e2) _ fun u H3 e3 r3 => hc H3 ((e.trans e2).trans e3) ((ok.ex e2).ex e3) _ fun w H4 e4 r4 =>
      ⟨W, M, v, u, w, o, x, y, rfl, rfl, rfl, ((ok.ex e2).ex e3).ex e4, (r.up e3).up e4, r3.up e4, r4, hp, fun r H5 e5 rr => q r H5 (((e2.trans e3).trans e4).trans e5) rr⟩⟩
theorem ev_own {ω : Type} [PyO ω] {o : ω} {pre : ω → α → Prop} {f : ω → α → Bool} {neg : Bool} (ha : Ev W M ta σ H x) (hb : Ev W M tb σ H o) (hp : pre o x) : Ev W M (tOp (rInOwn (W.C (PyO.cn ω)) (F2 W.K W.C pre f) neg) ta tb) σ H (if neg then !f o x else f o x) := fun H1 e ok Q q =>
  ha H1 e ok _ fun v H2 e2 r => hb H2 (e.trans e2) (ok.ex e2) _ fun u H3 e3 r3 => by
    obtain ⟨a, dx, fs, ev, hh, hf⟩ := r3.ins
    exact ⟨a, dx, fs, ev, hh, W, M, u, v, o, x, rfl, rfl, rfl, (ok.ex e2).ex e3, r3, r.up e3, hp, fun r H4 e4 rr => ⟨f o x, rr, q _ H4 ((e2.trans e3).trans e4) rep_bl⟩⟩
theorem ev_lenO {ω : Type} [PyO ω] {o : ω} {pre : ω → Prop} {f : ω → Int} (ha : Ev W M ta σ H o) (hp : pre o) (h0 : 0 ≤ f o) (h1 : f o < 2 ^ 63) : Ev W M (tCB (rLenOwn (W.C (PyO.cn ω)) (F1 W.K W.C pre f)) (tCons ta tNil)) σ H (f o) := fun H1 e ok Q q =>
  ha H1 e ok _ fun v H2 e2 r => by
    obtain ⟨a, dx, fs, ev, hh, hf⟩ := r.ins
    subst ev
    exact ⟨a, dx, fs, rfl, hh, W, M, _, o, rfl, rfl, rfl, ok.ex e2, r, hp, fun r H4 e4 rr => ⟨f o, rr, h0, h1, q _ H4 (e2.trans e4) rep_int⟩⟩
/-- what __init__ promises: the new instance holds what f tells -/
def I1 (K : PySem.W.Frag) (C : Str → Addr) (cn : Str) (pre : α → Prop) (f : α → β) : Sp := fun vs H Q _ => ∃ (W : Wd) (M : List Addr) (a dx : Addr) (v : V) (x : α), W.K = K ∧ W.C = C ∧ vs = [.ref a, v] ∧ Ok W (a :: dx :: M) H ∧ a ≠ W.b ∧ a ≠ W.bl ∧ a ∉ M ∧
  H a = some (.ins (C cn) dx []) ∧ Rep W (a :: dx :: M) H v x ∧ pre x ∧ ∀ H', Ex W [a] H H' → Rep W M H' (.ref a) (f x) → Q .non H'
theorem ev_make {cn : Str} {pre : α → Prop} {f : α → β} (ha : Ev W M ta σ H x) (hp : pre x) : Ev W M (tMake (W.C cn) (I1 W.K W.C cn pre f) [] E (tCons ta tNil)) σ H (f x) := fun H1 e ok Q q =>
  ha H1 e ok _ fun v H2 e2 r a dx hx hd hn => by
    have ok2 := ok.ex e2
    have hd' : upd H2 dx (.own a) a = none := by rw [upd_ne (Ne.symm hn)]; exact hx
    have okd := ok2.grow (o := .own a) hd
    refine ⟨W, M, a, dx, v, x, rfl, rfl, rfl, okd.grow hd', okd.new_b hd', okd.new_bl hd', ok2.new_M hx, upd_same, (r.grow hd).grow hd', hp, fun H3 e3 rr => ⟨rfl, q _ H3 ?_ rr⟩⟩
    have e4 : Ex W [] H2 (upd (upd H2 dx (.own a)) a (.ins (W.C cn) dx [])) := (Ex.new hd).trans (Ex.new hd')
    refine e2.trans ⟨fun b o nb _ hb => e3.keep b o nb (fun z => ?_) (e4.keep b o nb (by simp) hb), fun b hb => e3.some_ b (e4.some_ b hb), fun z => e3.bag (e4.bag z)⟩
    have : b = a := by simpa using z
    rw [this, hx] at hb
    cases hb
end
end RG
namespace RG
open PySem PySem.Spec PyProof.Rows L2 StX RZ

/-- the same rule, its reading told otherwise -/
theorem PE.to {X : Cx} {e : Expr} {t u : TE} (h : PE X e t) (q : t = u) : PE X e u := q ▸ h
theorem PT.to {X : Cx} {e : Expr} {t u : TT} (h : PT X e t) (q : t = u) : PT X e u := q ▸ h
theorem PI.to {X : Cx} {tg e : Expr} {t u : TI} (h : PI X tg e t) (q : t = u) : PI X tg e u := q ▸ h
/-- the built-in names, not bound by the text -/
structure Bt (mg : Str → Option Value) : Prop where
  len_ : mg "len" = none
  isinstance_ : mg "isinstance" = none
  str_ : mg "str" = none
  int_ : mg "int" = none
  list_ : mg "list" = none
  tuple_ : mg "tuple" = none
  all_ : mg "all" = none
  any_ : mg "any" = none
  range_ : mg "range" = none
  abs_ : mg "abs" = none
  max_ : mg "max" = none
  enumerate_ : mg "enumerate" = none
  set_ : mg "set" = none
section
variable {X : Cx} {x : Str} {pos : Pos}
/-- a constant of the module -/
theorem pe_gI {n : Int} (hg : Gl X x) (hm : ∃ t, X.mg x = some (.int n t)) (hd : (x == ("__debug__" : Str)) = false := by decide) : PE X (.Name x pos) (tC (.int n)) :=
  let ⟨t, e⟩ := hm; pe_glob hg e ⟨t, rfl⟩ hd
theorem pe_gS {n : Str} (hg : Gl X x) (hm : ∃ t, X.mg x = some (.str n t)) (hd : (x == ("__debug__" : Str)) = false := by decide) : PE X (.Name x pos) (tC (.str n)) :=
  let ⟨t, e⟩ := hm; pe_glob hg e ⟨t, rfl⟩ hd
end
section
variable {α β γ : Type} [Py α] [Py β] [Py γ] {W : Wd} {M M' N : List Addr} {σ σ' : L2.St} {H H1 H2 H' : Hp} {te ta tb tc tl : TE} {tr : TA} {x : α} {y : β} {v : V} {E : XK} {i k l : Nat}
theorem signs_one {z s : Str} (h : s ∈ signs z) : ∃ c, s = ⟨#[c]⟩ ∧ c ∈ z.cps.toList := by
  unfold signs at h
  obtain ⟨c, hc, rfl⟩ := List.mem_map.mp h
  exact ⟨c, rfl, hc⟩
/-- the sign of a text of one sign -/
def sgn (s : Str) : Nat := s.cps.getD 0 0
def inS (z s : Str) : Bool := decide (sgn s ∈ z.cps.toList)
theorem ev_inS {z s : Str} (ha : Ev W M ta σ H s) (hb : Ev W M tb σ H z) (hs : ∃ c, s = ⟨#[c]⟩) : Ev W M (tOp rInS ta tb) σ H (inS z s) := fun H1 e ok Q q =>
  ha H1 e ok _ fun v H2 e2 r => hb H2 (e.trans e2) (ok.ex e2) _ fun u H3 e3 r3 => by
    obtain ⟨c, rfl⟩ := hs
    exact ⟨c, z, r, r3, q _ H3 (e2.trans e3) rep_bl⟩
/-- in a comprehension: an outer name -/
theorem Sl.lc {vs : List Nat} (h : Sl W M σ H i x) (l : Le (cut W M H) (cut W M' H')) (n : i ∉ vs := by decide) (n2 : i ≠ k := by decide) : Sl W M' ((L2.wipe σ vs).set k (some v)) H' i x := ((h.le l).wipe n).set Ex.refl n2
theorem Sl.lc2 {vs : List Nat} {u : V} (h : Sl W M σ H i x) (l1 : Le (cut W M H) (cut W M' H')) (n : i ∉ vs := by decide) (n2 : i ≠ k := by decide) (n3 : i ≠ l := by decide) : Sl W M' (((L2.wipe σ vs).set k (some v)).set l (some u)) H' i x := (((h.le l1).wipe n).set Ex.refl n2).set Ex.refl n3
theorem wipe_len {vs : List Nat} {σ : L2.St} : (L2.wipe σ vs).length = σ.length := by
  induction vs with
  | nil => rfl
  | cons a t ih => show ((L2.wipe σ t).set a none).length = _; rw [List.length_set]; exact ih
/-- .. its own name -/
theorem Sl.me {vs : List Nat} (r : Rep W M H v x) (h : k < σ.length := by first | decide | (simp only [List.length_set, wipe_len, L2.start, List.length_append, List.length_map, List.length_replicate, List.length_cons, List.length_nil]; decide)) : Sl W M ((L2.wipe σ vs).set k (some v)) H k x := Sl.here r (by rw [wipe_len]; exact h)
theorem Sl.hr (r : Rep W M H v x) (h : k < σ.length := by first | decide | (simp only [List.length_set, wipe_len, L2.start, List.length_append, List.length_map, List.length_replicate, List.length_cons, List.length_nil]; decide)) : Sl W M (σ.set k (some v)) H k x := Sl.here r h
/-- the i-th value of a filled list is another one now -/
theorem s_setAt {xs : List α} {n : Int} {p : Addr} {D : Ends} {ti : TE} (ok : Ok W M H) (hA : Acc W M σ H k p xs) (h : Ev W M te σ H x) (hi : Ev W M ti σ H n) (h0 : 0 ≤ n) (h1 : n < xs.length)
    (q : ∀ H', Ex W M H H' → (∀ G, Ex W [] G H → Ok W N G → G p = none → Ex W [] G H') → Ok W M H' → Acc W M σ H' k p (xs.set n.toNat x) → D.nx σ H') : tAsg te (gSub (tVar k) ti rSetL) D σ H := by
  refine h H Ex.refl ok _ fun v H2 e2 r => ?_
  refine ⟨.ref p, hA.at_, ?_⟩
  refine hi H2 e2 (ok.ex e2) _ fun u H3 e3 r3 => ?_
  have e23 := e2.trans e3
  obtain ⟨vs, hp, pp⟩ := (hA.up e23).it
  have em : Ex W M H3 (upd H3 p (.lst (vs.set n.toNat v))) := Ex.mut hA.nb hA.nbl hA.mem
  refine ⟨p, vs, n, n.toNat, rfl, r3, hp, ?_, q _ (e23.up.trans em) (fun G eG okG hG => (eG.trans e23).mut0 okG hG) ((ok.ex e23).ex em) ⟨hA.at_, hA.nb, hA.nbl, hA.mem, vs.set n.toNat v, upd_same, ?_⟩⟩
  · unfold ixN
    rw [if_pos h0, if_pos (by rw [Pd.length pp]; exact h1)]
  · exact Pd.set _ (Pd.mono pp fun _ _ r => r.ex em) ((r.up e3).ex em)
end
end RG
namespace RG
open PySem PySem.Spec PyProof.Rows L2 StX RZ
section
variable {α β γ : Type} [Py α] [Py β] [Py γ] {W : Wd} {M M' N : List Addr} {σ σ' : L2.St} {H H1 H2 H' : Hp} {te ta tb tc tl ti : TE} {tr : TA} {x : α} {y : β} {v : V} {E : XK} {i k l f : Nat} {D : Ends} {p pf pl : Addr} {tt : TT} {ts : TS}
theorem le_sub (h : ∀ a ∈ M, a ∈ N) : Le (cut W N H) (cut W M H) := ⟨fun a o q => by
  obtain ⟨h1, h2, h3⟩ := cut_some.mp q
  exact cut_some.mpr ⟨h1, fun z => h2 (h a z), h3⟩⟩
theorem Ok.sub (h : Ok W N H) (hs : ∀ a ∈ M, a ∈ N) : Ok W M H := ⟨h.bag, fun a m => h.laid a (hs a m)⟩
theorem Rep.subM (h : Rep W N H v x) (hs : ∀ a ∈ M, a ∈ N) : Rep W M H v x := h.le (le_sub hs)
theorem Sl.subM (h : Sl W N σ H i x) (hs : ∀ a ∈ M, a ∈ N) : Sl W M σ H i x := h.le (le_sub hs)
/-- a filled list, as data for the time being -/
theorem Acc.out {xs : List α} (h : Acc W N σ H k p xs) (hs : ∀ a ∈ M, a ∈ N) (hm : p ∉ M) : Sl W M σ H k xs :=
  let ⟨vs, hh, pp⟩ := h.it; ⟨.ref p, h.at_, rep_lst hh h.nb hm (Pd.mono pp fun _ _ r => r.subM hs)⟩
/-- a scalar is the same, whatever is under change -/
theorem Ev.sc {δ : Type} [DecidableEq δ] [PyS δ] {z : δ} (h : Ev W M te σ H z) (hs : ∀ a ∈ M, a ∈ N) : Ev W N te σ H z := fun H1 e ok Q q => h H1 e (ok.sub hs) Q fun v H2 e2 r => q v H2 e2 (by rw [r.toV]; exact rep_toV)
theorem EvR.sc {δ : Type} [DecidableEq δ] [PyS δ] {P : δ → Prop} (h : EvR W M te σ H P) (hs : ∀ a ∈ M, a ∈ N) : EvR W N te σ H P := fun H1 e ok Q q => h H1 e (ok.sub hs) Q fun v z H2 pz e2 r => q v z H2 pz e2 (by rw [r.toV]; exact rep_toV)
/-- xs = list(e), a list that will be changed -/
theorem s_list {xs : List α} (ok : Ok W M H) (h : Ev W M te σ H xs) (hk : k < σ.length)
    (q : ∀ p H', H p = none → Ex W [] H H' → Le (cut W M H) (cut W (p :: M) H') → Ok W (p :: M) H' → Acc W (p :: M) (σ.set k (some (.ref p))) H' k p xs → D.nx (σ.set k (some (.ref p))) H') : tAsg (tCB (rListOf W.K) (tCons te tNil)) (gName k) D σ H :=
  h H Ex.refl ok _ fun v H2 e2 r => by
    obtain ⟨a, vs, ev, hh, _, _, pp⟩ := r.lst
    have ok2 := ok.ex e2
    refine ⟨a, vs, by rw [ev], .inl (SqL.of hh), fun p hp => q p _ (e2.free hp) (e2.trans (Ex.new hp)) (e2.up.le.trans (le_new hp)) (ok2.grow hp) ⟨by rw [List.getElem?_set_self hk], ok2.new_b hp, ok2.new_bl hp, List.mem_cons_self, vs, upd_same, Pd.mono pp fun _ _ r => r.grow hp⟩⟩
/-- a new list, empty: the same in the terms of M -/
theorem s_new2 (ok : Ok W M H) (hk : k < σ.length) (q : ∀ p H', H p = none → Ex W [] H H' → Le (cut W M H) (cut W (p :: M) H') → Ok W (p :: M) H' → Acc W (p :: M) (σ.set k (some (.ref p))) H' k p ([] : List α) → D.nx (σ.set k (some (.ref p))) H') : tAsg (tLst tNil) (gName k) D σ H :=
  s_new ok fun p hp e le ok' => q p _ hp e le ok' (Acc.new ok hp hk)
/-- M is grown by another address: a filled list stays -/
theorem Acc.le {xs : List α} (h : Acc W M σ H k p xs) (hp : H' p = H p) (hm : p ∈ M') (l : Le (cut W M H) (cut W M' H')) : Acc W M' σ H' k p xs :=
  ⟨h.at_, h.nb, h.nbl, hm, let ⟨vs, hh, pp⟩ := h.it; ⟨vs, by rw [hp]; exact hh, Pd.mono pp fun _ _ r => r.le l⟩⟩
/-- xs.append(ys.pop(i)) -/
theorem s_appPop {xs ys : List α} (ok : Ok W N H) (hF : Acc W N σ H f pf xs) (hL : Acc W N σ H l pl ys) (hne : pf ≠ pl) (hz : xs.length ≤ 1000000) (hz2 : ys.length ≤ 1000000) (hi : EvR W N ti σ H fun n : Int => 0 ≤ n ∧ n < ys.length)
    (q : ∀ (j : Nat) (y : α) H', ys[j]? = some y → Ex W N H H' → (∀ G M0, Ex W [] G H → Ok W M0 G → G pf = none → G pl = none → Ex W [] G H') → Ok W N H' → Acc W N σ H' f pf (xs ++ [y]) → Acc W N σ H' l pl (ys.eraseIdx j) → D.nx σ H') :
    tDrop (tBM W.K "list" rAppend (tVar f) (tCons (tBM W.K "list" rPopAt (tVar l) (tCons ti tNil)) tNil)) D σ H := by
  obtain ⟨vs, hp, pp⟩ := hF.it
  obtain ⟨us, hp2, pp2⟩ := hL.it
  refine ⟨.ref pf, hF.at_, .inl ⟨rfl, vs, SqL.of hp⟩, .ref pl, hL.at_, .inl ⟨rfl, us, SqL.of hp2⟩, hi H Ex.refl ok _ fun v n H2 pn e2 r => ?_⟩
  obtain ⟨h0, h1⟩ := pn
  have hj : n.toNat < ys.length := by omega
  obtain ⟨u, hu, ru⟩ := Pd.get pp2 (List.getElem?_eq_getElem hj)
  have hq2 := e2.keep _ _ hL.nb (by simp) hp2
  have hq := e2.keep _ _ hF.nb (by simp) hp
  refine ⟨pl, us, n, n.toNat, u, rfl, by rw [show v = .int n from r], hq2, by omega, by omega, ?_, hu, ?_⟩
  · unfold seqIndex?
    rw [Pd.length pp2]
    have e : (if n < 0 then n + (ys.length : Int) else n) = n := if_neg (by omega)
    simp only [e]
    rw [if_pos (by simp; omega)]
  have em : Ex W N H2 (upd H2 pl (.lst (us.eraseIdx n.toNat))) := Ex.mut hL.nb hL.nbl hL.mem
  have ok2 := (ok.ex e2).ex em
  have hq3 : upd H2 pl (.lst (us.eraseIdx n.toNat)) pf = some (.lst vs) := by rw [upd_ne hne]; exact hq
  refine ⟨pf, vs, u, rfl, rfl, hq3, by rw [Pd.length pp]; exact sl hz, ?_⟩
  have em2 : Ex W N (upd H2 pl (.lst (us.eraseIdx n.toNat))) (upd (upd H2 pl (.lst (us.eraseIdx n.toNat))) pf (.lst (vs ++ [u]))) := Ex.mut hF.nb hF.nbl hF.mem
  have ee := em.trans em2
  refine q n.toNat _ _ (List.getElem?_eq_getElem hj) (e2.up.trans ee) (fun G M0 eG okG g1 g2 => ((eG.trans e2).mut0 okG g2).mut0 okG g1) (ok2.ex em2) ⟨hF.at_, hF.nb, hF.nbl, hF.mem, _, upd_same, ?_⟩ ⟨hL.at_, hL.nb, hL.nbl, hL.mem, us.eraseIdx n.toNat, by rw [upd_ne hne.symm, upd_same], ?_⟩
  · exact Pd.append (Pd.mono pp fun _ _ r => (r.up e2).ex ee) (.cons ((ru.up e2).ex ee) .nil)
  · exact Pd.erase _ (Pd.mono pp2 fun _ _ r => (r.up e2).ex ee)
/-- xs[i] = e, e one of several -/
theorem s_setAtR {P : α → Prop} {xs : List α} {n : Int} (ok : Ok W M H) (hA : Acc W M σ H k p xs) (h : EvR W M te σ H P) (hi : Ev W M ti σ H n) (h0 : 0 ≤ n) (h1 : n < xs.length)
    (q : ∀ x H', P x → Ex W M H H' → (∀ G M0, Ex W [] G H → Ok W M0 G → G p = none → Ex W [] G H') → Ok W M H' → Acc W M σ H' k p (xs.set n.toNat x) → D.nx σ H') : tAsg te (gSub (tVar k) ti rSetL) D σ H := by
  refine h H Ex.refl ok _ fun v x H2 px e2 r => ?_
  refine ⟨.ref p, hA.at_, ?_⟩
  refine hi H2 e2 (ok.ex e2) _ fun u H3 e3 r3 => ?_
  have e23 := e2.trans e3
  obtain ⟨vs, hp, pp⟩ := (hA.up e23).it
  have em : Ex W M H3 (upd H3 p (.lst (vs.set n.toNat v))) := Ex.mut hA.nb hA.nbl hA.mem
  refine ⟨p, vs, n, n.toNat, rfl, r3, hp, ?_, q x _ px (e23.up.trans em) (fun G M0 eG okG hG => (eG.trans e23).mut0 okG hG) ((ok.ex e23).ex em) ⟨hA.at_, hA.nb, hA.nbl, hA.mem, vs.set n.toNat v, upd_same, ?_⟩⟩
  · unfold ixN
    rw [if_pos h0, if_pos (by rw [Pd.length pp]; exact h1)]
  · exact Pd.set _ (Pd.mono pp fun _ _ r => r.ex em) ((r.up e3).ex em)
/-- a text, and one of several behind it -/
theorem evr_addS {z : Str} {P : Str → Prop} (ha : Ev W M ta σ H z) (hb : EvR W M tb σ H P) (hl : ∀ w, P w → z.length + w.length ≤ 1000000) : EvR W M (tOp (fun x y H Q => ∃ i j : Str, x = .str i ∧ y = .str j ∧ i.length + j.length ≤ sizeLine ∧ Q (.str (i ++ j)) H) ta tb) σ H (fun r => ∃ w, P w ∧ r = z ++ w) := fun H1 e ok Q q =>
  ha H1 e ok _ fun v H2 e2 r => hb H2 (e.trans e2) (ok.ex e2) _ fun u w H3 pw e3 r3 => ⟨z, w, r, r3, sz (hl w pw), q _ _ H3 ⟨w, pw, rfl⟩ (e2.trans e3) rep_str⟩
/-- an if without else, whose both ways go on with J -/
theorem s_ifc {b : Bool} {J : L2.St → Hp → Prop} {t1 : TS} (ok : Ok W M H) (h : Et W M tt σ H b) (hJ : ∀ σ' H', J σ' H' → D.nx σ' H') (h1 : (∀ σ' H', J σ' H' → D.nx σ' H') → b = true → ∀ H', Ex W [] H H' → Ok W M H' → t1 D σ H') (h2 : b = false → ∀ H', Ex W [] H H' → Ok W M H' → J σ H') : tIfS tt t1 tNext D σ H :=
  s_if ok h (fun hb H' e ok' => h1 hJ hb H' e ok') fun hb H' e ok' => hJ _ _ (h2 hb H' e ok')
/-- the bag's slot, read off -/
theorem bsr (h : σ[i]? = some (some (.ref W.b)) := by rfl) : Bs W σ i := h
theorem ev_vi {n : Int} (h : σ[i]? = some (some (.int n)) := by rfl) : Ev W M (tVar i) σ H n := ev_var ⟨_, h, rep_int⟩
theorem ev_vs {n : Str} (h : σ[i]? = some (some (.str n)) := by rfl) : Ev W M (tVar i) σ H n := ev_var ⟨_, h, rep_str⟩
/-- while -/
theorem while_w {P : Nat → L2.St → Hp → Prop} (m : Nat) (h0 : P m σ H)
    (hs : ∀ m σ' H', P m σ' H' → ∃ b, Et W M tt σ' H' b ∧ Ok W M H' ∧ ∀ H'', Ex W [] H' H'' → Ok W M H'' → (b = true → ∀ N : L2.St → Hp → Prop, (∀ m' σ3 H3, m' < m → P m' σ3 H3 → N σ3 H3) → ts { D with nx := N, ct := N, bk := D.nx } σ' H'') ∧ (b = false → D.nx σ' H'')) : tWhile tt ts D σ H := by
  refine ⟨P, ⟨m, h0⟩, fun m σ' H' p => ?_⟩
  obtain ⟨b, ht, ok, hb⟩ := hs m σ' H' p
  refine ht H' Ex.refl ok _ fun H2 e2 => ?_
  obtain ⟨h1, h2⟩ := hb H2 e2 (ok.ex e2)
  cases b with
  | true => rw [if_pos rfl]; exact ⟨fun σ3 H3 => ∃ m', m' < m ∧ P m' σ3 H3, fun _ _ n => n, h1 rfl _ fun m' σ3 H3 l w => ⟨m', l, w⟩⟩
  | false => rw [if_neg Bool.false_ne_true]; exact h2 rfl
end
end RG
namespace RG
open PySem PySem.Spec PyProof.Rows L2 StX RZ
section
variable {α β γ : Type} [Py α] [Py β] [Py γ] {W : Wd} {M M' N : List Addr} {σ σ' : L2.St} {H H1 H2 H' : Hp} {te ta tb tl : TE} {wi : TI} {g : TG} {tt : TT} {vs : List Nat} {D : Ends} {k l : Nat} {v : V}
/-- a comprehension, with a word of all that it made so far, and the new list's address -/
theorem lc_acc {xs : List α} {P : Nat → List β → Prop} (hi : Ei W M wi σ H xs) (hl : xs.length ≤ 1000000) (h0 : P 0 [])
    (he : ∀ (i : Nat) (x : α) v M' H' us ys, xs[i]? = some x → Le (cut W M H) (cut W M' H') → Ok W M' H' → Rep W M' H' v x → P i ys → Paired (Rep W M' H') us ys → ∀ K : L2.St → Hp → Prop,
      (∀ σ2, wipe σ2 vs = wipe σ vs → EvR W M' te σ2 H' (fun y => P (i + 1) (ys ++ [y])) → K σ2 H') → g v (wipe σ vs) H' K)
    {Q : VK} {H1 : Hp} (e : Ex W [] H H1) (ok : Ok W M H1) (q : ∀ L ys H2, P xs.length ys → H1 L = none → Ex W [] H1 H2 → Rep W M H2 (.ref L) ys → Q (.ref L) H2) : tLc wi g tYes te vs σ H1 Q := by
  refine hi H1 e ok _ fun J S H2 e2 wk s2 => ?_
  intro L hL
  have ok2 := ok.ex e2
  have nb := ok2.new_b hL
  have nbl := ok2.new_bl hL
  have nM := ok2.new_M hL
  have le2 : Le (cut W M H) (cut W M H2) := (e.trans e2).up.le
  refine ⟨fun i m H' => m = xs.length - i ∧ i ≤ xs.length ∧ Ok W (L :: M) H' ∧ S (L :: M) H' ∧ Ex W [] H2 H' ∧ Le (cut W M H) (cut W (L :: M) H') ∧
    ∃ us ys, H' L = some (.lst us) ∧ Paired (Rep W (L :: M) H') us ys ∧ P i ys ∧ us.length ≤ i,
    ⟨xs.length, by simp, Nat.zero_le _, ok2.grow hL, wk.st (le_new hL) s2, Ex.new hL, le2.trans (le_new hL), [], [], upd_same, .nil, h0, Nat.le_refl _⟩, ?_⟩
  rintro i m H' ⟨rfl, hi', ok', s', e', l', us, ys, hL', pp, pr, hz⟩
  by_cases hlt : i < xs.length
  · refine .inr ⟨wk.go s' hlt, fun H3 => i + 1 ≤ xs.length ∧ Ok W (L :: M) H3 ∧ S (L :: M) H3 ∧ Ex W [] H2 H3 ∧ Le (cut W M H) (cut W (L :: M) H3) ∧
      ∃ us ys, H3 L = some (.lst us) ∧ Paired (Rep W (L :: M) H3) us ys ∧ P (i + 1) ys ∧ us.length ≤ i + 1, fun H3 q => ⟨xs.length - (i + 1), by omega, rfl, q⟩, fun v H3 y => ?_⟩
    obtain ⟨x, hx, e3, r⟩ := wk.yld s' ok' y hlt
    have ok3 := ok'.ex e3
    have l3 := l'.trans e3.up.le
    refine he i x v (L :: M) H3 us ys hx l3 ok3 r pr (Pd.mono pp fun _ _ r => r.up e3) _ fun σ2 hw hel => ⟨hw, ?_⟩
    refine et_yes (W := W) (M := L :: M) H3 Ex.refl ok3 _ fun H4 e4 => ?_
    rw [if_pos rfl]
    refine hel H4 e4 (ok3.ex e4) _ fun w z H5 rz e5 r5 => ?_
    have e35 := (e3.trans e4).trans e5
    have ok5 := ok'.ex e35
    have hL5 := e35.keep L _ nb (by simp) hL'
    have em : Ex W (L :: M) H5 (upd H5 L (.lst (us ++ [w]))) := Ex.mut nb nbl (List.mem_cons_self)
    have e36 : Ex W (L :: M) H' (upd H5 L (.lst (us ++ [w]))) := e35.up.trans em
    exact ⟨us, hL5, Nat.lt_of_le_of_lt hz (sl (by omega)), hlt, ok5.ex em, wk.st e36.le s', (e'.trans e35).mut0 ok2 hL, l'.trans e36.le, us ++ [w], ys ++ [z], upd_same,
      Pd.append (Pd.mono pp fun _ _ r => r.ex e36) (.cons (r5.ex em) .nil), rz, by rw [List.length_append]; simp; omega⟩
  · have e5 : i = xs.length := by omega
    subst e5
    exact .inl ⟨wk.stop s' (Nat.le_refl _), q L ys H' pr (e2.free hL) (e2.trans (e'.sub (by simp))) (rep_lst hL' nb nM (Pd.mono pp fun _ _ r => r.less))⟩
end

/-! ### columns whose list is known by its address -/
structure OCol where
  n : Str
  ws : List Str
  a : Addr
def OCol.col (z : OCol) : Str × List Str := (z.n, z.ws)
instance : Py OCol := ⟨fun _ H v z => ∃ T, v = .ref T ∧ Rd H T (.tup [.str z.n, .ref z.a]) ∧ H z.a = some (.lst (z.ws.map V.str)), fun l ⟨T, e, h1, h2⟩ => ⟨T, e, l.rd h1, l.ex _ _ h2⟩⟩
section
variable {W : Wd} {M M' N : List Addr} {σ σ' : L2.St} {H H1 H2 H' G : Hp} {te ta tb tl : TE} {wi : TI} {vs : List Nat} {D : Ends} {k l : Nat} {v : V} {z : OCol} {L : Addr} {zs : List OCol}
theorem Rep.ocol (h : Rep W M H v z) : ∃ T, v = .ref T ∧ Rd H T (.tup [.str z.n, .ref z.a]) ∧ T ≠ W.b ∧ T ∉ M ∧ H z.a = some (.lst (z.ws.map V.str)) ∧ z.a ≠ W.b ∧ z.a ∉ M := by
  obtain ⟨T, e, h1, h2⟩ := h
  obtain ⟨a1, a2, a3⟩ := rd_cut.mp h1
  obtain ⟨b1, b2, b3⟩ := cut_some.mp h2
  exact ⟨T, e, a3, a1, a2, b3, b1, b2⟩
theorem rep_ocol {T : Addr} (h1 : Rd H T (.tup [.str z.n, .ref z.a])) (h2 : T ≠ W.b) (h3 : T ∉ M) (h4 : H z.a = some (.lst (z.ws.map V.str))) (h5 : z.a ≠ W.b) (h6 : z.a ∉ M) : Rep W M H (.ref T) z :=
  ⟨T, rfl, rd_cut.mpr ⟨h2, h3, h1⟩, cut_some.mpr ⟨h5, h6, h4⟩⟩
theorem Rep.col (h : Rep W M H v z) : Rep W M H v z.col := by
  obtain ⟨T, e, h1, h2⟩ := h
  exact ⟨T, _, _, e, h1, rfl, z.a, _, rfl, h2, toV_paired (α := Str) (W := W) (M := M) (H := H)⟩
theorem Rep.cols (h : Rep W M H v zs) : Rep W M H v (zs.map OCol.col) := h.lmap fun _ _ r => r.col
/-- (name, list(worths)) -/
theorem evr_ocol {n : Str} {ws : List Str} {ys : List OCol} {us : List V} (h1 : Sl W M σ H k n) (h2 : Sl W M σ H l ws) (hp : Paired (Rep W M H) us ys) (lg : Le G (cut W M H)) :
    EvR W M (tTup (tCons (tVar k) (tCons (tCB (rListOf W.K) (tCons (tVar l) tNil)) tNil))) σ H (fun z : OCol => z.col = (n, ws) ∧ G z.a = none ∧ ∀ y ∈ ys, y.a ≠ z.a) := fun H1 e ok Q q => by
  obtain ⟨v1, hv1, r1⟩ := h1.up e
  obtain ⟨v2, hv2, r2⟩ := h2.up e
  refine ⟨v1, hv1, v2, hv2, ?_⟩
  obtain ⟨a, vs, rfl, hh, _, _, pp⟩ := r2.lst
  refine ⟨a, vs, rfl, .inl (SqL.of hh), fun p hp' => ⟨by show 2 ≤ sizeLine; decide, fun T hT => ?_⟩⟩
  cases (show v1 = .str n from r1)
  have e1 : Ex W [] H1 (upd H1 p (.lst vs)) := Ex.new hp'
  have ok1 := ok.ex e1
  have npT : p ≠ T := fun z => by rw [← z, upd_same] at hT; cases hT
  have hvs : vs = ws.map V.str := paired_toV pp
  refine q (.ref T) ⟨n, ws, p⟩ _ ⟨rfl, ?_, fun y hy z => ?_⟩ (e1.trans (Ex.new hT)) (rep_ocol (.inl upd_same) (ok1.new_b hT) (ok1.new_M hT) (by rw [upd_ne npT, upd_same, hvs]) (ok.new_b hp') (ok.new_M hp'))
  · cases hg : G p with
    | none => rfl
    | some o =>
      have := e.up.le.ex _ _ (lg.ex _ _ hg)
      rw [cut_at this] at hp'; cases hp'
  · obtain ⟨j, hj⟩ := List.mem_iff_getElem?.mp hy
    obtain ⟨u, _, ru⟩ := Pd.get hp hj
    obtain ⟨_, _, _, _, _, h3, _⟩ := (ru.up e).ocol
    rw [z, hp'] at h3; cases h3
/-- xs = [(name, list(worths)) for name, worths in cs] -/
theorem s_cols {cs : List (Str × List Str)} {f : Nat} (ok : Ok W M H) (hi : Ei W M wi σ H cs) (hl : cs.length ≤ 1000) (hk : k ∈ vs) (hl' : l ∈ vs) (hkl : k ≠ l) (hk2 : k < σ.length) (hl2 : l < σ.length)
    (q : ∀ (L : Addr) (zs : List OCol) (H' : Hp), zs.map OCol.col = cs → (zs.map OCol.a).Nodup → (∀ z ∈ zs, cut W M H z.a = none) → H L = none → Ex W [] H H' → Ok W M H' → Rep W M H' (.ref L) zs → D.nx (σ.set f (some (.ref L))) H') :
    tAsg (tLc wi (gPair W.K k l) tYes (tTup (tCons (tVar k) (tCons (tCB (rListOf W.K) (tCons (tVar l) tNil)) tNil))) vs) (gName f) D σ H := by
  refine lc_acc (P := fun i (zs : List OCol) => zs.map OCol.col = cs.take i ∧ (zs.map OCol.a).Nodup ∧ ∀ z ∈ zs, cut W M H z.a = none) hi (by omega) ⟨rfl, List.nodup_nil, fun z hz => by cases hz⟩ ?_ Ex.refl ok fun L zs H2 hP hL e2 r2 => q L zs H2 (by have := hP.1; rwa [List.take_length] at this) hP.2.1 hP.2.2 hL e2 (ok.ex e2) r2
  intro i x v M' H' us ys hx le ok' r hP pp K hK
  refine gPair_rd r fun v1 v2 r1 r2 => hK _ (by rw [wipe_set hl', wipe_set hk, wipe_wipe]) ?_
  refine (evr_ocol (G := cut W M H) ((Sl.here r1 (by rw [wipe_len]; exact hk2)).set Ex.refl hkl) (Sl.here r2 (by rw [List.length_set, wipe_len]; exact hl2)) pp le).imp fun z hz => ?_
  obtain ⟨h1, h2, h3⟩ := hz
  obtain ⟨p1, p2, p3⟩ := hP
  refine ⟨by rw [List.map_append, p1, List.take_add_one, hx]; show _ ++ [z.col] = _; rw [h1]; rfl, ?_, fun y hy => ?_⟩
  · rw [List.map_append, List.nodup_append]
    refine ⟨p2, by simp, fun a ha b hb => ?_⟩
    obtain ⟨y, hy, rfl⟩ := List.mem_map.mp ha
    have : b = z.a := by simpa using hb
    rw [this]
    exact h3 y hy
  · rcases List.mem_append.mp hy with hy | hy
    · exact p3 y hy
    · rw [List.mem_singleton.mp hy]; exact h2
/-- the outer list is none of the inner ones -/
theorem own_out (h : Rep W M H (.ref L) zs) : ∃ us, H L = some (.lst us) ∧ L ≠ W.b ∧ L ∉ M ∧ Paired (Rep W (L :: M) H) us zs ∧ ∀ z ∈ zs, z.a ≠ L := by
  obtain ⟨a, us, e, hh, nb, nm, pp⟩ := h.lst
  cases e
  have no : ∀ z ∈ zs, z.a ≠ L := fun z hz e => by
    obtain ⟨j, hj⟩ := List.mem_iff_getElem?.mp hz
    obtain ⟨u, hu, ru⟩ := Pd.get pp hj
    obtain ⟨T, rfl, _, _, _, h3, _⟩ := ru.ocol
    rw [e, hh] at h3
    have e2 : us = z.ws.map V.str := by injection h3 with h3; injection h3
    rw [e2, List.getElem?_map] at hu
    cases hw : z.ws[j]? with
    | none => rw [hw] at hu; cases hu
    | some s => rw [hw] at hu; cases hu
  refine ⟨us, hh, nb, nm, ?_, no⟩
  have : ∀ {us : List V} {zs : List OCol}, Paired (Rep W M H) us zs → (∀ z ∈ zs, z.a ≠ L) → Paired (Rep W (L :: M) H) us zs := by
    intro us zs hp
    induction hp with
    | nil => intro _; exact .nil
    | @cons u z us zs r _ ih =>
      intro hn
      refine .cons ?_ (ih fun z hz => hn z (List.mem_cons_of_mem _ hz))
      obtain ⟨T, rfl, t1, t2, t3, h3, h4, h5⟩ := r.ocol
      refine rep_ocol t1 t2 (fun hm => ?_) h3 h4 (fun hm => ?_)
      · rcases List.mem_cons.mp hm with e | hm
        · subst e
          rcases t1 with t1 | ⟨o, t1⟩
          · rw [hh] at t1; cases t1
          · rw [hh] at t1; cases t1
        · exact t3 hm
      · rcases List.mem_cons.mp hm with e | hm
        · exact hn z (by simp) e
        · exact h5 hm
  exact this pp no
/-- an inner list is changed -/
theorem own_upd (h : Rep W M H (.ref L) zs) (hn : (zs.map OCol.a).Nodup) {i : Nat} (hz : zs[i]? = some z) (ws' : List Str) : Rep W M (upd H z.a (.lst (ws'.map V.str))) (.ref L) (zs.set i ⟨z.n, ws', z.a⟩) := by
  obtain ⟨us, hh, nb, nm, pp, no⟩ := own_out h
  have hza := no z (List.mem_of_getElem? hz)
  have keep : ∀ {u : V} {y : OCol}, Rep W (L :: M) H u y → y.a ≠ z.a → Rep W (L :: M) (upd H z.a (.lst (ws'.map V.str))) u y := fun {u y} r hy => by
    obtain ⟨T, rfl, t1, t2, t3, h3, h4, h5⟩ := r.ocol
    refine rep_ocol ?_ t2 t3 (by rw [upd_ne hy]; exact h3) h4 h5
    obtain ⟨uz, _, rz⟩ := Pd.get pp hz
    obtain ⟨_, _, _, _, _, z3, _⟩ := rz.ocol
    have nT : T ≠ z.a := fun e => by
      rcases t1 with t1 | ⟨o, t1⟩
      · rw [e, z3] at t1; cases t1
      · rw [e, z3] at t1; cases t1
    rcases t1 with t1 | ⟨o, t1⟩
    · exact .inl (by rw [upd_ne nT]; exact t1)
    · exact .inr ⟨o, by rw [upd_ne nT]; exact t1⟩
  have here : ∀ {u : V}, Rep W (L :: M) H u z → Rep W (L :: M) (upd H z.a (.lst (ws'.map V.str))) u (⟨z.n, ws', z.a⟩ : OCol) := fun {u} r => by
    obtain ⟨T, rfl, t1, t2, t3, h3, h4, h5⟩ := r.ocol
    have nT : T ≠ z.a := fun e => by
      rcases t1 with t1 | ⟨o, t1⟩
      · rw [e, h3] at t1; cases t1
      · rw [e, h3] at t1; cases t1
    refine rep_ocol (z := ⟨z.n, ws', z.a⟩) ?_ t2 t3 upd_same h4 h5
    rcases t1 with t1 | ⟨o, t1⟩
    · exact .inl (by rw [upd_ne nT]; exact t1)
    · exact .inr ⟨o, by rw [upd_ne nT]; exact t1⟩
  have all : ∀ {us : List V} {zs : List OCol} {i : Nat}, Paired (Rep W (L :: M) H) us zs → (zs.map OCol.a).Nodup → zs[i]? = some z → Paired (Rep W (L :: M) (upd H z.a (.lst (ws'.map V.str)))) us (zs.set i ⟨z.n, ws', z.a⟩) := by
    intro us zs i hp
    induction hp generalizing i with
    | nil => intro _ h; simp at h
    | @cons u y us zs r rest ih =>
      intro hn hi
      have hn' := List.nodup_cons.mp (by simpa using hn : (y.a :: zs.map OCol.a).Nodup)
      cases i with
      | zero =>
        simp at hi
        subst hi
        rw [List.set_cons_zero]
        refine .cons (here r) ?_
        have : ∀ {us : List V} {zs : List OCol}, Paired (Rep W (L :: M) H) us zs → (∀ x ∈ zs, x.a ≠ y.a) → Paired (Rep W (L :: M) (upd H y.a (.lst (ws'.map V.str)))) us zs := by
          intro us zs hp
          induction hp with
          | nil => intro _; exact .nil
          | cons r _ ih => intro hx; exact .cons (keep r (hx _ (by simp))) (ih fun x h => hx x (List.mem_cons_of_mem _ h))
        exact this rest fun x hx e => hn'.1 (e ▸ List.mem_map_of_mem hx)
      | succ i =>
        rw [List.set_cons_succ]
        have hi' : zs[i]? = some z := by simpa using hi
        refine .cons (keep r fun e => hn'.1 (e ▸ List.mem_map_of_mem (List.mem_of_getElem? hi'))) (ih hn'.2 hi')
  have hp := all pp hn hz
  exact rep_lst (by rw [upd_ne hza.symm]; exact hh) nb nm (Pd.mono hp fun _ _ r => r.less)
theorem ocol_at {i : Int} (h : Rep W M H (.ref L) zs) (ht : Val tl σ H (.ref L)) (hb : Val tb σ H (.int i)) (hz : atI zs i = some z) : Val (tOp (rIxT W.K) (tOp (rIxL W.K) tl tb) (tC (.int 1))) σ H (.ref z.a) ∧ Val (tOp (rIxT W.K) (tOp (rIxL W.K) tl tb) (tC (.int 0))) σ H (.str z.n) := by
  obtain ⟨us, hh, nb, nm, pp, no⟩ := own_out h
  obtain ⟨u, hu, ru⟩ := Pd.at pp hz
  obtain ⟨T, rfl, t1, t2, t3, h3, h4, h5⟩ := ru.ocol
  exact ⟨fun Q q => ht _ (hb _ ⟨L, us, i, .ref T, rfl, rfl, SqL.of hh, hu, T, _, 1, .ref z.a, rfl, rfl, .inl t1, rfl, q⟩), fun Q q => ht _ (hb _ ⟨L, us, i, .ref T, rfl, rfl, SqL.of hh, hu, T, _, 0, .str z.n, rfl, rfl, .inl t1, rfl, q⟩)⟩
theorem as_tup2 {t1 t2 : TE} {g : TG} (h : t1 σ H fun v1 H1 => t2 σ H1 fun v2 H2 => 2 ≤ sizeLine ∧ ∀ p, H2 p = none → g (.ref p) σ (upd H2 p (.tup [v1, v2])) D.nx) : tAsg (tTup (tCons t1 (tCons t2 tNil))) g D σ H := h
/-- an item is another pair now, its list the same -/
theorem own_set {us : List V} {p : Addr} (ok : Ok W M H) (h : Rep W M H (.ref L) zs) (hL : H L = some (.lst us)) {j : Nat} (hz : zs[j]? = some z) (n' : Str) (hp : H p = none) :
    Rep W M (upd (upd H p (.tup [.str n', .ref z.a])) L (.lst (us.set j (.ref p)))) (.ref L) (zs.set j ⟨n', z.ws, z.a⟩) ∧ Ex W (L :: M) H (upd (upd H p (.tup [.str n', .ref z.a])) L (.lst (us.set j (.ref p)))) := by
  obtain ⟨us', hh, nb, nm, pp, no⟩ := own_out h
  rw [hL] at hh; cases hh
  have npL : p ≠ L := fun e => by rw [e, hL] at hp; cases hp
  have nbl : L ≠ W.bl := fun e => by
    obtain ⟨_, _, _, _, _, _, e3, _⟩ := ok.bag
    rw [← e, hL] at e3
    have e4 : us = W.ns.map V.int := by injection e3 with e3; injection e3
    obtain ⟨u, hu, ru⟩ := Pd.get pp hz
    obtain ⟨T, rfl, _⟩ := ru.ocol
    rw [e4, List.getElem?_map] at hu
    cases hw : W.ns[j]? with
    | none => rw [hw] at hu; cases hu
    | some s => rw [hw] at hu; cases hu
  have e1 : Ex W (L :: M) H (upd H p (.tup [.str n', .ref z.a])) := Ex.new hp
  have em : Ex W (L :: M) (upd H p (.tup [.str n', .ref z.a])) (upd (upd H p (.tup [.str n', .ref z.a])) L (.lst (us.set j (.ref p)))) := Ex.mut nb nbl (by simp)
  have ee := e1.trans em
  refine ⟨rep_lst upd_same nb nm (Pd.mono (Pd.set j (Pd.mono pp fun _ _ r => r.ex ee) ?_) fun _ _ r => r.less), ee⟩
  obtain ⟨u, hu, ru⟩ := Pd.get pp hz
  obtain ⟨T, rfl, t1, t2, t3, h3, h4, h5⟩ := (ru.ex ee).ocol
  exact rep_ocol (z := ⟨n', z.ws, z.a⟩) (.inl (by rw [upd_ne npL, upd_same])) (ok.new_b hp) (fun hm => (List.mem_cons.mp hm).elim npL (ok.new_M hp)) h3 h4 h5
/-- a fresh address joins those under change -/
theorem le_fresh {a : Addr} (e : Ex W M H H') (ha : cut W M H a = none) : Le (cut W M H) (cut W (a :: M) H') := ⟨fun x o q => by
  obtain ⟨h1, h2, h3⟩ := cut_some.mp q
  refine cut_some.mpr ⟨h1, fun z => ?_, e.keep x o h1 h2 h3⟩
  rcases List.mem_cons.mp z with z | z
  · rw [z, ha] at q; cases q
  · exact h2 z⟩
theorem cut_free {a : Addr} (h : cut W M H a = none) (hb : a ≠ W.b) (hm : a ∉ M) : H a = none := by
  cases e : H a with
  | none => rfl
  | some o => rw [cut_some.mpr ⟨hb, hm, e⟩] at h; cases h
end
end RG
namespace RG
open PySem PySem.Spec PyProof.Rows L2 StX RZ

/-! ### set(texts), of any number -/
/-- the first of each -/
def met : List Str → List Str → List Str
  | f, [] => f
  | f, x :: t => met (if x ∈ f then f else f ++ [x]) t
def firsts (xs : List Str) : List Str := met [] xs
theorem met_take {xs : List Str} {x : Str} : ∀ {i : Nat} {f : List Str}, xs[i]? = some x → met f (xs.take (i + 1)) = if x ∈ met f (xs.take i) then met f (xs.take i) else met f (xs.take i) ++ [x] := by
  induction xs with
  | nil => intro i f h; simp at h
  | cons a t ih =>
    intro i f h
    cases i with
    | zero => simp at h; subst h; simp [met]
    | succ i =>
      rw [List.take_succ_cons, List.take_succ_cons]
      show met _ (t.take (i + 1)) = if x ∈ met _ (t.take i) then met _ (t.take i) else met _ (t.take i) ++ [x]
      exact ih (by simpa using h)
theorem met_len : ∀ {xs f : List Str}, (met f xs).length ≤ f.length + xs.length
  | [], f => Nat.le_refl _
  | x :: t, f => by
    have := met_len (xs := t) (f := if x ∈ f then f else f ++ [x])
    have h : (if x ∈ f then f else f ++ [x]).length ≤ f.length + 1 := by split <;> simp
    show (met _ t).length ≤ _
    rw [List.length_cons]
    omega
theorem met_nodup : ∀ {xs f : List Str}, f.Nodup → ((met f xs).length = f.length + xs.length ↔ xs.Nodup ∧ ∀ x ∈ xs, x ∉ f)
  | [], f, _ => by simp [met]
  | x :: t, f, hf => by
    by_cases hx : x ∈ f
    · have e : met f (x :: t) = met f t := by show met (if x ∈ f then f else f ++ [x]) t = _; rw [if_pos hx]
      have := met_len (xs := t) (f := f)
      rw [e]
      constructor
      · intro h; rw [List.length_cons] at h; omega
      · intro h; exact absurd hx (h.2 x (by simp))
    · have e : met f (x :: t) = met (f ++ [x]) t := by show met (if x ∈ f then f else f ++ [x]) t = _; rw [if_neg hx]
      have hf' : (f ++ [x]).Nodup := List.nodup_append.mpr ⟨hf, by simp, fun a ha b hb => by simp at hb; subst hb; exact fun e => hx (e ▸ ha)⟩
      rw [e, show f.length + (x :: t).length = (f ++ [x]).length + t.length by simp; omega, met_nodup hf', List.nodup_cons]
      constructor
      · rintro ⟨h1, h2⟩
        refine ⟨⟨fun hm => h2 x hm (by simp), h1⟩, fun y hy => ?_⟩
        rcases List.mem_cons.mp hy with rfl | hy
        · exact hx
        · exact fun hm => h2 y hy (by simp [hm])
      · rintro ⟨⟨h1, h2⟩, h3⟩
        refine ⟨h2, fun y hy hm => ?_⟩
        rcases List.mem_append.mp hm with hm | hm
        · exact h3 y (List.mem_cons_of_mem _ hy) hm
        · rw [List.mem_singleton.mp hm] at hy; exact h1 hy
section
variable {prog : Program} {w : World} {A : Around} {E : Value → Shared → Prop}
theorem set_turns {R : Result → Shared → Prop} {I D : Addr} {fp wr : List Addr} {G : Array GenState → Array GenState → Prop} {P : Nat → Value → Prop} {St : Nat → Shared → Prop} {xs : List Str} (T : WalksS prog w A.in1 I fp wr G xs.length P St) (hD : D ∉ fp)
    (hv : ∀ i v, P i v → ∃ t, v = .str (xs.getD i Str.empty) t) (hb : xs.length + 1 < scanBound) :
    ∀ (k i : Nat) (s : Shared), xs.length - i = k → i ≤ xs.length → St i s → s.heap.SetOf (PySem.strKind prog w) D (fun y => decide (y ∈ firsts (xs.take i))) (firsts (xs.take i)).length →
      (∀ s', Moved (D :: wr) G s s' → s'.heap.SetOf (PySem.strKind prog w) D (fun y => decide (y ∈ firsts xs)) (firsts xs).length → R (.ok (.ret .none)) s') →
      codeAny (model prog w) A (.builtin "set.update.loop" ⟨[.ref D, .ref I], []⟩) R s := by
  have hDw : D ∉ wr := fun z => hD (T.sub _ z)
  have up : ∀ b ∈ wr, b ∈ D :: wr := fun b z => List.mem_cons_of_mem _ z
  have carry : ∀ {h h' : Heap} {S : Str → Bool} {n : Nat}, h.SetOf (PySem.strKind prog w) D S n → (∀ o, h.get? D = some o → h'.get? D = some o) → h'.SetOf (PySem.strKind prog w) D S n := fun z m => by
    obtain ⟨o, a, b, c, ho, r⟩ := z
    exact ⟨o, a, b, c, m o ho, r⟩
  intro k
  induction k with
  | zero =>
    intro i s hk hi hst hS hR
    have e : i = xs.length := by omega
    subst e
    rw [List.take_length] at hS
    refine codeAny_builtin PyProof.Rows.F.entry_set_update_loop ?_
    rw [Around.under_plainId PyProof.Rows.F.plain_set_update_loop _]
    show wpAny _ A.in1 (pyNext (.ref I) >>= fun _ => _) _ _ s
    exact wpAny_bind (T.done s _ _ hst fun s' mv => wpAny_pure (hR s' (mv.mono up) (carry hS fun o ho => mv.heap D o hDw ho)))
  | succ k ih =>
    intro i s hk hi hst hS hR
    have lt : i < xs.length := by omega
    refine codeAny_builtin PyProof.Rows.F.entry_set_update_loop ?_
    rw [Around.under_plainId PyProof.Rows.F.plain_set_update_loop _]
    show wpAny _ A.in1 (pyNext (.ref I) >>= fun _ => _) _ _ s
    refine wpAny_bind (T.item i s _ _ lt hst fun v s' pv st' mv => ?_)
    obtain ⟨t, rfl⟩ := hv i v pv
    have hS' := carry hS fun o ho => mv.heap D o hDw ho
    have hx : xs[i]? = some (xs.getD i Str.empty) := by rw [List.getD_eq_getElem?_getD, List.getElem?_eq_getElem lt]; rfl
    generalize xs.getD i Str.empty = x at hx ⊢
    show wpAny _ A.in1 (holding [Value.str x t] (setAdd D (.str x t)) >>= fun _ => _) _ _ s'
    refine wpAny_bind (wpAny_holding ?_)
    unfold setAdd
    refine wpAny_holding (wpAny_bind ((PySem.strKind prog w).pyHash (k := x) (strKind_is _ _ _ _) ?_))
    have room : (firsts (xs.take i)).length + 1 < scanBound := by
      have := met_len (xs := xs.take i) (f := [])
      have l2 : (xs.take i).length ≤ xs.length := by rw [List.length_take]; omega
      unfold firsts
      simp only [List.length_nil] at this
      omega
    refine wpAny_setAddHashed_of (knd := PySem.strKind prog w) (s := { s' with toks := s'.toks + 1 }) (strKind_is _ _ _ _) rfl hS' room fun h' sb hS2 => ?_
    have hSi : h'.SetOf (PySem.strKind prog w) D (fun y => decide (y ∈ firsts (xs.take (i + 1)))) (firsts (xs.take (i + 1))).length := by
      unfold firsts at hS2 ⊢
      rw [met_take hx]
      by_cases hm : x ∈ met [] (xs.take i)
      · rw [if_pos hm]
        refine PyProof.Rows.SetOf_congr hS2 (fun y => ?_) (by rw [if_pos (decide_eq_true hm)])
        by_cases hy : y = x
        · subst hy; simp [hm]
        · simp [hy]
      · rw [if_neg hm]
        refine PyProof.Rows.SetOf_congr hS2 (fun y => ?_) (by rw [if_neg (by simpa using hm)]; simp)
        by_cases hy : y = x
        · subst hy; simp
        · simp [hy]
    refine wpAny_pure ⟨plainId_quiet PyProof.Rows.F.plain_set_update_loop _, ih (i + 1) _ (by omega) lt (T.frame _ s' _ _ st' (Nat.le_succ _) fun b hb o e => ?_) hSi fun s2 mv2 hS3 => ?_⟩
    · rw [sb.2 b (fun z : b = D => hD (z ▸ hb))]; exact e
    · refine hR s2 (Moved.trans T.gtrans ((mv.mono up).then_heap (Nat.le_succ _) fun b o hb e => ?_) mv2) hS3
      rw [sb.2 b (fun z : b = D => hb (z ▸ List.mem_cons_self))]; exact e
set_option maxHeartbeats 3200000 in
theorem set_of_texts {s : Shared} {l : Addr} {its : Array Value} {xs : List Str} {Q : Value → Shared → Prop} (hh : A.handled = none) (hl : s.heap.IsList l its) (hi : PyProof.Rows.StrsAre its.toList xs) (hb : xs.length + 1 < scanBound)
    (h : ∀ (h' : Heap) (tk : Nat), h'.SetOf (PySem.strKind prog w) s.heap.objs.size (fun y => decide (y ∈ firsts xs)) (firsts xs).length → (∀ b o, b < s.heap.objs.size → s.heap.get? b = some o → h'.get? b = some o) → Q (.ref s.heap.objs.size) { s with heap := h', toks := tk }) :
    wpAny (model prog w) A (call (.type "set") [.ref l]) Q E s := by
  have m0 := PySem.F.called_set.mro
  obtain ⟨cc, tl, hmro⟩ := m0
  have hmade := PySem.F.called_set.made
  have hsub := PySem.F.called_set.sub
  have q1 := PySem.F.called_set.notType
  have q2 := PySem.F.called_set.canCreate
  have q3 := PySem.F.typeCall_set_1 (.ref l)
  refine wpAny_call (codeAny_of_tree (?_ : wpAny _ _ (callAny (.type "set") _) _ _ _))
  refine wpAny_pure ⟨Code.quiet_builtin _ (by decide +kernel), codeAny_builtin PySem.F.entry_type_call ?_⟩
  rw [Around.under_plain (weight_type_call_type "set" [.ref l] []) rfl]
  repeat (any_goals (first | assumption | wp_step))
  let ob : Bool → Obj := fun led => { cls := .type "set", dict := none, data := .set #[] 0 (.fresh 0 0 led) }
  refine codeAny_mono (code_set_new_1 (.ref l) (E := E) (Q₁ := fun r s₁ => ∃ led : Bool, r = .ref s.heap.objs.size ∧ s₁ = { s with heap := s.heap.push (ob led) }) fun led => ⟨led, rfl, rfl⟩) fun r s₁ hr => ?_
  match r, hr with
  | .error e, hr => exact hr
  | .ok (.ret r0), hr =>
    obtain ⟨led, rfl, rfl⟩ := hr
    have hS : (s.heap.push (ob led)).get? s.heap.objs.size = some (ob led) := Heap.get?_push_size _ rfl
    have hT : Shared.TypeIs { s with heap := s.heap.push (ob led) } (.ref s.heap.objs.size) "set" := ⟨_, hS, rfl⟩
    have q4 := PySem.F.called_set.init.lookup
    have q5 := PySem.F.called_set.init.bind (.ref s.heap.objs.size)
    repeat (any_goals (first | assumption | wp_step))
    refine codeAny_mono (codeAny_call_builtin (R := wants (fun r s₂ => r = .none ∧ ∃ h' tk, s₂ = { s with heap := h', toks := tk } ∧ h'.SetOf (PySem.strKind prog w) s.heap.objs.size (fun y => decide (y ∈ firsts xs)) (firsts xs).length ∧
        ∀ b o, b < s.heap.objs.size → s.heap.get? b = some o → h'.get? b = some o) E) PySem.F.called_set.init.plain PySem.F.entry_set_init (check_set_init_1 hT ?_)) fun r₂ s₂ hr₂ => ?_
    · obtain ⟨⟨oc, od, odt, osl⟩, hol, hcl, nl, hdl⟩ := hl
      simp only at hcl hdl
      subst hcl; subst hdl
      have hol' := Heap.get?_push_of_some (ob led) hol
      have q6 := PySem.F.sub_list_set
      have q7 := PySem.F.sub_list_frozenset
      have q8 : (Value.type "list" == Value.type "dict") = false := by decide
      have hl1 : (s.heap.push (ob led)).IsList l its := ⟨_, hol', rfl, nl, rfl⟩
      unfold Builtin.«set.__init__» noKeywords Builtin.Frozenset.updateFrom
      generalize hPI : pyIter = PI
      wp_walk
      subst hPI
      refine wpAny_pyIter_list hl1 (wpAny_bind (wpAny_runValue ?_))
      have lS : l < s.heap.objs.size := Heap.lt_size hol
      have hh3 : A.in1.in1.in1.handled = none := by simp [hh]
      have e1 : (s.heap.push (ob led)).objs.size = s.heap.objs.size + 1 := Heap.size_push ..
      have nI : l ≠ (s.heap.push (ob led)).objs.size := fun z => Nat.lt_irrefl _ (Nat.lt_trans (Nat.lt_of_lt_of_eq (Nat.lt_succ_self _) (e1.symm.trans z.symm)) lS)
      have nD : s.heap.objs.size ∉ [(s.heap.push (ob led)).objs.size, l] := by
        rw [e1]
        intro hm
        rcases List.mem_cons.mp hm with z | z
        · exact absurd z (Nat.ne_of_lt (Nat.lt_succ_self _))
        · exact absurd (List.mem_singleton.mp z).symm (Nat.ne_of_lt lS)
      have n1 : its.size = xs.length := by rw [← StrsAre.len_eq hi, Array.length_toList]
      have W1 := (Walks.list (prog := prog) (w := w) hh3 (s.heap.push (ob led)).objs.size l nI its).toS
      rw [n1] at W1
      refine set_turns W1 nD (fun i v hv => SS.strs_at hi i v (by rw [Array.getElem?_toList]; exact hv)) hb (xs.length - 0) 0 _ (by omega) (Nat.zero_le _) ⟨⟨_, Heap.get?_push_size _ rfl, rfl, rfl⟩, hl1.push _⟩ ?hS0 ?hR
      case hS0 =>
        refine PyProof.Rows.SetOf_congr ((PyProof.Rows.setObjOf_fresh (knd := PySem.strKind prog w) led).setOf (Heap.get?_push_of_some _ hS) (by unfold scanBound; omega)) (fun y => ?_) rfl
        show false = decide (y ∈ ([] : List Str))
        simp
      case hR =>
        intro s' mv hS'
        obtain ⟨h', g', d', tk', os'⟩ := s'
        obtain rfl : g' = s.gens := mv.gens
        obtain rfl : d' = s.drawn := mv.drawn
        obtain rfl : os' = s.os := mv.os
        have fin : ∀ b o, b < s.heap.objs.size → s.heap.get? b = some o → h'.get? b = some o := fun b o hb e => by
          refine mv.heap b o (fun hm => ?_) (Heap.get?_push_of_some _ (Heap.get?_push_of_some _ e))
          rw [e1] at hm
          rcases List.mem_cons.mp hm with z | z
          · exact Nat.lt_irrefl _ (z ▸ hb)
          · exact Nat.lt_irrefl _ (Nat.lt_trans (Nat.lt_of_lt_of_eq (Nat.lt_succ_self _) (List.mem_singleton.mp z).symm) hb)
        show wpAny _ _ _ _ _ _
        refine wpAny_pure ?_
        show wpAny _ _ (ret Value.none) _ _ _
        exact wpAny_pure ⟨rfl, h', tk', rfl, hS', fin⟩
    · match r₂, hr₂ with
      | .error e, hr₂ => exact hr₂
      | .ok (.ret r1), hr₂ =>
        obtain ⟨rfl, h', tk, rfl, hS', hk'⟩ := hr₂
        repeat (any_goals (first | assumption | wp_step))
        exact h _ _ hS' hk'
end
/-- len(set(xs)) of texts -/
def tLenSetS (K : PySem.W.Frag) (ta : TE) : TE := fun σ H Q => ta σ H fun x H1 => ∃ l, ∃ xs : List Str, x = .ref l ∧ SqL K H1 l (xs.map V.str) ∧ xs.length < 1000 ∧ Q (.int (firsts xs).length) H1
theorem pe_lenSetS {X : Cx} {a : Expr} {ta : TE} {p p2 q pos : Pos} (hc : X.calm = true) (hg : Gl X "len") (hm : X.mg "len" = none) (hg2 : Gl X "set") (hm2 : X.mg "set" = none) (ha : PE X a ta) (na : starEach [a] X.env = (false, eval a X.env) :: starEach [] X.env := by rfl) :
    PE X (.Call (.Name "len" p) [.Call (.Name "set" p2) [a] [] q] [] pos) (tLenSetS X.K ta) := by
  refine ⟨fun pins s σ H Q I h => ?_⟩
  refine Call_ (ld_blt I hg hm boot_len (PyProof.Rows.callWith_builtin1 (PyProof.Rows.args_cons ?_ rfl) rfl rfl))
  refine Call_ (ld_blt I hg2 hm2 boot_set ?_)
  refine PyProof.Rows.callWith_type1 (PyProof.Rows.args_cons (thn (ha.run pins s σ H _ I h) fun v s1 ⟨x, H1, I1, r1, q1⟩ => PyProof.Rows.args_nil ?_) na) na rfl
  obtain ⟨l, xs, rfl, hq, h1, q1⟩ := q1
  cases r1
  obtain ⟨its, r, pl, hz⟩ := I1.list hq
  have hfl : (firsts xs).length ≤ xs.length := by have := met_len (xs := xs) (f := []); unfold firsts; simpa using this
  refine set_of_texts (I1.ok.hd hc) pl.isList (by simpa using strsAre_of r) (by unfold scanBound; omega) fun h' tk hS hk => ?_
  refine PyProof.Rows.args_nil ?_
  obtain ⟨o, es, ep, t, ho, hex, hd, _, _, _, hf, hn⟩ := hS
  have I2 : Inv X pins σ H1 { s1 with heap := h', toks := tk } := I1.kept fun b o e => hk b o (Heap.lt_size e) e
  exact call_len_set ho hex hd hf (by rw [hn]; omega) ⟨.int (firsts xs).length, H1, I2.tok _, ⟨_, by rw [hn]⟩, q1⟩
section
variable {W : Wd} {M : List Addr} {σ : L2.St} {H : Hp} {ta : TE}
theorem ev_lenSetS {xs : List Str} (ha : Ev W M ta σ H xs) (hl : xs.length < 1000) : Ev W M (tLenSetS W.K ta) σ H ((firsts xs).length : Int) := fun H1 e ok Q q =>
  ha H1 e ok _ fun v H2 e2 r => by
    obtain ⟨a, vs, ev, hh, _, _, pp⟩ := r.lst
    exact ⟨a, xs, ev, SqL.of (by rw [hh, paired_toV pp]; rfl), hl, q _ H2 e2 rep_int⟩
theorem firsts_nd {xs : List Str} : (firsts xs).length = xs.length ↔ xs.Nodup := by
  have := met_nodup (xs := xs) (f := []) List.nodup_nil
  simpa [firsts] using this
end
end RG
namespace RG
open PySem PySem.Spec PyProof.Rows L2 StX RZ

/-! ### menus, in plain Lean -/
abbrev lettersS : Str := "abcdefghijklmnopqrstuvwxyz"
abbrev digitsS : Str := "0123456789"
/-- a column: its name, its worths -/
abbrev Col := Str × List Str
def isName (z : Str) : Bool := decide ((1 : Int) ≤ z.length) && decide ((z.length : Int) ≤ 8) && ((signs z).map (inS lettersS)).all id
def isWorth (z : Str) : Bool := decide ((1 : Int) ≤ z.length) && decide ((z.length : Int) ≤ 8) && ((signs z).map fun s => inS lettersS s || inS digitsS s).all id
def areDiff (xs : List Str) : Bool := (xs.map fun x => decide ((xs.count x : Int) = 1)).all id
def isCol (c : Col) : Bool := isName c.1 && (decide ((1 : Int) ≤ c.2.length) && decide ((c.2.length : Int) ≤ 12)) && ((c.2.map isWorth).all id && areDiff c.2)
def kstep (found : List (List Str)) (c : Col) : List (List Str) := found.flatMap fun k => c.2.map fun z => k ++ [z]
def kinds (cs : List Col) : List (List Str) := cs.foldl kstep [[]]
def areCols (cs : List Col) : Bool := (decide ((1 : Int) ≤ cs.length) && decide ((cs.length : Int) ≤ 3)) && ((cs.map isCol).all id && areDiff (cs.map (·.1))) && decide (((kinds cs).length : Int) ≤ 12)
/-- what the package is asked: texts and lists of a fair length -/
def Fair (cs : List Col) : Prop := cs.length ≤ 1000 ∧ ∀ c ∈ cs, c.1.length ≤ 1000 ∧ c.2.length ≤ 1000 ∧ ∀ z ∈ c.2, z.length ≤ 1000
/-- so few that their kinds can be told one by one -/
def Few (cs : List Col) : Prop := cs.length ≤ 3 ∧ ∀ c ∈ cs, c.2.length ≤ 12
theorem isCol_few {c : Col} (h : isCol c = true) : c.2.length ≤ 12 := by
  unfold isCol at h
  simp only [Bool.and_eq_true, decide_eq_true_eq] at h
  omega
theorem Few.take {cs : List Col} (h : Few cs) (i : Nat) : Few (cs.take i) := ⟨by rw [List.length_take]; have := h.1; omega, fun c hc => h.2 c (List.mem_of_mem_take hc)⟩
theorem kstep_len {found : List (List Str)} {c : Col} : (kstep found c).length = found.length * c.2.length := by
  unfold kstep
  rw [List.length_flatMap]
  induction found with
  | nil => simp
  | cons k t ih => rw [List.map_cons, List.sum_cons, ih, List.length_map, List.length_cons, Nat.succ_mul, Nat.add_comm]
theorem kinds_take {cs : List Col} {i : Nat} {c : Col} (h : cs[i]? = some c) : kinds (cs.take (i + 1)) = kstep (kinds (cs.take i)) c := by
  unfold kinds
  rw [List.take_add_one, h, List.foldl_append]; rfl
theorem kfold_len {cs : List Col} : ∀ {found : List (List Str)}, (cs.foldl kstep found).length = found.length * (cs.map fun c => c.2.length).foldl (· * ·) 1 := by
  induction cs with
  | nil => intro f; simp
  | cons c cs ih =>
    intro f
    rw [List.foldl_cons, ih, kstep_len, List.map_cons, List.foldl_cons]
    have : ∀ (l : List Nat) (a : Nat), l.foldl (· * ·) a = a * l.foldl (· * ·) 1 := by
      intro l
      induction l with
      | nil => intro a; simp
      | cons x l ih => intro a; rw [List.foldl_cons, List.foldl_cons, ih (a * x), ih (1 * x), Nat.mul_assoc, Nat.one_mul]
    rw [this _ (1 * _), Nat.one_mul, Nat.mul_assoc]
theorem kfold_mem {cs : List Col} : ∀ {found : List (List Str)} {n : Nat}, (∀ k ∈ found, k.length = n) → ∀ k ∈ cs.foldl kstep found, k.length = n + cs.length := by
  induction cs with
  | nil => intro f n h k hk; exact h k hk
  | cons c cs ih =>
    intro f n h k hk
    rw [List.foldl_cons] at hk
    have := ih (n := n + 1) (fun k hk => by
      unfold kstep at hk
      obtain ⟨k', hk', hk⟩ := List.mem_flatMap.mp hk
      obtain ⟨z, _, rfl⟩ := List.mem_map.mp hk
      rw [List.length_append, h k' hk']; rfl) k hk
    rw [this, List.length_cons]; omega
theorem kind_len {cs : List Col} {k : List Str} (h : k ∈ kinds cs) : k.length = cs.length := by
  have := kfold_mem (cs := cs) (found := [[]]) (n := 0) (fun k hk => by simp at hk; rw [hk]; rfl) k h
  omega
theorem Few.num {cs : List Col} (h : Few cs) (h2 : cs.length ≤ 2) : (kinds cs).length ≤ 144 := by
  unfold kinds
  match cs, h, h2 with
  | [], _, _ => simp
  | [a], h, _ =>
    have := h.2 a (by simp)
    simp only [List.foldl_cons, List.foldl_nil, kstep_len, List.length_cons, List.length_nil]
    omega
  | [a, b], h, _ =>
    have h1 := h.2 a (by simp)
    have h2 := h.2 b (by simp)
    simp only [List.foldl_cons, List.foldl_nil, kstep_len, List.length_cons, List.length_nil]
    have : (0 + 1) * a.2.length * b.2.length ≤ (0 + 1) * 12 * 12 := Nat.mul_le_mul (Nat.mul_le_mul_left _ h1) h2
    omega
theorem kstep_mk {found : List (List Str)} {c : Col} : (kstep found c).map Tup.mk = (found.map Tup.mk).flatMap fun k => c.2.map fun s => (Tup.mk (k.l ++ [s]) : Tup Str) := by
  unfold kstep
  rw [List.map_flatMap, List.flatMap_map]
  congr 1
  funext k
  rw [List.map_map]; rfl
theorem areCols_few {cs : List Col} (h : areCols cs = true) : Few cs := by
  unfold areCols at h
  simp only [Bool.and_eq_true, decide_eq_true_eq, List.all_map] at h
  exact ⟨by omega, fun c hc => isCol_few (List.all_eq_true.mp h.1.2.1 c hc)⟩
/-- columns as they are handed in: lists or tuples -/
abbrev ColQ := Str × Sq Str
def unQ (c : ColQ) : Col := (c.1, c.2.l)
def toQ (c : Col) : ColQ := (c.1, ⟨c.2⟩)
abbrev ColT := Str × Tup Str
def toT (c : Col) : ColT := (c.1, ⟨c.2⟩)
theorem unQ_toQ (c : Col) : unQ (toQ c) = c := rfl
theorem unQ_map (cs : List Col) : (cs.map toQ).map unQ = cs := by rw [List.map_map]; exact (List.map_congr_left fun c _ => unQ_toQ c).trans (List.map_id cs)
theorem toQ_map (cs : List ColQ) : (cs.map unQ).map toQ = cs := by rw [List.map_map]; exact (List.map_congr_left fun c _ => rfl).trans (List.map_id cs)

/-! ### a menu -/
structure Menu where
  cols : List Col
  deriving DecidableEq
def colsT (m : Menu) : Tup ColT := ⟨m.cols.map toT⟩
def kindsT (m : Menu) : Tup (Tup Str) := ⟨(kinds m.cols).map Tup.mk⟩
instance : Py Menu where
  rep W H v m := ∃ a dx v1 o p vs, v = .ref a ∧ H a = some (.ins (W.C "Menu") dx [("own_columns", v1), ("own_kinds", .ref p)]) ∧ Py.rep W H v1 (colsT m) ∧ H p = some (.frz o (.tup vs)) ∧ o.cls = .type "tuple" ∧ o.dict = none ∧ Paired (Py.rep W H) vs (kindsT m).l
  mono l h := by
    obtain ⟨a, dx, v1, o, p, vs, e, h1, h2, h3, h4, h5, h6⟩ := h
    exact ⟨a, dx, v1, o, p, vs, e, l.ex _ _ h1, Py.mono l h2, l.ex _ _ h3, h4, h5, paired_mono (fun _ _ r => Py.mono l r) h6⟩
instance : PyO Menu where
  cn := "Menu"
  fns := ["own_columns", "own_kinds"]
  ins h := by
    obtain ⟨a, dx, v1, o, p, vs, e, h1, _⟩ := h
    exact ⟨a, dx, _, e, h1, rfl⟩
def placeOf (m : Menu) (d : PyData) : Int := ((((kindsT m).l.map PyD.dat).map fun z => PyData.eqv z d).idxOf true : Nat)
def holds (m : Menu) (d : PyData) : Bool := isTupD d && ((kindsT m).l.map fun k => PyData.eqv d (PyD.dat k)).any id
def menuText (cs : List Col) : Str := Txt.join "; " (cs.map fun c => Txt.join " " (c.1 :: c.2))
def textCols (z : Str) : List Col := (Txt.split z "; ").map fun p => ((Txt.split p " ").headD Str.empty, (Txt.split p " ").drop 1)

/-! ### the promises -/
section
variable (K : PySem.W.Frag) (C : Str → Addr)
abbrev sp_is_name : Sp := F1 K C (fun z : Str => z.length ≤ 1000) isName
abbrev sp_is_worth : Sp := F1 K C (fun z : Str => z.length ≤ 1000) isWorth
abbrev sp_are_different : Sp := F1 K C (fun xs : List Str => xs.length ≤ 1000) areDiff
abbrev sp_is_column : Sp := F1 K C (fun c : ColQ => Fair [unQ c]) fun c => isCol (unQ c)
abbrev sp_are_columns : Sp := F1 K C (fun cs : Sq ColQ => Fair (cs.l.map unQ)) fun cs => areCols (cs.l.map unQ)
abbrev sp_kinds_of : Sp := F1 K C (fun cs : Sq ColQ => Few (cs.l.map unQ)) fun cs => (kinds (cs.l.map unQ)).map Tup.mk
abbrev sp_Menu_columns : Sp := F1 K C (fun _ : Menu => True) colsT
abbrev sp_Menu_kinds : Sp := F1 K C (fun _ : Menu => True) kindsT
abbrev sp_Menu_len : Sp := F1 K C (fun _ : Menu => True) fun m => ((kinds m.cols).length : Int)
abbrev sp_Menu_contains : Sp := F2 K C (fun (m : Menu) (d : PyData) => (kinds m.cols).length ≤ 1000 ∧ d.depth ≤ 64) holds
abbrev sp_Menu_place : Sp := F2 K C (fun (m : Menu) (d : PyData) => (kinds m.cols).length ≤ 1000 ∧ d.depth ≤ 64 ∧ holds m d = true ∧ true ∈ ((kindsT m).l.map PyD.dat).map fun z => PyData.eqv z d) placeOf
abbrev sp_Menu_same : Sp := F2 K C (fun (_ _ : Menu) => True) fun m n => decide (colsT m = colsT n)
abbrev sp_Menu_text : Sp := F1 K C (fun m : Menu => Fair m.cols ∧ m.cols.length ≤ 3 ∧ ∀ c ∈ m.cols, c.2.length ≤ 12) fun m => menuText m.cols
abbrev sp_Menu_init : Sp := I1 K C "Menu" (fun cs : Sq ColQ => Fair (cs.l.map unQ) ∧ areCols (cs.l.map unQ) = true) fun cs => Menu.mk (cs.l.map unQ)
/-- the class, then a text -/
def sp_Menu_read : Sp := fun vs H Q _ => ∃ (W : Wd) (M : List Addr) (z : Str), W.K = K ∧ W.C = C ∧ vs = [.ref (C "Menu"), .str z] ∧ Ok W M H ∧ z.length ≤ 100000 ∧ (∀ p ∈ Txt.split z "; ", p.length ≤ 100000 ∧ Txt.split p " " ≠ []) ∧ Fair (textCols z) ∧ areCols (textCols z) = true ∧
  ∀ r H', Ex W [] H H' → Rep W M H' r (Menu.mk (textCols z)) → Q r H'
end
end RG
namespace RG
open PySem PySem.Spec PyProof.Rows L2 StX RZ
section
variable {α β γ : Type} [Py α] [Py β] [Py γ] {W : Wd} {M M' N : List Addr} {σ σ' : L2.St} {H H1 H2 H' : Hp} {te ta tb tc tl : TE} {tr : TA} {x : α} {y : β} {v : V} {E : XK} {i k l : Nat}
/-- any data == data of a kind -/
theorem ev_eqP {δ : Type} [DecidableEq δ] [PyD δ] {d : PyData} {y : δ} (ha : Ev W M ta σ H d) (hb : Ev W M tb σ H y) (hd : d.depth ≤ 64) : Ev W M (tOp (rEqE W.K) ta tb) σ H (PyData.eqv d (PyD.dat y)) := fun H1 e ok Q q =>
  ha H1 e ok _ fun v H2 e2 r => hb H2 (e.trans e2) (ok.ex e2) _ fun u H3 e3 r3 =>
    ⟨d, _, dp_le cut_le _ _ (r.up e3), r3.dp, hd, q _ H3 (e2.trans e3) rep_bl⟩
/-- data of a kind is data -/
theorem Rep.toD {δ : Type} [DecidableEq δ] [PyD δ] {y : δ} (r : Rep W M H v y) : Rep W M H v (PyD.dat y) := PyD.dp (W := W) r
theorem Ev.toD {δ : Type} [DecidableEq δ] [PyD δ] {y : δ} (h : Ev W M te σ H y) : Ev W M te σ H (PyD.dat y) := h.cv fun _ _ r => r.toD
theorem join_le {z : Str} {xs : List Str} {n : Nat} (h : ∀ x ∈ xs, x.length ≤ n) : (xs.map (·.length)).sum + xs.length * z.length ≤ xs.length * (n + z.length) := by
  induction xs with
  | nil => simp
  | cons x t ih =>
    have h1 := h x (by simp)
    have h2 := ih fun y hy => h y (List.mem_cons_of_mem _ hy)
    simp only [List.map_cons, List.sum_cons, List.length_cons]
    rw [Nat.succ_mul, Nat.succ_mul]
    omega
theorem join_len {z : Str} {xs : List Str} {n : Nat} (h : ∀ x ∈ xs, x.length ≤ n) : (Txt.join z xs).length ≤ xs.length * (n + z.length) := by
  rw [TL.join_eq]
  exact Nat.le_trans (StrLaws.join_length_le z xs) (join_le h)
/-! ### slices -/
theorem cutG_from {ω : Type} {xs : List ω} : cutG xs (some 1) none = xs.drop 1 := by
  unfold cutG HT.sIx
  simp
  cases xs with
  | nil => rfl
  | cons a t => simp
/-- columns, lists or tuples, as they are asked for -/
theorem Rep.colsQ {cs : List Col} (r : Rep W M H v cs) : Rep W M H v (Sq.mk (cs.map toQ)) := (r.lmap fun _ _ r => r.pmap fun _ r => r.toSq).toSq
theorem Rep.colsTQ {cs : List Col} (r : Rep W M H v (Tup.mk (cs.map toT))) : Rep W M H v (Sq.mk (cs.map toQ)) := by
  have h : Rep W M H v (Tup.mk ((cs.map toT).map fun c : ColT => ((c.1, ⟨c.2.l⟩) : ColQ))) := r.tmap (f := fun c : ColT => ((c.1, ⟨c.2.l⟩) : ColQ)) fun _ _ r => r.pmap fun _ r => r.toSqT
  rw [List.map_map] at h
  exact h.toSqT
/-! ### a menu's fields -/
theorem mn_cols {m : Menu} (ha : Ev W M ta σ H m) (c : Cls W.K (W.C "Menu")) (n : NoAttr W.K (W.C "Menu") "own_columns") : Ev W M (tFld W.K ta "own_columns") σ H (colsT m) :=
  ev_fld ha c n fun {v H2} r {a dx fs} e hh => by
    obtain ⟨a', dx', v1, o, p, vs, e', h1, h2, _⟩ := r
    subst e; cases e'
    rw [cut_at h1] at hh; cases hh
    exact ⟨v1, by rw [List.lookup_cons, beq_self_eq_true], h2⟩
theorem mn_kinds {m : Menu} (ha : Ev W M ta σ H m) (c : Cls W.K (W.C "Menu")) (n : NoAttr W.K (W.C "Menu") "own_kinds") : Ev W M (tFld W.K ta "own_kinds") σ H (kindsT m) :=
  ev_fld ha c n fun {v H2} r {a dx fs} e hh => by
    obtain ⟨a', dx', v1, o, p, vs, e', h1, h2, h3, h4, h5, h6⟩ := r
    subst e; cases e'
    rw [cut_at h1] at hh; cases hh
    exact ⟨.ref p, by rw [List.lookup_cons, show (("own_kinds" : Str) == "own_columns") = false by decide +kernel]; rfl, p, vs, rfl, .inr ⟨o, h3⟩, h6⟩
theorem mn_place {m : Menu} {d : PyData} (ha : Ev W M ta σ H m) (hb : Ev W M tb σ H d) (c : Cls W.K (W.C "Menu")) (n : NoAttr W.K (W.C "Menu") "own_kinds") (hm : true ∈ ((kindsT m).l.map PyD.dat).map fun z => PyData.eqv z d) :
    Ev W M (tBMF "tuple" (rIdxT W.K) (tFld W.K ta "own_kinds") (tCons tb tNil)) σ H (placeOf m d) := fun H1 e ok Q q =>
  ha H1 e ok _ fun v H2 e2 r => by
    have hl : (("own_kinds" : Str) == "own_columns") = false := by decide +kernel
    obtain ⟨a, dx, v1, o, p, vs, e', h1, h2, h3, h4, h5, h6⟩ := id r
    refine ⟨a, _, dx, _, .ref p, e', cut_at h1, c, n, by rw [List.lookup_cons, hl]; rfl, ⟨p, o, _, rfl, cut_at h3, h4, h5⟩, hb H2 (e.trans e2) (ok.ex e2) _ fun u H3 e3 r3 => ?_⟩
    obtain ⟨a', dx', v1', o', p', vs', e'', k1, k2, k3, k4, k5, k6⟩ := id (r.up e3)
    rw [e'] at e''; cases e''
    have := e3.keep _ _ (cut_some.mp h1).1 (by simp) (cut_at h1)
    rw [cut_at k1] at this; cases this
    exact ⟨p, o', vs', u, _, d, rfl, rfl, cut_at k3, Rep.dpAll k6, dp_le cut_le _ _ r3, Nat.le_trans (depthAll_le _) (by decide), hm, q _ H3 (e2.trans e3) rep_int⟩
/-! ### what stands in a slot -/
theorem ev_makeL {C : Addr} {sp : Sp} {t : TA} (hs : σ[i]? = some (some (.ref C))) (h : Ev W M (tMake C sp [] E0 t) σ H x) : Ev W M (tMakeL i C sp t) σ H x := fun H1 e ok Q q => ⟨hs, h H1 e ok Q q⟩
/-- self.f = e, in __init__ -/
theorem s_fld {a C dx : Addr} {f : Str} {fs : List (Str × V)} {D : Ends} (ok : Ok W M H) (h : Ev W M te σ H x) (hs : σ[i]? = some (some (.ref a))) (nb : a ≠ W.b) (nbl : a ≠ W.bl) (hm : a ∈ M) (ha : H a = some (.ins C dx fs)) (c : Cls W.K C) (n : NoAttr W.K C f) (hl : fs.length < 1000)
    (q : ∀ v H', Ex W [a] H H' → Ok W M H' → Rep W M H' v x → H' a = some (.ins C dx (putF f v fs)) → D.nx σ H') : sFld W.K (tVar i) te f D σ H :=
  h H Ex.refl ok _ fun v H2 e2 r => by
    have ha2 := e2.keep a _ nb (by simp) ha
    have em : Ex W [a] H2 (upd H2 a (.ins C dx (putF f v fs))) := Ex.mut nb nbl (by simp)
    refine ⟨.ref a, hs, a, C, dx, fs, rfl, ha2, c, n, hl, q v _ (e2.up.trans em) ((ok.ex e2).ex em) (r.ex (em.sub (by simpa using hm))) upd_same⟩
/-- self.f, in __init__ -/
theorem ev_fldR {a C dx : Addr} {f : Str} {fs : List (Str × V)} {u : V} (hs : σ[i]? = some (some (.ref a))) (nb : a ≠ W.b) (ha : H a = some (.ins C dx fs)) (c : Cls W.K C) (n : NoAttr W.K C f) (hf : fs.lookup f = some u) (r : Rep W M H u x) : Ev W M (tFld W.K (tVar i) f) σ H x := fun H1 e ok Q q =>
  ⟨.ref a, hs, a, C, dx, fs, u, rfl, e.keep a _ nb (by simp) ha, c, n, hf, q u H1 Ex.refl (r.up e)⟩
end
end RG
namespace RG
open PySem PySem.Spec PyProof.Rows L2 StX RZ

/-! ### the bag of a law -/
section
variable {W : Wd} {M N : List Addr} {σ σ' : L2.St} {H H1 H2 H' : Hp} {te ta tb tc : TE} {D : Ends} {i m s c i' m' s' c' n k : Int} {a : Addr} {v w : V} {K : PySem.W.Frag}
/-- what the bag's list holds -/
def BS (W : Wd) (H : Hp) (i m s c : Int) : Prop := H W.b = some (.lst [.ref W.bl, .int i, .int m, .int s, .int c]) ∧ 0 ≤ i ∧ 0 ≤ m
theorem bs_of (h : BagAt W H) : ∃ i m s c, BS W H i m s c := let ⟨i, m, s, c, e, _, _, h0, h1⟩ := h; ⟨i, m, s, c, e, h0, h1⟩
theorem val_ix {vs : List V} (ha : Val ta σ H (.ref a)) (hb : Val tb σ H (.int n)) (h : SqL K H a vs) (hx : atI vs n = some v) : Val (tOp (rIxL K) ta tb) σ H v := fun Q q =>
  ha _ (hb _ ⟨a, vs, n, v, rfl, rfl, h, hx, q⟩)
theorem val_I0 {g : Int → Int → Int} (ha : Val ta σ H (.int n)) (hb : Val tb σ H (.int k)) : Val (tOp (rI0 fun i j => .int (g i j)) ta tb) σ H (.int (g n k)) := fun Q q => ha _ (hb _ ⟨n, k, rfl, rfl, q⟩)
theorem val_B0 {g : Int → Int → Bool} (ha : Val ta σ H (.int n)) (hb : Val tb σ H (.int k)) : Val (tOp (rI0 fun i j => .bl (g i j)) ta tb) σ H (.bl (g n k)) := fun Q q => ha _ (hb _ ⟨n, k, rfl, rfl, q⟩)
theorem val_I {C : Int → Int → Prop} {g : Int → Int → Int} (ha : Val ta σ H (.int n)) (hb : Val tb σ H (.int k)) (hc : C n k) : Val (tOp (rI C fun i j => .int (g i j)) ta tb) σ H (.int (g n k)) := fun Q q => ha _ (hb _ ⟨n, k, rfl, rfl, hc, q⟩)
theorem val_abs (ha : Val ta σ H (.int n)) : Val (tCB rAbs (tCons ta tNil)) σ H (.int (if n < 0 then -n else n)) := fun Q q => ha _ ⟨n, rfl, q⟩
theorem val_int (ha : Val ta σ H (.int n)) : Val (tCB rInt (tCons ta tNil)) σ H (.int n) := fun Q q => ha _ (.inl ⟨n, rfl, q⟩)
theorem val_intB {b : Bool} (ha : Val ta σ H (.bl b)) : Val (tCB rInt (tCons ta tNil)) σ H (.int (if b then 1 else 0)) := fun Q q => ha _ (.inr ⟨b, rfl, q⟩)
theorem val_len {vs : List V} (ha : Val ta σ H (.ref a)) (h : SqL K H a vs) : Val (tCB (rLenS K) (tCons ta tNil)) σ H (.int vs.length) := fun Q q => ha _ ⟨a, vs, rfl, .inl h, q⟩
theorem ans_t {b : Bool} (ha : Val ta σ H (.bl b)) : Ans (tTest ta) σ H b := fun Q q => ha _ ⟨b, rfl, q⟩
theorem ans_eqI (ha : Val ta σ H (.int n)) (hb : Val tb σ H (.int k)) : Ans (tTest (tOp rEq ta tb)) σ H (decide (V.int n = V.int k)) := ans_eq ha hb rfl rfl
theorem Ok.bls (h : Ok W M H) : SqL W.K H W.bl (W.ns.map V.int) := let ⟨_, _, _, _, _, _, e, _⟩ := h.bag; SqL.of e
theorem ns_at (h0 : 0 ≤ i) (h1 : i < (W.ns.map V.int).length) : ∃ k : Int, atI (W.ns.map V.int) i = some (.int k) := by
  refine ⟨W.ns.getD i.toNat 0, ?_⟩
  rw [List.length_map] at h1
  have h := atI_getD (xs := W.ns) 0 h0 h1
  unfold atI at h ⊢
  rw [List.length_map]
  cases hx : ixN W.ns.length i with
  | none => rw [hx] at h; cases h
  | some j =>
    rw [hx] at h
    show (W.ns.map V.int)[j]? = _
    rw [List.getElem?_map, show W.ns[j]? = _ from h]; rfl
theorem Bs.set0 (h : Bs W σ 0) {k : Nat} {v : V} (n : 0 ≠ k := by decide) : Bs W (σ.set k (some v)) 0 := h.set n
theorem if01 (b : Bool) : 0 ≤ (if b = true then 1 else 0 : Int) ∧ -(2 ^ 64) < (if b = true then 1 else 0 : Int) ∧ (if b = true then 1 else 0 : Int) < 2 ^ 64 := by cases b <;> decide
/-- bag[j] -/
theorem bs_get (hb : Bs W σ 0) (h : BS W H i m s c) (hx : atI [V.ref W.bl, .int i, .int m, .int s, .int c] n = some v) : Val (tOp (rIxL W.K) (tVar 0) (tC (.int n))) σ H v := val_ix (val_var hb) val_c (SqL.of h.1) hx
/-- bag[j] = e -/
theorem bs_set (ok : Ok W M H) (hb : Bs W σ 0) (h : BS W H i m s c) (he : Val te σ H v) {j : Nat} (hj : ixN 5 n = some j) (hs : [V.ref W.bl, .int i, .int m, .int s, .int c].set j v = [V.ref W.bl, .int i', .int m', .int s', .int c']) (h0 : 0 ≤ i') (h1 : 0 ≤ m')
    (q : ∀ H', Ex W [] H H' → Ok W M H' → BS W H' i' m' s' c' → D.nx σ H') : tAsg te (gSub (tVar 0) (tC (.int n)) rSetL) D σ H := by
  refine he _ ⟨.ref W.b, hb, W.b, _, n, j, rfl, rfl, h.1, hj, ?_⟩
  rw [hs]
  have e : Ex W [] H (upd H W.b (.lst [V.ref W.bl, .int i', .int m', .int s', .int c'])) := by
    refine ⟨fun a o nb _ ha => by rw [upd_ne nb]; exact ha, fun a ha => ?_, fun z => ?_⟩
    · by_cases z : a = W.b
      · rw [z, upd_same]; exact fun z => nomatch z
      · rw [upd_ne z]; exact ha
    · obtain ⟨i0, m0, s0, c0, e1, e2, e3, _⟩ := z
      exact ⟨i', m', s', c', upd_same, e2, by rw [upd_ne e2]; exact e3, h0, h1⟩
  exact q _ e (ok.ex e) ⟨upd_same, h0, h1⟩
end
section
variable {σ : L2.St} {H : Hp} {D : Ends} {b : Bool} {tt : TT} {t1 : TS}
/-- an if without else, whose both ways go on with J -/
theorem if_cut {J : L2.St → Hp → Prop} (h : Ans tt σ H b) (hJ : ∀ σ' H', J σ' H' → D.nx σ' H') (h1 : (∀ σ' H', J σ' H' → D.nx σ' H') → b = true → t1 D σ H) (h2 : b = false → J σ H) : tIfS tt t1 tNext D σ H := h _ (by
  cases b with
  | true => rw [if_pos rfl]; exact h1 hJ rfl
  | false => rw [if_neg Bool.false_ne_true]; exact hJ σ H (h2 rfl))
end
section
variable (K : PySem.W.Frag) (C : Str → Addr)
abbrev sp_law_draw : Sp := B1 K C (fun n : Int => 1 ≤ n ∧ n < 10 ^ 30) fun n (v : Int) => 0 ≤ v ∧ v < n
/-- [list(script), 0, 0, 17, 0]: a new bag, all that was there is kept -/
def sp_law_bag (K : PySem.W.Frag) (_ : Str → Addr) : Sp := fun vs H Q _ => ∃ (a : Addr) (ns : List Int), vs = [.ref a] ∧ SqL K H a (ns.map V.int) ∧ ∀ b l H', H b = none → H l = none → l ≠ b → H' = upd (upd H l (.lst (ns.map V.int))) b (.lst [.ref l, .int 0, .int 0, .int 17, .int 0]) → Q (.ref b) H'
end
end RG
namespace RG
open PySem PySem.Spec PyProof.Rows L2 StX RZ
/-! ### the promises of a law's helpers -/
def spPick (α : Type) [Py α] (K : PySem.W.Frag) (C : Str → Addr) : Sp := B1 K C (fun xs : List α => 1 ≤ xs.length ∧ xs.length ≤ 1000) (fun xs x => x ∈ xs)
def spMixed (α : Type) [Py α] (K : PySem.W.Frag) (C : Str → Addr) : Sp := B1 K C (fun xs : List α => xs.length ≤ 1000) (fun (xs ys : List α) => ys.Perm xs)
theorem atI_mem {ω : Type} {xs : List ω} {n : Int} (h0 : 0 ≤ n) (h1 : n < xs.length) : ∃ x, atI xs n = some x ∧ x ∈ xs := by
  have hj : n.toNat < xs.length := by omega
  refine ⟨xs[n.toNat], ?_, List.getElem_mem hj⟩
  have := atI_getD (xs := xs) xs[n.toNat] h0 h1
  rw [this, List.getD_eq_getElem?_getD, List.getElem?_eq_getElem hj]; rfl
theorem perm_pop {ω : Type} {xs ys zs : List ω} {j : Nat} {y : ω} (h : (ys ++ zs).Perm xs) (hj : zs[j]? = some y) : ((ys ++ [y]) ++ zs.eraseIdx j).Perm xs := by
  refine List.Perm.trans ?_ h
  rw [List.append_assoc]
  refine List.Perm.append_left ys ?_
  have : zs.Perm (y :: zs.eraseIdx j) := by
    clear h
    induction zs generalizing j with
    | nil => simp at hj
    | cons a t ih =>
      cases j with
      | zero => simp at hj; subst hj; simp
      | succ j =>
        simp only [List.getElem?_cons_succ] at hj
        have h2 := ih hj
        rw [List.eraseIdx_cons_succ]
        exact (h2.cons a).trans (List.Perm.swap y a _)
  exact this.symm
end RG
namespace RG
open PySem PySem.Spec PyProof.Rows L2 StX RZ TL

/-! ### names, in plain Lean -/
theorem letters_tl : tl lettersS = (List.range 26).map (97 + ·) := by decide +kernel
theorem letter_at {n : Int} (h0 : 0 ≤ n) (h1 : n < 26) : atI lettersS.cps.toList n = some (97 + n.toNat) := by
  have e : lettersS.cps.toList = (List.range 26).map (97 + ·) := letters_tl
  rw [e]
  have hj : n.toNat < 26 := by omega
  have := atI_getD (xs := (List.range 26).map (97 + ·)) 0 h0 (by rw [List.length_map, List.length_range]; omega)
  rw [this, List.getD_eq_getElem?_getD, List.getElem?_map, List.getElem?_range hj]; rfl
/-- a letter's code -/
def isL (c : Nat) : Prop := 97 ≤ c ∧ c < 123
theorem isL_mem {c : Nat} (h : isL c) : c ∈ tl lettersS := by
  rw [letters_tl]
  exact List.mem_map.mpr ⟨c - 97, List.mem_range.mpr (by unfold isL at h; omega), by unfold isL at h; omega⟩
theorem mem_isL {c : Nat} (h : c ∈ tl lettersS) : isL c := by
  rw [letters_tl] at h
  obtain ⟨k, hk, rfl⟩ := List.mem_map.mp h
  rw [List.mem_range] at hk
  unfold isL
  omega
theorem isName_of {z : Str} (h1 : 1 ≤ (tl z).length) (h8 : (tl z).length ≤ 8) (h : ∀ c ∈ tl z, isL c) : isName z = true := by
  unfold isName
  rw [len_tl]
  simp only [Bool.and_eq_true, decide_eq_true_eq, List.all_map, List.all_eq_true, Function.comp, id]
  refine ⟨⟨by omega, by omega⟩, fun s hs => ?_⟩
  obtain ⟨c, rfl, hc⟩ := signs_one hs
  unfold inS
  exact decide_eq_true (isL_mem (h c hc))
theorem isName_is {z : Str} (h : isName z = true) : 1 ≤ (tl z).length ∧ (tl z).length ≤ 8 ∧ ∀ c ∈ tl z, isL c := by
  unfold isName at h
  rw [len_tl] at h
  simp only [Bool.and_eq_true, decide_eq_true_eq, List.all_map, List.all_eq_true, Function.comp, id] at h
  refine ⟨by omega, by omega, fun c hc => ?_⟩
  have := h.2 ⟨#[c]⟩ (by unfold signs; exact List.mem_map_of_mem hc)
  unfold inS at this
  exact mem_isL (of_decide_eq_true this)
theorem cut_len {z : Str} {lo hi : Option Int} : (cutS z lo hi).length ≤ z.length := by
  unfold cutS
  rw [len_tl, tl_mk, len_tl, List.length_take, List.length_drop]
  show min _ ((tl z).length - _) ≤ _
  omega
/-- the k-th name -/
def nm (stem : Str) (wh sh lg : Int) (k : Int) : Str := cutS stem none (some wh) ++ (⟨#[97 + ((sh + 7 * k) % 26).toNat]⟩ : Str) ++ cutS stem (some wh) none ++ (if k % 3 = lg then (⟨#[97 + sh.toNat]⟩ : Str) else Str.empty)
theorem tl_cutL {z : Str} {w : Int} (h0 : 0 ≤ w) (h1 : w ≤ (tl z).length) : tl (cutS z none (some w)) = (tl z).take w.toNat := by
  unfold cutS HT.sIx
  rw [tl_mk, len_tl]
  simp only [if_neg (show ¬ w < 0 by omega), List.drop_zero, Nat.sub_zero]
  rw [Nat.min_eq_left (by omega)]
theorem tl_cutR {z : Str} {w : Int} (h0 : 0 ≤ w) (h1 : w ≤ (tl z).length) : tl (cutS z (some w) none) = (tl z).drop w.toNat := by
  unfold cutS HT.sIx
  rw [tl_mk, len_tl]
  simp only [if_neg (show ¬ w < 0 by omega)]
  rw [Nat.min_eq_left (by omega), List.take_of_length_le (by rw [List.length_drop]; exact Nat.le_refl _)]
/-- what the draws of a law's names are -/
structure NmOk (stem : Str) (size wh sh lg : Int) : Prop where
  len : ((tl stem).length : Int) = size
  ls : ∀ c ∈ tl stem, isL c
  s6 : size ≤ 6
  w0 : 0 ≤ wh
  w1 : wh ≤ size
  s0 : 0 ≤ sh
  s1 : sh < 26
section
variable {stem : Str} {size wh sh lg k : Int}
theorem NmOk.tle (h : NmOk stem size wh sh lg) : TL.tl (nm stem wh sh lg k) = (TL.tl stem).take wh.toNat ++ [97 + ((sh + 7 * k) % 26).toNat] ++ (TL.tl stem).drop wh.toNat ++ (if k % 3 = lg then [97 + sh.toNat] else []) := by
  obtain ⟨h1, h2, h3, h4, h5, h6, h7⟩ := h
  unfold nm
  rw [tl_append, tl_append, tl_append, tl_cutL h4 (by omega), tl_cutR h4 (by omega)]
  split <;> rfl
theorem NmOk.tlen (h : NmOk stem size wh sh lg) : ((TL.tl (nm stem wh sh lg k)).length : Int) = size + 1 + (if k % 3 = lg then 1 else 0) := by
  have h1 := h.len
  have h2 := h.w1
  have h3 := h.w0
  rw [h.tle, List.length_append, List.length_append, List.length_append, List.length_take, List.length_drop, List.length_singleton]
  generalize (TL.tl stem).length = n at *
  split
  · rw [List.length_singleton]; omega
  · rw [List.length_nil]; omega
theorem NmOk.ls' (h : NmOk stem size wh sh lg) : ∀ c ∈ TL.tl (nm stem wh sh lg k), isL c := by
  intro c hc
  rw [h.tle] at hc
  have h6 := h.s0
  have h7 := h.s1
  simp only [List.mem_append, List.mem_singleton] at hc
  rcases hc with ((hc | hc) | hc) | hc
  · exact h.ls c (List.mem_of_mem_take hc)
  · unfold isL; omega
  · exact h.ls c (List.mem_of_mem_drop hc)
  · split at hc
    · have : c = 97 + sh.toNat := by simpa using hc
      unfold isL; omega
    · cases hc
theorem NmOk.name (h : NmOk stem size wh sh lg) : isName (nm stem wh sh lg k) = true := by
  have h1 := h.tlen (k := k)
  have h2 := h.s6
  have h3 := h.len
  refine isName_of ?_ ?_ h.ls'
  · split at h1 <;> omega
  · split at h1 <;> omega
theorem NmOk.ne (h : NmOk stem size wh sh lg) {i j : Nat} (hij : i < j) (hj : j < 26) : nm stem wh sh lg (i : Int) ≠ nm stem wh sh lg (j : Int) := by
  intro e
  have e := congrArg TL.tl e
  rw [h.tle, h.tle] at e
  have hl : ((TL.tl stem).take wh.toNat).length = wh.toNat := by
    rw [List.length_take]
    have h1 := h.len
    have h2 := h.w1
    have h3 := h.w0
    omega
  have at_ : ∀ (c : Nat) (r q : List Nat), ((TL.tl stem).take wh.toNat ++ [c] ++ r ++ q)[wh.toNat]? = some c := fun c r q => by
    rw [List.append_assoc, List.append_assoc, List.getElem?_append_right (by rw [hl]; exact Nat.le_refl _), hl, Nat.sub_self]; rfl
  have e2 := congrArg (fun l => l[wh.toNat]?) e
  simp only [at_, Option.some.injEq] at e2
  have h6 := h.s0
  omega
end
theorem nodup_set {ω : Type} : ∀ {L : List ω} {i : Nat} {x : ω}, L.Nodup → x ∉ L → (L.set i x).Nodup
  | [], _, _, _, _ => List.nodup_nil
  | a :: t, 0, x, h, hx => by
    rw [List.set_cons_zero]
    exact List.nodup_cons.mpr ⟨fun z => hx (List.mem_cons_of_mem _ z), (List.nodup_cons.mp h).2⟩
  | a :: t, i + 1, x, h, hx => by
    rw [List.set_cons_succ]
    refine List.nodup_cons.mpr ⟨fun z => ?_, nodup_set (List.nodup_cons.mp h).2 fun z => hx (List.mem_cons_of_mem _ z)⟩
    rcases List.mem_or_eq_of_mem_set z with z | z
    · exact (List.nodup_cons.mp h).1 z
    · exact hx (by rw [z]; exact List.mem_cons_self)
/-- the names of a law -/
def NamesOk (count : Int) (words L : List Str) : Prop := (L.length : Int) = count ∧ L.Nodup ∧ ∀ z ∈ L, isName z = true ∨ z ∈ words
def nms (stem : Str) (wh sh lg : Int) (n : Nat) : List Str := (List.range n).map fun k : Nat => nm stem wh sh lg (k : Int)
theorem nms_succ {stem : Str} {wh sh lg : Int} {n : Nat} : nms stem wh sh lg (n + 1) = nms stem wh sh lg n ++ [nm stem wh sh lg (n : Int)] := by
  unfold nms
  rw [List.range_succ, List.map_append]; rfl
theorem NmOk.all {stem : Str} {size wh sh lg : Int} (h : NmOk stem size wh sh lg) {n : Nat} (hn : n ≤ 26) (words : List Str) : NamesOk n words (nms stem wh sh lg n) := by
  refine ⟨by unfold nms; simp, ?_, fun z hz => .inl ?_⟩
  · unfold nms
    rw [List.Nodup, List.pairwise_map]
    exact List.Pairwise.imp_of_mem (fun {a b} ha hb hab => h.ne hab (by rw [List.mem_range] at hb; omega)) List.pairwise_lt_range
  · obtain ⟨k, _, rfl⟩ := List.mem_map.mp hz
    exact h.name
/-- the second name made of the first -/
theorem NmOk.second {stem : Str} {size wh sh lg : Int} (h : NmOk stem size wh sh lg) {n : Nat} (hn : n ≤ 26) (h4 : size < 4) (h3 : lg = 3) (words : List Str) {c : Nat} (hc : isL c) : NamesOk n words ((nms stem wh sh lg n).set 1 (nm stem wh sh lg 0 ++ (⟨#[c]⟩ : Str))) := by
  obtain ⟨q1, q2, q3⟩ := h.all hn words
  have hno : ∀ k : Int, ¬ k % 3 = lg := fun k => by omega
  have hl : ∀ k : Int, ((tl (nm stem wh sh lg k)).length : Int) = size + 1 := fun k => by rw [h.tlen, if_neg (hno k)]; omega
  have hx : tl (nm stem wh sh lg 0 ++ (⟨#[c]⟩ : Str)) = tl (nm stem wh sh lg 0) ++ [c] := by rw [tl_append]
  refine ⟨by rw [List.length_set]; exact q1, nodup_set q2 fun hm => ?_, fun z hz => ?_⟩
  · obtain ⟨k, _, e⟩ := List.mem_map.mp hm
    have e2 := congrArg (fun z => (tl z).length) e
    simp only [hx, List.length_append, List.length_singleton] at e2
    have h1 := hl k
    have h2 := hl 0
    omega
  · rcases List.mem_or_eq_of_mem_set hz with hz | hz
    · exact q3 z hz
    · refine .inl ?_
      rw [hz]
      have h1 := hl 0
      have h2 := h.len
      refine isName_of (by rw [hx]; simp) (by rw [hx, List.length_append, List.length_singleton]; omega) fun d hd => ?_
      rw [hx] at hd
      rcases List.mem_append.mp hd with hd | hd
      · exact h.ls' d hd
      · rw [List.mem_singleton.mp hd]; exact hc
theorem NamesOk.word {n : Int} {words L : List Str} (h : NamesOk n words L) {i : Nat} {x : Str} (hx : x ∈ words) (hn : x ∉ L) : NamesOk n words (L.set i x) := by
  refine ⟨by rw [List.length_set]; exact h.1, nodup_set h.2.1 hn, fun z hz => ?_⟩
  rcases List.mem_or_eq_of_mem_set hz with hz | hz
  · exact h.2.2 z hz
  · exact .inr (hz ▸ hx)
abbrev sp_law_names (K : PySem.W.Frag) (C : Str → Addr) : Sp := B2 K C (fun (count : Int) (words : List Str) => 1 ≤ count ∧ count ≤ 26 ∧ 1 ≤ words.length ∧ words.length ≤ 1000 ∧ ∀ z ∈ words, z.length ≤ 1000) NamesOk
/-- the joined signs -/
theorem stem_tl {parts : List Str} (h : ∀ p ∈ parts, ∃ c, p = ⟨#[c]⟩ ∧ isL c) : (tl (Txt.join "" parts)).length = parts.length ∧ ∀ c ∈ tl (Txt.join "" parts), isL c := by
  have e : ∀ l : List (List Nat), joinL (tl ("" : Str)) l = l.flatten := by
    intro l
    have e0 : tl ("" : Str) = [] := by decide +kernel
    rw [e0]
    induction l with
    | nil => rfl
    | cons p t ih =>
      cases t with
      | nil => show p = _; simp
      | cons q r => show p ++ ([] ++ joinL [] (q :: r)) = _; rw [ih]; simp
  rw [join_eq, tl_join, e]
  induction parts with
  | nil => simp
  | cons p t ih =>
    obtain ⟨c, rfl, hc⟩ := h p (by simp)
    obtain ⟨i1, i2⟩ := ih fun q hq => h q (List.mem_cons_of_mem _ hq)
    rw [List.map_cons, List.flatten_cons]
    refine ⟨by rw [List.length_append, i1, List.length_cons, Nat.add_comm]; rfl, fun d hd => ?_⟩
    rcases List.mem_append.mp hd with hd | hd
    · have : d = c := by simpa using hd
      rw [this]; exact hc
    · exact i2 d hd
end RG
namespace RG
open PySem PySem.Spec PyProof.Rows L2 StX RZ TL

/-! ### the plains of a law, in plain Lean -/
def prod (cs : List Col) : Int := (cs.map fun c => (c.2.length : Int)).foldl (· * ·) 1
structure ColOk (c : Col) : Prop where
  name : isName c.1 = true
  l1 : 1 ≤ c.2.length
  l12 : c.2.length ≤ 12
  nd : c.2.Nodup
  ws : ∀ z ∈ c.2, isWorth z = true ∧ z ≠ ("n0" : Str)
structure Plain (cs : List Col) : Prop where
  l1 : 1 ≤ cs.length
  l3 : cs.length ≤ 3
  nd : (cs.map Prod.fst).Nodup
  col : ∀ c ∈ cs, ColOk c
theorem isWorth_len {z : Str} (h : isWorth z = true) : z.length ≤ 8 ∧ 1 ≤ z.length := by
  unfold isWorth at h
  simp only [Bool.and_eq_true, decide_eq_true_eq] at h
  omega
theorem isName_worth {z : Str} (h : isName z = true) : isWorth z = true := by
  unfold isName at h
  unfold isWorth
  simp only [Bool.and_eq_true, List.all_map, List.all_eq_true, Function.comp, id] at h ⊢
  exact ⟨h.1, fun s hs => by rw [h.2 s hs]; rfl⟩
theorem ColOk.fair {c : Col} (h : ColOk c) : c.1.length ≤ 1000 ∧ c.2.length ≤ 1000 ∧ ∀ z ∈ c.2, z.length ≤ 1000 :=
  ⟨by have := (isName_is h.name).2.1; rw [len_tl]; omega, by have := h.l12; omega, fun z hz => by have := isWorth_len (h.ws z hz).1; omega⟩
theorem Plain.fair {cs : List Col} (h : Plain cs) : Fair cs := ⟨by have := h.l3; omega, fun c hc => (h.col c hc).fair⟩
theorem Plain.few {cs : List Col} (h : Plain cs) : Few cs := ⟨h.l3, fun c hc => (h.col c hc).l12⟩
theorem fold_int : ∀ (l : List Nat) (a : Nat), ((l.foldl (· * ·) a : Nat) : Int) = (l.map fun n : Nat => (n : Int)).foldl (· * ·) (a : Int)
  | [], _ => rfl
  | x :: t, a => by rw [List.foldl_cons, List.map_cons, List.foldl_cons, fold_int t, Int.natCast_mul]
theorem kinds_prod (cs : List Col) : ((kinds cs).length : Int) = prod cs := by
  unfold kinds prod
  rw [kfold_len, List.length_singleton, Nat.one_mul, fold_int, List.map_map]; rfl
theorem areDiff_of {xs : List Str} (h : xs.Nodup) : areDiff xs = true := by
  unfold areDiff
  rw [List.all_map, List.all_eq_true]
  intro x hx
  show decide ((xs.count x : Int) = 1) = true
  have h1 := List.nodup_iff_count.mp h x
  have h2 := List.count_pos_iff.mpr hx
  exact decide_eq_true (by omega)
theorem areDiff_is {xs : List Str} (h : areDiff xs = true) : xs.Nodup := by
  unfold areDiff at h
  rw [List.all_map, List.all_eq_true] at h
  rw [List.nodup_iff_count]
  intro x
  by_cases hx : x ∈ xs
  · have := of_decide_eq_true (h x hx)
    omega
  · rw [List.count_eq_zero_of_not_mem hx]; omega
theorem ColOk.is {c : Col} (h : ColOk c) : isCol c = true := by
  unfold isCol
  have h1 := h.l1
  have h12 := h.l12
  rw [h.name, areDiff_of h.nd, decide_eq_true (show (1 : Int) ≤ c.2.length by omega), decide_eq_true (show (c.2.length : Int) ≤ 12 by omega)]
  simp only [Bool.and_true, Bool.true_and, List.all_map, List.all_eq_true]
  exact fun z hz => (h.ws z hz).1
theorem Plain.are {cs : List Col} (h : Plain cs) (hp : prod cs ≤ 12) : areCols cs = true := by
  unfold areCols
  have h1 := h.l1
  have h3 := h.l3
  rw [areDiff_of h.nd, kinds_prod, decide_eq_true hp, decide_eq_true (show (1 : Int) ≤ cs.length by omega), decide_eq_true (show (cs.length : Int) ≤ 3 by omega)]
  simp only [Bool.and_true, Bool.true_and, List.all_map, List.all_eq_true]
  exact fun c hc => (h.col c hc).is
/-! ### the read-back -/
theorem sign_ok {z : Str} (h : isWorth z = true) : ∀ c ∈ tl z, c ≠ 32 ∧ c ≠ 59 := by
  intro c hc
  unfold isWorth at h
  simp only [Bool.and_eq_true, List.all_map, List.all_eq_true, Function.comp, id] at h
  have := h.2 ⟨#[c]⟩ (by unfold signs; exact List.mem_map_of_mem hc)
  unfold inS at this
  rw [Bool.or_eq_true] at this
  have e1 : ∀ d ∈ lettersS.cps.toList, d ≠ 32 ∧ d ≠ 59 := by decide +kernel
  have e2 : ∀ d ∈ digitsS.cps.toList, d ≠ 32 ∧ d ≠ 59 := by decide +kernel
  rcases this with h | h
  · exact e1 c (of_decide_eq_true h)
  · exact e2 c (of_decide_eq_true h)
theorem ColOk.parts {c : Col} (h : ColOk c) : ∀ z ∈ c.1 :: c.2, isWorth z = true := fun z hz => by
  rcases List.mem_cons.mp hz with rfl | hz
  · exact isName_worth h.name
  · exact (h.ws z hz).1
theorem ColOk.split {c : Col} (h : ColOk c) : Txt.split (Txt.join " " (c.1 :: c.2)) " " = c.1 :: c.2 :=
  split_join (s := 32) (S := []) (by decide +kernel) (by decide +kernel) (by simp) fun p hp hm => (sign_ok (h.parts p hp) _ hm).1 rfl
theorem join_mem {y : Str} {ps : List Str} {c : Nat} (h : c ∈ tl (Txt.join y ps)) : c ∈ tl y ∨ ∃ p ∈ ps, c ∈ tl p := by
  rw [join_eq] at h
  induction ps with
  | nil => cases (show c ∈ ([] : List Nat) from h)
  | cons p t ih =>
    cases t with
    | nil => exact .inr ⟨p, by simp, h⟩
    | cons q r =>
      have e : tl (Str.join y (p :: q :: r)) = tl p ++ tl y ++ tl (Str.join y (q :: r)) := by
        show tl (p ++ y ++ Str.join y (q :: r)) = _
        rw [tl_append, tl_append]
      rw [e] at h
      simp only [List.mem_append] at h
      rcases h with (h | h) | h
      · exact .inr ⟨p, by simp, h⟩
      · exact .inl h
      · rcases ih h with h | ⟨z, hz, h⟩
        · exact .inl h
        · exact .inr ⟨z, List.mem_cons_of_mem _ hz, h⟩
theorem Plain.split {cs : List Col} (h : Plain cs) : Txt.split (menuText cs) "; " = cs.map fun c => Txt.join " " (c.1 :: c.2) := by
  unfold menuText
  refine split_join (s := 59) (S := [32]) (by decide +kernel) (by decide +kernel) (by have := h.l1; cases cs with
    | nil => simp at this
    | cons _ _ => simp) fun p hp hm => ?_
  obtain ⟨c, hc, rfl⟩ := List.mem_map.mp hp
  rcases join_mem hm with hm | ⟨z, hz, hm⟩
  · exact absurd hm (by decide +kernel)
  · exact (sign_ok ((h.col c hc).parts z hz) _ hm).2 rfl
theorem Plain.read {cs : List Col} (h : Plain cs) : textCols (menuText cs) = cs := by
  unfold textCols
  rw [h.split, List.map_map]
  refine (List.map_congr_left fun c hc => ?_).trans (List.map_id cs)
  show ((Txt.split (Txt.join " " (c.1 :: c.2)) " ").headD Str.empty, (Txt.split (Txt.join " " (c.1 :: c.2)) " ").drop 1) = c
  rw [(h.col c hc).split]; rfl
theorem ColOk.plen {c : Col} (h : ColOk c) : (Txt.join " " (c.1 :: c.2)).length ≤ 13013 := by
  have h1 := join_len (z := " ") (xs := c.1 :: c.2) (n := 1000) fun z hz => by have := isWorth_len (h.parts z hz); omega
  have h2 := h.l12
  have e : (" " : Str).length = 1 := by decide +kernel
  rw [e, List.length_cons] at h1
  omega
theorem Plain.tlen {cs : List Col} (h : Plain cs) : (menuText cs).length ≤ 100000 := by
  unfold menuText
  have h1 := join_len (z := "; ") (xs := cs.map fun c => Txt.join " " (c.1 :: c.2)) (n := 13013) fun z hz => by
    obtain ⟨c, hc, rfl⟩ := List.mem_map.mp hz
    exact (h.col c hc).plen
  have h2 := h.l3
  have e : ("; " : Str).length = 2 := by decide +kernel
  rw [e, List.length_map] at h1
  omega
/-! ### the promises -/
section
variable (K : PySem.W.Frag) (C : Str → Addr)
abbrev sp_law_product : Sp := F1 K C (fun cs : List Col => ∀ c ∈ cs, c.2.length ≤ 1000) prod
abbrev sp_law_menu : Sp := B1 K C (fun most : Int => 1 ≤ most) fun most (cs : List Col) => Plain cs ∧ prod cs ≤ most
abbrev sp_law_kinds : Sp := F1 K C (fun cs : List Col => Few cs) fun cs => (kinds cs).map Tup.mk
abbrev sp_law_menu_text : Sp := F1 K C (fun cs : List Col => Fair cs ∧ cs.length ≤ 3 ∧ ∀ c ∈ cs, c.2.length ≤ 12) menuText
abbrev sp_law_made_menu : Sp := F1 K C (fun cs : List Col => Plain cs ∧ prod cs ≤ 12) Menu.mk
end
end RG
namespace RG
open PySem PySem.Spec PyProof.Rows L2 StX RZ TL

def shapesL : List (List Int) := [[1], [2], [3], [5], [2, 2], [3, 2], [2, 3], [2, 2, 2], [1, 2], [2, 1, 2], [3, 2, 2], [12], [4, 3], [6, 2]]
theorem shapes_ok : ∀ s ∈ shapesL, 1 ≤ s.length ∧ s.length ≤ 3 ∧ ∀ n ∈ s, 1 ≤ n ∧ n ≤ 12 := by decide
/-- two of the words are numbers -/
def wordF (x : Int × Str) : Str := if x.1 % 5 = 4 then Str.ofString (toString x.1) else x.2
def WordsOk (L : List Str) : Prop := L.length = 12 ∧ L.Nodup ∧ ∀ z ∈ L, isWorth z = true ∧ z ≠ ("n0" : Str)
theorem words_eq {L : List Str} (h : L.length = 12) : (enum L).map wordF = (L.set 4 "4").set 9 "9" := by
  match L, h with
  | [a0, a1, a2, a3, a4, a5, a6, a7, a8, a9, a10, a11], _ =>
    have e4 : Str.ofString (toString (4 : Int)) = ("4" : Str) := by decide +kernel
    have e9 : Str.ofString (toString (9 : Int)) = ("9" : Str) := by decide +kernel
    have q : enum [a0, a1, a2, a3, a4, a5, a6, a7, a8, a9, a10, a11] = [(0, a0), (1, a1), (2, a2), (3, a3), (4, a4), (5, a5), (6, a6), (7, a7), (8, a8), (9, a9), (10, a10), (11, a11)] := rfl
    rw [q]
    simp only [List.map_cons, List.map_nil, wordF]
    rw [if_pos (show (4 : Int) % 5 = 4 by decide), if_pos (show (9 : Int) % 5 = 4 by decide), e4, e9]
    rfl
theorem words_ok {L : List Str} (h : NamesOk 12 ["0", "all", "3a"] L) : WordsOk ((enum L).map wordF) := by
  obtain ⟨h1, h2, h3⟩ := h
  have hl : L.length = 12 := by omega
  rw [words_eq hl]
  have k4 : isName "4" = false := by decide +kernel
  have k9 : isName "9" = false := by decide +kernel
  have kn : isName "n0" = false := by decide +kernel
  have n4 : ("4" : Str) ∉ L := fun hm => (h3 _ hm).elim (fun h => by rw [k4] at h; cases h) (fun h => absurd h (by decide +kernel))
  have n9 : ("9" : Str) ∉ L := fun hm => (h3 _ hm).elim (fun h => by rw [k9] at h; cases h) (fun h => absurd h (by decide +kernel))
  have ok : ∀ z ∈ L, isWorth z = true ∧ z ≠ ("n0" : Str) := fun z hz => by
    rcases h3 z hz with h | h
    · exact ⟨isName_worth h, fun e => by rw [e, kn] at h; cases h⟩
    · have : ∀ z ∈ (["0", "all", "3a"] : List Str), isWorth z = true ∧ z ≠ ("n0" : Str) := by decide +kernel
      exact this z h
  refine ⟨by rw [List.length_set, List.length_set, hl], nodup_set (nodup_set h2 n4) fun hm => ?_, fun z hz => ?_⟩
  · rcases List.mem_or_eq_of_mem_set hm with hm | hm
    · exact n9 hm
    · exact absurd hm (by decide +kernel)
  · rcases List.mem_or_eq_of_mem_set hz with hz | hz
    · rcases List.mem_or_eq_of_mem_set hz with hz | hz
      · exact ok z hz
      · rw [hz]; decide +kernel
    · rw [hz]; decide +kernel
/-- a run of the words -/
def runOf (L : List Str) (b n : Int) : List Str := (rng n).map fun j => L.getD ((b + j) % 12).toNat Str.empty
theorem run_at {L : List Str} (hl : L.length = 12) (b j : Int) : atI L ((b + j) % 12) = some (L.getD ((b + j) % 12).toNat Str.empty) := atI_getD Str.empty (by omega) (by omega)
theorem run_len {L : List Str} {b n : Int} : (runOf L b n).length = n.toNat := by unfold runOf; rw [List.length_map, rng_len]
theorem run_mem {L : List Str} (hl : L.length = 12) {b n : Int} : ∀ z ∈ runOf L b n, z ∈ L := by
  intro z hz
  obtain ⟨j, _, rfl⟩ := List.mem_map.mp hz
  have h := run_at hl b j
  obtain ⟨x, hx, hm⟩ := atI_mem (xs := L) (n := (b + j) % 12) (by omega) (by omega)
  rw [h] at hx
  cases hx
  exact hm
theorem run_nd {L : List Str} (h : WordsOk L) {b n : Int} (hn : n ≤ 12) : (runOf L b n).Nodup := by
  obtain ⟨hl, hd, _⟩ := h
  unfold runOf rng
  rw [List.map_map, List.Nodup, List.pairwise_map]
  refine List.Pairwise.imp_of_mem (fun {i j} hi hj hij e => ?_) List.pairwise_lt_range
  rw [List.mem_range] at hj
  have h1 : ((b + (i : Int)) % 12).toNat < L.length := by omega
  have h2 : ((b + (j : Int)) % 12).toNat < L.length := by omega
  have e2 : L[((b + (i : Int)) % 12).toNat] = L[((b + (j : Int)) % 12).toNat] := by
    have e' : L.getD ((b + (i : Int)) % 12).toNat Str.empty = L.getD ((b + (j : Int)) % 12).toNat Str.empty := e
    rw [List.getD_eq_getElem?_getD, List.getD_eq_getElem?_getD, List.getElem?_eq_getElem h1, List.getElem?_eq_getElem h2] at e'
    exact e'
  have := (List.getElem_inj hd).mp e2
  omega
theorem run_col {L : List Str} (h : WordsOk L) {b n : Int} (h1 : 1 ≤ n) (hn : n ≤ 12) {nmz : Str} (hN : isName nmz = true) {ws : List Str} (hp : ws.Perm (runOf L b n)) : ColOk (nmz, ws) :=
  ⟨hN, by show 1 ≤ ws.length; rw [hp.length_eq, run_len]; omega, by show ws.length ≤ 12; rw [hp.length_eq, run_len]; omega, hp.nodup_iff.mpr (run_nd h hn), fun z hz => h.2.2 z (run_mem h.1 z (hp.mem_iff.mp hz))⟩
/-- each column a worth shorter -/
def short (c : Col) : Col := (c.1, c.2.take (if ((c.2.length : Int) - 1) > 1 then (c.2.length : Int) - 1 else 1).toNat)
theorem cutG_to {ω : Type} {xs : List ω} {k : Int} (h : 0 ≤ k) : cutG xs none (some k) = xs.take k.toNat := by
  unfold cutG HT.sIx
  simp only [if_neg (show ¬ k < 0 by omega), List.drop_zero, Nat.sub_zero]
  rw [← List.take_eq_take_min]
theorem short_len (c : Col) : (short c).2.length = min (if ((c.2.length : Int) - 1) > 1 then (c.2.length : Int) - 1 else 1).toNat c.2.length := by unfold short; rw [List.length_take]
theorem ColOk.short {c : Col} (h : ColOk c) : ColOk (short c) := by
  have h1 := h.l1
  have h12 := h.l12
  have e := short_len c
  refine ⟨h.name, ?_, ?_, List.Nodup.sublist (List.take_sublist _ _) h.nd, fun z hz => h.ws z (List.mem_of_mem_take hz)⟩
  · rw [e]; split <;> omega
  · rw [e]; split <;> omega
theorem Plain.short {cs : List Col} (h : Plain cs) : Plain (cs.map short) :=
  ⟨by rw [List.length_map]; exact h.l1, by rw [List.length_map]; exact h.l3, by rw [List.map_map]; exact h.nd, fun c hc => by obtain ⟨d, hd, rfl⟩ := List.mem_map.mp hc; exact (h.col d hd).short⟩
def msr (cs : List Col) : Nat := (cs.map fun c => c.2.length).sum
theorem prod_cons {c : Col} {cs : List Col} : prod (c :: cs) = c.2.length * prod cs := by
  have : ∀ (l : List Int) (a : Int), l.foldl (· * ·) a = a * l.foldl (· * ·) 1 := by
    intro l
    induction l with
    | nil => intro a; simp
    | cons x l ih => intro a; rw [List.foldl_cons, List.foldl_cons, ih (a * x), ih (1 * x), Int.mul_assoc, Int.one_mul]
  unfold prod
  rw [List.map_cons, List.foldl_cons, this, Int.one_mul]
theorem short_msr : ∀ {cs : List Col}, (∀ c ∈ cs, 1 ≤ c.2.length) → msr (cs.map short) ≤ msr cs ∧ (1 < prod cs → msr (cs.map short) < msr cs)
  | [], _ => ⟨Nat.le_refl _, fun h => absurd h (by decide)⟩
  | c :: cs, h => by
    have h1 := h c (by simp)
    have e := short_len c
    obtain ⟨i1, i2⟩ := short_msr (cs := cs) fun d hd => h d (List.mem_cons_of_mem _ hd)
    have e1 : msr ((c :: cs).map short) = (short c).2.length + msr (cs.map short) := rfl
    have e2 : msr (c :: cs) = c.2.length + msr cs := rfl
    have hs : (short c).2.length ≤ c.2.length := by rw [e]; omega
    refine ⟨by rw [e1, e2]; omega, fun hp => ?_⟩
    rw [e1, e2]
    by_cases hc : c.2.length = 1
    · rw [prod_cons, hc] at hp
      have := i2 (by simpa using hp)
      omega
    · have : (short c).2.length < c.2.length := by rw [e]; split <;> omega
      omega
end RG
namespace RG
open PySem PySem.Spec PyProof.Rows L2 StX RZ TL

/-! ### kinds -/
theorem kstep_nd {c : Col} (hc : c.2.Nodup) : ∀ {found : List (List Str)}, found.Nodup → (kstep found c).Nodup
  | [], _ => List.nodup_nil
  | k :: t, h => by
    have ih := kstep_nd hc (List.nodup_cons.mp h).2
    unfold kstep at ih ⊢
    rw [List.flatMap_cons, List.nodup_append]
    refine ⟨?_, ih, fun a ha b hb e => ?_⟩
    · rw [List.Nodup, List.pairwise_map]
      exact List.Pairwise.imp (fun {x y} hxy e => hxy (by have := (List.append_inj' e rfl).2; simpa using this)) hc
    · obtain ⟨z, _, rfl⟩ := List.mem_map.mp ha
      obtain ⟨k', hk', hb⟩ := List.mem_flatMap.mp hb
      obtain ⟨z', _, rfl⟩ := List.mem_map.mp hb
      have := (List.append_inj' e rfl).1
      exact (List.nodup_cons.mp h).1 (this ▸ hk')
theorem kinds_nd {cs : List Col} (h : ∀ c ∈ cs, c.2.Nodup) : (kinds cs).Nodup := by
  unfold kinds
  have : ∀ (cs : List Col) (f : List (List Str)), (∀ c ∈ cs, c.2.Nodup) → f.Nodup → (cs.foldl kstep f).Nodup := by
    intro cs
    induction cs with
    | nil => intro f _ hf; exact hf
    | cons c cs ih => intro f h hf; exact ih _ (fun d hd => h d (List.mem_cons_of_mem _ hd)) (kstep_nd (h c (by simp)) hf)
  exact this cs _ h (by simp)
theorem kind_worth {cs : List Col} {k : List Str} (h : k ∈ kinds cs) : ∀ z ∈ k, ∃ c ∈ cs, z ∈ c.2 := by
  have : ∀ (cs : List Col) (f : List (List Str)) (P : Str → Prop), (∀ k ∈ f, ∀ z ∈ k, P z) → (∀ c ∈ cs, ∀ z ∈ c.2, P z) → ∀ k ∈ cs.foldl kstep f, ∀ z ∈ k, P z := by
    intro cs
    induction cs with
    | nil => intro f P hf _; exact hf
    | cons c cs ih =>
      intro f P hf hc
      refine ih _ P (fun k hk z hz => ?_) fun d hd => hc d (List.mem_cons_of_mem _ hd)
      obtain ⟨k', hk', hk⟩ := List.mem_flatMap.mp hk
      obtain ⟨z', hz', rfl⟩ := List.mem_map.mp hk
      rcases List.mem_append.mp hz with hz | hz
      · exact hf k' hk' z hz
      · rw [List.mem_singleton.mp hz]; exact hc c (by simp) z' hz'
  exact this cs [[]] (fun z => ∃ c ∈ cs, z ∈ c.2) (fun k hk z hz => by simp at hk; subst hk; cases hz) (fun c hc z hz => ⟨c, hc, hz⟩) k h
/-! ### menus asked -/
theorem eqv_list {m : Menu} {k : Tup Str} : (((kindsT m).l.map PyD.dat).map fun z => PyData.eqv z (PyD.dat k)) = (kindsT m).l.map fun y => decide (y = k) := by
  rw [List.map_map]
  exact List.map_congr_left fun y _ => eqv_dat
theorem idx_true {ω : Type} [DecidableEq ω] {x : ω} : ∀ {L : List ω} {i : Nat}, L.Nodup → L[i]? = some x → (L.map fun y => decide (y = x)).idxOf true = i
  | [], i, _, h => by simp at h
  | a :: t, 0, _, h => by
    simp at h
    subst h
    simp
  | a :: t, i + 1, hn, h => by
    have hm : x ∈ t := List.mem_of_getElem? (by simpa using h)
    have hne : ¬ a = x := fun e => (List.nodup_cons.mp hn).1 (e ▸ hm)
    rw [List.map_cons, decide_eq_false hne, List.idxOf_cons]
    show (if (false == true) = true then 0 else (t.map fun y => decide (y = x)).idxOf true + 1) = _
    rw [if_neg (by decide), idx_true (List.nodup_cons.mp hn).2 (by simpa using h)]
theorem kindsT_nd {m : Menu} (h : ∀ c ∈ m.cols, c.2.Nodup) : (kindsT m).l.Nodup := by
  unfold kindsT
  rw [List.Nodup, List.pairwise_map]
  exact List.Pairwise.imp (fun {a b} hab e => hab (by cases e; rfl)) (kinds_nd h)
theorem place_all {m : Menu} (h : ∀ c ∈ m.cols, c.2.Nodup) : ((kindsT m).l.map fun k => placeOf m (PyD.dat k)) = rng ((kindsT m).l.length : Int) := by
  refine List.ext_getElem? fun i => ?_
  by_cases hi : i < (kindsT m).l.length
  · rw [List.getElem?_map, List.getElem?_eq_getElem hi, rng_at (by omega)]
    show some (placeOf m (PyD.dat (kindsT m).l[i])) = _
    unfold placeOf
    rw [eqv_list, idx_true (kindsT_nd h) (List.getElem?_eq_getElem hi)]
  · rw [List.getElem?_eq_none (by rw [List.length_map]; omega), List.getElem?_eq_none (by rw [rng_len]; omega)]
theorem holds_dat {m : Menu} {k : Tup Str} : holds m (PyD.dat k) = decide (k ∈ (kindsT m).l) := by
  unfold holds
  have e : isTupD (PyD.dat k) = true := rfl
  rw [e, Bool.true_and, List.any_map]
  have : ((kindsT m).l.any (id ∘ fun k_1 => PyData.eqv (PyD.dat k) (PyD.dat k_1))) = (kindsT m).l.any fun y => decide (k = y) := by
    congr 1
    funext y
    exact eqv_dat
  rw [this]
  rw [Bool.eq_iff_iff]
  simp
theorem holds_no {m : Menu} {d : PyData} (h : ∀ k ∈ (kindsT m).l, PyData.eqv d (PyD.dat k) = false) : holds m d = false := by
  unfold holds
  rw [List.any_map]
  have : (kindsT m).l.any (id ∘ fun k => PyData.eqv d (PyD.dat k)) = false := by
    rw [List.any_eq_false]
    intro k hk
    show ¬ PyData.eqv d (PyD.dat k) = true
    rw [h k hk]; exact Bool.false_ne_true
  rw [this, Bool.and_false]
theorem in_place {m : Menu} {k : Tup Str} (h : k ∈ (kindsT m).l) : holds m (PyD.dat k) = true ∧ true ∈ (((kindsT m).l.map PyD.dat).map fun z => PyData.eqv z (PyD.dat k)) := by
  refine ⟨by rw [holds_dat]; exact decide_eq_true h, ?_⟩
  rw [eqv_list]
  exact List.mem_map.mpr ⟨k, h, decide_eq_true rfl⟩
/-- what is no kind -/
def strangeL (k0 : Tup Str) (z0 : Str) (n : Nat) : List PyData :=
  [PyD.dat (Tup.mk (k0.l.drop 1)), PyD.dat (Tup.mk (k0.l ++ [("x" : Str)])), PyD.dat k0.l, .none, .int 3, .str z0, PyD.dat (Tup.mk (List.replicate n ("n0" : Str))), .tuple [.int 1], .tuple [.list []]]
theorem strange_no {cs : List Col} (h : Plain cs) {k0 : Tup Str} (hk0 : k0 ∈ (kindsT ⟨cs⟩).l) (z0 : Str) : ∀ d ∈ strangeL k0 z0 cs.length, d.depth ≤ 64 ∧ holds ⟨cs⟩ d = false := by
  have hlen : ∀ k ∈ (kindsT ⟨cs⟩).l, k.l.length = cs.length := fun k hk => by
    obtain ⟨y, hy, rfl⟩ := List.mem_map.mp hk
    exact kind_len hy
  have h1 := h.l1
  have h0 := hlen k0 hk0
  have dd : ∀ {δ : Type} [DecidableEq δ] [PyD δ] (x : δ), PyD.dep δ ≤ 64 → (PyD.dat x).depth ≤ 64 := fun x hx => Nat.le_trans (PyD.depth x) hx
  have other : ∀ t : Tup Str, t ∉ (kindsT ⟨cs⟩).l → holds ⟨cs⟩ (PyD.dat t) = false := fun t ht => by rw [holds_dat]; exact decide_eq_false ht
  intro d hd
  unfold strangeL at hd
  simp only [List.mem_cons, List.not_mem_nil, or_false] at hd
  rcases hd with rfl | rfl | rfl | rfl | rfl | rfl | rfl | rfl | rfl
  · refine ⟨dd _ (by decide), other _ fun hm => ?_⟩
    have := hlen _ hm
    simp only [List.length_drop] at this
    omega
  · refine ⟨dd _ (by decide), other _ fun hm => ?_⟩
    have := hlen _ hm
    simp only [List.length_append, List.length_singleton] at this
    omega
  · exact ⟨dd _ (by decide), rfl⟩
  · exact ⟨by decide, rfl⟩
  · exact ⟨by decide, rfl⟩
  · exact ⟨by simp [PyData.depth], rfl⟩
  · refine ⟨dd _ (by decide), other _ fun hm => ?_⟩
    obtain ⟨y, hy, e⟩ := List.mem_map.mp hm
    have e' : y = List.replicate cs.length ("n0" : Str) := by injection e
    have hin : ("n0" : Str) ∈ y := by rw [e', List.mem_replicate]; exact ⟨by omega, rfl⟩
    obtain ⟨c, hc, hz⟩ := kind_worth hy _ hin
    exact ((h.col c hc).ws _ hz).2 rfl
  · refine ⟨by decide, holds_no fun k _ => ?_⟩
    show PyData.eqv (.tuple [.int 1]) (.tuple (k.l.map PyD.dat)) = false
    cases k.l with
    | nil => rfl
    | cons s t => simp [PyData.eqv, PyData.eqvAll, PyD.dat]
  · refine ⟨by decide, holds_no fun k _ => ?_⟩
    show PyData.eqv (.tuple [.list []]) (.tuple (k.l.map PyD.dat)) = false
    cases k.l with
    | nil => rfl
    | cons s t => simp [PyData.eqv, PyData.eqvAll, PyD.dat]
theorem kinds_ne {cs : List Col} (h : Plain cs) : (kinds cs) ≠ [] := by
  intro e
  have h1 := kinds_prod cs
  rw [e] at h1
  have : ∀ cs : List Col, (∀ c ∈ cs, 1 ≤ c.2.length) → 1 ≤ prod cs := by
    intro cs
    induction cs with
    | nil => intro _; decide
    | cons c cs ih =>
      intro h
      rw [prod_cons]
      have a := h c (by simp)
      have b := ih fun d hd => h d (List.mem_cons_of_mem _ hd)
      have : (1 : Int) * 1 ≤ c.2.length * prod cs := Int.mul_le_mul (by omega) b (by decide) (by omega)
      omega
  have := this cs fun c hc => (h.col c hc).l1
  rw [← h1] at this
  exact absurd this (by decide)
abbrev sp_law_menu_right (K : PySem.W.Frag) (C : Str → Addr) : Sp := B2 K C (fun (m : Menu) (cs : List Col) => Plain cs ∧ prod cs ≤ 12 ∧ m.cols = cs) fun _ _ (b : Bool) => b = true
section
variable {α : Type} [Py α] {W : Wd} {M : List Addr} {σ : L2.St} {H H' : Hp} {tl : TE} {D : Ends} {g : TG} {ts : TS} {v : V}
/-- a loop over a list that is one of several -/
theorem for_r {P : List α → Prop} (ok : Ok W M H) (h : EvR W M tl σ H P) (q : ∀ xs v H', P xs → Ex W [] H H' → Ok W M H' → Rep W M H' v xs → tFor (iList W.K (fun _ H Q => Q v H)) g ts D σ H') : tFor (iList W.K tl) g ts D σ H :=
  h H Ex.refl ok _ fun v xs H' px e r => q xs v H' px e (ok.ex e) r
theorem ev_inM {ta tb : TE} {m : Menu} {d : PyData} (ha : Ev W M ta σ H d) (hb : Ev W M tb σ H m) (h1 : (kinds m.cols).length ≤ 1000) (h2 : d.depth ≤ 64) : Ev W M (tOp (rInOwn (W.C "Menu") (sp_Menu_contains W.K W.C) false) ta tb) σ H (holds m d) :=
  (ev_own (f := holds) (neg := false) ha hb ⟨h1, h2⟩).is (if_neg Bool.false_ne_true)
theorem ev_val {x : α} (r : Rep W M H v x) : Ev W M (fun _ H Q => Q v H) σ H x := fun H1 e ok Q q => q v H1 Ex.refl (r.up e)
end
end RG
namespace RG
open PySem PySem.Spec PyProof.Rows L2 StX RZ TL

/-! ### plains that are near -/
structure NearOk (cs cs' : List Col) : Prop where
  len : cs'.length = cs.length
  col : ∀ c ∈ cs', ColOk c
  pr : prod cs' = prod cs
theorem map_set_same {ω δ : Type} {f : ω → δ} {c c' : ω} : ∀ {cs : List ω} {i : Nat}, cs[i]? = some c → f c' = f c → (cs.set i c').map f = cs.map f
  | [], _, _, _ => rfl
  | a :: t, 0, h, e => by simp at h; subst h; rw [List.set_cons_zero, List.map_cons, List.map_cons, e]
  | a :: t, i + 1, h, e => by rw [List.set_cons_succ, List.map_cons, List.map_cons, map_set_same (by simpa using h) e]
theorem prod_set {cs : List Col} {i : Nat} {c c' : Col} (h : cs[i]? = some c) (e : c'.2.length = c.2.length) : prod (cs.set i c') = prod cs := by
  unfold prod
  rw [map_set_same h (by rw [e])]
theorem prod_perm {cs cs' : List Col} (h : cs.Perm cs') : prod cs = prod cs' := by
  induction h with
  | nil => rfl
  | cons c _ ih => rw [prod_cons, prod_cons, ih]
  | swap a b t => rw [prod_cons, prod_cons, prod_cons, prod_cons, ← Int.mul_assoc, ← Int.mul_assoc, Int.mul_comm (b.2.length : Int)]
  | trans _ _ i1 i2 => rw [i1, i2]
theorem NearOk.set {cs cs' : List Col} (h : NearOk cs cs') {i : Nat} {c c' : Col} (hc : cs'[i]? = some c) (ok : ColOk c') (e : c'.2.length = c.2.length) : NearOk cs (cs'.set i c') :=
  ⟨by rw [List.length_set]; exact h.len, fun d hd => (List.mem_or_eq_of_mem_set hd).elim (h.col d) fun e => e ▸ ok, by rw [prod_set hc e]; exact h.pr⟩
theorem NearOk.rev {cs cs' : List Col} (h : NearOk cs cs') : NearOk cs cs'.reverse :=
  ⟨by rw [List.length_reverse]; exact h.len, fun d hd => h.col d (List.mem_reverse.mp hd), by rw [← h.pr]; exact prod_perm (List.reverse_perm cs')⟩
theorem Plain.near {cs : List Col} (h : Plain cs) : NearOk cs cs := ⟨rfl, h.col, rfl⟩
theorem NearOk.plain {cs cs' : List Col} (h : NearOk cs cs') (hp : Plain cs) (hn : (cs'.map Prod.fst).Nodup) : Plain cs' := ⟨by rw [h.len]; exact hp.l1, by rw [h.len]; exact hp.l3, hn, h.col⟩
theorem ColOk.rev {c : Col} (h : ColOk c) : ColOk (c.1, c.2.reverse) :=
  ⟨h.name, by show 1 ≤ c.2.reverse.length; rw [List.length_reverse]; exact h.l1, by show c.2.reverse.length ≤ 12; rw [List.length_reverse]; exact h.l12, (List.reverse_perm c.2).nodup_iff.mpr h.nd, fun z hz => h.ws z (List.mem_reverse.mp hz)⟩
theorem ColOk.other {c : Col} (h : ColOk c) : ColOk (cutS c.1 none (some 7) ++ "q", c.2) := by
  have hn := isName_is h.name
  have e : tl (cutS c.1 none (some 7) ++ ("q" : Str)) = (tl c.1).take 7 ++ [113] := by
    rw [tl_append]
    have : tl (cutS c.1 none (some 7)) = (tl c.1).take 7 := by
      unfold cutS HT.sIx
      rw [tl_mk, len_tl]
      simp only [if_neg (show ¬ (7 : Int) < 0 by decide), List.drop_zero, Nat.sub_zero]
      rw [← List.take_eq_take_min]; rfl
    rw [this]; rfl
  refine ⟨isName_of (by rw [e]; simp) (by rw [e, List.length_append, List.length_take, List.length_singleton]; omega) fun d hd => ?_, h.l1, h.l12, h.nd, h.ws⟩
  rw [e] at hd
  rcases List.mem_append.mp hd with hd | hd
  · exact hn.2.2 d (List.mem_of_mem_take hd)
  · rw [List.mem_singleton.mp hd]; unfold isL; omega
abbrev sp_law_near (K : PySem.W.Frag) (C : Str → Addr) : Sp := B1 K C (fun cs : List Col => Plain cs) NearOk
end RG
namespace RG
open PySem PySem.Spec PyProof.Rows L2 StX RZ TL

/-! ### data without lists -/
class Fz (α : Type) [Py α] where
  fz : ∀ {W : Wd} {G G' : Hp} {v : V} {x : α}, (∀ a o, G a = some o → (∀ xs, o ≠ .lst xs) → G' a = some o) → Py.rep W G v x → Py.rep W G' v x
instance : Fz Str := ⟨fun _ h => h⟩
instance : Fz Int := ⟨fun _ h => h⟩
theorem fz_rd {G G' : Hp} (q : ∀ a o, G a = some o → (∀ xs, o ≠ .lst xs) → G' a = some o) {a : Addr} {vs : List V} (h : Rd G a (.tup vs)) : Rd G' a (.tup vs) :=
  h.elim (fun h => .inl (q _ _ h fun xs z => nomatch z)) fun ⟨o, h⟩ => .inr ⟨o, q _ _ h fun xs z => nomatch z⟩
instance {α : Type} [Py α] [Fz α] : Fz (Tup α) := ⟨fun q ⟨a, vs, e, h, p⟩ => ⟨a, vs, e, fz_rd q h, paired_mono (fun _ _ r => Fz.fz q r) p⟩⟩
instance {α β : Type} [Py α] [Py β] [Fz α] [Fz β] : Fz (α × β) := ⟨fun q ⟨a, v1, v2, e, h, r1, r2⟩ => ⟨a, v1, v2, e, fz_rd q h, Fz.fz q r1, Fz.fz q r2⟩⟩
instance : Fz Menu := ⟨fun q ⟨a, dx, v1, o, p, vs, e, h1, h2, h3, h4, h5, h6⟩ => ⟨a, dx, v1, o, p, vs, e, q _ _ h1 (fun xs z => nomatch z), Fz.fz q h2, q _ _ h3 (fun xs z => nomatch z), h4, h5, paired_mono (fun _ _ r => Fz.fz q r) h6⟩⟩
section
variable {α β : Type} [Py α] [Py β] {W : Wd} {M N : List Addr} {σ : L2.St} {H H' : Hp} {ta tb te : TE} {v : V} {L : Addr} {E : XK} {D : Ends} {g : TG}
theorem Rep.fz [Fz α] {x : α} (h : Rep W [] H v x) (hN : ∀ a ∈ N, ∃ xs, H a = some (.lst xs)) : Rep W N H v x :=
  Fz.fz (fun a o ha hne => by
    obtain ⟨h1, _, h3⟩ := cut_some.mp ha
    refine cut_some.mpr ⟨h1, fun hm => ?_, h3⟩
    obtain ⟨xs, hx⟩ := hN a hm
    rw [h3] at hx
    cases hx
    exact hne xs rfl) h
theorem own_fz {zs : List OCol} (h : Rep W [] H (.ref L) zs) (hL : L ∉ N) (hz : ∀ z ∈ zs, z.a ∉ N) (hN : ∀ a ∈ N, ∃ xs, H a = some (.lst xs)) : Rep W N H (.ref L) zs := by
  obtain ⟨us, hh, nb, nm, pp, no⟩ := own_out h
  refine rep_lst hh nb hL ?_
  have : ∀ {us : List V} {zs : List OCol}, Paired (Rep W [L] H) us zs → (∀ z ∈ zs, z.a ∉ N) → Paired (Rep W N H) us zs := by
    intro us zs hp
    induction hp with
    | nil => intro _; exact .nil
    | @cons u z us zs r _ ih =>
      intro hz
      refine .cons ?_ (ih fun z h => hz z (List.mem_cons_of_mem _ h))
      obtain ⟨T, rfl, t1, t2, t3, h3, h4, h5⟩ := r.ocol
      refine rep_ocol t1 t2 (fun hm => ?_) h3 h4 (hz z (by simp))
      obtain ⟨xs, hx⟩ := hN T hm
      rcases t1 with t1 | ⟨o, t1⟩
      · rw [t1] at hx; cases hx
      · rw [t1] at hx; cases hx
  exact this pp hz
theorem evr_lst2 {P R : α → Prop} (ha : EvR W M ta σ H P) (hb : EvR W M tb σ H R) : EvR W M (tLst (tCons ta (tCons tb tNil))) σ H (fun l => ∃ x y, l = [x, y] ∧ P x ∧ R y) := fun H1 e ok Q q =>
  ha H1 e ok _ fun v x H2 px e2 r => hb H2 (e.trans e2) (ok.ex e2) _ fun u y H3 py e3 r3 =>
    ⟨by show 2 ≤ sizeLine; decide, fun p hp => q _ [x, y] _ ⟨x, y, rfl, px, py⟩ ((e2.trans e3).trans (Ex.new hp)) (rep_lst upd_same (((ok.ex e2).ex e3).new_b hp) (((ok.ex e2).ex e3).new_M hp) (.cons ((r.up e3).up (Ex.new hp)) (.cons (r3.up (Ex.new hp)) .nil)))⟩
/-- xs = [a, b], the new list's address told -/
theorem s_lst2 {x y : α} {k : Nat} (ok : Ok W M H) (ha : Ev W M ta σ H x) (hb : Ev W M tb σ H y) (q : ∀ v u p H', Ex W [] H H' → Ok W M H' → Rep W M H' v x → Rep W M H' u y → H' p = none → D.nx (σ.set k (some (.ref p))) (upd H' p (.lst [v, u]))) : tAsg (tLst (tCons ta (tCons tb tNil))) (gName k) D σ H :=
  ha H Ex.refl ok _ fun v H2 e2 r => hb H2 e2 (ok.ex e2) _ fun u H3 e3 r3 => ⟨by show 2 ≤ sizeLine; decide, fun p hp => q v u p H3 (e2.trans e3) ((ok.ex e2).ex e3) (r.up e3) r3 hp⟩
theorem Rep.colsLQ {cs : List Col} (r : Rep W M H v (cs.map toT)) : Rep W M H v (Sq.mk (cs.map toQ)) := by
  have h : Rep W M H v ((cs.map toT).map fun c : ColT => ((c.1, ⟨c.2.l⟩) : ColQ)) := r.lmap (f := fun c : ColT => ((c.1, ⟨c.2.l⟩) : ColQ)) fun _ _ r => r.pmap fun _ r => r.toSqT
  rw [List.map_map] at h
  exact h.toSq
/-- Menu(columns) -/
theorem ev_menu {cs : List Col} (h : Ev W M ta σ H (Sq.mk (cs.map toQ))) (hP : Plain cs) (hp : prod cs ≤ 12) : Ev W M (tMake (W.C "Menu") (sp_Menu_init W.K W.C) [] E (tCons ta tNil)) σ H (Menu.mk cs) :=
  (ev_make (x := Sq.mk (cs.map toQ)) (f := fun cs : Sq ColQ => Menu.mk (cs.l.map unQ)) h ⟨by show Fair ((cs.map toQ).map unQ); rw [unQ_map]; exact hP.fair, by show areCols ((cs.map toQ).map unQ) = true; rw [unQ_map]; exact hP.are hp⟩).is (by show Menu.mk ((cs.map toQ).map unQ) = _; rw [unQ_map])
/-- Menu.read(text) -/
theorem ev_read {cs : List Col} (h : Ev W M ta σ H (menuText cs)) (hP : Plain cs) (hp : prod cs ≤ 12) : Ev W M (ClX.tCMeth (W.C "Menu") (sp_Menu_read W.K W.C) E (tC (.ref (W.C "Menu"))) (tCons ta tNil)) σ H (Menu.mk cs) := fun H1 e ok Q q =>
  ⟨rfl, h H1 e ok _ fun v H2 e2 r => by
    cases (show v = .str _ from r)
    refine ⟨W, M, menuText cs, rfl, rfl, rfl, ok.ex e2, hP.tlen, fun p hp' => ?_, by rw [hP.read]; exact hP.fair, by rw [hP.read]; exact hP.are hp, fun r H3 e3 rr => q r H3 (e2.trans e3) (by rw [hP.read] at rr; exact rr)⟩
    rw [hP.split] at hp'
    obtain ⟨c, hc, rfl⟩ := List.mem_map.mp hp'
    refine ⟨Nat.le_trans (hP.col c hc).plen (by decide), ?_⟩
    rw [(hP.col c hc).split]
    exact fun z => nomatch z⟩
theorem colsT_eq {a b : List Col} : decide (colsT ⟨a⟩ = colsT ⟨b⟩) = decide (a = b) := by
  by_cases h : a = b
  · subst h; simp
  · rw [decide_eq_false h]
    refine decide_eq_false fun e => h ?_
    unfold colsT at e
    have e2 : a.map toT = b.map toT := by injection e
    have : ∀ {a b : List Col}, a.map toT = b.map toT → a = b := by
      intro a
      induction a with
      | nil => intro b h; cases b with
        | nil => rfl
        | cons _ _ => simp at h
      | cons x t ih =>
        intro b h
        cases b with
        | nil => simp at h
        | cons y s =>
          rw [List.map_cons, List.map_cons] at h
          injection h with h1 h2
          rw [ih h2]
          obtain ⟨x1, x2⟩ := x
          obtain ⟨y1, y2⟩ := y
          unfold toT at h1
          injection h1 with h3 h4
          injection h4 with h5
          rw [show x1 = y1 from h3, show x2 = y2 from h5]
    exact this e2
end
abbrev sp_lawE (K : PySem.W.Frag) : Sp := fun vs H Q _ => ∃ (a : Addr) (ns : List Int), vs = [.ref a] ∧ SqL K H a (ns.map V.int) ∧ ns.length ≤ 63 ∧ ∀ H', Q (.bl true) H'
abbrev sp_law (K : PySem.W.Frag) (_ : Str → Addr) : Sp := sp_lawE K
end RG
namespace RG
open PySem PySem.Spec PyProof.Rows L2 StX RZ TL
def topS (i : Nat) : Stmt := PySem.Challenge.pw_rowsgone_k15_menus_and_their_texts.main.body.getD i (.Pass ⟨0, 0, 0, 0⟩)
section
variable {P : Program} {w : World} {K : PySem.W.Frag} {mg : Str → Option Value} {base : Heap} {C : Str → Addr}

abbrev s_is_name : Stmt := topS 12
theorem sc_is_name : FnScope ["value", "sign"] ["value"] (defScope s_is_name) := ⟨rfl, rfl, rfl, by decide +kernel, rfl, by decide +kernel, by decide +kernel⟩

theorem ok_is_name {f : Addr} {fd : FuncData} (F : Fun K "is_name" "is_name" s_is_name f fd) (bt : Bt mg)
    (g_LETTERS : ∃ t, mg "LETTERS" = some (.str "abcdefghijklmnopqrstuvwxyz" t))
    (g_LONGEST : ∃ t, mg "LONGEST" = some (.int 8 t)) :
    FnOk P w K mg base CX0 1 f fd ["value"] (sp_is_name K C) := by
  refine F.ok sc_is_name (fun vs H Q E h => ?_) (fun cdv A outer s H vs Q E hr h => ?_)
  · obtain ⟨W, M, v, z, _, _, rfl, _⟩ := h; rfl
  · obtain ⟨W, M, v, z, rfl, rfl, rfl, ok, r, hz, k⟩ := h
    have S0 : Sl W M (start ["value", "sign"] [v]) H 0 z := ⟨v, rfl, r⟩
    refine ⟨_, (pss_one (ps_ret (pe_and (pe_callB call_isi (by rfl) bt.isinstance_ (by decide +kernel) (pa_cons (pv 0) (pa_cons (pe_bltn (v := .ty "str") (by rfl) bt.str_ (by decide +kernel) rfl) pa_nil))) (pe_and (pe_chain op_le op_le pe_int (pe_callB cLenX (by rfl) bt.len_ (by decide +kernel) (pa_cons (pv 0) pa_nil)) (pe_gI rfl g_LONGEST)) (pe_one (pe_callB (cr_all rfl) (by rfl) bt.all_ (by decide +kernel) (pa_cons (pe_lc (own := [("sign", 1)]) (g := gName 1) rfl sc_is_name.nd (pi_str (pv 0)) (blkOk_by (own := [("sign", 1)]) (N := ["value", "sign"]) (sc := defScope s_is_name) (by decide +kernel)) (fun _ _ _ _ _ => (pg_name (i := 1) sc_is_name.nd rfl (Or.inl rfl))) (fun _ _ _ _ _ => pts_nil) (fun _ _ _ _ _ => (pe_cmpR op_inS (pv 1) (pe_gS rfl g_LETTERS) (by rfl)))) pa_nil))))))), ?_⟩
    refine s_ret ok (ev_and (ev_isStr (ev_var S0)) fun _ => ev_and (ev_chain ev_int (ev_lenX (ev_var S0) (by omega)) ev_int) fun _ =>
      ev_all (ev_lc (ei_str (ev_var S0)) (by rw [signs_len]; exact Nat.le_trans hz (by decide)) (by decide) fun i s v M' H' hi l r => ev_inS (ev_var (Sl.me r)) ev_str ?_)) fun v H' e r => k v H' e r
    obtain ⟨c, e, _⟩ := signs_one (List.mem_of_getElem? hi)
    exact ⟨c, e⟩

abbrev s_is_worth : Stmt := topS 13
theorem sc_is_worth : FnScope ["value", "sign"] ["value"] (defScope s_is_worth) := ⟨rfl, rfl, rfl, by decide +kernel, rfl, by decide +kernel, by decide +kernel⟩

theorem ok_is_worth {f : Addr} {fd : FuncData} (F : Fun K "is_worth" "is_worth" s_is_worth f fd) (bt : Bt mg)
    (g_DIGITS : ∃ t, mg "DIGITS" = some (.str "0123456789" t))
    (g_LETTERS : ∃ t, mg "LETTERS" = some (.str "abcdefghijklmnopqrstuvwxyz" t))
    (g_LONGEST : ∃ t, mg "LONGEST" = some (.int 8 t)) :
    FnOk P w K mg base CX0 1 f fd ["value"] (sp_is_worth K C) := by
  refine F.ok sc_is_worth (fun vs H Q E h => ?_) (fun cdv A outer s H vs Q E hr h => ?_)
  · obtain ⟨W, M, v, z, _, _, rfl, _⟩ := h; rfl
  · obtain ⟨W, M, v, z, rfl, rfl, rfl, ok, r, hz, k⟩ := h
    have S0 : Sl W M (start ["value", "sign"] [v]) H 0 z := ⟨v, rfl, r⟩
    refine ⟨_, (pss_cons (ps_if (PW.pt (pw_or (pt_not (pt_val (pe_callB call_isi (by rfl) bt.isinstance_ (by decide +kernel) (pa_cons (pv 0) (pa_cons (pe_bltn (v := .ty "str") (by rfl) bt.str_ (by decide +kernel) rfl) pa_nil))))) (pw_or1 (pt_not (pt_chain op_le op_le pe_int (pe_callB cLenX (by rfl) bt.len_ (by decide +kernel) (pa_cons (pv 0) pa_nil)) (pe_gI rfl g_LONGEST)))))) (pss_one (ps_ret pe_bl)) pss_nil)
      (pss_one (ps_ret (pe_callB (cr_all rfl) (by rfl) bt.all_ (by decide +kernel) (pa_cons (pe_lc (own := [("sign", 1)]) (g := gName 1) rfl sc_is_worth.nd (pi_str (pv 0)) (blkOk_by (own := [("sign", 1)]) (N := ["value", "sign"]) (sc := defScope s_is_worth) (by decide +kernel)) (fun _ _ _ _ _ => (pg_name (i := 1) sc_is_worth.nd rfl (Or.inl rfl))) (fun _ _ _ _ _ => pts_nil) (fun _ _ _ _ _ => (pe_or (pe_cmpR op_inS (pv 1) (pe_gS rfl g_LETTERS) (by rfl)) (pe_one (pe_cmpR op_inS (pv 1) (pe_gS rfl g_DIGITS) (by rfl)))))) pa_nil))))), ?_⟩
    refine s_if ok (et_or (et_not (et_b (ev_isStr (ev_var S0)))) fun _ => et_not (et_t (ev_chain ev_int (ev_lenX (ev_var S0) (by omega)) ev_int))) (fun hb H1 e1 ok1 => ?_) (fun hb H1 e1 ok1 => ?_)
    · refine s_ret ok1 ev_bl fun v H2 e2 r => k v H2 (e1.trans e2) ?_
      have hf : isWorth z = false := by
        unfold isWorth
        simp only [Bool.not_true, Bool.false_or, Bool.not_eq_true'] at hb
        rw [hb]; rfl
      rw [hf]; exact r
    · have hf : isWorth z = ((signs z).map fun s => inS lettersS s || inS digitsS s).all id := by
        unfold isWorth
        simp only [Bool.not_true, Bool.false_or, Bool.not_eq_false'] at hb
        rw [hb]; rfl
      rw [hf] at k
      refine s_ret ok1 (ev_all (ev_lc (ei_str (ev_var (S0.up e1))) (by rw [signs_len]; exact Nat.le_trans hz (by decide)) (by decide) fun i s v M' H' hi l r => ?_)) fun v H' e r => k v H' (e1.trans e) r
      obtain ⟨c, e, _⟩ := signs_one (List.mem_of_getElem? hi)
      exact ev_or (ev_inS (ev_var (Sl.me r)) ev_str ⟨c, e⟩) fun _ => ev_inS (ev_var (Sl.me r)) ev_str ⟨c, e⟩

abbrev s_are_different : Stmt := topS 14
theorem sc_are_different : FnScope ["values", "value"] ["values"] (defScope s_are_different) := ⟨rfl, rfl, rfl, by decide +kernel, rfl, by decide +kernel, by decide +kernel⟩

theorem ok_are_different {f : Addr} {fd : FuncData} (F : Fun K "are_different" "are_different" s_are_different f fd) (bt : Bt mg) :
    FnOk P w K mg base CX0 1 f fd ["values"] (sp_are_different K C) := by
  refine F.ok sc_are_different (fun vs H Q E h => ?_) (fun cdv A outer s H vs Q E hr h => ?_)
  · obtain ⟨W, M, v, z, _, _, rfl, _⟩ := h; rfl
  · obtain ⟨W, M, v, z, rfl, rfl, rfl, ok, r, hz, k⟩ := h
    have S0 : Sl W M (start ["values", "value"] [v]) H 0 z := ⟨v, rfl, r⟩
    refine ⟨_, (pss_one (ps_ret (pe_callB (cr_all rfl) (by rfl) bt.all_ (by decide +kernel) (pa_cons (pe_lc (own := [("value", 1)]) (g := gName 1) rfl sc_are_different.nd (pi_list (pv 0)) (blkOk_by (own := [("value", 1)]) (N := ["values", "value"]) (sc := defScope s_are_different) (by decide +kernel)) (fun _ _ _ _ _ => (pg_name (i := 1) sc_are_different.nd rfl (Or.inl rfl))) (fun _ _ _ _ _ => pts_nil) (fun _ _ _ _ _ => (PE.to (pe_cmpR op_eq (pe_bm PySem.F.plainAttrs_list PySem.F.slot_list_count PySem.F.type_list_count (mt_countE (by exact u65 hr)) (pv 0) (pa_cons (pv 1) pa_nil)) pe_int (nomark _)) (by dsimp only [Cx.blk] <;> rfl)))) pa_nil)))), ?_⟩
    exact s_ret ok (ev_all (ev_lc (ei_list (ev_var S0)) (by omega) (by decide) fun i s v M' H' hi l r => ev_eq (ev_count (ev_var (S0.lc l)) (ev_var (Sl.me r))) ev_int)) fun v H' e r => k v H' e r

abbrev s_is_column : Stmt := topS 15
theorem sc_is_column : FnScope ["value", "worth"] ["value"] (defScope s_is_column) := ⟨rfl, rfl, rfl, by decide +kernel, rfl, by decide +kernel, by decide +kernel⟩

theorem ok_is_column {f : Addr} {fd : FuncData} (F : Fun K "is_column" "is_column" s_is_column f fd) (bt : Bt mg)
    (c_is_name : Cal P w K mg base 1 "is_name" ["value"] (sp_is_name K C))
    (c_are_different : Cal P w K mg base 1 "are_different" ["values"] (sp_are_different K C))
    (c_is_worth : Cal P w K mg base 1 "is_worth" ["value"] (sp_is_worth K C))
    (g_MOST_WORTHS : ∃ t, mg "MOST_WORTHS" = some (.int 12 t)) :
    FnOk P w K mg base CX0 2 f fd ["value"] (sp_is_column K C) := by
  refine F.ok sc_is_column (fun vs H Q E h => ?_) (fun cdv A outer s H vs Q E hr h => ?_)
  · obtain ⟨W, M, v, z, _, _, rfl, _⟩ := h; rfl
  · obtain ⟨W, M, v, z, rfl, rfl, rfl, ok, r, hz, k⟩ := h
    have S0 : Sl W M (L2.start ["value", "worth"] [v]) H 0 z := ⟨v, rfl, r⟩
    obtain ⟨hn, hw, hws⟩ := hz.2 (unQ z) (by simp)
    have k : ∀ r H', Ex W [] H H' → Rep W M H' r (isCol (unQ z)) → Q r H' := k
    refine ⟨_, (pss_cons (ps_if (PW.pt (pw_or (pt_not (pt_val (pe_callB call_isi (by rfl) bt.isinstance_ (by decide +kernel) (pa_cons (pv 0) (pa_cons (pe_bltn (v := .ty "tuple") (by rfl) bt.tuple_ (by decide +kernel) rfl) pa_nil))))) (pw_or (pt_cmpR op_ne (pe_callB cLenS (by rfl) bt.len_ (by decide +kernel) (pa_cons (pv 0) pa_nil)) pe_int (nomark _)) (pw_or1 (pt_not (pt_val (pe_call c_is_name.ok (by exact hr.mono (by decide)) (by rfl) c_is_name.gl c_is_name.kp c_is_name.b .nil pass0 (pa_cons (pe_ix ix_tup (pv 0) pe_int (fun _ _ => rfl)) pa_nil)))))))) (pss_one (ps_ret pe_bl)) pss_nil)
      (pss_cons (ps_if (PW.pt (pw_or (pt_not (pt_val (pe_callB call_isiT (by rfl) bt.isinstance_ (by decide +kernel) (pa_cons (pe_ix ix_tup (pv 0) pe_int (fun _ _ => rfl)) (pa_cons (pe_tup (pa_cons (pe_bltn (v := .ty "list") (by rfl) bt.list_ (by decide +kernel) rfl) (pa_cons (pe_bltn (v := .ty "tuple") (by rfl) bt.tuple_ (by decide +kernel) rfl) pa_nil))) pa_nil))))) (pw_or1 (pt_not (pt_chain op_le op_le pe_int (pe_callB cLenS (by rfl) bt.len_ (by decide +kernel) (pa_cons (pe_ix ix_tup (pv 0) pe_int (fun _ _ => rfl)) pa_nil)) (pe_gI rfl g_MOST_WORTHS)))))) (pss_one (ps_ret pe_bl)) pss_nil)
      (pss_one (ps_ret (pe_and (pe_callB (cr_all rfl) (by rfl) bt.all_ (by decide +kernel) (pa_cons (pe_lc (own := [("worth", 1)]) (g := gName 1) rfl sc_is_column.nd (pi_seq (pe_ix ix_tup (pv 0) pe_int (fun _ _ => rfl))) (blkOk_by (own := [("worth", 1)]) (N := ["value", "worth"]) (sc := defScope s_is_column) (by decide +kernel)) (fun _ _ _ _ _ => (pg_name (i := 1) sc_is_column.nd rfl (Or.inl rfl))) (fun _ _ _ _ _ => pts_nil) (fun _ _ _ _ _ => (PE.to (pe_call c_is_worth.ok (by exact hr.mono (by decide)) (by rfl) c_is_worth.gl c_is_worth.kp c_is_worth.b .nil pass0 (pa_cons (pv 1) pa_nil)) (by dsimp only [Cx.blk] <;> rfl)))) pa_nil)) (pe_one (pe_call c_are_different.ok (by exact hr.mono (by decide)) (by rfl) c_are_different.gl c_are_different.kp c_are_different.b .nil pass0 (pa_cons (pe_callTy cListOf (by rfl) bt.list_ (by decide +kernel) (pa_cons (pe_ix ix_tup (pv 0) pe_int (fun _ _ => rfl)) pa_nil)) pa_nil)))))))), ?_⟩
    refine s_if ok (et_or (et_not (et_b (ev_isPair (ev_var S0)))) fun _ => et_or (et_t (ev_ne (ev_lenP (ev_var S0)) ev_int)) fun _ => et_not (et_b (ev_f1 (ev_fst (ev_var S0)) hn))) (fun hb H1 e1 ok1 => ?_) (fun hb H1 e1 ok1 => ?_)
    · have hf : isCol (unQ z) = false := by
        have : isName z.1 = false := by simpa using hb
        unfold isCol
        rw [show (unQ z).1 = z.1 from rfl, this]; rfl
      rw [hf] at k
      exact s_ret ok1 ev_bl fun v H2 e2 r => k v H2 (e1.trans e2) r
    have hN : isName z.1 = true := by simpa using hb
    have S1 := S0.up e1
    refine s_if ok1 (et_or (et_not (et_b (ev_isSq (ev_snd (ev_var S1))))) fun _ => et_not (et_t (ev_chain ev_int (ev_lenQ (ev_snd (ev_var S1))) ev_int))) (fun hb H2 e2 ok2 => ?_) (fun hb H2 e2 ok2 => ?_)
    · have hf : isCol (unQ z) = false := by
        simp only [Bool.not_true, Bool.false_or, Bool.not_eq_true'] at hb
        unfold isCol
        rw [show (unQ z).2 = z.2.l from rfl, hb]; simp
      rw [hf] at k
      exact s_ret ok2 ev_bl fun v H3 e3 r => k v H3 ((e1.trans e2).trans e3) r
    have hf : isCol (unQ z) = ((z.2.l.map isWorth).all id && areDiff z.2.l) := by
      simp only [Bool.not_true, Bool.false_or, Bool.not_eq_false'] at hb
      unfold isCol
      rw [show (unQ z).2 = z.2.l from rfl, show (unQ z).1 = z.1 from rfl, hb, hN]; rfl
    rw [hf] at k
    have S2 := S1.up e2
    refine s_ret ok2 (ev_and (ev_all (ev_lc (ei_seq (ev_snd (ev_var S2))) (Nat.le_trans hw (by decide)) (by decide) fun i s v M' H' hi l r => ev_f1 (ev_var (Sl.me r)) (hws s (List.mem_of_getElem? hi)))) fun _ => ev_f1 (ev_listQ (ev_snd (ev_var S2))) hw) fun v H3 e3 r => k v H3 ((e1.trans e2).trans e3) r

abbrev s_are_columns : Stmt := topS 16
theorem sc_are_columns : FnScope ["value", "column"] ["value"] (defScope s_are_columns) := ⟨rfl, rfl, rfl, by decide +kernel, rfl, by decide +kernel, by decide +kernel⟩

theorem ok_are_columns {f : Addr} {fd : FuncData} (F : Fun K "are_columns" "are_columns" s_are_columns f fd) (bt : Bt mg)
    (c_are_different : Cal P w K mg base 1 "are_different" ["values"] (sp_are_different K C))
    (c_is_column : Cal P w K mg base 2 "is_column" ["value"] (sp_is_column K C))
    (c_kinds_of : Cal P w K mg base 1 "kinds_of" ["columns"] (sp_kinds_of K C))
    (g_MOST_COLUMNS : ∃ t, mg "MOST_COLUMNS" = some (.int 3 t))
    (g_MOST_KINDS : ∃ t, mg "MOST_KINDS" = some (.int 12 t)) :
    FnOk P w K mg base CX0 3 f fd ["value"] (sp_are_columns K C) := by
  refine F.ok sc_are_columns (fun vs H Q E h => ?_) (fun cdv A outer s H vs Q E hr h => ?_)
  · obtain ⟨W, M, v, z, _, _, rfl, _⟩ := h; rfl
  · obtain ⟨W, M, v, z, rfl, rfl, rfl, ok, r, hz, k⟩ := h
    have S0 : Sl W M (L2.start ["value", "column"] [v]) H 0 z := ⟨v, rfl, r⟩
    have hlen : z.l.length ≤ 1000 := by simpa using hz.1
    have hcol : ∀ c ∈ z.l, Fair [unQ c] := fun c hc => ⟨by simp, fun d hd => by
      have e : d = unQ c := by simpa using hd
      rw [e]; exact hz.2 _ (List.mem_map_of_mem hc)⟩
    have k : ∀ r H', Ex W [] H H' → Rep W M H' r (areCols (z.l.map unQ)) → Q r H' := k
    refine ⟨_, (pss_cons (ps_if (PW.pt (pw_or (pt_not (pt_val (pe_callB call_isiT (by rfl) bt.isinstance_ (by decide +kernel) (pa_cons (pv 0) (pa_cons (pe_tup (pa_cons (pe_bltn (v := .ty "list") (by rfl) bt.list_ (by decide +kernel) rfl) (pa_cons (pe_bltn (v := .ty "tuple") (by rfl) bt.tuple_ (by decide +kernel) rfl) pa_nil))) pa_nil))))) (pw_or1 (pt_not (pt_chain op_le op_le pe_int (pe_callB cLenS (by rfl) bt.len_ (by decide +kernel) (pa_cons (pv 0) pa_nil)) (pe_gI rfl g_MOST_COLUMNS)))))) (pss_one (ps_ret pe_bl)) pss_nil)
      (pss_cons (ps_if (PW.pt (pw_or (pt_not (pt_val (pe_callB (cr_all rfl) (by rfl) bt.all_ (by decide +kernel) (pa_cons (pe_lc (own := [("column", 1)]) (g := gName 1) rfl sc_are_columns.nd (pi_seq (pv 0)) (blkOk_by (own := [("column", 1)]) (N := ["value", "column"]) (sc := defScope s_are_columns) (by decide +kernel)) (fun _ _ _ _ _ => (pg_name (i := 1) sc_are_columns.nd rfl (Or.inl rfl))) (fun _ _ _ _ _ => pts_nil) (fun _ _ _ _ _ => (PE.to (pe_call c_is_column.ok (by exact hr.mono (by decide)) (by rfl) c_is_column.gl c_is_column.kp c_is_column.b .nil pass0 (pa_cons (pv 1) pa_nil)) (by dsimp only [Cx.blk] <;> rfl)))) pa_nil)))) (pw_or1 (pt_not (pt_val (pe_call c_are_different.ok (by exact hr.mono (by decide)) (by rfl) c_are_different.gl c_are_different.kp c_are_different.b .nil pass0 (pa_cons (pe_lc (own := [("column", 1)]) (g := gName 1) rfl sc_are_columns.nd (pi_seq (pv 0)) (blkOk_by (own := [("column", 1)]) (N := ["value", "column"]) (sc := defScope s_are_columns) (by decide +kernel)) (fun _ _ _ _ _ => (pg_name (i := 1) sc_are_columns.nd rfl (Or.inl rfl))) (fun _ _ _ _ _ => pts_nil) (fun _ _ _ _ _ => (PE.to (pe_ix ix_tup (pv 1) pe_int (fun _ _ => rfl)) (by dsimp only [Cx.blk] <;> rfl)))) pa_nil))))))) (pss_one (ps_ret pe_bl)) pss_nil)
      (pss_one (ps_ret (pe_cmpR op_le (pe_callB cLenS (by rfl) bt.len_ (by decide +kernel) (pa_cons (pe_call c_kinds_of.ok (by exact hr.mono (by decide)) (by rfl) c_kinds_of.gl c_kinds_of.kp c_kinds_of.b .nil pass0 (pa_cons (pv 0) pa_nil)) pa_nil)) (pe_gI rfl g_MOST_KINDS) (nomark _)))))), ?_⟩
    refine s_if ok (et_or (et_not (et_b (ev_isSq (ev_var S0)))) fun _ => et_not (et_t (ev_chain ev_int (ev_lenQ (ev_var S0)) ev_int))) (fun hb H1 e1 ok1 => ?_) (fun hb H1 e1 ok1 => ?_)
    · have hf : areCols (z.l.map unQ) = false := by
        simp only [Bool.not_true, Bool.false_or, Bool.not_eq_true'] at hb
        unfold areCols
        rw [List.length_map, hb]; rfl
      rw [hf] at k
      exact s_ret ok1 ev_bl fun v H2 e2 r => k v H2 (e1.trans e2) r
    have hL : (decide ((1 : Int) ≤ z.l.length) && decide ((z.l.length : Int) ≤ 3)) = true := by simpa only [Bool.not_true, Bool.false_or, Bool.not_eq_false'] using hb
    have S1 := S0.up e1
    refine s_if ok1 (et_or (et_not (et_b (ev_all (ev_lc (f := fun c => isCol (unQ c)) (ei_seq (ev_var S1)) (by omega) (by decide) fun i s v M' H' hi l r => ev_f1 (x := s) (ev_var (Sl.me r)) (hcol s (List.mem_of_getElem? hi)))))) fun _ =>
      et_not (et_b (ev_f1 (ev_lc (f := Prod.fst) (ei_seq (ev_var S1)) (by omega) (by decide) fun i s v M' H' hi l r => ev_fst (ev_var (Sl.me r))) (by rw [List.length_map]; exact hlen)))) (fun hb H2 e2 ok2 => ?_) (fun hb H2 e2 ok2 => ?_)
    · have hf : areCols (z.l.map unQ) = false := by
        have h2 : ((z.l.map fun c => isCol (unQ c)).all id && areDiff (z.l.map Prod.fst)) = false := by
          rw [← Bool.not_eq_true', Bool.not_and]; exact hb
        unfold areCols
        rw [List.map_map, List.map_map]
        rw [show (isCol ∘ unQ) = fun c => isCol (unQ c) from rfl, show ((fun x : Col => x.1) ∘ unQ) = Prod.fst from rfl, h2]; simp
      rw [hf] at k
      exact s_ret ok2 ev_bl fun v H3 e3 r => k v H3 ((e1.trans e2).trans e3) r
    have h2 : ((z.l.map fun c => isCol (unQ c)).all id && areDiff (z.l.map Prod.fst)) = true := by
      rw [← Bool.not_eq_false', Bool.not_and]; exact hb
    have hf : areCols (z.l.map unQ) = decide (((kinds (z.l.map unQ)).length : Int) ≤ 12) := by
      unfold areCols
      rw [List.map_map, List.map_map]
      rw [show (isCol ∘ unQ) = fun c => isCol (unQ c) from rfl, show ((fun x : Col => x.1) ∘ unQ) = Prod.fst from rfl, h2, List.length_map, hL]; rfl
    rw [hf] at k
    have few : Few (z.l.map unQ) := by
      refine ⟨by rw [List.length_map]; simp at hL; omega, fun c hc => ?_⟩
      obtain ⟨d, hd, rfl⟩ := List.mem_map.mp hc
      simp only [Bool.and_eq_true, List.all_map] at h2
      have := List.all_eq_true.mp h2.1 d hd
      exact isCol_few this
    exact s_ret ok2 ((ev_B0 (ev_lenL (ev_f1 (x := z) (ev_var (S1.up e2)) few)) ev_int).is (by rw [List.length_map])) fun v H3 e3 r => k v H3 ((e1.trans e2).trans e3) r

abbrev s_kinds_of : Stmt := topS 17
theorem sc_kinds_of : FnScope ["columns", "found", "name", "worths", "kind", "worth"] ["columns"] (defScope s_kinds_of) := ⟨rfl, rfl, rfl, by decide +kernel, rfl, by decide +kernel, by decide +kernel⟩

theorem ok_kinds_of {f : Addr} {fd : FuncData} (F : Fun K "kinds_of" "kinds_of" s_kinds_of f fd) (bt : Bt mg) :
    FnOk P w K mg base CX0 1 f fd ["columns"] (sp_kinds_of K C) := by
  refine F.ok sc_kinds_of (fun vs H Q E h => ?_) (fun cdv A outer s H vs Q E hr h => ?_)
  · obtain ⟨W, M, v, z, _, _, rfl, _⟩ := h; rfl
  · obtain ⟨W, M, v, z, rfl, rfl, rfl, ok, r, hz, k⟩ := h
    have S0 : Sl W M (L2.start ["columns", "found", "name", "worths", "kind", "worth"] [v]) H 0 z := ⟨v, rfl, r⟩
    have hl : z.l.length ≤ 3 := by simpa using hz.1
    have k : ∀ r H', Ex W [] H H' → Rep W M H' r ((kinds (z.l.map unQ)).map Tup.mk) → Q r H' := k
    refine ⟨_, (pss_cons (ps_set (i := 1) sc_kinds_of.nd rfl (.inl rfl) (pe_lst (pa_cons (pe_tup pa_nil) pa_nil)))
      (pss_cons (ps_for PassesOwn.never rfl (pi_seq (pv 0)) (pg_tup rfl (pgs_cons (pg_name (i := 2) sc_kinds_of.nd rfl (Or.inl rfl)) (pgs_cons (pg_name (i := 3) sc_kinds_of.nd rfl (Or.inr rfl)) pgs_nil)))
      (pss_one (ps_setLc2 (i := 1) (own := [("kind", 4), ("worth", 5)]) (vs1 := [5]) (g := gName 4) (g1 := gName 5) rfl sc_kinds_of.nd rfl rfl (sw_true rfl rfl rfl (by decide +kernel)) (pi_list (pv 1)) (blkOk_by (own := [("kind", 4), ("worth", 5)]) (N := ["columns", "found", "name", "worths", "kind", "worth"]) (sc := defScope s_kinds_of) (by decide +kernel)) (by decide) (fun _ _ _ _ _ => (pg_name (i := 4) sc_kinds_of.nd rfl (Or.inl rfl))) (fun _ _ _ _ _ => pts_nil) (fun _ _ _ _ _ => (PI.to (pi_seq (pv 3)) (by dsimp only [Cx.blk] <;> rfl))) (fun _ _ _ _ _ => (pg_name (i := 5) sc_kinds_of.nd rfl (Or.inl rfl))) (fun _ _ _ _ _ => pts_nil) (fun _ _ _ _ _ => (PE.to (pe_tup (pa_star (pv 4) (pa_cons (pv 5) pa_nil))) (by dsimp only [Cx.blk] <;> rfl))))))
      (pss_one (ps_ret (pv 1))))), ?_⟩
    refine s_set ok (ev_lst (ea_cons (ev_tup (ea_nil (α := Str)) (Nat.zero_le _)) ea_nil) (by decide)) fun v1 H1 e1 ok1 r1 => ?_
    refine for_w ok1 (ei_seq (ev_var (S0.set e1))) (fun i σ' H' => Ex W [] H H' ∧ σ'.length = 6 ∧ Sl W M σ' H' 1 ((kinds ((z.l.map unQ).take i)).map Tup.mk)) (fun H' e => ⟨e1.trans e, by rw [List.length_set]; rfl, (Sl.hr r1).up e⟩) ?_ ?_
    · rintro i c v σ' H' hi ⟨e0, hσ, S1⟩ ok' H'' e'' r N hN
      have ok'' := ok'.ex e''
      refine gPair_rd r fun v1 v2 r1 r2 => ?_
      have S3 : Sl W M ((σ'.set 2 (some v1)).set 3 (some v2)) H'' 3 c.2 := Sl.here r2 (by rw [List.length_set, hσ]; decide)
      have S1' : Sl W M ((σ'.set 2 (some v1)).set 3 (some v2)) H'' 1 _ := ((S1.up e'').set Ex.refl).set Ex.refl
      have hin : i < 3 := Nat.lt_of_lt_of_le (List.getElem?_eq_some_iff.mp hi).1 hl
      have hc : c.2.l.length ≤ 12 := hz.2 (unQ c) (List.mem_map_of_mem (List.mem_of_getElem? hi))
      have few : Few ((z.l.map unQ).take i) := hz.take i
      have hlen : (kinds ((z.l.map unQ).take i)).length ≤ 144 := few.num (by rw [List.length_take]; omega)
      refine s_set ok'' (ev_lcc (f := fun (k : Tup Str) (s : Str) => (Tup.mk (k.l ++ [s]) : Tup Str)) (zs := fun _ => c.2.l) (ei_list (ev_var S1')) (by rw [List.length_map]; omega) (by decide) (by decide) (fun _ _ => by omega)
        (fun i x v M' H' hi l r => ei_seq (ev_var (S3.lc l)))
        (fun i j x s v u M' H' hi hj l r ru => ev_tup (ea_starT (ev_var ((Sl.me r (by rw [List.length_set, List.length_set, hσ]; decide)).wipe.set Ex.refl)) (ea_cons (ev_var (Sl.here ru (by rw [wipe_len, List.length_set, wipe_len, List.length_set, List.length_set, hσ]; decide))) ea_nil)) ?_)) fun v3 H3 e3 ok3 r3 => hN _ _ ⟨e0.trans (e''.trans e3), by rw [List.length_set, List.length_set, List.length_set, hσ], ?_⟩ e3.up
      · obtain ⟨y, hy, rfl⟩ := List.mem_map.mp (List.mem_of_getElem? hi)
        have := kind_len hy
        rw [List.length_append, this, List.length_take]
        show min _ _ + 1 ≤ _
        omega
      · refine Sl.here (k := 1) ?_ (by rw [List.length_set, List.length_set, hσ]; decide)
        have e : (kinds ((z.l.map unQ).take (i + 1))).map Tup.mk = ((kinds ((z.l.map unQ).take i)).map Tup.mk).flatMap fun k => c.2.l.map fun s => (Tup.mk (k.l ++ [s]) : Tup Str) := by
          rw [kinds_take (c := unQ c) (by rw [List.getElem?_map, hi]; rfl), kstep_mk]; rfl
        rw [e]; exact r3
    · rintro σ' H' ⟨e0, hσ, S1⟩ ok'
      rw [show z.l.length = (z.l.map unQ).length by rw [List.length_map], List.take_length] at S1
      exact s_ret ok' (ev_var S1) fun v H3 e3 r => k v H3 (e0.trans e3) r

abbrev s_Menu_columns : Stmt := inClass (topS 18) 2
theorem sc_Menu_columns : FnScope ["self"] ["self"] (defScope s_Menu_columns) := ⟨rfl, rfl, rfl, by decide +kernel, rfl, by decide +kernel, by decide +kernel⟩

theorem ok_Menu_columns {f : Addr} {fd : FuncData} (F : Fun K "columns" "Menu.columns" s_Menu_columns f fd) (bt : Bt mg)
    (cl_Menu : Cls K (C "Menu"))
    (n_Menu_own_columns : NoAttr K (C "Menu") "own_columns") :
    FnOk P w K mg base CX0 1 f fd ["self"] (sp_Menu_columns K C) := by
  refine F.ok sc_Menu_columns (fun vs H Q E h => ?_) (fun cdv A outer s H vs Q E hr h => ?_)
  · obtain ⟨W, M, v, z, _, _, rfl, _⟩ := h; rfl
  · obtain ⟨W, M, v, z, rfl, rfl, rfl, ok, r, hz, k⟩ := h
    have S0 : Sl W M (L2.start ["self"] [v]) H 0 z := ⟨v, rfl, r⟩
    refine ⟨_, (pss_one (ps_ret (pe_fld (pv 0) rfl))), ?_⟩
    exact s_ret ok (mn_cols (ev_var S0) cl_Menu n_Menu_own_columns) fun v H3 e3 r => k v H3 e3 r

abbrev s_Menu_kinds : Stmt := inClass (topS 18) 3
theorem sc_Menu_kinds : FnScope ["self"] ["self"] (defScope s_Menu_kinds) := ⟨rfl, rfl, rfl, by decide +kernel, rfl, by decide +kernel, by decide +kernel⟩

theorem ok_Menu_kinds {f : Addr} {fd : FuncData} (F : Fun K "kinds" "Menu.kinds" s_Menu_kinds f fd) (bt : Bt mg)
    (cl_Menu : Cls K (C "Menu"))
    (n_Menu_own_kinds : NoAttr K (C "Menu") "own_kinds") :
    FnOk P w K mg base CX0 1 f fd ["self"] (sp_Menu_kinds K C) := by
  refine F.ok sc_Menu_kinds (fun vs H Q E h => ?_) (fun cdv A outer s H vs Q E hr h => ?_)
  · obtain ⟨W, M, v, z, _, _, rfl, _⟩ := h; rfl
  · obtain ⟨W, M, v, z, rfl, rfl, rfl, ok, r, hz, k⟩ := h
    have S0 : Sl W M (L2.start ["self"] [v]) H 0 z := ⟨v, rfl, r⟩
    refine ⟨_, (pss_one (ps_ret (pe_fld (pv 0) rfl))), ?_⟩
    exact s_ret ok (mn_kinds (ev_var S0) cl_Menu n_Menu_own_kinds) fun v H3 e3 r => k v H3 e3 r

abbrev s_Menu_len : Stmt := inClass (topS 18) 4
theorem sc_Menu_len : FnScope ["self"] ["self"] (defScope s_Menu_len) := ⟨rfl, rfl, rfl, by decide +kernel, rfl, by decide +kernel, by decide +kernel⟩

theorem ok_Menu_len {f : Addr} {fd : FuncData} (F : Fun K "__len__" "Menu.__len__" s_Menu_len f fd) (bt : Bt mg)
    (cl_Menu : Cls K (C "Menu"))
    (n_Menu_own_kinds : NoAttr K (C "Menu") "own_kinds") :
    FnOk P w K mg base CX0 1 f fd ["self"] (sp_Menu_len K C) := by
  refine F.ok sc_Menu_len (fun vs H Q E h => ?_) (fun cdv A outer s H vs Q E hr h => ?_)
  · obtain ⟨W, M, v, z, _, _, rfl, _⟩ := h; rfl
  · obtain ⟨W, M, v, z, rfl, rfl, rfl, ok, r, hz, k⟩ := h
    have S0 : Sl W M (L2.start ["self"] [v]) H 0 z := ⟨v, rfl, r⟩
    have k : ∀ r H', Ex W [] H H' → Rep W M H' r ((kinds z.cols).length : Int) → Q r H' := k
    refine ⟨_, (pss_one (ps_ret (pe_callB cLenS (by rfl) bt.len_ (by decide +kernel) (pa_cons (pe_fld (pv 0) rfl) pa_nil)))), ?_⟩
    exact s_ret ok ((ev_lenT (mn_kinds (ev_var S0) cl_Menu n_Menu_own_kinds)).is (by unfold kindsT; rw [List.length_map])) fun v H3 e3 r => k v H3 e3 r

abbrev s_Menu_contains : Stmt := inClass (topS 18) 5
theorem sc_Menu_contains : FnScope ["self", "kind", "other"] ["self", "kind"] (defScope s_Menu_contains) := ⟨rfl, rfl, rfl, by decide +kernel, rfl, by decide +kernel, by decide +kernel⟩

theorem ok_Menu_contains {f : Addr} {fd : FuncData} (F : Fun K "__contains__" "Menu.__contains__" s_Menu_contains f fd) (bt : Bt mg)
    (cl_Menu : Cls K (C "Menu"))
    (n_Menu_own_kinds : NoAttr K (C "Menu") "own_kinds") :
    FnOk P w K mg base CX0 1 f fd ["self", "kind"] (sp_Menu_contains K C) := by
  refine F.ok sc_Menu_contains (fun vs H Q E h => ?_) (fun cdv A outer s H vs Q E hr h => ?_)
  · obtain ⟨W, M, v, u, z, d, _, _, rfl, _⟩ := h; rfl
  · obtain ⟨W, M, v, u, z, d, rfl, rfl, rfl, ok, r, rd, hz, k⟩ := h
    have S0 : Sl W M (L2.start ["self", "kind", "other"] [v, u]) H 0 z := ⟨v, rfl, r⟩
    have S1 : Sl W M (L2.start ["self", "kind", "other"] [v, u]) H 1 d := ⟨u, rfl, rd⟩
    refine ⟨_, (pss_one (ps_ret (pe_and (pe_callB call_isi (by rfl) bt.isinstance_ (by decide +kernel) (pa_cons (pv 1) (pa_cons (pe_bltn (v := .ty "tuple") (by rfl) bt.tuple_ (by decide +kernel) rfl) pa_nil))) (pe_one (pe_callB (cr_any rfl) (by rfl) bt.any_ (by decide +kernel) (pa_cons (pe_lc (own := [("other", 2)]) (g := gName 2) rfl sc_Menu_contains.nd (pi_tup (pe_fld (pv 0) rfl)) (blkOk_by (own := [("other", 2)]) (N := ["self", "kind", "other"]) (sc := defScope s_Menu_contains) (by decide +kernel)) (fun _ _ _ _ _ => (pg_name (i := 2) sc_Menu_contains.nd rfl (Or.inl rfl))) (fun _ _ _ _ _ => pts_nil) (fun _ _ _ _ _ => (PE.to (pe_cmpR (op_eqE (by exact hr.units)) (pv 1) (pv 2) (nomark _)) (by dsimp only [Cx.blk] <;> rfl)))) pa_nil)))))), ?_⟩
    refine s_ret ok (ev_and (ev_isTupD (ev_var S1)) fun _ => ev_any (ev_lc (ei_tup (mn_kinds (ev_var S0) cl_Menu n_Menu_own_kinds)) ?_ (by decide) fun i s v M' H' hi l r => ev_eqP (ev_var (S1.lc l)) (ev_var (Sl.me r)) hz.2)) fun v H3 e3 r => k v H3 e3 r
    unfold kindsT
    rw [List.length_map]
    exact Nat.le_trans hz.1 (by decide)

abbrev s_Menu_place : Stmt := inClass (topS 18) 6
theorem sc_Menu_place : FnScope ["self", "kind"] ["self", "kind"] (defScope s_Menu_place) := ⟨rfl, rfl, rfl, by decide +kernel, rfl, by decide +kernel, by decide +kernel⟩

theorem ok_Menu_place {f : Addr} {fd : FuncData} (F : Fun K "place" "Menu.place" s_Menu_place f fd) (bt : Bt mg)
    (i_Menu : OwnC P w K mg base 1 (C "Menu") "__contains__" ["self", "kind"] (sp_Menu_contains K C))
    (cl_Menu : Cls K (C "Menu"))
    (n_Menu_own_kinds : NoAttr K (C "Menu") "own_kinds") :
    FnOk P w K mg base CX0 2 f fd ["self", "kind"] (sp_Menu_place K C) := by
  refine F.ok sc_Menu_place (fun vs H Q E h => ?_) (fun cdv A outer s H vs Q E hr h => ?_)
  · obtain ⟨W, M, v, u, z, d, _, _, rfl, _⟩ := h; rfl
  · obtain ⟨W, M, v, u, z, d, rfl, rfl, rfl, ok, r, rd, hz, k⟩ := h
    have S0 : Sl W M (L2.start ["self", "kind"] [v, u]) H 0 z := ⟨v, rfl, r⟩
    have S1 : Sl W M (L2.start ["self", "kind"] [v, u]) H 1 d := ⟨u, rfl, rd⟩
    refine ⟨_, (pss_cons (ps_if (pt_cmpR (op_notInOwn i_Menu (by exact hr.mono (by decide))) (pv 1) (pv 0) (by rfl)) (pss_one ps_never) pss_nil)
      (pss_one (ps_ret (pe_bmF PySem.F.plainAttrs_tuple PySem.F.slot_tuple_index PySem.F.type_tuple_index (mt_idxT (by exact u65 hr)) (pe_fld (pv 0) rfl) (pa_cons (pv 1) pa_nil))))), ?_⟩
    refine s_no ok (et_t ((ev_own (neg := true) (o := z) (x := d) (ev_var S1) (ev_var S0) ⟨hz.1, hz.2.1⟩).is (by rw [if_pos rfl, hz.2.2.1]; rfl))) fun H1 e1 ok1 => ?_
    exact s_ret ok1 (mn_place (ev_var (S0.up e1)) (ev_var (S1.up e1)) cl_Menu n_Menu_own_kinds hz.2.2.2) fun v H3 e3 r => k v H3 (e1.trans e3) r

abbrev s_Menu_same : Stmt := inClass (topS 18) 7
theorem sc_Menu_same : FnScope ["self", "other"] ["self", "other"] (defScope s_Menu_same) := ⟨rfl, rfl, rfl, by decide +kernel, rfl, by decide +kernel, by decide +kernel⟩

theorem ok_Menu_same {f : Addr} {fd : FuncData} (F : Fun K "same" "Menu.same" s_Menu_same f fd) (bt : Bt mg)
    (cl_Menu : Cls K (C "Menu"))
    (n_Menu_own_columns : NoAttr K (C "Menu") "own_columns") :
    FnOk P w K mg base CX0 1 f fd ["self", "other"] (sp_Menu_same K C) := by
  refine F.ok sc_Menu_same (fun vs H Q E h => ?_) (fun cdv A outer s H vs Q E hr h => ?_)
  · obtain ⟨W, M, v, u, z, d, _, _, rfl, _⟩ := h; rfl
  · obtain ⟨W, M, v, u, z, d, rfl, rfl, rfl, ok, r, rd, hz, k⟩ := h
    have S0 : Sl W M (L2.start ["self", "other"] [v, u]) H 0 z := ⟨v, rfl, r⟩
    have S1 : Sl W M (L2.start ["self", "other"] [v, u]) H 1 d := ⟨u, rfl, rd⟩
    refine ⟨_, (pss_one (ps_ret (pe_cmpR (op_eqE (by exact hr.units)) (pe_fld (pv 0) rfl) (pe_fld (pv 1) rfl) (nomark _)))), ?_⟩
    exact s_ret ok (ev_eqD (mn_cols (ev_var S0) cl_Menu n_Menu_own_columns) (mn_cols (ev_var S1) cl_Menu n_Menu_own_columns)) fun v H3 e3 r => k v H3 e3 r

abbrev s_Menu_text : Stmt := inClass (topS 18) 8
theorem sc_Menu_text : FnScope ["self", "name", "worths"] ["self"] (defScope s_Menu_text) := ⟨rfl, rfl, rfl, by decide +kernel, rfl, by decide +kernel, by decide +kernel⟩

theorem ok_Menu_text {f : Addr} {fd : FuncData} (F : Fun K "text" "Menu.text" s_Menu_text f fd) (bt : Bt mg)
    (cl_Menu : Cls K (C "Menu"))
    (n_Menu_own_columns : NoAttr K (C "Menu") "own_columns") :
    FnOk P w K mg base CX0 1 f fd ["self"] (sp_Menu_text K C) := by
  refine F.ok sc_Menu_text (fun vs H Q E h => ?_) (fun cdv A outer s H vs Q E hr h => ?_)
  · obtain ⟨W, M, v, z, _, _, rfl, _⟩ := h; rfl
  · obtain ⟨W, M, v, z, rfl, rfl, rfl, ok, r, hz, k⟩ := h
    have S0 : Sl W M (L2.start ["self", "name", "worths"] [v]) H 0 z := ⟨v, rfl, r⟩
    obtain ⟨hf, h3, h12⟩ := hz
    have hin : ∀ c ∈ z.cols, ∀ x ∈ c.1 :: c.2, x.length ≤ 1000 := fun c hc x hx => by
      obtain ⟨q1, _, q3⟩ := hf.2 c hc
      rcases List.mem_cons.mp hx with rfl | hx
      · exact q1
      · exact q3 x hx
    have hn : ∀ c ∈ z.cols, (c.1 :: c.2).length * (1000 + 1) ≤ 13013 := fun c hc => by have := h12 c hc; rw [List.length_cons]; omega
    have hcl : (colsT z).l.length ≤ 3 := by unfold colsT; rw [List.length_map]; exact h3
    refine ⟨_, (pss_one (ps_ret (peJoin pe_str (pe_lc (own := [("name", 1), ("worths", 2)]) (g := gPair W.K 1 2) rfl sc_Menu_text.nd (pi_tup (pe_fld (pv 0) rfl)) (blkOk_by (own := [("name", 1), ("worths", 2)]) (N := ["self", "name", "worths"]) (sc := defScope s_Menu_text) (by decide +kernel)) (fun _ _ _ _ _ => (pg_tup rfl (pgs_cons (pg_name (i := 1) sc_Menu_text.nd rfl (Or.inl rfl)) (pgs_cons (pg_name (i := 2) sc_Menu_text.nd rfl (Or.inl rfl)) pgs_nil)))) (fun _ _ _ _ _ => pts_nil) (fun _ _ _ _ _ => (PE.to (peJoin pe_str (pe_lst (pa_cons (pv 1) (pa_star (pv 2) pa_nil)))) (by dsimp only [Cx.blk] <;> rfl))))))), ?_⟩
    refine s_ret ok ((ev_join (ev_str (s := "; ")) (ev_lc2 (f := fun c : ColT => Txt.join " " (c.1 :: c.2.l)) (ei_tup (mn_cols (ev_var S0) cl_Menu n_Menu_own_columns)) (by omega) (by decide) (by decide) fun i c v1 v2 M' H' hi l r1 r2 => (ev_join (ev_str (s := " "))
      (ev_lst (ea_cons (ev_var ((Sl.me r1).set Ex.refl)) (ea_starT (ev_var (Sl.hr r2)) ea_nil)) ?_) ?_).is (by rw [List.append_nil])) ?_).is ?_) fun v H3 e3 r => k v H3 e3 r
    · obtain ⟨d, hd, rfl⟩ := List.mem_map.mp (List.mem_of_getElem? hi)
      have := hn d hd
      rw [List.append_nil]
      show (d.1 :: d.2).length ≤ _
      omega
    · obtain ⟨d, hd, rfl⟩ := List.mem_map.mp (List.mem_of_getElem? hi)
      rw [List.append_nil]
      have h1 := join_le (z := " ") (xs := d.1 :: d.2) (hin d hd)
      have h2 := hn d hd
      exact Nat.le_trans h1 (Nat.le_trans h2 (by decide))
    · refine Nat.le_trans (join_le (n := 13013) fun x hx => ?_) ?_
      · obtain ⟨c, hc, rfl⟩ := List.mem_map.mp hx
        obtain ⟨d, hd, rfl⟩ := List.mem_map.mp hc
        exact Nat.le_trans (join_len (z := " ") (xs := d.1 :: d.2) (hin d hd)) (hn d hd)
      · rw [List.length_map]
        refine Nat.le_trans (Nat.mul_le_mul_right _ hcl) (by decide)
    · show Txt.join "; " _ = menuText z.cols
      unfold menuText colsT
      rw [List.map_map]; rfl

abbrev s_Menu_read : Stmt := inClass (topS 18) 1
theorem sc_Menu_read : FnScope ["cls", "text", "parts", "words", "columns", "part", "row"] ["cls", "text"] (defScope s_Menu_read) := ⟨rfl, rfl, rfl, by decide +kernel, rfl, by decide +kernel, by decide +kernel⟩

theorem ok_Menu_read {f : Addr} {fd : FuncData} (F : Fun K "read" "Menu.read" s_Menu_read f fd) (bt : Bt mg)
    (c_are_columns : Cal P w K mg base 3 "are_columns" ["value"] (sp_are_columns K C))
    (m_Menu : MakC P w K mg base 4 (C "Menu") "Menu" ["self", "columns"] (sp_Menu_init K C)) :
    FnOk P w K mg base CX0 6 f fd ["cls", "text"] (sp_Menu_read K C) := by
  refine F.ok sc_Menu_read (fun vs H Q E h => ?_) (fun cdv A outer s H vs Q E hr h => ?_)
  · obtain ⟨W, M, z, _, _, rfl, _⟩ := h; rfl
  · obtain ⟨W, M, z, rfl, rfl, rfl, ok, hz, hp, hf, ha, k⟩ := h
    have C0 : (L2.start ["cls", "text", "parts", "words", "columns", "part", "row"] [V.ref (W.C "Menu"), V.str z])[0]? = some (some (V.ref (W.C "Menu"))) := rfl
    have S1 : Sl W M (L2.start ["cls", "text", "parts", "words", "columns", "part", "row"] [V.ref (W.C "Menu"), V.str z]) H 1 z := ⟨_, rfl, rep_str⟩
    have hn : (Txt.split z "; ").length ≤ 1000 := by have := hf.1; unfold textCols at this; rwa [List.length_map] at this
    have hq : (textCols z).map toQ = (((Txt.split z "; ").map fun p => Txt.split p " ").map fun row => ((row.headD Str.empty, row.drop 1) : Col)).map toQ := by unfold textCols; simp only [List.map_map]; rfl
    refine ⟨_, (pss_cons (ps_set (i := 2) sc_Menu_read.nd rfl (.inl rfl) (pe_ifExp (pt_val (pe_callB call_isi (by rfl) bt.isinstance_ (by decide +kernel) (pa_cons (pv 1) (pa_cons (pe_bltn (v := .ty "str") (by rfl) bt.str_ (by decide +kernel) rfl) pa_nil)))) (peSplit (pv 1) pe_str) (pe_lst pa_nil)))
      (pss_cons (ps_setLc (i := 3) (own := [("part", 5)]) (g := gName 5) rfl sc_Menu_read.nd rfl rfl (sw_true rfl rfl rfl (by decide +kernel)) (pi_list (pv 2)) (blkOk_by (own := [("part", 5)]) (N := ["cls", "text", "parts", "words", "columns", "part", "row"]) (sc := defScope s_Menu_read) (by decide +kernel)) (fun _ _ _ _ _ => (pg_name (i := 5) sc_Menu_read.nd rfl (Or.inl rfl))) (fun _ _ _ _ _ => pts_nil) (fun _ _ _ _ _ => (peSplit (pv 5) pe_str)))
      (pss_cons (ps_setLc (i := 4) (own := [("row", 6)]) (g := gName 6) rfl sc_Menu_read.nd rfl rfl (sw_true rfl rfl rfl (by decide +kernel)) (pi_list (pv 3)) (blkOk_by (own := [("row", 6)]) (N := ["cls", "text", "parts", "words", "columns", "part", "row"]) (sc := defScope s_Menu_read) (by decide +kernel)) (fun _ _ _ _ _ => (pg_name (i := 6) sc_Menu_read.nd rfl (Or.inl rfl))) (fun _ _ _ _ _ => pts_nil) (fun _ _ _ _ _ => (PE.to (pe_tup (pa_cons (pe_ix ix_list (pv 6) pe_int (fun _ _ => rfl)) (pa_cons (pe_slice sl_list (pv 6) (po_some pe_int) po_none) pa_nil))) (by dsimp only [Cx.blk] <;> rfl))))
      (pss_cons (ps_if (pt_not (pt_val (pe_call c_are_columns.ok (by exact hr.mono (by decide)) (by rfl) c_are_columns.gl c_are_columns.kp c_are_columns.b .nil pass0 (pa_cons (pv 4) pa_nil)))) (pss_one ps_never) pss_nil)
      (pss_one (ps_ret (pe_makeL (i := 0) m_Menu.mo m_Menu.ok (by exact hr.mono (by decide)) m_Menu.b (pa_cons (pv 4) pa_nil)))))))), ?_⟩
    refine s_set ok ((ev_ife (y := ([] : List Str)) (et_b (ev_isStr (ev_var S1))) (fun _ => ev_split (ev_var S1) ev_str (by decide +kernel) (by omega)) (fun z => nomatch z)).is (x' := Txt.split z "; ") rfl) fun v1 H1 e1 ok1 r1 => ?_
    have S2 := Sl.hr (k := 2) (σ := L2.start ["cls", "text", "parts", "words", "columns", "part", "row"] [V.ref (W.C "Menu"), V.str z]) r1
    refine s_set ok1 (ev_lc (f := fun p => Txt.split p " ") (ei_list (ev_var S2)) (by omega) (by decide) fun i p v M' H' hi l r => ev_split (ev_var (Sl.me r)) ev_str (by decide +kernel) (by have := (hp p (List.mem_of_getElem? hi)).1; omega)) fun v2 H2 e2 ok2 r2 => ?_
    have S3 := Sl.hr (k := 3) (σ := (L2.start ["cls", "text", "parts", "words", "columns", "part", "row"] [V.ref (W.C "Menu"), V.str z]).set 2 (some v1)) r2
    refine s_set ok2 (ev_lc (f := fun row : List Str => ((row.headD Str.empty, row.drop 1) : Col)) (ei_list (ev_var S3)) (by rw [List.length_map]; omega) (by decide) fun i row v M' H' hi l r => ev_pair (ev_ixL (ev_var (Sl.me r)) ev_int ?_) ((ev_slL (ev_var (Sl.me r)) (eo_some ev_int) eo_none).is cutG_from)) fun v3 H3 e3 ok3 r3 => ?_
    · obtain ⟨p, hp', rfl⟩ := List.mem_map.mp (List.mem_of_getElem? hi)
      have hne := (hp p hp').2
      cases hs : Txt.split p " " with
      | nil => exact absurd hs hne
      | cons a t => exact atI_getD Str.empty (by decide) (by rw [List.length_cons]; omega)
    have S4 : Sl W M (((((L2.start ["cls", "text", "parts", "words", "columns", "part", "row"] [V.ref (W.C "Menu"), V.str z]).set 2 (some v1)).set 3 (some v2)).set 4 (some v3))) H3 4 (Sq.mk ((textCols z).map toQ)) := Sl.hr (by rw [hq]; exact r3.colsQ)
    have hfq : Fair (((Sq.mk ((textCols z).map toQ)).l).map unQ) := by rw [unQ_map]; exact hf
    have haq : areCols (((Sq.mk ((textCols z).map toQ)).l).map unQ) = true := by rw [unQ_map]; exact ha
    refine s_no ok3 (et_not (b := true) (et_b ((ev_f1 (x := Sq.mk ((textCols z).map toQ)) (ev_var S4) hfq).is haq))) fun H4 e4 ok4 => ?_
    refine s_ret ok4 ((ev_makeL rfl (ev_make (x := Sq.mk ((textCols z).map toQ)) (ev_var (S4.up e4)) ⟨hfq, haq⟩)).is (x' := Menu.mk (textCols z)) ?_) fun v5 H5 e5 r5 => k v5 H5 ((((e1.trans e2).trans e3).trans e4).trans e5) r5
    show Menu.mk (((textCols z).map toQ).map unQ) = _
    rw [unQ_map]

abbrev s_Menu_init : Stmt := inClass (topS 18) 0
theorem sc_Menu_init : FnScope ["self", "columns", "name", "worths"] ["self", "columns"] (defScope s_Menu_init) := ⟨rfl, rfl, rfl, by decide +kernel, rfl, by decide +kernel, by decide +kernel⟩

theorem ok_Menu_init {f : Addr} {fd : FuncData} (F : Fun K "__init__" "Menu.__init__" s_Menu_init f fd) (bt : Bt mg)
    (c_are_columns : Cal P w K mg base 3 "are_columns" ["value"] (sp_are_columns K C))
    (c_kinds_of : Cal P w K mg base 1 "kinds_of" ["columns"] (sp_kinds_of K C))
    (cl_Menu : Cls K (C "Menu"))
    (n_Menu_own_columns : NoAttr K (C "Menu") "own_columns")
    (n_Menu_own_kinds : NoAttr K (C "Menu") "own_kinds") :
    FnOk P w K mg base CX0 4 f fd ["self", "columns"] (sp_Menu_init K C) := by
  refine F.ok sc_Menu_init (fun vs H Q E h => ?_) (fun cdv A outer s H vs Q E hr h => ?_)
  · obtain ⟨W, M, a, dx, v, z, _, _, rfl, _⟩ := h; rfl
  · obtain ⟨W, M, a, dx, v, z, rfl, rfl, rfl, ok, nb, nbl, nm, ha, r, hz, k⟩ := h
    have S1 : Sl W (a :: dx :: M) (L2.start ["self", "columns", "name", "worths"] [.ref a, v]) H 1 z := ⟨v, rfl, r⟩
    have A0 : (L2.start ["self", "columns", "name", "worths"] [.ref a, v])[0]? = some (some (.ref a)) := rfl
    have hl : z.l.length ≤ 1000 := by simpa using hz.1.1
    have few : Few (((Sq.mk ((z.l.map unQ).map toQ)).l).map unQ) := by rw [unQ_map]; exact areCols_few hz.2
    have ok_ne : ¬ ("own_columns" : Str) = "own_kinds" := by decide +kernel
    refine ⟨_, (pss_cons (ps_if (pt_not (pt_val (pe_call c_are_columns.ok (by exact hr.mono (by decide)) (by rfl) c_are_columns.gl c_are_columns.kp c_are_columns.b .nil pass0 (pa_cons (pv 1) pa_nil)))) (pss_one ps_never) pss_nil)
      (pss_cons (ps_fld (pv 0) (pe_callTy cTupOf (by rfl) bt.tuple_ (by decide +kernel) (pa_cons (pe_lc (own := [("name", 2), ("worths", 3)]) (g := gPair W.K 2 3) rfl sc_Menu_init.nd (pi_seq (pv 1)) (blkOk_by (own := [("name", 2), ("worths", 3)]) (N := ["self", "columns", "name", "worths"]) (sc := defScope s_Menu_init) (by decide +kernel)) (fun _ _ _ _ _ => (pg_tup rfl (pgs_cons (pg_name (i := 2) sc_Menu_init.nd rfl (Or.inl rfl)) (pgs_cons (pg_name (i := 3) sc_Menu_init.nd rfl (Or.inl rfl)) pgs_nil)))) (fun _ _ _ _ _ => pts_nil) (fun _ _ _ _ _ => (PE.to (pe_tup (pa_cons (pv 2) (pa_cons (pe_callTy cTupOf (by rfl) bt.tuple_ (by decide +kernel) (pa_cons (pv 3) pa_nil)) pa_nil))) (by dsimp only [Cx.blk] <;> rfl)))) pa_nil)) rfl)
      (pss_one (ps_fld (pv 0) (pe_callTy cTupOfF (by rfl) bt.tuple_ (by decide +kernel) (pa_cons (pe_call c_kinds_of.ok (by exact hr.mono (by decide)) (by rfl) c_kinds_of.gl c_kinds_of.kp c_kinds_of.b .nil pass0 (pa_cons (pe_fld (pv 0) rfl) pa_nil)) pa_nil)) rfl)))), ?_⟩
    refine s_no ok (et_not (b := true) (et_b ((ev_f1 (x := z) (ev_var S1) hz.1).is hz.2))) fun H1 e1 ok1 => ?_
    refine s_fld ok1 (x := Tup.mk ((z.l.map unQ).map toT)) ((ev_tuple (ev_lc2 (f := fun c : ColQ => toT (unQ c)) (ei_seq (ev_var (S1.up e1))) (by omega) (by decide) (by decide) fun i c v1 v2 M' H' hi l r1 r2 => ev_pair (ev_var ((Sl.me r1).set Ex.refl)) (ev_tupleQ (ev_var (Sl.hr r2))))).is (by rw [List.map_map]; rfl))
      A0 nb nbl (by simp) (e1.keep a _ nb (by simp) ha) cl_Menu n_Menu_own_columns (by decide) fun v2 H2 e2 ok2 r2 ha2 => ?_
    refine (ev_f1 (x := Sq.mk ((z.l.map unQ).map toQ)) ((ev_fldR A0 nb ha2 cl_Menu n_Menu_own_columns (by rfl) r2).cv fun _ _ r => r.colsTQ) few) H2 Ex.refl ok2 _ fun v3 H3 e3 r3 => ?_
    obtain ⟨p, ys, rfl, hh, _, _, pp⟩ := r3.lst
    refine ⟨p, ys, rfl, SqL.of hh, fun l o hl hc hd => ?_⟩
    have ok3 := ok2.ex e3
    have ha3 := e3.keep a _ nb (by simp) ha2
    have nal : a ≠ l := ne_of_none ha3 hl
    refine ⟨.ref a, A0, a, _, dx, _, rfl, (by rw [upd_ne nal]; exact ha3), cl_Menu, n_Menu_own_kinds, (by show 1 < 1000; decide), ?_⟩
    have en : Ex W (a :: dx :: M) H3 (upd H3 l (.frz o (.tup ys))) := Ex.new hl
    have em : Ex W [a] (upd H3 l (.frz o (.tup ys))) (upd (upd H3 l (.frz o (.tup ys))) a (.ins (W.C "Menu") dx (putF "own_kinds" (.ref l) (putF "own_columns" v2 [])))) := Ex.mut nb nbl (by simp)
    have em' := em.sub (N := a :: dx :: M) (by simp)
    have ef : putF "own_kinds" (.ref l) (putF "own_columns" v2 []) = [(("own_columns" : Str), v2), (("own_kinds" : Str), V.ref l)] := by
      show (if ("own_columns" : Str) = "own_kinds" then _ else _) = _
      rw [if_neg ok_ne]; rfl
    refine k _ (((e1.up.trans e2).trans (e3.up.trans (Ex.new hl))).trans em) ?_
    have hl0 : l ∉ (a :: dx :: M) := ok3.new_M hl
    refine ⟨a, dx, v2, o, l, ys, rfl, cut_some.mpr ⟨nb, nm, ?_⟩, (((r2.up e3).ex en).ex em').less.less, cut_some.mpr ⟨ok3.new_b hl, fun h => hl0 (List.mem_cons_of_mem _ (List.mem_cons_of_mem _ h)), ?_⟩, hc, hd, ?_⟩
    · rw [upd_same, ef]
    · rw [upd_ne nal.symm, upd_same]
    · have : Paired (Rep W M _) ys ((kinds (((Sq.mk ((z.l.map unQ).map toQ)).l).map unQ)).map Tup.mk) := Pd.mono pp fun _ _ r => ((r.ex en).ex em').less.less
      rw [unQ_map] at this
      exact this

abbrev s_law_bag : Stmt := topS 20
theorem sc_law_bag : FnScope ["_law_script"] ["_law_script"] (defScope s_law_bag) := ⟨rfl, rfl, rfl, by decide +kernel, rfl, by decide +kernel, by decide +kernel⟩

theorem ok_law_bag {f : Addr} {fd : FuncData} (F : Fun K "_law_bag" "_law_bag" s_law_bag f fd) (bt : Bt mg) :
    FnOk P w K mg base CX0 1 f fd ["_law_script"] (sp_law_bag K C) := by
  refine F.ok sc_law_bag (fun vs H Q E h => ?_) (fun cdv A outer s H vs Q E hr h => ?_)
  · obtain ⟨a, ns, rfl, _⟩ := h; rfl
  · obtain ⟨a, ns, rfl, hS, k⟩ := h
    refine ⟨_, (pss_one (ps_ret (pe_lst (pa_cons (pe_callTy cListOf (by rfl) bt.list_ (by decide +kernel) (pa_cons (pv 0) pa_nil)) (pa_cons pe_int (pa_cons pe_int (pa_cons pe_int (pa_cons pe_int pa_nil)))))))), ?_⟩
    refine ⟨.ref a, rfl, a, _, rfl, .inl hS, fun l hl => ⟨(by show 5 ≤ sizeLine; decide), fun b hb => ?_⟩⟩
    have nbl : b ≠ l := fun e => by rw [e, upd_same] at hb; cases hb
    have hb0 : H b = none := by rw [upd_ne nbl] at hb; exact hb
    exact k b l _ hb0 hl nbl.symm rfl

abbrev s_law_draw : Stmt := topS 21
theorem sc_law_draw : FnScope ["_law_bag_here", "_law_size", "_law_cell", "_law_digit", "_law_mixed_here"] ["_law_bag_here", "_law_size"] (defScope s_law_draw) := ⟨rfl, rfl, rfl, by decide +kernel, rfl, by decide +kernel, by decide +kernel⟩

theorem ok_law_draw {f : Addr} {fd : FuncData} (F : Fun K "_law_draw" "_law_draw" s_law_draw f fd) (bt : Bt mg) :
    FnOk P w K mg base CX0 1 f fd ["_law_bag_here", "_law_size"] (sp_law_draw K C) := by
  refine F.ok sc_law_draw (fun vs H Q E h => ?_) (fun cdv A outer s H vs Q E hr h => ?_)
  · obtain ⟨W, M, v, z, _, _, rfl, _⟩ := h; rfl
  · obtain ⟨W, M, v, n, rfl, rfl, rfl, ok, r, ⟨h1, h30⟩, k⟩ := h
    cases (show v = .int n from r)
    obtain ⟨i, m, sd, c, hB⟩ := bs_of ok.bag
    have b0 : Bs W (L2.start ["_law_bag_here", "_law_size", "_law_cell", "_law_digit", "_law_mixed_here"] [.ref W.b, .int n]) 0 := rfl
    have n30 : n.natAbs < 2 ^ 100 := by
      have h2 : (n.natAbs : Int) < 10 ^ 30 := by omega
      have h3 : n.natAbs < 10 ^ 30 := by exact_mod_cast h2
      exact Nat.lt_trans h3 (by decide)
    have hdiv : ∀ x, CDivW x n := fun x => wide_div (by omega) n30 (by decide) (by decide)
    have hpow : ∀ x : Int, 0 ≤ x → x < 2147483647 → CPow x 3 ∧ CPow x 2 := fun x h0 h1 => ⟨⟨by decide, by decide, by omega⟩, ⟨by decide, by decide, by omega⟩⟩
    refine ⟨_, (pss_cons (ps_asg (pe_op op_add (pe_ix ix_list (pv 0) pe_int (fun _ _ => rfl)) pe_int) (pg_sub (pv 0) pe_int set_list))
      (pss_cons (ps_if (PW.pt (pw_and (pt_cmpR op_eq (pe_ix ix_list (pv 0) pe_int (fun _ _ => rfl)) pe_int (nomark _)) (pw_and1 (pt_cmpR op_lt (pe_ix ix_list (pv 0) pe_int (fun _ _ => rfl)) (pe_callB cLenS (by rfl) bt.len_ (by decide +kernel) (pa_cons (pe_ix ix_list (pv 0) pe_int (fun _ _ => rfl)) pa_nil)) (nomark _))))) (pss_cons (ps_set (i := 2) sc_law_draw.nd rfl (.inl rfl) (pe_ix ix_list (pe_ix ix_list (pv 0) pe_int (fun _ _ => rfl)) (pe_ix ix_list (pv 0) pe_int (fun _ _ => rfl)) (fun _ _ => rfl)))
      (pss_cons (ps_asg (pe_op op_add (pe_ix ix_list (pv 0) pe_int (fun _ _ => rfl)) pe_int) (pg_sub (pv 0) pe_int set_list))
      (pss_cons (ps_asg (pe_op op_mul (pe_op op_add (pe_op op_mul pe_int (pe_callB cAbs (by rfl) bt.abs_ (by decide +kernel) (pa_cons (pv 2) pa_nil))) (pe_callTy cInt (by rfl) bt.int_ (by decide +kernel) (pa_cons (pe_cmpR op_lt (pv 2) pe_int (nomark _)) pa_nil))) (pe_callTy cInt (by rfl) bt.int_ (by decide +kernel) (pa_cons (pe_cmpR op_ge (pe_callB cAbs (by rfl) bt.abs_ (by decide +kernel) (pa_cons (pv 2) pa_nil)) (pe_op op_pow pe_int pe_int) (nomark _)) pa_nil))) (pg_sub (pv 0) pe_int set_list))
      (pss_one (ps_asg (pe_op op_mod (pe_callTy cInt (by rfl) bt.int_ (by decide +kernel) (pa_cons (pe_op op_add (pe_op op_add (pe_op op_mul (pe_ix ix_list (pv 0) pe_int (fun _ _ => rfl)) pe_int) (pe_op op_mul (pv 2) pe_int)) pe_int) pa_nil)) pe_int) (pg_sub (pv 0) pe_int set_list)))))) pss_nil)
      (pss_cons (ps_set (i := 3) sc_law_draw.nd rfl (.inl rfl) (pe_op op_mod (pe_callTy cInt (by rfl) bt.int_ (by decide +kernel) (pa_cons (pe_ix ix_list (pv 0) pe_int (fun _ _ => rfl)) pa_nil)) (pv 1)))
      (pss_cons (ps_if (pt_cmpR op_gt (pe_ix ix_list (pv 0) pe_int (fun _ _ => rfl)) pe_int (nomark _)) (pss_cons (ps_asg (pe_op op_fdivW (pe_ix ix_list (pv 0) pe_int (fun _ _ => rfl)) (pv 1)) (pg_sub (pv 0) pe_int set_list))
      (pss_one (ps_ret (pv 3)))) pss_nil)
      (pss_cons (ps_set (i := 4) sc_law_draw.nd rfl (.inl rfl) (pe_op op_mod (pe_callTy cInt (by rfl) bt.int_ (by decide +kernel) (pa_cons (pe_op op_add (pe_ix ix_list (pv 0) pe_int (fun _ _ => rfl)) (pe_op op_mul (pe_ix ix_list (pv 0) pe_int (fun _ _ => rfl)) pe_int)) pa_nil)) pe_int))
      (pss_cons (ps_set (i := 4) sc_law_draw.nd rfl (.inl rfl) (pe_op op_mod (pe_callTy cInt (by rfl) bt.int_ (by decide +kernel) (pa_cons (pe_op op_add (pe_op op_add (pe_op op_pow (pv 4) pe_int) (pe_op op_mul (pe_ix ix_list (pv 0) pe_int (fun _ _ => rfl)) pe_int)) pe_int) pa_nil)) pe_int))
      (pss_one (ps_ret (pe_op op_mod (pe_op op_fdivW (pe_op op_mod (pe_callTy cInt (by rfl) bt.int_ (by decide +kernel) (pa_cons (pe_op op_pow (pv 4) pe_int) pa_nil)) pe_int) pe_int) (pv 1)))))))))), ?_⟩
    refine bs_set ok b0 hB (val_I0 (bs_get b0 hB rfl) val_c) rfl rfl hB.2.1 hB.2.2 fun H1 e1 ok1 hB1 => ?_
    refine if_cut (J := fun σ' H' => σ'.length = 5 ∧ Bs W σ' 0 ∧ σ'[1]? = some (some (.int n)) ∧ Ex W [] H H' ∧ Ok W M H' ∧ ∃ i m sd c, BS W H' i m sd c)
      (ans_and2 (ans_eqI (bs_get b0 hB1 rfl) val_c) (ans_t (val_B0 (bs_get b0 hB1 rfl) (val_len (bs_get b0 hB1 rfl) ok1.bls)))) ?_ ?_ ?_
    · rintro σ' H2 ⟨hσ, b2, n2, e2, ok2, i, m, sd, c, hB⟩
      refine st_set (val_I (val_int (bs_get b2 hB rfl)) (val_var n2) (by omega)) ?_
      have b3 : Bs W (σ'.set 3 (some (.int (m % n)))) 0 := b2.set
      have n3 : (σ'.set 3 (some (.int (m % n))))[1]? = some (some (.int n)) := by rw [List.getElem?_set_ne (by decide)]; exact n2
      have d3 : (σ'.set 3 (some (.int (m % n))))[3]? = some (some (.int (m % n))) := by rw [List.getElem?_set_self (by rw [hσ]; decide)]
      have hm := hB.2.2
      by_cases hp : 0 < m
      · refine st_yes ((ans_t (val_B0 (bs_get b3 hB rfl) val_c)).to (decide_eq_true hp)) ?_
        refine bs_set ok2 b3 hB (val_I (bs_get b3 hB rfl) (val_var n3) (hdiv _)) rfl rfl hB.2.1 (Int.ediv_nonneg hm (by omega)) fun H3 e3 ok3 hB3 => ?_
        exact st_ret (val_var d3) (k _ _ _ ⟨Int.emod_nonneg _ (by omega), Int.emod_lt_of_pos _ (by omega)⟩ (e2.trans e3) rep_int)
      · refine st_no ((ans_t (val_B0 (bs_get b3 hB rfl) val_c)).to (decide_eq_false hp)) ?_
        refine st_set (val_I (val_int (val_I0 (bs_get b3 hB rfl) (val_I (bs_get b3 hB rfl) val_c (.inr (by decide))))) val_c (by decide)) ?_
        generalize hx : (sd + c * 40692) % 2147483647 = x
        have hx0 : 0 ≤ x := by rw [← hx]; exact Int.emod_nonneg _ (by decide)
        have hx1 : x < 2147483647 := by rw [← hx]; exact Int.emod_lt_of_pos _ (by decide)
        have b4 := b3.set (k := 4) (v := .int x)
        have n4 : ((σ'.set 3 (some (.int (m % n)))).set 4 (some (.int x)))[1]? = some (some (.int n)) := by rw [List.getElem?_set_ne (by decide)]; exact n3
        have x4 : ((σ'.set 3 (some (.int (m % n)))).set 4 (some (.int x)))[4]? = some (some (.int x)) := by rw [List.getElem?_set_self (by rw [List.length_set, hσ]; decide)]
        refine st_set (val_I (val_int (val_I0 (val_I0 (val_I (val_var x4) val_c (hpow x hx0 hx1).1) (val_I (bs_get b4 hB rfl) val_c (.inr (by decide)))) val_c)) val_c (by decide)) ?_
        generalize hy : (x ^ (3 : Int).toNat + c * 16807 + 7) % 2147483629 = y
        have hy0 : 0 ≤ y := by rw [← hy]; exact Int.emod_nonneg _ (by decide)
        have hy1 : y < 2147483647 := by rw [← hy]; exact Int.lt_trans (Int.emod_lt_of_pos _ (by decide)) (by decide)
        have n5 : (((σ'.set 3 (some (.int (m % n)))).set 4 (some (.int x))).set 4 (some (.int y)))[1]? = some (some (.int n)) := by rw [List.getElem?_set_ne (by decide)]; exact n4
        have y5 : (((σ'.set 3 (some (.int (m % n)))).set 4 (some (.int x))).set 4 (some (.int y)))[4]? = some (some (.int y)) := by rw [List.getElem?_set_self (by rw [List.length_set, List.length_set, hσ]; decide)]
        refine st_ret (val_I (val_I (val_I (val_int (val_I (val_var y5) val_c (hpow y hy0 hy1).2)) val_c (by decide)) val_c ⟨by decide, by decide⟩) (val_var n5) (by omega)) (k _ _ _ ⟨Int.emod_nonneg _ (by omega), Int.emod_lt_of_pos _ (by omega)⟩ e2 rep_int)
    · intro hJ hb
      have hi : i < (W.ns.map V.int).length := by
        simp only [Bool.and_eq_true, decide_eq_true_eq] at hb
        exact hb.2
      obtain ⟨cell, hc⟩ := ns_at hB1.2.1 hi
      refine st_set (val_ix (bs_get b0 hB1 rfl) (bs_get b0 hB1 rfl) ok1.bls hc) ?_
      have b2 := b0.set (k := 2) (v := .int cell)
      have c2 : ((L2.start ["_law_bag_here", "_law_size", "_law_cell", "_law_digit", "_law_mixed_here"] [.ref W.b, .int n]).set 2 (some (.int cell)))[2]? = some (some (.int cell)) := rfl
      refine bs_set ok1 b2 hB1 (val_I0 (bs_get b2 hB1 rfl) val_c) rfl rfl (by have := hB1.2.1; omega) hB1.2.2 fun H2 e2 ok2 hB2 => ?_
      refine bs_set ok2 b2 hB2 (val_I (val_I0 (val_I val_c (val_abs (val_var c2)) (.inl (by decide))) (val_intB (val_B0 (val_var c2) val_c))) (val_intB (val_B0 (val_abs (val_var c2)) (val_I val_c val_c ⟨by decide, by decide, by decide⟩))) (.inr (if01 _).2)) rfl rfl hB2.2.1 ?_ fun H3 e3 ok3 hB3 => ?_
      · refine Int.mul_nonneg (Int.add_nonneg (Int.mul_nonneg (by decide) ?_) ?_) ?_
        · split <;> omega
        · exact (if01 _).1
        · exact (if01 _).1
      refine bs_set ok3 b2 hB3 (val_I (val_int (val_I0 (val_I0 (val_I (bs_get b2 hB3 rfl) val_c (.inr (by decide))) (val_I (val_var c2) val_c (.inr (by decide)))) val_c)) val_c (by decide)) rfl rfl hB3.2.1 hB3.2.2 fun H4 e4 ok4 hB4 => ?_
      exact hJ _ _ ⟨rfl, b2, rfl, ((e1.trans e2).trans e3).trans e4, ok4, _, _, _, _, hB4⟩
    · exact fun _ => ⟨rfl, b0, rfl, e1, ok1, _, _, _, _, hB1⟩

abbrev s_law_pick : Stmt := topS 22
theorem sc_law_pick : FnScope ["_law_bag_here", "_law_items"] ["_law_bag_here", "_law_items"] (defScope s_law_pick) := ⟨rfl, rfl, rfl, by decide +kernel, rfl, by decide +kernel, by decide +kernel⟩

theorem ok_law_pick (α : Type) [Py α] {f : Addr} {fd : FuncData} (F : Fun K "_law_pick" "_law_pick" s_law_pick f fd) (bt : Bt mg)
    (c_law_draw : Cal P w K mg base 1 "_law_draw" ["_law_bag_here", "_law_size"] (sp_law_draw K C)) :
    FnOk P w K mg base CX0 2 f fd ["_law_bag_here", "_law_items"] (spPick α K C) := by
  refine F.ok sc_law_pick (fun vs H Q E h => ?_) (fun cdv A outer s H vs Q E hr h => ?_)
  · obtain ⟨W, M, v, z, _, _, rfl, _⟩ := h; rfl
  · obtain ⟨W, M, v, xs, rfl, rfl, rfl, ok, r, ⟨h1, h2⟩, k⟩ := h
    have b0 : Bs W (L2.start ["_law_bag_here", "_law_items"] [.ref W.b, v]) 0 := rfl
    have S1 : Sl W M (L2.start ["_law_bag_here", "_law_items"] [.ref W.b, v]) H 1 xs := ⟨v, rfl, r⟩
    refine ⟨_, (pss_one (ps_ret (pe_ix ix_list (pv 1) (pe_call c_law_draw.ok (by exact hr.mono (by decide)) (by rfl) c_law_draw.gl c_law_draw.kp c_law_draw.b .nil pass0 (pa_cons (pv 0) (pa_cons (pe_callB cLenS (by rfl) bt.len_ (by decide +kernel) (pa_cons (pv 1) pa_nil)) pa_nil))) (fun _ _ => rfl)))), ?_⟩
    exact s_retR ok (evr_ixL (ev_var S1) (evr_b1 b0 (ev_lenL (ev_var S1)) ⟨by omega, by omega⟩) fun n hn => atI_mem hn.1 hn.2) fun v x H' px e r => k v x H' px e r

abbrev s_law_mixed : Stmt := topS 23
theorem sc_law_mixed : FnScope ["_law_bag_here", "_law_items", "_law_left", "_law_found", "_law_k"] ["_law_bag_here", "_law_items"] (defScope s_law_mixed) := ⟨rfl, rfl, rfl, by decide +kernel, rfl, by decide +kernel, by decide +kernel⟩

theorem ok_law_mixed (α : Type) [Py α] {f : Addr} {fd : FuncData} (F : Fun K "_law_mixed" "_law_mixed" s_law_mixed f fd) (bt : Bt mg)
    (c_law_draw : Cal P w K mg base 1 "_law_draw" ["_law_bag_here", "_law_size"] (sp_law_draw K C)) :
    FnOk P w K mg base CX0 2 f fd ["_law_bag_here", "_law_items"] (spMixed α K C) := by
  refine F.ok sc_law_mixed (fun vs H Q E h => ?_) (fun cdv A outer s H vs Q E hr h => ?_)
  · obtain ⟨W, M, v, z, _, _, rfl, _⟩ := h; rfl
  · obtain ⟨W, M, v, xs, rfl, rfl, rfl, ok, r, hl, k⟩ := h
    have b0 : Bs W (L2.start ["_law_bag_here", "_law_items", "_law_left", "_law_found", "_law_k"] [.ref W.b, v]) 0 := rfl
    have S1 : Sl W M (L2.start ["_law_bag_here", "_law_items", "_law_left", "_law_found", "_law_k"] [.ref W.b, v]) H 1 xs := ⟨v, rfl, r⟩
    refine ⟨_, (pss_cons (ps_set (i := 2) sc_law_mixed.nd rfl (.inl rfl) (pe_callTy cListOf (by rfl) bt.list_ (by decide +kernel) (pa_cons (pv 1) pa_nil)))
      (pss_cons (ps_set (i := 3) sc_law_mixed.nd rfl (.inl rfl) (pe_lst pa_nil))
      (pss_cons (ps_for PassesOwn.never rfl (pi_range1 (by rfl) bt.range_ (pa_cons (pe_callB cLenS (by rfl) bt.len_ (by decide +kernel) (pa_cons (pv 1) pa_nil)) pa_nil)) (pg_name (i := 4) sc_law_mixed.nd rfl (Or.inl rfl))
      (pss_one (ps_expr (pe_bm PySem.F.plainAttrs_list PySem.F.slot_list_append PySem.F.type_list_append mt_append (pv 3) (pa_cons (pe_bm PySem.F.plainAttrs_list PySem.F.slot_list_pop PySem.F.type_list_pop mt_popAt (pv 2) (pa_cons (pe_call c_law_draw.ok (by exact hr.mono (by decide)) (by rfl) c_law_draw.gl c_law_draw.kp c_law_draw.b .nil pass0 (pa_cons (pv 0) (pa_cons (pe_callB cLenS (by rfl) bt.len_ (by decide +kernel) (pa_cons (pv 2) pa_nil)) pa_nil))) pa_nil)) pa_nil)))))
      (pss_one (ps_ret (pv 3)))))), ?_⟩
    refine s_list ok (ev_var S1) (by show 2 < 5; decide) fun p H1 hp e1 l1 ok1 A1 => ?_
    refine s_new2 (α := α) ok1 (by show 3 < 5; decide) fun q H2 hq e2 l2 ok2 A2 => ?_
    have hpq : q ≠ p := fun e => by rw [e] at hq; exact ok1.laid p (by simp) hq
    have hq0 : H q = none := e1.free hq
    have pm : p ∉ M := ok.new_M hp
    have qm : q ∉ M := ok.new_M hq0
    have A1' : Acc W (q :: p :: M) ((((L2.start ["_law_bag_here", "_law_items", "_law_left", "_law_found", "_law_k"] [.ref W.b, v]).set 2 (some (.ref p)))).set 3 (some (.ref q))) H2 2 p xs := by
      refine (A1.setσ (l := 3)).le ?_ (by simp) l2
      obtain ⟨vs, hh, _⟩ := A1.it
      rw [e2.keep p _ A1.nb (by simp) hh, hh]
    have sub : ∀ a ∈ M, a ∈ q :: p :: M := fun a h => by simp [h]
    have S1' : Sl W (q :: p :: M) _ H2 1 xs := ((S1.le (l1.trans l2)).set (k := 2) (v := .ref p) Ex.refl).set (k := 3) (v := .ref q) Ex.refl
    refine for_w ok2 (ei_range (ev_lenL (ev_var S1')) (by omega) (by omega)) (fun i σ' H' => Ex W [] H H' ∧ Bs W σ' 0 ∧ ∃ ys zs, Acc W (q :: p :: M) σ' H' 3 q ys ∧ Acc W (q :: p :: M) σ' H' 2 p zs ∧ (ys ++ zs).Perm xs ∧ ys.length = i)
      (fun H' e => ⟨(e1.trans e2).trans e, b0, [], xs, A2.up e, A1'.up e, List.Perm.refl _, rfl⟩) ?_ ?_
    · rintro i x v σ' H' hi ⟨e0, b, ys, zs, AF, AL, pm', hy⟩ ok' H'' e'' r N hN
      have ok'' := ok'.ex e''
      have AF' := (AF.up e'').setσ (l := 4) (v := v)
      have AL' := (AL.up e'').setσ (l := 4) (v := v)
      have hin : i < xs.length := by
        have := (List.getElem?_eq_some_iff.mp hi).1
        rw [rng_len] at this
        omega
      have hz : ys.length + zs.length = xs.length := by rw [← pm'.length_eq, List.length_append]
      refine s_appPop ok'' AF' AL' hpq (by omega) (by omega) ((evr_b1 (b.set (k := 4)) (ev_lenL (ev_var (AL'.out sub pm))) ⟨by omega, by omega⟩).sc sub) fun j y H3 hj e3 e3' ok3 AF3 AL3 => ?_
      exact hN _ _ ⟨e3' H M (e0.trans e'') ok hq0 hp, b.set, _, _, AF3, AL3, perm_pop pm' hj, by rw [List.length_append, hy]; rfl⟩ e3
    · rintro σ' H' ⟨e0, b, ys, zs, AF, AL, pm', hy⟩ ok'
      rw [rng_len] at hy
      have hz : ys.length + zs.length = xs.length := by rw [← pm'.length_eq, List.length_append]
      have hz0 : zs = [] := List.eq_nil_of_length_eq_zero (by omega)
      subst hz0
      rw [List.append_nil] at pm'
      exact s_ret (ok'.sub sub) (ev_var (AF.out sub qm)) fun v H3 e3 r => k v ys H3 pm' (e0.trans e3) r

abbrev s_law_names : Stmt := topS 24
theorem sc_law_names : FnScope ["_law_bag_here", "_law_count", "_law_words", "_law_letters", "_law_size", "_law_stem", "_law_where", "_law_shift", "_law_longer", "_law_names_here", "_law_k", "_law_name", "_law_spot", "_law_word"] ["_law_bag_here", "_law_count", "_law_words"] (defScope s_law_names) := ⟨rfl, rfl, rfl, by decide +kernel, rfl, by decide +kernel, by decide +kernel⟩

theorem ok_law_names {f : Addr} {fd : FuncData} (F : Fun K "_law_names" "_law_names" s_law_names f fd) (bt : Bt mg)
    (c_law_draw : Cal P w K mg base 1 "_law_draw" ["_law_bag_here", "_law_size"] (sp_law_draw K C)) :
    FnOk P w K mg base CX0 2 f fd ["_law_bag_here", "_law_count", "_law_words"] (sp_law_names K C) := by
  refine F.ok sc_law_names (fun vs H Q E h => ?_) (fun cdv A outer s H vs Q E hr h => ?_)
  · obtain ⟨W, M, v, u, z, d, _, _, rfl, _⟩ := h; rfl
  · obtain ⟨W, M, v, u, count, words, rfl, rfl, rfl, ok, r, rw_, ⟨hc1, hc2, hw1, hw2, hw3⟩, k⟩ := h
    cases (show v = .int count from r)
    have lets : (tl lettersS).length = 26 := by rw [letters_tl]; rfl
    have letl : lettersS.length = 26 := by rw [len_tl, lets]
    have key : ∀ n : Int, 0 ≤ n ∧ n < 26 → ∃ c, atI lettersS.cps.toList n = some c ∧ ∃ c', (⟨#[c]⟩ : Str) = ⟨#[c']⟩ ∧ isL c' := fun n hn => ⟨_, letter_at hn.1 hn.2, _, rfl, by unfold isL; omega⟩
    refine ⟨_, (pss_cons (ps_set (i := 3) sc_law_names.nd rfl (.inr rfl) pe_str)
      (pss_cons (ps_set (i := 4) sc_law_names.nd rfl (.inl rfl) (pe_ix ix_list (pe_lst (pa_cons pe_int (pa_cons pe_int (pa_cons pe_int (pa_cons pe_int (pa_cons pe_int pa_nil)))))) (pe_call c_law_draw.ok (by exact hr.mono (by decide)) (by rfl) c_law_draw.gl c_law_draw.kp c_law_draw.b .nil pass0 (pa_cons (pv 0) (pa_cons pe_int pa_nil))) (fun _ _ => rfl)))
      (pss_cons (ps_set (i := 5) sc_law_names.nd rfl (.inl rfl) (peJoin pe_str (pe_lc (own := [("_law_k", 10)]) (g := gName 10) rfl sc_law_names.nd (pi_range1 (by rfl) bt.range_ (pa_cons (pv 4) pa_nil)) (blkOk_by (own := [("_law_k", 10)]) (N := ["_law_bag_here", "_law_count", "_law_words", "_law_letters", "_law_size", "_law_stem", "_law_where", "_law_shift", "_law_longer", "_law_names_here", "_law_k", "_law_name", "_law_spot", "_law_word"]) (sc := defScope s_law_names) (by decide +kernel)) (fun _ _ _ _ _ => (pg_name (i := 10) sc_law_names.nd rfl (Or.inl rfl))) (fun _ _ _ _ _ => pts_nil) (fun _ _ _ _ _ => (PE.to (pe_ix ix_str (pv 3) (pe_call c_law_draw.ok (by exact hr.mono (by decide)) (by rfl) c_law_draw.gl c_law_draw.kp c_law_draw.b .nil pass0 (pa_cons (pv 0) (pa_cons pe_int pa_nil))) (fun _ _ => rfl)) (by dsimp only [Cx.blk] <;> rfl))))))
      (pss_cons (ps_set (i := 6) sc_law_names.nd rfl (.inl rfl) (pe_call c_law_draw.ok (by exact hr.mono (by decide)) (by rfl) c_law_draw.gl c_law_draw.kp c_law_draw.b .nil pass0 (pa_cons (pv 0) (pa_cons (pe_op op_add (pv 4) pe_int) pa_nil))))
      (pss_cons (ps_set (i := 7) sc_law_names.nd rfl (.inl rfl) (pe_call c_law_draw.ok (by exact hr.mono (by decide)) (by rfl) c_law_draw.gl c_law_draw.kp c_law_draw.b .nil pass0 (pa_cons (pv 0) (pa_cons pe_int pa_nil))))
      (pss_cons (ps_set (i := 8) sc_law_names.nd rfl (.inl rfl) (pe_call c_law_draw.ok (by exact hr.mono (by decide)) (by rfl) c_law_draw.gl c_law_draw.kp c_law_draw.b .nil pass0 (pa_cons (pv 0) (pa_cons pe_int pa_nil))))
      (pss_cons (ps_set (i := 9) sc_law_names.nd rfl (.inl rfl) (pe_lst pa_nil))
      (pss_cons (ps_for PassesOwn.never rfl (pi_range1 (by rfl) bt.range_ (pa_cons (pv 1) pa_nil)) (pg_name (i := 10) sc_law_names.nd rfl (Or.inl rfl))
      (pss_cons (ps_set (i := 11) sc_law_names.nd rfl (.inl rfl) (pe_op op_add_str (pe_op op_add_str (pe_slice sl_str (pv 5) po_none (po_some (pv 6))) (pe_ix ix_str (pv 3) (pe_op op_mod (pe_callTy cInt (by rfl) bt.int_ (by decide +kernel) (pa_cons (pe_op op_add (pv 7) (pe_op op_mul pe_int (pv 10))) pa_nil)) pe_int) (fun _ _ => rfl))) (pe_slice sl_str (pv 5) (po_some (pv 6)) po_none)))
      (pss_one (ps_expr (pe_bm PySem.F.plainAttrs_list PySem.F.slot_list_append PySem.F.type_list_append mt_append (pv 9) (pa_cons (pe_op op_add_str (pv 11) (pe_op op_mulS (pe_ix ix_str (pv 3) (pv 7) (fun _ _ => rfl)) (pe_callTy cInt (by rfl) bt.int_ (by decide +kernel) (pa_cons (pe_cmpR op_eq (pe_op op_mod (pe_callTy cInt (by rfl) bt.int_ (by decide +kernel) (pa_cons (pv 10) pa_nil)) pe_int) (pv 8) (nomark _)) pa_nil)))) pa_nil))))))
      (pss_cons (ps_if (PW.pt (pw_and (pt_cmpR op_gt (pv 1) pe_int (nomark _)) (pw_and (pt_cmpR op_lt (pv 4) pe_int (nomark _)) (pw_and1 (pt_cmpR op_eq (pv 8) pe_int (nomark _)))))) (pss_one (ps_asg (pe_op op_add_str (pe_ix ix_list (pv 9) pe_int (fun _ _ => rfl)) (pe_ix ix_str (pv 3) (pe_call c_law_draw.ok (by exact hr.mono (by decide)) (by rfl) c_law_draw.gl c_law_draw.kp c_law_draw.b .nil pass0 (pa_cons (pv 0) (pa_cons pe_int pa_nil))) (fun _ _ => rfl))) (pg_sub (pv 9) pe_int set_list))) pss_nil)
      (pss_cons (ps_set (i := 12) sc_law_names.nd rfl (.inl rfl) (pe_call c_law_draw.ok (by exact hr.mono (by decide)) (by rfl) c_law_draw.gl c_law_draw.kp c_law_draw.b .nil pass0 (pa_cons (pv 0) (pa_cons (pe_op op_mul pe_int (pv 1)) pa_nil))))
      (pss_cons (ps_set (i := 13) sc_law_names.nd rfl (.inl rfl) (pe_ix ix_list (pv 2) (pe_call c_law_draw.ok (by exact hr.mono (by decide)) (by rfl) c_law_draw.gl c_law_draw.kp c_law_draw.b .nil pass0 (pa_cons (pv 0) (pa_cons (pe_callB cLenS (by rfl) bt.len_ (by decide +kernel) (pa_cons (pv 2) pa_nil)) pa_nil))) (fun _ _ => rfl)))
      (pss_cons (ps_if (PW.pt (pw_and (pt_cmpR op_lt (pv 12) (pv 1) (nomark _)) (pw_and1 (pt_cmpR (op_notInE (by exact u65 hr)) (pv 13) (pv 9) (by rfl))))) (pss_one (ps_asg (pv 13) (pg_sub (pv 9) (pv 12) set_list))) pss_nil)
      (pss_one (ps_ret (pv 9))))))))))))))), ?_⟩
    have b0 : Bs W [some (.ref W.b), some (.int count), some u, none, none, none, none, none, none, none, none, none, none, none] 0 := rfl
    have S2 : Sl W M [some (.ref W.b), some (.int count), some u, none, none, none, none, none, none, none, none, none, none, none] H 2 words := ⟨u, rfl, rw_⟩
    refine s_set ok (ev_str (s := lettersS)) fun v3 H1 e1 ok1 r3 => ?_
    cases (show v3 = .str lettersS from r3)
    refine s_setR ok1 (P := fun n : Int => 0 ≤ n ∧ n ≤ 6) (evr_ixL (ev_lst (xs := [0, 1, 2, 3, 6]) (ea_cons ev_int (ea_cons ev_int (ea_cons ev_int (ea_cons ev_int (ea_cons ev_int ea_nil))))) (by decide)) (evr_b1 bsr ev_int ⟨by decide, by decide⟩) fun n hn => ?_) fun v4 size H2 hs e2 ok2 r4 => ?_
    · obtain ⟨x, hx, hm⟩ := atI_mem (xs := [0, 1, 2, 3, (6 : Int)]) hn.1 hn.2
      refine ⟨x, hx, ?_⟩
      simp only [List.mem_cons, List.not_mem_nil, or_false] at hm
      omega
    cases (show v4 = .int size from r4)
    refine s_setR ok2 (P := fun z : Str => ((tl z).length : Int) = size ∧ ∀ c ∈ tl z, isL c) (evr_join ev_str (evr_lc (R := fun _ (z : Str) => ∃ c, z = ⟨#[c]⟩ ∧ isL c) (ei_range (ev_vi) (by omega) (by omega)) (by rw [rng_len]; omega) (by decide)
      fun i x v M' H' hi l r => evr_ixS (ev_vs) (evr_b1 bsr ev_int ⟨by decide, by decide⟩) (by rw [letl]; decide) key) fun parts hp => ?_) fun v5 stem H3 hst e3 ok3 r5 => ?_
    · have hlen : parts.length = size.toNat := by rw [← Pd.length hp, rng_len]
      have hall : ∀ p ∈ parts, ∃ c, p = ⟨#[c]⟩ ∧ isL c := fun p hp' => by
        obtain ⟨j, hj⟩ := List.mem_iff_getElem?.mp hp'
        obtain ⟨x, _, h⟩ := Pd.get hp hj
        exact h
      obtain ⟨q1, q2⟩ := stem_tl hall
      refine ⟨Nat.le_trans (join_le (n := 1) fun p hp' => ?_) ?_, by rw [q1, hlen]; omega, q2⟩
      · obtain ⟨c, rfl, _⟩ := hall p hp'; exact Nat.le_refl _
      · rw [hlen]
        exact Nat.le_trans (Nat.mul_le_mul_right _ (show size.toNat ≤ 6 by omega)) (by decide)
    cases (show v5 = .str stem from r5)
    refine s_setR ok3 (evr_b1 bsr (ev_I0 (ev_vi) ev_int) ⟨by omega, by omega⟩) fun v6 wh H4 hwh e4 ok4 r6 => ?_
    cases (show v6 = .int wh from r6)
    refine s_setR ok4 (evr_b1 bsr ev_int ⟨by decide, by decide⟩) fun v7 sh H5 hsh e5 ok5 r7 => ?_
    cases (show v7 = .int sh from r7)
    refine s_setR ok5 (evr_b1 bsr ev_int ⟨by decide, by decide⟩) fun v8 lg H6 hlg e6 ok6 r8 => ?_
    cases (show v8 = .int lg from r8)
    have nok : NmOk stem size wh sh lg := ⟨hst.1, hst.2, hs.2, hwh.1, by omega, hsh.1, hsh.2⟩
    have e06 : Ex W [] H H6 := ((((e1.trans e2).trans e3).trans e4).trans e5).trans e6
    refine s_new2 (α := Str) ok6 (by show 9 < 14; decide) fun p H7 hp e7 l7 ok7 A7 => ?_
    have pm : p ∉ M := ok6.new_M hp
    have hp0 : H p = none := e06.free hp
    have sub : ∀ a ∈ M, a ∈ p :: M := fun a h => by simp [h]
    have hst6 : stem.length ≤ 6 := by rw [len_tl]; have := hst.1; omega
    have S2N : ∀ H', Ex W [] H H' → Rep W M H' u words := fun H' e => rw_.up e
    refine for_w ok7 (ei_range ev_vi (by omega) (by omega)) (fun i σ' H' => Ex W [] H H' ∧ ∃ v10 v11, σ' = [some (.ref W.b), some (.int count), some u, some (.str lettersS), some (.int size), some (.str stem), some (.int wh), some (.int sh), some (.int lg), some (.ref p), v10, v11, none, none] ∧ Acc W (p :: M) σ' H' 9 p (nms stem wh sh lg i))
      (fun H' e => ⟨(e06.trans e7).trans e, none, none, rfl, A7.up e⟩) ?_ ?_
    · rintro i x v σ' H' hi ⟨e0, v10, v11, rfl, A⟩ ok' H'' e'' r N hN
      have ok'' := ok'.ex e''
      have hi' := hi
      have hin : i < count.toNat := by have := (List.getElem?_eq_some_iff.mp hi).1; rwa [rng_len] at this
      rw [rng_at hin] at hi'
      cases hi'
      cases (show v = .int (i : Int) from r)
      have hmod : 0 ≤ (sh + 7 * (i : Int)) % 26 ∧ (sh + 7 * (i : Int)) % 26 < 26 := by omega
      have c1 : (cutS stem none (some wh)).length ≤ 6 := Nat.le_trans cut_len hst6
      have c2 : (cutS stem (some wh) none).length ≤ 6 := Nat.le_trans cut_len hst6
      refine s_set ok'' (ev_addS (ev_addS (ev_slS ev_vs eo_none (eo_some ev_vi) (by omega)) (ev_ixS (n := (sh + 7 * (i : Int)) % 26) ev_vs (ev_I (ev_intI (ev_I0 ev_vi (ev_I ev_int ev_vi (.inl (by decide))))) ev_int (by decide)) (by rw [letl]; decide) (letter_at hmod.1 hmod.2)) ?_) (ev_slS ev_vs (eo_some ev_vi) eo_none (by omega)) ?_) fun v11' H3 e3 ok3 r11 => ?_
      · show _ + 1 ≤ _; omega
      · rw [len_tl, tl_append, List.length_append, ← len_tl]; show _ + 1 + _ ≤ _; omega
      cases (show v11' = .str _ from r11)
      have A3 := ((A.up (e''.trans e3)).setσ (l := 10) (v := .int (i : Int))).setσ (l := 11) (v := .str (cutS stem none (some wh) ++ (⟨#[97 + ((sh + 7 * (i : Int)) % 26).toNat]⟩ : Str) ++ cutS stem (some wh) none))
      refine s_app (N := M) ok3 A3 (by unfold nms; rw [List.length_map, List.length_range]; omega) ((ev_addS (ev_vs (n := cutS stem none (some wh) ++ (⟨#[97 + ((sh + 7 * (i : Int)) % 26).toNat]⟩ : Str) ++ cutS stem (some wh) none)) (ev_mulS (b := decide ((i : Int) % 3 = lg)) (ev_ixS ev_vs ev_vi (by rw [letl]; decide) (letter_at hsh.1 hsh.2)) (ev_intB (ev_eq (ev_I (ev_intI ev_vi) ev_int (by decide)) ev_vi))) ?_).is (x' := nm stem wh sh lg (i : Int)) ?_) fun H4 e4 e4' ok4 A4 => ?_
      · rw [len_tl, tl_append, tl_append, List.length_append, List.length_append, ← len_tl, ← len_tl, ← len_tl]
        have : (if decide ((i : Int) % 3 = lg) = true then (⟨#[97 + sh.toNat]⟩ : Str) else Str.empty).length ≤ 1 := by split; exact Nat.le_refl 1; exact Nat.zero_le 1
        show _ + 1 + _ + _ ≤ _
        omega
      · unfold nm
        by_cases h3 : (i : Int) % 3 = lg
        · rw [if_pos h3, if_pos (decide_eq_true h3)]
        · rw [if_neg h3, if_neg (by rw [decide_eq_false h3]; exact Bool.false_ne_true)]
      · rw [← nms_succ] at A4
        exact hN _ _ ⟨e4' H ((e0.trans e'').trans e3) ok hp0, _, _, rfl, A4⟩ (e3.up.trans e4)
    rintro σ' H' ⟨e0, v10, v11, rfl, A⟩ ok'
    rw [rng_len] at A
    have hcn : ((count.toNat : Nat) : Int) = count := by omega
    have N0 := nok.all (n := count.toNat) (by omega) words
    rw [hcn] at N0
    have okM := ok'.sub sub
    have hl0 : ∀ L, NamesOk count words L → ∀ z ∈ L, z.length ≤ 1000 := fun L hL z hz => by
      rcases hL.2.2 z hz with h | h
      · have := (isName_is h).2.1; rw [len_tl]; omega
      · exact hw3 z h
    refine s_ifc (J := fun σ' H' => Ex W [] H H' ∧ Ok W (p :: M) H' ∧ ∃ L, σ' = [some (.ref W.b), some (.int count), some u, some (.str lettersS), some (.int size), some (.str stem), some (.int wh), some (.int sh), some (.int lg), some (.ref p), v10, v11, none, none] ∧ Acc W (p :: M) σ' H' 9 p L ∧ NamesOk count words L)
      okM (et_and (et_t (ev_B0 ev_vi ev_int)) fun _ => et_and (et_t (ev_B0 ev_vi ev_int)) fun _ => et_t (ev_eq ev_vi ev_int)) ?_ ?_ ?_
    · rintro σ' H8 ⟨e8, ok8, L, rfl, A8, hL⟩
      have ok8M := ok8.sub sub
      refine s_setR ok8M (evr_b1 bsr (ev_I ev_int ev_vi (.inl (by decide))) ⟨by omega, by omega⟩) fun v12 spot H9 hsp e9 ok9 r12 => ?_
      cases (show v12 = .int spot from r12)
      refine s_setR ok9 (P := fun z => z ∈ words) (evr_ixL (ev_var ⟨u, rfl, rw_.up (e8.trans e9)⟩) (evr_b1 bsr (ev_lenL (ev_var ⟨u, rfl, rw_.up (e8.trans e9)⟩)) ⟨by omega, by omega⟩) fun n hn => atI_mem hn.1 hn.2) fun v13 word H10 hwd e10 ok10 r13 => ?_
      cases (show v13 = .str word from r13)
      have A10 := ((A8.up (e9.trans e10)).setσ (l := 12) (v := .int spot)).setσ (l := 13) (v := .str word)
      have ok10N := (ok8.ex e9).ex e10
      refine s_ifc (J := fun σ' H' => Ex W [] H H' ∧ Ok W (p :: M) H' ∧ ∃ L, Acc W (p :: M) σ' H' 9 p L ∧ NamesOk count words L) ok10 (et_and (et_t (ev_B0 ev_vi ev_vi)) fun _ => et_t (ev_notIn (ev_vs (n := word)) (ev_var (A10.out sub pm)))) ?_ ?_ ?_
      · rintro σ' H11 ⟨e11, ok11, L', A11, hL'⟩
        exact s_ret (ok11.sub sub) (ev_var (A11.out sub pm)) fun v H12 e12 r => k v L' H12 hL' (e11.trans e12) r
      · intro hJ hb H11 e11 ok11
        simp only [Bool.and_eq_true, decide_eq_true_eq, Bool.not_eq_true', decide_eq_false_iff_not] at hb
        refine s_setAt (N := M) (ok10N.ex e11) (A10.up e11) (ev_vs (n := word)) (ev_vi (n := spot)) hsp.1 (by rw [hL.1]; exact hb.1) fun H12 e12 e12' ok12 A12 => ?_
        exact hJ _ _ ⟨e12' H (((e8.trans e9).trans e10).trans e11) ok hp0, ok12, _, A12, hL.word hwd hb.2⟩
      · intro hb H11 e11 ok11
        exact ⟨((e8.trans e9).trans e10).trans e11, ok10N.ex e11, L, A10.up e11, hL⟩
    · intro hJ hb H8 e8 ok8
      simp only [Bool.and_eq_true, decide_eq_true_eq] at hb
      obtain ⟨hb1, hb2, hb3⟩ := hb
      have A8 := A.up e8
      refine s_setAtR (P := fun z => ∃ c, z = nm stem wh sh lg 0 ++ (⟨#[c]⟩ : Str) ∧ isL c) (ok'.ex e8) A8 (((evr_addS (z := nm stem wh sh lg 0) (P := fun z => ∃ c, z = ⟨#[c]⟩ ∧ isL c) (ev_ixL (ev_var (A8.out sub pm)) ev_int ?_) (evr_ixS ev_vs (evr_b1 bsr ev_int ⟨by decide, by decide⟩) (by rw [letl]; decide) key) ?_).imp fun z hz => ?_).sc sub) ev_int (by decide) (by rw [N0.1]; omega) fun z H9 hz e9 e9' ok9 A9 => ?_
      · rw [atI_getD (xs := nms stem wh sh lg count.toNat) Str.empty (by decide) (by rw [N0.1]; omega)]
        have : nms stem wh sh lg count.toNat = nm stem wh sh lg 0 :: (nms stem wh sh lg count.toNat).drop 1 := by
          unfold nms
          obtain ⟨n, hn⟩ : ∃ n, count.toNat = n + 1 := ⟨count.toNat - 1, by omega⟩
          rw [hn, List.range_succ_eq_map]; rfl
        rw [this]; rfl
      · rintro w ⟨c, rfl, _⟩
        have := (isName_is (nok.name (k := 0))).2.1
        rw [len_tl]
        show _ + 1 ≤ _
        omega
      · obtain ⟨w, ⟨c, rfl, hc⟩, e⟩ := hz
        exact ⟨c, e, hc⟩
      · obtain ⟨c, rfl, hc⟩ := hz
        have := nok.second (n := count.toNat) (by omega) hb2 hb3 words hc
        rw [hcn] at this
        exact hJ _ _ ⟨e9' H M (e0.trans e8) ok hp0, ok9, _, rfl, A9, this⟩
    · intro hb H8 e8 ok8
      exact ⟨e0.trans e8, ok'.ex e8, _, rfl, A.up e8, N0⟩

abbrev s_law_product : Stmt := topS 25
theorem sc_law_product : FnScope ["_law_plain", "_law_size", "_law_name", "_law_worths"] ["_law_plain"] (defScope s_law_product) := ⟨rfl, rfl, rfl, by decide +kernel, rfl, by decide +kernel, by decide +kernel⟩

theorem ok_law_product {f : Addr} {fd : FuncData} (F : Fun K "_law_product" "_law_product" s_law_product f fd) (bt : Bt mg) :
    FnOk P w K mg base CX0 1 f fd ["_law_plain"] (sp_law_product K C) := by
  refine F.ok sc_law_product (fun vs H Q E h => ?_) (fun cdv A outer s H vs Q E hr h => ?_)
  · obtain ⟨W, M, v, z, _, _, rfl, _⟩ := h; rfl
  · obtain ⟨W, M, v, cs, rfl, rfl, rfl, ok, r, hz, k⟩ := h
    have S0 : Sl W M (L2.start ["_law_plain", "_law_size", "_law_name", "_law_worths"] [v]) H 0 cs := ⟨v, rfl, r⟩
    refine ⟨_, (pss_cons (ps_set (i := 1) sc_law_product.nd rfl (.inl rfl) pe_int)
      (pss_cons (ps_for PassesOwn.never rfl (pi_list (pv 0)) (pg_tup rfl (pgs_cons (pg_name (i := 2) sc_law_product.nd rfl (Or.inl rfl)) (pgs_cons (pg_name (i := 3) sc_law_product.nd rfl (Or.inl rfl)) pgs_nil)))
      (pss_one (ps_set (i := 1) sc_law_product.nd rfl (.inl rfl) (pe_op op_mul (pv 1) (pe_callB cLenS (by rfl) bt.len_ (by decide +kernel) (pa_cons (pv 3) pa_nil))))))
      (pss_one (ps_ret (pv 1))))), ?_⟩
    refine s_set ok (ev_int (n := 1)) fun v1 H1 e1 ok1 r1 => ?_
    cases (show v1 = .int 1 from r1)
    refine for_w ok1 (ei_list (ev_var (S0.set e1))) (fun i σ' H' => Ex W [] H H' ∧ σ'.length = 4 ∧ σ'[1]? = some (some (.int (prod (cs.take i))))) (fun H' e => ⟨e1.trans e, rfl, rfl⟩) ?_ ?_
    · rintro i c v σ' H' hi ⟨e0, hσ, h1⟩ ok' H'' e'' r N hN
      refine gPair_rd r fun v1 v2 r1 r2 => ?_
      have S3 : Sl W M ((σ'.set 2 (some v1)).set 3 (some v2)) H'' 3 c.2 := Sl.here r2 (by rw [List.length_set, hσ]; decide)
      have h1' : ((σ'.set 2 (some v1)).set 3 (some v2))[1]? = some (some (.int (prod (cs.take i)))) := by rw [List.getElem?_set_ne (by decide), List.getElem?_set_ne (by decide)]; exact h1
      have hc := hz c (List.mem_of_getElem? hi)
      refine s_set (ok'.ex e'') (ev_I (ev_vi h1') (ev_lenL (ev_var S3)) (.inr ⟨by omega, by omega⟩)) fun v3 H3 e3 ok3 r3 => ?_
      cases (show v3 = .int _ from r3)
      refine hN _ _ ⟨e0.trans (e''.trans e3), by rw [List.length_set, List.length_set, List.length_set, hσ], ?_⟩ e3.up
      rw [List.getElem?_set_self (by rw [List.length_set, List.length_set, hσ]; decide)]
      unfold prod
      rw [List.take_add_one, hi, List.map_append, List.foldl_append]; rfl
    · rintro σ' H' ⟨e0, hσ, h1⟩ ok'
      rw [List.take_length] at h1
      exact s_ret ok' (ev_vi h1) fun v H3 e3 r => k v H3 (e0.trans e3) r

abbrev s_law_menu : Stmt := topS 26
theorem sc_law_menu : FnScope ["_law_bag_here", "_law_most", "_law_shapes", "_law_shape", "_law_names_here", "_law_words", "_law_plain", "_law_k", "_law_begin", "_law_word", "_law_j", "_law_name", "_law_worths"] ["_law_bag_here", "_law_most"] (defScope s_law_menu) := ⟨rfl, rfl, rfl, by decide +kernel, rfl, by decide +kernel, by decide +kernel⟩

theorem ok_law_menu {f : Addr} {fd : FuncData} (F : Fun K "_law_menu" "_law_menu" s_law_menu f fd) (bt : Bt mg)
    (c_law_pick : Cal P w K mg base 2 "_law_pick" ["_law_bag_here", "_law_items"] (spPick (List Int) K C))
    (c_law_names : Cal P w K mg base 2 "_law_names" ["_law_bag_here", "_law_count", "_law_words"] (sp_law_names K C))
    (c_law_draw : Cal P w K mg base 1 "_law_draw" ["_law_bag_here", "_law_size"] (sp_law_draw K C))
    (c_law_mixed : Cal P w K mg base 2 "_law_mixed" ["_law_bag_here", "_law_items"] (spMixed Str K C))
    (c_law_product : Cal P w K mg base 1 "_law_product" ["_law_plain"] (sp_law_product K C)) :
    FnOk P w K mg base CX0 3 f fd ["_law_bag_here", "_law_most"] (sp_law_menu K C) := by
  refine F.ok sc_law_menu (fun vs H Q E h => ?_) (fun cdv A outer s H vs Q E hr h => ?_)
  · obtain ⟨W, M, v, z, _, _, rfl, _⟩ := h; rfl
  · obtain ⟨W, M, v, most, rfl, rfl, rfl, ok, r, hm, k⟩ := h
    cases (show v = .int most from r)
    have w4 : ∀ z ∈ (["all", "not", "and", "or"] : List Str), isName z = true := by decide +kernel
    have w3 : ∀ z ∈ (["0", "all", "3a"] : List Str), z.length ≤ 1000 := by decide +kernel
    refine ⟨_, (pss_cons (ps_set (i := 2) sc_law_menu.nd rfl (.inl rfl) (pe_lst (pa_cons (pe_lst (pa_cons pe_int pa_nil)) (pa_cons (pe_lst (pa_cons pe_int pa_nil)) (pa_cons (pe_lst (pa_cons pe_int pa_nil)) (pa_cons (pe_lst (pa_cons pe_int pa_nil)) (pa_cons (pe_lst (pa_cons pe_int (pa_cons pe_int pa_nil))) (pa_cons (pe_lst (pa_cons pe_int (pa_cons pe_int pa_nil))) (pa_cons (pe_lst (pa_cons pe_int (pa_cons pe_int pa_nil))) (pa_cons (pe_lst (pa_cons pe_int (pa_cons pe_int (pa_cons pe_int pa_nil)))) (pa_cons (pe_lst (pa_cons pe_int (pa_cons pe_int pa_nil))) (pa_cons (pe_lst (pa_cons pe_int (pa_cons pe_int (pa_cons pe_int pa_nil)))) (pa_cons (pe_lst (pa_cons pe_int (pa_cons pe_int (pa_cons pe_int pa_nil)))) (pa_cons (pe_lst (pa_cons pe_int pa_nil)) (pa_cons (pe_lst (pa_cons pe_int (pa_cons pe_int pa_nil))) (pa_cons (pe_lst (pa_cons pe_int (pa_cons pe_int pa_nil))) pa_nil))))))))))))))))
      (pss_cons (ps_set (i := 3) sc_law_menu.nd rfl (.inl rfl) (pe_call c_law_pick.ok (by exact hr.mono (by decide)) (by rfl) c_law_pick.gl c_law_pick.kp c_law_pick.b .nil pass0 (pa_cons (pv 0) (pa_cons (pv 2) pa_nil))))
      (pss_cons (ps_set (i := 4) sc_law_menu.nd rfl (.inl rfl) (pe_call c_law_names.ok (by exact hr.mono (by decide)) (by rfl) c_law_names.gl c_law_names.kp c_law_names.b .nil pass0 (pa_cons (pv 0) (pa_cons (pe_callB cLenS (by rfl) bt.len_ (by decide +kernel) (pa_cons (pv 3) pa_nil)) (pa_cons (pe_lst (pa_cons pe_str (pa_cons pe_str (pa_cons pe_str (pa_cons pe_str pa_nil))))) pa_nil)))))
      (pss_cons (ps_set (i := 5) sc_law_menu.nd rfl (.inr rfl) (pe_call c_law_names.ok (by exact hr.mono (by decide)) (by rfl) c_law_names.gl c_law_names.kp c_law_names.b .nil pass0 (pa_cons (pv 0) (pa_cons pe_int (pa_cons (pe_lst (pa_cons pe_str (pa_cons pe_str (pa_cons pe_str pa_nil)))) pa_nil)))))
      (pss_cons (ps_set (i := 5) sc_law_menu.nd rfl (.inr rfl) (pe_lc (own := [("_law_k", 7), ("_law_word", 9)]) (g := gPair W.K 7 9) rfl sc_law_menu.nd (pi_enum (by rfl) bt.enumerate_ (pa_cons (pv 5) pa_nil)) (blkOk_by (own := [("_law_k", 7), ("_law_word", 9)]) (N := ["_law_bag_here", "_law_most", "_law_shapes", "_law_shape", "_law_names_here", "_law_words", "_law_plain", "_law_k", "_law_begin", "_law_word", "_law_j", "_law_name", "_law_worths"]) (sc := defScope s_law_menu) (by decide +kernel)) (fun _ _ _ _ _ => (pg_tup rfl (pgs_cons (pg_name (i := 7) sc_law_menu.nd rfl (Or.inl rfl)) (pgs_cons (pg_name (i := 9) sc_law_menu.nd rfl (Or.inl rfl)) pgs_nil)))) (fun _ _ _ _ _ => pts_nil) (fun _ _ _ _ _ => (PE.to (pe_ix ix_list (pe_lst (pa_cons (pv 9) (pa_cons (pe_callTy cStrI (by rfl) bt.str_ (by decide +kernel) (pa_cons (pv 7) pa_nil)) pa_nil))) (pe_callTy cInt (by rfl) bt.int_ (by decide +kernel) (pa_cons (pe_cmpR op_eq (pe_op op_mod (pe_callTy cInt (by rfl) bt.int_ (by decide +kernel) (pa_cons (pv 7) pa_nil)) pe_int) pe_int (nomark _)) pa_nil)) (fun _ _ => rfl)) (by dsimp only [Cx.blk] <;> rfl)))))
      (pss_cons (ps_set (i := 6) sc_law_menu.nd rfl (.inl rfl) (pe_lst pa_nil))
      (pss_cons (ps_for PassesOwn.never rfl (pi_range1 (by rfl) bt.range_ (pa_cons (pe_callB cLenS (by rfl) bt.len_ (by decide +kernel) (pa_cons (pv 3) pa_nil)) pa_nil)) (pg_name (i := 7) sc_law_menu.nd rfl (Or.inl rfl))
      (pss_cons (ps_set (i := 8) sc_law_menu.nd rfl (.inr rfl) (pe_call c_law_draw.ok (by exact hr.mono (by decide)) (by rfl) c_law_draw.gl c_law_draw.kp c_law_draw.b .nil pass0 (pa_cons (pv 0) (pa_cons pe_int pa_nil))))
      (pss_one (ps_expr (pe_bm PySem.F.plainAttrs_list PySem.F.slot_list_append PySem.F.type_list_append mt_append (pv 6) (pa_cons (pe_tup (pa_cons (pe_ix ix_list (pv 4) (pv 7) (fun _ _ => rfl)) (pa_cons (pe_call c_law_mixed.ok (by exact hr.mono (by decide)) (by rfl) c_law_mixed.gl c_law_mixed.kp c_law_mixed.b .nil pass0 (pa_cons (pv 0) (pa_cons (pe_lc (own := [("_law_j", 10)]) (g := gName 10) rfl sc_law_menu.nd (pi_range1 (by rfl) bt.range_ (pa_cons (pe_ix ix_list (pv 3) (pv 7) (fun _ _ => rfl)) pa_nil)) (blkOk_by (own := [("_law_j", 10)]) (N := ["_law_bag_here", "_law_most", "_law_shapes", "_law_shape", "_law_names_here", "_law_words", "_law_plain", "_law_k", "_law_begin", "_law_word", "_law_j", "_law_name", "_law_worths"]) (sc := defScope s_law_menu) (by decide +kernel)) (fun _ _ _ _ _ => (pg_name (i := 10) sc_law_menu.nd rfl (Or.inl rfl))) (fun _ _ _ _ _ => pts_nil) (fun _ _ _ _ _ => (PE.to (pe_ix ix_list (pv 5) (pe_op op_mod (pe_callTy cInt (by rfl) bt.int_ (by decide +kernel) (pa_cons (pe_op op_add (pv 8) (pv 10)) pa_nil)) pe_int) (fun _ _ => rfl)) (by dsimp only [Cx.blk] <;> rfl)))) pa_nil))) pa_nil))) pa_nil))))))
      (pss_cons (ps_while PassesOwn.never (pt_cmpR op_gt (pe_call c_law_product.ok (by exact hr.mono (by decide)) (by rfl) c_law_product.gl c_law_product.kp c_law_product.b .nil pass0 (pa_cons (pv 6) pa_nil)) (pv 1) (nomark _))
      (pss_one (ps_setLc (i := 6) (own := [("_law_name", 11), ("_law_worths", 12)]) (g := gPair W.K 11 12) rfl sc_law_menu.nd rfl rfl (sw_true rfl rfl rfl (by decide +kernel)) (pi_list (pv 6)) (blkOk_by (own := [("_law_name", 11), ("_law_worths", 12)]) (N := ["_law_bag_here", "_law_most", "_law_shapes", "_law_shape", "_law_names_here", "_law_words", "_law_plain", "_law_k", "_law_begin", "_law_word", "_law_j", "_law_name", "_law_worths"]) (sc := defScope s_law_menu) (by decide +kernel)) (fun _ _ _ _ _ => (pg_tup rfl (pgs_cons (pg_name (i := 11) sc_law_menu.nd rfl (Or.inl rfl)) (pgs_cons (pg_name (i := 12) sc_law_menu.nd rfl (Or.inl rfl)) pgs_nil)))) (fun _ _ _ _ _ => pts_nil) (fun _ _ _ _ _ => (PE.to (pe_tup (pa_cons (pv 11) (pa_cons (pe_slice sl_list (pv 12) po_none (po_some (pe_callB (cMax2 rfl) (by rfl) bt.max_ (by decide +kernel) (pa_cons pe_int (pa_cons (pe_op op_sub (pe_callB cLenS (by rfl) bt.len_ (by decide +kernel) (pa_cons (pv 12) pa_nil)) pe_int) pa_nil))))) pa_nil))) (by dsimp only [Cx.blk] <;> rfl))))))
      (pss_one (ps_ret (pv 6))))))))))), ?_⟩
    refine s_set ok (x := shapesL) (by
      refine ev_lst ?_ (by decide)
      repeat (first | exact ea_nil | refine ea_cons ev_int ?_ | refine ea_cons (ev_lst ?_ (by decide)) ?_)) fun v2 H1 e1 ok1 r2 => ?_
    refine s_setR ok1 (evr_b1 bsr (ev_var (Sl.hr r2)) ⟨by decide, by decide⟩) fun v3 shape H2 hs e2 ok2 r3 => ?_
    obtain ⟨s1, s3, sn⟩ := shapes_ok shape hs
    refine s_setR ok2 (evr_b2 bsr (ev_lenL (ev_var (Sl.hr r3))) (ev_lst (xs := (["all", "not", "and", "or"] : List Str)) (ea_cons ev_str (ea_cons ev_str (ea_cons ev_str (ea_cons ev_str ea_nil)))) (by decide)) ⟨by omega, by omega, by decide, by decide, fun z hz => by have := (isName_is (w4 z hz)).2.1; rw [len_tl]; omega⟩) fun v4 names H3 hN e3 ok3 r4 => ?_
    have hnm : ∀ z ∈ names, isName z = true := fun z hz => (hN.2.2 z hz).elim id fun h => w4 z h
    refine s_setR ok3 (evr_b2 bsr ev_int (ev_lst (xs := (["0", "all", "3a"] : List Str)) (ea_cons ev_str (ea_cons ev_str (ea_cons ev_str ea_nil))) (by decide)) ⟨by decide, by decide, by decide, by decide, w3⟩) fun v5 words0 H4 hw e4 ok4 r5 => ?_
    have hw12 : words0.length = 12 := by have := hw.1; omega
    refine s_set ok4 (x := (enum words0).map wordF) (ev_lc2 (f := wordF) (ei_enum (ev_var (Sl.hr r5))) (by rw [enum_len, hw12]; decide) (by decide) (by decide) fun i x v1 v2 M' H' hi l r1 r2 => ?_) fun v5' H5 e5 ok5 r5' => ?_
    · obtain ⟨xi, xw⟩ := x
      cases (show v1 = .int xi from r1)
      cases (show v2 = .str xw from r2)
      have hx : xi = (i : Int) ∧ i < 12 := by
        have hlt := (List.getElem?_eq_some_iff.mp hi).1
        rw [enum_len, hw12] at hlt
        have := enum_at (xs := words0) (List.getElem?_eq_getElem (show i < words0.length by omega))
        rw [this] at hi
        cases hi
        exact ⟨rfl, hlt⟩
      refine ev_ixL (ev_lst (xs := [xw, Str.ofString (toString xi)]) (ea_cons ev_vs (ea_cons (ev_strI ev_vi ?_) ea_nil)) (by show 2 ≤ _; decide)) (ev_intB (b := decide (xi % 5 = 4)) (ev_eq (ev_I (ev_intI ev_vi) ev_int (by decide)) ev_int)) ?_
      · have h12 : xi.natAbs < 2 ^ 4 := by omega
        exact Nat.lt_of_lt_of_le (PySem.Flt.log2_lt_of (by decide) h12) (by decide)
      · unfold wordF
        by_cases h5 : xi % 5 = 4
        · rw [decide_eq_true h5, if_pos h5]; rfl
        · rw [decide_eq_false h5, if_neg h5]; rfl
    have hW := words_ok hw
    generalize hww : (enum words0).map wordF = words at *
    have e05 : Ex W [] H H5 := (((e1.trans e2).trans e3).trans e4).trans e5
    refine s_new2 (α := Col) ok5 (by show 6 < 13; decide) fun p H6 hp e6 l6 ok6 A6 => ?_
    have pm : p ∉ M := ok5.new_M hp
    have hp0 : H p = none := e05.free hp
    have sub : ∀ a ∈ M, a ∈ p :: M := fun a h => by simp [h]
    have R3 : Rep W (p :: M) H6 v3 shape := (((r3.up e3).up e4).up e5).le l6
    have R4 : Rep W (p :: M) H6 v4 names := ((r4.up e4).up e5).le l6
    have R5 : Rep W (p :: M) H6 v5' words := r5'.le l6
    have e06 := e05.trans e6
    refine for_w ok6 (ei_range (ev_lenL (ev_var ⟨v3, rfl, R3⟩)) (by omega) (by omega)) (fun i σ' H' => Ex W [] H H' ∧ Ex W (p :: M) H6 H' ∧ (∃ v7 v8 v9, σ' = [some (.ref W.b), some (.int most), some v2, some v3, some v4, some v5', some (.ref p), v7, v8, v9, none, none, none]) ∧ ∃ Ls : List Col, Acc W (p :: M) σ' H' 6 p Ls ∧ Ls.map Prod.fst = names.take i ∧ ∀ c ∈ Ls, ColOk c)
      (fun H' e => ⟨e06.trans e, e.up, ⟨none, none, none, rfl⟩, [], A6.up e, rfl, fun c hc => by cases hc⟩) ?_ ?_
    · rintro i x v σ' H' hi ⟨e0, eN, ⟨v7, v8, v9, rfl⟩, Ls, A, hL1, hL2⟩ ok' H'' e'' r N hN'
      have ok'' := ok'.ex e''
      have hi' := hi
      have hin : i < shape.length := by have := (List.getElem?_eq_some_iff.mp hi).1; rw [rng_len] at this; omega
      rw [rng_at (by omega)] at hi'
      cases hi'
      cases (show v = .int (i : Int) from r)
      refine s_setR ok'' (evr_b1 bsr ev_int ⟨by decide, by decide⟩) fun v8' bg H7 hb e7 ok7 r8 => ?_
      cases (show v8' = .int bg from r8)
      have e67 : Ex W (p :: M) H6 H7 := eN.trans (e''.trans e7).up
      have hnl : names.length = shape.length := by have := hN.1; omega
      have hln : Ls.length = i := by have := congrArg List.length hL1; rw [List.length_map, List.length_take] at this; omega
      have hni : atI names (i : Int) = some names[i] := by
        rw [atI_getD Str.empty (by omega) (by omega), List.getD_eq_getElem?_getD]
        show some ((names[((i : Int)).toNat]?).getD Str.empty) = _
        rw [Int.toNat_natCast, List.getElem?_eq_getElem (by omega)]; rfl
      have hsi : atI shape (i : Int) = some shape[i] := by
        rw [atI_getD 0 (by omega) (by omega), List.getD_eq_getElem?_getD]
        show some ((shape[((i : Int)).toNat]?).getD 0) = _
        rw [Int.toNat_natCast, List.getElem?_eq_getElem (by omega)]; rfl
      have hsn := sn shape[i] (List.getElem_mem hin)
      have A7 := ((A.up (e''.trans e7)).setσ (l := 7) (v := .int (i : Int))).setσ (l := 8) (v := .int bg)
      refine s_appR (N := M) ok7 A7 (by omega) (P := fun z : Col => z.1 = names[i] ∧ z.2.Perm (runOf words bg shape[i])) (evr_pair (ev_ixL (ev_var ⟨v4, rfl, R4.ex e67⟩) ev_vi hni).r (evr_b1 bsr (ev_lc (f := fun j => words.getD ((bg + j) % 12).toNat Str.empty) (ei_range (ev_ixL (ev_var ⟨v3, rfl, R3.ex e67⟩) ev_vi hsi) (by omega) (by omega)) (by rw [rng_len]; omega) (by decide) fun j y v M' H' hj l r => ?_) ?_)) fun c H8 hc e8 e8' ok8 A8 => ?_
      · cases (show v = .int y from r)
        exact ev_ixL (n := (bg + y) % 12) (ev_var ⟨v5', rfl, (R5.ex e67).le l⟩) (ev_I (ev_intI (ev_I0 ev_vi ev_vi)) ev_int (by decide)) (run_at hW.1 bg y)
      · rw [List.length_map, rng_len]; omega
      · obtain ⟨hc1, hc2⟩ := hc
        refine hN' _ _ ⟨e8' H (e0.trans (e''.trans e7)) ok hp0, e67.trans e8, ⟨_, _, _, rfl⟩, _, A8, ?_, fun d hd => ?_⟩ (e7.up.trans e8)
        · rw [List.map_append, hL1, List.take_add_one, List.getElem?_eq_getElem (show i < names.length by omega), ← hc1]; rfl
        · rcases List.mem_append.mp hd with hd | hd
          · exact hL2 d hd
          · rw [List.mem_singleton.mp hd]
            obtain ⟨c1, c2⟩ := c
            exact run_col hW hsn.1 hsn.2 (by rw [show c1 = names[i] from hc1]; exact hnm _ (List.getElem_mem _)) hc2
    · rintro σ' H' ⟨e0, eN, ⟨v7, v8, v9, rfl⟩, Ls, A, hL1, hL2⟩ ok'
      rw [rng_len, show ((shape.length : Int)).toNat = names.length by have := hN.1; omega, List.take_length] at hL1
      have hll : Ls.length = shape.length := by have := congrArg List.length hL1; rw [List.length_map] at this; have := hN.1; omega
      have hP : Plain Ls := ⟨by omega, by omega, by rw [hL1]; exact hN.2.1, hL2⟩
      refine while_w (W := W) (M := M) (P := fun m σ' H' => Ex W [] H H' ∧ Ok W M H' ∧ σ'[1]? = some (some (.int most)) ∧ σ'.length = 13 ∧ ∃ cs, Sl W M σ' H' 6 cs ∧ Plain cs ∧ m = msr cs) (msr Ls) ⟨e0, ok'.sub sub, rfl, rfl, Ls, A.out sub pm, hP, rfl⟩ ?_
      rintro m σ' H' ⟨e0, ok', h1, hσ, cs, S6, hP, rfl⟩
      have hfew : ∀ c ∈ cs, c.2.length ≤ 1000 := fun c hc => by have := (hP.col c hc).l12; omega
      refine ⟨decide (most < prod cs), et_t (ev_B0 (ev_f1 (x := cs) (ev_var S6) hfew) (ev_vi h1)), ok', fun H2 e2 ok2 => ⟨fun hb N hN => ?_, fun hb => ?_⟩⟩
      · have hb := of_decide_eq_true hb
        refine s_set ok2 (ev_lc2 (f := short) (ei_list (ev_var (S6.up e2))) (by have := hP.l3; omega) (by decide) (by decide) fun i c v1 v2 M' H' hi l r1 r2 => ev_pair (ev_var ((Sl.here r1 (by rw [wipe_len, hσ]; decide)).set Ex.refl)) ?_) fun v6 H3 e3 ok3 r6 => ?_
        · have S12 : Sl W M' (((L2.wipe σ' [11, 12]).set 11 (some v1)).set 12 (some v2)) H' 12 c.2 := Sl.here r2 (by rw [List.length_set, wipe_len, hσ]; decide)
          refine (ev_slL (ev_var S12) eo_none (eo_some (ev_max2 ev_int (ev_I0 (ev_lenL (ev_var S12)) ev_int)))).is (cutG_to ?_)
          split <;> omega
        · have hs := (short_msr (cs := cs) fun c hc => (hP.col c hc).l1).2 (by have : 1 ≤ most := hm; omega)
          exact hN _ _ _ hs ⟨(e0.trans e2).trans e3, ok3, by rw [List.getElem?_set_ne (by decide)]; exact h1, by rw [List.length_set, hσ], _, Sl.here r6 (by rw [hσ]; decide), hP.short, rfl⟩
      · have hb := of_decide_eq_false hb
        exact s_ret ok2 (ev_var (S6.up e2)) fun v H3 e3 r => k v cs H3 ⟨hP, by omega⟩ ((e0.trans e2).trans e3) r

abbrev s_law_kinds : Stmt := topS 27
theorem sc_law_kinds : FnScope ["_law_plain", "_law_found", "_law_name", "_law_worths", "_law_longer", "_law_kind", "_law_worth"] ["_law_plain"] (defScope s_law_kinds) := ⟨rfl, rfl, rfl, by decide +kernel, rfl, by decide +kernel, by decide +kernel⟩

theorem ok_law_kinds {f : Addr} {fd : FuncData} (F : Fun K "_law_kinds" "_law_kinds" s_law_kinds f fd) (bt : Bt mg) :
    FnOk P w K mg base CX0 1 f fd ["_law_plain"] (sp_law_kinds K C) := by
  refine F.ok sc_law_kinds (fun vs H Q E h => ?_) (fun cdv A outer s H vs Q E hr h => ?_)
  · obtain ⟨W, M, v, z, _, _, rfl, _⟩ := h; rfl
  · obtain ⟨W, M, v, cs, rfl, rfl, rfl, ok, r, hz, k⟩ := h
    have S0 : Sl W M (L2.start ["_law_plain", "_law_found", "_law_name", "_law_worths", "_law_longer", "_law_kind", "_law_worth"] [v]) H 0 cs := ⟨v, rfl, r⟩
    refine ⟨_, (pss_cons (ps_set (i := 1) sc_law_kinds.nd rfl (.inl rfl) (pe_lst (pa_cons (pe_tup pa_nil) pa_nil)))
      (pss_cons (ps_for PassesOwn.never rfl (pi_list (pv 0)) (pg_tup rfl (pgs_cons (pg_name (i := 2) sc_law_kinds.nd rfl (Or.inl rfl)) (pgs_cons (pg_name (i := 3) sc_law_kinds.nd rfl (Or.inl rfl)) pgs_nil)))
      (pss_cons (ps_set (i := 4) sc_law_kinds.nd rfl (.inl rfl) (pe_lst pa_nil))
      (pss_cons (ps_for PassesOwn.never rfl (pi_list (pv 1)) (pg_name (i := 5) sc_law_kinds.nd rfl (Or.inr rfl))
      (pss_one (ps_set (i := 4) sc_law_kinds.nd rfl (.inl rfl) (pe_op op_cat (pv 4) (pe_lc (own := [("_law_worth", 6)]) (g := gName 6) rfl sc_law_kinds.nd (pi_list (pv 3)) (blkOk_by (own := [("_law_worth", 6)]) (N := ["_law_plain", "_law_found", "_law_name", "_law_worths", "_law_longer", "_law_kind", "_law_worth"]) (sc := defScope s_law_kinds) (by decide +kernel)) (fun _ _ _ _ _ => (pg_name (i := 6) sc_law_kinds.nd rfl (Or.inl rfl))) (fun _ _ _ _ _ => pts_nil) (fun _ _ _ _ _ => (PE.to (pe_op op_catA (pv 5) (pe_tup (pa_cons (pv 6) pa_nil))) (by dsimp only [Cx.blk] <;> rfl))))))))
      (pss_one (ps_set (i := 1) sc_law_kinds.nd rfl (.inl rfl) (pv 4))))))
      (pss_one (ps_ret (pv 1))))), ?_⟩
    refine s_set ok (ev_lst (ea_cons (ev_tup (ea_nil (α := Str)) (Nat.zero_le _)) ea_nil) (by decide)) fun v1 H1 e1 ok1 r1 => ?_
    refine for_w ok1 (ei_list (ev_var (S0.set e1))) (fun i σ' H' => Ex W [] H H' ∧ σ'.length = 7 ∧ Sl W M σ' H' 1 ((kinds (cs.take i)).map Tup.mk)) (fun H' e => ⟨e1.trans e, rfl, (Sl.hr r1).up e⟩) ?_ ?_
    · rintro i c v σ' H' hi ⟨e0, hσ, S1⟩ ok' H'' e'' r N hN
      have ok'' := ok'.ex e''
      refine gPair_rd r fun v1 v2 r1 r2 => ?_
      have S3 : Sl W M ((σ'.set 2 (some v1)).set 3 (some v2)) H'' 3 c.2 := Sl.here r2 (by rw [List.length_set, hσ]; decide)
      have S1' : Sl W M ((σ'.set 2 (some v1)).set 3 (some v2)) H'' 1 _ := ((S1.up e'').set Ex.refl).set Ex.refl
      have hin : i < 3 := Nat.lt_of_lt_of_le (List.getElem?_eq_some_iff.mp hi).1 hz.1
      have hc : c.2.length ≤ 12 := hz.2 c (List.mem_of_getElem? hi)
      have hlen : (kinds (cs.take i)).length ≤ 144 := (hz.take i).num (by rw [List.length_take]; omega)
      refine s_set ok'' (ev_lst (ea_nil (α := Tup Str)) (Nat.zero_le _)) fun v4 H3 e3 ok3 r4 => ?_
      have hl4 : 4 < ((σ'.set 2 (some v1)).set 3 (some v2)).length := by rw [List.length_set, List.length_set, hσ]; decide
      refine for_w ok3 (ei_list (ev_var (S1'.set e3))) (fun j σ2 H2 => Ex W [] H'' H2 ∧ σ2.length = 7 ∧ Sl W M σ2 H2 3 c.2 ∧ Sl W M σ2 H2 4 ((((kinds (cs.take i)).map Tup.mk).take j).flatMap fun k => c.2.map fun s => (Tup.mk (k.l ++ [s]) : Tup Str)))
        (fun H4 e4 => ⟨e3.trans e4, by rw [List.length_set, List.length_set, List.length_set, hσ], (S3.set e3).up e4, (Sl.here r4 hl4).up e4⟩) ?_ ?_
      · rintro j x v5 σ2 H2 hj ⟨e2, hσ2, T3, T4⟩ ok2 H4 e4 r5 N2 hN2
        have ok4 := ok2.ex e4
        have hl2 : ∀ j, j < 7 → j < (σ2.set 5 (some v5)).length := fun j hj => by rw [List.length_set, hσ2]; exact hj
        have hm := List.mem_of_getElem? hj
        have hx : x.l.length ≤ 3 := by
          obtain ⟨y, hy, rfl⟩ := List.mem_map.mp hm
          have := kind_len hy
          rw [List.length_take] at this
          show y.length ≤ 3
          omega
        refine s_set ok4 (ev_cat (ev_var ((T4.up e4).set Ex.refl)) (ev_lc (f := fun s => (Tup.mk (x.l ++ [s]) : Tup Str)) (ei_list (ev_var ((T3.up e4).set Ex.refl))) (by omega) (by decide) fun i s v M' H' hi l r =>
          ev_catT (xs := x) (ys := ⟨[s]⟩) (ev_var ((Sl.here r5 (by rw [hσ2]; decide)).lc l)) (ev_tup (ea_cons (ev_var (Sl.me r (hl2 6 (by decide)))) ea_nil) (by show 1 ≤ _; decide)) (by show _ + 1 ≤ _; omega)) ?_) fun v6 H5 e5 ok5 r6 => ?_
        · rw [List.length_map]
          have hb : ∀ (l : List (Tup Str)), (l.flatMap fun k => c.2.map fun s => (Tup.mk (k.l ++ [s]) : Tup Str)).length = l.length * c.2.length := by
            intro l
            induction l with
            | nil => simp
            | cons a t ih => rw [List.flatMap_cons, List.length_append, ih, List.length_map, List.length_cons, Nat.succ_mul, Nat.add_comm]
          rw [hb]
          have h1 : (((kinds (cs.take i)).map (Tup.mk (α := Str))).take j).length ≤ 144 := by rw [List.length_take, List.length_map]; omega
          have := Nat.mul_le_mul h1 hc
          omega
        · refine hN2 _ _ ⟨e2.trans (e4.trans e5), by rw [List.length_set, List.length_set, hσ2], ((T3.up e4).set Ex.refl).set e5, ?_⟩ e5.up
          rw [List.take_add_one, hj, List.flatMap_append]
          refine Sl.here ?_ (hl2 4 (by decide))
          simpa using r6
      · rintro σ2 H2 ⟨e2, hσ2, T3, T4⟩ ok2
        rw [List.take_length] at T4
        refine s_set ok2 (ev_var T4) fun v7 H6 e6 ok6 r7 => hN _ _ ⟨e0.trans (e''.trans (e2.trans e6)), by rw [List.length_set, hσ2], ?_⟩ (e2.trans e6).up
        refine Sl.here ?_ (by rw [hσ2]; decide)
        rw [kinds_take hi, kstep_mk]
        exact r7
    · rintro σ' H' ⟨e0, hσ, S1⟩ ok'
      rw [List.take_length] at S1
      exact s_ret ok' (ev_var S1) fun v H3 e3 r => k v H3 (e0.trans e3) r

abbrev s_law_menu_text : Stmt := topS 28
theorem sc_law_menu_text : FnScope ["_law_plain", "_law_name", "_law_worths"] ["_law_plain"] (defScope s_law_menu_text) := ⟨rfl, rfl, rfl, by decide +kernel, rfl, by decide +kernel, by decide +kernel⟩

theorem ok_law_menu_text {f : Addr} {fd : FuncData} (F : Fun K "_law_menu_text" "_law_menu_text" s_law_menu_text f fd) (bt : Bt mg) :
    FnOk P w K mg base CX0 1 f fd ["_law_plain"] (sp_law_menu_text K C) := by
  refine F.ok sc_law_menu_text (fun vs H Q E h => ?_) (fun cdv A outer s H vs Q E hr h => ?_)
  · obtain ⟨W, M, v, z, _, _, rfl, _⟩ := h; rfl
  · obtain ⟨W, M, v, cs, rfl, rfl, rfl, ok, r, hz, k⟩ := h
    have S0 : Sl W M (L2.start ["_law_plain", "_law_name", "_law_worths"] [v]) H 0 cs := ⟨v, rfl, r⟩
    obtain ⟨hf, h3, h12⟩ := hz
    have hin : ∀ c ∈ cs, ∀ x ∈ c.1 :: c.2, x.length ≤ 1000 := fun c hc x hx => by
      obtain ⟨q1, _, q3⟩ := hf.2 c hc
      rcases List.mem_cons.mp hx with rfl | hx
      · exact q1
      · exact q3 x hx
    have hn : ∀ c ∈ cs, (c.1 :: c.2).length * (1000 + 1) ≤ 13013 := fun c hc => by have := h12 c hc; rw [List.length_cons]; omega
    refine ⟨_, (pss_one (ps_ret (peJoin pe_str (pe_lc (own := [("_law_name", 1), ("_law_worths", 2)]) (g := gPair W.K 1 2) rfl sc_law_menu_text.nd (pi_list (pv 0)) (blkOk_by (own := [("_law_name", 1), ("_law_worths", 2)]) (N := ["_law_plain", "_law_name", "_law_worths"]) (sc := defScope s_law_menu_text) (by decide +kernel)) (fun _ _ _ _ _ => (pg_tup rfl (pgs_cons (pg_name (i := 1) sc_law_menu_text.nd rfl (Or.inl rfl)) (pgs_cons (pg_name (i := 2) sc_law_menu_text.nd rfl (Or.inl rfl)) pgs_nil)))) (fun _ _ _ _ _ => pts_nil) (fun _ _ _ _ _ => (PE.to (peJoin pe_str (pe_op op_cat (pe_lst (pa_cons (pv 1) pa_nil)) (pv 2))) (by dsimp only [Cx.blk] <;> rfl))))))), ?_⟩
    refine s_ret ok (ev_join (ev_str (s := "; ")) (ev_lc2 (f := fun c : Col => Txt.join " " (c.1 :: c.2)) (ei_list (ev_var S0)) (by omega) (by decide) (by decide) fun i c v1 v2 M' H' hi l r1 r2 => (ev_join (ev_str (s := " "))
      (ev_cat (ev_lst (ea_cons (ev_var ((Sl.me r1).set Ex.refl)) ea_nil) (by show 1 ≤ _; decide)) (ev_var (Sl.hr r2)) ?_) ?_)) ?_) fun v H3 e3 r => k v H3 e3 r
    · have := h12 c (List.mem_of_getElem? hi)
      show 1 + _ ≤ _
      omega
    · have hc := List.mem_of_getElem? hi
      have h1 := join_le (z := " ") (xs := c.1 :: c.2) (hin c hc)
      have h2 := hn c hc
      exact Nat.le_trans h1 (Nat.le_trans h2 (by decide))
    · refine Nat.le_trans (join_le (n := 13013) fun x hx => ?_) ?_
      · obtain ⟨c, hc, rfl⟩ := List.mem_map.mp hx
        exact Nat.le_trans (join_len (z := " ") (xs := c.1 :: c.2) (hin c hc)) (hn c hc)
      · rw [List.length_map]
        refine Nat.le_trans (Nat.mul_le_mul_right _ h3) (by decide)

abbrev s_law_made_menu : Stmt := topS 29
theorem sc_law_made_menu : FnScope ["_law_plain", "_law_name", "_law_worths"] ["_law_plain"] (defScope s_law_made_menu) := ⟨rfl, rfl, rfl, by decide +kernel, rfl, by decide +kernel, by decide +kernel⟩

theorem ok_law_made_menu {f : Addr} {fd : FuncData} (F : Fun K "_law_made_menu" "_law_made_menu" s_law_made_menu f fd) (bt : Bt mg)
    (k_Menu_read : CmC P w K mg base 6 (C "Menu") "Menu" "read" ["cls", "text"] (sp_Menu_read K C))
    (c_law_menu_text : Cal P w K mg base 1 "_law_menu_text" ["_law_plain"] (sp_law_menu_text K C))
    (m_Menu : MakC P w K mg base 4 (C "Menu") "Menu" ["self", "columns"] (sp_Menu_init K C)) :
    FnOk P w K mg base CX0 7 f fd ["_law_plain"] (sp_law_made_menu K C) := by
  refine F.ok sc_law_made_menu (fun vs H Q E h => ?_) (fun cdv A outer s H vs Q E hr h => ?_)
  · obtain ⟨W, M, v, z, _, _, rfl, _⟩ := h; rfl
  · obtain ⟨W, M, v, cs, rfl, rfl, rfl, ok, r, ⟨hP, h12⟩, k⟩ := h
    have S0 : Sl W M (L2.start ["_law_plain", "_law_name", "_law_worths"] [v]) H 0 cs := ⟨v, rfl, r⟩
    have hcl : cs.length ≤ 1000 := by have := hP.l3; omega
    have huq : (Sq.mk (cs.map toQ)).l.map unQ = cs := unQ_map cs
    refine ⟨_, (pss_cons (ps_if (pt_cmpR op_eq (pe_callB cLenS (by rfl) bt.len_ (by decide +kernel) (pa_cons (pv 0) pa_nil)) pe_int (nomark _)) (pss_one (ps_ret (ClX.pe_cmeth (pe_glob (v := .ref (W.C "Menu")) rfl k_Menu_read.gl rfl) k_Menu_read.rd k_Menu_read.cm (fnR_of k_Menu_read.ok k_Menu_read.b) (by exact hr.mono (by decide)) pass0 (pa_cons (pe_call c_law_menu_text.ok (by exact hr.mono (by decide)) (by rfl) c_law_menu_text.gl c_law_menu_text.kp c_law_menu_text.b .nil pass0 (pa_cons (pv 0) pa_nil)) pa_nil)))) pss_nil)
      (pss_one (ps_ret (pe_make m_Menu.mo m_Menu.ok (by exact hr.mono (by decide)) (by rfl) m_Menu.gl m_Menu.b .nil pass0 (pa_cons (pe_lc (own := [("_law_name", 1), ("_law_worths", 2)]) (g := gPair W.K 1 2) rfl sc_law_made_menu.nd (pi_list (pv 0)) (blkOk_by (own := [("_law_name", 1), ("_law_worths", 2)]) (N := ["_law_plain", "_law_name", "_law_worths"]) (sc := defScope s_law_made_menu) (by decide +kernel)) (fun _ _ _ _ _ => (pg_tup rfl (pgs_cons (pg_name (i := 1) sc_law_made_menu.nd rfl (Or.inl rfl)) (pgs_cons (pg_name (i := 2) sc_law_made_menu.nd rfl (Or.inl rfl)) pgs_nil)))) (fun _ _ _ _ _ => pts_nil) (fun _ _ _ _ _ => (PE.to (pe_tup (pa_cons (pv 1) (pa_cons (pe_callTy cListOf (by rfl) bt.list_ (by decide +kernel) (pa_cons (pv 2) pa_nil)) pa_nil))) (by dsimp only [Cx.blk] <;> rfl)))) pa_nil))))), ?_⟩
    refine s_if ok (et_t (ev_eq (ev_lenL (ev_var S0)) ev_int)) (fun hb H1 e1 ok1 => ?_) (fun hb H1 e1 ok1 => ?_)
    · refine ⟨rfl, (show Ev W M (tCall (sp_law_menu_text W.K W.C) [] E0 (tCons (tVar 0) tNil)) _ H1 (menuText cs) from ev_f1 (ev_var (S0.up e1)) ⟨hP.fair, hP.l3, fun c hc => (hP.col c hc).l12⟩) H1 Ex.refl ok1 _ fun v2 H2 e2 r2 => ?_⟩
      cases (show v2 = .str _ from r2)
      refine ⟨W, M, menuText cs, rfl, rfl, rfl, ok1.ex e2, hP.tlen, fun p hp => ?_, by rw [hP.read]; exact hP.fair, by rw [hP.read]; exact hP.are h12, fun r H3 e3 rr => k r H3 ((e1.trans e2).trans e3) (by rw [hP.read] at rr; exact rr)⟩
      rw [hP.split] at hp
      obtain ⟨c, hc, rfl⟩ := List.mem_map.mp hp
      refine ⟨Nat.le_trans (hP.col c hc).plen (by decide), ?_⟩
      rw [(hP.col c hc).split]
      exact fun z => nomatch z
    · refine s_ret ok1 ((ev_make (x := Sq.mk (cs.map toQ)) (f := fun cs : Sq ColQ => Menu.mk (cs.l.map unQ)) ((ev_lc2 (f := fun c : Col => c) (ei_list (ev_var (S0.up e1))) (by omega) (by decide) (by decide) fun i c v1 v2 M' H' hi l r1 r2 => ev_pair (ev_var ((Sl.me r1).set Ex.refl)) (ev_list (ev_var (Sl.hr r2)))).cv fun _ _ r => by rw [List.map_id'] at r; exact r.colsQ) ⟨by rw [huq]; exact hP.fair, by rw [huq]; exact hP.are h12⟩).is (x' := Menu.mk cs) (by rw [huq])) fun v H3 e3 r => k v H3 (e1.trans e3) r

abbrev s_law_menu_right : Stmt := topS 30
theorem sc_law_menu_right : FnScope ["_law_bag_here", "_law_menu_here", "_law_plain", "_law_kinds_here", "_law_question", "_law_strange", "_law_kind", "_law_name", "_law_worths"] ["_law_bag_here", "_law_menu_here", "_law_plain"] (defScope s_law_menu_right) := ⟨rfl, rfl, rfl, by decide +kernel, rfl, by decide +kernel, by decide +kernel⟩

theorem ok_law_menu_right {f : Addr} {fd : FuncData} (F : Fun K "_law_menu_right" "_law_menu_right" s_law_menu_right f fd) (bt : Bt mg)
    (c_law_kinds : Cal P w K mg base 1 "_law_kinds" ["_law_plain"] (sp_law_kinds K C))
    (c_law_mixed : Cal P w K mg base 2 "_law_mixed" ["_law_bag_here", "_law_items"] (spMixed Int K C))
    (l_Menu : OwnC P w K mg base 1 (C "Menu") "__len__" ["self"] (sp_Menu_len K C))
    (p_Menu_kinds : PropC P w K mg base 1 (C "Menu") "kinds" (sp_Menu_kinds K C))
    (h_Menu_place : MetC P w K mg base 2 (C "Menu") "place" ["self", "kind"] (sp_Menu_place K C))
    (p_Menu_columns : PropC P w K mg base 1 (C "Menu") "columns" (sp_Menu_columns K C))
    (h_Menu_text : MetC P w K mg base 1 (C "Menu") "text" ["self"] (sp_Menu_text K C))
    (c_law_menu_text : Cal P w K mg base 1 "_law_menu_text" ["_law_plain"] (sp_law_menu_text K C))
    (i_Menu : OwnC P w K mg base 1 (C "Menu") "__contains__" ["self", "kind"] (sp_Menu_contains K C)) :
    FnOk P w K mg base CX0 3 f fd ["_law_bag_here", "_law_menu_here", "_law_plain"] (sp_law_menu_right K C) := by
  refine F.ok sc_law_menu_right (fun vs H Q E h => ?_) (fun cdv A outer s H vs Q E hr h => ?_)
  · obtain ⟨W, M, v, u, z, d, _, _, rfl, _⟩ := h; rfl
  · obtain ⟨W, M, v, u, m, cs, rfl, rfl, rfl, ok, r, rd, ⟨hP, h12, hm⟩, k⟩ := h
    obtain ⟨mc⟩ := m
    cases (show mc = cs from hm)
    have hKl : (kindsT ⟨cs⟩).l.length = (kinds cs).length := by unfold kindsT; rw [List.length_map]
    have hk12 : (kinds cs).length ≤ 12 := by have := kinds_prod cs; omega
    have hnd : ∀ c ∈ (Menu.mk cs).cols, c.2.Nodup := fun c hc => (hP.col c hc).nd
    have hft : Fair cs ∧ cs.length ≤ 3 ∧ ∀ c ∈ cs, c.2.length ≤ 12 := ⟨hP.fair, hP.l3, fun c hc => (hP.col c hc).l12⟩
    obtain ⟨k0, hk0, hk0m⟩ : ∃ k0, atI (kindsT ⟨cs⟩).l 0 = some k0 ∧ k0 ∈ (kindsT ⟨cs⟩).l := atI_mem (by decide) (by
      have := kinds_ne hP
      have : (kinds cs).length ≠ 0 := fun e => this (List.eq_nil_of_length_eq_zero e)
      rw [hKl]; omega)
    have hk0l : k0.l.length = cs.length := by
      obtain ⟨y, hy, rfl⟩ := List.mem_map.mp hk0m
      exact kind_len hy
    have h1 := hP.l1
    have h3 := hP.l3
    obtain ⟨z0, hz0, _⟩ := atI_mem (xs := k0.l) (n := 0) (by decide) (by omega)
    have hcols : colsT ⟨cs⟩ = Tup.mk (cs.map toT) := rfl
    refine ⟨_, (pss_cons (ps_set (i := 3) sc_law_menu_right.nd rfl (.inl rfl) (pe_call c_law_kinds.ok (by exact hr.mono (by decide)) (by rfl) c_law_kinds.gl c_law_kinds.kp c_law_kinds.b .nil pass0 (pa_cons (pv 2) pa_nil)))
      (pss_cons (ps_for PassesOwn.never rfl (pi_list (pe_call c_law_mixed.ok (by exact hr.mono (by decide)) (by rfl) c_law_mixed.gl c_law_mixed.kp c_law_mixed.b .nil pass0 (pa_cons (pv 0) (pa_cons (pe_lst (pa_cons pe_int (pa_cons pe_int (pa_cons pe_int (pa_cons pe_int pa_nil))))) pa_nil)))) (pg_name (i := 4) sc_law_menu_right.nd rfl (Or.inl rfl))
      (pss_cons (ps_if (PW.pt (pw_and (pt_cmpR op_eq (pv 4) pe_int (nomark _)) (pw_and1 (PW.pt (pw_or (pt_cmpR (op_neE (by exact hr.units)) (pe_prop (pv 1) p_Menu_kinds.cl p_Menu_kinds.pr p_Menu_kinds.ok (by exact hr.mono (by decide)) p_Menu_kinds.b .nil pass0 rfl) (pe_callTy cTupOf (by rfl) bt.tuple_ (by decide +kernel) (pa_cons (pv 3) pa_nil)) (nomark _)) (pw_or1 (pt_cmpR op_ne (pe_callB (cLenOwn l_Menu (by exact hr.mono (by decide))) (by rfl) bt.len_ (by decide +kernel) (pa_cons (pv 1) pa_nil)) (pe_callB cLenS (by rfl) bt.len_ (by decide +kernel) (pa_cons (pv 3) pa_nil)) (nomark _)))))))) (pss_one (ps_ret pe_bl)) pss_nil)
      (pss_cons (ps_if (pt_cmpR op_eq (pv 4) pe_int (nomark _)) (pss_one (ps_if (pt_cmpR (op_neE (by exact hr.units)) (pe_lc (own := [("_law_kind", 6)]) (g := gName 6) rfl sc_law_menu_right.nd (pi_list (pv 3)) (blkOk_by (own := [("_law_kind", 6)]) (N := ["_law_bag_here", "_law_menu_here", "_law_plain", "_law_kinds_here", "_law_question", "_law_strange", "_law_kind", "_law_name", "_law_worths"]) (sc := defScope s_law_menu_right) (by decide +kernel)) (fun _ _ _ _ _ => (pg_name (i := 6) sc_law_menu_right.nd rfl (Or.inl rfl))) (fun _ _ _ _ _ => pts_nil) (fun _ _ _ _ _ => (PE.to (pe_meth (pv 1) h_Menu_place.cl h_Menu_place.me h_Menu_place.ok (by exact hr.mono (by decide)) h_Menu_place.b .nil pass0 (pa_cons (pv 6) pa_nil)) (by dsimp only [Cx.blk] <;> rfl)))) (pe_listRg rfl (by rfl) bt.list_ (prg_1 (by rfl) bt.range_ (pe_callB cLenS (by rfl) bt.len_ (by decide +kernel) (pa_cons (pv 3) pa_nil)))) (nomark _)) (pss_one (ps_ret pe_bl)) pss_nil)) pss_nil)
      (pss_cons (ps_if (pt_cmpR op_eq (pv 4) pe_int (nomark _)) (pss_one (ps_if (pt_cmpR (op_neE (by exact hr.units)) (pe_prop (pv 1) p_Menu_columns.cl p_Menu_columns.pr p_Menu_columns.ok (by exact hr.mono (by decide)) p_Menu_columns.b .nil pass0 rfl) (pe_callTy cTupOf (by rfl) bt.tuple_ (by decide +kernel) (pa_cons (pe_lc (own := [("_law_name", 7), ("_law_worths", 8)]) (g := gPair W.K 7 8) rfl sc_law_menu_right.nd (pi_list (pv 2)) (blkOk_by (own := [("_law_name", 7), ("_law_worths", 8)]) (N := ["_law_bag_here", "_law_menu_here", "_law_plain", "_law_kinds_here", "_law_question", "_law_strange", "_law_kind", "_law_name", "_law_worths"]) (sc := defScope s_law_menu_right) (by decide +kernel)) (fun _ _ _ _ _ => (pg_tup rfl (pgs_cons (pg_name (i := 7) sc_law_menu_right.nd rfl (Or.inl rfl)) (pgs_cons (pg_name (i := 8) sc_law_menu_right.nd rfl (Or.inl rfl)) pgs_nil)))) (fun _ _ _ _ _ => pts_nil) (fun _ _ _ _ _ => (PE.to (pe_tup (pa_cons (pv 7) (pa_cons (pe_callTy cTupOf (by rfl) bt.tuple_ (by decide +kernel) (pa_cons (pv 8) pa_nil)) pa_nil))) (by dsimp only [Cx.blk] <;> rfl)))) pa_nil)) (nomark _)) (pss_one (ps_ret pe_bl)) pss_nil)) pss_nil)
      (pss_one (ps_if (PW.pt (pw_and (pt_cmpR op_eq (pv 4) pe_int (nomark _)) (pw_and1 (pt_cmpR op_ne (pe_meth0 (pv 1) h_Menu_text.cl h_Menu_text.me h_Menu_text.ok (by exact hr.mono (by decide)) h_Menu_text.b .nil pass0) (pe_call c_law_menu_text.ok (by exact hr.mono (by decide)) (by rfl) c_law_menu_text.gl c_law_menu_text.kp c_law_menu_text.b .nil pass0 (pa_cons (pv 2) pa_nil)) (nomark _))))) (pss_one (ps_ret pe_bl)) pss_nil))))))
      (pss_cons (ps_set (i := 5) sc_law_menu_right.nd rfl (.inl rfl) (pe_lst (pa_cons (pe_slice sl_tupA (pe_ix ix_list (pv 3) pe_int (fun _ _ => rfl)) (po_some pe_int) po_none) (pa_cons (pe_op op_catA (pe_ix ix_list (pv 3) pe_int (fun _ _ => rfl)) (pe_tup (pa_cons pe_str pa_nil))) (pa_cons (pe_callTy cListOf (by rfl) bt.list_ (by decide +kernel) (pa_cons (pe_ix ix_list (pv 3) pe_int (fun _ _ => rfl)) pa_nil)) (pa_cons pe_non (pa_cons pe_int (pa_cons (pe_ix ix_tup (pe_ix ix_list (pv 3) pe_int (fun _ _ => rfl)) pe_int (fun _ _ => rfl)) (pa_cons (pe_op op_mulT (pe_tup (pa_cons pe_str pa_nil)) (pe_callB cLenS (by rfl) bt.len_ (by decide +kernel) (pa_cons (pv 2) pa_nil))) (pa_cons (pe_tup (pa_cons pe_int pa_nil)) (pa_cons (pe_tup (pa_cons (pe_lst pa_nil) pa_nil)) pa_nil)))))))))))
      (pss_one (ps_ret (pe_and (pe_callB (cr_all rfl) (by rfl) bt.all_ (by decide +kernel) (pa_cons (pe_lc (own := [("_law_kind", 6)]) (g := gName 6) rfl sc_law_menu_right.nd (pi_list (pv 3)) (blkOk_by (own := [("_law_kind", 6)]) (N := ["_law_bag_here", "_law_menu_here", "_law_plain", "_law_kinds_here", "_law_question", "_law_strange", "_law_kind", "_law_name", "_law_worths"]) (sc := defScope s_law_menu_right) (by decide +kernel)) (fun _ _ _ _ _ => (pg_name (i := 6) sc_law_menu_right.nd rfl (Or.inl rfl))) (fun _ _ _ _ _ => pts_nil) (fun _ _ _ _ _ => (pe_cmpR (op_inOwn i_Menu (by exact hr.mono (by decide))) (pv 6) (pv 1) (by rfl)))) pa_nil)) (pe_one (pe_not (pe_callB (cr_any rfl) (by rfl) bt.any_ (by decide +kernel) (pa_cons (pe_lc (own := [("_law_kind", 6)]) (g := gName 6) rfl sc_law_menu_right.nd (pi_list (pv 5)) (blkOk_by (own := [("_law_kind", 6)]) (N := ["_law_bag_here", "_law_menu_here", "_law_plain", "_law_kinds_here", "_law_question", "_law_strange", "_law_kind", "_law_name", "_law_worths"]) (sc := defScope s_law_menu_right) (by decide +kernel)) (fun _ _ _ _ _ => (pg_name (i := 6) sc_law_menu_right.nd rfl (Or.inl rfl))) (fun _ _ _ _ _ => pts_nil) (fun _ _ _ _ _ => (pe_cmpR (op_inOwn i_Menu (by exact hr.mono (by decide))) (pv 6) (pv 1) (by rfl)))) pa_nil)))))))))), ?_⟩
    have Sm : ∀ (o3 o4 o5 o6 o7 o8 : Option V), Sl W M [some (.ref W.b), some v, some u, o3, o4, o5, o6, o7, o8] H 1 (Menu.mk cs) := fun _ _ _ _ _ _ => ⟨v, rfl, r⟩
    have Sp : ∀ (o3 o4 o5 o6 o7 o8 : Option V), Sl W M [some (.ref W.b), some v, some u, o3, o4, o5, o6, o7, o8] H 2 cs := fun _ _ _ _ _ _ => ⟨u, rfl, rd⟩
    refine s_set ok (x := (kindsT ⟨cs⟩).l) (ev_f1 (x := cs) (ev_var (Sp _ _ _ _ _ _)) hP.few) fun v3 H1 e1 ok1 r3 => ?_
    have Sk : ∀ (o4 o5 o6 o7 o8 : Option V), Sl W M [some (.ref W.b), some v, some u, some v3, o4, o5, o6, o7, o8] H1 3 (kindsT ⟨cs⟩).l := fun _ _ _ _ _ => ⟨v3, rfl, r3⟩
    refine for_r ok1 (evr_b1 bsr (ev_lst (xs := [0, 1, 2, (3 : Int)]) (ea_cons ev_int (ea_cons ev_int (ea_cons ev_int (ea_cons ev_int ea_nil)))) (by decide)) (by decide)) fun qs vq H2 hqs e2 ok2 rq => ?_
    refine for_w ok2 (ei_list (ev_val rq)) (fun i σ' H' => Ex W [] H1 H' ∧ ∃ o4, σ' = [some (.ref W.b), some v, some u, some v3, o4, none, none, none, none]) (fun H' e => ⟨e2.trans e, none, rfl⟩) ?_ ?_
    · rintro i q vq' σ' H' hi ⟨e0, o4, rfl⟩ ok' H'' e'' rq' N hN
      have ok'' := ok'.ex e''
      cases (show vq' = .int q from rq')
      have ee := e0.trans e''
      have e1e := e1.trans ee
      have S1 := (Sm (some v3) (some (.int q)) none none none none).up e1e
      have S2 := (Sp (some v3) (some (.int q)) none none none none).up e1e
      have S3 := (Sk (some (.int q)) none none none none).up ee
      refine s_no ok'' (Et.is (et_and (et_t (ev_eq (ev_vi (n := q)) ev_int)) fun _ => et_or (et_t (ev_neD (ev_prop (ev_var S1) trivial) (ev_tuple (ev_var S3)))) fun _ => et_t (ev_ne (ev_lenO (ev_var S1) trivial (by omega) (by show ((kinds cs).length : Int) < _; omega)) (ev_lenL (ev_var S3)))) (c := false) (by
        rw [show kindsT (Menu.mk cs) = Tup.mk (kindsT ⟨cs⟩).l from rfl, hKl]
        simp)) fun H3 e3 ok3 => ?_
      have S1 := S1.up e3
      have S2 := S2.up e3
      have S3 := S3.up e3
      refine s_ifc (J := fun σ' H' => σ' = [some (.ref W.b), some v, some u, some v3, some (.int q), none, none, none, none] ∧ Ex W [] H3 H' ∧ Ok W M H') ok3 (et_t (ev_eq (ev_vi (n := q)) ev_int)) ?_ ?_ (fun _ H4 e4 ok4 => ⟨rfl, e4, ok4⟩)
      · rintro σ4 H4 ⟨rfl, e4, ok4⟩
        have S1 := S1.up e4
        have S2 := S2.up e4
        refine s_ifc (J := fun σ' H' => σ' = [some (.ref W.b), some v, some u, some v3, some (.int q), none, none, none, none] ∧ Ex W [] H4 H' ∧ Ok W M H') ok4 (et_t (ev_eq (ev_vi (n := q)) ev_int)) ?_ ?_ (fun _ H5 e5 ok5 => ⟨rfl, e5, ok5⟩)
        · rintro σ5 H5 ⟨rfl, e5, ok5⟩
          have S1 := S1.up e5
          have S2 := S2.up e5
          refine s_no ok5 (Et.is (et_and (et_t (ev_eq (ev_vi (n := q)) ev_int)) fun _ => et_t (ev_ne (ev_m0 (ev_var S1) hft (by decide +kernel)) (ev_f1 (ev_var S2) hft))) (c := false) (by simp)) fun H6 e6 ok6 => ?_
          exact hN _ _ ⟨((((e0.trans e'').trans e3).trans e4).trans e5).trans e6, _, rfl⟩ (((e3.trans e4).trans e5).trans e6).up
        · intro hJ hb H5 e5 ok5
          have S1 := S1.up e5
          have S2 := S2.up e5
          refine s_no ok5 (Et.is (et_t (ev_neD (ev_prop (ev_var S1) trivial) (ev_tuple (ev_lc2 (f := toT) (ei_list (ev_var S2)) (by omega) (by decide) (by decide) fun i c v1 v2 M' H' hi l r1 r2 => ev_pair (ev_var ((Sl.me r1).set Ex.refl)) (ev_tuple (ev_var (Sl.hr r2))))))) (c := false) (by rw [hcols]; simp)) fun H6 e6 ok6 => ?_
          exact hJ _ _ ⟨rfl, e5.trans e6, ok6⟩
      · intro hJ hb H4 e4 ok4
        have S1 := S1.up e4
        have S3 := S3.up e4
        refine s_no ok4 (Et.is (et_t (ev_neD (ev_lc (f := fun k => placeOf ⟨cs⟩ (PyD.dat k)) (ei_list (ev_var S3)) (by rw [hKl]; omega) (by decide) fun i k v M' H' hi l r => ev_m1 (ev_var (S1.lc l)) (ev_var (Sl.me r)).toD ⟨?_, ?_, in_place (List.mem_of_getElem? hi)⟩ (by decide +kernel)) (ev_listRg (ev_lenL (ev_var S3)) (by omega) (by rw [hKl]; omega)))) (c := false) (by rw [place_all hnd]; simp)) fun H6 e6 ok6 => ?_
        · show (kinds cs).length ≤ 1000; omega
        · exact Nat.le_trans (PyD.depth k) (by decide)
        · exact hJ _ _ ⟨rfl, e4.trans e6, ok6⟩
    · rintro σ' H' ⟨e0, o4, rfl⟩ ok'
      have S1 := (Sm (some v3) o4 none none none none).up (e1.trans e0)
      have S2 := (Sp (some v3) o4 none none none none).up (e1.trans e0)
      have S3 := (Sk o4 none none none none).up e0
      have E0 : Ev W M (tOp (rIxL W.K) (tVar 3) (tC (.int 0))) [some (.ref W.b), some v, some u, some v3, o4, none, none, none, none] H' k0 := ev_ixL (ev_var S3) ev_int hk0
      refine s_set ok' (x := strangeL k0 z0 cs.length) (ev_lst (ea_cons (((ev_slT E0 (eo_some ev_int) eo_none).is (x' := Tup.mk (k0.l.drop 1)) (by rw [cutG_from])).toD) (ea_cons (ev_catT E0 (ev_tup (ea_cons (ev_str (s := "x")) ea_nil) (by show 1 ≤ _; decide)) (by show _ + 1 ≤ _; omega)).toD (ea_cons (ev_listT E0).toD (ea_cons ev_non.toD (ea_cons ev_int.toD (ea_cons (ev_ixT E0 ev_int hz0).toD
        (ea_cons ((ev_mulT (ev_tup (ea_cons (ev_str (s := "n0")) ea_nil) (by show 1 ≤ _; decide)) (ev_lenL (ev_var S2)) (by simp) (by omega) (by omega) (by show 1 ≤ _; decide)).is (x' := Tup.mk (List.replicate cs.length ("n0" : Str))) (by rw [Int.toNat_natCast]; simp)).toD (ea_cons (ev_tup (ea_cons (ev_int (n := 1)) ea_nil) (by show 1 ≤ _; decide)).toD (ea_cons (ev_tup (ea_cons (ev_lst (ea_nil (α := Int)) (by decide)) ea_nil) (by show 1 ≤ _; decide)).toD ea_nil))))))))) (by show 9 ≤ _; decide)) fun v5 H6 e6 ok6 r5 => ?_
      have S1 := (Sm (some v3) o4 (some v5) none none none).up ((e1.trans e0).trans e6)
      have S3 := (Sk o4 (some v5) none none none).up (e0.trans e6)
      have S5 : Sl W M [some (.ref W.b), some v, some u, some v3, o4, some v5, none, none, none] H6 5 (strangeL k0 z0 cs.length) := ⟨v5, rfl, r5⟩
      refine s_ret ok6 ((ev_and (ev_all (ev_lc (f := fun k => holds ⟨cs⟩ (PyD.dat k)) (ei_list (ev_var S3)) (by rw [hKl]; omega) (by decide) fun i k v M' H' hi l r => ev_inM (m := ⟨cs⟩) (d := PyD.dat k) (ev_var (Sl.me r)).toD (ev_var (S1.lc l)) ?_ ?_)) fun _ => ev_not (ev_any (ev_lc (f := fun d => holds ⟨cs⟩ d) (ei_list (ev_var S5)) (by show 9 ≤ _; decide) (by decide) fun i d v M' H' hi l r => ev_inM (m := ⟨cs⟩) (d := d) (ev_var (Sl.me r)) (ev_var (S1.lc l)) ?_ ?_))).is (x' := true) ?_) fun v H7 e7 r => k v true H7 rfl (((e1.trans e0).trans e6).trans e7) r
      · show (kinds cs).length ≤ 1000; omega
      · exact Nat.le_trans (PyD.depth k) (by decide)
      · show (kinds cs).length ≤ 1000; omega
      · exact (strange_no hP hk0m z0 d (List.mem_of_getElem? hi)).1
      · rw [Bool.and_eq_true, List.all_map, List.all_eq_true, Bool.not_eq_true', List.any_map, List.any_eq_false]
        refine ⟨fun k hk => (in_place hk).1, fun d hd => ?_⟩
        show ¬ holds ⟨cs⟩ d = true
        rw [(strange_no hP hk0m z0 d hd).2]
        exact Bool.false_ne_true

abbrev s_law_near : Stmt := topS 31
theorem sc_law_near : FnScope ["_law_bag_here", "_law_plain", "_law_near_here", "_law_spot", "_law_choice", "_law_name", "_law_worths"] ["_law_bag_here", "_law_plain"] (defScope s_law_near) := ⟨rfl, rfl, rfl, by decide +kernel, rfl, by decide +kernel, by decide +kernel⟩

theorem ok_law_near {f : Addr} {fd : FuncData} (F : Fun K "_law_near" "_law_near" s_law_near f fd) (bt : Bt mg)
    (c_law_draw : Cal P w K mg base 1 "_law_draw" ["_law_bag_here", "_law_size"] (sp_law_draw K C)) :
    FnOk P w K mg base CX0 2 f fd ["_law_bag_here", "_law_plain"] (sp_law_near K C) := by
  refine F.ok sc_law_near (fun vs H Q E h => ?_) (fun cdv A outer s H vs Q E hr h => ?_)
  · obtain ⟨W, M, v, z, _, _, rfl, _⟩ := h; rfl
  · obtain ⟨W, M, v, cs, rfl, rfl, rfl, ok, r, hP, k⟩ := h
    have S1 : Sl W M [some (.ref W.b), some v, none, none, none, none, none] H 1 cs := ⟨v, rfl, r⟩
    have h3 := hP.l3
    have h1 := hP.l1
    refine ⟨_, (pss_cons (ps_setLc (i := 2) (own := [("_law_name", 5), ("_law_worths", 6)]) (g := gPair W.K 5 6) rfl sc_law_near.nd rfl rfl (sw_true rfl rfl rfl (by decide +kernel)) (pi_list (pv 1)) (blkOk_by (own := [("_law_name", 5), ("_law_worths", 6)]) (N := ["_law_bag_here", "_law_plain", "_law_near_here", "_law_spot", "_law_choice", "_law_name", "_law_worths"]) (sc := defScope s_law_near) (by decide +kernel)) (fun _ _ _ _ _ => (pg_tup rfl (pgs_cons (pg_name (i := 5) sc_law_near.nd rfl (Or.inl rfl)) (pgs_cons (pg_name (i := 6) sc_law_near.nd rfl (Or.inl rfl)) pgs_nil)))) (fun _ _ _ _ _ => pts_nil) (fun _ _ _ _ _ => (PE.to (pe_tup (pa_cons (pv 5) (pa_cons (pe_callTy cListOf (by rfl) bt.list_ (by decide +kernel) (pa_cons (pv 6) pa_nil)) pa_nil))) (by dsimp only [Cx.blk] <;> rfl))))
      (pss_cons (ps_set (i := 3) sc_law_near.nd rfl (.inl rfl) (pe_call c_law_draw.ok (by exact hr.mono (by decide)) (by rfl) c_law_draw.gl c_law_draw.kp c_law_draw.b .nil pass0 (pa_cons (pv 0) (pa_cons (pe_callB cLenS (by rfl) bt.len_ (by decide +kernel) (pa_cons (pv 2) pa_nil)) pa_nil))))
      (pss_cons (ps_set (i := 4) sc_law_near.nd rfl (.inl rfl) (pe_call c_law_draw.ok (by exact hr.mono (by decide)) (by rfl) c_law_draw.gl c_law_draw.kp c_law_draw.b .nil pass0 (pa_cons (pv 0) (pa_cons pe_int pa_nil))))
      (pss_cons (ps_if (pt_cmpR op_eq (pv 4) pe_int (nomark _)) (pss_one (ps_expr (pe_bm0 PySem.F.plainAttrs_list PySem.F.slot_list_reverse PySem.F.type_list_reverse mt_reverse (pe_ix ix_tup (pe_ix ix_list (pv 2) (pv 3) (fun _ _ => rfl)) pe_int (fun _ _ => rfl))))) pss_nil)
      (pss_cons (ps_if (pt_cmpR op_eq (pv 4) pe_int (nomark _)) (pss_one (ps_asg (pe_tup (pa_cons (pe_op op_add_str (pe_slice sl_str (pe_ix ix_tup (pe_ix ix_list (pv 2) (pv 3) (fun _ _ => rfl)) pe_int (fun _ _ => rfl)) po_none (po_some pe_int)) pe_str) (pa_cons (pe_ix ix_tup (pe_ix ix_list (pv 2) (pv 3) (fun _ _ => rfl)) pe_int (fun _ _ => rfl)) pa_nil))) (pg_sub (pv 2) (pv 3) set_list))) pss_nil)
      (pss_cons (ps_if (pt_cmpR op_eq (pv 4) pe_int (nomark _)) (pss_one (ps_set (i := 2) sc_law_near.nd rfl (.inl rfl) (pe_revL (pv 2)))) pss_nil)
      (pss_one (ps_ret (pv 2))))))))), ?_⟩
    refine s_cols (k := 5) (l := 6) ok (ei_list (ev_var S1)) (by omega) (by decide) (by decide) (by decide) (by show 5 < 7; decide) (by show 6 < 7; decide) fun L zs H1 hzs hnd hfr hL e1 ok1 R1 => ?_
    have hzl : zs.length = cs.length := by rw [← hzs, List.length_map]
    refine s_setR ok1 (evr_b1 bsr (ev_lenL (ev_var ⟨.ref L, rfl, R1⟩)) ⟨by omega, by omega⟩) fun v3 spot H2 hs e2 ok2 r3 => ?_
    cases (show v3 = .int spot from r3)
    refine s_setR ok2 (evr_b1 bsr ev_int ⟨by decide, by decide⟩) fun v4 ch H3 hch e3 ok3 r4 => ?_
    cases (show v4 = .int ch from r4)
    have R3 := (R1.up e2).up e3
    have hN0 : NearOk cs (zs.map OCol.col) := by rw [hzs]; exact hP.near
    have hji : ∀ zs' : List OCol, zs'.length = cs.length → ∃ z, zs'[spot.toNat]? = some z ∧ atI zs' spot = some z := fun zs' hl => by
      have hj : spot.toNat < zs'.length := by omega
      refine ⟨zs'[spot.toNat], List.getElem?_eq_getElem hj, ?_⟩
      rw [atI_getD zs'[spot.toNat] hs.1 (by omega), List.getD_eq_getElem?_getD, List.getElem?_eq_getElem hj]; rfl
    refine s_ifc (J := fun σ' H' => ∃ zs', σ' = [some (.ref W.b), some v, some (.ref L), some (.int spot), some (.int ch), none, none] ∧ Rep W M H' (.ref L) zs' ∧ NearOk cs (zs'.map OCol.col) ∧ (zs'.map OCol.a).Nodup ∧ Ex W [] H H' ∧ Ok W M H')
      ok3 (et_t (ev_eq (ev_vi (n := ch)) ev_int)) ?_ ?_ (fun _ H4 e4 ok4 => ⟨zs, rfl, R3.up e4, hN0, hnd, ((e1.trans e2).trans e3).trans e4, ok4⟩)
    · rintro σ' H4 ⟨zs', rfl, R4, hN, hnd', e4, ok4⟩
      have hl' : zs'.length = cs.length := by have := hN.len; rwa [List.length_map] at this
      refine s_ifc (J := fun σ' H' => ∃ zs', σ' = [some (.ref W.b), some v, some (.ref L), some (.int spot), some (.int ch), none, none] ∧ Rep W M H' (.ref L) zs' ∧ NearOk cs (zs'.map OCol.col) ∧ Ex W [] H H' ∧ Ok W M H')
        ok4 (et_t (ev_eq (ev_vi (n := ch)) ev_int)) ?_ ?_ (fun _ H5 e5 ok5 => ⟨zs', rfl, R4.up e5, hN, e4.trans e5, ok5⟩)
      · rintro σ' H5 ⟨zs2, rfl, R5, hN2, e5, ok5⟩
        have hl2 : zs2.length = cs.length := by have := hN2.len; rwa [List.length_map] at this
        refine s_ifc (J := fun σ' H' => ∃ zs3, Sl W M σ' H' 2 zs3 ∧ NearOk cs (zs3.map OCol.col) ∧ Ex W [] H H' ∧ Ok W M H')
          ok5 (et_t (ev_eq (ev_vi (n := ch)) ev_int)) ?_ ?_ (fun _ H6 e6 ok6 => ⟨zs2, ⟨.ref L, rfl, R5.up e6⟩, hN2, e5.trans e6, ok6⟩)
        · rintro σ' H6 ⟨zs3, S6, hN3, e6, ok6⟩
          exact s_ret ok6 ((ev_var S6).cv fun _ _ r => r.cols) fun v H7 e7 r => k v _ H7 hN3 (e6.trans e7) r
        · intro hJ hb H6 e6 ok6
          refine s_set ok6 (ev_rev (ev_var ⟨.ref L, rfl, R5.up e6⟩)) fun v7 H7 e7 ok7 r7 => hJ _ _ ⟨zs2.reverse, Sl.here r7 (by show 2 < 7; decide), by rw [List.map_reverse]; exact hN2.rev, (e5.trans e6).trans e7, ok7⟩
      · intro hJ hb H5 e5 ok5
        obtain ⟨z, hz, hza⟩ := hji zs' hl'
        have hzc : (zs'.map OCol.col)[spot.toNat]? = some z.col := by rw [List.getElem?_map, hz]; rfl
        have hcol : ColOk z.col := hN.col _ (List.mem_of_getElem? hzc)
        have hzn : z.n.length ≤ 8 := by have := (isName_is hcol.name).2.1; rw [len_tl]; exact this
        have R5 := R4.up e5
        have E0 : Ev W M (tOp (rIxT W.K) (tOp (rIxL W.K) (tVar 2) (tVar 3)) (tC (.int 0))) [some (.ref W.b), some v, some (.ref L), some (.int spot), some (.int ch), none, none] H5 z.n := fun H6 e6 _ Q q => (ocol_at (R5.up e6) (val_var rfl) (val_var rfl) hza).2 Q (q _ H6 Ex.refl rep_str)
        have hcl : (cutS z.n none (some 7)).length ≤ 8 := Nat.le_trans cut_len hzn
        refine as_tup2 ?_
        refine (ev_addS (ev_slS E0 eo_none (eo_some ev_int) (by omega)) (ev_str (s := "q")) (Nat.le_trans (Nat.add_le_add_right hcl _) (by decide +kernel))) H5 Ex.refl ok5 _ fun v1 H6 e6 r6 => ?_
        cases (show v1 = .str _ from r6)
        have R6 := R5.up e6
        have ok6 := ok5.ex e6
        refine (ocol_at R6 (val_var rfl) (val_var rfl) hza).1 _ ⟨by show 2 ≤ sizeLine; decide, fun p hp => ?_⟩
        obtain ⟨us, hh, nb, nm, pp, no⟩ := own_out R6
        have npL : p ≠ L := fun e => by rw [e, hh] at hp; cases hp
        obtain ⟨q1, q2⟩ := own_set ok6 R6 hh hz (cutS z.n none (some 7) ++ "q") hp
        refine ⟨.ref L, rfl, .int spot, rfl, L, us, spot, spot.toNat, rfl, rfl, by rw [upd_ne npL.symm]; exact hh, ?_, ?_⟩
        · unfold ixN
          rw [if_pos hs.1, if_pos (by rw [Pd.length pp]; omega)]
        · have e56 := (e4.trans e5).trans e6
          refine hJ _ _ ⟨_, rfl, q1, ?_, (e56.trans (Ex.new hp)).mut0 ok hL, ok6.ex q2⟩
          · rw [List.map_set]
            exact hN.set hzc hcol.other rfl
    · intro hJ hb H4 e4 ok4
      obtain ⟨z, hz, hza⟩ := hji zs hzl
      have R4 := R3.up e4
      have hzc : (zs.map OCol.col)[spot.toNat]? = some z.col := by rw [List.getElem?_map, hz]; rfl
      have hcol : ColOk z.col := hN0.col _ (List.mem_of_getElem? hzc)
      obtain ⟨us, hh, nb, nm, pp, no⟩ := own_out R4
      obtain ⟨u, hu, ru⟩ := Pd.get pp hz
      obtain ⟨T, rfl, t1, t2, t3, z3, z4, z5⟩ := ru.ocol
      have hfa : cut W M H z.a = none := hfr z (List.mem_of_getElem? hz)
      have hz0 : H z.a = none := cut_free hfa z4 fun hm => z5 (List.mem_cons_of_mem _ hm)
      refine (ocol_at R4 (val_var rfl) (val_var rfl) hza).1 _ ⟨.inl ⟨rfl, _, SqL.of z3⟩, z.a, _, rfl, rfl, z3, ?_⟩
      have e04 := (((e1.trans e2).trans e3).trans e4)
      rw [← List.map_reverse]
      have hm := e04.mut0 (o := .lst (z.ws.reverse.map V.str)) ok hz0
      refine hJ _ _ ⟨_, rfl, own_upd R4 hnd hz z.ws.reverse, ?_, ?_, hm, ok.ex hm⟩
      · rw [List.map_set]
        refine hN0.set hzc hcol.rev ?_
        show z.ws.reverse.length = z.ws.length
        rw [List.length_reverse]
      · rw [map_set_same (f := OCol.a) (c' := ⟨z.n, z.ws.reverse, z.a⟩) hz rfl]; exact hnd

abbrev s_law : Stmt := topS 32
theorem sc_law : FnScope ["_law_script", "_law_bag_here", "_law_plains", "_law_given", "_law_menus", "_law_kept", "_law_turn", "_law_others", "_law_other", "_law_near_here", "_law_names_here", "_law_due", "_law_name", "_law_worths"] ["_law_script"] (defScope s_law) := ⟨rfl, rfl, rfl, by decide +kernel, rfl, by decide +kernel, by decide +kernel⟩

theorem ok_law {f : Addr} {fd : FuncData} (F : Fun K "law" "law" s_law f fd) (bt : Bt mg)
    (c_law_bag : Cal P w K mg base 1 "_law_bag" ["_law_script"] (sp_law_bag K C))
    (c_law_menu : Cal P w K mg base 3 "_law_menu" ["_law_bag_here", "_law_most"] (sp_law_menu K C))
    (c_law_made_menu : Cal P w K mg base 7 "_law_made_menu" ["_law_plain"] (sp_law_made_menu K C))
    (m_Menu : MakC P w K mg base 4 (C "Menu") "Menu" ["self", "columns"] (sp_Menu_init K C))
    (c_law_menu_right : Cal P w K mg base 3 "_law_menu_right" ["_law_bag_here", "_law_menu_here", "_law_plain"] (sp_law_menu_right K C))
    (p_Menu_columns : PropC P w K mg base 1 (C "Menu") "columns" (sp_Menu_columns K C))
    (k_Menu_read : CmC P w K mg base 6 (C "Menu") "Menu" "read" ["cls", "text"] (sp_Menu_read K C))
    (h_Menu_text : MetC P w K mg base 1 (C "Menu") "text" ["self"] (sp_Menu_text K C))
    (h_Menu_same : MetC P w K mg base 1 (C "Menu") "same" ["self", "other"] (sp_Menu_same K C))
    (c_law_near : Cal P w K mg base 2 "_law_near" ["_law_bag_here", "_law_plain"] (sp_law_near K C)) :
    FnOk P w K mg base CX0 8 f fd ["_law_script"] (sp_law K C) := by
  refine F.ok sc_law (fun vs H Q E h => ?_) (fun cdv A outer s H vs Q E hr h => ?_)
  · obtain ⟨a, ns, rfl, _⟩ := h; rfl
  · obtain ⟨a, ns, rfl, hS, hlen, k⟩ := h
    refine ⟨_, (pss_cons (ps_set (i := 1) sc_law.nd rfl (.inl rfl) (pe_call c_law_bag.ok (by exact hr.mono (by decide)) (by rfl) c_law_bag.gl c_law_bag.kp c_law_bag.b .nil pass0 (pa_cons (pv 0) pa_nil)))
      (pss_cons (ps_set (i := 2) sc_law.nd rfl (.inl rfl) (pe_lst (pa_cons (pe_call c_law_menu.ok (by exact hr.mono (by decide)) (by rfl) c_law_menu.gl c_law_menu.kp c_law_menu.b .nil pass0 (pa_cons (pv 1) (pa_cons pe_int pa_nil))) (pa_cons (pe_call c_law_menu.ok (by exact hr.mono (by decide)) (by rfl) c_law_menu.gl c_law_menu.kp c_law_menu.b .nil pass0 (pa_cons (pv 1) (pa_cons pe_int pa_nil))) pa_nil))))
      (pss_cons (ps_setLc (i := 3) (own := [("_law_name", 12), ("_law_worths", 13)]) (g := gPair K 12 13) rfl sc_law.nd rfl rfl (sw_true rfl rfl rfl (by decide +kernel)) (pi_list (pe_ix ix_list (pv 2) pe_int (fun _ _ => rfl))) (blkOk_by (own := [("_law_name", 12), ("_law_worths", 13)]) (N := ["_law_script", "_law_bag_here", "_law_plains", "_law_given", "_law_menus", "_law_kept", "_law_turn", "_law_others", "_law_other", "_law_near_here", "_law_names_here", "_law_due", "_law_name", "_law_worths"]) (sc := defScope s_law) (by decide +kernel)) (fun _ _ _ _ _ => (pg_tup rfl (pgs_cons (pg_name (i := 12) sc_law.nd rfl (Or.inl rfl)) (pgs_cons (pg_name (i := 13) sc_law.nd rfl (Or.inl rfl)) pgs_nil)))) (fun _ _ _ _ _ => pts_nil) (fun _ _ _ _ _ => (PE.to (pe_tup (pa_cons (pv 12) (pa_cons (pe_callTy cListOf (by rfl) bt.list_ (by decide +kernel) (pa_cons (pv 13) pa_nil)) pa_nil))) (by dsimp only [Cx.blk] <;> rfl))))
      (pss_cons (ps_set (i := 4) sc_law.nd rfl (.inl rfl) (pe_lst (pa_cons (pe_make m_Menu.mo m_Menu.ok (by exact hr.mono (by decide)) (by rfl) m_Menu.gl m_Menu.b .nil pass0 (pa_cons (pv 3) pa_nil)) (pa_cons (pe_call c_law_made_menu.ok (by exact hr.mono (by decide)) (by rfl) c_law_made_menu.gl c_law_made_menu.kp c_law_made_menu.b .nil pass0 (pa_cons (pe_ix ix_list (pv 2) pe_int (fun _ _ => rfl)) pa_nil)) pa_nil))))
      (pss_cons (ps_setLc (i := 5) (own := [("_law_name", 12), ("_law_worths", 13)]) (g := gPair K 12 13) rfl sc_law.nd rfl rfl (sw_true rfl rfl rfl (by decide +kernel)) (pi_list (pe_ix ix_list (pv 2) pe_int (fun _ _ => rfl))) (blkOk_by (own := [("_law_name", 12), ("_law_worths", 13)]) (N := ["_law_script", "_law_bag_here", "_law_plains", "_law_given", "_law_menus", "_law_kept", "_law_turn", "_law_others", "_law_other", "_law_near_here", "_law_names_here", "_law_due", "_law_name", "_law_worths"]) (sc := defScope s_law) (by decide +kernel)) (fun _ _ _ _ _ => (pg_tup rfl (pgs_cons (pg_name (i := 12) sc_law.nd rfl (Or.inl rfl)) (pgs_cons (pg_name (i := 13) sc_law.nd rfl (Or.inl rfl)) pgs_nil)))) (fun _ _ _ _ _ => pts_nil) (fun _ _ _ _ _ => (PE.to (pe_tup (pa_cons (pv 12) (pa_cons (pe_callTy cListOf (by rfl) bt.list_ (by decide +kernel) (pa_cons (pv 13) pa_nil)) pa_nil))) (by dsimp only [Cx.blk] <;> rfl))))
      (pss_cons (ps_if (pt_cmpR (op_neE (by exact hr.units)) (pv 3) (pv 5) (nomark _)) (pss_one (ps_ret pe_bl)) pss_nil)
      (pss_cons (ps_expr (pe_bm PySem.F.plainAttrs_list PySem.F.slot_list_append PySem.F.type_list_append mt_append (pe_ix ix_tup (pe_ix ix_list (pv 3) pe_int (fun _ _ => rfl)) pe_int (fun _ _ => rfl)) (pa_cons pe_str pa_nil)))
      (pss_cons (ps_expr (pe_bm0 PySem.F.plainAttrs_list PySem.F.slot_list_clear PySem.F.type_list_clear mt_clear (pv 3)))
      (pss_cons (ps_for PassesOwn.never rfl (pi_list (pe_lst (pa_cons pe_int (pa_cons pe_int (pa_cons pe_int pa_nil))))) (pg_name (i := 6) sc_law.nd rfl (Or.inl rfl))
      (pss_cons (ps_if (pt_not (pt_val (pe_call c_law_menu_right.ok (by exact hr.mono (by decide)) (by rfl) c_law_menu_right.gl c_law_menu_right.kp c_law_menu_right.b .nil pass0 (pa_cons (pv 1) (pa_cons (pe_ix ix_list (pv 4) (pv 6) (fun _ _ => rfl)) (pa_cons (pe_ix ix_list (pv 2) (pv 6) (fun _ _ => rfl)) pa_nil)))))) (pss_one (ps_ret pe_bl)) pss_nil)
      (pss_cons (ps_set (i := 7) sc_law.nd rfl (.inl rfl) (pe_lst (pa_cons (ClX.pe_cmeth (pe_glob (v := .ref (C "Menu")) rfl k_Menu_read.gl rfl) k_Menu_read.rd k_Menu_read.cm (fnR_of k_Menu_read.ok k_Menu_read.b) (by exact hr.mono (by decide)) pass0 (pa_cons (pe_meth0 (pe_ix ix_list (pv 4) (pv 6) (fun _ _ => rfl)) h_Menu_text.cl h_Menu_text.me h_Menu_text.ok (by exact hr.mono (by decide)) h_Menu_text.b .nil pass0) pa_nil)) (pa_cons (pe_make m_Menu.mo m_Menu.ok (by exact hr.mono (by decide)) (by rfl) m_Menu.gl m_Menu.b .nil pass0 (pa_cons (pe_callTy cListOf (by rfl) bt.list_ (by decide +kernel) (pa_cons (pe_prop (pe_ix ix_list (pv 4) (pv 6) (fun _ _ => rfl)) p_Menu_columns.cl p_Menu_columns.pr p_Menu_columns.ok (by exact hr.mono (by decide)) p_Menu_columns.b .nil pass0 rfl) pa_nil)) pa_nil)) (pa_cons (pe_make m_Menu.mo m_Menu.ok (by exact hr.mono (by decide)) (by rfl) m_Menu.gl m_Menu.b .nil pass0 (pa_cons (pe_prop (pe_ix ix_list (pv 4) (pv 6) (fun _ _ => rfl)) p_Menu_columns.cl p_Menu_columns.pr p_Menu_columns.ok (by exact hr.mono (by decide)) p_Menu_columns.b .nil pass0 rfl) pa_nil)) pa_nil)))))
      (pss_one (ps_for PassesOwn.never rfl (pi_list (pv 7)) (pg_name (i := 8) sc_law.nd rfl (Or.inl rfl))
      (pss_one (ps_if (PW.pt (pw_or (pt_not (pt_val (pe_meth (pv 8) h_Menu_same.cl h_Menu_same.me h_Menu_same.ok (by exact hr.mono (by decide)) h_Menu_same.b .nil pass0 (pa_cons (pe_ix ix_list (pv 4) (pv 6) (fun _ _ => rfl)) pa_nil)))) (pw_or1 (pt_not (pt_val (pe_call c_law_menu_right.ok (by exact hr.mono (by decide)) (by rfl) c_law_menu_right.gl c_law_menu_right.kp c_law_menu_right.b .nil pass0 (pa_cons (pv 1) (pa_cons (pv 8) (pa_cons (pe_ix ix_list (pv 2) (pv 6) (fun _ _ => rfl)) pa_nil))))))))) (pss_one (ps_ret pe_bl)) pss_nil)))))))
      (pss_cons (ps_set (i := 9) sc_law.nd rfl (.inl rfl) (pe_call c_law_near.ok (by exact hr.mono (by decide)) (by rfl) c_law_near.gl c_law_near.kp c_law_near.b .nil pass0 (pa_cons (pv 1) (pa_cons (pe_ix ix_list (pv 2) pe_int (fun _ _ => rfl)) pa_nil))))
      (pss_cons (ps_setLc (i := 10) (own := [("_law_name", 12), ("_law_worths", 13)]) (g := gPair K 12 13) rfl sc_law.nd rfl rfl (sw_true rfl rfl rfl (by decide +kernel)) (pi_list (pv 9)) (blkOk_by (own := [("_law_name", 12), ("_law_worths", 13)]) (N := ["_law_script", "_law_bag_here", "_law_plains", "_law_given", "_law_menus", "_law_kept", "_law_turn", "_law_others", "_law_other", "_law_near_here", "_law_names_here", "_law_due", "_law_name", "_law_worths"]) (sc := defScope s_law) (by decide +kernel)) (fun _ _ _ _ _ => (pg_tup rfl (pgs_cons (pg_name (i := 12) sc_law.nd rfl (Or.inl rfl)) (pgs_cons (pg_name (i := 13) sc_law.nd rfl (Or.inl rfl)) pgs_nil)))) (fun _ _ _ _ _ => pts_nil) (fun _ _ _ _ _ => (pv 12)))
      (pss_cons (ps_if (pt_cmpR op_eq (pe_lenSetS rfl (by rfl) bt.len_ (by rfl) bt.set_ (pv 10)) (pe_callB cLenS (by rfl) bt.len_ (by decide +kernel) (pa_cons (pv 10) pa_nil)) (nomark _)) (pss_cons (ps_set (i := 8) sc_law.nd rfl (.inl rfl) (pe_make m_Menu.mo m_Menu.ok (by exact hr.mono (by decide)) (by rfl) m_Menu.gl m_Menu.b .nil pass0 (pa_cons (pv 9) pa_nil)))
      (pss_cons (ps_set (i := 11) sc_law.nd rfl (.inl rfl) (pe_cmpR (op_eqE (by exact hr.units)) (pv 9) (pv 5) (nomark _)))
      (pss_one (ps_if (PW.pt (pw_or (pt_cmpR op_ne (pe_meth (pe_ix ix_list (pv 4) pe_int (fun _ _ => rfl)) h_Menu_same.cl h_Menu_same.me h_Menu_same.ok (by exact hr.mono (by decide)) h_Menu_same.b .nil pass0 (pa_cons (pv 8) pa_nil)) (pv 11) (nomark _)) (pw_or (pt_cmpR op_ne (pe_meth (pv 8) h_Menu_same.cl h_Menu_same.me h_Menu_same.ok (by exact hr.mono (by decide)) h_Menu_same.b .nil pass0 (pa_cons (pe_ix ix_list (pv 4) pe_int (fun _ _ => rfl)) pa_nil)) (pv 11) (nomark _)) (pw_or1 (pt_not (pt_val (pe_call c_law_menu_right.ok (by exact hr.mono (by decide)) (by rfl) c_law_menu_right.gl c_law_menu_right.kp c_law_menu_right.b .nil pass0 (pa_cons (pv 1) (pa_cons (pv 8) (pa_cons (pv 9) pa_nil)))))))))) (pss_one (ps_ret pe_bl)) pss_nil)))) pss_nil)
      (pss_one (ps_ret (pe_cmpR op_eq (pe_meth (pe_ix ix_list (pv 4) pe_int (fun _ _ => rfl)) h_Menu_same.cl h_Menu_same.me h_Menu_same.ok (by exact hr.mono (by decide)) h_Menu_same.b .nil pass0 (pa_cons (pe_ix ix_list (pv 4) pe_int (fun _ _ => rfl)) pa_nil)) (pe_cmpR (op_eqE (by exact hr.units)) (pe_ix ix_list (pv 2) pe_int (fun _ _ => rfl)) (pe_ix ix_list (pv 2) pe_int (fun _ _ => rfl)) (nomark _)) (nomark _)))))))))))))))), ?_⟩
    refine ⟨.ref a, rfl, a, ns, rfl, hS, fun b l H1 hb hl nl eH => ?_⟩
    let W : Wd := ⟨K, C, b, l, ns⟩
    have ok1 : Ok W [] H1 := by
      refine ⟨⟨0, 0, 17, 0, ?_, nl, ?_, by decide, by decide⟩, fun a h => by cases h⟩
      · rw [eH]; exact upd_same
      · rw [eH]; show upd _ b _ l = _; rw [upd_ne nl, upd_same]
    refine s_setR (W := W) (M := []) ok1 (evr_lst2 (evr_b1 bsr ev_int (by decide)) (evr_b1 bsr ev_int (by decide))) fun v2 pl H2 hpl e2 ok2 r2 => ?_
    obtain ⟨cs0, cs1, rfl, ⟨hP0, hp0⟩, hP1, hp1⟩ := hpl
    have hp1 : prod cs1 ≤ 12 := Int.le_trans hp1 (by decide)
    have hc0 : cs0.length ≤ 1000 := by have := hP0.l3; omega
    have hat0 : ∀ {ω : Type} (x y : ω), atI [x, y] 0 = some x := fun x y => rfl
    have hat1 : ∀ {ω : Type} (x y : ω), atI [x, y] 1 = some y := fun x y => rfl
    refine s_cols (W := W) (M := []) (k := 12) (l := 13) ok2 (ei_list (ev_ixL (ev_var (Sl.hr r2)) ev_int (hat0 _ _))) hc0 (by decide) (by decide) (by decide) (by show 12 < 14; decide) (by show 13 < 14; decide) fun Lg zs H3 hzs hnd hfr hLg e3 ok3 Rg => ?_
    have S2 : ∀ {σ : L2.St} {H' : Hp}, σ[2]? = some (some v2) → Ex W [] H2 H' → Sl W [] σ H' 2 [cs0, cs1] := fun h e => ⟨v2, h, r2.up e⟩
    have Rgc : Rep W [] H3 (.ref Lg) cs0 := hzs ▸ Rg.cols
    refine s_lst2 (W := W) (M := []) ok3 (ev_menu ((ev_var (i := 3) ⟨.ref Lg, rfl, Rgc⟩).cv fun _ _ r => r.colsQ) hP0 hp0) (ev_f1 (ev_ixL (ev_var (S2 rfl e3)) ev_int (hat1 _ _)) ⟨hP1, hp1⟩) fun m0 m1 Lm H4 e4 ok4 rm0 rm1 hLm => ?_
    have e45 : Ex W [] H4 (upd H4 Lm (.lst [m0, m1])) := Ex.new hLm
    have ok5 := ok4.ex e45
    refine s_cols (W := W) (M := []) (k := 12) (l := 13) ok5 (ei_list (ev_ixL (ev_var (S2 rfl ((e3.trans e4).trans e45))) ev_int (hat0 _ _))) hc0 (by decide) (by decide) (by decide) (by show 12 < 14; decide) (by show 13 < 14; decide) fun Lk zk H6 hzk hndk hfrk hLk e6 ok6 Rk => ?_
    have e36 := (e4.trans e45).trans e6
    have Rg6 := Rg.up e36
    refine s_no (W := W) (M := []) ok6 (Et.is (et_t (ev_neD (ev_var (i := 3) (x := cs0) ⟨.ref Lg, rfl, Rgc.up e36⟩) (ev_var (i := 5) (x := cs0) ⟨.ref Lk, rfl, hzk ▸ Rk.cols⟩))) (c := false) (by simp)) fun H7 e7 ok7 => ?_
    have Rg7 := Rg6.up e7
    obtain ⟨z, hz⟩ : ∃ z, zs[0]? = some z := by
      have : zs.length = cs0.length := by rw [← hzs, List.length_map]
      have := hP0.l1
      exact ⟨zs[0], List.getElem?_eq_getElem (by omega)⟩
    have hz' : atI zs 0 = some z := by
      have : 0 < zs.length := (List.getElem?_eq_some_iff.mp hz).1
      rw [atI_getD z (by decide) (by omega), List.getD_eq_getElem?_getD]
      show some ((zs[0]?).getD z) = _
      rw [hz]; rfl
    obtain ⟨us, hh, nb, _, pp, no⟩ := own_out Rg7
    obtain ⟨u, hu, ru⟩ := Pd.get pp hz
    obtain ⟨T, rfl, t1, t2, t3, z3, z4, z5⟩ := ru.ocol
    have hwl : z.ws.length ≤ 12 := by
      have hm : z.col ∈ cs0 := hzs ▸ List.mem_map_of_mem (List.mem_of_getElem? hz)
      exact (hP0.col _ hm).l12
    refine (ocol_at Rg7 (val_var rfl) val_c hz').1 _ ⟨.inl ⟨rfl, _, SqL.of z3⟩, z.a, _, .str "extra", rfl, rfl, z3, sl (by rw [List.length_map]; omega), ?_⟩
    have hza : z.a ≠ Lg := no z (List.mem_of_getElem? hz)
    refine ⟨.ref Lg, rfl, .inl ⟨rfl, us, SqL.of (by rw [upd_ne hza.symm]; exact hh)⟩, Lg, us, rfl, rfl, by rw [upd_ne hza.symm]; exact hh, ?_⟩
    -- what is there still
    have hz2 : H2 z.a = none := cut_free (hfr z (List.mem_of_getElem? hz)) z4 (by simp)
    have e27 : Ex W [] H2 H7 := (e3.trans e36).trans e7
    have e28 := (e27.mut0 (o := .lst (z.ws.map V.str ++ [.str "extra"])) ok2 hz2).mut0 (o := .lst []) ok2 hLg
    generalize hH8 : upd (upd H7 z.a (.lst (z.ws.map V.str ++ [.str "extra"]))) Lg (.lst []) = H8 at e28 ⊢
    have nzbl : z.a ≠ W.bl := ok2.new_bl hz2
    have nLbl : Lg ≠ W.bl := ok2.new_bl hLg
    have eN : Ex W [z.a, Lg] H7 H8 := by
      rw [← hH8]
      exact (Ex.mut z4 nzbl (by simp)).trans (Ex.mut nb nLbl (by simp))
    have lists : ∀ a ∈ [z.a, Lg], ∃ xs, H7 a = some (.lst xs) := fun a ha => by
      rcases List.mem_cons.mp ha with rfl | ha
      · exact ⟨_, z3⟩
      · rw [List.mem_singleton.mp ha]; exact ⟨_, hh⟩
    have ok8 : Ok W [] H8 := ok2.ex e28
    have at4 : ∀ a ∈ [z.a, Lg], H4 a ≠ none := fun a ha => by
      rcases List.mem_cons.mp ha with rfl | ha
      · obtain ⟨us0, hh0, _, _, pp0, _⟩ := own_out Rg
        obtain ⟨u0, hu0, ru0⟩ := Pd.get pp0 hz
        obtain ⟨_, _, _, _, _, z30, _⟩ := ru0.ocol
        exact e4.some_ _ (by rw [z30]; exact fun z => nomatch z)
      · rw [List.mem_singleton.mp ha]
        obtain ⟨us0, hh0, _⟩ := own_out Rg
        exact e4.some_ _ (by rw [hh0]; exact fun z => nomatch z)
    have hLmN : Lm ∉ [z.a, Lg] := fun hm => at4 Lm hm hLm
    have e57 := e6.trans e7
    have Rm7 : Rep W [z.a, Lg] H7 (.ref Lm) [Menu.mk cs0, Menu.mk cs1] := by
      have nbm : Lm ≠ W.b := ok4.new_b hLm
      refine rep_lst (e57.keep Lm _ nbm (by simp) upd_same) nbm hLmN (.cons (Rep.fz (((rm0.up e45).up e57)) lists) (.cons (Rep.fz (((rm1.up e45).up e57)) lists) .nil))
    have Rm8 : Rep W [] H8 (.ref Lm) [Menu.mk cs0, Menu.mk cs1] := (Rm7.ex eN).subM (by simp)
    have at5 : ∀ a ∈ [z.a, Lg], ∃ o, cut W [] (upd H4 Lm (.lst [m0, m1])) a = some o := fun a ha => by
      have n1 : a ≠ W.b := by
        rcases List.mem_cons.mp ha with rfl | ha
        · exact z4
        · rw [List.mem_singleton.mp ha]; exact nb
      cases ho : upd H4 Lm (.lst [m0, m1]) a with
      | none => exact absurd ho (e45.some_ a (at4 a ha))
      | some o => exact ⟨o, cut_some.mpr ⟨n1, by simp, ho⟩⟩
    have hLkN : Lk ∉ [z.a, Lg] := fun hm => by
      obtain ⟨o, ho⟩ := at5 Lk hm
      rw [cut_at ho] at hLk; cases hLk
    have hzkN : ∀ y ∈ zk, y.a ∉ [z.a, Lg] := fun y hy hm => by
      obtain ⟨o, ho⟩ := at5 y.a hm
      rw [hfrk y hy] at ho; cases ho
    have Rk8 : Rep W [] H8 (.ref Lk) cs0 := hzk ▸ (((own_fz (Rk.up e7) hLkN hzkN lists).ex eN).subM (by simp)).cols
    have R28 : Rep W [] H8 v2 [cs0, cs1] := r2.up e28
    -- the turns
    have turn : ∀ x ∈ [0, 1, (0 : Int)], ∃ c, atI [cs0, cs1] x = some c ∧ atI [Menu.mk cs0, Menu.mk cs1] x = some (Menu.mk c) ∧ Plain c ∧ prod c ≤ 12 := fun x hx => by
      simp only [List.mem_cons, List.not_mem_nil, or_false] at hx
      rcases hx with rfl | rfl | rfl
      · exact ⟨cs0, rfl, rfl, hP0, hp0⟩
      · exact ⟨cs1, rfl, rfl, hP1, hp1⟩
      · exact ⟨cs0, rfl, rfl, hP0, hp0⟩
    refine for_w (W := W) (M := []) ok8 (ei_list (ev_lst (xs := [0, 1, (0 : Int)]) (ea_cons ev_int (ea_cons ev_int (ea_cons ev_int ea_nil))) (by decide))) (fun i σ' H' => Ex W [] H8 H' ∧ ∃ o6 o7 o8, σ' = [some (.ref a), some (.ref b), some v2, some (.ref Lg), some (.ref Lm), some (.ref Lk), o6, o7, o8, none, none, none, none, none])
      (fun H' e => ⟨e, none, none, none, rfl⟩) ?_ ?_
    · rintro i x v σ' H' hi ⟨e0, o6, o7, o8, rfl⟩ ok' H'' e'' r N hN
      cases (show v = .int x from r)
      obtain ⟨c, hc1, hc2, hP, hp⟩ := turn x (List.mem_of_getElem? hi)
      have hft : Fair c ∧ c.length ≤ 3 ∧ ∀ d ∈ c, d.2.length ≤ 12 := ⟨hP.fair, hP.l3, fun d hd => (hP.col d hd).l12⟩
      have ok'' := ok'.ex e''
      have Em : ∀ {σ : L2.St} {H9 : Hp}, σ[4]? = some (some (.ref Lm)) → σ[6]? = some (some (.int x)) → Ex W [] H'' H9 → Ev W [] (tOp (rIxL K) (tVar 4) (tVar 6)) σ H9 (Menu.mk c) := fun h4 h6 e => ev_ixL (W := W) (ev_var ⟨.ref Lm, h4, Rm8.up ((e0.trans e'').trans e)⟩) (ev_vi h6) hc2
      have Ep : ∀ {σ : L2.St} {H9 : Hp}, σ[2]? = some (some v2) → σ[6]? = some (some (.int x)) → Ex W [] H'' H9 → Ev W [] (tOp (rIxL K) (tVar 2) (tVar 6)) σ H9 c := fun h4 h6 e => ev_ixL (W := W) (ev_var ⟨v2, h4, R28.up ((e0.trans e'').trans e)⟩) (ev_vi h6) hc1
      refine s_no (W := W) (M := []) ok'' (Et.is (et_not (et_b ((evr_b2 bsr (Em rfl rfl Ex.refl) (Ep rfl rfl Ex.refl) ⟨hP, hp, rfl⟩).ev (x := true) fun y hy => hy))) (c := false) rfl) fun H9 e9 ok9 => ?_
      refine s_set (W := W) (M := []) ok9 (x := [Menu.mk c, Menu.mk c, Menu.mk c]) (ev_lst (ea_cons (ev_read (ev_m0 (f := fun m : Menu => menuText m.cols) (Em rfl rfl e9) hft (by decide +kernel)) hP hp) (ea_cons (ev_menu ((ev_listT (ev_prop (Em rfl rfl e9) trivial)).cv fun _ _ r => Rep.colsLQ r) hP hp) (ea_cons (ev_menu ((ev_prop (Em rfl rfl e9) trivial).cv fun _ _ r => Rep.colsTQ r) hP hp) ea_nil))) (by show 3 ≤ _; decide)) fun v7 H10 e10 ok10 r7 => ?_
      refine for_w (W := W) (M := []) ok10 (ei_list (ev_var (i := 7) ⟨v7, rfl, r7⟩)) (fun j σ2 H2 => Ex W [] H10 H2 ∧ ∃ o8, σ2 = [some (.ref a), some (.ref b), some v2, some (.ref Lg), some (.ref Lm), some (.ref Lk), some (.int x), some v7, o8, none, none, none, none, none])
        (fun H' e => ⟨e, o8, rfl⟩) ?_ ?_
      · rintro j y vy σ2 H11 hj ⟨e11, o8', rfl⟩ ok11 H12 e12 ry N2 hN2
        have hy : y = Menu.mk c := by
          have := List.mem_of_getElem? hj
          simpa using this
        subst hy
        have ee := ((e9.trans e10).trans e11).trans e12
        have Ey : Ev W [] (tVar 8) [some (.ref a), some (.ref b), some v2, some (.ref Lg), some (.ref Lm), some (.ref Lk), some (.int x), some v7, some vy, none, none, none, none, none] H12 (Menu.mk c) := ev_var ⟨vy, rfl, ry⟩
        refine s_no (W := W) (M := []) (ok11.ex e12) (Et.is (et_or (et_not (et_b (ev_m1 (f := fun m n : Menu => decide (colsT m = colsT n)) Ey (Em rfl rfl ee) trivial (by decide +kernel)))) fun _ => et_not (et_b ((evr_b2 bsr Ey (Ep rfl rfl ee) ⟨hP, hp, rfl⟩).ev (x := true) fun y hy => hy))) (c := false) (by simp)) fun H13 e13 ok13 => ?_
        exact hN2 _ _ ⟨(e11.trans e12).trans e13, _, rfl⟩ e13
      · rintro σ2 H11 ⟨e11, o8', rfl⟩ ok11
        exact hN _ _ ⟨(((e0.trans e'').trans e9).trans e10).trans e11, _, _, _, rfl⟩ ((e9.trans e10).trans e11)
    · rintro σ' H9 ⟨e9, o6, o7, o8, rfl⟩ ok9
      have Em0 : ∀ {σ : L2.St} {H' : Hp}, σ[4]? = some (some (.ref Lm)) → Ex W [] H9 H' → Ev W [] (tOp (rIxL K) (tVar 4) (tC (.int 0))) σ H' (Menu.mk cs0) := fun h4 e => ev_ixL (W := W) (ev_var ⟨.ref Lm, h4, Rm8.up (e9.trans e)⟩) ev_int (hat0 _ _)
      have Em1 : ∀ {σ : L2.St} {H' : Hp}, σ[4]? = some (some (.ref Lm)) → Ex W [] H9 H' → Ev W [] (tOp (rIxL K) (tVar 4) (tC (.int 1))) σ H' (Menu.mk cs1) := fun h4 e => ev_ixL (W := W) (ev_var ⟨.ref Lm, h4, Rm8.up (e9.trans e)⟩) ev_int (hat1 _ _)
      have Ep0 : ∀ {σ : L2.St} {H' : Hp}, σ[2]? = some (some v2) → Ex W [] H9 H' → Ev W [] (tOp (rIxL K) (tVar 2) (tC (.int 0))) σ H' cs0 := fun h4 e => ev_ixL (W := W) (ev_var ⟨v2, h4, R28.up (e9.trans e)⟩) ev_int (hat0 _ _)
      have Ep1 : ∀ {σ : L2.St} {H' : Hp}, σ[2]? = some (some v2) → Ex W [] H9 H' → Ev W [] (tOp (rIxL K) (tVar 2) (tC (.int 1))) σ H' cs1 := fun h4 e => ev_ixL (W := W) (ev_var ⟨v2, h4, R28.up (e9.trans e)⟩) ev_int (hat1 _ _)
      refine s_setR (W := W) (M := []) ok9 (evr_b1 bsr (Ep0 rfl Ex.refl) hP0) fun v9 cn H10 hN e10 ok10 r9 => ?_
      have hcn : cn.length ≤ 3 := by have := hN.len; have := hP0.l3; omega
      refine s_set (W := W) (M := []) ok10 (ev_lc2 (f := Prod.fst) (ei_list (ev_var (i := 9) ⟨v9, rfl, r9⟩)) (by omega) (by decide) (by decide) fun i c v1 v2 M' H' hi l r1 r2 => ev_var ((Sl.me r1).set Ex.refl)) fun v10 H11 e11 ok11 r10 => ?_
      have hnl : (cn.map Prod.fst).length < 1000 := by rw [List.length_map]; omega
      have S10 : ∀ {σ : L2.St}, σ[10]? = some (some v10) → Sl W [] σ H11 10 (cn.map Prod.fst) := fun h => ⟨v10, h, r10⟩
      refine s_ifc (W := W) (M := []) (J := fun σ' H' => σ'[2]? = some (some v2) ∧ σ'[4]? = some (some (.ref Lm)) ∧ Ex W [] H9 H' ∧ Ok W [] H') ok11 (et_t (ev_eq (ev_lenSetS (ev_var (S10 rfl)) hnl) (ev_lenL (ev_var (S10 rfl))))) ?_ ?_ (fun _ H12 e12 ok12 => ⟨rfl, rfl, (e10.trans e11).trans e12, ok12⟩)
      · rintro σ' H12 ⟨h2, h4, e12, ok12⟩
        refine s_ret (W := W) (M := []) ok12 ((ev_eq (ev_m1 (f := fun m n : Menu => decide (colsT m = colsT n)) (Em0 h4 e12) (Em1 h4 e12) trivial (by decide +kernel)) (ev_eqD (Ep0 h2 e12) (Ep1 h2 e12))).is (x' := true) (by rw [colsT_eq]; simp)) fun v H13 e13 r => ?_
        cases (show v = .bl true from r)
        exact k H13
      · intro hJ hb H12 e12 ok12
        have hnd2 : (cn.map Prod.fst).Nodup := firsts_nd.mp (by have := of_decide_eq_true hb; omega)
        have hPn : Plain cn := hN.plain hP0 hnd2
        have hpn : prod cn ≤ 12 := by rw [hN.pr]; exact hp0
        have r9' := (r9.up e11).up e12
        refine s_set (W := W) (M := []) ok12 (ev_menu ((ev_var (i := 9) ⟨v9, rfl, r9'⟩).cv fun _ _ r => r.colsQ) hPn hpn) fun v8 H13 e13 ok13 r8 => ?_
        have e912 := (e10.trans e11).trans e12
        refine s_set (W := W) (M := []) ok13 (ev_eqD (ev_var (i := 9) (x := cn) ⟨v9, rfl, r9'.up e13⟩) (ev_var (i := 5) (x := cs0) ⟨.ref Lk, rfl, Rk8.up (e9.trans (e912.trans e13))⟩)) fun v11 H14 e14 ok14 r11 => ?_
        cases (show v11 = .bl (decide (cn = cs0)) from r11)
        have e914 := (e912.trans e13).trans e14
        have Eo : Ev W [] (tVar 8) [some (.ref a), some (.ref b), some v2, some (.ref Lg), some (.ref Lm), some (.ref Lk), o6, o7, some v8, some v9, some v10, some (.bl (decide (cn = cs0))), none, none] H14 (Menu.mk cn) := ev_var ⟨v8, rfl, r8.up e14⟩
        have Ed : Ev W [] (tVar 11) [some (.ref a), some (.ref b), some v2, some (.ref Lg), some (.ref Lm), some (.ref Lk), o6, o7, some v8, some v9, some v10, some (.bl (decide (cn = cs0))), none, none] H14 (decide (cn = cs0)) := ev_var ⟨_, rfl, rep_bl⟩
        have En : Ev W [] (tVar 9) [some (.ref a), some (.ref b), some v2, some (.ref Lg), some (.ref Lm), some (.ref Lk), o6, o7, some v8, some v9, some v10, some (.bl (decide (cn = cs0))), none, none] H14 cn := ev_var ⟨v9, rfl, (r9'.up e13).up e14⟩
        refine s_no (W := W) (M := []) ok14 (Et.is (et_or (et_t (ev_ne (ev_m1 (f := fun m n : Menu => decide (colsT m = colsT n)) (Em0 rfl e914) Eo trivial (by decide +kernel)) Ed)) fun _ => et_or (et_t (ev_ne (ev_m1 (f := fun m n : Menu => decide (colsT m = colsT n)) Eo (Em0 rfl e914) trivial (by decide +kernel)) Ed)) fun _ => et_not (et_b ((evr_b2 bsr Eo En ⟨hPn, hpn, rfl⟩).ev (x := true) fun y hy => hy))) (c := false) (by
          rw [colsT_eq, colsT_eq]
          by_cases h : cn = cs0
          · subst h; simp
          · have h' : ¬ cs0 = cn := fun e => h e.symm
            simp [h, h'])) fun H15 e15 ok15 => ?_
        exact hJ _ _ ⟨rfl, rfl, e914.trans e15, ok15⟩

end
def clOf (C_Menu : Addr) : Str → Addr := fun _ => C_Menu
theorem all_mk {ol : PySem.W.OpenLaw} {w : World} {K : PySem.W.Frag} {h : Heap} {mg : Str → Option Value} {fa C_Menu f_law_bag f_law_draw f_law_pick f_law_names f_law_mixed f_law_product f_law_menu f_are_different f_is_name f_is_worth f_is_column f_kinds_of f_are_columns f_Menu_init f_Menu_read p_Menu_read f_law_menu_text f_law_made_menu f_law_kinds f_Menu_len f_Menu_kinds p_Menu_kinds f_Menu_contains f_Menu_place f_Menu_columns p_Menu_columns f_Menu_text f_law_menu_right f_Menu_same f_law_near f_law : Addr} (X : K.In h) (G : h.Ns mainGlobals mg) (hfa : mg "law" = some (.ref fa))
    {od0 an0 : Option Addr} {sl0 : Array (Option Value)} {oc0 kV0 dc0 pm0 cd0 ct0 : Value}
    {od1 an1 : Option Addr} {sl1 : Array (Option Value)} {oc1 kV1 dc1 pm1 cd1 ct1 : Value}
    {od2 an2 : Option Addr} {sl2 : Array (Option Value)} {oc2 kV2 dc2 pm2 cd2 ct2 : Value}
    {od3 an3 : Option Addr} {sl3 : Array (Option Value)} {oc3 kV3 dc3 pm3 cd3 ct3 : Value}
    {od4 an4 : Option Addr} {sl4 : Array (Option Value)} {oc4 kV4 dc4 pm4 cd4 ct4 : Value}
    {od5 an5 : Option Addr} {sl5 : Array (Option Value)} {oc5 kV5 dc5 pm5 cd5 ct5 : Value}
    {od6 an6 : Option Addr} {sl6 : Array (Option Value)} {oc6 kV6 dc6 pm6 cd6 ct6 : Value}
    {od7 an7 : Option Addr} {sl7 : Array (Option Value)} {oc7 kV7 dc7 pm7 cd7 ct7 : Value}
    {od8 an8 : Option Addr} {sl8 : Array (Option Value)} {oc8 kV8 dc8 pm8 cd8 ct8 : Value}
    {od9 an9 : Option Addr} {sl9 : Array (Option Value)} {oc9 kV9 dc9 pm9 cd9 ct9 : Value}
    {od10 an10 : Option Addr} {sl10 : Array (Option Value)} {oc10 kV10 dc10 pm10 cd10 ct10 : Value}
    {od11 an11 : Option Addr} {sl11 : Array (Option Value)} {oc11 kV11 dc11 pm11 cd11 ct11 : Value}
    {od12 an12 : Option Addr} {sl12 : Array (Option Value)} {oc12 kV12 dc12 pm12 cd12 ct12 : Value}
    {od13 an13 : Option Addr} {sl13 : Array (Option Value)} {oc13 kV13 dc13 pm13 cd13 ct13 : Value}
    {od14 an14 : Option Addr} {sl14 : Array (Option Value)} {oc14 kV14 dc14 pm14 cd14 ct14 : Value}
    {rs_Menu_read : List Value} {mc_Menu_read : Value}
    {od15 an15 : Option Addr} {sl15 : Array (Option Value)} {oc15 kV15 dc15 pm15 cd15 ct15 : Value}
    {od16 an16 : Option Addr} {sl16 : Array (Option Value)} {oc16 kV16 dc16 pm16 cd16 ct16 : Value}
    {od17 an17 : Option Addr} {sl17 : Array (Option Value)} {oc17 kV17 dc17 pm17 cd17 ct17 : Value}
    {od18 an18 : Option Addr} {sl18 : Array (Option Value)} {oc18 kV18 dc18 pm18 cd18 ct18 : Value}
    {od19 an19 : Option Addr} {sl19 : Array (Option Value)} {oc19 kV19 dc19 pm19 cd19 ct19 : Value}
    {rs_Menu_kinds : List Value}
    {od20 an20 : Option Addr} {sl20 : Array (Option Value)} {oc20 kV20 dc20 pm20 cd20 ct20 : Value}
    {od21 an21 : Option Addr} {sl21 : Array (Option Value)} {oc21 kV21 dc21 pm21 cd21 ct21 : Value}
    {od22 an22 : Option Addr} {sl22 : Array (Option Value)} {oc22 kV22 dc22 pm22 cd22 ct22 : Value}
    {rs_Menu_columns : List Value}
    {od23 an23 : Option Addr} {sl23 : Array (Option Value)} {oc23 kV23 dc23 pm23 cd23 ct23 : Value}
    {od24 an24 : Option Addr} {sl24 : Array (Option Value)} {oc24 kV24 dc24 pm24 cd24 ct24 : Value}
    {od25 an25 : Option Addr} {sl25 : Array (Option Value)} {oc25 kV25 dc25 pm25 cd25 ct25 : Value}
    {od26 an26 : Option Addr} {sl26 : Array (Option Value)} {oc26 kV26 dc26 pm26 cd26 ct26 : Value}
    {od27 an27 : Option Addr} {sl27 : Array (Option Value)} {oc27 kV27 dc27 pm27 cd27 ct27 : Value}
    {tk_DIGITS : Tok}
    {tk_LETTERS : Tok}
    {tk_LONGEST : Tok}
    {tk_MOST_COLUMNS : Tok}
    {tk_MOST_KINDS : Tok}
    {tk_MOST_WORTHS : Tok}
    (aCMenu : PySem.W.nsIn K mainGlobals "Menu" = some (some (.ref C_Menu)))
    (a_law_bag : PySem.W.nsIn K mainGlobals "_law_bag" = some (some (.ref f_law_bag)))
    (l_law_bag : K.lookup f_law_bag = some ⟨oc0, od0, .func (PySem.W.fnOf "_law_bag" "_law_bag" (defArgs s_law_bag) (defBody s_law_bag) (defScope s_law_bag) .none kV0 dc0 pm0 an0 cd0 ct0), sl0⟩)
    (c_law_bag : PySem.W.codeIn K cd0 "_law_bag" = true)
    (k_law_bag : PySem.W.keepIn K (.ref f_law_bag) = true)
    (a_law_draw : PySem.W.nsIn K mainGlobals "_law_draw" = some (some (.ref f_law_draw)))
    (l_law_draw : K.lookup f_law_draw = some ⟨oc1, od1, .func (PySem.W.fnOf "_law_draw" "_law_draw" (defArgs s_law_draw) (defBody s_law_draw) (defScope s_law_draw) .none kV1 dc1 pm1 an1 cd1 ct1), sl1⟩)
    (c_law_draw : PySem.W.codeIn K cd1 "_law_draw" = true)
    (k_law_draw : PySem.W.keepIn K (.ref f_law_draw) = true)
    (a_law_pick : PySem.W.nsIn K mainGlobals "_law_pick" = some (some (.ref f_law_pick)))
    (l_law_pick : K.lookup f_law_pick = some ⟨oc2, od2, .func (PySem.W.fnOf "_law_pick" "_law_pick" (defArgs s_law_pick) (defBody s_law_pick) (defScope s_law_pick) .none kV2 dc2 pm2 an2 cd2 ct2), sl2⟩)
    (c_law_pick : PySem.W.codeIn K cd2 "_law_pick" = true)
    (k_law_pick : PySem.W.keepIn K (.ref f_law_pick) = true)
    (a_law_names : PySem.W.nsIn K mainGlobals "_law_names" = some (some (.ref f_law_names)))
    (l_law_names : K.lookup f_law_names = some ⟨oc3, od3, .func (PySem.W.fnOf "_law_names" "_law_names" (defArgs s_law_names) (defBody s_law_names) (defScope s_law_names) .none kV3 dc3 pm3 an3 cd3 ct3), sl3⟩)
    (c_law_names : PySem.W.codeIn K cd3 "_law_names" = true)
    (k_law_names : PySem.W.keepIn K (.ref f_law_names) = true)
    (a_law_mixed : PySem.W.nsIn K mainGlobals "_law_mixed" = some (some (.ref f_law_mixed)))
    (l_law_mixed : K.lookup f_law_mixed = some ⟨oc4, od4, .func (PySem.W.fnOf "_law_mixed" "_law_mixed" (defArgs s_law_mixed) (defBody s_law_mixed) (defScope s_law_mixed) .none kV4 dc4 pm4 an4 cd4 ct4), sl4⟩)
    (c_law_mixed : PySem.W.codeIn K cd4 "_law_mixed" = true)
    (k_law_mixed : PySem.W.keepIn K (.ref f_law_mixed) = true)
    (a_law_product : PySem.W.nsIn K mainGlobals "_law_product" = some (some (.ref f_law_product)))
    (l_law_product : K.lookup f_law_product = some ⟨oc5, od5, .func (PySem.W.fnOf "_law_product" "_law_product" (defArgs s_law_product) (defBody s_law_product) (defScope s_law_product) .none kV5 dc5 pm5 an5 cd5 ct5), sl5⟩)
    (c_law_product : PySem.W.codeIn K cd5 "_law_product" = true)
    (k_law_product : PySem.W.keepIn K (.ref f_law_product) = true)
    (a_law_menu : PySem.W.nsIn K mainGlobals "_law_menu" = some (some (.ref f_law_menu)))
    (l_law_menu : K.lookup f_law_menu = some ⟨oc6, od6, .func (PySem.W.fnOf "_law_menu" "_law_menu" (defArgs s_law_menu) (defBody s_law_menu) (defScope s_law_menu) .none kV6 dc6 pm6 an6 cd6 ct6), sl6⟩)
    (c_law_menu : PySem.W.codeIn K cd6 "_law_menu" = true)
    (k_law_menu : PySem.W.keepIn K (.ref f_law_menu) = true)
    (a_are_different : PySem.W.nsIn K mainGlobals "are_different" = some (some (.ref f_are_different)))
    (l_are_different : K.lookup f_are_different = some ⟨oc7, od7, .func (PySem.W.fnOf "are_different" "are_different" (defArgs s_are_different) (defBody s_are_different) (defScope s_are_different) .none kV7 dc7 pm7 an7 cd7 ct7), sl7⟩)
    (c_are_different : PySem.W.codeIn K cd7 "are_different" = true)
    (k_are_different : PySem.W.keepIn K (.ref f_are_different) = true)
    (a_is_name : PySem.W.nsIn K mainGlobals "is_name" = some (some (.ref f_is_name)))
    (l_is_name : K.lookup f_is_name = some ⟨oc8, od8, .func (PySem.W.fnOf "is_name" "is_name" (defArgs s_is_name) (defBody s_is_name) (defScope s_is_name) .none kV8 dc8 pm8 an8 cd8 ct8), sl8⟩)
    (c_is_name : PySem.W.codeIn K cd8 "is_name" = true)
    (k_is_name : PySem.W.keepIn K (.ref f_is_name) = true)
    (a_is_worth : PySem.W.nsIn K mainGlobals "is_worth" = some (some (.ref f_is_worth)))
    (l_is_worth : K.lookup f_is_worth = some ⟨oc9, od9, .func (PySem.W.fnOf "is_worth" "is_worth" (defArgs s_is_worth) (defBody s_is_worth) (defScope s_is_worth) .none kV9 dc9 pm9 an9 cd9 ct9), sl9⟩)
    (c_is_worth : PySem.W.codeIn K cd9 "is_worth" = true)
    (k_is_worth : PySem.W.keepIn K (.ref f_is_worth) = true)
    (a_is_column : PySem.W.nsIn K mainGlobals "is_column" = some (some (.ref f_is_column)))
    (l_is_column : K.lookup f_is_column = some ⟨oc10, od10, .func (PySem.W.fnOf "is_column" "is_column" (defArgs s_is_column) (defBody s_is_column) (defScope s_is_column) .none kV10 dc10 pm10 an10 cd10 ct10), sl10⟩)
    (c_is_column : PySem.W.codeIn K cd10 "is_column" = true)
    (k_is_column : PySem.W.keepIn K (.ref f_is_column) = true)
    (a_kinds_of : PySem.W.nsIn K mainGlobals "kinds_of" = some (some (.ref f_kinds_of)))
    (l_kinds_of : K.lookup f_kinds_of = some ⟨oc11, od11, .func (PySem.W.fnOf "kinds_of" "kinds_of" (defArgs s_kinds_of) (defBody s_kinds_of) (defScope s_kinds_of) .none kV11 dc11 pm11 an11 cd11 ct11), sl11⟩)
    (c_kinds_of : PySem.W.codeIn K cd11 "kinds_of" = true)
    (k_kinds_of : PySem.W.keepIn K (.ref f_kinds_of) = true)
    (a_are_columns : PySem.W.nsIn K mainGlobals "are_columns" = some (some (.ref f_are_columns)))
    (l_are_columns : K.lookup f_are_columns = some ⟨oc12, od12, .func (PySem.W.fnOf "are_columns" "are_columns" (defArgs s_are_columns) (defBody s_are_columns) (defScope s_are_columns) .none kV12 dc12 pm12 an12 cd12 ct12), sl12⟩)
    (c_are_columns : PySem.W.codeIn K cd12 "are_columns" = true)
    (k_are_columns : PySem.W.keepIn K (.ref f_are_columns) = true)
    (a_Menu_init : PySem.W.findIn K (.ref C_Menu) "__init__" = some (some (.ref f_Menu_init)))
    (i_Menu_init : PySem.W.isFn K (.ref f_Menu_init) = true)
    (l_Menu_init : K.lookup f_Menu_init = some ⟨oc13, od13, .func (PySem.W.fnOf "__init__" "Menu.__init__" (defArgs s_Menu_init) (defBody s_Menu_init) (defScope s_Menu_init) .none kV13 dc13 pm13 an13 cd13 ct13), sl13⟩)
    (c_Menu_init : PySem.W.codeIn K cd13 "Menu.__init__" = true)
    (k_Menu_init : PySem.W.keepIn K (.ref f_Menu_init) = true)
    (m_Menu_read : PySem.W.typeIn K (.ref C_Menu) = some mc_Menu_read)
    (rd_Menu_read : PySem.W.readsIn K C_Menu mc_Menu_read = true)
    (ga_Menu_read : PySem.W.specialIn K (.ref C_Menu) "__getattribute__" = some (some (.builtin "type.__getattribute__")))
    (a_Menu_read : PySem.W.findCls K (.ref C_Menu) mc_Menu_read "read" = some (.get (.builtin "classmethod.__get__") (.ref p_Menu_read) .none (.ref C_Menu)))
    (r_Menu_read : PySem.W.recIn K p_Menu_read "classmethod" = some (.ref f_Menu_read :: rs_Menu_read))
    (fi_Menu_read : PySem.W.fnIn K f_Menu_read = true)
    (l_Menu_read : K.lookup f_Menu_read = some ⟨oc14, od14, .func (PySem.W.fnOf "read" "Menu.read" (defArgs s_Menu_read) (defBody s_Menu_read) (defScope s_Menu_read) .none kV14 dc14 pm14 an14 cd14 ct14), sl14⟩)
    (c_Menu_read : PySem.W.codeIn K cd14 "Menu.read" = true)
    (k_Menu_read : PySem.W.keepIn K (.ref f_Menu_read) = true)
    (a_law_menu_text : PySem.W.nsIn K mainGlobals "_law_menu_text" = some (some (.ref f_law_menu_text)))
    (l_law_menu_text : K.lookup f_law_menu_text = some ⟨oc15, od15, .func (PySem.W.fnOf "_law_menu_text" "_law_menu_text" (defArgs s_law_menu_text) (defBody s_law_menu_text) (defScope s_law_menu_text) .none kV15 dc15 pm15 an15 cd15 ct15), sl15⟩)
    (c_law_menu_text : PySem.W.codeIn K cd15 "_law_menu_text" = true)
    (k_law_menu_text : PySem.W.keepIn K (.ref f_law_menu_text) = true)
    (a_law_made_menu : PySem.W.nsIn K mainGlobals "_law_made_menu" = some (some (.ref f_law_made_menu)))
    (l_law_made_menu : K.lookup f_law_made_menu = some ⟨oc16, od16, .func (PySem.W.fnOf "_law_made_menu" "_law_made_menu" (defArgs s_law_made_menu) (defBody s_law_made_menu) (defScope s_law_made_menu) .none kV16 dc16 pm16 an16 cd16 ct16), sl16⟩)
    (c_law_made_menu : PySem.W.codeIn K cd16 "_law_made_menu" = true)
    (k_law_made_menu : PySem.W.keepIn K (.ref f_law_made_menu) = true)
    (a_law_kinds : PySem.W.nsIn K mainGlobals "_law_kinds" = some (some (.ref f_law_kinds)))
    (l_law_kinds : K.lookup f_law_kinds = some ⟨oc17, od17, .func (PySem.W.fnOf "_law_kinds" "_law_kinds" (defArgs s_law_kinds) (defBody s_law_kinds) (defScope s_law_kinds) .none kV17 dc17 pm17 an17 cd17 ct17), sl17⟩)
    (c_law_kinds : PySem.W.codeIn K cd17 "_law_kinds" = true)
    (k_law_kinds : PySem.W.keepIn K (.ref f_law_kinds) = true)
    (a_Menu_len : PySem.W.findIn K (.ref C_Menu) "__len__" = some (some (.ref f_Menu_len)))
    (i_Menu_len : PySem.W.isFn K (.ref f_Menu_len) = true)
    (l_Menu_len : K.lookup f_Menu_len = some ⟨oc18, od18, .func (PySem.W.fnOf "__len__" "Menu.__len__" (defArgs s_Menu_len) (defBody s_Menu_len) (defScope s_Menu_len) .none kV18 dc18 pm18 an18 cd18 ct18), sl18⟩)
    (c_Menu_len : PySem.W.codeIn K cd18 "Menu.__len__" = true)
    (k_Menu_len : PySem.W.keepIn K (.ref f_Menu_len) = true)
    (a_Menu_kinds : PySem.W.findIn K (.ref C_Menu) "kinds" = some (some (.ref p_Menu_kinds)))
    (g_Menu_kinds : PySem.W.specialIn K (.ref p_Menu_kinds) "__get__" = some (some (.builtin "property.__get__")))
    (t_Menu_kinds : PySem.W.takesIn K (.ref p_Menu_kinds) = some true)
    (r_Menu_kinds : PySem.W.recIn K p_Menu_kinds "property" = some (.ref f_Menu_kinds :: rs_Menu_kinds))
    (l_Menu_kinds : K.lookup f_Menu_kinds = some ⟨oc19, od19, .func (PySem.W.fnOf "kinds" "Menu.kinds" (defArgs s_Menu_kinds) (defBody s_Menu_kinds) (defScope s_Menu_kinds) .none kV19 dc19 pm19 an19 cd19 ct19), sl19⟩)
    (c_Menu_kinds : PySem.W.codeIn K cd19 "Menu.kinds" = true)
    (k_Menu_kinds : PySem.W.keepIn K (.ref f_Menu_kinds) = true)
    (a_Menu_contains : PySem.W.findIn K (.ref C_Menu) "__contains__" = some (some (.ref f_Menu_contains)))
    (i_Menu_contains : PySem.W.isFn K (.ref f_Menu_contains) = true)
    (l_Menu_contains : K.lookup f_Menu_contains = some ⟨oc20, od20, .func (PySem.W.fnOf "__contains__" "Menu.__contains__" (defArgs s_Menu_contains) (defBody s_Menu_contains) (defScope s_Menu_contains) .none kV20 dc20 pm20 an20 cd20 ct20), sl20⟩)
    (c_Menu_contains : PySem.W.codeIn K cd20 "Menu.__contains__" = true)
    (k_Menu_contains : PySem.W.keepIn K (.ref f_Menu_contains) = true)
    (a_Menu_place : PySem.W.findIn K (.ref C_Menu) "place" = some (some (.ref f_Menu_place)))
    (i_Menu_place : PySem.W.isFn K (.ref f_Menu_place) = true)
    (l_Menu_place : K.lookup f_Menu_place = some ⟨oc21, od21, .func (PySem.W.fnOf "place" "Menu.place" (defArgs s_Menu_place) (defBody s_Menu_place) (defScope s_Menu_place) .none kV21 dc21 pm21 an21 cd21 ct21), sl21⟩)
    (c_Menu_place : PySem.W.codeIn K cd21 "Menu.place" = true)
    (k_Menu_place : PySem.W.keepIn K (.ref f_Menu_place) = true)
    (a_Menu_columns : PySem.W.findIn K (.ref C_Menu) "columns" = some (some (.ref p_Menu_columns)))
    (g_Menu_columns : PySem.W.specialIn K (.ref p_Menu_columns) "__get__" = some (some (.builtin "property.__get__")))
    (t_Menu_columns : PySem.W.takesIn K (.ref p_Menu_columns) = some true)
    (r_Menu_columns : PySem.W.recIn K p_Menu_columns "property" = some (.ref f_Menu_columns :: rs_Menu_columns))
    (l_Menu_columns : K.lookup f_Menu_columns = some ⟨oc22, od22, .func (PySem.W.fnOf "columns" "Menu.columns" (defArgs s_Menu_columns) (defBody s_Menu_columns) (defScope s_Menu_columns) .none kV22 dc22 pm22 an22 cd22 ct22), sl22⟩)
    (c_Menu_columns : PySem.W.codeIn K cd22 "Menu.columns" = true)
    (k_Menu_columns : PySem.W.keepIn K (.ref f_Menu_columns) = true)
    (a_Menu_text : PySem.W.findIn K (.ref C_Menu) "text" = some (some (.ref f_Menu_text)))
    (i_Menu_text : PySem.W.isFn K (.ref f_Menu_text) = true)
    (l_Menu_text : K.lookup f_Menu_text = some ⟨oc23, od23, .func (PySem.W.fnOf "text" "Menu.text" (defArgs s_Menu_text) (defBody s_Menu_text) (defScope s_Menu_text) .none kV23 dc23 pm23 an23 cd23 ct23), sl23⟩)
    (c_Menu_text : PySem.W.codeIn K cd23 "Menu.text" = true)
    (k_Menu_text : PySem.W.keepIn K (.ref f_Menu_text) = true)
    (a_law_menu_right : PySem.W.nsIn K mainGlobals "_law_menu_right" = some (some (.ref f_law_menu_right)))
    (l_law_menu_right : K.lookup f_law_menu_right = some ⟨oc24, od24, .func (PySem.W.fnOf "_law_menu_right" "_law_menu_right" (defArgs s_law_menu_right) (defBody s_law_menu_right) (defScope s_law_menu_right) .none kV24 dc24 pm24 an24 cd24 ct24), sl24⟩)
    (c_law_menu_right : PySem.W.codeIn K cd24 "_law_menu_right" = true)
    (k_law_menu_right : PySem.W.keepIn K (.ref f_law_menu_right) = true)
    (a_Menu_same : PySem.W.findIn K (.ref C_Menu) "same" = some (some (.ref f_Menu_same)))
    (i_Menu_same : PySem.W.isFn K (.ref f_Menu_same) = true)
    (l_Menu_same : K.lookup f_Menu_same = some ⟨oc25, od25, .func (PySem.W.fnOf "same" "Menu.same" (defArgs s_Menu_same) (defBody s_Menu_same) (defScope s_Menu_same) .none kV25 dc25 pm25 an25 cd25 ct25), sl25⟩)
    (c_Menu_same : PySem.W.codeIn K cd25 "Menu.same" = true)
    (k_Menu_same : PySem.W.keepIn K (.ref f_Menu_same) = true)
    (a_law_near : PySem.W.nsIn K mainGlobals "_law_near" = some (some (.ref f_law_near)))
    (l_law_near : K.lookup f_law_near = some ⟨oc26, od26, .func (PySem.W.fnOf "_law_near" "_law_near" (defArgs s_law_near) (defBody s_law_near) (defScope s_law_near) .none kV26 dc26 pm26 an26 cd26 ct26), sl26⟩)
    (c_law_near : PySem.W.codeIn K cd26 "_law_near" = true)
    (k_law_near : PySem.W.keepIn K (.ref f_law_near) = true)
    (a_law : PySem.W.nsIn K mainGlobals "law" = some (some (.ref f_law)))
    (l_law : K.lookup f_law = some ⟨oc27, od27, .func (PySem.W.fnOf "law" "law" (defArgs s_law) (defBody s_law) (defScope s_law) .none kV27 dc27 pm27 an27 cd27 ct27), sl27⟩)
    (c_law : PySem.W.codeIn K cd27 "law" = true)
    (k_law : PySem.W.keepIn K (.ref f_law) = true)
    (pgMenu : PySem.W.plainGet K C_Menu Str.empty = true)
    (hdMenu : PySem.W.hasDictIn K C_Menu = true)
    (poMenu : PySem.W.plainOver K C_Menu = true)
    (saMenu : PySem.W.findIn K (.ref C_Menu) "__setattr__" = some (some (.builtin "object.__setattr__")))
    (mkMenu : PySem.W.makesIn K C_Menu = true)
    (kcMenu : PySem.W.keepIn K (.ref C_Menu) = true)
    (n_Menu_own_columns : PySem.W.findIn K (.ref C_Menu) "own_columns" = some none)
    (n_Menu_own_kinds : PySem.W.findIn K (.ref C_Menu) "own_kinds" = some none)
    (z_len : PySem.W.nsIn K mainGlobals "len" = some none)
    (z_isinstance : PySem.W.nsIn K mainGlobals "isinstance" = some none)
    (z_str : PySem.W.nsIn K mainGlobals "str" = some none)
    (z_int : PySem.W.nsIn K mainGlobals "int" = some none)
    (z_list : PySem.W.nsIn K mainGlobals "list" = some none)
    (z_tuple : PySem.W.nsIn K mainGlobals "tuple" = some none)
    (z_all : PySem.W.nsIn K mainGlobals "all" = some none)
    (z_any : PySem.W.nsIn K mainGlobals "any" = some none)
    (z_range : PySem.W.nsIn K mainGlobals "range" = some none)
    (z_abs : PySem.W.nsIn K mainGlobals "abs" = some none)
    (z_max : PySem.W.nsIn K mainGlobals "max" = some none)
    (z_enumerate : PySem.W.nsIn K mainGlobals "enumerate" = some none)
    (z_set : PySem.W.nsIn K mainGlobals "set" = some none)
    (y_DIGITS : PySem.W.nsIn K mainGlobals "DIGITS" = some (some (.str "0123456789" tk_DIGITS)))
    (y_LETTERS : PySem.W.nsIn K mainGlobals "LETTERS" = some (some (.str "abcdefghijklmnopqrstuvwxyz" tk_LETTERS)))
    (y_LONGEST : PySem.W.nsIn K mainGlobals "LONGEST" = some (some (.int 8 tk_LONGEST)))
    (y_MOST_COLUMNS : PySem.W.nsIn K mainGlobals "MOST_COLUMNS" = some (some (.int 3 tk_MOST_COLUMNS)))
    (y_MOST_KINDS : PySem.W.nsIn K mainGlobals "MOST_KINDS" = some (some (.int 12 tk_MOST_KINDS)))
    (y_MOST_WORTHS : PySem.W.nsIn K mainGlobals "MOST_WORTHS" = some (some (.int 12 tk_MOST_WORTHS)))
    : ∃ fd : FuncData, (∀ (s : Shared) (v : Value), BindsTo s fd ⟨[v], []⟩ [("_law_script", v)]) ∧ ∀ base : Heap, K.In base → base.Ns mainGlobals mg → FnOk ol.prog w K mg base CX0 8 fa fd ["_law_script"] (sp_law K (clOf C_Menu)) := by
  have e := hfa.symm.trans (PySem.W.mg_of X G a_law)
  cases e
  have bt : Bt mg := ⟨PySem.W.mg_none_of X G z_len, PySem.W.mg_none_of X G z_isinstance, PySem.W.mg_none_of X G z_str, PySem.W.mg_none_of X G z_int, PySem.W.mg_none_of X G z_list, PySem.W.mg_none_of X G z_tuple, PySem.W.mg_none_of X G z_all, PySem.W.mg_none_of X G z_any, PySem.W.mg_none_of X G z_range, PySem.W.mg_none_of X G z_abs, PySem.W.mg_none_of X G z_max, PySem.W.mg_none_of X G z_enumerate, PySem.W.mg_none_of X G z_set⟩
  have g_DIGITS : ∃ t, mg "DIGITS" = some (.str "0123456789" t) := ⟨_, PySem.W.mg_of X G y_DIGITS⟩
  have g_LETTERS : ∃ t, mg "LETTERS" = some (.str "abcdefghijklmnopqrstuvwxyz" t) := ⟨_, PySem.W.mg_of X G y_LETTERS⟩
  have g_LONGEST : ∃ t, mg "LONGEST" = some (.int 8 t) := ⟨_, PySem.W.mg_of X G y_LONGEST⟩
  have g_MOST_COLUMNS : ∃ t, mg "MOST_COLUMNS" = some (.int 3 t) := ⟨_, PySem.W.mg_of X G y_MOST_COLUMNS⟩
  have g_MOST_KINDS : ∃ t, mg "MOST_KINDS" = some (.int 12 t) := ⟨_, PySem.W.mg_of X G y_MOST_KINDS⟩
  have g_MOST_WORTHS : ∃ t, mg "MOST_WORTHS" = some (.int 12 t) := ⟨_, PySem.W.mg_of X G y_MOST_WORTHS⟩
  have cl_Menu : Cls K (clOf C_Menu "Menu") := ⟨pgMenu, hdMenu, poMenu, saMenu⟩
  have gCMenu : mg "Menu" = some (.ref (clOf C_Menu "Menu")) := PySem.W.mg_of X G aCMenu
  have F_law_bag := fun_mk (st := s_law_bag) l_law_bag c_law_bag k_law_bag
  have b_law_bag := F_law_bag.binds (ps := ["_law_script"]) fun _ _ _ _ _ _ us hl => match us, hl with | [_], _ => rfl
  have F_law_draw := fun_mk (st := s_law_draw) l_law_draw c_law_draw k_law_draw
  have b_law_draw := F_law_draw.binds (ps := ["_law_bag_here", "_law_size"]) fun _ _ _ _ _ _ us hl => match us, hl with | [_, _], _ => rfl
  have F_law_pick := fun_mk (st := s_law_pick) l_law_pick c_law_pick k_law_pick
  have b_law_pick := F_law_pick.binds (ps := ["_law_bag_here", "_law_items"]) fun _ _ _ _ _ _ us hl => match us, hl with | [_, _], _ => rfl
  have F_law_names := fun_mk (st := s_law_names) l_law_names c_law_names k_law_names
  have b_law_names := F_law_names.binds (ps := ["_law_bag_here", "_law_count", "_law_words"]) fun _ _ _ _ _ _ us hl => match us, hl with | [_, _, _], _ => rfl
  have F_law_mixed := fun_mk (st := s_law_mixed) l_law_mixed c_law_mixed k_law_mixed
  have b_law_mixed := F_law_mixed.binds (ps := ["_law_bag_here", "_law_items"]) fun _ _ _ _ _ _ us hl => match us, hl with | [_, _], _ => rfl
  have F_law_product := fun_mk (st := s_law_product) l_law_product c_law_product k_law_product
  have b_law_product := F_law_product.binds (ps := ["_law_plain"]) fun _ _ _ _ _ _ us hl => match us, hl with | [_], _ => rfl
  have F_law_menu := fun_mk (st := s_law_menu) l_law_menu c_law_menu k_law_menu
  have b_law_menu := F_law_menu.binds (ps := ["_law_bag_here", "_law_most"]) fun _ _ _ _ _ _ us hl => match us, hl with | [_, _], _ => rfl
  have F_are_different := fun_mk (st := s_are_different) l_are_different c_are_different k_are_different
  have b_are_different := F_are_different.binds (ps := ["values"]) fun _ _ _ _ _ _ us hl => match us, hl with | [_], _ => rfl
  have F_is_name := fun_mk (st := s_is_name) l_is_name c_is_name k_is_name
  have b_is_name := F_is_name.binds (ps := ["value"]) fun _ _ _ _ _ _ us hl => match us, hl with | [_], _ => rfl
  have F_is_worth := fun_mk (st := s_is_worth) l_is_worth c_is_worth k_is_worth
  have b_is_worth := F_is_worth.binds (ps := ["value"]) fun _ _ _ _ _ _ us hl => match us, hl with | [_], _ => rfl
  have F_is_column := fun_mk (st := s_is_column) l_is_column c_is_column k_is_column
  have b_is_column := F_is_column.binds (ps := ["value"]) fun _ _ _ _ _ _ us hl => match us, hl with | [_], _ => rfl
  have F_kinds_of := fun_mk (st := s_kinds_of) l_kinds_of c_kinds_of k_kinds_of
  have b_kinds_of := F_kinds_of.binds (ps := ["columns"]) fun _ _ _ _ _ _ us hl => match us, hl with | [_], _ => rfl
  have F_are_columns := fun_mk (st := s_are_columns) l_are_columns c_are_columns k_are_columns
  have b_are_columns := F_are_columns.binds (ps := ["value"]) fun _ _ _ _ _ _ us hl => match us, hl with | [_], _ => rfl
  have F_Menu_init := fun_mk (st := s_Menu_init) l_Menu_init c_Menu_init k_Menu_init
  have b_Menu_init := F_Menu_init.binds (ps := ["self", "columns"]) fun _ _ _ _ _ _ us hl => match us, hl with | [_, _], _ => rfl
  have F_Menu_read := fun_mk (st := s_Menu_read) l_Menu_read c_Menu_read k_Menu_read
  have b_Menu_read := F_Menu_read.binds (ps := ["cls", "text"]) fun _ _ _ _ _ _ us hl => match us, hl with | [_, _], _ => rfl
  have F_law_menu_text := fun_mk (st := s_law_menu_text) l_law_menu_text c_law_menu_text k_law_menu_text
  have b_law_menu_text := F_law_menu_text.binds (ps := ["_law_plain"]) fun _ _ _ _ _ _ us hl => match us, hl with | [_], _ => rfl
  have F_law_made_menu := fun_mk (st := s_law_made_menu) l_law_made_menu c_law_made_menu k_law_made_menu
  have b_law_made_menu := F_law_made_menu.binds (ps := ["_law_plain"]) fun _ _ _ _ _ _ us hl => match us, hl with | [_], _ => rfl
  have F_law_kinds := fun_mk (st := s_law_kinds) l_law_kinds c_law_kinds k_law_kinds
  have b_law_kinds := F_law_kinds.binds (ps := ["_law_plain"]) fun _ _ _ _ _ _ us hl => match us, hl with | [_], _ => rfl
  have F_Menu_len := fun_mk (st := s_Menu_len) l_Menu_len c_Menu_len k_Menu_len
  have b_Menu_len := F_Menu_len.binds (ps := ["self"]) fun _ _ _ _ _ _ us hl => match us, hl with | [_], _ => rfl
  have F_Menu_kinds := fun_mk (st := s_Menu_kinds) l_Menu_kinds c_Menu_kinds k_Menu_kinds
  have b_Menu_kinds := F_Menu_kinds.binds (ps := ["self"]) fun _ _ _ _ _ _ us hl => match us, hl with | [_], _ => rfl
  have F_Menu_contains := fun_mk (st := s_Menu_contains) l_Menu_contains c_Menu_contains k_Menu_contains
  have b_Menu_contains := F_Menu_contains.binds (ps := ["self", "kind"]) fun _ _ _ _ _ _ us hl => match us, hl with | [_, _], _ => rfl
  have F_Menu_place := fun_mk (st := s_Menu_place) l_Menu_place c_Menu_place k_Menu_place
  have b_Menu_place := F_Menu_place.binds (ps := ["self", "kind"]) fun _ _ _ _ _ _ us hl => match us, hl with | [_, _], _ => rfl
  have F_Menu_columns := fun_mk (st := s_Menu_columns) l_Menu_columns c_Menu_columns k_Menu_columns
  have b_Menu_columns := F_Menu_columns.binds (ps := ["self"]) fun _ _ _ _ _ _ us hl => match us, hl with | [_], _ => rfl
  have F_Menu_text := fun_mk (st := s_Menu_text) l_Menu_text c_Menu_text k_Menu_text
  have b_Menu_text := F_Menu_text.binds (ps := ["self"]) fun _ _ _ _ _ _ us hl => match us, hl with | [_], _ => rfl
  have F_law_menu_right := fun_mk (st := s_law_menu_right) l_law_menu_right c_law_menu_right k_law_menu_right
  have b_law_menu_right := F_law_menu_right.binds (ps := ["_law_bag_here", "_law_menu_here", "_law_plain"]) fun _ _ _ _ _ _ us hl => match us, hl with | [_, _, _], _ => rfl
  have F_Menu_same := fun_mk (st := s_Menu_same) l_Menu_same c_Menu_same k_Menu_same
  have b_Menu_same := F_Menu_same.binds (ps := ["self", "other"]) fun _ _ _ _ _ _ us hl => match us, hl with | [_, _], _ => rfl
  have F_law_near := fun_mk (st := s_law_near) l_law_near c_law_near k_law_near
  have b_law_near := F_law_near.binds (ps := ["_law_bag_here", "_law_plain"]) fun _ _ _ _ _ _ us hl => match us, hl with | [_, _], _ => rfl
  have F_law := fun_mk (st := s_law) l_law c_law k_law
  have b_law := F_law.binds (ps := ["_law_script"]) fun _ _ _ _ _ _ us hl => match us, hl with | [_], _ => rfl
  refine ⟨PySem.W.fnOf "law" "law" (defArgs s_law) (defBody s_law) (defScope s_law) .none kV27 dc27 pm27 an27 cd27 ct27, fun s v => .of_eq rfl, fun base _ _ => ?_⟩
  have o_law_bag := ok_law_bag (P := ol.prog) (w := w) (base := base) (C := (clOf C_Menu)) F_law_bag bt 
  have BC_law_bag : Cal ol.prog w K mg base 1 "_law_bag" ["_law_script"] (sp_law_bag K (clOf C_Menu)) := ⟨_, _, o_law_bag, PySem.W.mg_of X G a_law_bag, k_law_bag, b_law_bag⟩
  have o_law_draw := ok_law_draw (P := ol.prog) (w := w) (base := base) (C := (clOf C_Menu)) F_law_draw bt 
  have BC_law_draw : Cal ol.prog w K mg base 1 "_law_draw" ["_law_bag_here", "_law_size"] (sp_law_draw K (clOf C_Menu)) := ⟨_, _, o_law_draw, PySem.W.mg_of X G a_law_draw, k_law_draw, b_law_draw⟩
  have o_law_pick_spPickListInt := ok_law_pick (List Int) (P := ol.prog) (w := w) (base := base) (C := (clOf C_Menu)) F_law_pick bt BC_law_draw
  have BC_law_pick_spPickListInt : Cal ol.prog w K mg base 2 "_law_pick" ["_law_bag_here", "_law_items"] (spPick (List Int) K (clOf C_Menu)) := ⟨_, _, o_law_pick_spPickListInt, PySem.W.mg_of X G a_law_pick, k_law_pick, b_law_pick⟩
  have o_law_names := ok_law_names (P := ol.prog) (w := w) (base := base) (C := (clOf C_Menu)) F_law_names bt BC_law_draw
  have BC_law_names : Cal ol.prog w K mg base 2 "_law_names" ["_law_bag_here", "_law_count", "_law_words"] (sp_law_names K (clOf C_Menu)) := ⟨_, _, o_law_names, PySem.W.mg_of X G a_law_names, k_law_names, b_law_names⟩
  have o_law_mixed_spMixedInt := ok_law_mixed Int (P := ol.prog) (w := w) (base := base) (C := (clOf C_Menu)) F_law_mixed bt BC_law_draw
  have BC_law_mixed_spMixedInt : Cal ol.prog w K mg base 2 "_law_mixed" ["_law_bag_here", "_law_items"] (spMixed Int K (clOf C_Menu)) := ⟨_, _, o_law_mixed_spMixedInt, PySem.W.mg_of X G a_law_mixed, k_law_mixed, b_law_mixed⟩
  have o_law_mixed_spMixedStr := ok_law_mixed Str (P := ol.prog) (w := w) (base := base) (C := (clOf C_Menu)) F_law_mixed bt BC_law_draw
  have BC_law_mixed_spMixedStr : Cal ol.prog w K mg base 2 "_law_mixed" ["_law_bag_here", "_law_items"] (spMixed Str K (clOf C_Menu)) := ⟨_, _, o_law_mixed_spMixedStr, PySem.W.mg_of X G a_law_mixed, k_law_mixed, b_law_mixed⟩
  have o_law_product := ok_law_product (P := ol.prog) (w := w) (base := base) (C := (clOf C_Menu)) F_law_product bt 
  have BC_law_product : Cal ol.prog w K mg base 1 "_law_product" ["_law_plain"] (sp_law_product K (clOf C_Menu)) := ⟨_, _, o_law_product, PySem.W.mg_of X G a_law_product, k_law_product, b_law_product⟩
  have o_law_menu := ok_law_menu (P := ol.prog) (w := w) (base := base) (C := (clOf C_Menu)) F_law_menu bt BC_law_pick_spPickListInt BC_law_names BC_law_draw BC_law_mixed_spMixedStr BC_law_product
  have BC_law_menu : Cal ol.prog w K mg base 3 "_law_menu" ["_law_bag_here", "_law_most"] (sp_law_menu K (clOf C_Menu)) := ⟨_, _, o_law_menu, PySem.W.mg_of X G a_law_menu, k_law_menu, b_law_menu⟩
  have o_are_different := ok_are_different (P := ol.prog) (w := w) (base := base) (C := (clOf C_Menu)) F_are_different bt 
  have BC_are_different : Cal ol.prog w K mg base 1 "are_different" ["values"] (sp_are_different K (clOf C_Menu)) := ⟨_, _, o_are_different, PySem.W.mg_of X G a_are_different, k_are_different, b_are_different⟩
  have o_is_name := ok_is_name (P := ol.prog) (w := w) (base := base) (C := (clOf C_Menu)) F_is_name bt g_LETTERS g_LONGEST
  have BC_is_name : Cal ol.prog w K mg base 1 "is_name" ["value"] (sp_is_name K (clOf C_Menu)) := ⟨_, _, o_is_name, PySem.W.mg_of X G a_is_name, k_is_name, b_is_name⟩
  have o_is_worth := ok_is_worth (P := ol.prog) (w := w) (base := base) (C := (clOf C_Menu)) F_is_worth bt g_DIGITS g_LETTERS g_LONGEST
  have BC_is_worth : Cal ol.prog w K mg base 1 "is_worth" ["value"] (sp_is_worth K (clOf C_Menu)) := ⟨_, _, o_is_worth, PySem.W.mg_of X G a_is_worth, k_is_worth, b_is_worth⟩
  have o_is_column := ok_is_column (P := ol.prog) (w := w) (base := base) (C := (clOf C_Menu)) F_is_column bt BC_is_name BC_are_different BC_is_worth g_MOST_WORTHS
  have BC_is_column : Cal ol.prog w K mg base 2 "is_column" ["value"] (sp_is_column K (clOf C_Menu)) := ⟨_, _, o_is_column, PySem.W.mg_of X G a_is_column, k_is_column, b_is_column⟩
  have o_kinds_of := ok_kinds_of (P := ol.prog) (w := w) (base := base) (C := (clOf C_Menu)) F_kinds_of bt 
  have BC_kinds_of : Cal ol.prog w K mg base 1 "kinds_of" ["columns"] (sp_kinds_of K (clOf C_Menu)) := ⟨_, _, o_kinds_of, PySem.W.mg_of X G a_kinds_of, k_kinds_of, b_kinds_of⟩
  have o_are_columns := ok_are_columns (P := ol.prog) (w := w) (base := base) (C := (clOf C_Menu)) F_are_columns bt BC_are_different BC_is_column BC_kinds_of g_MOST_COLUMNS g_MOST_KINDS
  have BC_are_columns : Cal ol.prog w K mg base 3 "are_columns" ["value"] (sp_are_columns K (clOf C_Menu)) := ⟨_, _, o_are_columns, PySem.W.mg_of X G a_are_columns, k_are_columns, b_are_columns⟩
  have o_Menu_init := ok_Menu_init (P := ol.prog) (w := w) (base := base) (C := (clOf C_Menu)) F_Menu_init bt BC_are_columns BC_kinds_of cl_Menu n_Menu_own_columns n_Menu_own_kinds
  have BM_Menu_init : MakC ol.prog w K mg base 4 ((clOf C_Menu) "Menu") "Menu" ["self", "columns"] (sp_Menu_init K (clOf C_Menu)) := ⟨_, _, o_Menu_init, ⟨mkMenu, a_Menu_init, i_Menu_init, kcMenu⟩, gCMenu, b_Menu_init⟩
  have o_Menu_read := ok_Menu_read (P := ol.prog) (w := w) (base := base) (C := (clOf C_Menu)) F_Menu_read bt BC_are_columns BM_Menu_init
  have BK_Menu_read : CmC ol.prog w K mg base 6 ((clOf C_Menu) "Menu") "Menu" "read" ["cls", "text"] (sp_Menu_read K (clOf C_Menu)) := ⟨_, _, mc_Menu_read, _, o_Menu_read, gCMenu, ⟨rd_Menu_read, ga_Menu_read⟩, ⟨a_Menu_read, ⟨_, r_Menu_read⟩, fi_Menu_read⟩, b_Menu_read⟩
  have o_law_menu_text := ok_law_menu_text (P := ol.prog) (w := w) (base := base) (C := (clOf C_Menu)) F_law_menu_text bt 
  have BC_law_menu_text : Cal ol.prog w K mg base 1 "_law_menu_text" ["_law_plain"] (sp_law_menu_text K (clOf C_Menu)) := ⟨_, _, o_law_menu_text, PySem.W.mg_of X G a_law_menu_text, k_law_menu_text, b_law_menu_text⟩
  have o_law_made_menu := ok_law_made_menu (P := ol.prog) (w := w) (base := base) (C := (clOf C_Menu)) F_law_made_menu bt BK_Menu_read BC_law_menu_text BM_Menu_init
  have BC_law_made_menu : Cal ol.prog w K mg base 7 "_law_made_menu" ["_law_plain"] (sp_law_made_menu K (clOf C_Menu)) := ⟨_, _, o_law_made_menu, PySem.W.mg_of X G a_law_made_menu, k_law_made_menu, b_law_made_menu⟩
  have o_law_kinds := ok_law_kinds (P := ol.prog) (w := w) (base := base) (C := (clOf C_Menu)) F_law_kinds bt 
  have BC_law_kinds : Cal ol.prog w K mg base 1 "_law_kinds" ["_law_plain"] (sp_law_kinds K (clOf C_Menu)) := ⟨_, _, o_law_kinds, PySem.W.mg_of X G a_law_kinds, k_law_kinds, b_law_kinds⟩
  have o_Menu_len := ok_Menu_len (P := ol.prog) (w := w) (base := base) (C := (clOf C_Menu)) F_Menu_len bt cl_Menu n_Menu_own_kinds
  have BL_Menu_len : OwnC ol.prog w K mg base 1 ((clOf C_Menu) "Menu") "__len__" ["self"] (sp_Menu_len K (clOf C_Menu)) := ⟨_, _, o_Menu_len, a_Menu_len, i_Menu_len, b_Menu_len⟩
  have o_Menu_kinds := ok_Menu_kinds (P := ol.prog) (w := w) (base := base) (C := (clOf C_Menu)) F_Menu_kinds bt cl_Menu n_Menu_own_kinds
  have BP_Menu_kinds : PropC ol.prog w K mg base 1 ((clOf C_Menu) "Menu") "kinds" (sp_Menu_kinds K (clOf C_Menu)) := ⟨_, _, _, o_Menu_kinds, cl_Menu, ⟨a_Menu_kinds, g_Menu_kinds, t_Menu_kinds, ⟨_, r_Menu_kinds⟩⟩, b_Menu_kinds⟩
  have o_Menu_contains := ok_Menu_contains (P := ol.prog) (w := w) (base := base) (C := (clOf C_Menu)) F_Menu_contains bt cl_Menu n_Menu_own_kinds
  have BO_Menu_contains : OwnC ol.prog w K mg base 1 ((clOf C_Menu) "Menu") "__contains__" ["self", "kind"] (sp_Menu_contains K (clOf C_Menu)) := ⟨_, _, o_Menu_contains, a_Menu_contains, i_Menu_contains, b_Menu_contains⟩
  have o_Menu_place := ok_Menu_place (P := ol.prog) (w := w) (base := base) (C := (clOf C_Menu)) F_Menu_place bt BO_Menu_contains cl_Menu n_Menu_own_kinds
  have BH_Menu_place : MetC ol.prog w K mg base 2 ((clOf C_Menu) "Menu") "place" ["self", "kind"] (sp_Menu_place K (clOf C_Menu)) := ⟨_, _, o_Menu_place, cl_Menu, ⟨a_Menu_place, i_Menu_place, k_Menu_place⟩, b_Menu_place⟩
  have o_Menu_columns := ok_Menu_columns (P := ol.prog) (w := w) (base := base) (C := (clOf C_Menu)) F_Menu_columns bt cl_Menu n_Menu_own_columns
  have BP_Menu_columns : PropC ol.prog w K mg base 1 ((clOf C_Menu) "Menu") "columns" (sp_Menu_columns K (clOf C_Menu)) := ⟨_, _, _, o_Menu_columns, cl_Menu, ⟨a_Menu_columns, g_Menu_columns, t_Menu_columns, ⟨_, r_Menu_columns⟩⟩, b_Menu_columns⟩
  have o_Menu_text := ok_Menu_text (P := ol.prog) (w := w) (base := base) (C := (clOf C_Menu)) F_Menu_text bt cl_Menu n_Menu_own_columns
  have BH_Menu_text : MetC ol.prog w K mg base 1 ((clOf C_Menu) "Menu") "text" ["self"] (sp_Menu_text K (clOf C_Menu)) := ⟨_, _, o_Menu_text, cl_Menu, ⟨a_Menu_text, i_Menu_text, k_Menu_text⟩, b_Menu_text⟩
  have o_law_menu_right := ok_law_menu_right (P := ol.prog) (w := w) (base := base) (C := (clOf C_Menu)) F_law_menu_right bt BC_law_kinds BC_law_mixed_spMixedInt BL_Menu_len BP_Menu_kinds BH_Menu_place BP_Menu_columns BH_Menu_text BC_law_menu_text BO_Menu_contains
  have BC_law_menu_right : Cal ol.prog w K mg base 3 "_law_menu_right" ["_law_bag_here", "_law_menu_here", "_law_plain"] (sp_law_menu_right K (clOf C_Menu)) := ⟨_, _, o_law_menu_right, PySem.W.mg_of X G a_law_menu_right, k_law_menu_right, b_law_menu_right⟩
  have o_Menu_same := ok_Menu_same (P := ol.prog) (w := w) (base := base) (C := (clOf C_Menu)) F_Menu_same bt cl_Menu n_Menu_own_columns
  have BH_Menu_same : MetC ol.prog w K mg base 1 ((clOf C_Menu) "Menu") "same" ["self", "other"] (sp_Menu_same K (clOf C_Menu)) := ⟨_, _, o_Menu_same, cl_Menu, ⟨a_Menu_same, i_Menu_same, k_Menu_same⟩, b_Menu_same⟩
  have o_law_near := ok_law_near (P := ol.prog) (w := w) (base := base) (C := (clOf C_Menu)) F_law_near bt BC_law_draw
  have BC_law_near : Cal ol.prog w K mg base 2 "_law_near" ["_law_bag_here", "_law_plain"] (sp_law_near K (clOf C_Menu)) := ⟨_, _, o_law_near, PySem.W.mg_of X G a_law_near, k_law_near, b_law_near⟩
  exact ok_law (P := ol.prog) (w := w) (base := base) (C := (clOf C_Menu)) F_law bt BC_law_bag BC_law_menu BC_law_made_menu BM_Menu_init BC_law_menu_right BP_Menu_columns BK_Menu_read BH_Menu_text BH_Menu_same BC_law_near
theorem walk {ol : PySem.W.OpenLaw} {q : Program} {loose : List Str} {XP : (Str → Option Value) → Heap → Prop} {YP : World → Heap → Prop} {d : DefRec} {KK : Params → PySem.W.Frag} (hn : ol.most = some 63) (hdf : d.params.defaults = []) (hY : ∀ (w : World) (h : Heap), YP w h → (KK w.params).In h)
    (F : ∀ (w : World) (mg : Str → Option Value) (fa : Addr) (h : Heap), (KK w.params).In h → h.Ns mainGlobals mg → mg d.name = some (.ref fa) →
      ∃ fd : FuncData, (∀ (s : Shared) (u : Value), BindsTo s fd ⟨[u], []⟩ [("_law_script", u)]) ∧ ∀ base : Heap, (KK w.params).In base → base.Ns mainGlobals mg → FnOk ol.prog w (KK w.params) mg base CX0 8 fa fd ["_law_script"] (sp_lawE (KK w.params))) :
    PySem.W.WalkO q loose XP YP ol.row.toRowW d [] (fun f vs => PySem.call f vs) :=
  L2.walk_of (n := 63) (k := 8) (x := "_law_script") (CX := fun _ => CX0) (sp := fun w => sp_lawE (KK w.params)) hn (by decide) hdf ⟨rfl, by decide, by decide⟩ hY F (fun _ _ a ns hl _ hS => ⟨a, ns, rfl, hS, hl, fun _ => rfl⟩) fun _ _ _ _ _ z => z
end RG

open PySem PySem.W PyProof.Rows in
set_option maxRecDepth 100000 in
set_option maxHeartbeats 0 in
theorem PySem.Challenge.cw_rowsgone_k15_menus_and_their_texts_holds : PySem.Challenge.rw_rowsgone_k15_menus_and_their_texts.Holds := by
  w_on; o_law; k_head; (case hw => w_witness2)
  k_fill
  refine RG.walk (ol := PySem.Challenge.rw_rowsgone_k15_menus_and_their_texts) rfl rfl (fun w h Y => PySem.W.kIn_of Y) ?F
  case F =>
    intro w mg fa h KX G hmg
    refine' RG.all_mk KX G hmg ?aCMenu ?a_law_bag ?l_law_bag ?c_law_bag ?k_law_bag ?a_law_draw ?l_law_draw ?c_law_draw ?k_law_draw ?a_law_pick ?l_law_pick ?c_law_pick ?k_law_pick ?a_law_names ?l_law_names ?c_law_names ?k_law_names ?a_law_mixed ?l_law_mixed ?c_law_mixed ?k_law_mixed ?a_law_product ?l_law_product ?c_law_product ?k_law_product ?a_law_menu ?l_law_menu ?c_law_menu ?k_law_menu ?a_are_different ?l_are_different ?c_are_different ?k_are_different ?a_is_name ?l_is_name ?c_is_name ?k_is_name ?a_is_worth ?l_is_worth ?c_is_worth ?k_is_worth ?a_is_column ?l_is_column ?c_is_column ?k_is_column ?a_kinds_of ?l_kinds_of ?c_kinds_of ?k_kinds_of ?a_are_columns ?l_are_columns ?c_are_columns ?k_are_columns ?a_Menu_init ?i_Menu_init ?l_Menu_init ?c_Menu_init ?k_Menu_init ?m_Menu_read ?rd_Menu_read ?ga_Menu_read ?a_Menu_read ?r_Menu_read ?fi_Menu_read ?l_Menu_read ?c_Menu_read ?k_Menu_read ?a_law_menu_text ?l_law_menu_text ?c_law_menu_text ?k_law_menu_text ?a_law_made_menu ?l_law_made_menu ?c_law_made_menu ?k_law_made_menu ?a_law_kinds ?l_law_kinds ?c_law_kinds ?k_law_kinds ?a_Menu_len ?i_Menu_len ?l_Menu_len ?c_Menu_len ?k_Menu_len ?a_Menu_kinds ?g_Menu_kinds ?t_Menu_kinds ?r_Menu_kinds ?l_Menu_kinds ?c_Menu_kinds ?k_Menu_kinds ?a_Menu_contains ?i_Menu_contains ?l_Menu_contains ?c_Menu_contains ?k_Menu_contains ?a_Menu_place ?i_Menu_place ?l_Menu_place ?c_Menu_place ?k_Menu_place ?a_Menu_columns ?g_Menu_columns ?t_Menu_columns ?r_Menu_columns ?l_Menu_columns ?c_Menu_columns ?k_Menu_columns ?a_Menu_text ?i_Menu_text ?l_Menu_text ?c_Menu_text ?k_Menu_text ?a_law_menu_right ?l_law_menu_right ?c_law_menu_right ?k_law_menu_right ?a_Menu_same ?i_Menu_same ?l_Menu_same ?c_Menu_same ?k_Menu_same ?a_law_near ?l_law_near ?c_law_near ?k_law_near ?a_law ?l_law ?c_law ?k_law ?pgMenu ?hdMenu ?poMenu ?saMenu ?mkMenu ?kcMenu ?n_Menu_own_columns ?n_Menu_own_kinds ?z_len ?z_isinstance ?z_str ?z_int ?z_list ?z_tuple ?z_all ?z_any ?z_range ?z_abs ?z_max ?z_enumerate ?z_set ?y_DIGITS ?y_LETTERS ?y_LONGEST ?y_MOST_COLUMNS ?y_MOST_KINDS ?y_MOST_WORTHS
    (case aCMenu => k_is)
    (case a_law_bag => k_is)
    (case l_law_bag => k_is)
    (case c_law_bag => k_is)
    (case k_law_bag => k_is)
    (case a_law_draw => k_is)
    (case l_law_draw => k_is)
    (case c_law_draw => k_is)
    (case k_law_draw => k_is)
    (case a_law_pick => k_is)
    (case l_law_pick => k_is)
    (case c_law_pick => k_is)
    (case k_law_pick => k_is)
    (case a_law_names => k_is)
    (case l_law_names => k_is)
    (case c_law_names => k_is)
    (case k_law_names => k_is)
    (case a_law_mixed => k_is)
    (case l_law_mixed => k_is)
    (case c_law_mixed => k_is)
    (case k_law_mixed => k_is)
    (case a_law_product => k_is)
    (case l_law_product => k_is)
    (case c_law_product => k_is)
    (case k_law_product => k_is)
    (case a_law_menu => k_is)
    (case l_law_menu => k_is)
    (case c_law_menu => k_is)
    (case k_law_menu => k_is)
    (case a_are_different => k_is)
    (case l_are_different => k_is)
    (case c_are_different => k_is)
    (case k_are_different => k_is)
    (case a_is_name => k_is)
    (case l_is_name => k_is)
    (case c_is_name => k_is)
    (case k_is_name => k_is)
    (case a_is_worth => k_is)
    (case l_is_worth => k_is)
    (case c_is_worth => k_is)
    (case k_is_worth => k_is)
    (case a_is_column => k_is)
    (case l_is_column => k_is)
    (case c_is_column => k_is)
    (case k_is_column => k_is)
    (case a_kinds_of => k_is)
    (case l_kinds_of => k_is)
    (case c_kinds_of => k_is)
    (case k_kinds_of => k_is)
    (case a_are_columns => k_is)
    (case l_are_columns => k_is)
    (case c_are_columns => k_is)
    (case k_are_columns => k_is)
    (case a_Menu_init => k_is)
    (case i_Menu_init => k_is)
    (case l_Menu_init => k_is)
    (case c_Menu_init => k_is)
    (case k_Menu_init => k_is)
    (case m_Menu_read => k_is)
    (case rd_Menu_read => k_is)
    (case ga_Menu_read => k_is)
    (case a_Menu_read => k_is)
    (case r_Menu_read => k_is)
    (case fi_Menu_read => k_is)
    (case l_Menu_read => k_is)
    (case c_Menu_read => k_is)
    (case k_Menu_read => k_is)
    (case a_law_menu_text => k_is)
    (case l_law_menu_text => k_is)
    (case c_law_menu_text => k_is)
    (case k_law_menu_text => k_is)
    (case a_law_made_menu => k_is)
    (case l_law_made_menu => k_is)
    (case c_law_made_menu => k_is)
    (case k_law_made_menu => k_is)
    (case a_law_kinds => k_is)
    (case l_law_kinds => k_is)
    (case c_law_kinds => k_is)
    (case k_law_kinds => k_is)
    (case a_Menu_len => k_is)
    (case i_Menu_len => k_is)
    (case l_Menu_len => k_is)
    (case c_Menu_len => k_is)
    (case k_Menu_len => k_is)
    (case a_Menu_kinds => k_is)
    (case g_Menu_kinds => k_is)
    (case t_Menu_kinds => k_is)
    (case r_Menu_kinds => k_is)
    (case l_Menu_kinds => k_is)
    (case c_Menu_kinds => k_is)
    (case k_Menu_kinds => k_is)
    (case a_Menu_contains => k_is)
    (case i_Menu_contains => k_is)
    (case l_Menu_contains => k_is)
    (case c_Menu_contains => k_is)
    (case k_Menu_contains => k_is)
    (case a_Menu_place => k_is)
    (case i_Menu_place => k_is)
    (case l_Menu_place => k_is)
    (case c_Menu_place => k_is)
    (case k_Menu_place => k_is)
    (case a_Menu_columns => k_is)
    (case g_Menu_columns => k_is)
    (case t_Menu_columns => k_is)
    (case r_Menu_columns => k_is)
    (case l_Menu_columns => k_is)
    (case c_Menu_columns => k_is)
    (case k_Menu_columns => k_is)
    (case a_Menu_text => k_is)
    (case i_Menu_text => k_is)
    (case l_Menu_text => k_is)
    (case c_Menu_text => k_is)
    (case k_Menu_text => k_is)
    (case a_law_menu_right => k_is)
    (case l_law_menu_right => k_is)
    (case c_law_menu_right => k_is)
    (case k_law_menu_right => k_is)
    (case a_Menu_same => k_is)
    (case i_Menu_same => k_is)
    (case l_Menu_same => k_is)
    (case c_Menu_same => k_is)
    (case k_Menu_same => k_is)
    (case a_law_near => k_is)
    (case l_law_near => k_is)
    (case c_law_near => k_is)
    (case k_law_near => k_is)
    (case a_law => k_is)
    (case l_law => k_is)
    (case c_law => k_is)
    (case k_law => k_is)
    (case pgMenu => k_is)
    (case hdMenu => k_is)
    (case poMenu => k_is)
    (case saMenu => k_is)
    (case mkMenu => k_is)
    (case kcMenu => k_is)
    (case n_Menu_own_columns => k_is)
    (case n_Menu_own_kinds => k_is)
    (case z_len => k_is)
    (case z_isinstance => k_is)
    (case z_str => k_is)
    (case z_int => k_is)
    (case z_list => k_is)
    (case z_tuple => k_is)
    (case z_all => k_is)
    (case z_any => k_is)
    (case z_range => k_is)
    (case z_abs => k_is)
    (case z_max => k_is)
    (case z_enumerate => k_is)
    (case z_set => k_is)
    (case y_DIGITS => k_is)
    (case y_LETTERS => k_is)
    (case y_LONGEST => k_is)
    (case y_MOST_COLUMNS => k_is)
    (case y_MOST_KINDS => k_is)
    (case y_MOST_WORTHS => k_is)
